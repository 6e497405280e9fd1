import PyProof.Rows.All
import Wide.All
import OpenK.AllK
import Wide.FinOn
import HandS.ForMost
import HandS.Exc
import HandS.TryOnly
import HandS.ExcOwn
import HandS.WordsExc
import HandS.CallSlots
import HandS.IsInst
import HandS.Conv
import HandS.Style
import HandS.Defaults
import HandS.Text
import HandS.Iter
import HandS.Steps
import HandS.ExcIs
import HandS.HeadHook2
import HandS.Lambda
import KE.KStateDown
import HandS.Head0
import HandS.Head1
import HandS.Head2
import HandS.HeadEnd
import HandS.HeadHook1
import PySem.Challenge.RW_chalkcave_k08_texts_that_write_no_way
set_option Elab.async false
set_option linter.all false
set_option maxRecDepth 100000
set_option maxHeartbeats 8000000
namespace Mv
open PySem L2

/-- where the classes stand; what the top has written -/
structure Nv where
  ad : String → Addr
  K : PySem.W.Frag
instance : CoeFun Nv (fun _ => String → Addr) := ⟨Nv.ad⟩
/-! ### data without addresses -/
inductive D where
  | non
  | bl (b : Bool)
  | int (i : Int)
  | str (s : Str)
  | lst (ds : List D)
  | tup (ds : List D)
  | dct (kvs : List (Key × D))
  | dctT (kvs : List (List Key × D))
  | ins (c : String) (fs : List (Str × D))

/-- data that is never written and holds no list -/
def imm : D → Bool
  | .non => true
  | .bl _ => true
  | .int _ => true
  | .str _ => true
  | .tup ds => immL ds
  | _ => false
where immL : List D → Bool
  | [] => true
  | d :: ds => imm d && immL ds
abbrev immL := imm.immL

variable (cl : Nv)
mutual
inductive Rep (H : Hp) (P : Addr → Prop) : D → V → Prop
  | non : Rep H P .non .non
  | bl (b) : Rep H P (.bl b) (.bl b)
  | int (i) : Rep H P (.int i) (.int i)
  | str (s) : Rep H P (.str s) (.str s)
  | lst {p vs ds} : H p = some (.lst vs) → P p → RepL H P ds vs → Rep H P (.lst ds) (.ref p)
  | tup {p vs ds} : H p = some (.tup vs) → RepL H P ds vs → Rep H P (.tup ds) (.ref p)
  | dct {p kvs kds} : H p = some (.dK kvs) → P p → RepK H P kds kvs → Rep H P (.dct kds) (.ref p)
  | dctT {p kvs kds} : H p = some (.dT kvs) → P p → RepT H P kds kvs → Rep H P (.dctT kds) (.ref p)
  | ins {p c dx fs fds} : H p = some (.ins (cl c) dx fs) → P p → RepF H P fds fs → Rep H P (.ins c fds) (.ref p)
inductive RepL (H : Hp) (P : Addr → Prop) : List D → List V → Prop
  | nil : RepL H P [] []
  | cons {d v ds vs} : Rep H P d v → RepL H P ds vs → RepL H P (d :: ds) (v :: vs)
inductive RepK (H : Hp) (P : Addr → Prop) : List (Key × D) → List (Key × V) → Prop
  | nil : RepK H P [] []
  | cons {k d v ds vs} : Rep H P d v → RepK H P ds vs → RepK H P ((k, d) :: ds) ((k, v) :: vs)
inductive RepT (H : Hp) (P : Addr → Prop) : List (List Key × D) → List (List Key × V) → Prop
  | nil : RepT H P [] []
  | cons {k d v ds vs} : Rep H P d v → RepT H P ds vs → RepT H P ((k, d) :: ds) ((k, v) :: vs)
inductive RepF (H : Hp) (P : Addr → Prop) : List (Str × D) → List (Str × V) → Prop
  | nil : RepF H P [] []
  | cons {k d v ds vs} : Rep H P d v → RepF H P ds vs → RepF H P ((k, d) :: ds) ((k, v) :: vs)
end
variable {cl : Nv}
section
variable {H H' : Hp} {P P' : Addr → Prop}
mutual
theorem Rep.mono (g : ∀ a o, H a = some o → P a → H' a = some o ∧ P' a) (t : ∀ a xs, H a = some (.tup xs) → H' a = some (.tup xs)) : ∀ {d : D} {v : V}, Rep cl H P d v → Rep cl H' P' d v
  | _, _, .non => .non
  | _, _, .bl b => .bl b
  | _, _, .int b => .int b
  | _, _, .str b => .str b
  | _, _, .lst h p r => .lst (g _ _ h p).1 (g _ _ h p).2 (RepL.mono g t r)
  | _, _, .tup h r => .tup (t _ _ h) (RepL.mono g t r)
  | _, _, .dct h p r => .dct (g _ _ h p).1 (g _ _ h p).2 (RepK.mono g t r)
  | _, _, .dctT h p r => .dctT (g _ _ h p).1 (g _ _ h p).2 (RepT.mono g t r)
  | _, _, .ins h p r => .ins (g _ _ h p).1 (g _ _ h p).2 (RepF.mono g t r)
theorem RepL.mono (g : ∀ a o, H a = some o → P a → H' a = some o ∧ P' a) (t : ∀ a xs, H a = some (.tup xs) → H' a = some (.tup xs)) : ∀ {d : List D} {v : List V}, RepL cl H P d v → RepL cl H' P' d v
  | _, _, .nil => .nil
  | _, _, .cons a b => .cons (Rep.mono g t a) (RepL.mono g t b)
theorem RepK.mono (g : ∀ a o, H a = some o → P a → H' a = some o ∧ P' a) (t : ∀ a xs, H a = some (.tup xs) → H' a = some (.tup xs)) : ∀ {d : List (Key × D)} {v : List (Key × V)}, RepK cl H P d v → RepK cl H' P' d v
  | _, _, .nil => .nil
  | _, _, .cons a b => .cons (Rep.mono g t a) (RepK.mono g t b)
theorem RepT.mono (g : ∀ a o, H a = some o → P a → H' a = some o ∧ P' a) (t : ∀ a xs, H a = some (.tup xs) → H' a = some (.tup xs)) : ∀ {d : List (List Key × D)} {v : List (List Key × V)}, RepT cl H P d v → RepT cl H' P' d v
  | _, _, .nil => .nil
  | _, _, .cons a b => .cons (Rep.mono g t a) (RepT.mono g t b)
theorem RepF.mono (g : ∀ a o, H a = some o → P a → H' a = some o ∧ P' a) (t : ∀ a xs, H a = some (.tup xs) → H' a = some (.tup xs)) : ∀ {d : List (Str × D)} {v : List (Str × V)}, RepF cl H P d v → RepF cl H' P' d v
  | _, _, .nil => .nil
  | _, _, .cons a b => .cons (Rep.mono g t a) (RepF.mono g t b)
end
theorem Rep.same (s : Same H H') {d : D} {v : V} (h : Rep cl H P d v) (q : ∀ a, P a → P' a) : Rep cl H' P' d v := h.mono (fun a o e p => ⟨s a o e, q a p⟩) fun a xs e => s a _ e
theorem RepL.same (s : Same H H') {d : List D} {v : List V} (h : RepL cl H P d v) (q : ∀ a, P a → P' a) : RepL cl H' P' d v := h.mono (fun a o e p => ⟨s a o e, q a p⟩) fun a xs e => s a _ e
theorem Rep.any {d : D} {v : V} (h : Rep cl H P d v) (q : ∀ a, P a → P' a) : Rep cl H P' d v := h.same (Same.refl H) q
theorem RepL.any {d : List D} {v : List V} (h : RepL cl H P d v) (q : ∀ a, P a → P' a) : RepL cl H P' d v := h.same (Same.refl H) q
mutual
theorem Rep.im : ∀ {d : D} {v : V}, imm d = true → Rep cl H P d v → Rep cl H P' d v
  | _, _, _, .non => .non
  | _, _, _, .bl b => .bl b
  | _, _, _, .int b => .int b
  | _, _, _, .str b => .str b
  | _, _, i, .lst h p r => nomatch i
  | _, _, i, .tup h r => .tup h (RepL.im i r)
  | _, _, i, .dct h p r => nomatch i
  | _, _, i, .dctT h p r => nomatch i
  | _, _, i, .ins h p r => nomatch i
theorem RepL.im : ∀ {d : List D} {v : List V}, immL d = true → RepL cl H P d v → RepL cl H P' d v
  | _, _, _, .nil => .nil
  | d :: ds, _, i, .cons a b => by
    have e : (imm d && immL ds) = true := i
    rw [Bool.and_eq_true] at e
    exact .cons (Rep.im e.1 a) (RepL.im e.2 b)
end
theorem RepL.length : ∀ {ds : List D} {vs : List V}, RepL cl H P ds vs → ds.length = vs.length
  | _, _, .nil => rfl
  | _, _, .cons _ r => congrArg (· + 1) (RepL.length r)
theorem RepL.get : ∀ {ds : List D} {vs : List V} {i : Nat} {d : D}, RepL cl H P ds vs → ds[i]? = some d → ∃ v, vs[i]? = some v ∧ Rep cl H P d v
  | _, _, _, _, .nil, e => by simp at e
  | _, _, 0, _, .cons r _, e => by simp at e; subst e; exact ⟨_, rfl, r⟩
  | _, _, i + 1, x, .cons _ t, e => by
    obtain ⟨u, h1, h2⟩ := RepL.get (i := i) (d := x) t (by simpa using e)
    exact ⟨u, by simpa using h1, h2⟩
theorem RepL.getV : ∀ {ds : List D} {vs : List V} {i : Nat} {v : V}, RepL cl H P ds vs → vs[i]? = some v → ∃ d, ds[i]? = some d ∧ Rep cl H P d v
  | _, _, _, _, .nil, e => by simp at e
  | _, _, 0, _, .cons r _, e => by simp at e; subst e; exact ⟨_, rfl, r⟩
  | _, _, i + 1, x, .cons _ t, e => by
    obtain ⟨u, h1, h2⟩ := RepL.getV (i := i) (v := x) t (by simpa using e)
    exact ⟨u, by simpa using h1, h2⟩
theorem RepL.append : ∀ {ds es : List D} {vs ws : List V}, RepL cl H P ds vs → RepL cl H P es ws → RepL cl H P (ds ++ es) (vs ++ ws)
  | _, _, _, _, .nil, s => s
  | _, _, _, _, .cons r t, s => .cons r (RepL.append t s)
theorem RepL.take : ∀ {ds : List D} {vs : List V} (n : Nat), RepL cl H P ds vs → RepL cl H P (ds.take n) (vs.take n)
  | _, _, 0, _ => .nil
  | _, _, _ + 1, .nil => .nil
  | _, _, n + 1, .cons r t => .cons r (RepL.take n t)
theorem RepL.drop : ∀ {ds : List D} {vs : List V} (n : Nat), RepL cl H P ds vs → RepL cl H P (ds.drop n) (vs.drop n)
  | _, _, 0, r => r
  | _, _, _ + 1, .nil => .nil
  | _, _, n + 1, .cons _ t => RepL.drop n t
theorem RepL.set {d : D} {v : V} (r : Rep cl H P d v) : ∀ {ds : List D} {vs : List V} (i : Nat), RepL cl H P ds vs → RepL cl H P (ds.set i d) (vs.set i v)
  | _, _, _, .nil => .nil
  | _, _, 0, .cons _ t => .cons r t
  | _, _, i + 1, .cons q t => .cons q (RepL.set r i t)
theorem RepL.eraseIdx : ∀ {ds : List D} {vs : List V} (i : Nat), RepL cl H P ds vs → RepL cl H P (ds.eraseIdx i) (vs.eraseIdx i)
  | _, _, _, .nil => .nil
  | _, _, 0, .cons _ t => t
  | _, _, i + 1, .cons q t => .cons q (RepL.eraseIdx i t)
theorem RepL.reverse : ∀ {ds : List D} {vs : List V}, RepL cl H P ds vs → RepL cl H P ds.reverse vs.reverse
  | _, _, .nil => .nil
  | _, _, .cons (d := d) (v := v) q t => by
    rw [List.reverse_cons, List.reverse_cons]
    exact (RepL.reverse t).append (.cons q .nil)
theorem RepL.dropLast : ∀ {ds : List D} {vs : List V}, RepL cl H P ds vs → RepL cl H P ds.dropLast vs.dropLast := fun {ds vs} r => by
  rw [List.dropLast_eq_take, List.dropLast_eq_take, r.length]
  exact r.take _
theorem RepF.lookup {f : Str} : ∀ {ds : List (Str × D)} {vs : List (Str × V)}, RepF cl H P ds vs → (∀ d, ds.lookup f = some d → ∃ v, vs.lookup f = some v ∧ Rep cl H P d v) ∧ (ds.lookup f = none → vs.lookup f = none)
  | _, _, .nil => ⟨fun d h => by simp at h, fun _ => rfl⟩
  | (k, d) :: ds, (_, v) :: vs, .cons r t => by
    obtain ⟨h1, h2⟩ := RepF.lookup t
    by_cases e : f = k
    · subst e
      simp only [List.lookup, beq_self_eq_true]
      exact ⟨fun d' h => by injection h with h; subst h; exact ⟨v, rfl, r⟩, fun h => by cases h⟩
    · have e' : (f == k) = false := by simpa using e
      simp only [List.lookup, e']
      exact ⟨h1, h2⟩
theorem RepF.length : ∀ {ds : List (Str × D)} {vs : List (Str × V)}, RepF cl H P ds vs → ds.length = vs.length
  | _, _, .nil => rfl
  | _, _, .cons _ r => congrArg (· + 1) (RepF.length r)
def putD (f : Str) (d : D) : List (Str × D) → List (Str × D)
  | [] => [(f, d)]
  | (g, e) :: r => if g = f then (g, d) :: r else (g, e) :: putD f d r
end
end Mv

namespace Mv
open PySem L2

/-! ### labels, modes, states -/
/-- whose an object is: a caller's (read only), a slot's own, a slot's lent one -/
inductive Lb where
  | fo
  | ow (i part : Nat)
  | bo (i part : Nat)
  deriving DecidableEq
abbrev Om := Addr → Option Lb
abbrev Fz (w : Om) : Addr → Prop := fun a => w a = none
abbrev Lf (w : Om) : Addr → Prop := fun a => w a = none ∨ w a = some .fo
abbrev An : Addr → Prop := fun _ => True
inductive Kd where
  | l1 | l2 | d1 | t1 | i1 | n1 | t2
  deriving DecidableEq
inductive Mo where
  | un | pu | lo | sc | ow (k : Kd) | bo (k : Kd)
  deriving DecidableEq
variable {cl : Nv}
/-- an object with its parts, each with its label; what it holds is frozen -/
def OwnK (cl : Nv) (H : Hp) (w : Om) (top inner : Lb) : Kd → D → V → Prop
  | .l1, d, v => ∃ p vs ds, v = .ref p ∧ d = .lst ds ∧ H p = some (.lst vs) ∧ w p = some top ∧ RepL cl H (Fz w) ds vs
  | .l2, d, v => ∃ (p : Addr) (as : List Addr) (dss : List (List D)), v = .ref p ∧ d = .lst (dss.map D.lst) ∧ H p = some (.lst (as.map V.ref)) ∧ w p = some top ∧ as.Nodup ∧ as.length = dss.length ∧
      ∀ (j : Nat) (a : Addr) (ds : List D), as[j]? = some a → dss[j]? = some ds → ∃ vs, H a = some (.lst vs) ∧ w a = some inner ∧ RepL cl H (Fz w) ds vs
  | .d1, d, v => ∃ p kvs kds, v = .ref p ∧ d = .dct kds ∧ H p = some (.dK kvs) ∧ w p = some top ∧ RepK cl H (Fz w) kds kvs
  | .t1, d, v => ∃ p kvs kds, v = .ref p ∧ d = .dctT kds ∧ H p = some (.dT kvs) ∧ w p = some top ∧ RepT cl H (Fz w) kds kvs
  | .i1, d, v => ∃ p c dx fs fds, v = .ref p ∧ d = .ins c fds ∧ H p = some (.ins (cl c) dx fs) ∧ w p = some top ∧ RepF cl H (Fz w) fds fs
  | .n1, d, v => (v = .non ∧ d = .non) ∨ ∃ p vs ds, v = .ref p ∧ d = .lst ds ∧ H p = some (.lst vs) ∧ w p = some top ∧ RepL cl H (Fz w) ds vs
  | .t2, d, v => ∃ p a b vs us ds es, v = .ref p ∧ d = .tup [.lst ds, .lst es] ∧ H p = some (.tup [.ref a, .ref b]) ∧ H a = some (.lst vs) ∧ w a = some top ∧ RepL cl H (Fz w) ds vs ∧ H b = some (.lst us) ∧ w b = some inner ∧ RepL cl H (Fz w) es us
/-- kinds that may be lent -/
def bok : Kd → Bool
  | .n1 => false
  | .t2 => false
  | _ => true
/-- the script: read only, maybe an object of the top -/
def ScAt (cl : Nv) (H : Hp) (w : Om) (p : Addr) (ns : List Int) : Prop :=
  (Rd H p (.lst (ns.map V.int)) ∧ (w p = none ∨ w p = some .fo)) ∨ ∃ (o : Obj) (its : Array Value) (n : Nat), cl.K.lookup p = some o ∧ o.cls = .type "list" ∧ o.dict = none ∧ o.data = .seq its n ∧ its.size ≤ sizeLine ∧ Vals (ns.map V.int) its.toList
theorem ScAt.sq {cl : Nv} {H : Hp} {w : Om} {p : Addr} {ns : List Int} (h : ScAt cl H w p ns) : SqL cl.K H p (ns.map V.int) := h.elim (fun z => .inl z.1) fun z => .inr z
def Own (cl : Nv) (H : Hp) (w : Om) (i : Nat) : Mo → D → V → Prop
  | .un, _, _ => True
  | .pu, d, v => Rep cl H (Fz w) d v
  | .lo, d, v => Rep cl H (Lf w) d v
  | .sc, d, v => ∃ (p : Addr) (ns : List Int), v = .ref p ∧ d = .lst (ns.map D.int) ∧ ScAt cl H w p ns
  | .ow k, d, v => OwnK cl H w (.ow i 0) (.ow i 1) k d v
  | .bo k, d, v => bok k = true ∧ OwnK cl H w (.bo i 0) (.bo i 1) k d v
def isTup : HO → Bool
  | .tup _ => true
  | _ => false
/-- labels stand on objects, never on tuples -/
def Wf (H : Hp) (w : Om) : Prop := ∀ a l, w a = some l → ∃ o, H a = some o ∧ isTup o = false
structure StOk (cl : Nv) (H : Hp) (w : Om) (ms : List Mo) (σ : L2.St) (env : List D) : Prop where
  wf : Wf H w
  ls : σ.length = ms.length
  le : env.length = ms.length
  sl : ∀ i m, ms[i]? = some m → m ≠ .un → ∃ v d, σ[i]? = some (some v) ∧ env[i]? = some d ∧ Own cl H w i m d v

section
variable {H H' : Hp} {w w' : Om} {ms : List Mo} {σ : L2.St} {env : List D}
theorem Wf.same (h : Wf H w) (s : Same H H') : Wf H' w := fun a l e => let ⟨o, q, n⟩ := h a l e; ⟨o, s a o q, n⟩
theorem Wf.fresh (h : Wf H w) {p : Addr} (n : H p = none) : w p = none := by
  cases e : w p with
  | none => rfl
  | some l => obtain ⟨o, q, _⟩ := h p l e; rw [n] at q; cases q
theorem Wf.tup (h : Wf H w) {p : Addr} {xs : List V} (n : H p = some (.tup xs)) : w p = none := by
  cases e : w p with
  | none => rfl
  | some l => obtain ⟨o, q, z⟩ := h p l e; rw [n] at q; cases q; cases z
/-- from one state to a later one: what is frozen stays, labels stay -/
structure Keep (H : Hp) (w : Om) (H' : Hp) (w' : Om) : Prop where
  fz : ∀ a o, H a = some o → w a = none → H' a = some o ∧ w' a = none
  fo : ∀ a o, H a = some o → w a = some .fo → H' a = some o ∧ w' a = some .fo
theorem Keep.same (s : Same H H') : Keep H w H' w := ⟨fun a o e h => ⟨s a o e, h⟩, fun a o e h => ⟨s a o e, h⟩⟩
theorem Keep.trans {H1 : Hp} {w1 : Om} (a : Keep H w H1 w1) (b : Keep H1 w1 H' w') : Keep H w H' w' :=
  ⟨fun x o e h => let ⟨e1, h1⟩ := a.fz x o e h; b.fz x o e1 h1, fun x o e h => let ⟨e1, h1⟩ := a.fo x o e h; b.fo x o e1 h1⟩
theorem Keep.tup (k : Keep H w H' w') (wf : Wf H w) : ∀ a xs, H a = some (.tup xs) → H' a = some (.tup xs) := fun a xs e => (k.fz a _ e (wf.tup e)).1
theorem Keep.rep (k : Keep H w H' w') (wf : Wf H w) {d : D} {v : V} (h : Rep cl H (Fz w) d v) : Rep cl H' (Fz w') d v := h.mono (fun a o e q => k.fz a o e q) (k.tup wf)
theorem Keep.repL (k : Keep H w H' w') (wf : Wf H w) {d : List D} {v : List V} (h : RepL cl H (Fz w) d v) : RepL cl H' (Fz w') d v := h.mono (fun a o e q => k.fz a o e q) (k.tup wf)
theorem Keep.repK (k : Keep H w H' w') (wf : Wf H w) {d : List (Key × D)} {v : List (Key × V)} (h : RepK cl H (Fz w) d v) : RepK cl H' (Fz w') d v := h.mono (fun a o e q => k.fz a o e q) (k.tup wf)
theorem Keep.repT (k : Keep H w H' w') (wf : Wf H w) {d : List (List Key × D)} {v : List (List Key × V)} (h : RepT cl H (Fz w) d v) : RepT cl H' (Fz w') d v := h.mono (fun a o e q => k.fz a o e q) (k.tup wf)
theorem Keep.repF (k : Keep H w H' w') (wf : Wf H w) {d : List (Str × D)} {v : List (Str × V)} (h : RepF cl H (Fz w) d v) : RepF cl H' (Fz w') d v := h.mono (fun a o e q => k.fz a o e q) (k.tup wf)
theorem Keep.repLo (k : Keep H w H' w') (wf : Wf H w) {d : D} {v : V} (h : Rep cl H (Lf w) d v) : Rep cl H' (Lf w') d v :=
  h.mono (fun a o e q => q.elim (fun z => let ⟨x, y⟩ := k.fz a o e z; ⟨x, .inl y⟩) fun z => let ⟨x, y⟩ := k.fo a o e z; ⟨x, .inr y⟩) (k.tup wf)
/-- an owned thing goes along where its objects and labels do -/
theorem OwnK.keep {t n : Lb} {kd : Kd} {d : D} {v : V} (k : Keep H w H' w') (wf : Wf H w) (kt : ∀ a o l, (l = t ∨ l = n) → H a = some o → w a = some l → H' a = some o ∧ w' a = some l) (h : OwnK cl H w t n kd d v) : OwnK cl H' w' t n kd d v := by
  cases kd with
  | l1 =>
    obtain ⟨p, vs, ds, e1, e2, e3, e4, r⟩ := h
    obtain ⟨q1, q2⟩ := kt p _ _ (.inl rfl) e3 e4
    exact ⟨p, vs, ds, e1, e2, q1, q2, k.repL wf r⟩
  | l2 =>
    obtain ⟨p, as, dss, e1, e2, e3, e4, nd, hl, r⟩ := h
    obtain ⟨q1, q2⟩ := kt p _ _ (.inl rfl) e3 e4
    refine ⟨p, as, dss, e1, e2, q1, q2, nd, hl, fun j a ds h1 h2 => ?_⟩
    obtain ⟨vs, f1, f2, f3⟩ := r j a ds h1 h2
    obtain ⟨g1, g2⟩ := kt a _ _ (.inr rfl) f1 f2
    exact ⟨vs, g1, g2, k.repL wf f3⟩
  | d1 =>
    obtain ⟨p, vs, ds, e1, e2, e3, e4, r⟩ := h
    obtain ⟨q1, q2⟩ := kt p _ _ (.inl rfl) e3 e4
    exact ⟨p, vs, ds, e1, e2, q1, q2, k.repK wf r⟩
  | t1 =>
    obtain ⟨p, vs, ds, e1, e2, e3, e4, r⟩ := h
    obtain ⟨q1, q2⟩ := kt p _ _ (.inl rfl) e3 e4
    exact ⟨p, vs, ds, e1, e2, q1, q2, k.repT wf r⟩
  | i1 =>
    obtain ⟨p, c, dx, fs, fds, e1, e2, e3, e4, r⟩ := h
    obtain ⟨q1, q2⟩ := kt p _ _ (.inl rfl) e3 e4
    exact ⟨p, c, dx, fs, fds, e1, e2, q1, q2, k.repF wf r⟩
  | n1 =>
    rcases h with h | ⟨p, vs, ds, e1, e2, e3, e4, r⟩
    · exact .inl h
    · obtain ⟨q1, q2⟩ := kt p _ _ (.inl rfl) e3 e4
      exact .inr ⟨p, vs, ds, e1, e2, q1, q2, k.repL wf r⟩
  | t2 =>
    obtain ⟨p, a, b, vs, us, ds, es, e1, e2, e3, e4, e5, r1, e6, e7, r2⟩ := h
    obtain ⟨q1, q2⟩ := kt a _ _ (.inl rfl) e4 e5
    obtain ⟨q3, q4⟩ := kt b _ _ (.inr rfl) e6 e7
    exact ⟨p, a, b, vs, us, ds, es, e1, e2, k.tup wf _ _ e3, q1, q2, k.repL wf r1, q3, q4, k.repL wf r2⟩
theorem Own.keep {i : Nat} {m : Mo} {d : D} {v : V} (k : Keep H w H' w') (wf : Wf H w) (kt : ∀ a o x, (w a = some (.ow i x) ∨ w a = some (.bo i x)) → H a = some o → H' a = some o ∧ w' a = w a) (h : Own cl H w i m d v) : Own cl H' w' i m d v := by
  cases m with
  | un => trivial
  | pu => exact k.rep wf h
  | lo => exact k.repLo wf h
  | sc =>
    obtain ⟨p, ns, e1, e2, e3⟩ := h
    refine ⟨p, ns, e1, e2, ?_⟩
    rcases e3 with ⟨r, l⟩ | z
    · left
      have key : ∀ o, H p = some o → H' p = some o ∧ (w' p = none ∨ w' p = some .fo) := fun o e => by
        rcases l with l | l
        · exact ⟨(k.fz p o e l).1, .inl (k.fz p o e l).2⟩
        · exact ⟨(k.fo p o e l).1, .inr (k.fo p o e l).2⟩
      rcases r with r | ⟨o, r⟩
      · exact ⟨.inl (key _ r).1, (key _ r).2⟩
      · exact ⟨.inr ⟨o, (key _ r).1⟩, (key _ r).2⟩
    · exact .inr z
  | ow kd =>
    refine OwnK.keep k wf (fun a o l hl e q => ?_) h
    rcases hl with rfl | rfl <;> (obtain ⟨x, y⟩ := kt a o _ (.inl q) e; exact ⟨x, y.trans q⟩)
  | bo kd =>
    refine ⟨h.1, OwnK.keep k wf (fun a o l hl e q => ?_) h.2⟩
    rcases hl with rfl | rfl <;> (obtain ⟨x, y⟩ := kt a o _ (.inr q) e; exact ⟨x, y.trans q⟩)
/-- the heap grows -/
theorem StOk.same (h : StOk cl H w ms σ env) (s : Same H H') : StOk cl H' w ms σ env :=
  ⟨h.wf.same s, h.ls, h.le, fun i m e n => let ⟨v, d, a, b, c⟩ := h.sl i m e n; ⟨v, d, a, b, c.keep (Keep.same s) h.wf fun a o x _ q => ⟨s a o q, rfl⟩⟩⟩
end

/-! ### results -/
inductive RC where
  | pu | lo | an | fr (k : Kd)
/-- fresh against H, owned -/
def FrK (cl : Nv) (H H' : Hp) (w : Om) : Kd → D → V → Prop
  | .l1, d, v => ∃ p vs ds, v = .ref p ∧ d = .lst ds ∧ H p = none ∧ H' p = some (.lst vs) ∧ RepL cl H' (fun a => w a = none ∧ a ≠ p) ds vs
  | .l2, d, v => ∃ (p : Addr) (as : List Addr) (dss : List (List D)), v = .ref p ∧ d = .lst (dss.map D.lst) ∧ H p = none ∧ H' p = some (.lst (as.map V.ref)) ∧ as.Nodup ∧ p ∉ as ∧ as.length = dss.length ∧
      ∀ (j : Nat) (a : Addr) (ds : List D), as[j]? = some a → dss[j]? = some ds → H a = none ∧ ∃ vs, H' a = some (.lst vs) ∧ RepL cl H' (fun b => w b = none ∧ b ≠ p ∧ b ∉ as) ds vs
  | .d1, d, v => ∃ p kvs kds, v = .ref p ∧ d = .dct kds ∧ H p = none ∧ H' p = some (.dK kvs) ∧ RepK cl H' (fun a => w a = none ∧ a ≠ p) kds kvs
  | .t1, d, v => ∃ p kvs kds, v = .ref p ∧ d = .dctT kds ∧ H p = none ∧ H' p = some (.dT kvs) ∧ RepT cl H' (fun a => w a = none ∧ a ≠ p) kds kvs
  | .i1, d, v => ∃ p c dx fs fds, v = .ref p ∧ d = .ins c fds ∧ H p = none ∧ H' p = some (.ins (cl c) dx fs) ∧ RepF cl H' (fun a => w a = none ∧ a ≠ p) fds fs
  | .n1, d, v => (v = .non ∧ d = .non) ∨ ∃ p vs ds, v = .ref p ∧ d = .lst ds ∧ H p = none ∧ H' p = some (.lst vs) ∧ RepL cl H' (fun a => w a = none ∧ a ≠ p) ds vs
  | .t2, d, v => ∃ p a b vs us ds es, v = .ref p ∧ d = .tup [.lst ds, .lst es] ∧ H' p = some (.tup [.ref a, .ref b]) ∧ a ≠ b ∧ H a = none ∧ H' a = some (.lst vs) ∧ RepL cl H' (fun x => w x = none ∧ x ≠ a ∧ x ≠ b) ds vs ∧ H b = none ∧ H' b = some (.lst us) ∧ RepL cl H' (fun x => w x = none ∧ x ≠ a ∧ x ≠ b) es us
def Res (cl : Nv) (H H' : Hp) (w : Om) : RC → D → V → Prop
  | .pu, d, v => Rep cl H' (Fz w) d v
  | .lo, d, v => Rep cl H' (Lf w) d v
  | .an, d, v => Rep cl H' An d v
  | .fr k, d, v => FrK cl H H' w k d v
section
variable {H H1 H' : Hp} {w : Om} {d : D} {v : V}
theorem FrK.same {k : Kd} (s : Same H1 H') (h : FrK cl H H1 w k d v) : FrK cl H H' w k d v := by
  have t : ∀ a xs, H1 a = some (.tup xs) → H' a = some (.tup xs) := fun a xs e => s a _ e
  cases k with
  | l1 =>
    obtain ⟨p, vs, ds, e1, e2, e3, e4, r⟩ := h
    exact ⟨p, vs, ds, e1, e2, e3, s _ _ e4, r.same s fun _ z => z⟩
  | l2 =>
    obtain ⟨p, as, dss, e1, e2, e3, e4, nd, np, hl, r⟩ := h
    refine ⟨p, as, dss, e1, e2, e3, s _ _ e4, nd, np, hl, fun j a ds h1 h2 => ?_⟩
    obtain ⟨f1, vs, f2, f3⟩ := r j a ds h1 h2
    exact ⟨f1, vs, s _ _ f2, f3.same s fun _ z => z⟩
  | d1 =>
    obtain ⟨p, vs, ds, e1, e2, e3, e4, r⟩ := h
    exact ⟨p, vs, ds, e1, e2, e3, s _ _ e4, r.mono (fun a o e z => ⟨s a o e, z⟩) t⟩
  | t1 =>
    obtain ⟨p, vs, ds, e1, e2, e3, e4, r⟩ := h
    exact ⟨p, vs, ds, e1, e2, e3, s _ _ e4, r.mono (fun a o e z => ⟨s a o e, z⟩) t⟩
  | i1 =>
    obtain ⟨p, c, dx, fs, fds, e1, e2, e3, e4, r⟩ := h
    exact ⟨p, c, dx, fs, fds, e1, e2, e3, s _ _ e4, r.mono (fun a o e z => ⟨s a o e, z⟩) t⟩
  | n1 =>
    rcases h with h | ⟨p, vs, ds, e1, e2, e3, e4, r⟩
    · exact .inl h
    · exact .inr ⟨p, vs, ds, e1, e2, e3, s _ _ e4, r.same s fun _ z => z⟩
  | t2 =>
    obtain ⟨p, a, b, vs, us, ds, es, e1, e2, e3, ab, e4, e5, r1, e6, e7, r2⟩ := h
    exact ⟨p, a, b, vs, us, ds, es, e1, e2, s _ _ e3, ab, e4, s _ _ e5, r1.same s fun _ z => z, e6, s _ _ e7, r2.same s fun _ z => z⟩
theorem repL_map {P : Addr → Prop} : ∀ {as : List Addr} {dss : List (List D)}, as.length = dss.length → (∀ (j : Nat) (a : Addr) (ds : List D), as[j]? = some a → dss[j]? = some ds → Rep cl H P (.lst ds) (.ref a)) → RepL cl H P (dss.map D.lst) (as.map V.ref)
  | [], [], _, _ => .nil
  | a :: as, ds :: dss, hl, h => .cons (h 0 a ds rfl rfl) (repL_map (by simpa using hl) fun j b es h1 h2 => h (j + 1) b es (by simpa using h1) (by simpa using h2))
theorem FrK.pu {k : Kd} (wf : Wf H w) (h : FrK cl H H' w k d v) : Rep cl H' (Fz w) d v := by
  cases k with
  | l1 =>
    obtain ⟨p, vs, ds, rfl, rfl, e3, e4, r⟩ := h
    exact .lst e4 (wf.fresh e3) (r.any fun _ z => z.1)
  | l2 =>
    obtain ⟨p, as, dss, rfl, rfl, e3, e4, nd, np, hl, r⟩ := h
    refine .lst e4 (wf.fresh e3) (repL_map hl fun j a ds h1 h2 => ?_)
    obtain ⟨f1, vs, f2, f3⟩ := r j a ds h1 h2
    exact .lst f2 (wf.fresh f1) (f3.any fun _ z => z.1)
  | d1 =>
    obtain ⟨p, vs, ds, rfl, rfl, e3, e4, r⟩ := h
    exact .dct e4 (wf.fresh e3) (r.mono (fun a o e z => ⟨e, z.1⟩) fun _ _ e => e)
  | t1 =>
    obtain ⟨p, vs, ds, rfl, rfl, e3, e4, r⟩ := h
    exact .dctT e4 (wf.fresh e3) (r.mono (fun a o e z => ⟨e, z.1⟩) fun _ _ e => e)
  | i1 =>
    obtain ⟨p, c, dx, fs, fds, rfl, rfl, e3, e4, r⟩ := h
    exact .ins e4 (wf.fresh e3) (r.mono (fun a o e z => ⟨e, z.1⟩) fun _ _ e => e)
  | n1 =>
    rcases h with ⟨rfl, rfl⟩ | ⟨p, vs, ds, rfl, rfl, e3, e4, r⟩
    · exact .non
    · exact .lst e4 (wf.fresh e3) (r.any fun _ z => z.1)
  | t2 =>
    obtain ⟨p, a, b, vs, us, ds, es, rfl, rfl, e3, ab, e4, e5, r1, e6, e7, r2⟩ := h
    exact .tup e3 (.cons (.lst e5 (wf.fresh e4) (r1.any fun _ z => z.1)) (.cons (.lst e7 (wf.fresh e6) (r2.any fun _ z => z.1)) .nil))
theorem Res.same {c : RC} (s : Same H1 H') (h : Res cl H H1 w c d v) : Res cl H H' w c d v := by
  cases c with
  | pu => exact Rep.same s h fun _ z => z
  | lo => exact Rep.same s h fun _ z => z
  | an => exact Rep.same s h fun _ z => z
  | fr k => exact FrK.same s h
theorem Res.an {c : RC} (wf : Wf H w) (h : Res cl H H' w c d v) : Rep cl H' An d v := by
  cases c with
  | pu => exact Rep.any h fun _ _ => trivial
  | lo => exact Rep.any h fun _ _ => trivial
  | an => exact h
  | fr k => exact (FrK.pu wf h).any fun _ _ => trivial
def toPu : RC → Bool
  | .pu => true
  | .fr _ => true
  | _ => false
theorem Res.pu {c : RC} (wf : Wf H w) (hc : toPu c = true) (h : Res cl H H' w c d v) : Rep cl H' (Fz w) d v := by
  cases c with
  | pu => exact h
  | lo => cases hc
  | an => cases hc
  | fr k => exact FrK.pu wf h
def toLo : RC → Bool
  | .an => false
  | _ => true
theorem Res.lo {c : RC} (wf : Wf H w) (hc : toLo c = true) (h : Res cl H H' w c d v) : Rep cl H' (Lf w) d v := by
  cases c with
  | pu => exact Rep.any h fun _ z => .inl z
  | lo => exact h
  | an => cases hc
  | fr k => exact (FrK.pu wf h).any fun _ z => .inl z
end

/-! ### what an expression, a test, a list of arguments does with data -/
inductive R (α : Type) where
  | ok (a : α)
  | ex (c : String)
abbrev M (α : Type) := Option (R α)
def bd {α β : Type} (a : M α) (k : α → M β) : M β :=
  match a with
  | none => none
  | some (.ex c) => some (.ex c)
  | some (.ok x) => k x
@[simp] theorem bd_ok {α β : Type} {x : α} {k : α → M β} : bd (some (.ok x)) k = k x := rfl
@[simp] theorem bd_ex {α β : Type} {c : String} {k : α → M β} : bd (some (.ex c)) k = some (.ex c) := rfl
@[simp] theorem bd_none {α β : Type} {k : α → M β} : bd none k = none := rfl
def Xc (cl : Nv) (W : WX) (σ : L2.St) (H : Hp) {α : Type} (r : R α) : Prop := ∀ x, r = .ex x → ∀ H', Same H H' → W (.ref (cl x)) none σ H'
theorem Xc.same {W : WX} {σ : L2.St} {H H' : Hp} {α : Type} {r : R α} (h : Xc cl W σ H r) (s : Same H H') : Xc cl W σ H' r := fun x e H2 s2 => h x e H2 (s.trans s2)
def SE (cl : Nv) (W : WX) (ms : List Mo) (c : RC) (te : TE) (f : List D → M D) : Prop :=
  ∀ H w σ env, StOk cl H w ms σ env → ∀ r, f env = some r → Xc cl W σ H r → ∀ Q : VK, (∀ d, r = .ok d → ∀ H' v, Same H H' → Res cl H H' w c d v → Q v H') → te σ H Q
def SEt (cl : Nv) (W : WX) (ms : List Mo) (tt : TT) (f : List D → M Bool) : Prop :=
  ∀ H w σ env, StOk cl H w ms σ env → ∀ r, f env = some r → Xc cl W σ H r → ∀ Q : Bool → Hp → Prop, (∀ b, r = .ok b → ∀ H', Same H H' → Q b H') → tt σ H Q
/-- arguments: each with its class -/
inductive ResL (cl : Nv) (H H' : Hp) (w : Om) : List RC → List D → List V → Prop
  | nil : ResL cl H H' w [] [] []
  | cons {c cs d ds v vs} : Res cl H H' w c d v → ResL cl H H' w cs ds vs → ResL cl H H' w (c :: cs) (d :: ds) (v :: vs)
def SEa (cl : Nv) (W : WX) (ms : List Mo) (cs : List RC) (ta : TA) (f : List D → M (List D)) : Prop :=
  ∀ H w σ env, StOk cl H w ms σ env → ∀ r, f env = some r → Xc cl W σ H r → ∀ Q : List V → Hp → Prop, (∀ ds, r = .ok ds → ∀ H' vs, Same H H' → ResL cl H H' w cs ds vs → Q vs H') → ta σ H Q
section
variable {W : WX} {ms : List Mo} {c c1 c2 c3 : RC} {te ta tb : TE} {f g : List D → M D} {H : Hp} {w : Om} {σ : L2.St} {env : List D}
theorem SE.bind (h : SE cl W ms c te f) (st : StOk cl H w ms σ env) {β : Type} {k : D → M β} {r : R β} (e : bd (f env) k = some r) (x : Xc cl W σ H r) {Q : VK}
    (q : ∀ d H' v, Same H H' → Res cl H H' w c d v → k d = some r → Q v H') : te σ H Q := by
  cases e1 : f env with
  | none => rw [e1] at e; cases e
  | some r1 =>
    rw [e1] at e
    cases r1 with
    | ex y =>
      have e' : r = .ex y := (Option.some.inj e).symm
      refine h H w σ env st _ e1 (fun z hz H' s => ?_) Q fun d hd => nomatch hd
      cases hz
      exact x y e' H' s
    | ok d =>
      refine h H w σ env st _ e1 (fun z hz => nomatch hz) Q fun d' hd H' v s r' => ?_
      cases hd
      exact q d H' v s r' e
theorem SEt.bind {tt : TT} {ft : List D → M Bool} (h : SEt cl W ms tt ft) (st : StOk cl H w ms σ env) {β : Type} {k : Bool → M β} {r : R β} (e : bd (ft env) k = some r) (x : Xc cl W σ H r) {Q : Bool → Hp → Prop}
    (q : ∀ d H', Same H H' → k d = some r → Q d H') : tt σ H Q := by
  cases e1 : ft env with
  | none => rw [e1] at e; cases e
  | some r1 =>
    rw [e1] at e
    cases r1 with
    | ex y =>
      have e' : r = .ex y := (Option.some.inj e).symm
      refine h H w σ env st _ e1 (fun z hz H' s => ?_) Q fun d hd => nomatch hd
      cases hz
      exact x y e' H' s
    | ok d =>
      refine h H w σ env st _ e1 (fun z hz => nomatch hz) Q fun d' hd H' s => ?_
      cases hd
      exact q d H' s e
theorem SEa.bind {cs : List RC} {tas : TA} {fa : List D → M (List D)} (h : SEa cl W ms cs tas fa) (st : StOk cl H w ms σ env) {β : Type} {k : List D → M β} {r : R β} (e : bd (fa env) k = some r) (x : Xc cl W σ H r) {Q : List V → Hp → Prop}
    (q : ∀ d H' v, Same H H' → ResL cl H H' w cs d v → k d = some r → Q v H') : tas σ H Q := by
  cases e1 : fa env with
  | none => rw [e1] at e; cases e
  | some r1 =>
    rw [e1] at e
    cases r1 with
    | ex y =>
      have e' : r = .ex y := (Option.some.inj e).symm
      refine h H w σ env st _ e1 (fun z hz H' s => ?_) Q fun d hd => nomatch hd
      cases hz
      exact x y e' H' s
    | ok d =>
      refine h H w σ env st _ e1 (fun z hz => nomatch hz) Q fun d' hd H' v s r' => ?_
      cases hd
      exact q d H' v s r' e
end
end Mv

namespace Mv
open PySem L2
variable {cl : Nv}

def LIM : Nat := 1000000
theorem LIM_le {n : Nat} (h : n ≤ LIM) : n ≤ sizeLine := Nat.le_trans h (by rw [sizeLine_eq]; decide)
theorem LIM_lt {n : Nat} (h : n ≤ LIM) : n < sizeLine := Nat.lt_of_le_of_lt h (by rw [sizeLine_eq]; decide)
def lift {α : Type} (o : Option α) : M α := o.map R.ok
@[simp] theorem lift_some {α : Type} {x : α} : lift (some x) = some (.ok x) := rfl
@[simp] theorem lift_none {α : Type} : lift (none : Option α) = none := rfl
theorem lift_ok {α : Type} {o : Option α} {r : R α} (h : lift o = some r) : ∃ x, o = some x ∧ r = .ok x := by
  cases o with
  | none => cases h
  | some x => exact ⟨x, rfl, (Option.some.inj h).symm⟩

/-! ### operators by values -/
theorem OpR.or {X : Cx} {f : Value → Value → Sem Value} {r r' : R2} (h : OpR X f r) (h' : OpR X f r') : OpR X f (fun x y H Q => r x y H Q ∨ r' x y H Q) := by
  intro pins s σ H x y v u Q I rx ry q
  rcases q with q | q
  · exact h pins s σ H x y v u Q I rx ry q
  · exact h' pins s σ H x y v u Q I rx ry q
theorem CallR.or {X : Cx} {f : Value} {r r' : List V → Hp → VK → Prop} (h : CallR X f r) (h' : CallR X f r') : CallR X f (fun x H Q => r x H Q ∨ r' x H Q) := by
  intro pins s σ H x v Q I rx q
  rcases q with q | q
  · exact h pins s σ H x v Q I rx q
  · exact h' pins s σ H x v Q I rx q
/-- r does on values what op does on data; what comes is frozen -/
def OpS (cl : Nv) (r : R2) (op : D → D → Option D) : Prop := ∀ (H : Hp) (w : Om) (d1 : D) (v1 : V) (d2 : D) (v2 : V) (z : D) (Q : VK), Wf H w → Rep cl H An d1 v1 → Rep cl H An d2 v2 → op d1 d2 = some z →
  (∀ H' v, Same H H' → Rep cl H' (Fz w) z v → Q v H') → r v1 v2 H Q
def UnS (cl : Nv) (r : V → Hp → VK → Prop) (op : D → Option D) : Prop := ∀ (H : Hp) (w : Om) (d1 : D) (v1 : V) (z : D) (Q : VK), Wf H w → Rep cl H An d1 v1 → op d1 = some z →
  (∀ H' v, Same H H' → Rep cl H' (Fz w) z v → Q v H') → r v1 H Q
/-- a call of a built-in by values, the result of class c -/
def CaS (cl : Nv) (r : List V → Hp → VK → Prop) (cs : List RC) (c : RC) (op : List D → Option D) : Prop := ∀ (H0 H : Hp) (w : Om) (ds : List D) (vs : List V) (z : D) (Q : VK), Wf H w → Same H0 H → ResL cl H0 H w cs ds vs → op ds = some z →
  (∀ H' v, Same H H' → Res cl H0 H' w c z v → Q v H') → r vs H Q
def eOp (op : D → D → Option D) (f g : List D → M D) : List D → M D := fun env => bd (f env) fun x => bd (g env) fun y => lift (op x y)
def eUn (op : D → Option D) (f : List D → M D) : List D → M D := fun env => bd (f env) fun x => lift (op x)
def eVar (i : Nat) : List D → M D := fun env => lift env[i]?
def eC (d : D) : List D → M D := fun _ => some (.ok d)
def eImm (f : List D → M D) : List D → M D := fun env => bd (f env) fun x => if imm x = true then some (.ok x) else none
def eArgs : List (List D → M D) → List D → M (List D)
  | [], _ => some (.ok [])
  | f :: fs, env => bd (f env) fun x => bd (eArgs fs env) fun xs => some (.ok (x :: xs))
def eCall (op : List D → Option D) (fs : List (List D → M D)) : List D → M D := fun env => bd (eArgs fs env) fun xs => lift (op xs)

section
variable {W : WX} {ms : List Mo} {c c1 c2 c3 : RC} {te ta tb : TE} {f g : List D → M D}
theorem OwnK.rep {H : Hp} {w : Om} {t n : Lb} {k : Kd} {d : D} {v : V} (h : OwnK cl H w t n k d v) : Rep cl H An d v := by
  cases k with
  | l1 => obtain ⟨p, vs, ds, rfl, rfl, e, _, r⟩ := h; exact .lst e trivial (r.any fun _ _ => trivial)
  | l2 =>
    obtain ⟨p, as, dss, rfl, rfl, e, _, nd, hl, r⟩ := h
    refine .lst e trivial (repL_map hl fun j a ds h1 h2 => ?_)
    obtain ⟨vs, f1, f2, f3⟩ := r j a ds h1 h2
    exact .lst f1 trivial (f3.any fun _ _ => trivial)
  | d1 => obtain ⟨p, vs, ds, rfl, rfl, e, _, r⟩ := h; exact .dct e trivial (r.mono (fun a o q _ => ⟨q, trivial⟩) fun _ _ q => q)
  | t1 => obtain ⟨p, vs, ds, rfl, rfl, e, _, r⟩ := h; exact .dctT e trivial (r.mono (fun a o q _ => ⟨q, trivial⟩) fun _ _ q => q)
  | i1 => obtain ⟨p, c, dx, fs, fds, rfl, rfl, e, _, r⟩ := h; exact .ins e trivial (r.mono (fun a o q _ => ⟨q, trivial⟩) fun _ _ q => q)
  | n1 =>
    rcases h with ⟨rfl, rfl⟩ | ⟨p, vs, ds, rfl, rfl, e, _, r⟩
    · exact .non
    · exact .lst e trivial (r.any fun _ _ => trivial)
  | t2 =>
    obtain ⟨p, a, b, vs, us, ds, es, rfl, rfl, e3, e4, e5, r1, e6, e7, r2⟩ := h
    exact .tup e3 (.cons (.lst e4 trivial (r1.any fun _ _ => trivial)) (.cons (.lst e6 trivial (r2.any fun _ _ => trivial)) .nil))
def rdm : Mo → Bool
  | .un => false
  | .sc => false
  | _ => true
theorem rdm_un {m : Mo} (h : rdm m = true) : m ≠ .un := fun z => by subst z; exact nomatch h
theorem Own.rep {H : Hp} {w : Om} {i : Nat} {m : Mo} {d : D} {v : V} (hm : rdm m = true) (h : Own cl H w i m d v) : Rep cl H An d v := by
  cases m with
  | un => exact nomatch hm
  | sc => exact nomatch hm
  | pu => exact Rep.any h fun _ _ => trivial
  | lo => exact Rep.any h fun _ _ => trivial
  | ow k => exact OwnK.rep h
  | bo k => exact OwnK.rep h.2
theorem SE.toPu (hc : toPu c = true) (h : SE cl W ms c te f) : SE cl W ms .pu te f := fun H w σ env st r e x Q q =>
  h H w σ env st r e x Q fun d hd H' v s rs => q d hd H' v s (Res.pu st.wf hc rs)
theorem SE.toLo (hc : toLo c = true) (h : SE cl W ms c te f) : SE cl W ms .lo te f := fun H w σ env st r e x Q q =>
  h H w σ env st r e x Q fun d hd H' v s rs => q d hd H' v s (Res.lo st.wf hc rs)
theorem SE.toAn (h : SE cl W ms c te f) : SE cl W ms .an te f := fun H w σ env st r e x Q q =>
  h H w σ env st r e x Q fun d hd H' v s rs => q d hd H' v s (Res.an st.wf rs)
theorem se_imm (h : SE cl W ms c te f) : SE cl W ms .pu te (eImm f) := fun H w σ env st r e x Q q =>
  h.bind st e x fun d H' v s rs e => by
    by_cases i : imm d = true
    · rw [if_pos i] at e
      cases e
      exact q d rfl H' v s (Rep.im i (rs.an st.wf))
    · rw [if_neg i] at e
      cases e
theorem se_var {i : Nat} {m : Mo} (hm : ms[i]? = some m) (hn : rdm m = true) : SE cl W ms .an (tVar i) (eVar i) := fun H w σ env st r e x Q q => by
  obtain ⟨d, e1, rfl⟩ := lift_ok e
  obtain ⟨v, d', a, b, o⟩ := st.sl i m hm (rdm_un hn)
  rw [b] at e1
  cases e1
  exact ⟨v, a, q _ rfl H v (Same.refl H) (o.rep hn)⟩
theorem se_var_pu {i : Nat} (hm : ms[i]? = some .pu) : SE cl W ms .pu (tVar i) (eVar i) := fun H w σ env st r e x Q q => by
  obtain ⟨d, e1, rfl⟩ := lift_ok e
  obtain ⟨v, d', a, b, o⟩ := st.sl i _ hm (by decide)
  rw [b] at e1
  cases e1
  exact ⟨v, a, q _ rfl H v (Same.refl H) o⟩
theorem se_var_lo {i : Nat} (hm : ms[i]? = some .lo) : SE cl W ms .lo (tVar i) (eVar i) := fun H w σ env st r e x Q q => by
  obtain ⟨d, e1, rfl⟩ := lift_ok e
  obtain ⟨v, d', a, b, o⟩ := st.sl i _ hm (by decide)
  rw [b] at e1
  cases e1
  exact ⟨v, a, q _ rfl H v (Same.refl H) o⟩
theorem se_int {i : Int} : SE cl W ms .pu (tC (.int i)) (eC (.int i)) := fun H w σ env st r e x Q q => by
  cases e; exact q _ rfl H _ (Same.refl H) (.int i)
theorem se_bl {i : Bool} : SE cl W ms .pu (tC (.bl i)) (eC (.bl i)) := fun H w σ env st r e x Q q => by
  cases e; exact q _ rfl H _ (Same.refl H) (.bl i)
theorem se_str {i : Str} : SE cl W ms .pu (tC (.str i)) (eC (.str i)) := fun H w σ env st r e x Q q => by
  cases e; exact q _ rfl H _ (Same.refl H) (.str i)
theorem se_non : SE cl W ms .pu (tC .non) (eC .non) := fun H w σ env st r e x Q q => by
  cases e; exact q _ rfl H _ (Same.refl H) .non
theorem se_op {r : R2} {op : D → D → Option D} (ho : OpS cl r op) (ha : SE cl W ms c1 ta f) (hb : SE cl W ms c2 tb g) : SE cl W ms .pu (tOp r ta tb) (eOp op f g) := fun H w σ env st r e x Q q =>
  ha.bind st e x fun d1 H1 v1 s1 r1 e => hb.bind (st.same s1) e (x.same s1) fun d2 H2 v2 s2 r2 e => by
    obtain ⟨z, e1, rfl⟩ := lift_ok e
    have wf2 := (st.wf.same s1).same s2
    exact ho H2 w d1 v1 d2 v2 z Q wf2 ((r1.same s2).an st.wf) (r2.an (st.wf.same s1)) e1 fun H' v s r => q z rfl H' v ((s1.trans s2).trans s) r
theorem se_un {r : V → Hp → VK → Prop} {op : D → Option D} (ho : UnS cl r op) (ha : SE cl W ms c1 ta f) : SE cl W ms .pu (tUn r ta) (eUn op f) := fun H w σ env st r e x Q q =>
  ha.bind st e x fun d1 H1 v1 s1 r1 e => by
    obtain ⟨z, e1, rfl⟩ := lift_ok e
    exact ho H1 w d1 v1 z Q (st.wf.same s1) (r1.an st.wf) e1 fun H' v s r => q z rfl H' v (s1.trans s) r
theorem sea_nil : SEa cl W ms [] tNil (eArgs []) := fun H w σ env st r e x Q q => by
  cases e
  exact q [] rfl H [] (Same.refl H) .nil
theorem FrK.base {H0 H H' : Hp} {w : Om} {k : Kd} {d : D} {v : V} (s : Same H0 H) (h : FrK cl H H' w k d v) : FrK cl H0 H' w k d v := by
  cases k with
  | l1 => obtain ⟨p, vs, ds, e1, e2, e3, e4, r⟩ := h; exact ⟨p, vs, ds, e1, e2, s.free e3, e4, r⟩
  | l2 =>
    obtain ⟨p, as, dss, e1, e2, e3, e4, nd, np, hl, r⟩ := h
    exact ⟨p, as, dss, e1, e2, s.free e3, e4, nd, np, hl, fun j a ds h1 h2 => let ⟨f1, f2⟩ := r j a ds h1 h2; ⟨s.free f1, f2⟩⟩
  | d1 => obtain ⟨p, vs, ds, e1, e2, e3, e4, r⟩ := h; exact ⟨p, vs, ds, e1, e2, s.free e3, e4, r⟩
  | t1 => obtain ⟨p, vs, ds, e1, e2, e3, e4, r⟩ := h; exact ⟨p, vs, ds, e1, e2, s.free e3, e4, r⟩
  | i1 => obtain ⟨p, c, dx, fs, fds, e1, e2, e3, e4, r⟩ := h; exact ⟨p, c, dx, fs, fds, e1, e2, s.free e3, e4, r⟩
  | n1 =>
    rcases h with h | ⟨p, vs, ds, e1, e2, e3, e4, r⟩
    · exact .inl h
    · exact .inr ⟨p, vs, ds, e1, e2, s.free e3, e4, r⟩
  | t2 =>
    obtain ⟨p, a, b, vs, us, ds, es, e1, e2, e3, ab, e4, e5, r1, e6, e7, r2⟩ := h
    exact ⟨p, a, b, vs, us, ds, es, e1, e2, e3, ab, s.free e4, e5, r1, s.free e6, e7, r2⟩
theorem Res.base {H0 H H' : Hp} {w : Om} {c : RC} {d : D} {v : V} (s : Same H0 H) (h : Res cl H H' w c d v) : Res cl H0 H' w c d v := by
  cases c with
  | pu => exact h
  | lo => exact h
  | an => exact h
  | fr k => exact FrK.base s h
theorem ResL.base {H0 H H' : Hp} {w : Om} (s : Same H0 H) : ∀ {cs : List RC} {d : List D} {v : List V}, ResL cl H H' w cs d v → ResL cl H0 H' w cs d v
  | _, _, _, .nil => .nil
  | _, _, _, .cons a b => .cons (a.base s) (ResL.base s b)
theorem sea_cons {cs : List RC} {fs : List (List D → M D)} {tr : TA} (ha : SE cl W ms c ta f) (hb : SEa cl W ms cs tr (eArgs fs)) : SEa cl W ms (c :: cs) (tCons ta tr) (eArgs (f :: fs)) := fun H w σ env st r e x Q q =>
  ha.bind st e x fun d1 H1 v1 s1 r1 e => hb.bind (st.same s1) e (x.same s1) fun d2 H2 v2 s2 r2 e => by
    cases e
    exact q _ rfl H2 _ (s1.trans s2) (.cons (r1.same s2) (r2.base s1))
theorem se_call {r : List V → Hp → VK → Prop} {cs : List RC} {op : List D → Option D} {fs : List (List D → M D)} {tr : TA} (ho : CaS cl r cs c op) (hb : SEa cl W ms cs tr (eArgs fs)) : SE cl W ms c (tCB r tr) (eCall op fs) := fun H w σ env st r e x Q q =>
  hb.bind st e x fun ds H1 vs s1 r1 e => by
    obtain ⟨z, e1, rfl⟩ := lift_ok e
    exact ho H H1 w ds vs z Q (st.wf.same s1) s1 r1 e1 fun H' v s r => q z rfl H' v (s1.trans s) r

/-! ### arithmetic -/
def dAdd : D → D → Option D
  | .int i, .int j => some (.int (i + j))
  | .str a, .str b => if a.length + b.length ≤ LIM then some (.str (a ++ b)) else none
  | .lst a, .lst b => if a.length + b.length ≤ LIM ∧ immL a = true ∧ immL b = true then some (.lst (a ++ b)) else none
  | .tup a, .tup b => if a.length + b.length ≤ LIM ∧ immL a = true ∧ immL b = true ∧ a ≠ [] ∧ b ≠ [] then some (.tup (a ++ b)) else none
  | _, _ => none
def rAddA (K : PySem.W.Frag) : R2 := fun x y H Q => (rI0 (fun i j => .int (i + j))) x y H Q ∨ (∃ i j, x = .str i ∧ y = .str j ∧ i.length + j.length ≤ sizeLine ∧ Q (.str (i ++ j)) H) ∨ rCat x y H Q ∨ rCatT K x y H Q
theorem op_addA {X : Cx} : OpR X (binaryOp .Add) (rAddA X.K) := OpR.or op_add (OpR.or op_add_str (OpR.or op_cat op_catT))
theorem new_same {H : Hp} {p : Addr} {o : HO} (n : H p = none) : Same H (upd H p o) := fun b u e => by rw [upd_ne (ne_of_none e n)]; exact e
theorem ops_add {K : PySem.W.Frag} : OpS cl (rAddA K) dAdd := by
  intro H w d1 v1 d2 v2 z Q wf r1 r2 e q
  cases r1 with
  | int i =>
    cases r2 with
    | int j => cases e; exact .inl ⟨i, j, rfl, rfl, q H _ (Same.refl H) (.int _)⟩
    | _ => cases e
  | str a =>
    cases r2 with
    | str b =>
      simp only [dAdd] at e
      split at e
      · rename_i h
        cases e
        exact .inr (.inl ⟨a, b, rfl, rfl, LIM_le h, q H _ (Same.refl H) (.str _)⟩)
      · cases e
    | _ => cases e
  | @lst p vs ds h1 _ ra =>
    cases r2 with
    | @lst p2 vs2 ds2 h2 _ rb =>
      simp only [dAdd] at e
      split at e
      · rename_i h
        obtain ⟨h, i1, i2⟩ := h
        cases e
        refine .inr (.inr (.inl ⟨p, p2, vs, vs2, rfl, rfl, h1, h2, LIM_le (by rw [← ra.length, ← rb.length]; exact h), fun l hl => ?_⟩))
        have s := new_same (o := .lst (vs ++ vs2)) hl
        exact q _ _ s (.lst upd_same (wf.fresh hl) (((RepL.im i1 ra).append (RepL.im i2 rb)).same s fun _ z => z))
      · cases e
    | _ => cases e
  | @tup p vs ds h1 ra =>
    cases r2 with
    | @tup p2 vs2 ds2 h2 rb =>
      simp only [dAdd] at e
      split at e
      · rename_i h
        obtain ⟨h, i1, i2, n1, n2⟩ := h
        cases e
        have m1 : vs ≠ [] := fun z => n1 (List.length_eq_zero_iff.mp (by rw [ra.length, z]; rfl))
        have m2 : vs2 ≠ [] := fun z => n2 (List.length_eq_zero_iff.mp (by rw [rb.length, z]; rfl))
        refine .inr (.inr (.inr ⟨p, p2, vs, vs2, rfl, rfl, .inl (.inl h1), .inl (.inl h2), m1, LIM_le (by rw [← ra.length, ← rb.length]; exact h), fun z => absurd z m2, fun _ l hl => ?_⟩))
        have s := new_same (o := .tup (vs ++ vs2)) hl
        exact q _ _ s (.tup upd_same (((RepL.im i1 ra).append (RepL.im i2 rb)).same s fun _ z => z))
      · cases e
    | _ => cases e
  | _ => cases e
def dI0 (g : Int → Int → Int) : D → D → Option D
  | .int i, .int j => some (.int (g i j))
  | _, _ => none
theorem ops_I0 {g : Int → Int → Int} : OpS cl (rI0 fun i j => .int (g i j)) (dI0 g) := by
  intro H w d1 v1 d2 v2 z Q wf r1 r2 e q
  cases r1 with
  | int i =>
    cases r2 with
    | int j => cases e; exact ⟨i, j, rfl, rfl, q H _ (Same.refl H) (.int _)⟩
    | _ => cases e
  | _ => cases e
abbrev dSub := dI0 fun i j => i - j
def dIc (C : Int → Int → Prop) [∀ i j, Decidable (C i j)] (g : Int → Int → Int) : D → D → Option D
  | .int i, .int j => if C i j then some (.int (g i j)) else none
  | _, _ => none
theorem ops_Ic {C : Int → Int → Prop} [∀ i j, Decidable (C i j)] {g : Int → Int → Int} : OpS cl (rI C fun i j => .int (g i j)) (dIc C g) := by
  intro H w d1 v1 d2 v2 z Q wf r1 r2 e q
  cases r1 with
  | int i =>
    cases r2 with
    | int j =>
      simp only [dIc] at e
      split at e
      · rename_i h
        cases e
        exact ⟨i, j, rfl, rfl, h, q H _ (Same.refl H) (.int _)⟩
      · cases e
    | _ => cases e
  | _ => cases e
instance : ∀ i j, Decidable (CDiv i j) := fun i j => by unfold CDiv; infer_instance
instance : ∀ i j, Decidable (CMul i j) := fun i j => by unfold CMul; infer_instance
instance : ∀ i j, Decidable (CPow i j) := fun i j => by unfold CPow; infer_instance
abbrev dDiv := dIc CDiv fun i j => i / j
abbrev dMod := dIc (fun _ j => 0 < j) fun i j => i % j
abbrev dPow := dIc CPow fun i j => i ^ j.toNat
def dMul : D → D → Option D
  | .int i, .int j => if CMul i j then some (.int (i * j)) else none
  | .lst a, .int k => if a.length * k.toNat ≤ LIM ∧ immL a = true ∧ -(2 ^ 63) ≤ k ∧ k < 2 ^ 63 then some (.lst (List.replicate k.toNat a).flatten) else none
  | _, _ => none
def rMulA : R2 := fun x y H Q => (rI CMul fun i j => .int (i * j)) x y H Q ∨ rRep x y H Q
theorem op_mulA {X : Cx} : OpR X (binaryOp .Mult) rMulA := OpR.or op_mul op_rep
theorem repL_rep {H : Hp} {P : Addr → Prop} {ds : List D} {vs : List V} (r : RepL cl H P ds vs) : ∀ n, RepL cl H P (List.replicate n ds).flatten (List.replicate n vs).flatten
  | 0 => .nil
  | n + 1 => by
    rw [List.replicate_succ, List.replicate_succ, List.flatten_cons, List.flatten_cons]
    exact r.append (repL_rep r n)
theorem ops_mul : OpS cl rMulA dMul := by
  intro H w d1 v1 d2 v2 z Q wf r1 r2 e q
  cases r1 with
  | int i =>
    cases r2 with
    | int j =>
      simp only [dMul] at e
      split at e
      · rename_i h
        cases e
        exact .inl ⟨i, j, rfl, rfl, h, q H _ (Same.refl H) (.int _)⟩
      · cases e
    | _ => cases e
  | @lst p vs ds h1 _ ra =>
    cases r2 with
    | int k =>
      simp only [dMul] at e
      split at e
      · rename_i h
        obtain ⟨h, i1, b1, b2⟩ := h
        cases e
        refine .inr ⟨p, k, vs, rfl, rfl, h1, b1, b2, LIM_le (by rw [← ra.length]; exact h), fun l hl => ?_⟩
        have s := new_same (o := .lst (List.replicate k.toNat vs).flatten) hl
        exact q _ _ s (.lst upd_same (wf.fresh hl) ((repL_rep (RepL.im i1 ra) _).same s fun _ z => z))
      · cases e
    | _ => cases e
  | _ => cases e
def dNeg : D → Option D
  | .int i => some (.int (-i))
  | _ => none
theorem uns_neg : UnS cl (rU fun i => .int (-i)) dNeg := by
  intro H w d v z Q wf r e q
  cases r with
  | int i => cases e; exact ⟨i, rfl, q H _ (Same.refl H) (.int _)⟩
  | _ => cases e
def dB0 (g : Int → Int → Bool) : D → D → Option D
  | .int i, .int j => some (.bl (g i j))
  | _, _ => none
theorem ops_B0 {g : Int → Int → Bool} : OpS cl (rI0 fun i j => .bl (g i j)) (dB0 g) := by
  intro H w d1 v1 d2 v2 z Q wf r1 r2 e q
  cases r1 with
  | int i =>
    cases r2 with
    | int j => cases e; exact ⟨i, j, rfl, rfl, q H _ (Same.refl H) (.bl _)⟩
    | _ => cases e
  | _ => cases e
abbrev dLt := dB0 fun i j => decide (i < j)
abbrev dLe := dB0 fun i j => decide (i ≤ j)
abbrev dGt := dB0 fun i j => decide (j < i)
abbrev dGe := dB0 fun i j => decide (j ≤ i)
/-! ### == at any depth -/
mutual
def toPy : D → PyData
  | .non => .none
  | .bl b => .bool b
  | .int i => .int i
  | .str s => .str s
  | .lst ds => .list (toPyL ds)
  | .tup ds => .tuple (toPyL ds)
  | .dct _ => .dict []
  | .dctT _ => .dict []
  | .ins _ _ => .dict []
def toPyL : List D → List PyData
  | [] => []
  | d :: ds => toPy d :: toPyL ds
end
mutual
theorem rep_dp {K : PySem.W.Frag} {H : Hp} {P : Addr → Prop} : ∀ {d : D} {v : V}, (toPy d).canLay0 = true → Rep cl H P d v → Dp K H v (toPy d)
  | _, _, _, .non => .non
  | _, _, _, .bl b => .bl b
  | _, _, _, .int b => .int b
  | _, _, _, .str b => .str b
  | _, _, i, .lst h p r => .lst (.inl (.inl h)) (repL_dp (by simpa [toPy, PyData.canLay0] using i) r)
  | _, _, i, .tup h r => .tup (.inl (.inl h)) (repL_dp (by simpa [toPy, PyData.canLay0] using i) r)
  | _, _, i, .dct h p r => by simp [toPy, PyData.canLay0] at i
  | _, _, i, .dctT h p r => by simp [toPy, PyData.canLay0] at i
  | _, _, i, .ins h p r => by simp [toPy, PyData.canLay0] at i
theorem repL_dp {K : PySem.W.Frag} {H : Hp} {P : Addr → Prop} : ∀ {d : List D} {v : List V}, PyData.canLayAll0 (toPyL d) = true → RepL cl H P d v → DpAll K H v (toPyL d)
  | _, _, _, .nil => .nil
  | d :: ds, _, i, .cons a b => by
    have e : (toPy d).canLay0 = true ∧ PyData.canLayAll0 (toPyL ds) = true := by simpa [toPyL, PyData.canLayAll0] using i
    exact .cons (rep_dp e.1 a) (repL_dp e.2 b)
end
def dEq (d e : D) : Option D := if SeqAt.shaped (toPy d) = true ∧ SeqAt.shaped (toPy e) = true then some (.bl (PyData.eqv (toPy d) (toPy e))) else none
def dNe (d e : D) : Option D := if SeqAt.shaped (toPy d) = true ∧ SeqAt.shaped (toPy e) = true then some (.bl (!PyData.eqv (toPy d) (toPy e))) else none
theorem ops_eq {K : PySem.W.Frag} : OpS cl (rEqD K) dEq := by
  intro H w d1 v1 d2 v2 z Q wf r1 r2 e q
  unfold dEq at e
  split at e
  · rename_i h
    cases e
    exact ⟨_, _, rep_dp (SeqAt.canLay_of_shaped h.1) r1, rep_dp (SeqAt.canLay_of_shaped h.2) r2, h.1, h.2, q H _ (Same.refl H) (.bl _)⟩
  · cases e
theorem ops_ne {K : PySem.W.Frag} : OpS cl (rNeD K) dNe := by
  intro H w d1 v1 d2 v2 z Q wf r1 r2 e q
  unfold dNe at e
  split at e
  · rename_i h
    cases e
    exact ⟨_, _, rep_dp (SeqAt.canLay_of_shaped h.1) r1, rep_dp (SeqAt.canLay_of_shaped h.2) r2, h.1, h.2, q H _ (Same.refl H) (.bl _)⟩
  · cases e
def isNon : D → Bool
  | .non => true
  | _ => false
theorem rep_non {H : Hp} {P : Addr → Prop} {d : D} {v : V} (h : Rep cl H P d v) : decide (v = .non) = isNon d := by
  cases h <;> simp [isNon]
def dIsN (d e : D) : Option D := if isNon e = true then some (.bl (isNon d)) else none
def dNotN (d e : D) : Option D := if isNon e = true then some (.bl (!isNon d)) else none
abbrev rIsN : R2 := fun x y H Q => y = .non ∧ Q (.bl (decide (x = .non))) H
abbrev rNotN : R2 := fun x y H Q => y = .non ∧ Q (.bl (!decide (x = .non))) H
theorem ops_isN : OpS cl rIsN dIsN := by
  intro H w d1 v1 d2 v2 z Q wf r1 r2 e q
  cases r2 with
  | non => cases e; exact ⟨rfl, by rw [rep_non r1]; exact q H _ (Same.refl H) (.bl _)⟩
  | _ => cases e
theorem ops_notN : OpS cl rNotN dNotN := by
  intro H w d1 v1 d2 v2 z Q wf r1 r2 e q
  cases r2 with
  | non => cases e; exact ⟨rfl, by rw [rep_non r1]; exact q H _ (Same.refl H) (.bl _)⟩
  | _ => cases e
end
end Mv

namespace Mv
open PySem L2
variable {cl : Nv}
section
variable {W : WX} {ms : List Mo} {c c1 c2 c3 : RC} {te ta tb : TE} {f g : List D → M D} {K : PySem.W.Frag}

/-! ### xs[i] -/
def dIx : D → D → Option D
  | .lst ds, .int i => atI ds i
  | .tup ds, .int i => atI ds i
  | .str z, .int i => if z.length ≤ LIM then (atI z.cps.toList i).map fun c => .str ⟨#[c]⟩ else none
  | _, _ => none
theorem atI_get {α : Type} {xs : List α} {i : Int} {x : α} (h : atI xs i = some x) : ∃ j, ixN xs.length i = some j ∧ xs[j]? = some x := by
  unfold atI at h
  cases e : ixN xs.length i with
  | none => rw [e] at h; cases h
  | some j => rw [e] at h; exact ⟨j, rfl, h⟩
theorem atI_of {α : Type} {xs : List α} {i : Int} {x : α} {j : Nat} (h : ixN xs.length i = some j) (g : xs[j]? = some x) : atI xs i = some x := by
  unfold atI
  rw [h]
  exact g
theorem ix_step {H : Hp} {P : Addr → Prop} {d1 d2 z : D} {v1 v2 : V} {Q : VK} {P2 : Addr → Prop} (r1 : Rep cl H P d1 v1) (r2 : Rep cl H P2 d2 v2) (e : dIx d1 d2 = some z) (q : ∀ v, Rep cl H P z v → Q v H) : rIx K v1 v2 H Q := by
  cases r1 with
  | @lst p vs ds h1 _ ra =>
    cases r2 with
    | int i =>
      obtain ⟨j, h2, h3⟩ := atI_get (show atI ds i = some z from e)
      obtain ⟨v, h4, h5⟩ := ra.get h3
      exact .inl ⟨p, vs, i, v, rfl, rfl, .inl (.inl h1), atI_of (by rw [← ra.length]; exact h2) h4, q v h5⟩
    | _ => cases e
  | @tup p vs ds h1 ra =>
    cases r2 with
    | int i =>
      obtain ⟨j, h2, h3⟩ := atI_get (show atI ds i = some z from e)
      obtain ⟨v, h4, h5⟩ := ra.get h3
      exact .inr (.inl ⟨p, vs, i, v, rfl, rfl, .inl (.inl h1), atI_of (by rw [← ra.length]; exact h2) h4, q v h5⟩)
    | _ => cases e
  | str y =>
    cases r2 with
    | int i =>
      simp only [dIx] at e
      split at e
      · rename_i h
        obtain ⟨c, h1, rfl⟩ := Option.map_eq_some_iff.mp e
        exact .inr (.inr ⟨y, i, c, rfl, rfl, LIM_le h, h1, q _ (.str _)⟩)
      · cases e
    | _ => cases e
  | _ => cases e
def ixC : RC → RC
  | .lo => .lo
  | .an => .an
  | _ => .pu
theorem se_ix (ha : SE cl W ms c1 ta f) (hb : SE cl W ms c2 tb g) : SE cl W ms (ixC c1) (tOp (rIx K) ta tb) (eOp dIx f g) := fun H w σ env st r e x Q q =>
  ha.bind st e x fun d1 H1 v1 s1 r1 e => hb.bind (st.same s1) e (x.same s1) fun d2 H2 v2 s2 r2 e => by
    obtain ⟨z, e1, rfl⟩ := lift_ok e
    have r2' := r2.an (st.wf.same s1)
    have r1' := r1.same s2
    cases c1 with
    | pu => exact ix_step (P := Fz w) r1' r2' e1 fun v rv => q z rfl H2 v (s1.trans s2) rv
    | lo => exact ix_step (P := Lf w) r1' r2' e1 fun v rv => q z rfl H2 v (s1.trans s2) rv
    | an => exact ix_step (P := An) r1' r2' e1 fun v rv => q z rfl H2 v (s1.trans s2) rv
    | fr k => exact ix_step (P := Fz w) (FrK.pu st.wf r1') r2' e1 fun v rv => q z rfl H2 v (s1.trans s2) rv
/-- an item of an owned list is frozen -/
theorem se_ixO {i : Nat} (hm : ms[i]? = some (.ow .l1) ∨ ms[i]? = some (.bo .l1)) (hb : SE cl W ms c2 tb g) : SE cl W ms .pu (tOp (rIx K) (tVar i) tb) (eOp dIx (eVar i) g) := fun H w σ env st r e x Q q => by
  have key : ∃ p vs ds, σ[i]? = some (some (.ref p)) ∧ env[i]? = some (.lst ds) ∧ H p = some (.lst vs) ∧ RepL cl H (Fz w) ds vs := by
    rcases hm with hm | hm
    · obtain ⟨v, d, a, b, p, vs, ds, rfl, rfl, e3, e4, r⟩ := st.sl i _ hm (by decide)
      exact ⟨p, vs, ds, a, b, e3, r⟩
    · obtain ⟨v, d, a, b, _, p, vs, ds, rfl, rfl, e3, e4, r⟩ := st.sl i _ hm (by decide)
      exact ⟨p, vs, ds, a, b, e3, r⟩
  obtain ⟨p, vs, ds, hs, he, hp, rr⟩ := key
  refine ⟨_, hs, ?_⟩
  have e' : bd (g env) (fun y => lift (dIx (.lst ds) y)) = some r := by
    unfold eOp eVar at e
    rw [he] at e
    exact e
  refine hb.bind st e' x fun d2 H2 v2 s2 r2 e => ?_
  obtain ⟨z, e1, rfl⟩ := lift_ok e
  have r2' := r2.an st.wf
  cases r2' with
  | int i =>
    obtain ⟨j, h2, h3⟩ := atI_get (show atI ds i = some z from e1)
    obtain ⟨v, h4, h5⟩ := rr.get h3
    exact .inl ⟨p, vs, i, v, rfl, rfl, .inl (.inl (s2 _ _ hp)), atI_of (by rw [← rr.length]; exact h2) h4, q z rfl H2 v s2 (h5.same s2 fun _ z => z)⟩
  | _ => cases e1

/-! ### built-ins -/
def dLen : List D → Option D
  | [.lst ds] => some (.int ds.length)
  | [.tup ds] => some (.int ds.length)
  | [.str s] => if s.length ≤ LIM then some (.int s.length) else none
  | [.dct ks] => some (.int ks.length)
  | _ => none
def rLenA (K : PySem.W.Frag) : List V → Hp → VK → Prop := fun xs H Q => (∃ x n, xs = [x] ∧ LenV K x H n ∧ Q (.int n) H) ∨ (∃ a kvs, xs = [V.ref a] ∧ H a = some (.dK kvs) ∧ Q (.int kvs.length) H)
theorem call_lenA {X : Cx} : CallR X (.builtin "len") (rLenA X.K) := CallR.or call_len call_lenD
theorem RepK.length {H : Hp} {P : Addr → Prop} : ∀ {ds : List (Key × D)} {vs : List (Key × V)}, RepK cl H P ds vs → ds.length = vs.length
  | _, _, .nil => rfl
  | _, _, .cons _ r => congrArg (· + 1) (RepK.length r)
theorem ResL.one {H0 H : Hp} {w : Om} {ds : List D} {vs : List V} (wf : Wf H0 w) (h : ResL cl H0 H w [c] ds vs) : ∃ d v, ds = [d] ∧ vs = [v] ∧ Rep cl H An d v := by
  cases h with
  | cons a b => cases b; exact ⟨_, _, rfl, rfl, a.an wf⟩
theorem ResL.two {H0 H : Hp} {w : Om} {ds : List D} {vs : List V} (wf : Wf H0 w) (h : ResL cl H0 H w [c1, c2] ds vs) : ∃ d v e u, ds = [d, e] ∧ vs = [v, u] ∧ Rep cl H An d v ∧ Rep cl H An e u := by
  cases h with
  | cons a b =>
    cases b with
    | cons b2 b3 => cases b3; exact ⟨_, _, _, _, rfl, rfl, a.an wf, b2.an wf⟩
/-- the state at a call's arguments: the heap ahead is well labelled -/
def CaS0 (cl : Nv) (r : List V → Hp → VK → Prop) (cs : List RC) (c : RC) (op : List D → Option D) : Prop := ∀ (H0 H : Hp) (w : Om) (ds : List D) (vs : List V) (z : D) (Q : VK), Wf H0 w → Same H0 H → ResL cl H0 H w cs ds vs → op ds = some z →
  (∀ H' v, Same H H' → Res cl H0 H' w c z v → Q v H') → r vs H Q
theorem se_call0 {r : List V → Hp → VK → Prop} {cs : List RC} {op : List D → Option D} {fs : List (List D → M D)} {tr : TA} (ho : CaS0 cl r cs c op) (hb : SEa cl W ms cs tr (eArgs fs)) : SE cl W ms c (tCB r tr) (eCall op fs) := fun H w σ env st r e x Q q =>
  hb.bind st e x fun ds H1 vs s1 r1 e => by
    obtain ⟨z, e1, rfl⟩ := lift_ok e
    exact ho H H1 w ds vs z Q st.wf s1 r1 e1 fun H' v s r => q z rfl H' v (s1.trans s) r
theorem ca_len : CaS0 cl (rLenA K) [c] .pu dLen := by
  intro H0 H w ds vs z Q wf s r e q
  obtain ⟨d, v, rfl, rfl, rr⟩ := r.one wf
  cases rr with
  | @lst p vs ds h1 _ ra => cases e; exact .inl ⟨_, vs.length, rfl, .inl ⟨vs, .inl (.inl h1), rfl⟩, by rw [← ra.length]; exact q H _ (Same.refl H) (.int _)⟩
  | @tup p vs ds h1 ra => cases e; exact .inl ⟨_, vs.length, rfl, .inr ⟨vs, .inl (.inl h1), rfl⟩, by rw [← ra.length]; exact q H _ (Same.refl H) (.int _)⟩
  | str y =>
    simp only [dLen] at e
    split at e
    · rename_i h
      cases e
      exact .inl ⟨_, y.length, rfl, ⟨LIM_le h, rfl⟩, q H _ (Same.refl H) (.int _)⟩
    · cases e
  | @dct p kvs kds h1 _ ra => cases e; exact .inr ⟨_, kvs, rfl, h1, by rw [← ra.length]; exact q H _ (Same.refl H) (.int _)⟩
  | _ => cases e
/-- list(x): a new list of frozen items -/
def dList : List D → Option D
  | [.lst ds] => if immL ds = true then some (.lst ds) else none
  | [.tup ds] => if immL ds = true then some (.lst ds) else none
  | _ => none
abbrev rListA (K : PySem.W.Frag) : List V → Hp → VK → Prop := fun xs H Q => ∃ p ys, xs = [.ref p] ∧ (SqL K H p ys ∨ SqT K H p ys) ∧ ∀ l, H l = none → Q (.ref l) (upd H l (.lst ys))
theorem ca_list : CaS0 cl (rListA K) [c] (.fr .l1) dList := by
  intro H0 H w ds vs z Q wf s r e q
  obtain ⟨d, v, rfl, rfl, rr⟩ := r.one wf
  cases rr with
  | @lst p vs ds h1 _ ra =>
    simp only [dList] at e
    split at e
    · rename_i i
      cases e
      refine ⟨p, vs, rfl, .inl (.inl (.inl h1)), fun l hl => ?_⟩
      have s2 := new_same (o := .lst vs) hl
      exact q _ _ s2 ⟨l, vs, ds, rfl, rfl, s.free hl, upd_same, (RepL.im i ra).same s2 fun _ z => z⟩
    · cases e
  | @tup p vs ds h1 ra =>
    simp only [dList] at e
    split at e
    · rename_i i
      cases e
      refine ⟨p, vs, rfl, .inr (.inl (.inl h1)), fun l hl => ?_⟩
      have s2 := new_same (o := .lst vs) hl
      exact q _ _ s2 ⟨l, vs, ds, rfl, rfl, s.free hl, upd_same, (RepL.im i ra).same s2 fun _ z => z⟩
    · cases e
  | _ => cases e
def dInt1 (g : Int → Int) : List D → Option D
  | [.int i] => some (.int (g i))
  | _ => none
def dInt2 (g : Int → Int → Int) : List D → Option D
  | [.int i, .int j] => some (.int (g i j))
  | _ => none
abbrev dAbs := dInt1 fun i => if i < 0 then -i else i
abbrev dMax2 := dInt2 fun i j => if j > i then j else i
abbrev dMin2 := dInt2 fun i j => if j < i then j else i
theorem ca_int1 {g : Int → Int} : CaS0 cl (fun xs H Q => ∃ i, xs = [.int i] ∧ Q (.int (g i)) H) [c] .pu (dInt1 g) := by
  intro H0 H w ds vs z Q wf s r e q
  obtain ⟨d, v, rfl, rfl, rr⟩ := r.one wf
  cases rr with
  | int i => cases e; exact ⟨i, rfl, q H _ (Same.refl H) (.int _)⟩
  | _ => cases e
theorem ca_int2 {g : Int → Int → Int} : CaS0 cl (fun xs H Q => ∃ i j, xs = [.int i, .int j] ∧ Q (.int (g i j)) H) [c1, c2] .pu (dInt2 g) := by
  intro H0 H w ds vs z Q wf s r e q
  obtain ⟨d, v, d2, v2, rfl, rfl, rr, rr2⟩ := r.two wf
  cases rr with
  | int i =>
    cases rr2 with
    | int j => cases e; exact ⟨i, j, rfl, q H _ (Same.refl H) (.int _)⟩
    | _ => cases e
  | _ => cases e

/-! ### xs[lo:hi], xs[::-1], displays -/
def cutD (xs : List D) (lo hi : Option Int) : List D := (xs.drop (HT.sIx xs.length 0 lo)).take (HT.sIx xs.length xs.length hi - HT.sIx xs.length 0 lo)
theorem bd_bd {α β γ : Type} {a : M α} {k : α → M β} {l : β → M γ} : bd (bd a k) l = bd a fun x => bd (k x) l := by
  cases a with
  | none => rfl
  | some r => cases r <;> rfl
def toI : D → M (Option Int)
  | .int i => some (.ok (some i))
  | _ => none
def eOpt : Option (List D → M D) → List D → M (Option Int)
  | none => fun _ => some (.ok none)
  | some f => fun env => bd (f env) toI
def SEo (cl : Nv) (W : WX) (ms : List Mo) (to : TO) (fo : Option (List D → M D)) : Prop :=
  ∀ H w σ env, StOk cl H w ms σ env → ∀ {β : Type} {k : Option Int → M β} {r : R β}, bd (eOpt fo env) k = some r → Xc cl W σ H r → ∀ Q : Option Int → Hp → Prop, (∀ o H', Same H H' → k o = some r → Q o H') → to σ H Q
theorem seo_none : SEo cl W ms tNoPart none := fun H w σ env st β k r e x Q q => q none H (Same.refl H) e
theorem seo_some (ha : SE cl W ms c ta f) : SEo cl W ms (tPart ta) (some f) := fun H w σ env st β k r e x Q q => by
  have e' : bd (f env) (fun d => bd (toI d) k) = some r := bd_bd.symm.trans e
  refine ha.bind st e' x fun d H' v s rv e2 => ?_
  have rv' := rv.an st.wf
  cases rv' with
  | int i => exact ⟨i, rfl, q _ _ s e2⟩
  | _ => cases e2
def dCut (d : D) (lo hi : Option Int) : Option D := match d with
  | .lst ds => if immL ds = true then some (.lst (cutD ds lo hi)) else none
  | _ => none
def eSl (f : List D → M D) (lo hi : Option (List D → M D)) : List D → M D := fun env => bd (f env) fun d => bd (eOpt lo env) fun l => bd (eOpt hi env) fun h => lift (dCut d l h)
theorem RepL.cut {H : Hp} {P : Addr → Prop} {ds : List D} {vs : List V} (r : RepL cl H P ds vs) (lo hi : Option Int) : RepL cl H P (cutD ds lo hi) (cutV vs lo hi) := by
  unfold cutD cutV
  rw [r.length]
  exact (r.drop _).take _
theorem se_sl {tl th : TO} {lo hi : Option (List D → M D)} (ha : SE cl W ms c ta f) (hl : SEo cl W ms tl lo) (hh : SEo cl W ms th hi) : SE cl W ms (.fr .l1) (tSl (rSlL K) ta tl th) (eSl f lo hi) := fun H w σ env st r e x Q q =>
  ha.bind st e x fun d1 H1 v1 s1 r1 e => hl H1 w σ env (st.same s1) e (x.same s1) _ fun l H2 s2 e => hh H2 w σ env ((st.same s1).same s2) e ((x.same s1).same s2) _ fun h H3 s3 e => by
    obtain ⟨z, e1, rfl⟩ := lift_ok e
    have r1' := (r1.same (s2.trans s3)).an st.wf
    cases r1' with
    | @lst p vs ds h1 _ ra =>
      simp only [dCut] at e1
      split at e1
      · rename_i i
        cases e1
        refine ⟨p, vs, rfl, .inl (.inl h1), fun n hn => ?_⟩
        have s4 := new_same (o := .lst (cutV vs l h)) hn
        have s13 := (s1.trans (s2.trans s3))
        exact q _ rfl _ _ (s13.trans s4) ⟨n, _, _, rfl, rfl, s13.free hn, upd_same, (RepL.cut (RepL.im i ra) l h).same s4 fun _ z => z⟩
      · cases e1
    | _ => cases e1
/-- xs[lo:hi] of a frozen list of any items -/
def dCutF (d : D) (lo hi : Option Int) : Option D := match d with
  | .lst ds => some (.lst (cutD ds lo hi))
  | _ => none
def eSlF (f : List D → M D) (lo hi : Option (List D → M D)) : List D → M D := fun env => bd (f env) fun d => bd (eOpt lo env) fun l => bd (eOpt hi env) fun h => lift (dCutF d l h)
theorem se_slF {tl th : TO} {lo hi : Option (List D → M D)} (hc : toPu c = true) (ha : SE cl W ms c ta f) (hl : SEo cl W ms tl lo) (hh : SEo cl W ms th hi) : SE cl W ms .pu (tSl (rSlL K) ta tl th) (eSlF f lo hi) := fun H w σ env st r e x Q q =>
  ha.bind st e x fun d1 H1 v1 s1 r1 e => hl H1 w σ env (st.same s1) e (x.same s1) _ fun l H2 s2 e => hh H2 w σ env ((st.same s1).same s2) e ((x.same s1).same s2) _ fun h H3 s3 e => by
    obtain ⟨z, e1, rfl⟩ := lift_ok e
    have s13 := (s1.trans (s2.trans s3))
    have wf3 := st.wf.same s13
    have r1' := (r1.same (s2.trans s3)).pu st.wf hc
    cases r1' with
    | @lst p vs ds h1 _ ra =>
      cases e1
      refine ⟨p, vs, rfl, .inl (.inl h1), fun n hn => ?_⟩
      have s4 := new_same (o := .lst (cutV vs l h)) hn
      exact q _ rfl _ _ (s13.trans s4) (.lst upd_same (wf3.fresh hn) ((RepL.cut ra l h).same s4 fun _ z => z))
    | _ => cases e1
def dRev : D → Option D
  | .lst ds => if immL ds = true then some (.lst ds.reverse) else none
  | _ => none
theorem se_rev (ha : SE cl W ms c ta f) : SE cl W ms (.fr .l1) (tRevL K ta) (eUn dRev f) := fun H w σ env st r e x Q q =>
  ha.bind st e x fun d1 H1 v1 s1 r1 e => by
    obtain ⟨z, e1, rfl⟩ := lift_ok e
    have r1' := r1.an st.wf
    cases r1' with
    | @lst p vs ds h1 _ ra =>
      simp only [dRev] at e1
      split at e1
      · rename_i i
        cases e1
        refine ⟨p, vs, rfl, .inl (.inl h1), fun n hn => ?_⟩
        have s4 := new_same (o := .lst vs.reverse) hn
        exact q _ rfl _ _ (s1.trans s4) ⟨n, _, _, rfl, rfl, s1.free hn, upd_same, (RepL.reverse (RepL.im i ra)).same s4 fun _ z => z⟩
      · cases e1
    | _ => cases e1
def allPu : List RC → Bool
  | [] => true
  | c :: cs => toPu c && allPu cs
theorem ResL.pus {H0 H : Hp} {w : Om} (wf : Wf H0 w) : ∀ {cs : List RC} {ds : List D} {vs : List V}, allPu cs = true → ResL cl H0 H w cs ds vs → RepL cl H (Fz w) ds vs
  | _, _, _, _, .nil => .nil
  | c :: cs, _, _, i, .cons a b => by
    have e : toPu c = true ∧ allPu cs = true := by simpa [allPu] using i
    exact .cons (a.pu wf e.1) (ResL.pus wf e.2 b)
def eLst (fs : List (List D → M D)) : List D → M D := fun env => bd (eArgs fs env) fun ds => if ds.length ≤ LIM then some (.ok (.lst ds)) else none
def eTup (fs : List (List D → M D)) : List D → M D := fun env => bd (eArgs fs env) fun ds => if ds.length ≤ LIM then some (.ok (.tup ds)) else none
theorem se_lst {cs : List RC} {fs : List (List D → M D)} {tr : TA} (hc : allPu cs = true) (hb : SEa cl W ms cs tr (eArgs fs)) : SE cl W ms (.fr .l1) (tLst tr) (eLst fs) := fun H w σ env st r e x Q q =>
  hb.bind st e x fun ds H1 vs s1 r1 e => by
    split at e
    · rename_i h
      cases e
      have rp := r1.pus st.wf hc
      refine ⟨LIM_le (by rw [← rp.length]; exact h), fun n hn => ?_⟩
      have s4 := new_same (o := .lst vs) hn
      exact q _ rfl _ _ (s1.trans s4) ⟨n, _, _, rfl, rfl, s1.free hn, upd_same, rp.mono (fun a o e1 z => ⟨s4 a o e1, z, ne_of_none e1 hn⟩) fun a xs e1 => s4 a _ e1⟩
    · cases e
theorem se_tup {cs : List RC} {fs : List (List D → M D)} {tr : TA} (hc : allPu cs = true) (hb : SEa cl W ms cs tr (eArgs fs)) : SE cl W ms .pu (tTup tr) (eTup fs) := fun H w σ env st r e x Q q =>
  hb.bind st e x fun ds H1 vs s1 r1 e => by
    split at e
    · rename_i h
      cases e
      have rp := r1.pus st.wf hc
      refine ⟨LIM_le (by rw [← rp.length]; exact h), fun n hn => ?_⟩
      have s4 := new_same (o := .tup vs) hn
      exact q _ rfl _ _ (s1.trans s4) (.tup upd_same (rp.same s4 fun _ z => z))
    · cases e

/-! ### truth, tests -/
def eT (f : List D → M D) : List D → M Bool := fun env => bd (f env) fun d => match d with
  | .bl b => some (.ok b)
  | _ => none
theorem set_B (ha : SE cl W ms c ta f) : SEt cl W ms (tB ta) (eT f) := fun H w σ env st r e x Q q =>
  ha.bind st e x fun d1 H1 v1 s1 r1 e => by
    have r1' := r1.an st.wf
    cases r1' with
    | bl b => cases e; exact ⟨b, rfl, q b rfl H1 s1⟩
    | _ => cases e
theorem set_T (ha : SE cl W ms c ta f) : SEt cl W ms (tTest ta) (eT f) := set_B ha
def eAnd (f g : List D → M Bool) : List D → M Bool := fun env => bd (f env) fun b => if b = true then g env else some (.ok false)
def eOr (f g : List D → M Bool) : List D → M Bool := fun env => bd (f env) fun b => if b = true then some (.ok true) else g env
def eNot (f : List D → M Bool) : List D → M Bool := fun env => bd (f env) fun b => some (.ok (!b))
section
variable {t u : TT} {ft fu : List D → M Bool}
theorem set_and (ha : SEt cl W ms t ft) (hb : SEt cl W ms u fu) : SEt cl W ms (tAnd t u) (eAnd ft fu) := fun H w σ env st r e x Q q =>
  ha.bind st e x fun b H1 s1 e => by
    cases b with
    | true =>
      rw [if_pos rfl] at e
      rw [if_pos rfl]
      exact hb H1 w σ env (st.same s1) r e (x.same s1) Q fun b hb H' s => q b hb H' (s1.trans s)
    | false =>
      cases e
      rw [if_neg Bool.false_ne_true]
      exact q _ rfl H1 s1
theorem set_or (ha : SEt cl W ms t ft) (hb : SEt cl W ms u fu) : SEt cl W ms (tOr t u) (eOr ft fu) := fun H w σ env st r e x Q q =>
  ha.bind st e x fun b H1 s1 e => by
    cases b with
    | true =>
      cases e
      rw [if_pos rfl]
      exact q _ rfl H1 s1
    | false =>
      rw [if_neg Bool.false_ne_true] at e
      rw [if_neg Bool.false_ne_true]
      exact hb H1 w σ env (st.same s1) r e (x.same s1) Q fun b hb H' s => q b hb H' (s1.trans s)
theorem set_not (ha : SEt cl W ms t ft) : SEt cl W ms (tNot t) (eNot ft) := fun H w σ env st r e x Q q =>
  ha.bind st e x fun b H1 s1 e => by
    cases e
    exact q _ rfl H1 s1
def eIf (t : List D → M Bool) (f g : List D → M D) : List D → M D := fun env => bd (t env) fun b => if b = true then f env else g env
theorem se_if (ht : SEt cl W ms t ft) (ha : SE cl W ms c ta f) (hb : SE cl W ms c tb g) : SE cl W ms c (tIf t ta tb) (eIf ft f g) := fun H w σ env st r e x Q q =>
  ht.bind st e x fun b H1 s1 e => by
    cases b with
    | true =>
      rw [if_pos rfl] at e
      rw [if_pos rfl]
      exact ha H1 w σ env (st.same s1) r e (x.same s1) Q fun d hd H' v s rs => q d hd H' v (s1.trans s) (rs.base s1)
    | false =>
      rw [if_neg Bool.false_ne_true] at e
      rw [if_neg Bool.false_ne_true]
      exact hb H1 w σ env (st.same s1) r e (x.same s1) Q fun d hd H' v s rs => q d hd H' v (s1.trans s) (rs.base s1)
end
/-- and, or, not as values of bools -/
def eAndV (f g : List D → M D) : List D → M D := fun env => bd (f env) fun d => match d with
  | .bl true => g env
  | .bl false => some (.ok (.bl false))
  | _ => none
def eOrV (f g : List D → M D) : List D → M D := fun env => bd (f env) fun d => match d with
  | .bl true => some (.ok (.bl true))
  | .bl false => g env
  | _ => none
def dNot : D → Option D
  | .bl b => some (.bl (!b))
  | _ => none
theorem se_andV (ha : SE cl W ms c1 ta f) (hb : SE cl W ms .pu tb g) : SE cl W ms .pu (tAndV ta tb) (eAndV f g) := fun H w σ env st r e x Q q =>
  ha.bind st e x fun d1 H1 v1 s1 r1 e => by
    have r1' := r1.an st.wf
    cases r1' with
    | bl b =>
      cases b with
      | true => exact ⟨true, rfl, by rw [if_pos rfl]; exact hb H1 w σ env (st.same s1) r e (x.same s1) Q fun d hd H' v s rs => q d hd H' v (s1.trans s) rs⟩
      | false => cases e; exact ⟨false, rfl, by rw [if_neg Bool.false_ne_true]; exact q _ rfl H1 _ s1 (.bl _)⟩
    | _ => cases e
theorem se_orV (ha : SE cl W ms c1 ta f) (hb : SE cl W ms .pu tb g) : SE cl W ms .pu (tOrV ta tb) (eOrV f g) := fun H w σ env st r e x Q q =>
  ha.bind st e x fun d1 H1 v1 s1 r1 e => by
    have r1' := r1.an st.wf
    cases r1' with
    | bl b =>
      cases b with
      | false => exact ⟨false, rfl, by rw [if_neg Bool.false_ne_true]; exact hb H1 w σ env (st.same s1) r e (x.same s1) Q fun d hd H' v s rs => q d hd H' v (s1.trans s) rs⟩
      | true => cases e; exact ⟨true, rfl, by rw [if_pos rfl]; exact q _ rfl H1 _ s1 (.bl _)⟩
    | _ => cases e
theorem se_notV (ha : SE cl W ms c ta f) : SE cl W ms .pu (tNotV ta) (eUn dNot f) := fun H w σ env st r e x Q q =>
  ha.bind st e x fun d1 H1 v1 s1 r1 e => by
    obtain ⟨z, e1, rfl⟩ := lift_ok e
    have r1' := r1.an st.wf
    cases r1' with
    | bl b => cases e1; exact ⟨b, rfl, q _ rfl H1 _ s1 (.bl _)⟩
    | _ => cases e1
end
end Mv

namespace Mv
open PySem L2
variable {cl : Nv}

/-! ### what a statement does with data -/
inductive Out where
  | nx (e : List D)
  | rt (d : D) (e : List D)
  | bk (e : List D)
  | ct (e : List D)
  | ex (c : String) (e : List D)
structure Md where
  nx : List Mo
  bk : List Mo
  ct : List Mo
  rt : List Mo
  ex : List Mo
  rc : RC
/-- from one state to a later one -/
structure Kp (H : Hp) (w : Om) (H' : Hp) (w' : Om) : Prop where
  keep : Keep H w H' w'
  bo : ∀ a i k, w' a = some (.bo i k) ↔ w a = some (.bo i k)
theorem Kp.refl {H : Hp} {w : Om} : Kp H w H w := ⟨Keep.same (Same.refl H), fun _ _ _ => Iff.rfl⟩
theorem Kp.same {H H' : Hp} {w : Om} (s : Same H H') : Kp H w H' w := ⟨Keep.same s, fun _ _ _ => Iff.rfl⟩
theorem Kp.trans {H H1 H' : Hp} {w w1 w' : Om} (a : Kp H w H1 w1) (b : Kp H1 w1 H' w') : Kp H w H' w' := ⟨a.keep.trans b.keep, fun x i k => (b.bo x i k).trans (a.bo x i k)⟩
/-- what is handed back -/
def Ret (cl : Nv) (H : Hp) (w : Om) : RC → D → V → Prop
  | .pu, d, v => Rep cl H (Fz w) d v
  | .lo, d, v => Rep cl H (Lf w) d v
  | .an, d, v => Rep cl H An d v
  | .fr k, d, v => ∃ i j, OwnK cl H w (.ow i j) (.ow i (j + 1)) k d v
def Post (cl : Nv) (W : WX) (m : Md) (H : Hp) (w : Om) (D : Ends) : Out → Prop
  | .nx e => ∀ H' w' σ', StOk cl H' w' m.nx σ' e → Kp H w H' w' → D.nx σ' H'
  | .bk e => ∀ H' w' σ', StOk cl H' w' m.bk σ' e → Kp H w H' w' → D.bk σ' H'
  | .ct e => ∀ H' w' σ', StOk cl H' w' m.ct σ' e → Kp H w H' w' → D.ct σ' H'
  | .rt d e => ∀ H' w' σ' v, StOk cl H' w' m.rt σ' e → Kp H w H' w' → Ret cl H' w' m.rc d v → D.rt v H'
  | .ex c e => ∀ H' w' σ', StOk cl H' w' m.ex σ' e → Kp H w H' w' → W (.ref (cl c)) none σ' H'
def SS (cl : Nv) (W : WX) (ms : List Mo) (m : Md) (ts : TS) (g : List D → Option Out) : Prop :=
  ∀ H w σ env, StOk cl H w ms σ env → ∀ o, g env = some o → ∀ D : Ends, Post cl W m H w D o → ts D σ H
theorem Post.trans {W : WX} {m : Md} {H H1 : Hp} {w w1 : Om} {D : Ends} {o : Out} (k : Kp H w H1 w1) (h : Post cl W m H w D o) : Post cl W m H1 w1 D o := by
  cases o with
  | nx e => exact fun H' w' σ' st k' => h H' w' σ' st (k.trans k')
  | bk e => exact fun H' w' σ' st k' => h H' w' σ' st (k.trans k')
  | ct e => exact fun H' w' σ' st k' => h H' w' σ' st (k.trans k')
  | rt d e => exact fun H' w' σ' v st k' => h H' w' σ' v st (k.trans k')
  | ex c e => exact fun H' w' σ' st k' => h H' w' σ' st (k.trans k')

/-! ### weaker modes -/
def wk : List Mo → List Mo → Bool
  | [], [] => true
  | a :: as, b :: bs => (decide (b = .un) || decide (a = b)) && wk as bs
  | _, _ => false
theorem wk_len : ∀ {a b : List Mo}, wk a b = true → a.length = b.length
  | [], [], _ => rfl
  | a :: as, b :: bs, h => by
    have e : (decide (b = .un) || decide (a = b)) = true ∧ wk as bs = true := by simpa [wk] using h
    exact congrArg (· + 1) (wk_len e.2)
theorem wk_get : ∀ {a b : List Mo} {i : Nat} {m : Mo}, wk a b = true → b[i]? = some m → m ≠ .un → a[i]? = some m
  | [], [], _, _, _, e, _ => by simp at e
  | a :: as, b :: bs, 0, m, h, e, n => by
    have q : (b = .un ∨ a = b) ∧ wk as bs = true := by simpa [wk] using h
    simp at e
    subst e
    rcases q.1 with z | z
    · exact absurd z n
    · rw [z] <;> rfl
  | a :: as, b :: bs, i + 1, m, h, e, n => by
    have q : (b = .un ∨ a = b) ∧ wk as bs = true := by simpa [wk] using h
    exact wk_get (i := i) q.2 (by simpa using e) n
  | [], _ :: _, _, _, h, _, _ => by simp [wk] at h
section
variable {H H' H1 : Hp} {w w' : Om} {ms ms' : List Mo} {σ : L2.St} {env : List D} {W : WX} {m : Md} {c c1 c2 : RC} {te ta tb : TE} {f g : List D → M D}
theorem StOk.weak (h : StOk cl H w ms σ env) (q : wk ms ms' = true) : StOk cl H w ms' σ env :=
  ⟨h.wf, h.ls.trans (wk_len q), h.le.trans (wk_len q), fun i m e n => h.sl i m (wk_get q e n) n⟩
theorem StOk.setPu {i : Nat} {d : D} {v : V} (h : StOk cl H w ms σ env) (r : Rep cl H (Fz w) d v) : StOk cl H w (ms.set i .pu) (σ.set i (some v)) (env.set i d) := by
  refine ⟨h.wf, by simp [h.ls], by simp [h.le], fun j m e n => ?_⟩
  by_cases hj : j = i
  · subst hj
    have hl : j < ms.length := by
      have := (List.getElem?_eq_some_iff.mp e).1
      simpa using this
    rw [List.getElem?_set_self hl] at e
    cases e
    exact ⟨v, d, List.getElem?_set_self (by rw [h.ls]; exact hl), List.getElem?_set_self (by rw [h.le]; exact hl), r⟩
  · rw [List.getElem?_set_ne (Ne.symm hj)] at e
    obtain ⟨v', d', a, b, o⟩ := h.sl j m e n
    exact ⟨v', d', by rw [List.getElem?_set_ne (Ne.symm hj)]; exact a, by rw [List.getElem?_set_ne (Ne.symm hj)]; exact b, o⟩
theorem StOk.setLo {i : Nat} {d : D} {v : V} (h : StOk cl H w ms σ env) (r : Rep cl H (Lf w) d v) : StOk cl H w (ms.set i .lo) (σ.set i (some v)) (env.set i d) := by
  refine ⟨h.wf, by simp [h.ls], by simp [h.le], fun j m e n => ?_⟩
  by_cases hj : j = i
  · subst hj
    have hl : j < ms.length := by
      have := (List.getElem?_eq_some_iff.mp e).1
      simpa using this
    rw [List.getElem?_set_self hl] at e
    cases e
    exact ⟨v, d, List.getElem?_set_self (by rw [h.ls]; exact hl), List.getElem?_set_self (by rw [h.le]; exact hl), r⟩
  · rw [List.getElem?_set_ne (Ne.symm hj)] at e
    obtain ⟨v', d', a, b, o⟩ := h.sl j m e n
    exact ⟨v', d', by rw [List.getElem?_set_ne (Ne.symm hj)]; exact a, by rw [List.getElem?_set_ne (Ne.symm hj)]; exact b, o⟩
/-- new labels on new objects -/
theorem StOk.relabel (h : StOk cl H w ms σ env) (s : Same H H') (hw : ∀ a o, H a = some o → w' a = w a) (wf : Wf H' w') : StOk cl H' w' ms σ env := by
  have k : Keep H w H' w' := ⟨fun a o e q => ⟨s a o e, (hw a o e).trans q⟩, fun a o e q => ⟨s a o e, (hw a o e).trans q⟩⟩
  exact ⟨wf, h.ls, h.le, fun i m e n => let ⟨v, d, a, b, c⟩ := h.sl i m e n; ⟨v, d, a, b, c.keep k h.wf fun a o x _ q => ⟨s a o q, hw a o q⟩⟩⟩
/-- labels for a fresh thing -/
theorem FrK.label {k : Kd} {d : D} {v : V} (wf : Wf H w) (s : Same H H') (h : FrK cl H H' w k d v) (t n : Lb) : ∃ w', (∀ a o, H a = some o → w' a = w a) ∧ (∀ a, w' a ≠ w a → w' a = some t ∨ w' a = some n) ∧ Wf H' w' ∧ OwnK cl H' w' t n k d v := by
  have wf' := wf.same s
  have one : ∀ (p : Addr) (ob : HO), H p = none → H' p = some ob → isTup ob = false → (∀ a o, H a = some o → (fun a => if a = p then some t else w a) a = w a) ∧ (∀ a, (fun a => if a = p then some t else w a) a ≠ w a → (fun a => if a = p then some t else w a) a = some t ∨ (fun a => if a = p then some t else w a) a = some n) ∧ Wf H' (fun a => if a = p then some t else w a) := by
    intro p ob h1 h2 h3
    refine ⟨fun a o e => ?_, fun a q => ?_, fun a l e => ?_⟩
    · show (if a = p then some t else w a) = w a
      rw [if_neg (ne_of_none e h1)]
    · by_cases hp : a = p
      · left
        show (if a = p then some t else w a) = some t
        rw [if_pos hp]
      · exfalso
        apply q
        show (if a = p then some t else w a) = w a
        rw [if_neg hp]
    · by_cases hp : a = p
      · exact ⟨ob, hp ▸ h2, h3⟩
      · have e' : (if a = p then some t else w a) = some l := e
        rw [if_neg hp] at e'
        exact wf' a l e'
  cases k with
  | l1 =>
    obtain ⟨p, vs, ds, e1, e2, e3, e4, r⟩ := h
    obtain ⟨a1, a2, a3⟩ := one p _ e3 e4 rfl
    refine ⟨_, a1, a2, a3, p, vs, ds, e1, e2, e4, by show (if p = p then some t else w p) = some t; rw [if_pos rfl], r.any fun a z => ?_⟩
    show (if a = p then some t else w a) = none
    rw [if_neg z.2]
    exact z.1
  | d1 =>
    obtain ⟨p, vs, ds, e1, e2, e3, e4, r⟩ := h
    obtain ⟨a1, a2, a3⟩ := one p _ e3 e4 rfl
    refine ⟨_, a1, a2, a3, p, vs, ds, e1, e2, e4, by show (if p = p then some t else w p) = some t; rw [if_pos rfl], r.mono (fun a o q z => ⟨q, ?_⟩) fun _ _ q => q⟩
    show (if a = p then some t else w a) = none
    rw [if_neg z.2]
    exact z.1
  | t1 =>
    obtain ⟨p, vs, ds, e1, e2, e3, e4, r⟩ := h
    obtain ⟨a1, a2, a3⟩ := one p _ e3 e4 rfl
    refine ⟨_, a1, a2, a3, p, vs, ds, e1, e2, e4, by show (if p = p then some t else w p) = some t; rw [if_pos rfl], r.mono (fun a o q z => ⟨q, ?_⟩) fun _ _ q => q⟩
    show (if a = p then some t else w a) = none
    rw [if_neg z.2]
    exact z.1
  | i1 =>
    obtain ⟨p, c, dx, fs, fds, e1, e2, e3, e4, r⟩ := h
    obtain ⟨a1, a2, a3⟩ := one p _ e3 e4 rfl
    refine ⟨_, a1, a2, a3, p, c, dx, fs, fds, e1, e2, e4, by show (if p = p then some t else w p) = some t; rw [if_pos rfl], r.mono (fun a o q z => ⟨q, ?_⟩) fun _ _ q => q⟩
    show (if a = p then some t else w a) = none
    rw [if_neg z.2]
    exact z.1
  | n1 =>
    rcases h with ⟨e1, e2⟩ | ⟨p, vs, ds, e1, e2, e3, e4, r⟩
    · exact ⟨w, fun _ _ _ => rfl, fun a q => absurd rfl q, wf', .inl ⟨e1, e2⟩⟩
    · obtain ⟨a1, a2, a3⟩ := one p _ e3 e4 rfl
      refine ⟨_, a1, a2, a3, .inr ⟨p, vs, ds, e1, e2, e4, by show (if p = p then some t else w p) = some t; rw [if_pos rfl], r.any fun a z => ?_⟩⟩
      show (if a = p then some t else w a) = none
      rw [if_neg z.2]
      exact z.1
  | t2 =>
    obtain ⟨p, a, b, vs, us, ds, es, e1, e2, e3, ab, e4, e5, r1, e6, e7, r2⟩ := h
    have ba : b ≠ a := fun z => ab z.symm
    refine ⟨fun x => if x = a then some t else if x = b then some n else w x, fun x o e => ?_, fun x q => ?_, fun x l e => ?_, p, a, b, vs, us, ds, es, e1, e2, e3, e5, ?_, r1.any fun x z => ?_, e7, ?_, r2.any fun x z => ?_⟩
    · show (if x = a then some t else if x = b then some n else w x) = w x
      rw [if_neg (ne_of_none e e4), if_neg (ne_of_none e e6)]
    · by_cases h1 : x = a
      · left
        show (if x = a then some t else _) = some t
        rw [if_pos h1]
      · by_cases h2 : x = b
        · right
          show (if x = a then some t else if x = b then some n else w x) = some n
          rw [if_neg h1, if_pos h2]
        · exfalso
          apply q
          show (if x = a then some t else if x = b then some n else w x) = w x
          rw [if_neg h1, if_neg h2]
    · by_cases h1 : x = a
      · exact ⟨_, h1 ▸ e5, rfl⟩
      · by_cases h2 : x = b
        · exact ⟨_, h2 ▸ e7, rfl⟩
        · have e' : (if x = a then some t else if x = b then some n else w x) = some l := e
          rw [if_neg h1, if_neg h2] at e'
          exact wf' x l e'
    · show (if a = a then some t else _) = some t
      rw [if_pos rfl]
    · show (if x = a then some t else if x = b then some n else w x) = none
      rw [if_neg z.2.1, if_neg z.2.2]
      exact z.1
    · show (if b = a then some t else if b = b then some n else w b) = some n
      rw [if_neg ba, if_pos rfl]
    · show (if x = a then some t else if x = b then some n else w x) = none
      rw [if_neg z.2.1, if_neg z.2.2]
      exact z.1
  | l2 =>
    obtain ⟨p, as, dss, e1, e2, e3, e4, nd, np, hl, r⟩ := h
    have ra : ∀ a ∈ as, H a = none ∧ ∃ vs, H' a = some (.lst vs) := fun a ha => by
      obtain ⟨j, hj⟩ := List.getElem?_of_mem ha
      have hlt := (List.getElem?_eq_some_iff.mp hj).1
      obtain ⟨f1, vs, f2, _⟩ := r j a dss[j] hj (List.getElem?_eq_getElem (by rw [← hl]; exact hlt))
      exact ⟨f1, vs, f2⟩
    refine ⟨fun a => if a = p then some t else if a ∈ as then some n else w a, fun a o e => ?_, fun a q => ?_, fun a l e => ?_, p, as, dss, e1, e2, e4, ?_, nd, hl, fun j a ds h1 h2 => ?_⟩
    · show (if a = p then some t else if a ∈ as then some n else w a) = w a
      rw [if_neg (ne_of_none e e3), if_neg fun ha => by rw [(ra a ha).1] at e; cases e]
    · by_cases hp : a = p
      · left
        show (if a = p then some t else _) = some t
        rw [if_pos hp]
      · by_cases ha : a ∈ as
        · right
          show (if a = p then some t else if a ∈ as then some n else w a) = some n
          rw [if_neg hp, if_pos ha]
        · exfalso
          apply q
          show (if a = p then some t else if a ∈ as then some n else w a) = w a
          rw [if_neg hp, if_neg ha]
    · by_cases hp : a = p
      · exact ⟨_, hp ▸ e4, rfl⟩
      · by_cases ha : a ∈ as
        · obtain ⟨_, vs, q⟩ := ra a ha
          exact ⟨_, q, rfl⟩
        · have e' : (if a = p then some t else if a ∈ as then some n else w a) = some l := e
          rw [if_neg hp, if_neg ha] at e'
          exact wf' a l e'
    · show (if p = p then some t else _) = some t
      rw [if_pos rfl]
    · obtain ⟨f1, vs, f2, f3⟩ := r j a ds h1 h2
      have ha : a ∈ as := List.mem_of_getElem? h1
      have hap : a ≠ p := fun z => np (z ▸ ha)
      refine ⟨vs, f2, ?_, f3.any fun b z => ?_⟩
      · show (if a = p then some t else if a ∈ as then some n else w a) = some n
        rw [if_neg hap, if_pos ha]
      · show (if b = p then some t else if b ∈ as then some n else w b) = none
        rw [if_neg z.2.1, if_neg z.2.2]
        exact z.1
theorem StOk.setOw {i : Nat} {k : Kd} {d : D} {v : V} (h : StOk cl H w ms σ env) (s : Same H H') (r : FrK cl H H' w k d v) : ∃ w', StOk cl H' w' (ms.set i (.ow k)) (σ.set i (some v)) (env.set i d) ∧ Kp H w H' w' := by
  obtain ⟨w', h1, h2, h3, h4⟩ := FrK.label h.wf s r (.ow i 0) (.ow i 1)
  have st := h.relabel s h1 h3
  refine ⟨w', ⟨h3, by simp [h.ls], by simp [h.le], fun j m e n => ?_⟩, ⟨⟨fun a o e q => ⟨s a o e, (h1 a o e).trans q⟩, fun a o e q => ⟨s a o e, (h1 a o e).trans q⟩⟩, fun a x y => ?_⟩⟩
  · by_cases hj : j = i
    · subst hj
      have hl : j < ms.length := by
        have := (List.getElem?_eq_some_iff.mp e).1
        simpa using this
      rw [List.getElem?_set_self hl] at e
      cases e
      exact ⟨v, d, List.getElem?_set_self (by rw [h.ls]; exact hl), List.getElem?_set_self (by rw [h.le]; exact hl), h4⟩
    · rw [List.getElem?_set_ne (Ne.symm hj)] at e
      obtain ⟨v', d', a, b, o⟩ := st.sl j m e n
      exact ⟨v', d', by rw [List.getElem?_set_ne (Ne.symm hj)]; exact a, by rw [List.getElem?_set_ne (Ne.symm hj)]; exact b, o⟩
  · by_cases q : w' a = w a
    · rw [q]
    · constructor
      · intro z
        rcases h2 a q with e | e <;> (rw [z] at e; cases e)
      · intro z
        obtain ⟨o, e, _⟩ := h.wf a _ z
        rw [h1 a o e]
        exact z

/-! ### statements -/
def sSeq (a b : List D → Option Out) : List D → Option Out := fun env => match a env with
  | some (.nx e) => b e
  | o => o
def sX (r : M D) (env : List D) (k : D → Option Out) : Option Out := match r with
  | some (.ok d) => k d
  | some (.ex c) => some (.ex c env)
  | none => none
@[simp] theorem sX_ok {env : List D} {k : D → Option Out} {d : D} : sX (some (.ok d)) env k = k d := rfl
@[simp] theorem sX_ex {env : List D} {k : D → Option Out} {d : String} : sX (some (.ex d)) env k = some (.ex d env) := rfl
def sSet (i : Nat) (f : List D → M D) : List D → Option Out := fun env => sX (f env) env fun d => some (.nx (env.set i d))
def sRet (f : List D → M D) : List D → Option Out := fun env => sX (f env) env fun d => some (.rt d env)
def sNext : List D → Option Out := fun env => some (.nx env)
def sBrk : List D → Option Out := fun env => some (.bk env)
def sCnt : List D → Option Out := fun env => some (.ct env)
def sDrop (f : List D → M D) : List D → Option Out := fun env => sX (f env) env fun _ => some (.nx env)
def sIf (t : List D → M Bool) (a b : List D → Option Out) : List D → Option Out := fun env => match t env with
  | some (.ok true) => a env
  | some (.ok false) => b env
  | some (.ex c) => some (.ex c env)
  | none => none
/-- run an expression at the head of a statement -/
theorem SE.stm (h : SE cl W ms c te f) (st : StOk cl H w ms σ env) {k : D → Option Out} {o : Out} (e : sX (f env) env k = some o) {D : Ends} (hx : wk ms m.ex = true) (p : Post cl W m H w D o) {Q : VK}
    (q : ∀ d H' v, Same H H' → Res cl H H' w c d v → k d = some o → Q v H') : te σ H Q := by
  cases e1 : f env with
  | none => rw [e1] at e; cases e
  | some r1 =>
    rw [e1] at e
    cases r1 with
    | ex y =>
      cases e
      refine h H w σ env st _ e1 (fun z hz H' s => ?_) Q fun d hd => nomatch hd
      cases hz
      exact p H' w σ ((st.same s).weak hx) (Kp.same s)
    | ok d =>
      refine h H w σ env st _ e1 (fun z hz => nomatch hz) Q fun d' hd H' v s r' => ?_
      cases hd
      exact q d H' v s r' e
theorem ss_seq {t1 t2 : TS} {g1 g2 : List D → Option Out} (ms1 : List Mo) (h1 : SS cl W ms { m with nx := ms1 } t1 g1) (h2 : SS cl W ms1 m t2 g2) : SS cl W ms m (tSeq t1 t2) (sSeq g1 g2) := by
  intro H w σ env st o e D p
  cases e1 : g1 env with
  | none => unfold sSeq at e; rw [e1] at e; cases e
  | some o1 =>
    refine h1 H w σ env st o1 e1 _ ?_
    unfold sSeq at e
    rw [e1] at e
    cases o1 with
    | nx e2 => exact fun H' w' σ' st' k => h2 H' w' σ' e2 st' o e D (p.trans k)
    | rt d e2 => cases e; exact p
    | bk e2 => cases e; exact p
    | ct e2 => cases e; exact p
    | ex x e2 => cases e; exact p
theorem ss_set {i : Nat} (hc : toPu c = true) (h : SE cl W ms c te f) (hx : wk ms m.ex = true) (hn : wk (ms.set i .pu) m.nx = true) : SS cl W ms m (tAsg te (gName i)) (sSet i f) := by
  intro H w σ env st o e D p
  refine h.stm st e hx p fun d H' v s r e => ?_
  cases e
  exact p H' w _ (((st.same s).setPu (r.pu st.wf hc)).weak hn) (Kp.same s)
theorem ss_setLo {i : Nat} (hc : toLo c = true) (h : SE cl W ms c te f) (hx : wk ms m.ex = true) (hn : wk (ms.set i .lo) m.nx = true) : SS cl W ms m (tAsg te (gName i)) (sSet i f) := by
  intro H w σ env st o e D p
  refine h.stm st e hx p fun d H' v s r e => ?_
  cases e
  exact p H' w _ (((st.same s).setLo (r.lo st.wf hc)).weak hn) (Kp.same s)
theorem ss_setO {i : Nat} {k : Kd} (h : SE cl W ms (.fr k) te f) (hx : wk ms m.ex = true) (hn : wk (ms.set i (.ow k)) m.nx = true) : SS cl W ms m (tAsg te (gName i)) (sSet i f) := by
  intro H w σ env st o e D p
  refine h.stm st e hx p fun d H' v s r e => ?_
  cases e
  obtain ⟨w', st', k'⟩ := st.setOw (i := i) s r
  exact p H' w' _ (st'.weak hn) k'
theorem ss_ret (hc : toPu c = true) (h : SE cl W ms c te f) (hx : wk ms m.ex = true) (hr : wk ms m.rt = true) (hm : m.rc = .pu := by rfl) : SS cl W ms m (tRet te) (sRet f) := by
  intro H w σ env st o e D p
  refine h.stm st e hx p fun d H' v s r e => ?_
  cases e
  exact p H' w _ v ((st.same s).weak hr) (Kp.same s) (by rw [hm]; exact r.pu st.wf hc)
theorem ss_retN (hr : wk ms m.rt = true) (hm : m.rc = .pu := by rfl) : SS cl W ms m tRetN (fun env => some (.rt .non env)) := by
  intro H w σ env st o e D p
  cases e
  exact p H w σ .non (st.weak hr) Kp.refl (by rw [hm]; exact .non)
/-- return x, x an owned slot -/
theorem ss_retO {i : Nat} {k : Kd} (hi : ms[i]? = some (.ow k)) (hr : wk ms m.rt = true) (hm : m.rc = .fr k := by rfl) : SS cl W ms m (tRet (tVar i)) (sRet (eVar i)) := by
  intro H w σ env st o e D p
  obtain ⟨v, d, a, b, r⟩ := st.sl i _ hi (by intro z; cases z)
  unfold sRet eVar at e
  rw [b] at e
  cases e
  exact ⟨v, a, p H w σ v (st.weak hr) Kp.refl (by rw [hm]; exact ⟨i, 0, r⟩)⟩
/-- return of something fresh -/
theorem ss_retF {k : Kd} (h : SE cl W ms (.fr k) te f) (hx : wk ms m.ex = true) (hr : wk ms m.rt = true) (hm : m.rc = .fr k := by rfl) : SS cl W ms m (tRet te) (sRet f) := by
  intro H w σ env st o e D p
  refine h.stm st e hx p fun d H' v s r e => ?_
  cases e
  obtain ⟨w', h1, h2, h3, h4⟩ := FrK.label st.wf s r (.ow 0 0) (.ow 0 1)
  refine p H' w' _ v ((st.relabel s h1 h3).weak hr) ⟨⟨fun a o e q => ⟨s a o e, (h1 a o e).trans q⟩, fun a o e q => ⟨s a o e, (h1 a o e).trans q⟩⟩, fun a x y => ?_⟩ (by rw [hm]; exact ⟨0, 0, h4⟩)
  by_cases q : w' a = w a
  · rw [q]
  · constructor
    · intro z
      rcases h2 a q with e | e <;> (rw [z] at e; cases e)
    · intro z
      obtain ⟨o, e, _⟩ := st.wf a _ z
      rw [h1 a o e]
      exact z
theorem ss_next (hn : wk ms m.nx = true) : SS cl W ms m tNext sNext := fun H w σ env st o e D p => by
  cases e
  exact p H w σ (st.weak hn) Kp.refl
theorem ss_break (hn : wk ms m.bk = true) : SS cl W ms m tBreak sBrk := fun H w σ env st o e D p => by
  cases e
  exact p H w σ (st.weak hn) Kp.refl
theorem ss_cont (hn : wk ms m.ct = true) : SS cl W ms m tCont sCnt := fun H w σ env st o e D p => by
  cases e
  exact p H w σ (st.weak hn) Kp.refl
theorem ss_drop (h : SE cl W ms c te f) (hx : wk ms m.ex = true) (hn : wk ms m.nx = true) : SS cl W ms m (tDrop te) (sDrop f) := by
  intro H w σ env st o e D p
  refine h.stm st e hx p fun d H' v s r e => ?_
  cases e
  exact p H' w _ ((st.same s).weak hn) (Kp.same s)
theorem ss_if {t : TT} {ft : List D → M Bool} {t1 t2 : TS} {g1 g2 : List D → Option Out} (ht : SEt cl W ms t ft) (h1 : SS cl W ms m t1 g1) (h2 : SS cl W ms m t2 g2) (hx : wk ms m.ex = true) : SS cl W ms m (tIfS t t1 t2) (sIf ft g1 g2) := by
  intro H w σ env st o e D p
  unfold sIf at e
  cases e1 : ft env with
  | none => rw [e1] at e; cases e
  | some r1 =>
    rw [e1] at e
    cases r1 with
    | ex y =>
      cases e
      refine ht H w σ env st _ e1 (fun z hz H' s => ?_) _ fun d hd => nomatch hd
      cases hz
      exact p H' w σ ((st.same s).weak hx) (Kp.same s)
    | ok b =>
      refine ht H w σ env st _ e1 (fun z hz => nomatch hz) _ fun d' hd H' s => ?_
      cases hd
      cases b with
      | true =>
        show (if true = true then t1 D σ H' else t2 D σ H')
        rw [if_pos rfl]
        exact h1 H' w σ env (st.same s) o e D (p.trans (Kp.same s))
      | false =>
        show (if false = true then t1 D σ H' else t2 D σ H')
        rw [if_neg Bool.false_ne_true]
        exact h2 H' w σ env (st.same s) o e D (p.trans (Kp.same s))
end
end Mv

namespace Mv
open PySem L2
variable {cl : Nv}
section
variable {H H' H1 : Hp} {w w' : Om} {ms ms' : List Mo} {σ : L2.St} {env : List D} {W : WX} {m : Md} {c c1 c2 : RC} {te ta tb ti : TE} {f g fi : List D → M D} {K : PySem.W.Frag}

/-- an object of slot i is written -/
theorem StOk.mut {i x : Nat} {mo : Mo} {p : Addr} {o' : HO} {d d' : D} {v : V} (h : StOk cl H w ms σ env) (hm : ms[i]? = some mo) (hu : mo ≠ .un) (hs : σ[i]? = some (some v)) (he : env[i]? = some d)
    (hp : w p = some (.ow i x) ∨ w p = some (.bo i x)) (nt : isTup o' = false) (own : Keep H w (upd H p o') w → Own cl (upd H p o') w i mo d' v) : StOk cl (upd H p o') w ms σ (env.set i d') ∧ Kp H w (upd H p o') w := by
  have np : w p ≠ none := by rcases hp with q | q <;> (rw [q]; intro z; cases z)
  have nf : w p ≠ some .fo := by rcases hp with q | q <;> (rw [q]; intro z; cases z)
  have k : Keep H w (upd H p o') w := by
    refine ⟨fun a o e q => ⟨?_, q⟩, fun a o e q => ⟨?_, q⟩⟩
    · rw [upd_ne fun z : a = p => np (z ▸ q)]; exact e
    · rw [upd_ne fun z : a = p => nf (z ▸ q)]; exact e
  refine ⟨⟨fun a l e => ?_, h.ls, by simp [h.le], fun j mj e n => ?_⟩, ⟨k, fun _ _ _ => Iff.rfl⟩⟩
  · by_cases ha : a = p
    · subst ha; exact ⟨o', upd_same, nt⟩
    · rw [upd_ne ha]; exact h.wf a l e
  · by_cases hj : j = i
    · subst hj
      rw [hm] at e
      cases e
      have hl : j < env.length := (List.getElem?_eq_some_iff.mp he).1
      exact ⟨v, d', hs, List.getElem?_set_self hl, own k⟩
    · obtain ⟨v', e', a, b, o⟩ := h.sl j mj e n
      refine ⟨v', e', a, by rw [List.getElem?_set_ne (Ne.symm hj)]; exact b, o.keep k h.wf fun a oa y hy ea => ⟨?_, rfl⟩⟩
      rw [upd_ne ?_]
      · exact ea
      · intro z
        subst z
        rcases hy with q | q <;> rcases hp with q2 | q2 <;> (rw [q] at q2; injection q2 with q3; first | (injection q3 with q4; exact hj q4) | cases q3)
theorem own_l1' {i : Nat} {mo : Mo} (hm : mo = .ow .l1 ∨ mo = .bo .l1) {d : D} {v : V} (o : Own cl H w i mo d v) : ∃ p vs ds, v = .ref p ∧ d = .lst ds ∧ H p = some (.lst vs) ∧ (w p = some (.ow i 0) ∨ w p = some (.bo i 0)) ∧ RepL cl H (Fz w) ds vs ∧
    ∀ (vs' : List V) (ds' : List D), Keep H w (upd H p (.lst vs')) w → RepL cl (upd H p (.lst vs')) (Fz w) ds' vs' → Own cl (upd H p (.lst vs')) w i mo (.lst ds') (.ref p) := by
  rcases hm with rfl | rfl
  · obtain ⟨p, vs, ds, e1, e2, e3, e4, r⟩ := o
    exact ⟨p, vs, ds, e1, e2, e3, .inl e4, r, fun vs' ds' _ r' => ⟨p, vs', ds', rfl, rfl, upd_same, e4, r'⟩⟩
  · obtain ⟨bk, p, vs, ds, e1, e2, e3, e4, r⟩ := o
    exact ⟨p, vs, ds, e1, e2, e3, .inr e4, r, fun vs' ds' _ r' => ⟨bk, p, vs', ds', rfl, rfl, upd_same, e4, r'⟩⟩
/-- slot i's list is written anew -/
theorem StOk.wr1 {i : Nat} {mo : Mo} (h : StOk cl H w ms σ env) (hm : ms[i]? = some mo) (hk : mo = .ow .l1 ∨ mo = .bo .l1) : ∃ p vs ds, σ[i]? = some (some (.ref p)) ∧ env[i]? = some (.lst ds) ∧ H p = some (.lst vs) ∧ RepL cl H (Fz w) ds vs ∧
    ∀ (H1 : Hp), Same H H1 → ∀ (vs' : List V) (ds' : List D), RepL cl H1 (Fz w) ds' vs' → StOk cl (upd H1 p (.lst vs')) w ms σ (env.set i (.lst ds')) ∧ Kp H w (upd H1 p (.lst vs')) w := by
  have hu : mo ≠ .un := by rcases hk with rfl | rfl <;> (intro z; cases z)
  obtain ⟨v, d, a, b, o⟩ := h.sl i mo hm hu
  obtain ⟨p, vs, ds, rfl, rfl, e3, e4, r, _⟩ := own_l1' hk o
  refine ⟨p, vs, ds, a, b, e3, r, fun H1 s vs' ds' r' => ?_⟩
  have st1 := h.same s
  obtain ⟨v1, d1, a1, b1, o1⟩ := st1.sl i mo hm hu
  rw [a] at a1
  cases a1
  obtain ⟨p1, _, _, q1, _, _, q4, _, mk⟩ := own_l1' hk o1
  cases q1
  obtain ⟨z1, z2⟩ := st1.mut (o' := .lst vs') hm hu a b q4 rfl fun k => mk vs' ds' k (k.repL st1.wf r')
  exact ⟨z1, (Kp.same s).trans z2⟩
/-! ### xs.append(e), xs.pop(), x = xs.pop(i), xs[i] = e -/
def sApp (i : Nat) (f : List D → M D) : List D → Option Out := fun env => sX (f env) env fun d => match env[i]? with
  | some (.lst ds) => if ds.length < LIM then some (.nx (env.set i (.lst (ds ++ [d])))) else none
  | _ => none
theorem ss_app {i : Nat} {mo : Mo} (hm : ms[i]? = some mo) (hk : mo = .ow .l1 ∨ mo = .bo .l1) (hc : toPu c = true) (h : SE cl W ms c te f) (hx : wk ms m.ex = true) (hn : wk ms m.nx = true) :
    SS cl W ms m (tDrop (tBM K "list" rAppend (tVar i) (tCons te tNil))) (sApp i f) := by
  intro H w σ env st o e D p
  obtain ⟨a, vs, ds, hs, he, hH, r, wr⟩ := st.wr1 hm hk
  refine ⟨_, hs, .inl ⟨rfl, _, .inl (.inl hH)⟩, ?_⟩
  refine h.stm st e hx p fun d H' v s rr e => ?_
  rw [he] at e
  simp only at e
  split at e
  · rename_i hl
    cases e
    have rp := rr.pu st.wf hc
    refine ⟨a, vs, v, rfl, rfl, s _ _ hH, by rw [← r.length]; exact LIM_lt (Nat.le_of_lt hl), ?_⟩
    obtain ⟨z1, z2⟩ := wr H' s (vs ++ [v]) (ds ++ [d]) ((r.same s fun _ z => z).append (.cons rp .nil))
    exact p _ _ _ (z1.weak hn) z2
  · cases e
def sPop (i : Nat) : List D → Option Out := fun env => match env[i]? with
  | some (.lst ds) => if ds.length = 0 then none else some (.nx (env.set i (.lst ds.dropLast)))
  | _ => none
theorem ss_pop {i : Nat} {mo : Mo} (hm : ms[i]? = some mo) (hk : mo = .ow .l1 ∨ mo = .bo .l1) (hn : wk ms m.nx = true) :
    SS cl W ms m (tDrop (tBM0 K "list" rPop (tVar i))) (sPop i) := by
  intro H w σ env st o e D p
  obtain ⟨a, vs, ds, hs, he, hH, r, wr⟩ := st.wr1 hm hk
  refine ⟨_, hs, .inl ⟨rfl, _, .inl (.inl hH)⟩, ?_⟩
  unfold sPop at e
  rw [he] at e
  simp only at e
  split at e
  · cases e
  · rename_i hl
    cases e
    have hv : vs.length ≠ 0 := by rw [← r.length]; exact hl
    refine ⟨a, vs, vs[vs.length - 1], rfl, rfl, hH, List.getElem?_eq_getElem (by omega), ?_⟩
    obtain ⟨z1, z2⟩ := wr H (Same.refl H) vs.dropLast ds.dropLast r.dropLast
    exact p _ _ _ (z1.weak hn) z2
/-- x = xs.pop(), x in slot j -/
def sPopTo (j i : Nat) : List D → Option Out := fun env => match env[i]? with
  | some (.lst ds) => match ds[ds.length - 1]? with
    | some d => some (.nx ((env.set i (.lst ds.dropLast)).set j d))
    | none => none
  | _ => none
theorem ss_popTo {i j : Nat} {mo : Mo} (hm : ms[i]? = some mo) (hk : mo = .ow .l1 ∨ mo = .bo .l1) (hn : wk (ms.set j .pu) m.nx = true) :
    SS cl W ms m (tAsg (tBM0 K "list" rPop (tVar i)) (gName j)) (sPopTo j i) := by
  intro H w σ env st o e D p
  obtain ⟨a, vs, ds, hs, he, hH, r, wr⟩ := st.wr1 hm hk
  refine ⟨_, hs, .inl ⟨rfl, _, .inl (.inl hH)⟩, ?_⟩
  unfold sPopTo at e
  rw [he] at e
  simp only at e
  split at e
  · rename_i d hd
    cases e
    obtain ⟨v, hv, rv⟩ := r.get hd
    refine ⟨a, vs, v, rfl, rfl, hH, by rw [← r.length]; exact hv, ?_⟩
    obtain ⟨z1, z2⟩ := wr H (Same.refl H) vs.dropLast ds.dropLast r.dropLast
    exact p _ _ _ ((z1.setPu (z2.keep.rep st.wf rv)).weak hn) z2
  · cases e
/-- x = xs.pop(e) -/
def sPopAt (j i : Nat) (f : List D → M D) : List D → Option Out := fun env => sX (f env) env fun q => match env[i]?, q with
  | some (.lst ds), .int k => if -(2 ^ 63) ≤ k ∧ k < 2 ^ 63 then match ixN ds.length k with
    | some n => match ds[n]? with
      | some d => some (.nx ((env.set i (.lst (ds.eraseIdx n))).set j d))
      | none => none
    | none => none else none
  | _, _ => none
theorem ss_popAt {i j : Nat} {mo : Mo} (hm : ms[i]? = some mo) (hk : mo = .ow .l1 ∨ mo = .bo .l1) (h : SE cl W ms c te f) (hx : wk ms m.ex = true) (hn : wk (ms.set j .pu) m.nx = true) :
    SS cl W ms m (tAsg (tBM K "list" rPopAt (tVar i) (tCons te tNil)) (gName j)) (sPopAt j i f) := by
  intro H w σ env st o e D p
  obtain ⟨a, vs, ds, hs, he, hH, r, wr⟩ := st.wr1 hm hk
  refine ⟨_, hs, .inl ⟨rfl, _, .inl (.inl hH)⟩, ?_⟩
  refine h.stm st e hx p fun q H' v s rr e => ?_
  rw [he] at e
  have rq := rr.an st.wf
  cases rq with
  | int k =>
    simp only at e
    split at e
    · rename_i hb
      split at e
      · rename_i n hn'
        split at e
        · rename_i d hd
          cases e
          obtain ⟨v, hv, rv⟩ := r.get hd
          refine ⟨a, vs, k, n, v, rfl, rfl, s _ _ hH, hb.1, hb.2, (ixN_seq (by rw [← r.length]; exact hn')).1, hv, ?_⟩
          obtain ⟨z1, z2⟩ := wr H' s (vs.eraseIdx n) (ds.eraseIdx n) ((r.same s fun _ z => z).eraseIdx n)
          exact p _ _ _ ((z1.setPu (z2.keep.rep st.wf rv)).weak hn) z2
        · cases e
      · cases e
    · cases e
  | _ => simp only at e; cases e
/-- xs[k] = e -/
def sSetIx (i : Nat) (fi f : List D → M D) : List D → Option Out := fun env => sX (f env) env fun d => sX (fi env) env fun q => match env[i]?, q with
  | some (.lst ds), .int k => match ixN ds.length k with
    | some n => some (.nx (env.set i (.lst (ds.set n d))))
    | none => none
  | _, _ => none
theorem ss_setIx {i : Nat} {mo : Mo} (hm : ms[i]? = some mo) (hk : mo = .ow .l1 ∨ mo = .bo .l1) (hc : toPu c = true) (h : SE cl W ms c te f) (hi : SE cl W ms c2 ti fi) (hx : wk ms m.ex = true) (hn : wk ms m.nx = true) :
    SS cl W ms m (tAsg te (gSub (tVar i) ti rSetL)) (sSetIx i fi f) := by
  intro H w σ env st o e D p
  refine h.stm st e hx p fun d H1 v s1 rr e => ?_
  obtain ⟨a, vs, ds, hs, he, hH, r, wr⟩ := st.wr1 hm hk
  refine ⟨_, hs, ?_⟩
  refine hi.stm (st.same s1) e hx (p.trans (Kp.same s1)) fun q H2 u s2 rq e => ?_
  rw [he] at e
  have rq' := rq.an (st.wf.same s1)
  cases rq' with
  | int k =>
    simp only at e
    split at e
    · rename_i n hn'
      cases e
      have s12 := s1.trans s2
      refine ⟨a, vs, k, n, rfl, rfl, s12 _ _ hH, by rw [← r.length]; exact hn', ?_⟩
      obtain ⟨z1, z2⟩ := wr H2 s12 (vs.set n v) (ds.set n d) (RepL.set ((rr.pu st.wf hc).same s2 fun _ z => z) n (r.same s12 fun _ z => z))
      exact p _ _ _ (z1.weak hn) z2
    · cases e
  | _ => simp only at e; cases e

/-! ### loops -/
def forF (i : Nat) (b : List D → Option Out) : List D → List D → Option Out
  | [], env => some (.nx env)
  | d :: ds, env => match b (env.set i d) with
    | some (.nx e) => forF i b ds e
    | some (.ct e) => forF i b ds e
    | some (.bk e) => some (.nx e)
    | o => o
def sFor (i : Nat) (f : List D → M D) (b : List D → Option Out) : List D → Option Out := fun env => sX (f env) env fun d => match d with
  | .lst ds => forF i b ds env
  | _ => none
/-- how an item is bound -/
def bmo : RC → Mo
  | .lo => .lo
  | _ => .pu
theorem loop_core {tb : TS} {b : List D → Option Out} {i : Nat} {P0 : Om → Addr → Prop} {bm : Mo} (ml : List Mo)
    (hset : ∀ {H w σ env d v}, StOk cl H w ml σ env → Rep cl H (P0 w) d v → StOk cl H w (ml.set i bm) (σ.set i (some v)) (env.set i d))
    (hP : ∀ {H w H' w'}, Wf H w → Kp H w H' w' → ∀ {d v}, Rep cl H (P0 w) d v → Rep cl H' (P0 w') d v)
    (hb : SS cl W (ml.set i bm) { m with nx := ml, ct := ml, bk := m.nx } tb b) (hn : wk ml m.nx = true)
    {H w σ env} (st : StOk cl H w ml σ env) {a : Addr} {vs : List V} {ds : List D} (hH : Rep cl H (P0 w) (.lst ds) (.ref a)) {o : Out} (e : forF i b ds env = some o) {D : Ends} (p : Post cl W m H w D o) :
    ∃ Wn : Nat → Nat → L2.St → Hp → Prop, (∃ n, Wn 0 n σ H) ∧ ∀ k n σ' H', Wn k n σ' H' →
      ((Itl K a).stop k H' ∧ D.nx σ' H') ∨ ((Itl K a).go k H' ∧ ∃ N : L2.St → Hp → Prop, (∀ σ2 H2, N σ2 H2 → ∃ n', n' < n ∧ Wn (k + 1) n' σ2 H2) ∧ ∀ x H2, (Itl K a).yld k H' x H2 → gName i x σ' H2 fun σ3 H3 => tb { D with nx := N, ct := N, bk := D.nx } σ3 H3) := by
  let Wn : Nat → Nat → L2.St → Hp → Prop := fun k n σ' H' => n + k = ds.length ∧ ∃ w' env', StOk cl H' w' ml σ' env' ∧ Kp H w H' w' ∧ forF i b (ds.drop k) env' = some o
  refine ⟨Wn, ⟨ds.length, by simp, w, env, st, Kp.refl, by simpa using e⟩, fun k n σ' H' hW => ?_⟩
  obtain ⟨hk, w', env', st', kp, e'⟩ := hW
  have rep' := hP st.wf kp hH
  cases rep' with
  | @lst _ vs' _ h1 hp ra =>
    by_cases hlt : k < ds.length
    · right
      have hd : ds[k]? = some ds[k] := List.getElem?_eq_getElem hlt
      obtain ⟨v, hv, rv⟩ := ra.get hd
      refine ⟨⟨vs', v, .inl (.inl h1), hv⟩, fun σ2 H2 => Wn (k + 1) (n - 1) σ2 H2, fun σ2 H2 h => ⟨n - 1, by omega, h⟩, fun x H2 y => ?_⟩
      obtain ⟨rfl, y⟩ := y
      have hx := y vs' (.inl (.inl h1))
      rw [hv] at hx
      cases hx
      rw [List.drop_eq_getElem_cons hlt] at e'
      unfold forF at e'
      have st3 := hset st' rv
      cases e2 : b (env'.set i ds[k]) with
      | none => rw [e2] at e'; cases e'
      | some o2 =>
        rw [e2] at e'
        refine hb H2 w' _ _ st3 o2 e2 _ ?_
        cases o2 with
        | nx e3 => exact fun H3 w3 σ3 st3 k3 => ⟨by omega, w3, e3, st3, kp.trans k3, e'⟩
        | ct e3 => exact fun H3 w3 σ3 st3 k3 => ⟨by omega, w3, e3, st3, kp.trans k3, e'⟩
        | bk e3 => cases e'; exact p.trans kp
        | rt d e3 => cases e'; exact p.trans kp
        | ex c e3 => cases e'; exact p.trans kp
    · left
      have hz : ds.drop k = [] := List.drop_eq_nil_of_le (by omega)
      rw [hz] at e'
      cases e'
      exact ⟨⟨vs', .inl (.inl h1), by rw [← ra.length]; omega⟩, p H' w' σ' (st'.weak hn) kp⟩
theorem ss_for {tb : TS} {b : List D → Option Out} {i : Nat} (ml : List Mo) (hc : toPu c = true) (h : SE cl W ms c te f) (hx : wk ms m.ex = true) (hl : wk ms ml = true) (hn : wk ml m.nx = true)
    (hb : SS cl W (ml.set i .pu) { m with nx := ml, ct := ml, bk := m.nx } tb b) : SS cl W ms m (tFor (iList K te) (gName i) tb) (sFor i f b) := by
  intro H w σ env st o e D p
  refine h.stm st e hx p fun d H1 v s1 rr e => ?_
  have rp := rr.pu st.wf hc
  cases rp with
  | @lst a vs ds h1 hp ra =>
    refine ⟨a, rfl, ⟨vs, .inl (.inl h1)⟩, loop_core (K := K) (P0 := fun w => Fz w) (bm := .pu) (vs := vs) ml (fun st r => st.setPu r) (fun wf k => fun r => k.keep.rep wf r) hb hn ((st.same s1).weak hl) (.lst h1 hp ra) e (p.trans (Kp.same s1))⟩
  | _ => simp only at e; cases e
theorem ss_forLo {tb : TS} {b : List D → Option Out} {i : Nat} (ml : List Mo) (hc : toLo c = true) (h : SE cl W ms c te f) (hx : wk ms m.ex = true) (hl : wk ms ml = true) (hn : wk ml m.nx = true)
    (hb : SS cl W (ml.set i .lo) { m with nx := ml, ct := ml, bk := m.nx } tb b) : SS cl W ms m (tFor (iList K te) (gName i) tb) (sFor i f b) := by
  intro H w σ env st o e D p
  refine h.stm st e hx p fun d H1 v s1 rr e => ?_
  have rp := rr.lo st.wf hc
  cases rp with
  | @lst a vs ds h1 hp ra =>
    refine ⟨a, rfl, ⟨vs, .inl (.inl h1)⟩, loop_core (K := K) (P0 := fun w => Lf w) (bm := .lo) (vs := vs) ml (fun st r => st.setLo r) (fun wf k => fun r => k.keep.repLo wf r) hb hn ((st.same s1).weak hl) (.lst h1 hp ra) e (p.trans (Kp.same s1))⟩
  | _ => simp only at e; cases e
/-! ### range -/
def rngL (lo : Int) : Nat → List D
  | 0 => []
  | n + 1 => .int lo :: rngL (lo + 1) n
theorem rngL_get : ∀ (n : Nat) (lo : Int) (k : Nat), k < n → (rngL lo n).drop k = .int (lo + k) :: (rngL lo n).drop (k + 1)
  | 0, _, _, h => absurd h (Nat.not_lt_zero _)
  | n + 1, lo, 0, _ => by simp [rngL]
  | n + 1, lo, k + 1, h => by
    have := rngL_get n (lo + 1) k (Nat.lt_of_succ_lt_succ h)
    show (rngL (lo + 1) n).drop k = _
    rw [this]
    have e : lo + 1 + (k : Int) = lo + ((k + 1 : Nat) : Int) := by push_cast; omega
    rw [e]
    rfl
theorem rngL_len : ∀ (n : Nat) (lo : Int), (rngL lo n).length = n
  | 0, _ => rfl
  | n + 1, lo => congrArg (· + 1) (rngL_len n (lo + 1))
/-- for i in range(..) with the bounds as arguments -/
def sRng (i : Nat) (fs : List (List D → M D)) (b : List D → Option Out) : List D → Option Out := fun env => match eArgs fs env with
  | some (.ok [.int j]) => if -(2 ^ 62) ≤ j ∧ j < 2 ^ 62 then forF i b (rngL 0 j.toNat) env else none
  | some (.ok [.int l, .int j]) => if -(2 ^ 62) ≤ l ∧ l < 2 ^ 62 ∧ -(2 ^ 62) ≤ j ∧ j < 2 ^ 62 then forF i b (rngL l (j - l).toNat) env else none
  | some (.ex c) => some (.ex c env)
  | _ => none
theorem range_core {tb : TS} {b : List D → Option Out} {i : Nat} (ml : List Mo) (hb : SS cl W (ml.set i .pu) { m with nx := ml, ct := ml, bk := m.nx } tb b) (hn : wk ml m.nx = true)
    {H w σ env} (st : StOk cl H w ml σ env) {lo : Int} {q : Nat} {o : Out} (e : forF i b (rngL lo q) env = some o) {D : Ends} (p : Post cl W m H w D o) :
    ∃ Wn : Nat → Nat → L2.St → Hp → Prop, (∃ n, Wn 0 n σ H) ∧ ∀ k n σ' H', Wn k n σ' H' →
      ((Itr lo q).stop k H' ∧ D.nx σ' H') ∨ ((Itr lo q).go k H' ∧ ∃ N : L2.St → Hp → Prop, (∀ σ2 H2, N σ2 H2 → ∃ n', n' < n ∧ Wn (k + 1) n' σ2 H2) ∧ ∀ x H2, (Itr lo q).yld k H' x H2 → gName i x σ' H2 fun σ3 H3 => tb { D with nx := N, ct := N, bk := D.nx } σ3 H3) := by
  let Wn : Nat → Nat → L2.St → Hp → Prop := fun k n σ' H' => n + k = q ∧ ∃ w' env', StOk cl H' w' ml σ' env' ∧ Kp H w H' w' ∧ forF i b ((rngL lo q).drop k) env' = some o
  refine ⟨Wn, ⟨q, by simp, w, env, st, Kp.refl, by simpa using e⟩, fun k n σ' H' hW => ?_⟩
  obtain ⟨hk, w', env', st', kp, e'⟩ := hW
  by_cases hlt : k < q
  · right
    refine ⟨hlt, fun σ2 H2 => Wn (k + 1) (n - 1) σ2 H2, fun σ2 H2 h => ⟨n - 1, by omega, h⟩, fun x H2 y => ?_⟩
    obtain ⟨rfl, rfl⟩ := y
    rw [rngL_get q lo k hlt] at e'
    unfold forF at e'
    have st3 := st'.setPu (i := i) (Rep.int (cl := cl) (H := H2) (P := Fz w') (lo + (k : Int)))
    cases e2 : b (env'.set i (.int (lo + (k : Int)))) with
    | none => rw [e2] at e'; cases e'
    | some o2 =>
      rw [e2] at e'
      refine hb H2 w' _ _ st3 o2 e2 _ ?_
      cases o2 with
      | nx e3 => exact fun H3 w3 σ3 st3 k3 => ⟨by omega, w3, e3, st3, kp.trans k3, e'⟩
      | ct e3 => exact fun H3 w3 σ3 st3 k3 => ⟨by omega, w3, e3, st3, kp.trans k3, e'⟩
      | bk e3 => cases e'; exact p.trans kp
      | rt d e3 => cases e'; exact p.trans kp
      | ex c e3 => cases e'; exact p.trans kp
  · left
    have hz : (rngL lo q).drop k = [] := List.drop_eq_nil_of_le (by rw [rngL_len]; omega)
    rw [hz] at e'
    cases e'
    exact ⟨by show q ≤ k; omega, p H' w' σ' (st'.weak hn) kp⟩
theorem SEa.stm {cs : List RC} {fs : List (List D → M D)} {tr : TA} (h : SEa cl W ms cs tr (eArgs fs)) {H w σ env} (st : StOk cl H w ms σ env) {r : R (List D)} (e : eArgs fs env = some r) {D : Ends} {o : Out} (hx : wk ms m.ex = true) (p : ∀ x, r = .ex x → Post cl W m H w D (.ex x env)) {Q : List V → Hp → Prop}
    (q : ∀ ds H' vs, r = .ok ds → Same H H' → ResL cl H H' w cs ds vs → Q vs H') : tr σ H Q := by
  refine h H w σ env st r e (fun x hx' H' s => ?_) Q fun ds hd H' vs s rs => q ds H' vs hd s rs
  exact p x hx' H' w σ ((st.same s).weak hx) (Kp.same s)
theorem ss_rng1 {tb : TS} {b : List D → Option Out} {i : Nat} {fs : List (List D → M D)} {tr : TA} (ml : List Mo) (h : SEa cl W ms [c] tr (eArgs fs)) (hx : wk ms m.ex = true) (hl : wk ms ml = true) (hn : wk ml m.nx = true)
    (hb : SS cl W (ml.set i .pu) { m with nx := ml, ct := ml, bk := m.nx } tb b) : SS cl W ms m (tFor (iRng1 tr) (gName i) tb) (sRng i fs b) := by
  intro H w σ env st o e D p
  unfold sRng at e
  cases e1 : eArgs fs env with
  | none => rw [e1] at e; cases e
  | some r =>
    rw [e1] at e
    refine h.stm (m := m) (o := o) st e1 hx (fun x hx' => by subst hx'; cases e; exact p) fun ds H1 vs hd s1 rs => ?_
    subst hd
    obtain ⟨d, v, rfl, rfl, rr⟩ := rs.one st.wf
    cases rr with
    | int j =>
      simp only at e
      split at e
      · rename_i hb2
        exact ⟨j, rfl, hb2.1, hb2.2, range_core ml hb hn ((st.same s1).weak hl) e (p.trans (Kp.same s1))⟩
      · cases e
    | _ => simp only at e; cases e
theorem ss_rng2 {tb : TS} {b : List D → Option Out} {i : Nat} {fs : List (List D → M D)} {tr : TA} (ml : List Mo) (h : SEa cl W ms [c1, c2] tr (eArgs fs)) (hx : wk ms m.ex = true) (hl : wk ms ml = true) (hn : wk ml m.nx = true)
    (hb : SS cl W (ml.set i .pu) { m with nx := ml, ct := ml, bk := m.nx } tb b) : SS cl W ms m (tFor (iRng2 tr) (gName i) tb) (sRng i fs b) := by
  intro H w σ env st o e D p
  unfold sRng at e
  cases e1 : eArgs fs env with
  | none => rw [e1] at e; cases e
  | some r =>
    rw [e1] at e
    refine h.stm (m := m) (o := o) st e1 hx (fun x hx' => by subst hx'; cases e; exact p) fun ds H1 vs hd s1 rs => ?_
    subst hd
    obtain ⟨d, v, d2, v2, rfl, rfl, rr, rr2⟩ := rs.two st.wf
    cases rr with
    | int l =>
      cases rr2 with
      | int j =>
        simp only at e
        split at e
        · rename_i hb2
          exact ⟨l, j, rfl, hb2, range_core ml hb hn ((st.same s1).weak hl) e (p.trans (Kp.same s1))⟩
        · cases e
      | _ => simp only at e; cases e
    | _ => simp only at e; cases e
/-! ### while -/
def whF (t : List D → M Bool) (b : List D → Option Out) : Nat → List D → Option Out
  | 0, _ => none
  | n + 1, env => match t env with
    | some (.ok true) => match b env with
      | some (.nx e) => whF t b n e
      | some (.ct e) => whF t b n e
      | some (.bk e) => some (.nx e)
      | o => o
    | some (.ok false) => some (.nx env)
    | some (.ex c) => some (.ex c env)
    | none => none
open Classical in
noncomputable def sWhile (t : List D → M Bool) (b : List D → Option Out) : List D → Option Out := fun env =>
  if h : ∃ n o, whF t b n env = some o then some (choose (choose_spec h)) else none
theorem whF_mono {t : List D → M Bool} {b : List D → Option Out} : ∀ {n k : Nat} {env : List D} {o : Out}, n ≤ k → whF t b n env = some o → whF t b k env = some o
  | 0, _, _, _, _, h => by cases h
  | n + 1, 0, _, _, hk, _ => absurd hk (Nat.not_succ_le_zero _)
  | n + 1, k + 1, env, o, hk, h => by
    unfold whF at h ⊢
    have hk' := Nat.le_of_succ_le_succ hk
    cases e1 : t env with
    | none => rw [e1] at h; cases h
    | some r =>
      rw [e1] at h
      cases r with
      | ex c => exact h
      | ok q =>
        cases q with
        | false => exact h
        | true =>
          simp only at h ⊢
          cases e2 : b env with
          | none => rw [e2] at h; cases h
          | some o2 =>
            rw [e2] at h
            cases o2 with
            | nx e => exact whF_mono hk' h
            | ct e => exact whF_mono hk' h
            | bk e => exact h
            | rt d e => exact h
            | ex c e => exact h
theorem sWhile_eq {t : List D → M Bool} {b : List D → Option Out} {n : Nat} {env : List D} {o : Out} (h : whF t b n env = some o) : sWhile t b env = some o := by
  have h' : ∃ n o, whF t b n env = some o := ⟨n, o, h⟩
  unfold sWhile
  rw [dif_pos h']
  have q := Classical.choose_spec (Classical.choose_spec h')
  have q1 := whF_mono (Nat.le_max_left n (Classical.choose h')) h
  have q2 := whF_mono (Nat.le_max_right n (Classical.choose h')) q
  rw [q1] at q2
  exact congrArg some (Option.some.inj q2).symm
theorem sWhile_of {t : List D → M Bool} {b : List D → Option Out} {env : List D} {o : Out} (h : sWhile t b env = some o) : ∃ n, whF t b n env = some o := by
  unfold sWhile at h
  split at h
  · rename_i h'
    refine ⟨Classical.choose h', ?_⟩
    rw [← h]
    exact Classical.choose_spec (Classical.choose_spec h')
  · cases h
theorem ss_while {t : TT} {ft : List D → M Bool} {tb : TS} {b : List D → Option Out} (ml : List Mo) (ht : SEt cl W ml t ft) (hl : wk ms ml = true) (hx : wk ml m.ex = true) (hn : wk ml m.nx = true)
    (hb : SS cl W ml { m with nx := ml, ct := ml, bk := m.nx } tb b) : SS cl W ms m (tWhile t tb) (sWhile ft b) := by
  intro H w σ env st o e D p
  obtain ⟨n0, e0⟩ := sWhile_of e
  let Wn : Nat → L2.St → Hp → Prop := fun n σ' H' => ∃ w' env', StOk cl H' w' ml σ' env' ∧ Kp H w H' w' ∧ whF ft b n env' = some o
  refine ⟨Wn, ⟨n0, w, env, st.weak hl, Kp.refl, e0⟩, fun n σ' H' hW => ?_⟩
  obtain ⟨w', env', st', kp, e'⟩ := hW
  cases n with
  | zero => cases e'
  | succ n =>
    unfold whF at e'
    cases e1 : ft env' with
    | none => rw [e1] at e'; cases e'
    | some r =>
      rw [e1] at e'
      cases r with
      | ex c =>
        cases e'
        refine ht H' w' σ' env' st' _ e1 (fun z hz H2 s => ?_) _ fun d hd => nomatch hd
        cases hz
        exact (p.trans kp) H2 w' σ' ((st'.same s).weak hx) (Kp.same s)
      | ok q =>
        refine ht H' w' σ' env' st' _ e1 (fun z hz => nomatch hz) _ fun d hd H2 s => ?_
        cases hd
        have kp2 := kp.trans (Kp.same s)
        cases q with
        | false =>
          cases e'
          show (if false = true then _ else D.nx σ' H2)
          rw [if_neg Bool.false_ne_true]
          exact p H2 w' σ' ((st'.same s).weak hn) kp2
        | true =>
          simp only at e'
          show (if true = true then _ else D.nx σ' H2)
          rw [if_pos rfl]
          refine ⟨fun σ2 H3 => Wn n σ2 H3, fun σ2 H3 h => ⟨n, Nat.lt_succ_self _, h⟩, ?_⟩
          cases e2 : b env' with
          | none => rw [e2] at e'; cases e'
          | some o2 =>
            rw [e2] at e'
            refine hb H2 w' _ _ (st'.same s) o2 e2 _ ?_
            cases o2 with
            | nx e3 => exact fun H3 w3 σ3 st3 k3 => ⟨w3, e3, st3, kp2.trans k3, e'⟩
            | ct e3 => exact fun H3 w3 σ3 st3 k3 => ⟨w3, e3, st3, kp2.trans k3, e'⟩
            | bk e3 => cases e'; exact p.trans kp2
            | rt d e3 => cases e'; exact p.trans kp2
            | ex c e3 => cases e'; exact p.trans kp2
/-- x += e -/
def sAug (i : Nat) (g : Int → Int → Int) (f : List D → M D) : List D → Option Out := fun env => match env[i]? with
  | some (.int a) => sX (f env) env fun d => match d with
    | .int b => some (.nx (env.set i (.int (g a b))))
    | _ => none
  | _ => none
theorem ss_aug {i : Nat} {mo : Mo} {g : Int → Int → Int} (hm : ms[i]? = some mo) (hu : rdm mo = true) (h : SE cl W ms c te f) (hx : wk ms m.ex = true) (hn : wk (ms.set i .pu) m.nx = true) : SS cl W ms m (tAug i te (ipI g)) (sAug i g f) := by
  intro H w σ env st o e D p
  obtain ⟨v, d, a, b, ow⟩ := st.sl i mo hm (rdm_un hu)
  unfold sAug at e
  rw [b] at e
  have r0 := ow.rep hu
  cases r0 with
  | int x =>
    refine ⟨_, a, h.stm st e hx p fun d H' v s r e => ?_⟩
    have r1 := r.an st.wf
    cases r1 with
    | int y =>
      cases e
      exact ⟨x, y, rfl, rfl, p H' w _ (((st.same s).setPu (.int _)).weak hn) (Kp.same s)⟩
    | _ => simp only at e; cases e
  | _ => simp only at e; cases e
end
end Mv

namespace Mv
open PySem L2 PySem.Spec
variable {cl : Nv}

/-! ### what a def promises -/
def bos : List Mo → List Mo
  | [] => []
  | .bo k :: r => .bo k :: bos r
  | _ :: r => .un :: bos r
def PsOk (cl : Nv) (H : Hp) (w : Om) (pm : List Mo) (vs : List V) (ds : List D) : Prop := ∀ (i : Nat) m, pm[i]? = some m → m ≠ .un → ∃ v d, vs[i]? = some v ∧ ds[i]? = some d ∧ Own cl H w i m d v
def BoOk (cl : Nv) (H : Hp) (w : Om) (pm : List Mo) (vs : List V) (e : List D) : Prop := ∀ (i : Nat) k v, pm[i]? = some (.bo k) → vs[i]? = some v → ∃ d, e[i]? = some d ∧ Own cl H w i (.bo k) d v
def spOf (cl : Nv) (pm : List Mo) (rc : RC) (G : List D → Option Out) : Sp := fun vs H Q E => ∃ w ds o, vs.length = pm.length ∧ ds.length = pm.length ∧ Wf H w ∧ (∀ a i j, w a ≠ some (.ow i j)) ∧ (∀ a b i, w a = some (.bo i 0) → w b = some (.bo i 0) → a = b) ∧
  PsOk cl H w pm vs ds ∧ G ds = some o ∧ match o with
  | .rt d e => ∀ H' w' v, Kp H w H' w' → Wf H' w' → Ret cl H' w' rc d v → BoOk cl H' w' pm vs e → Q v H'
  | .ex c e => ∀ H' w', Kp H w H' w' → Wf H' w' → BoOk cl H' w' pm vs e → E (.ref (cl c)) none H'
  | _ => False
/-- a body's meaning as a function of the parameters; n: all names, rp: a fall through gives None -/
def fnOf (g : List D → Option Out) (n : Nat) (rp : Bool) : List D → Option Out := fun ds => match g (ds ++ List.replicate (n - ds.length) .non) with
  | some (.nx e) => if rp = true then some (.rt .non e) else none
  | some (.rt d e) => some (.rt d e)
  | some (.ex c e) => some (.ex c e)
  | _ => none
theorem bos_len : ∀ pm, (bos pm).length = pm.length
  | [] => rfl
  | m :: r => by cases m <;> exact congrArg (· + 1) (bos_len r)
theorem bos_get : ∀ {pm : List Mo} {i : Nat} {k : Kd}, pm[i]? = some (.bo k) → (bos pm)[i]? = some (.bo k)
  | [], _, _, h => by simp at h
  | m :: r, 0, k, h => by simp at h; subst h; rfl
  | m :: r, i + 1, k, h => by
    have ih := bos_get (pm := r) (i := i) (k := k) (by simpa using h)
    cases m <;> simpa [bos] using ih
/-- the states of a def's ends -/
def mdOf (pm : List Mo) (n : Nat) (rc : RC) : Md :=
  let e := bos pm ++ List.replicate (n - pm.length) .un
  ⟨e, [], [], e, e, rc⟩
def isPu : RC → Bool
  | .pu => true
  | _ => false
theorem own_top {H H' : Hp} {w w' : Om} {i : Nat} {k : Kd} {d d' : D} {v v' : V} (h : Own cl H w i (.bo k) d v) (h' : Own cl H' w' i (.bo k) d' v') (kp : Kp H w H' w') (u : ∀ a b i, w a = some (.bo i 0) → w b = some (.bo i 0) → a = b) : v' = v := by
  have key : ∀ {H : Hp} {w : Om} {d : D} {v : V}, Own cl H w i (.bo k) d v → ∃ p, v = .ref p ∧ w p = some (.bo i 0) := by
    intro H w d v h
    obtain ⟨bk, h⟩ := h
    cases k with
    | n1 => cases bk
    | t2 => cases bk
    | l1 => obtain ⟨p, vs, ds, e1, e2, e3, e4, r⟩ := h; exact ⟨p, e1, e4⟩
    | l2 => obtain ⟨p, as, dss, e1, e2, e3, e4, r⟩ := h; exact ⟨p, e1, e4⟩
    | d1 => obtain ⟨p, vs, ds, e1, e2, e3, e4, r⟩ := h; exact ⟨p, e1, e4⟩
    | t1 => obtain ⟨p, vs, ds, e1, e2, e3, e4, r⟩ := h; exact ⟨p, e1, e4⟩
    | i1 => obtain ⟨p, c, dx, fs, fds, e1, e2, e3, e4, r⟩ := h; exact ⟨p, e1, e4⟩
  obtain ⟨p, rfl, hp⟩ := key h
  obtain ⟨p', rfl, hp'⟩ := key h'
  rw [u p' p i ((kp.bo p' i 0).mp hp') hp]
theorem start_get {N : List Str} {vs : List V} {i : Nat} {v : V} (h : vs[i]? = some v) : (L2.start N vs)[i]? = some (some v) := by
  unfold L2.start
  have hl := (List.getElem?_eq_some_iff.mp h).1
  rw [List.getElem?_append_left (by simpa using hl), List.getElem?_map, h]
  rfl
/-- a body keeps its promise -/
theorem body_ok {pm : List Mo} {rc : RC} {N : List Str} {t : TS} {g : List D → Option Out} (hl : pm.length ≤ N.length)
    {vs : List V} {H : Hp} {Q : VK} {E : XK} (hs : SS cl (fun cls d _ H => E cls d H) (pm ++ List.replicate (N.length - pm.length) .un) (mdOf pm N.length rc) t g) (h : spOf cl pm rc (fnOf g N.length (isPu rc)) vs H Q E) : t { nx := fun _ H' => Q .non H', rt := Q } (L2.start N vs) H := by
  obtain ⟨w, ds, o, l1, l2, wf, no, u, ps, hG, post⟩ := h
  unfold fnOf at hG
  have st : StOk cl H w (pm ++ List.replicate (N.length - pm.length) .un) (L2.start N vs) (ds ++ List.replicate (N.length - ds.length) .non) := by
    refine ⟨wf, ?_, ?_, fun i m e n => ?_⟩
    · unfold L2.start; simp [l1]
    · simp [l2]
    · by_cases hi : i < pm.length
      · rw [List.getElem?_append_left hi] at e
        obtain ⟨v, d, a, b, c⟩ := ps i m e n
        exact ⟨v, d, start_get a, by rw [List.getElem?_append_left (by rw [l2]; exact hi)]; exact b, c⟩
      · rw [List.getElem?_append_right (Nat.le_of_not_lt hi), List.getElem?_replicate] at e
        split at e <;> cases e
        exact absurd rfl n
  have bo : ∀ {H' : Hp} {w' : Om} {σ' : L2.St} {e : List D}, StOk cl H' w' (bos pm ++ List.replicate (N.length - pm.length) .un) σ' e → Kp H w H' w' → BoOk cl H' w' pm vs e := by
    intro H' w' σ' e st' kp i k v hi hv
    have hlt : i < pm.length := (List.getElem?_eq_some_iff.mp hi).1
    obtain ⟨v', d', a, b, c⟩ := st'.sl i (.bo k) (by rw [List.getElem?_append_left (by rw [bos_len]; exact hlt)]; exact bos_get hi) (by intro z; cases z)
    obtain ⟨v0, d0, a0, b0, c0⟩ := ps i (.bo k) hi (by intro z; cases z)
    rw [hv] at a0
    cases a0
    have e1 := own_top c0 c kp u
    subst e1
    exact ⟨d', b, c⟩
  cases e1 : g (ds ++ List.replicate (N.length - ds.length) .non) with
  | none => rw [e1] at hG; cases hG
  | some o1 =>
    rw [e1] at hG
    refine hs H w _ _ st o1 e1 _ ?_
    cases o1 with
    | nx e =>
      simp only at hG
      split at hG
      · rename_i hp
        cases hG
        intro H' w' σ' st' kp
        refine post H' w' .non kp st'.wf ?_ (bo st' kp)
        cases rc with
        | pu => exact .non
        | _ => cases hp
      · cases hG
    | rt d e => cases hG; exact fun H' w' σ' v st' kp r => post H' w' v kp st'.wf r (bo st' kp)
    | ex c e => cases hG; exact fun H' w' σ' st' kp => post H' w' kp st'.wf (bo st' kp)
    | bk e => cases hG
    | ct e => cases hG
section
variable {P : Program} {w : World} {K : PySem.W.Frag} {mg : Str → Option Value} {base : Heap} {x qual : Str} {params : Arguments} {body : List Stmt} {scope : Scope} {f : Addr} {fd : FuncData}
/-- THE RULE for a def that lets no error out -/
theorem fn_ok {N ps : List Str} {k : Nat} {pm : List Mo} {rc : RC} {t : TS} {g : List D → Option Out} (F : FunD K x qual params body scope [] [] f fd) (S : FnScope N ps scope) (hp : pm.length = ps.length) (hl : pm.length ≤ N.length)
    (hs : ∀ W, SS cl W (pm ++ List.replicate (N.length - pm.length) .un) (mdOf pm N.length rc) t g)
    (hb : ∀ (cdv : Value) (A : Around) (outer : List Env) (s : Shared) (H : Hp) (E : XK), Room k (A.deeper (PyProof.Rows.envOfC qual scope s.heap.objs.size f cdv)) → PSs (cxOf CX0 P w K mg base N qual scope f cdv A outer s H E).nox body t) :
    FnOk P w K mg base CX0 (k + 1) f fd ps (spOf cl pm rc (fnOf g N.length (isPu rc))) := by
  refine F.ok S (fun vs H Q E h => ?_) (fun cdv A outer s H vs Q E hr h => ⟨t, PSs.nox (hb cdv A outer s H E hr), body_ok hl (hs _) h⟩)
  obtain ⟨w, ds, o, l1, _⟩ := h
  rw [l1, hp]
/-- .. for one that does -/
theorem fn_okX {N ps : List Str} {k : Nat} {pm : List Mo} {rc : RC} {t : WX → TS} {g : List D → Option Out} (F : FunD K x qual params body scope [] [] f fd) (S : FnScope N ps scope) (hp : pm.length = ps.length) (hl : pm.length ≤ N.length)
    (hs : ∀ W, SS cl W (pm ++ List.replicate (N.length - pm.length) .un) (mdOf pm N.length rc) (t W) g)
    (hb : ∀ (cdv : Value) (A : Around) (outer : List Env) (s : Shared) (H : Hp) (E : XK), Room k (A.deeper (PyProof.Rows.envOfC qual scope s.heap.objs.size f cdv)) → PSs (cxOf (L2.CX P w) P w K mg base N qual scope f cdv A outer s H E) body (t fun cls d _ H => E cls d H)) :
    FnOk P w K mg base (L2.CX P w) (k + 1) f fd ps (spOf cl pm rc (fnOf g N.length (isPu rc))) := by
  refine F.ok S (fun vs H Q E h => ?_) (fun cdv A outer s H vs Q E hr h => ⟨_, hb cdv A outer s H E hr, body_ok hl (hs _) h⟩)
  obtain ⟨w, ds, o, l1, _⟩ := h
  rw [l1, hp]
end

/-! ### calls that lend nothing -/
/-- the callee's labels -/
def lentL : Option Lb → Option Lb
  | none => none
  | some _ => some .fo
def lent (w : Om) : Om := fun a => lentL (w a)
theorem lent_none {w : Om} {a : Addr} : lent w a = none ↔ w a = none := by
  show lentL (w a) = none ↔ w a = none
  cases w a with
  | none => exact Iff.rfl
  | some l => exact ⟨fun z => absurd (show (some Lb.fo : Option Lb) = none from z) (by simp), fun z => absurd z (by simp)⟩
theorem lent_some {w : Om} {a : Addr} {l : Lb} (h : w a = some l) : lent w a = some .fo := by
  show lentL (w a) = some .fo
  rw [h] <;> rfl
theorem lent_fo {w : Om} {a : Addr} {l : Lb} (h : lent w a = some l) : l = .fo ∧ ∃ l', w a = some l' := by
  have h2 : lentL (w a) = some l := h
  cases q : w a with
  | none => rw [q] at h2; exact nomatch (show (none : Option Lb) = some l from h2)
  | some l' => rw [q] at h2; exact ⟨(Option.some.inj (show some Lb.fo = some l from h2)).symm, l', rfl⟩
def arg1 : RC → Mo → Bool
  | c, .pu => toPu c
  | _, .lo => true
  | _, .un => true
  | _, _ => false
def argOk : List RC → List Mo → Bool
  | [], [] => true
  | c :: cs, m :: ms => arg1 c m && argOk cs ms
  | _, _ => false
theorem argOk_cons {c : RC} {cs : List RC} {m : Mo} {ms : List Mo} (h : argOk (c :: cs) (m :: ms) = true) : arg1 c m = true ∧ argOk cs ms = true := Bool.and_eq_true_iff.mp h
def resC : RC → RC
  | .pu => .pu
  | .fr k => .fr k
  | _ => .an
section
variable {H0 H H' : Hp} {w w' : Om}
theorem args_len : ∀ {cs : List RC} {pm : List Mo} {ds : List D} {vs : List V}, argOk cs pm = true → ResL cl H0 H w cs ds vs → vs.length = pm.length ∧ ds.length = pm.length
  | [], [], _, _, _, .nil => ⟨rfl, rfl⟩
  | c :: cs, m :: ms, _, _, h, .cons a b => by
    obtain ⟨h1, h2⟩ := args_len (argOk_cons h).2 b
    exact ⟨congrArg (· + 1) h1, congrArg (· + 1) h2⟩
  | [], _ :: _, _, _, h, _ => nomatch h
  | _ :: _, [], _, _, h, _ => nomatch h
theorem rep_lent {d : D} {v : V} (h : Rep cl H An d v) : Rep cl H (Lf (lent w)) d v := h.any fun a _ => by
  cases q : w a with
  | none => exact .inl (lent_none.mpr q)
  | some l => exact .inr (lent_some q)
theorem arg_own {c : RC} {m : Mo} {d : D} {v : V} (wf : Wf H0 w) (h : arg1 c m = true) (n : m ≠ .un) (a : Res cl H0 H w c d v) (j : Nat) : Own cl H (lent w) j m d v := by
  cases m with
  | un => exact absurd rfl n
  | pu => exact (a.pu wf h).any fun x z => lent_none.mpr z
  | lo => exact rep_lent (a.an wf)
  | sc => exact nomatch h
  | ow k => exact nomatch h
  | bo k => exact nomatch h
theorem args_at (wf : Wf H0 w) : ∀ {cs : List RC} {pm : List Mo} {ds : List D} {vs : List V}, argOk cs pm = true → ResL cl H0 H w cs ds vs → ∀ (i : Nat) m, pm[i]? = some m → m ≠ .un → ∃ v d, vs[i]? = some v ∧ ds[i]? = some d ∧ ∀ j, Own cl H (lent w) j m d v
  | [], [], _, _, _, .nil, i, m, e, _ => by simp at e
  | c :: cs, m0 :: ms, _, _, h, .cons a b, 0, m, e, n => by
    have e' : m0 = m := Option.some.inj e
    subst e'
    exact ⟨_, _, rfl, rfl, fun j => arg_own wf (argOk_cons h).1 n a j⟩
  | c :: cs, m0 :: ms, _, _, h, .cons a b, i + 1, m, e, n => args_at wf (argOk_cons h).2 b i m e n
  | [], _ :: _, _, _, h, _, _, _, _, _ => nomatch h
  | _ :: _, [], _, _, h, _, _, _, _, _ => nomatch h
theorem kp_same (wf : Wf H w) (k : Kp H (lent w) H' w') : Same H H' := fun a o e => by
  cases q : w a with
  | none => exact (k.keep.fz a o e (lent_none.mpr q)).1
  | some l => exact (k.keep.fo a o e (lent_some q)).1
theorem kp_none (wf : Wf H w) (k : Kp H (lent w) H' w') {a : Addr} (h : w' a = none) : w a = none := by
  cases q : w a with
  | none => rfl
  | some l =>
    obtain ⟨o, e, _⟩ := wf a l q
    have z := (k.keep.fo a o e (lent_some q)).2
    rw [h] at z
    cases z
theorem kp_new (k : Kp H (lent w) H' w') {a : Addr} {i j : Nat} (h : w' a = some (.ow i j)) : H a = none := by
  cases q : H a with
  | none => rfl
  | some o =>
    cases q2 : w a with
    | none =>
      have z := (k.keep.fz a o q (lent_none.mpr q2)).2
      rw [h] at z
      cases z
    | some l =>
      have z := (k.keep.fo a o q (lent_some q2)).2
      rw [h] at z
      cases z
theorem ret_res {rc : RC} {d : D} {v : V} (wf : Wf H w) (k : Kp H (lent w) H' w') (h : Ret cl H' w' rc d v) : Res cl H H' w (resC rc) d v := by
  cases rc with
  | pu => exact Rep.any h fun a z => kp_none wf k z
  | lo => exact Rep.any h fun a z => trivial
  | an => exact h
  | fr kd =>
    obtain ⟨i, j, o⟩ := h
    cases kd with
    | l1 =>
      obtain ⟨p, vs, ds, e1, e2, e3, e4, r⟩ := o
      exact ⟨p, vs, ds, e1, e2, kp_new k e4, e3, r.any fun a z => ⟨kp_none wf k z, fun q => by subst q; rw [show w' a = none from z] at e4; cases e4⟩⟩
    | d1 =>
      obtain ⟨p, vs, ds, e1, e2, e3, e4, r⟩ := o
      exact ⟨p, vs, ds, e1, e2, kp_new k e4, e3, r.mono (fun a o q z => ⟨q, kp_none wf k z, fun q => by subst q; rw [show w' a = none from z] at e4; cases e4⟩) fun _ _ q => q⟩
    | t1 =>
      obtain ⟨p, vs, ds, e1, e2, e3, e4, r⟩ := o
      exact ⟨p, vs, ds, e1, e2, kp_new k e4, e3, r.mono (fun a o q z => ⟨q, kp_none wf k z, fun q => by subst q; rw [show w' a = none from z] at e4; cases e4⟩) fun _ _ q => q⟩
    | i1 =>
      obtain ⟨p, c, dx, fs, fds, e1, e2, e3, e4, r⟩ := o
      exact ⟨p, c, dx, fs, fds, e1, e2, kp_new k e4, e3, r.mono (fun a o q z => ⟨q, kp_none wf k z, fun q => by subst q; rw [show w' a = none from z] at e4; cases e4⟩) fun _ _ q => q⟩
    | n1 =>
      rcases o with o | ⟨p, vs, ds, e1, e2, e3, e4, r⟩
      · exact .inl o
      · exact .inr ⟨p, vs, ds, e1, e2, kp_new k e4, e3, r.any fun a z => ⟨kp_none wf k z, fun q => by subst q; rw [show w' a = none from z] at e4; cases e4⟩⟩
    | t2 =>
      obtain ⟨p, a, b, vs, us, ds, es, e1, e2, e3, e4, e5, r1, e6, e7, r2⟩ := o
      have ab : a ≠ b := fun q => by
        subst q
        rw [e5] at e7
        injection e7 with e7
        injection e7 with _ e7
        omega
      have fr : ∀ x, w' x = none → w x = none ∧ x ≠ a ∧ x ≠ b := by
        intro x z
        refine ⟨kp_none wf k z, fun q => ?_, fun q => ?_⟩
        · subst q; rw [z] at e5; cases e5
        · subst q; rw [z] at e7; cases e7
      exact ⟨p, a, b, vs, us, ds, es, e1, e2, e3, ab, kp_new k e5, e4, r1.any fun x z => fr x z, kp_new k e7, e6, r2.any fun x z => fr x z⟩
    | l2 =>
      obtain ⟨p, as, dss, e1, e2, e3, e4, nd, hl, r⟩ := o
      have lab : ∀ a ∈ as, w' a = some (.ow i (j + 1)) := fun a ha => by
        obtain ⟨q, hq⟩ := List.getElem?_of_mem ha
        have hlt := (List.getElem?_eq_some_iff.mp hq).1
        obtain ⟨vs, f1, f2, _⟩ := r q a dss[q] hq (List.getElem?_eq_getElem (by rw [← hl]; exact hlt))
        exact f2
      refine ⟨p, as, dss, e1, e2, kp_new k e4, e3, nd, fun hp => ?_, hl, fun q a ds h1 h2 => ?_⟩
      · have z := lab p hp
        rw [e4] at z
        injection z with z
        injection z with _ z
        omega
      · obtain ⟨vs, f1, f2, f3⟩ := r q a ds h1 h2
        refine ⟨kp_new k f2, vs, f1, f3.any fun b z => ⟨kp_none wf k z, fun q => ?_, fun q => ?_⟩⟩
        · subst q; rw [show w' b = none from z] at e4; cases e4
        · have y := lab b q; rw [show w' b = none from z] at y; cases y
end
def ofOut : Option Out → M D
  | some (.rt d _) => some (.ok d)
  | some (.ex c _) => some (.ex c)
  | _ => none
def ofOutN : Option Out → M D
  | some (.rt d _) => some (.ok d)
  | _ => none
def eFn (G : List D → Option Out) (fs : List (List D → M D)) : List D → M D := fun env => bd (eArgs fs env) fun ds => ofOut (G ds)
def eFnN (G : List D → Option Out) (fs : List (List D → M D)) : List D → M D := fun env => bd (eArgs fs env) fun ds => ofOutN (G ds)
section
variable {W : WX} {ms : List Mo} {c c1 c2 : RC} {te ta tb : TE} {f g : List D → M D} {pm : List Mo} {rc : RC} {G : List D → Option Out} {cs : List RC} {fs : List (List D → M D)} {tr : TA}
/-- the promise at a call -/
theorem call_sp {H0 H : Hp} {w : Om} {ds : List D} {vs : List V} {o : Out} {Q : VK} {E : XK} (wf : Wf H0 w) (s : Same H0 H) (hc : argOk cs pm = true) (r : ResL cl H0 H w cs ds vs) (hG : G ds = some o)
    (q : match o with
      | .rt d _ => ∀ H' v, Same H H' → Res cl H H' w (resC rc) d v → Q v H'
      | .ex c _ => ∀ H', Same H H' → E (.ref (cl c)) none H'
      | _ => False) : spOf cl pm rc G vs H Q E := by
  have wf1 := wf.same s
  obtain ⟨l1, l2⟩ := args_len hc r
  refine ⟨lent w, ds, o, l1, l2, fun a l e => ?_, fun a i j e => ?_, fun a b i e _ => ?_, fun i m e n => ?_, hG, ?_⟩
  · obtain ⟨_, l', q⟩ := lent_fo e
    exact wf1 a l' q
  · exact nomatch (lent_fo e).1
  · exact nomatch (lent_fo e).1
  · obtain ⟨v, d, h1, h2, h3⟩ := args_at wf hc r i m e n
    exact ⟨v, d, h1, h2, h3 i⟩
  · cases o with
    | rt d e => exact fun H' w' v k _ rr _ => q H' v (kp_same wf1 k) (ret_res wf1 k rr)
    | ex c e => exact fun H' w' k _ _ => q H' (kp_same wf1 k)
    | nx e => exact q
    | bk e => exact q
    | ct e => exact q
theorem ofOut_ok {o : Option Out} {r : R D} (h : ofOut o = some r) : (∃ d e, o = some (.rt d e) ∧ r = .ok d) ∨ ∃ c e, o = some (.ex c e) ∧ r = .ex c := by
  cases o with
  | none => cases h
  | some o =>
    cases o with
    | rt d e => exact .inl ⟨d, e, rfl, (Option.some.inj h).symm⟩
    | ex c e => exact .inr ⟨c, e, rfl, (Option.some.inj h).symm⟩
    | _ => cases h
theorem ofOutN_ok {o : Option Out} {r : R D} (h : ofOutN o = some r) : ∃ d e, o = some (.rt d e) ∧ r = .ok d := by
  cases o with
  | none => cases h
  | some o =>
    cases o with
    | rt d e => exact ⟨d, e, rfl, (Option.some.inj h).symm⟩
    | _ => cases h
/-- f(..), f may raise -/
theorem se_fn (hc : argOk cs pm = true) (hb : SEa cl W ms cs tr (eArgs fs)) : SE cl W ms (resC rc) (tCallS (spOf cl pm rc G) (WE W) tr) (eFn G fs) := fun H w σ env st r e x Q q =>
  hb.bind st e x fun ds H1 vs s1 r1 e => by
    rcases ofOut_ok e with ⟨d, e', hG, rfl⟩ | ⟨c, e', hG, rfl⟩
    · exact call_sp st.wf s1 hc r1 hG fun H' v s rr => q d rfl H' v (s1.trans s) (rr.base s1)
    · exact call_sp st.wf s1 hc r1 hG fun H' s => x c rfl H' (s1.trans s)
/-- f(..), f does not raise here -/
theorem se_fnN {E : XK} (hc : argOk cs pm = true) (hb : SEa cl W ms cs tr (eArgs fs)) : SE cl W ms (resC rc) (tCall (spOf cl pm rc G) [] E tr) (eFnN G fs) := fun H w σ env st r e x Q q =>
  hb.bind st e x fun ds H1 vs s1 r1 e => by
    obtain ⟨d, e', hG, rfl⟩ := ofOutN_ok e
    show spOf cl pm rc G (vs ++ []) H1 Q E
    rw [List.append_nil]
    exact call_sp st.wf s1 hc r1 hG fun H' v s rr => q d rfl H' v (s1.trans s) (rr.base s1)
/-! ### o.m(..), o not lent -/
def insOf (c : String) (m : Str) : D → Bool
  | .ins c' fds => decide (c' = c) && (fds.lookup m).isNone
  | _ => false
theorem insOf_at {c : String} {m : Str} {o : D} {v : V} {H : Hp} {P : Addr → Prop} (h : insOf c m o = true) (r : Rep cl H P o v) : ∃ p dx vs, v = .ref p ∧ H p = some (.ins (cl c) dx vs) ∧ vs.lookup m = none := by
  cases r with
  | @ins p c' dx vs fds h1 _ rf =>
    have h2 : (decide (c' = c) && (fds.lookup m).isNone) = true := h
    obtain ⟨h3, h4⟩ := Bool.and_eq_true_iff.mp h2
    have h5 : c' = c := of_decide_eq_true h3
    subst h5
    have h6 : fds.lookup m = none := by
      cases q : fds.lookup m with
      | none => rfl
      | some z => rw [q] at h4; exact nomatch h4
    exact ⟨p, dx, vs, rfl, h1, rf.lookup.2 h6⟩
  | _ => exact nomatch h
def eMe (c : String) (m : Str) (G : List D → Option Out) (f : List D → M D) (fs : List (List D → M D)) : List D → M D := fun env => bd (f env) fun o => if insOf c m o = true then bd (eArgs fs env) fun ds => ofOut (G (o :: ds)) else none
def eMeN (c : String) (m : Str) (G : List D → Option Out) (f : List D → M D) (fs : List (List D → M D)) : List D → M D := fun env => bd (f env) fun o => if insOf c m o = true then bd (eArgs fs env) fun ds => ofOutN (G (o :: ds)) else none
def tMethS (C : Addr) (m : Str) (sp : Sp) (E : L2.St → XK) (ta : TE) (t : TA) : TE := fun σ H Q => ta σ H fun x H1 => ∃ a dx fs, x = .ref a ∧ H1 a = some (.ins C dx fs) ∧ fs.lookup m = none ∧ t σ H1 fun vs H2 => sp (x :: vs) H2 Q (E σ)
theorem se_me {cc : String} {m : Str} (hc : argOk (c1 :: cs) pm = true) (ha : SE cl W ms c1 ta f) (hb : SEa cl W ms cs tr (eArgs fs)) : SE cl W ms (resC rc) (tMethS (cl cc) m (spOf cl pm rc G) (WE W) ta tr) (eMe cc m G f fs) := fun H w σ env st r e0 x Q q =>
  ha.bind st e0 x fun o H1 v s1 r1 e1 => by
    by_cases hi : insOf cc m o = true
    · rw [if_pos hi] at e1
      obtain ⟨p, dx, vs, hv, h1, h2⟩ := insOf_at hi (r1.an st.wf)
      refine ⟨p, dx, vs, hv, h1, h2, ?_⟩
      refine hb.bind (st.same s1) e1 (x.same s1) fun ds H2 us s2 r2 e2 => ?_
      rcases ofOut_ok e2 with ⟨d, e', hG, rfl⟩ | ⟨c, e', hG, rfl⟩
      · exact call_sp st.wf (s1.trans s2) hc (.cons (r1.same s2) (r2.base s1)) hG fun H' v s rr => q d rfl H' v ((s1.trans s2).trans s) (rr.base (s1.trans s2))
      · exact call_sp st.wf (s1.trans s2) hc (.cons (r1.same s2) (r2.base s1)) hG fun H' s => x c rfl H' ((s1.trans s2).trans s)
    · rw [if_neg hi] at e1
      exact nomatch e1
theorem se_meN {cc : String} {m : Str} {E : XK} (hc : argOk (c1 :: cs) pm = true) (ha : SE cl W ms c1 ta f) (hb : SEa cl W ms cs tr (eArgs fs)) : SE cl W ms (resC rc) (tMeth (cl cc) m (spOf cl pm rc G) [] E ta tr) (eMeN cc m G f fs) := fun H w σ env st r e0 x Q q =>
  ha.bind st e0 x fun o H1 v s1 r1 e1 => by
    by_cases hi : insOf cc m o = true
    · rw [if_pos hi] at e1
      obtain ⟨p, dx, vs, hv, h1, h2⟩ := insOf_at hi (r1.an st.wf)
      refine ⟨p, dx, vs, hv, h1, h2, ?_⟩
      refine hb.bind (st.same s1) e1 (x.same s1) fun ds H2 us s2 r2 e2 => ?_
      obtain ⟨d, e', hG, rfl⟩ := ofOutN_ok e2
      rw [List.append_nil]
      exact call_sp st.wf (s1.trans s2) hc (.cons (r1.same s2) (r2.base s1)) hG fun H' v s rr => q d rfl H' v ((s1.trans s2).trans s) (rr.base (s1.trans s2))
    · rw [if_neg hi] at e1
      exact nomatch e1
/-! ### o.f -/
def dFld (c : String) (n : Str) : D → Option D
  | .ins c' fs => if c' = c then fs.lookup n else none
  | _ => none
theorem fld_step {cc : String} {n : Str} {K : PySem.W.Frag} (hC : Cls K (cl cc)) (hn : NoAttr K (cl cc) n) {o z : D} {v : V} {H1 : Hp} {P : Addr → Prop} {Q : VK} (e1 : dFld cc n o = some z) (rr : Rep cl H1 P o v) (qq : ∀ u, Rep cl H1 P z u → Q u H1) :
    ∃ a C dx fs v', v = .ref a ∧ H1 a = some (.ins C dx fs) ∧ Cls K C ∧ NoAttr K C n ∧ fs.lookup n = some v' ∧ Q v' H1 := by
  cases rr with
  | @ins p c' dx vs fds h1 _ rf =>
    have e2 : (if c' = cc then fds.lookup n else none) = some z := e1
    by_cases hh : c' = cc
    · rw [if_pos hh] at e2
      subst hh
      obtain ⟨u, h2, h3⟩ := rf.lookup.1 z e2
      exact ⟨p, _, dx, vs, u, rfl, h1, hC, hn, h2, qq u h3⟩
    · rw [if_neg hh] at e2
      exact nomatch e2
  | _ => exact nomatch e1
theorem se_fld {cc : String} {n : Str} {K : PySem.W.Frag} (hC : Cls K (cl cc)) (hn : NoAttr K (cl cc) n) (ha : SE cl W ms c1 ta f) : SE cl W ms (ixC c1) (tFld K ta n) (eUn (dFld cc n) f) := fun H w σ env st r e x Q q =>
  ha.bind st e x fun o H1 v s1 r1 e => by
    obtain ⟨z, e1, rfl⟩ := lift_ok e
    cases c1 with
    | pu => exact fld_step (P := Fz w) hC hn e1 r1 fun u ru => q z rfl H1 u s1 ru
    | lo => exact fld_step (P := Lf w) hC hn e1 r1 fun u ru => q z rfl H1 u s1 ru
    | an => exact fld_step (P := An) hC hn e1 r1 fun u ru => q z rfl H1 u s1 ru
    | fr k => exact fld_step (P := Fz w) hC hn e1 (FrK.pu st.wf r1) fun u ru => q z rfl H1 u s1 ru
end
end Mv

namespace Mv
open PySem L2
variable {cl : Nv}
def okO {α : Type} : M α → Option α
  | some (.ok x) => some x
  | _ => none
@[simp] theorem okO_ok {α : Type} {x : α} : okO (some (.ok x)) = some x := rfl
theorem okO_some {α : Type} {m : M α} {x : α} (h : okO m = some x) : m = some (.ok x) := by
  cases m with
  | none => exact nomatch h
  | some r =>
    cases r with
    | ok y => exact congrArg (fun z => some (R.ok z)) (Option.some.inj h)
    | ex c => exact nomatch h
/-- [g for d in ds if t], slot i the item's -/
def lcF (i : Nat) (t : List D → M Bool) (g : List D → M D) : List D → List D → Option (List D)
  | [], _ => some []
  | d :: ds, env => (okO (t (env.set i d))).bind fun b => if b = true then (okO (g (env.set i d))).bind fun y => (lcF i t g ds env).map (y :: ·) else lcF i t g ds env
def tT : List D → M Bool := fun _ => some (.ok true)
abbrev WF : WX := fun _ _ _ _ => False
section
variable {H H' H1 : Hp} {w w' : Om} {ms ms' : List Mo} {σ : L2.St} {env : List D} {W : WX} {m : Md} {c c1 c2 : RC} {te ta tb tf : TE} {f g : List D → M D} {K : PySem.W.Frag} {tt : TT} {ft : List D → M Bool}
theorem set_yes : SEt cl W ms tYes tT := fun H w σ env st r e x Q q => by
  cases e
  exact q true rfl H (Same.refl H)
/-- an object that is no slot's is written -/
theorem StOk.mutO {p : Addr} {o' : HO} {q x : Nat} (h : StOk cl H w ms σ env) (hp : w p = some (.ow q x)) (hq : ms.length ≤ q) (nt : isTup o' = false) : StOk cl (upd H p o') w ms σ env ∧ Keep H w (upd H p o') w := by
  have k : Keep H w (upd H p o') w := by
    refine ⟨fun a o e z => ⟨?_, z⟩, fun a o e z => ⟨?_, z⟩⟩
    · rw [upd_ne fun y : a = p => by subst y; rw [hp] at z; cases z]; exact e
    · rw [upd_ne fun y : a = p => by subst y; rw [hp] at z; cases z]; exact e
  refine ⟨⟨fun a l e => ?_, h.ls, h.le, fun j mj e n => ?_⟩, k⟩
  · by_cases ha : a = p
    · subst ha; exact ⟨o', upd_same, nt⟩
    · rw [upd_ne ha]; exact h.wf a l e
  · obtain ⟨v', e', a, b, o⟩ := h.sl j mj e n
    refine ⟨v', e', a, b, o.keep k h.wf fun a oa y hy ea => ⟨?_, rfl⟩⟩
    have hj : j < ms.length := (List.getElem?_eq_some_iff.mp e).1
    rw [upd_ne ?_]
    · exact ea
    · intro z
      subst z
      rcases hy with y1 | y1
      · rw [y1] at hp; injection hp with z1; injection z1 with z2; omega
      · rw [y1] at hp; injection hp with z1; cases z1
theorem StOk.gone {i : Nat} (h : StOk cl H w ms σ env) : StOk cl H w (ms.set i .un) (σ.set i none) env := by
  refine ⟨h.wf, by simp [h.ls], by simp [h.le], fun j m e n => ?_⟩
  by_cases hj : j = i
  · subst hj
    have hl : j < ms.length := by
      have := (List.getElem?_eq_some_iff.mp e).1
      simpa using this
    rw [List.getElem?_set_self hl] at e
    cases e
    exact absurd rfl n
  · rw [List.getElem?_set_ne (Ne.symm hj)] at e
    obtain ⟨v', d', a, b, o⟩ := h.sl j m e n
    exact ⟨v', d', by rw [List.getElem?_set_ne (Ne.symm hj)]; exact a, b, o⟩
def labD (w : Om) (D : Addr) (n : Nat) : Om := fun a => if a = D then some (.ow n 0) else w a
theorem labD_ne {w : Om} {D a : Addr} {n : Nat} (h : a ≠ D) : labD w D n a = w a := if_neg h
theorem labD_eq {w : Om} {D : Addr} {n : Nat} : labD w D n D = some (.ow n 0) := if_pos rfl
theorem lc_gen {J : It} {i : Nat} {P0 : Om → Addr → Prop} {bm : Mo} {ds : List D} {ys : List D} {Q : VK}
    (hset : ∀ {H w σ env d v}, StOk cl H w (ms.set i .un) σ env → Rep cl H (P0 w) d v → StOk cl H w (ms.set i bm) (σ.set i (some v)) (env.set i d))
    (st : StOk cl H1 w ms σ env) (e : lcF i ft g ds env = some ys) (hlim : ds.length ≤ LIM)
    (hstop : ∀ k H', (∀ a o, H1 a = some o → H' a = some o) → ds.length ≤ k → J.stop k H')
    (hgo : ∀ (k : Nat) H' D d, (∀ a o, H1 a = some o → H' a = some o) → H1 D = none → ds[k]? = some d → J.go k H' ∧ ∀ x H2, J.yld k H' x H2 → H2 = H' ∧ Rep cl H' (P0 (labD w D ms.length)) d x)
    (ht : SEt cl WF (ms.set i bm) tt ft) (he : SE cl WF (ms.set i bm) c2 te g) (hc2 : toPu c2 = true)
    (q : ∀ H' v, Same H1 H' → FrK cl H1 H' w .l1 (.lst ys) v → Q v H') :
    ∀ D, H1 D = none → ∃ Wn : Nat → Nat → Hp → Prop, (∃ m, Wn 0 m (upd H1 D (.lst []))) ∧ ∀ k n H, Wn k n H →
      (J.stop k H ∧ Q (.ref D) H) ∨ (J.go k H ∧ ∃ Nx : Hp → Prop, (∀ H', Nx H' → ∃ m', m' < n ∧ Wn (k + 1) m' H') ∧ ∀ x H', J.yld k H x H' → gName i x (wipe σ [i]) H' fun σ2 H2 => wipe σ2 [i] = wipe σ [i] ∧ tt σ2 H2 fun b H3 =>
        if b = true then te σ2 H3 fun y H4 => ∃ acc, H4 D = some (.lst acc) ∧ acc.length < sizeLine ∧ Nx (upd H4 D (.lst (acc ++ [y]))) else Nx H3) := by
  intro D hD
  have s0 : Same H1 (upd H1 D (.lst [])) := new_same hD
  have wf0 : Wf (upd H1 D (.lst [])) (labD w D ms.length) := fun a l z => by
    by_cases ha : a = D
    · subst ha; exact ⟨_, upd_same, rfl⟩
    · rw [labD_ne ha] at z
      rw [upd_ne ha]
      exact st.wf a l z
  have st0 := st.relabel s0 (w' := labD w D ms.length) (fun a o z => labD_ne (ne_of_none z hD)) wf0
  let Wn : Nat → Nat → Hp → Prop := fun k n H => n + k = ds.length ∧ ∃ acc outs rest, H D = some (.lst acc) ∧ acc.length ≤ k ∧ RepL cl H (Fz (labD w D ms.length)) outs acc ∧ StOk cl H (labD w D ms.length) ms σ env ∧ (∀ a o, H1 a = some o → H a = some o) ∧ lcF i ft g (ds.drop k) env = some rest ∧ outs ++ rest = ys
  refine ⟨Wn, ⟨ds.length, by simp, [], [], ys, upd_same, Nat.le_refl _, .nil, st0, fun a o z => s0 a o z, by simpa using e, rfl⟩, fun k n H hW => ?_⟩
  obtain ⟨hk, acc, outs, rest, hHD, hacc, rl, stk, old, erest, hys⟩ := hW
  by_cases hlt : k < ds.length
  · right
    have hd : ds[k]? = some ds[k] := List.getElem?_eq_getElem hlt
    obtain ⟨g1, g2⟩ := hgo k H D _ old hD hd
    refine ⟨g1, fun H' => Wn (k + 1) (n - 1) H', fun H' h => ⟨n - 1, by omega, h⟩, fun x H2 y => ?_⟩
    obtain ⟨rfl, rx⟩ := g2 x H2 y
    have w2 : wipe ((wipe σ [i]).set i (some x)) [i] = wipe σ [i] := by
      show (((σ.set i none).set i (some x)).set i none) = σ.set i none
      rw [List.set_set, List.set_set]
    refine ⟨w2, ?_⟩
    rw [List.drop_eq_getElem_cons hlt] at erest
    have erest' : (okO (ft (env.set i ds[k]))).bind (fun b => if b = true then (okO (g (env.set i ds[k]))).bind fun y => (lcF i ft g (ds.drop (k + 1)) env).map (y :: ·) else lcF i ft g (ds.drop (k + 1)) env) = some rest := erest
    have st3 : StOk cl H2 (labD w D ms.length) (ms.set i bm) ((wipe σ [i]).set i (some x)) (env.set i ds[k]) := hset stk.gone rx
    cases eb : okO (ft (env.set i ds[k])) with
    | none => rw [eb] at erest'; exact nomatch erest'
    | some b =>
      rw [eb] at erest'
      have hft := okO_some eb
      refine ht H2 _ _ _ st3 _ hft (fun z hz => nomatch hz) _ fun b' hb' H3 s3 => ?_
      cases hb'
      have erest2 : (if b = true then (okO (g (env.set i ds[k]))).bind fun y => (lcF i ft g (ds.drop (k + 1)) env).map (y :: ·) else lcF i ft g (ds.drop (k + 1)) env) = some rest := erest'
      cases b with
      | false =>
        rw [if_neg Bool.false_ne_true] at erest2
        rw [if_neg Bool.false_ne_true]
        exact ⟨by omega, acc, outs, rest, s3 _ _ hHD, by omega, rl.same s3 fun _ z => z, stk.same s3, fun a o z => s3 _ _ (old a o z), erest2, hys⟩
      | true =>
        rw [if_pos rfl] at erest2
        rw [if_pos rfl]
        cases eg : okO (g (env.set i ds[k])) with
        | none => rw [eg] at erest2; exact nomatch erest2
        | some yd =>
          rw [eg] at erest2
          have hg := okO_some eg
          have erest3 : (lcF i ft g (ds.drop (k + 1)) env).map (yd :: ·) = some rest := erest2
          obtain ⟨rest', er, rfl⟩ := Option.map_eq_some_iff.mp erest3
          refine he H3 _ _ _ (st3.same s3) _ hg (fun z hz => nomatch hz) _ fun d' hd' H4 yv s4 ry => ?_
          cases hd'
          have s34 := s3.trans s4
          have st4 := stk.same s34
          have ryp := ry.pu (stk.wf.same s3) hc2
          obtain ⟨m1, m2⟩ := st4.mutO (o' := .lst (acc ++ [yv])) labD_eq (Nat.le_refl _) rfl
          refine ⟨acc, s34 _ _ hHD, LIM_lt (by omega), by omega, acc ++ [yv], outs ++ [yd], rest', upd_same, by simp; omega, ?_, m1, fun a o z => ?_, er, by simpa using hys⟩
          · exact (m2.repL st4.wf (rl.same s34 fun _ z => z)).append (.cons (m2.rep st4.wf ryp) .nil)
          · rw [upd_ne (ne_of_none z hD)]
            exact s34 _ _ (old a o z)
  · left
    have hz : ds.drop k = [] := List.drop_eq_nil_of_le (by omega)
    rw [hz] at erest
    have er : rest = [] := (Option.some.inj (show some [] = some rest from erest)).symm
    subst er
    rw [List.append_nil] at hys
    subst hys
    refine ⟨hstop k H old (by omega), q H _ (fun a o z => old a o z) ⟨D, acc, outs, rfl, rfl, hD, hHD, rl.any fun a z => ?_⟩⟩
    by_cases ha : a = D
    · subst ha
      have z' : labD w a ms.length a = none := z
      rw [labD_eq] at z'
      exact nomatch z'
    · have z' : labD w D ms.length a = none := z
      rw [labD_ne ha] at z'
      exact ⟨z', ha⟩
def eLc (i : Nat) (f : List D → M D) (ft : List D → M Bool) (g : List D → M D) : List D → M D := fun env => bd (f env) fun d => match d with
  | .lst ds => if ds.length ≤ LIM then lift ((lcF i ft g ds env).map D.lst) else none
  | _ => none
theorem eLc_of {i : Nat} {ds : List D} {r : R D} (e : (if ds.length ≤ LIM then lift ((lcF i ft g ds env).map D.lst) else none) = some r) : ds.length ≤ LIM ∧ ∃ ys, lcF i ft g ds env = some ys ∧ r = .ok (.lst ys) := by
  by_cases h : ds.length ≤ LIM
  · rw [if_pos h] at e
    obtain ⟨z, e1, rfl⟩ := lift_ok e
    obtain ⟨ys, e2, rfl⟩ := Option.map_eq_some_iff.mp e1
    exact ⟨h, ys, e2, rfl⟩
  · rw [if_neg h] at e
    exact nomatch e
theorem se_lc {i : Nat} (hc : toPu c1 = true) (h : SE cl W ms c1 tf f) (ht : SEt cl WF (ms.set i .pu) tt ft) (he : SE cl WF (ms.set i .pu) c2 te g) (hc2 : toPu c2 = true) : SE cl W ms (.fr .l1) (tLc (iList K tf) (gName i) tt te [i]) (eLc i f ft g) := fun H w σ env st r e x Q q =>
  h.bind st e x fun d H1 v s1 r1 e => by
    have rp := r1.pu st.wf hc
    cases rp with
    | @lst a vs ds h1 hp ra =>
      obtain ⟨hlim, ys, e1, rfl⟩ := eLc_of e
      refine ⟨a, rfl, ⟨vs, .inl (.inl h1)⟩, lc_gen (P0 := fun w => Fz w) (bm := .pu) (fun st r => by have z := st.setPu (i := i) r; rw [List.set_set] at z; exact z) (st.same s1) e1 hlim (fun k H' old hk => ⟨vs, .inl (.inl (old _ _ h1)), by rw [← ra.length]; exact hk⟩) (fun k H' D d old hD hd => ?_) ht he hc2 fun H' v s fr => q _ rfl H' v (s1.trans s) (fr.base s1)⟩
      obtain ⟨v, hv, rv⟩ := ra.get hd
      refine ⟨⟨vs, v, .inl (.inl (old _ _ h1)), hv⟩, fun x H2 y => ?_⟩
      obtain ⟨rfl, y⟩ := y
      have hx := y vs (.inl (.inl (old _ _ h1)))
      rw [hv] at hx
      cases hx
      exact ⟨rfl, rv.mono (fun a o z p => ⟨old a o z, (labD_ne (ne_of_none z hD)).trans p⟩) fun a xs z => old a _ z⟩
    | _ => simp only at e; exact nomatch e
theorem se_lcLo {i : Nat} (hc : toLo c1 = true) (h : SE cl W ms c1 tf f) (ht : SEt cl WF (ms.set i .lo) tt ft) (he : SE cl WF (ms.set i .lo) c2 te g) (hc2 : toPu c2 = true) : SE cl W ms (.fr .l1) (tLc (iList K tf) (gName i) tt te [i]) (eLc i f ft g) := fun H w σ env st r e x Q q =>
  h.bind st e x fun d H1 v s1 r1 e => by
    have rp := r1.lo st.wf hc
    cases rp with
    | @lst a vs ds h1 hp ra =>
      obtain ⟨hlim, ys, e1, rfl⟩ := eLc_of e
      refine ⟨a, rfl, ⟨vs, .inl (.inl h1)⟩, lc_gen (P0 := fun w => Lf w) (bm := .lo) (fun st r => by have z := st.setLo (i := i) r; rw [List.set_set] at z; exact z) (st.same s1) e1 hlim (fun k H' old hk => ⟨vs, .inl (.inl (old _ _ h1)), by rw [← ra.length]; exact hk⟩) (fun k H' D d old hD hd => ?_) ht he hc2 fun H' v s fr => q _ rfl H' v (s1.trans s) (fr.base s1)⟩
      obtain ⟨v, hv, rv⟩ := ra.get hd
      refine ⟨⟨vs, v, .inl (.inl (old _ _ h1)), hv⟩, fun x H2 y => ?_⟩
      obtain ⟨rfl, y⟩ := y
      have hx := y vs (.inl (.inl (old _ _ h1)))
      rw [hv] at hx
      cases hx
      exact ⟨rfl, rv.mono (fun a o z p => ⟨old a o z, by
        have p' : w a = none ∨ w a = some .fo := p
        show labD w D ms.length a = none ∨ labD w D ms.length a = some .fo
        rw [labD_ne (ne_of_none z hD)]; exact p'⟩) fun a xs z => old a _ z⟩
    | _ => simp only at e; exact nomatch e
/-- over range(..) -/
def eLcR (i : Nat) (fs : List (List D → M D)) (ft : List D → M Bool) (g : List D → M D) : List D → M D := fun env => bd (eArgs fs env) fun d => match d with
  | [.int j] => if -(2 ^ 62) ≤ j ∧ j ≤ 1000000 then lift ((lcF i ft g (rngL 0 j.toNat) env).map D.lst) else none
  | [.int l, .int j] => if -(2 ^ 62) ≤ l ∧ l < 2 ^ 62 ∧ -(2 ^ 62) ≤ j ∧ j < 2 ^ 62 ∧ (j - l).toNat ≤ LIM then lift ((lcF i ft g (rngL l (j - l).toNat) env).map D.lst) else none
  | _ => none
theorem rng_gen {i : Nat} {lo : Int} {n : Nat} {ys : List D} {Q : VK} (st : StOk cl H1 w ms σ env) (e : lcF i ft g (rngL lo n) env = some ys) (hlim : n ≤ LIM)
    (ht : SEt cl WF (ms.set i .pu) tt ft) (he : SE cl WF (ms.set i .pu) c2 te g) (hc2 : toPu c2 = true) (q : ∀ H' v, Same H1 H' → FrK cl H1 H' w .l1 (.lst ys) v → Q v H') :
    ∀ D, H1 D = none → ∃ Wn : Nat → Nat → Hp → Prop, (∃ m, Wn 0 m (upd H1 D (.lst []))) ∧ ∀ k n' H, Wn k n' H →
      ((Itr lo n).stop k H ∧ Q (.ref D) H) ∨ ((Itr lo n).go k H ∧ ∃ Nx : Hp → Prop, (∀ H', Nx H' → ∃ m', m' < n' ∧ Wn (k + 1) m' H') ∧ ∀ x H', (Itr lo n).yld k H x H' → gName i x (wipe σ [i]) H' fun σ2 H2 => wipe σ2 [i] = wipe σ [i] ∧ tt σ2 H2 fun b H3 =>
        if b = true then te σ2 H3 fun y H4 => ∃ acc, H4 D = some (.lst acc) ∧ acc.length < sizeLine ∧ Nx (upd H4 D (.lst (acc ++ [y]))) else Nx H3) := by
  refine lc_gen (P0 := fun w => Fz w) (bm := .pu) (fun st r => by have z := st.setPu (i := i) r; rw [List.set_set] at z; exact z) st e (by rw [rngL_len]; exact hlim) (fun k H' old hk => by rw [rngL_len] at hk; exact hk) (fun k H' D d old hD hd => ?_) ht he hc2 q
  have hk : k < n := by have := (List.getElem?_eq_some_iff.mp hd).1; rw [rngL_len] at this; exact this
  have hd2 : d = .int (lo + k) := by
    have h2 := rngL_get n lo k hk
    have h3 : ((rngL lo n).drop k)[0]? = some (.int (lo + k)) := by rw [h2]; rfl
    rw [List.getElem?_drop, Nat.add_zero] at h3
    rw [h3] at hd
    exact (Option.some.inj hd).symm
  subst hd2
  exact ⟨hk, fun x H2 y => by obtain ⟨rfl, rfl⟩ := y; exact ⟨rfl, .int _⟩⟩
theorem se_lcR1 {i : Nat} {fs : List (List D → M D)} {tr : TA} (h : SEa cl W ms [c1] tr (eArgs fs)) (ht : SEt cl WF (ms.set i .pu) tt ft) (he : SE cl WF (ms.set i .pu) c2 te g) (hc2 : toPu c2 = true) : SE cl W ms (.fr .l1) (tLc (iRng1 tr) (gName i) tt te [i]) (eLcR i fs ft g) := fun H w σ env st r e x Q q =>
  h.bind st e x fun d H1 vs s1 r1 e => by
    obtain ⟨d, v, rfl, rfl, rr⟩ := r1.one st.wf
    cases rr with
    | int j =>
      have e1 : (if -(2 ^ 62) ≤ j ∧ j ≤ 1000000 then lift ((lcF i ft g (rngL 0 j.toNat) env).map D.lst) else none) = some r := e
      by_cases hj : -(2 ^ 62) ≤ j ∧ j ≤ 1000000
      · rw [if_pos hj] at e1
        obtain ⟨z, e2, rfl⟩ := lift_ok e1
        obtain ⟨ys, e3, rfl⟩ := Option.map_eq_some_iff.mp e2
        exact ⟨j, rfl, hj.1, by omega, rng_gen (st.same s1) e3 (by unfold LIM; omega) ht he hc2 fun H' v s fr => q _ rfl H' v (s1.trans s) (fr.base s1)⟩
      · rw [if_neg hj] at e1
        exact nomatch e1
    | _ => exact nomatch e
theorem se_lcR2 {i : Nat} {c3 : RC} {fs : List (List D → M D)} {tr : TA} (h : SEa cl W ms [c1, c3] tr (eArgs fs)) (ht : SEt cl WF (ms.set i .pu) tt ft) (he : SE cl WF (ms.set i .pu) c2 te g) (hc2 : toPu c2 = true) : SE cl W ms (.fr .l1) (tLc (iRng2 tr) (gName i) tt te [i]) (eLcR i fs ft g) := fun H w σ env st r e x Q q =>
  h.bind st e x fun d H1 vs s1 r1 e => by
    obtain ⟨d, v, d2, v2, rfl, rfl, rr, rr2⟩ := r1.two st.wf
    cases rr with
    | int l =>
      cases rr2 with
      | int j =>
        have e1 : (if -(2 ^ 62) ≤ l ∧ l < 2 ^ 62 ∧ -(2 ^ 62) ≤ j ∧ j < 2 ^ 62 ∧ (j - l).toNat ≤ LIM then lift ((lcF i ft g (rngL l (j - l).toNat) env).map D.lst) else none) = some r := e
        by_cases hj : -(2 ^ 62) ≤ l ∧ l < 2 ^ 62 ∧ -(2 ^ 62) ≤ j ∧ j < 2 ^ 62 ∧ (j - l).toNat ≤ LIM
        · rw [if_pos hj] at e1
          obtain ⟨z, e2, rfl⟩ := lift_ok e1
          obtain ⟨ys, e3, rfl⟩ := Option.map_eq_some_iff.mp e2
          exact ⟨l, j, rfl, ⟨hj.1, hj.2.1, hj.2.2.1, hj.2.2.2.1⟩, rng_gen (st.same s1) e3 hj.2.2.2.2 ht he hc2 fun H' v s fr => q _ rfl H' v (s1.trans s) (fr.base s1)⟩
        · rw [if_neg hj] at e1
          exact nomatch e1
      | _ => exact nomatch e
    | _ => exact nomatch e

/-! ### the script -/
theorem se_slSc {i : Nat} {th : TO} {hi : Option (List D → M D)} (hm : ms[i]? = some .sc) (hh : SEo cl W ms th hi) : SE cl W ms (.fr .l1) (tSl (rSlL cl.K) (tVar i) tNoPart th) (eSl (eVar i) none hi) := fun H w σ env st r e x Q q => by
  obtain ⟨v, d, a, b, p, ns, rfl, rfl, sc⟩ := st.sl i .sc hm (by decide)
  refine ⟨_, a, ?_⟩
  have e2 : bd (eOpt hi env) (fun h => lift (dCut (.lst (ns.map D.int)) none h)) = some r := by
    unfold eSl eVar at e
    rw [b] at e
    exact e
  refine hh H w σ env st e2 x _ fun h H3 s3 e => ?_
  obtain ⟨z, e1, rfl⟩ := lift_ok e
  have im : ∀ l : List Int, immL (l.map D.int) = true := fun l => by
    induction l with
    | nil => rfl
    | cons y r ih => exact Bool.and_eq_true_iff.mpr ⟨rfl, ih⟩
  have e3 : some (D.lst (cutD (ns.map D.int) none h)) = some z := by
    have e4 : (if immL (ns.map D.int) = true then some (D.lst (cutD (ns.map D.int) none h)) else none) = some z := e1
    rw [if_pos (im ns)] at e4
    exact e4
  cases e3
  have rr : ∀ l : List Int, RepL cl H3 (Fz w) (l.map D.int) (l.map V.int) := fun l => by
    induction l with
    | nil => exact .nil
    | cons y r ih => exact .cons (.int y) ih
  have sq : SqL cl.K H3 p (ns.map V.int) := s3.seq sc.sq
  refine ⟨p, ns.map V.int, rfl, sq, fun n hn => ?_⟩
  have s4 := new_same (o := .lst (cutV (ns.map V.int) none h)) hn
  exact q _ rfl _ _ (s3.trans s4) ⟨n, _, _, rfl, rfl, s3.free hn, upd_same, (RepL.im (by
    unfold cutD
    rw [← List.map_drop, ← List.map_take]
    exact im _) (RepL.cut (rr ns) none h)).same s4 fun _ z => z⟩
/-- f(script, e): the script handed on -/
theorem se_fnSc {i : Nat} {rc : RC} {G : List D → Option Out} {E : XK} (hm : ms[i]? = some .sc) (hb : SE cl W ms c2 tb g) : SE cl W ms (resC rc) (tCall (spOf cl [.sc, .lo] rc G) [] E (tCons (tVar i) (tCons tb tNil))) (fun env => bd (lift env[i]?) fun s => bd (g env) fun y => ofOutN (G [s, y])) := fun H w σ env st r e x Q q => by
  obtain ⟨v, d, a, b, p, ns, rfl, rfl, sc⟩ := st.sl i .sc hm (by decide)
  have e0 : bd (lift env[i]?) (fun s => bd (g env) fun y => ofOutN (G [s, y])) = some r := e
  rw [b] at e0
  refine ⟨_, a, ?_⟩
  refine hb.bind st e0 x fun y H1 u s1 r1 e => ?_
  obtain ⟨d, e', hG, rfl⟩ := ofOutN_ok e
  have wf1 := st.wf.same s1
  show spOf cl [.sc, .lo] rc G ([V.ref p, u] ++ []) H1 Q E
  rw [List.append_nil]
  refine ⟨lent w, [_, y], .rt d e', rfl, rfl, fun a l e => ?_, fun a i j e => ?_, fun a b i e _ => ?_, fun k m e n => ?_, hG, fun H' w' v k _ rr _ => q d rfl H' v (s1.trans (kp_same wf1 k)) ((ret_res wf1 k rr).base s1)⟩
  · obtain ⟨_, l', q⟩ := lent_fo e
    exact wf1 a l' q
  · have z := (lent_fo e).1
    cases z
  · have z := (lent_fo e).1
    cases z
  · match k, e with
    | 0, e =>
      have e' : Mo.sc = m := Option.some.inj e
      subst e'
      refine ⟨_, _, rfl, rfl, p, ns, rfl, rfl, ?_⟩
      rcases sc with ⟨r, l⟩ | z
      · refine .inl ⟨?_, ?_⟩
        · rcases r with r | ⟨o, r⟩
          · exact .inl (s1 _ _ r)
          · exact .inr ⟨o, s1 _ _ r⟩
        · rcases l with l | l
          · exact .inl (lent_none.mpr l)
          · exact .inr (lent_some l)
      · exact .inr z
    | 1, e =>
      have e' : Mo.lo = m := Option.some.inj e
      subst e'
      exact ⟨_, _, rfl, rfl, rep_lent (r1.an st.wf)⟩
    | k + 2, e => simp at e
/-! ### isinstance with a built-in type -/
/-- a value's built-in type -/
def tyN : D → String
  | .non => "NoneType"
  | .bl _ => "bool"
  | .int _ => "int"
  | .str _ => "str"
  | .lst _ => "list"
  | .tup _ => "tuple"
  | .dct _ => "dict"
  | .dctT _ => "dict"
  | .ins _ _ => ""
def isTy (t n : String) : Bool := t == n || (t == "bool" && n == "int")
def kOk (n : String) : Bool := n == "bool" || n == "int" || n == "str" || n == "list" || n == "tuple"
theorem kit_at {t n : String} (ht : t = "NoneType" ∨ t = "bool" ∨ t = "int" ∨ t = "str" ∨ t = "list" ∨ t = "tuple" ∨ t = "dict") (hn : kOk n = true) : kitB t n = some (isTy t n) := by
  have hn' : n = "bool" ∨ n = "int" ∨ n = "str" ∨ n = "list" ∨ n = "tuple" := by
    simp only [kOk, Bool.or_eq_true, beq_iff_eq] at hn
    rcases hn with (((h | h) | h) | h) | h
    · exact .inl h
    · exact .inr (.inl h)
    · exact .inr (.inr (.inl h))
    · exact .inr (.inr (.inr (.inl h)))
    · exact .inr (.inr (.inr (.inr h)))
  rcases ht with rfl | rfl | rfl | rfl | rfl | rfl | rfl <;> rcases hn' with rfl | rfl | rfl | rfl | rfl <;> decide +kernel
def dIsi (n : String) : D → Option D
  | .ins _ _ => none
  | d => some (.bl (isTy (tyN d) n))
def tIsi (K : PySem.W.Frag) (n : String) (ta : TE) : TE := tCB (rIsi K) (tCons ta (tCons (tC (.ty n)) tNil))
theorem se_isi {n : String} (hn : kOk n = true) (ha : SE cl W ms c ta f) : SE cl W ms .pu (tIsi K n ta) (eUn (dIsi n) f) := fun H w σ env st r e x Q q =>
  ha.bind st e x fun d1 H1 v1 s1 r1 e => by
    obtain ⟨z, e1, rfl⟩ := lift_ok e
    have r1' := r1.an st.wf
    have fin : ∀ t, (t = "NoneType" ∨ t = "bool" ∨ t = "int" ∨ t = "str" ∨ t = "list" ∨ t = "tuple" ∨ t = "dict") → TyOf K H1 v1 (.type t) → z = .bl (isTy t n) → ∃ (x c : V) (t u : Value) (b : Bool), [v1, V.ty n] = [x, c] ∧ ClsV c u ∧ TyX K H1 x t ∧ PySem.W.kitOne K t u = some b ∧ Q (.bl b) H1 := by
      intro t ht ty hz
      subst hz
      exact ⟨v1, .ty n, .type t, .type n, isTy t n, rfl, .ty n, .base ty, kit_ty (kit_at ht hn), q _ rfl H1 _ s1 (.bl _)⟩
    show ∃ (x c : V) (t u : Value) (b : Bool), [v1, V.ty n] = [x, c] ∧ ClsV c u ∧ TyX K H1 x t ∧ PySem.W.kitOne K t u = some b ∧ Q (.bl b) H1
    cases r1' with
    | non => exact fin _ (.inl rfl) .non (Option.some.inj e1).symm
    | bl b => exact fin _ (.inr (.inl rfl)) (.bl b) (Option.some.inj e1).symm
    | int b => exact fin _ (.inr (.inr (.inl rfl))) (.int b) (Option.some.inj e1).symm
    | str b => exact fin _ (.inr (.inr (.inr (.inl rfl)))) (.str b) (Option.some.inj e1).symm
    | lst h1 _ ra => exact fin _ (.inr (.inr (.inr (.inr (.inl rfl))))) (.lst h1) (Option.some.inj e1).symm
    | tup h1 ra => exact fin _ (.inr (.inr (.inr (.inr (.inr (.inl rfl)))))) (.tup h1) (Option.some.inj e1).symm
    | dct h1 _ ra => exact fin _ (.inr (.inr (.inr (.inr (.inr (.inr rfl)))))) (.dK h1) (Option.some.inj e1).symm
    | dctT h1 _ ra => exact fin _ (.inr (.inr (.inr (.inr (.inr (.inr rfl)))))) (.dT h1) (Option.some.inj e1).symm
    | ins h1 _ ra => exact nomatch e1
end
end Mv

namespace Mv
open PySem L2
/-- a def of the module, with its promise -/
def Cal (P : Program) (w : World) (cl : Nv) (mg : Str → Option Value) (base : Heap) (CX : CXT) (k : Nat) (x : Str) (ps : List Str) (sp : Sp) : Prop :=
  ∃ (f : Addr) (fd : FuncData), mg x = some (.ref f) ∧ PySem.W.keepIn cl.K (.ref f) = true ∧ Binds cl.K fd ps [] ∧ FnOk P w cl.K mg base CX k f fd ps sp
end Mv

namespace Mv
open PySem L2
variable {cl : Nv}
section
variable {H H' H1 : Hp} {w w' : Om} {ms ms' : List Mo} {σ : L2.St} {env : List D} {W : WX} {m : Md} {c c1 c2 : RC} {te ta tb tf : TE} {f g : List D → M D} {K : PySem.W.Frag} {tt : TT} {ft : List D → M Bool}

/-! ### None or a new list -/
theorem SE.toN1 (h : SE cl W ms (.fr .l1) te f) : SE cl W ms (.fr .n1) te f := fun H w σ env st r e x Q q =>
  h H w σ env st r e x Q fun d hd H' v s rs => q d hd H' v s (.inr rs)
theorem se_nonN : SE cl W ms (.fr .n1) (tC .non) (eC .non) := fun H w σ env st r e x Q q => by
  cases e; exact q _ rfl H _ (Same.refl H) (.inl ⟨rfl, rfl⟩)
/-- return x, x an owned list, where None is handed back too -/
theorem ss_retON {i : Nat} (hi : ms[i]? = some (.ow .l1)) (hr : wk ms m.rt = true) (hm : m.rc = .fr .n1 := by rfl) : SS cl W ms m (tRet (tVar i)) (sRet (eVar i)) := by
  intro H w σ env st o e D p
  obtain ⟨v, d, a, b, r⟩ := st.sl i _ hi (by intro z; cases z)
  unfold sRet eVar at e
  rw [b] at e
  cases e
  exact ⟨v, a, p H w σ v (st.weak hr) Kp.refl (by rw [hm]; exact ⟨i, 0, .inr r⟩)⟩
theorem StOk.wrN {i : Nat} (h : StOk cl H w ms σ env) (hm : ms[i]? = some (.ow .n1)) {ds : List D} (he : env[i]? = some (.lst ds)) : ∃ p vs, σ[i]? = some (some (.ref p)) ∧ H p = some (.lst vs) ∧ RepL cl H (Fz w) ds vs ∧
    ∀ (H1 : Hp), Same H H1 → ∀ (vs' : List V) (ds' : List D), RepL cl H1 (Fz w) ds' vs' → StOk cl (upd H1 p (.lst vs')) w ms σ (env.set i (.lst ds')) ∧ Kp H w (upd H1 p (.lst vs')) w := by
  obtain ⟨v, d, a, b, o⟩ := h.sl i _ hm (by intro z; cases z)
  rw [he] at b
  cases b
  have o' : OwnK cl H w (.ow i 0) (.ow i 1) .n1 (.lst ds) v := o
  rcases o' with ⟨_, z⟩ | ⟨p, vs, ds', rfl, e2, e3, e4, r⟩
  · cases z
  · cases e2
    refine ⟨p, vs, a, e3, r, fun H1 s vs' ds' r' => ?_⟩
    have st1 := h.same s
    obtain ⟨z1, z2⟩ := st1.mut (o' := .lst vs') (d' := .lst ds') hm (by intro z; cases z) a he (.inl e4) rfl fun k => Or.inr ⟨p, vs', ds', rfl, rfl, upd_same, e4, k.repL st1.wf r'⟩
    exact ⟨z1, (Kp.same s).trans z2⟩
noncomputable def sAppN (i : Nat) (f : List D → M D) : List D → Option Out := fun env => match env[i]? with
  | some (.lst _) => sApp i f env
  | _ => none
theorem sAppN_eq {i : Nat} {f : List D → M D} {env : List D} {l : List D} (h : env[i]? = some (.lst l)) : sAppN i f env = sApp i f env := by unfold sAppN; rw [h]
theorem ss_appN {i : Nat} (hm : ms[i]? = some (.ow .n1)) (hc : toPu c = true) (h : SE cl W ms c te f) (hx : wk ms m.ex = true) (hn : wk ms m.nx = true) :
    SS cl W ms m (tDrop (tBM K "list" rAppend (tVar i) (tCons te tNil))) (sAppN i f) := by
  intro H w σ env st o e D p
  unfold sAppN at e
  cases he : env[i]? with
  | none => simp only [he] at e; cases e
  | some d0 =>
    cases d0 with
    | lst ds =>
      simp only [he] at e
      obtain ⟨a, vs, hs, hH, r, wr⟩ := st.wrN hm he
      refine ⟨_, hs, .inl ⟨rfl, _, .inl (.inl hH)⟩, ?_⟩
      refine h.stm st (show sX (f env) env _ = some o from e) hx p fun d H' v s rr e => ?_
      rw [he] at e
      simp only at e
      split at e
      · rename_i hl
        cases e
        have rp := rr.pu st.wf hc
        refine ⟨a, vs, v, rfl, rfl, s _ _ hH, by rw [← r.length]; exact LIM_lt (Nat.le_of_lt hl), ?_⟩
        obtain ⟨z1, z2⟩ := wr H' s (vs ++ [v]) (ds ++ [d]) ((r.same s fun _ z => z).append (.cons rp .nil))
        exact p _ _ _ (z1.weak hn) z2
      · cases e
    | _ => simp only [he] at e; cases e
/-- xs.clear() -/
def sClear (i : Nat) : List D → Option Out := fun env => match env[i]? with
  | some (.lst _) => some (.nx (env.set i (.lst [])))
  | _ => none
theorem ss_clearN {i : Nat} (hm : ms[i]? = some (.ow .n1)) (hn : wk ms m.nx = true) : SS cl W ms m (tDrop (tBM0 K "list" rClear (tVar i))) (sClear i) := by
  intro H w σ env st o e D p
  unfold sClear at e
  cases he : env[i]? with
  | none => simp only [he] at e; cases e
  | some d0 =>
    cases d0 with
    | lst ds =>
      simp only [he] at e
      cases e
      obtain ⟨a, vs, hs, hH, r, wr⟩ := st.wrN hm he
      refine ⟨_, hs, .inl ⟨rfl, _, .inl (.inl hH)⟩, a, vs, rfl, rfl, hH, ?_⟩
      obtain ⟨z1, z2⟩ := wr H (Same.refl H) [] [] .nil
      exact p _ _ _ (z1.weak hn) z2
    | _ => simp only [he] at e; cases e
noncomputable def sAppF (f g : List D → M D) : List D → Option Out := fun env => sX (f env) env fun d => match d with
  | .lst ds => if ds.length < LIM then sX (g env) env fun _ => some (.nx env) else none
  | _ => none
theorem sAppF_eq {f g : List D → M D} {env ds : List D} {x : D} (h : f env = some (.ok (.lst ds))) (hl : ds.length < LIM) (hg : g env = some (.ok x)) : sAppF f g env = some (.nx env) := by
  unfold sAppF
  rw [h]
  show (if ds.length < LIM then sX (g env) env fun _ => some (.nx env) else none) = _
  rw [if_pos hl, hg]
  rfl
/-- f(..).append(e): a new list that nobody keeps -/
theorem ss_appF (ha : SE cl W ms (.fr .l1) ta f) (hc : toPu c = true) (h : SE cl W ms c te g) (hx : wk ms m.ex = true) (hn : wk ms m.nx = true) :
    SS cl W ms m (tDrop (tBM K "list" rAppend ta (tCons te tNil))) (sAppF f g) := by
  intro H w σ env st o e D p
  unfold sAppF at e
  refine ha.stm st e hx p fun d H1 v s1 r1 e => ?_
  obtain ⟨a, vs, ds, rfl, rfl, hn0, hH, rl⟩ := r1
  simp only at e
  split at e
  · rename_i hl
    refine ⟨.inl ⟨rfl, _, .inl (.inl hH)⟩, ?_⟩
    refine h.stm (st.same s1) e hx (p.trans (Kp.same s1)) fun d2 H2 v2 s2 r2 e => ?_
    cases e
    refine ⟨a, vs, v2, rfl, rfl, s2 _ _ hH, by rw [← rl.length]; exact LIM_lt (Nat.le_of_lt hl), ?_⟩
    have s12 := s1.trans s2
    have wf2 : Wf H2 (labD w a ms.length) := fun x l z => by
      by_cases hx : x = a
      · subst hx; exact ⟨_, s2 _ _ hH, rfl⟩
      · rw [labD_ne hx] at z
        exact (st.wf.same s12) x l z
    have st2 := st.relabel s12 (w' := labD w a ms.length) (fun x o z => labD_ne (ne_of_none z hn0)) wf2
    obtain ⟨z1, z2⟩ := st2.mutO (o' := .lst (vs ++ [v2])) labD_eq (Nat.le_refl _) rfl
    refine p _ _ _ (z1.weak hn) (Kp.trans ⟨⟨fun x o z y => ⟨s12 _ _ z, (labD_ne (ne_of_none z hn0)).trans y⟩, fun x o z y => ⟨s12 _ _ z, (labD_ne (ne_of_none z hn0)).trans y⟩⟩, fun x i k => ?_⟩ ⟨z2, fun _ _ _ => Iff.rfl⟩)
    by_cases hx : x = a
    · subst hx
      rw [labD_eq]
      constructor
      · intro z; cases z
      · intro z
        obtain ⟨o, y, _⟩ := st.wf _ _ z
        rw [hn0] at y
        cases y
    · rw [labD_ne hx]
  · cases e

/-! ### a, b = a tuple -/
def setAll : List Nat → List D → List D → Option (List D)
  | [], [], env => some env
  | i :: is, d :: ds, env => setAll is ds (env.set i d)
  | _, _, _ => none
def gNames : List Nat → TGs
  | [] => gNil
  | i :: is => gCons (gName i) (gNames is)
def setMo (bm : Mo) : List Nat → List Mo → List Mo
  | [], ms => ms
  | i :: is, ms => setMo bm is (ms.set i bm)
theorem unp_pu : ∀ {is : List Nat} {ms : List Mo} {σ : L2.St} {env : List D} {vs : List V} {ds : List D} {e : List D} {Q : L2.St → Hp → Prop}, StOk cl H w ms σ env → RepL cl H (Fz w) ds vs → setAll is ds env = some e →
    (∀ σ', StOk cl H w (setMo .pu is ms) σ' e → Q σ' H) → gNames is vs σ H Q
  | [], _, _, _, _, _, _, _, st, r, h, q => by
    cases r with
    | nil => cases h; exact ⟨rfl, q _ st⟩
    | cons _ _ => cases h
  | i :: is, _, _, _, _, _, _, _, st, r, h, q => by
    cases r with
    | nil => cases h
    | cons r1 r2 => exact ⟨_, _, rfl, unp_pu (st.setPu r1) r2 h q⟩
theorem unp_lo : ∀ {is : List Nat} {ms : List Mo} {σ : L2.St} {env : List D} {vs : List V} {ds : List D} {e : List D} {Q : L2.St → Hp → Prop}, StOk cl H w ms σ env → RepL cl H (Lf w) ds vs → setAll is ds env = some e →
    (∀ σ', StOk cl H w (setMo .lo is ms) σ' e → Q σ' H) → gNames is vs σ H Q
  | [], _, _, _, _, _, _, _, st, r, h, q => by
    cases r with
    | nil => cases h; exact ⟨rfl, q _ st⟩
    | cons _ _ => cases h
  | i :: is, _, _, _, _, _, _, _, st, r, h, q => by
    cases r with
    | nil => cases h
    | cons r1 r2 => exact ⟨_, _, rfl, unp_lo (st.setLo r1) r2 h q⟩
theorem setAll_len : ∀ {is : List Nat} {ds : List D} {env e : List D}, setAll is ds env = some e → ds.length = is.length
  | [], [], _, _, _ => rfl
  | [], _ :: _, _, _, h => by cases h
  | _ :: _, [], _, _, h => by cases h
  | i :: is, d :: ds, _, _, h => congrArg (· + 1) (setAll_len (is := is) (ds := ds) h)
def sUnp (is : List Nat) (f : List D → M D) : List D → Option Out := fun env => sX (f env) env fun d => match d with
  | .tup ds => (setAll is ds env).map Out.nx
  | _ => none
theorem ss_unp {is : List Nat} {n : Nat} (hi : is.length = n) (hc : toPu c = true) (h : SE cl W ms c te f) (hx : wk ms m.ex = true) (hn : wk (setMo .pu is ms) m.nx = true) : SS cl W ms m (tAsg te (gTup K n (gNames is))) (sUnp is f) := by
  intro H w σ env st o e D p
  refine h.stm st e hx p fun d H' v s r e => ?_
  have rp := r.pu st.wf hc
  cases rp with
  | @tup a vs ds h1 ra =>
    obtain ⟨e2, h2, rfl⟩ := Option.map_eq_some_iff.mp (show (setAll is ds env).map Out.nx = some o from e)
    exact ⟨a, vs, rfl, .inl (.inl h1), by rw [← ra.length, setAll_len h2, hi], unp_pu (st.same s) ra h2 fun σ' st' => p H' w σ' (st'.weak hn) (Kp.same s)⟩
  | _ => simp only at e; cases e
theorem ss_unpLo {is : List Nat} {n : Nat} (hi : is.length = n) (hc : toLo c = true) (h : SE cl W ms c te f) (hx : wk ms m.ex = true) (hn : wk (setMo .lo is ms) m.nx = true) : SS cl W ms m (tAsg te (gTup K n (gNames is))) (sUnp is f) := by
  intro H w σ env st o e D p
  refine h.stm st e hx p fun d H' v s r e => ?_
  have rp := r.lo st.wf hc
  cases rp with
  | @tup a vs ds h1 ra =>
    obtain ⟨e2, h2, rfl⟩ := Option.map_eq_some_iff.mp (show (setAll is ds env).map Out.nx = some o from e)
    exact ⟨a, vs, rfl, .inl (.inl h1), by rw [← ra.length, setAll_len h2, hi], unp_lo (st.same s) ra h2 fun σ' st' => p H' w σ' (st'.weak hn) (Kp.same s)⟩
  | _ => simp only at e; cases e
/-! ### for a, b in a list of tuples -/
def forT (is : List Nat) (b : List D → Option Out) : List D → List D → Option Out
  | [], env => some (.nx env)
  | .tup xs :: ds, env => match setAll is xs env with
    | some env1 => match b env1 with
      | some (.nx e) => forT is b ds e
      | some (.ct e) => forT is b ds e
      | some (.bk e) => some (.nx e)
      | o => o
    | none => none
  | _, _ => none
def sForT (is : List Nat) (f : List D → M D) (b : List D → Option Out) : List D → Option Out := fun env => sX (f env) env fun d => match d with
  | .lst ds => forT is b ds env
  | _ => none
theorem loopT_core {tb : TS} {b : List D → Option Out} {is : List Nat} {nn : Nat} {P0 : Om → Addr → Prop} {bm : Mo} (ml : List Mo) (hi : is.length = nn)
    (hset : ∀ {H w} {ms : List Mo} {σ : L2.St} {env : List D} {vs : List V} {ds : List D} {e : List D} {Q : L2.St → Hp → Prop}, StOk cl H w ms σ env → RepL cl H (P0 w) ds vs → setAll is ds env = some e → (∀ σ', StOk cl H w (setMo bm is ms) σ' e → Q σ' H) → gNames is vs σ H Q)
    (hP : ∀ {H w H' w'}, Wf H w → Kp H w H' w' → ∀ {d v}, Rep cl H (P0 w) d v → Rep cl H' (P0 w') d v)
    (hb : SS cl W (setMo bm is ml) { m with nx := ml, ct := ml, bk := m.nx } tb b) (hn : wk ml m.nx = true)
    {H w σ env} (st : StOk cl H w ml σ env) {a : Addr} {vs : List V} {ds : List D} (hH : Rep cl H (P0 w) (.lst ds) (.ref a)) {o : Out} (e : forT is b ds env = some o) {D : Ends} (p : Post cl W m H w D o) :
    ∃ Wn : Nat → Nat → L2.St → Hp → Prop, (∃ n, Wn 0 n σ H) ∧ ∀ k n σ' H', Wn k n σ' H' →
      ((Itl K a).stop k H' ∧ D.nx σ' H') ∨ ((Itl K a).go k H' ∧ ∃ N : L2.St → Hp → Prop, (∀ σ2 H2, N σ2 H2 → ∃ n', n' < n ∧ Wn (k + 1) n' σ2 H2) ∧ ∀ x H2, (Itl K a).yld k H' x H2 → gTup K nn (gNames is) x σ' H2 fun σ3 H3 => tb { D with nx := N, ct := N, bk := D.nx } σ3 H3) := by
  let Wn : Nat → Nat → L2.St → Hp → Prop := fun k n σ' H' => n + k = ds.length ∧ ∃ w' env', StOk cl H' w' ml σ' env' ∧ Kp H w H' w' ∧ forT is b (ds.drop k) env' = some o
  refine ⟨Wn, ⟨ds.length, by simp, w, env, st, Kp.refl, by simpa using e⟩, fun k n σ' H' hW => ?_⟩
  obtain ⟨hk, w', env', st', kp, e'⟩ := hW
  have rep' := hP st.wf kp hH
  cases rep' with
  | @lst _ vs' _ h1 hp ra =>
    by_cases hlt : k < ds.length
    · right
      have hd : ds[k]? = some ds[k] := List.getElem?_eq_getElem hlt
      obtain ⟨v, hv, rv⟩ := ra.get hd
      refine ⟨⟨vs', v, .inl (.inl h1), hv⟩, fun σ2 H2 => Wn (k + 1) (n - 1) σ2 H2, fun σ2 H2 h => ⟨n - 1, by omega, h⟩, fun x H2 y => ?_⟩
      obtain ⟨rfl, y⟩ := y
      have hx := y vs' (.inl (.inl h1))
      rw [hv] at hx
      cases hx
      rw [List.drop_eq_getElem_cons hlt] at e'
      generalize ds[k] = dk at e' rv
      cases rv with
      | @tup ta us xs h2 rx =>
        unfold forT at e'
        cases es : setAll is xs env' with
        | none => rw [es] at e'; cases e'
        | some env1 =>
          rw [es] at e'
          simp only at e'
          refine ⟨ta, us, rfl, .inl (.inl h2), by rw [← rx.length, setAll_len es, hi], hset st' rx es fun σ3 st3 => ?_⟩
          cases e2 : b env1 with
          | none => rw [e2] at e'; cases e'
          | some o2 =>
            rw [e2] at e'
            refine hb H2 w' _ _ st3 o2 e2 _ ?_
            cases o2 with
            | nx e3 => exact fun H3 w3 σ3 st3 k3 => ⟨by omega, w3, e3, st3, kp.trans k3, e'⟩
            | ct e3 => exact fun H3 w3 σ3 st3 k3 => ⟨by omega, w3, e3, st3, kp.trans k3, e'⟩
            | bk e3 => cases e'; exact p.trans kp
            | rt d e3 => cases e'; exact p.trans kp
            | ex c e3 => cases e'; exact p.trans kp
      | _ => unfold forT at e'; cases e'
    · left
      have hz : ds.drop k = [] := List.drop_eq_nil_of_le (by omega)
      rw [hz] at e'
      unfold forT at e'
      cases e'
      exact ⟨⟨vs', .inl (.inl h1), by rw [← ra.length]; omega⟩, p H' w' σ' (st'.weak hn) kp⟩
theorem ss_forT {tb : TS} {b : List D → Option Out} {is : List Nat} {n : Nat} (ml : List Mo) (hi : is.length = n) (hc : toPu c = true) (h : SE cl W ms c te f) (hx : wk ms m.ex = true) (hl : wk ms ml = true) (hn : wk ml m.nx = true)
    (hb : SS cl W (setMo .pu is ml) { m with nx := ml, ct := ml, bk := m.nx } tb b) : SS cl W ms m (tFor (iList K te) (gTup K n (gNames is)) tb) (sForT is f b) := by
  intro H w σ env st o e D p
  refine h.stm st e hx p fun d H1 v s1 rr e => ?_
  have rp := rr.pu st.wf hc
  cases rp with
  | @lst a vs ds h1 hp ra =>
    refine ⟨a, rfl, ⟨vs, .inl (.inl h1)⟩, loopT_core (K := K) (P0 := fun w => Fz w) (bm := .pu) (vs := vs) ml hi (fun st r h q => unp_pu st r h q) (fun wf k => fun r => k.keep.rep wf r) hb hn ((st.same s1).weak hl) (.lst h1 hp ra) e (p.trans (Kp.same s1))⟩
  | _ => simp only at e; cases e
theorem ss_forTLo {tb : TS} {b : List D → Option Out} {is : List Nat} {n : Nat} (ml : List Mo) (hi : is.length = n) (hc : toLo c = true) (h : SE cl W ms c te f) (hx : wk ms m.ex = true) (hl : wk ms ml = true) (hn : wk ml m.nx = true)
    (hb : SS cl W (setMo .lo is ml) { m with nx := ml, ct := ml, bk := m.nx } tb b) : SS cl W ms m (tFor (iList K te) (gTup K n (gNames is)) tb) (sForT is f b) := by
  intro H w σ env st o e D p
  refine h.stm st e hx p fun d H1 v s1 rr e => ?_
  have rp := rr.lo st.wf hc
  cases rp with
  | @lst a vs ds h1 hp ra =>
    refine ⟨a, rfl, ⟨vs, .inl (.inl h1)⟩, loopT_core (K := K) (P0 := fun w => Lf w) (bm := .lo) (vs := vs) ml hi (fun st r h q => unp_lo st r h q) (fun wf k => fun r => k.keep.repLo wf r) hb hn ((st.same s1).weak hl) (.lst h1 hp ra) e (p.trans (Kp.same s1))⟩
  | _ => simp only at e; cases e

/-! ### two new lists in a tuple -/
theorem se_tup2 (ha : SE cl W ms (.fr .l1) ta f) (hb : SE cl W ms (.fr .l1) tb g) : SE cl W ms (.fr .t2) (tTup (tCons ta (tCons tb tNil))) (eTup [f, g]) := fun H w σ env st r e x Q q => by
  have e' : bd (f env) (fun d => bd (g env) fun d' => (some (.ok (D.tup [d, d'])) : M D)) = some r := by
    rw [← e]
    unfold eTup eArgs eArgs eArgs
    cases f env with
    | none => rfl
    | some r1 =>
      cases r1 with
      | ex c => rfl
      | ok d =>
        cases g env with
        | none => rfl
        | some r2 =>
          cases r2 with
          | ex c => rfl
          | ok d' => rfl
  refine ha.bind st e' x fun d1 H1 v1 s1 r1 e => ?_
  obtain ⟨a, vs, ds, rfl, rfl, n1, h1, q1⟩ := r1
  have wf1 : Wf H1 (labD w a ms.length) := fun x l z => by
    by_cases hx : x = a
    · subst hx; exact ⟨_, h1, rfl⟩
    · rw [labD_ne hx] at z
      exact (st.wf.same s1) x l z
  have st1 := st.relabel s1 (w' := labD w a ms.length) (fun x o z => labD_ne (ne_of_none z n1)) wf1
  refine hb.bind st1 e (x.same s1) fun d2 H2 v2 s2 r2 e => ?_
  cases e
  obtain ⟨b, us, es, rfl, rfl, n2, h2, q2⟩ := r2
  have ab : a ≠ b := ne_of_none h1 n2
  refine ⟨by show 2 ≤ sizeLine; rw [sizeLine_eq]; decide, fun p hp => ?_⟩
  have s3 := new_same (o := .tup [.ref a, .ref b]) hp
  have s23 := s2.trans s3
  refine q _ rfl _ _ (s1.trans s23) ⟨p, a, b, vs, us, ds, es, rfl, rfl, upd_same, ab, n1, s23 _ _ h1, q1.mono (fun x o z y => ⟨s23 _ _ z, y.1, y.2, ne_of_none z n2⟩) (fun x xs z => s23 _ _ z), s1.free n2, s3 _ _ h2, q2.mono (fun x o z y => ⟨s3 _ _ z, ?_⟩) fun x xs z => s3 _ _ z⟩
  have hxa : x ≠ a := fun hxa => by
    subst hxa
    have y1 := y.1
    rw [labD_eq] at y1
    cases y1
  have y1 := y.1
  rw [labD_ne hxa] at y1
  exact ⟨y1, hxa, y.2⟩
/-- return (x, y) of two owned lists -/
theorem ss_retT2 {i j : Nat} (hi : ms[i]? = some (.ow .l1)) (hj : ms[j]? = some (.ow .l1)) (hij : i ≠ j) (hr : wk ms m.rt = true) (hm : m.rc = .fr .t2 := by rfl) (hmr : m.rt.all (fun x => match x with | .ow _ => false | _ => true) = true := by rfl) :
    SS cl W ms m (tRet (tTup (tCons (tVar i) (tCons (tVar j) tNil)))) (sRet (eTup [eVar i, eVar j])) := by
  intro H w σ env st o e D p
  obtain ⟨v, d, a, b, q, vs, ds, rfl, rfl, e3, e4, r⟩ := st.sl i _ hi (by intro z; cases z)
  obtain ⟨v, d, a', b', q', vs', ds', rfl, rfl, e3', e4', r'⟩ := st.sl j _ hj (by intro z; cases z)
  have e5 : some (Out.rt (.tup [.lst ds, .lst ds']) env) = some o := by
    rw [← e]
    unfold sRet eTup eArgs eArgs eArgs eVar
    simp only [b, b']
    rfl
  cases e5
  refine ⟨_, a, _, a', by show 2 ≤ sizeLine; rw [sizeLine_eq]; decide, fun t ht => ?_⟩
  have s := new_same (o := .tup [.ref q, .ref q']) ht
  -- the second list gets the label that goes with the first
  have qq : q ≠ q' := fun z => by subst z; rw [e4] at e4'; injection e4' with z; injection z with z; exact hij z
  let w2 : Om := fun x => if x = q' then some (.ow i 1) else w x
  have hw2 : ∀ x, x ≠ q' → w2 x = w x := fun x h => if_neg h
  have hw3 : w2 q' = some (.ow i 1) := if_pos rfl
  have kp : Kp H w (upd H t (.tup [.ref q, .ref q'])) w2 := by
    refine ⟨⟨fun x o z y => ⟨s _ _ z, ?_⟩, fun x o z y => ⟨s _ _ z, ?_⟩⟩, fun x i k => ?_⟩
    · rw [hw2 x fun hx => by subst hx; rw [e4'] at y; cases y]; exact y
    · rw [hw2 x fun hx => by subst hx; rw [e4'] at y; cases y]; exact y
    · by_cases hx : x = q'
      · subst hx
        rw [hw3, e4']
        constructor <;> (intro z; cases z)
      · rw [hw2 x hx]
  have wf2 : Wf (upd H t (.tup [.ref q, .ref q'])) w2 := fun x l z => by
    by_cases hx : x = q'
    · subst hx; exact ⟨_, s _ _ e3', rfl⟩
    · rw [hw2 x hx] at z
      exact (st.wf.same s) x l z
  have st1 := st.weak hr
  have st2 : StOk cl (upd H t (.tup [.ref q, .ref q'])) w2 m.rt σ env := by
    refine ⟨wf2, st1.ls, st1.le, fun k mk ek nk => ?_⟩
    obtain ⟨v, d, x1, x2, x3⟩ := st1.sl k mk ek nk
    refine ⟨v, d, x1, x2, x3.keep kp.keep st.wf fun x o y hy ho => ⟨s _ _ ho, hw2 x fun hx => ?_⟩⟩
    subst hx
    have hk := List.all_eq_true.mp hmr mk (List.mem_of_getElem? ek)
    rcases hy with hy | hy
    · rw [e4'] at hy
      injection hy with hy
      injection hy with hy1 hy2
      subst hy1
      have := wk_get hr ek nk
      rw [hj] at this
      cases this
      cases hk
    · rw [e4'] at hy
      cases hy
  have fz : ∀ {ds vs}, RepL cl H (Fz w) ds vs → RepL cl (upd H t (.tup [.ref q, .ref q'])) (Fz w2) ds vs := fun r => kp.keep.repL st.wf r
  exact p _ _ _ _ st2 kp (by rw [hm]; exact ⟨i, 0, t, q, q', vs, vs', ds, ds', rfl, rfl, upd_same, s _ _ e3, (hw2 q qq).trans e4, fz r, s _ _ e3', hw3, fz r'⟩)
/-- x, y = a new pair of lists -/
theorem ss_unpT2 {i j : Nat} (hij : i ≠ j) (h : SE cl W ms (.fr .t2) te f) (hx : wk ms m.ex = true) (hn : wk ((ms.set i (.ow .l1)).set j (.ow .l1)) m.nx = true) : SS cl W ms m (tAsg te (gTup K 2 (gNames [i, j]))) (sUnp [i, j] f) := by
  intro H w σ env st o e Dn p
  refine h.stm st e hx p fun d H' v s r e => ?_
  obtain ⟨t, a, b, vs, us, ds, es, rfl, rfl, h1, ab, n1, h2, r1, n2, h3, r2⟩ := r
  cases e
  refine ⟨t, _, rfl, .inl (.inl h1), rfl, _, _, rfl, _, _, rfl, rfl, ?_⟩
  have ba : b ≠ a := fun z => ab z.symm
  -- both are labelled
  let w2 : Om := fun x => if x = a then some (.ow i 0) else if x = b then some (.ow j 0) else w x
  have wa : w2 a = some (.ow i 0) := if_pos rfl
  have wb : w2 b = some (.ow j 0) := by show (if b = a then _ else if b = b then _ else _) = _; rw [if_neg ba, if_pos rfl]
  have wo : ∀ x, x ≠ a → x ≠ b → w2 x = w x := fun x h1 h2 => by show (if x = a then _ else if x = b then _ else _) = _; rw [if_neg h1, if_neg h2]
  have wf2 : Wf H' w2 := fun x l z => by
    by_cases h1 : x = a
    · subst h1; exact ⟨_, h2, rfl⟩
    · by_cases h4 : x = b
      · subst h4; exact ⟨_, h3, rfl⟩
      · rw [wo x h1 h4] at z
        exact (st.wf.same s) x l z
  have st2 := st.relabel s (w' := w2) (fun x o z => wo x (ne_of_none z n1) (ne_of_none z n2)) wf2
  have fz : ∀ {ds vs}, RepL cl H' (fun x => w x = none ∧ x ≠ a ∧ x ≠ b) ds vs → RepL cl H' (Fz w2) ds vs := fun r => r.any fun x z => (wo x z.2.1 z.2.2).trans z.1
  have put : ∀ {ms : List Mo} {σ : L2.St} {env : List D} {k : Nat} {q : Addr} {vs : List V} {ds : List D}, StOk cl H' w2 ms σ env → H' q = some (.lst vs) → w2 q = some (.ow k 0) → RepL cl H' (Fz w2) ds vs → StOk cl H' w2 (ms.set k (.ow .l1)) (σ.set k (some (.ref q))) (env.set k (.lst ds)) := by
    intro ms σ env k q vs ds st hq hw r
    refine ⟨st.wf, by simp [st.ls], by simp [st.le], fun l ml el nl => ?_⟩
    by_cases hl : l = k
    · subst hl
      have hlt : l < ms.length := by
        have := (List.getElem?_eq_some_iff.mp el).1
        simpa using this
      rw [List.getElem?_set_self hlt] at el
      cases el
      exact ⟨_, _, List.getElem?_set_self (by rw [st.ls]; exact hlt), List.getElem?_set_self (by rw [st.le]; exact hlt), q, vs, ds, rfl, rfl, hq, hw, r⟩
    · rw [List.getElem?_set_ne (Ne.symm hl)] at el
      obtain ⟨v', d', x1, x2, x3⟩ := st.sl l ml el nl
      exact ⟨v', d', by rw [List.getElem?_set_ne (Ne.symm hl)]; exact x1, by rw [List.getElem?_set_ne (Ne.symm hl)]; exact x2, x3⟩
  have st3 := put (put st2 h2 wa (fz r1)) h3 wb (fz r2)
  refine p _ _ _ (st3.weak hn) ⟨⟨fun x o z y => ⟨s _ _ z, (wo x (ne_of_none z n1) (ne_of_none z n2)).trans y⟩, fun x o z y => ⟨s _ _ z, (wo x (ne_of_none z n1) (ne_of_none z n2)).trans y⟩⟩, fun x k l => ?_⟩
  by_cases h1 : x = a
  · subst h1
    rw [wa]
    constructor
    · intro z; cases z
    · intro z; obtain ⟨o, y, _⟩ := st.wf _ _ z; rw [n1] at y; cases y
  · by_cases h4 : x = b
    · subst h4
      rw [wb]
      constructor
      · intro z; cases z
      · intro z; obtain ⟨o, y, _⟩ := st.wf _ _ z; rw [n2] at y; cases y
    · rw [wo x h1 h4]

/-- x, y = z, z an owned pair of lists (it is not used again) -/
theorem ss_unpT2V {i j k : Nat} (hm : ms[k]? = some (.ow .t2)) (hij : i ≠ j) (hn : wk (((ms.set k .un).set i (.ow .l1)).set j (.ow .l1)) m.nx = true) : SS cl W ms m (tAsg (tVar k) (gTup K 2 (gNames [i, j]))) (sUnp [i, j] (eVar k)) := by
  intro H w σ env st o e Dn p
  obtain ⟨v, d, x1, x2, t, a, b, vs, us, ds, es, rfl, rfl, h1, h2, la, r1, h3, lb, r2⟩ := st.sl k _ hm (by intro z; cases z)
  unfold sUnp eVar at e
  rw [x2] at e
  cases e
  refine ⟨_, x1, t, _, rfl, .inl (.inl h1), rfl, _, _, rfl, _, _, rfl, rfl, ?_⟩
  have ab : a ≠ b := fun z => by subst z; rw [la] at lb; injection lb with z; injection z with _ z; cases z
  have ba : b ≠ a := fun z => ab z.symm
  let w2 : Om := fun x => if x = a then some (.ow i 0) else if x = b then some (.ow j 0) else w x
  have wa : w2 a = some (.ow i 0) := if_pos rfl
  have wb : w2 b = some (.ow j 0) := by show (if b = a then _ else if b = b then _ else _) = _; rw [if_neg ba, if_pos rfl]
  have wo : ∀ x, x ≠ a → x ≠ b → w2 x = w x := fun x h1 h2 => by show (if x = a then _ else if x = b then _ else _) = _; rw [if_neg h1, if_neg h2]
  have wf2 : Wf H w2 := fun x l z => by
    by_cases h1 : x = a
    · subst h1; exact ⟨_, h2, rfl⟩
    · by_cases h4 : x = b
      · subst h4; exact ⟨_, h3, rfl⟩
      · rw [wo x h1 h4] at z
        exact st.wf x l z
  have kp : Kp H w H w2 := by
    refine ⟨⟨fun x o z y => ⟨z, ?_⟩, fun x o z y => ⟨z, ?_⟩⟩, fun x q l => ?_⟩
    · rw [wo x (fun q => by subst q; rw [la] at y; cases y) (fun q => by subst q; rw [lb] at y; cases y)]; exact y
    · rw [wo x (fun q => by subst q; rw [la] at y; cases y) (fun q => by subst q; rw [lb] at y; cases y)]; exact y
    · by_cases h1 : x = a
      · subst h1
        rw [wa, la]
        constructor <;> (intro z; cases z)
      · by_cases h4 : x = b
        · subst h4
          rw [wb, lb]
          constructor <;> (intro z; cases z)
        · rw [wo x h1 h4]
  have st2 : StOk cl H w2 (ms.set k .un) σ env := by
    refine ⟨wf2, by simp [st.ls], by simp [st.le], fun l ml el nl => ?_⟩
    by_cases hl : l = k
    · subst hl
      have hlt : l < ms.length := by
        have := (List.getElem?_eq_some_iff.mp el).1
        simpa using this
      rw [List.getElem?_set_self hlt] at el
      cases el
      exact absurd rfl nl
    · rw [List.getElem?_set_ne (Ne.symm hl)] at el
      obtain ⟨v', d', x3, x4, x5⟩ := st.sl l ml el nl
      refine ⟨v', d', x3, x4, x5.keep kp.keep st.wf fun x o y hy ho => ⟨ho, wo x (fun q => ?_) (fun q => ?_)⟩⟩
      · subst q
        rcases hy with hy | hy
        · rw [la] at hy; injection hy with hy; injection hy with hy _; exact hl hy.symm
        · rw [la] at hy; cases hy
      · subst q
        rcases hy with hy | hy
        · rw [lb] at hy; injection hy with hy; injection hy with hy _; exact hl hy.symm
        · rw [lb] at hy; cases hy
  have put : ∀ {ms : List Mo} {σ : L2.St} {env : List D} {k : Nat} {q : Addr} {vs : List V} {ds : List D}, StOk cl H w2 ms σ env → H q = some (.lst vs) → w2 q = some (.ow k 0) → RepL cl H (Fz w2) ds vs → StOk cl H w2 (ms.set k (.ow .l1)) (σ.set k (some (.ref q))) (env.set k (.lst ds)) := by
    intro ms σ env k q vs ds st hq hw r
    refine ⟨st.wf, by simp [st.ls], by simp [st.le], fun l ml el nl => ?_⟩
    by_cases hl : l = k
    · subst hl
      have hlt : l < ms.length := by
        have := (List.getElem?_eq_some_iff.mp el).1
        simpa using this
      rw [List.getElem?_set_self hlt] at el
      cases el
      exact ⟨_, _, List.getElem?_set_self (by rw [st.ls]; exact hlt), List.getElem?_set_self (by rw [st.le]; exact hlt), q, vs, ds, rfl, rfl, hq, hw, r⟩
    · rw [List.getElem?_set_ne (Ne.symm hl)] at el
      obtain ⟨v', d', x1, x2, x3⟩ := st.sl l ml el nl
      exact ⟨v', d', by rw [List.getElem?_set_ne (Ne.symm hl)]; exact x1, by rw [List.getElem?_set_ne (Ne.symm hl)]; exact x2, x3⟩
  have fz : ∀ {ds vs}, RepL cl H (Fz w) ds vs → RepL cl H (Fz w2) ds vs := fun r => kp.keep.repL st.wf r
  have st3 := put (put st2 h2 wa (fz r1)) h3 wb (fz r2)
  exact p _ _ _ (st3.weak hn) kp

/-! ### [.. for x in reversed(xs)] -/
def eLcV (i : Nat) (f : List D → M D) (ft : List D → M Bool) (g : List D → M D) : List D → M D := fun env => bd (f env) fun d => match d with
  | .lst ds => if ds.length ≤ LIM then lift ((lcF i ft g ds.reverse env).map D.lst) else none
  | _ => none
theorem se_lcV {i : Nat} {cs : List RC} (hc : toLo c1 = true) (h : SE cl W ms c1 tf f) (ht : SEt cl WF (ms.set i .lo) tt ft) (he : SE cl WF (ms.set i .lo) c2 te g) (hc2 : toPu c2 = true) : SE cl W ms (.fr .l1) (tLc (iRev K (tCons tf tNil)) (gName i) tt te [i]) (eLcV i f ft g) := fun H w σ env st r e x Q q =>
  h.bind st e x fun d H1 v s1 r1 e => by
    have rp := r1.lo st.wf hc
    cases rp with
    | @lst a vs ds h1 hp ra =>
      have e0 : (if ds.length ≤ LIM then lift ((lcF i ft g ds.reverse env).map D.lst) else none) = some r := e
      obtain ⟨hlim, ys, e1, rfl⟩ : ds.length ≤ LIM ∧ ∃ ys, lcF i ft g ds.reverse env = some ys ∧ r = .ok (.lst ys) := by
        by_cases h : ds.length ≤ LIM
        · rw [if_pos h] at e0
          obtain ⟨z, e1, rfl⟩ := lift_ok e0
          obtain ⟨ys, e2, rfl⟩ := Option.map_eq_some_iff.mp e1
          exact ⟨h, ys, e2, rfl⟩
        · rw [if_neg h] at e0
          cases e0
      refine ⟨a, vs, rfl, .inl (.inl h1), lc_gen (P0 := fun w => Lf w) (bm := .lo) (fun st r => by have z := st.setLo (i := i) r; rw [List.set_set] at z; exact z) (st.same s1) e1 (by rw [List.length_reverse]; exact hlim) (fun k H' old hk => by show vs.length ≤ k; rw [List.length_reverse, ra.length] at hk; exact hk) (fun k H' D d old hD hd => ?_) ht he hc2 fun H' v s fr => q _ rfl H' v (s1.trans s) (fr.base s1)⟩
      have hk : k < ds.length := by have := (List.getElem?_eq_some_iff.mp hd).1; rw [List.length_reverse] at this; exact this
      rw [List.getElem?_reverse hk] at hd
      obtain ⟨v, hv, rv⟩ := ra.get hd
      rw [ra.length] at hv hk
      refine ⟨⟨hk, vs, v, .inl (.inl (old _ _ h1)), hv⟩, fun x H2 y => ?_⟩
      obtain ⟨rfl, y⟩ := y
      have hx := y vs (.inl (.inl (old _ _ h1)))
      rw [hv] at hx
      cases hx
      exact ⟨rfl, rv.mono (fun a o z p => ⟨old a o z, by
        have p' : w a = none ∨ w a = some .fo := p
        show labD w D ms.length a = none ∨ labD w D ms.length a = some .fo
        rw [labD_ne (ne_of_none z hD)]; exact p'⟩) fun a xs z => old a _ z⟩
    | _ => simp only at e; cases e
end
end Mv

namespace Mv
open PySem L2
variable {cl : Nv}
section
variable {W : WX} {ms : List Mo} {m : Md} {c c1 c2 c3 : RC} {te ta tb : TE} {f g : List D → M D} {K : PySem.W.Frag}
/-! ### the signs of a text -/
def chD (c : Nat) : D := .str ⟨#[c]⟩
def sForS (i : Nat) (f : List D → M D) (b : List D → Option Out) : List D → Option Out := fun env => sX (f env) env fun d => match d with
  | .str z => forF i b (z.cps.toList.map chD) env
  | _ => none
theorem str_core {tb : TS} {b : List D → Option Out} {i : Nat} (ml : List Mo) (hb : SS cl W (ml.set i .pu) { m with nx := ml, ct := ml, bk := m.nx } tb b) (hn : wk ml m.nx = true)
    {H w σ env} (st : StOk cl H w ml σ env) {z : Str} {o : Out} (e : forF i b (z.cps.toList.map chD) env = some o) {D : Ends} (p : Post cl W m H w D o) :
    ∃ Wn : Nat → Nat → L2.St → Hp → Prop, (∃ n, Wn 0 n σ H) ∧ ∀ k n σ' H', Wn k n σ' H' →
      ((Its z).stop k H' ∧ D.nx σ' H') ∨ ((Its z).go k H' ∧ ∃ N : L2.St → Hp → Prop, (∀ σ2 H2, N σ2 H2 → ∃ n', n' < n ∧ Wn (k + 1) n' σ2 H2) ∧ ∀ x H2, (Its z).yld k H' x H2 → gName i x σ' H2 fun σ3 H3 => tb { D with nx := N, ct := N, bk := D.nx } σ3 H3) := by
  have hlen : (z.cps.toList.map chD).length = z.cps.size := by simp
  let Wn : Nat → Nat → L2.St → Hp → Prop := fun k n σ' H' => n + k = z.cps.size ∧ ∃ w' env', StOk cl H' w' ml σ' env' ∧ Kp H w H' w' ∧ forF i b ((z.cps.toList.map chD).drop k) env' = some o
  refine ⟨Wn, ⟨z.cps.size, by simp, w, env, st, Kp.refl, by simpa using e⟩, fun k n σ' H' hW => ?_⟩
  obtain ⟨hk, w', env', st', kp, e'⟩ := hW
  by_cases hlt : k < z.cps.size
  · right
    refine ⟨hlt, fun σ2 H2 => Wn (k + 1) (n - 1) σ2 H2, fun σ2 H2 h => ⟨n - 1, by omega, h⟩, fun x H2 y => ?_⟩
    obtain ⟨rfl, c, hc, rfl⟩ := y
    have hc2 : (z.cps.toList.map chD)[k]? = some (chD c) := by rw [List.getElem?_map, Array.getElem?_toList, hc]; rfl
    obtain ⟨hk2, hk3⟩ := List.getElem?_eq_some_iff.mp hc2
    rw [List.drop_eq_getElem_cons hk2, hk3] at e'
    unfold forF at e'
    have st3 := st'.setPu (i := i) (Rep.str (cl := cl) (H := H2) (P := Fz w') (⟨#[c]⟩ : Str))
    cases e2 : b (env'.set i (chD c)) with
    | none => rw [e2] at e'; cases e'
    | some o2 =>
      rw [e2] at e'
      refine hb H2 w' _ _ st3 o2 e2 _ ?_
      cases o2 with
      | nx e3 => exact fun H3 w3 σ3 st3 k3 => ⟨by omega, w3, e3, st3, kp.trans k3, e'⟩
      | ct e3 => exact fun H3 w3 σ3 st3 k3 => ⟨by omega, w3, e3, st3, kp.trans k3, e'⟩
      | bk e3 => cases e'; exact p.trans kp
      | rt d e3 => cases e'; exact p.trans kp
      | ex c e3 => cases e'; exact p.trans kp
  · left
    have hz : (z.cps.toList.map chD).drop k = [] := List.drop_eq_nil_of_le (by rw [hlen]; omega)
    rw [hz] at e'
    cases e'
    exact ⟨by show z.cps.size ≤ k; omega, p H' w' σ' (st'.weak hn) kp⟩
theorem ss_forS {tb : TS} {b : List D → Option Out} {i : Nat} (ml : List Mo) (h : SE cl W ms c te f) (hx : wk ms m.ex = true) (hl : wk ms ml = true) (hn : wk ml m.nx = true)
    (hb : SS cl W (ml.set i .pu) { m with nx := ml, ct := ml, bk := m.nx } tb b) : SS cl W ms m (tFor (iStr te) (gName i) tb) (sForS i f b) := by
  intro H w σ env st o e D p
  refine h.stm st e hx p fun d H1 v s1 rr e => ?_
  have rp := rr.an st.wf
  cases rp with
  | str z => exact ⟨z, rfl, str_core ml hb hn ((st.same s1).weak hl) e (p.trans (Kp.same s1))⟩
  | _ => simp only at e; cases e
/-! ### in, find, join -/
def oneC : D → Option Nat
  | .str s => match s.cps.toList with
    | [c] => some c
    | _ => none
  | _ => none
theorem oneC_ok {d : D} {v : V} {H : Hp} {P : Addr → Prop} {c : Nat} (r : Rep cl H P d v) (h : oneC d = some c) : v = .str ⟨#[c]⟩ := by
  cases r with
  | str s =>
    obtain ⟨cps⟩ := s
    obtain ⟨l⟩ := cps
    match l, h with
    | [x], h => cases h; rfl
    | [], h => cases h
    | _ :: _ :: _, h => cases h
  | _ => cases h
@[simp] theorem oneC_ch {c : Nat} : oneC (chD c) = some c := rfl
def rSgI : R2 := fun x y H Q => ∃ (c : Nat) (z : Str), x = .str ⟨#[c]⟩ ∧ y = .str z ∧ Q (.bl (decide (c ∈ z.cps.toList))) H
def rSgN : R2 := fun x y H Q => ∃ (c : Nat) (z : Str), x = .str ⟨#[c]⟩ ∧ y = .str z ∧ Q (.bl (!decide (c ∈ z.cps.toList))) H
def dSgI : D → D → Option D
  | d, .str z => (oneC d).map fun c => .bl (decide (c ∈ z.cps.toList))
  | _, _ => none
def dSgN : D → D → Option D
  | d, .str z => (oneC d).map fun c => .bl (!decide (c ∈ z.cps.toList))
  | _, _ => none
theorem ops_sgI : OpS cl rSgI dSgI := by
  intro H w d1 v1 d2 v2 z Q wf r1 r2 e q
  cases r2 with
  | str s =>
    obtain ⟨c, h, rfl⟩ := Option.map_eq_some_iff.mp (show (oneC d1).map (fun c => D.bl (decide (c ∈ s.cps.toList))) = some z from e)
    exact ⟨c, s, oneC_ok r1 h, rfl, q H _ (Same.refl H) (.bl _)⟩
  | _ => cases e
theorem ops_sgN : OpS cl rSgN dSgN := by
  intro H w d1 v1 d2 v2 z Q wf r1 r2 e q
  cases r2 with
  | str s =>
    obtain ⟨c, h, rfl⟩ := Option.map_eq_some_iff.mp (show (oneC d1).map (fun c => D.bl (!decide (c ∈ s.cps.toList))) = some z from e)
    exact ⟨c, s, oneC_ok r1 h, rfl, q H _ (Same.refl H) (.bl _)⟩
  | _ => cases e
def rFnd : V → List V → Hp → VK → Prop := fun x xs H Q => ∃ a b, x = .str a ∧ xs = [.str b] ∧ Q (.int (Txt.find a b)) H
def eFind (f g : List D → M D) : List D → M D := fun env => bd (f env) fun x => match x with
  | .str a => bd (g env) fun y => match y with
    | .str b => some (.ok (.int (Txt.find a b)))
    | _ => none
  | _ => none
theorem se_find (ha : SE cl W ms c1 ta f) (hb : SE cl W ms c2 tb g) : SE cl W ms .pu (tM1 rFnd ta tb) (eFind f g) := fun H w σ env st r e x Q q =>
  ha.bind st e x fun d1 H1 v1 s1 r1 e => by
    have r1' := r1.an st.wf
    cases r1' with
    | str a =>
      refine ⟨⟨a, rfl⟩, ?_⟩
      refine hb.bind (st.same s1) e (x.same s1) fun d2 H2 v2 s2 r2 e => ?_
      have r2' := r2.an (st.wf.same s1)
      cases r2' with
      | str b =>
        cases e
        exact ⟨a, b, rfl, rfl, q _ rfl H2 _ (s1.trans s2) (.int _)⟩
      | _ => cases e
    | _ => cases e
def strL : List D → Option (List Str)
  | [] => some []
  | .str a :: r => (strL r).map (a :: ·)
  | _ => none
theorem strL_ok {H : Hp} {P : Addr → Prop} : ∀ {ds : List D} {vs : List V} {ys : List Str}, RepL cl H P ds vs → strL ds = some ys → vs = ys.map V.str
  | _, _, _, .nil, h => by cases h; rfl
  | _, _, _, .cons (d := d) a b, h => by
    cases a with
    | str s =>
      obtain ⟨zs, h2, rfl⟩ := Option.map_eq_some_iff.mp (show (strL _).map (s :: ·) = some _ from h)
      rw [strL_ok b h2]
      rfl
    | _ => cases h
@[simp] theorem strL_map (l : List Str) : strL (l.map D.str) = some l := by
  induction l with
  | nil => rfl
  | cons a r ih => show (strL (r.map D.str)).map (a :: ·) = _; rw [ih]; rfl
def rJn (K : PySem.W.Frag) : V → List V → Hp → VK → Prop := fun x xs H Q => ∃ a p, ∃ ys : List Str, x = .str a ∧ xs = [.ref p] ∧ (SqL K H p (ys.map V.str) ∨ SqT K H p (ys.map V.str)) ∧
    (ys.map (·.length)).sum + ys.length * a.length ≤ 16777216 ∧ Q (.str (Txt.join a ys)) H
def dJn (a : Str) (ds : List D) : Option D := (strL ds).bind fun ys => if (ys.map (·.length)).sum + ys.length * a.length ≤ 16777216 then some (.str (Txt.join a ys)) else none
def eJoin (f g : List D → M D) : List D → M D := fun env => bd (f env) fun x => match x with
  | .str a => bd (g env) fun y => match y with
    | .lst ds => lift (dJn a ds)
    | _ => none
  | _ => none
theorem se_join (ha : SE cl W ms c1 ta f) (hb : SE cl W ms c2 tb g) : SE cl W ms .pu (tM1 (rJn K) ta tb) (eJoin f g) := fun H w σ env st r e x Q q =>
  ha.bind st e x fun d1 H1 v1 s1 r1 e => by
    have r1' := r1.an st.wf
    cases r1' with
    | str a =>
      refine ⟨⟨a, rfl⟩, ?_⟩
      refine hb.bind (st.same s1) e (x.same s1) fun d2 H2 v2 s2 r2 e => ?_
      have r2' := r2.an (st.wf.same s1)
      cases r2' with
      | @lst p vs ds h1 hp ra =>
        obtain ⟨z, e1, rfl⟩ := lift_ok e
        unfold dJn at e1
        obtain ⟨ys, h2, h3⟩ := Option.bind_eq_some_iff.mp e1
        split at h3
        · rename_i hl
          cases h3
          have e2 := strL_ok ra h2
          subst e2
          exact ⟨a, p, ys, rfl, rfl, .inl (.inl (.inl h1)), hl, q _ rfl H2 _ (s1.trans s2) (.str _)⟩
        · cases h3
      | _ => cases e
    | _ => cases e
/-! ### int(..) -/
abbrev rIntA : List V → Hp → VK → Prop := fun xs H Q => (∃ i, xs = [.int i] ∧ Q (.int i) H) ∨ ∃ k, xs = [.bl k] ∧ Q (.int (if k then 1 else 0)) H
def dInt : List D → Option D
  | [.int i] => some (.int i)
  | [.bl k] => some (.int (if k then 1 else 0))
  | _ => none
theorem ca_int : CaS0 cl rIntA [c] .pu dInt := by
  intro H0 H w ds vs z Q wf s r e q
  obtain ⟨d, v, rfl, rfl, rr⟩ := r.one wf
  cases rr with
  | int i => cases e; exact .inl ⟨i, rfl, q H _ (Same.refl H) (.int _)⟩
  | bl k => cases e; exact .inr ⟨k, rfl, q H _ (Same.refl H) (.int _)⟩
  | _ => cases e
/-! ### raise -/
def sRaise (x : String) : List D → Option Out := fun env => some (.ex x env)
def tRaise (W : WX) (C : Addr) : TS := fun _ σ H => W (.ref C) none σ H
theorem ss_raise {x : String} (hx : wk ms m.ex = true) : SS cl W ms m (tRaise W (cl x)) (sRaise x) := by
  intro H w σ env st o e D p
  cases e
  exact p H w σ (st.weak hx) Kp.refl
/-- a raise that is not reached -/
def sNo : List D → Option Out := fun _ => none
def tNo : TS := fun _ _ _ => False
theorem ss_no : SS cl W ms m tNo sNo := fun _ _ _ _ _ _ e => nomatch e
end
end Mv

namespace Mv
open PySem L2
variable {cl : Nv}
/-! ### the classes that a suite asks about -/
def b1 (cl : Nv) : List V := [.ty "ValueError", .ref (cl "NoKind"), .ref (cl "NoWay"), .ref (cl "NoMark")]
def b2 (cl : Nv) : List V := [.ref (cl "NoEntry"), .ref (cl "NoHold"), .ref (cl "NoChamber"), .ref (cl "NoChart")]
def b3 (cl : Nv) : List V := [.ref (cl "NoCave"), .ref (cl "NoHome"), .ref (cl "Barred"), .ref (cl "Full")]
def c1 (x : String) : List Bool := [true, x == "NoKind", x == "NoWay", x == "NoMark"]
def c2 (x : String) : List Bool := [x == "NoEntry", x == "NoHold", x == "NoChamber", x == "NoChart"]
def c3 (x : String) : List Bool := [x == "NoCave", x == "NoHome", x == "Barred", x == "Full"]
def cvB (K : PySem.W.Frag) (D : Addr) : List V → List Bool → Bool
  | [], [] => true
  | .ty s :: r, b :: t => decide (PySem.W.kitOne K (.ref D) (.type s) = some b) && cvB K D r t
  | .ref p :: r, b :: t => decide (PySem.W.kitOne K (.ref D) (.ref p) = some b) && cvB K D r t
  | _, _ => false
def exOk (cl : Nv) (x : String) : Bool := decide (PySem.W.exmOne cl.K (.ref (cl x)) (.ref (cl "CaveError")) = some true) && (He.eqO (PySem.W.findIn cl.K (.ref (cl x)) "__getattribute__") (some (some (.builtin "BaseException.__getattribute__"))) &&
  (He.eqO (PySem.W.findIn cl.K (.ref (cl x)) "__getattr__") (some none) && (decide (PySem.W.subIn cl.K (.ref (cl x)) (.type "BaseException") = some true) && (PySem.W.hasDictIn cl.K (cl x) && (He.eqO (PySem.W.findIn cl.K (.ref (cl x)) "__class__") (some (some (.builtin "object.__class__"))) &&
  (He.eqO (PySem.W.specialIn cl.K (.builtin "object.__class__") "__get__") (some (some (.builtin "getset_descriptor.__get__"))) && (decide (PySem.W.takesIn cl.K (.builtin "object.__class__") = some true) && (decide (PySem.W.mroIn cl.K (cl x) (.type "object") = some true) &&
  (cvB cl.K (cl x) (b1 cl) (c1 x) && (cvB cl.K (cl x) (b2 cl) (c2 x) && cvB cl.K (cl x) (b3 cl) (c3 x)))))))))))
structure ExF (cl : Nv) (x : String) : Prop where
  exm : PySem.W.exmOne cl.K (.ref (cl x)) (.ref (cl "CaveError")) = some true
  exc : ExcC cl.K (cl x)
  k1 : cvB cl.K (cl x) (b1 cl) (c1 x) = true
  k2 : cvB cl.K (cl x) (b2 cl) (c2 x) = true
  k3 : cvB cl.K (cl x) (b3 cl) (c3 x) = true
theorem exF_of {x : String} (h : exOk cl x = true) : ExF cl x := by
  obtain ⟨h1, h⟩ := He.ba h
  obtain ⟨h2, h⟩ := He.ba h
  obtain ⟨h3, h⟩ := He.ba h
  obtain ⟨h4, h⟩ := He.ba h
  obtain ⟨h5, h⟩ := He.ba h
  obtain ⟨h6, h⟩ := He.ba h
  obtain ⟨h7, h⟩ := He.ba h
  obtain ⟨h8, h⟩ := He.ba h
  obtain ⟨h9, h⟩ := He.ba h
  obtain ⟨h10, h⟩ := He.ba h
  obtain ⟨h11, h12⟩ := He.ba h
  exact ⟨of_decide_eq_true h1, ⟨He.eqO_ok h2, He.eqO_ok h3, of_decide_eq_true h4, h5, He.eqO_ok h6, He.eqO_ok h7, of_decide_eq_true h8, of_decide_eq_true h9⟩, h10, h11, h12⟩
/-! ### isinstance of the caught one -/
def tIsx (K : PySem.W.Frag) (D a : Addr) (i : Nat) (c : V) : TE := tCB (rIsE K D a) (tCons (tVar i) (tCons (tC c) tNil))
def tIsL (K : PySem.W.Frag) (D a : Addr) (i : Nat) : List V → TA
  | [] => tNil
  | c :: r => tCons (tIsx K D a i c) (tIsL K D a i r)
theorem isL_run {K : PySem.W.Frag} {D a : Addr} {i : Nat} {σ : L2.St} {H : Hp} (hσ : σ[i]? = some (some (.ref a))) : ∀ (l : List V) (bs : List Bool) {Q : List V → Hp → Prop}, cvB K D l bs = true → Q (bs.map V.bl) H → tIsL K D a i l σ H Q := by
  intro l
  induction l with
  | nil =>
    intro bs Q h q
    cases bs with
    | nil => exact q
    | cons b t => cases h
  | cons c r ih =>
    intro bs Q h q
    cases bs with
    | nil => cases c <;> cases h
    | cons b t =>
      cases c with
      | ty s =>
        obtain ⟨h1, h2⟩ := He.ba h
        exact ⟨_, hσ, .ty s, .type s, b, rfl, fun u ru => by cases ru; rfl, of_decide_eq_true h1, ih t h2 q⟩
      | ref p =>
        obtain ⟨h1, h2⟩ := He.ba h
        exact ⟨_, hσ, .ref p, .ref p, b, rfl, fun u ru => by cases ru; rfl, of_decide_eq_true h1, ih t h2 q⟩
      | _ => cases h
/-- the three statements of the suite -/
def tBad (K : PySem.W.Frag) (D a : Addr) (i j : Nat) (l1 l2 l3 : List V) : TS :=
  tSeq (tAsg (tLst (tIsL K D a i l1)) (gName j)) (tSeq (tAsg (tOp (rAddA K) (tVar j) (tLst (tIsL K D a i l2))) (gName j)) (tAsg (tOp (rAddA K) (tVar j) (tLst (tIsL K D a i l3))) (gName j)))
def bitsOf (x : String) : List Bool := c1 x ++ c2 x ++ c3 x
theorem repL_bl {H : Hp} {P : Addr → Prop} : ∀ bs : List Bool, RepL cl H P (bs.map D.bl) (bs.map V.bl)
  | [] => .nil
  | _ :: r => .cons (.bl _) (repL_bl r)
theorem immL_bl : ∀ bs : List Bool, immL (bs.map D.bl) = true
  | [] => rfl
  | _ :: r => immL_bl r
theorem StOk.setUnV {H : Hp} {w : Om} {ms : List Mo} {σ : L2.St} {env : List D} {i : Nat} {o : Option V} (h : StOk cl H w ms σ env) (hi : ms[i]? = some .un) : StOk cl H w ms (σ.set i o) env := by
  refine ⟨h.wf, by simp [h.ls], h.le, fun j m e n => ?_⟩
  by_cases hj : j = i
  · subst hj
    rw [hi] at e
    cases e
    exact absurd rfl n
  · obtain ⟨v', d', a, b, c⟩ := h.sl j m e n
    exact ⟨v', d', by rw [List.getElem?_set_ne (Ne.symm hj)]; exact a, b, c⟩
theorem dAdd_bl {a b : List Bool} (h : a.length + b.length ≤ 100) : dAdd (.lst (a.map D.bl)) (.lst (b.map D.bl)) = some (.lst ((a ++ b).map D.bl)) := by
  show (if (a.map D.bl).length + (b.map D.bl).length ≤ LIM ∧ immL (a.map D.bl) = true ∧ immL (b.map D.bl) = true then some (D.lst (a.map D.bl ++ b.map D.bl)) else none) = _
  rw [if_pos ⟨by simp [LIM]; omega, immL_bl a, immL_bl b⟩, ← List.map_append]
theorem lst_run {K : PySem.W.Frag} {C a : Addr} {i : Nat} {σ : L2.St} {H : Hp} {w : Om} {l : List V} {bs : List Bool} {Q : VK} (hσ : σ[i]? = some (some (.ref a))) (wf : Wf H w) (hl : bs.length ≤ 100) (k : cvB K C l bs = true)
    (q : ∀ H' v, Same H H' → Rep cl H' (Fz w) (.lst (bs.map D.bl)) v → Q v H') : tLst (tIsL K C a i l) σ H Q := by
  have lim : (bs.map V.bl).length ≤ sizeLine := LIM_le (by rw [List.length_map]; simp only [LIM]; omega)
  show tIsL K C a i l σ H _
  refine isL_run hσ l bs k ?_
  refine ⟨lim, fun p n => ?_⟩
  exact q _ _ (new_same n) (.lst upd_same (wf.fresh n) (repL_bl _))
theorem add_run {K : PySem.W.Frag} {C a : Addr} {i j : Nat} {σ : L2.St} {H : Hp} {w : Om} {l : List V} {as bs : List Bool} {v : V} {Q : VK} (hσ : σ[i]? = some (some (.ref a))) (wf : Wf H w) (hv : σ[j]? = some (some v)) (rv : Rep cl H (Fz w) (.lst (as.map D.bl)) v) (hl : as.length + bs.length ≤ 100) (k : cvB K C l bs = true)
    (q : ∀ H' v, Same H H' → Rep cl H' (Fz w) (.lst ((as ++ bs).map D.bl)) v → Q v H') : tOp (rAddA K) (tVar j) (tLst (tIsL K C a i l)) σ H Q := by
  show tVar j σ H _
  refine ⟨v, hv, ?_⟩
  refine lst_run (cl := cl) hσ wf (by omega) k fun H1 v1 s1 r1 => ?_
  exact ops_add (cl := cl) H1 w _ _ _ _ _ _ (wf.same s1) ((rv.same s1 fun _ z => z).any fun _ _ => trivial) (r1.any fun _ _ => trivial) (dAdd_bl hl) fun H2 v2 s2 r2 => q H2 v2 (s1.trans s2) r2
theorem bad_run {H : Hp} {w : Om} {ms : List Mo} {σ : L2.St} {env : List D} {i j : Nat} {x : String} {a : Addr} {Dn : Ends} (F : ExF cl x) (st : StOk cl H w ms σ env) (hσ : σ[i]? = some (some (.ref a))) (hij : j ≠ i) (hjl : j < ms.length)
    (q : ∀ H' v, StOk cl H' w (ms.set j .pu) (σ.set j (some v)) (env.set j (.lst ((bitsOf x).map D.bl))) → Same H H' → Dn.nx (σ.set j (some v)) H') : tBad cl.K (cl x) a i j (b1 cl) (b2 cl) (b3 cl) Dn σ H := by
  have hj : ∀ (o : Option V), (σ.set j o)[i]? = some (some (.ref a)) := fun o => by rw [List.getElem?_set_ne hij]; exact hσ
  have hjj : ∀ (v : V), (σ.set j (some v))[j]? = some (some v) := fun v => List.getElem?_set_self (by rw [st.ls]; exact hjl)
  have hss : ∀ (u v : V), (σ.set j (some u)).set j (some v) = σ.set j (some v) := fun u v => List.set_set ..
  unfold tBad tSeq tAsg gName
  refine lst_run (cl := cl) hσ st.wf (bs := c1 x) (Nat.le_of_ble_eq_true rfl) F.k1 fun H1 v1 s1 r1 => ?_
  refine add_run (cl := cl) (hj _) (st.wf.same s1) (hjj v1) r1 (bs := c2 x) (Nat.le_of_ble_eq_true rfl) F.k2 fun H2 v2 s2 r2 => ?_
  dsimp only
  rw [hss]
  refine add_run (cl := cl) (hj _) ((st.wf.same s1).same s2) (hjj v2) r2 (bs := c3 x) (Nat.le_of_ble_eq_true rfl) F.k3 fun H3 v3 s3 r3 => ?_
  rw [hss]
  exact q H3 v3 (((st.same s1).same s2).same s3 |>.setPu (i := j) r3) ((s1.trans s2).trans s3)
/-! ### try: .. except CaveError as e: the three statements -/
def wNo : WX := fun _ _ _ _ => False
def tsBad (cl : Nv) (L : List String) (i j : Nat) : Addr → Value → Option Addr → TS := fun a cls d Dn σ H => ∃ x, x ∈ L ∧ cls = .ref (cl x) ∧ d = none ∧ tBad cl.K (cl x) a i j (b1 cl) (b2 cl) (b3 cl) Dn σ H
def tTryBad (cl : Nv) (L : List String) (i j : Nat) (tb : WX → TS) : TS := fun Dn σ H => tb (wAs cl.K (.ref (cl "CaveError")) i (tsBad cl L i j) wNo Dn) Dn σ H
def exTo (j : Nat) (L : List String) : Option Out → Option Out
  | some (.ex c e) => if c ∈ L then some (.nx (e.set j (.lst ((bitsOf c).map D.bl)))) else none
  | o => o
def sTryBad (j : Nat) (L : List String) (g : List D → Option Out) : List D → Option Out := fun env => exTo j L (g env)
theorem ss_tryBad {W : WX} {ms : List Mo} {m : Md} {i j : Nat} (mx : List Mo) {L : List String} {tb : WX → TS} {g : List D → Option Out} (hi : mx[i]? = some .un) (hij : j ≠ i) (hj : j < mx.length) (hn : wk (mx.set j .pu) m.nx = true) (hnu : m.nx[i]? = some .un)
    (F : ∀ x ∈ L, ExF cl x) (hb : ∀ W', SS cl W' ms { m with ex := mx } (tb W') g) : SS cl W ms m (tTryBad cl L i j tb) (sTryBad j L g) := by
  intro H w σ env st o e Dn p
  unfold sTryBad at e
  cases eg : g env with
  | none => rw [eg] at e; cases e
  | some o1 =>
    rw [eg] at e
    refine hb _ H w σ env st o1 eg Dn ?_
    cases o1 with
    | nx e1 => cases e; exact p
    | rt d e1 => cases e; exact p
    | bk e1 => cases e; exact p
    | ct e1 => cases e; exact p
    | ex c e1 =>
      have e' : (if c ∈ L then some (Out.nx (e1.set j (.lst ((bitsOf c).map D.bl)))) else none) = some o := e
      split at e'
      · rename_i hc
        cases e'
        intro H' w' σ' st' kp
        have hl : i < σ'.length := by rw [st'.ls]; exact (List.getElem?_eq_some_iff.mp hi).1
        refine ⟨true, (F c hc).exm, fun _ a _ => ⟨c, hc, rfl, rfl, ?_⟩, fun q => nomatch q⟩
        refine bad_run (F c hc) (st'.setUnV hi (o := some (.ref a))) (List.getElem?_set_self hl) hij hj fun H2 v st2 s2 => ?_
        exact p H2 w' _ ((st2.weak hn).setUnV hnu) (kp.trans (Kp.same s2))
      · cases e'
theorem pss_known {X : Cx} {body : List Stmt} {L : List String} {t : String → TS} {cls : Value} {d : Option Addr} (h : ∀ x ∈ L, cls = .ref (cl x) → d = none → PSs X body (t x)) : PSs X body (fun Dn σ H => ∃ x, x ∈ L ∧ cls = .ref (cl x) ∧ d = none ∧ t x Dn σ H) :=
  ⟨fun pins s σ H Dn I ⟨x, hx, e1, e2, q⟩ => (h x hx e1 e2).run pins s σ H Dn I q⟩
/-! ### a hook with one more question -/
def obsQ (n : Nat) (fa : List He.Fa) (fn : List He.DefD) (ex : PySem.W.Frag → Bool) (g : Addr → Option Obj) : He.AlD × Bool := (He.obsD fa fn (He.frG g (He.asD g n)), ex (He.frG g (He.asD g n)))
def hookQ (n : Nat) (fa : List He.Fa) (fn : List He.DefD) (ex : PySem.W.Frag → Bool) : PySem.W.Hook where
  α := He.AlD × Bool
  obs := fun s => obsQ n fa fn ex s.heap.get?
  val := fun _ => (He.valD fn, true)
  says := fun _ h => ∃ K : PySem.W.Frag, K.In h ∧ He.SaysD fa fn K ∧ ex K = true
  of := fun _ _ e => ⟨_, He.frG_in, congrArg (fun z : He.AlD × Bool => z.1) e, congrArg (fun z : He.AlD × Bool => z.2) e⟩
  keeps := fun _ _ _ ⟨K, hK, c⟩ k => ⟨K, PySem.W.Frag.In.keeps hK k, c⟩
theorem obsQ_eq {n : Nat} {fa : List He.Fa} {fn : List He.DefD} {ex : PySem.W.Frag → Bool} {g : Addr → Option Obj} {s : Shared} (h : ∀ a, g a = s.heap.get? a) : obsQ n fa fn ex g = (hookQ n fa fn ex).obs s := by
  have e : g = s.heap.get? := funext h
  rw [e] <;> rfl
/-! ### a piece of a text -/
def eSlS (f : List D → M D) (lo hi : Option (List D → M D)) : List D → M D := fun env => bd (f env) fun d => bd (eOpt lo env) fun l => bd (eOpt hi env) fun h => match d with
  | .str z => if z.length ≤ LIM then some (.ok (.str (cutS z l h))) else none
  | _ => none
theorem se_slS {W : WX} {ms : List Mo} {c : RC} {ta : TE} {f : List D → M D} {tl th : TO} {lo hi : Option (List D → M D)} (ha : SE cl W ms c ta f) (hl : SEo cl W ms tl lo) (hh : SEo cl W ms th hi) : SE cl W ms .pu (tSl rSlS ta tl th) (eSlS f lo hi) := fun H w σ env st r e x Q q =>
  ha.bind st e x fun d1 H1 v1 s1 r1 e => hl H1 w σ env (st.same s1) e (x.same s1) _ fun l H2 s2 e => hh H2 w σ env ((st.same s1).same s2) e ((x.same s1).same s2) _ fun h H3 s3 e => by
    have r1' := (r1.same (s2.trans s3)).an st.wf
    cases r1' with
    | str z =>
      have e' : (if z.length ≤ LIM then some (R.ok (D.str (cutS z l h))) else none) = some r := e
      split at e'
      · rename_i hz
        cases e'
        exact ⟨z, rfl, LIM_le hz, q _ rfl H3 _ (s1.trans (s2.trans s3)) (.str _)⟩
      · cases e'
    | _ => cases e
end Mv

namespace Mv
open PySem L2

/-! ### evaluation: rewriting rules -/
@[simp] theorem getE0 {a : D} {l : List D} : (a :: l)[0]? = some a := rfl
theorem sSeq_nx {a b : List D → Option Out} {env e : List D} (h : a env = some (.nx e)) : sSeq a b env = b e := by unfold sSeq; rw [h]
theorem sSeq_rt {a b : List D → Option Out} {env e : List D} {d : D} (h : a env = some (.rt d e)) : sSeq a b env = some (.rt d e) := by unfold sSeq; rw [h]
theorem dMul_ok {i j : Int} (h : (-(2 ^ 64) < i ∧ i < 2 ^ 64) ∨ (-(2 ^ 64) < j ∧ j < 2 ^ 64)) : dMul (.int i) (.int j) = some (.int (i * j)) := if_pos h
theorem dMod_ok {i j : Int} (h : 0 < j) : dMod (.int i) (.int j) = some (.int (i % j)) := if_pos h
theorem dDiv_ok {i j : Int} (h : 0 < j ∧ j < 1073741824) : dDiv (.int i) (.int j) = some (.int (i / j)) := if_pos h
theorem dPow_ok {i j : Int} (h : 0 ≤ j ∧ j ≤ 1000000 ∧ i.natAbs < 2 ^ 64) : dPow (.int i) (.int j) = some (.int (i ^ j.toNat)) := if_pos h
@[simp] theorem dAdd_int {i j : Int} : dAdd (.int i) (.int j) = some (.int (i + j)) := rfl
@[simp] theorem dSub_int {i j : Int} : dSub (.int i) (.int j) = some (.int (i - j)) := rfl
@[simp] theorem dNeg_int {i : Int} : dNeg (.int i) = some (.int (-i)) := rfl
@[simp] theorem dLt_int {i j : Int} : dLt (.int i) (.int j) = some (.bl (decide (i < j))) := rfl
@[simp] theorem dLe_int {i j : Int} : dLe (.int i) (.int j) = some (.bl (decide (i ≤ j))) := rfl
@[simp] theorem dGt_int {i j : Int} : dGt (.int i) (.int j) = some (.bl (decide (j < i))) := rfl
@[simp] theorem dGe_int {i j : Int} : dGe (.int i) (.int j) = some (.bl (decide (j ≤ i))) := rfl
@[simp] theorem dNot_bl {b : Bool} : dNot (.bl b) = some (.bl (!b)) := rfl
theorem shaped_int {i : Int} : SeqAt.shaped (toPy (.int i)) = true := by simp [toPy, SeqAt.shaped, PyData.canLay0, PyData.depth]
theorem eq_intL : ∀ {a b : List Int}, PyData.eqvAll (toPyL (a.map D.int)) (toPyL (b.map D.int)) = decide (a = b)
  | [], [] => by simp [toPyL, PyData.eqvAll]
  | [], _ :: _ => by simp [toPyL, PyData.eqvAll]
  | _ :: _, [] => by simp [toPyL, PyData.eqvAll]
  | x :: a, y :: b => by
    have ih := eq_intL (a := a) (b := b)
    show (PyData.eqv (toPy (.int x)) (toPy (.int y)) && PyData.eqvAll (toPyL (a.map D.int)) (toPyL (b.map D.int))) = _
    rw [ih]
    show ((x == y) && decide (a = b)) = decide (x :: a = y :: b)
    by_cases h : x = y <;> by_cases h2 : a = b <;> simp [h, h2]
theorem lay_ints : ∀ (a : List Int), PyData.canLayAll0 (toPyL (a.map D.int)) = true ∧ PyData.depthAll (toPyL (a.map D.int)) = 0
  | [] => by simp [toPyL, PyData.canLayAll0, PyData.depthAll]
  | x :: a => by
    obtain ⟨h1, h2⟩ := lay_ints a
    refine ⟨?_, ?_⟩
    · show (PyData.canLay0 (toPy (.int x)) && PyData.canLayAll0 (toPyL (a.map D.int))) = true
      rw [h1] <;> rfl
    · show max (PyData.depth (toPy (.int x))) (PyData.depthAll (toPyL (a.map D.int))) = 0
      rw [h2] <;> rfl
theorem shaped_ints (a : List Int) : SeqAt.shaped (toPy (.lst (a.map D.int))) = true := by
  obtain ⟨h1, h2⟩ := lay_ints a
  show (PyData.canLayAll0 (toPyL (a.map D.int)) && decide (PyData.depthAll (toPyL (a.map D.int)) + 1 ≤ 64)) = true
  rw [h1, h2] <;> rfl
@[simp] theorem dEq_int {i j : Int} : dEq (.int i) (.int j) = some (.bl (decide (i = j))) := by
  unfold dEq
  rw [if_pos ⟨shaped_int, shaped_int⟩]
  show some (D.bl (i == j)) = _
  rw [Bool.beq_eq_decide_eq]
@[simp] theorem dNe_int {i j : Int} : dNe (.int i) (.int j) = some (.bl (!decide (i = j))) := by
  unfold dNe
  rw [if_pos ⟨shaped_int, shaped_int⟩]
  show some (D.bl (!(i == j))) = _
  rw [Bool.beq_eq_decide_eq]
abbrev iL (l : List Int) : D := .lst (l.map D.int)
@[simp] theorem dEq_ints {a b : List Int} : dEq (iL a) (iL b) = some (.bl (decide (a = b))) := by
  unfold dEq
  rw [if_pos ⟨shaped_ints a, shaped_ints b⟩]
  show some (D.bl (PyData.eqvAll (toPyL (a.map D.int)) (toPyL (b.map D.int)))) = _
  rw [eq_intL]
@[simp] theorem dNe_ints {a b : List Int} : dNe (iL a) (iL b) = some (.bl (!decide (a = b))) := by
  unfold dNe
  rw [if_pos ⟨shaped_ints a, shaped_ints b⟩]
  show some (D.bl (!PyData.eqvAll (toPyL (a.map D.int)) (toPyL (b.map D.int)))) = _
  rw [eq_intL]
theorem immL_ints (l : List Int) : immL (l.map D.int) = true := by
  induction l with
  | nil => rfl
  | cons y r ih => exact Bool.and_eq_true_iff.mpr ⟨rfl, ih⟩
@[simp] theorem imm_int {i : Int} : imm (.int i) = true := rfl
@[simp] theorem imm_bl {i : Bool} : imm (.bl i) = true := rfl
@[simp] theorem imm_str {i : Str} : imm (.str i) = true := rfl
@[simp] theorem imm_non : imm .non = true := rfl
@[simp] theorem dLen_ints {l : List Int} : dLen [iL l] = some (.int l.length) := by simp [dLen]
@[simp] theorem dList_ints {l : List Int} : dList [iL l] = some (iL l) := if_pos (immL_ints l)
@[simp] theorem dRev_ints {l : List Int} : dRev (iL l) = some (iL l.reverse) := by
  show (if immL (l.map D.int) = true then some (D.lst (l.map D.int).reverse) else none) = _
  rw [if_pos (immL_ints l), ← List.map_reverse]
def cutI (l : List Int) (lo hi : Option Int) : List Int := (l.drop (HT.sIx l.length 0 lo)).take (HT.sIx l.length l.length hi - HT.sIx l.length 0 lo)
theorem cutI_len (l : List Int) (lo hi : Option Int) : (cutI l lo hi).length ≤ l.length := by
  unfold cutI
  rw [List.length_take, List.length_drop]
  omega
theorem cutI_mem {l : List Int} {lo hi : Option Int} {x : Int} (h : x ∈ cutI l lo hi) : x ∈ l := List.mem_of_mem_drop (List.mem_of_mem_take h)
@[simp] theorem dCut_ints {l : List Int} {lo hi : Option Int} : dCut (iL l) lo hi = some (iL (cutI l lo hi)) := by
  show (if immL (l.map D.int) = true then some (D.lst (cutD (l.map D.int) lo hi)) else none) = _
  rw [if_pos (immL_ints l)]
  unfold cutD cutI
  rw [← List.map_drop, ← List.map_take, List.length_map]
theorem dAdd_ints {a b : List Int} (h : a.length + b.length ≤ LIM) : dAdd (iL a) (iL b) = some (iL (a ++ b)) := by
  show (if (a.map D.int).length + (b.map D.int).length ≤ LIM ∧ immL (a.map D.int) = true ∧ immL (b.map D.int) = true then some (D.lst (a.map D.int ++ b.map D.int)) else none) = _
  rw [if_pos ⟨by simpa using h, immL_ints a, immL_ints b⟩, ← List.map_append]
theorem atI_map {α β : Type} {f : α → β} {l : List α} {i : Int} : atI (l.map f) i = (atI l i).map f := by
  unfold atI
  rw [List.length_map]
  cases ixN l.length i with
  | none => rfl
  | some j => simp
theorem dIx_ints {l : List Int} {i : Int} : dIx (iL l) (.int i) = (atI l i).map D.int := by
  show atI (l.map D.int) i = _
  rw [atI_map]
theorem dIx_get {l : List Int} {k : Nat} (h : k < l.length) : dIx (iL l) (.int (k : Int)) = some (.int (l.getD k 0)) := by
  rw [dIx_ints, atI_nat (v := l[k]) (List.getElem?_eq_getElem h)]
  simp [List.getD_eq_getElem?_getD, h]
theorem dIx_int {l : List Int} {i : Int} (h0 : 0 ≤ i) (h : i < l.length) : dIx (iL l) (.int i) = some (.int (l.getD i.toNat 0)) := by
  have e : i = ((i.toNat : Nat) : Int) := by omega
  have h2 : i.toNat < l.length := by omega
  have q := dIx_get h2
  rw [← e] at q
  exact q
theorem eq_intLL : ∀ {a b : List (List Int)}, PyData.eqvAll (toPyL (a.map iL)) (toPyL (b.map iL)) = decide (a = b)
  | [], [] => by simp [toPyL, PyData.eqvAll]
  | [], _ :: _ => by simp [toPyL, PyData.eqvAll]
  | _ :: _, [] => by simp [toPyL, PyData.eqvAll]
  | x :: a, y :: b => by
    have ih := eq_intLL (a := a) (b := b)
    show (PyData.eqvAll (toPyL (x.map D.int)) (toPyL (y.map D.int)) && PyData.eqvAll (toPyL (a.map iL)) (toPyL (b.map iL))) = _
    rw [ih, eq_intL]
    by_cases h : x = y <;> by_cases h2 : a = b <;> simp [h, h2]
theorem lay_intLL : ∀ (a : List (List Int)), PyData.canLayAll0 (toPyL (a.map iL)) = true ∧ PyData.depthAll (toPyL (a.map iL)) ≤ 1
  | [] => by simp [toPyL, PyData.canLayAll0, PyData.depthAll]
  | x :: a => by
    obtain ⟨h1, h2⟩ := lay_intLL a
    obtain ⟨h3, h4⟩ := lay_ints x
    refine ⟨?_, ?_⟩
    · show (PyData.canLayAll0 (toPyL (x.map D.int)) && PyData.canLayAll0 (toPyL (a.map iL))) = true
      rw [h1, h3] <;> rfl
    · show max (PyData.depthAll (toPyL (x.map D.int)) + 1) (PyData.depthAll (toPyL (a.map iL))) ≤ 1
      rw [h4]
      omega
theorem shaped_intLL (a : List (List Int)) : SeqAt.shaped (toPy (.lst (a.map iL))) = true := by
  obtain ⟨h1, h2⟩ := lay_intLL a
  show (PyData.canLayAll0 (toPyL (a.map iL)) && decide (PyData.depthAll (toPyL (a.map iL)) + 1 ≤ 64)) = true
  rw [h1, decide_eq_true (by omega)] <;> rfl
theorem dEq_intLL {a b : List (List Int)} : dEq (.lst (a.map iL)) (.lst (b.map iL)) = some (.bl (decide (a = b))) := by
  unfold dEq
  rw [if_pos ⟨shaped_intLL a, shaped_intLL b⟩]
  show some (D.bl (PyData.eqvAll (toPyL (a.map iL)) (toPyL (b.map iL)))) = _
  rw [eq_intLL]
theorem dNe_intLL {a b : List (List Int)} : dNe (.lst (a.map iL)) (.lst (b.map iL)) = some (.bl (!decide (a = b))) := by
  unfold dNe
  rw [if_pos ⟨shaped_intLL a, shaped_intLL b⟩]
  show some (D.bl (!PyData.eqvAll (toPyL (a.map iL)) (toPyL (b.map iL)))) = _
  rw [eq_intLL]
/-! ### loops -/
/-- every turn goes on -/
theorem forF_inv {α : Type} {emb : α → D} {i : Nat} {b : List D → Option Out} {l : List α} (P : List α → List D → Prop) {env : List D} (h0 : P [] env)
    (hs : ∀ pre x post env, l = pre ++ x :: post → P pre env → ∃ e, (b (env.set i (emb x)) = some (.nx e) ∨ b (env.set i (emb x)) = some (.ct e)) ∧ P (pre ++ [x]) e) :
    ∃ e, forF i b (l.map emb) env = some (.nx e) ∧ P l e := by
  have key : ∀ (post pre : List α) (env : List D), l = pre ++ post → P pre env → ∃ e, forF i b (post.map emb) env = some (.nx e) ∧ P l e := by
    intro post
    induction post with
    | nil =>
      intro pre env e p
      rw [List.append_nil] at e
      subst e
      exact ⟨env, rfl, p⟩
    | cons x r ih =>
      intro pre env e p
      obtain ⟨e1, h1, p1⟩ := hs pre x r env e p
      obtain ⟨e2, h2, p2⟩ := ih (pre ++ [x]) e1 (by simp [e]) p1
      refine ⟨e2, ?_, p2⟩
      show forF i b (emb x :: r.map emb) env = _
      unfold forF
      rcases h1 with h1 | h1 <;> (rw [h1]; exact h2)
  exact key l [] env rfl h0
theorem rngL_map (n : Nat) (lo : Int) : rngL lo n = (List.range n).map fun k : Nat => D.int (lo + (k : Int)) := by
  apply List.ext_getElem?
  intro k
  by_cases h : k < n
  · have h2 := rngL_get n lo k h
    have h3 : ((rngL lo n).drop k)[0]? = some (.int (lo + k)) := by rw [h2]; rfl
    rw [List.getElem?_drop, Nat.add_zero] at h3
    rw [h3]
    simp [h]
  · rw [List.getElem?_eq_none (by rw [rngL_len]; omega), List.getElem?_eq_none (by simp; omega)]
/-- over a range -/
theorem forR_inv {i : Nat} {b : List D → Option Out} {lo : Int} {n : Nat} (P : Nat → List D → Prop) {env : List D} (h0 : P 0 env)
    (hs : ∀ k env, k < n → P k env → ∃ e, (b (env.set i (.int (lo + (k : Int)))) = some (.nx e) ∨ b (env.set i (.int (lo + (k : Int)))) = some (.ct e)) ∧ P (k + 1) e) :
    ∃ e, forF i b (rngL lo n) env = some (.nx e) ∧ P n e := by
  rw [rngL_map]
  have st : ∀ (pre : List Nat) (x : Nat) (post : List Nat) (env : List D), List.range n = pre ++ x :: post → P pre.length env → ∃ e, (b (env.set i (D.int (lo + (x : Int)))) = some (.nx e) ∨ b (env.set i (D.int (lo + (x : Int)))) = some (.ct e)) ∧ P (pre ++ [x]).length e := by
    intro pre x post env hl p
    have hx : x = pre.length := by
      have h1 : (List.range n)[pre.length]? = some x := by rw [hl]; simp
      obtain ⟨h2, h3⟩ := List.getElem?_eq_some_iff.mp h1
      simpa using h3.symm
    have hlt : pre.length < n := by
      have := congrArg List.length hl
      simp at this
      omega
    subst hx
    obtain ⟨e, h1, h2⟩ := hs pre.length env hlt p
    exact ⟨e, h1, by simpa using h2⟩
  obtain ⟨e, h1, h2⟩ := forF_inv (emb := fun k : Nat => D.int (lo + (k : Int))) (i := i) (b := b) (l := List.range n) (fun pre env => P pre.length env) (env := env) h0 st
  exact ⟨e, h1, by simpa using h2⟩
/-- some turn may hand back -/
theorem forF_ret {α : Type} {emb : α → D} {i : Nat} {b : List D → Option Out} {l : List α} (P : List α → List D → Prop) (R : D → Prop) {env : List D} (h0 : P [] env)
    (hs : ∀ pre x post env, l = pre ++ x :: post → P pre env → (∃ e, (b (env.set i (emb x)) = some (.nx e) ∨ b (env.set i (emb x)) = some (.ct e)) ∧ P (pre ++ [x]) e) ∨ ∃ d e, b (env.set i (emb x)) = some (.rt d e) ∧ R d) :
    (∃ e, forF i b (l.map emb) env = some (.nx e) ∧ P l e) ∨ ∃ d e, forF i b (l.map emb) env = some (.rt d e) ∧ R d := by
  have key : ∀ (post pre : List α) (env : List D), l = pre ++ post → P pre env → (∃ e, forF i b (post.map emb) env = some (.nx e) ∧ P l e) ∨ ∃ d e, forF i b (post.map emb) env = some (.rt d e) ∧ R d := by
    intro post
    induction post with
    | nil =>
      intro pre env e p
      rw [List.append_nil] at e
      subst e
      exact .inl ⟨env, rfl, p⟩
    | cons x r ih =>
      intro pre env e p
      rcases hs pre x r env e p with ⟨e1, h1, p1⟩ | ⟨d, e1, h1, rd⟩
      · have un : forF i b ((x :: r).map emb) env = forF i b (r.map emb) e1 := by
          show forF i b (emb x :: r.map emb) env = _
          conv => lhs; unfold forF
          rcases h1 with h1 | h1 <;> (rw [h1])
        rw [un]
        exact ih (pre ++ [x]) e1 (by simp [e]) p1
      · refine .inr ⟨d, e1, ?_, rd⟩
        show forF i b (emb x :: r.map emb) env = _
        unfold forF
        rw [h1]
  exact key l [] env rfl h0
theorem forR_ret {i : Nat} {b : List D → Option Out} {lo : Int} {n : Nat} (P : Nat → List D → Prop) (R : D → Prop) {env : List D} (h0 : P 0 env)
    (hs : ∀ k env, k < n → P k env → (∃ e, (b (env.set i (.int (lo + (k : Int)))) = some (.nx e) ∨ b (env.set i (.int (lo + (k : Int)))) = some (.ct e)) ∧ P (k + 1) e) ∨ ∃ d e, b (env.set i (.int (lo + (k : Int)))) = some (.rt d e) ∧ R d) :
    (∃ e, forF i b (rngL lo n) env = some (.nx e) ∧ P n e) ∨ ∃ d e, forF i b (rngL lo n) env = some (.rt d e) ∧ R d := by
  rw [rngL_map]
  have st : ∀ (pre : List Nat) (x : Nat) (post : List Nat) (env : List D), List.range n = pre ++ x :: post → P pre.length env → (∃ e, (b (env.set i (D.int (lo + (x : Int)))) = some (.nx e) ∨ b (env.set i (D.int (lo + (x : Int)))) = some (.ct e)) ∧ P (pre ++ [x]).length e) ∨ ∃ d e, b (env.set i (D.int (lo + (x : Int)))) = some (.rt d e) ∧ R d := by
    intro pre x post env hl p
    have hx : x = pre.length := by
      have h1 : (List.range n)[pre.length]? = some x := by rw [hl]; simp
      obtain ⟨h2, h3⟩ := List.getElem?_eq_some_iff.mp h1
      simpa using h3.symm
    have hlt : pre.length < n := by
      have := congrArg List.length hl
      simp at this
      omega
    subst hx
    rcases hs pre.length env hlt p with ⟨e, h1, h2⟩ | q
    · exact .inl ⟨e, h1, by simpa using h2⟩
    · exact .inr q
  rcases forF_ret (emb := fun k : Nat => D.int (lo + (k : Int))) (i := i) (b := b) (l := List.range n) (fun pre env => P pre.length env) R (env := env) h0 st with ⟨e, h1, h2⟩ | q
  · exact .inl ⟨e, h1, by simpa using h2⟩
  · exact .inr q
/-- a while with a measure -/
theorem wh_inv {t : List D → M Bool} {b : List D → Option Out} (P : Nat → List D → Prop) {n : Nat} {env : List D} (h0 : P n env)
    (hs : ∀ n env, P n env → t env = some (.ok false) ∨ (t env = some (.ok true) ∧ ∃ m e, m < n ∧ (b env = some (.nx e) ∨ b env = some (.ct e)) ∧ P m e)) :
    ∃ m e, sWhile t b env = some (.nx e) ∧ P m e ∧ t e = some (.ok false) := by
  have key : ∀ (n : Nat) (env : List D), P n env → ∃ k m e, whF t b k env = some (.nx e) ∧ P m e ∧ t e = some (.ok false) := by
    intro n
    induction n using Nat.strongRecOn with
    | ind n ih =>
      intro env p
      rcases hs n env p with h | ⟨h, m, e, hm, hb, pe⟩
      · exact ⟨1, n, env, by unfold whF; rw [h], p, h⟩
      · obtain ⟨k, m2, e2, h1, h2, h3⟩ := ih m hm e pe
        refine ⟨k + 1, m2, e2, ?_, h2, h3⟩
        unfold whF
        rw [h]
        rcases hb with hb | hb <;> (simp only [hb]; exact h1)
  obtain ⟨k, m, e, h1, h2, h3⟩ := key n env h0
  exact ⟨m, e, sWhile_eq h1, h2, h3⟩
/-- a comprehension over embedded items -/
theorem lcF_map {α : Type} {emb : α → D} {i : Nat} {g : List D → M D} {env : List D} {h : α → D} : ∀ {l : List α}, (∀ x ∈ l, g (env.set i (emb x)) = some (.ok (h x))) → lcF i tT g (l.map emb) env = some (l.map h)
  | [], _ => rfl
  | x :: l, hg => by
    have h1 := hg x List.mem_cons_self
    have ih := lcF_map (l := l) fun y hy => hg y (List.mem_cons_of_mem _ hy)
    show (okO (tT (env.set i (emb x)))).bind (fun b => if b = true then (okO (g (env.set i (emb x)))).bind fun y => (lcF i tT g (l.map emb) env).map (y :: ·) else lcF i tT g (l.map emb) env) = _
    rw [h1, ih] <;> rfl
theorem lcF_filter {α : Type} {emb : α → D} {i : Nat} {t : List D → M Bool} {g : List D → M D} {env : List D} {p : α → Bool} {h : α → D} : ∀ {l : List α}, (∀ x ∈ l, t (env.set i (emb x)) = some (.ok (p x)) ∧ (p x = true → g (env.set i (emb x)) = some (.ok (h x)))) → lcF i t g (l.map emb) env = some ((l.filter p).map h)
  | [], _ => rfl
  | x :: l, hg => by
    obtain ⟨h1, h2⟩ := hg x List.mem_cons_self
    have ih := lcF_filter (l := l) fun y hy => hg y (List.mem_cons_of_mem _ hy)
    show (okO (t (env.set i (emb x)))).bind (fun b => if b = true then (okO (g (env.set i (emb x)))).bind fun y => (lcF i t g (l.map emb) env).map (y :: ·) else lcF i t g (l.map emb) env) = _
    rw [h1, ih]
    cases hp : p x with
    | true =>
      rw [h2 hp, List.filter_cons_of_pos hp]
      rfl
    | false =>
      rw [List.filter_cons_of_neg (by simp [hp])]
      rfl
theorem fn_rt {g : List D → Option Out} {n : Nat} {rp : Bool} {ds : List D} {d : D} {e : List D} (h : g (ds ++ List.replicate (n - ds.length) .non) = some (.rt d e)) : fnOf g n rp ds = some (.rt d e) := by
  unfold fnOf
  rw [h]
theorem fn_nx {g : List D → Option Out} {n : Nat} {ds : List D} {e : List D} (h : g (ds ++ List.replicate (n - ds.length) .non) = some (.nx e)) : fnOf g n true ds = some (.rt .non e) := by
  unfold fnOf
  rw [h]
  rfl
theorem ofN {o : Option Out} {d : D} (h : ∃ e, o = some (.rt d e)) : ofOutN o = some (.ok d) := by
  obtain ⟨e, rfl⟩ := h
  rfl
theorem eFnN_eq {G : List D → Option Out} {fs : List (List D → M D)} {env ds : List D} {d : D} (h : eArgs fs env = some (.ok ds)) (h2 : ∃ e, G ds = some (.rt d e)) : eFnN G fs env = some (.ok d) := by
  unfold eFnN
  rw [h, bd_ok, ofN h2]
/-- the law's def at the script -/
theorem law_sp {cl : Nv} {G : List D → Option Out} {H : Hp} {a : Addr} {ns : List Int} (hS : SqL cl.K H a (ns.map V.int)) (hG : ∃ e, G [iL ns] = some (.rt (.bl true) e)) :
    spOf cl [.sc] .pu G [.ref a] H (fun v _ => v = .bl true) fun _ _ _ => False := by
  obtain ⟨e, hG⟩ := hG
  refine ⟨fun _ => none, [iL ns], _, rfl, rfl, fun _ _ z => absurd z (by simp), fun _ _ _ => by simp, fun _ _ _ z => absurd z (by simp), fun i m hi hm => ?_, hG, fun H' w' v k wf r _ => ?_⟩
  · match i, hi with
    | 0, hi =>
      have e' : Mo.sc = m := Option.some.inj hi
      subst e'
      refine ⟨_, _, rfl, rfl, a, ns, rfl, rfl, ?_⟩
      rcases hS with r | z
      · exact .inl ⟨r, .inl rfl⟩
      · exact .inr z
    | i + 1, hi => simp at hi
  · have r' : Rep cl H' (Fz w') (.bl true) v := r
    cases r'
    rfl
end Mv

namespace Lw
open PySem L2 Mv

/-! ## _law_numbers -/
noncomputable def g_law_numbers_b1 : List D → Option Out := (sIf (eT (eOp dGt (eVar 5) (eC (.int 0)))) (sSeq (sApp 2 (eOp dMod (eVar 5) (eC (.int 1000)))) (sSet 5 (eOp dDiv (eVar 5) (eC (.int 1000))))) sNext)
noncomputable def g_law_numbers_b2 : List D → Option Out := (sSeq (sSet 3 (eOp dMod (eOp dAdd (eOp dAdd (eOp dMul (eVar 3) (eC (.int 48271))) (eOp dMod (eVar 4) (eC (.int 1000003)))) (eC (.int 11))) (eC (.int 2147483647)))) (sSeq (sSet 5 (eOp dSub (eVar 4) (eOp dPow (eC (.int 10)) (eC (.int 18))))) (sSeq (sIf (eT (eOp dLt (eVar 5) (eC (.int 0)))) (sApp 2 (eOp dMod (eVar 4) (eC (.int 1000)))) sNext) (sRng 6 [(eC (.int 60))] g_law_numbers_b1))))
noncomputable def g_law_numbers_b3 : List D → Option Out := (sSeq (sSet 3 (eOp dMod (eOp dAdd (eOp dAdd (eOp dAdd (eOp dMul (eVar 3) (eVar 3)) (eOp dMul (eC (.int 69621)) (eVar 3))) (eOp dMul (eC (.int 7)) (eCall dLen [(eVar 2)]))) (eC (.int 5))) (eC (.int 2147483629)))) (sApp 2 (eOp dMod (eOp dDiv (eVar 3) (eC (.int 1009))) (eC (.int 1000)))))
noncomputable def g_law_numbers_r4 : List D → Option Out := (sRet (eSl (eVar 2) none (some (eVar 1))))
noncomputable def g_law_numbers_r3 : List D → Option Out := (sSeq (sWhile (eT (eOp dLt (eCall dLen [(eVar 2)]) (eVar 1))) g_law_numbers_b3) g_law_numbers_r4)
noncomputable def g_law_numbers_r2 : List D → Option Out := (sSeq (sFor 4 (eSl (eVar 0) none (some (eC (.int 63)))) g_law_numbers_b2) g_law_numbers_r3)
noncomputable def g_law_numbers_r1 : List D → Option Out := (sSeq (sSet 3 (eC (.int 17))) g_law_numbers_r2)
noncomputable def g_law_numbers : List D → Option Out := (sSeq (sSet 2 (eLst [])) g_law_numbers_r1)
noncomputable def G_law_numbers : List D → Option Out := fnOf g_law_numbers 7 false
noncomputable def t_law_numbers (cl : Nv) : TS := (tSeq (tAsg (tLst tNil) (gName 2)) (tSeq (tAsg (tC (.int 17)) (gName 3)) (tSeq (tFor (iList cl.K (tSl (rSlL cl.K) (tVar 0) tNoPart (tPart (tC (.int 63))))) (gName 4) (tSeq (tAsg (tOp (rI (fun _ j => 0 < j) fun i j => .int (i % j)) (tOp (rAddA cl.K) (tOp (rAddA cl.K) (tOp rMulA (tVar 3) (tC (.int 48271))) (tOp (rI (fun _ j => 0 < j) fun i j => .int (i % j)) (tVar 4) (tC (.int 1000003)))) (tC (.int 11))) (tC (.int 2147483647))) (gName 3)) (tSeq (tAsg (tOp (rI0 fun i j => .int (i - j)) (tVar 4) (tOp (rI CPow fun i j => .int (i ^ j.toNat)) (tC (.int 10)) (tC (.int 18)))) (gName 5)) (tSeq (tIfS (tTest (tOp (rI0 fun i j => .bl (decide (i < j))) (tVar 5) (tC (.int 0)))) (tDrop (tBM cl.K "list" rAppend (tVar 2) (tCons (tOp (rI (fun _ j => 0 < j) fun i j => .int (i % j)) (tVar 4) (tC (.int 1000))) tNil))) tNext) (tFor (iRng1 (tCons (tC (.int 60)) tNil)) (gName 6) (tIfS (tTest (tOp (rI0 fun i j => .bl (decide (j < i))) (tVar 5) (tC (.int 0)))) (tSeq (tDrop (tBM cl.K "list" rAppend (tVar 2) (tCons (tOp (rI (fun _ j => 0 < j) fun i j => .int (i % j)) (tVar 5) (tC (.int 1000))) tNil))) (tAsg (tOp (rI CDiv fun i j => .int (i / j)) (tVar 5) (tC (.int 1000))) (gName 5))) tNext)))))) (tSeq (tWhile (tTest (tOp (rI0 fun i j => .bl (decide (i < j))) (tCB (rLenA cl.K) (tCons (tVar 2) tNil)) (tVar 1))) (tSeq (tAsg (tOp (rI (fun _ j => 0 < j) fun i j => .int (i % j)) (tOp (rAddA cl.K) (tOp (rAddA cl.K) (tOp (rAddA cl.K) (tOp rMulA (tVar 3) (tVar 3)) (tOp rMulA (tC (.int 69621)) (tVar 3))) (tOp rMulA (tC (.int 7)) (tCB (rLenA cl.K) (tCons (tVar 2) tNil)))) (tC (.int 5))) (tC (.int 2147483629))) (gName 3)) (tDrop (tBM cl.K "list" rAppend (tVar 2) (tCons (tOp (rI (fun _ j => 0 < j) fun i j => .int (i % j)) (tOp (rI CDiv fun i j => .int (i / j)) (tVar 3) (tC (.int 1009))) (tC (.int 1000))) tNil))))) (tRet (tSl (rSlL cl.K) (tVar 2) tNoPart (tPart (tVar 1))))))))
theorem ss_law_numbers (cl : Nv) (W : WX) : SS cl W [.sc, .lo, .un, .un, .un, .un, .un] (mdOf [.sc, .lo] 7 (.fr .l1)) (t_law_numbers cl) g_law_numbers := (ss_seq [.sc, .lo, (.ow .l1), .un, .un, .un, .un] (ss_setO (se_lst rfl sea_nil) (by decide) (by decide)) (ss_seq [.sc, .lo, (.ow .l1), .pu, .un, .un, .un] (ss_set rfl se_int (by decide) (by decide)) (ss_seq [.sc, .lo, (.ow .l1), .pu, .un, .un, .un] (ss_for [.sc, .lo, (.ow .l1), .pu, .un, .un, .un] rfl (se_slSc (by rfl) (seo_some se_int)) (by decide) (by decide) (by decide) (ss_seq [.sc, .lo, (.ow .l1), .pu, .pu, .un, .un] (ss_set rfl (se_op ops_Ic (se_op ops_add (se_op ops_add (se_op ops_mul (se_var_pu (by rfl)) se_int) (se_op ops_Ic (se_var_pu (by rfl)) se_int)) se_int) se_int) (by decide) (by decide)) (ss_seq [.sc, .lo, (.ow .l1), .pu, .pu, .pu, .un] (ss_set rfl (se_op ops_I0 (se_var_pu (by rfl)) (se_op ops_Ic se_int se_int)) (by decide) (by decide)) (ss_seq [.sc, .lo, (.ow .l1), .pu, .pu, .pu, .un] (ss_if (set_T (se_op ops_B0 (se_var_pu (by rfl)) se_int)) (ss_app (mo := (.ow .l1)) (by rfl) (Or.inl rfl) rfl (se_op ops_Ic (se_var_pu (by rfl)) se_int) (by decide) (by decide)) (ss_next (by decide)) (by decide)) (ss_rng1 [.sc, .lo, (.ow .l1), .pu, .pu, .pu, .un] (sea_cons se_int sea_nil) (by decide) (by decide) (by decide) (ss_if (set_T (se_op ops_B0 (se_var_pu (by rfl)) se_int)) (ss_seq [.sc, .lo, (.ow .l1), .pu, .pu, .pu, .pu] (ss_app (mo := (.ow .l1)) (by rfl) (Or.inl rfl) rfl (se_op ops_Ic (se_var_pu (by rfl)) se_int) (by decide) (by decide)) (ss_set rfl (se_op ops_Ic (se_var_pu (by rfl)) se_int) (by decide) (by decide))) (ss_next (by decide)) (by decide))))))) (ss_seq [.sc, .lo, (.ow .l1), .pu, .un, .un, .un] (ss_while [.sc, .lo, (.ow .l1), .pu, .un, .un, .un] (set_T (se_op ops_B0 (se_call0 ca_len (sea_cons (se_var (m := (.ow .l1)) (by rfl) rfl) sea_nil)) (se_var_lo (by rfl)))) (by decide) (by decide) (by decide) (ss_seq [.sc, .lo, (.ow .l1), .pu, .un, .un, .un] (ss_set rfl (se_op ops_Ic (se_op ops_add (se_op ops_add (se_op ops_add (se_op ops_mul (se_var_pu (by rfl)) (se_var_pu (by rfl))) (se_op ops_mul se_int (se_var_pu (by rfl)))) (se_op ops_mul se_int (se_call0 ca_len (sea_cons (se_var (m := (.ow .l1)) (by rfl) rfl) sea_nil)))) se_int) se_int) (by decide) (by decide)) (ss_app (mo := (.ow .l1)) (by rfl) (Or.inl rfl) rfl (se_op ops_Ic (se_op ops_Ic (se_var_pu (by rfl)) se_int) se_int) (by decide) (by decide)))) (ss_retF (se_sl (se_var (m := (.ow .l1)) (by rfl) rfl) seo_none (seo_some (se_var_lo (by rfl)))) (by decide) (by decide))))))
abbrev N_law_numbers : List Str := [("_law_script" : Str), ("_law_many" : Str), ("_law_row" : Str), ("_law_seed" : Str), ("_law_cell" : Str), ("_law_rest" : Str), ("_law_k" : Str)]
abbrev P_law_numbers : List Str := [("_law_script" : Str), ("_law_many" : Str)]

/-! ## _law_letters -/
noncomputable def g_law_letters_b1 : List D → Option Out := (sSeq (sIf (eT (eOp dSgN (eVar 2) (eC (.str ("abcdeABCDE" : Str))))) (sRet (eC .non)) sNext) (sSeq (sSet 3 (eFind (eC (.str ("abcdeABCDE" : Str))) (eVar 2))) (sApp 1 (eOp dIx (eLst [(eOp dAdd (eVar 3) (eC (.int 1))), (eOp dSub (eC (.int 4)) (eVar 3))]) (eOp dDiv (eVar 3) (eC (.int 5)))))))
noncomputable def g_law_letters_r4 : List D → Option Out := (sRet (eVar 1))
noncomputable def g_law_letters_r3 : List D → Option Out := (sSeq (sIf (eT (eOp dEq (eVar 0) (eC (.str ("" : Str))))) (sRet (eC .non)) sNext) g_law_letters_r4)
noncomputable def g_law_letters_r2 : List D → Option Out := (sSeq (sForS 2 (eVar 0) g_law_letters_b1) g_law_letters_r3)
noncomputable def g_law_letters_r1 : List D → Option Out := (sSeq (sSet 1 (eLst [])) g_law_letters_r2)
noncomputable def g_law_letters : List D → Option Out := (sSeq (sIf (eT (eOp dEq (eVar 0) (eC (.str ("." : Str))))) (sRet (eLst [])) sNext) g_law_letters_r1)
noncomputable def G_law_letters : List D → Option Out := fnOf g_law_letters 4 false
noncomputable def t_law_letters (cl : Nv) : TS := (tSeq (tIfS (tTest (tOp (rEqD cl.K) (tVar 0) (tC (.str ("." : Str))))) (tRet (tLst tNil)) tNext) (tSeq (tAsg (tLst tNil) (gName 1)) (tSeq (tFor (iStr (tVar 0)) (gName 2) (tSeq (tIfS (tTest (tOp rSgN (tVar 2) (tC (.str ("abcdeABCDE" : Str))))) (tRet (tC .non)) tNext) (tSeq (tAsg (tM1 rFnd (tC (.str ("abcdeABCDE" : Str))) (tVar 2)) (gName 3)) (tDrop (tBM cl.K "list" rAppend (tVar 1) (tCons (tOp (rIx cl.K) (tLst (tCons (tOp (rAddA cl.K) (tVar 3) (tC (.int 1))) (tCons (tOp (rI0 fun i j => .int (i - j)) (tC (.int 4)) (tVar 3)) tNil))) (tOp (rI CDiv fun i j => .int (i / j)) (tVar 3) (tC (.int 5)))) tNil)))))) (tSeq (tIfS (tTest (tOp (rEqD cl.K) (tVar 0) (tC (.str ("" : Str))))) (tRet (tC .non)) tNext) (tRet (tVar 1))))))
theorem ss_law_letters (cl : Nv) (W : WX) : SS cl W [.lo, .un, .un, .un] (mdOf [.lo] 4 (.fr .n1)) (t_law_letters cl) g_law_letters := (ss_seq [.lo, .un, .un, .un] (ss_if (set_T (se_op ops_eq (se_var_lo (by rfl)) se_str)) (ss_retF (SE.toN1 (se_lst rfl sea_nil)) (by decide) (by decide)) (ss_next (by decide)) (by decide)) (ss_seq [.lo, (.ow .l1), .un, .un] (ss_setO (se_lst rfl sea_nil) (by decide) (by decide)) (ss_seq [.lo, (.ow .l1), .un, .un] (ss_forS [.lo, (.ow .l1), .un, .un] (se_var_lo (by rfl)) (by decide) (by decide) (by decide) (ss_seq [.lo, (.ow .l1), .pu, .un] (ss_if (set_T (se_op ops_sgN (se_var_pu (by rfl)) se_str)) (ss_retF (k := .n1) se_nonN (by decide) (by decide)) (ss_next (by decide)) (by decide)) (ss_seq [.lo, (.ow .l1), .pu, .pu] (ss_set rfl (se_find se_str (se_var_pu (by rfl))) (by decide) (by decide)) (ss_app (mo := (.ow .l1)) (by rfl) (Or.inl rfl) rfl (se_ix (se_lst rfl (sea_cons (se_op ops_add (se_var_pu (by rfl)) se_int) (sea_cons (se_op ops_I0 se_int (se_var_pu (by rfl))) sea_nil))) (se_op ops_Ic (se_var_pu (by rfl)) se_int)) (by decide) (by decide))))) (ss_seq [.lo, (.ow .l1), .un, .un] (ss_if (set_T (se_op ops_eq (se_var_lo (by rfl)) se_str)) (ss_retF (k := .n1) se_nonN (by decide) (by decide)) (ss_next (by decide)) (by decide)) (ss_retON (by rfl) (by decide))))))
abbrev N_law_letters : List Str := [("_law_text" : Str), ("_law_way" : Str), ("_law_sign_here" : Str), ("_law_at" : Str)]
abbrev P_law_letters : List Str := [("_law_text" : Str)]

/-! ## read_way -/
noncomputable def g_read_way_b1 : List D → Option Out := (sIf (eT (eOp dSgI (eVar 2) (eC (.str ("abcde" : Str))))) (sApp 1 (eOp dAdd (eFind (eC (.str ("abcde" : Str))) (eVar 2)) (eC (.int 1)))) (sIf (eT (eOp dSgI (eVar 2) (eC (.str ("ABCDE" : Str))))) (sApp 1 (eOp dSub (eUn dNeg (eFind (eC (.str ("ABCDE" : Str))) (eVar 2))) (eC (.int 1)))) (sRaise "NoWay")))
noncomputable def g_read_way_r4 : List D → Option Out := (sRet (eVar 1))
noncomputable def g_read_way_r3 : List D → Option Out := (sSeq (sForS 2 (eVar 0) g_read_way_b1) g_read_way_r4)
noncomputable def g_read_way_r2 : List D → Option Out := (sSeq (sSet 1 (eLst [])) g_read_way_r3)
noncomputable def g_read_way_r1 : List D → Option Out := (sSeq (sIf (eT (eOp dEq (eVar 0) (eC (.str ("" : Str))))) (sRaise "NoWay") sNext) g_read_way_r2)
noncomputable def g_read_way : List D → Option Out := (sSeq (sIf (eT (eOp dEq (eVar 0) (eC (.str ("." : Str))))) (sRet (eLst [])) sNext) g_read_way_r1)
noncomputable def G_read_way : List D → Option Out := fnOf g_read_way 3 false
noncomputable def t_read_way (cl : Nv) (W : WX) : TS := (tSeq (tIfS (tTest (tOp (rEqD cl.K) (tVar 0) (tC (.str ("." : Str))))) (tRet (tLst tNil)) tNext) (tSeq (tIfS (tTest (tOp (rEqD cl.K) (tVar 0) (tC (.str ("" : Str))))) (tRaise W (cl "NoWay")) tNext) (tSeq (tAsg (tLst tNil) (gName 1)) (tSeq (tFor (iStr (tVar 0)) (gName 2) (tIfS (tTest (tOp rSgI (tVar 2) (tC (.str ("abcde" : Str))))) (tDrop (tBM cl.K "list" rAppend (tVar 1) (tCons (tOp (rAddA cl.K) (tM1 rFnd (tC (.str ("abcde" : Str))) (tVar 2)) (tC (.int 1))) tNil))) (tIfS (tTest (tOp rSgI (tVar 2) (tC (.str ("ABCDE" : Str))))) (tDrop (tBM cl.K "list" rAppend (tVar 1) (tCons (tOp (rI0 fun i j => .int (i - j)) (tUn (rU fun i => .int (-i)) (tM1 rFnd (tC (.str ("ABCDE" : Str))) (tVar 2))) (tC (.int 1))) tNil))) (tRaise W (cl "NoWay"))))) (tRet (tVar 1))))))
theorem ss_read_way (cl : Nv) (W : WX) : SS cl W [.lo, .un, .un] (mdOf [.lo] 3 (.fr .l1)) (t_read_way cl W) g_read_way := (ss_seq [.lo, .un, .un] (ss_if (set_T (se_op ops_eq (se_var_lo (by rfl)) se_str)) (ss_retF (se_lst rfl sea_nil) (by decide) (by decide)) (ss_next (by decide)) (by decide)) (ss_seq [.lo, .un, .un] (ss_if (set_T (se_op ops_eq (se_var_lo (by rfl)) se_str)) (ss_raise (by decide)) (ss_next (by decide)) (by decide)) (ss_seq [.lo, (.ow .l1), .un] (ss_setO (se_lst rfl sea_nil) (by decide) (by decide)) (ss_seq [.lo, (.ow .l1), .un] (ss_forS [.lo, (.ow .l1), .un] (se_var_lo (by rfl)) (by decide) (by decide) (by decide) (ss_if (set_T (se_op ops_sgI (se_var_pu (by rfl)) se_str)) (ss_app (mo := (.ow .l1)) (by rfl) (Or.inl rfl) rfl (se_op ops_add (se_find se_str (se_var_pu (by rfl))) se_int) (by decide) (by decide)) (ss_if (set_T (se_op ops_sgI (se_var_pu (by rfl)) se_str)) (ss_app (mo := (.ow .l1)) (by rfl) (Or.inl rfl) rfl (se_op ops_I0 (se_un uns_neg (se_find se_str (se_var_pu (by rfl)))) se_int) (by decide) (by decide)) (ss_raise (by decide)) (by decide)) (by decide))) (ss_retO (k := .l1) (by rfl) (by decide))))))
abbrev N_read_way : List Str := [("text" : Str), ("way" : Str), ("sign" : Str)]
abbrev P_read_way : List Str := [("text" : Str)]

/-! ## _law_is_way -/
noncomputable def g_law_is_way_b1 : List D → Option Out := (sIf (eOr (eNot (eT (eUn (dIsi "int") (eVar 1)))) (eT (eUn (dIsi "bool") (eVar 1)))) (sRet (eC (.bl false))) sNext)
noncomputable def g_law_is_way_r2 : List D → Option Out := (sRet (eC (.bl true)))
noncomputable def g_law_is_way_r1 : List D → Option Out := (sSeq (sFor 1 (eVar 0) g_law_is_way_b1) g_law_is_way_r2)
noncomputable def g_law_is_way : List D → Option Out := (sSeq (sIf (eNot (eT (eUn (dIsi "list") (eVar 0)))) (sRet (eC (.bl false))) sNext) g_law_is_way_r1)
noncomputable def G_law_is_way : List D → Option Out := fnOf g_law_is_way 2 true
noncomputable def t_law_is_way (cl : Nv) : TS := (tSeq (tIfS (tNot (tB (tIsi cl.K "list" (tVar 0)))) (tRet (tC (.bl false))) tNext) (tSeq (tFor (iList cl.K (tVar 0)) (gName 1) (tIfS (tOr (tNot (tB (tIsi cl.K "int" (tVar 1)))) (tB (tIsi cl.K "bool" (tVar 1)))) (tRet (tC (.bl false))) tNext)) (tRet (tC (.bl true)))))
theorem ss_law_is_way (cl : Nv) (W : WX) : SS cl W [.lo, .un] (mdOf [.lo] 2 .pu) (t_law_is_way cl) g_law_is_way := (ss_seq [.lo, .un] (ss_if (set_not (set_B (se_isi rfl (se_var_lo (by rfl))))) (ss_ret rfl se_bl (by decide) (by decide)) (ss_next (by decide)) (by decide)) (ss_seq [.lo, .un] (ss_forLo [.lo, .un] rfl (se_var_lo (by rfl)) (by decide) (by decide) (by decide) (ss_if (set_or (set_not (set_B (se_isi rfl (se_var_lo (by rfl))))) (set_B (se_isi rfl (se_var_lo (by rfl))))) (ss_ret rfl se_bl (by decide) (by decide)) (ss_next (by decide)) (by decide))) (ss_ret rfl se_bl (by decide) (by decide))))
abbrev N_law_is_way : List Str := [("_law_found" : Str), ("_law_one" : Str)]
abbrev P_law_is_way : List Str := [("_law_found" : Str)]

/-! ## _law_due -/
noncomputable def g_law_due_r1 : List D → Option Out := (sRet (eOp dAdd (eLst [(eC (.bl true))]) (eLc 2 (eOp dAdd (eVar 1) (eLst [(eC (.str ("Full" : Str)))])) tT (eOp dEq (eVar 2) (eVar 0)))))
noncomputable def g_law_due : List D → Option Out := (sSeq (sSet 1 (eLst [(eC (.str ("NoKind" : Str))), (eC (.str ("NoWay" : Str))), (eC (.str ("NoMark" : Str))), (eC (.str ("NoEntry" : Str))), (eC (.str ("NoHold" : Str))), (eC (.str ("NoChamber" : Str))), (eC (.str ("NoChart" : Str))), (eC (.str ("NoCave" : Str))), (eC (.str ("NoHome" : Str))), (eC (.str ("Barred" : Str)))])) g_law_due_r1)
noncomputable def G_law_due : List D → Option Out := fnOf g_law_due 3 true
noncomputable def t_law_due (cl : Nv) : TS := (tSeq (tAsg (tLst (tCons (tC (.str ("NoKind" : Str))) (tCons (tC (.str ("NoWay" : Str))) (tCons (tC (.str ("NoMark" : Str))) (tCons (tC (.str ("NoEntry" : Str))) (tCons (tC (.str ("NoHold" : Str))) (tCons (tC (.str ("NoChamber" : Str))) (tCons (tC (.str ("NoChart" : Str))) (tCons (tC (.str ("NoCave" : Str))) (tCons (tC (.str ("NoHome" : Str))) (tCons (tC (.str ("Barred" : Str))) tNil))))))))))) (gName 1)) (tRet (tOp (rAddA cl.K) (tLst (tCons (tC (.bl true)) tNil)) (tLc (iList cl.K (tOp (rAddA cl.K) (tVar 1) (tLst (tCons (tC (.str ("Full" : Str))) tNil)))) (gName 2) tYes (tOp (rEqD cl.K) (tVar 2) (tVar 0)) [2]))))
theorem ss_law_due (cl : Nv) (W : WX) : SS cl W [.lo, .un, .un] (mdOf [.lo] 3 .pu) (t_law_due cl) g_law_due := (ss_seq [.lo, .pu, .un] (ss_set rfl (se_lst rfl (sea_cons se_str (sea_cons se_str (sea_cons se_str (sea_cons se_str (sea_cons se_str (sea_cons se_str (sea_cons se_str (sea_cons se_str (sea_cons se_str (sea_cons se_str sea_nil))))))))))) (by decide) (by decide)) (ss_ret rfl (se_op ops_add (se_lst rfl (sea_cons se_bl sea_nil)) (se_lc rfl (se_op ops_add (se_var_pu (by rfl)) (se_lst rfl (sea_cons se_str sea_nil))) set_yes (se_op ops_eq (se_var_pu (by rfl)) (se_var_lo (by rfl))) rfl)) (by decide) (by decide)))
abbrev N_law_due : List Str := [("_law_want" : Str), ("_law_names" : Str), ("_law_name" : Str)]
abbrev P_law_due : List Str := [("_law_want" : Str)]

/-! ## _law_sign -/
noncomputable def g_law_sign_r2 : List D → Option Out := (sRet (eOp dIx (eVar 1) (eOp dMod (eVar 0) (eC (.int 95)))))
noncomputable def g_law_sign_r1 : List D → Option Out := (sSeq (sSet 1 (eOp dAdd (eVar 1) (eC (.str ("abcdefghijklmnopqrstuvwxyz{|}~\n" : Str))))) g_law_sign_r2)
noncomputable def g_law_sign : List D → Option Out := (sSeq (sSet 1 (eC (.str (" !\"#$&'()*+,-./0123456789:;<=>?@ABCDEFGHIJKLMNOPQRSTUVWXYZ[\\]^_`" : Str)))) g_law_sign_r1)
noncomputable def G_law_sign : List D → Option Out := fnOf g_law_sign 2 true
noncomputable def t_law_sign (cl : Nv) : TS := (tSeq (tAsg (tC (.str (" !\"#$&'()*+,-./0123456789:;<=>?@ABCDEFGHIJKLMNOPQRSTUVWXYZ[\\]^_`" : Str))) (gName 1)) (tSeq (tAsg (tOp (rAddA cl.K) (tVar 1) (tC (.str ("abcdefghijklmnopqrstuvwxyz{|}~\n" : Str)))) (gName 1)) (tRet (tOp (rIx cl.K) (tVar 1) (tOp (rI (fun _ j => 0 < j) fun i j => .int (i % j)) (tVar 0) (tC (.int 95)))))))
theorem ss_law_sign (cl : Nv) (W : WX) : SS cl W [.lo, .un] (mdOf [.lo] 2 .pu) (t_law_sign cl) g_law_sign := (ss_seq [.lo, .pu] (ss_set rfl se_str (by decide) (by decide)) (ss_seq [.lo, .pu] (ss_set rfl (se_op ops_add (se_var_pu (by rfl)) se_str) (by decide) (by decide)) (ss_ret rfl (se_ix (se_var_pu (by rfl)) (se_op ops_Ic (se_var_lo (by rfl)) se_int)) (by decide) (by decide))))
abbrev N_law_sign : List Str := [("_law_cell" : Str), ("_law_some" : Str)]
abbrev P_law_sign : List Str := [("_law_cell" : Str)]

/-! ## law -/
noncomputable def g_law_r10 : List D → Option Out := (sRet (eAndV (eOp dEq (eVar 7) (eLst [])) (eAndV (eFnN G_law_is_way [(eVar 6)]) (eOp dEq (eVar 6) (eVar 5)))))
noncomputable def g_law_r9 : List D → Option Out := (sSeq (sIf (eT (eOp dIsN (eVar 5) (eC .non))) (sRet (eOp dEq (eVar 7) (eFnN G_law_due [(eC (.str ("NoWay" : Str)))]))) sNext) g_law_r10)
noncomputable def g_law_r8 : List D → Option Out := (sSeq (sTryBad 7 ["NoWay"] (sSet 6 (eFn G_read_way [(eVar 2)]))) g_law_r9)
noncomputable def g_law_r7 : List D → Option Out := (sSeq (sSet 7 (eLst [])) g_law_r8)
noncomputable def g_law_r6 : List D → Option Out := (sSeq (sSet 6 (eC .non)) g_law_r7)
noncomputable def g_law_r5 : List D → Option Out := (sSeq (sSet 5 (eFnN G_law_letters [(eVar 2)])) g_law_r6)
noncomputable def g_law_r4 : List D → Option Out := (sSeq (sIf (eT (eOp dEq (eOp dMod (eOp dIx (eVar 1) (eC (.int 4))) (eC (.int 8))) (eC (.int 2)))) (sSet 2 (eC (.str ("" : Str)))) sNext) g_law_r5)
noncomputable def g_law_r3 : List D → Option Out := (sSeq (sIf (eT (eOp dEq (eOp dMod (eOp dIx (eVar 1) (eC (.int 4))) (eC (.int 8))) (eC (.int 1)))) (sSet 2 (eC (.str ("." : Str)))) sNext) g_law_r4)
noncomputable def g_law_r2 : List D → Option Out := (sSeq (sIf (eT (eOp dEq (eOp dMod (eOp dIx (eVar 1) (eC (.int 1))) (eC (.int 2))) (eC (.int 1)))) (sSeq (sSet 4 (eOp dMod (eOp dIx (eVar 1) (eC (.int 2))) (eOp dAdd (eCall dLen [(eVar 2)]) (eC (.int 1))))) (sSet 2 (eOp dAdd (eOp dAdd (eSlS (eVar 2) none (some (eVar 4))) (eFnN G_law_sign [(eOp dIx (eVar 1) (eC (.int 3)))])) (eSlS (eVar 2) (some (eVar 4)) none)))) sNext) g_law_r3)
noncomputable def g_law_r1 : List D → Option Out := (sSeq (sSet 2 (eJoin (eC (.str ("" : Str))) (eLc 3 (eSl (eVar 1) (some (eC (.int 10))) (some (eOp dAdd (eC (.int 10)) (eOp dMod (eOp dIx (eVar 1) (eC (.int 0))) (eC (.int 13)))))) tT (eOp dIx (eC (.str ("abcdeABCDE" : Str))) (eOp dMod (eVar 3) (eC (.int 10))))))) g_law_r2)
noncomputable def g_law : List D → Option Out := (sSeq (sSet 1 (fun env => bd (lift env[0]?) fun s => bd ((eC (.int 30)) env) fun y => ofOutN (G_law_numbers [s, y]))) g_law_r1)
noncomputable def G_law : List D → Option Out := fnOf g_law 9 true
noncomputable def t_law (cl : Nv) : TS := (tSeq (tAsg (tCall (spOf cl [.sc, .lo] (.fr .l1) G_law_numbers) [] E0 (tCons (tVar 0) (tCons (tC (.int 30)) tNil))) (gName 1)) (tSeq (tAsg (tM1 (rJn cl.K) (tC (.str ("" : Str))) (tLc (iList cl.K (tSl (rSlL cl.K) (tVar 1) (tPart (tC (.int 10))) (tPart (tOp (rAddA cl.K) (tC (.int 10)) (tOp (rI (fun _ j => 0 < j) fun i j => .int (i % j)) (tOp (rIx cl.K) (tVar 1) (tC (.int 0))) (tC (.int 13))))))) (gName 3) tYes (tOp (rIx cl.K) (tC (.str ("abcdeABCDE" : Str))) (tOp (rI (fun _ j => 0 < j) fun i j => .int (i % j)) (tVar 3) (tC (.int 10)))) [3])) (gName 2)) (tSeq (tIfS (tTest (tOp (rEqD cl.K) (tOp (rI (fun _ j => 0 < j) fun i j => .int (i % j)) (tOp (rIx cl.K) (tVar 1) (tC (.int 1))) (tC (.int 2))) (tC (.int 1)))) (tSeq (tAsg (tOp (rI (fun _ j => 0 < j) fun i j => .int (i % j)) (tOp (rIx cl.K) (tVar 1) (tC (.int 2))) (tOp (rAddA cl.K) (tCB (rLenA cl.K) (tCons (tVar 2) tNil)) (tC (.int 1)))) (gName 4)) (tAsg (tOp (rAddA cl.K) (tOp (rAddA cl.K) (tSl rSlS (tVar 2) tNoPart (tPart (tVar 4))) (tCall (spOf cl [.lo] .pu G_law_sign) [] E0 (tCons (tOp (rIx cl.K) (tVar 1) (tC (.int 3))) tNil))) (tSl rSlS (tVar 2) (tPart (tVar 4)) tNoPart)) (gName 2))) tNext) (tSeq (tIfS (tTest (tOp (rEqD cl.K) (tOp (rI (fun _ j => 0 < j) fun i j => .int (i % j)) (tOp (rIx cl.K) (tVar 1) (tC (.int 4))) (tC (.int 8))) (tC (.int 1)))) (tAsg (tC (.str ("." : Str))) (gName 2)) tNext) (tSeq (tIfS (tTest (tOp (rEqD cl.K) (tOp (rI (fun _ j => 0 < j) fun i j => .int (i % j)) (tOp (rIx cl.K) (tVar 1) (tC (.int 4))) (tC (.int 8))) (tC (.int 2)))) (tAsg (tC (.str ("" : Str))) (gName 2)) tNext) (tSeq (tAsg (tCall (spOf cl [.lo] (.fr .n1) G_law_letters) [] E0 (tCons (tVar 2) tNil)) (gName 5)) (tSeq (tAsg (tC .non) (gName 6)) (tSeq (tAsg (tLst tNil) (gName 7)) (tSeq (tTryBad cl ["NoWay"] 8 7 (fun W => (tAsg (tCallS (spOf cl [.lo] (.fr .l1) G_read_way) (WE W) (tCons (tVar 2) tNil)) (gName 6)))) (tSeq (tIfS (tTest (tOp Mv.rIsN (tVar 5) (tC .non))) (tRet (tOp (rEqD cl.K) (tVar 7) (tCall (spOf cl [.lo] .pu G_law_due) [] E0 (tCons (tC (.str ("NoWay" : Str))) tNil)))) tNext) (tRet (tAndV (tOp (rEqD cl.K) (tVar 7) (tLst tNil)) (tAndV (tCall (spOf cl [.lo] .pu G_law_is_way) [] E0 (tCons (tVar 6) tNil)) (tOp (rEqD cl.K) (tVar 6) (tVar 5)))))))))))))))
theorem ss_law (cl : Nv) (W : WX) (F : ∀ x ∈ (["NoWay"] : List String), ExF cl x) : SS cl W [.sc, .un, .un, .un, .un, .un, .un, .un, .un] (mdOf [.sc] 9 .pu) (t_law cl) g_law := (ss_seq [.sc, .pu, .un, .un, .un, .un, .un, .un, .un] (ss_set rfl (se_fnSc (rc := (.fr .l1)) (by rfl) se_int) (by decide) (by decide)) (ss_seq [.sc, .pu, .pu, .un, .un, .un, .un, .un, .un] (ss_set rfl (se_join se_str (se_lc rfl (se_sl (se_var_pu (by rfl)) (seo_some se_int) (seo_some (se_op ops_add se_int (se_op ops_Ic (se_ix (se_var_pu (by rfl)) se_int) se_int)))) set_yes (se_ix se_str (se_op ops_Ic (se_var_pu (by rfl)) se_int)) rfl)) (by decide) (by decide)) (ss_seq [.sc, .pu, .pu, .un, .un, .un, .un, .un, .un] (ss_if (set_T (se_op ops_eq (se_op ops_Ic (se_ix (se_var_pu (by rfl)) se_int) se_int) se_int)) (ss_seq [.sc, .pu, .pu, .un, .pu, .un, .un, .un, .un] (ss_set rfl (se_op ops_Ic (se_ix (se_var_pu (by rfl)) se_int) (se_op ops_add (se_call0 ca_len (sea_cons (se_var_pu (by rfl)) sea_nil)) se_int)) (by decide) (by decide)) (ss_set rfl (se_op ops_add (se_op ops_add (se_slS (se_var_pu (by rfl)) seo_none (seo_some (se_var_pu (by rfl)))) (se_fnN (pm := [.lo]) (rc := .pu) rfl (sea_cons (se_ix (se_var_pu (by rfl)) se_int) sea_nil))) (se_slS (se_var_pu (by rfl)) (seo_some (se_var_pu (by rfl))) seo_none)) (by decide) (by decide))) (ss_next (by decide)) (by decide)) (ss_seq [.sc, .pu, .pu, .un, .un, .un, .un, .un, .un] (ss_if (set_T (se_op ops_eq (se_op ops_Ic (se_ix (se_var_pu (by rfl)) se_int) se_int) se_int)) (ss_set rfl se_str (by decide) (by decide)) (ss_next (by decide)) (by decide)) (ss_seq [.sc, .pu, .pu, .un, .un, .un, .un, .un, .un] (ss_if (set_T (se_op ops_eq (se_op ops_Ic (se_ix (se_var_pu (by rfl)) se_int) se_int) se_int)) (ss_set rfl se_str (by decide) (by decide)) (ss_next (by decide)) (by decide)) (ss_seq [.sc, .pu, .pu, .un, .un, .pu, .un, .un, .un] (ss_set rfl (se_fnN (pm := [.lo]) (rc := (.fr .n1)) rfl (sea_cons (se_var_pu (by rfl)) sea_nil)) (by decide) (by decide)) (ss_seq [.sc, .pu, .pu, .un, .un, .pu, .pu, .un, .un] (ss_set rfl se_non (by decide) (by decide)) (ss_seq [.sc, .pu, .pu, .un, .un, .pu, .pu, .pu, .un] (ss_set rfl (se_lst rfl sea_nil) (by decide) (by decide)) (ss_seq [.sc, .pu, .pu, .un, .un, .pu, .pu, .pu, .un] (ss_tryBad [.sc, .pu, .pu, .un, .un, .pu, .pu, .pu, .un] (by rfl) (by decide) (by decide) (by decide) (by rfl) F (fun W => (ss_set rfl (se_fn (pm := [.lo]) (rc := (.fr .l1)) rfl (sea_cons (se_var_pu (by rfl)) sea_nil)) (by decide) (by decide)))) (ss_seq [.sc, .pu, .pu, .un, .un, .pu, .pu, .pu, .un] (ss_if (set_T (se_op ops_isN (se_var_pu (by rfl)) se_non)) (ss_ret rfl (se_op ops_eq (se_var_pu (by rfl)) (se_fnN (pm := [.lo]) (rc := .pu) rfl (sea_cons se_str sea_nil))) (by decide) (by decide)) (ss_next (by decide)) (by decide)) (ss_ret rfl (se_andV (se_op ops_eq (se_var_pu (by rfl)) (se_lst rfl sea_nil)) (se_andV (se_fnN (pm := [.lo]) (rc := .pu) rfl (sea_cons (se_var_pu (by rfl)) sea_nil)) (se_op ops_eq (se_var_pu (by rfl)) (se_var_pu (by rfl))))) (by decide) (by decide))))))))))))
abbrev N_law : List Str := [("_law_script" : Str), ("_law_numbers_here" : Str), ("_law_text" : Str), ("_law_d" : Str), ("_law_at" : Str), ("_law_due_here" : Str), ("_law_found" : Str), ("_law_bad" : Str), ("e" : Str)]
abbrev P_law : List Str := [("_law_script" : Str)]

end Lw

namespace Lw
open PySem L2 Mv

theorem dIsi_list {l : List D} : dIsi "list" (.lst l) = some (.bl true) := rfl
theorem dIsi_int {i : Int} : dIsi "int" (.int i) = some (.bl true) := rfl
theorem dIsi_boolint {i : Int} : dIsi "bool" (.int i) = some (.bl false) := rfl
theorem dEq_nil {a : List Int} : dEq (iL a) (.lst []) = some (.bl (decide (a = []))) := dEq_ints (b := [])
theorem dNe_nil {a : List Int} : dNe (iL a) (.lst []) = some (.bl (!decide (a = []))) := dNe_ints (b := [])
theorem cutI_at (l : List Int) {i : Int} (h0 : 0 ≤ i) (h : i ≤ l.length) : cutI l none (some i) = l.take i.toNat ∧ cutI l (some i) none = l.drop i.toNat := by
  have e : i = ((i.toNat : Nat) : Int) := by omega
  have h2 : i.toNat ≤ l.length := by omega
  have e1 : HT.sIx l.length l.length (some i) = i.toNat := by rw [e, HT.sIx_nat]; omega
  have e2 : HT.sIx l.length 0 (some i) = i.toNat := by rw [e, HT.sIx_nat]; omega
  refine ⟨?_, ?_⟩
  · show (l.drop 0).take (HT.sIx l.length l.length (some i) - 0) = _
    rw [e1, List.drop_zero, Nat.sub_zero]
  · show (l.drop (HT.sIx l.length 0 (some i))).take (l.length - HT.sIx l.length 0 (some i)) = _
    rw [e2, List.take_of_length_le (l := l.drop _) (by rw [List.length_drop] <;> omega)]
theorem dTup_len2 {a b : D} : dLen [.tup [a, b]] = some (.int 2) := rfl
theorem dIsi_tup {l : List D} : dIsi "tuple" (.tup l) = some (.bl true) := rfl
theorem dIsi_str {s : Str} : dIsi "str" (.str s) = some (.bl true) := rfl
theorem shaped_str {s : Str} (h : PyData.strOk s = true) : SeqAt.shaped (toPy (.str s)) = true := by simp [toPy, SeqAt.shaped, PyData.canLay0, PyData.depth, h]
theorem dEq_str {a b : Str} (ha : PyData.strOk a = true) (hb : PyData.strOk b = true) : dEq (.str a) (.str b) = some (.bl (decide (a = b))) := by
  unfold dEq
  rw [if_pos ⟨shaped_str ha, shaped_str hb⟩]
  show some (D.bl (a == b)) = _
  rw [Bool.beq_eq_decide_eq]
theorem dNe_str {a b : Str} (ha : PyData.strOk a = true) (hb : PyData.strOk b = true) : dNe (.str a) (.str b) = some (.bl (!decide (a = b))) := by
  unfold dNe
  rw [if_pos ⟨shaped_str ha, shaped_str hb⟩]
  show some (D.bl (!(a == b))) = _
  rw [Bool.beq_eq_decide_eq]
local macro_rules | `(tactic| walk_at "ev") => `(tactic| simp (disch := omega) only [sSeq, sSet, sFor, sRng, eLc, eLcR, eFn, sX, sIf, sRet, sNext, sBrk, sCnt, sDrop, sApp, eLcV, eTup, sUnp, setAll, sAppF, sAppN, sAppN_eq, dEq_nil, dNe_nil, dIsi_tup, dIsi_str, eFind, eJoin, dTup_len2, sPop, sPopTo, sAug, eVar, eC, eOp, eUn, eCall, eArgs, eT, eAnd, eOr, eNot, eIf, eAndV, eOrV, eImm, eSl, eOpt, toI, eLst, eTup, eFnN, bd_ok, bd_ex, bd_none, lift_some, lift_none, List.getElem?_cons_zero, List.getElem?_cons_succ, List.set_cons_zero, List.set_cons_succ, dAdd_int, dSub_int, dNeg_int, dLt_int, dLe_int, dGt_int, dGe_int, dNot_bl, dIsi_list, dIsi_int, dIsi_boolint, dEq_int, dNe_int, dEq_ints, dNe_ints, dLen_ints, dList_ints, dRev_ints, dCut_ints, imm_int, imm_bl, imm_str, imm_non, sX_ok, sX_ex, Bool.false_eq_true, if_true, if_false, ite_true, ite_false, reduceIte, Bool.not_true, Bool.not_false, decide_true, decide_false, Option.map_some, List.map_cons, List.map_nil, dMul_ok, dMod_ok, dDiv_ok, dPow_ok, dIx_int, dAdd_ints, eq_self, Int.reduceToNat, Int.reduceLE, Int.reduceLT, Int.reduceMul, Int.reduceEq, Nat.reduceLeDiff, Nat.reduceLT, Nat.reduceAdd, Nat.reduceSub, Nat.reduceMul, List.length_nil, Nat.zero_le, and_self, and_true, true_and, Int.reducePow, Int.reduceSub, Int.reduceNeg, Int.reduceAdd, *])
/-! ### the law's numbers -/
abbrev Dr (l : List Int) : Prop := ∀ x ∈ l, 0 ≤ x ∧ x < 1000
theorem Dr.app {l : List Int} {x : Int} (h : Dr l) (h1 : 0 ≤ x) (h2 : x < 1000) : Dr (l ++ [x]) := fun y hy => by
  rcases List.mem_append.mp hy with q | q
  · exact h y q
  · rw [List.mem_singleton.mp q]; exact ⟨h1, h2⟩
theorem Dr.get {l : List Int} (h : Dr l) (k : Nat) : 0 ≤ l.getD k 0 ∧ l.getD k 0 < 1000 := by
  by_cases hk : k < l.length
  · have e : l.getD k 0 = l[k] := by simp [List.getD_eq_getElem?_getD, hk]
    rw [e]
    exact h _ (List.getElem_mem hk)
  · have e : l.getD k 0 = 0 := by simp [List.getD_eq_getElem?_getD, List.getElem?_eq_none (Nat.le_of_not_lt hk)]
    rw [e]
    exact ⟨by decide, by decide⟩
theorem mod1000 (x : Int) : 0 ≤ x % 1000 ∧ x % 1000 < 1000 := ⟨Int.emod_nonneg _ (by decide), Int.emod_lt_of_pos _ (by decide)⟩
theorem app_ints {l : List Int} {x : Int} : D.lst (l.map D.int ++ [D.int x]) = iL (l ++ [x]) := by simp
theorem num_b1 {s m sd c k : D} {row : List Int} {r : Int} (h : row.length < 100000) (hd : Dr row) : ∃ row' r', g_law_numbers_b1 [s, m, iL row, sd, c, .int r, k] = some (.nx [s, m, iL row', sd, c, .int r', k]) ∧ row'.length ≤ row.length + 1 ∧ Dr row' := by
  unfold g_law_numbers_b1
  have hl : (row.map D.int).length < LIM := by simp [LIM]; omega
  by_cases hr : 0 < r
  · refine ⟨row ++ [r % 1000], r / 1000, ?_, by simp, hd.app (mod1000 r).1 (mod1000 r).2⟩
    walk_at "ev"
    rw [app_ints]
  · refine ⟨row, r, ?_, by simp, hd⟩
    walk_at "ev"
theorem num_b2 {s m r k : D} {row : List Int} {sd c : Int} (h : row.length < 50000) (hd : Dr row) (hs : 0 ≤ sd ∧ sd < 2147483647) : ∃ row' sd' r' k', g_law_numbers_b2 [s, m, iL row, .int sd, .int c, r, k] = some (.nx [s, m, iL row', .int sd', .int c, r', k']) ∧ row'.length ≤ row.length + 61 ∧ Dr row' ∧ 0 ≤ sd' ∧ sd' < 2147483647 := by
  have hl : (row.map D.int).length < LIM := by simp [LIM]; omega
  have hsd : 0 ≤ (sd * 48271 + c % 1000003 + 11) % 2147483647 ∧ (sd * 48271 + c % 1000003 + 11) % 2147483647 < 2147483647 := ⟨Int.emod_nonneg _ (by decide), Int.emod_lt_of_pos _ (by decide)⟩
  generalize hsd' : (sd * 48271 + c % 1000003 + 11) % 2147483647 = sd' at hsd
  -- the inner loop
  have inner : ∀ (row1 : List Int) (r1 : Int), row1.length ≤ row.length + 1 → Dr row1 → ∃ e, forF 6 g_law_numbers_b1 (rngL 0 60) [s, m, iL row1, .int sd', .int c, .int r1, k] = some (.nx e) ∧ ∃ row' r' k', e = [s, m, iL row', .int sd', .int c, .int r', k'] ∧ row'.length ≤ row1.length + 60 ∧ Dr row' := by
    intro row1 r1 h1 d1
    obtain ⟨e, q1, q2⟩ := forR_inv (i := 6) (b := g_law_numbers_b1) (lo := 0) (n := 60) (fun j env => ∃ row' r' k', env = [s, m, iL row', .int sd', .int c, .int r', k'] ∧ row'.length ≤ row1.length + j ∧ Dr row') (env := [s, m, iL row1, .int sd', .int c, .int r1, k]) ⟨row1, r1, k, rfl, Nat.le_refl _, d1⟩ (by
      rintro j env hj ⟨row', r', k', rfl, hl', hd'⟩
      obtain ⟨row2, r2, b1, b2, b3⟩ := num_b1 (s := s) (m := m) (sd := .int sd') (c := .int c) (k := .int (0 + (j : Int))) (row := row') (r := r') (by omega) hd'
      exact ⟨_, .inl b1, row2, r2, _, rfl, by omega, b3⟩)
    exact ⟨e, q1, q2⟩
  unfold g_law_numbers_b2
  by_cases hc : c - 1000000000000000000 < 0
  · obtain ⟨e, q1, row', r', k', rfl, q2, q3⟩ := inner (row ++ [c % 1000]) (c - 1000000000000000000) (by simp) (hd.app (mod1000 c).1 (mod1000 c).2)
    rw [← app_ints] at q1
    refine ⟨row', sd', .int r', k', ?_, by simp at q2; omega, q3, hsd.1, hsd.2⟩
    walk_at "ev"
  · obtain ⟨e, q1, row', r', k', rfl, q2, q3⟩ := inner row (c - 1000000000000000000) (by simp) hd
    refine ⟨row', sd', .int r', k', ?_, by omega, q3, hsd.1, hsd.2⟩
    walk_at "ev"
/-- the numbers drawn -/
theorem numbers_eq (ns : List Int) {many : Nat} (hm : many ≤ 10000) : ∃ row e, G_law_numbers [iL ns, .int (many : Int)] = some (.rt (iL row) e) ∧ row.length = many ∧ Dr row := by
  let cs := cutI ns none (some 63)
  have hcs : cs.length ≤ 63 := by
    show ((ns.drop 0).take (HT.sIx ns.length ns.length (some 63) - 0)).length ≤ 63
    have : HT.sIx ns.length ns.length (some (63 : Int)) = min 63 ns.length := HT.sIx_nat _ _ 63
    rw [this, List.length_take]
    omega
  have lp : ∃ e, forF 4 g_law_numbers_b2 (cs.map D.int) [iL ns, .int many, .lst [], .int 17, .non, .non, .non] = some (.nx e) ∧ ∃ row sd c r k, e = [iL ns, .int many, iL row, .int sd, c, r, k] ∧ row.length ≤ 61 * cs.length ∧ Dr row ∧ 0 ≤ sd ∧ sd < 2147483647 := by
    obtain ⟨e, h1, h2⟩ := forF_inv (emb := D.int) (i := 4) (b := g_law_numbers_b2) (l := cs) (fun pre env => ∃ row sd c r k, env = [iL ns, .int many, iL row, .int sd, c, r, k] ∧ row.length ≤ 61 * pre.length ∧ Dr row ∧ 0 ≤ sd ∧ sd < 2147483647)
      (env := [iL ns, .int many, .lst [], .int 17, .non, .non, .non]) ⟨[], 17, .non, .non, .non, rfl, by simp, fun x hx => absurd hx (by simp), by decide, by decide⟩ (by
      rintro pre x post env hl ⟨row, sd, c, r, k, rfl, q1, q2, q3, q4⟩
      have h3 := congrArg List.length hl
      simp only [List.length_append, List.length_cons] at h3
      obtain ⟨row', sd', r', k', b1, b2, b3, b4, b5⟩ := num_b2 (s := iL ns) (m := .int many) (r := r) (k := k) (row := row) (sd := sd) (c := x) (by omega) q2 ⟨q3, q4⟩
      exact ⟨_, .inl b1, row', sd', _, r', k', rfl, by simp; omega, b3, b4, b5⟩)
    exact ⟨e, h1, h2⟩
  obtain ⟨e, h1, row, sd, c, r, k, rfl, q1, q2, q3, q4⟩ := lp
  -- the while
  have wl : ∃ m e, sWhile (eT (eOp dLt (eCall dLen [(eVar 2)]) (eVar 1))) g_law_numbers_b3 [iL ns, .int many, iL row, .int sd, c, r, k] = some (.nx e) ∧ (∃ row sd, e = [iL ns, .int many, iL row, .int sd, c, r, k] ∧ m = many - row.length ∧ row.length ≤ 20000 ∧ Dr row ∧ 0 ≤ sd ∧ sd < 2147483647) ∧ (eT (eOp dLt (eCall dLen [(eVar 2)]) (eVar 1))) e = some (.ok false) := by
    refine wh_inv (fun m e => ∃ row sd, e = [iL ns, .int many, iL row, .int sd, c, r, k] ∧ m = many - row.length ∧ row.length ≤ 20000 ∧ Dr row ∧ 0 ≤ sd ∧ sd < 2147483647) (n := many - row.length) ⟨row, sd, rfl, rfl, by omega, q2, q3, q4⟩ ?_
    rintro n env ⟨row, sd, rfl, rfl, hl, hd, h0, h1⟩
    have et : (eT (eOp dLt (eCall dLen [(eVar 2)]) (eVar 1))) [iL ns, .int many, iL row, .int sd, c, r, k] = some (.ok (decide ((row.length : Int) < (many : Int)))) := by
      walk_at "ev"
    by_cases hlt : row.length < many
    · right
      have hlt' : (row.length : Int) < (many : Int) := by omega
      refine ⟨by rw [et, decide_eq_true hlt'], many - (row.length + 1), _, by omega, .inl (?_ : g_law_numbers_b3 _ = some (.nx [iL ns, .int many, iL (row ++ [(sd * sd + 69621 * sd + 7 * (row.length : Int) + 5) % 2147483629 / 1009 % 1000]), .int ((sd * sd + 69621 * sd + 7 * (row.length : Int) + 5) % 2147483629), c, r, k])), _, _, rfl, by simp, by simp; omega, hd.app (mod1000 _).1 (mod1000 _).2, Int.emod_nonneg _ (by decide), Int.lt_trans (Int.emod_lt_of_pos _ (by decide)) (by decide)⟩
      have hl2 : (row.map D.int).length < LIM := by simp [LIM]; omega
      unfold g_law_numbers_b3
      walk_at "ev"
      rw [app_ints]
    · left
      have hlt' : ¬ (row.length : Int) < (many : Int) := by omega
      rw [et, decide_eq_false hlt']
  obtain ⟨m, e, w1, ⟨row2, sd2, rfl, hm2, hl2, hd2, _, _⟩, w2⟩ := wl
  have hge : many ≤ row2.length := by
    have et : (eT (eOp dLt (eCall dLen [(eVar 2)]) (eVar 1))) [iL ns, .int many, iL row2, .int sd2, c, r, k] = some (.ok (decide ((row2.length : Int) < (many : Int)))) := by
      walk_at "ev"
    rw [et] at w2
    have q : decide ((row2.length : Int) < (many : Int)) = false := by simpa using w2
    have := of_decide_eq_false q
    omega
  refine ⟨cutI row2 none (some (many : Int)), _, fn_rt (show g_law_numbers [iL ns, .int many, .non, .non, .non, .non, .non] = some (.rt (iL (cutI row2 none (some (many : Int)))) [iL ns, .int many, iL row2, .int sd2, c, r, k]) from ?_), ?_, fun x hx => hd2 x (cutI_mem hx)⟩
  · unfold g_law_numbers g_law_numbers_r1 g_law_numbers_r2 g_law_numbers_r3 g_law_numbers_r4
    have h0 : ([] : List D).length ≤ LIM := Nat.zero_le _
    have h1' : forF 4 g_law_numbers_b2 (List.map D.int (cutI ns none (some 63))) [iL ns, D.int many, D.lst [], D.int 17, D.non, D.non, D.non] = some (Out.nx [iL ns, D.int many, iL row, D.int sd, c, r, k]) := h1
    walk_at "ev"
  · show ((row2.drop 0).take (HT.sIx row2.length row2.length (some (many : Int)) - 0)).length = many
    have : HT.sIx row2.length row2.length (some (many : Int)) = min many row2.length := HT.sIx_nat _ _ many
    rw [this, List.length_take, List.length_drop]
    omega
theorem is_way_eq {l : List Int} : ∃ e, G_law_is_way [iL l] = some (.rt (.bl true) e) := by
  have lp : ∃ e, forF 1 g_law_is_way_b1 (l.map D.int) [iL l, .non] = some (.nx e) ∧ ∃ z, e = [iL l, z] := by
    obtain ⟨e, h1, h2⟩ := forF_inv (emb := D.int) (i := 1) (b := g_law_is_way_b1) (l := l) (fun pre env => ∃ z, env = [iL l, z]) (env := [iL l, .non]) ⟨.non, rfl⟩ (by
      rintro pre x post env hl ⟨z, rfl⟩
      refine ⟨[iL l, .int x], .inl ?_, _, rfl⟩
      unfold g_law_is_way_b1
      walk_at "ev")
    exact ⟨e, h1, h2⟩
  obtain ⟨e, h1, z, rfl⟩ := lp
  refine ⟨_, fn_rt (show g_law_is_way [iL l, .non] = some (.rt (.bl true) [iL l, z]) from ?_)⟩
  unfold g_law_is_way g_law_is_way_r1 g_law_is_way_r2
  walk_at "ev"
/-! ### letters as signs -/
def Lt (x : Int) : Prop := x = 1 ∨ x = 2 ∨ x = 3 ∨ x = 4 ∨ x = 5 ∨ x = -1 ∨ x = -2 ∨ x = -3 ∨ x = -4 ∨ x = -5
def code (x : Int) : Nat := if 0 < x then 96 + x.toNat else 64 + (-x).toNat
abbrev sg (x : Int) : Str := ⟨#[code x]⟩
def txt (w : List Int) : Str := Txt.join "" (w.map sg)
theorem joinL_one : ∀ l : List Nat, TL.joinL [] (l.map fun c => [c]) = l
  | [] => rfl
  | [_] => rfl
  | x :: y :: r => by
    have ih := joinL_one (y :: r)
    show [x] ++ ([] ++ TL.joinL [] ((y :: r).map fun c => [c])) = _
    rw [ih]
    rfl
theorem txt_list (w : List Int) : (txt w).cps.toList = w.map code := by
  unfold txt
  rw [TL.join_eq]
  have := TL.tl_join "" (w.map sg)
  show TL.tl (Str.join "" (w.map sg)) = _
  rw [this, List.map_map]
  have e : (TL.tl ∘ sg) = fun x => [code x] := rfl
  rw [e]
  have := joinL_one (w.map code)
  rw [List.map_map] at this
  exact this
theorem join_ok {w : List Int} (h : w.length ≤ 1000000) : dJn "" (w.map fun x => chD (code x)) = some (.str (txt w)) := by
  have e : (w.map fun x => chD (code x)) = (w.map sg).map D.str := by rw [List.map_map]; rfl
  unfold dJn
  rw [e, strL_map]
  show (if ((w.map sg).map (·.length)).sum + (w.map sg).length * (("" : Str)).length ≤ 16777216 then some (D.str (Txt.join "" (w.map sg))) else none) = _
  have h1 : ((w.map sg).map (·.length)).sum = w.length := by
    rw [List.map_map]
    have : ((fun s : Str => s.length) ∘ sg) = fun _ => 1 := rfl
    rw [this, List.map_const', List.sum_replicate_nat]
    omega
  rw [h1, if_pos (by show w.length + _ * 0 ≤ _; omega)]
  rfl
theorem code_ne {x : Int} (h : Lt x) : code x ≠ 46 := by
  rcases h with rfl | rfl | rfl | rfl | rfl | rfl | rfl | rfl | rfl | rfl <;> decide
theorem txt_dot {w : List Int} (h : ∀ x ∈ w, Lt x) : txt w ≠ "." := by
  intro z
  have e := txt_list w
  rw [z] at e
  have e2 : [46] = w.map code := e
  cases w with
  | nil => cases e2
  | cons x r =>
    injection e2 with a b
    exact code_ne (h x List.mem_cons_self) a.symm
theorem txt_nil {w : List Int} (h : w ≠ []) : txt w ≠ "" := by
  intro z
  have e := txt_list w
  rw [z] at e
  have e2 : [] = w.map code := e
  cases w with
  | nil => exact h rfl
  | cons x r => cases e2
theorem sgI_al {x : Int} (h : Lt x) : dSgI (chD (code x)) (.str ("abcde" : Str)) = some (.bl (decide (0 < x))) := by
  rcases h with rfl | rfl | rfl | rfl | rfl | rfl | rfl | rfl | rfl | rfl <;> rfl
theorem sgI_ag {x : Int} (h : Lt x) : dSgI (chD (code x)) (.str ("ABCDE" : Str)) = some (.bl (!decide (0 < x))) := by
  rcases h with rfl | rfl | rfl | rfl | rfl | rfl | rfl | rfl | rfl | rfl <;> rfl
theorem find_al {x : Int} (h : Lt x) (h0 : 0 < x) : Txt.find ("abcde" : Str) ⟨#[code x]⟩ = x - 1 := by
  rcases h with rfl | rfl | rfl | rfl | rfl | rfl | rfl | rfl | rfl | rfl <;> first | omega | decide +kernel
theorem find_ag {x : Int} (h : Lt x) (h0 : ¬ 0 < x) : Txt.find ("ABCDE" : Str) ⟨#[code x]⟩ = -x - 1 := by
  rcases h with rfl | rfl | rfl | rfl | rfl | rfl | rfl | rfl | rfl | rfl <;> first | omega | decide +kernel
theorem ix_al {x : Int} (h : Lt x) (h0 : 0 < x) : dIx (.str ("abcde" : Str)) (.int (x - 1)) = some (chD (code x)) := by
  rcases h with rfl | rfl | rfl | rfl | rfl | rfl | rfl | rfl | rfl | rfl <;> first | omega | rfl
theorem ix_ag {x : Int} (h : Lt x) (h0 : ¬ 0 < x) : dIx (.str ("ABCDE" : Str)) (.int (-x - 1)) = some (chD (code x)) := by
  rcases h with rfl | rfl | rfl | rfl | rfl | rfl | rfl | rfl | rfl | rfl <;> first | omega | rfl
theorem txt_okS {w : List Int} (h : ∀ x ∈ w, Lt x) : PyData.strOk (txt w) = true := by
  unfold PyData.strOk
  rw [← Array.all_toList, txt_list, List.all_eq_true]
  intro c hc
  obtain ⟨x, hx, rfl⟩ := List.mem_map.mp hc
  rcases h x hx with rfl | rfl | rfl | rfl | rfl | rfl | rfl | rfl | rfl | rfl <;> decide
/-! ### texts of any signs -/
def Okz (z : Str) : Prop := (∀ c ∈ z.cps.toList, c < 1114112) ∧ z.cps.toList.length ≤ 1000
theorem okz_ok {z : Str} (h : Okz z) : PyData.strOk z = true := by
  unfold PyData.strOk
  rw [← Array.all_toList, List.all_eq_true]
  intro c hc
  exact decide_eq_true (h.1 c hc)
theorem zlen (z : Str) : z.length = z.cps.toList.length := TL.len_tl z
theorem app_list (a b : Str) : (a ++ b).cps.toList = a.cps.toList ++ b.cps.toList := TL.tl_append a b
theorem cutS_list (z : Str) (lo hi : Option Int) : (cutS z lo hi).cps.toList = (z.cps.toList.drop (HT.sIx z.length 0 lo)).take (HT.sIx z.length z.length hi - HT.sIx z.length 0 lo) := rfl
def jn (cs : List Nat) : Str := Txt.join "" (cs.map fun c => ⟨#[c]⟩)
theorem jn_list (cs : List Nat) : (jn cs).cps.toList = cs := by
  unfold jn
  rw [TL.join_eq]
  show TL.tl (Str.join "" _) = _
  rw [TL.tl_join, List.map_map]
  exact joinL_one cs
theorem jn_ok {cs : List Nat} (h : cs.length ≤ 100000) : dJn "" (cs.map chD) = some (.str (jn cs)) := by
  have e : cs.map chD = (cs.map fun c => (⟨#[c]⟩ : Str)).map D.str := by rw [List.map_map]; rfl
  unfold dJn
  rw [e, strL_map]
  show (if ((cs.map fun c => (⟨#[c]⟩ : Str)).map (·.length)).sum + (cs.map fun c => (⟨#[c]⟩ : Str)).length * (("" : Str)).length ≤ 16777216 then some (D.str (jn cs)) else none) = _
  have h1 : ((cs.map fun c => (⟨#[c]⟩ : Str)).map (·.length)).sum = cs.length := by
    rw [List.map_map]
    have : ((fun s : Str => s.length) ∘ fun c : Nat => (⟨#[c]⟩ : Str)) = fun _ => 1 := rfl
    rw [this, List.map_const', List.sum_replicate_nat]
    omega
  rw [h1, if_pos (by show cs.length + _ * 0 ≤ _; omega)]
/-! ### good and bad texts -/
def BadC (c : Nat) : Prop := c ∉ ([97, 98, 99, 100, 101] : List Nat) ∧ c ∉ ([65, 66, 67, 68, 69] : List Nat)
theorem code_or (c : Nat) : (∃ x, Lt x ∧ c = code x) ∨ BadC c := by
  by_cases h1 : c ∈ ([97, 98, 99, 100, 101] : List Nat)
  · left
    simp only [List.mem_cons, List.not_mem_nil, or_false] at h1
    rcases h1 with rfl | rfl | rfl | rfl | rfl
    · exact ⟨1, by unfold Lt; omega, rfl⟩
    · exact ⟨2, by unfold Lt; omega, rfl⟩
    · exact ⟨3, by unfold Lt; omega, rfl⟩
    · exact ⟨4, by unfold Lt; omega, rfl⟩
    · exact ⟨5, by unfold Lt; omega, rfl⟩
  · by_cases h2 : c ∈ ([65, 66, 67, 68, 69] : List Nat)
    · left
      simp only [List.mem_cons, List.not_mem_nil, or_false] at h2
      rcases h2 with rfl | rfl | rfl | rfl | rfl
      · exact ⟨-1, by unfold Lt; omega, rfl⟩
      · exact ⟨-2, by unfold Lt; omega, rfl⟩
      · exact ⟨-3, by unfold Lt; omega, rfl⟩
      · exact ⟨-4, by unfold Lt; omega, rfl⟩
      · exact ⟨-5, by unfold Lt; omega, rfl⟩
    · exact .inr ⟨h1, h2⟩
theorem good_or : ∀ l : List Nat, (∃ w : List Int, (∀ x ∈ w, Lt x) ∧ l = w.map code) ∨ ∃ (pre : List Int) (c : Nat) (post : List Nat), (∀ x ∈ pre, Lt x) ∧ l = pre.map code ++ c :: post ∧ BadC c
  | [] => .inl ⟨[], by simp, rfl⟩
  | c :: r => by
    rcases code_or c with ⟨x, hx, rfl⟩ | h
    · rcases good_or r with ⟨w, h1, rfl⟩ | ⟨pre, d, post, h1, rfl, h2⟩
      · exact .inl ⟨x :: w, by simpa using ⟨hx, h1⟩, rfl⟩
      · exact .inr ⟨x :: pre, d, post, by simpa using ⟨hx, h1⟩, rfl, h2⟩
    · exact .inr ⟨[], c, r, by simp, rfl, h⟩
theorem forF_invA {α : Type} {emb : α → D} {i : Nat} {b : List D → Option Out} {l : List α} {ys : List D} (P : List α → List D → Prop) {env : List D} (h0 : P [] env)
    (hs : ∀ pre x post env, l = pre ++ x :: post → P pre env → ∃ e, (b (env.set i (emb x)) = some (.nx e) ∨ b (env.set i (emb x)) = some (.ct e)) ∧ P (pre ++ [x]) e) :
    ∃ e, forF i b (l.map emb ++ ys) env = forF i b ys e ∧ P l e := by
  have key : ∀ (post pre : List α) (env : List D), l = pre ++ post → P pre env → ∃ e, forF i b (post.map emb ++ ys) env = forF i b ys e ∧ P l e := by
    intro post
    induction post with
    | nil =>
      intro pre env e p
      rw [List.append_nil] at e
      subst e
      exact ⟨env, rfl, p⟩
    | cons x r ih =>
      intro pre env e p
      obtain ⟨e1, h1, p1⟩ := hs pre x r env e p
      obtain ⟨e2, h2, p2⟩ := ih (pre ++ [x]) e1 (by simp [e]) p1
      refine ⟨e2, ?_, p2⟩
      show forF i b (emb x :: (r.map emb ++ ys)) env = _
      conv => lhs; unfold forF
      rcases h1 with h1 | h1 <;> (rw [h1]; exact h2)
  exact key l [] env rfl h0
theorem forF_one {i : Nat} {b : List D → Option Out} {x : D} {ys env : List D} {c : String} {e : List D} (h : b (env.set i x) = some (.ex c e)) : forF i b (x :: ys) env = some (.ex c e) := by
  unfold forF
  rw [h]
theorem forF_oneR {i : Nat} {b : List D → Option Out} {x : D} {ys env : List D} {d : D} {e : List D} (h : b (env.set i x) = some (.rt d e)) : forF i b (x :: ys) env = some (.rt d e) := by
  unfold forF
  rw [h]
/-! ### reading -/
theorem read_b {t : D} {l : List Int} {x : Int} (h : Lt x) (hl : l.length < 100000) : g_read_way_b1 [t, iL l, chD (code x)] = some (.nx [t, iL (l ++ [x]), chD (code x)]) := by
  have h2 : (l.map D.int).length < LIM := by simp only [LIM, List.length_map]; omega
  have q1 := sgI_al h
  have q2 := sgI_ag h
  unfold g_read_way_b1
  by_cases h0 : 0 < x
  · have e := find_al h h0
    have f : eFind (eC (.str ("abcde" : Str))) (eVar 2) [t, iL l, chD (code x)] = some (.ok (.int (x - 1))) := by
      show some (R.ok (D.int (Txt.find "abcde" ⟨#[code x]⟩))) = _
      rw [e]
    have e3 : x - 1 + 1 = x := by omega
    simp (disch := omega) only [sIf, eT, eOp, eVar, eC, sApp, List.getElem?_cons_zero, List.getElem?_cons_succ, lift_some, bd_ok, q1, h0, decide_true, f, dAdd_int, e3, sX_ok, h2, if_true, List.set_cons_zero, List.set_cons_succ, app_ints]
  · have e := find_ag h h0
    have f : eFind (eC (.str ("ABCDE" : Str))) (eVar 2) [t, iL l, chD (code x)] = some (.ok (.int (-x - 1))) := by
      show some (R.ok (D.int (Txt.find "ABCDE" ⟨#[code x]⟩))) = _
      rw [e]
    have e3 : -(-x - 1) - 1 = x := by omega
    simp (disch := omega) only [sIf, eT, eOp, eUn, eVar, eC, sApp, List.getElem?_cons_zero, List.getElem?_cons_succ, lift_some, bd_ok, q1, q2, h0, decide_false, Bool.not_false, f, dNeg_int, dSub_int, e3, sX_ok, h2, if_true, List.set_cons_zero, List.set_cons_succ, app_ints]
theorem sgI_bad {c : Nat} {z : Str} {l : List Nat} (e : z.cps.toList = l) (h : c ∉ l) : dSgI (chD c) (.str z) = some (.bl false) := by
  show some (D.bl (decide (c ∈ z.cps.toList))) = _
  rw [e, decide_eq_false h]
theorem read_bad {t l : D} {c : Nat} (h : BadC c) : g_read_way_b1 [t, l, chD c] = some (.ex "NoWay" [t, l, chD c]) := by
  have q1 := sgI_bad (z := ("abcde" : Str)) rfl h.1
  have q2 := sgI_bad (z := ("ABCDE" : Str)) rfl h.2
  unfold g_read_way_b1
  simp only [sIf, eT, eOp, eVar, eC, sRaise, List.getElem?_cons_zero, List.getElem?_cons_succ, lift_some, bd_ok, q1, q2]
theorem find_all {x : Int} (h : Lt x) : Txt.find ("abcdeABCDE" : Str) ⟨#[code x]⟩ = if 0 < x then x - 1 else 4 - x := by
  rcases h with rfl | rfl | rfl | rfl | rfl | rfl | rfl | rfl | rfl | rfl <;> decide +kernel
theorem sgN_good {x : Int} (h : Lt x) : dSgN (chD (code x)) (.str ("abcdeABCDE" : Str)) = some (.bl false) := by
  rcases h with rfl | rfl | rfl | rfl | rfl | rfl | rfl | rfl | rfl | rfl <;> rfl
theorem sgN_bad {c : Nat} (h : BadC c) : dSgN (chD c) (.str ("abcdeABCDE" : Str)) = some (.bl true) := by
  show some (D.bl (!decide (c ∈ ([97, 98, 99, 100, 101, 65, 66, 67, 68, 69] : List Nat)))) = _
  have : c ∉ ([97, 98, 99, 100, 101, 65, 66, 67, 68, 69] : List Nat) := by
    have h1 := h.1
    have h2 := h.2
    simp only [List.mem_cons, List.not_mem_nil, or_false, not_or] at h1 h2 ⊢
    omega
  rw [decide_eq_false this] <;> rfl
theorem lets_b {t a : D} {l : List Int} {x : Int} (h : Lt x) (hl : l.length < 100000) : ∃ a', g_law_letters_b1 [t, iL l, chD (code x), a] = some (.nx [t, iL (l ++ [x]), chD (code x), a']) := by
  have h2 : (l.map D.int).length < LIM := by simp only [LIM, List.length_map]; omega
  have q1 := sgN_good h
  have e := find_all h
  have f : ∀ a, eFind (eC (.str ("abcdeABCDE" : Str))) (eVar 2) [t, iL l, chD (code x), a] = some (.ok (.int (if 0 < x then x - 1 else 4 - x))) := by
    intro a
    show some (R.ok (D.int (Txt.find "abcdeABCDE" ⟨#[code x]⟩))) = _
    rw [e]
  have l2 : ∀ u v : D, [u, v].length ≤ LIM := fun _ _ => by show 2 ≤ LIM; decide
  refine ⟨.int (if 0 < x then x - 1 else 4 - x), ?_⟩
  have key : dIx (.lst [.int ((if 0 < x then x - 1 else 4 - x) + 1), .int (4 - (if 0 < x then x - 1 else 4 - x))]) (.int ((if 0 < x then x - 1 else 4 - x) / 5)) = some (.int x) := by
    rcases h with rfl | rfl | rfl | rfl | rfl | rfl | rfl | rfl | rfl | rfl <;> rfl
  generalize (if 0 < x then x - 1 else 4 - x) = y at f key
  unfold g_law_letters_b1
  simp (disch := omega) only [sSeq, sSet, sIf, sNext, eT, eOp, eLst, eArgs, eVar, eC, sApp, List.getElem?_cons_zero, List.getElem?_cons_succ, lift_some, bd_ok, q1, f, dAdd_int, dSub_int, dDiv_ok, key, l2, sX_ok, h2, if_true, List.set_cons_zero, List.set_cons_succ, app_ints]
theorem lets_bad {t l a : D} {c : Nat} (h : BadC c) : g_law_letters_b1 [t, l, chD c, a] = some (.rt .non [t, l, chD c, a]) := by
  have q1 := sgN_bad h
  unfold g_law_letters_b1
  simp only [sSeq, sIf, sRet, eT, eOp, eVar, eC, sX_ok, List.getElem?_cons_zero, List.getElem?_cons_succ, lift_some, bd_ok, q1]
theorem two_eq {z : Str} (hz : Okz z) : (∃ w : List Int, ofOut (G_read_way [.str z]) = some (.ok (iL w)) ∧ ofOutN (G_law_letters [.str z]) = some (.ok (iL w))) ∨ (ofOut (G_read_way [.str z]) = some (.ex "NoWay") ∧ ofOutN (G_law_letters [.str z]) = some (.ok .non)) := by
  have d1 : dEq (.str z) (.str ".") = some (.bl (decide (z = "."))) := dEq_str (okz_ok hz) (by decide +kernel)
  have d2 : dEq (.str z) (.str "") = some (.bl (decide (z = ""))) := dEq_str (okz_ok hz) (by decide +kernel)
  have l0 : ([] : List D).length ≤ LIM := Nat.zero_le _
  by_cases h1 : z = "."
  · left
    rw [decide_eq_true h1] at d1
    clear h1
    refine ⟨[], ?_, ?_⟩
    · have : g_read_way [.str z, .non, .non] = some (.rt (.lst []) [.str z, .non, .non]) := by
        unfold g_read_way
        walk_at "ev"
      have e := fn_rt (n := 3) (rp := false) (ds := [.str z]) this
      show ofOut (fnOf g_read_way 3 false [.str z]) = _
      rw [e]
      rfl
    · have : g_law_letters [.str z, .non, .non, .non] = some (.rt (.lst []) [.str z, .non, .non, .non]) := by
        unfold g_law_letters
        walk_at "ev"
      exact ofN ⟨_, fn_rt this⟩
  rw [decide_eq_false h1] at d1
  by_cases h2 : z = ""
  · right
    have z0 : z.cps.toList = [] := by rw [h2]; rfl
    have f1 : ∀ g env, sForS 2 (eVar 0) g (.str z :: env) = some (.nx (.str z :: env)) := by
      intro g env
      show forF 2 g (z.cps.toList.map chD) _ = _
      rw [z0]
      rfl
    rw [decide_eq_true h2] at d2
    clear h1 h2
    refine ⟨?_, ?_⟩
    · have : g_read_way [.str z, .non, .non] = some (.ex "NoWay" [.str z, .non, .non]) := by
        unfold g_read_way g_read_way_r1 sRaise
        walk_at "ev"
      show ofOut (fnOf g_read_way 3 false [.str z]) = _
      unfold fnOf
      rw [show g_read_way ([.str z] ++ List.replicate (3 - [D.str z].length) .non) = _ from this]
      rfl
    · have : g_law_letters [.str z, .non, .non, .non] = some (.rt .non [.str z, .lst [], .non, .non]) := by
        unfold g_law_letters g_law_letters_r1 g_law_letters_r2 g_law_letters_r3
        walk_at "ev"
      exact ofN ⟨_, fn_rt this⟩
  rw [decide_eq_false h2] at d2
  rcases good_or z.cps.toList with ⟨w, hw, e⟩ | ⟨pre, c, post, hp, e, hc⟩
  · left
    have wl : w.length ≤ 1000 := by
      have := hz.2
      rw [e, List.length_map] at this
      exact this
    refine ⟨w, ?_, ?_⟩
    · obtain ⟨e1, q1, y, rfl⟩ := forF_inv (emb := fun x : Int => chD (code x)) (i := 2) (b := g_read_way_b1) (l := w) (fun pre env => ∃ y, env = [.str z, iL pre, y]) (env := [.str z, .lst [], .non]) ⟨.non, rfl⟩ (by
        rintro pre x post env hw' ⟨y, rfl⟩
        have hw2 := congrArg List.length hw'
        simp only [List.length_append, List.length_cons] at hw2
        exact ⟨_, .inl (read_b (hw x (by rw [hw']; simp)) (by omega)), chD (code x), rfl⟩)
      have f : sForS 2 (eVar 0) g_read_way_b1 [.str z, .lst [], .non] = some (.nx [.str z, iL w, y]) := by
        show forF 2 g_read_way_b1 (z.cps.toList.map chD) _ = _
        rw [e, List.map_map]
        exact q1
      have : g_read_way [.str z, .non, .non] = some (.rt (iL w) [.str z, iL w, y]) := by
        unfold g_read_way g_read_way_r1 g_read_way_r2 g_read_way_r3 g_read_way_r4
        walk_at "ev"
      have e := fn_rt (n := 3) (rp := false) (ds := [.str z]) this
      show ofOut (fnOf g_read_way 3 false [.str z]) = _
      rw [e]
      rfl
    · obtain ⟨e1, q1, y, y2, rfl⟩ := forF_inv (emb := fun x : Int => chD (code x)) (i := 2) (b := g_law_letters_b1) (l := w) (fun pre env => ∃ y y2, env = [.str z, iL pre, y, y2]) (env := [.str z, .lst [], .non, .non]) ⟨.non, .non, rfl⟩ (by
        rintro pre x post env hw' ⟨y, y2, rfl⟩
        have hw2 := congrArg List.length hw'
        simp only [List.length_append, List.length_cons] at hw2
        obtain ⟨a', h'⟩ := lets_b (t := .str z) (a := y2) (hw x (by rw [hw']; simp)) (show pre.length < 100000 by omega)
        exact ⟨_, .inl h', chD (code x), a', rfl⟩)
      have f : sForS 2 (eVar 0) g_law_letters_b1 [.str z, .lst [], .non, .non] = some (.nx [.str z, iL w, y, y2]) := by
        show forF 2 g_law_letters_b1 (z.cps.toList.map chD) _ = _
        rw [e, List.map_map]
        exact q1
      have : g_law_letters [.str z, .non, .non, .non] = some (.rt (iL w) [.str z, iL w, y, y2]) := by
        unfold g_law_letters g_law_letters_r1 g_law_letters_r2 g_law_letters_r3 g_law_letters_r4
        walk_at "ev"
      exact ofN ⟨_, fn_rt this⟩
  · right
    have wl : pre.length ≤ 1000 := by
      have := hz.2
      rw [e, List.length_append, List.length_map] at this
      omega
    refine ⟨?_, ?_⟩
    · obtain ⟨e1, q1, y, rfl⟩ := forF_invA (ys := chD c :: post.map chD) (emb := fun x : Int => chD (code x)) (i := 2) (b := g_read_way_b1) (l := pre) (fun pre env => ∃ y, env = [.str z, iL pre, y]) (env := [.str z, .lst [], .non]) ⟨.non, rfl⟩ (by
        rintro pr x post env hw' ⟨y, rfl⟩
        have hw2 := congrArg List.length hw'
        simp only [List.length_append, List.length_cons] at hw2
        exact ⟨_, .inl (read_b (hp x (by rw [hw']; simp)) (by omega)), chD (code x), rfl⟩)
      have f : sForS 2 (eVar 0) g_read_way_b1 [.str z, .lst [], .non] = some (.ex "NoWay" [.str z, iL pre, chD c]) := by
        show forF 2 g_read_way_b1 (z.cps.toList.map chD) _ = _
        rw [e, List.map_append, List.map_map, List.map_cons]
        exact q1.trans (forF_one (read_bad hc))
      have : g_read_way [.str z, .non, .non] = some (.ex "NoWay" [.str z, iL pre, chD c]) := by
        unfold g_read_way g_read_way_r1 g_read_way_r2 g_read_way_r3
        walk_at "ev"
      show ofOut (fnOf g_read_way 3 false [.str z]) = _
      unfold fnOf
      rw [show g_read_way ([.str z] ++ List.replicate (3 - [D.str z].length) .non) = _ from this]
      rfl
    · obtain ⟨e1, q1, y, y2, rfl⟩ := forF_invA (ys := chD c :: post.map chD) (emb := fun x : Int => chD (code x)) (i := 2) (b := g_law_letters_b1) (l := pre) (fun pre env => ∃ y y2, env = [.str z, iL pre, y, y2]) (env := [.str z, .lst [], .non, .non]) ⟨.non, .non, rfl⟩ (by
        rintro pr x post env hw' ⟨y, y2, rfl⟩
        have hw2 := congrArg List.length hw'
        simp only [List.length_append, List.length_cons] at hw2
        obtain ⟨a', h'⟩ := lets_b (t := .str z) (a := y2) (hp x (by rw [hw']; simp)) (show pr.length < 100000 by omega)
        exact ⟨_, .inl h', chD (code x), a', rfl⟩)
      have f : sForS 2 (eVar 0) g_law_letters_b1 [.str z, .lst [], .non, .non] = some (.rt .non [.str z, iL pre, chD c, y2]) := by
        show forF 2 g_law_letters_b1 (z.cps.toList.map chD) _ = _
        rw [e, List.map_append, List.map_map, List.map_cons]
        exact q1.trans (forF_oneR (lets_bad hc))
      have : g_law_letters [.str z, .non, .non, .non] = some (.rt .non [.str z, iL pre, chD c, y2]) := by
        unfold g_law_letters g_law_letters_r1 g_law_letters_r2
        walk_at "ev"
      exact ofN ⟨_, fn_rt this⟩
/-! ### the refusal looked at -/
theorem eq_blL : ∀ {a b : List Bool}, PyData.eqvAll (toPyL (a.map D.bl)) (toPyL (b.map D.bl)) = decide (a = b)
  | [], [] => by simp [toPyL, PyData.eqvAll]
  | [], _ :: _ => by simp [toPyL, PyData.eqvAll]
  | _ :: _, [] => by simp [toPyL, PyData.eqvAll]
  | x :: a, y :: b => by
    have ih := eq_blL (a := a) (b := b)
    show (PyData.eqv (toPy (.bl x)) (toPy (.bl y)) && PyData.eqvAll (toPyL (a.map D.bl)) (toPyL (b.map D.bl))) = _
    rw [ih]
    show ((x == y) && decide (a = b)) = decide (x :: a = y :: b)
    by_cases h : x = y <;> by_cases h2 : a = b <;> simp [h, h2]
theorem lay_bls : ∀ (a : List Bool), PyData.canLayAll0 (toPyL (a.map D.bl)) = true ∧ PyData.depthAll (toPyL (a.map D.bl)) = 0
  | [] => by simp [toPyL, PyData.canLayAll0, PyData.depthAll]
  | x :: a => by
    obtain ⟨h1, h2⟩ := lay_bls a
    refine ⟨?_, ?_⟩
    · show (PyData.canLay0 (toPy (.bl x)) && PyData.canLayAll0 (toPyL (a.map D.bl))) = true
      rw [h1] <;> rfl
    · show max (PyData.depth (toPy (.bl x))) (PyData.depthAll (toPyL (a.map D.bl))) = 0
      rw [h2] <;> rfl
theorem shaped_bls (a : List Bool) : SeqAt.shaped (toPy (.lst (a.map D.bl))) = true := by
  obtain ⟨h1, h2⟩ := lay_bls a
  show (PyData.canLayAll0 (toPyL (a.map D.bl)) && decide (PyData.depthAll (toPyL (a.map D.bl)) + 1 ≤ 64)) = true
  rw [h1, h2] <;> rfl
theorem dEq_bls {a b : List Bool} : dEq (.lst (a.map D.bl)) (.lst (b.map D.bl)) = some (.bl (decide (a = b))) := by
  unfold dEq
  rw [if_pos ⟨shaped_bls a, shaped_bls b⟩]
  show some (D.bl (PyData.eqvAll (toPyL (a.map D.bl)) (toPyL (b.map D.bl)))) = _
  rw [eq_blL]
def nms : List Str := ["NoKind", "NoWay", "NoMark", "NoEntry", "NoHold", "NoChamber", "NoChart", "NoCave", "NoHome", "Barred"]
def nm1 : List Str := nms ++ [("Full" : Str)]
theorem nm_ok : ∀ x ∈ nm1, PyData.strOk x = true := by decide +kernel
theorem due_eq {v : Str} (hv : PyData.strOk v = true) : ∃ e, G_law_due [.str v] = some (.rt (.lst ((true :: nm1.map fun x => decide (x = v)).map D.bl)) e) := by
  have e1 : ∀ x ∈ nm1, (eOp dEq (eVar 2) (eVar 0)) ([D.str v, .lst (nms.map D.str), .non].set 2 (D.str x)) = some (.ok (.bl (decide (x = v)))) := by
    intro x hx
    have := dEq_str (nm_ok x hx) hv
    walk_at "ev"
  have e2 := lcF_map (emb := D.str) (i := 2) (env := [.str v, .lst (nms.map D.str), .non]) (l := nm1) (h := fun x => D.bl (decide (x = v))) e1
  have a1 : dAdd (.lst (nms.map D.str)) (.lst [.str "Full"]) = some (.lst (nm1.map D.str)) := rfl
  have a2 : dAdd (.lst [.bl true]) (.lst (nm1.map fun x => D.bl (decide (x = v)))) = some (.lst ((true :: nm1.map fun x => decide (x = v)).map D.bl)) := by
    have := dAdd_bl (a := [true]) (b := nm1.map fun x => decide (x = v)) (by rw [List.length_map]; decide)
    rw [List.map_map] at this
    exact this
  have l1 : (nms.map D.str).length ≤ LIM := by decide
  have l2 : (nm1.map D.str).length ≤ LIM := by decide
  have l3 : ∀ x : D, [x].length ≤ LIM := fun _ => by show 1 ≤ LIM; decide
  have s1 : (eLst [(eC (.str ("NoKind" : Str))), (eC (.str ("NoWay" : Str))), (eC (.str ("NoMark" : Str))), (eC (.str ("NoEntry" : Str))), (eC (.str ("NoHold" : Str))), (eC (.str ("NoChamber" : Str))), (eC (.str ("NoChart" : Str))), (eC (.str ("NoCave" : Str))), (eC (.str ("NoHome" : Str))), (eC (.str ("Barred" : Str)))]) [D.str v, .non, .non] = some (.ok (.lst (nms.map D.str))) := by
    unfold eLst
    simp only [eArgs, eC, bd_ok]
    exact if_pos l1
  refine ⟨_, fn_rt (show g_law_due [.str v, .non, .non] = some (.rt _ [.str v, .lst (nms.map D.str), .non]) from ?_)⟩
  unfold g_law_due g_law_due_r1
  generalize (eLst [(eC (.str ("NoKind" : Str))), (eC (.str ("NoWay" : Str))), (eC (.str ("NoMark" : Str))), (eC (.str ("NoEntry" : Str))), (eC (.str ("NoHold" : Str))), (eC (.str ("NoChamber" : Str))), (eC (.str ("NoChart" : Str))), (eC (.str ("NoCave" : Str))), (eC (.str ("NoHome" : Str))), (eC (.str ("Barred" : Str)))]) = F at s1
  generalize (eOp dEq (eVar 2) (eVar 0)) = G at e2
  walk_at "ev"
theorem bits_due : bitsOf "NoWay" = true :: nm1.map fun x => decide (x = ("NoWay" : Str)) := by decide +kernel
/-! ### the law -/
theorem dLen_z {z : Str} (h : Okz z) : dLen [.str z] = some (.int (z.cps.toList.length : Int)) := by
  show (if z.length ≤ LIM then some (D.int z.length) else none) = _
  rw [zlen, if_pos (by have := h.2; simp only [LIM]; omega)]
theorem law_r5 {s n d a f b x : D} {z : Str} (hz : Okz z) : ∃ e, g_law_r5 [s, n, .str z, d, a, x, f, b, x] = some (.rt (.bl true) e) := by
  have due := due_eq (v := ("NoWay" : Str)) (by decide +kernel)
  rw [← bits_due] at due
  have due := ofN due
  have l0 : ([] : List D).length ≤ LIM := Nat.zero_le _
  have b0 : dEq (.lst []) (.lst []) = some (.bl true) := dEq_ints (a := []) (b := [])
  have b1 : dEq (.lst ((bitsOf "NoWay").map D.bl)) (.lst ((bitsOf "NoWay").map D.bl)) = some (.bl true) := by rw [dEq_bls, decide_eq_true rfl]
  have n0 : dIsN .non .non = some (.bl true) := rfl
  have n1 : ∀ w : List Int, dIsN (iL w) .non = some (.bl false) := fun _ => rfl
  unfold g_law_r5 g_law_r6 g_law_r7 g_law_r8 g_law_r9 g_law_r10
  rcases two_eq hz with ⟨w, c1, c2⟩ | ⟨c1, c2⟩
  · have c3 := ofN (is_way_eq (l := w))
    have t : sTryBad 7 ["NoWay"] (sSet 6 (eFn G_read_way [(eVar 2)])) [s, n, .str z, d, a, iL w, .non, .lst [], x] = some (.nx [s, n, .str z, d, a, iL w, iL w, .lst [], x]) := by
      have : sSet 6 (eFn G_read_way [(eVar 2)]) [s, n, .str z, d, a, iL w, .non, .lst [], x] = some (.nx [s, n, .str z, d, a, iL w, iL w, .lst [], x]) := by
        walk_at "ev"
      unfold sTryBad
      rw [this]
      rfl
    refine ⟨[s, n, .str z, d, a, iL w, iL w, .lst [], x], ?_⟩
    generalize sTryBad 7 ["NoWay"] (sSet 6 (eFn G_read_way [(eVar 2)])) = T at t
    walk_at "ev"
  · have t : sTryBad 7 ["NoWay"] (sSet 6 (eFn G_read_way [(eVar 2)])) [s, n, .str z, d, a, .non, .non, .lst [], x] = some (.nx [s, n, .str z, d, a, .non, .non, .lst ((bitsOf "NoWay").map D.bl), x]) := by
      have : sSet 6 (eFn G_read_way [(eVar 2)]) [s, n, .str z, d, a, .non, .non, .lst [], x] = some (.ex "NoWay" [s, n, .str z, d, a, .non, .non, .lst [], x]) := by
        walk_at "ev"
      unfold sTryBad
      rw [this]
      exact if_pos (c := "NoWay" ∈ (["NoWay"] : List String)) (e := none) (by decide)
    refine ⟨[s, n, .str z, d, a, .non, .non, .lst ((bitsOf "NoWay").map D.bl), x], ?_⟩
    generalize sTryBad 7 ["NoWay"] (sSet 6 (eFn G_read_way [(eVar 2)])) = T at t
    generalize bitsOf "NoWay" = bt at *
    walk_at "ev"
theorem okz_dot : Okz "." := ⟨by decide +kernel, by decide +kernel⟩
theorem okz_nil : Okz "" := ⟨by decide +kernel, by decide +kernel⟩
theorem law_r3 {s d a f b x : D} {row : List Int} {z : Str} (hr : row.length = 30) (hz : Okz z) : ∃ e, g_law_r3 [s, iL row, .str z, d, a, x, f, b, x] = some (.rt (.bl true) e) := by
  unfold g_law_r3 g_law_r4
  by_cases h1 : row.getD 4 0 % 8 = 1
  · walk_at "ev"
    exact law_r5 okz_dot
  · by_cases h2 : row.getD 4 0 % 8 = 2
    · walk_at "ev"
      exact law_r5 okz_nil
    · walk_at "ev"
      exact law_r5 hz
def sgA : Str := " !\"#$&'()*+,-./0123456789:;<=>?@ABCDEFGHIJKLMNOPQRSTUVWXYZ[\\]^_`"
def sgB : Str := "abcdefghijklmnopqrstuvwxyz{|}~\n"
theorem sg_len : (sgA ++ sgB).cps.toList.length = 95 := by decide +kernel
theorem sg_all : ∀ c ∈ (sgA ++ sgB).cps.toList, c < 1114112 := by decide +kernel
theorem ix_str' {z : Str} {k : Nat} (hl : z.length ≤ LIM) (h : k < z.cps.toList.length) : dIx (.str z) (.int (k : Int)) = some (chD (z.cps.toList[k])) := by
  show (if z.length ≤ LIM then (atI z.cps.toList (k : Int)).map fun c => D.str ⟨#[c]⟩ else none) = _
  rw [if_pos hl, atI_nat (List.getElem?_eq_getElem h)]
  rfl
theorem sg_add : dAdd (.str sgA) (.str sgB) = some (.str (sgA ++ sgB)) := by
  show (if sgA.length + sgB.length ≤ LIM then some (D.str (sgA ++ sgB)) else none) = _
  rw [if_pos (by rw [zlen, zlen]; decide +kernel)]
theorem sign_eq {v : Int} : ∃ c, c < 1114112 ∧ ∃ e, G_law_sign [.int v] = some (.rt (chD c) e) := by
  have h0 := Int.emod_nonneg v (show (95 : Int) ≠ 0 by decide)
  have h1 := Int.emod_lt_of_pos v (show (0 : Int) < 95 by decide)
  obtain ⟨k, hk, hk2⟩ : ∃ k : Nat, v % 95 = (k : Int) ∧ k < 95 := ⟨(v % 95).toNat, by omega, by omega⟩
  have hk3 : k < (sgA ++ sgB).cps.toList.length := by rw [sg_len]; exact hk2
  have a1 := sg_add
  have a2 := ix_str' (z := sgA ++ sgB) (by rw [zlen, sg_len]; decide) hk3
  refine ⟨_, sg_all _ (List.getElem_mem hk3), [.int v, .str (sgA ++ sgB)], fn_rt (show g_law_sign [.int v, .non] = _ from ?_)⟩
  unfold g_law_sign g_law_sign_r1 g_law_sign_r2
  show sSeq (sSet 1 (eC (.str sgA))) (sSeq (sSet 1 (eOp dAdd (eVar 1) (eC (.str sgB)))) (sRet (eOp dIx (eVar 1) (eOp dMod (eVar 0) (eC (.int 95)))))) [.int v, .non] = _
  generalize (sgA ++ sgB).cps.toList[k] = c at a2 ⊢
  generalize sgA ++ sgB = S at a1 a2 ⊢
  generalize sgA = A at a1 ⊢
  generalize sgB = B at a1 ⊢
  walk_at "ev"
theorem law_r2 {s d a f b x : D} {row : List Int} {z : Str} (hr : row.length = 30) (hd : Dr row) (hz : Okz z) (hl : z.cps.toList.length ≤ 400) : ∃ e, g_law_r2 [s, iL row, .str z, d, a, x, f, b, x] = some (.rt (.bl true) e) := by
  unfold g_law_r2
  by_cases h : row.getD 1 0 % 2 = 1
  · have q1 := dLen_z hz
    obtain ⟨c, hc, sg⟩ := sign_eq (v := row.getD 3 0)
    have sg := ofN sg
    have b1 : 0 < (z.cps.toList.length : Int) + 1 := by omega
    generalize hat : row.getD 2 0 % ((z.cps.toList.length : Int) + 1) = i
    have hzl : z.length ≤ LIM := by rw [zlen]; simp only [LIM]; omega
    have k1 : (cutS z none (some i)).cps.toList.length ≤ 400 := by rw [cutS_list, List.length_take, List.length_drop]; omega
    have k2 : (cutS z (some i) none).cps.toList.length ≤ 400 := by rw [cutS_list, List.length_take, List.length_drop]; omega
    have m1 : ∀ y ∈ (cutS z none (some i)).cps.toList, y < 1114112 := fun y hy => hz.1 y (List.mem_of_mem_drop (List.mem_of_mem_take (by rw [cutS_list] at hy; exact hy)))
    have m2 : ∀ y ∈ (cutS z (some i) none).cps.toList, y < 1114112 := fun y hy => hz.1 y (List.mem_of_mem_drop (List.mem_of_mem_take (by rw [cutS_list] at hy; exact hy)))
    have s1 : eSlS (eVar 2) none (some (eVar 4)) [s, iL row, .str z, d, .int i, x, f, b, x] = some (.ok (.str (cutS z none (some i)))) := if_pos hzl
    have s2 : eSlS (eVar 2) (some (eVar 4)) none [s, iL row, .str z, d, .int i, x, f, b, x] = some (.ok (.str (cutS z (some i) none))) := if_pos hzl
    generalize cutS z none (some i) = y1 at s1 k1 m1
    generalize cutS z (some i) none = y2 at s2 k2 m2
    have a1 : dAdd (.str y1) (chD c) = some (.str (y1 ++ ⟨#[c]⟩)) := if_pos (by rw [zlen]; show _ + 1 ≤ LIM; simp only [LIM]; omega)
    have al : (y1 ++ (⟨#[c]⟩ : Str)).cps.toList = y1.cps.toList ++ [c] := app_list _ _
    have a2 : dAdd (.str (y1 ++ ⟨#[c]⟩)) (.str y2) = some (.str (y1 ++ ⟨#[c]⟩ ++ y2)) := if_pos (by rw [zlen, zlen, al, List.length_append]; show _ + 1 + _ ≤ LIM; simp only [LIM]; omega)
    have okz : Okz (y1 ++ ⟨#[c]⟩ ++ y2) := by
      refine ⟨?_, ?_⟩
      · intro y hy
        rw [app_list, al] at hy
        rcases List.mem_append.mp hy with q | q
        · rcases List.mem_append.mp q with q | q
          · exact m1 y q
          · rw [List.mem_singleton.mp q]; exact hc
        · exact m2 y q
      · rw [app_list, al, List.length_append, List.length_append]
        simp only [List.length_cons, List.length_nil]
        omega
    have fin := law_r3 (s := s) (d := d) (a := .int i) (f := f) (b := b) (x := x) hr okz
    generalize y1 ++ ⟨#[c]⟩ ++ y2 = y3 at a2 fin
    generalize y1 ++ ⟨#[c]⟩ = y4 at a1 a2
    generalize eSlS (eVar 2) none (some (eVar 4)) = F1 at s1 ⊢
    generalize eSlS (eVar 2) (some (eVar 4)) none = F2 at s2 ⊢
    walk_at "ev"
  · walk_at "ev"
    exact law_r3 hr hz
theorem ten_eq {v : Int} : ∃ c, c < 1114112 ∧ dIx (.str ("abcdeABCDE" : Str)) (.int (v % 10)) = some (chD c) := by
  have h0 := Int.emod_nonneg v (show (10 : Int) ≠ 0 by decide)
  have h1 := Int.emod_lt_of_pos v (show (0 : Int) < 10 by decide)
  have : v % 10 = 0 ∨ v % 10 = 1 ∨ v % 10 = 2 ∨ v % 10 = 3 ∨ v % 10 = 4 ∨ v % 10 = 5 ∨ v % 10 = 6 ∨ v % 10 = 7 ∨ v % 10 = 8 ∨ v % 10 = 9 := by omega
  rcases this with h | h | h | h | h | h | h | h | h | h <;> (rw [h]; exact ⟨_, by decide, rfl⟩)
theorem law_eq (ns : List Int) : ∃ e, G_law [iL ns] = some (.rt (.bl true) e) := by
  obtain ⟨row, e0, h1, hr, hd⟩ := numbers_eq ns (many := 30) (by decide)
  have c0 : ofOutN (G_law_numbers [iL ns, .int 30]) = some (.ok (iL row)) := ofN ⟨e0, h1⟩
  have l3 := cutI_len row (some 10) (some (10 + row.getD 0 0 % 13))
  have e1 : ∀ x ∈ cutI row (some 10) (some (10 + row.getD 0 0 % 13)), (eOp dIx (eC (.str ("abcdeABCDE" : Str))) (eOp dMod (eVar 3) (eC (.int 10)))) ([iL ns, iL row, .non, .non, .non, .non, .non, .non, .non].set 3 (D.int x)) = some (.ok (chD (Classical.choose (ten_eq (v := x))))) := by
    intro x _
    have := (Classical.choose_spec (ten_eq (v := x))).2
    generalize Classical.choose (ten_eq (v := x)) = c at this ⊢
    walk_at "ev"
  have e2 := lcF_map (emb := D.int) (i := 3) (env := [iL ns, iL row, .non, .non, .non, .non, .non, .non, .non]) (l := cutI row (some 10) (some (10 + row.getD 0 0 % 13))) (h := fun x => chD (Classical.choose (ten_eq (v := x)))) e1
  have hl : ((cutI row (some 10) (some (10 + row.getD 0 0 % 13))).map D.int).length ≤ LIM := by rw [List.length_map]; simp only [LIM]; omega
  have j := jn_ok (cs := (cutI row (some 10) (some (10 + row.getD 0 0 % 13))).map fun x => Classical.choose (ten_eq (v := x))) (by rw [List.length_map]; omega)
  have okz : Okz (jn ((cutI row (some 10) (some (10 + row.getD 0 0 % 13))).map fun x => Classical.choose (ten_eq (v := x)))) := by
    refine ⟨?_, ?_⟩
    · intro y hy
      rw [jn_list] at hy
      obtain ⟨x, _, rfl⟩ := List.mem_map.mp hy
      exact (Classical.choose_spec (ten_eq (v := x))).1
    · rw [jn_list, List.length_map]
      omega
  have okl : (jn ((cutI row (some 10) (some (10 + row.getD 0 0 % 13))).map fun x => Classical.choose (ten_eq (v := x)))).cps.toList.length ≤ 400 := by
    rw [jn_list, List.length_map]
    omega
  rw [List.map_map] at j
  have j' : dJn "" ((cutI row (some 10) (some (10 + row.getD 0 0 % 13))).map fun x => chD (Classical.choose (ten_eq (v := x)))) = _ := j
  generalize jn ((cutI row (some 10) (some (10 + row.getD 0 0 % 13))).map fun x => Classical.choose (ten_eq (v := x))) = z at j' okz okl
  generalize ((cutI row (some 10) (some (10 + row.getD 0 0 % 13))).map fun x => chD (Classical.choose (ten_eq (v := x)))) = cs at j' e2
  clear j e1
  have fin := law_r2 (s := iL ns) (d := .non) (a := .non) (f := .non) (b := .non) (x := .non) hr hd okz okl
  obtain ⟨e, he⟩ := fin
  have key : g_law [iL ns, .non, .non, .non, .non, .non, .non, .non, .non] = some (.rt (.bl true) e) := by
    unfold g_law g_law_r1
    generalize (eOp dIx (eC (.str ("abcdeABCDE" : Str))) (eOp dMod (eVar 3) (eC (.int 10)))) = G at e2
    walk_at "ev"
  exact ⟨e, fn_rt key⟩
end Lw

namespace Lw
open PySem PySem.Spec PyProof.Rows L2 Mv

def top (i : Nat) : Stmt := PySem.Challenge.pw_chalkcave_k08_texts_that_write_no_way.main.body.getD i (.Pass ⟨0, 0, 0, 0⟩)
abbrev sT_law_numbers : Stmt := top 18
abbrev sT_law_letters : Stmt := top 22
abbrev sT_read_way : Stmt := top 16
abbrev sT_law_is_way : Stmt := top 19
abbrev sT_law_due : Stmt := top 20
abbrev sT_law_sign : Stmt := top 21
abbrev sT_law : Stmt := top 23
structure Tx (cl : Nv) (mg : Str → Option Value) : Prop where
  f_range : mg "range" = none
  f_len : mg "len" = none
  f_isinstance : mg "isinstance" = none
  f_list : mg "list" = none
  f_int : mg "int" = none
  f_bool : mg "bool" = none
  f_ValueError : mg "ValueError" = none
  c_ALONG : ∃ t, mg "ALONG" = some (.str ("abcde" : Str) t)
  c_AGAINST : ∃ t, mg "AGAINST" = some (.str ("ABCDE" : Str) t)
  g_NoWay : mg "NoWay" = some (.ref (cl "NoWay"))
  x_NoWay : PySem.W.excIn cl.K (cl "NoWay") He.veBase "ValueError.__new__" = true ∧ PySem.W.keepIn cl.K (.ref (cl "NoWay")) = true ∧ PySem.W.subIn cl.K (.ref (cl "NoWay")) (.type "BaseException") = some true ∧ PySem.W.typeIn cl.K (.ref (cl "NoWay")) = some (.type "type")
  n_NoMark : mg "NoMark" = some (.ref (cl "NoMark"))
  n_NoWay : mg "NoWay" = some (.ref (cl "NoWay"))
  n_NoKind : mg "NoKind" = some (.ref (cl "NoKind"))
  n_NoChart : mg "NoChart" = some (.ref (cl "NoChart"))
  n_NoChamber : mg "NoChamber" = some (.ref (cl "NoChamber"))
  n_NoHold : mg "NoHold" = some (.ref (cl "NoHold"))
  n_NoEntry : mg "NoEntry" = some (.ref (cl "NoEntry"))
  n_Full : mg "Full" = some (.ref (cl "Full"))
  n_Barred : mg "Barred" = some (.ref (cl "Barred"))
  n_NoHome : mg "NoHome" = some (.ref (cl "NoHome"))
  n_NoCave : mg "NoCave" = some (.ref (cl "NoCave"))
  n_CaveError : mg "CaveError" = some (.ref (cl "CaveError"))
  bad : ∀ x ∈ (["NoWay"] : List String), ExF cl x
  z : True
theorem sc_law_numbers : FnScope N_law_numbers P_law_numbers (defScope sT_law_numbers) := ⟨rfl, rfl, rfl, by decide +kernel, rfl, by decide +kernel, by decide +kernel⟩
theorem ok_law_numbers {P : Program} {w : World} {cl : Nv} {mg : Str → Option Value} {base : Heap} {f : Addr} {fd : FuncData} (F : FunD cl.K "_law_numbers" "_law_numbers" (defArgs sT_law_numbers) (defBody sT_law_numbers) (defScope sT_law_numbers) [] [] f fd) (T : Tx cl mg)  : FnOk P w cl.K mg base CX0 1 f fd P_law_numbers (spOf cl [.sc, .lo] (.fr .l1) G_law_numbers) := by
  have S := sc_law_numbers
  refine fn_ok (k := 0) (t := t_law_numbers cl) F S rfl (by decide) (fun W => ss_law_numbers cl W) fun cdv A outer s H E hr => ?_
  exact (pss_cons (ps_set (i := 2) S.nd rfl (by first | exact Or.inl rfl | exact Or.inr rfl) (pe_lst pa_nil)) (pss_cons (ps_set (i := 3) S.nd rfl (by first | exact Or.inl rfl | exact Or.inr rfl) pe_int) (pss_cons (ps_for PassesOwn.never rfl (pi_list (pe_slice sl_list (pv 0) po_none (po_some pe_int))) (pg_name (i := 4) S.nd rfl (by first | exact Or.inl rfl | exact Or.inr rfl)) (pss_cons (ps_set (i := 3) S.nd rfl (by first | exact Or.inl rfl | exact Or.inr rfl) (pe_op op_mod (pe_op op_addA (pe_op op_addA (pe_op op_mulA (pv 3) pe_int) (pe_op op_mod (pv 4) pe_int)) pe_int) pe_int)) (pss_cons (ps_set (i := 5) S.nd rfl (by first | exact Or.inl rfl | exact Or.inr rfl) (pe_op op_sub (pv 4) (pe_op op_pow pe_int pe_int))) (pss_cons (ps_if (pt_cmpR op_lt (pv 5) pe_int (nomark _)) (pss_one (ps_expr (pe_bm PySem.F.plainAttrs_list PySem.F.slot_list_append PySem.F.type_list_append mt_append (pv 2) (pa_cons (pe_op op_mod (pv 4) pe_int) pa_nil)))) pss_nil) (pss_one (ps_for PassesOwn.never rfl (pi_range1 rfl T.f_range (pa_cons pe_int pa_nil)) (pg_name (i := 6) S.nd rfl (by first | exact Or.inl rfl | exact Or.inr rfl)) (pss_one (ps_if (pt_cmpR op_gt (pv 5) pe_int (nomark _)) (pss_cons (ps_expr (pe_bm PySem.F.plainAttrs_list PySem.F.slot_list_append PySem.F.type_list_append mt_append (pv 2) (pa_cons (pe_op op_mod (pv 5) pe_int) pa_nil))) (pss_one (ps_set (i := 5) S.nd rfl (by first | exact Or.inl rfl | exact Or.inr rfl) (pe_op op_fdiv (pv 5) pe_int)))) pss_nil)))))))) (pss_cons (ps_while PassesOwn.never (pt_cmpR op_lt (pe_callB call_lenA (by rfl) T.f_len (by decide +kernel) (pa_cons (pv 2) pa_nil)) (pv 1) (nomark _)) (pss_cons (ps_set (i := 3) S.nd rfl (by first | exact Or.inl rfl | exact Or.inr rfl) (pe_op op_mod (pe_op op_addA (pe_op op_addA (pe_op op_addA (pe_op op_mulA (pv 3) (pv 3)) (pe_op op_mulA pe_int (pv 3))) (pe_op op_mulA pe_int (pe_callB call_lenA (by rfl) T.f_len (by decide +kernel) (pa_cons (pv 2) pa_nil)))) pe_int) pe_int)) (pss_one (ps_expr (pe_bm PySem.F.plainAttrs_list PySem.F.slot_list_append PySem.F.type_list_append mt_append (pv 2) (pa_cons (pe_op op_mod (pe_op op_fdiv (pv 3) pe_int) pe_int) pa_nil)))))) (pss_one (ps_ret (pe_slice sl_list (pv 2) po_none (po_some (pv 1)))))))))
theorem cal_law_numbers {P : Program} {w : World} {cl : Nv} {mg : Str → Option Value} {base : Heap} {f : Addr} {fd : FuncData} (F : FunD cl.K "_law_numbers" "_law_numbers" (defArgs sT_law_numbers) (defBody sT_law_numbers) (defScope sT_law_numbers) [] [] f fd) (T : Tx cl mg)  (gm : mg "_law_numbers" = some (.ref f)) : Cal P w cl mg base CX0 1 "_law_numbers" P_law_numbers (spOf cl [.sc, .lo] (.fr .l1) G_law_numbers) :=
  ⟨f, fd, gm, F.kp, F.bindsN fun _ _ _ _ _ _ us hl => (match us, hl with | [_, _], _ => rfl), ok_law_numbers F T ⟩

theorem sc_law_letters : FnScope N_law_letters P_law_letters (defScope sT_law_letters) := ⟨rfl, rfl, rfl, by decide +kernel, rfl, by decide +kernel, by decide +kernel⟩
theorem ok_law_letters {P : Program} {w : World} {cl : Nv} {mg : Str → Option Value} {base : Heap} {f : Addr} {fd : FuncData} (F : FunD cl.K "_law_letters" "_law_letters" (defArgs sT_law_letters) (defBody sT_law_letters) (defScope sT_law_letters) [] [] f fd) (T : Tx cl mg)  : FnOk P w cl.K mg base CX0 1 f fd P_law_letters (spOf cl [.lo] (.fr .n1) G_law_letters) := by
  have S := sc_law_letters
  refine fn_ok (k := 0) (t := t_law_letters cl) F S rfl (by decide) (fun W => ss_law_letters cl W) fun cdv A outer s H E hr => ?_
  exact (pss_cons (ps_if (pt_cmpR (op_eqD hr.units) (pv 0) pe_str (nomark _)) (pss_one (ps_ret (pe_lst pa_nil))) pss_nil) (pss_cons (ps_set (i := 1) S.nd rfl (by first | exact Or.inl rfl | exact Or.inr rfl) (pe_lst pa_nil)) (pss_cons (ps_for PassesOwn.never rfl (pi_str (pv 0)) (pg_name (i := 2) S.nd rfl (by first | exact Or.inl rfl | exact Or.inr rfl)) (pss_cons (ps_if (pt_cmpR op_notIn_sign (pv 2) pe_str (by rfl)) (pss_one (ps_ret pe_non)) pss_nil) (pss_cons (ps_set (i := 3) S.nd rfl (by first | exact Or.inl rfl | exact Or.inr rfl) (pe_m1 PySem.F.slot_str_find PySem.F.type_str_find mt_find pe_str (pv 2))) (pss_one (ps_expr (pe_bm PySem.F.plainAttrs_list PySem.F.slot_list_append PySem.F.type_list_append mt_append (pv 1) (pa_cons (pe_ix ix_seq (pe_lst (pa_cons (pe_op op_addA (pv 3) pe_int) (pa_cons (pe_op op_sub pe_int (pv 3)) pa_nil))) (pe_op op_fdiv (pv 3) pe_int) (fun _ _ => rfl)) pa_nil))))))) (pss_cons (ps_if (pt_cmpR (op_eqD hr.units) (pv 0) pe_str (nomark _)) (pss_one (ps_ret pe_non)) pss_nil) (pss_one (ps_ret (pv 1)))))))
theorem cal_law_letters {P : Program} {w : World} {cl : Nv} {mg : Str → Option Value} {base : Heap} {f : Addr} {fd : FuncData} (F : FunD cl.K "_law_letters" "_law_letters" (defArgs sT_law_letters) (defBody sT_law_letters) (defScope sT_law_letters) [] [] f fd) (T : Tx cl mg)  (gm : mg "_law_letters" = some (.ref f)) : Cal P w cl mg base CX0 1 "_law_letters" P_law_letters (spOf cl [.lo] (.fr .n1) G_law_letters) :=
  ⟨f, fd, gm, F.kp, F.bindsN fun _ _ _ _ _ _ us hl => (match us, hl with | [_], _ => rfl), ok_law_letters F T ⟩

theorem sc_read_way : FnScope N_read_way P_read_way (defScope sT_read_way) := ⟨rfl, rfl, rfl, by decide +kernel, rfl, by decide +kernel, by decide +kernel⟩
theorem ok_read_way {P : Program} {w : World} {cl : Nv} {mg : Str → Option Value} {base : Heap} {f : Addr} {fd : FuncData} (F : FunD cl.K "read_way" "read_way" (defArgs sT_read_way) (defBody sT_read_way) (defScope sT_read_way) [] [] f fd) (T : Tx cl mg)  : FnOk P w cl.K mg base (L2.CX P w) 1 f fd P_read_way (spOf cl [.lo] (.fr .l1) G_read_way) := by
  have S := sc_read_way
  refine fn_okX (k := 0) (t := t_read_way cl) F S rfl (by decide) (fun W => ss_read_way cl W) fun cdv A outer s H E hr => ?_
  exact (pss_cons (ps_if (pt_cmpR (op_eqD hr.units) (pv 0) pe_str (nomark _)) (pss_one (ps_ret (pe_lst pa_nil))) pss_nil) (pss_cons (ps_if (pt_cmpR (op_eqD hr.units) (pv 0) pe_str (nomark _)) (pss_one (ps_raise rfl (takes_of rfl rfl rfl rfl) (pmk_own PySem.F.excBase_ValueError T.x_NoWay.1 T.g_NoWay T.x_NoWay.2.1 (raises_own T.x_NoWay.2.2.1 T.x_NoWay.2.2.2) (by exact rfl)))) pss_nil) (pss_cons (ps_set (i := 1) S.nd rfl (by first | exact Or.inl rfl | exact Or.inr rfl) (pe_lst pa_nil)) (pss_cons (ps_for (passes_of rfl) rfl (pi_str (pv 0)) (pg_name (i := 2) S.nd rfl (by first | exact Or.inl rfl | exact Or.inr rfl)) (pss_one (ps_if (pt_cmpR op_in_sign (pv 2) (pe_glob rfl T.c_ALONG.choose_spec ⟨_, rfl⟩) (by rfl)) (pss_one (ps_expr (pe_bm PySem.F.plainAttrs_list PySem.F.slot_list_append PySem.F.type_list_append mt_append (pv 1) (pa_cons (pe_op op_addA (pe_m1 PySem.F.slot_str_find PySem.F.type_str_find mt_find (pe_glob rfl T.c_ALONG.choose_spec ⟨_, rfl⟩) (pv 2)) pe_int) pa_nil)))) (pss_one (ps_if (pt_cmpR op_in_sign (pv 2) (pe_glob rfl T.c_AGAINST.choose_spec ⟨_, rfl⟩) (by rfl)) (pss_one (ps_expr (pe_bm PySem.F.plainAttrs_list PySem.F.slot_list_append PySem.F.type_list_append mt_append (pv 1) (pa_cons (pe_op op_sub (pe_un un_neg (pe_m1 PySem.F.slot_str_find PySem.F.type_str_find mt_find (pe_glob rfl T.c_AGAINST.choose_spec ⟨_, rfl⟩) (pv 2))) pe_int) pa_nil)))) (pss_one (ps_raise rfl (takes_of rfl rfl rfl rfl) (pmk_own PySem.F.excBase_ValueError T.x_NoWay.1 T.g_NoWay T.x_NoWay.2.1 (raises_own T.x_NoWay.2.2.1 T.x_NoWay.2.2.2) (by exact rfl))))))))) (pss_one (ps_ret (pv 1)))))))
theorem cal_read_way {P : Program} {w : World} {cl : Nv} {mg : Str → Option Value} {base : Heap} {f : Addr} {fd : FuncData} (F : FunD cl.K "read_way" "read_way" (defArgs sT_read_way) (defBody sT_read_way) (defScope sT_read_way) [] [] f fd) (T : Tx cl mg)  (gm : mg "read_way" = some (.ref f)) : Cal P w cl mg base (L2.CX P w) 1 "read_way" P_read_way (spOf cl [.lo] (.fr .l1) G_read_way) :=
  ⟨f, fd, gm, F.kp, F.bindsN fun _ _ _ _ _ _ us hl => (match us, hl with | [_], _ => rfl), ok_read_way F T ⟩

theorem sc_law_is_way : FnScope N_law_is_way P_law_is_way (defScope sT_law_is_way) := ⟨rfl, rfl, rfl, by decide +kernel, rfl, by decide +kernel, by decide +kernel⟩
theorem ok_law_is_way {P : Program} {w : World} {cl : Nv} {mg : Str → Option Value} {base : Heap} {f : Addr} {fd : FuncData} (F : FunD cl.K "_law_is_way" "_law_is_way" (defArgs sT_law_is_way) (defBody sT_law_is_way) (defScope sT_law_is_way) [] [] f fd) (T : Tx cl mg)  : FnOk P w cl.K mg base CX0 1 f fd P_law_is_way (spOf cl [.lo] .pu G_law_is_way) := by
  have S := sc_law_is_way
  refine fn_ok (k := 0) (t := t_law_is_way cl) F S rfl (by decide) (fun W => ss_law_is_way cl W) fun cdv A outer s H E hr => ?_
  exact (pss_cons (ps_if (pt_not (pt_val (pe_callB call_isi (by rfl) T.f_isinstance (by decide +kernel) (pa_cons (pv 0) (pa_cons (pe_bltn (v := .ty "list") (by rfl) T.f_list (by decide +kernel) rfl) pa_nil))))) (pss_one (ps_ret pe_bl)) pss_nil) (pss_cons (ps_for PassesOwn.never rfl (pi_list (pv 0)) (pg_name (i := 1) S.nd rfl (by first | exact Or.inl rfl | exact Or.inr rfl)) (pss_one (ps_if (PW.pt (pw_or (pt_not (pt_val (pe_callB call_isi (by rfl) T.f_isinstance (by decide +kernel) (pa_cons (pv 1) (pa_cons (pe_bltn (v := .ty "int") (by rfl) T.f_int (by decide +kernel) rfl) pa_nil))))) (pw_or1 (pt_val (pe_callB call_isi (by rfl) T.f_isinstance (by decide +kernel) (pa_cons (pv 1) (pa_cons (pe_bltn (v := .ty "bool") (by rfl) T.f_bool (by decide +kernel) rfl) pa_nil))))))) (pss_one (ps_ret pe_bl)) pss_nil))) (pss_one (ps_ret pe_bl))))
theorem cal_law_is_way {P : Program} {w : World} {cl : Nv} {mg : Str → Option Value} {base : Heap} {f : Addr} {fd : FuncData} (F : FunD cl.K "_law_is_way" "_law_is_way" (defArgs sT_law_is_way) (defBody sT_law_is_way) (defScope sT_law_is_way) [] [] f fd) (T : Tx cl mg)  (gm : mg "_law_is_way" = some (.ref f)) : Cal P w cl mg base CX0 1 "_law_is_way" P_law_is_way (spOf cl [.lo] .pu G_law_is_way) :=
  ⟨f, fd, gm, F.kp, F.bindsN fun _ _ _ _ _ _ us hl => (match us, hl with | [_], _ => rfl), ok_law_is_way F T ⟩

theorem sc_law_due : FnScope N_law_due P_law_due (defScope sT_law_due) := ⟨rfl, rfl, rfl, by decide +kernel, rfl, by decide +kernel, by decide +kernel⟩
theorem ok_law_due {P : Program} {w : World} {cl : Nv} {mg : Str → Option Value} {base : Heap} {f : Addr} {fd : FuncData} (F : FunD cl.K "_law_due" "_law_due" (defArgs sT_law_due) (defBody sT_law_due) (defScope sT_law_due) [] [] f fd) (T : Tx cl mg)  : FnOk P w cl.K mg base CX0 1 f fd P_law_due (spOf cl [.lo] .pu G_law_due) := by
  have S := sc_law_due
  refine fn_ok (k := 0) (t := t_law_due cl) F S rfl (by decide) (fun W => ss_law_due cl W) fun cdv A outer s H E hr => ?_
  exact (pss_cons (ps_set (i := 1) S.nd rfl (by first | exact Or.inl rfl | exact Or.inr rfl) (pe_lst (pa_cons pe_str (pa_cons pe_str (pa_cons pe_str (pa_cons pe_str (pa_cons pe_str (pa_cons pe_str (pa_cons pe_str (pa_cons pe_str (pa_cons pe_str (pa_cons pe_str pa_nil)))))))))))) (pss_one (ps_ret (pe_op op_addA (pe_lst (pa_cons pe_bl pa_nil)) (pe_lc (own := [(("_law_name" : Str), 2)]) (g := gName 2) rfl S.nd (pi_list (pe_op op_addA (pv 1) (pe_lst (pa_cons pe_str pa_nil)))) (blkOk_by (N := N_law_due) (sc := defScope sT_law_due) (own := [(("_law_name" : Str), 2)]) (by decide +kernel)) (fun _ _ _ _ _ => pg_name (i := 2) S.nd rfl (by first | exact Or.inl rfl | exact Or.inr rfl)) (fun _ _ _ _ _ => pts_nil) (fun _ _ _ _ _ => (pe_cmpR (op_eqD hr.units) (pv 2) (pv 0) (nomark _))))))))
theorem cal_law_due {P : Program} {w : World} {cl : Nv} {mg : Str → Option Value} {base : Heap} {f : Addr} {fd : FuncData} (F : FunD cl.K "_law_due" "_law_due" (defArgs sT_law_due) (defBody sT_law_due) (defScope sT_law_due) [] [] f fd) (T : Tx cl mg)  (gm : mg "_law_due" = some (.ref f)) : Cal P w cl mg base CX0 1 "_law_due" P_law_due (spOf cl [.lo] .pu G_law_due) :=
  ⟨f, fd, gm, F.kp, F.bindsN fun _ _ _ _ _ _ us hl => (match us, hl with | [_], _ => rfl), ok_law_due F T ⟩

theorem sc_law_sign : FnScope N_law_sign P_law_sign (defScope sT_law_sign) := ⟨rfl, rfl, rfl, by decide +kernel, rfl, by decide +kernel, by decide +kernel⟩
theorem ok_law_sign {P : Program} {w : World} {cl : Nv} {mg : Str → Option Value} {base : Heap} {f : Addr} {fd : FuncData} (F : FunD cl.K "_law_sign" "_law_sign" (defArgs sT_law_sign) (defBody sT_law_sign) (defScope sT_law_sign) [] [] f fd) (T : Tx cl mg)  : FnOk P w cl.K mg base CX0 1 f fd P_law_sign (spOf cl [.lo] .pu G_law_sign) := by
  have S := sc_law_sign
  refine fn_ok (k := 0) (t := t_law_sign cl) F S rfl (by decide) (fun W => ss_law_sign cl W) fun cdv A outer s H E hr => ?_
  exact (pss_cons (ps_set (i := 1) S.nd rfl (by first | exact Or.inl rfl | exact Or.inr rfl) pe_str) (pss_cons (ps_set (i := 1) S.nd rfl (by first | exact Or.inl rfl | exact Or.inr rfl) (pe_op op_addA (pv 1) pe_str)) (pss_one (ps_ret (pe_ix ix_seq (pv 1) (pe_op op_mod (pv 0) pe_int) (fun _ _ => rfl))))))
theorem cal_law_sign {P : Program} {w : World} {cl : Nv} {mg : Str → Option Value} {base : Heap} {f : Addr} {fd : FuncData} (F : FunD cl.K "_law_sign" "_law_sign" (defArgs sT_law_sign) (defBody sT_law_sign) (defScope sT_law_sign) [] [] f fd) (T : Tx cl mg)  (gm : mg "_law_sign" = some (.ref f)) : Cal P w cl mg base CX0 1 "_law_sign" P_law_sign (spOf cl [.lo] .pu G_law_sign) :=
  ⟨f, fd, gm, F.kp, F.bindsN fun _ _ _ _ _ _ us hl => (match us, hl with | [_], _ => rfl), ok_law_sign F T ⟩

theorem sc_law : FnScope N_law P_law (defScope sT_law) := ⟨rfl, rfl, rfl, by decide +kernel, rfl, by decide +kernel, by decide +kernel⟩
theorem ok_law {P : Program} {w : World} {cl : Nv} {mg : Str → Option Value} {base : Heap} {f : Addr} {fd : FuncData} (F : FunD cl.K "law" "law" (defArgs sT_law) (defBody sT_law) (defScope sT_law) [] [] f fd) (T : Tx cl mg) (hlaw_numbers : Cal P w cl mg base CX0 1 "_law_numbers" P_law_numbers (spOf cl [.sc, .lo] (.fr .l1) G_law_numbers)) (hlaw_sign : Cal P w cl mg base CX0 1 "_law_sign" P_law_sign (spOf cl [.lo] .pu G_law_sign)) (hlaw_letters : Cal P w cl mg base CX0 1 "_law_letters" P_law_letters (spOf cl [.lo] (.fr .n1) G_law_letters)) (hread_way : Cal P w cl mg base (L2.CX P w) 1 "read_way" P_read_way (spOf cl [.lo] (.fr .l1) G_read_way)) (hlaw_due : Cal P w cl mg base CX0 1 "_law_due" P_law_due (spOf cl [.lo] .pu G_law_due)) (hlaw_is_way : Cal P w cl mg base CX0 1 "_law_is_way" P_law_is_way (spOf cl [.lo] .pu G_law_is_way)) : FnOk P w cl.K mg base CX0 2 f fd P_law (spOf cl [.sc] .pu G_law) := by
  obtain ⟨flaw_numbers, fdlaw_numbers, glaw_numbers, klaw_numbers, blaw_numbers, Glaw_numbers⟩ := hlaw_numbers
  obtain ⟨flaw_sign, fdlaw_sign, glaw_sign, klaw_sign, blaw_sign, Glaw_sign⟩ := hlaw_sign
  obtain ⟨flaw_letters, fdlaw_letters, glaw_letters, klaw_letters, blaw_letters, Glaw_letters⟩ := hlaw_letters
  obtain ⟨fread_way, fdread_way, gread_way, kread_way, bread_way, Gread_way⟩ := hread_way
  obtain ⟨flaw_due, fdlaw_due, glaw_due, klaw_due, blaw_due, Glaw_due⟩ := hlaw_due
  obtain ⟨flaw_is_way, fdlaw_is_way, glaw_is_way, klaw_is_way, blaw_is_way, Glaw_is_way⟩ := hlaw_is_way
  have S := sc_law
  refine fn_ok (k := 1) (t := t_law cl) F S rfl (by decide) (fun W => ss_law cl W T.bad) fun cdv A outer s H E hr => ?_
  exact (pss_cons (ps_set (i := 1) S.nd rfl (by first | exact Or.inl rfl | exact Or.inr rfl) (pe_call Glaw_numbers (hr.mono (by decide)) (by rfl) glaw_numbers klaw_numbers blaw_numbers .nil pass0 (pa_cons (pv 0) (pa_cons pe_int pa_nil)))) (pss_cons (ps_set (i := 2) S.nd rfl (by first | exact Or.inl rfl | exact Or.inr rfl) (pe_m1 PySem.F.slot_str_join PySem.F.type_str_join mt_join pe_str (pe_lc (own := [(("_law_d" : Str), 3)]) (g := gName 3) rfl S.nd (pi_list (pe_slice sl_list (pv 1) (po_some pe_int) (po_some (pe_op op_addA pe_int (pe_op op_mod (pe_ix ix_seq (pv 1) pe_int (fun _ _ => rfl)) pe_int))))) (blkOk_by (N := N_law) (sc := defScope sT_law) (own := [(("_law_d" : Str), 3)]) (by decide +kernel)) (fun _ _ _ _ _ => pg_name (i := 3) S.nd rfl (by first | exact Or.inl rfl | exact Or.inr rfl)) (fun _ _ _ _ _ => pts_nil) (fun _ _ _ _ _ => (pe_ix ix_seq pe_str (pe_op op_mod (pv 3) pe_int) (fun _ _ => rfl)))))) (pss_cons (ps_if (pt_cmpR (op_eqD hr.units) (pe_op op_mod (pe_ix ix_seq (pv 1) pe_int (fun _ _ => rfl)) pe_int) pe_int (nomark _)) (pss_cons (ps_set (i := 4) S.nd rfl (by first | exact Or.inl rfl | exact Or.inr rfl) (pe_op op_mod (pe_ix ix_seq (pv 1) pe_int (fun _ _ => rfl)) (pe_op op_addA (pe_callB call_lenA (by rfl) T.f_len (by decide +kernel) (pa_cons (pv 2) pa_nil)) pe_int))) (pss_one (ps_set (i := 2) S.nd rfl (by first | exact Or.inl rfl | exact Or.inr rfl) (pe_op op_addA (pe_op op_addA (pe_slice sl_str (pv 2) po_none (po_some (pv 4))) (pe_call Glaw_sign (hr.mono (by decide)) (by rfl) glaw_sign klaw_sign blaw_sign .nil pass0 (pa_cons (pe_ix ix_seq (pv 1) pe_int (fun _ _ => rfl)) pa_nil))) (pe_slice sl_str (pv 2) (po_some (pv 4)) po_none))))) pss_nil) (pss_cons (ps_if (pt_cmpR (op_eqD hr.units) (pe_op op_mod (pe_ix ix_seq (pv 1) pe_int (fun _ _ => rfl)) pe_int) pe_int (nomark _)) (pss_one (ps_set (i := 2) S.nd rfl (by first | exact Or.inl rfl | exact Or.inr rfl) pe_str)) pss_nil) (pss_cons (ps_if (pt_cmpR (op_eqD hr.units) (pe_op op_mod (pe_ix ix_seq (pv 1) pe_int (fun _ _ => rfl)) pe_int) pe_int (nomark _)) (pss_one (ps_set (i := 2) S.nd rfl (by first | exact Or.inl rfl | exact Or.inr rfl) pe_str)) pss_nil) (pss_cons (ps_set (i := 5) S.nd rfl (by first | exact Or.inl rfl | exact Or.inr rfl) (pe_call Glaw_letters (hr.mono (by decide)) (by rfl) glaw_letters klaw_letters blaw_letters .nil pass0 (pa_cons (pv 2) pa_nil))) (pss_cons (ps_set (i := 6) S.nd rfl (by first | exact Or.inl rfl | exact Or.inr rfl) pe_non) (pss_cons (ps_set (i := 7) S.nd rfl (by first | exact Or.inl rfl | exact Or.inr rfl) (pe_lst pa_nil)) (pss_cons (ps_try_as (i := 8) (tb := fun W => (tAsg (tCallS (spOf cl [.lo] (.fr .l1) G_read_way) (WE W) (tCons (tVar 2) tNil)) (gName 6))) (ts := tsBad cl ["NoWay"] 8 7) (Wout := wNo) rfl rfl S.nd rfl rfl ⟨rfl, by decide, .inl T.n_CaveError⟩ takes0 (fun W pn xe tk _ => (pss_one (ps_set (i := 6) S.nd rfl (by first | exact Or.inl rfl | exact Or.inr rfl) (pe_callS Gread_way (hr.mono (by decide)) (by rfl) gread_way kread_way bread_way (fun σ => passAt tk σ) (pa_cons (pv 2) pa_nil))))) (fun a oe cls d pn hz hf => pss_known fun x hx e1 e2 => by subst e1 e2; exact (pss_cons (ps_set (i := 7) S.nd rfl (by first | exact Or.inl rfl | exact Or.inr rfl) (pe_lst (pa_cons (pe_callB (call_isE (T.bad x hx).exc hz hf) (by rfl) T.f_isinstance (by decide +kernel) (pa_cons (pv 8) (pa_cons (pe_bltn (v := .ty "ValueError") (by rfl) T.f_ValueError (by decide +kernel) rfl) pa_nil))) (pa_cons (pe_callB (call_isE (T.bad x hx).exc hz hf) (by rfl) T.f_isinstance (by decide +kernel) (pa_cons (pv 8) (pa_cons (pe_glob (by rfl) T.n_NoKind rfl) pa_nil))) (pa_cons (pe_callB (call_isE (T.bad x hx).exc hz hf) (by rfl) T.f_isinstance (by decide +kernel) (pa_cons (pv 8) (pa_cons (pe_glob (by rfl) T.n_NoWay rfl) pa_nil))) (pa_cons (pe_callB (call_isE (T.bad x hx).exc hz hf) (by rfl) T.f_isinstance (by decide +kernel) (pa_cons (pv 8) (pa_cons (pe_glob (by rfl) T.n_NoMark rfl) pa_nil))) pa_nil)))))) (pss_cons (ps_set (i := 7) S.nd rfl (by first | exact Or.inl rfl | exact Or.inr rfl) (pe_op op_addA (pv 7) (pe_lst (pa_cons (pe_callB (call_isE (T.bad x hx).exc hz hf) (by rfl) T.f_isinstance (by decide +kernel) (pa_cons (pv 8) (pa_cons (pe_glob (by rfl) T.n_NoEntry rfl) pa_nil))) (pa_cons (pe_callB (call_isE (T.bad x hx).exc hz hf) (by rfl) T.f_isinstance (by decide +kernel) (pa_cons (pv 8) (pa_cons (pe_glob (by rfl) T.n_NoHold rfl) pa_nil))) (pa_cons (pe_callB (call_isE (T.bad x hx).exc hz hf) (by rfl) T.f_isinstance (by decide +kernel) (pa_cons (pv 8) (pa_cons (pe_glob (by rfl) T.n_NoChamber rfl) pa_nil))) (pa_cons (pe_callB (call_isE (T.bad x hx).exc hz hf) (by rfl) T.f_isinstance (by decide +kernel) (pa_cons (pv 8) (pa_cons (pe_glob (by rfl) T.n_NoChart rfl) pa_nil))) pa_nil))))))) (pss_one (ps_set (i := 7) S.nd rfl (by first | exact Or.inl rfl | exact Or.inr rfl) (pe_op op_addA (pv 7) (pe_lst (pa_cons (pe_callB (call_isE (T.bad x hx).exc hz hf) (by rfl) T.f_isinstance (by decide +kernel) (pa_cons (pv 8) (pa_cons (pe_glob (by rfl) T.n_NoCave rfl) pa_nil))) (pa_cons (pe_callB (call_isE (T.bad x hx).exc hz hf) (by rfl) T.f_isinstance (by decide +kernel) (pa_cons (pv 8) (pa_cons (pe_glob (by rfl) T.n_NoHome rfl) pa_nil))) (pa_cons (pe_callB (call_isE (T.bad x hx).exc hz hf) (by rfl) T.f_isinstance (by decide +kernel) (pa_cons (pv 8) (pa_cons (pe_glob (by rfl) T.n_Barred rfl) pa_nil))) (pa_cons (pe_callB (call_isE (T.bad x hx).exc hz hf) (by rfl) T.f_isinstance (by decide +kernel) (pa_cons (pv 8) (pa_cons (pe_glob (by rfl) T.n_Full rfl) pa_nil))) pa_nil)))))))))))) (pss_cons (ps_if (pt_cmpR op_isN (pv 5) pe_non (nomark _)) (pss_one (ps_ret (pe_cmpR (op_eqD hr.units) (pv 7) (pe_call Glaw_due (hr.mono (by decide)) (by rfl) glaw_due klaw_due blaw_due .nil pass0 (pa_cons pe_str pa_nil)) (nomark _)))) pss_nil) (pss_one (ps_ret (pe_and (pe_cmpR (op_eqD hr.units) (pv 7) (pe_lst pa_nil) (nomark _)) (pe_and (pe_call Glaw_is_way (hr.mono (by decide)) (by rfl) glaw_is_way klaw_is_way blaw_is_way .nil pass0 (pa_cons (pv 6) pa_nil)) (pe_one (pe_cmpR (op_eqD hr.units) (pv 6) (pv 5) (nomark _)))))))))))))))))
theorem cal_law {P : Program} {w : World} {cl : Nv} {mg : Str → Option Value} {base : Heap} {f : Addr} {fd : FuncData} (F : FunD cl.K "law" "law" (defArgs sT_law) (defBody sT_law) (defScope sT_law) [] [] f fd) (T : Tx cl mg) (hlaw_numbers : Cal P w cl mg base CX0 1 "_law_numbers" P_law_numbers (spOf cl [.sc, .lo] (.fr .l1) G_law_numbers)) (hlaw_sign : Cal P w cl mg base CX0 1 "_law_sign" P_law_sign (spOf cl [.lo] .pu G_law_sign)) (hlaw_letters : Cal P w cl mg base CX0 1 "_law_letters" P_law_letters (spOf cl [.lo] (.fr .n1) G_law_letters)) (hread_way : Cal P w cl mg base (L2.CX P w) 1 "read_way" P_read_way (spOf cl [.lo] (.fr .l1) G_read_way)) (hlaw_due : Cal P w cl mg base CX0 1 "_law_due" P_law_due (spOf cl [.lo] .pu G_law_due)) (hlaw_is_way : Cal P w cl mg base CX0 1 "_law_is_way" P_law_is_way (spOf cl [.lo] .pu G_law_is_way)) (gm : mg "law" = some (.ref f)) : Cal P w cl mg base CX0 2 "law" P_law (spOf cl [.sc] .pu G_law) :=
  ⟨f, fd, gm, F.kp, F.bindsN fun _ _ _ _ _ _ us hl => (match us, hl with | [_], _ => rfl), ok_law F T hlaw_numbers hlaw_sign hlaw_letters hread_way hlaw_due hlaw_is_way⟩

def dN : List He.DefD := [⟨("_law_numbers", none), "_law_numbers", "_law_numbers", defArgs sT_law_numbers, defBody sT_law_numbers, defScope sT_law_numbers, [], []⟩,
  ⟨("_law_letters", none), "_law_letters", "_law_letters", defArgs sT_law_letters, defBody sT_law_letters, defScope sT_law_letters, [], []⟩,
  ⟨("read_way", none), "read_way", "read_way", defArgs sT_read_way, defBody sT_read_way, defScope sT_read_way, [], []⟩,
  ⟨("_law_is_way", none), "_law_is_way", "_law_is_way", defArgs sT_law_is_way, defBody sT_law_is_way, defScope sT_law_is_way, [], []⟩,
  ⟨("_law_due", none), "_law_due", "_law_due", defArgs sT_law_due, defBody sT_law_due, defScope sT_law_due, [], []⟩,
  ⟨("_law_sign", none), "_law_sign", "_law_sign", defArgs sT_law_sign, defBody sT_law_sign, defScope sT_law_sign, [], []⟩,
  ⟨("law", none), "law", "law", defArgs sT_law, defBody sT_law, defScope sT_law, [], []⟩]
def fA : List He.Fa := [.glo "_law_numbers", .glo "_law_letters", .glo "read_way", .glo "_law_is_way", .glo "_law_due", .glo "_law_sign", .glo "law", .free "range", .free "len", .free "isinstance", .free "list", .free "int", .free "bool", .free "ValueError", .str "ALONG" ("abcde" : Str), .str "AGAINST" ("ABCDE" : Str), .glo "NoWay", .exc "NoWay", .glo "NoMark", .glo "NoWay", .glo "NoKind", .glo "NoChart", .glo "NoChamber", .glo "NoHold", .glo "NoEntry", .glo "Full", .glo "Barred", .glo "NoHome", .glo "NoCave", .glo "CaveError"]
abbrev Rw : PySem.W.OpenRow := PySem.W.OpenLaw.row PySem.Challenge.rw_chalkcave_k08_texts_that_write_no_way
def exq (K : PySem.W.Frag) : Bool := (["NoWay"] : List String).all fun x => exOk ⟨fun x => He.ga K (x : Str), K⟩ x
abbrev hk : PySem.W.Hook := hookQ 4 fA dN exq
def ob (s : PySem.W.SharedT) : He.AlD × Bool := obsQ 4 fA dN exq (HandSHeadRun.getT s)
theorem ob_eq (s : PySem.W.SharedT) : ob s = hk.obs s.abs := obsQ_eq (HandSHeadRun.getT_eq s)
def loose : List Str := ["CaveError", "NoKind", "NoWay", "NoMark", "NoEntry", "NoHold", "NoChamber", "NoChart", "NoCave", "NoHome", "Barred", "Full", "ALONG", "AGAINST", "read_way", "_law_numbers", "_law_is_way", "_law_due", "_law_sign", "_law_letters"]
theorem run (w : World) : HandSHeadRun.RunEq Rw (PySem.W.view Rw.prog [23]) hk ob 8000 loose w := by
  intro os
  kernel_rfl
theorem facts {P : Program} {w : World} {K : PySem.W.Frag} {h : Heap} {mg : Str → Option Value} {f : Addr} (X : K.In h) (G : h.Ns mainGlobals mg) (hfa : mg ("law" : Str) = some (.ref f)) (c : He.SaysD fA dN K) (cq : exq K = true) :
    ∃ fd : FuncData, (∀ (s : Shared) (v : Value), BindsTo s fd ⟨[v], []⟩ [("_law_script", v)]) ∧ ∀ base : Heap, K.In base → base.Ns mainGlobals mg → FnOk P w K mg base CX0 2 f fd ["_law_script"] (spOf ⟨fun x => He.ga K (x : Str), K⟩ [.sc] .pu G_law) := by
  let cl : Nv := ⟨fun x => He.ga K (x : Str), K⟩
  obtain ⟨fd0, F0⟩ := c.def_ 0 rfl
  have g0 := He.glo_ok X G (c.fact 0 (f := .glo "_law_numbers") rfl)
  obtain ⟨fd1, F1⟩ := c.def_ 1 rfl
  have g1 := He.glo_ok X G (c.fact 1 (f := .glo "_law_letters") rfl)
  obtain ⟨fd2, F2⟩ := c.def_ 2 rfl
  have g2 := He.glo_ok X G (c.fact 2 (f := .glo "read_way") rfl)
  obtain ⟨fd3, F3⟩ := c.def_ 3 rfl
  have g3 := He.glo_ok X G (c.fact 3 (f := .glo "_law_is_way") rfl)
  obtain ⟨fd4, F4⟩ := c.def_ 4 rfl
  have g4 := He.glo_ok X G (c.fact 4 (f := .glo "_law_due") rfl)
  obtain ⟨fd5, F5⟩ := c.def_ 5 rfl
  have g5 := He.glo_ok X G (c.fact 5 (f := .glo "_law_sign") rfl)
  obtain ⟨fd6, F6⟩ := c.def_ 6 rfl
  have g6 := He.glo_ok X G (c.fact 6 (f := .glo "law") rfl)
  have T : Tx cl mg := ⟨He.free_ok X G (c.fact 7 (f := .free "range") rfl), He.free_ok X G (c.fact 8 (f := .free "len") rfl), He.free_ok X G (c.fact 9 (f := .free "isinstance") rfl), He.free_ok X G (c.fact 10 (f := .free "list") rfl), He.free_ok X G (c.fact 11 (f := .free "int") rfl), He.free_ok X G (c.fact 12 (f := .free "bool") rfl), He.free_ok X G (c.fact 13 (f := .free "ValueError") rfl), He.str_ok X G (c.fact 14 (f := .str "ALONG" ("abcde" : Str)) rfl), He.str_ok X G (c.fact 15 (f := .str "AGAINST" ("ABCDE" : Str)) rfl), He.glo_ok X G (c.fact 16 (f := .glo "NoWay") rfl), He.exc_ok (c.fact 17 (f := .exc "NoWay") rfl), He.glo_ok X G (c.fact 18 (f := .glo "NoMark") rfl), He.glo_ok X G (c.fact 19 (f := .glo "NoWay") rfl), He.glo_ok X G (c.fact 20 (f := .glo "NoKind") rfl), He.glo_ok X G (c.fact 21 (f := .glo "NoChart") rfl), He.glo_ok X G (c.fact 22 (f := .glo "NoChamber") rfl), He.glo_ok X G (c.fact 23 (f := .glo "NoHold") rfl), He.glo_ok X G (c.fact 24 (f := .glo "NoEntry") rfl), He.glo_ok X G (c.fact 25 (f := .glo "Full") rfl), He.glo_ok X G (c.fact 26 (f := .glo "Barred") rfl), He.glo_ok X G (c.fact 27 (f := .glo "NoHome") rfl), He.glo_ok X G (c.fact 28 (f := .glo "NoCave") rfl), He.glo_ok X G (c.fact 29 (f := .glo "CaveError") rfl), fun x hx => exF_of (List.all_eq_true.mp cq x hx), trivial⟩
  have e := hfa.symm.trans g6
  cases e
  have b := FunD.bindsA (ps := ["_law_script"]) F6 fun _ _ _ _ _ _ us hl => (match us, hl with | [_], _ => rfl)
  refine ⟨fd6, fun s v => b s [v] rfl, fun base _ _ => ?_⟩
  have c_law_numbers := cal_law_numbers (P := P) (w := w) (cl := cl) (base := base) F0 T  g0
  have c_law_letters := cal_law_letters (P := P) (w := w) (cl := cl) (base := base) F1 T  g1
  have c_read_way := cal_read_way (P := P) (w := w) (cl := cl) (base := base) F2 T  g2
  have c_law_is_way := cal_law_is_way (P := P) (w := w) (cl := cl) (base := base) F3 T  g3
  have c_law_due := cal_law_due (P := P) (w := w) (cl := cl) (base := base) F4 T  g4
  have c_law_sign := cal_law_sign (P := P) (w := w) (cl := cl) (base := base) F5 T  g5
  exact ok_law (cl := cl) F6 T c_law_numbers c_law_sign c_law_letters c_read_way c_law_due c_law_is_way
end Lw
open PySem PySem.W PySem.Calls PyProof.Rows
set_option maxHeartbeats 0 in
theorem PySem.Challenge.cw_chalkcave_k08_texts_that_write_no_way_holds : PySem.Challenge.rw_chalkcave_k08_texts_that_write_no_way.Holds := by
  w_on; o_law
  refine HandSHeadRun.head_any (r := OpenLaw.row PySem.Challenge.rw_chalkcave_k08_texts_that_write_no_way) (q := view (OpenLaw.row PySem.Challenge.rw_chalkcave_k08_texts_that_write_no_way).prog [23]) (H := Lw.hk) (ob := Lw.ob) (M := 8000) (loose := Lw.loose) (d := HandSHeadRun.topDef (OpenLaw.row PySem.Challenge.rw_chalkcave_k08_texts_that_write_no_way).prog 23) (kwd := []) Lw.ob_eq
    (by kernel_rfl) (fun s => by kernel_rfl) Lw.run (by kernel_rfl) (by kernel_rfl) (by kernel_rfl) (by rfl) (by first | assumption | decide +kernel) (by decide +kernel) ⟨rfl, rfl, rfl, rfl, rfl, by decide +kernel⟩ ?hw ?hc
  case hw => w_witness2
  case hc =>
    refine L2.walk_ofE (l := PySem.Challenge.rw_chalkcave_k08_texts_that_write_no_way) (n := 63) (k := 2) (x := "_law_script") (CX := L2.CX0) rfl (by decide) (by kernel_rfl) ⟨rfl, by decide, by decide⟩ ?F (fun _ _ _ _ z => z)
    intro w mg fa h Y G hmg0
    obtain ⟨K, KX, c, cq⟩ := Y
    have hmg : mg ("law" : PySem.Str) = some (.ref fa) := by
      have e : (HandSHeadRun.topDef (OpenLaw.row PySem.Challenge.rw_chalkcave_k08_texts_that_write_no_way).prog 23).name = ("law" : PySem.Str) := by kernel_rfl
      rw [← e]
      exact hmg0
    obtain ⟨fd, hb, hF⟩ := Lw.facts (P := (PySem.Challenge.rw_chalkcave_k08_texts_that_write_no_way).prog) (w := w) KX G hmg c cq
    exact ⟨K, fd, _, KX, hb, fun H a ns _ _ hS => Mv.law_sp (cl := ⟨fun x => He.ga K (x : PySem.Str), K⟩) hS (Lw.law_eq ns), hF⟩

