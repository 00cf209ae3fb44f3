import PyProof.Rows.All
import Wide.All
import OpenK.AllK
import Wide.FinOn
import HandS.ForMost
import HandS.ForExc
import HandS.SortOrd
import HandS.Deep
import HandS.IsInst
import HandS.Defaults
import HandS.TupAny
import HandS.TupMul
import HandS.Style
import HandS.Wide
import HandS.WordsExc
import KE.SortData
import KE.DataEq
import KE.DataCmp
import HandS.NoneIn
import KE.DataMinMax
import KE.KTupSum
import KE.GoesEnum
import HandS.Head0
import HandS.Head1
import HandS.Head2
import HandS.HeadEnd
import HandS.HeadHook1
import HandS.HeadHook2
import HandS.More
import HandS.DictTup
import HandS.WordsDict
import HandS.Small
import HandS.TupLen
import HandS.TupLe
import HandS.Zip
import HandS.Conv
import HandS.Strs
import HandS.WideBits
import HandS.Text
import PySem.Challenge.RW_loopstore_k08_whole_entries_of_tables
set_option Elab.async false
set_option linter.all false
set_option maxRecDepth 100000
set_option maxHeartbeats 4000000
set_option autoImplicit false
namespace Pu
open PySem L2

/-! ## plain data -/
inductive D where
  | non | bl (b : Bool) | int (i : Int) | str (x : Str) | tup (xs : List D) | lst (xs : List D) | dct (t : Bool) (kvs : List (D × D)) | ins (c : Str) (fs : List (Str × D)) | scr (ns : List Int) | tpl (ns : List Int)
inductive VD where
  | val (d : D) | own (d : D) | peek (d : D) | tape
abbrev Env := List (Option VD)
abbrev Tp := Option D
inductive Rs (A : Type) where
  | ok (a : A) | exc (c : Str) (fs : List (Str × D)) (t : Tp) (r : Env) | stuck
namespace Rs
def bind {A B : Type} (x : Rs A) (f : A → Rs B) : Rs B := match x with
  | .ok a => f a
  | .exc c fs t r => .exc c fs t r
  | .stuck => .stuck
@[simp] theorem bind_ok {A B : Type} (a : A) (f : A → Rs B) : (Rs.ok a).bind f = f a := rfl
@[simp] theorem bind_exc {A B : Type} (c : Str) (fs : List (Str × D)) (t : Tp) (r : Env) (f : A → Rs B) : (Rs.exc c fs t r).bind f = .exc c fs t r := rfl
@[simp] theorem bind_stuck {A B : Type} (f : A → Rs B) : (Rs.stuck : Rs A).bind f = .stuck := rfl
end Rs
abbrev DE := Env → Tp → Rs (VD × Tp)

def kD : Key → D
  | .inl i => .int i
  | .inr x => .str x

/-! ## data in the heap -/
section
variable (K : PySem.W.Frag) (mg : Str → Option Value) (S : Addr → Prop) (H : Hp)
mutual
inductive Rep : V → D → Prop
  | non : Rep .non .non
  | bl (b : Bool) : Rep (.bl b) (.bl b)
  | int (i : Int) : Rep (.int i) (.int i)
  | str (x : Str) : Rep (.str x) (.str x)
  | tup {a : Addr} {vs : List V} {ds : List D} : ¬ S a → H a = some (.tup vs) → vs.length ≤ sizeLine → Reps vs ds → Rep (.ref a) (.tup ds)
  | lst {a : Addr} {vs : List V} {ds : List D} : ¬ S a → H a = some (.lst vs) → vs.length ≤ sizeLine → Reps vs ds → Rep (.ref a) (.lst ds)
  | dK {a : Addr} {kvs : List (Key × V)} {ds : List (D × D)} : ¬ S a → H a = some (.dK kvs) → kvs.length ≤ sizeLine → ds.map (·.1) = kvs.map (fun p => kD p.1) → Reps (kvs.map (·.2)) (ds.map (·.2)) → Rep (.ref a) (.dct false ds)
  | dT {a : Addr} {kvs : List (List Key × V)} {ds : List (D × D)} : ¬ S a → H a = some (.dT kvs) → kvs.length ≤ sizeLine → ds.map (·.1) = kvs.map (fun p => D.tup (p.1.map kD)) → Reps (kvs.map (·.2)) (ds.map (·.2)) → Rep (.ref a) (.dct true ds)
  | ins {a C dx : Addr} {fs : List (Str × V)} {ds : List (Str × D)} {c : Str} : ¬ S a → H a = some (.ins C dx fs) → mg c = some (.ref C) → ds.map (·.1) = fs.map (·.1) → Reps (fs.map (·.2)) (ds.map (·.2)) → Rep (.ref a) (.ins c ds)
  | scr {a : Addr} {u : HO} {ns : List Int} : ¬ S a → H a = some u → (∀ H', H' a = some u → SqL K H' a (ns.map V.int)) → ns.length ≤ sizeLine → Rep (.ref a) (.scr ns)
  | scrK {a : Addr} {ns : List Int} : (∀ H', SqL K H' a (ns.map V.int)) → ns.length ≤ sizeLine → Rep (.ref a) (.scr ns)
  | tpl {a : Addr} {o : Obj} {ns : List Int} : ¬ S a → H a = some (.frz o (.tup (ns.map V.int))) → o.cls = .type "tuple" → o.dict = none → ns.length ≤ sizeLine → Rep (.ref a) (.tpl ns)
inductive Reps : List V → List D → Prop
  | nil : Reps [] []
  | cons {v : V} {vs : List V} {d : D} {ds : List D} : Rep v d → Reps vs ds → Reps (v :: vs) (d :: ds)
end
/-- what stands at an owned address -/
inductive OwnAt : Addr → D → Prop
  | lst {p : Addr} {vs : List V} {ds : List D} : H p = some (.lst vs) → vs.length ≤ sizeLine → Reps K mg S H vs ds → OwnAt p (.lst ds)
  | dK {p : Addr} {kvs : List (Key × V)} {ds : List (D × D)} : H p = some (.dK kvs) → kvs.length ≤ sizeLine → ds.map (·.1) = kvs.map (fun q => kD q.1) → Reps K mg S H (kvs.map (·.2)) (ds.map (·.2)) → OwnAt p (.dct false ds)
  | dT {p : Addr} {kvs : List (List Key × V)} {ds : List (D × D)} : H p = some (.dT kvs) → kvs.length ≤ sizeLine → ds.map (·.1) = kvs.map (fun q => D.tup (q.1.map kD)) → Reps K mg S H (kvs.map (·.2)) (ds.map (·.2)) → OwnAt p (.dct true ds)
  | ins {p C dx : Addr} {fs : List (Str × V)} {ds : List (Str × D)} {c : Str} : H p = some (.ins C dx fs) → mg c = some (.ref C) → ds.map (·.1) = fs.map (·.1) → Reps K mg S H (fs.map (·.2)) (ds.map (·.2)) → OwnAt p (.ins c ds)
end

section
variable {K : PySem.W.Frag} {mg : Str → Option Value} {S S' : Addr → Prop} {H H' : Hp}
/-! the rule of change: what is not in S stays; no address that is read comes into S' -/
mutual
theorem Rep.go (k : ∀ a o, H a = some o → ¬ S a → H' a = some o) (n : ∀ a o, H a = some o → ¬ S a → ¬ S' a) : ∀ {v : V} {d : D}, Rep K mg S H v d → Rep K mg S' H' v d
  | _, _, .non => .non
  | _, _, .bl b => .bl b
  | _, _, .int i => .int i
  | _, _, .str x => .str x
  | _, _, .tup h r z q => .tup (n _ _ r h) (k _ _ r h) z (Reps.go k n q)
  | _, _, .lst h r z q => .lst (n _ _ r h) (k _ _ r h) z (Reps.go k n q)
  | _, _, .dK h r z e q => .dK (n _ _ r h) (k _ _ r h) z e (Reps.go k n q)
  | _, _, .dT h r z e q => .dT (n _ _ r h) (k _ _ r h) z e (Reps.go k n q)
  | _, _, .scr h r q z => .scr (n _ _ r h) (k _ _ r h) q z
  | _, _, .scrK q z => .scrK q z
  | _, _, .tpl h r c d z => .tpl (n _ _ r h) (k _ _ r h) c d z
  | _, _, .ins h r m e q => .ins (n _ _ r h) (k _ _ r h) m e (Reps.go k n q)
theorem Reps.go (k : ∀ a o, H a = some o → ¬ S a → H' a = some o) (n : ∀ a o, H a = some o → ¬ S a → ¬ S' a) : ∀ {vs : List V} {ds : List D}, Reps K mg S H vs ds → Reps K mg S' H' vs ds
  | _, _, .nil => .nil
  | _, _, .cons h t => .cons (Rep.go k n h) (Reps.go k n t)
end
theorem Reps.ints : ∀ ns : List Int, Reps K mg S H (ns.map V.int) (ns.map D.int)
  | [] => .nil
  | n :: ns => .cons (.int n) (Reps.ints ns)
theorem Reps.len : ∀ {vs : List V} {ds : List D}, Reps K mg S H vs ds → vs.length = ds.length
  | _, _, .nil => rfl
  | _, _, .cons _ t => congrArg (· + 1) t.len
theorem Reps.app : ∀ {vs ws : List V} {ds es : List D}, Reps K mg S H vs ds → Reps K mg S H ws es → Reps K mg S H (vs ++ ws) (ds ++ es)
  | _, _, _, _, .nil, s => s
  | _, _, _, _, .cons h t, s => .cons h (t.app s)
theorem Reps.get : ∀ {vs : List V} {ds : List D} {i : Nat} {v : V}, Reps K mg S H vs ds → vs[i]? = some v → ∃ d, ds[i]? = some d ∧ Rep K mg S H v d
  | _, _, 0, _, .cons h _, e => by
    cases e
    exact ⟨_, rfl, h⟩
  | _, _, i + 1, _, .cons _ t, e => by
    obtain ⟨d, e1, r⟩ := Reps.get (i := i) t (by simpa using e)
    exact ⟨d, by simpa using e1, r⟩
theorem Reps.getD : ∀ {vs : List V} {ds : List D} {i : Nat} {d : D}, Reps K mg S H vs ds → ds[i]? = some d → ∃ v, vs[i]? = some v ∧ Rep K mg S H v d
  | _, _, 0, _, .cons h _, e => by
    cases e
    exact ⟨_, rfl, h⟩
  | _, _, i + 1, _, .cons _ t, e => by
    obtain ⟨d, e1, r⟩ := Reps.getD (i := i) t (by simpa using e)
    exact ⟨d, by simpa using e1, r⟩
theorem Reps.take : ∀ {vs : List V} {ds : List D} (n : Nat), Reps K mg S H vs ds → Reps K mg S H (vs.take n) (ds.take n)
  | _, _, 0, _ => .nil
  | _, _, _ + 1, .nil => .nil
  | _, _, n + 1, .cons h t => .cons h (t.take n)
theorem Reps.drop : ∀ {vs : List V} {ds : List D} (n : Nat), Reps K mg S H vs ds → Reps K mg S H (vs.drop n) (ds.drop n)
  | _, _, 0, h => h
  | _, _, _ + 1, .nil => .nil
  | _, _, n + 1, .cons _ t => Reps.drop n t
theorem Reps.set {v : V} {d : D} (h : Rep K mg S H v d) : ∀ {vs : List V} {ds : List D} (n : Nat), Reps K mg S H vs ds → Reps K mg S H (vs.set n v) (ds.set n d)
  | _, _, _, .nil => .nil
  | _, _, 0, .cons _ t => .cons h t
  | _, _, n + 1, .cons g t => .cons g (t.set h n)
theorem Reps.reverse : ∀ {vs : List V} {ds : List D}, Reps K mg S H vs ds → Reps K mg S H vs.reverse ds.reverse
  | _, _, .nil => .nil
  | _, _, .cons h t => by
    rw [List.reverse_cons, List.reverse_cons]
    exact t.reverse.app (.cons h .nil)
theorem Reps.erase : ∀ {vs : List V} {ds : List D} (n : Nat), Reps K mg S H vs ds → Reps K mg S H (vs.eraseIdx n) (ds.eraseIdx n)
  | _, _, _, .nil => .nil
  | _, _, 0, .cons _ t => t
  | _, _, n + 1, .cons g t => .cons g (t.erase n)
theorem OwnAt.go {p : Addr} {d : D} (hp : ∀ o, H p = some o → H' p = some o) (k : ∀ a o, H a = some o → ¬ S a → H' a = some o) (n : ∀ a o, H a = some o → ¬ S a → ¬ S' a) (h : OwnAt K mg S H p d) : OwnAt K mg S' H' p d := by
  cases h with
  | lst e z q => exact .lst (hp _ e) z (q.go k n)
  | dK e z g q => exact .dK (hp _ e) z g (q.go k n)
  | dT e z g q => exact .dT (hp _ e) z g (q.go k n)
  | ins e m g q => exact .ins (hp _ e) m g (q.go k n)
theorem OwnAt.there {p : Addr} {d : D} (h : OwnAt K mg S H p d) : ∃ o, H p = some o ∧ Mut (some o) := by
  cases h with
  | lst e z q => exact ⟨_, e, trivial⟩
  | dK e z g q => exact ⟨_, e, trivial⟩
  | dT e z g q => exact ⟨_, e, trivial⟩
  | ins e m g q => exact ⟨_, e, trivial⟩
/-- a value that an operation may look into: data, or an owned thing -/
def Top (K : PySem.W.Frag) (mg : Str → Option Value) (S : Addr → Prop) (H : Hp) (v : V) (d : D) : Prop := Rep K mg S H v d ∨ ∃ p, v = .ref p ∧ OwnAt K mg S H p d
/-- an owned thing is given up: it is data from now on -/
theorem OwnAt.frozen {p : Addr} {d : D} (h : OwnAt K mg S H p d) (np : ¬ S' p) (n : ∀ a o, H a = some o → ¬ S a → ¬ S' a) : Rep K mg S' H (.ref p) d := by
  cases h with
  | lst e z q => exact .lst np e z (q.go (fun _ _ e _ => e) n)
  | dK e z g q => exact .dK np e z g (q.go (fun _ _ e _ => e) n)
  | dT e z g q => exact .dT np e z g (q.go (fun _ _ e _ => e) n)
  | ins e m g q => exact .ins np e m g (q.go (fun _ _ e _ => e) n)
end
end Pu
namespace Pu
open PySem L2

/-! ## a def's frame -/
structure FC where
  H0 : Hp
  S0 : Addr → Prop
  tp : Option Addr
  W : WX
  pin : List (V × D)
def isOwn (r : Env) (σ : L2.St) (p : Addr) : Prop := ∃ (i : Nat) (d : D), r[i]? = some (some (.own d)) ∧ σ[i]? = some (some (.ref p))
def SS (C : FC) (Z : Addr → Prop) (r : Env) (σ : L2.St) : Addr → Prop := fun p => C.S0 p ∨ C.tp = some p ∨ isOwn r σ p ∨ Z p
abbrev Z0 : Addr → Prop := fun _ => False
def Ext (C : FC) (H H' : Hp) : Prop := ∀ a o, H a = some o → C.tp ≠ some a → H' a = some o
theorem Ext.refl {C : FC} {H : Hp} : Ext C H H := fun _ _ e _ => e
theorem Ext.trans {C : FC} {H H1 H2 : Hp} (a : Ext C H H1) (b : Ext C H1 H2) : Ext C H H2 := fun x o e n => b x o (a x o e n) n
theorem Ext.same {C : FC} {H H' : Hp} (s : Same H H') : Ext C H H' := fun a o e _ => s a o e
def TapeOk (K : PySem.W.Frag) (mg : Str → Option Value) (S : Addr → Prop) (tp : Option Addr) (T : Tp) (H : Hp) : Prop :=
  match tp with
  | none => T = none
  | some p => ∃ t, T = some t ∧ OwnAt K mg S H p t

structure Holds (K : PySem.W.Frag) (mg : Str → Option Value) (C : FC) (Z : Addr → Prop) (r : Env) (T : Tp) (σ : L2.St) (H : Hp) : Prop where
  len : r.length = σ.length
  frame : Ext C C.H0 H
  val : ∀ (i : Nat) (d : D), r[i]? = some (some (.val d)) → ∃ v, σ[i]? = some (some v) ∧ Rep K mg (SS C Z r σ) H v d
  own : ∀ (i : Nat) (d : D), r[i]? = some (some (.own d)) → ∃ p, σ[i]? = some (some (.ref p)) ∧ OwnAt K mg (SS C Z r σ) H p d ∧ C.H0 p = none ∧ C.tp ≠ some p ∧ ¬ Z p ∧ ¬ C.S0 p
  inj : ∀ (i j : Nat) (p : Addr) (d e : D), r[i]? = some (some (.own d)) → r[j]? = some (some (.own e)) → σ[i]? = some (some (.ref p)) → σ[j]? = some (some (.ref p)) → i = j
  tape : TapeOk K mg (SS C Z r σ) C.tp T H
  tslot : ∀ i : Nat, r[i]? = some (some .tape) → ∃ p, C.tp = some p ∧ σ[i]? = some (some (.ref p))
  st : ∀ p, C.S0 p → ∃ o, H p = some o ∧ Mut (some o)
  zt : ∀ p, Z p → ∃ o, H p = some o ∧ Mut (some o)
  pin : ∀ p ∈ C.pin, Rep K mg (SS C Z r σ) H p.1 p.2

section
variable {K : PySem.W.Frag} {mg : Str → Option Value} {C : FC} {Z Z' : Addr → Prop} {r : Env} {T T' : Tp} {σ : L2.St} {H H' : Hp}
theorem Holds.tr (h : Holds K mg C Z r T σ H) {p : Addr} (s : SS C Z r σ p) : ∃ o, H p = some o ∧ Mut (some o) := by
  rcases s with s | s | ⟨i, d, e1, e2⟩ | s
  · exact h.st p s
  · have t := h.tape
    unfold TapeOk at t
    rw [s] at t
    obtain ⟨t, _, o⟩ := t
    exact o.there
  · obtain ⟨q, e3, o, _⟩ := h.own i d e1
    rw [e2] at e3
    cases e3
    exact o.there
  · exact h.zt p s
theorem Holds.fresh (h : Holds K mg C Z r T σ H) {p : Addr} (e : H p = none) : ¬ SS C Z r σ p := fun s => by
  obtain ⟨o, q, _⟩ := h.tr s
  rw [e] at q
  cases q
/-- the heap goes on; nothing of what is excluded changes but the tape, which is told anew; the excluded become others -/
theorem Holds.move (h : Holds K mg C Z r T σ H) (e : Ext C H H') (n : ∀ a o, H a = some o → ¬ SS C Z r σ a → ¬ SS C Z' r σ a) (hz : ∀ (i : Nat) (p : Addr) (d : D), r[i]? = some (some (.own d)) → σ[i]? = some (some (.ref p)) → ¬ Z' p)
    (t : TapeOk K mg (SS C Z' r σ) C.tp T' H') (zt : ∀ p, Z' p → ∃ o, H' p = some o ∧ Mut (some o)) : Holds K mg C Z' r T' σ H' := by
  have k : ∀ a o, H a = some o → ¬ SS C Z r σ a → H' a = some o := fun a o q s => e a o q fun z => s (.inr (.inl z))
  refine ⟨h.len, h.frame.trans e, fun i d q => ?_, fun i d q => ?_, h.inj, t, h.tslot, fun p s => ?_, zt, fun p hp => (h.pin p hp).go k n⟩
  · obtain ⟨v, e1, p⟩ := h.val i d q
    exact ⟨v, e1, p.go k n⟩
  · obtain ⟨p, e1, o, f, g, g2, g3⟩ := h.own i d q
    exact ⟨p, e1, o.go (fun o q => e _ o q g) k n, f, g, hz i p d q e1, g3⟩
  · obtain ⟨o, q, m⟩ := h.st p s
    by_cases z : C.tp = some p
    · unfold TapeOk at t
      rw [z] at t
      obtain ⟨t, _, w⟩ := t
      exact w.there
    · exact ⟨o, e p o q z, m⟩
theorem ss_same {Z : Addr → Prop} : ∀ (a : Addr) (o : HO), H a = some o → ¬ SS C Z r σ a → ¬ SS C Z r σ a := fun _ _ _ s => s
/-- nothing changes but that there is more -/
theorem Holds.more (h : Holds K mg C Z r T σ H) (s : Same H H') : Holds K mg C Z r T σ H' := by
  refine h.move (.same s) ss_same (fun i p d e1 e2 z => ?_) ?_ fun p z => ?_
  · obtain ⟨q, e3, _, _, _, nz, _⟩ := h.own i d e1
    rw [e2] at e3
    cases e3
    exact nz z
  · have t := h.tape
    unfold TapeOk at t ⊢
    cases hp : C.tp with
    | none =>
      rw [hp] at t
      exact t
    | some p =>
      rw [hp] at t
      obtain ⟨t, e, o⟩ := t
      exact ⟨t, e, o.go (fun o q => s _ o q) (fun a o q _ => s a o q) ss_same⟩
  · obtain ⟨o, q, m⟩ := h.zt p z
    exact ⟨o, s p o q, m⟩
/-- a new object is set apart -/
theorem Holds.apart (h : Holds K mg C Z0 r T σ H) (s : Same H H') {p : Addr} (hp : H p = none) (hq : ∃ o, H' p = some o ∧ Mut (some o)) : Holds K mg C (fun a => a = p) r T σ H' := by
  have n : ∀ a o, H a = some o → ¬ SS C Z0 r σ a → ¬ SS C (fun a => a = p) r σ a := fun a o e q z => by
    rcases z with z | z | z | z
    · exact q (.inl z)
    · exact q (.inr (.inl z))
    · exact q (.inr (.inr (.inl z)))
    · rw [z, hp] at e
      cases e
  refine h.move (.same s) n (fun i q d e1 e2 z => ?_) ?_ fun q z => ?_
  · obtain ⟨u, e3, o, _⟩ := h.own i d e1
    rw [e2] at e3
    cases e3
    obtain ⟨o, e, _⟩ := o.there
    rw [z, hp] at e
    cases e
  · have t := h.tape
    unfold TapeOk at t ⊢
    cases hc : C.tp with
    | none =>
      rw [hc] at t
      exact t
    | some u =>
      rw [hc] at t
      obtain ⟨t, e, o⟩ := t
      exact ⟨t, e, o.go (fun o q => s _ o q) (fun a o q _ => s a o q) n⟩
  · rw [z]
    exact hq
theorem ss_less {Z : Addr → Prop} (a : Addr) (s : SS C Z0 r σ a) : SS C Z r σ a := by
  rcases s with s | s | s | s
  · exact .inl s
  · exact .inr (.inl s)
  · exact .inr (.inr (.inl s))
  · exact s.elim
/-- .. and given up -/
theorem Holds.join (h : Holds K mg C Z r T σ H) : Holds K mg C Z0 r T σ H := by
  have n : ∀ a o, H a = some o → ¬ SS C Z r σ a → ¬ SS C Z0 r σ a := fun a _ _ s z => s (ss_less a z)
  refine h.move Ext.refl n (fun _ _ _ _ _ z => z) ?_ fun _ z => z.elim
  have t := h.tape
  unfold TapeOk at t ⊢
  cases hc : C.tp with
  | none =>
    rw [hc] at t
    exact t
  | some u =>
    rw [hc] at t
    obtain ⟨t, e, o⟩ := t
    exact ⟨t, e, o.go (fun o q => q) (fun a o q _ => q) n⟩
end

/-! ## what an expression is worth -/
/-- an exception as it lies -/
def ExcAt (K : PySem.W.Frag) (mg : Str → Option Value) (S : Addr → Prop) (H : Hp) (c : Str) (fs : List (Str × D)) (cls : Value) (d : Option Addr) : Prop :=
  ∃ Ca : Addr, mg c = some (.ref Ca) ∧ cls = .ref Ca ∧ ((fs = [] ∧ d = none) ∨ ∃ (dd : Addr) (xs : List (Str × V)), d = some dd ∧ H dd = some (.xd xs) ∧ fs.map (·.1) = xs.map (·.1) ∧ Reps K mg S H (xs.map (·.2)) (fs.map (·.2)))
/-- what is asked of a run: of its worth G, of an exception that it is taken -/
def PostG {B : Type} (K : PySem.W.Frag) (mg : Str → Option Value) (C : FC) (σ : L2.St) (G : B → Prop) : Rs B → Prop
  | .ok b => G b
  | .exc c fs T r => ∀ cls d H', Holds K mg C Z0 r T σ H' → ExcAt K mg (SS C Z0 r σ) H' c fs cls d → C.W cls d σ H'
  | .stuck => False
section
variable {K : PySem.W.Frag} {mg : Str → Option Value} {C : FC} {σ : L2.St} {A B : Type} {G G2 : B → Prop}
theorem PostG.bind {x : Rs A} {g : A → Rs B} (h : PostG K mg C σ G (x.bind g)) : PostG K mg C σ (fun a => PostG K mg C σ G (g a)) x := by
  cases x <;> exact h
theorem PostG.imp {x : Rs B} (h : PostG K mg C σ G x) (i : ∀ b, G b → G2 b) : PostG K mg C σ G2 x := by
  cases x with
  | ok b => exact i b h
  | exc c fs T r => exact h
  | stuck => exact h
end
def TopC (K : PySem.W.Frag) (mg : Str → Option Value) (C : FC) (r : Env) (σ : L2.St) (H : Hp) (v : V) (d : D) : Prop := Rep K mg (SS C Z0 r σ) H v d ∨ ∃ p, v = .ref p ∧ C.tp ≠ some p ∧ OwnAt K mg (SS C Z0 r σ) H p d
def GV (K : PySem.W.Frag) (mg : Str → Option Value) (C : FC) (r : Env) (σ : L2.St) (H : Hp) (Q : VK) : VD × Tp → Prop
  | (.val d, T) => ∀ v H', Holds K mg C Z0 r T σ H' → Ext C H H' → Rep K mg (SS C Z0 r σ) H' v d → Q v H'
  | (.own d, T) => ∀ p H', H p = none → Holds K mg C (fun a => a = p) r T σ H' → Ext C H H' → OwnAt K mg (SS C (fun a => a = p) r σ) H' p d → Q (.ref p) H'
  | (.peek d, T) => ∀ v H', Holds K mg C Z0 r T σ H' → Ext C H H' → TopC K mg C r σ H' v d → Q v H'
  | (.tape, _) => False
abbrev Post (K : PySem.W.Frag) (mg : Str → Option Value) (C : FC) (r : Env) (σ : L2.St) (H : Hp) (Q : VK) : Rs (VD × Tp) → Prop := PostG K mg C σ (GV K mg C r σ H Q)
def tE (K : PySem.W.Frag) (mg : Str → Option Value) (C : FC) (f : DE) : TE := fun σ H Q => ∃ r T, Holds K mg C Z0 r T σ H ∧ Post K mg C r σ H Q (f r T)
abbrev SE (X : Cx) (C : FC) (e : Expr) (f : DE) : Prop := PE X e (tE X.K X.mg C f)
/-- weaken a reading -/
theorem pe_imp {X : Cx} {e : Expr} {t t' : TE} (h : PE X e t) (i : ∀ σ H Q, t' σ H Q → t σ H Q) : PE X e t' := ⟨fun pins s σ H Q I q => h.run pins s σ H Q I (i σ H Q q)⟩
theorem pt_imp {X : Cx} {e : Expr} {t t' : TT} (h : PT X e t) (i : ∀ σ H Q, t' σ H Q → t σ H Q) : PT X e t' := ⟨fun pins s σ H Q I q => h.run pins s σ H Q I (i σ H Q q)⟩
theorem ps_imp {X : Cx} {e : Stmt} {t t' : TS} (h : PS X e t) (i : ∀ D σ H, t' D σ H → t D σ H) : PS X e t' := ⟨fun pins s σ H D I q => h.run pins s σ H D I (i D σ H q)⟩
theorem pss_imp {X : Cx} {e : List Stmt} {t t' : TS} (h : PSs X e t) (i : ∀ D σ H, t' D σ H → t D σ H) : PSs X e t' := ⟨fun pins s σ H D I q => h.run pins s σ H D I (i D σ H q)⟩
theorem pa_imp {X : Cx} {e : List Expr} {t t' : TA} (h : PA X e t) (i : ∀ σ H Q, t' σ H Q → t σ H Q) : PA X e t' := ⟨fun pos pins s σ H Q I q => h.run pos pins s σ H Q I (i σ H Q q)⟩

/-- the worth as plain data; as what an operation may look into -/
def dv1 : VD × Tp → Rs (D × Tp)
  | (.val d, T) => .ok (d, T)
  | (.own d, T) => .ok (d, T)
  | _ => .stuck
def dt1 : VD × Tp → Rs (D × Tp)
  | (.val d, T) => .ok (d, T)
  | (.own d, T) => .ok (d, T)
  | (.peek d, T) => .ok (d, T)
  | _ => .stuck
def dv (x : Rs (VD × Tp)) : Rs (D × Tp) := x.bind dv1
def dt (x : Rs (VD × Tp)) : Rs (D × Tp) := x.bind dt1
@[simp] theorem dv_val (d : D) (T : Tp) : dv (.ok (.val d, T)) = .ok (d, T) := rfl
@[simp] theorem dv_own (d : D) (T : Tp) : dv (.ok (.own d, T)) = .ok (d, T) := rfl
@[simp] theorem dv_exc (c : Str) (fs : List (Str × D)) (T : Tp) (r : Env) : dv (.exc c fs T r) = .exc c fs T r := rfl
@[simp] theorem dt_val (d : D) (T : Tp) : dt (.ok (.val d, T)) = .ok (d, T) := rfl
@[simp] theorem dt_own (d : D) (T : Tp) : dt (.ok (.own d, T)) = .ok (d, T) := rfl
@[simp] theorem dt_peek (d : D) (T : Tp) : dt (.ok (.peek d, T)) = .ok (d, T) := rfl
@[simp] theorem dt_exc (c : Str) (fs : List (Str × D)) (T : Tp) (r : Env) : dt (.exc c fs T r) = .exc c fs T r := rfl
section
variable {K : PySem.W.Frag} {mg : Str → Option Value} {C : FC} {r : Env} {T : Tp} {σ : L2.St} {H H1 : Hp}
/-- its value is used as data: what is asked of the run of x, then of what follows, g -/
theorem gv_dv {B : Type} {G : B → Prop} {Q : VK} {x : Rs (VD × Tp)} {g : D × Tp → Rs B} (h0 : Holds K mg C Z0 r T σ H) (P : PostG K mg C σ G ((dv x).bind g))
    (k : ∀ d T' v H', Holds K mg C Z0 r T' σ H' → Ext C H H' → Rep K mg (SS C Z0 r σ) H' v d → PostG K mg C σ G (g (d, T')) → Q v H') : Post K mg C r σ H Q x := by
  refine (PostG.bind (PostG.bind P)).imp fun p P => ?_
  obtain ⟨v, T'⟩ := p
  cases v with
  | val d => exact fun v H' h1 e1 p => k d T' v H' h1 e1 p P
  | own d => exact fun p H' hp h1 e1 o => k d T' (.ref p) H' h1.join e1 (o.frozen (h0.fresh hp) (fun a o e s z => s (ss_less a z))) P
  | peek d => exact (show False from P).elim
  | tape => exact (show False from P)
theorem gv_dt {B : Type} {G : B → Prop} {Q : VK} {x : Rs (VD × Tp)} {g : D × Tp → Rs B} (h0 : Holds K mg C Z0 r T σ H) (P : PostG K mg C σ G ((dt x).bind g))
    (k : ∀ d T' v H', Holds K mg C Z0 r T' σ H' → Ext C H H' → TopC K mg C r σ H' v d → PostG K mg C σ G (g (d, T')) → Q v H') : Post K mg C r σ H Q x := by
  refine (PostG.bind (PostG.bind P)).imp fun p P => ?_
  obtain ⟨v, T'⟩ := p
  cases v with
  | val d => exact fun v H' h1 e1 p => k d T' v H' h1 e1 (.inl p) P
  | own d => exact fun p H' hp h1 e1 o => k d T' (.ref p) H' h1.join e1 (.inl (o.frozen (h0.fresh hp) (fun a o e s z => s (ss_less a z)))) P
  | peek d => exact fun v H' h1 e1 p => k d T' v H' h1 e1 p P
  | tape => exact (show False from P)
theorem back (h0 : Holds K mg C Z0 r T σ H1) (e : Ext C H H1) {p : Addr} (hp : H1 p = none) : H p = none := by
  cases q : H p with
  | none => rfl
  | some o =>
    by_cases z : C.tp = some p
    · exact absurd (.inr (.inl z)) (h0.fresh hp)
    · rw [e p o q z] at hp
      cases hp
/-- an end, reached through a heap between -/
theorem gv_from {Q : VK} {p : VD × Tp} (h0 : Holds K mg C Z0 r T σ H1) (e : Ext C H H1) (h : GV K mg C r σ H Q p) : GV K mg C r σ H1 Q p := by
  obtain ⟨v, T'⟩ := p
  cases v with
  | val d => exact fun v H' h1 e1 p => h v H' h1 (e.trans e1) p
  | own d => exact fun p H' hp h1 e1 o => h p H' (back h0 e hp) h1 (e.trans e1) o
  | peek d => exact fun v H' h1 e1 p => h v H' h1 (e.trans e1) p
  | tape => exact h
theorem post_from {Q : VK} {x : Rs (VD × Tp)} (h0 : Holds K mg C Z0 r T σ H1) (e : Ext C H H1) (h : Post K mg C r σ H Q x) : Post K mg C r σ H1 Q x := h.imp fun _ q => gv_from h0 e q
theorem Reps.ext {Z : Addr → Prop} {vs : List V} {ds : List D} (e : Ext C H H1) (p : Reps K mg (SS C Z r σ) H vs ds) : Reps K mg (SS C Z r σ) H1 vs ds := p.go (fun a o q s => e a o q fun z => s (.inr (.inl z))) ss_same
theorem Rep.ext {Z : Addr → Prop} {v : V} {d : D} (e : Ext C H H1) (p : Rep K mg (SS C Z r σ) H v d) : Rep K mg (SS C Z r σ) H1 v d := p.go (fun a o q s => e a o q fun z => s (.inr (.inl z))) ss_same
theorem TopC.ext {v : V} {d : D} (e : Ext C H H1) (p : TopC K mg C r σ H v d) : TopC K mg C r σ H1 v d := by
  rcases p with p | ⟨q, ev, nt, o⟩
  · exact .inl (p.ext e)
  · exact .inr ⟨q, ev, nt, o.go (fun o z => e _ o z nt) (fun a o q s => e a o q fun z => s (.inr (.inl z))) ss_same⟩
theorem TopC.top {v : V} {d : D} (p : TopC K mg C r σ H v d) : Top K mg (SS C Z0 r σ) H v d := by
  rcases p with p | ⟨q, ev, nt, o⟩
  · exact .inl p
  · exact .inr ⟨q, ev, o⟩
end
end Pu
namespace Pu
open PySem L2

/-! ## operations on data -/
/-- what is asked behind an operation that changes nothing that stands -/
def Res1 (K : PySem.W.Frag) (mg : Str → Option Value) (S : Addr → Prop) (H : Hp) (z : VD) (Q : VK) : Prop := match z with
  | .val d => ∀ v H', Same H H' → Rep K mg S H' v d → Q v H'
  | .own d => ∀ p H', H p = none → Same H H' → OwnAt K mg (fun a => S a ∨ a = p) H' p d → Q (.ref p) H'
  | _ => False
/-- all that is excluded is there -/
def Trk (S : Addr → Prop) (H : Hp) : Prop := ∀ p, S p → ∃ o, H p = some o ∧ Mut (some o)
theorem Trk.fresh {S : Addr → Prop} {H : Hp} (t : Trk S H) {p : Addr} (h : H p = none) : ¬ S p := fun s => by
  obtain ⟨o, e, _⟩ := t p s
  rw [h] at e
  cases e
/-- arguments that a built-in function may look into -/
inductive Tops (K : PySem.W.Frag) (mg : Str → Option Value) (S : Addr → Prop) (H : Hp) : List V → List D → Prop
  | nil : Tops K mg S H [] []
  | cons {v : V} {vs : List V} {d : D} {ds : List D} : Top K mg S H v d → Tops K mg S H vs ds → Tops K mg S H (v :: vs) (d :: ds)
def R2D (K : PySem.W.Frag) (mg : Str → Option Value) (r : R2) (op : D → D → Rs VD) : Prop :=
  ∀ (S : Addr → Prop) (H : Hp) (x y : V) (dx dy : D) (Q : VK) (z : VD), Trk S H → Top K mg S H x dx → Top K mg S H y dy → op dx dy = .ok z → Res1 K mg S H z Q → r x y H Q
def R1D (K : PySem.W.Frag) (mg : Str → Option Value) (r : V → Hp → VK → Prop) (op : D → Rs VD) : Prop :=
  ∀ (S : Addr → Prop) (H : Hp) (x : V) (dx : D) (Q : VK) (z : VD), Trk S H → Top K mg S H x dx → op dx = .ok z → Res1 K mg S H z Q → r x H Q
def RnD (K : PySem.W.Frag) (mg : Str → Option Value) (r : List V → Hp → VK → Prop) (op : List D → Rs VD) : Prop :=
  ∀ (S : Addr → Prop) (H : Hp) (xs : List V) (ds : List D) (Q : VK) (z : VD), Trk S H → Tops K mg S H xs ds → op ds = .ok z → Res1 K mg S H z Q → r xs H Q
section
variable {K : PySem.W.Frag} {mg : Str → Option Value} {S : Addr → Prop} {H : Hp} {Q : VK}
theorem Res1.pure {d : D} {v : V} (h : Res1 K mg S H (.val d) Q) (r : Rep K mg S H v d) : Q v H := h v H (Same.refl H) r
/-- a new object -/
theorem same_new {p : Addr} {o : HO} (hp : H p = none) : Same H (upd H p o) := fun a u e => by
  rw [upd_ne (ne_of_none e hp)]
  exact e
theorem Reps.new {vs : List V} {ds : List D} {p : Addr} {o : HO} (hp : H p = none) (r : Reps K mg S H vs ds) : Reps K mg (fun a => S a ∨ a = p) (upd H p o) vs ds :=
  r.go (fun a u e _ => same_new hp a u e) fun a u e s z => by
    rcases z with z | z
    · exact s z
    · rw [z, hp] at e
      cases e
theorem Res1.newL {vs : List V} {ds : List D} {p : Addr} (h : Res1 K mg S H (.own (.lst ds)) Q) (hp : H p = none) (z : vs.length ≤ sizeLine) (r : Reps K mg S H vs ds) : Q (.ref p) (upd H p (.lst vs)) :=
  h p _ hp (same_new hp) (.lst upd_same z (r.new hp))
theorem Res1.newT {vs : List V} {ds : List D} {p : Addr} (t : Trk S H) (h : Res1 K mg S H (.val (.tup ds)) Q) (hp : H p = none) (z : vs.length ≤ sizeLine) (r : Reps K mg S H vs ds) : Q (.ref p) (upd H p (.tup vs)) :=
  h (.ref p) _ (same_new hp) (.tup (t.fresh hp) upd_same z (r.go (fun a u e _ => same_new hp a u e) fun _ _ _ s => s))
theorem Top.sqT {v : V} {ds : List D} (h : Top K mg S H v (.tup ds)) : ∃ a vs, v = .ref a ∧ SqT K H a vs ∧ vs.length ≤ sizeLine ∧ Reps K mg S H vs ds := by
  rcases h with h | ⟨p, rfl, h⟩
  · cases h with
    | tup s e z q => exact ⟨_, _, rfl, .of e, z, q⟩
  · cases h
theorem Top.tpl {v : V} {ns : List Int} (h : Top K mg S H v (.tpl ns)) : ∃ a o, v = .ref a ∧ H a = some (.frz o (.tup (ns.map V.int))) ∧ o.cls = .type "tuple" ∧ o.dict = none ∧ ns.length ≤ sizeLine := by
  rcases h with h | ⟨p, rfl, h⟩
  · cases h with
    | tpl s e c d z => exact ⟨_, _, rfl, e, c, d, z⟩
  · cases h
theorem Top.tplT {v : V} {ns : List Int} (h : Top K mg S H v (.tpl ns)) : ∃ a, v = .ref a ∧ SqT K H a (ns.map V.int) ∧ ns.length ≤ sizeLine := by
  obtain ⟨a, o, e, h1, _, _, z⟩ := h.tpl
  exact ⟨a, e, .inl (.inr ⟨o, h1⟩), z⟩
theorem Rep.tplRef {v : V} {ns : List Int} (h : Rep K mg S H v (.tpl ns)) : ∃ a, v = .ref a := by
  cases h <;> exact ⟨_, rfl⟩
theorem Top.rep {v : V} {ds : List D} (h : Top K mg S H v (.tup ds)) : Rep K mg S H v (.tup ds) := by
  rcases h with h | ⟨p, rfl, h⟩
  · exact h
  · cases h
theorem Top.sqL {v : V} {ds : List D} (h : Top K mg S H v (.lst ds)) : ∃ a vs, v = .ref a ∧ H a = some (.lst vs) ∧ vs.length ≤ sizeLine ∧ Reps K mg S H vs ds := by
  rcases h with h | ⟨p, rfl, h⟩
  · cases h with
    | lst s e z q => exact ⟨_, _, rfl, e, z, q⟩
  · cases h with
    | lst e z q => exact ⟨_, _, rfl, e, z, q⟩
theorem Top.int {v : V} {i : Int} (h : Top K mg S H v (.int i)) : v = .int i := by
  rcases h with h | ⟨p, rfl, h⟩ <;> cases h
  rfl
theorem Top.bl {v : V} {b : Bool} (h : Top K mg S H v (.bl b)) : v = .bl b := by
  rcases h with h | ⟨p, rfl, h⟩ <;> cases h
  rfl
theorem Top.str {v : V} {b : Str} (h : Top K mg S H v (.str b)) : v = .str b := by
  rcases h with h | ⟨p, rfl, h⟩ <;> cases h
  rfl
theorem Top.non {v : V} (h : Top K mg S H v .non) : v = .non := by
  rcases h with h | ⟨p, rfl, h⟩ <;> cases h
  rfl
theorem Rep.tupRef {v : V} {ds : List D} (h : Rep K mg S H v (.tup ds)) : ∃ a, v = .ref a := by
  cases h <;> exact ⟨_, rfl⟩
theorem Rep.lstRef {v : V} {ds : List D} (h : Rep K mg S H v (.lst ds)) : ∃ a, v = .ref a := by
  cases h <;> exact ⟨_, rfl⟩
end
section
variable {K : PySem.W.Frag} {mg : Str → Option Value} {C : FC} {r : Env} {T : Tp} {σ : L2.St} {H H1 : Hp} {Q : VK}
theorem Holds.trk {Z : Addr → Prop} (h : Holds K mg C Z r T σ H) : Trk (SS C Z r σ) H := fun _ s => h.tr s
theorem gv_res {z : VD} (h0 : Holds K mg C Z0 r T σ H) (h : GV K mg C r σ H Q (z, T)) (hz : ∀ d, z ≠ .peek d) : Res1 K mg (SS C Z0 r σ) H z Q := by
  cases z with
  | val d => exact fun v H' s p => h v H' (h0.more s) (.same s) p
  | own d =>
    refine fun p H' hp s o => ?_
    have e2 : ∀ a, (SS C Z0 r σ a ∨ a = p) ↔ SS C (fun a => a = p) r σ a := fun a => by
      unfold SS
      constructor
      · rintro ((z | z | z | z) | z)
        · exact .inl z
        · exact .inr (.inl z)
        · exact .inr (.inr (.inl z))
        · exact z.elim
        · exact .inr (.inr (.inr z))
      · rintro (z | z | z | z)
        · exact .inl (.inl z)
        · exact .inl (.inr (.inl z))
        · exact .inl (.inr (.inr (.inl z)))
        · exact .inr z
    exact h p H' hp (h0.apart s hp o.there) (.same s) (o.go (fun _ q => q) (fun _ _ q _ => q) fun a _ _ n z => n ((e2 a).mpr z))
  | peek d => exact absurd rfl (hz d)
  | tape => exact h
end
/-- a worth, with the tape as it is -/
def lift (z : Rs VD) (T : Tp) : Rs (VD × Tp) := z.bind fun v => .ok (v, T)
@[simp] theorem lift_ok (z : VD) (T : Tp) : lift (.ok z) T = .ok (z, T) := rfl
@[simp] theorem lift_stuck (T : Tp) : lift .stuck T = .stuck := rfl
def eOp (op : D → D → Rs VD) (f g : DE) : DE := fun r T => (dt (f r T)).bind fun p => (dt (g r p.2)).bind fun q => lift (op p.1 q.1) q.2
def eUn (op : D → Rs VD) (f : DE) : DE := fun r T => (dt (f r T)).bind fun p => lift (op p.1) p.2
/-- an operation that raises nothing -/
def Quiet (x : Rs VD) : Prop := x = .stuck ∨ (∃ d, x = .ok (.val d)) ∨ ∃ d, x = .ok (.own d)
theorem lift_ex {K : PySem.W.Frag} {mg : Str → Option Value} {C : FC} {r : Env} {T : Tp} {σ : L2.St} {H : Hp} {Q : VK} {x : Rs VD} (hx : Quiet x) (h0 : Holds K mg C Z0 r T σ H) (h : Post K mg C r σ H Q (lift x T)) : ∃ z, x = .ok z ∧ Res1 K mg (SS C Z0 r σ) H z Q := by
  rcases hx with e | ⟨d, e⟩ | ⟨d, e⟩
  · rw [e] at h
    exact (show False from h).elim
  · rw [e] at h
    exact ⟨_, e, gv_res h0 h fun _ q => nomatch q⟩
  · rw [e] at h
    exact ⟨_, e, gv_res h0 h fun _ q => nomatch q⟩
def Quiet1 (op : D → Rs VD) : Prop := ∀ d, Quiet (op d)
def Quiet2 (op : D → D → Rs VD) : Prop := ∀ d e, Quiet (op d e)
section
variable {X : Cx} {C : FC} {a b : Expr} {f g : DE} {pos : Pos} {r : R2} {op : D → D → Rs VD}
theorem t_op (hd : R2D X.K X.mg r op) (hq : Quiet2 op) : ∀ (σ : L2.St) (H : Hp) (Q : VK), tE X.K X.mg C (eOp op f g) σ H Q → tOp r (tE X.K X.mg C f) (tE X.K X.mg C g) σ H Q := by
  rintro σ H Q ⟨ρ, T, h, P⟩
  refine ⟨ρ, T, h, gv_dt h P fun d T' v H1 h1 e1 p P1 => ⟨ρ, T', h1, gv_dt h1 P1 fun d2 T2 v2 H2 h2 e2 p2 P2 => ?_⟩⟩
  obtain ⟨z, ez, P3⟩ := lift_ex (hq d d2) h2 (post_from h2 (e1.trans e2) P2)
  exact hd _ H2 v v2 d d2 Q z h2.trk (p.ext e2).top p2.top ez P3
theorem se_op {o : Operator} (ho : OpR X (binaryOp o) r) (hd : R2D X.K X.mg r op) (hq : Quiet2 op) (ha : SE X C a f) (hb : SE X C b g) : SE X C (.BinOp a o b pos) (eOp op f g) :=
  pe_imp (pe_op ho ha hb) (t_op hd hq)
theorem se_cmp {o : CmpOp} (ho : OpR X (compareOp o) r) (hd : R2D X.K X.mg r op) (hq : Quiet2 op) (ha : SE X C a f) (hb : SE X C b g) (hm : behindInMarks o b = false) : SE X C (.Compare a [o] [b] pos) (eOp op f g) :=
  pe_imp (pe_cmpR ho ha hb hm) (t_op hd hq)
theorem se_ix (hr : IxR X r) (hd : R2D X.K X.mg r op) (hq : Quiet2 op) (ha : SE X C a f) (hb : SE X C b g) (hs : PlainIx b) : SE X C (.Subscript a b pos) (eOp op f g) :=
  pe_imp (pe_ix hr ha hb hs) (t_op hd hq)
theorem t_un {r : V → Hp → VK → Prop} {op : D → Rs VD} (hd : R1D X.K X.mg r op) (hq : Quiet1 op) : ∀ (σ : L2.St) (H : Hp) (Q : VK), tE X.K X.mg C (eUn op f) σ H Q → tUn r (tE X.K X.mg C f) σ H Q := by
  rintro σ H Q ⟨ρ, T, h, P⟩
  refine ⟨ρ, T, h, gv_dt h P fun d T' v H1 h1 e1 p P1 => ?_⟩
  obtain ⟨z, ez, P3⟩ := lift_ex (hq d) h1 (post_from h1 e1 P1)
  exact hd _ H1 v d Q z h1.trk p.top ez P3
theorem se_un {o : UnaryOp} {r : V → Hp → VK → Prop} {op : D → Rs VD} (ho : UnR X (unaryOp o) r) (hd : R1D X.K X.mg r op) (hq : Quiet1 op) (ha : SE X C a f) : SE X C (.UnaryOp o a pos) (eUn op f) :=
  pe_imp (pe_un ho ha) (t_un hd hq)
end

/-! ## names and constants -/
/-- a name -/
def eVar (i : Nat) : DE := fun r T => match r[i]? with
  | some (some (.val d)) => .ok (.val d, T)
  | some (some (.own d)) => .ok (.peek d, T)
  | _ => .stuck
def eC (d : D) : DE := fun _ T => .ok (.val d, T)
section
variable {X : Cx} {C : FC}
theorem se_var (i : Nat) {x : Str} {pos : Pos} (hN : X.N[i]? = some x := by rfl) (hv : Vis X.env.scope x := by first | exact Or.inl rfl | exact Or.inr (Or.inl rfl) | exact Or.inr (Or.inr rfl))
    (hd : (x == ("__debug__" : Str)) = false := by decide) (hcd : (x == ("__classdict__" : Str)) = false := by decide) : SE X C (.Name x pos) (eVar i) := by
  refine pe_imp (pe_var hN hv hd hcd) ?_
  rintro σ H Q ⟨ρ, T, h, P⟩
  unfold eVar at P
  cases e : ρ[i]? with
  | none => rw [e] at P; exact P.elim
  | some o =>
    rw [e] at P
    cases o with
    | none => exact P.elim
    | some w =>
      cases w with
      | val d =>
        obtain ⟨v, e1, p⟩ := h.val i d e
        exact ⟨v, e1, P v H h Ext.refl p⟩
      | own d =>
        obtain ⟨p, e1, o, _, nt, _⟩ := h.own i d e
        exact ⟨_, e1, P _ H h Ext.refl (.inr ⟨p, rfl, nt, o⟩)⟩
      | peek d => exact P.elim
      | tape => exact P.elim
theorem t_c {d : D} {v : V} (hr : ∀ K mg S H, Rep K mg S H v d) : ∀ (σ : L2.St) (H : Hp) (Q : VK), tE X.K X.mg C (eC d) σ H Q → tC v σ H Q := by
  rintro σ H Q ⟨ρ, T, h, P⟩
  exact P v H h Ext.refl (hr _ _ _ _)
theorem se_int {i : Int} {j : Nat} {pos : Pos} : SE X C (.Constant (.int i) j pos) (eC (.int i)) := pe_imp pe_int (t_c fun _ _ _ _ => .int i)
theorem se_bl {b : Bool} {j : Nat} {pos : Pos} : SE X C (.Constant (.bool b) j pos) (eC (.bl b)) := pe_imp pe_bl (t_c fun _ _ _ _ => .bl b)
theorem se_non {j : Nat} {pos : Pos} : SE X C (.Constant .none j pos) (eC .non) := pe_imp pe_non (t_c fun _ _ _ _ => .non)
theorem se_str {x : Str} {j : Nat} {pos : Pos} : SE X C (.Constant (.str x) j pos) (eC (.str x)) := pe_imp pe_str (t_c fun _ _ _ _ => .str x)
/-- a module's constant -/
theorem se_globI {x : Str} {i : Int} {pos : Pos} (hm : ∃ t, X.mg x = some (.int i t)) (hg : Gl X x := by rfl) (hd : (x == ("__debug__" : Str)) = false := by decide) : SE X C (.Name x pos) (eC (.int i)) := by
  obtain ⟨t, hm⟩ := hm
  exact pe_imp (pe_glob hg hm (v := .int i) ⟨t, rfl⟩ hd) (t_c fun _ _ _ _ => .int i)
theorem se_globS {x z : Str} {pos : Pos} (hm : ∃ t, X.mg x = some (.str z t)) (hg : Gl X x := by rfl) (hd : (x == ("__debug__" : Str)) = false := by decide) : SE X C (.Name x pos) (eC (.str z)) := by
  obtain ⟨t, hm⟩ := hm
  exact pe_imp (pe_glob hg hm (v := .str z) ⟨t, rfl⟩ hd) (t_c fun _ _ _ _ => .str z)
/-- what is not served -/
def eNo : DE := fun _ _ => .stuck
theorem se_no {e : Expr} : SE X C e eNo := ⟨fun pins s σ H Q I ⟨ρ, T, h, P⟩ => P.elim⟩
end

/-! ## tests -/
/-- a test's worth -/
abbrev DT := Env → Tp → Rs (Bool × Tp)
def GT (K : PySem.W.Frag) (mg : Str → Option Value) (C : FC) (r : Env) (σ : L2.St) (H : Hp) (Q : Bool → Hp → Prop) : Bool × Tp → Prop := fun p => ∀ H', Holds K mg C Z0 r p.2 σ H' → Ext C H H' → Q p.1 H'
abbrev PostT (K : PySem.W.Frag) (mg : Str → Option Value) (C : FC) (r : Env) (σ : L2.St) (H : Hp) (Q : Bool → Hp → Prop) : Rs (Bool × Tp) → Prop := PostG K mg C σ (GT K mg C r σ H Q)
def tT (K : PySem.W.Frag) (mg : Str → Option Value) (C : FC) (f : DT) : TT := fun σ H Q => ∃ r T, Holds K mg C Z0 r T σ H ∧ PostT K mg C r σ H Q (f r T)
abbrev ST (X : Cx) (C : FC) (e : Expr) (f : DT) : Prop := PT X e (tT X.K X.mg C f)
abbrev SW (X : Cx) (C : FC) (e : Expr) (f : DT) : Prop := PW X e (tT X.K X.mg C f)
section
variable {K : PySem.W.Frag} {mg : Str → Option Value} {C : FC} {r : Env} {T : Tp} {σ : L2.St} {H H1 : Hp}
theorem gt_bind {B : Type} {G : B → Prop} {Q : Bool → Hp → Prop} {x : Rs (Bool × Tp)} {g : Bool × Tp → Rs B} (P : PostG K mg C σ G (x.bind g))
    (k : ∀ b T' H', Holds K mg C Z0 r T' σ H' → Ext C H H' → PostG K mg C σ G (g (b, T')) → Q b H') : PostT K mg C r σ H Q x :=
  P.bind.imp fun p P H' h1 e1 => k p.1 p.2 H' h1 e1 P
theorem gt_from {Q : Bool → Hp → Prop} {x : Rs (Bool × Tp)} (e : Ext C H H1) (h : PostT K mg C r σ H Q x) : PostT K mg C r σ H1 Q x := h.imp fun _ q H' h1 e1 => q H' h1 (e.trans e1)
end
/-- a bool -/
def dBl : D → Rs Bool
  | .bl b => .ok b
  | _ => .stuck
@[simp] theorem dBl_bl (b : Bool) : dBl (.bl b) = .ok b := rfl
def xB (f : DE) : DT := fun r T => (dv (f r T)).bind fun p => (dBl p.1).bind fun b => .ok (b, p.2)
def xAnd (f g : DT) : DT := fun r T => (f r T).bind fun p => if p.1 = true then g r p.2 else .ok (false, p.2)
def xOr (f g : DT) : DT := fun r T => (f r T).bind fun p => if p.1 = true then .ok (true, p.2) else g r p.2
def xNot (f : DT) : DT := fun r T => (f r T).bind fun p => .ok (!p.1, p.2)
def eIf (c : DT) (f g : DE) : DE := fun r T => (c r T).bind fun p => if p.1 = true then f r p.2 else g r p.2
def eAnd (f g : DE) : DE := fun r T => (dv (f r T)).bind fun p => (dBl p.1).bind fun b => if b = true then g r p.2 else .ok (.val (.bl false), p.2)
def eOr (f g : DE) : DE := fun r T => (dv (f r T)).bind fun p => (dBl p.1).bind fun b => if b = true then .ok (.val (.bl true), p.2) else g r p.2
def eNot (f : DE) : DE := fun r T => (dv (f r T)).bind fun p => (dBl p.1).bind fun b => .ok (.val (.bl !b), p.2)
section
variable {K : PySem.W.Frag} {mg : Str → Option Value} {C : FC} {r : Env} {T : Tp} {σ : L2.St} {H : Hp} {B : Type} {G : B → Prop}
theorem dbl_ex {d : D} {v : V} {g : Bool → Rs B} (p : Rep K mg (SS C Z0 r σ) H v d) (P : PostG K mg C σ G ((dBl d).bind g)) : ∃ b, v = .bl b ∧ d = .bl b ∧ PostG K mg C σ G (g b) := by
  cases d with
  | bl b =>
    cases p
    exact ⟨b, rfl, rfl, P⟩
  | _ => exact (show False from P).elim
end
section
variable {X : Cx} {C : FC} {a b c : Expr} {f g : DE} {u w : DT} {pos : Pos} {rest : List Expr}
theorem t_B : ∀ (σ : L2.St) (H : Hp) (Q : Bool → Hp → Prop), tT X.K X.mg C (xB f) σ H Q → tB (tE X.K X.mg C f) σ H Q := by
  rintro σ H Q ⟨ρ, T, h, P⟩
  refine ⟨ρ, T, h, gv_dv h P fun d T' v H1 h1 e1 p P1 => ?_⟩
  obtain ⟨b, rfl, rfl, P2⟩ := dbl_ex p P1
  exact ⟨b, rfl, P2 H1 h1 e1⟩
theorem st_val (h : SE X C a f) (he : ∀ whole, isTrue a X.env whole = (do let v ← whole; standAt a.pos; holding [v] (truthy v)) := by intro _; rfl) : ST X C a (xB f) := pt_imp (pt_val h he) t_B
theorem st_cmp {op : D → D → Rs VD} {r : R2} {o : CmpOp} (ho : OpR X (compareOp o) r) (hd : R2D X.K X.mg r op) (hq : Quiet2 op) (ha : SE X C a f) (hb : SE X C b g) (hm : behindInMarks o b = false) : ST X C (.Compare a [o] [b] pos) (xB (eOp op f g)) := by
  refine pt_imp (pt_cmpR ho ha hb hm) ?_
  intro σ H Q hh
  exact t_op hd hq σ H _ (t_B (X := X) (C := C) (f := eOp op f g) σ H Q hh)
theorem st_not (h : ST X C a u) : ST X C (.UnaryOp .Not a pos) (xNot u) := by
  refine pt_imp (pt_not h) ?_
  rintro σ H Q ⟨ρ, T, h, P⟩
  exact ⟨ρ, T, h, gt_bind P fun b T' H1 h1 e1 P1 => P1 H1 h1 e1⟩
theorem t_and : ∀ (σ : L2.St) (H : Hp) (Q : Bool → Hp → Prop), tT X.K X.mg C (xAnd u w) σ H Q → tAnd (tT X.K X.mg C u) (tT X.K X.mg C w) σ H Q := by
  rintro σ H Q ⟨ρ, T, h, P⟩
  refine ⟨ρ, T, h, gt_bind P fun b T' H1 h1 e1 P1 => ?_⟩
  cases b with
  | true => exact ⟨ρ, T', h1, gt_from e1 P1⟩
  | false => exact P1 H1 h1 e1
theorem t_or : ∀ (σ : L2.St) (H : Hp) (Q : Bool → Hp → Prop), tT X.K X.mg C (xOr u w) σ H Q → tOr (tT X.K X.mg C u) (tT X.K X.mg C w) σ H Q := by
  rintro σ H Q ⟨ρ, T, h, P⟩
  refine ⟨ρ, T, h, gt_bind P fun b T' H1 h1 e1 P1 => ?_⟩
  cases b with
  | true => exact P1 H1 h1 e1
  | false => exact ⟨ρ, T', h1, gt_from e1 P1⟩
theorem pw_imp {e : Expr} {t t' : TT} (h : PW X e t) (i : ∀ σ H Q, t' σ H Q → t σ H Q) : PW X e t' := ⟨fun wh pins s σ H Q I q => h.run wh pins s σ H Q I (i σ H Q q)⟩
theorem sw_and1 (h : ST X C a u) : SW X C (.BoolOp .And [a] pos) u := pw_and1 h
theorem sw_or1 (h : ST X C a u) : SW X C (.BoolOp .Or [a] pos) u := pw_or1 h
theorem sw_and (h : ST X C a u) (k : SW X C (.BoolOp .And (b :: rest) pos) w) : SW X C (.BoolOp .And (a :: b :: rest) pos) (xAnd u w) := pw_imp (pw_and h k) t_and
theorem sw_or (h : ST X C a u) (k : SW X C (.BoolOp .Or (b :: rest) pos) w) : SW X C (.BoolOp .Or (a :: b :: rest) pos) (xOr u w) := pw_imp (pw_or h k) t_or
theorem st_of (h : SW X C a u) : ST X C a u := h.pt
theorem se_and1 (h : SE X C a f) : SE X C (.BoolOp .And [a] pos) f := pe_one h
theorem se_or1 (h : SE X C a f) : SE X C (.BoolOp .Or [a] pos) f := pe_one h
theorem se_and (h : SE X C a f) (k : SE X C (.BoolOp .And (b :: rest) pos) g) : SE X C (.BoolOp .And (a :: b :: rest) pos) (eAnd f g) := by
  refine pe_imp (pe_and h k) ?_
  rintro σ H Q ⟨ρ, T, h, P⟩
  refine ⟨ρ, T, h, gv_dv h P fun d T' v H1 h1 e1 p P1 => ?_⟩
  obtain ⟨b, rfl, rfl, P2⟩ := dbl_ex p P1
  refine ⟨b, rfl, ?_⟩
  cases b with
  | true => exact ⟨ρ, T', h1, post_from h1 e1 P2⟩
  | false => exact P2 _ H1 h1 e1 (.bl false)
theorem se_or (h : SE X C a f) (k : SE X C (.BoolOp .Or (b :: rest) pos) g) : SE X C (.BoolOp .Or (a :: b :: rest) pos) (eOr f g) := by
  refine pe_imp (pe_or h k) ?_
  rintro σ H Q ⟨ρ, T, h, P⟩
  refine ⟨ρ, T, h, gv_dv h P fun d T' v H1 h1 e1 p P1 => ?_⟩
  obtain ⟨b, rfl, rfl, P2⟩ := dbl_ex p P1
  refine ⟨b, rfl, ?_⟩
  cases b with
  | true => exact P2 _ H1 h1 e1 (.bl true)
  | false => exact ⟨ρ, T', h1, post_from h1 e1 P2⟩
theorem se_not (h : SE X C a f) : SE X C (.UnaryOp .Not a pos) (eNot f) := by
  refine pe_imp (pe_not h) ?_
  rintro σ H Q ⟨ρ, T, h, P⟩
  refine ⟨ρ, T, h, gv_dv h P fun d T' v H1 h1 e1 p P1 => ?_⟩
  obtain ⟨b, rfl, rfl, P2⟩ := dbl_ex p P1
  exact ⟨b, rfl, P2 _ H1 h1 e1 (.bl !b)⟩
theorem se_if (hc : ST X C c u) (ha : SE X C a f) (hb : SE X C b g) : SE X C (.IfExp c a b pos) (eIf u f g) := by
  refine pe_imp (pe_ifExp hc ha hb) ?_
  rintro σ H Q ⟨ρ, T, h, P⟩
  refine ⟨ρ, T, h, gt_bind P fun b T' H1 h1 e1 P1 => ?_⟩
  cases b with
  | true => exact ⟨ρ, T', h1, post_from h1 e1 P1⟩
  | false => exact ⟨ρ, T', h1, post_from h1 e1 P1⟩
end

/-! ## argument lists, displays -/
abbrev DA := Env → Tp → Rs (List D × Tp)
def GA (K : PySem.W.Frag) (mg : Str → Option Value) (C : FC) (r : Env) (σ : L2.St) (H : Hp) (Q : List V → Hp → Prop) : List D × Tp → Prop := fun p => ∀ vs H', Holds K mg C Z0 r p.2 σ H' → Ext C H H' → Reps K mg (SS C Z0 r σ) H' vs p.1 → Q vs H'
inductive TopCs (K : PySem.W.Frag) (mg : Str → Option Value) (C : FC) (r : Env) (σ : L2.St) (H : Hp) : List V → List D → Prop
  | nil : TopCs K mg C r σ H [] []
  | cons {v : V} {vs : List V} {d : D} {ds : List D} : TopC K mg C r σ H v d → TopCs K mg C r σ H vs ds → TopCs K mg C r σ H (v :: vs) (d :: ds)
theorem TopCs.tops {K : PySem.W.Frag} {mg : Str → Option Value} {C : FC} {r : Env} {σ : L2.St} {H : Hp} : ∀ {vs : List V} {ds : List D}, TopCs K mg C r σ H vs ds → Tops K mg (SS C Z0 r σ) H vs ds
  | _, _, .nil => .nil
  | _, _, .cons h t => .cons h.top t.tops
def GB (K : PySem.W.Frag) (mg : Str → Option Value) (C : FC) (r : Env) (σ : L2.St) (H : Hp) (Q : List V → Hp → Prop) : List D × Tp → Prop := fun p => ∀ vs H', Holds K mg C Z0 r p.2 σ H' → Ext C H H' → TopCs K mg C r σ H' vs p.1 → Q vs H'
def tA (K : PySem.W.Frag) (mg : Str → Option Value) (C : FC) (f : DA) : TA := fun σ H Q => ∃ r T, Holds K mg C Z0 r T σ H ∧ PostG K mg C σ (GA K mg C r σ H Q) (f r T)
/-- .. that are only looked into -/
def tAt (K : PySem.W.Frag) (mg : Str → Option Value) (C : FC) (f : DA) : TA := fun σ H Q => ∃ r T, Holds K mg C Z0 r T σ H ∧ PostG K mg C σ (GB K mg C r σ H Q) (f r T)
abbrev SA (X : Cx) (C : FC) (es : List Expr) (f : DA) : Prop := PA X es (tA X.K X.mg C f)
abbrev SAt (X : Cx) (C : FC) (es : List Expr) (f : DA) : Prop := PA X es (tAt X.K X.mg C f)
def aNil : DA := fun _ T => .ok ([], T)
def aCons (f : DE) (g : DA) : DA := fun r T => (dv (f r T)).bind fun p => (g r p.2).bind fun q => .ok (p.1 :: q.1, q.2)
def aConsT (f : DE) (g : DA) : DA := fun r T => (dt (f r T)).bind fun p => (g r p.2).bind fun q => .ok (p.1 :: q.1, q.2)
def eTup (g : DA) : DE := fun r T => (g r T).bind fun p => if p.1.length ≤ 1000 then .ok (.val (.tup p.1), p.2) else .stuck
def eLst (g : DA) : DE := fun r T => (g r T).bind fun p => if p.1.length ≤ 1000 then .ok (.own (.lst p.1), p.2) else .stuck
section
variable {K : PySem.W.Frag} {mg : Str → Option Value} {C : FC} {r : Env} {T : Tp} {σ : L2.St} {H H1 : Hp}
theorem ga_bind {B : Type} {G : B → Prop} {Q : List V → Hp → Prop} {x : Rs (List D × Tp)} {g : List D × Tp → Rs B} (P : PostG K mg C σ G (x.bind g))
    (k : ∀ ds T' vs H', Holds K mg C Z0 r T' σ H' → Ext C H H' → Reps K mg (SS C Z0 r σ) H' vs ds → PostG K mg C σ G (g (ds, T')) → Q vs H') : PostG K mg C σ (GA K mg C r σ H Q) x :=
  P.bind.imp fun p P vs H' h1 e1 q => k p.1 p.2 vs H' h1 e1 q P
theorem gb_bind {B : Type} {G : B → Prop} {Q : List V → Hp → Prop} {x : Rs (List D × Tp)} {g : List D × Tp → Rs B} (P : PostG K mg C σ G (x.bind g))
    (k : ∀ ds T' vs H', Holds K mg C Z0 r T' σ H' → Ext C H H' → TopCs K mg C r σ H' vs ds → PostG K mg C σ G (g (ds, T')) → Q vs H') : PostG K mg C σ (GB K mg C r σ H Q) x :=
  P.bind.imp fun p P vs H' h1 e1 q => k p.1 p.2 vs H' h1 e1 q P
end
theorem k1000 {n : Nat} (h : n ≤ 1000) : n ≤ sizeLine := by rw [sizeLine_eq]; omega
theorem postG_if {K : PySem.W.Frag} {mg : Str → Option Value} {C : FC} {σ : L2.St} {B : Type} {G : B → Prop} {p : Prop} [Decidable p] {x : Rs B} (h : PostG K mg C σ G (if p then x else .stuck)) : p ∧ PostG K mg C σ G x := by
  by_cases c : p
  · rw [if_pos c] at h
    exact ⟨c, h⟩
  · rw [if_neg c] at h
    exact h.elim
section
variable {X : Cx} {C : FC} {e : Expr} {es : List Expr} {f : DE} {g : DA} {pos : Pos}
theorem sa_nil : SA X C [] aNil := by
  refine pa_imp pa_nil ?_
  rintro σ H Q ⟨ρ, T, h, P⟩
  exact P [] H h Ext.refl .nil
theorem sat_nil : SAt X C [] aNil := by
  refine pa_imp pa_nil ?_
  rintro σ H Q ⟨ρ, T, h, P⟩
  exact P [] H h Ext.refl .nil
theorem sa_cons (ha : SE X C e f) (hr : SA X C es g) (hs : starEach (e :: es) X.env = (false, eval e X.env) :: starEach es X.env := by rfl) : SA X C (e :: es) (aCons f g) := by
  refine pa_imp (pa_cons ha hr hs) ?_
  rintro σ H Q ⟨ρ, T, h, P⟩
  refine ⟨ρ, T, h, gv_dv h P fun d T' v H1 h1 e1 p P1 => ⟨ρ, T', h1, ga_bind P1 fun ds T2 vs H2 h2 e2 p2 P2 => ?_⟩⟩
  exact P2 _ H2 h2 (e1.trans e2) (.cons (p.ext e2) p2)
theorem sat_cons (ha : SE X C e f) (hr : SAt X C es g) (hs : starEach (e :: es) X.env = (false, eval e X.env) :: starEach es X.env := by rfl) : SAt X C (e :: es) (aConsT f g) := by
  refine pa_imp (pa_cons ha hr hs) ?_
  rintro σ H Q ⟨ρ, T, h, P⟩
  refine ⟨ρ, T, h, gv_dt h P fun d T' v H1 h1 e1 p P1 => ⟨ρ, T', h1, gb_bind P1 fun ds T2 vs H2 h2 e2 p2 P2 => ?_⟩⟩
  exact P2 _ H2 h2 (e1.trans e2) (.cons (p.ext e2) p2)
theorem se_tup {x1 : Nat} (h : SA X C es g) : SE X C (.Tuple es x1 pos) (eTup g) := by
  refine pe_imp (pe_tup h) ?_
  rintro σ H Q ⟨ρ, T, h, P⟩
  refine ⟨ρ, T, h, ga_bind P fun ds T' vs H1 h1 e1 p P1 => ?_⟩
  obtain ⟨z, P2⟩ := postG_if P1
  have z2 : vs.length ≤ sizeLine := k1000 (by rw [p.len]; exact z)
  exact ⟨z2, fun q hq => (gv_res h1 (gv_from h1 e1 (show GV X.K X.mg C ρ σ H Q (.val (.tup ds), T') from P2)) fun _ q => nomatch q).newT h1.trk hq z2 p⟩
theorem se_lst (h : SA X C es g) : SE X C (.List es pos) (eLst g) := by
  refine pe_imp (pe_lst h) ?_
  rintro σ H Q ⟨ρ, T, h, P⟩
  refine ⟨ρ, T, h, ga_bind P fun ds T' vs H1 h1 e1 p P1 => ?_⟩
  obtain ⟨z, P2⟩ := postG_if P1
  have z2 : vs.length ≤ sizeLine := k1000 (by rw [p.len]; exact z)
  exact ⟨z2, fun q hq => (gv_res h1 (gv_from h1 e1 (show GV X.K X.mg C ρ σ H Q (.own (.lst ds), T') from P2)) fun _ q => nomatch q).newL hq z2 p⟩
end

/-! ## calls of built-in functions -/
def eCall (op : List D → Rs VD) (g : DA) : DE := fun r T => (g r T).bind fun p => lift (op p.1) p.2
def QuietN (op : List D → Rs VD) : Prop := ∀ d, Quiet (op d)
section
variable {X : Cx} {C : FC} {e : Expr} {es : List Expr} {g : DA} {pos p : Pos} {x : Str} {r : List V → Hp → VK → Prop} {op : List D → Rs VD}
theorem t_call (hd : RnD X.K X.mg r op) (hq : QuietN op) : ∀ (σ : L2.St) (H : Hp) (Q : VK), tE X.K X.mg C (eCall op g) σ H Q → tCB r (tAt X.K X.mg C g) σ H Q := by
  rintro σ H Q ⟨ρ, T, h, P⟩
  refine ⟨ρ, T, h, gb_bind P fun ds T' vs H1 h1 e1 p P1 => ?_⟩
  obtain ⟨z, ez, P3⟩ := lift_ex (hq ds) h1 (post_from h1 e1 P1)
  exact hd _ H1 vs ds Q z h1.trk p.tops ez P3
theorem se_callB {id : String} (hc : CallR X (.builtin id) r) (hd : RnD X.K X.mg r op) (hq : QuietN op) (hm : X.mg x = none) (hv : bootBuiltins x = some (.builtin id)) (ha : SAt X C (e :: es) g) (hg : Gl X x := by rfl) (hn : x ≠ "__name__" := by decide) (hdb : (x == ("__debug__" : Str)) = false := by decide)
    (he : starEach (e :: es) X.env = (false, eval e X.env) :: starEach es X.env := by rfl) (hpl : (backTo pos (starEach es X.env)).any (·.1) = false := by rfl) : SE X C (.Call (.Name x p) (e :: es) [] pos) (eCall op g) :=
  pe_imp (pe_callB hc hg hm hv ha hn hdb he hpl) (t_call hd hq)
theorem se_callTy {T : String} (hc : CallR X (.type T) r) (hd : RnD X.K X.mg r op) (hq : QuietN op) (hm : X.mg x = none) (hv : bootBuiltins x = some (.type T)) (ha : SAt X C (e :: es) g) (hg : Gl X x := by rfl) (hn : x ≠ "__name__" := by decide) (hdb : (x == ("__debug__" : Str)) = false := by decide)
    (he : starEach (e :: es) X.env = (false, eval e X.env) :: starEach es X.env := by rfl) (hpl : (backTo pos (starEach es X.env)).any (·.1) = false := by rfl) : SE X C (.Call (.Name x p) (e :: es) [] pos) (eCall op g) :=
  pe_imp (pe_callTy hc hg hm hv ha hn hdb he hpl) (t_call hd hq)
end
end Pu
namespace Pu
open PySem L2

/-! ## statements -/
inductive Fl where
  | nx (r : Env) | rt (v : VD) | bk (r : Env) | ct (r : Env)
abbrev DS := Env → Tp → Rs (Fl × Tp)
def S1 (C : FC) : Addr → Prop := fun p => C.S0 p ∨ C.tp = some p
def Ret (K : PySem.W.Frag) (mg : Str → Option Value) (C : FC) (T : Tp) (H : Hp) (u : V) : VD → Prop
  | .val d => Rep K mg (S1 C) H u d ∧ TapeOk K mg (S1 C) C.tp T H
  | .own d => ∃ p, u = .ref p ∧ C.H0 p = none ∧ C.tp ≠ some p ∧ OwnAt K mg (fun a => S1 C a ∨ a = p) H p d ∧ TapeOk K mg (fun a => S1 C a ∨ a = p) C.tp T H
  | _ => False
def GS (K : PySem.W.Frag) (mg : Str → Option Value) (C : FC) (E : Ends) : Fl × Tp → Prop
  | (.nx r, T) => ∀ σ H, Holds K mg C Z0 r T σ H → E.nx σ H
  | (.bk r, T) => ∀ σ H, Holds K mg C Z0 r T σ H → E.bk σ H
  | (.ct r, T) => ∀ σ H, Holds K mg C Z0 r T σ H → E.ct σ H
  | (.rt v, T) => ∀ u H, Ext C C.H0 H → Ret K mg C T H u v → E.rt u H
/-- what is asked of a run, at whatever slots -/
def PostS {B : Type} (K : PySem.W.Frag) (mg : Str → Option Value) (C : FC) (G : B → Prop) : Rs B → Prop
  | .ok b => G b
  | .exc c fs T r => ∀ σ cls d H', Holds K mg C Z0 r T σ H' → ExcAt K mg (SS C Z0 r σ) H' c fs cls d → C.W cls d σ H'
  | .stuck => False
def tS (K : PySem.W.Frag) (mg : Str → Option Value) (C : FC) (g : DS) : TS := fun E σ H => ∃ r T, Holds K mg C Z0 r T σ H ∧ PostS K mg C (GS K mg C E) (g r T)
abbrev SSt (X : Cx) (C : FC) (st : Stmt) (g : DS) : Prop := PS X st (tS X.K X.mg C g)
abbrev SSs (X : Cx) (C : FC) (st : List Stmt) (g : DS) : Prop := PSs X st (tS X.K X.mg C g)
section
variable {K : PySem.W.Frag} {mg : Str → Option Value} {C : FC} {σ : L2.St} {A B : Type} {G G2 : B → Prop}
theorem PostS.bind {x : Rs A} {g : A → Rs B} (h : PostS K mg C G (x.bind g)) : PostS K mg C (fun a => PostS K mg C G (g a)) x := by
  cases x <;> exact h
theorem PostS.imp {x : Rs B} (h : PostS K mg C G x) (i : ∀ b, G b → G2 b) : PostS K mg C G2 x := by
  cases x with
  | ok b => exact i b h
  | exc c fs T r => exact h
  | stuck => exact h
theorem PostS.at {x : Rs B} (h : PostS K mg C G x) : PostG K mg C σ G x := by
  cases x with
  | ok b => exact h
  | exc c fs T r => exact fun cls d H' a b => h σ cls d H' a b
  | stuck => exact h
theorem postS_if {p : Prop} [Decidable p] {x : Rs B} (h : PostS K mg C G (if p then x else .stuck)) : p ∧ PostS K mg C G x := by
  by_cases c : p
  · rw [if_pos c] at h
    exact ⟨c, h⟩
  · rw [if_neg c] at h
    exact h.elim
variable {r : Env} {T : Tp} {H H1 : Hp}
theorem gs_dv {Q : VK} {x : Rs (VD × Tp)} {R : D × Tp → Prop} (h0 : Holds K mg C Z0 r T σ H) (P : PostG K mg C σ R (dv x))
    (k : ∀ d T' v H', Holds K mg C Z0 r T' σ H' → Ext C H H' → Rep K mg (SS C Z0 r σ) H' v d → R (d, T') → Q v H') : Post K mg C r σ H Q x := by
  refine (PostG.bind P).imp fun p P => ?_
  obtain ⟨v, T'⟩ := p
  cases v with
  | val d => exact fun v H' h1 e1 p => k d T' v H' h1 e1 p P
  | own d => exact fun p H' hp h1 e1 o => k d T' (.ref p) H' h1.join e1 (o.frozen (h0.fresh hp) (fun a o e s z => s (ss_less a z))) P
  | peek d => exact (show False from P).elim
  | tape => exact (show False from P)
theorem gs_dt {Q : VK} {x : Rs (VD × Tp)} {R : D × Tp → Prop} (h0 : Holds K mg C Z0 r T σ H) (P : PostG K mg C σ R (dt x))
    (k : ∀ d T' v H', Holds K mg C Z0 r T' σ H' → Ext C H H' → TopC K mg C r σ H' v d → R (d, T') → Q v H') : Post K mg C r σ H Q x := by
  refine (PostG.bind P).imp fun p P => ?_
  obtain ⟨v, T'⟩ := p
  cases v with
  | val d => exact fun v H' h1 e1 p => k d T' v H' h1 e1 (.inl p) P
  | own d => exact fun p H' hp h1 e1 o => k d T' (.ref p) H' h1.join e1 (.inl (o.frozen (h0.fresh hp) (fun a o e s z => s (ss_less a z)))) P
  | peek d => exact fun v H' h1 e1 p => k d T' v H' h1 e1 p P
  | tape => exact (show False from P)
end

/-! ## slots -/
section
variable {K : PySem.W.Frag} {mg : Str → Option Value} {C : FC} {Z : Addr → Prop} {r : Env} {T : Tp} {σ : L2.St} {H H1 : Hp} {i : Nat}
theorem set_at {α : Type} {l : List α} {i j : Nat} {x y : α} (h : (l.set i x)[j]? = some y) : (j = i ∧ y = x) ∨ (j ≠ i ∧ l[j]? = some y) := by
  by_cases e : j = i
  · subst e
    rw [List.getElem?_set_self'] at h
    cases q : l[j]? with
    | none =>
      rw [q] at h
      cases h
    | some z =>
      rw [q] at h
      cases h
      exact .inl ⟨rfl, rfl⟩
  · rw [List.getElem?_set_ne (Ne.symm e)] at h
    exact .inr ⟨e, h⟩
theorem lt_of_get {α : Type} {l : List α} {i : Nat} {x : α} (h : l[i]? = some x) : i < l.length := (List.getElem?_eq_some_iff.mp h).1
/-- a slot gets data (or nothing that is known) -/
theorem Holds.setVal (h : Holds K mg C Z r T σ H) {v : V} {d : D} (p : Rep K mg (SS C Z r σ) H v d) : Holds K mg C Z (r.set i (some (.val d))) T (σ.set i (some v)) H := by
  have less : ∀ a, SS C Z (r.set i (some (.val d))) (σ.set i (some v)) a → SS C Z r σ a := fun a z => by
    rcases z with z | z | ⟨j, e, z1, z2⟩ | z
    · exact .inl z
    · exact .inr (.inl z)
    · rcases set_at z1 with ⟨_, q⟩ | ⟨ne, q⟩
      · cases q
      · rw [List.getElem?_set_ne (Ne.symm ne)] at z2
        exact .inr (.inr (.inl ⟨j, e, q, z2⟩))
    · exact .inr (.inr (.inr z))
  have n : ∀ a o, H a = some o → ¬ SS C Z r σ a → ¬ SS C Z (r.set i (some (.val d))) (σ.set i (some v)) a := fun a _ _ s z => s (less a z)
  refine ⟨by rw [List.length_set, List.length_set]; exact h.len, h.frame, fun j e q => ?_, fun j e q => ?_, fun j k p d e q1 q2 q3 q4 => ?_, ?_, fun j q => ?_, h.st, h.zt, fun p hp => (h.pin p hp).go (fun _ _ e _ => e) n⟩
  · rcases set_at q with ⟨ej, q⟩ | ⟨ne, q⟩
    · cases q
      subst ej
      refine ⟨v, ?_, p.go (fun _ _ e _ => e) n⟩
      have hj := lt_of_get ‹_›
      rw [List.length_set, h.len] at hj
      rw [List.getElem?_set_self hj]
    · obtain ⟨u, e1, p1⟩ := h.val j e q
      refine ⟨u, ?_, p1.go (fun _ _ e _ => e) n⟩
      rw [List.getElem?_set_ne (Ne.symm ne)]
      exact e1
  · rcases set_at q with ⟨ej, q⟩ | ⟨ne, q⟩
    · cases q
    · obtain ⟨u, e1, o, g⟩ := h.own j e q
      refine ⟨u, ?_, o.go (fun _ e => e) (fun _ _ e _ => e) n, g⟩
      rw [List.getElem?_set_ne (Ne.symm ne)]
      exact e1
  · rcases set_at q1 with ⟨ej, q⟩ | ⟨ne, q1⟩
    · cases q
    · rcases set_at q2 with ⟨ej, q⟩ | ⟨ne2, q2⟩
      · cases q
      · rw [List.getElem?_set_ne (Ne.symm ne)] at q3
        rw [List.getElem?_set_ne (Ne.symm ne2)] at q4
        exact h.inj j k p _ _ q1 q2 q3 q4
  · have t := h.tape
    unfold TapeOk at t ⊢
    cases hc : C.tp with
    | none =>
      rw [hc] at t
      exact t
    | some u =>
      rw [hc] at t
      obtain ⟨t, e, o⟩ := t
      exact ⟨t, e, o.go (fun o q => q) (fun a o q _ => q) n⟩
  · rcases set_at q with ⟨ej, q⟩ | ⟨ne, q⟩
    · cases q
    · rw [List.getElem?_set_ne (Ne.symm ne)]
      exact h.tslot j q
/-- a slot gets the thing that was set apart -/
theorem Holds.setOwn {p : Addr} (h : Holds K mg C (fun a => a = p) r T σ H) {d : D} (hp : C.H0 p = none) (o : OwnAt K mg (SS C (fun a => a = p) r σ) H p d) (nt : C.tp ≠ some p) (ns : ¬ C.S0 p) : Holds K mg C Z0 (r.set i (some (.own d))) T (σ.set i (some (.ref p))) H := by
  have less : ∀ a, SS C Z0 (r.set i (some (.own d))) (σ.set i (some (.ref p))) a → SS C (fun a => a = p) r σ a := fun a z => by
    rcases z with z | z | ⟨j, e, z1, z2⟩ | z
    · exact .inl z
    · exact .inr (.inl z)
    · rcases set_at z1 with ⟨ej, q⟩ | ⟨ne, q⟩
      · subst ej
        have hj := lt_of_get z1
        rw [List.length_set, h.len] at hj
        rw [List.getElem?_set_self hj] at z2
        cases z2
        exact .inr (.inr (.inr rfl))
      · rw [List.getElem?_set_ne (Ne.symm ne)] at z2
        exact .inr (.inr (.inl ⟨j, e, q, z2⟩))
    · exact z.elim
  have n : ∀ a o, H a = some o → ¬ SS C (fun a => a = p) r σ a → ¬ SS C Z0 (r.set i (some (.own d))) (σ.set i (some (.ref p))) a := fun a _ _ s z => s (less a z)
  have no : ∀ (j : Nat) (e : D), r[j]? = some (some (.own e)) → σ[j]? ≠ some (some (.ref p)) := fun j e q z => by
    obtain ⟨u, e1, _, _, _, nz, _⟩ := h.own j e q
    rw [z] at e1
    cases e1
    exact nz rfl
  refine ⟨by rw [List.length_set, List.length_set]; exact h.len, h.frame, fun j e q => ?_, fun j e q => ?_, fun j k p' d e q1 q2 q3 q4 => ?_, ?_, fun j q => ?_, h.st, fun _ z => z.elim, fun p hp => (h.pin p hp).go (fun _ _ e _ => e) n⟩
  · rcases set_at q with ⟨ej, q⟩ | ⟨ne, q⟩
    · cases q
    · obtain ⟨u, e1, p1⟩ := h.val j e q
      refine ⟨u, ?_, p1.go (fun _ _ e _ => e) n⟩
      rw [List.getElem?_set_ne (Ne.symm ne)]
      exact e1
  · rcases set_at q with ⟨ej, q⟩ | ⟨ne, q⟩
    · cases q
      subst ej
      refine ⟨p, ?_, o.go (fun _ e => e) (fun _ _ e _ => e) n, hp, nt, fun z => z, ns⟩
      have hj := lt_of_get ‹_›
      rw [List.length_set, h.len] at hj
      rw [List.getElem?_set_self hj]
    · obtain ⟨u, e1, o, g1, g2, _, g4⟩ := h.own j e q
      refine ⟨u, ?_, o.go (fun _ e => e) (fun _ _ e _ => e) n, g1, g2, fun z => z, g4⟩
      rw [List.getElem?_set_ne (Ne.symm ne)]
      exact e1
  · rcases set_at q1 with ⟨ej, q⟩ | ⟨ne, q1'⟩
    · subst ej
      rcases set_at q2 with ⟨ek, q⟩ | ⟨ne2, q2'⟩
      · exact ek.symm
      · have hj := lt_of_get q1
        rw [List.length_set, h.len] at hj
        rw [List.getElem?_set_self hj] at q3
        cases q3
        rw [List.getElem?_set_ne (Ne.symm ne2)] at q4
        exact absurd q4 (no k _ q2')
    · rcases set_at q2 with ⟨ek, q⟩ | ⟨ne2, q2'⟩
      · subst ek
        have hj := lt_of_get q2
        rw [List.length_set, h.len] at hj
        rw [List.getElem?_set_self hj] at q4
        cases q4
        rw [List.getElem?_set_ne (Ne.symm ne)] at q3
        exact absurd q3 (no j _ q1')
      · rw [List.getElem?_set_ne (Ne.symm ne)] at q3
        rw [List.getElem?_set_ne (Ne.symm ne2)] at q4
        exact h.inj j k p' _ _ q1' q2' q3 q4
  · have t := h.tape
    unfold TapeOk at t ⊢
    cases hc : C.tp with
    | none =>
      rw [hc] at t
      exact t
    | some u =>
      rw [hc] at t
      obtain ⟨t, e, o⟩ := t
      exact ⟨t, e, o.go (fun o q => q) (fun a o q _ => q) n⟩
  · rcases set_at q with ⟨ej, q⟩ | ⟨ne, q⟩
    · cases q
    · rw [List.getElem?_set_ne (Ne.symm ne)]
      exact h.tslot j q
end
end Pu
namespace Pu
open PySem L2

/-! ## statement rules -/
def sPass : DS := fun r T => .ok (.nx r, T)
def sNo : DS := fun _ _ => .stuck
def sSeq (f g : DS) : DS := fun r T => (f r T).bind fun p => match p.1 with
  | .nx r' => g r' p.2
  | .rt v => .ok (.rt v, p.2)
  | .bk r' => .ok (.bk r', p.2)
  | .ct r' => .ok (.ct r', p.2)
def sIf (c : DT) (f g : DS) : DS := fun r T => (c r T).bind fun p => if p.1 = true then f r p.2 else g r p.2
def sDrop (f : DE) : DS := fun r T => (dt (f r T)).bind fun p => .ok (.nx r, p.2)
/-- a worth into a slot -/
def put (r : Env) (i : Nat) : VD → Rs Env
  | .val d => .ok (r.set i (some (.val d)))
  | .own d => .ok (r.set i (some (.own d)))
  | _ => .stuck
@[simp] theorem put_val (r : Env) (i : Nat) (d : D) : put r i (.val d) = .ok (r.set i (some (.val d))) := rfl
@[simp] theorem put_own (r : Env) (i : Nat) (d : D) : put r i (.own d) = .ok (r.set i (some (.own d))) := rfl
def sAsg (i : Nat) (f : DE) : DS := fun r T => (f r T).bind fun p => (put r i p.1).bind fun r' => .ok (.nx r', p.2)
def sRet (f : DE) : DS := fun r T => (f r T).bind fun p => match p.1 with
  | .val d => .ok (.rt (.val d), p.2)
  | .own d => .ok (.rt (.own d), p.2)
  | _ => .stuck
/-- return of a name: what is owned is given away -/
def sRetV (i : Nat) : DS := fun r T => match r[i]? with
  | some (some (.val d)) => .ok (.rt (.val d), T)
  | some (some (.own d)) => .ok (.rt (.own d), T)
  | _ => .stuck
def sRetN : DS := fun _ T => .ok (.rt (.val .non), T)
def sBrk : DS := fun r T => .ok (.bk r, T)
def sCt : DS := fun r T => .ok (.ct r, T)
/-- a name op= e -/
def sAug (op : D → D → Rs VD) (i : Nat) (f : DE) : DS := fun r T => match r[i]? with
  | some (some (.val d)) => (dt (f r T)).bind fun p => (op d p.1).bind fun v => (put r i v).bind fun r' => .ok (.nx r', p.2)
  | _ => .stuck
/-- what a slot owns is given up -/
def frz (r : Env) (i : Nat) : Env := match r[i]? with
  | some (some (.own d)) => r.set i (some (.val d))
  | _ => r
def sFrz (i : Nat) (g : DS) : DS := fun r T => g (frz r i) T

section
variable {K : PySem.W.Frag} {mg : Str → Option Value} {C : FC} {r : Env} {T : Tp} {σ : L2.St} {H H1 : Hp} {i : Nat}
theorem Holds.unown (h : Holds K mg C Z0 r T σ H) : Holds K mg C Z0 (frz r i) T σ H := by
  unfold frz
  cases e : r[i]? with
  | none => exact h
  | some o =>
    cases o with
    | none => exact h
    | some w =>
      cases w with
      | own d =>
        obtain ⟨p, e1, o, g1, g2, g3, g4⟩ := h.own i d e
        have less : ∀ a, SS C Z0 (r.set i (some (.val d))) σ a → SS C Z0 r σ a := fun a z => by
          rcases z with z | z | ⟨j, e, z1, z2⟩ | z
          · exact .inl z
          · exact .inr (.inl z)
          · rcases set_at z1 with ⟨_, q⟩ | ⟨ne, q⟩
            · cases q
            · exact .inr (.inr (.inl ⟨j, e, q, z2⟩))
          · exact z.elim
        have n : ∀ a o, H a = some o → ¬ SS C Z0 r σ a → ¬ SS C Z0 (r.set i (some (.val d))) σ a := fun a _ _ s z => s (less a z)
        have np : ¬ SS C Z0 (r.set i (some (.val d))) σ p := fun z => by
          rcases z with z | z | ⟨j, u, z1, z2⟩ | z
          · exact g4 z
          · exact g2 z
          · rcases set_at z1 with ⟨_, q⟩ | ⟨ne, q⟩
            · cases q
            · exact ne (h.inj j i p _ _ q e z2 e1)
          · exact z
        refine ⟨by rw [List.length_set]; exact h.len, h.frame, fun j u q => ?_, fun j u q => ?_, fun j k p' u w q1 q2 q3 q4 => ?_, ?_, fun j q => ?_, h.st, fun _ z => z.elim, fun p hp => (h.pin p hp).go (fun _ _ e _ => e) n⟩
        · rcases set_at q with ⟨ej, q⟩ | ⟨ne, q⟩
          · cases q
            subst ej
            exact ⟨_, e1, o.frozen np n⟩
          · obtain ⟨u, e2, p1⟩ := h.val j u q
            exact ⟨u, e2, p1.go (fun _ _ e _ => e) n⟩
        · rcases set_at q with ⟨ej, q⟩ | ⟨ne, q⟩
          · cases q
          · obtain ⟨u, e2, o2, g⟩ := h.own j u q
            exact ⟨u, e2, o2.go (fun _ e => e) (fun _ _ e _ => e) n, g⟩
        · rcases set_at q1 with ⟨ej, q⟩ | ⟨ne, q1⟩
          · cases q
          · rcases set_at q2 with ⟨ej, q⟩ | ⟨ne2, q2⟩
            · cases q
            · exact h.inj j k p' _ _ q1 q2 q3 q4
        · have t := h.tape
          unfold TapeOk at t ⊢
          cases hc : C.tp with
          | none =>
            rw [hc] at t
            exact t
          | some u =>
            rw [hc] at t
            obtain ⟨t, e, o⟩ := t
            exact ⟨t, e, o.go (fun o q => q) (fun a o q _ => q) n⟩
        · rcases set_at q with ⟨ej, q⟩ | ⟨ne, q⟩
          · cases q
          · exact h.tslot j q
      | _ => exact h
theorem s1_less {Z : Addr → Prop} (a : Addr) (s : S1 C a) : SS C Z r σ a := by
  rcases s with s | s
  · exact .inl s
  · exact .inr (.inl s)
theorem TapeOk.less {S S' : Addr → Prop} {tp : Option Addr} (t : TapeOk K mg S tp T H) (n : ∀ a o, H a = some o → ¬ S a → ¬ S' a) : TapeOk K mg S' tp T H := by
  unfold TapeOk at t ⊢
  cases tp with
  | none => exact t
  | some p =>
    obtain ⟨t, e, o⟩ := t
    exact ⟨t, e, o.go (fun _ q => q) (fun _ _ q _ => q) n⟩
theorem ret_val (h : Holds K mg C Z0 r T σ H) {u : V} {d : D} (p : Rep K mg (SS C Z0 r σ) H u d) : Ret K mg C T H u (.val d) :=
  ⟨p.go (fun _ _ e _ => e) fun a _ _ s z => s (s1_less a z), h.tape.less fun a _ _ s z => s (s1_less a z)⟩
end
theorem put_slot {K : PySem.W.Frag} {mg : Str → Option Value} {C : FC} {r : Env} {T : Tp} {σ : L2.St} {H : Hp} {i : Nat} {G : Fl × Tp → Prop} {Q : L2.St → Hp → Prop} (h : Holds K mg C Z0 r T σ H) {x : Rs (VD × Tp)}
    (P : PostS K mg C G (x.bind fun p => (put r i p.1).bind fun r' => .ok (.nx r', p.2))) (hG : ∀ r' T', G (.nx r', T') → ∀ σ H, Holds K mg C Z0 r' T' σ H → Q σ H) : Post K mg C r σ H (fun v H1 => Q (σ.set i (some v)) H1) x := by
  refine (PostS.at P.bind).imp fun p P => ?_
  obtain ⟨v, T'⟩ := p
  cases v with
  | val d => exact fun v H' h1 e1 p => hG _ _ P _ _ (h1.setVal p)
  | own d =>
    refine fun p H' hp h1 e1 o => hG _ _ P _ _ (h1.setOwn (back h h.frame hp) o (fun z => h.fresh hp (.inr (.inl z))) fun z => h.fresh hp (.inl z))
  | peek d => exact (show False from P).elim
  | tape => exact (show False from P).elim
section
variable {X : Cx} {C : FC} {st : Stmt} {a b rest : List Stmt} {e : Expr} {c : Expr} {f : DE} {u : DT} {g w : DS} {pos : Pos}
theorem ss_no : SSt X C st sNo := ⟨fun pins s σ H D I ⟨ρ, T, h, P⟩ => P.elim⟩
theorem sss_no {sts : List Stmt} : SSs X C sts sNo := ⟨fun pins s σ H D I ⟨ρ, T, h, P⟩ => P.elim⟩
theorem ss_pass : SSt X C (.Pass pos) sPass := ps_imp ps_pass fun D σ H ⟨ρ, T, h, P⟩ => P σ H h
theorem ss_break : SSt X C (.Break pos) sBrk := ps_imp ps_break fun D σ H ⟨ρ, T, h, P⟩ => P σ H h
theorem ss_continue : SSt X C (.Continue pos) sCt := ps_imp ps_continue fun D σ H ⟨ρ, T, h, P⟩ => P σ H h
theorem sss_nil : SSs X C [] sPass := pss_imp pss_nil fun D σ H ⟨ρ, T, h, P⟩ => P σ H h
theorem sss_one (h : SSt X C st g) : SSs X C [st] g := pss_one h
theorem sss_cons (h : SSt X C st g) (k : SSs X C rest w) : SSs X C (st :: rest) (sSeq g w) := by
  refine pss_imp (pss_cons h k) ?_
  rintro D σ H ⟨ρ, T, h, P⟩
  refine ⟨ρ, T, h, P.bind.imp fun p P => ?_⟩
  obtain ⟨fl, T'⟩ := p
  cases fl with
  | nx r' => exact fun σ' H' h' => ⟨r', T', h', P⟩
  | rt v => exact P
  | bk r' => exact P
  | ct r' => exact P
theorem ss_doc {x : Str} {j : Nat} {pos' : Pos} : SSt X C (.Expr (.Constant (.str x) j pos) pos') sPass := ps_imp ps_doc fun D σ H ⟨ρ, T, h, P⟩ => P σ H h
theorem ss_expr (he : SE X C e f) (hs : swapsWith e none pos.line X.env = pure false := by rfl) : SSt X C (.Expr e pos) (sDrop f) := by
  refine ps_imp (ps_expr he hs) ?_
  rintro D σ H ⟨ρ, T, h, P⟩
  exact ⟨ρ, T, h, gs_dt h (PostS.at P.bind) fun d T' v H1 h1 e1 p P1 => P1 σ H1 h1⟩
theorem ss_ret (he : SE X C e f) : SSt X C (.Return (some e) pos) (sRet f) := by
  refine ps_imp (ps_ret he) ?_
  rintro D σ H ⟨ρ, T, h, P⟩
  refine ⟨ρ, T, h, (PostS.at P.bind).imp fun p P => ?_⟩
  obtain ⟨v, T'⟩ := p
  cases v with
  | val d => exact fun v H' h1 e1 p => P v H' h1.frame (ret_val h1 p)
  | own d =>
    refine fun p H' hp h1 e1 o => P (.ref p) H' h1.frame ⟨p, rfl, back h h.frame hp, fun z => h.fresh hp (.inr (.inl z)), o.go (fun _ e => e) (fun _ _ e _ => e) ?_, h1.tape.less ?_⟩
    · intro a _ _ s z
      rcases z with z | z
      · exact s (s1_less a z)
      · exact s (.inr (.inr (.inr z)))
    · intro a _ _ s z
      rcases z with z | z
      · exact s (s1_less a z)
      · exact s (.inr (.inr (.inr z)))
  | peek d => exact (show False from P).elim
  | tape => exact (show False from P).elim
theorem ss_retV (i : Nat) {x : Str} (hN : X.N[i]? = some x := by rfl) (hv : Vis X.env.scope x := by first | exact Or.inl rfl | exact Or.inr (Or.inl rfl) | exact Or.inr (Or.inr rfl)) {pos' : Pos}
    (hd : (x == ("__debug__" : Str)) = false := by decide) (hcd : (x == ("__classdict__" : Str)) = false := by decide) : SSt X C (.Return (some (.Name x pos')) pos) (sRetV i) := by
  refine ps_imp (ps_ret (pe_var hN hv hd hcd)) ?_
  rintro D σ H ⟨ρ, T, h, P⟩
  unfold sRetV at P
  cases e : ρ[i]? with
  | none => rw [e] at P; exact P.elim
  | some o =>
    rw [e] at P
    cases o with
    | none => exact P.elim
    | some w =>
      cases w with
      | val d =>
        obtain ⟨v, e1, p⟩ := h.val i d e
        exact ⟨v, e1, P v H h.frame (ret_val h p)⟩
      | own d =>
        obtain ⟨p, e1, o, g1, g2, g3, g4⟩ := h.own i d e
        have n : ∀ a o, H a = some o → ¬ SS C Z0 ρ σ a → ¬ (S1 C a ∨ a = p) := fun a _ _ s z => by
          rcases z with z | z
          · exact s (s1_less a z)
          · rw [z] at s
            exact s (.inr (.inr (.inl ⟨i, d, e, e1⟩)))
        exact ⟨_, e1, P _ H h.frame ⟨p, rfl, g1, g2, o.go (fun _ e => e) (fun _ _ e _ => e) n, h.tape.less n⟩⟩
      | peek d => exact P.elim
      | tape => exact P.elim
theorem ss_retN : SSt X C (.Return none pos) sRetN := ps_imp ps_retN fun D σ H ⟨ρ, T, h, P⟩ => P .non H h.frame (ret_val h .non)
theorem ss_if (hc : ST X C c u) (ha : SSs X C a g) (hb : SSs X C b w) : SSt X C (.If c a b pos) (sIf u g w) := by
  refine ps_imp (ps_if hc ha hb) ?_
  rintro D σ H ⟨ρ, T, h, P⟩
  refine ⟨ρ, T, h, (PostS.at P.bind).imp fun p P => ?_⟩
  obtain ⟨b, T'⟩ := p
  intro H' h1 e1
  cases b with
  | true => exact ⟨ρ, T', h1, P⟩
  | false => exact ⟨ρ, T', h1, P⟩
theorem sss_frz (i : Nat) (h : SSs X C a g) : SSs X C a (sFrz i g) := pss_imp h fun D σ H ⟨ρ, T, h, P⟩ => ⟨frz ρ i, T, h.unown, P⟩
theorem ss_set (i : Nat) {x : Str} {pos' : Pos} (hN : X.N.Nodup) (he : SE X C e f) (hi : X.N[i]? = some x := by rfl) (hx : Loc X.env.scope x := by first | exact Or.inl rfl | exact Or.inr rfl) (hs : swapsWith e (some (.Name x pos')) pos.line X.env = pure false := by rfl) (hf : X.fn x = true ∨ X.env.scope.names.lookup x = some .local := by first | exact .inl rfl | exact .inr rfl) :
    SSt X C (.Assign [.Name x pos'] e pos) (sAsg i f) := by
  refine ps_imp (ps_set hN hi hx he hs hf) ?_
  rintro D σ H ⟨ρ, T, h, P⟩
  exact ⟨ρ, T, h, put_slot (Q := D.nx) h P fun r' T' q σ' H' h' => q σ' H' h'⟩
theorem ss_aug (i : Nat) {x : Str} {pos' : Pos} {o : Operator} {op : D → D → Rs VD} {r : R2} (ho : OpR X (inplaceOp o) r) (hd : R2D X.K X.mg r op) (hq : Quiet2 op) (hN : X.N.Nodup) (he : SE X C e f) (hi : X.N[i]? = some x := by rfl) (hx : Loc X.env.scope x := by first | exact Or.inl rfl | exact Or.inr rfl)
    (hf : X.fn x = true ∨ X.env.scope.names.lookup x = some .local := by first | exact .inl rfl | exact .inr rfl) : SSt X C (.AugAssign (.Name x pos') o e pos) (sAug op i f) := by
  refine ps_imp (ps_aug (ti := fun x y H Q => r x y H Q) hN hi hx he (fun pins s σ H x y v u Q I rx ry q => ho pins s σ H x y v u Q I rx ry q) hf) ?_
  rintro D σ H ⟨ρ, T, h, P⟩
  unfold sAug at P
  cases e : ρ[i]? with
  | none => rw [e] at P; exact P.elim
  | some o =>
    rw [e] at P
    cases o with
    | none => exact P.elim
    | some w =>
      cases w with
      | val d =>
        obtain ⟨v, e1, p⟩ := h.val i d e
        refine ⟨v, e1, ρ, T, h, gs_dt h (PostS.at P.bind) fun d2 T' v2 H1 h1 e1 p2 P1 => ?_⟩
        have Q2 : Post X.K X.mg C ρ σ H1 (fun z H2 => D.nx (σ.set i (some z)) H2) (lift (op d d2) T') := by
          refine put_slot (i := i) (G := GS X.K X.mg C D) (Q := D.nx) h1 ?_ fun r' T' q σ' H' h' => q σ' H' h'
          rcases hq d d2 with z | ⟨y, z⟩ | ⟨y, z⟩ <;> rw [z] at P1 ⊢ <;> exact P1
        obtain ⟨z, ez, P3⟩ := lift_ex (hq d d2) h1 Q2
        exact hd _ H1 v v2 d d2 _ z h1.trk (.inl (p.ext e1)) p2.top ez P3
      | own d => exact P.elim
      | peek d => exact P.elim
      | tape => exact P.elim
end

/-! ## defs -/
def env0 (n : Nat) (io : Bool) (ds : List D) : Env := (if io then [some .tape] else []) ++ ds.map (fun d => some (.val d)) ++ List.replicate (n - (if io then 1 else 0) - ds.length) none
abbrev DM := List D → Tp → Rs (VD × Tp)
def runD (n : Nat) (io : Bool) (g : DS) : DM := fun ds T => (g (env0 n io ds) T).bind fun p => match p.1 with
  | .nx _ => .ok (.val .non, p.2)
  | .rt v => .ok (v, p.2)
  | _ => .stuck
def GF (K : PySem.W.Frag) (mg : Str → Option Value) (C : FC) (Q : VK) : VD × Tp → Prop := fun p => ∀ u H', Ext C C.H0 H' → Ret K mg C p.2 H' u p.1 → Q u H'
def PostF (K : PySem.W.Frag) (mg : Str → Option Value) (C : FC) (Q : VK) (E : XK) : Rs (VD × Tp) → Prop
  | .ok p => GF K mg C Q p
  | .exc c fs T _ => ∀ cls d H', Ext C C.H0 H' → TapeOk K mg (S1 C) C.tp T H' → ExcAt K mg (S1 C) H' c fs cls d → E cls d H'
  | .stuck => False
def Args (C : FC) (io : Bool) (vs vs1 : List V) : Prop := match C.tp with
  | none => io = false ∧ vs = vs1
  | some p => io = true ∧ vs = .ref p :: vs1 ∧ ¬ C.S0 p
/-- a def's promise: it does what M says -/
def SpD (K : PySem.W.Frag) (mg : Str → Option Value) (n : Nat) (io : Bool) (M : DM) : Sp := fun vs H Q E => ∃ (C : FC) (vs1 : List V) (ds : List D) (T : Tp),
  C.H0 = H ∧ vs.length = n ∧ (∀ p, C.S0 p → ∃ o, H p = some o ∧ Mut (some o)) ∧ Args C io vs vs1 ∧ TapeOk K mg (S1 C) C.tp T H ∧ Reps K mg (S1 C) H vs1 ds ∧ PostF K mg C Q E (M ds T)
theorem ExcAt.less {K : PySem.W.Frag} {mg : Str → Option Value} {S S' : Addr → Prop} {H : Hp} {c : Str} {fs : List (Str × D)} {cls : Value} {d : Option Addr} (x : ExcAt K mg S H c fs cls d) (n : ∀ a o, H a = some o → ¬ S a → ¬ S' a) : ExcAt K mg S' H c fs cls d := by
  obtain ⟨Ca, h1, h2, h3⟩ := x
  refine ⟨Ca, h1, h2, ?_⟩
  rcases h3 with h3 | ⟨dd, xs, e1, e2, e3, q⟩
  · exact .inl h3
  · exact .inr ⟨dd, xs, e1, e2, e3, q.go (fun _ _ e _ => e) n⟩
theorem env0_get {n : Nat} {io : Bool} {ds : List D} {i : Nat} {w : VD} (h : (env0 n io ds)[i]? = some (some w)) : (io = true ∧ i = 0 ∧ w = .tape) ∨ ∃ d, w = .val d ∧ ds[i - (if io then 1 else 0)]? = some d ∧ (if io then 1 else 0) ≤ i := by
  unfold env0 at h
  have core : ∀ (l : List D) (k j : Nat), (l.map (fun d => some (VD.val d)) ++ List.replicate k none)[j]? = some (some w) → ∃ d, w = .val d ∧ l[j]? = some d := fun l k j q => by
    by_cases hj : j < l.length
    · rw [List.getElem?_append_left (by simpa using hj), List.getElem?_map] at q
      cases e : l[j]? with
      | none =>
        rw [e] at q
        cases q
      | some d =>
        rw [e] at q
        cases q
        exact ⟨d, rfl, rfl⟩
    · rw [List.getElem?_append_right (by simpa using hj), List.getElem?_replicate] at q
      split at q <;> cases q
  cases io with
  | false =>
    obtain ⟨d, e1, e2⟩ := core ds _ i h
    exact .inr ⟨d, e1, e2, Nat.zero_le _⟩
  | true =>
    cases i with
    | zero =>
      cases h
      exact .inl ⟨rfl, rfl, rfl⟩
    | succ i =>
      obtain ⟨d, e1, e2⟩ := core ds _ i h
      exact .inr ⟨d, e1, e2, Nat.succ_le_succ (Nat.zero_le _)⟩
theorem start_get {N : List Str} {vs : List V} {i : Nat} {v : V} (h : vs[i]? = some v) : (L2.start N vs)[i]? = some (some v) := by
  unfold L2.start
  have hi := lt_of_get h
  rw [List.getElem?_append_left (by simpa using hi), List.getElem?_map, h]
  rfl
section
variable {P : Program} {w : World} {K : PySem.W.Frag} {mg : Str → Option Value} {base : Heap}
theorem holds_start {C : FC} {N : List Str} {io : Bool} {vs vs1 : List V} {ds : List D} {T : Tp} (hn : vs.length ≤ N.length) (st : ∀ p, C.S0 p → ∃ o, C.H0 p = some o ∧ Mut (some o)) (a : Args C io vs vs1) (t : TapeOk K mg (S1 C) C.tp T C.H0) (r : Reps K mg (S1 C) C.H0 vs1 ds) (hp : C.pin = []) :
    Holds K mg C Z0 (env0 N.length io ds) T (L2.start N vs) C.H0 := by
  have nown : ∀ (i : Nat) (d : D), (env0 N.length io ds)[i]? ≠ some (some (.own d)) := fun i d q => by
    rcases env0_get q with ⟨_, _, z⟩ | ⟨_, z, _⟩ <;> cases z
  have n : ∀ a o, C.H0 a = some o → ¬ S1 C a → ¬ SS C Z0 (env0 N.length io ds) (L2.start N vs) a := fun a _ _ s z => by
    rcases z with z | z | ⟨i, d, z, _⟩ | z
    · exact s (.inl z)
    · exact s (.inr z)
    · exact nown i d z
    · exact z
  have hl := r.len
  refine ⟨?_, Ext.refl, fun i d q => ?_, fun i d q => absurd q (nown i d), fun i j p d e q => absurd q (nown i d), t.less n, fun i q => ?_, st, fun _ z => z.elim, fun p z => by rw [hp] at z; cases z⟩
  · unfold Args at a
    unfold env0 L2.start
    cases hc : C.tp with
    | none =>
      rw [hc] at a
      obtain ⟨rfl, rfl⟩ := a
      simp only [Bool.false_eq_true, if_false, List.nil_append, List.length_append, List.length_map, List.length_replicate]
      omega
    | some p =>
      rw [hc] at a
      obtain ⟨rfl, rfl, _⟩ := a
      simp only [if_true, List.length_append, List.length_map, List.length_replicate, List.length_cons, List.length_nil] at hn ⊢
      omega
  · rcases env0_get q with ⟨_, _, z⟩ | ⟨d', z, e, le⟩
    · cases z
    · cases z
      obtain ⟨v, e1, p⟩ := r.getD e
      refine ⟨v, ?_, p.go (fun _ _ e _ => e) n⟩
      apply start_get
      unfold Args at a
      cases hc : C.tp with
      | none =>
        rw [hc] at a
        obtain ⟨rfl, rfl⟩ := a
        simpa using e1
      | some p =>
        rw [hc] at a
        obtain ⟨rfl, rfl, _⟩ := a
        cases i with
        | zero => exact absurd le (by simp)
        | succ i => simpa using e1
  · rcases env0_get q with ⟨hio, hi, _⟩ | ⟨_, z, _⟩
    · subst hio hi
      unfold Args at a
      cases hc : C.tp with
      | none =>
        rw [hc] at a
        exact absurd a.1 (by simp)
      | some p =>
        rw [hc] at a
        obtain ⟨_, rfl, _⟩ := a
        exact ⟨p, rfl, start_get rfl⟩
    · cases z
/-- THE RULE for a def: its body's derivation gives its promise -/
theorem def_ok {x qual : Str} {st : Stmt} {f : Addr} {fd : FuncData} {N ps : List Str} {k : Nat} {io : Bool} {g : DS} (F : Fun K x qual st f fd) (S : FnScope N ps (defScope st))
    (hbody : ∀ (cdv : Value) (A : Around) (outer : List PySem.Env) (s : Shared) (H : Hp) (E : XK) (C : FC), Room k (A.deeper (PyProof.Rows.envOfC qual (defScope st) s.heap.objs.size f cdv)) → Takes (cxOf (L2.CX P w) P w K mg base N qual (defScope st) f cdv A outer s H E) C.W →
      SSs (cxOf (L2.CX P w) P w K mg base N qual (defScope st) f cdv A outer s H E) C (defBody st) g) : FnOk P w K mg base (L2.CX P w) (k + 1) f fd ps (SpD K mg ps.length io (runD N.length io g)) := by
  refine F.okX S (fun vs H Q E ⟨C, vs1, ds, T, _, hl, _⟩ => hl) fun cdv A outer s H vs Q E hr hsp => ?_
  obtain ⟨C0, vs1, ds, T, rfl, hl, st, a, t, r, P⟩ := hsp
  let C : FC := { C0 with W := fun cls d _ H => E cls d H, pin := [] }
  refine ⟨_, hbody cdv A outer s C0.H0 E C hr (takes_of rfl rfl rfl rfl), ?_⟩
  have hpl : ps.length ≤ N.length := by
    have := congrArg List.length S.pre
    rw [List.length_take] at this
    omega
  refine ⟨env0 N.length io ds, T, holds_start (C := C) (by rw [hl]; exact hpl) st a t r rfl, ?_⟩
  unfold runD at P
  cases q : g (env0 N.length io ds) T with
  | stuck =>
    rw [q] at P
    exact P.elim
  | exc c fs T' r' =>
    rw [q] at P
    exact fun σ cls d H' h1 x => P cls d H' h1.frame (h1.tape.less fun a _ _ s z => s (s1_less a z)) (x.less fun a _ _ s z => s (s1_less a z))
  | ok p =>
    rw [q] at P
    obtain ⟨fl, T'⟩ := p
    cases fl with
    | nx r' => exact fun σ H h1 => P .non H h1.frame (ret_val (C := C) h1 .non)
    | rt v => exact fun u H e1 q => P u H e1 q
    | bk r' => exact P.elim
    | ct r' => exact P.elim
end
end Pu
namespace Pu
open PySem L2

/-! ## calls of defs -/
def eDef (n : Nat) (M : DM) (g : DA) : DE := fun r T => (g r T).bind fun p => if p.1.length = n then (match M p.1 none with
  | .ok q => .ok (q.1, p.2)
  | .exc c fs _ _ => .exc c fs p.2 r
  | .stuck => .stuck) else .stuck
/-- .. with the tape ahead -/
def eDefT (i n : Nat) (M : DM) (g : DA) : DE := fun r T => match r[i]? with
  | some (some .tape) => (g r T).bind fun p => if p.1.length + 1 = n then (match M p.1 p.2 with
    | .ok q => .ok q
    | .exc c fs T' _ => .exc c fs T' r
    | .stuck => .stuck) else .stuck
  | _ => .stuck
section
variable {K : PySem.W.Frag} {mg : Str → Option Value} {C : FC} {r : Env} {T : Tp} {σ : L2.St} {H H1 : Hp}
/-- what a def gave, as what an operation gives -/
theorem ret_res {C1 : FC} {T1 : Tp} {Q : VK} {z : VD} (hS : ∀ a, S1 C1 a ↔ SS C Z0 r σ a) (ht : C1.tp = none) (hH : C1.H0 = H) {u : V} {H' : Hp} (e : Ext C1 C1.H0 H') (q : Ret K mg C1 T1 H' u z) (h : Res1 K mg (SS C Z0 r σ) H z Q) : Q u H' := by
  have s : Same H H' := fun a o x => e a o (by rw [hH]; exact x) (by rw [ht]; intro z; cases z)
  cases z with
  | val d => exact h u H' s (q.1.go (fun _ _ e _ => e) fun a _ _ n z => n ((hS a).mpr z))
  | own d =>
    obtain ⟨p, rfl, hp, _, o, _⟩ := q
    refine h p H' (by rw [← hH]; exact hp) s (o.go (fun _ e => e) (fun _ _ e _ => e) fun a _ _ n z => n ?_)
    rcases z with z | z
    · exact .inl ((hS a).mpr z)
    · exact .inr z
  | peek d => exact q.elim
  | tape => exact q.elim
end
section
variable {X : Cx} {C : FC} {e : Expr} {es : List Expr} {g : DA} {pos p : Pos} {x : Str} {k : Nat} {f : Addr} {fd : FuncData} {ps : List Str} {n : Nat} {M : DM}
theorem t_def : ∀ (σ : L2.St) (H : Hp) (Q : VK), tE X.K X.mg C (eDef n M g) σ H Q → tCallS (SpD X.K X.mg n false M) (WE C.W) (tA X.K X.mg C g) σ H Q := by
  rintro σ H Q ⟨ρ, T, h, P⟩
  refine ⟨ρ, T, h, ga_bind P fun ds T' vs H1 h1 e1 p P1 => ?_⟩
  obtain ⟨hn, P2⟩ := postG_if P1
  have hS : ∀ a, S1 (⟨H1, SS C Z0 ρ σ, none, C.W, []⟩ : FC) a ↔ SS C Z0 ρ σ a := fun a => by
    constructor
    · intro z
      rcases z with z | z
      · exact z
      · cases z
    · exact fun z => .inl z
  refine ⟨⟨H1, SS C Z0 ρ σ, none, C.W, []⟩, vs, ds, none, rfl, by rw [p.len]; exact hn, h1.trk, ⟨rfl, rfl⟩, rfl, p.go (fun _ _ e _ => e) fun a _ _ n z => n ((hS a).mp z), ?_⟩
  cases q : M ds none with
  | stuck =>
    simp only [q] at P2
    exact P2.elim
  | exc c fs T2 r2 =>
    simp only [q] at P2
    exact fun cls d H' e2 _ x => P2 cls d H' (h1.more fun a o z => e2 a o z (by intro z; cases z)) (x.less fun a _ _ n z => n ((hS a).mpr z))
  | ok z =>
    simp only [q] at P2
    have P3 : GV X.K X.mg C ρ σ H Q (z.1, T') := P2
    intro u H' e2 rt
    have hz : ∀ d, z.1 ≠ .peek d := fun d z2 => by
      rw [z2] at rt
      exact rt
    exact ret_res hS rfl rfl e2 rt (gv_res h1 (gv_from h1 e1 P3) hz)
theorem se_def (F : FnOk X.prog X.w X.K X.mg X.base (L2.CX X.prog X.w) k f fd ps (SpD X.K X.mg n false M)) (hm : X.mg x = some (.ref f)) (hk : PySem.W.keepIn X.K (.ref f) = true) (hb : Binds X.K fd ps []) (hr : Room k X.A) (tk : Takes X C.W) (ha : SA X C (e :: es) g)
    (hg : Gl X x := by rfl) (hdb : (x == ("__debug__" : Str)) = false := by decide) (he : starEach (e :: es) X.env = (false, eval e X.env) :: starEach es X.env := by rfl) (hpl : (backTo pos (starEach es X.env)).any (·.1) = false := by rfl) :
    SE X C (.Call (.Name x p) (e :: es) [] pos) (eDef n M g) := pe_imp (pe_callS F hr hg hm hk hb (passAt tk) ha hdb he hpl) t_def
/-- the tape's name, then the others -/
theorem t_defT (i : Nat) : ∀ (σ : L2.St) (H : Hp) (Q : VK), tE X.K X.mg C (eDefT i n M g) σ H Q → tCallS (SpD X.K X.mg n true M) (WE C.W) (tCons (tVar i) (tA X.K X.mg C g)) σ H Q := by
  rintro σ H Q ⟨ρ, T, h, P⟩
  unfold eDefT at P
  cases ei : ρ[i]? with
  | none => rw [ei] at P; exact P.elim
  | some o =>
    rw [ei] at P
    cases o with
    | none => exact P.elim
    | some w =>
      cases w with
      | tape =>
        obtain ⟨p0, hc, es⟩ := h.tslot i ei
        refine ⟨_, es, ρ, T, h, ga_bind P fun ds T' vs H1 h1 e1 p P1 => ?_⟩
        obtain ⟨hn, P2⟩ := postG_if P1
        have hS : ∀ a, S1 (⟨H1, fun a => SS C Z0 ρ σ a ∧ C.tp ≠ some a, C.tp, C.W, []⟩ : FC) a ↔ SS C Z0 ρ σ a := fun a => by
          constructor
          · intro z
            rcases z with z | z
            · exact z.1
            · exact .inr (.inl z)
          · intro z
            by_cases q : C.tp = some a
            · exact .inr q
            · exact .inl ⟨z, q⟩
        refine ⟨⟨H1, fun a => SS C Z0 ρ σ a ∧ C.tp ≠ some a, C.tp, C.W, []⟩, vs, ds, T', rfl, by rw [List.length_cons, p.len]; exact hn, fun q z => h1.tr z.1, ?_, h1.tape.less fun a _ _ n z => n ((hS a).mp z), p.go (fun _ _ e _ => e) fun a _ _ n z => n ((hS a).mp z), ?_⟩
        · unfold Args
          rw [hc]
          exact ⟨rfl, rfl, fun z => z.2 rfl⟩
        cases q : M ds T' with
        | stuck =>
          simp only [q] at P2
          exact P2.elim
        | exc c fs T2 r2 =>
          simp only [q] at P2
          exact fun cls d H' e2 t x => P2 cls d H' (h1.move e2 ss_same (fun _ _ _ _ _ z => z) (t.less fun a _ _ n z => n ((hS a).mpr z)) fun _ z => z.elim) (x.less fun a _ _ n z => n ((hS a).mpr z))
        | ok z =>
          simp only [q] at P2
          obtain ⟨z, T2⟩ := z
          have P3 : GV X.K X.mg C ρ σ H Q (z, T2) := P2
          intro u H' e2 rt
          have e2' : Ext C H1 H' := e2
          cases z with
          | val d =>
            obtain ⟨r1, t⟩ := rt
            exact P3 u H' (h1.move e2' ss_same (fun _ _ _ _ _ z => z) (t.less fun a _ _ n z => n ((hS a).mpr z)) fun _ z => z.elim) (e1.trans e2') (r1.go (fun _ _ e _ => e) fun a _ _ n z => n ((hS a).mpr z))
          | own d =>
            obtain ⟨q, rfl, hp, nt, o, t⟩ := rt
            have hp : H1 q = none := hp
            have n2 : ∀ a o, H1 a = some o → ¬ SS C Z0 ρ σ a → ¬ SS C (fun a => a = q) ρ σ a := fun a o e s z => by
              rcases z with z | z | z | z
              · exact s (.inl z)
              · exact s (.inr (.inl z))
              · exact s (.inr (.inr (.inl z)))
              · rw [z, hp] at e
                cases e
            have n3 : ∀ a o, H' a = some o → ¬ (S1 (⟨H1, fun a => SS C Z0 ρ σ a ∧ C.tp ≠ some a, C.tp, C.W, []⟩ : FC) a ∨ a = q) → ¬ SS C (fun a => a = q) ρ σ a := fun a _ _ n z => n (by
              rcases z with z | z | z | z
              · exact .inl ((hS a).mpr (.inl z))
              · exact .inl ((hS a).mpr (.inr (.inl z)))
              · exact .inl ((hS a).mpr (.inr (.inr (.inl z))))
              · exact .inr z)
            have om := o.there
            refine P3 q H' (back h1 e1 hp) (h1.move e2' n2 (fun j u d z1 z2 z3 => ?_) (t.less n3) fun a z => by rw [z]; exact om) (e1.trans e2') (o.go (fun _ e => e) (fun _ _ e _ => e) n3)
            obtain ⟨y, y1, y2, _⟩ := h1.own j d z1
            rw [z2] at y1
            cases y1
            obtain ⟨o2, e3, _⟩ := y2.there
            rw [z3, hp] at e3
            cases e3
          | peek d => exact rt.elim
          | tape => exact rt.elim
      | _ => exact P.elim
theorem se_defT (i : Nat) {y : Str} {p2 : Pos} (F : FnOk X.prog X.w X.K X.mg X.base (L2.CX X.prog X.w) k f fd ps (SpD X.K X.mg n true M)) (hm : X.mg x = some (.ref f)) (hk : PySem.W.keepIn X.K (.ref f) = true) (hb : Binds X.K fd ps []) (hr : Room k X.A) (tk : Takes X C.W) (ha : SA X C es g)
    (hN : X.N[i]? = some y := by rfl) (hv : Vis X.env.scope y := by first | exact Or.inl rfl | exact Or.inr (Or.inl rfl) | exact Or.inr (Or.inr rfl)) (hd : (y == ("__debug__" : Str)) = false := by decide) (hcd : (y == ("__classdict__" : Str)) = false := by decide)
    (hg : Gl X x := by rfl) (hdb : (x == ("__debug__" : Str)) = false := by decide) (he : starEach (.Name y p2 :: es) X.env = (false, eval (.Name y p2) X.env) :: starEach es X.env := by rfl) (hpl : (backTo pos (starEach es X.env)).any (·.1) = false := by rfl) :
    SE X C (.Call (.Name x p) (.Name y p2 :: es) [] pos) (eDefT i n M g) := pe_imp (pe_callS F hr hg hm hk hb (passAt tk) (pa_cons (pe_var hN hv hd hcd) ha he) hdb he hpl) (t_defT i)
end

/-! ## what a loop or a comprehension walks -/
abbrev DI := Env → Tp → Rs (List D × Tp)
/-- the iterator J gives the data ds, as long as the pinned values stand -/
def PinOk (K : PySem.W.Frag) (mg : Str → Option Value) (J : It) (ds : List D) (pins : List (V × D)) : Prop :=
  ds.length ≤ sizeLine ∧ ∀ (S : Addr → Prop) (H : Hp), Trk S H → (∀ p ∈ pins, Top K mg S H p.1 p.2) → ∀ i : Nat, (∀ d, ds[i]? = some d → J.go i H ∧ ∀ x H3, J.yld i H x H3 → Same H H3 ∧ Rep K mg S H3 x d) ∧ (ds.length ≤ i → J.stop i H)
def GI (K : PySem.W.Frag) (mg : Str → Option Value) (C : FC) (r : Env) (σ : L2.St) (H : Hp) (R : It → Hp → Prop) : List D × Tp → Prop := fun q =>
  ∀ J (pins : List (V × D)) H', Holds K mg C Z0 r q.2 σ H' → Ext C H H' → (∀ p ∈ pins, Rep K mg (SS C Z0 r σ) H' p.1 p.2) → PinOk K mg J q.1 pins → R J H'
def GJ (K : PySem.W.Frag) (mg : Str → Option Value) (C : FC) (r : Env) (σ : L2.St) (H : Hp) (R : It → Hp → Prop) : List D × Tp → Prop := fun q =>
  ∀ J (pins : List (V × D)) H', Holds K mg C Z0 r q.2 σ H' → Ext C H H' → (∀ p ∈ pins, TopC K mg C r σ H' p.1 p.2) → PinOk K mg J q.1 pins → R J H'
/-- for a loop: what is walked is data; for a comprehension: it is looked into -/
def tI (K : PySem.W.Frag) (mg : Str → Option Value) (C : FC) (f : DI) : TI := fun σ H R => ∃ r T, Holds K mg C Z0 r T σ H ∧ PostG K mg C σ (GI K mg C r σ H R) (f r T)
def tJ (K : PySem.W.Frag) (mg : Str → Option Value) (C : FC) (f : DI) : TI := fun σ H R => ∃ r T, Holds K mg C Z0 r T σ H ∧ PostG K mg C σ (GJ K mg C r σ H R) (f r T)
abbrev SI (X : Cx) (C : FC) (tg e : Expr) (f : DI) : Prop := PI X tg e (tI X.K X.mg C f)
abbrev SJ (X : Cx) (C : FC) (tg e : Expr) (f : DI) : Prop := PI X tg e (tJ X.K X.mg C f)
theorem pi_imp {X : Cx} {tg e : Expr} {t t' : TI} (h : PI X tg e t) (i : ∀ σ H R, t' σ H R → t σ H R) : PI X tg e t' := ⟨fun pins s σ H R I q => h.run pins s σ H R I (i σ H R q)⟩
def seqD : D → Rs (List D)
  | .tup ds => .ok ds
  | .lst ds => .ok ds
  | .tpl ns => .ok (ns.map D.int)
  | _ => .stuck
@[simp] theorem seqD_tpl (ns : List Int) : seqD (.tpl ns) = .ok (ns.map D.int) := rfl
@[simp] theorem seqD_tup (ds : List D) : seqD (.tup ds) = .ok ds := rfl
@[simp] theorem seqD_lst (ds : List D) : seqD (.lst ds) = .ok ds := rfl
def iSeq (f : DE) : DI := fun r T => (dv (f r T)).bind fun p => (seqD p.1).bind fun ds => .ok (ds, p.2)
def jSeq (f : DE) : DI := fun r T => (dt (f r T)).bind fun p => (seqD p.1).bind fun ds => .ok (ds, p.2)
theorem pi_or {X : Cx} {tg l : Expr} {t u : TI} (h1 : PI X tg l t) (h2 : PI X tg l u) : PI X tg l (fun σ H R => t σ H R ∨ u σ H R) :=
  ⟨fun pins s σ H R I q => q.elim (fun q => h1.run pins s σ H R I q) fun q => h2.run pins s σ H R I q⟩
section
variable {K : PySem.W.Frag} {mg : Str → Option Value}
theorem pin_list {a : Addr} {ds : List D} (hz : ds.length ≤ sizeLine) : PinOk K mg (Itl K a) ds [(.ref a, .lst ds)] := ⟨hz, fun S H t h i => by
  obtain ⟨b, vs, e, h1, z, q⟩ := (h _ List.mem_cons_self).sqL
  cases e
  refine ⟨fun d e => ?_, fun hi => ⟨vs, .of h1, by rw [q.len]; exact hi⟩⟩
  obtain ⟨v, ev, p⟩ := q.getD e
  refine ⟨⟨vs, v, .of h1, ev⟩, fun x H3 ⟨e3, y⟩ => ?_⟩
  subst e3
  have := y vs (.of h1)
  rw [ev] at this
  cases this
  exact ⟨Same.refl _, p⟩⟩
theorem pin_tup {a : Addr} {ds : List D} (hz : ds.length ≤ sizeLine) : PinOk K mg (Itt K a) ds [(.ref a, .tup ds)] := ⟨hz, fun S H t h i => by
  obtain ⟨b, vs, e, h1, z, q⟩ := (h _ List.mem_cons_self).sqT
  cases e
  refine ⟨fun d e => ?_, fun hi => ⟨vs, h1, by rw [q.len]; exact hi⟩⟩
  obtain ⟨v, ev, p⟩ := q.getD e
  refine ⟨⟨vs, v, h1, ev⟩, fun x H3 ⟨e3, y⟩ => ?_⟩
  subst e3
  have := y vs h1
  rw [ev] at this
  cases this
  exact ⟨Same.refl _, p⟩⟩
theorem pin_tpl {a : Addr} {ns : List Int} (hz : ns.length ≤ sizeLine) : PinOk K mg (Itt K a) (ns.map D.int) [(.ref a, .tpl ns)] := ⟨by rw [List.length_map]; exact hz, fun S H t h i => by
  obtain ⟨b, e, h1, z⟩ := (h _ List.mem_cons_self).tplT
  cases e
  refine ⟨fun d e => ?_, fun hi => ⟨_, h1, by rw [List.length_map] at hi ⊢; exact hi⟩⟩
  obtain ⟨v, ev, p⟩ := (Reps.ints (K := K) (mg := mg) (S := S) (H := H) ns).getD e
  refine ⟨⟨_, v, h1, ev⟩, fun x H3 ⟨e3, y⟩ => ?_⟩
  subst e3
  have := y _ h1
  rw [ev] at this
  cases this
  exact ⟨Same.refl _, p⟩⟩
theorem pin_range {lo : Int} {n : Nat} (hz : n ≤ sizeLine) : PinOk K mg (Itr lo n) ((List.range n).map fun (i : Nat) => .int (lo + i)) [] := ⟨by rw [List.length_map, List.length_range]; exact hz, fun S H t h i => by
  refine ⟨fun d e => ?_, fun hi => by simpa [Itr] using hi⟩
  rw [List.getElem?_map] at e
  cases q : (List.range n)[i]? with
  | none =>
    rw [q] at e
    cases e
  | some j =>
    rw [q] at e
    cases e
    obtain ⟨h1, h2⟩ := List.getElem?_eq_some_iff.mp q
    rw [List.getElem_range] at h2
    subst h2
    rw [List.length_range] at h1
    refine ⟨h1, fun x H3 ⟨e3, y⟩ => ?_⟩
    subst e3 y
    exact ⟨Same.refl _, .int _⟩⟩
end
section
variable {X : Cx} {C : FC} {tg l : Expr} {f : DE}
theorem dt_seq {C : FC} {K : PySem.W.Frag} {mg : Str → Option Value} {σ : L2.St} {B : Type} {G : B → Prop} {d : D} {g : List D → Rs B} (h : PostG K mg C σ G ((seqD d).bind g)) : (∃ ds, d = .lst ds ∧ PostG K mg C σ G (g ds)) ∨ (∃ ds, d = .tup ds ∧ PostG K mg C σ G (g ds)) ∨ ∃ ns, d = .tpl ns ∧ PostG K mg C σ G (g (ns.map D.int)) := by
  cases d with
  | lst ds => exact .inl ⟨ds, rfl, h⟩
  | tup ds => exact .inr (.inl ⟨ds, rfl, h⟩)
  | tpl ns => exact .inr (.inr ⟨ns, rfl, h⟩)
  | _ => exact (show False from h).elim
theorem gv_dvE {K : PySem.W.Frag} {mg : Str → Option Value} {C : FC} {r : Env} {T : Tp} {σ : L2.St} {H : Hp} {B : Type} {G : B → Prop} {Q : VK} {x : Rs (VD × Tp)} {g : D × Tp → Rs B} (h0 : Holds K mg C Z0 r T σ H) (P : PostG K mg C σ G ((dv x).bind g))
    (k : ∀ d T' v H', dv x = .ok (d, T') → Holds K mg C Z0 r T' σ H' → Ext C H H' → Rep K mg (SS C Z0 r σ) H' v d → PostG K mg C σ G (g (d, T')) → Q v H') : Post K mg C r σ H Q x := by
  cases x with
  | ok p =>
    obtain ⟨v, T⟩ := p
    cases v with
    | val d => exact fun v H' h1 e1 p => k d T v H' rfl h1 e1 p P
    | own d => exact fun p H' hp h1 e1 o => k d T (.ref p) H' rfl h1.join e1 (o.frozen (h0.fresh hp) (fun a o e s z => s (ss_less a z))) P
    | peek d => exact (show False from P).elim
    | tape => exact (show False from P).elim
  | exc c fs t r => exact P
  | stuck => exact (show False from P).elim
theorem gv_dtE {K : PySem.W.Frag} {mg : Str → Option Value} {C : FC} {r : Env} {T : Tp} {σ : L2.St} {H : Hp} {B : Type} {G : B → Prop} {Q : VK} {x : Rs (VD × Tp)} {g : D × Tp → Rs B} (h0 : Holds K mg C Z0 r T σ H) (P : PostG K mg C σ G ((dt x).bind g))
    (k : ∀ d T' v H', dt x = .ok (d, T') → Holds K mg C Z0 r T' σ H' → Ext C H H' → TopC K mg C r σ H' v d → PostG K mg C σ G (g (d, T')) → Q v H') : Post K mg C r σ H Q x := by
  cases x with
  | ok p =>
    obtain ⟨v, T⟩ := p
    cases v with
    | val d => exact fun v H' h1 e1 p => k d T v H' rfl h1 e1 (.inl p) P
    | own d => exact fun p H' hp h1 e1 o => k d T (.ref p) H' rfl h1.join e1 (.inl (o.frozen (h0.fresh hp) (fun a o e s z => s (ss_less a z)))) P
    | peek d => exact fun v H' h1 e1 p => k d T v H' rfl h1 e1 p P
    | tape => exact (show False from P).elim
  | exc c fs t r => exact P
  | stuck => exact (show False from P).elim
theorem runs_dv {K : PySem.W.Frag} {mg : Str → Option Value} {C : FC} {σ : L2.St} {B : Type} {G : B → Prop} {x : Rs (VD × Tp)} {g : D × Tp → Rs B} (P : PostG K mg C σ G ((dv x).bind g)) :
    (∃ d T, dv x = .ok (d, T) ∧ PostG K mg C σ G (g (d, T))) ∨ ∃ c fs t r, x = .exc c fs t r := by
  cases x with
  | ok p =>
    obtain ⟨v, T⟩ := p
    cases v with
    | val d => exact .inl ⟨d, T, rfl, P⟩
    | own d => exact .inl ⟨d, T, rfl, P⟩
    | peek d => exact (show False from P).elim
    | tape => exact (show False from P).elim
  | exc c fs t r => exact .inr ⟨c, fs, t, r, rfl⟩
  | stuck => exact (show False from P).elim
theorem runs_dt {K : PySem.W.Frag} {mg : Str → Option Value} {C : FC} {σ : L2.St} {B : Type} {G : B → Prop} {x : Rs (VD × Tp)} {g : D × Tp → Rs B} (P : PostG K mg C σ G ((dt x).bind g)) :
    (∃ d T, dt x = .ok (d, T) ∧ PostG K mg C σ G (g (d, T))) ∨ ∃ c fs t r, x = .exc c fs t r := by
  cases x with
  | ok p =>
    obtain ⟨v, T⟩ := p
    cases v with
    | val d => exact .inl ⟨d, T, rfl, P⟩
    | own d => exact .inl ⟨d, T, rfl, P⟩
    | peek d => exact .inl ⟨d, T, rfl, P⟩
    | tape => exact (show False from P).elim
  | exc c fs t r => exact .inr ⟨c, fs, t, r, rfl⟩
  | stuck => exact (show False from P).elim
theorem ok_eq {d d' : D} {T T' : Tp} {x : Rs (D × Tp)} (h1 : x = .ok (d, T)) (h2 : x = .ok (d', T')) : d = d' := by
  rw [h1] at h2
  cases h2
  rfl
theorem si_seq (h : SE X C l f) : SI X C tg l (iSeq f) := by
  refine pi_imp (pi_or (pi_list (tg := tg) h) (pi_tup h)) ?_
  rintro σ H R ⟨ρ, T, h, P⟩
  rcases runs_dv P with ⟨d, T', ed, P1⟩ | ⟨c, fs, t, r2, ex⟩
  · rcases dt_seq P1 with ⟨ds, rfl, _⟩ | ⟨ds, rfl, _⟩ | ⟨ns, rfl, _⟩
    · refine .inl ⟨ρ, T, h, gv_dvE h P fun d2 T2 v H1 ed2 h1 e1 p P3 => ?_⟩
      obtain rfl := ok_eq ed ed2
      obtain ⟨a, rfl⟩ := p.lstRef
      obtain ⟨b, vs, e, h2, z, q⟩ := (show Top X.K X.mg _ H1 _ _ from .inl p).sqL
      cases e
      exact ⟨a, rfl, ⟨vs, .of h2⟩, P3 (Itl X.K a) [(.ref a, .lst ds)] H1 h1 e1 (fun w hw => by rw [List.mem_singleton.mp hw]; exact p) (pin_list (by rw [← q.len]; exact z))⟩
    · refine .inr ⟨ρ, T, h, gv_dvE h P fun d2 T2 v H1 ed2 h1 e1 p P3 => ?_⟩
      obtain rfl := ok_eq ed ed2
      obtain ⟨a, rfl⟩ := p.tupRef
      obtain ⟨b, vs, e, h2, z, q⟩ := (show Top X.K X.mg _ H1 _ _ from .inl p).sqT
      cases e
      exact ⟨a, rfl, ⟨vs, h2⟩, P3 (Itt X.K a) [(.ref a, .tup ds)] H1 h1 e1 (fun w hw => by rw [List.mem_singleton.mp hw]; exact p) (pin_tup (by rw [← q.len]; exact z))⟩
    · refine .inr ⟨ρ, T, h, gv_dvE h P fun d2 T2 v H1 ed2 h1 e1 p P3 => ?_⟩
      obtain rfl := ok_eq ed ed2
      obtain ⟨b, rfl, h2, z⟩ := (show Top X.K X.mg _ H1 _ _ from .inl p).tplT
      exact ⟨b, rfl, ⟨_, h2⟩, P3 (Itt X.K b) [(.ref b, .tpl ns)] H1 h1 e1 (fun w hw => by rw [List.mem_singleton.mp hw]; exact p) (pin_tpl z)⟩
  · refine .inl ⟨ρ, T, h, ?_⟩
    unfold iSeq at P
    rw [ex] at P ⊢
    exact P
theorem sj_seq (h : SE X C l f) : SJ X C tg l (jSeq f) := by
  refine pi_imp (pi_or (pi_list (tg := tg) h) (pi_tup h)) ?_
  rintro σ H R ⟨ρ, T, h, P⟩
  rcases runs_dt P with ⟨d, T', ed, P1⟩ | ⟨c, fs, t, r2, ex⟩
  · rcases dt_seq P1 with ⟨ds, rfl, _⟩ | ⟨ds, rfl, _⟩ | ⟨ns, rfl, _⟩
    · refine .inl ⟨ρ, T, h, gv_dtE h P fun d2 T2 v H1 ed2 h1 e1 p P3 => ?_⟩
      obtain rfl := ok_eq ed ed2
      obtain ⟨b, vs, rfl, h2, z, q⟩ := p.top.sqL
      exact ⟨b, rfl, ⟨vs, .of h2⟩, P3 (Itl X.K b) [(.ref b, .lst ds)] H1 h1 e1 (fun w hw => by rw [List.mem_singleton.mp hw]; exact p) (pin_list (by rw [← q.len]; exact z))⟩
    · refine .inr ⟨ρ, T, h, gv_dtE h P fun d2 T2 v H1 ed2 h1 e1 p P3 => ?_⟩
      obtain rfl := ok_eq ed ed2
      obtain ⟨b, vs, rfl, h2, z, q⟩ := p.top.sqT
      exact ⟨b, rfl, ⟨vs, h2⟩, P3 (Itt X.K b) [(.ref b, .tup ds)] H1 h1 e1 (fun w hw => by rw [List.mem_singleton.mp hw]; exact p) (pin_tup (by rw [← q.len]; exact z))⟩
    · refine .inr ⟨ρ, T, h, gv_dtE h P fun d2 T2 v H1 ed2 h1 e1 p P3 => ?_⟩
      obtain rfl := ok_eq ed ed2
      obtain ⟨b, rfl, h2, z⟩ := p.top.tplT
      exact ⟨b, rfl, ⟨_, h2⟩, P3 (Itt X.K b) [(.ref b, .tpl ns)] H1 h1 e1 (fun w hw => by rw [List.mem_singleton.mp hw]; exact p) (pin_tpl z)⟩
  · refine .inl ⟨ρ, T, h, ?_⟩
    unfold jSeq at P
    rw [ex] at P ⊢
    exact P
/-- range(n), range(a, b) -/
def dI : D → Rs Int
  | .int i => .ok i
  | _ => .stuck
@[simp] theorem dI_int (i : Int) : dI (.int i) = .ok i := rfl
def rngD (lo : Int) (n : Nat) : List D := (List.range n).map fun (i : Nat) => .int (lo + i)
def argR : List D → Rs (Int × Int)
  | [.int j] => .ok (0, j)
  | [.int i, .int j] => .ok (i, j)
  | _ => .stuck
@[simp] theorem argR_one (j : Int) : argR [.int j] = .ok (0, j) := rfl
@[simp] theorem argR_two (i j : Int) : argR [.int i, .int j] = .ok (i, j) := rfl
def iRng (g : DA) : DI := fun r T => (g r T).bind fun p => (argR p.1).bind fun q => if -8000000 ≤ q.1 ∧ q.1 ≤ 8000000 ∧ -8000000 ≤ q.2 ∧ q.2 ≤ 8000000 then .ok (rngD q.1 (q.2 - q.1).toNat, p.2) else .stuck
theorem rng_len {n : Nat} (h : n ≤ 16000000) : n ≤ sizeLine := by rw [sizeLine_eq]; omega
theorem tops1 {K : PySem.W.Frag} {mg : Str → Option Value} {C : FC} {r : Env} {σ : L2.St} {H : Hp} {vs : List V} {i : Int} (h : TopCs K mg C r σ H vs [.int i]) : vs = [.int i] := by
  cases h with
  | cons a t =>
    cases t
    rw [a.top.int]
theorem tops2 {K : PySem.W.Frag} {mg : Str → Option Value} {C : FC} {r : Env} {σ : L2.St} {H : Hp} {vs : List V} {i j : Int} (h : TopCs K mg C r σ H vs [.int i, .int j]) : vs = [.int i, .int j] := by
  cases h with
  | cons a t =>
    cases t with
    | cons b t =>
      cases t
      rw [a.top.int, b.top.int]
section
variable {K : PySem.W.Frag} {mg : Str → Option Value} {r : Env} {T : Tp} {σ : L2.St} {H : Hp} {R : It → Hp → Prop}
theorem rng_run {g : DA} {Q2 : It → Hp → Prop} {G : List D × Tp → Prop} (one : Bool) (P : PostG K mg C σ G (iRng g r T))
    (k : ∀ H' T' lo n, n ≤ sizeLine → Holds K mg C Z0 r T' σ H' → Ext C H H' → G (rngD lo n, T') → Q2 (Itr lo n) H')
    (G1 : List V → Hp → Prop) (h1 : ∀ vs H', (∃ j : Int, vs = [.int j] ∧ -(2 ^ 62) ≤ j ∧ j < 2 ^ 62 ∧ Q2 (Itr 0 j.toNat) H') → one = true → G1 vs H')
    (h2 : ∀ vs H', (∃ i j : Int, vs = [.int i, .int j] ∧ (-(2 ^ 62) ≤ i ∧ i < 2 ^ 62 ∧ -(2 ^ 62) ≤ j ∧ j < 2 ^ 62) ∧ Q2 (Itr i (j - i).toNat) H') → one = false → G1 vs H')
    (ho : ∀ ds T', g r T = .ok (ds, T') → (ds.length = 1 ↔ one = true)) : PostG K mg C σ (GB K mg C r σ H G1) (g r T) := by
  unfold iRng at P
  cases hg : g r T with
  | stuck =>
    rw [hg] at P
    exact P
  | exc c fs t r2 =>
    rw [hg] at P
    exact P
  | ok p =>
    obtain ⟨ds, T'⟩ := p
    rw [hg] at P
    have hl := ho ds T' hg
    intro vs H' hh e1 tp
    have P : PostG K mg C σ G ((argR ds).bind fun q => if -8000000 ≤ q.1 ∧ q.1 ≤ 8000000 ∧ -8000000 ≤ q.2 ∧ q.2 ≤ 8000000 then .ok (rngD q.1 (q.2 - q.1).toNat, T') else .stuck) := P
    match ds, P, hl, tp with
    | [.int j], P, hl, tp =>
      obtain ⟨b, P2⟩ := postG_if P
      refine h1 vs H' ⟨j, tops1 tp, by have := b.2.2.1; simp only at this; omega, by have := b.2.2.2; simp only at this; omega, ?_⟩ (hl.mp rfl)
      have e : (j - 0).toNat = j.toNat := by rw [Int.sub_zero]
      have P3 : G (rngD 0 (j - 0).toNat, T') := P2
      rw [e] at P3
      exact k H' T' 0 j.toNat (rng_len (by have := b.2.2.2; simp only at this; omega)) hh e1 P3
    | [.int i, .int j], P, hl, tp =>
      obtain ⟨b, P2⟩ := postG_if P
      refine h2 vs H' ⟨i, j, tops2 tp, ⟨by have := b.1; simp only at this; omega, by have := b.2.1; simp only at this; omega, by have := b.2.2.1; simp only at this; omega, by have := b.2.2.2; simp only at this; omega⟩, k H' T' i _ (rng_len (by have := b.1; have := b.2.2.2; simp only at *; omega)) hh e1 P2⟩ ?_
      cases one with
      | false => rfl
      | true =>
        have q := hl.mpr rfl
        simp at q
end
end
/-- one argument, two arguments -/
def Many (n : Nat) (g : DA) : Prop := ∀ r T ds T', g r T = .ok (ds, T') → ds.length = n
theorem many_nil : Many 0 aNil := fun r T ds T' h => by
  cases h
  rfl
theorem many_consT {n : Nat} {f : DE} {g : DA} (h : Many n g) : Many (n + 1) (aConsT f g) := fun r T ds T' e => by
  unfold aConsT at e
  cases q : dt (f r T) with
  | stuck => rw [q] at e; cases e
  | exc c fs t r2 => rw [q] at e; cases e
  | ok p =>
    rw [q] at e
    have e : ((g r p.2).bind fun q => .ok (p.1 :: q.1, q.2)) = Rs.ok (ds, T') := e
    cases q2 : g r p.2 with
    | stuck => rw [q2] at e; cases e
    | exc c fs t r2 => rw [q2] at e; cases e
    | ok w =>
      rw [q2] at e
      cases e
      rw [List.length_cons, h _ _ _ _ q2]
section
variable {X : Cx} {C : FC} {tg a b : Expr} {g : DA} {p pos : Pos}
theorem si_range1 (hm : X.mg "range" = none) (ha : SAt X C [a] g) (hn : Many 1 g) (hg : Gl X "range" := by rfl) (hs : starEach [a] X.env = [(false, eval a X.env)] := by rfl) : SI X C tg (.Call (.Name "range" p) [a] [] pos) (iRng g) := by
  refine pi_imp (pi_range1 hg hm ha hs) ?_
  rintro σ H R ⟨ρ, T, h, P⟩
  refine ⟨ρ, T, h, rng_run (Q2 := R) true P (fun H' T' lo n hz hh e q => q (Itr lo n) [] H' hh e (fun _ z => nomatch z) (pin_range hz)) _ (fun vs H' q _ => q) (fun vs H' q z => nomatch z) fun ds T' e => by simp [hn _ _ _ _ e]⟩
theorem sj_range1 (hm : X.mg "range" = none) (ha : SAt X C [a] g) (hn : Many 1 g) (hg : Gl X "range" := by rfl) (hs : starEach [a] X.env = [(false, eval a X.env)] := by rfl) : SJ X C tg (.Call (.Name "range" p) [a] [] pos) (iRng g) := by
  refine pi_imp (pi_range1 hg hm ha hs) ?_
  rintro σ H R ⟨ρ, T, h, P⟩
  refine ⟨ρ, T, h, rng_run (Q2 := R) true P (fun H' T' lo n hz hh e q => q (Itr lo n) [] H' hh e (fun _ z => nomatch z) (pin_range hz)) _ (fun vs H' q _ => q) (fun vs H' q z => nomatch z) fun ds T' e => by simp [hn _ _ _ _ e]⟩
theorem si_range2 (hm : X.mg "range" = none) (ha : SAt X C [a, b] g) (hn : Many 2 g) (hg : Gl X "range" := by rfl) (hs : starEach [a, b] X.env = [(false, eval a X.env), (false, eval b X.env)] := by rfl) (hs2 : starEach [b] X.env = [(false, eval b X.env)] := by rfl) : SI X C tg (.Call (.Name "range" p) [a, b] [] pos) (iRng g) := by
  refine pi_imp (pi_range2 hg hm ha hs hs2) ?_
  rintro σ H R ⟨ρ, T, h, P⟩
  refine ⟨ρ, T, h, rng_run (Q2 := R) false P (fun H' T' lo n hz hh e q => q (Itr lo n) [] H' hh e (fun _ z => nomatch z) (pin_range hz)) _ (fun vs H' q z => nomatch z) (fun vs H' q _ => q) fun ds T' e => by simp [hn _ _ _ _ e]⟩
theorem sj_range2 (hm : X.mg "range" = none) (ha : SAt X C [a, b] g) (hn : Many 2 g) (hg : Gl X "range" := by rfl) (hs : starEach [a, b] X.env = [(false, eval a X.env), (false, eval b X.env)] := by rfl) (hs2 : starEach [b] X.env = [(false, eval b X.env)] := by rfl) : SJ X C tg (.Call (.Name "range" p) [a, b] [] pos) (iRng g) := by
  refine pi_imp (pi_range2 hg hm ha hs hs2) ?_
  rintro σ H R ⟨ρ, T, h, P⟩
  refine ⟨ρ, T, h, rng_run (Q2 := R) false P (fun H' T' lo n hz hh e q => q (Itr lo n) [] H' hh e (fun _ z => nomatch z) (pin_range hz)) _ (fun vs H' q z => nomatch z) (fun vs H' q _ => q) fun ds T' e => by simp [hn _ _ _ _ e]⟩
end
end Pu
namespace Pu
open PySem L2

/-! ## targets -/
/-- what a target takes of a thing: slots and their data -/
abbrev DG := D → Option (List (Nat × D))
def rO {A : Type} : Option A → Rs A
  | some a => .ok a
  | none => .stuck
@[simp] theorem rO_some {A : Type} (a : A) : rO (some a) = .ok a := rfl
@[simp] theorem rO_none {A : Type} : rO (none : Option A) = .stuck := rfl
def setE (r : Env) : List (Nat × D) → Env
  | [] => r
  | p :: l => setE (r.set p.1 (some (.val p.2))) l
def setV (σ : L2.St) : List (Nat × V) → L2.St
  | [] => σ
  | p :: l => setV (σ.set p.1 (some p.2)) l
def gN (i : Nat) : DG := fun d => some [(i, d)]
def gsN : List DG → List D → Option (List (Nat × D))
  | [], [] => some []
  | g :: gs, d :: ds => (g d).bind fun l => (gsN gs ds).bind fun l2 => some (l ++ l2)
  | _, _ => none
def gT (n : Nat) (gs : List DG) : DG := fun d => match d with
  | .tup ds => if ds.length = n then gsN gs ds else none
  | _ => none
section
variable (K : PySem.W.Frag) (mg : Str → Option Value) (S : Addr → Prop) (H : Hp)
inductive RepP : List (Nat × V) → List (Nat × D) → Prop
  | nil : RepP [] []
  | cons {i : Nat} {v : V} {d : D} {l : List (Nat × V)} {m : List (Nat × D)} : Rep K mg S H v d → RepP l m → RepP ((i, v) :: l) ((i, d) :: m)
end
theorem RepP.app {K : PySem.W.Frag} {mg : Str → Option Value} {S : Addr → Prop} {H : Hp} : ∀ {l l2 : List (Nat × V)} {m m2 : List (Nat × D)}, RepP K mg S H l m → RepP K mg S H l2 m2 → RepP K mg S H (l ++ l2) (m ++ m2)
  | _, _, _, _, .nil, h => h
  | _, _, _, _, .cons p t, h => .cons p (t.app h)
/-- a target's reading: whatever is excluded, the slots are set -/
def tG (K : PySem.W.Frag) (mg : Str → Option Value) (g : DG) : TG := fun v σ H Q => ∃ (S : Addr → Prop) (d : D) (m : List (Nat × D)), Rep K mg S H v d ∧ g d = some m ∧ ∀ l, RepP K mg S H l m → Q (setV σ l) H
def tGs (K : PySem.W.Frag) (mg : Str → Option Value) (gs : List DG) : TGs := fun vs σ H Q => ∃ (S : Addr → Prop) (ds : List D) (m : List (Nat × D)), Reps K mg S H vs ds ∧ gsN gs ds = some m ∧ ∀ l, RepP K mg S H l m → Q (setV σ l) H
abbrev SG (X : Cx) (tg : Expr) (g : DG) : Prop := PG X tg (tG X.K X.mg g)
abbrev SGs (X : Cx) (tgs : List Expr) (gs : List DG) : Prop := PGs X tgs (tGs X.K X.mg gs)
theorem pg_imp {X : Cx} {tg : Expr} {t t' : TG} (h : PG X tg t) (i : ∀ v σ H Q, t' v σ H Q → t v σ H Q) : PG X tg t' := ⟨fun pins s σ H v u Q I r q => h.run pins s σ H v u Q I r (i v σ H Q q)⟩
theorem pgs_imp {X : Cx} {tg : List Expr} {t t' : TGs} (h : PGs X tg t) (i : ∀ v σ H Q, t' v σ H Q → t v σ H Q) : PGs X tg t' := ⟨fun pins s σ H v u Q I r q => h.run pins s σ H v u Q I r (i v σ H Q q)⟩
theorem setV_app (l2 : List (Nat × V)) : ∀ (l : List (Nat × V)) (σ : L2.St), setV σ (l ++ l2) = setV (setV σ l) l2
  | [], _ => rfl
  | _ :: l, σ => setV_app l2 l _
section
variable {X : Cx} {e : Expr} {es : List Expr} {g : DG} {gs : List DG} {pos : Pos}
theorem sg_name (i : Nat) {x : Str} (hN : X.N.Nodup) (hi : X.N[i]? = some x := by rfl) (hx : Loc X.env.scope x := by first | exact Or.inl rfl | exact Or.inr rfl) (hf : X.fn x = true ∨ X.env.scope.names.lookup x = some .local := by first | exact .inl rfl | exact .inr rfl) : SG X (.Name x pos) (gN i) := by
  refine pg_imp (pg_name hN hi hx hf) ?_
  rintro v σ H Q ⟨S, d, m, p, e, k⟩
  cases e
  exact k _ (.cons p .nil)
theorem sgs_nil : SGs X [] [] := by
  refine pgs_imp pgs_nil ?_
  rintro v σ H Q ⟨S, ds, m, p, e, k⟩
  cases ds with
  | nil =>
    cases e
    cases p
    exact ⟨rfl, k [] .nil⟩
  | cons d ds => exact nomatch e
theorem sgs_cons (h1 : SG X e g) (h2 : SGs X es gs) (hs : (assignEach (e :: es) X.env).map (·.2) = assign e X.env :: (assignEach es X.env).map (·.2) := by rfl) : SGs X (e :: es) (g :: gs) := by
  refine pgs_imp (pgs_cons h1 h2 hs) ?_
  rintro vs σ H Q ⟨S, ds, m, p, e, k⟩
  cases p with
  | nil => exact nomatch e
  | cons p t =>
    rename_i v vs d ds
    have e : ((g d).bind fun l => (gsN gs ds).bind fun l2 => some (l ++ l2)) = some m := e
    cases q1 : g d with
    | none => rw [q1] at e; cases e
    | some m1 =>
      rw [q1] at e
      have e : ((gsN gs ds).bind fun l2 => some (m1 ++ l2)) = some m := e
      cases q2 : gsN gs ds with
      | none => rw [q2] at e; cases e
      | some m2 =>
        rw [q2] at e
        cases e
        refine ⟨v, vs, rfl, S, d, m1, p, q1, fun l hl => ⟨S, ds, m2, t, q2, fun l2 hl2 => ?_⟩⟩
        rw [← setV_app]
        exact k _ (hl.app hl2)
theorem sg_tup {k : Nat} {n : Nat} (hc : X.calm = true) (h : SGs X es gs) (hn : (assignEach es X.env).length = n := by rfl) (hst : (assignEach es X.env).findIdx? (·.1) = none := by rfl) : SG X (.Tuple es k pos) (gT n gs) := by
  refine pg_imp (pg_tup hc h hn hst) ?_
  rintro v σ H Q ⟨S, d, m, p, e, k⟩
  cases d with
  | tup ds =>
    have e : (if ds.length = n then gsN gs ds else none) = some m := e
    by_cases z : ds.length = n
    · rw [if_pos z] at e
      obtain ⟨a, vs, rfl, h2, z2, q⟩ := (show Top X.K X.mg S H _ _ from .inl p).sqT
      exact ⟨a, vs, rfl, h2, by rw [q.len]; exact z, S, ds, m, q, e, k⟩
    · rw [if_neg z] at e
      cases e
  | _ => exact nomatch e
end
section
variable {K : PySem.W.Frag} {mg : Str → Option Value} {C : FC} {Z : Addr → Prop} {T : Tp} {H : Hp}
theorem Holds.setAll {l : List (Nat × V)} {m : List (Nat × D)} {S : Addr → Prop} (q : RepP K mg S H l m) : ∀ {r : Env} {σ : L2.St}, Holds K mg C Z r T σ H → (∀ a o, H a = some o → ¬ S a → ¬ SS C Z r σ a) → Holds K mg C Z (setE r m) T (setV σ l) H := by
  induction q with
  | nil => exact fun h _ => h
  | cons p t ih =>
    intro r σ h n
    refine ih (h.setVal (p.go (fun _ _ e _ => e) n)) fun a o e s z => n a o e s ?_
    rcases z with z | z | ⟨j, u, z1, z2⟩ | z
    · exact .inl z
    · exact .inr (.inl z)
    · rcases set_at z1 with ⟨_, q⟩ | ⟨ne, q⟩
      · cases q
      · rw [List.getElem?_set_ne (Ne.symm ne)] at z2
        exact .inr (.inr (.inl ⟨j, u, q, z2⟩))
    · exact .inr (.inr (.inr z))
end

/-! ## loops -/
def forD (g : DG) (w : DS) : List D → DS
  | [], r, T => .ok (.nx r, T)
  | d :: ds, r, T => (rO (g d)).bind fun m => (w (setE r m) T).bind fun p => match p.1 with
    | .nx r' => forD g w ds r' p.2
    | .ct r' => forD g w ds r' p.2
    | .bk r' => .ok (.nx r', p.2)
    | .rt v => .ok (.rt v, p.2)
def sFor (f : DI) (g : DG) (w : DS) : DS := fun r T => (f r T).bind fun p => forD g w p.1 r p.2
abbrev FC.pinned (C : FC) (pins : List (V × D)) : FC := { C with pin := pins ++ C.pin }
section
variable {K : PySem.W.Frag} {mg : Str → Option Value} {C : FC} {r : Env} {T : Tp} {σ : L2.St} {H : Hp} {pins : List (V × D)}
theorem Holds.pinUp (h : Holds K mg C Z0 r T σ H) (hp : ∀ p ∈ pins, Rep K mg (SS C Z0 r σ) H p.1 p.2) : Holds K mg (C.pinned pins) Z0 r T σ H :=
  ⟨h.len, h.frame, h.val, h.own, h.inj, h.tape, h.tslot, h.st, h.zt, fun p z => by
    rcases List.mem_append.mp z with z | z
    · exact hp p z
    · exact h.pin p z⟩
theorem Holds.pinDown (h : Holds K mg (C.pinned pins) Z0 r T σ H) : Holds K mg C Z0 r T σ H :=
  ⟨h.len, h.frame, h.val, h.own, h.inj, h.tape, h.tslot, h.st, h.zt, fun p z => h.pin p (List.mem_append_right _ z)⟩
theorem postS_pin {B : Type} {G G2 : B → Prop} {x : Rs B} (h : PostS K mg C G x) (i : ∀ b, G b → G2 b) : PostS K mg (C.pinned pins) G2 x := by
  cases x with
  | ok b => exact i b h
  | exc c fs t r => exact fun σ cls d H' a b => h σ cls d H' a.pinDown b
  | stuck => exact h
end
theorem ss_for {X : Cx} {C : FC} {tg iter : Expr} {body : List Stmt} {f : DI} {g : DG} {w : DS} {pos : Pos} (hp : PassesOwn (model X.prog X.w) X.A X.env X.xe) (hc : X.calm = true) (hi : SI X C tg iter f) (hg : SG X tg g) (hb : ∀ pins, SSs X (C.pinned pins) body w)
    (hs : ∀ x, foldedSetIterable iter X.env x = pure x := by intro _; rfl) : SSt X C (.For tg iter body [] pos) (sFor f g w) := by
  have hb' : PSs X body (fun E σ H => ∃ pins, tS X.K X.mg (C.pinned pins) w E σ H) := ⟨fun ps s σ H E I ⟨pins, q⟩ => (hb pins).run ps s σ H E I q⟩
  refine ps_imp (ps_for hp hc hi hg hb' hs) ?_
  rintro E σ H ⟨ρ, T, h, P⟩
  refine ⟨ρ, T, h, (PostS.at P.bind).imp fun q P => ?_⟩
  obtain ⟨ds, T1⟩ := q
  intro J pins H1 h1 e1 hpin ok
  refine ⟨fun i m σ H => ∃ r T, Holds X.K X.mg (C.pinned pins) Z0 r T σ H ∧ i ≤ ds.length ∧ m = ds.length - i ∧ PostS X.K X.mg C (GS X.K X.mg C E) (forD g w (ds.drop i) r T), ⟨_, ρ, T1, h1.pinUp hpin, Nat.zero_le _, rfl, P⟩, ?_⟩
  rintro i m σ2 H2 ⟨r2, T2, h2, hi, rfl, P2⟩
  obtain ⟨ok1, ok2⟩ := ok.2 _ H2 h2.trk (fun p z => .inl (h2.pin p (List.mem_append_left _ z))) i
  by_cases hlt : i < ds.length
  · refine .inr ?_
    have ed : ds[i]? = some ds[i] := List.getElem?_eq_getElem hlt
    obtain ⟨go, yl⟩ := ok1 _ ed
    rw [List.drop_eq_getElem_cons hlt] at P2
    have P2 : PostS X.K X.mg C (GS X.K X.mg C E) ((rO (g ds[i])).bind fun m => (w (setE r2 m) T2).bind fun p => match p.1 with
      | .nx r' => forD g w (ds.drop (i + 1)) r' p.2
      | .ct r' => forD g w (ds.drop (i + 1)) r' p.2
      | .bk r' => .ok (.nx r', p.2)
      | .rt v => .ok (.rt v, p.2)) := P2
    refine ⟨go, fun σ' H' => ∃ r T, Holds X.K X.mg (C.pinned pins) Z0 r T σ' H' ∧ PostS X.K X.mg C (GS X.K X.mg C E) (forD g w (ds.drop (i + 1)) r T), fun σ' H' ⟨r, T, h', P'⟩ => ⟨ds.length - (i + 1), by omega, r, T, h', hlt, rfl, P'⟩, fun x H3 y => ?_⟩
    obtain ⟨s3, p3⟩ := yl x H3 y
    have h3 := h2.more s3
    cases q : g ds[i] with
    | none => rw [q] at P2; exact P2.elim
    | some mm =>
      rw [q] at P2
      refine ⟨_, ds[i], mm, p3, q, fun l hl => ⟨pins, setE r2 mm, T2, h3.setAll hl fun _ _ _ s => s, ?_⟩⟩
      refine postS_pin (PostS.bind P2) fun p P3 => ?_
      obtain ⟨fl, T3⟩ := p
      cases fl with
      | nx r' => exact fun σ' H' h' => ⟨r', T3, h', P3⟩
      | ct r' => exact fun σ' H' h' => ⟨r', T3, h', P3⟩
      | bk r' => exact fun σ' H' h' => P3 σ' H' h'.pinDown
      | rt v => exact P3
  · have e : i = ds.length := by omega
    subst e
    rw [List.drop_length] at P2
    exact .inl ⟨ok2 (Nat.le_refl _), P2 σ2 H2 h2.pinDown⟩
/-! ## comprehensions -/
/-- the block's own slots forgotten; what is owned is not -/
def wipeE (r : Env) : List Nat → Option Env
  | [] => some r
  | v :: vs => (wipeE r vs).bind fun r' => match r'[v]? with
    | some (some (.own _)) => none
    | some (some .tape) => none
    | _ => some (r'.set v none)
/-- no exception leaves a comprehension -/
def noX {A : Type} : Rs A → Rs A
  | .ok a => .ok a
  | _ => .stuck
@[simp] theorem noX_ok {A : Type} (a : A) : noX (.ok a) = .ok a := rfl
def lcD (g : DG) (c : DT) (f : DE) : List D → Env → Tp → Rs (List D × Tp)
  | [], _, T => .ok ([], T)
  | d :: ds, r, T => (rO (g d)).bind fun m => (noX (c (setE r m) T)).bind fun b => if b.1 = true then (noX (dv (f (setE r m) b.2))).bind fun v => (lcD g c f ds r v.2).bind fun q => .ok (v.1 :: q.1, q.2) else lcD g c f ds r b.2
def eLc (vs : List Nat) (fi : DI) (g : DG) (c : DT) (f : DE) : DE := fun r T => (fi r T).bind fun p => (rO (wipeE r vs)).bind fun r0 => (lcD g c f p.1 r0 p.2).bind fun q => .ok (.own (.lst q.1), q.2)
def xYes : DT := fun _ T => .ok (true, T)
/-- the frame of a block, the new list at L -/
abbrev FC.blk (C : FC) (L : Addr) : FC := { C with S0 := fun a => C.S0 a ∨ a = L, W := fun _ _ _ _ => False }
abbrev STs (X : Cx) (C : FC) (ifs : List Expr) (f : DT) : Prop := PTs X ifs (tT X.K X.mg C f)
theorem sts_nil {X : Cx} {C : FC} : STs X C [] xYes := ⟨fun pins s σ H Q I ⟨ρ, T, h, P⟩ => (pts_nil (X := X)).run pins s σ H Q I (P H h Ext.refl)⟩
theorem sts_one {X : Cx} {C : FC} {e : Expr} {f : DT} (h : ST X C e f) : STs X C [e] f := pts_one h
theorem wipe_get {σ : L2.St} {i : Nat} : ∀ {vs : List Nat}, i ∉ vs → (wipe σ vs)[i]? = σ[i]? := fun {vs} h => wipe_out h
theorem wipeE_get : ∀ {vs : List Nat} {r r' : Env}, wipeE r vs = some r' → r'.length = r.length ∧ (∀ (i : Nat) (w : VD), r'[i]? = some (some w) → r[i]? = some (some w) ∧ i ∉ vs) ∧ (∀ (i : Nat) (d : D), r[i]? = some (some (.own d)) → r'[i]? = some (some (.own d))) ∧ ∀ i : Nat, r[i]? = some (some .tape) → r'[i]? = some (some .tape)
  | [], r, r', h => by
    cases h
    exact ⟨rfl, fun i w e => ⟨e, by simp⟩, fun i d e => e, fun i e => e⟩
  | v :: vs, r, r', h => by
    unfold wipeE at h
    cases q : wipeE r vs with
    | none => rw [q] at h; cases h
    | some r1 =>
      rw [q] at h
      obtain ⟨h1, h2, h3, h4⟩ := wipeE_get q
      have key : r' = r1.set v none ∧ (∀ d, r1[v]? ≠ some (some (.own d))) ∧ r1[v]? ≠ some (some .tape) := by
        have h : (match r1[v]? with
          | some (some (.own _)) => none
          | some (some .tape) => none
          | _ => some (r1.set v none)) = some r' := h
        split at h
        · cases h
        · cases h
        · rename_i n1 n2
          cases h
          exact ⟨rfl, fun d e => n1 d e, fun e => n2 e⟩
      obtain ⟨rfl, k1, k2⟩ := key
      refine ⟨by rw [List.length_set, h1], fun i w e => ?_, fun i d e => ?_, fun i e => ?_⟩
      · rcases set_at e with ⟨_, q⟩ | ⟨ne, q⟩
        · cases q
        · obtain ⟨a, b⟩ := h2 i w q
          exact ⟨a, by simp only [List.mem_cons, not_or]; exact ⟨ne, b⟩⟩
      · have e1 := h3 i d e
        by_cases z : v = i
        · subst z
          exact absurd e1 (k1 d)
        · rw [List.getElem?_set_ne z]
          exact e1
      · have e1 := h4 i e
        by_cases z : v = i
        · subst z
          exact absurd e1 k2
        · rw [List.getElem?_set_ne z]
          exact e1
theorem wipe_set {σ : L2.St} {i : Nat} {x : Option V} : ∀ {vs : List Nat}, i ∈ vs → wipe (σ.set i x) vs = wipe σ vs
  | v :: vs, h => by
    unfold wipe
    by_cases e : i ∈ vs
    · rw [wipe_set e]
    · have e2 : i = v := by
        rcases List.mem_cons.mp h with z | z
        · exact z
        · exact absurd z e
      subst e2
      have comm : ∀ (ws : List Nat), i ∉ ws → wipe (σ.set i x) ws = (wipe σ ws).set i x := by
        intro ws
        induction ws with
        | nil => exact fun _ => rfl
        | cons w ws ih =>
          intro hw
          simp only [List.mem_cons, not_or] at hw
          unfold wipe
          rw [ih hw.2, List.set_comm _ _ hw.1]
      rw [comm vs e, List.set_set]
theorem wipe_wipe (σ : L2.St) : ∀ (ws vs : List Nat), (∀ i ∈ ws, i ∈ vs) → wipe (wipe σ ws) vs = wipe σ vs
  | [], vs, _ => rfl
  | w :: ws, vs, h => by
    show wipe ((wipe σ ws).set w none) vs = wipe σ vs
    rw [wipe_set (h w List.mem_cons_self), wipe_wipe σ ws vs fun i z => h i (List.mem_cons_of_mem _ z)]
theorem wipe_setV {vs : List Nat} : ∀ (l : List (Nat × V)) (σ : L2.St), (∀ p ∈ l, p.1 ∈ vs) → wipe (setV σ l) vs = wipe σ vs
  | [], σ, _ => rfl
  | p :: l, σ, h => by
    show wipe (setV (σ.set p.1 (some p.2)) l) vs = _
    rw [wipe_setV l _ fun q z => h q (List.mem_cons_of_mem _ z), wipe_set (h p List.mem_cons_self)]
/-- the slots that a target sets -/
def Within (g : DG) (vs : List Nat) : Prop := ∀ d m, g d = some m → ∀ p ∈ m, p.1 ∈ vs
def Withins (gs : List DG) (vs : List Nat) : Prop := ∀ ds m, gsN gs ds = some m → ∀ p ∈ m, p.1 ∈ vs
theorem within_name {i : Nat} {vs : List Nat} (h : i ∈ vs) : Within (gN i) vs := fun d m e p hp => by
  cases e
  rw [List.mem_singleton.mp hp]
  exact h
theorem withins_nil {vs : List Nat} : Withins [] vs := fun ds m e p hp => by
  cases ds with
  | nil =>
    cases e
    cases hp
  | cons d ds => exact nomatch e
theorem withins_cons {g : DG} {gs : List DG} {vs : List Nat} (h1 : Within g vs) (h2 : Withins gs vs) : Withins (g :: gs) vs := fun ds m e p hp => by
  cases ds with
  | nil => exact nomatch e
  | cons d ds =>
    have e : ((g d).bind fun l => (gsN gs ds).bind fun l2 => some (l ++ l2)) = some m := e
    cases q1 : g d with
    | none => rw [q1] at e; cases e
    | some m1 =>
      rw [q1] at e
      have e : ((gsN gs ds).bind fun l2 => some (m1 ++ l2)) = some m := e
      cases q2 : gsN gs ds with
      | none => rw [q2] at e; cases e
      | some m2 =>
        rw [q2] at e
        cases e
        rcases List.mem_append.mp hp with z | z
        · exact h1 d m1 q1 p z
        · exact h2 ds m2 q2 p z
theorem within_tup {n : Nat} {gs : List DG} {vs : List Nat} (h : Withins gs vs) : Within (gT n gs) vs := fun d m e p hp => by
  cases d with
  | tup ds =>
    have e : (if ds.length = n then gsN gs ds else none) = some m := e
    by_cases z : ds.length = n
    · rw [if_pos z] at e
      exact h ds m e p hp
    · rw [if_neg z] at e
      cases e
  | _ => exact nomatch e
theorem RepP.idx {K : PySem.W.Frag} {mg : Str → Option Value} {S : Addr → Prop} {H : Hp} {l : List (Nat × V)} {m : List (Nat × D)} (h : RepP K mg S H l m) : ∀ p ∈ l, ∃ q ∈ m, q.1 = p.1 := by
  induction h with
  | nil => intro p z; cases z
  | cons r t ih =>
    intro p z
    rcases List.mem_cons.mp z with z | z
    · exact ⟨_, List.mem_cons_self, by rw [z]⟩
    · obtain ⟨q, h1, h2⟩ := ih p z
      exact ⟨q, List.mem_cons_of_mem _ h1, h2⟩
section
variable {K : PySem.W.Frag} {mg : Str → Option Value} {C : FC} {r r0 : Env} {T : Tp} {σ : L2.St} {H : Hp} {vs : List Nat} {L : Addr}
/-- the same is excluded -/
theorem ss_blk (h : Holds K mg C Z0 r T σ H) (hw : wipeE r vs = some r0) (a : Addr) : SS (C.blk L) Z0 r0 (wipe σ vs) a ↔ SS C (fun a => a = L) r σ a := by
  obtain ⟨w1, w2, w3, w4⟩ := wipeE_get hw
  constructor
  · rintro ((z | z) | z | ⟨i, d, z1, z2⟩ | z)
    · exact .inl z
    · exact .inr (.inr (.inr z))
    · exact .inr (.inl z)
    · obtain ⟨a1, a2⟩ := w2 i _ z1
      rw [wipe_out a2] at z2
      exact .inr (.inr (.inl ⟨i, d, a1, z2⟩))
    · exact z.elim
  · rintro (z | z | ⟨i, d, z1, z2⟩ | z)
    · exact .inl (.inl z)
    · exact .inr (.inl z)
    · have q := w3 i d z1
      obtain ⟨_, a2⟩ := w2 i _ q
      refine .inr (.inr (.inl ⟨i, d, q, ?_⟩))
      rw [wipe_out a2]
      exact z2
    · exact .inl (.inr z)
theorem Holds.toBlk (h : Holds K mg C Z0 r T σ H) (hw : wipeE r vs = some r0) (hL : H L = none) : Holds K mg (C.blk L) Z0 r0 T (wipe σ vs) (upd H L (.lst [])) := by
  obtain ⟨w1, w2, w3, w4⟩ := wipeE_get hw
  have s : Same H (upd H L (.lst [])) := same_new hL
  have k : ∀ a o, H a = some o → ¬ SS C Z0 r σ a → upd H L (.lst []) a = some o := fun a o e _ => s a o e
  have n : ∀ a o, H a = some o → ¬ SS C Z0 r σ a → ¬ SS (C.blk L) Z0 r0 (wipe σ vs) a := fun a o e q z => by
    rcases (ss_blk h hw a).mp z with z | z | z | z
    · exact q (.inl z)
    · exact q (.inr (.inl z))
    · exact q (.inr (.inr (.inl z)))
    · rw [z, hL] at e
      cases e
  refine ⟨by rw [w1, wipe_length, h.len], h.frame.trans (.same s), fun i d q => ?_, fun i d q => ?_, fun i j p d e q1 q2 q3 q4 => ?_, ?_, fun i q => ?_, fun p z => ?_, fun _ z => z.elim, fun p z => (h.pin p z).go k n⟩
  · obtain ⟨a1, a2⟩ := w2 i _ q
    obtain ⟨v, e1, p⟩ := h.val i d a1
    exact ⟨v, by rw [wipe_out a2]; exact e1, p.go k n⟩
  · obtain ⟨a1, a2⟩ := w2 i _ q
    obtain ⟨p, e1, o, g1, g2, g3, g4⟩ := h.own i d a1
    refine ⟨p, by rw [wipe_out a2]; exact e1, o.go (fun o z => s _ o z) k n, g1, g2, fun z => z, fun z => ?_⟩
    rcases z with z | z
    · exact g4 z
    · obtain ⟨ob, eo, _⟩ := o.there
      rw [z, hL] at eo
      cases eo
  · obtain ⟨a1, a2⟩ := w2 i _ q1
    obtain ⟨b1, b2⟩ := w2 j _ q2
    rw [wipe_out a2] at q3
    rw [wipe_out b2] at q4
    exact h.inj i j p d e a1 b1 q3 q4
  · have t := h.tape
    unfold TapeOk at t ⊢
    show match C.tp with
      | none => T = none
      | some p => ∃ t, T = some t ∧ OwnAt K mg (SS (C.blk L) Z0 r0 (wipe σ vs)) (upd H L (.lst [])) p t
    cases hc : C.tp with
    | none =>
      rw [hc] at t
      exact t
    | some u =>
      rw [hc] at t
      obtain ⟨t, e, o⟩ := t
      exact ⟨t, e, o.go (fun o q => s _ o q) k n⟩
  · obtain ⟨a1, a2⟩ := w2 i _ q
    obtain ⟨p, e1, e2⟩ := h.tslot i a1
    exact ⟨p, e1, by rw [wipe_out a2]; exact e2⟩
  · rcases z with z | z
    · obtain ⟨o, e, m⟩ := h.st p z
      exact ⟨o, s p o e, m⟩
    · rw [z]
      exact ⟨_, upd_same, trivial⟩
/-- the new list grows -/
theorem Holds.grow (h : Holds K mg (C.blk L) Z0 r T σ H) {xs ys : List V} (hL : H L = some (.lst xs)) (nL : C.H0 L = none) (nt : C.tp ≠ some L) (no : ∀ (i : Nat) (d : D), r[i]? = some (some (.own d)) → σ[i]? ≠ some (some (.ref L))) : Holds K mg (C.blk L) Z0 r T σ (upd H L (.lst ys)) := by
  have ex : SS (C.blk L) Z0 r σ L := .inl (.inr rfl)
  have k : ∀ a o, H a = some o → ¬ SS (C.blk L) Z0 r σ a → upd H L (.lst ys) a = some o := fun a o e q => by
    rw [upd_ne (fun z => q (by rw [z]; exact ex))]
    exact e
  have kn : ∀ a o, a ≠ L → H a = some o → upd H L (.lst ys) a = some o := fun a o z e => by
    rw [upd_ne z]
    exact e
  have ke : ∀ a o, H a = some o → Mut (some o) → ∃ o', upd H L (.lst ys) a = some o' ∧ Mut (some o') := fun a o e m => by
    by_cases z : a = L
    · rw [z]
      exact ⟨_, upd_same, trivial⟩
    · exact ⟨o, kn a o z e, m⟩
  refine ⟨h.len, fun a o e q => ?_, fun i d q => ?_, fun i d q => ?_, h.inj, ?_, h.tslot, fun p z => ?_, fun _ z => z.elim, fun p z => (h.pin p z).go k ss_same⟩
  · refine kn a o (fun z => ?_) (h.frame a o e q)
    have e : C.H0 a = some o := e
    rw [z, nL] at e
    cases e
  · obtain ⟨v, e1, p⟩ := h.val i d q
    exact ⟨v, e1, p.go k ss_same⟩
  · obtain ⟨p, e1, o, g⟩ := h.own i d q
    exact ⟨p, e1, o.go (fun u z => kn p u (fun z2 => no i d q (by rw [← z2]; exact e1)) z) k ss_same, g⟩
  · have t := h.tape
    unfold TapeOk at t ⊢
    cases hc : (C.blk L).tp with
    | none =>
      rw [hc] at t
      exact t
    | some u =>
      rw [hc] at t
      obtain ⟨t, e, o⟩ := t
      exact ⟨t, e, o.go (fun o q => kn u o (fun z => nt (by rw [← z]; exact hc)) q) k ss_same⟩
  · obtain ⟨o, e, m⟩ := h.st p z
    exact ke p o e m
end
theorem noX_ex {A B : Type} {K : PySem.W.Frag} {mg : Str → Option Value} {C : FC} {σ : L2.St} {G : B → Prop} {x : Rs A} {g : A → Rs B} (h : PostG K mg C σ G ((noX x).bind g)) : ∃ a, x = .ok a ∧ PostG K mg C σ G (g a) := by
  cases x with
  | ok b => exact ⟨b, rfl, h⟩
  | exc c fs t r => exact (show False from h).elim
  | stuck => exact (show False from h).elim
theorem gv_known {K : PySem.W.Frag} {mg : Str → Option Value} {C : FC} {r : Env} {T T' : Tp} {σ : L2.St} {H : Hp} {Q : VK} {x : Rs (VD × Tp)} {d : D} (h0 : Holds K mg C Z0 r T σ H) (e : dv x = .ok (d, T'))
    (k : ∀ v H', Holds K mg C Z0 r T' σ H' → Ext C H H' → Rep K mg (SS C Z0 r σ) H' v d → Q v H') : Post K mg C r σ H Q x := by
  cases x with
  | ok p =>
    obtain ⟨v, T⟩ := p
    cases v with
    | val d =>
      cases e
      exact fun v H' h1 e1 p => k v H' h1 e1 p
    | own d =>
      cases e
      exact fun p H' hp h1 e1 o => k (.ref p) H' h1.join e1 (o.frozen (h0.fresh hp) (fun a o e s z => s (ss_less a z)))
    | peek d => exact nomatch e
    | tape => exact nomatch e
  | exc c fs t r => exact nomatch e
  | stuck => exact nomatch e
theorem setE_len : ∀ (m : List (Nat × D)) (r : Env), (setE r m).length = r.length
  | [], _ => rfl
  | p :: m, r => by
    show (setE (r.set p.1 _) m).length = _
    rw [setE_len m, List.length_set]
theorem setE_get {i : Nat} : ∀ (m : List (Nat × D)) (r : Env), (∀ p ∈ m, p.1 ≠ i) → (setE r m)[i]? = r[i]?
  | [], _, _ => rfl
  | p :: m, r, h => by
    show (setE (r.set p.1 _) m)[i]? = _
    rw [setE_get m _ fun q z => h q (List.mem_cons_of_mem _ z), List.getElem?_set_ne (h p List.mem_cons_self)]
theorem setV_get {i : Nat} : ∀ (m : List (Nat × V)) (r : L2.St), (∀ p ∈ m, p.1 ≠ i) → (setV r m)[i]? = r[i]?
  | [], _, _ => rfl
  | p :: m, r, h => by
    show (setV (r.set p.1 _) m)[i]? = _
    rw [setV_get m _ fun q z => h q (List.mem_cons_of_mem _ z), List.getElem?_set_ne (h p List.mem_cons_self)]
section
variable {K : PySem.W.Frag} {mg : Str → Option Value} {C : FC} {r : Env} {T T' : Tp} {σ : L2.St} {H H' : Hp} {vs : List Nat}
/-- behind an element: the block's own slots are forgotten again -/
theorem Holds.unset (h : Holds K mg C Z0 r T σ H) {m : List (Nat × D)} {l : List (Nat × V)} (hr : ∀ (i : Nat) (w : VD), r[i]? = some (some w) → i ∉ vs) (hm : ∀ p ∈ m, p.1 ∈ vs) (hl : ∀ p ∈ l, p.1 ∈ vs)
    (e : Ext C H H') (h2 : Holds K mg C Z0 (setE r m) T' (setV σ l) H') : Holds K mg C Z0 r T' σ H' := by
  refine h.move e ss_same (fun _ _ _ _ _ z => z) (h2.tape.less fun a _ _ s z => s ?_) fun _ z => z.elim
  rcases z with z | z | ⟨i, d, z1, z2⟩ | z
  · exact .inl z
  · exact .inr (.inl z)
  · have hi := hr i _ z1
    refine .inr (.inr (.inl ⟨i, d, ?_, ?_⟩))
    · rw [setE_get m r fun p z q => hi (by rw [← q]; exact hm p z)]
      exact z1
    · rw [setV_get l σ fun p z q => hi (by rw [← q]; exact hl p z)]
      exact z2
  · exact z.elim
end
theorem t_lc {X : Cx} {C : FC} {own : List (Str × Nat)} {fi : DI} {g : DG} {c : DT} {f : DE} (hw : Within g (own.map (·.2))) : ∀ (σ : L2.St) (H : Hp) (Q : VK), tE X.K X.mg C (eLc (own.map (·.2)) fi g c f) σ H Q →
    tLc (tJ X.K X.mg C fi) (tG X.K X.mg g) (fun σ H Q => ∃ L, tT X.K X.mg (C.blk L) c σ H Q) (fun σ H Q => ∃ L, tE X.K X.mg (C.blk L) f σ H Q) (own.map (·.2)) σ H Q := by
  rintro σ H Q ⟨ρ, T, h, P⟩
  refine ⟨ρ, T, h, P.bind.imp fun p P => ?_⟩
  obtain ⟨ds, T1⟩ := p
  intro J pins H1 h1 e1 hpin ⟨hz, ok⟩
  have hz : ds.length ≤ 16777216 := by rw [← sizeLine_eq]; exact hz
  intro L hL
  have P : PostG X.K X.mg C σ (GV X.K X.mg C ρ σ H Q) ((rO (wipeE ρ (own.map (·.2)))).bind fun r0 => (lcD g c f ds r0 T1).bind fun q => .ok (.own (.lst q.1), q.2)) := P
  cases hw0 : wipeE ρ (own.map (·.2)) with
  | none =>
    rw [hw0] at P
    exact P.elim
  | some r0 =>
    rw [hw0] at P
    have P : PostG X.K X.mg C σ (fun q => GV X.K X.mg C ρ σ H Q (.own (.lst q.1), q.2)) (lcD g c f ds r0 T1) := PostG.bind (x := lcD g c f ds r0 T1) P
    obtain ⟨w1, w2, w3, w4⟩ := wipeE_get hw0
    have hb0 := h1.toBlk hw0 hL
    have H0L : C.H0 L = none := back h1 h1.frame hL
    have ntL : C.tp ≠ some L := fun z => h1.fresh hL (.inr (.inl z))
    have noL : ∀ (i : Nat) (d : D), r0[i]? = some (some (.own d)) → (wipe σ (own.map (·.2)))[i]? ≠ some (some (.ref L)) := fun i d q z => by
      obtain ⟨p, e2, o, _⟩ := hb0.own i d q
      rw [z] at e2
      cases e2
      obtain ⟨a1, a2⟩ := w2 i _ q
      obtain ⟨p, e3, o3, _⟩ := h1.own i d a1
      rw [wipe_out a2, e3] at z
      cases z
      obtain ⟨u, eu, _⟩ := o3.there
      rw [hL] at eu
      cases eu
    have nn : ∀ a o, H1 a = some o → ¬ SS C Z0 ρ σ a → ¬ SS (C.blk L) Z0 r0 (wipe σ (own.map (·.2))) a := fun a o e q z => by
      rcases (ss_blk h1 hw0 a).mp z with z | z | z | z
      · exact q (.inl z)
      · exact q (.inr (.inl z))
      · exact q (.inr (.inr (.inl z)))
      · rw [z, hL] at e
        cases e
    refine ⟨fun i m H2 => ∃ (acc : List D) (accV : List V) (T2 : Tp), Holds X.K X.mg (C.blk L) Z0 r0 T2 (wipe σ (own.map (·.2))) H2 ∧ Ext C H1 H2 ∧ H2 L = some (.lst accV) ∧ accV.length ≤ i ∧ Reps X.K X.mg (SS (C.blk L) Z0 r0 (wipe σ (own.map (·.2)))) H2 accV acc ∧ i ≤ ds.length ∧ m = ds.length - i ∧
      PostG X.K X.mg C σ (fun q => GV X.K X.mg C ρ σ H Q (.own (.lst (acc ++ q.1)), q.2)) (lcD g c f (ds.drop i) r0 T2), ⟨_, [], [], T1, hb0, .same (same_new hL), upd_same, Nat.zero_le _, .nil, Nat.zero_le _, rfl, by simpa using P⟩, ?_⟩
    rintro i m H2 ⟨acc, accV, T2, h2, e2, hL2, hal, racc, hi, rfl, P2⟩
    have pinT : ∀ p ∈ pins, Top X.K X.mg (SS (C.blk L) Z0 r0 (wipe σ (own.map (·.2)))) H2 p.1 p.2 := fun p z => by
      rcases hpin p z with q | ⟨a, ea, nt, o⟩
      · exact .inl (q.go (fun a o x s => e2 a o x fun z => s (.inr (.inl z))) nn)
      · exact .inr ⟨a, ea, o.go (fun o x => e2 _ o x nt) (fun a o x s => e2 a o x fun z => s (.inr (.inl z))) nn⟩
    obtain ⟨ok1, ok2⟩ := ok _ H2 h2.trk pinT i
    by_cases hlt : i < ds.length
    · refine .inr ?_
      have ed : ds[i]? = some ds[i] := List.getElem?_eq_getElem hlt
      obtain ⟨go, yl⟩ := ok1 _ ed
      rw [List.drop_eq_getElem_cons hlt] at P2
      have P2 : PostG X.K X.mg C σ (fun q => GV X.K X.mg C ρ σ H Q (.own (.lst (acc ++ q.1)), q.2)) ((rO (g ds[i])).bind fun m => (noX (c (setE r0 m) T2)).bind fun b => if b.1 = true then (noX (dv (f (setE r0 m) b.2))).bind fun v => (lcD g c f (ds.drop (i + 1)) r0 v.2).bind fun q => .ok (v.1 :: q.1, q.2) else lcD g c f (ds.drop (i + 1)) r0 b.2) := P2
      refine ⟨go, fun H' => ∃ (acc : List D) (accV : List V) (T2 : Tp), Holds X.K X.mg (C.blk L) Z0 r0 T2 (wipe σ (own.map (·.2))) H' ∧ Ext C H1 H' ∧ H' L = some (.lst accV) ∧ accV.length ≤ i + 1 ∧ Reps X.K X.mg (SS (C.blk L) Z0 r0 (wipe σ (own.map (·.2)))) H' accV acc ∧
        PostG X.K X.mg C σ (fun q => GV X.K X.mg C ρ σ H Q (.own (.lst (acc ++ q.1)), q.2)) (lcD g c f (ds.drop (i + 1)) r0 T2), fun H' ⟨acc, accV, T2, a1, a2, a3, a4, a5, a6⟩ => ⟨ds.length - (i + 1), by omega, acc, accV, T2, a1, a2, a3, a4, a5, hlt, rfl, a6⟩, fun x H3 y => ?_⟩
      obtain ⟨s3, p3⟩ := yl x H3 y
      have h3 := h2.more s3
      cases q : g ds[i] with
      | none => rw [q] at P2; exact P2.elim
      | some mm =>
        rw [q] at P2
        obtain ⟨⟨b, T3⟩, eb, P3⟩ := noX_ex P2
        have hmm := hw _ _ q
        refine ⟨_, ds[i], mm, p3, q, fun l hl => ?_⟩
        have hll : ∀ p ∈ l, p.1 ∈ own.map (·.2) := fun p z => by
          obtain ⟨u, u1, u2⟩ := hl.idx p z
          rw [← u2]
          exact hmm u u1
        refine ⟨by rw [wipe_setV l _ hll, wipe_wipe σ _ _ fun _ z => z], L, setE r0 mm, T2, Holds.setAll hl h3 fun _ _ _ s => s, ?_⟩
        rw [eb]
        intro H4 h4 e4
        have e4' : Ext C H3 H4 := e4
        have hb4 : Holds X.K X.mg (C.blk L) Z0 r0 T3 (wipe σ (own.map (·.2))) H4 := h3.unset (fun i w z => (w2 i w z).2) hmm hll e4 h4
        have e14 : Ext C H1 H4 := (e2.trans (.same s3)).trans e4'
        have hL4 : H4 L = some (.lst accV) := e4 L _ (s3 L _ hL2) ntL
        have r4 : Reps X.K X.mg (SS (C.blk L) Z0 r0 (wipe σ (own.map (·.2)))) H4 accV acc := racc.go (fun a o x s => e4 a o (s3 a o x) fun z => s (.inr (.inl z))) ss_same
        cases b with
        | false => exact ⟨acc, accV, T3, hb4, e14, hL4, by omega, r4, P3⟩
        | true =>
          obtain ⟨⟨v, T4⟩, ev, P4⟩ := noX_ex P3
          have P4 : PostG X.K X.mg C σ (fun q => GV X.K X.mg C ρ σ H Q (.own (.lst (acc ++ q.1)), q.2)) ((lcD g c f (ds.drop (i + 1)) r0 T4).bind fun q => .ok (v :: q.1, q.2)) := P4
          refine ⟨L, setE r0 mm, T3, h4, gv_known h4 ev fun y H5 h5 e5 p5 => ?_⟩
          have hb5 : Holds X.K X.mg (C.blk L) Z0 r0 T4 (wipe σ (own.map (·.2))) H5 := hb4.unset (fun i w z => (w2 i w z).2) hmm hll e5 h5
          have hL5 : H5 L = some (.lst accV) := e5 L _ hL4 ntL
          have r5 : Reps X.K X.mg (SS (C.blk L) Z0 r0 (wipe σ (own.map (·.2)))) H5 accV acc := r4.go (fun a o x s => e5 a o x fun z => s (.inr (.inl z))) ss_same
          have p5' : Rep X.K X.mg (SS (C.blk L) Z0 r0 (wipe σ (own.map (·.2)))) H5 y v := p5.go (fun _ _ e _ => e) fun a _ _ s z => s (by
            rcases z with z | z | ⟨j, d, z1, z2⟩ | z
            · exact .inl z
            · exact .inr (.inl z)
            · have hj := (w2 j _ z1).2
              refine .inr (.inr (.inl ⟨j, d, ?_, ?_⟩))
              · rw [setE_get mm r0 fun p z q => hj (by rw [← q]; exact hmm p z)]
                exact z1
              · rw [setV_get l _ fun p z q => hj (by rw [← q]; exact hll p z)]
                exact z2
            · exact z.elim)
          have kL : ∀ a o, H5 a = some o → ¬ SS (C.blk L) Z0 r0 (wipe σ (own.map (·.2))) a → upd H5 L (.lst (accV ++ [y])) a = some o := fun a o e s => by
            rw [upd_ne (fun z => s (.inl (.inr z)))]
            exact e
          refine ⟨accV, hL5, by rw [sizeLine_eq]; omega, acc ++ [v], accV ++ [y], T4, hb5.grow hL5 H0L ntL noL, fun a o x nt => ?_, upd_same, by rw [List.length_append, List.length_singleton]; omega, (r5.app (.cons p5' .nil)).go kL ss_same, ?_⟩
          · rw [upd_ne (fun z => by rw [z, hL] at x; cases x)]
            exact e5 a o (e14 a o x nt) nt
          · refine P4.bind.imp fun q P5 => ?_
            have P5 : GV X.K X.mg C ρ σ H Q (.own (.lst (acc ++ (v :: q.1))), q.2) := P5
            rw [List.append_assoc]
            exact P5
    · have e : i = ds.length := by omega
      subst e
      rw [List.drop_length] at P2
      refine .inl ⟨ok2 (Nat.le_refl _), ?_⟩
      have P3 : GV X.K X.mg C ρ σ H Q (.own (.lst (acc ++ [])), T2) := P2
      rw [List.append_nil] at P3
      have n2 : ∀ a o, H2 a = some o → ¬ SS (C.blk L) Z0 r0 (wipe σ (own.map (·.2))) a → ¬ SS C (fun a => a = L) ρ σ a := fun a _ _ s z => s ((ss_blk h1 hw0 a).mpr z)
      refine P3 L H2 (back h1 e1 hL) (h1.move e2 (fun a o e s z => ?_) (fun j p d z1 z2 z3 => ?_) (h2.tape.less n2) fun p z => by rw [z]; exact ⟨_, hL2, trivial⟩) (e1.trans e2) (.lst hL2 (by rw [sizeLine_eq]; omega) (racc.go (fun _ _ e _ => e) n2))
      · rcases z with z | z | z | z
        · exact s (.inl z)
        · exact s (.inr (.inl z))
        · exact s (.inr (.inr (.inl z)))
        · rw [z, hL] at e
          cases e
      · obtain ⟨p, e3, o3, _⟩ := h1.own j d z1
        rw [z2] at e3
        cases e3
        obtain ⟨u, eu, _⟩ := o3.there
        rw [z3, hL] at eu
        cases eu
theorem se_lc {X : Cx} {C : FC} {elt tg iter : Expr} {ifs : List Expr} {scope : Scope} {own : List (Str × Nat)} {pos : Pos} {fi : DI} {g : DG} {c : DT} {f : DE} (hc : X.calm = true) (hN : X.N.Nodup) (hi : SJ X C tg iter fi) (ok : BlkOk X.N X.env.scope scope own) (hw : Within g (own.map (·.2)))
    (hg : ∀ (s : Shared) (H : Hp) (Ca : Addr) (cl : List (Str × Addr)) (fp : List Addr), SG (X.blk s H scope (compEnvC scope cl Ca X.env) fp) tg g)
    (ht : ∀ (s : Shared) (H : Hp) (Ca : Addr) (cl : List (Str × Addr)) (fp : List Addr) (L : Addr), Takes (X.blk s H scope (compEnvC scope cl Ca X.env) fp) (C.blk L).W → STs (X.blk s H scope (compEnvC scope cl Ca X.env) fp) (C.blk L) ifs c)
    (he : ∀ (s : Shared) (H : Hp) (Ca : Addr) (cl : List (Str × Addr)) (fp : List Addr) (L : Addr), Takes (X.blk s H scope (compEnvC scope cl Ca X.env) fp) (C.blk L).W → SE (X.blk s H scope (compEnvC scope cl Ca X.env) fp) (C.blk L) elt f)
    (hs : ∀ x, foldedSetIterable iter X.env x = pure x := by intro _; rfl) : SE X C (.ListComp elt [⟨tg, iter, ifs, 0⟩] scope pos) (eLc (own.map (·.2)) fi g c f) := by
  exact pe_imp (pe_lc (g := tG X.K X.mg g) (tt := fun σ H Q => ∃ L, tT X.K X.mg (C.blk L) c σ H Q) (te := fun σ H Q => ∃ L, tE X.K X.mg (C.blk L) f σ H Q) hc hN hi ok hg
    (fun s H Ca cl fp => ⟨fun ps s2 σ H2 Q I ⟨L, q⟩ => (ht s H Ca cl fp L takes0).run ps s2 σ H2 Q I q⟩) (fun s H Ca cl fp => ⟨fun ps s2 σ H2 Q I ⟨L, q⟩ => (he s H Ca cl fp L takes0).run ps s2 σ H2 Q I q⟩) hs) (t_lc hw)
end Pu
namespace Pu
open PySem L2

/-! ## whole numbers -/
def dAddI : D → D → Rs VD
  | .int i, .int j => .ok (.val (.int (i + j)))
  | .tup a, .tup b => if a.length + b.length ≤ 16000000 then .ok (.val (.tup (a ++ b))) else .stuck
  | .lst a, .lst b => if a.length + b.length ≤ 16000000 then .ok (.own (.lst (a ++ b))) else .stuck
  | _, _ => .stuck
def dSub : D → D → Rs VD
  | .int i, .int j => .ok (.val (.int (i - j)))
  | _, _ => .stuck
/-- a product: one factor below 2 ^ 64 -/
def dMul : D → D → Rs VD
  | .int i, .int j => if (-(2 ^ 64) < i ∧ i < 2 ^ 64) ∨ (-(2 ^ 64) < j ∧ j < 2 ^ 64) then .ok (.val (.int (i * j))) else .stuck
  | _, _ => .stuck
def dDiv : D → D → Rs VD
  | .int i, .int j => if 0 < j ∧ j < 1073741824 then .ok (.val (.int (i / j))) else .stuck
  | _, _ => .stuck
def dMod : D → D → Rs VD
  | .int i, .int j => if 0 < j then .ok (.val (.int (i % j))) else .stuck
  | _, _ => .stuck
def dPow : D → D → Rs VD
  | .int i, .int j => if 0 ≤ j ∧ j ≤ 1000000 ∧ i.natAbs < 2 ^ 64 then .ok (.val (.int (i ^ j.toNat))) else .stuck
  | _, _ => .stuck
def dNeg : D → Rs VD
  | .int i => .ok (.val (.int (-i)))
  | _ => .stuck
section
variable {K : PySem.W.Frag} {mg : Str → Option Value}
theorem quiet_v {d : D} : Quiet (.ok (.val d)) := .inr (.inl ⟨d, rfl⟩)
theorem quiet_o {d : D} : Quiet (.ok (.own d)) := .inr (.inr ⟨d, rfl⟩)
theorem quiet_s : Quiet .stuck := .inl rfl
theorem quiet_if {p : Prop} [Decidable p] {x y : Rs VD} (h : Quiet x) (k : Quiet y) : Quiet (if p then x else y) := by
  by_cases c : p
  · rw [if_pos c]; exact h
  · rw [if_neg c]; exact k
theorem if_ok {p : Prop} [Decidable p] {x z : VD} (h : (if p then Rs.ok x else .stuck) = Rs.ok z) : p ∧ x = z := by
  by_cases c : p
  · rw [if_pos c] at h
    cases h
    exact ⟨c, rfl⟩
  · rw [if_neg c] at h
    cases h
def rAddU (K : PySem.W.Frag) : R2 := fun x y H Q => (rI0 fun i j => .int (i + j)) x y H Q ∨ rCatA K x y H Q ∨ rCat x y H Q
theorem op_addU {X : Cx} : OpR X (binaryOp .Add) (rAddU X.K) := op_add.or (op_catA.or op_cat)
theorem q_add : Quiet2 dAddI := fun d e => by
  unfold dAddI
  split <;> first | exact quiet_v | exact quiet_s | exact quiet_if quiet_v quiet_s | exact quiet_if quiet_o quiet_s
theorem d_add : R2D K mg (rAddU K) dAddI := fun S H x y dx dy Q z t p q e k => by
  unfold dAddI at e
  split at e
  · cases e
    exact .inl ⟨_, _, p.int, q.int, k.pure (.int _)⟩
  · rename_i a b
    obtain ⟨c, rfl⟩ := if_ok e
    obtain ⟨a1, vs, rfl, h1, z1, r1⟩ := p.sqT
    obtain ⟨b1, ws, rfl, h2, z2, r2⟩ := q.sqT
    refine .inr (.inl ?_)
    have l1 := r1.len
    have l2 := r2.len
    refine ⟨a1, b1, vs, ws, rfl, rfl, h1, h2, by rw [sizeLine_eq]; omega, ?_⟩
    refine ⟨fun e0 => ?_, fun _ e0 => ?_, fun _ _ p hp => k.newT t hp (by rw [List.length_append, sizeLine_eq]; omega) (r1.app r2)⟩
    · subst e0
      cases r1
      exact k.pure q.rep
    · subst e0
      cases r2
      rw [List.append_nil] at k
      exact k.pure p.rep
  · rename_i a b
    obtain ⟨c, rfl⟩ := if_ok e
    obtain ⟨a1, vs, rfl, h1, z1, r1⟩ := p.sqL
    obtain ⟨b1, ws, rfl, h2, z2, r2⟩ := q.sqL
    have l1 := r1.len
    have l2 := r2.len
    exact .inr (.inr ⟨a1, b1, vs, ws, rfl, rfl, h1, h2, by rw [sizeLine_eq]; omega, fun p hp => k.newL hp (by rw [List.length_append, sizeLine_eq]; omega) (r1.app r2)⟩)
  · cases e
theorem q_sub : Quiet2 dSub := fun d e => by
  unfold dSub
  split <;> first | exact quiet_v | exact quiet_s
theorem q_mul : Quiet2 dMul := fun d e => by
  unfold dMul
  split <;> first | exact quiet_if quiet_v quiet_s | exact quiet_s
theorem q_div : Quiet2 dDiv := fun d e => by
  unfold dDiv
  split <;> first | exact quiet_if quiet_v quiet_s | exact quiet_s
theorem q_mod : Quiet2 dMod := fun d e => by
  unfold dMod
  split <;> first | exact quiet_if quiet_v quiet_s | exact quiet_s
theorem q_pow : Quiet2 dPow := fun d e => by
  unfold dPow
  split <;> first | exact quiet_if quiet_v quiet_s | exact quiet_s
theorem q_neg : Quiet1 dNeg := fun d => by
  unfold dNeg
  split <;> first | exact quiet_v | exact quiet_s
theorem d_sub : R2D K mg (rI0 fun i j => .int (i - j)) dSub := fun S H x y dx dy Q z t p q e k => by
  unfold dSub at e
  split at e <;> cases e
  exact ⟨_, _, p.int, q.int, k.pure (.int _)⟩
theorem d_mul : R2D K mg (rI CMul fun i j => .int (i * j)) dMul := fun S H x y dx dy Q z t p q e k => by
  unfold dMul at e
  split at e
  · obtain ⟨c, rfl⟩ := if_ok e
    exact ⟨_, _, p.int, q.int, c, k.pure (.int _)⟩
  · cases e
theorem d_div : R2D K mg (rI CDiv fun i j => .int (i / j)) dDiv := fun S H x y dx dy Q z t p q e k => by
  unfold dDiv at e
  split at e
  · obtain ⟨c, rfl⟩ := if_ok e
    exact ⟨_, _, p.int, q.int, c, k.pure (.int _)⟩
  · cases e
theorem d_mod : R2D K mg (rI (fun _ j => 0 < j) fun i j => .int (i % j)) dMod := fun S H x y dx dy Q z t p q e k => by
  unfold dMod at e
  split at e
  · obtain ⟨c, rfl⟩ := if_ok e
    exact ⟨_, _, p.int, q.int, c, k.pure (.int _)⟩
  · cases e
theorem d_pow : R2D K mg (rI CPow fun i j => .int (i ^ j.toNat)) dPow := fun S H x y dx dy Q z t p q e k => by
  unfold dPow at e
  split at e
  · obtain ⟨c, rfl⟩ := if_ok e
    exact ⟨_, _, p.int, q.int, c, k.pure (.int _)⟩
  · cases e
theorem d_neg : R1D K mg (rU fun i => .int (-i)) dNeg := fun S H x dx Q z t p e k => by
  unfold dNeg at e
  split at e <;> cases e
  exact ⟨_, p.int, k.pure (.int _)⟩
end

/-! ## plain data -/
mutual
def py : D → PyData
  | .non => .none
  | .bl b => .bool b
  | .int i => .int i
  | .str x => .str x
  | .tup ds => .tuple (pys ds)
  | .lst ds => .list (pys ds)
  | .dct _ _ => .dict []
  | .ins _ _ => .dict []
  | .scr _ => .dict []
  | .tpl ns => .tuple (ns.map PyData.int)
def pys : List D → List PyData
  | [] => []
  | d :: ds => py d :: pys ds
end
theorem pys_map : ∀ ds : List D, pys ds = ds.map py
  | [] => by rw [pys]; rfl
  | d :: ds => by rw [pys, pys_map ds]; rfl
/-- texts, whole numbers, bools, None, lists and tuples of such, so deep -/
def Pl : Nat → D → Prop
  | _, .non => True
  | _, .bl _ => True
  | _, .int _ => True
  | _, .str _ => True
  | n + 1, .tup ds => ∀ d ∈ ds, Pl n d
  | n + 1, .lst ds => ∀ d ∈ ds, Pl n d
  | _ + 1, .tpl _ => True
  | _, _ => False
@[simp] theorem pl_non (n : Nat) : Pl n .non = True := by cases n <;> rfl
@[simp] theorem pl_bl (n : Nat) (b : Bool) : Pl n (.bl b) = True := by cases n <;> rfl
@[simp] theorem pl_int (n : Nat) (i : Int) : Pl n (.int i) = True := by cases n <;> rfl
@[simp] theorem pl_str (n : Nat) (x : Str) : Pl n (.str x) = True := by cases n <;> rfl
@[simp] theorem pl_tup (n : Nat) (ds : List D) : Pl (n + 1) (.tup ds) = ∀ d ∈ ds, Pl n d := rfl
@[simp] theorem pl_tpl (n : Nat) (ns : List Int) : Pl (n + 1) (.tpl ns) = True := rfl
@[simp] theorem pl_lst (n : Nat) (ds : List D) : Pl (n + 1) (.lst ds) = ∀ d ∈ ds, Pl n d := rfl
theorem plainAll_of {l : List PyData} (h : ∀ d ∈ l, d.plain = true) : PyData.plainAll l = true := by
  induction l with
  | nil => rw [PyData.plainAll]
  | cons d l ih =>
    rw [PyData.plainAll, h d List.mem_cons_self, ih fun e z => h e (List.mem_cons_of_mem _ z)]
    rfl
theorem depthAll_of {n : Nat} {l : List PyData} (h : ∀ d ∈ l, d.depth ≤ n) : PyData.depthAll l ≤ n := by
  induction l with
  | nil => rw [PyData.depthAll]; exact Nat.zero_le _
  | cons d l ih =>
    rw [PyData.depthAll]
    exact Nat.max_le.mpr ⟨h d List.mem_cons_self, ih fun e z => h e (List.mem_cons_of_mem _ z)⟩
theorem pl_py : ∀ (n : Nat) (d : D), Pl n d → (py d).plain = true ∧ (py d).depth ≤ n
  | n, .non, _ => by rw [py, PyData.plain, PyData.depth]; exact ⟨rfl, Nat.zero_le _⟩
  | n, .bl _, _ => by rw [py, PyData.plain, PyData.depth]; exact ⟨rfl, Nat.zero_le _⟩
  | n, .int _, _ => by rw [py, PyData.plain, PyData.depth]; exact ⟨rfl, Nat.zero_le _⟩
  | n, .str _, _ => by rw [py, PyData.plain, PyData.depth]; exact ⟨rfl, Nat.zero_le _⟩
  | 0, .tup _, h => h.elim
  | 0, .lst _, h => h.elim
  | n + 1, .tup ds, h => by
    have q := fun e (z : e ∈ ds) => pl_py n e (h e z)
    rw [py, PyData.plain, PyData.depth, pys_map]
    refine ⟨plainAll_of fun d z => ?_, ?_⟩
    · obtain ⟨e, z1, rfl⟩ := List.mem_map.mp z
      exact (q e z1).1
    · have := depthAll_of (n := n) (l := ds.map py) fun d z => by
        obtain ⟨e, z1, rfl⟩ := List.mem_map.mp z
        exact (q e z1).2
      omega
  | n + 1, .lst ds, h => by
    have q := fun e (z : e ∈ ds) => pl_py n e (h e z)
    rw [py, PyData.plain, PyData.depth, pys_map]
    refine ⟨plainAll_of fun d z => ?_, ?_⟩
    · obtain ⟨e, z1, rfl⟩ := List.mem_map.mp z
      exact (q e z1).1
    · have := depthAll_of (n := n) (l := ds.map py) fun d z => by
        obtain ⟨e, z1, rfl⟩ := List.mem_map.mp z
        exact (q e z1).2
      omega
  | n, .dct _ _, h => by cases n <;> exact h.elim
  | n, .ins _ _, h => by cases n <;> exact h.elim
  | n, .scr _, h => by cases n <;> exact h.elim
  | 0, .tpl _, h => h.elim
  | n + 1, .tpl ns, _ => by
    rw [py, PyData.plain, PyData.depth]
    refine ⟨plainAll_of fun d z => ?_, ?_⟩
    · obtain ⟨e, _, rfl⟩ := List.mem_map.mp z
      rw [PyData.plain]
    · have := depthAll_of (n := n) (l := ns.map PyData.int) fun d z => by
        obtain ⟨e, _, rfl⟩ := List.mem_map.mp z
        rw [PyData.depth]
        exact Nat.zero_le _
      omega
theorem readsInts {h : Heap} : ∀ {ns : List Int} {us : List Value}, Vals (ns.map V.int) us → ∃ as, PySem.ReadsAll h us (ns.map PyData.int) as
  | [], _, r => by cases r; exact ⟨_, .nil⟩
  | n :: ns, _, r => by
    cases r with
    | cons r1 r2 =>
      obtain ⟨t, rfl⟩ := r1
      obtain ⟨as, hr⟩ := readsInts r2
      exact ⟨_, .cons (.int n t) hr⟩
section
variable {X : Cx} {ps : List (Addr × Obj)} {σ : L2.St} {H : Hp} {s : Shared} {mg : Str → Option Value} {S : Addr → Prop}
mutual
theorem Rep.reads (I : Inv X ps σ H s) : ∀ {v : V} {d : D} (n : Nat) (u : Value), Rep X.K mg S H v d → Pl n d → RelV v u → ∃ as, PySem.Reads s.heap u (py d) as
  | _, _, _, _, .non, _, r => by cases r; rw [py]; exact ⟨_, .none⟩
  | _, _, _, _, .bl b, _, r => by cases r; rw [py]; exact ⟨_, .bool b⟩
  | _, _, _, _, .int i, _, r => by obtain ⟨t, rfl⟩ := r; rw [py]; exact ⟨_, .int i t⟩
  | _, _, _, _, .str x, _, r => by obtain ⟨t, rfl⟩ := r; rw [py]; exact ⟨_, .str x t⟩
  | _, _, 0, _, .tup _ _ _ _, h, _ => h.elim
  | _, _, 0, _, .lst _ _ _ _, h, _ => h.elim
  | _, _, n + 1, _, .tup _ e _ q, h, r => by
    cases r
    obtain ⟨its, rv, ⟨o, ho, hc, k, hd⟩, _⟩ := I.tuple (.of e)
    obtain ⟨as, hr⟩ := Reps.reads I n _ q h rv
    rw [py]
    exact ⟨_, .tuple ho hc hd hr⟩
  | _, _, n + 1, _, .lst _ e _ q, h, r => by
    cases r
    obtain ⟨its, rv, ⟨o, k, ho, hc, _, hd⟩, _⟩ := I.list (.of e)
    obtain ⟨as, hr⟩ := Reps.reads I n _ q h rv
    rw [py]
    exact ⟨_, .list ho hc hd hr⟩
  | _, _, n, _, .dK _ _ _ _ _, h, _ => by cases n <;> exact h.elim
  | _, _, n, _, .dT _ _ _ _ _, h, _ => by cases n <;> exact h.elim
  | _, _, n, _, .ins _ _ _ _ _, h, _ => by cases n <;> exact h.elim
  | _, _, n, _, .scr _ _ _ _, h, _ => by cases n <;> exact h.elim
  | _, _, n, _, .scrK _ _, h, _ => by cases n <;> exact h.elim
  | _, _, 0, _, .tpl _ _ _ _ _, h, _ => h.elim
  | _, _, n + 1, _, .tpl _ e _ _ _, _, r => by
    cases r
    obtain ⟨its, rv, ⟨o, ho, hc, k, hd⟩, _⟩ := I.tuple (.inl (.inr ⟨_, e⟩))
    obtain ⟨as, hr⟩ := readsInts rv
    rw [py]
    exact ⟨_, .tuple ho hc hd hr⟩
theorem Reps.reads (I : Inv X ps σ H s) : ∀ {vs : List V} {ds : List D} (n : Nat) (us : List Value), Reps X.K mg S H vs ds → (∀ d ∈ ds, Pl n d) → Vals vs us → ∃ as, PySem.ReadsAll s.heap us (pys ds) as
  | _, _, _, _, .nil, _, r => by cases r; rw [pys]; exact ⟨_, .nil⟩
  | _, _, n, _, .cons p t, h, r => by
    cases r with
    | cons r1 r2 =>
      obtain ⟨as, h1⟩ := Rep.reads I n _ p (h _ List.mem_cons_self) r1
      obtain ⟨bs, h2⟩ := Reps.reads I n _ t (fun d z => h d (List.mem_cons_of_mem _ z)) r2
      rw [pys]
      exact ⟨_, .cons h1 h2⟩
end
theorem Top.reads (I : Inv X ps σ H s) {v : V} {d : D} (n : Nat) {u : Value} (h : Top X.K mg S H v d) (pl : Pl n d) (r : RelV v u) : ∃ as, PySem.Reads s.heap u (py d) as := by
  rcases h with h | ⟨p, rfl, h⟩
  · exact h.reads I n u pl r
  · cases h with
    | lst e z q =>
      cases n with
      | zero => exact pl.elim
      | succ n =>
        cases r
        obtain ⟨its, rv, ⟨o, k, ho, hc, _, hd⟩, _⟩ := I.list (.of e)
        obtain ⟨as, hr⟩ := Reps.reads I n _ q pl rv
        rw [py]
        exact ⟨_, .list ho hc hd hr⟩
    | dK e z g q => cases n <;> exact pl.elim
    | dT e z g q => cases n <;> exact pl.elim
    | ins e m g q => cases n <;> exact pl.elim
end
end Pu
namespace Pu
open PySem L2
open Classical

/-! ## comparisons of plain data -/
def rPl (K : PySem.W.Frag) (mg : Str → Option Value) (c : D → D → Prop) (f : D → D → Bool) : R2 := fun x y H Q => ∃ (S : Addr → Prop) (d e : D), Top K mg S H x d ∧ Top K mg S H y e ∧ Pl 40 d ∧ Pl 40 e ∧ c d e ∧ Q (.bl (f d e)) H
noncomputable def dPl (c : D → D → Prop) (f : D → D → Bool) : D → D → Rs VD := fun d e => if Pl 40 d ∧ Pl 40 e ∧ c d e then .ok (.val (.bl (f d e))) else .stuck
theorem q_pl {c : D → D → Prop} {f : D → D → Bool} : Quiet2 (dPl c f) := fun _ _ => quiet_if quiet_v quiet_s
theorem d_pl {K : PySem.W.Frag} {mg : Str → Option Value} {c : D → D → Prop} {f : D → D → Bool} : R2D K mg (rPl K mg c f) (dPl c f) := fun S H x y dx dy Q z t p q e k => by
  obtain ⟨⟨h1, h2, h3⟩, rfl⟩ := if_ok e
  exact ⟨S, dx, dy, p, q, h1, h2, h3, k.pure (.bl _)⟩
/-- the two can be ordered -/
def Ord2 (d e : D) : Prop := W.alike (py d) (py e) = true ∧ py d ≠ .none
noncomputable def dEq : D → D → Rs VD := dPl (fun _ _ => True) fun d e => PyData.eqv (py d) (py e)
noncomputable def dNe : D → D → Rs VD := dPl (fun _ _ => True) fun d e => !PyData.eqv (py d) (py e)
noncomputable def dLt : D → D → Rs VD := dPl Ord2 fun d e => W.dataLt (py d) (py e)
noncomputable def dGt : D → D → Rs VD := dPl Ord2 fun d e => W.dataLt (py e) (py d)
noncomputable def dLe : D → D → Rs VD := dPl Ord2 fun d e => !W.dataLt (py e) (py d)
noncomputable def dGe : D → D → Rs VD := dPl Ord2 fun d e => !W.dataLt (py d) (py e)
def isSeq (e : D) : Prop := (∃ ds, e = .lst ds) ∨ ∃ ds, e = .tup ds
def itemsD : D → List D
  | .lst ds => ds
  | .tup ds => ds
  | _ => []
noncomputable def dInS : D → D → Rs VD := dPl (fun _ e => isSeq e) fun d e => (itemsD e).any fun y => PyData.eqv (py y) (py d)
noncomputable def dNinS : D → D → Rs VD := dPl (fun _ e => isSeq e) fun d e => !(itemsD e).any fun y => PyData.eqv (py y) (py d)
section
variable {X : Cx}
theorem room40 {n m u : Nat} (hu : u + 64 < cLine) (h1 : n ≤ 40) : u + min n m < cLine := Nat.lt_of_le_of_lt (Nat.add_le_add_left (Nat.le_trans (Nat.min_le_left _ _) (Nat.le_trans h1 (by decide))) u) hu
theorem op_eqP (hu : X.A.units + 64 < cLine) : OpR X (compareOp .Eq) (rPl X.K X.mg (fun _ _ => True) fun d e => PyData.eqv (py d) (py e)) := by
  rintro ps s σ H x y v u Q I rx ry ⟨S, d, e, p, q, h1, h2, _, k⟩
  obtain ⟨as, r1⟩ := p.reads I 40 h1 rx
  obtain ⟨bs, r2⟩ := q.reads I 40 h2 ry
  exact SeqAt.eq_plain r1 r2 (pl_py 40 d h1).1 (pl_py 40 e h2).1 (room40 hu (pl_py 40 d h1).2) ⟨.bl _, H, I, rfl, k⟩
theorem op_neP (hu : X.A.units + 64 < cLine) : OpR X (compareOp .NotEq) (rPl X.K X.mg (fun _ _ => True) fun d e => !PyData.eqv (py d) (py e)) := by
  rintro ps s σ H x y v u Q I rx ry ⟨S, d, e, p, q, h1, h2, _, k⟩
  obtain ⟨as, r1⟩ := p.reads I 40 h1 rx
  obtain ⟨bs, r2⟩ := q.reads I 40 h2 ry
  exact SeqAt.ne_plain r1 r2 (pl_py 40 d h1).1 (pl_py 40 e h2).1 (room40 hu (pl_py 40 d h1).2) ⟨.bl _, H, I, rfl, k⟩
theorem op_ltP (hu : X.A.units + 64 < cLine) : OpR X (compareOp .Lt) (rPl X.K X.mg Ord2 fun d e => W.dataLt (py d) (py e)) := by
  rintro ps s σ H x y v u Q I rx ry ⟨S, d, e, p, q, h1, h2, ⟨h3, h4⟩, k⟩
  obtain ⟨as, r1⟩ := p.reads I 40 h1 rx
  obtain ⟨bs, r2⟩ := q.reads I 40 h2 ry
  exact W.lt_data r1 r2 h3 h4 (room40 hu (pl_py 40 d h1).2) ⟨.bl _, H, I, rfl, k⟩
theorem op_gtP (hu : X.A.units + 64 < cLine) : OpR X (compareOp .Gt) (rPl X.K X.mg Ord2 fun d e => W.dataLt (py e) (py d)) := by
  rintro ps s σ H x y v u Q I rx ry ⟨S, d, e, p, q, h1, h2, ⟨h3, h4⟩, k⟩
  obtain ⟨as, r1⟩ := p.reads I 40 h1 rx
  obtain ⟨bs, r2⟩ := q.reads I 40 h2 ry
  exact W.gt_data r1 r2 h3 h4 (room40 hu (pl_py 40 d h1).2) ⟨.bl _, H, I, rfl, k⟩
theorem op_leP (hu : X.A.units + 64 < cLine) : OpR X (compareOp .LtE) (rPl X.K X.mg Ord2 fun d e => !W.dataLt (py e) (py d)) := by
  rintro ps s σ H x y v u Q I rx ry ⟨S, d, e, p, q, h1, h2, ⟨h3, h4⟩, k⟩
  obtain ⟨as, r1⟩ := p.reads I 40 h1 rx
  obtain ⟨bs, r2⟩ := q.reads I 40 h2 ry
  exact W.le_data r1 r2 h3 h4 (room40 hu (pl_py 40 d h1).2) ⟨.bl _, H, I, rfl, k⟩
theorem op_geP (hu : X.A.units + 64 < cLine) : OpR X (compareOp .GtE) (rPl X.K X.mg Ord2 fun d e => !W.dataLt (py d) (py e)) := by
  rintro ps s σ H x y v u Q I rx ry ⟨S, d, e, p, q, h1, h2, ⟨h3, h4⟩, k⟩
  obtain ⟨as, r1⟩ := p.reads I 40 h1 rx
  obtain ⟨bs, r2⟩ := q.reads I 40 h2 ry
  exact W.ge_data r1 r2 h3 h4 (room40 hu (pl_py 40 d h1).2) ⟨.bl _, H, I, rfl, k⟩
theorem any_pys (d : D) (ds : List D) : (pys ds).any (fun y => PyData.eqv y (py d)) = ds.any fun y => PyData.eqv (py y) (py d) := by
  rw [pys_map, List.any_map]
  rfl
theorem plain_all {n : Nat} {ds : List D} (h : ∀ d ∈ ds, Pl n d) : PyData.plainAll (pys ds) = true := by
  rw [pys_map]
  exact plainAll_of fun d z => by
    obtain ⟨e, z1, rfl⟩ := List.mem_map.mp z
    exact (pl_py n e (h e z1)).1
theorem room41 {n m u : Nat} (hu : u + 64 < cLine) (h1 : m ≤ 40) : u + 1 + min n m < cLine := by
  have := Nat.min_le_right n m
  omega
theorem op_inP (hu : X.A.units + 64 < cLine) : OpR X (compareOp .In) (rPl X.K X.mg (fun _ e => isSeq e) fun d e => (itemsD e).any fun y => PyData.eqv (py y) (py d)) := by
  rintro ps s σ H x y v u Q I rx ry ⟨S, d, e, p, q, h1, h2, h3, k⟩
  obtain ⟨as, r1⟩ := p.reads I 40 h1 rx
  obtain ⟨bs, r2⟩ := q.reads I 40 h2 ry
  rcases h3 with ⟨ds, rfl⟩ | ⟨ds, rfl⟩
  · rw [py] at r2
    refine SeqAt.in_list_data r2 r1 (plain_all (n := 39) h2) (pl_py 40 d h1).1 (room41 hu (pl_py 40 d h1).2) ⟨.bl _, H, I, rfl, ?_⟩
    rw [any_pys]
    exact k
  · rw [py] at r2
    refine SeqAt.in_tuple_data r2 r1 (plain_all (n := 39) h2) (pl_py 40 d h1).1 (room41 hu (pl_py 40 d h1).2) ⟨.bl _, H, I, rfl, ?_⟩
    rw [any_pys]
    exact k
theorem op_ninP (hu : X.A.units + 64 < cLine) : OpR X (compareOp .NotIn) (rPl X.K X.mg (fun _ e => isSeq e) fun d e => !(itemsD e).any fun y => PyData.eqv (py y) (py d)) := by
  rintro ps s σ H x y v u Q I rx ry ⟨S, d, e, p, q, h1, h2, h3, k⟩
  obtain ⟨as, r1⟩ := p.reads I 40 h1 rx
  obtain ⟨bs, r2⟩ := q.reads I 40 h2 ry
  rcases h3 with ⟨ds, rfl⟩ | ⟨ds, rfl⟩
  · rw [py] at r2
    refine SeqAt.notIn_list_data r2 r1 (plain_all (n := 39) h2) (pl_py 40 d h1).1 (room41 hu (pl_py 40 d h1).2) ⟨.bl _, H, I, rfl, ?_⟩
    rw [any_pys]
    exact k
  · rw [py] at r2
    refine SeqAt.notIn_tuple_data r2 r1 (plain_all (n := 39) h2) (pl_py 40 d h1).1 (room41 hu (pl_py 40 d h1).2) ⟨.bl _, H, I, rfl, ?_⟩
    rw [any_pys]
    exact k
end
/-- x is None, x is not None -/
def dIsN : D → D → Rs VD
  | .non, .non => .ok (.val (.bl true))
  | _, .non => .ok (.val (.bl false))
  | _, _ => .stuck
def dIsnN : D → D → Rs VD
  | .non, .non => .ok (.val (.bl false))
  | _, .non => .ok (.val (.bl true))
  | _, _ => .stuck
section
variable {K : PySem.W.Frag} {mg : Str → Option Value}
theorem top_non {S : Addr → Prop} {H : Hp} {v : V} {d : D} (h : Top K mg S H v d) (n : d ≠ .non) : v ≠ .non := fun e => by
  subst e
  rcases h with h | ⟨p, q, _⟩
  · cases h
    exact n rfl
  · cases q
theorem q_isn : Quiet2 dIsN := fun d e => by
  unfold dIsN
  split <;> first | exact quiet_v | exact quiet_s
theorem q_isnn : Quiet2 dIsnN := fun d e => by
  unfold dIsnN
  split <;> first | exact quiet_v | exact quiet_s
theorem d_isn : R2D K mg (fun x y H Q => y = .non ∧ Q (.bl (decide (x = .non))) H) dIsN := fun S H x y dx dy Q z t p q e k => by
  unfold dIsN at e
  split at e
  · cases e
    refine ⟨q.non, ?_⟩
    rw [p.non, decide_eq_true rfl]
    exact k.pure (.bl _)
  · rename_i n
    cases e
    refine ⟨q.non, ?_⟩
    rw [decide_eq_false (top_non p fun z => n z)]
    exact k.pure (.bl _)
  · cases e
theorem d_isnn : R2D K mg (fun x y H Q => y = .non ∧ Q (.bl (!decide (x = .non))) H) dIsnN := fun S H x y dx dy Q z t p q e k => by
  unfold dIsnN at e
  split at e
  · cases e
    refine ⟨q.non, ?_⟩
    rw [p.non, decide_eq_true rfl]
    exact k.pure (.bl _)
  · rename_i n
    cases e
    refine ⟨q.non, ?_⟩
    rw [decide_eq_false (top_non p fun z => n z)]
    exact k.pure (.bl _)
  · cases e
end

/-! ## items and slices -/
def dIx : D → D → Rs VD
  | .lst ds, .int i => (rO (atI ds i)).bind fun d => .ok (.val d)
  | .tup ds, .int i => (rO (atI ds i)).bind fun d => .ok (.val d)
  | .str x, .int i => if x.length ≤ 16000000 then (rO (atI x.cps.toList i)).bind fun c => .ok (.val (.str ⟨#[c]⟩)) else .stuck
  | _, _ => .stuck
theorem quiet_o2 {A : Type} {o : Option A} {f : A → VD} (h : ∀ a, Quiet (.ok (f a))) : Quiet ((rO o).bind fun d => .ok (f d)) := by
  cases o with
  | none => exact quiet_s
  | some a => exact h a
theorem q_ix : Quiet2 dIx := fun d e => by
  unfold dIx
  split
  · exact quiet_o2 fun _ => quiet_v
  · exact quiet_o2 fun _ => quiet_v
  · exact quiet_if (quiet_o2 fun _ => quiet_v) quiet_s
  · exact quiet_s
section
variable {K : PySem.W.Frag} {mg : Str → Option Value} {S : Addr → Prop} {H : Hp}
theorem Reps.atI {vs : List V} {ds : List D} (r : Reps K mg S H vs ds) {i : Int} {d : D} (e : L2.atI ds i = some d) : ∃ v, L2.atI vs i = some v ∧ Rep K mg S H v d := by
  unfold L2.atI at e ⊢
  rw [r.len]
  cases q : ixN ds.length i with
  | none => rw [q] at e; cases e
  | some j =>
    rw [q] at e
    exact r.getD (show ds[j]? = some d from e)
theorem o2_ok {A : Type} {o : Option A} {f : A → VD} {z : VD} (h : ((rO o).bind fun d => Rs.ok (f d)) = Rs.ok z) : ∃ a, o = some a ∧ f a = z := by
  cases o with
  | none => cases h
  | some a =>
    cases h
    exact ⟨a, rfl, rfl⟩
theorem d_ix : R2D K mg (rIx K) dIx := fun S H x y dx dy Q z t p q e k => by
  unfold dIx at e
  split at e
  · obtain ⟨d, e1, rfl⟩ := o2_ok e
    obtain ⟨a, vs, rfl, h1, z1, r⟩ := p.sqL
    obtain ⟨v, e2, p2⟩ := r.atI e1
    exact .inl ⟨a, vs, _, v, rfl, q.int, .of h1, e2, k.pure p2⟩
  · obtain ⟨d, e1, rfl⟩ := o2_ok e
    obtain ⟨a, vs, rfl, h1, z1, r⟩ := p.sqT
    obtain ⟨v, e2, p2⟩ := r.atI e1
    exact .inr (.inl ⟨a, vs, _, v, rfl, q.int, h1, e2, k.pure p2⟩)
  · rename_i w i
    by_cases c : w.length ≤ 16000000
    · rw [if_pos c] at e
      obtain ⟨ch, e1, rfl⟩ := o2_ok e
      exact .inr (.inr ⟨w, i, ch, p.str, q.int, by rw [sizeLine_eq]; omega, e1, k.pure (.str _)⟩)
    · rw [if_neg c] at e
      cases e
  · cases e
end
/-- xs[lo:hi] -/
def cutA {A : Type} (xs : List A) (lo hi : Option Int) : List A := (xs.drop (HT.sIx xs.length 0 lo)).take (HT.sIx xs.length xs.length hi - HT.sIx xs.length 0 lo)
def dSl : D → Option Int → Option Int → Rs VD
  | .lst ds, lo, hi => .ok (.own (.lst (cutA ds lo hi)))
  | .tup ds, lo, hi => .ok (.val (.tup (cutA ds lo hi)))
  | _, _, _ => .stuck
def partE (f : Option DE) : Env → Tp → Rs (Option Int × Tp) := fun r T => match f with
  | none => .ok (none, T)
  | some f => (dt (f r T)).bind fun p => (dI p.1).bind fun i => .ok (some i, p.2)
def eSl (f : DE) (lo hi : Option DE) : DE := fun r T => (dt (f r T)).bind fun p => (partE lo r p.2).bind fun a => (partE hi r a.2).bind fun b => lift (dSl p.1 a.1 b.1) b.2
def GO (K : PySem.W.Frag) (mg : Str → Option Value) (C : FC) (r : Env) (σ : L2.St) (H : Hp) (Q : Option Int → Hp → Prop) : Option Int × Tp → Prop := fun p => ∀ H', Holds K mg C Z0 r p.2 σ H' → Ext C H H' → Q p.1 H'
def tO (K : PySem.W.Frag) (mg : Str → Option Value) (C : FC) (f : Option DE) : TO := fun σ H Q => ∃ r T, Holds K mg C Z0 r T σ H ∧ PostG K mg C σ (GO K mg C r σ H Q) (partE f r T)
abbrev SO (X : Cx) (C : FC) (e : Option Expr) (f : Option DE) : Prop := PO X e (tO X.K X.mg C f)
section
variable {X : Cx} {C : FC} {e : Expr} {f : DE}
theorem po_imp {X : Cx} {e : Option Expr} {t t' : TO} (h : PO X e t) (i : ∀ σ H Q, t' σ H Q → t σ H Q) : PO X e t' := ⟨fun pins s σ H Q I q => h.run pins s σ H Q I (i σ H Q q)⟩
theorem so_none : SO X C none none := po_imp po_none fun σ H Q ⟨ρ, T, h, P⟩ => P H h Ext.refl
theorem di_ex {K : PySem.W.Frag} {mg : Str → Option Value} {C : FC} {σ : L2.St} {B : Type} {G : B → Prop} {d : D} {g : Int → Rs B} (P : PostG K mg C σ G ((dI d).bind g)) : ∃ i, d = .int i ∧ PostG K mg C σ G (g i) := by
  cases d with
  | int i => exact ⟨i, rfl, P⟩
  | _ => exact (show False from P).elim
theorem so_some (h : SE X C e f) : SO X C (some e) (some f) := by
  refine po_imp (po_some h) ?_
  rintro σ H Q ⟨ρ, T, h, P⟩
  refine ⟨ρ, T, h, gv_dt h P fun d T' v H1 h1 e1 p P1 => ?_⟩
  obtain ⟨i, rfl, P2⟩ := di_ex P1
  exact ⟨i, p.top.int, P2 H1 h1 e1⟩
theorem go_bind {K : PySem.W.Frag} {mg : Str → Option Value} {r : Env} {σ : L2.St} {H : Hp} {B : Type} {G : B → Prop} {Q : Option Int → Hp → Prop} {x : Rs (Option Int × Tp)} {g : Option Int × Tp → Rs B} (P : PostG K mg C σ G (x.bind g))
    (k : ∀ b T' H', Holds K mg C Z0 r T' σ H' → Ext C H H' → PostG K mg C σ G (g (b, T')) → Q b H') : PostG K mg C σ (GO K mg C r σ H Q) x :=
  P.bind.imp fun p P H' h1 e1 => k p.1 p.2 H' h1 e1 P
theorem cut_map {K : PySem.W.Frag} {mg : Str → Option Value} {S : Addr → Prop} {H : Hp} {vs : List V} {ds : List D} (r : Reps K mg S H vs ds) (lo hi : Option Int) : Reps K mg S H (cutV vs lo hi) (cutA ds lo hi) := by
  unfold cutV cutA
  rw [r.len]
  exact (r.drop _).take _
theorem cut_whole {A : Type} {xs : List A} {lo hi : Option Int} (h : HT.sIx xs.length 0 lo = 0 ∧ HT.sIx xs.length xs.length hi = xs.length) : cutA xs lo hi = xs := by
  unfold cutA
  rw [h.1, h.2, List.drop_zero, Nat.sub_zero, List.take_length]
theorem se_sl {a : Expr} {lo hi : Option Expr} {fl fh : Option DE} {pos p2 : Pos} (ha : SE X C a f) (hl : SO X C lo fl) (hh : SO X C hi fh) : SE X C (.Subscript a (.Slice lo hi none p2) pos) (eSl f fl fh) := by
  refine pe_imp (pe_slice (sl_tupA.or sl_list) ha hl hh) ?_
  rintro σ H Q ⟨ρ, T, h, P⟩
  refine ⟨ρ, T, h, gv_dt h P fun d T' v H1 h1 e1 p P1 => ⟨ρ, T', h1, go_bind P1 fun x T2 H2 h2 e2 P2 => ⟨ρ, T2, h2, go_bind P2 fun y T3 H3 h3 e3 P3 => ?_⟩⟩⟩
  have p3 := ((p.ext e2).ext e3).top
  have e0 := (e1.trans e2).trans e3
  cases d with
  | lst ds =>
    obtain ⟨a, vs, rfl, h4, z1, r⟩ := p3.sqL
    have P4 : GV X.K X.mg C ρ σ H Q (.own (.lst (cutA ds x y)), T3) := P3
    exact .inr ⟨a, vs, rfl, .of h4, fun q hq => (gv_res h3 (gv_from h3 e0 P4) fun _ q => nomatch q).newL hq (Nat.le_trans (cutV_length _ _ _) z1) (cut_map r x y)⟩
  | tup ds =>
    obtain ⟨a, vs, rfl, h4, z1, r⟩ := p3.sqT
    have P4 : GV X.K X.mg C ρ σ H Q (.val (.tup (cutA ds x y)), T3) := P3
    refine .inl ⟨a, vs, rfl, h4, fun w => ?_, fun w q hq => (gv_res h3 (gv_from h3 e0 P4) fun _ q => nomatch q).newT h3.trk hq (Nat.le_trans (cutV_length _ _ _) z1) (cut_map r x y)⟩
    rw [r.len] at w
    rw [cut_whole w] at P4
    exact P4 _ H3 h3 e0 p3.rep
  | _ => exact (show False from P3).elim
/-- xs[::-1] of a list -/
def dRev : D → Rs VD
  | .lst ds => .ok (.own (.lst ds.reverse))
  | _ => .stuck
theorem se_rev {a : Expr} {k : Nat} {p1 p2 p3 pos : Pos} (ha : SE X C a f) : SE X C (.Subscript a (.Slice none none (some (.UnaryOp .USub (.Constant (.int 1) k p1) p2)) p3) pos) (eUn dRev f) := by
  refine pe_imp (pe_revL ha) ?_
  rintro σ H Q ⟨ρ, T, h, P⟩
  refine ⟨ρ, T, h, gv_dt h P fun d T' v H1 h1 e1 p P1 => ?_⟩
  cases d with
  | lst ds =>
    obtain ⟨a, vs, rfl, h4, z1, r⟩ := p.top.sqL
    have P4 : GV X.K X.mg C ρ σ H Q (.own (.lst ds.reverse), T') := P1
    exact ⟨a, vs, rfl, .of h4, fun q hq => (gv_res h1 (gv_from h1 e1 P4) fun _ q => nomatch q).newL hq (by rw [List.length_reverse]; exact z1) r.reverse⟩
  | _ => exact (show False from P1).elim
end
end Pu
namespace Pu
open PySem L2
open Classical

/-! ## calls of built-in functions -/
theorem topv1 {K : PySem.W.Frag} {mg : Str → Option Value} {S : Addr → Prop} {H : Hp} {xs : List V} {d : D} (h : Tops K mg S H xs [d]) : ∃ x, xs = [x] ∧ Top K mg S H x d := by
  cases h with
  | cons p t =>
    cases t
    exact ⟨_, rfl, p⟩
theorem topv2 {K : PySem.W.Frag} {mg : Str → Option Value} {S : Addr → Prop} {H : Hp} {xs : List V} {d e : D} (h : Tops K mg S H xs [d, e]) : ∃ x y, xs = [x, y] ∧ Top K mg S H x d ∧ Top K mg S H y e := by
  cases h with
  | cons p t =>
    cases t with
    | cons q t =>
      cases t
      exact ⟨_, _, rfl, p, q⟩
/-- whole numbers alone -/
def nums : List D → Option (List Int)
  | [] => some []
  | .int i :: ds => (nums ds).map (i :: ·)
  | _ => none
@[simp] theorem ints_nil : nums [] = some [] := rfl
@[simp] theorem ints_cons (i : Int) (ds : List D) : nums (.int i :: ds) = (nums ds).map (i :: ·) := rfl
@[simp] theorem ints_map : ∀ ns : List Int, nums (ns.map D.int) = some ns
  | [] => rfl
  | n :: ns => by rw [List.map_cons, ints_cons, ints_map ns]; rfl
theorem ints_eq : ∀ {ds : List D} {ns : List Int}, nums ds = some ns → ds = ns.map D.int
  | [], ns, h => by cases h; rfl
  | .int i :: ds, ns, h => by
    rw [ints_cons] at h
    cases q : nums ds with
    | none => rw [q] at h; cases h
    | some l =>
      rw [q] at h
      cases h
      rw [List.map_cons, ints_eq q]
  | .non :: _, _, h => nomatch h
  | .bl _ :: _, _, h => nomatch h
  | .str _ :: _, _, h => nomatch h
  | .tup _ :: _, _, h => nomatch h
  | .lst _ :: _, _, h => nomatch h
  | .dct _ _ :: _, _, h => nomatch h
  | .ins _ _ :: _, _, h => nomatch h
  | .scr _ :: _, _, h => nomatch h
  | .tpl _ :: _, _, h => nomatch h
def bls : List D → Option (List Bool)
  | [] => some []
  | .bl i :: ds => (bls ds).map (i :: ·)
  | _ => none
@[simp] theorem bools_nil : bls [] = some [] := rfl
@[simp] theorem bools_cons (i : Bool) (ds : List D) : bls (.bl i :: ds) = (bls ds).map (i :: ·) := rfl
@[simp] theorem bools_map : ∀ ns : List Bool, bls (ns.map D.bl) = some ns
  | [] => rfl
  | n :: ns => by rw [List.map_cons, bools_cons, bools_map ns]; rfl
theorem bools_eq : ∀ {ds : List D} {ns : List Bool}, bls ds = some ns → ds = ns.map D.bl
  | [], ns, h => by cases h; rfl
  | .bl i :: ds, ns, h => by
    rw [bools_cons] at h
    cases q : bls ds with
    | none => rw [q] at h; cases h
    | some l =>
      rw [q] at h
      cases h
      rw [List.map_cons, bools_eq q]
  | .non :: _, _, h => nomatch h
  | .int _ :: _, _, h => nomatch h
  | .str _ :: _, _, h => nomatch h
  | .tup _ :: _, _, h => nomatch h
  | .lst _ :: _, _, h => nomatch h
  | .dct _ _ :: _, _, h => nomatch h
  | .ins _ _ :: _, _, h => nomatch h
  | .scr _ :: _, _, h => nomatch h
  | .tpl _ :: _, _, h => nomatch h
section
variable {K : PySem.W.Frag} {mg : Str → Option Value} {S : Addr → Prop} {H : Hp}
theorem Reps.ofInts : ∀ {ns : List Int} {vs : List V}, Reps K mg S H vs (ns.map D.int) → vs = ns.map V.int
  | [], vs, h => by cases h; rfl
  | n :: ns, vs, h => by
    cases h with
    | cons p t =>
      cases p
      rw [Reps.ofInts t]
      rfl
theorem Reps.ofBools : ∀ {ns : List Bool} {vs : List V}, Reps K mg S H vs (ns.map D.bl) → vs = ns.map V.bl
  | [], vs, h => by cases h; rfl
  | n :: ns, vs, h => by
    cases h with
    | cons p t =>
      cases p
      rw [Reps.ofBools t]
      rfl
theorem reps_ints : ∀ ns : List Int, Reps K mg S H (ns.map V.int) (ns.map D.int)
  | [] => .nil
  | n :: ns => .cons (.int n) (reps_ints ns)
theorem Top.scr {v : V} {ns : List Int} (h : Top K mg S H v (.scr ns)) : ∃ a, v = .ref a ∧ SqL K H a (ns.map V.int) ∧ ns.length ≤ sizeLine := by
  rcases h with h | ⟨p, rfl, h⟩
  · cases h with
    | scr s e q z => exact ⟨_, rfl, q _ e, z⟩
    | scrK q z => exact ⟨_, rfl, q _, z⟩
  · cases h
theorem o_ok {A : Type} {o : Option A} {f : A → Rs VD} {z : VD} (h : (rO o).bind f = Rs.ok z) : ∃ a, o = some a ∧ f a = .ok z := by
  cases o with
  | none => cases h
  | some a => exact ⟨a, rfl, h⟩
theorem quiet_r {A : Type} {o : Option A} {f : A → Rs VD} (h : ∀ a, Quiet (f a)) : Quiet ((rO o).bind f) := by
  cases o with
  | none => exact quiet_s
  | some a => exact h a
end

/-! len -/
def bLen : List D → Rs VD
  | [.lst ds] => .ok (.val (.int ds.length))
  | [.tup ds] => .ok (.val (.int ds.length))
  | [.str x] => if x.length ≤ 16000000 then .ok (.val (.int x.length)) else .stuck
  | [.scr ns] => .ok (.val (.int ns.length))
  | _ => .stuck
theorem q_len : QuietN bLen := fun ds => by
  unfold bLen
  split <;> first | exact quiet_v | exact quiet_s | exact quiet_if quiet_v quiet_s
def rLen (K : PySem.W.Frag) : List V → Hp → VK → Prop := fun xs H Q => ∃ x n, xs = [x] ∧ LenV K x H n ∧ Q (.int n) H
theorem d_len {K : PySem.W.Frag} {mg : Str → Option Value} : RnD K mg (rLen K) bLen := fun S H xs ds Q z t hp e k => by
  unfold bLen at e
  split at e
  · cases e
    obtain ⟨x, rfl, p⟩ := topv1 hp
    obtain ⟨a, vs, rfl, h1, z1, r⟩ := p.sqL
    exact ⟨_, _, rfl, .inl ⟨vs, .inl (.inl h1), r.len.symm⟩, k.pure (.int _)⟩
  · cases e
    obtain ⟨x, rfl, p⟩ := topv1 hp
    obtain ⟨a, vs, rfl, h1, z1, r⟩ := p.sqT
    exact ⟨_, _, rfl, .inr ⟨vs, h1, r.len.symm⟩, k.pure (.int _)⟩
  · obtain ⟨c, rfl⟩ := if_ok e
    obtain ⟨x, rfl, p⟩ := topv1 hp
    exact ⟨_, _, rfl, by rw [p.str]; exact ⟨by rw [sizeLine_eq]; omega, rfl⟩, k.pure (.int _)⟩
  · cases e
    obtain ⟨x, rfl, p⟩ := topv1 hp
    obtain ⟨a, rfl, h1, z1⟩ := p.scr
    exact ⟨_, _, rfl, .inl ⟨_, h1, by rw [List.length_map]⟩, k.pure (.int _)⟩
  · cases e

/-! list, tuple, int -/
def bList : List D → Rs VD
  | [.lst ds] => .ok (.own (.lst ds))
  | [.tup ds] => .ok (.own (.lst ds))
  | [.scr ns] => .ok (.own (.lst (ns.map D.int)))
  | _ => .stuck
theorem q_list : QuietN bList := fun ds => by
  unfold bList
  split <;> first | exact quiet_o | exact quiet_s
def rList (K : PySem.W.Frag) : List V → Hp → VK → Prop := fun xs H Q => ∃ p ys, xs = [.ref p] ∧ (SqL K H p ys ∨ SqT K H p ys) ∧ ∀ l, H l = none → Q (.ref l) (upd H l (.lst ys))
theorem d_list {K : PySem.W.Frag} {mg : Str → Option Value} : RnD K mg (rList K) bList := fun S H xs ds Q z t hp e k => by
  unfold bList at e
  split at e
  · cases e
    obtain ⟨x, rfl, p⟩ := topv1 hp
    obtain ⟨a, vs, rfl, h1, z1, r⟩ := p.sqL
    exact ⟨_, _, rfl, .inl (.inl (.inl h1)), fun l hl => k.newL hl z1 r⟩
  · cases e
    obtain ⟨x, rfl, p⟩ := topv1 hp
    obtain ⟨a, vs, rfl, h1, z1, r⟩ := p.sqT
    exact ⟨_, _, rfl, .inr h1, fun l hl => k.newL hl z1 r⟩
  · cases e
    obtain ⟨x, rfl, p⟩ := topv1 hp
    obtain ⟨a, rfl, h1, z1⟩ := p.scr
    exact ⟨_, _, rfl, .inl h1, fun l hl => k.newL hl (by rw [List.length_map]; exact z1) (reps_ints _)⟩
  · cases e
def bTuple : List D → Rs VD
  | [.lst ds] => .ok (.val (.tup ds))
  | [.tup ds] => .ok (.val (.tup ds))
  | _ => .stuck
theorem q_tuple : QuietN bTuple := fun ds => by
  unfold bTuple
  split <;> first | exact quiet_v | exact quiet_s
def rTuple (K : PySem.W.Frag) : List V → Hp → VK → Prop := fun xs H Q => ∃ p ys, xs = [.ref p] ∧ ((SqL K H p ys ∧ ∀ l, H l = none → Q (.ref l) (upd H l (.tup ys))) ∨ (SqT K H p ys ∧ Q (.ref p) H))
theorem d_tuple {K : PySem.W.Frag} {mg : Str → Option Value} : RnD K mg (rTuple K) bTuple := fun S H xs ds Q z t hp e k => by
  unfold bTuple at e
  split at e
  · cases e
    obtain ⟨x, rfl, p⟩ := topv1 hp
    obtain ⟨a, vs, rfl, h1, z1, r⟩ := p.sqL
    exact ⟨_, _, rfl, .inl ⟨.inl (.inl h1), fun l hl => k.newT t hl z1 r⟩⟩
  · cases e
    obtain ⟨x, rfl, p⟩ := topv1 hp
    have p2 := p.rep
    obtain ⟨a, vs, rfl, h1, z1, r⟩ := p.sqT
    exact ⟨_, _, rfl, .inr ⟨h1, k.pure p2⟩⟩
  · cases e
def bInt : List D → Rs VD
  | [.int i] => .ok (.val (.int i))
  | [.bl b] => .ok (.val (.int (if b then 1 else 0)))
  | _ => .stuck
theorem q_int : QuietN bInt := fun ds => by
  unfold bInt
  split <;> first | exact quiet_v | exact quiet_s
theorem d_int {K : PySem.W.Frag} {mg : Str → Option Value} : RnD K mg (fun xs H Q => (∃ i, xs = [.int i] ∧ Q (.int i) H) ∨ ∃ k, xs = [.bl k] ∧ Q (.int (if k then 1 else 0)) H) bInt := fun S H xs ds Q z t hp e k => by
  unfold bInt at e
  split at e
  · cases e
    obtain ⟨x, rfl, p⟩ := topv1 hp
    rw [p.int]
    exact .inl ⟨_, rfl, k.pure (.int _)⟩
  · cases e
    obtain ⟨x, rfl, p⟩ := topv1 hp
    rw [p.bl]
    exact .inr ⟨_, rfl, k.pure (.int _)⟩
  · cases e
def bAbs : List D → Rs VD
  | [.int i] => .ok (.val (.int (if i < 0 then -i else i)))
  | _ => .stuck
theorem q_abs : QuietN bAbs := fun ds => by
  unfold bAbs
  split <;> first | exact quiet_v | exact quiet_s
theorem d_abs {K : PySem.W.Frag} {mg : Str → Option Value} : RnD K mg (fun xs H Q => ∃ i, xs = [.int i] ∧ Q (.int (if i < 0 then -i else i)) H) bAbs := fun S H xs ds Q z t hp e k => by
  unfold bAbs at e
  split at e
  · cases e
    obtain ⟨x, rfl, p⟩ := topv1 hp
    rw [p.int]
    exact ⟨_, rfl, k.pure (.int _)⟩
  · cases e

/-! sum, all, any, min, max -/
def rSumA (K : PySem.W.Frag) : List V → Hp → VK → Prop := fun vs H Q => ∃ (a : Addr) (ns : List Int), vs = [V.ref a] ∧ (SqL K H a (ns.map V.int) ∨ SqT K H a (ns.map V.int)) ∧ Q (.int ns.sum) H
theorem cr_sumA {X : Cx} (hc : X.calm = true) : CallR X (.builtin "sum") (rSumA X.K) := by
  intro pins s σ H vs us Q I r h
  obtain ⟨a, ns, rfl, hs, q⟩ := h
  rcases hs with hs | hs
  · exact cr_sum hc pins s σ H _ us Q I r ⟨a, ns, rfl, hs, q⟩
  · obtain ⟨its, rv, hl, _⟩ := I.tuple hs
    rw [Vals.ref1 r]
    obtain ⟨xs, hx⟩ := rv.ints.allInts.items
    have hn : numsOf its.toArray.toList = ns := by rw [show its.toArray.toList = its from rfl, rv.ints.numsOf]
    have hl : s.heap.IsTuple a its.toArray := hl
    rw [hx] at hl hn
    rw [nums_intItems] at hn
    refine PySem.W.ktm_sumG (I.ok.hd hc) hl fun h' tk t' hk => ?_
    rw [preSum_eq, List.take_of_length_le (by simp), hn]
    exact ⟨.int _, H, I.kept hk, ⟨_, rfl⟩, q⟩
def bSum : List D → Rs VD
  | [.lst ds] => (rO (nums ds)).bind fun ns => .ok (.val (.int ns.sum))
  | [.tup ds] => (rO (nums ds)).bind fun ns => .ok (.val (.int ns.sum))
  | _ => .stuck
theorem q_sum : QuietN bSum := fun ds => by
  unfold bSum
  split <;> first | exact quiet_s | exact quiet_r fun _ => quiet_v
theorem d_sum {K : PySem.W.Frag} {mg : Str → Option Value} : RnD K mg (rSumA K) bSum := fun S H xs ds Q z t hp e k => by
  unfold bSum at e
  split at e
  · obtain ⟨ns, e1, e⟩ := o_ok e
    cases e
    have := ints_eq e1
    subst this
    obtain ⟨x, rfl, p⟩ := topv1 hp
    obtain ⟨a, vs, rfl, h1, z1, r⟩ := p.sqL
    rw [r.ofInts] at h1
    exact ⟨a, ns, rfl, .inl (.inl (.inl h1)), k.pure (.int _)⟩
  · obtain ⟨ns, e1, e⟩ := o_ok e
    cases e
    have := ints_eq e1
    subst this
    obtain ⟨x, rfl, p⟩ := topv1 hp
    obtain ⟨a, vs, rfl, h1, z1, r⟩ := p.sqT
    rw [r.ofInts] at h1
    exact ⟨a, ns, rfl, .inr h1, k.pure (.int _)⟩
  · cases e
def bAll : List D → Rs VD
  | [.lst ds] => (rO (bls ds)).bind fun ns => .ok (.val (.bl (ns.all id)))
  | _ => .stuck
def bAny : List D → Rs VD
  | [.lst ds] => (rO (bls ds)).bind fun ns => .ok (.val (.bl (ns.any id)))
  | _ => .stuck
theorem q_all : QuietN bAll := fun ds => by
  unfold bAll
  split <;> first | exact quiet_s | exact quiet_r fun _ => quiet_v
theorem q_any : QuietN bAny := fun ds => by
  unfold bAny
  split <;> first | exact quiet_s | exact quiet_r fun _ => quiet_v
theorem d_all {K : PySem.W.Frag} {mg : Str → Option Value} : RnD K mg (rAll K) bAll := fun S H xs ds Q z t hp e k => by
  unfold bAll at e
  split at e
  · obtain ⟨ns, e1, e⟩ := o_ok e
    cases e
    have := bools_eq e1
    subst this
    obtain ⟨x, rfl, p⟩ := topv1 hp
    obtain ⟨a, vs, rfl, h1, z1, r⟩ := p.sqL
    rw [r.ofBools] at h1
    exact ⟨a, ns, rfl, .inl (.inl h1), k.pure (.bl _)⟩
  · cases e
theorem d_any {K : PySem.W.Frag} {mg : Str → Option Value} : RnD K mg (rAny K) bAny := fun S H xs ds Q z t hp e k => by
  unfold bAny at e
  split at e
  · obtain ⟨ns, e1, e⟩ := o_ok e
    cases e
    have := bools_eq e1
    subst this
    obtain ⟨x, rfl, p⟩ := topv1 hp
    obtain ⟨a, vs, rfl, h1, z1, r⟩ := p.sqL
    rw [r.ofBools] at h1
    exact ⟨a, ns, rfl, .inl (.inl h1), k.pure (.bl _)⟩
  · cases e
def bMax : List D → Rs VD
  | [.int i, .int j] => .ok (.val (.int (if j > i then j else i)))
  | [.lst ds] => (rO (nums ds)).bind fun ns => (rO ns.max?).bind fun m => .ok (.val (.int m))
  | [.tup ds] => (rO (nums ds)).bind fun ns => (rO ns.max?).bind fun m => .ok (.val (.int m))
  | _ => .stuck
def bMin : List D → Rs VD
  | [.int i, .int j] => .ok (.val (.int (if j < i then j else i)))
  | [.lst ds] => (rO (nums ds)).bind fun ns => (rO ns.min?).bind fun m => .ok (.val (.int m))
  | [.tup ds] => (rO (nums ds)).bind fun ns => (rO ns.min?).bind fun m => .ok (.val (.int m))
  | _ => .stuck
theorem q_max : QuietN bMax := fun ds => by
  unfold bMax
  split <;> first | exact quiet_s | exact quiet_v | exact quiet_r fun _ => quiet_r fun _ => quiet_v
theorem q_min : QuietN bMin := fun ds => by
  unfold bMin
  split <;> first | exact quiet_s | exact quiet_v | exact quiet_r fun _ => quiet_r fun _ => quiet_v
def rMax2 : List V → Hp → VK → Prop := fun xs H Q => ∃ i j, xs = [.int i, .int j] ∧ Q (.int (if j > i then j else i)) H
def rMin2 : List V → Hp → VK → Prop := fun xs H Q => ∃ i j, xs = [.int i, .int j] ∧ Q (.int (if j < i then j else i)) H
def rMaxT (K : PySem.W.Frag) : List V → Hp → VK → Prop := fun vs H Q => ∃ (a : Addr) (ns : List Int) (m : Int), vs = [V.ref a] ∧ SqT K H a (ns.map V.int) ∧ ns.max? = some m ∧ Q (.int m) H
def rMinT (K : PySem.W.Frag) : List V → Hp → VK → Prop := fun vs H Q => ∃ (a : Addr) (ns : List Int) (m : Int), vs = [V.ref a] ∧ SqT K H a (ns.map V.int) ∧ ns.min? = some m ∧ Q (.int m) H
theorem reads_ints {h : Heap} : ∀ {ns : List Int} {us : List Value}, Vals (ns.map V.int) us → PySem.ReadsAll h us (ns.map PyData.int) []
  | [], us, r => by cases r; exact .nil
  | n :: ns, us, r => by
    cases r with
    | cons r1 r2 =>
      obtain ⟨t, rfl⟩ := r1
      exact .cons (.int n t) (reads_ints r2)
theorem alike_intsD {ns : List Int} : PySem.W.AlikeAll (ns.map PyData.int) := ⟨fun x hx y hy => by
  obtain ⟨i, _, rfl⟩ := List.mem_map.mp hx
  obtain ⟨j, _, rfl⟩ := List.mem_map.mp hy
  rw [PySem.W.alike], fun x hx z => by
  obtain ⟨i, _, rfl⟩ := List.mem_map.mp hx
  cases z⟩
theorem max?_fold {n : Int} {ns : List Int} : (n :: ns).max? = some (ns.foldl max n) := rfl
theorem min?_fold {n : Int} {ns : List Int} : (n :: ns).min? = some (ns.foldl min n) := rfl
theorem reads_int_inv {h : Heap} {v : Value} {i : Int} {as : List Addr} (r : PySem.Reads h v (.int i) as) : ∃ t, v = .int i t := by
  cases r
  exact ⟨_, rfl⟩
theorem cr_maxT {X : Cx} (hc : X.calm = true) (hu : X.A.units + 64 < cLine) : CallR X (.builtin "max") (rMaxT X.K) := by
  intro pins s σ H vs us Q I r h
  obtain ⟨a, ns, m, rfl, hs, hm, q⟩ := h
  obtain ⟨its, rv, hl, _⟩ := I.tuple hs
  rw [Vals.ref1 r]
  cases ns with
  | nil => cases hm
  | cons n ns =>
    rw [max?_fold] at hm
    cases hm
    refine PySem.W.max_tuple_data (x := .int n) (xs := ns.map PyData.int) (I.ok.hd hc) hl (reads_ints rv) (alike_intsD (ns := n :: ns)) ?_ fun i v h' tk bs _ rd hk => ?_
    · rw [show PyData.int n :: ns.map PyData.int = (n :: ns).map PyData.int from rfl, PySem.W.depth_ints]
      omega
    · rw [PySem.W.maxD_ints] at rd
      obtain ⟨t, rfl⟩ := reads_int_inv rd
      exact ⟨.int _, H, I.kept hk, ⟨_, rfl⟩, q⟩
theorem cr_minT {X : Cx} (hc : X.calm = true) (hu : X.A.units + 64 < cLine) : CallR X (.builtin "min") (rMinT X.K) := by
  intro pins s σ H vs us Q I r h
  obtain ⟨a, ns, m, rfl, hs, hm, q⟩ := h
  obtain ⟨its, rv, hl, _⟩ := I.tuple hs
  rw [Vals.ref1 r]
  cases ns with
  | nil => cases hm
  | cons n ns =>
    rw [min?_fold] at hm
    cases hm
    refine PySem.W.min_tuple_data (x := .int n) (xs := ns.map PyData.int) (I.ok.hd hc) hl (reads_ints rv) (alike_intsD (ns := n :: ns)) ?_ fun i v h' tk bs _ rd hk => ?_
    · rw [show PyData.int n :: ns.map PyData.int = (n :: ns).map PyData.int from rfl, PySem.W.depth_ints]
      omega
    · rw [PySem.W.minD_ints] at rd
      obtain ⟨t, rfl⟩ := reads_int_inv rd
      exact ⟨.int _, H, I.kept hk, ⟨_, rfl⟩, q⟩
def rMaxA (K : PySem.W.Frag) : List V → Hp → VK → Prop := fun xs H Q => rMax2 xs H Q ∨ L2.rMax K xs H Q ∨ rMaxT K xs H Q
def rMinA (K : PySem.W.Frag) : List V → Hp → VK → Prop := fun xs H Q => rMin2 xs H Q ∨ L2.rMin K xs H Q ∨ rMinT K xs H Q
theorem cr_maxA {X : Cx} (hc : X.calm = true) (hu : X.A.units + 64 < cLine) : CallR X (.builtin "max") (rMaxA X.K) := CallR.or (call_max2 hc) (CallR.or (cr_max hc) (cr_maxT hc hu))
theorem cr_minA {X : Cx} (hc : X.calm = true) (hu : X.A.units + 64 < cLine) : CallR X (.builtin "min") (rMinA X.K) := CallR.or (call_min2 hc) (CallR.or (cr_min hc) (cr_minT hc hu))
theorem max?_of {ns : List Int} {m y : Int} (e : ns.max? = some m) (h1 : y ∈ ns) (h2 : ∀ z ∈ ns, z ≤ y) : y = m := by
  obtain ⟨a, b⟩ := List.max?_eq_some_iff.mp e
  exact Int.le_antisymm (b y h1) (h2 m a)
theorem min?_of {ns : List Int} {m y : Int} (e : ns.min? = some m) (h1 : y ∈ ns) (h2 : ∀ z ∈ ns, y ≤ z) : y = m := by
  obtain ⟨a, b⟩ := List.min?_eq_some_iff.mp e
  exact Int.le_antisymm (h2 m a) (b y h1)
theorem d_max {K : PySem.W.Frag} {mg : Str → Option Value} : RnD K mg (rMaxA K) bMax := fun S H xs ds Q z t hp e k => by
  unfold bMax at e
  split at e
  · cases e
    obtain ⟨x, y, rfl, p, q⟩ := topv2 hp
    rw [p.int, q.int]
    exact .inl ⟨_, _, rfl, k.pure (.int _)⟩
  · obtain ⟨ns, e1, e⟩ := o_ok e
    obtain ⟨m, e2, e⟩ := o_ok e
    cases e
    have := ints_eq e1
    subst this
    obtain ⟨x, rfl, p⟩ := topv1 hp
    obtain ⟨a, vs, rfl, h1, z1, r⟩ := p.sqL
    rw [r.ofInts] at h1
    refine .inr (.inl ⟨a, ns, rfl, .inl (.inl h1), ?_, fun y y1 y2 => ?_⟩)
    · cases ns with
      | nil => cases e2
      | cons n ns => exact Nat.succ_pos _
    · rw [max?_of e2 y1 y2]
      exact k.pure (.int _)
  · obtain ⟨ns, e1, e⟩ := o_ok e
    obtain ⟨m, e2, e⟩ := o_ok e
    cases e
    have := ints_eq e1
    subst this
    obtain ⟨x, rfl, p⟩ := topv1 hp
    obtain ⟨a, vs, rfl, h1, z1, r⟩ := p.sqT
    rw [r.ofInts] at h1
    exact .inr (.inr ⟨a, ns, m, rfl, h1, e2, k.pure (.int _)⟩)
  · cases e
theorem d_min {K : PySem.W.Frag} {mg : Str → Option Value} : RnD K mg (rMinA K) bMin := fun S H xs ds Q z t hp e k => by
  unfold bMin at e
  split at e
  · cases e
    obtain ⟨x, y, rfl, p, q⟩ := topv2 hp
    rw [p.int, q.int]
    exact .inl ⟨_, _, rfl, k.pure (.int _)⟩
  · obtain ⟨ns, e1, e⟩ := o_ok e
    obtain ⟨m, e2, e⟩ := o_ok e
    cases e
    have := ints_eq e1
    subst this
    obtain ⟨x, rfl, p⟩ := topv1 hp
    obtain ⟨a, vs, rfl, h1, z1, r⟩ := p.sqL
    rw [r.ofInts] at h1
    refine .inr (.inl ⟨a, ns, rfl, .inl (.inl h1), ?_, fun y y1 y2 => ?_⟩)
    · cases ns with
      | nil => cases e2
      | cons n ns => exact Nat.succ_pos _
    · rw [min?_of e2 y1 y2]
      exact k.pure (.int _)
  · obtain ⟨ns, e1, e⟩ := o_ok e
    obtain ⟨m, e2, e⟩ := o_ok e
    cases e
    have := ints_eq e1
    subst this
    obtain ⟨x, rfl, p⟩ := topv1 hp
    obtain ⟨a, vs, rfl, h1, z1, r⟩ := p.sqT
    rw [r.ofInts] at h1
    exact .inr (.inr ⟨a, ns, m, rfl, h1, e2, k.pure (.int _)⟩)
  · cases e
end Pu
namespace Pu
open PySem L2
open Classical

/-! ## isinstance -/
inductive Ty where
  | int | bool | str | tuple | list | dict
def Ty.nm : Ty → String
  | .int => "int" | .bool => "bool" | .str => "str" | .tuple => "tuple" | .list => "list" | .dict => "dict"
/-- is it of that type? own things: those of the classes cs alone -/
def isT (cs : List Str) : Ty → D → Option Bool
  | t, .ins c _ => if cs.contains c then some false else none
  | .int, .int _ => some true
  | .int, .bl _ => some true
  | .bool, .bl _ => some true
  | .str, .str _ => some true
  | .tuple, .tup _ => some true
  | .tuple, .tpl _ => some true
  | .list, .lst _ => some true
  | .list, .scr _ => some true
  | .dict, .dct _ _ => some true
  | _, _ => some false
def dIsi (cs : List Str) (t : Ty) (d : D) : Rs VD := (rO (isT cs t d)).bind fun b => .ok (.val (.bl b))
/-- what a class of its own must be -/
def OwnCls (K : PySem.W.Frag) (C : Addr) : Prop := Cls K C ∧ PySem.W.findIn K (.ref C) "__class__" = some (some (.builtin "object.__class__")) ∧ PySem.W.specialIn K (.builtin "object.__class__") "__get__" = some (some (.builtin "getset_descriptor.__get__")) ∧
  PySem.W.takesIn K (.builtin "object.__class__") = some true ∧ PySem.W.mroIn K C (.type "object") = some true
def OwnOk (K : PySem.W.Frag) (mg : Str → Option Value) (cs : List Str) : Prop := ∀ c ∈ cs, ∀ C, mg c = some (.ref C) → OwnCls K C ∧ ∀ t : Ty, PySem.W.kitOne K (.ref C) (.type t.nm) = some false
theorem ownOk_nil {K : PySem.W.Frag} {mg : Str → Option Value} : OwnOk K mg [] := fun _ h => nomatch h
section
variable {K : PySem.W.Frag} {mg : Str → Option Value} {S : Addr → Prop} {H : Hp}
theorem isT_ok {cs : List Str} (ho : OwnOk K mg cs) {v : V} {d : D} {t : Ty} {b : Bool} (h : Top K mg S H v d) (e : isT cs t d = some b) (nk : ∀ ds, d = .tup ds → ∃ a, v = V.ref a ∧ (TyX K H (.ref a) (.type "tuple"))) : ∃ tv, TyX K H v tv ∧ PySem.W.kitOne K tv (.type t.nm) = some b := by
  cases d with
  | non =>
    rw [h.non]
    refine ⟨_, .base .non, ?_⟩
    cases t <;> cases e <;> exact kit_ty (by decide +kernel)
  | bl x =>
    rw [h.bl]
    refine ⟨_, .base (.bl x), ?_⟩
    cases t <;> cases e <;> exact kit_ty (by decide +kernel)
  | int x =>
    rw [h.int]
    refine ⟨_, .base (.int x), ?_⟩
    cases t <;> cases e <;> exact kit_ty (by decide +kernel)
  | str x =>
    rw [h.str]
    refine ⟨_, .base (.str x), ?_⟩
    cases t <;> cases e <;> exact kit_ty (by decide +kernel)
  | tup ds =>
    obtain ⟨a, rfl, ty⟩ := nk ds rfl
    refine ⟨_, ty, ?_⟩
    cases t <;> cases e <;> exact kit_ty (by decide +kernel)
  | lst ds =>
    obtain ⟨a, vs, rfl, h1, z1, r⟩ := h.sqL
    refine ⟨_, .base (.lst h1), ?_⟩
    cases t <;> cases e <;> exact kit_ty (by decide +kernel)
  | tpl ns =>
    obtain ⟨a, o, rfl, h1, _⟩ := h.tpl
    refine ⟨_, .fTuple h1, ?_⟩
    cases t <;> cases e <;> exact kit_ty (by decide +kernel)
  | scr ns =>
    obtain ⟨a, rfl, h1, z1⟩ := h.scr
    have ty : TyX K H (.ref a) (.type "list") := by
      rcases h1 with (h1 | ⟨o, h1⟩) | ⟨o, its, n, h1, h2, _⟩
      · exact .base (.lst h1)
      · exact .base (.frz h1)
      · exact .kList h1 h2
    refine ⟨_, ty, ?_⟩
    cases t <;> cases e <;> exact kit_ty (by decide +kernel)
  | dct tt kvs =>
    have h1 : ∃ a, v = .ref a ∧ ((∃ l, H a = some (.dK l)) ∨ ∃ l, H a = some (.dT l)) := by
      rcases h with h | ⟨p, rfl, h⟩
      · cases h with
        | dK s h0 z g q => exact ⟨_, rfl, .inl ⟨_, h0⟩⟩
        | dT s h0 z g q => exact ⟨_, rfl, .inr ⟨_, h0⟩⟩
      · cases h with
        | dK h0 z g q => exact ⟨_, rfl, .inl ⟨_, h0⟩⟩
        | dT h0 z g q => exact ⟨_, rfl, .inr ⟨_, h0⟩⟩
    obtain ⟨a, rfl, ⟨l, h1⟩ | ⟨l, h1⟩⟩ := h1
    · refine ⟨_, .base (.dK h1), ?_⟩
      cases t <;> cases e <;> exact kit_ty (by decide +kernel)
    · refine ⟨_, .base (.dT h1), ?_⟩
      cases t <;> cases e <;> exact kit_ty (by decide +kernel)
  | ins c fs =>
    have h1 : ∃ a C dx l, v = .ref a ∧ H a = some (.ins C dx l) ∧ mg c = some (.ref C) := by
      rcases h with h | ⟨p, rfl, h⟩
      · cases h with
        | ins s e m g q => exact ⟨_, _, _, _, rfl, e, m⟩
      · cases h with
        | ins e m g q => exact ⟨_, _, _, _, rfl, e, m⟩
    obtain ⟨a, C, dx, l, rfl, h1, hm⟩ := h1
    have e' : (if cs.contains c then some false else none) = some b := by cases t <;> exact e
    by_cases hc : cs.contains c = true
    · rw [if_pos hc] at e'
      cases e'
      obtain ⟨⟨h2, h3, h4, h5, h6⟩, h7⟩ := ho c (by simpa using hc) C hm
      exact ⟨_, .base (.ins h1 h2 h3 h4 h5 h6), h7 t⟩
    · rw [if_neg hc] at e'
      cases e'
/-- a tuple's type -/
theorem sqT_ty {a : Addr} {xs : List V} (h : SqT K H a xs) : TyX K H (.ref a) (.type "tuple") := by
  rcases h with (h | ⟨o, h⟩) | ⟨o, its, n, h1, h2, _⟩
  · exact .base (.tup h)
  · exact .fTuple h
  · exact .kTuple h1 h2
theorem isT_ok2 {cs : List Str} (ho : OwnOk K mg cs) {v : V} {d : D} {t : Ty} {b : Bool} (h : Top K mg S H v d) (e : isT cs t d = some b) : ∃ tv, TyX K H v tv ∧ PySem.W.kitOne K tv (.type t.nm) = some b :=
  isT_ok ho h e fun ds z => by
    subst z
    obtain ⟨a, vs, rfl, h1, _⟩ := h.sqT
    exact ⟨a, rfl, sqT_ty h1⟩
end
theorem q_isi {cs : List Str} {t : Ty} : Quiet1 (dIsi cs t) := fun d => quiet_r fun _ => quiet_v
theorem se_isi {X : Cx} {C : FC} {e : Expr} {f : DE} {x : Str} {t : Ty} {cs : List Str} {pos p p2 : Pos} (ho : OwnOk X.K X.mg cs) (he : SE X C e f) (hm1 : X.mg "isinstance" = none) (hv1 : bootBuiltins "isinstance" = some (.builtin "isinstance")) (hm : X.mg x = none) (hv : bootBuiltins x = some (.type t.nm))
    (hg1 : Gl X "isinstance" := by rfl) (hg : Gl X x := by rfl) (hn : x ≠ "__name__" := by decide) (hdb : (x == ("__debug__" : Str)) = false := by decide)
    (hs : starEach [e, .Name x p2] X.env = (false, eval e X.env) :: starEach [.Name x p2] X.env := by rfl) (hs2 : starEach [.Name x p2] X.env = (false, eval (.Name x p2) X.env) :: starEach [] X.env := by rfl) (hpl : (backTo pos (starEach [.Name x p2] X.env)).any (·.1) = false := by rfl) :
    SE X C (.Call (.Name "isinstance" p) [e, .Name x p2] [] pos) (eUn (dIsi cs t) f) := by
  refine pe_imp (pe_callB call_isi hg1 hm1 hv1 (pa_cons he (pa_cons (pe_bltn (v := .ty t.nm) hg hm hv rfl hn hdb) pa_nil hs2) hs) (by decide) (by decide) hs hpl) ?_
  rintro σ H Q ⟨ρ, T, h, P⟩
  refine ⟨ρ, T, h, gv_dt h P fun d T' v H1 h1 e1 p P1 => ?_⟩
  obtain ⟨z, ez, P3⟩ := lift_ex (q_isi d) h1 (post_from h1 e1 P1)
  obtain ⟨b, eb, ez⟩ := o_ok ez
  cases ez
  obtain ⟨tv, ty, kt⟩ := isT_ok2 ho p.top eb
  exact ⟨v, .ty t.nm, tv, .type t.nm, b, rfl, .ty _, ty, kt, P3.pure (.bl b)⟩

/-! ## sorted -/
theorem eachIs_of {R : Value → V × D → Prop} : ∀ {us : List Value} {vs : List V} {ds : List D}, Vals vs us → vs.length = ds.length → (∀ (i : Nat) (u : Value) (v : V) (d : D), us[i]? = some u → vs[i]? = some v → ds[i]? = some d → RelV v u → R u (v, d)) → PySem.W.EachIs R us (vs.zip ds)
  | _, _, [], .nil, _, _ => .nil
  | _, _, [], .cons _ _, e, _ => by cases e
  | _, _, d :: ds, .nil, e, _ => by cases e
  | _, _, d :: ds, .cons r t, e, h => .cons (h 0 _ _ _ rfl rfl rfl r) (eachIs_of t (by simpa using e) fun i u v d e1 e2 e3 => h (i + 1) u v d (by simpa using e1) (by simpa using e2) (by simpa using e3))
theorem each_vals {R : Value → V × D → Prop} (hR : ∀ u p, R u p → RelV p.1 u) : ∀ {us : List Value} {l : List (V × D)}, PySem.W.EachIs R us l → Vals (l.map (·.1)) us
  | _, _, .nil => .nil
  | _, _, .cons h t => .cons (hR _ _ h) (each_vals hR t)
section
variable {K : PySem.W.Frag} {mg : Str → Option Value} {S : Addr → Prop} {H : Hp}
theorem reps_zip {l : List (V × D)} (h : ∀ p ∈ l, Rep K mg S H p.1 p.2) : Reps K mg S H (l.map (·.1)) (l.map (·.2)) := by
  induction l with
  | nil => exact .nil
  | cons p l ih => exact .cons (h p List.mem_cons_self) (ih fun q z => h q (List.mem_cons_of_mem _ z))
theorem Reps.zip : ∀ {vs : List V} {ds : List D}, Reps K mg S H vs ds → ∀ p ∈ vs.zip ds, Rep K mg S H p.1 p.2
  | _, _, .nil, p, h => nomatch h
  | _, _, .cons a t, p, h => by
    rcases List.mem_cons.mp h with e | h
    · rw [e]; exact a
    · exact t.zip p h
end
def srtd (ds : List D) : List D := ds.mergeSort (PySem.W.dataLe false py)
def SrtOk (ds : List D) : Prop := (∀ d ∈ ds, Pl 30 d) ∧ PySem.W.AllAlike (ds.map py) ∧ PySem.W.Sortable (ds.map py)
def rSortedD (K : PySem.W.Frag) (mg : Str → Option Value) : List V → Hp → VK → Prop := fun xs H Q => ∃ (S : Addr → Prop) (a : Addr) (vs : List V) (ds : List D), xs = [.ref a] ∧ H a = some (.lst vs) ∧ vs.length ≤ sizeLine ∧ Reps K mg S H vs ds ∧ SrtOk ds ∧ ∀ l ws, H l = none → ws.length ≤ sizeLine → Reps K mg S H ws (srtd ds) → Q (.ref l) (upd H l (.lst ws))
theorem zip_snd {A B : Type} : ∀ {xs : List A} {ys : List B}, xs.length = ys.length → (xs.zip ys).map (·.2) = ys
  | [], [], _ => rfl
  | x :: xs, y :: ys, h => by rw [List.zip_cons_cons, List.map_cons, zip_snd (by simpa using h)]
theorem merge_zip {l : List (V × D)} : (l.mergeSort (PySem.W.dataLe false fun p => py p.2)).map (·.2) = srtd (l.map (·.2)) := by
  unfold srtd
  exact List.map_mergeSort fun a _ b _ => rfl
theorem cr_sortedD {X : Cx} (hu : X.A.units + 64 < cLine) : CallR X (.builtin "sorted") (rSortedD X.K X.mg) := by
  intro pins s σ H xs us Q I r h
  obtain ⟨S, a, vs, ds, rfl, hs, hz, rp, ⟨hp, h1, h2⟩, q⟩ := h
  obtain ⟨its, rv, hl, _⟩ := I.list (.of hs)
  rw [Vals.ref1 r]
  have hlen := rp.len
  have hlv := rv.length
  have hzs : (vs.zip ds).map (·.2) = ds := zip_snd hlen
  have henc : (vs.zip ds).map (fun p => py p.2) = ds.map py := by
    conv => rhs; rw [← hzs]
    rw [List.map_map]
    rfl
  refine PySem.W.sorted_data (R := fun u (p : V × D) => RelV p.1 u ∧ p ∈ vs.zip ds) (enc := fun p => py p.2) (bs := vs.zip ds) hl.isList ?_ ?_ (by rw [henc]; exact h1) (by rw [henc]; exact h2) ?_ ?_ ?_
  · refine eachIs_of rv hlen fun i u v d e1 e2 e3 rr => ⟨rr, ?_⟩
    exact List.mem_of_getElem? (i := i) (List.getElem?_zip_eq_some.mpr ⟨e2, e3⟩)
  · refine eachIs_of rv hlen fun i u v d e1 e2 e3 rr => ?_
    obtain ⟨d', e4, p⟩ := rp.get e2
    rw [e3] at e4
    cases e4
    exact p.reads I 30 u (hp d (List.mem_of_getElem? e3)) rr
  · rw [List.length_zip, ← hlen, Nat.min_self]
    exact hz
  · intro b hb
    have := (pl_py 30 b.2 (hp b.2 (by rw [← hzs]; exact List.mem_map_of_mem hb))).2
    show X.A.units + 2 + (py b.2).depth < cLine
    omega
  · intro out ho he
    obtain ⟨ep, he'⟩ := PyProof.Rows.sortedAll_at s.heap its out.toArray
    have hz2 : ((vs.zip ds).mergeSort (PySem.W.dataLe false fun p => py p.2)).length = vs.length := by
      rw [List.length_mergeSort, List.length_zip, ← hlen, Nat.min_self]
    have hval := each_vals (fun u p z => z.1) he
    have hlen2 : (((vs.zip ds).mergeSort (PySem.W.dataLe false fun p => py p.2)).map (·.1)).length ≤ sizeLine := by
      rw [List.length_map, hz2]
      exact hz
    refine ⟨.ref _, upd H (s.heap.objs.size + 1) (.lst (((vs.zip ds).mergeSort (PySem.W.dataLe false fun p => py p.2)).map (·.1))), I.laid (t' := s.toks) (fun _ _ => PyProof.Rows.sortedAll_old) (Nat.le_succ _) ⟨hlen2, out, ep, hval, he'⟩, rfl, q _ _ (I.hok.fresh (Nat.le_succ _)) hlen2 ?_⟩
    have hr := reps_zip (K := X.K) (mg := X.mg) (S := S) (H := H) (l := (vs.zip ds).mergeSort (PySem.W.dataLe false fun p => py p.2)) fun p hpm => rp.zip p ((List.mergeSort_perm _ _).mem_iff.mp hpm)
    rw [merge_zip, hzs] at hr
    exact hr
noncomputable def bSorted : List D → Rs VD
  | [.lst ds] => if SrtOk ds then .ok (.own (.lst (srtd ds))) else .stuck
  | _ => .stuck
theorem q_sorted : QuietN bSorted := fun ds => by
  unfold bSorted
  split <;> first | exact quiet_s | exact quiet_if quiet_o quiet_s
theorem d_sorted {K : PySem.W.Frag} {mg : Str → Option Value} : RnD K mg (rSortedD K mg) bSorted := fun S H xs ds Q z t hp e k => by
  unfold bSorted at e
  split at e
  · obtain ⟨c, rfl⟩ := if_ok e
    obtain ⟨x, rfl, p⟩ := topv1 hp
    obtain ⟨a, vs, rfl, h1, z1, r⟩ := p.sqL
    exact ⟨S, a, vs, _, rfl, h1, z1, r, c, fun l ws hl hw rw => k.newL hl hw rw⟩
  · cases e
end Pu
namespace Pu
open PySem L2
open Classical

/-! ## what a slot owns is changed -/
section
variable {K : PySem.W.Frag} {mg : Str → Option Value} {C : FC} {r : Env} {T : Tp} {σ : L2.St} {H H' : Hp} {i : Nat} {p : Addr} {d d' : D}
theorem ss_own (e : r[i]? = some (some (.own d))) (a : Addr) : SS C Z0 (r.set i (some (.own d'))) σ a ↔ SS C Z0 r σ a := by
  constructor
  · rintro (z | z | ⟨j, u, z1, z2⟩ | z)
    · exact .inl z
    · exact .inr (.inl z)
    · rcases set_at z1 with ⟨ej, q⟩ | ⟨ne, q⟩
      · subst ej
        exact .inr (.inr (.inl ⟨_, _, e, z2⟩))
      · exact .inr (.inr (.inl ⟨j, u, q, z2⟩))
    · exact z.elim
  · rintro (z | z | ⟨j, u, z1, z2⟩ | z)
    · exact .inl z
    · exact .inr (.inl z)
    · by_cases ej : j = i
      · subst ej
        exact .inr (.inr (.inl ⟨_, d', by rw [List.getElem?_set_self (lt_of_get z1)], z2⟩))
      · exact .inr (.inr (.inl ⟨j, u, by rw [List.getElem?_set_ne (Ne.symm ej)]; exact z1, z2⟩))
    · exact z.elim
theorem Holds.upd (h : Holds K mg C Z0 r T σ H) (e : r[i]? = some (some (.own d))) (es : σ[i]? = some (some (.ref p))) (k : ∀ a o, a ≠ p → H a = some o → H' a = some o) (o : OwnAt K mg (SS C Z0 r σ) H' p d') : Holds K mg C Z0 (r.set i (some (.own d'))) T σ H' := by
  obtain ⟨p', ep, _, g1, g2, _, g4⟩ := h.own i d e
  rw [es] at ep
  cases ep
  have sp : SS C Z0 r σ p := .inr (.inr (.inl ⟨i, d, e, es⟩))
  have kk : ∀ a o, H a = some o → ¬ SS C Z0 r σ a → H' a = some o := fun a o q s => k a o (fun z => s (by rw [z]; exact sp)) q
  have n1 : ∀ (H : Hp) a o, H a = some o → ¬ SS C Z0 r σ a → ¬ SS C Z0 (r.set i (some (.own d'))) σ a := fun _ a _ _ s z => s ((ss_own e a).mp z)
  have om := o.there
  have ke : ∀ a o, H a = some o → Mut (some o) → ∃ o', H' a = some o' ∧ Mut (some o') := fun a o q m => by
    by_cases z : a = p
    · rw [z]
      exact om
    · exact ⟨o, k a o z q, m⟩
  refine ⟨by rw [List.length_set]; exact h.len, fun a o q z => ?_, fun j u q => ?_, fun j u q => ?_, fun j l a u w q1 q2 q3 q4 => ?_, ?_, fun j q => ?_, fun a s => ?_, fun _ z => z.elim, fun q hq => (h.pin q hq).go kk (n1 H)⟩
  · refine k a o (fun w => ?_) (h.frame a o q z)
    rw [w, g1] at q
    cases q
  · rcases set_at q with ⟨_, q⟩ | ⟨ne, q⟩
    · cases q
    · obtain ⟨v, e1, q1⟩ := h.val j u q
      exact ⟨v, e1, q1.go kk (n1 H)⟩
  · rcases set_at q with ⟨ej, q⟩ | ⟨ne, q⟩
    · cases q
      subst ej
      exact ⟨p, es, o.go (fun _ e => e) (fun _ _ e _ => e) (n1 H'), g1, g2, fun z => z, g4⟩
    · obtain ⟨v, e1, o2, w⟩ := h.own j u q
      refine ⟨v, e1, o2.go (fun o z => k v o (fun z2 => ?_) z) kk (n1 H), w⟩
      subst z2
      exact ne (h.inj j i v u d q e e1 es)
  · have q1' : ∃ u, r[j]? = some (some (.own u)) := by
      rcases set_at q1 with ⟨ej, q⟩ | ⟨ne, q⟩
      · subst ej
        exact ⟨_, e⟩
      · exact ⟨_, q⟩
    have q2' : ∃ u, r[l]? = some (some (.own u)) := by
      rcases set_at q2 with ⟨ej, q⟩ | ⟨ne, q⟩
      · subst ej
        exact ⟨_, e⟩
      · exact ⟨_, q⟩
    obtain ⟨_, q1'⟩ := q1'
    obtain ⟨_, q2'⟩ := q2'
    exact h.inj j l a _ _ q1' q2' q3 q4
  · have t := h.tape
    unfold TapeOk at t ⊢
    cases hc : C.tp with
    | none =>
      rw [hc] at t
      exact t
    | some u =>
      rw [hc] at t
      obtain ⟨t, e1, o2⟩ := t
      exact ⟨t, e1, o2.go (fun o z => k u o (fun z2 => g2 (by rw [← z2]; exact hc)) z) kk (n1 H)⟩
  · rcases set_at q with ⟨ej, q⟩ | ⟨ne, q⟩
    · cases q
    · exact h.tslot j q
  · obtain ⟨o1, q, m⟩ := h.st a s
    exact ke a o1 q m
end

/-! ## expressions that change what slots own -/
abbrev DEm := Env → Tp → Rs (D × Env × Tp)
def GM (K : PySem.W.Frag) (mg : Str → Option Value) (C : FC) (σ : L2.St) (Q : VK) : D × Env × Tp → Prop := fun q => ∀ v H', Holds K mg C Z0 q.2.1 q.2.2 σ H' → Rep K mg (SS C Z0 q.2.1 σ) H' v q.1 → Q v H'
def tM (K : PySem.W.Frag) (mg : Str → Option Value) (C : FC) (f : DEm) : TE := fun σ H Q => ∃ r T, Holds K mg C Z0 r T σ H ∧ PostG K mg C σ (GM K mg C σ Q) (f r T)
abbrev SM (X : Cx) (C : FC) (e : Expr) (f : DEm) : Prop := PE X e (tM X.K X.mg C f)
/-- a method that changes: by values -/
def MtD (K : PySem.W.Frag) (mg : Str → Option Value) (r : V → List V → Hp → VK → Prop) (mo : D → List D → Option (D × D)) : Prop :=
  ∀ (S : Addr → Prop) (H : Hp) (p : Addr) (d : D) (vs : List V) (ds : List D) (Q : VK) (d' z : D), S p → OwnAt K mg S H p d → Reps K mg S H vs ds → mo d ds = some (d', z) →
    (∀ v H', (∀ a o, a ≠ p → H a = some o → H' a = some o) → OwnAt K mg S H' p d' → Rep K mg S H' v z → Q v H') → r (.ref p) vs H Q
def MtDt (K : PySem.W.Frag) (mg : Str → Option Value) (r : V → List V → Hp → VK → Prop) (mo : D → List D → Option (D × D)) : Prop :=
  ∀ (S : Addr → Prop) (H : Hp) (p : Addr) (d : D) (vs : List V) (ds : List D) (Q : VK) (d' z : D), S p → OwnAt K mg S H p d → Tops K mg S H vs ds → mo d ds = some (d', z) →
    (∀ v H', (∀ a o, a ≠ p → H a = some o → H' a = some o) → OwnAt K mg S H' p d' → Rep K mg S H' v z → Q v H') → r (.ref p) vs H Q
/-- what kind of thing -/
def isLst : D → Bool
  | .lst _ => true
  | _ => false
def isDct : D → Bool
  | .dct _ _ => true
  | _ => false
@[simp] theorem isLst_lst (ds : List D) : isLst (.lst ds) = true := rfl
@[simp] theorem isDct_dct (t : Bool) (ds : List (D × D)) : isDct (.dct t ds) = true := rfl
def KindOk (K : PySem.W.Frag) (mg : Str → Option Value) (T : String) (is : D → Bool) : Prop := ∀ S H p d, OwnAt K mg S H p d → is d = true → tyV K T (.ref p) H
theorem kind_lst {K : PySem.W.Frag} {mg : Str → Option Value} : KindOk K mg "list" isLst := fun S H p d o e => by
  cases o with
  | lst h z q => exact .inl ⟨rfl, _, .inl (.of h)⟩
  | dK h z g q => cases e
  | dT h z g q => cases e
  | ins h m g q => cases e
theorem kind_dct {K : PySem.W.Frag} {mg : Str → Option Value} : KindOk K mg "dict" isDct := fun S H p d o e => by
  cases o with
  | lst h z q => cases e
  | dK h z g q => exact .inr (.inr (.inl ⟨rfl, .inl ⟨_, h⟩⟩))
  | dT h z g q => exact .inr (.inr (.inl ⟨rfl, .inr ⟨_, h⟩⟩))
  | ins h m g q => cases e
def eMut (i : Nat) (is : D → Bool) (mo : D → List D → Option (D × D)) (g : DA) : DEm := fun r T => match r[i]? with
  | some (some (.own d)) => if is d = true then (g r T).bind fun p => (rO (mo d p.1)).bind fun q => .ok (q.2, r.set i (some (.own q.1)), p.2) else .stuck
  | _ => .stuck
/-- .. of one argument that changes too -/
def eMutM (i : Nat) (is : D → Bool) (mo : D → List D → Option (D × D)) (f : DEm) : DEm := fun r T => match r[i]? with
  | some (some (.own d)) => if is d = true then (f r T).bind fun p => (match p.2.1[i]? with
    | some (some (.own d2)) => (rO (mo d2 [p.1])).bind fun q => .ok (q.2, p.2.1.set i (some (.own q.1)), p.2.2)
    | _ => .stuck) else .stuck
  | _ => .stuck
theorem rO_ex {A B : Type} {K : PySem.W.Frag} {mg : Str → Option Value} {C : FC} {σ : L2.St} {G : B → Prop} {o : Option A} {g : A → Rs B} (h : PostG K mg C σ G ((rO o).bind g)) : ∃ a, o = some a ∧ PostG K mg C σ G (g a) := by
  cases o with
  | none => exact (show False from h).elim
  | some a => exact ⟨a, rfl, h⟩
theorem own_ex {B : Type} {K : PySem.W.Frag} {mg : Str → Option Value} {C : FC} {σ : L2.St} {G : B → Prop} {o : Option (Option VD)} {g : D → Rs B} (h : PostG K mg C σ G (match o with
    | some (some (.own d)) => g d
    | _ => .stuck)) : ∃ d, o = some (some (.own d)) ∧ PostG K mg C σ G (g d) := by
  cases o with
  | none => exact (show False from h).elim
  | some w =>
    cases w with
    | none => exact (show False from h).elim
    | some w =>
      cases w with
      | own d => exact ⟨d, rfl, h⟩
      | _ => exact (show False from h).elim
section
variable {X : Cx} {C : FC} {e : Expr} {es : List Expr} {x : Str} {g : DA} {is : D → Bool} {mo : D → List D → Option (D × D)} {r : V → List V → Hp → VK → Prop} {T id : String} {name : Str} {apos cpos p : Pos} {f : DEm}
theorem mut_end {K : PySem.W.Frag} {mg : Str → Option Value} {C : FC} {ρ : Env} {T : Tp} {σ : L2.St} {H : Hp} {i : Nat} {q : Addr} {d : D} {vs : List V} {Q : VK} (h1 : Holds K mg C Z0 ρ T σ H) (ei : ρ[i]? = some (some (.own d))) (es : σ[i]? = some (some (.ref q)))
    {d' z : D} (P3 : GM K mg C σ Q (z, ρ.set i (some (.own d')), T)) : ∀ v H', (∀ a o, a ≠ q → H a = some o → H' a = some o) → OwnAt K mg (SS C Z0 ρ σ) H' q d' → Rep K mg (SS C Z0 ρ σ) H' v z → Q v H' := fun v H' k o p =>
  P3 v H' (h1.upd ei es k o) (p.go (fun _ _ e _ => e) fun a _ _ s w => s ((ss_own ei a).mp w))
theorem se_mut (i : Nat) (hk : KindOk X.K X.mg T is) (hd : MtD X.K X.mg r mo) (pa : PlainAttrs T) (slot : Slot T name id) (hty : typeOf (.builtin id) = pure (.type "method_descriptor")) (hm : MtR X id r) (ha : SA X C (e :: es) g)
    (hN : X.N[i]? = some x := by rfl) (hv : Vis X.env.scope x := by first | exact Or.inl rfl | exact Or.inr (Or.inl rfl) | exact Or.inr (Or.inr rfl)) (hdb : (x == ("__debug__" : Str)) = false := by decide) (hcd : (x == ("__classdict__" : Str)) = false := by decide)
    (hbase : attributeBase (.Name x p) name X.env (eval (.Name x p) X.env) = eval (.Name x p) X.env := by rfl)
    (hfew : ((backTo cpos (starEach (e :: es) X.env)).all (fun x => !x.1) && (backToKw cpos (keywordEach [] X.env)).all (fun x => x.1.isSome)
      && decide ((e :: es).length + ([] : List Keyword).length + (if ([] : List Keyword).isEmpty then 0 else 1) < 30)) = true := by rfl)
    (hline : (apos.endLine == cpos.line) = true := by rfl) (hs : starEach (e :: es) X.env = (false, eval e X.env) :: starEach es X.env := by rfl) (hplain : (backTo cpos (starEach es X.env)).any (·.1) = false := by rfl) :
    SM X C (.Call (.Attribute (.Name x p) name apos) (e :: es) [] cpos) (eMut i is mo g) := by
  refine pe_imp (pe_bm pa slot hty hm (pe_var hN hv hdb hcd) ha hbase hfew hline hs hplain) ?_
  rintro σ H Q ⟨ρ, T, h, P⟩
  unfold eMut at P
  obtain ⟨d, ei, P⟩ := own_ex P
  obtain ⟨hi, P⟩ := postG_if P
  obtain ⟨q, es, o, _⟩ := h.own i d ei
  refine ⟨_, es, hk _ _ _ _ o hi, ρ, T, h, ga_bind P fun ds T' vs H1 h1 e1 p1 P1 => ?_⟩
  obtain ⟨⟨d', z⟩, em, P2⟩ := rO_ex P1
  obtain ⟨q', es', o1, _⟩ := h1.own i d ei
  rw [es] at es'
  cases es'
  exact hd _ H1 q d vs ds Q d' z (.inr (.inr (.inl ⟨i, d, ei, es⟩))) o1 p1 em (mut_end (vs := vs) h1 ei es P2)
theorem se_mutT (i : Nat) (hk : KindOk X.K X.mg T is) (hd : MtDt X.K X.mg r mo) (pa : PlainAttrs T) (slot : Slot T name id) (hty : typeOf (.builtin id) = pure (.type "method_descriptor")) (hm : MtR X id r) (ha : SAt X C (e :: es) g)
    (hN : X.N[i]? = some x := by rfl) (hv : Vis X.env.scope x := by first | exact Or.inl rfl | exact Or.inr (Or.inl rfl) | exact Or.inr (Or.inr rfl)) (hdb : (x == ("__debug__" : Str)) = false := by decide) (hcd : (x == ("__classdict__" : Str)) = false := by decide)
    (hbase : attributeBase (.Name x p) name X.env (eval (.Name x p) X.env) = eval (.Name x p) X.env := by rfl)
    (hfew : ((backTo cpos (starEach (e :: es) X.env)).all (fun x => !x.1) && (backToKw cpos (keywordEach [] X.env)).all (fun x => x.1.isSome)
      && decide ((e :: es).length + ([] : List Keyword).length + (if ([] : List Keyword).isEmpty then 0 else 1) < 30)) = true := by rfl)
    (hline : (apos.endLine == cpos.line) = true := by rfl) (hs : starEach (e :: es) X.env = (false, eval e X.env) :: starEach es X.env := by rfl) (hplain : (backTo cpos (starEach es X.env)).any (·.1) = false := by rfl) :
    SM X C (.Call (.Attribute (.Name x p) name apos) (e :: es) [] cpos) (eMut i is mo g) := by
  refine pe_imp (pe_bm pa slot hty hm (pe_var hN hv hdb hcd) ha hbase hfew hline hs hplain) ?_
  rintro σ H Q ⟨ρ, T, h, P⟩
  unfold eMut at P
  obtain ⟨d, ei, P⟩ := own_ex P
  obtain ⟨hi, P⟩ := postG_if P
  obtain ⟨q, es, o, _⟩ := h.own i d ei
  refine ⟨_, es, hk _ _ _ _ o hi, ρ, T, h, gb_bind P fun ds T' vs H1 h1 e1 p1 P1 => ?_⟩
  obtain ⟨⟨d', z⟩, em, P2⟩ := rO_ex P1
  obtain ⟨q', es', o1, _⟩ := h1.own i d ei
  rw [es] at es'
  cases es'
  exact hd _ H1 q d vs ds Q d' z (.inr (.inr (.inl ⟨i, d, ei, es⟩))) o1 p1.tops em (mut_end (vs := vs) h1 ei es P2)
/-- .. without arguments -/
theorem se_mut0 (i : Nat) (hk : KindOk X.K X.mg T is) (hd : MtD X.K X.mg r mo) (pa : PlainAttrs T) (slot : Slot T name id) (hty : typeOf (.builtin id) = pure (.type "method_descriptor")) (hm : MtR X id r)
    (hN : X.N[i]? = some x := by rfl) (hv : Vis X.env.scope x := by first | exact Or.inl rfl | exact Or.inr (Or.inl rfl) | exact Or.inr (Or.inr rfl)) (hdb : (x == ("__debug__" : Str)) = false := by decide) (hcd : (x == ("__classdict__" : Str)) = false := by decide)
    (hbase : attributeBase (.Name x p) name X.env (eval (.Name x p) X.env) = eval (.Name x p) X.env := by rfl) (hline : (apos.endLine == cpos.line) = true := by rfl) :
    SM X C (.Call (.Attribute (.Name x p) name apos) [] [] cpos) (eMut i is mo aNil) := by
  refine pe_imp (pe_bm0 pa slot hty hm (pe_var hN hv hdb hcd) hbase hline) ?_
  rintro σ H Q ⟨ρ, T, h, P⟩
  unfold eMut at P
  obtain ⟨d, ei, P⟩ := own_ex P
  obtain ⟨hi, P⟩ := postG_if P
  obtain ⟨q, es, o, _⟩ := h.own i d ei
  refine ⟨_, es, hk _ _ _ _ o hi, ?_⟩
  obtain ⟨⟨d', z⟩, em, P2⟩ := rO_ex (show PostG X.K X.mg C σ (GM X.K X.mg C σ Q) ((rO (mo d [])).bind fun q => .ok (q.2, ρ.set i (some (.own q.1)), T)) from P)
  exact hd _ H q d [] [] Q d' z (.inr (.inr (.inl ⟨i, d, ei, es⟩))) o .nil em (mut_end (vs := []) h ei es P2)
theorem se_mutM (i : Nat) (hk : KindOk X.K X.mg T is) (hd : MtD X.K X.mg r mo) (pa : PlainAttrs T) (slot : Slot T name id) (hty : typeOf (.builtin id) = pure (.type "method_descriptor")) (hm : MtR X id r) (ha : SM X C e f)
    (hN : X.N[i]? = some x := by rfl) (hv : Vis X.env.scope x := by first | exact Or.inl rfl | exact Or.inr (Or.inl rfl) | exact Or.inr (Or.inr rfl)) (hdb : (x == ("__debug__" : Str)) = false := by decide) (hcd : (x == ("__classdict__" : Str)) = false := by decide)
    (hbase : attributeBase (.Name x p) name X.env (eval (.Name x p) X.env) = eval (.Name x p) X.env := by rfl)
    (hfew : ((backTo cpos (starEach [e] X.env)).all (fun x => !x.1) && (backToKw cpos (keywordEach [] X.env)).all (fun x => x.1.isSome)
      && decide ([e].length + ([] : List Keyword).length + (if ([] : List Keyword).isEmpty then 0 else 1) < 30)) = true := by rfl)
    (hline : (apos.endLine == cpos.line) = true := by rfl) (hs : starEach [e] X.env = (false, eval e X.env) :: starEach [] X.env := by rfl) (hplain : (backTo cpos (starEach [] X.env)).any (·.1) = false := by rfl) :
    SM X C (.Call (.Attribute (.Name x p) name apos) [e] [] cpos) (eMutM i is mo f) := by
  refine pe_imp (pe_bm pa slot hty hm (pe_var hN hv hdb hcd) (pa_cons ha pa_nil hs) hbase hfew hline hs hplain) ?_
  rintro σ H Q ⟨ρ, T, h, P⟩
  unfold eMutM at P
  obtain ⟨d, ei, P⟩ := own_ex P
  obtain ⟨hi, P⟩ := postG_if P
  obtain ⟨q, es, o, _⟩ := h.own i d ei
  refine ⟨_, es, hk _ _ _ _ o hi, ρ, T, h, P.bind.imp fun z P v H1 h1 p1 => ?_⟩
  obtain ⟨z, r1, T1⟩ := z
  obtain ⟨d2, ei2, P⟩ := own_ex P
  obtain ⟨⟨d', y⟩, em, P2⟩ := rO_ex P
  obtain ⟨q', es', o1, _⟩ := h1.own i d2 ei2
  rw [es] at es'
  cases es'
  exact hd _ H1 q d2 [v] [z] Q d' y (.inr (.inr (.inl ⟨i, d2, ei2, es⟩))) o1 (.cons p1 .nil) em (mut_end (vs := [v]) h1 ei2 es P2)
end

/-! ## statements of such -/
def sDropM (f : DEm) : DS := fun r T => (f r T).bind fun p => .ok (.nx p.2.1, p.2.2)
def sAsgM (i : Nat) (f : DEm) : DS := fun r T => (f r T).bind fun p => .ok (.nx (p.2.1.set i (some (.val p.1))), p.2.2)
def sAsgMG (g : DG) (f : DEm) : DS := fun r T => (f r T).bind fun p => (rO (g p.1)).bind fun m => .ok (.nx (setE p.2.1 m), p.2.2)
def sRetM (f : DEm) : DS := fun r T => (f r T).bind fun p => .ok (.rt (.val p.1), p.2.2)
/-- a, b = e -/
def sAsgG (g : DG) (f : DE) : DS := fun r T => (dv (f r T)).bind fun p => (rO (g p.1)).bind fun m => .ok (.nx (setE r m), p.2)
section
variable {X : Cx} {C : FC} {e tg : Expr} {f : DEm} {fe : DE} {g : DG} {pos : Pos}
theorem ss_exprM (he : SM X C e f) (hs : swapsWith e none pos.line X.env = pure false := by rfl) : SSt X C (.Expr e pos) (sDropM f) := by
  refine ps_imp (ps_expr he hs) ?_
  rintro D σ H ⟨ρ, T, h, P⟩
  exact ⟨ρ, T, h, (PostS.at P.bind).imp fun p P v H' h' _ => P σ H' h'⟩
theorem ss_setM (i : Nat) {x : Str} {pos' : Pos} (hN : X.N.Nodup) (he : SM X C e f) (hi : X.N[i]? = some x := by rfl) (hx : Loc X.env.scope x := by first | exact Or.inl rfl | exact Or.inr rfl) (hs : swapsWith e (some (.Name x pos')) pos.line X.env = pure false := by rfl) (hf : X.fn x = true ∨ X.env.scope.names.lookup x = some .local := by first | exact .inl rfl | exact .inr rfl) :
    SSt X C (.Assign [.Name x pos'] e pos) (sAsgM i f) := by
  refine ps_imp (ps_set hN hi hx he hs hf) ?_
  rintro D σ H ⟨ρ, T, h, P⟩
  exact ⟨ρ, T, h, (PostS.at P.bind).imp fun p P v H' h' q => P _ H' (h'.setVal q)⟩
theorem ss_setMG (he : SM X C e f) (hg : SG X tg g) (hs : swapsWithSole [tg] e pos.line X.env = pure false := by rfl) (hw : swappedStores [tg] e X.env = pure none := by rfl)
    (h1 : (assignEach [tg] X.env).map (·.2) = [assign tg X.env] := by rfl) : SSt X C (.Assign [tg] e pos) (sAsgMG g f) := by
  refine ps_imp (ps_asg he hg hs hw h1) ?_
  rintro D σ H ⟨ρ, T, h, P⟩
  refine ⟨ρ, T, h, (PostS.at (σ := σ) P.bind).imp fun p P v H' h' q => ?_⟩
  cases em : g p.1 with
  | none => rw [em] at P; exact P.elim
  | some m =>
    rw [em] at P
    exact ⟨_, p.1, m, q, em, fun l hl => P _ H' (Holds.setAll hl h' fun _ _ _ s => s)⟩
theorem ss_setG (he : SE X C e fe) (hg : SG X tg g) (hs : swapsWithSole [tg] e pos.line X.env = pure false := by rfl) (hw : swappedStores [tg] e X.env = pure none := by rfl)
    (h1 : (assignEach [tg] X.env).map (·.2) = [assign tg X.env] := by rfl) : SSt X C (.Assign [tg] e pos) (sAsgG g fe) := by
  refine ps_imp (ps_asg he hg hs hw h1) ?_
  rintro D σ H ⟨ρ, T, h, P⟩
  refine ⟨ρ, T, h, gs_dv h (PostS.at (σ := σ) P.bind) fun d T' v H' h' e1 q P => ?_⟩
  cases em : g d with
  | none => rw [em] at P; exact P.elim
  | some m =>
    rw [em] at P
    exact ⟨_, d, m, q, em, fun l hl => P _ H' (Holds.setAll hl h' fun _ _ _ s => s)⟩
theorem ss_retM (he : SM X C e f) : SSt X C (.Return (some e) pos) (sRetM f) := by
  refine ps_imp (ps_ret he) ?_
  rintro D σ H ⟨ρ, T, h, P⟩
  exact ⟨ρ, T, h, (PostS.at P.bind).imp fun p P v H' h' q => P v H' h'.frame (ret_val h' q)⟩
end

/-! ## x[i] = e -/
def PStD (K : PySem.W.Frag) (mg : Str → Option Value) (t : TSet) (so : D → D → D → Option D) : Prop :=
  ∀ (S : Addr → Prop) (H : Hp) (p : Addr) (d : D) (i v : V) (di dx : D) (Q : Hp → Prop) (d' : D), S p → OwnAt K mg S H p d → Top K mg S H i di → Rep K mg S H v dx → so d di dx = some d' →
    (∀ H', (∀ a o, a ≠ p → H a = some o → H' a = some o) → OwnAt K mg S H' p d' → Q H') → t (.ref p) i v H Q
def sSetI (i : Nat) (so : D → D → D → Option D) (fi fe : DE) : DS := fun r T => (dv (fe r T)).bind fun p => match r[i]? with
  | some (some (.own d)) => (dt (fi r p.2)).bind fun q => (rO (so d q.1 p.1)).bind fun d' => .ok (.nx (r.set i (some (.own d'))), q.2)
  | _ => .stuck
section
variable {X : Cx} {C : FC} {e ei : Expr} {fi fe : DE} {pos p1 p2 : Pos} {x : Str} {t : TSet} {so : D → D → D → Option D}
theorem ss_setI (i : Nat) (ht : PSet X t) (hd : PStD X.K X.mg t so) (he : SE X C e fe) (hi : SE X C ei fi)
    (hN : X.N[i]? = some x := by rfl) (hv : Vis X.env.scope x := by first | exact Or.inl rfl | exact Or.inr (Or.inl rfl) | exact Or.inr (Or.inr rfl)) (hdb : (x == ("__debug__" : Str)) = false := by decide) (hcd : (x == ("__classdict__" : Str)) = false := by decide)
    (ha : ∀ v, assign (.Subscript (.Name x p1) ei p2) X.env v = (do
      let ov ← holding [v] (eval (.Name x p1) X.env)
      let iv ← holding [v, ov] (eval ei X.env)
      standAt p2
      holding [v, ov, iv] (setItem ov iv v)
      release [v, ov, iv] []) := by intro _; rfl)
    (hs : swapsWithSole [.Subscript (.Name x p1) ei p2] e pos.line X.env = pure false := by rfl) (hw : swappedStores [.Subscript (.Name x p1) ei p2] e X.env = pure none := by rfl)
    (h1 : (assignEach [.Subscript (.Name x p1) ei p2] X.env).map (·.2) = [assign (.Subscript (.Name x p1) ei p2) X.env] := by rfl) : SSt X C (.Assign [.Subscript (.Name x p1) ei p2] e pos) (sSetI i so fi fe) := by
  refine ps_imp (ps_asg he (pg_sub (pe_var hN hv hdb hcd) hi ht ha) hs hw h1) ?_
  rintro D σ H ⟨ρ, T, h, P⟩
  refine ⟨ρ, T, h, gs_dv h (PostS.at (σ := σ) P.bind) fun d T' v H' h' e1 q P => ?_⟩
  have P := PostS.at (σ := σ) P
  obtain ⟨d0, ei, P⟩ := own_ex P
  obtain ⟨p, es, o, _⟩ := h'.own i d0 ei
  refine ⟨_, es, ρ, T', h', gv_dt h' P fun di T2 vi H2 h2 e2 qi P2 => ?_⟩
  obtain ⟨d', em, P3⟩ := rO_ex P2
  obtain ⟨p', es', o2, _⟩ := h2.own i d0 ei
  rw [es] at es'
  cases es'
  exact hd _ H2 p d0 vi v di d _ d' (.inr (.inr (.inl ⟨i, d0, ei, es⟩))) o2 qi.top (q.ext e2) em fun H3 k o3 => (show ∀ σ' H', Holds X.K X.mg C Z0 (ρ.set i (some (.own d'))) T2 σ' H' → D.nx σ' H' from P3) σ H3 (h2.upd ei es k o3)
end
/-- xs[i] = v of a list -/
def setL : D → D → D → Option D
  | .lst ds, .int k, v => (ixN ds.length k).map fun j => .lst (ds.set j v)
  | _, _, _ => none
theorem OwnAt.lstInv {K : PySem.W.Frag} {mg : Str → Option Value} {S : Addr → Prop} {H : Hp} {p : Addr} {ds : List D} (h : OwnAt K mg S H p (.lst ds)) : ∃ vs, H p = some (.lst vs) ∧ vs.length ≤ sizeLine ∧ Reps K mg S H vs ds := by
  cases h with
  | lst e z q => exact ⟨_, e, z, q⟩
theorem Reps.upd {K : PySem.W.Frag} {mg : Str → Option Value} {S : Addr → Prop} {H : Hp} {p : Addr} {u : HO} {vs : List V} {ds : List D} (hp : S p) (q : Reps K mg S H vs ds) : Reps K mg S (upd H p u) vs ds :=
  q.go (fun a o e s => by rw [upd_ne (fun z => s (by rw [z]; exact hp))]; exact e) fun _ _ _ s => s
theorem Rep.upd {K : PySem.W.Frag} {mg : Str → Option Value} {S : Addr → Prop} {H : Hp} {p : Addr} {u : HO} {v : V} {d : D} (hp : S p) (q : Rep K mg S H v d) : Rep K mg S (upd H p u) v d :=
  q.go (fun a o e s => by rw [upd_ne (fun z => s (by rw [z]; exact hp))]; exact e) fun _ _ _ s => s
theorem upd_else {H : Hp} {p : Addr} {u : HO} : ∀ a o, a ≠ p → H a = some o → upd H p u a = some o := fun a o n e => by
  rw [upd_ne n]
  exact e
theorem d_setL {K : PySem.W.Frag} {mg : Str → Option Value} : PStD K mg rSetL setL := fun S H p d i v di dx Q d' hp o ti rv e k => by
  unfold setL at e
  split at e
  · rename_i ds j
    cases ej : ixN ds.length j with
    | none => rw [ej] at e; cases e
    | some n =>
      rw [ej] at e
      cases e
      obtain ⟨vs, h1, z, q⟩ := o.lstInv
      refine ⟨p, vs, j, n, rfl, ti.int, h1, by rw [q.len]; exact ej, k _ upd_else (.lst upd_same (by rw [List.length_set]; exact z) ?_)⟩
      exact (q.upd hp).set (rv.upd hp) n
  · cases e

/-! ## methods of lists -/
def mAppend : D → List D → Option (D × D)
  | .lst ds, [x] => if ds.length < 16000000 then some (.lst (ds ++ [x]), .non) else none
  | _, _ => none
theorem ifo {A : Type} {p : Prop} [Decidable p] {x z : A} (h : (if p then some x else none) = some z) : p ∧ x = z := by
  by_cases c : p
  · rw [if_pos c] at h
    cases h
    exact ⟨c, rfl⟩
  · rw [if_neg c] at h
    cases h
theorem m_append {K : PySem.W.Frag} {mg : Str → Option Value} : MtD K mg rAppend mAppend := fun S H p d vs ds Q d' z hp o ra e k => by
  unfold mAppend at e
  split at e
  · obtain ⟨c, e⟩ := ifo e
    cases e
    obtain ⟨ws, h1, z1, q⟩ := o.lstInv
    cases ra with
    | cons r1 r2 =>
      cases r2
      have hl := q.len
      refine ⟨p, ws, _, rfl, rfl, h1, by rw [sizeLine_eq]; omega, k _ _ upd_else (.lst upd_same ?_ ?_) .non⟩
      · rw [List.length_append, List.length_singleton, sizeLine_eq]
        omega
      · exact (q.upd hp).app (.cons (r1.upd hp) .nil)
  · cases e
def mExtend : D → List D → Option (D × D)
  | .lst ds, [.lst xs] => if ds.length + xs.length ≤ 16000000 then some (.lst (ds ++ xs), .non) else none
  | _, _ => none
theorem topsv1 {K : PySem.W.Frag} {mg : Str → Option Value} {S : Addr → Prop} {H : Hp} {xs : List V} {d : D} (h : Tops K mg S H xs [d]) : ∃ x, xs = [x] ∧ Top K mg S H x d := topv1 h
theorem m_extend {K : PySem.W.Frag} {mg : Str → Option Value} : MtDt K mg rExtend mExtend := fun S H p d vs ds Q d' z hp o ra e k => by
  unfold mExtend at e
  split at e
  · obtain ⟨c, e⟩ := ifo e
    cases e
    obtain ⟨ws, h1, z1, q⟩ := o.lstInv
    obtain ⟨x, rfl, tx⟩ := topv1 ra
    obtain ⟨b, us, rfl, h2, z2, q2⟩ := tx.sqL
    have hl := q.len
    have hl2 := q2.len
    refine ⟨p, b, ws, us, rfl, rfl, h1, h2, by rw [sizeLine_eq]; omega, k _ _ upd_else (.lst upd_same ?_ ?_) .non⟩
    · rw [List.length_append, sizeLine_eq]
      omega
    · exact (q.upd hp).app (q2.upd hp)
  · cases e
def mPop : D → List D → Option (D × D)
  | .lst ds, [] => (ds[ds.length - 1]?).map fun x => (.lst ds.dropLast, x)
  | .lst ds, [.int i] => (ixN ds.length i).bind fun j => (ds[j]?).map fun x => (.lst (ds.eraseIdx j), x)
  | _, _ => none
theorem Reps.dropLast {K : PySem.W.Frag} {mg : Str → Option Value} {S : Addr → Prop} {H : Hp} {vs : List V} {ds : List D} (q : Reps K mg S H vs ds) : Reps K mg S H vs.dropLast ds.dropLast := by
  rw [List.dropLast_eq_take, List.dropLast_eq_take, q.len]
  exact q.take _
def rPopA : V → List V → Hp → VK → Prop := fun x vs H Q => L2.rPop x vs H Q ∨ L2.rPopAt x vs H Q
theorem mt_popA {X : Cx} : MtR X "list.pop" rPopA := MtR.or mt_pop mt_popAt
theorem m_pop {K : PySem.W.Frag} {mg : Str → Option Value} : MtD K mg rPopA mPop := fun S H p d vs ds Q d' z hp o ra e k => by
  unfold mPop at e
  split at e
  · rename_i ds
    cases ex : ds[ds.length - 1]? with
    | none => rw [ex] at e; cases e
    | some x =>
      rw [ex] at e
      cases e
      obtain ⟨ws, h1, z1, q⟩ := o.lstInv
      cases ra
      obtain ⟨v, ev, rv⟩ := q.getD ex
      refine .inl ⟨p, ws, v, rfl, rfl, h1, by rw [q.len]; exact ev, k _ _ upd_else (.lst upd_same ?_ (q.dropLast.upd hp)) (rv.upd hp)⟩
      rw [List.length_dropLast]
      omega
  · rename_i ds i
    cases ej : ixN ds.length i with
    | none => rw [ej] at e; cases e
    | some j =>
      rw [ej] at e
      have e : ((ds[j]?).map fun x => (D.lst (ds.eraseIdx j), x)) = some (d', z) := e
      cases ex : ds[j]? with
      | none => rw [ex] at e; cases e
      | some x =>
        rw [ex] at e
        cases e
        obtain ⟨ws, h1, z1, q⟩ := o.lstInv
        cases ra with
        | cons r1 r2 =>
          cases r2
          cases r1
          obtain ⟨v, ev, rv⟩ := q.getD ex
          obtain ⟨s1, s2, s3, s4⟩ := ixN_seq ej
          have hn := line63
          have hl := q.len
          refine .inr ⟨p, ws, i, j, v, rfl, rfl, h1, by omega, by omega, by rw [q.len]; exact s1, ev, k _ _ upd_else (.lst upd_same ?_ ((q.erase j).upd hp)) (rv.upd hp)⟩
          have := len_erase ws j
          omega
  · cases e
def mInsert : D → List D → Option (D × D)
  | .lst ds, [.int i, x] => if ds.length < 16000000 ∧ 0 ≤ i ∧ i < 2 ^ 63 then some (.lst (ds.take i.toNat ++ [x] ++ ds.drop i.toNat), .non) else none
  | _, _ => none
def rInsert : V → List V → Hp → VK → Prop := fun x vs H Q => ∃ (l : Addr) (xs : List V) (i : Int) (y : V), x = .ref l ∧ vs = [.int i, y] ∧ H l = some (.lst xs) ∧ xs.length < sizeLine ∧ 0 ≤ i ∧ i < 2 ^ 63 ∧
    Q .non (upd H l (.lst (xs.take i.toNat ++ [y] ++ xs.drop i.toNat)))
theorem m_insert {K : PySem.W.Frag} {mg : Str → Option Value} : MtD K mg rInsert mInsert := fun S H p d vs ds Q d' z hp o ra e k => by
  unfold mInsert at e
  split at e
  · obtain ⟨⟨c1, c2, c3⟩, e⟩ := ifo e
    cases e
    obtain ⟨ws, h1, z1, q⟩ := o.lstInv
    cases ra with
    | cons r1 r2 =>
      cases r1
      cases r2 with
      | cons r2 r3 =>
        cases r3
        have hl := q.len
        refine ⟨p, ws, _, _, rfl, rfl, h1, by rw [sizeLine_eq]; omega, c2, c3, k _ _ upd_else (.lst upd_same ?_ ?_) .non⟩
        · rw [List.length_append, List.length_append, List.length_take, List.length_drop, List.length_singleton, sizeLine_eq]
          omega
        · exact (((q.take _).upd hp).app (.cons (r2.upd hp) .nil)).app ((q.drop _).upd hp)
  · cases e
def mReverse : D → List D → Option (D × D)
  | .lst ds, [] => some (.lst ds.reverse, .non)
  | _, _ => none
theorem m_reverse {K : PySem.W.Frag} {mg : Str → Option Value} : MtD K mg rReverse mReverse := fun S H p d vs ds Q d' z hp o ra e k => by
  unfold mReverse at e
  split at e
  · cases e
    obtain ⟨ws, h1, z1, q⟩ := o.lstInv
    cases ra
    exact ⟨p, ws, rfl, rfl, h1, k _ _ upd_else (.lst upd_same (by rw [List.length_reverse]; exact z1) (q.reverse.upd hp)) .non⟩
  · cases e
end Pu
namespace Pu
open PySem L2
open Classical

/-! ## the tape, where it is read -/
/-- tape[k], k known -/
def eTix (i k : Nat) : DE := fun r T => match r[i]? with
  | some (some .tape) => (match T with
    | some (.lst ds) => (rO ds[k]?).bind fun d => .ok (.val d, T)
    | _ => .stuck)
  | _ => .stuck
/-- tape[k] = e -/
def sTset (i k : Nat) (f : DE) : DS := fun r T => match r[i]? with
  | some (some .tape) => (dv (f r T)).bind fun p => (match p.2 with
    | some (.lst ds) => if k < ds.length then .ok (.nx r, some (.lst (ds.set k p.1))) else .stuck
    | _ => .stuck)
  | _ => .stuck
theorem tape_ex {B : Type} {K : PySem.W.Frag} {mg : Str → Option Value} {C : FC} {σ : L2.St} {G : B → Prop} {o : Option (Option VD)} {g : Rs B} (h : PostG K mg C σ G (match o with
    | some (some .tape) => g
    | _ => .stuck)) : o = some (some .tape) ∧ PostG K mg C σ G g := by
  cases o with
  | none => exact (show False from h).elim
  | some w =>
    cases w with
    | none => exact (show False from h).elim
    | some w =>
      cases w with
      | tape => exact ⟨rfl, h⟩
      | _ => exact (show False from h).elim
theorem lst_ex {B : Type} {K : PySem.W.Frag} {mg : Str → Option Value} {C : FC} {σ : L2.St} {G : B → Prop} {T : Tp} {g : List D → Rs B} (h : PostG K mg C σ G (match T with
    | some (.lst ds) => g ds
    | _ => .stuck)) : ∃ ds, T = some (.lst ds) ∧ PostG K mg C σ G (g ds) := by
  cases T with
  | none => exact (show False from h).elim
  | some d =>
    cases d with
    | lst ds => exact ⟨ds, rfl, h⟩
    | _ => exact (show False from h).elim
theorem atI_nat {A : Type} {xs : List A} {k : Nat} {x : A} (h : xs[k]? = some x) : L2.atI xs (k : Int) = some x := by
  have hk := lt_of_get h
  unfold L2.atI
  have e : ixN xs.length (k : Int) = some k := by
    unfold ixN
    rw [if_pos (by omega), if_pos (by omega)]
    rfl
  rw [e]
  exact h
theorem ixN_nat {n k : Nat} (h : k < n) : ixN n (k : Int) = some k := by
  unfold ixN
  rw [if_pos (by omega), if_pos (by omega)]
  rfl
section
variable {X : Cx} {C : FC} {x : Str} {f : DE} {e : Expr} {p p1 p2 pos : Pos} {j : Nat}
theorem tape_at {K : PySem.W.Frag} {mg : Str → Option Value} {ρ : Env} {T : Tp} {σ : L2.St} {H : Hp} {i : Nat} (h : Holds K mg C Z0 ρ T σ H) (e : ρ[i]? = some (some .tape)) : ∃ q t, C.tp = some q ∧ σ[i]? = some (some (.ref q)) ∧ T = some t ∧ OwnAt K mg (SS C Z0 ρ σ) H q t := by
  obtain ⟨q, hc, es⟩ := h.tslot i e
  have t := h.tape
  unfold TapeOk at t
  rw [hc] at t
  obtain ⟨t, e1, o⟩ := t
  exact ⟨q, t, hc, es, e1, o⟩
theorem se_tix (i k : Nat) {ki : Int} (hk : ki = (k : Int) := by rfl) (hN : X.N[i]? = some x := by rfl) (hv : Vis X.env.scope x := by first | exact Or.inl rfl | exact Or.inr (Or.inl rfl) | exact Or.inr (Or.inr rfl)) (hdb : (x == ("__debug__" : Str)) = false := by decide) (hcd : (x == ("__classdict__" : Str)) = false := by decide)
    (hs : PlainIx (.Constant (.int ki) j p1) := by intro _ _; rfl) : SE X C (.Subscript (.Name x p) (.Constant (.int ki) j p1) pos) (eTix i k) := by
  subst hk
  refine pe_imp (pe_ix ix_seq (pe_var hN hv hdb hcd) pe_int hs) ?_
  rintro σ H Q ⟨ρ, T, h, P⟩
  unfold eTix at P
  obtain ⟨ei, P⟩ := tape_ex P
  obtain ⟨q, t, hc, es, eT, o⟩ := tape_at h ei
  obtain ⟨ds, eT2, P⟩ := lst_ex P
  obtain ⟨d, ed, P⟩ := rO_ex P
  rw [eT] at eT2
  cases eT2
  obtain ⟨vs, h1, z, rp⟩ := o.lstInv
  obtain ⟨v, ev, pv⟩ := rp.getD ed
  exact ⟨_, es, .inl ⟨q, vs, k, v, rfl, rfl, .inl (.of h1), atI_nat ev, P v H h Ext.refl pv⟩⟩
theorem ss_tset (i k : Nat) {ki : Int} (he : SE X C e f) (hk : ki = (k : Int) := by rfl) (hN : X.N[i]? = some x := by rfl) (hv : Vis X.env.scope x := by first | exact Or.inl rfl | exact Or.inr (Or.inl rfl) | exact Or.inr (Or.inr rfl)) (hdb : (x == ("__debug__" : Str)) = false := by decide) (hcd : (x == ("__classdict__" : Str)) = false := by decide)
    (ha : ∀ v, assign (.Subscript (.Name x p1) (.Constant (.int ki) j p) p2) X.env v = (do
      let ov ← holding [v] (eval (.Name x p1) X.env)
      let iv ← holding [v, ov] (eval (.Constant (.int ki) j p) X.env)
      standAt p2
      holding [v, ov, iv] (setItem ov iv v)
      release [v, ov, iv] []) := by intro _; rfl)
    (hs : swapsWithSole [.Subscript (.Name x p1) (.Constant (.int ki) j p) p2] e pos.line X.env = pure false := by rfl) (hw : swappedStores [.Subscript (.Name x p1) (.Constant (.int ki) j p) p2] e X.env = pure none := by rfl)
    (h1 : (assignEach [.Subscript (.Name x p1) (.Constant (.int ki) j p) p2] X.env).map (·.2) = [assign (.Subscript (.Name x p1) (.Constant (.int ki) j p) p2) X.env] := by rfl) : SSt X C (.Assign [.Subscript (.Name x p1) (.Constant (.int ki) j p) p2] e pos) (sTset i k f) := by
  subst hk
  refine ps_imp (ps_asg he (pg_sub (pe_var hN hv hdb hcd) pe_int set_list ha) hs hw h1) ?_
  rintro D σ H ⟨ρ, T, h, P⟩
  have P := PostS.at (σ := σ) P
  unfold sTset at P
  obtain ⟨ei, P⟩ := tape_ex P
  refine ⟨ρ, T, h, gv_dv h P fun d T' v H' h' e1 q P => ?_⟩
  obtain ⟨ds, eT2, P⟩ := lst_ex P
  obtain ⟨hk, P⟩ := postG_if P
  obtain ⟨a, t, hc, es, eT, o⟩ := tape_at h' ei
  rw [eT] at eT2
  cases eT2
  obtain ⟨vs, h2, z, rp⟩ := o.lstInv
  have hp : SS C Z0 ρ σ a := .inr (.inl hc)
  refine ⟨_, es, a, vs, (k : Int), k, rfl, rfl, h2, by rw [rp.len]; exact ixN_nat hk, ?_⟩
  refine (show ∀ σ' H', Holds X.K X.mg C Z0 ρ (some (.lst (ds.set k d))) σ' H' → D.nx σ' H' from P) σ _ (h'.move (fun b o e n => ?_) ss_same (fun _ _ _ _ _ z => z) ?_ fun _ z => z.elim)
  · rw [upd_ne (fun z => n (by rw [z]; exact hc))]
    exact e
  · unfold TapeOk
    rw [hc]
    exact ⟨_, rfl, .lst upd_same (by rw [List.length_set]; exact z) ((rp.upd hp).set (q.upd hp) k)⟩
end
end Pu
namespace PySem
open Sem (wp)
set_option maxHeartbeats 1000000 in
theorem pu_enum_new {v : Value} {o : Obj} {H : Heap → Prop} (B : Begins v o H) :
    Meets (Builtin.«enumerate.__new__» ⟨[.type "enumerate", v], []⟩) (fun _ R s => H s.heap ∧
      R (.ok (.ret (.ref (s.heap.push o).objs.size))) { s with heap := (s.heap.push o).push { cls := .type "enumerate", data := .fields #[.none, .bool false, .ref s.heap.objs.size, rawInt 0, .none, .none] } }) :=
  .of_wp fun prog w A R s h => by
    obtain ⟨hp, g, d, tk, os⟩ := s; obtain ⟨h1, h⟩ := h
    have hsub := sub_enumerate
    have q1 : ∀ {A' : Around} {E : Value → Shared → Prop} {Q : Value → Shared → Prop}, Q (.ref hp.objs.size) ⟨hp.push o, g, d, tk, os⟩ → wpAny (model prog w) A' (pyIter v) Q E ⟨hp, g, d, tk, os⟩ :=
      fun q => B.iter prog w _ _ ⟨hp, g, d, tk, os⟩ _ h1 q
    wp_walk using q1
    refine wpAny_stack_any fun st => wpAny_pure ?_
    split
    · rename_i c _ _ _ _ _
      cases (c == Value.type "enumerate")
      · wp_walk using q1
        exact ⟨_, rfl, h⟩
      · wp_walk using q1
        exact ⟨_, rfl, h⟩
    · wp_walk using q1
      exact ⟨_, rfl, h⟩
theorem pu_enum {prog : Program} {w : World} {A : Around} {E : Value → Shared → Prop} {s : Shared} {v : Value} {o : Obj} {H : Heap → Prop} {Q : Value → Shared → Prop} (B : Begins v o H) (h1 : H s.heap)
    (h : ∀ h', IsEnum h' (s.heap.objs.size + 1) s.heap.objs.size 0 .none → h'.get? s.heap.objs.size = some o → h'.objs.size = s.heap.objs.size + 2 →
      (∀ b o, s.heap.get? b = some o → h'.get? b = some o) → Q (.ref (s.heap.objs.size + 1)) { s with heap := h' }) :
    wpAny (model prog w) A (call (.type "enumerate") [v]) Q E s := by
  refine callType_new F.called_enumerate (by decide) (F.typeCall_enumerate_1 _) (F.newCall_enumerate_1 _) (fun obj => F.args_object_init_2 obj _) F.entry_enumerate_new (pu_enum_new B) ⟨h1, ?_⟩
  have hz : (s.heap.push o).objs.size = s.heap.objs.size + 1 := Heap.size_push ..
  show _ ∧ _
  rw [hz]
  have he : IsEnum ((s.heap.push o).push { cls := .type "enumerate", data := .fields #[.none, .bool false, .ref s.heap.objs.size, rawInt 0, .none, .none] }) (s.heap.objs.size + 1) s.heap.objs.size 0 .none := by
    have := Heap.get?_push_size (s.heap.push o) (o := { cls := .type "enumerate", data := .fields #[.none, .bool false, .ref s.heap.objs.size, rawInt 0, .none, .none] }) rfl
    rw [hz] at this; exact this
  refine ⟨⟨_, he, rfl⟩, h _ he (Heap.get?_push_of_some _ (Heap.get?_push_size _ B.free)) (by rw [Heap.size_push, hz]) fun b o x => Heap.get?_push_of_some _ (Heap.get?_push_of_some _ x)⟩
end PySem
namespace Pu
open PySem L2
open Classical
def IteT (K : PySem.W.Frag) (a : Addr) : It :=
  ⟨fun i H => ∃ (xs : List V) (x : V), SqT K H a xs ∧ xs[i]? = some x, fun i H v H' => ∃ T x, v = .ref T ∧ H T = none ∧ H' = upd H T (.tup [.int (i : Nat), x]) ∧ ∀ xs, SqT K H a xs → xs[i]? = some x, fun i H => ∃ xs : List V, SqT K H a xs ∧ xs.length ≤ i⟩
theorem turn_enumT {P : Program} {w : World} {K : PySem.W.Frag} {elts : List Expr} {kk : Nat} {tpos : Pos} (a e it : Addr) (hne : a ≠ it) :
    Turn P w K (.Tuple elts kk tpos) (IteT K a) [e, it] e (fun i h => (∃ old, IsEnum h e it ((i : Nat) : Int) old) ∧ h.IsTupleIter it a i ∧ e ≠ it ∧ e ≠ a) where
  mem := by simp
  obj := fun i h st b hb => by
    obtain ⟨⟨old, he⟩, ⟨o, ho, hc, hd⟩, _⟩ := st
    have e' : b = e ∨ b = it := by simpa using hb
    rcases e' with z | z
    · rw [z]; exact ⟨_, he, fun v q => nomatch q⟩
    · rw [z]; exact ⟨o, ho, fun v q => by rw [hd] at q; cases q⟩
  keep := fun i h h' st k => let ⟨⟨old, he⟩, hi, hn⟩ := st; ⟨⟨old, k e (by simp) _ he⟩, hi.at fun o q => k it (by simp) o q, hn⟩
  item := by
    intro X hP hw hK hc i pins s σ H E I hf st hg
    subst hP hw hK
    obtain ⟨⟨old, he⟩, hit, hn, hea⟩ := st
    obtain ⟨xs, x, hq, hx⟩ := hg
    obtain ⟨its, rv, p, hz⟩ := I.tuple hq
    obtain ⟨u, hu, ru⟩ := rv.get hx
    have hel : e < s.heap.objs.size := Heap.lt_size he
    have hil : it < s.heap.objs.size := by obtain ⟨_, q, _⟩ := hit; exact Heap.lt_size q
    have hlt : i < its.toArray.size := by
      have := lt_of_get hu
      simpa using this
    refine wpAny_pyNext_enum_itemD (Draws.tuple (A := X.A.in1) (I.ok.hd hc) it a hne its.toArray) he ⟨hit, p⟩ hlt hn (by simp [hn, hea]) fun y h' tk hy ho hst' hT hsz hk => ?_
    obtain ⟨hit', _⟩ := hst'
    have hy' : its[i]? = some y := by simpa using hy
    rw [hu] at hy'
    cases hy'
    refine ⟨_, rfl, wpAny_letOwnedTupleGo_enum (s := { s with heap := h', toks := tk + 1 }) ho fun h'' he' sb => ?_⟩
    have hT2 : h''.get? s.heap.objs.size = some { cls := .type "tuple", data := .seq #[.int i tk, u] } := (sb.2 _ (Nat.ne_of_gt hel)).trans hT
    have new : ObjOk X.prog X.w (upd H s.heap.objs.size (.tup [.int (i : Nat), x])) h'' s.heap.objs.size (.tup [.int (i : Nat), x]) :=
      ⟨by show 2 ≤ sizeLine; decide, [.int i tk, u], .cons ⟨_, rfl⟩ (.cons ru .nil), ⟨_, hT2, rfl, _, rfl⟩⟩
    have I1 : Inv X pins σ (upd H s.heap.objs.size (.tup [.int (i : Nat), x])) { s with heap := h'', toks := tk + 1 } :=
      I.turnedNew (ch := [e, it]) (fun b ob hb q => (sb.2 b (fun z => hb (by simp [z]))).trans (hk b ob (fun z => hb (by simp [z])) (fun z => hb (by simp [z])) q)) hf (Nat.le_refl _) new
    refine ⟨.ref s.heap.objs.size, _, I1, rfl, ⟨_, x, rfl, I.hok.fresh (Nat.le_refl _), rfl, fun ys hy => by rw [I.tuple_inj hy hq]; exact hx⟩, ⟨⟨u, ?_⟩, hit'.at fun o q => (sb.2 it (Ne.symm hn)).trans q, hn, hea⟩, fun b hb => ?_⟩
    · have e1 : ((i + 1 : Nat) : Int) = (i : Int) + 1 := by omega
      rw [e1]; exact he'
    · have hb' : b < s.heap.objs.size := by
        have e' : b = e ∨ b = it := by simpa using hb
        rcases e' with z | z
        · rw [z]; exact hel
        · rw [z]; exact hil
      rw [upd_ne (Nat.ne_of_lt hb')]
      exact (hf b hb).1
  done := by
    intro X hP hw hK hc i pins s σ H E I hf st hg
    subst hP hw hK
    obtain ⟨⟨old, he⟩, hit, hn, hea⟩ := st
    obtain ⟨xs, hq, hx⟩ := hg
    obtain ⟨its, rv, p, hz⟩ := I.tuple hq
    obtain ⟨f0, f1, f2, f3, f4, f5⟩ := hf it (by simp)
    have hl := rv.length
    refine wpAny_pyNext_enum_endD (n := i) (St := fun j h => j = i ∧ h.IsTupleIter it a j ∧ h.IsTuple a its.toArray) (fp := [it, a]) (P := fun i v => its.toArray[i]? = some v) ?_ he ⟨rfl, hit, p⟩ fun h' eb => ⟨rfl, I.turned (t' := s.toks) (fun b o hb q => eb b o hb q) f0 f1 f3 f4 f5⟩
    have D := Draws.tuple (prog := X.prog) (w := X.w) (A := X.A.in1) (I.ok.hd hc) it a hne its.toArray
    refine ⟨fun j h st => D.live j h st.2, fun j h h' st k => ⟨st.1, D.frame j h h' st.2 k⟩, fun j s Q E hj st hQ => absurd hj (by rw [st.1]; exact Nat.lt_irrefl _), fun s Q E st hE => wpAny_nextOf_tuple_end (I.ok.hd hc) st.2.1 st.2.2 (by simp; omega) hE⟩
  self := fun A i s Q E st h => let ⟨⟨_, he⟩, _⟩ := st; wpAny_pyIter_enum he h
def iEnumT (K : PySem.W.Frag) (ta : TA) : TI := fun σ H R => ta σ H fun vs H1 => ∃ a xs, vs = [.ref a] ∧ SqT K H1 a xs ∧ R (IteT K a) H1
theorem pi_enumT {X : Cx} {e : Expr} {ta : TA} {p pos tpos : Pos} {elts : List Expr} {kk : Nat} (hg : Gl X "enumerate") (hm : X.mg "enumerate" = none) (ha : PA X [e] ta) (hs : starEach [e] X.env = [(false, eval e X.env)] := by rfl) :
    PI X (.Tuple elts kk tpos) (.Call (.Name "enumerate" p) [e] [] pos) (iEnumT X.K ta) := by
  refine ⟨fun pins s σ H R I h => ?_⟩
  refine PyProof.Rows.Call_ (ld_blt I hg hm PyProof.Rows.boot_enumerate (PyProof.Rows.callWith_type1 (thn (ha.run pos pins s σ H _ I h) fun us s1 ⟨vs, H1, I1, r1, q1⟩ => ?_) hs rfl))
  obtain ⟨a, xs, ex, hq, q⟩ := q1
  subst ex
  cases r1 with
  | cons r rr =>
    cases rr
    cases r
    obtain ⟨its, rv, p', hz⟩ := I1.tuple hq
    refine pu_enum (begins_tuple a its.toArray) p' fun h' he hit hsz hk => wpAny_pyIter_enum he ?_
    have I2 : Inv X pins σ H1 { s1 with heap := h' } := I1.kept (t' := s1.toks) hk
    have hal : a < s1.heap.objs.size := by obtain ⟨_, q, _⟩ := p'; exact Heap.lt_size q
    refine ⟨s1.heap.objs.size + 1, [s1.heap.objs.size + 1, s1.heap.objs.size], _, _, H1, rfl, I2, turn_enumT a (s1.heap.objs.size + 1) s1.heap.objs.size (Nat.ne_of_lt hal), ⟨⟨.none, he⟩, ⟨_, hit, rfl, rfl⟩, Nat.succ_ne_self _, fun z => absurd hal (by rw [← z]; exact Nat.not_lt.mpr (Nat.le_succ _))⟩, fun b hb => ?_, q⟩
    have e' : b = s1.heap.objs.size + 1 ∨ b = s1.heap.objs.size := by simpa using hb
    have hle : s1.heap.objs.size ≤ b := by
      rcases e' with z | z
      · rw [z]; exact Nat.le_add_right _ _
      · rw [z]; exact Nat.le_refl _
    exact I1.fpOk hle (I1.hok.fresh hle)

/-! ## enumerate(xs) -/
def enumD : Nat → List D → List D
  | _, [] => []
  | k, d :: ds => .tup [.int k, d] :: enumD (k + 1) ds
theorem enumD_get : ∀ (ds : List D) (k i : Nat), (enumD k ds)[i]? = (ds[i]?).map fun d => .tup [.int ((k + i : Nat) : Int), d]
  | [], _, _ => rfl
  | d :: ds, k, 0 => rfl
  | d :: ds, k, i + 1 => by
    have := enumD_get ds (k + 1) i
    rw [show k + 1 + i = k + (i + 1) from by omega] at this
    simpa [enumD] using this
theorem enumD_len : ∀ (ds : List D) (k : Nat), (enumD k ds).length = ds.length
  | [], _ => rfl
  | d :: ds, k => congrArg (· + 1) (enumD_len ds (k + 1))
section
variable {K : PySem.W.Frag} {mg : Str → Option Value}
theorem rep_pair {S : Addr → Prop} {H : Hp} {T : Addr} {x y : V} {dx dy : D} (t : Trk S H) (h : H T = none) (px : Rep K mg S H x dx) (py : Rep K mg S H y dy) : Rep K mg S (upd H T (.tup [x, y])) (.ref T) (.tup [dx, dy]) :=
  .tup (t.fresh h) upd_same (by show 2 ≤ sizeLine; decide) ((Reps.cons px (.cons py .nil)).go (fun a o e _ => same_new h a o e) fun _ _ _ s => s)
theorem pin_enumL {a : Addr} {ds : List D} (hz : ds.length ≤ sizeLine) : PinOk K mg (Ite K a) (enumD 0 ds) [(.ref a, .lst ds)] := ⟨by rw [enumD_len]; exact hz, fun S H t h i => by
  obtain ⟨b, vs, e, h1, z, q⟩ := (h _ List.mem_cons_self).sqL
  cases e
  refine ⟨fun d e => ?_, fun hi => ⟨vs, .inl (.of h1), by rw [q.len]; rw [enumD_len] at hi; exact hi⟩⟩
  rw [enumD_get] at e
  cases ed : ds[i]? with
  | none => rw [ed] at e; cases e
  | some d0 =>
    rw [ed] at e
    cases e
    obtain ⟨v, ev, p⟩ := q.getD ed
    refine ⟨⟨vs, v, .inl (.of h1), ev⟩, fun x H3 ⟨T, y, e1, e2, e3, e4⟩ => ?_⟩
    subst e1 e3
    have := e4 vs (.inl (.of h1))
    rw [ev] at this
    cases this
    refine ⟨same_new e2, ?_⟩
    rw [Nat.zero_add]
    exact rep_pair t e2 (.int _) p⟩
theorem pin_enumP {a : Addr} {ns : List Int} (hz : ns.length ≤ sizeLine) : PinOk K mg (IteT K a) (enumD 0 (ns.map D.int)) [(.ref a, .tpl ns)] := ⟨by rw [enumD_len, List.length_map]; exact hz, fun S H t h i => by
  obtain ⟨b, e, h1, z⟩ := (h _ List.mem_cons_self).tplT
  cases e
  refine ⟨fun d e => ?_, fun hi => ⟨_, h1, by rw [enumD_len, List.length_map] at hi; rw [List.length_map]; exact hi⟩⟩
  rw [enumD_get] at e
  cases ed : (ns.map D.int)[i]? with
  | none => rw [ed] at e; cases e
  | some d0 =>
    rw [ed] at e
    cases e
    obtain ⟨v, ev, p⟩ := (Reps.ints (K := K) (mg := mg) (S := S) (H := H) ns).getD ed
    refine ⟨⟨_, v, h1, ev⟩, fun x H3 ⟨T, y, e1, e2, e3, e4⟩ => ?_⟩
    subst e1 e3
    have := e4 _ h1
    rw [ev] at this
    cases this
    refine ⟨same_new e2, ?_⟩
    rw [Nat.zero_add]
    exact rep_pair t e2 (.int _) p⟩
theorem pin_enumT {a : Addr} {ds : List D} (hz : ds.length ≤ sizeLine) : PinOk K mg (IteT K a) (enumD 0 ds) [(.ref a, .tup ds)] := ⟨by rw [enumD_len]; exact hz, fun S H t h i => by
  obtain ⟨b, vs, e, h1, z, q⟩ := (h _ List.mem_cons_self).sqT
  cases e
  refine ⟨fun d e => ?_, fun hi => ⟨vs, h1, by rw [q.len]; rw [enumD_len] at hi; exact hi⟩⟩
  rw [enumD_get] at e
  cases ed : ds[i]? with
  | none => rw [ed] at e; cases e
  | some d0 =>
    rw [ed] at e
    cases e
    obtain ⟨v, ev, p⟩ := q.getD ed
    refine ⟨⟨vs, v, h1, ev⟩, fun x H3 ⟨T, y, e1, e2, e3, e4⟩ => ?_⟩
    subst e1 e3
    have := e4 vs h1
    rw [ev] at this
    cases this
    refine ⟨same_new e2, ?_⟩
    rw [Nat.zero_add]
    exact rep_pair t e2 (.int _) p⟩
end
def iEnu (f : DE) : DI := fun r T => (dv (f r T)).bind fun p => (seqD p.1).bind fun ds => .ok (enumD 0 ds, p.2)
def jEnu (f : DE) : DI := fun r T => (dt (f r T)).bind fun p => (seqD p.1).bind fun ds => .ok (enumD 0 ds, p.2)
section
variable {X : Cx} {C : FC} {l : Expr} {elts : List Expr} {kk : Nat} {f : DE} {p pos tpos : Pos}
theorem si_enum (h : SE X C l f) (hm : X.mg "enumerate" = none) (hg : Gl X "enumerate" := by rfl) (hs : starEach [l] X.env = [(false, eval l X.env)] := by rfl) : SI X C (.Tuple elts kk tpos) (.Call (.Name "enumerate" p) [l] [] pos) (iEnu f) := by
  refine pi_imp (pi_or (pi_enum hg hm (pa_cons h pa_nil hs) hs) (pi_enumT hg hm (pa_cons h pa_nil hs) hs)) ?_
  rintro σ H R ⟨ρ, T, h, P⟩
  rcases runs_dv P with ⟨d, T', ed, P1⟩ | ⟨c, fs, t, r2, ex⟩
  · rcases dt_seq P1 with ⟨ds, rfl, _⟩ | ⟨ds, rfl, _⟩ | ⟨ns, rfl, _⟩
    · refine .inl ⟨ρ, T, h, gv_dvE h P fun d2 T2 v H1 ed2 h1 e1 p P3 => ?_⟩
      obtain rfl := ok_eq ed ed2
      obtain ⟨a, rfl⟩ := p.lstRef
      obtain ⟨b, vs, e, h2, z, q⟩ := (show Top X.K X.mg _ H1 _ _ from .inl p).sqL
      cases e
      exact ⟨a, vs, rfl, .inl (.of h2), P3 (Ite X.K a) [(.ref a, .lst ds)] H1 h1 e1 (fun w hw => by rw [List.mem_singleton.mp hw]; exact p) (pin_enumL (by rw [← q.len]; exact z))⟩
    · refine .inr ⟨ρ, T, h, gv_dvE h P fun d2 T2 v H1 ed2 h1 e1 p P3 => ?_⟩
      obtain rfl := ok_eq ed ed2
      obtain ⟨a, rfl⟩ := p.tupRef
      obtain ⟨b, vs, e, h2, z, q⟩ := (show Top X.K X.mg _ H1 _ _ from .inl p).sqT
      cases e
      exact ⟨a, vs, rfl, h2, P3 (IteT X.K a) [(.ref a, .tup ds)] H1 h1 e1 (fun w hw => by rw [List.mem_singleton.mp hw]; exact p) (pin_enumT (by rw [← q.len]; exact z))⟩
    · refine .inr ⟨ρ, T, h, gv_dvE h P fun d2 T2 v H1 ed2 h1 e1 p P3 => ?_⟩
      obtain rfl := ok_eq ed ed2
      obtain ⟨b, rfl, h2, z⟩ := (show Top X.K X.mg _ H1 _ _ from .inl p).tplT
      exact ⟨b, _, rfl, h2, P3 (IteT X.K b) [(.ref b, .tpl ns)] H1 h1 e1 (fun w hw => by rw [List.mem_singleton.mp hw]; exact p) (pin_enumP z)⟩
  · refine .inl ⟨ρ, T, h, ?_⟩
    unfold iEnu at P
    rw [ex] at P ⊢
    exact P
theorem sj_enum (h : SE X C l f) (hm : X.mg "enumerate" = none) (hg : Gl X "enumerate" := by rfl) (hs : starEach [l] X.env = [(false, eval l X.env)] := by rfl) : SJ X C (.Tuple elts kk tpos) (.Call (.Name "enumerate" p) [l] [] pos) (jEnu f) := by
  refine pi_imp (pi_or (pi_enum hg hm (pa_cons h pa_nil hs) hs) (pi_enumT hg hm (pa_cons h pa_nil hs) hs)) ?_
  rintro σ H R ⟨ρ, T, h, P⟩
  rcases runs_dt P with ⟨d, T', ed, P1⟩ | ⟨c, fs, t, r2, ex⟩
  · rcases dt_seq P1 with ⟨ds, rfl, _⟩ | ⟨ds, rfl, _⟩ | ⟨ns, rfl, _⟩
    · refine .inl ⟨ρ, T, h, gv_dtE h P fun d2 T2 v H1 ed2 h1 e1 p P3 => ?_⟩
      obtain rfl := ok_eq ed ed2
      obtain ⟨b, vs, rfl, h2, z, q⟩ := p.top.sqL
      exact ⟨b, vs, rfl, .inl (.of h2), P3 (Ite X.K b) [(.ref b, .lst ds)] H1 h1 e1 (fun w hw => by rw [List.mem_singleton.mp hw]; exact p) (pin_enumL (by rw [← q.len]; exact z))⟩
    · refine .inr ⟨ρ, T, h, gv_dtE h P fun d2 T2 v H1 ed2 h1 e1 p P3 => ?_⟩
      obtain rfl := ok_eq ed ed2
      obtain ⟨b, vs, rfl, h2, z, q⟩ := p.top.sqT
      exact ⟨b, vs, rfl, h2, P3 (IteT X.K b) [(.ref b, .tup ds)] H1 h1 e1 (fun w hw => by rw [List.mem_singleton.mp hw]; exact p) (pin_enumT (by rw [← q.len]; exact z))⟩
    · refine .inr ⟨ρ, T, h, gv_dtE h P fun d2 T2 v H1 ed2 h1 e1 p P3 => ?_⟩
      obtain rfl := ok_eq ed ed2
      obtain ⟨b, rfl, h2, z⟩ := p.top.tplT
      exact ⟨b, _, rfl, h2, P3 (IteT X.K b) [(.ref b, .tpl ns)] H1 h1 e1 (fun w hw => by rw [List.mem_singleton.mp hw]; exact p) (pin_enumP z)⟩
  · refine .inl ⟨ρ, T, h, ?_⟩
    unfold jEnu at P
    rw [ex] at P ⊢
    exact P
end
end Pu
namespace HT
open PySem PySem.Spec PyProof.Rows
section
variable {prog : Program} {w : World} {A : Around} {E : Value → Shared → Prop} {s : Shared}
theorem pu_sliceRev {sl : Addr} {vs : Value} {n : Nat} {Q : Int × Int × Nat → Shared → Prop} (hs : s.heap.IsSliceOf sl .none .none vs) (ps : IsPart vs (some (-1)))
    (h : Q ((n : Int) - 1, -1, n) s) : wpAny (model prog w) A (Builtin.Slice.sliceApplied (.ref sl) (pure (n : Int))) Q E s := by
  obtain ⟨os, hos, hcs, hds⟩ := id hs
  unfold Builtin.Slice.sliceApplied Builtin.Slice.sliceFields
  refine wpAny_bind (wpAny_bind (wpAny_field hos hds (x := .none) rfl (wpAny_bind (wpAny_field hos hds (x := .none) rfl (wpAny_bind (wpAny_field hos hds (x := vs) rfl (wpAny_pure ?_)))))))
  refine wpAny_bind (slicePart_ ps ?_)
  show wpAny _ _ (if ((-1 : Int) == 0) = true then _ else _) _ _ s
  rw [if_neg (by decide)]
  refine wpAny_bind (slicePart_none (wpAny_bind (slicePart_none (wpAny_bind (wpAny_pure ?_)))))
  show wpAny _ _ (match Builtin.Slice.sliceAdjust none none (-1) (n : Int) with | (lo, hi) => pure (lo, (-1 : Int), Builtin.Slice.slicePlaces lo hi (-1))) _ _ s
  have e1 : Builtin.Slice.sliceAdjust none none (-1) (n : Int) = ((n : Int) - 1, -1) := by
    unfold Builtin.Slice.sliceAdjust
    rfl
  rw [e1]
  show wpAny _ _ (pure ((n : Int) - 1, (-1 : Int), Builtin.Slice.slicePlaces ((n : Int) - 1) (-1) (-1))) _ _ s
  have e2 : Builtin.Slice.slicePlaces ((n : Int) - 1) (-1) (-1) = n := by
    unfold Builtin.Slice.slicePlaces
    rw [if_neg (by decide)]
    by_cases hn : (n : Int) - 1 > -1
    · rw [if_pos hn]
      have : (- (-1) : Int) = 1 := by decide
      rw [this, Int.ediv_one]
      omega
    · rw [if_neg hn]
      omega
  rw [e2]
  exact wpAny_pure h
theorem pu_pickRev (xs : Array Value) : ((List.range xs.size).filterMap fun (m : Nat) => xs[(((xs.size : Int) - 1) + (m : Int) * (-1)).toNat]?).toArray = xs.toList.reverse.toArray := by
  congr 1
  apply List.ext_getElem?
  intro i
  have h : ∀ m ∈ List.range xs.size, (xs[(((xs.size : Int) - 1) + (m : Int) * (-1)).toNat]?) = some ((xs.toList.reverse)[m]?.getD .none) := fun m hm => by
    have hm := List.mem_range.mp hm
    have e : (((xs.size : Int) - 1) + (m : Int) * (-1)).toNat = xs.size - 1 - m := by omega
    rw [e, List.getElem?_reverse (by simpa using hm)]
    have hl : xs.size - 1 - m < xs.size := by omega
    simp [hl]
  have e2 : (List.range xs.size).filterMap (fun (m : Nat) => xs[(((xs.size : Int) - 1) + (m : Int) * (-1)).toNat]?) = (List.range xs.size).map fun m => (xs.toList.reverse)[m]?.getD .none := by
    rw [← List.filterMap_eq_map]
    generalize List.range xs.size = l at h
    induction l with
    | nil => rfl
    | cons a l ih =>
      rw [List.filterMap_cons, List.filterMap_cons, h a List.mem_cons_self, ih fun m z => h m (List.mem_cons_of_mem _ z)]
      rfl
  rw [e2, List.getElem?_map]
  by_cases hi : i < xs.size
  · rw [List.getElem?_range hi]
    have : i < xs.toList.reverse.length := by simpa using hi
    rw [Option.map_some, List.getElem?_eq_getElem this, Option.getD_some]
  · have h1 : (List.range xs.size)[i]? = none := by simpa using hi
    rw [h1]
    have h2 : xs.toList.reverse[i]? = none := by simpa using hi
    rw [h2]
    rfl
theorem pu_getRev {t sl : Addr} {items : Array Value} {vs : Value} {Q : Value → Shared → Prop} (ht : IsTup s.heap t items) (hs : s.heap.IsSliceOf sl .none .none vs) (ps : IsPart vs (some (-1)))
    (h : Q (.ref s.heap.objs.size) { s with heap := s.heap.push { cls := .type "tuple", data := .seq items.toList.reverse.toArray } })
    (hsz : items.size ≤ sizeLine) : wpAny (model prog w) A (getItem (.ref t) (.ref sl)) Q E s := by
  have htake : sizeOk (.seq items.toList.reverse.toArray) := by
    show items.toList.reverse.toArray.size ≤ sizeLine
    rw [List.size_toArray, List.length_reverse, Array.length_toList]
    omega
  obtain ⟨os, hos, hcs, hds⟩ := id hs
  have hTs : s.TypeIs (.ref sl) "slice" := ⟨os, hos, hcs⟩
  unfold getItem
  try with_reducible refine wpAny_holding ?_
  first | refine wpAny_bind (wpAny_pure ?_) | skip
  refine wpAny_bind (wpAny_sequenceKey ht.typeIs (by decide) ?_)
  refine wpAny_bind (wpAny_callSpecial?_slot (name := Str.ofString "__getitem__") ht.typeIs PyProof.Rows.slot_tuple_getitem
    (wpAny_call_entry PyProof.Rows.slot_tuple_getitem ht.typeIs entry_tuple_getitem ?_ (args_tuple_getitem _ _)))
  show wpAny _ _ (Builtin.Tuple.tupleItemsOf (.ref t) >>= _) _ _ s
  refine wpAny_bind (tupleItemsOf_ ht ?_)
  refine wpAny_bind (wpAny_typeOf hTs ?_)
  rw [if_pos (by decide)]
  refine wpAny_bind (pu_sliceRev hs ps ?_)
  show wpAny _ _ (if (((items.size : Int) - 1) == 0 && (-1 : Int) == 1 && items.size == items.size) = true then _ else _) _ _ s
  have hno : ¬ ((((items.size : Int) - 1) == 0 && (-1 : Int) == 1 && items.size == items.size) = true) := by
    intro q
    rw [Bool.and_eq_true, Bool.and_eq_true] at q
    exact absurd q.1.2 (by decide)
  rw [if_neg hno, pu_pickRev]
  first
    | exact wpAny_bind (m := Builtin.Tuple.tupleExact _) (wpAny_newObj_type (wpAny_pure ⟨_, rfl, wpAny_pure h⟩) htake)
    | exact wpAny_bind (m := Builtin.Tuple.tupleExact _) (wpAny_newObj_type (wpAny_bind (wpAny_pure (wpAny_pure ⟨_, rfl, wpAny_pure h⟩))) htake)
    | exact wpAny_bind (wpAny_bind (m := Builtin.Tuple.tupleExact _) (wpAny_newObj_type (wpAny_pure (wpAny_pure ⟨_, rfl, wpAny_pure h⟩)) htake))
    | exact wpAny_bind (wpAny_bind (m := Builtin.Tuple.tupleExact _) (wpAny_newObj_type (wpAny_pure ⟨_, rfl, wpAny_pure h⟩) htake))
end
end HT
namespace Pu
open PySem L2 PyProof.Rows
def tRevTt (K : PySem.W.Frag) (te : TE) : TE := fun σ H Q => te σ H fun x H1 => ∃ a xs, x = .ref a ∧ SqT K H1 a xs ∧ ∀ p, H1 p = none → Q (.ref p) (upd H1 p (.tup xs.reverse))
theorem pe_revTt {X : Cx} {e : Expr} {te : TE} {k : Nat} {p1 p2 p3 pos : Pos} (he : PE X e te) : PE X (.Subscript e (.Slice none none (some (.UnaryOp .USub (.Constant (.int 1) k p1) p2)) p3) pos) (tRevTt X.K te) := by
  refine ⟨fun pins s σ H Q I h => ?_⟩
  refine Subscript_ (thn (he.run pins s σ H _ I h) fun v s1 ⟨x, H1, I1, r1, q1⟩ => ?_)
  obtain ⟨a, xs, ex, hx, q⟩ := q1
  subst ex
  cases r1
  have hst : PO X (some (.UnaryOp .USub (.Constant (.int 1) k p1) p2)) (tPart (tUn (rU fun i => .int (-i)) (tC (.int 1)))) := po_some (pe_un un_neg pe_int)
  refine wpAny_Slice (thn (po_none.run pins s1 σ H1 (fun o H2 => o = none ∧ H2 = H1) I1 ⟨rfl, rfl⟩) fun vl s2 ⟨l, H2, I2, pl, el, e2⟩ => ?_)
  subst el e2
  refine thn (po_none.run pins s2 σ H2 (fun o H3 => o = none ∧ H3 = H2) I2 ⟨rfl, rfl⟩) fun vu s3 ⟨u, H3, I3, pu, eu, e3⟩ => ?_
  subst eu e3
  refine thn (hst.run pins s3 σ H3 (fun o H4 => o = some (-1) ∧ H4 = H3) I3 ⟨1, rfl, -1, rfl, rfl, rfl⟩) fun vs s4 ⟨o, H4, I4, ps, eo, e4⟩ => ?_
  subst eo e4
  cases pl
  cases pu
  have I5 : Inv X pins σ H4 { s4 with heap := s4.heap.push { cls := .type "slice", data := .fields #[.none, .none, vs] } } := I4.kept (t' := s4.toks) fun b ob q => Heap.get?_push_of_some _ q
  obtain ⟨its, r, ht, hz⟩ := I5.tuple hx
  have hlen := r.length
  show wpAny (model X.prog X.w) X.A (subscriptTail e (.Slice none none (some (.UnaryOp .USub (.Constant (.int 1) k p1) p2)) p3) (.ref a) (.ref s4.heap.objs.size)) (EP X pins σ Q) X.xe { s4 with heap := s4.heap.push { cls := .type "slice", data := .fields #[.none, .none, vs] } }
  refine tail_any (ops := [.ref a, .ref s4.heap.objs.size]) ht.typeIs PyProof.Rows.slot_tuple_getitem.lookup ?_ (by with_unfolding_all rfl)
  refine HT.pu_getRev ht (Heap.IsSliceOf.new _ .none .none vs) ps ?_ (by rw [List.size_toArray]; omega)
  refine ⟨.ref _, _, I5.laid (t' := s4.toks) (o := .tup xs.reverse) (fun b ob q => Heap.get?_push_of_some _ q) (Nat.le_refl _) ?_, rfl, q _ (I5.hok.fresh (Nat.le_refl _))⟩
  exact ⟨by rw [List.length_reverse]; exact hz, _, r.reverse, IsTup.new _ _⟩
/-- xs[::-1] of a list or a tuple -/
def dRv : D → Rs VD
  | .lst ds => .ok (.own (.lst ds.reverse))
  | .tup ds => .ok (.val (.tup ds.reverse))
  | _ => .stuck
def rRv (K : PySem.W.Frag) : V → Hp → VK → Prop := fun x H1 Q => ∃ a xs, x = .ref a ∧ SqT K H1 a xs ∧ ∀ p, H1 p = none → Q (.ref p) (upd H1 p (.tup xs.reverse))
theorem pe_or {X : Cx} {e : Expr} {t u : TE} (h1 : PE X e t) (h2 : PE X e u) : PE X e (fun σ H R => t σ H R ∨ u σ H R) :=
  ⟨fun pins s σ H R I q => q.elim (fun q => h1.run pins s σ H R I q) fun q => h2.run pins s σ H R I q⟩
theorem runs_dtU {K : PySem.W.Frag} {mg : Str → Option Value} {C : FC} {σ : L2.St} {B : Type} {G : B → Prop} {x : Rs (VD × Tp)} {g : D × Tp → Rs B} (P : PostG K mg C σ G ((dt x).bind g)) :
    (∃ d T, dt x = .ok (d, T) ∧ PostG K mg C σ G (g (d, T))) ∨ ∃ c fs t r, x = .exc c fs t r := runs_dt P
theorem se_rv {X : Cx} {C : FC} {a : Expr} {f : DE} {k : Nat} {p1 p2 p3 pos : Pos} (ha : SE X C a f) : SE X C (.Subscript a (.Slice none none (some (.UnaryOp .USub (.Constant (.int 1) k p1) p2)) p3) pos) (eUn dRv f) := by
  refine pe_imp (pe_or (pe_revL ha) (pe_revTt ha)) ?_
  rintro σ H Q ⟨ρ, T, h, P⟩
  rcases runs_dt P with ⟨d, T', ed, P1⟩ | ⟨c, fs, t, r2, ex⟩
  · cases d with
    | lst ds =>
      refine .inl ⟨ρ, T, h, gv_dtE h P fun d2 T2 v H1 ed2 h1 e1 p P3 => ?_⟩
      obtain rfl := ok_eq ed ed2
      obtain ⟨a, vs, rfl, h4, z1, r⟩ := p.top.sqL
      have P4 : GV X.K X.mg C ρ σ H Q (.own (.lst ds.reverse), T2) := P3
      exact ⟨a, vs, rfl, .of h4, fun q hq => (gv_res h1 (gv_from h1 e1 P4) fun _ q => nomatch q).newL hq (by rw [List.length_reverse]; exact z1) r.reverse⟩
    | tup ds =>
      refine .inr ⟨ρ, T, h, gv_dtE h P fun d2 T2 v H1 ed2 h1 e1 p P3 => ?_⟩
      obtain rfl := ok_eq ed ed2
      obtain ⟨a, vs, rfl, h4, z1, r⟩ := p.top.sqT
      have P4 : GV X.K X.mg C ρ σ H Q (.val (.tup ds.reverse), T2) := P3
      exact ⟨a, vs, rfl, h4, fun q hq => (gv_res h1 (gv_from h1 e1 P4) fun _ q => nomatch q).newT h1.trk hq (by rw [List.length_reverse]; exact z1) r.reverse⟩
    | _ => exact (show False from P1).elim
  · refine .inl ⟨ρ, T, h, ?_⟩
    unfold eUn at P
    rw [ex] at P ⊢
    exact P
end Pu
namespace Pu
open PySem L2

/-! ## a def, as the head tells it -/
def OkD (P : Program) (w : World) (K : PySem.W.Frag) (mg : Str → Option Value) (base : Heap) (k : Nat) (x : Str) (n : Nat) (io : Bool) (M : DM) : Prop :=
  ∃ (fd : FuncData) (ps : List Str), FnOk P w K mg base (L2.CX P w) k (He.ga K x) fd ps (SpD K mg n io M) ∧ Binds K fd ps [] ∧ PySem.W.keepIn K (.ref (He.ga K x)) = true ∧ mg x = some (.ref (He.ga K x))
section
variable {P : Program} {w : World} {K : PySem.W.Frag} {mg : Str → Option Value} {base : Heap}
theorem okF_of {x qual : Str} {params : Arguments} {body : List Stmt} {scope : Scope} {N ps : List Str} {k : Nat} {io : Bool} {g : DS} {fd : FuncData} (F : FunD K x qual params body scope [] [] (He.ga K x) fd) (S : FnScope N ps scope)
    (hbody : ∀ (cdv : Value) (A : Around) (outer : List PySem.Env) (s : Shared) (H : Hp) (E : XK) (C : FC), Room k (A.deeper (PyProof.Rows.envOfC qual scope s.heap.objs.size (He.ga K x) cdv)) → Takes (cxOf (L2.CX P w) P w K mg base N qual scope (He.ga K x) cdv A outer s H E) C.W →
      SSs (cxOf (L2.CX P w) P w K mg base N qual scope (He.ga K x) cdv A outer s H E) C body g) : FnOk P w K mg base (L2.CX P w) (k + 1) (He.ga K x) fd ps (SpD K mg ps.length io (runD N.length io g)) := by
  refine F.ok (CX := L2.CX P w) S (fun vs H Q E ⟨C, vs1, ds, T, _, hl, _⟩ => hl) fun cdv A outer s H vs Q E hr hsp => ?_
  obtain ⟨C0, vs1, ds, T, rfl, hl, st, a, t, r, P⟩ := hsp
  let C : FC := { C0 with W := fun cls d _ H => E cls d H, pin := [] }
  refine ⟨_, hbody cdv A outer s C0.H0 E C hr (takes_of rfl rfl rfl rfl), ?_⟩
  have hpl : ps.length ≤ N.length := by
    have := congrArg List.length S.pre
    rw [List.length_take] at this
    omega
  refine ⟨env0 N.length io ds, T, holds_start (C := C) (by rw [hl]; exact hpl) st a t r rfl, ?_⟩
  unfold runD at P
  cases q : g (env0 N.length io ds) T with
  | stuck =>
    rw [q] at P
    exact P.elim
  | exc c fs T' r' =>
    rw [q] at P
    exact fun σ cls d H' h1 x => P cls d H' h1.frame (h1.tape.less fun a _ _ s z => s (s1_less a z)) (x.less fun a _ _ s z => s (s1_less a z))
  | ok p =>
    rw [q] at P
    obtain ⟨fl, T'⟩ := p
    cases fl with
    | nx r' => exact fun σ H h1 => P .non H h1.frame (ret_val (C := C) h1 .non)
    | rt v => exact fun u H e1 q => P u H e1 q
    | bk r' => exact P.elim
    | ct r' => exact P.elim
theorem okD_of {x qual : Str} {params : Arguments} {body : List Stmt} {scope : Scope} {N ps : List Str} {k : Nat} {io : Bool} {g : DS} (F : ∃ fd, FunD K x qual params body scope [] [] (He.ga K x) fd) (hm : mg x = some (.ref (He.ga K x))) (S : FnScope N ps scope)
    (hb : ∀ (kV doc pm : Value) (an : Option Addr) (cdv ct : Value) (us : List Value), us.length = ps.length → bindArgs (PySem.W.fnOf x qual params body scope .none kV doc pm an cdv ct) ⟨us, []⟩ = pure (ps.zip us))
    (hbody : ∀ (cdv : Value) (A : Around) (outer : List PySem.Env) (s : Shared) (H : Hp) (E : XK) (C : FC), Room k (A.deeper (PyProof.Rows.envOfC qual scope s.heap.objs.size (He.ga K x) cdv)) → Takes (cxOf (L2.CX P w) P w K mg base N qual scope (He.ga K x) cdv A outer s H E) C.W →
      SSs (cxOf (L2.CX P w) P w K mg base N qual scope (He.ga K x) cdv A outer s H E) C body g) : OkD P w K mg base (k + 1) x ps.length io (runD N.length io g) := by
  obtain ⟨fd, F⟩ := F
  exact ⟨fd, ps, okF_of F S hbody, F.bindsN hb, F.kp, hm⟩
theorem OkD.mono {k j : Nat} {x : Str} {n : Nat} {io : Bool} {M N : DM} (h : OkD P w K mg base k x n io M) (e : M = N) : OkD P w K mg base k x n io N := e ▸ h
end
section
variable {X : Cx} {C : FC} {e : Expr} {es : List Expr} {g : DA} {pos p p2 : Pos} {x y : Str} {k j n : Nat} {M : DM}
theorem se_defO (F : OkD X.prog X.w X.K X.mg X.base j x n false M) (hr : Room k X.A) (tk : Takes X C.W) (ha : SA X C (e :: es) g) (hk : j ≤ k := by decide)
    (hg : Gl X x := by rfl) (hdb : (x == ("__debug__" : Str)) = false := by decide) (he : starEach (e :: es) X.env = (false, eval e X.env) :: starEach es X.env := by rfl) (hpl : (backTo pos (starEach es X.env)).any (·.1) = false := by rfl) :
    SE X C (.Call (.Name x p) (e :: es) [] pos) (eDef n M g) := by
  obtain ⟨fd, ps, F, b, kp, hm⟩ := F
  exact se_def F hm kp b (hr.mono hk) tk ha hg hdb he hpl
theorem se_defTO (i : Nat) (F : OkD X.prog X.w X.K X.mg X.base j x n true M) (hr : Room k X.A) (tk : Takes X C.W) (ha : SA X C es g) (hk : j ≤ k := by decide)
    (hN : X.N[i]? = some y := by rfl) (hv : Vis X.env.scope y := by first | exact Or.inl rfl | exact Or.inr (Or.inl rfl) | exact Or.inr (Or.inr rfl)) (hd : (y == ("__debug__" : Str)) = false := by decide) (hcd : (y == ("__classdict__" : Str)) = false := by decide)
    (hg : Gl X x := by rfl) (hdb : (x == ("__debug__" : Str)) = false := by decide) (he : starEach (.Name y p2 :: es) X.env = (false, eval (.Name y p2) X.env) :: starEach es X.env := by rfl) (hpl : (backTo pos (starEach es X.env)).any (·.1) = false := by rfl) :
    SE X C (.Call (.Name x p) (.Name y p2 :: es) [] pos) (eDefT i n M g) := by
  obtain ⟨fd, ps, F, b, kp, hm⟩ := F
  exact se_defT i F hm kp b (hr.mono hk) tk ha hN hv hd hcd hg hdb he hpl
theorem Room.u64 {X : Cx} {k : Nat} (r : Room k X.A) : X.A.units + 64 < cLine := by
  have := r.un
  omega
end

/-! ## the law: its tape is made, the rest goes with it -/
def sTape (i : Nat) (f : DE) (g : DS) : DS := fun r T => (f r T).bind fun p => match p.1 with
  | .own d => (match g (r.set i (some .tape)) (some d) with
    | .ok (.rt v, _) => .ok (.rt v, none)
    | _ => .stuck)
  | _ => .stuck
theorem sss_tape {X : Cx} {C : FC} {e : Expr} {f : DE} {g : DS} {rest : List Stmt} {pos : Pos} (i : Nat) {x : Str} {pos' : Pos} (hN : X.N.Nodup) (he : SE X C e f) (hrest : ∀ p, SSs X { C with tp := some p } rest g) 
    (hi : X.N[i]? = some x := by rfl) (hx : Loc X.env.scope x := by first | exact Or.inl rfl | exact Or.inr rfl) (hs : swapsWith e (some (.Name x pos')) pos.line X.env = pure false := by rfl) (hf : X.fn x = true ∨ X.env.scope.names.lookup x = some .local := by first | exact .inl rfl | exact .inr rfl) :
    SSs X C (.Assign [.Name x pos'] e pos :: rest) (fun r T => if T.isNone then sTape i f g r T else .stuck) := by
  have hrest' : PSs X rest (fun E σ H => ∃ p, tS X.K X.mg { C with tp := some p } g E σ H) := ⟨fun ps s σ H E I ⟨p, q⟩ => (hrest p).run ps s σ H E I q⟩
  refine pss_imp (pss_cons (ps_set hN hi hx he hs hf) hrest') ?_
  rintro D σ H ⟨ρ, T, h, P⟩
  obtain ⟨hT, P⟩ := postS_if P
  have hc : C.tp = none := by
    have t := h.tape
    unfold TapeOk at t
    cases q : C.tp with
    | none => rfl
    | some p =>
      rw [q] at t
      obtain ⟨t, e, _⟩ := t
      rw [e] at hT
      cases hT
  unfold sTape at P
  refine ⟨ρ, T, h, (PostS.at P.bind).imp fun p P => ?_⟩
  obtain ⟨v, T'⟩ := p
  cases v with
  | own d =>
    intro p H' hp h1 e1 o
    have P : PostS X.K X.mg C (GS X.K X.mg C D) (match g (ρ.set i (some .tape)) (some d) with
      | .ok (.rt v, _) => .ok (.rt v, none)
      | _ => .stuck) := P
    cases q : g (ρ.set i (some .tape)) (some d) with
    | stuck => rw [q] at P; exact P.elim
    | exc c fs T r => rw [q] at P; exact P.elim
    | ok z =>
      rw [q] at P
      obtain ⟨fl, T2⟩ := z
      cases fl with
      | rt v =>
        have P : GS X.K X.mg C D (.rt v, none) := P
        have H0p : C.H0 p = none := back h h.frame hp
        have less : ∀ a, SS { C with tp := some p } Z0 (ρ.set i (some .tape)) (σ.set i (some (.ref p))) a → SS C (fun a => a = p) ρ σ a := fun a z => by
          rcases z with z | z | ⟨j, e, z1, z2⟩ | z
          · exact .inl z
          · cases z
            exact .inr (.inr (.inr rfl))
          · rcases set_at z1 with ⟨ej, q⟩ | ⟨ne, q⟩
            · cases q
            · rw [List.getElem?_set_ne (Ne.symm ne)] at z2
              exact .inr (.inr (.inl ⟨j, e, q, z2⟩))
          · exact z.elim
        have n : ∀ a o, H' a = some o → ¬ SS C (fun a => a = p) ρ σ a → ¬ SS { C with tp := some p } Z0 (ρ.set i (some .tape)) (σ.set i (some (.ref p))) a := fun a _ _ s z => s (less a z)
        refine ⟨p, ρ.set i (some .tape), some d, ⟨by rw [List.length_set, List.length_set]; exact h1.len, fun a o e nt => h1.frame a o e (by rw [hc]; intro z; cases z), fun j u z => ?_, fun j u z => ?_, fun j l a u w z1 z2 z3 z4 => ?_, ⟨d, rfl, o.go (fun _ e => e) (fun _ _ e _ => e) n⟩, fun j z => ?_, h1.st, fun _ z => z.elim, fun a z => (h1.pin a z).go (fun _ _ e _ => e) n⟩, ?_⟩
        · rcases set_at z with ⟨_, z⟩ | ⟨ne, z⟩
          · cases z
          · obtain ⟨v, e1, p1⟩ := h1.val j u z
            refine ⟨v, ?_, p1.go (fun _ _ e _ => e) n⟩
            rw [List.getElem?_set_ne (Ne.symm ne)]
            exact e1
        · rcases set_at z with ⟨_, z⟩ | ⟨ne, z⟩
          · cases z
          · obtain ⟨v, e1, o1, g1, g2, g3, g4⟩ := h1.own j u z
            refine ⟨v, ?_, o1.go (fun _ e => e) (fun _ _ e _ => e) n, g1, ?_, fun z => z, g4⟩
            · rw [List.getElem?_set_ne (Ne.symm ne)]
              exact e1
            · intro z
              cases z
              exact g3 rfl
        · rcases set_at z1 with ⟨_, z⟩ | ⟨ne, z1⟩
          · cases z
          · rcases set_at z2 with ⟨_, z⟩ | ⟨ne2, z2⟩
            · cases z
            · rw [List.getElem?_set_ne (Ne.symm ne)] at z3
              rw [List.getElem?_set_ne (Ne.symm ne2)] at z4
              exact h1.inj j l a _ _ z1 z2 z3 z4
        · rcases set_at z with ⟨ej, _⟩ | ⟨ne, z⟩
          · subst ej
            have hj := lt_of_get z
            rw [List.length_set, h1.len] at hj
            exact ⟨p, rfl, List.getElem?_set_self hj⟩
          · obtain ⟨q, e1, _⟩ := h1.tslot j z
            rw [hc] at e1
            cases e1
        · rw [q]
          intro u H2 e2 r2
          have e3 : Ext C C.H0 H2 := fun a o e _ => e2 a o e (fun z => by
            cases z
            have e : C.H0 p = some o := e
            rw [H0p] at e
            cases e)
          refine P u H2 e3 ?_
          have n1 : ∀ a, S1 C a → S1 { C with tp := some p } a := fun a z => by
            rcases z with z | z
            · exact .inl z
            · rw [hc] at z
              cases z
          have tn : ∀ S, TapeOk X.K X.mg S C.tp none H2 := fun S => by
            unfold TapeOk
            rw [hc]
          cases v with
          | val d => exact ⟨r2.1.go (fun _ _ e _ => e) fun a _ _ s z => s (n1 a z), tn _⟩
          | own d =>
            obtain ⟨p', eu, g1, g2, g3, g4⟩ := r2
            refine ⟨p', eu, g1, (fun z => by rw [hc] at z; cases z), g3.go (fun _ e => e) (fun _ _ e _ => e) (fun a _ _ s z => s ?_), tn _⟩
            rcases z with z | z
            · exact .inl (n1 a z)
            · exact .inr z
          | peek d => exact r2.elim
          | tape => exact r2.elim
      | _ => exact P.elim
  | _ => exact (show False from P).elim
/-- the law holds, if its mirror says True of every script -/
theorem law_sp {K : PySem.W.Frag} {mg : Str → Option Value} {M : DM} (hM : ∀ ns : List Int, ns.length ≤ 63 → ∃ T, M [.scr ns] none = .ok (.val (.bl true), T)) (H : Hp) (a : Addr) (ns : List Int) (hl : ns.length ≤ 63) (hs : SqL K H a (ns.map V.int)) :
    SpD K mg 1 false M [.ref a] H (fun v _ => v = .bl true) (fun _ _ _ => False) := by
  obtain ⟨T, e⟩ := hM ns hl
  have z : ns.length ≤ sizeLine := by rw [sizeLine_eq]; omega
  have r : Rep K mg (S1 (⟨H, fun _ => False, none, fun _ _ _ _ => False, []⟩ : FC)) H (.ref a) (.scr ns) := by
    have ns1 : ¬ S1 (⟨H, fun _ => False, none, fun _ _ _ _ => False, []⟩ : FC) a := fun z => by
      rcases z with z | z
      · exact z
      · cases z
    rcases hs with (hs | ⟨o, hs⟩) | hs
    · exact .scr ns1 hs (fun H' e => .inl (.inl e)) z
    · exact .scr ns1 hs (fun H' e => .inl (.inr ⟨o, e⟩)) z
    · exact .scrK (fun H' => .inr hs) z
  refine ⟨⟨H, fun _ => False, none, fun _ _ _ _ => False, []⟩, [.ref a], [.scr ns], none, rfl, rfl, fun _ z => z.elim, ⟨rfl, rfl⟩, rfl, .cons r .nil, ?_⟩
  rw [e]
  intro u H' _ r
  have r : Rep K mg (S1 (⟨H, fun _ => False, none, fun _ _ _ _ => False, []⟩ : FC)) H' u (.bl true) := r.1
  cases r
  rfl
end Pu
namespace Pu
open PySem L2
open Classical

/-! ## a op b op c -/
def eChain (op op' : D → D → Rs VD) (f g h : DE) : DE := fun r T => (dt (f r T)).bind fun p => (dt (g r p.2)).bind fun q => (op p.1 q.1).bind fun z => match z with
  | .val (.bl k) => if k = true then (dt (h r q.2)).bind fun w => lift (op' q.1 w.1) w.2 else .ok (.val (.bl false), q.2)
  | _ => .stuck
section
variable {X : Cx} {C : FC} {a b c : Expr} {f g h : DE} {pos : Pos} {r r' : R2} {op op' : D → D → Rs VD} {o o' : CmpOp}
theorem quiet_ex {B : Type} {K : PySem.W.Frag} {mg : Str → Option Value} {C : FC} {σ : L2.St} {G : B → Prop} {x : Rs VD} {k : VD → Rs B} (hx : Quiet x) (P : PostG K mg C σ G (x.bind k)) : ∃ z, x = .ok z ∧ PostG K mg C σ G (k z) := by
  rcases hx with e | ⟨d, e⟩ | ⟨d, e⟩ <;> rw [e] at P
  · exact P.elim
  · exact ⟨_, e, P⟩
  · exact ⟨_, e, P⟩
theorem t_chain (hd : R2D X.K X.mg r op) (hq : Quiet2 op) (hd' : R2D X.K X.mg r' op') (hq' : Quiet2 op') : ∀ (σ : L2.St) (H : Hp) (Q : VK), tE X.K X.mg C (eChain op op' f g h) σ H Q → tChain r r' (tE X.K X.mg C f) (tE X.K X.mg C g) (tE X.K X.mg C h) σ H Q := by
  rintro σ H Q ⟨ρ, T, h0, P⟩
  refine ⟨ρ, T, h0, gv_dt h0 P fun d T' v H1 h1 e1 p P1 => ⟨ρ, T', h1, gv_dt h1 P1 fun d2 T2 v2 H2 h2 e2 p2 P2 => ?_⟩⟩
  obtain ⟨z, ez, P3⟩ := quiet_ex (hq d d2) P2
  have en : ∀ k, z = .val (.bl k) → r v v2 H2 (fun z H3 => ∃ k, z = .bl k ∧ (if k = true then tE X.K X.mg C h σ H3 fun w' H4 => r' v2 w' H4 Q else Q (.bl false) H3)) := fun k hk => by
    subst hk
    refine hd _ H2 v v2 d d2 _ _ h2.trk (p.ext e2).top p2.top ez fun y H3 s3 py => ?_
    cases py
    have h3 := h2.more s3
    have e03 := (e1.trans e2).trans (.same s3)
    refine ⟨k, rfl, ?_⟩
    cases k with
    | false => exact (show GV X.K X.mg C ρ σ H Q (.val (.bl false), T2) from P3) _ H3 h3 e03 (.bl false)
    | true =>
      have P4 : PostG X.K X.mg C σ (GV X.K X.mg C ρ σ H Q) ((dt (h ρ T2)).bind fun w => lift (op' d2 w.1) w.2) := P3
      refine ⟨ρ, T2, h3, gv_dt h3 P4 fun d3 T3 v3 H4 h4 e4 p4 P5 => ?_⟩
      obtain ⟨u, eu, P6⟩ := lift_ex (hq' d2 d3) h4 (post_from h4 (e03.trans e4) P5)
      exact hd' _ H4 v2 v3 d2 d3 Q u h4.trk ((p2.ext (.same s3)).ext e4).top p4.top eu P6
  cases z with
  | val dz =>
    cases dz with
    | bl k => exact en k rfl
    | _ => exact (show False from P3).elim
  | _ => exact (show False from P3).elim
theorem se_chain (ho : OpR X (compareOp o) r) (hd : R2D X.K X.mg r op) (hq : Quiet2 op) (ho' : OpR X (compareOp o') r') (hd' : R2D X.K X.mg r' op') (hq' : Quiet2 op') (ha : SE X C a f) (hb : SE X C b g) (hc : SE X C c h)
    (hm : lastMarks [o, o'] [b, c] = false := by with_unfolding_all rfl) : SE X C (.Compare a [o, o'] [b, c] pos) (eChain op op' f g h) :=
  pe_imp (pe_chain ho ho' ha hb hc hm) (t_chain hd hq hd' hq')
theorem st_chain (ho : OpR X (compareOp o) r) (hd : R2D X.K X.mg r op) (hq : Quiet2 op) (ho' : OpR X (compareOp o') r') (hd' : R2D X.K X.mg r' op') (hq' : Quiet2 op') (ha : SE X C a f) (hb : SE X C b g) (hc : SE X C c h)
    (hm : lastMarks [o, o'] [b, c] = false := by with_unfolding_all rfl) : ST X C (.Compare a [o, o'] [b, c] pos) (xB (eChain op op' f g h)) := by
  refine pt_imp (pt_chain ho ho' ha hb hc hm) ?_
  intro σ H Q hh
  exact t_chain hd hq hd' hq' σ H _ (t_B (X := X) (C := C) (f := eChain op op' f g h) σ H Q hh)
end

/-! ## whole numbers compared -/
@[simp] theorem py_non : py .non = .none := by rw [py]
@[simp] theorem py_bl (b : Bool) : py (.bl b) = .bool b := by rw [py]
@[simp] theorem py_int (i : Int) : py (.int i) = .int i := by rw [py]
@[simp] theorem py_str (x : Str) : py (.str x) = .str x := by rw [py]
@[simp] theorem py_tup (ds : List D) : py (.tup ds) = .tuple (ds.map py) := by rw [py, pys_map]
@[simp] theorem py_lst (ds : List D) : py (.lst ds) = .list (ds.map py) := by rw [py, pys_map]
@[simp] theorem dataLt_i (i j : Int) : PySem.W.dataLt (.int i) (.int j) = decide (i < j) := PySem.W.dataLt_int i j
theorem ord_ii (i j : Int) : Ord2 (.int i) (.int j) := ⟨by simp [PySem.W.alike], by simp⟩
@[simp] theorem dLt_ii (i j : Int) : dLt (.int i) (.int j) = .ok (.val (.bl (decide (i < j)))) := by
  unfold dLt dPl
  rw [if_pos ⟨by simp, by simp, ord_ii i j⟩]
  simp only [py_int, dataLt_i]
@[simp] theorem dGt_ii (i j : Int) : dGt (.int i) (.int j) = .ok (.val (.bl (decide (i > j)))) := by
  unfold dGt dPl
  rw [if_pos ⟨by simp, by simp, ord_ii i j⟩]
  simp only [py_int, dataLt_i]
@[simp] theorem dLe_ii (i j : Int) : dLe (.int i) (.int j) = .ok (.val (.bl (decide (i ≤ j)))) := by
  unfold dLe dPl
  rw [if_pos ⟨by simp, by simp, ord_ii i j⟩]
  simp only [py_int, dataLt_i]
  congr 3
  by_cases h : i ≤ j
  · rw [decide_eq_true h, decide_eq_false (by omega)]; rfl
  · rw [decide_eq_false h, decide_eq_true (by omega)]; rfl
@[simp] theorem dGe_ii (i j : Int) : dGe (.int i) (.int j) = .ok (.val (.bl (decide (i ≥ j)))) := by
  unfold dGe dPl
  rw [if_pos ⟨by simp, by simp, ord_ii i j⟩]
  simp only [py_int, dataLt_i]
  congr 3
  by_cases h : i ≥ j
  · rw [decide_eq_true h, decide_eq_false (by omega)]; rfl
  · rw [decide_eq_false h, decide_eq_true (by omega)]; rfl
@[simp] theorem dEq_ii (i j : Int) : dEq (.int i) (.int j) = .ok (.val (.bl (decide (i = j)))) := by
  unfold dEq dPl
  rw [if_pos ⟨by simp, by simp, trivial⟩]
  simp only [py_int, py_bl, py_str, PyData.eqv]
  congr 3
@[simp] theorem dNe_ii (i j : Int) : dNe (.int i) (.int j) = .ok (.val (.bl (!decide (i = j)))) := by
  unfold dNe dPl
  rw [if_pos ⟨by simp, by simp, trivial⟩]
  simp only [py_int, py_bl, py_str, PyData.eqv]
  congr 3
@[simp] theorem dEq_bb (i j : Bool) : dEq (.bl i) (.bl j) = .ok (.val (.bl (i == j))) := by
  unfold dEq dPl
  rw [if_pos ⟨by simp, by simp, trivial⟩]
  simp only [py_int, py_bl, py_str, PyData.eqv]
@[simp] theorem dNe_bb (i j : Bool) : dNe (.bl i) (.bl j) = .ok (.val (.bl (!(i == j)))) := by
  unfold dNe dPl
  rw [if_pos ⟨by simp, by simp, trivial⟩]
  simp only [py_int, py_bl, py_str, PyData.eqv]
@[simp] theorem dEq_ss (i j : Str) : dEq (.str i) (.str j) = .ok (.val (.bl (i == j))) := by
  unfold dEq dPl
  rw [if_pos ⟨by simp, by simp, trivial⟩]
  simp only [py_int, py_bl, py_str, PyData.eqv]
@[simp] theorem dNe_ss (i j : Str) : dNe (.str i) (.str j) = .ok (.val (.bl (!(i == j)))) := by
  unfold dNe dPl
  rw [if_pos ⟨by simp, by simp, trivial⟩]
  simp only [py_int, py_bl, py_str, PyData.eqv]
/-! ## names of built-in things -/
theorem bo_len : bootBuiltins "len" = some (.builtin "len") := by decide +kernel
theorem bo_isinstance : bootBuiltins "isinstance" = some (.builtin "isinstance") := by decide +kernel
theorem bo_list : bootBuiltins "list" = some (.type "list") := by decide +kernel
theorem bo_tuple : bootBuiltins "tuple" = some (.type "tuple") := by decide +kernel
theorem bo_int : bootBuiltins "int" = some (.type "int") := by decide +kernel
theorem bo_bool : bootBuiltins "bool" = some (.type "bool") := by decide +kernel
theorem bo_str : bootBuiltins "str" = some (.type "str") := by decide +kernel
theorem bo_dict : bootBuiltins "dict" = some (.type "dict") := by decide +kernel
theorem bo_abs : bootBuiltins "abs" = some (.builtin "abs") := by decide +kernel
theorem bo_sum : bootBuiltins "sum" = some (.builtin "sum") := by decide +kernel
theorem bo_max : bootBuiltins "max" = some (.builtin "max") := by decide +kernel
theorem bo_min : bootBuiltins "min" = some (.builtin "min") := by decide +kernel
theorem bo_all : bootBuiltins "all" = some (.builtin "all") := by decide +kernel
theorem bo_any : bootBuiltins "any" = some (.builtin "any") := by decide +kernel
theorem bo_sorted : bootBuiltins "sorted" = some (.builtin "sorted") := by decide +kernel
theorem u64 {k : Nat} {A : Around} (r : Room k A) : A.units + 64 < cLine := by
  have := r.un
  omega
/-- a block's names, told by a test -/
def blkB (N : List Str) (sc scope : Scope) (own : List (Str × Nat)) : Bool :=
  decide (scope.kind = .function) && scope.names.all (fun y => decide (scope.names.lookup y.1 = some y.2)) && own.all (fun p => decide (N[p.2]? = some p.1)) &&
  scope.names.all (fun y => !decide (y.2 = .free) || decide (sc.names.lookup y.1 = some .cell) || decide (sc.names.lookup y.1 = some .free)) &&
  scope.names.all (fun y => !(decide (y.2 = .local) || decide (y.2 = .cell)) || decide (y.1 ∈ own.map (·.1)) || !decide (y.1 ∈ N))
theorem blk_ok {N : List Str} {sc scope : Scope} {own : List (Str × Nat)} (h : blkB N sc scope own = true) : BlkOk N sc scope own := by
  unfold blkB at h
  simp only [Bool.and_eq_true, decide_eq_true_eq, List.all_eq_true, Bool.or_eq_true, Bool.not_eq_true', decide_eq_false_iff_not] at h
  obtain ⟨⟨⟨⟨h1, h2⟩, h3⟩, h4⟩, h5⟩ := h
  refine ⟨h1, h2, h3, fun y hy e => ?_, fun y hy e => ?_⟩
  · rcases h4 y hy with (h | h) | h
    · exact absurd e h
    · exact .inl h
    · exact .inr h
  · rcases h5 y hy with (h | h) | h
    · simp only [Bool.or_eq_false_iff, decide_eq_false_iff_not] at h
      exact absurd e (fun z => z.elim h.1 h.2)
    · exact .inl h
    · exact .inr h
end Pu
namespace Pu
open PySem L2
open Classical

/-! ## a name gets a comprehension; a name += a number -/
theorem ss_setLc {X : Cx} {C : FC} {elt tg iter : Expr} {ifs : List Expr} {scope : Scope} {own : List (Str × Nat)} {pos spos py : Pos} {y : Str} {fi : DI} {g : DG} {c : DT} {f : DE} (i : Nat) (hc : X.calm = true) (hN : X.N.Nodup) (hi : SJ X C tg iter fi) (ok : BlkOk X.N X.env.scope scope own) (hw : Within g (own.map (·.2)))
    (hg : ∀ (s : Shared) (H : Hp) (Ca : Addr) (cl : List (Str × Addr)) (fp : List Addr), SG (X.blk s H scope (compEnvC scope cl Ca X.env) fp) tg g)
    (ht : ∀ (s : Shared) (H : Hp) (Ca : Addr) (cl : List (Str × Addr)) (fp : List Addr) (L : Addr), Takes (X.blk s H scope (compEnvC scope cl Ca X.env) fp) (C.blk L).W → STs (X.blk s H scope (compEnvC scope cl Ca X.env) fp) (C.blk L) ifs c)
    (he : ∀ (s : Shared) (H : Hp) (Ca : Addr) (cl : List (Str × Addr)) (fp : List Addr) (L : Addr), Takes (X.blk s H scope (compEnvC scope cl Ca X.env) fp) (C.blk L).W → SE (X.blk s H scope (compEnvC scope cl Ca X.env) fp) (C.blk L) elt f)
    (hy : X.N[i]? = some y := by rfl) (hyl : X.env.scope.names.lookup y = some .local := by rfl) (hsw : swapsWith (.ListComp elt [⟨tg, iter, ifs, 0⟩] scope pos) (some (.Name y py)) spos.line X.env = pure true := by exact sw_true rfl rfl rfl (by rfl))
    (hs : ∀ x, foldedSetIterable iter X.env x = pure x := by intro _; rfl) : SSt X C (.Assign [.Name y py] (.ListComp elt [⟨tg, iter, ifs, 0⟩] scope pos) spos) (sAsg i (eLc (own.map (·.2)) fi g c f)) := by
  refine ps_imp (ps_setLc (g := tG X.K X.mg g) (tt := fun σ H Q => ∃ L, tT X.K X.mg (C.blk L) c σ H Q) (te := fun σ H Q => ∃ L, tE X.K X.mg (C.blk L) f σ H Q) hc hN hy hyl hsw hi ok hg
    (fun s H Ca cl fp => ⟨fun ps s2 σ H2 Q I ⟨L, q⟩ => (ht s H Ca cl fp L takes0).run ps s2 σ H2 Q I q⟩) (fun s H Ca cl fp => ⟨fun ps s2 σ H2 Q I ⟨L, q⟩ => (he s H Ca cl fp L takes0).run ps s2 σ H2 Q I q⟩) hs) ?_
  rintro D σ H ⟨ρ, T, h, P⟩
  exact t_lc hw σ H _ ⟨ρ, T, h, put_slot (Q := D.nx) h P fun r' T' q σ' H' h' => q σ' H' h'⟩
def dAddZ : D → D → Rs VD
  | .int i, .int j => .ok (.val (.int (i + j)))
  | _, _ => .stuck
theorem q_addz : Quiet2 dAddZ := fun d e => by
  unfold dAddZ
  split <;> first | exact quiet_v | exact quiet_s
theorem d_addz {K : PySem.W.Frag} {mg : Str → Option Value} : R2D K mg (rI0 fun i j => .int (i + j)) dAddZ := fun S H x y dx dy Q z t p q e k => by
  unfold dAddZ at e
  split at e <;> cases e
  exact ⟨_, _, p.int, q.int, k.pure (.int _)⟩
end Pu
namespace Pu
open PySem L2
/-- the end of a law: the head's facts give its def, whose mirror says True -/
theorem walkX {l : PySem.W.OpenLaw} {k : Nat} {q : Program} {loose : List PySem.Str} {XP : (PySem.Str → Option Value) → Heap → Prop} {fa : List He.Fa} {fn : List He.DefD} {d : DefRec} {x : PySem.Str} {M : DM}
    (hn : l.most = some 63) (hdf : d.params.defaults = []) (hr : Room k callerA) (hd1 : d.name = "law")
    (hM : ∀ ns : List Int, ns.length ≤ 63 → ∃ T, M [.scr ns] none = .ok (.val (.bl true), T))
    (hb : ∀ (K : PySem.W.Frag), He.SaysD fa fn K → ∃ fd : FuncData, (∀ (s : Shared) (u : Value), BindsTo s fd ⟨[u], []⟩ [(x, u)]) ∧
      ∀ (w : World) (mg : PySem.Str → Option Value) (h base : Heap), K.In h → h.Ns mainGlobals mg → FnOk l.prog w K mg base (L2.CX l.prog w) k (He.ga K "law") fd [x] (SpD K mg 1 false M) ∧ mg "law" = some (.ref (He.ga K "law"))) :
    PySem.W.WalkO q loose XP (fun _ h => ∃ K : PySem.W.Frag, K.In h ∧ He.SaysD fa fn K) l.row.toRowW d [] (fun f vs => PySem.call f vs) := by
  refine Att.attach_call hn hdf ?_
  intro w s0 s1 mg mb fa' o pm cd doc a vs ns G Y ho hd hcd hmg hobj hints hlen hg
  obtain ⟨K, KX, c⟩ := Y
  obtain ⟨fd, bt, F⟩ := hb K c
  obtain ⟨_, el⟩ := F w mg _ s0.heap KX G.T.g
  rw [hd1, el] at hmg
  cases hmg
  exact law_call KX G.T.g G.T.b G.T.builtins G.T.nolimit hg hobj hints (Nat.le_trans hlen (by decide)) hr
    (fun base _ _ => (F w mg _ base KX G.T.g).1) bt (fun H _ hS => law_sp hM H a ns hlen hS) fun H e s' z => by
      obtain ⟨_, _, _, _, _, _, _, _, _, _, _, _, f⟩ := z
      exact f
end Pu
namespace Pu
open PySem L2
open Classical

/-! # the plain side: what a run gives -/
def wp {A : Type} (x : Rs A) (Q : A → Prop) : Prop := ∃ a, x = .ok a ∧ Q a
section
variable {A B : Type} {Q R : A → Prop}
@[simp] theorem wp_ok (a : A) : wp (.ok a) Q ↔ Q a := ⟨fun ⟨b, e, q⟩ => by cases e; exact q, fun q => ⟨a, rfl, q⟩⟩
@[simp] theorem wp_stuck : wp (.stuck : Rs A) Q ↔ False := ⟨fun ⟨b, e, q⟩ => (nomatch e), fun q => q.elim⟩
@[simp] theorem wp_exc (c : PySem.Str) (fs : List (PySem.Str × D)) (t : Tp) (r : Env) : wp (.exc c fs t r : Rs A) Q ↔ False := ⟨fun ⟨b, e, q⟩ => (nomatch e), fun q => q.elim⟩
@[simp] theorem wp_bind (x : Rs B) (f : B → Rs A) : wp (x.bind f) Q ↔ wp x fun b => wp (f b) Q := by
  cases x with
  | ok b => simp
  | exc c fs t r => simp
  | stuck => simp
theorem wp_imp {x : Rs A} (h : wp x Q) (i : ∀ a, Q a → R a) : wp x R := by
  obtain ⟨a, e, q⟩ := h
  exact ⟨a, e, i a q⟩
@[simp] theorem wp_ite {p : Prop} [Decidable p] (x y : Rs A) : wp (if p then x else y) Q ↔ (p → wp x Q) ∧ (¬ p → wp y Q) := by
  by_cases c : p <;> simp [c]
@[simp] theorem wp_noX (x : Rs A) : wp (noX x) Q ↔ wp x Q := by cases x <;> simp [noX]
theorem wp_of {x : Rs A} {a : A} (e : x = .ok a) (q : Q a) : wp x Q := ⟨a, e, q⟩
end
/-! ## the forms, opened -/
def seqK (g : DS) : Fl × Tp → Rs (Fl × Tp)
  | (.nx r, T) => g r T
  | (.rt v, T) => .ok (.rt v, T)
  | (.bk r, T) => .ok (.bk r, T)
  | (.ct r, T) => .ok (.ct r, T)
@[simp] theorem seqK_nx (g : DS) (r : Env) (T : Tp) : seqK g (.nx r, T) = g r T := rfl
@[simp] theorem seqK_rt (g : DS) (v : VD) (T : Tp) : seqK g (.rt v, T) = .ok (.rt v, T) := rfl
@[simp] theorem seqK_bk (g : DS) (r : Env) (T : Tp) : seqK g (.bk r, T) = .ok (.bk r, T) := rfl
@[simp] theorem seqK_ct (g : DS) (r : Env) (T : Tp) : seqK g (.ct r, T) = .ok (.ct r, T) := rfl
@[simp] theorem sSeq_ap (f g : DS) (r : Env) (T : Tp) : sSeq f g r T = (f r T).bind (seqK g) := by
  unfold sSeq
  congr 1
  funext p
  obtain ⟨fl, T⟩ := p
  cases fl <;> rfl
@[simp] theorem sPass_ap (r : Env) (T : Tp) : sPass r T = .ok (.nx r, T) := rfl
@[simp] theorem sNo_ap (r : Env) (T : Tp) : sNo r T = .stuck := rfl
@[simp] theorem sBrk_ap (r : Env) (T : Tp) : sBrk r T = .ok (.bk r, T) := rfl
@[simp] theorem sCt_ap (r : Env) (T : Tp) : sCt r T = .ok (.ct r, T) := rfl
@[simp] theorem sIf_ap (c : DT) (f g : DS) (r : Env) (T : Tp) : sIf c f g r T = (c r T).bind fun p => if p.1 = true then f r p.2 else g r p.2 := rfl
@[simp] theorem sDrop_ap (f : DE) (r : Env) (T : Tp) : sDrop f r T = (dt (f r T)).bind fun p => .ok (.nx r, p.2) := rfl
@[simp] theorem sAsg_ap (i : Nat) (f : DE) (r : Env) (T : Tp) : sAsg i f r T = (f r T).bind fun p => (put r i p.1).bind fun r' => .ok (.nx r', p.2) := rfl
def retK : VD × Tp → Rs (Fl × Tp)
  | (.val d, T) => .ok (.rt (.val d), T)
  | (.own d, T) => .ok (.rt (.own d), T)
  | _ => .stuck
@[simp] theorem retK_val (d : D) (T : Tp) : retK (.val d, T) = .ok (.rt (.val d), T) := rfl
@[simp] theorem retK_own (d : D) (T : Tp) : retK (.own d, T) = .ok (.rt (.own d), T) := rfl
@[simp] theorem sRet_ap (f : DE) (r : Env) (T : Tp) : sRet f r T = (f r T).bind retK := by
  unfold sRet
  congr 1
  funext p
  obtain ⟨v, T⟩ := p
  cases v <;> rfl
def retVK (T : Tp) : Option (Option VD) → Rs (Fl × Tp)
  | some (some (.val d)) => .ok (.rt (.val d), T)
  | some (some (.own d)) => .ok (.rt (.own d), T)
  | _ => .stuck
@[simp] theorem retVK_val (d : D) (T : Tp) : retVK T (some (some (.val d))) = .ok (.rt (.val d), T) := rfl
@[simp] theorem retVK_own (d : D) (T : Tp) : retVK T (some (some (.own d))) = .ok (.rt (.own d), T) := rfl
@[simp] theorem sRetV_ap (i : Nat) (r : Env) (T : Tp) : sRetV i r T = retVK T r[i]? := by
  unfold sRetV retVK
  cases r[i]? with
  | none => rfl
  | some o =>
    cases o with
    | none => rfl
    | some w => cases w <;> rfl
@[simp] theorem sRetN_ap (r : Env) (T : Tp) : sRetN r T = .ok (.rt (.val .non), T) := rfl
def augK (op : D → D → Rs VD) (i : Nat) (f : DE) (r : Env) (T : Tp) : Option (Option VD) → Rs (Fl × Tp)
  | some (some (.val d)) => (dt (f r T)).bind fun p => (op d p.1).bind fun v => (put r i v).bind fun r' => .ok (.nx r', p.2)
  | _ => .stuck
@[simp] theorem augK_val (op : D → D → Rs VD) (i : Nat) (f : DE) (r : Env) (T : Tp) (d : D) : augK op i f r T (some (some (.val d))) = (dt (f r T)).bind fun p => (op d p.1).bind fun v => (put r i v).bind fun r' => .ok (.nx r', p.2) := rfl
@[simp] theorem sAug_ap (op : D → D → Rs VD) (i : Nat) (f : DE) (r : Env) (T : Tp) : sAug op i f r T = augK op i f r T r[i]? := by
  unfold sAug augK
  cases r[i]? with
  | none => rfl
  | some o =>
    cases o with
    | none => rfl
    | some w => cases w <;> rfl
def frzK (r : Env) (i : Nat) : Option (Option VD) → Env
  | some (some (.own d)) => r.set i (some (.val d))
  | _ => r
@[simp] theorem frzK_own (r : Env) (i : Nat) (d : D) : frzK r i (some (some (.own d))) = r.set i (some (.val d)) := rfl
@[simp] theorem frzK_val (r : Env) (i : Nat) (d : D) : frzK r i (some (some (.val d))) = r := rfl
@[simp] theorem frzK_none (r : Env) (i : Nat) : frzK r i (some none) = r := rfl
@[simp] theorem sFrz_ap (i : Nat) (g : DS) (r : Env) (T : Tp) : sFrz i g r T = g (frzK r i r[i]?) T := by
  unfold sFrz frz frzK
  cases r[i]? with
  | none => rfl
  | some o =>
    cases o with
    | none => rfl
    | some w => cases w <;> rfl
def varK (T : Tp) : Option (Option VD) → Rs (VD × Tp)
  | some (some (.val d)) => .ok (.val d, T)
  | some (some (.own d)) => .ok (.peek d, T)
  | _ => .stuck
@[simp] theorem varK_val (d : D) (T : Tp) : varK T (some (some (.val d))) = .ok (.val d, T) := rfl
@[simp] theorem varK_own (d : D) (T : Tp) : varK T (some (some (.own d))) = .ok (.peek d, T) := rfl
@[simp] theorem eVar_ap (i : Nat) (r : Env) (T : Tp) : eVar i r T = varK T r[i]? := by
  unfold eVar varK
  cases r[i]? with
  | none => rfl
  | some o =>
    cases o with
    | none => rfl
    | some w => cases w <;> rfl
@[simp] theorem eC_ap (d : D) (r : Env) (T : Tp) : eC d r T = .ok (.val d, T) := rfl
@[simp] theorem eNo_ap (r : Env) (T : Tp) : eNo r T = .stuck := rfl
@[simp] theorem eOp_ap (op : D → D → Rs VD) (f g : DE) (r : Env) (T : Tp) : eOp op f g r T = (dt (f r T)).bind fun p => (dt (g r p.2)).bind fun q => lift (op p.1 q.1) q.2 := rfl
@[simp] theorem eUn_ap (op : D → Rs VD) (f : DE) (r : Env) (T : Tp) : eUn op f r T = (dt (f r T)).bind fun p => lift (op p.1) p.2 := rfl
def chK (op' : D → D → Rs VD) (h : DE) (r : Env) (q : D × Tp) : VD → Rs (VD × Tp)
  | .val (.bl k) => if k = true then (dt (h r q.2)).bind fun w => lift (op' q.1 w.1) w.2 else .ok (.val (.bl false), q.2)
  | _ => .stuck
@[simp] theorem chK_bl (op' : D → D → Rs VD) (h : DE) (r : Env) (q : D × Tp) (k : Bool) : chK op' h r q (.val (.bl k)) = if k = true then (dt (h r q.2)).bind fun w => lift (op' q.1 w.1) w.2 else .ok (.val (.bl false), q.2) := rfl
@[simp] theorem eChain_ap (op op' : D → D → Rs VD) (f g h : DE) (r : Env) (T : Tp) : eChain op op' f g h r T = (dt (f r T)).bind fun p => (dt (g r p.2)).bind fun q => (op p.1 q.1).bind (chK op' h r q) := by
  unfold eChain
  congr 1
@[simp] theorem xB_ap (f : DE) (r : Env) (T : Tp) : xB f r T = (dv (f r T)).bind fun p => (dBl p.1).bind fun b => .ok (b, p.2) := rfl
@[simp] theorem xAnd_ap (f g : DT) (r : Env) (T : Tp) : xAnd f g r T = (f r T).bind fun p => if p.1 = true then g r p.2 else .ok (false, p.2) := rfl
@[simp] theorem xOr_ap (f g : DT) (r : Env) (T : Tp) : xOr f g r T = (f r T).bind fun p => if p.1 = true then .ok (true, p.2) else g r p.2 := rfl
@[simp] theorem xNot_ap (f : DT) (r : Env) (T : Tp) : xNot f r T = (f r T).bind fun p => .ok (!p.1, p.2) := rfl
@[simp] theorem xYes_ap (r : Env) (T : Tp) : xYes r T = .ok (true, T) := rfl
@[simp] theorem eIf_ap (c : DT) (f g : DE) (r : Env) (T : Tp) : eIf c f g r T = (c r T).bind fun p => if p.1 = true then f r p.2 else g r p.2 := rfl
@[simp] theorem eAnd_ap (f g : DE) (r : Env) (T : Tp) : eAnd f g r T = (dv (f r T)).bind fun p => (dBl p.1).bind fun b => if b = true then g r p.2 else .ok (.val (.bl false), p.2) := rfl
@[simp] theorem eOr_ap (f g : DE) (r : Env) (T : Tp) : eOr f g r T = (dv (f r T)).bind fun p => (dBl p.1).bind fun b => if b = true then .ok (.val (.bl true), p.2) else g r p.2 := rfl
@[simp] theorem eNot_ap (f : DE) (r : Env) (T : Tp) : eNot f r T = (dv (f r T)).bind fun p => (dBl p.1).bind fun b => .ok (.val (.bl !b), p.2) := rfl
@[simp] theorem aNil_ap (r : Env) (T : Tp) : aNil r T = .ok ([], T) := rfl
@[simp] theorem aCons_ap (f : DE) (g : DA) (r : Env) (T : Tp) : aCons f g r T = (dv (f r T)).bind fun p => (g r p.2).bind fun q => .ok (p.1 :: q.1, q.2) := rfl
@[simp] theorem aConsT_ap (f : DE) (g : DA) (r : Env) (T : Tp) : aConsT f g r T = (dt (f r T)).bind fun p => (g r p.2).bind fun q => .ok (p.1 :: q.1, q.2) := rfl
@[simp] theorem eTup_ap (g : DA) (r : Env) (T : Tp) : eTup g r T = (g r T).bind fun p => if p.1.length ≤ 1000 then .ok (.val (.tup p.1), p.2) else .stuck := rfl
@[simp] theorem eLst_ap (g : DA) (r : Env) (T : Tp) : eLst g r T = (g r T).bind fun p => if p.1.length ≤ 1000 then .ok (.own (.lst p.1), p.2) else .stuck := rfl
@[simp] theorem eCall_ap (op : List D → Rs VD) (g : DA) (r : Env) (T : Tp) : eCall op g r T = (g r T).bind fun p => lift (op p.1) p.2 := rfl
def defK (T : Tp) (r : Env) : Rs (VD × Tp) → Rs (VD × Tp)
  | .ok q => .ok (q.1, T)
  | .exc c fs _ _ => .exc c fs T r
  | .stuck => .stuck
@[simp] theorem defK_ok (T : Tp) (r : Env) (q : VD × Tp) : defK T r (.ok q) = .ok (q.1, T) := rfl
@[simp] theorem defK_exc (T T2 : Tp) (r r2 : Env) (c : PySem.Str) (fs : List (PySem.Str × D)) : defK T r (.exc c fs T2 r2) = .exc c fs T r := rfl
@[simp] theorem wp_defK {Q : VD × Tp → Prop} (T : Tp) (r : Env) (x : Rs (VD × Tp)) : wp (defK T r x) Q ↔ wp x fun q => Q (q.1, T) := by cases x <;> simp [defK]
@[simp] theorem eDef_ap (n : Nat) (M : DM) (g : DA) (r : Env) (T : Tp) : eDef n M g r T = (g r T).bind fun p => if p.1.length = n then defK p.2 r (M p.1 none) else .stuck := by
  unfold eDef
  congr 1
def defTK (r : Env) : Rs (VD × Tp) → Rs (VD × Tp)
  | .ok q => .ok q
  | .exc c fs T' _ => .exc c fs T' r
  | .stuck => .stuck
@[simp] theorem defTK_ok (r : Env) (q : VD × Tp) : defTK r (.ok q) = .ok q := rfl
@[simp] theorem wp_defTK {Q : VD × Tp → Prop} (r : Env) (x : Rs (VD × Tp)) : wp (defTK r x) Q ↔ wp x Q := by cases x <;> simp [defTK]
def tpK {A : Type} (x : Rs A) : Option (Option VD) → Rs A
  | some (some .tape) => x
  | _ => .stuck
@[simp] theorem tpK_tape {A : Type} (x : Rs A) : tpK x (some (some .tape)) = x := rfl
@[simp] theorem eDefT_ap (i n : Nat) (M : DM) (g : DA) (r : Env) (T : Tp) : eDefT i n M g r T = tpK ((g r T).bind fun p => if p.1.length + 1 = n then defTK r (M p.1 p.2) else .stuck) r[i]? := by
  unfold eDefT tpK
  cases r[i]? with
  | none => rfl
  | some o =>
    cases o with
    | none => rfl
    | some w => cases w <;> rfl
def lsK (f : List D → Rs (VD × Tp)) : Tp → Rs (VD × Tp)
  | some (.lst ds) => f ds
  | _ => .stuck
@[simp] theorem lsK_lst (f : List D → Rs (VD × Tp)) (ds : List D) : lsK f (some (.lst ds)) = f ds := rfl
@[simp] theorem eTix_ap (i k : Nat) (r : Env) (T : Tp) : eTix i k r T = tpK (lsK (fun ds => (rO ds[k]?).bind fun d => .ok (.val d, T)) T) r[i]? := by
  unfold eTix tpK lsK
  cases r[i]? with
  | none => rfl
  | some o =>
    cases o with
    | none => rfl
    | some w =>
      cases w <;> rfl
def lsS (f : List D → Rs (Fl × Tp)) : Tp → Rs (Fl × Tp)
  | some (.lst ds) => f ds
  | _ => .stuck
@[simp] theorem lsS_lst (f : List D → Rs (Fl × Tp)) (ds : List D) : lsS f (some (.lst ds)) = f ds := rfl
@[simp] theorem sTset_ap (i k : Nat) (f : DE) (r : Env) (T : Tp) : sTset i k f r T = tpK ((dv (f r T)).bind fun p => lsS (fun ds => if k < ds.length then .ok (.nx r, some (.lst (ds.set k p.1))) else .stuck) p.2) r[i]? := by
  unfold sTset tpK lsS
  cases r[i]? with
  | none => rfl
  | some o =>
    cases o with
    | none => rfl
    | some w =>
      cases w <;> rfl
def endK : Fl × Tp → Rs (VD × Tp)
  | (.nx _, T) => .ok (.val .non, T)
  | (.rt v, T) => .ok (v, T)
  | _ => .stuck
@[simp] theorem endK_nx (r : Env) (T : Tp) : endK (.nx r, T) = .ok (.val .non, T) := rfl
@[simp] theorem endK_rt (v : VD) (T : Tp) : endK (.rt v, T) = .ok (v, T) := rfl
theorem runD_ap (n : Nat) (io : Bool) (g : DS) (ds : List D) (T : Tp) : runD n io g ds T = (g (env0 n io ds) T).bind endK := by
  unfold runD
  congr 1
  funext p
  obtain ⟨fl, T⟩ := p
  cases fl <;> rfl
def ownK {A : Type} (f : D → Rs A) : Option (Option VD) → Rs A
  | some (some (.own d)) => f d
  | _ => .stuck
@[simp] theorem ownK_own {A : Type} (f : D → Rs A) (d : D) : ownK f (some (some (.own d))) = f d := rfl
@[simp] theorem eMut_ap (i : Nat) (is : D → Bool) (mo : D → List D → Option (D × D)) (g : DA) (r : Env) (T : Tp) : eMut i is mo g r T = ownK (fun d => if is d = true then (g r T).bind fun p => (rO (mo d p.1)).bind fun q => .ok (q.2, r.set i (some (.own q.1)), p.2) else .stuck) r[i]? := by
  unfold eMut ownK
  cases r[i]? with
  | none => rfl
  | some o =>
    cases o with
    | none => rfl
    | some w => cases w <;> rfl
@[simp] theorem eMutM_ap (i : Nat) (is : D → Bool) (mo : D → List D → Option (D × D)) (f : DEm) (r : Env) (T : Tp) : eMutM i is mo f r T = ownK (fun d => if is d = true then (f r T).bind fun p => ownK (fun d2 => (rO (mo d2 [p.1])).bind fun q => .ok (q.2, p.2.1.set i (some (.own q.1)), p.2.2)) p.2.1[i]? else .stuck) r[i]? := by
  unfold eMutM ownK
  cases r[i]? with
  | none => rfl
  | some o =>
    cases o with
    | none => rfl
    | some w =>
      cases w with
      | own d =>
        congr 1
      | _ => rfl
@[simp] theorem sDropM_ap (f : DEm) (r : Env) (T : Tp) : sDropM f r T = (f r T).bind fun p => .ok (.nx p.2.1, p.2.2) := rfl
@[simp] theorem sAsgM_ap (i : Nat) (f : DEm) (r : Env) (T : Tp) : sAsgM i f r T = (f r T).bind fun p => .ok (.nx (p.2.1.set i (some (.val p.1))), p.2.2) := rfl
@[simp] theorem sAsgMG_ap (g : DG) (f : DEm) (r : Env) (T : Tp) : sAsgMG g f r T = (f r T).bind fun p => (rO (g p.1)).bind fun m => .ok (.nx (setE p.2.1 m), p.2.2) := rfl
@[simp] theorem sAsgG_ap (g : DG) (f : DE) (r : Env) (T : Tp) : sAsgG g f r T = (dv (f r T)).bind fun p => (rO (g p.1)).bind fun m => .ok (.nx (setE r m), p.2) := rfl
@[simp] theorem sRetM_ap (f : DEm) (r : Env) (T : Tp) : sRetM f r T = (f r T).bind fun p => .ok (.rt (.val p.1), p.2.2) := rfl
@[simp] theorem sSetI_ap (i : Nat) (so : D → D → D → Option D) (fi fe : DE) (r : Env) (T : Tp) : sSetI i so fi fe r T = (dv (fe r T)).bind fun p => ownK (fun d => (dt (fi r p.2)).bind fun q => (rO (so d q.1 p.1)).bind fun d' => .ok (.nx (r.set i (some (.own d'))), q.2)) r[i]? := by
  unfold sSetI ownK
  congr 1
@[simp] theorem sTape_ap (i : Nat) (f : DE) (g : DS) (r : Env) (T : Tp) (d : D) (T2 : Tp) (h : f r T = .ok (.own d, T2)) {Q : Fl × Tp → Prop} : wp (sTape i f g r T) Q ↔ wp (g (r.set i (some .tape)) (some d)) fun p => ∃ v, p.1 = .rt v ∧ Q (.rt v, none) := by
  unfold sTape
  rw [h]
  simp only [Rs.bind_ok]
  cases e : g (r.set i (some .tape)) (some d) with
  | stuck => simp
  | exc c fs t r => simp
  | ok z =>
    obtain ⟨fl, T3⟩ := z
    cases fl <;> simp
@[simp] theorem sFor_ap (f : DI) (g : DG) (w : DS) (r : Env) (T : Tp) : sFor f g w r T = (f r T).bind fun p => forD g w p.1 r p.2 := rfl
@[simp] theorem iSeq_ap (f : DE) (r : Env) (T : Tp) : iSeq f r T = (dv (f r T)).bind fun p => (seqD p.1).bind fun ds => .ok (ds, p.2) := rfl
@[simp] theorem jSeq_ap (f : DE) (r : Env) (T : Tp) : jSeq f r T = (dt (f r T)).bind fun p => (seqD p.1).bind fun ds => .ok (ds, p.2) := rfl
@[simp] theorem iEnu_ap (f : DE) (r : Env) (T : Tp) : iEnu f r T = (dv (f r T)).bind fun p => (seqD p.1).bind fun ds => .ok (enumD 0 ds, p.2) := rfl
@[simp] theorem jEnu_ap (f : DE) (r : Env) (T : Tp) : jEnu f r T = (dt (f r T)).bind fun p => (seqD p.1).bind fun ds => .ok (enumD 0 ds, p.2) := rfl
@[simp] theorem eLc_ap (vs : List Nat) (fi : DI) (g : DG) (c : DT) (f : DE) (r : Env) (T : Tp) : eLc vs fi g c f r T = (fi r T).bind fun p => (rO (wipeE r vs)).bind fun r0 => (lcD g c f p.1 r0 p.2).bind fun q => .ok (.own (.lst q.1), q.2) := rfl
theorem gN_ap (i : Nat) (d : D) : gN i d = some [(i, d)] := rfl
@[simp] theorem setE_nil (r : Env) : setE r [] = r := rfl
@[simp] theorem setE_cons (r : Env) (p : Nat × D) (l : List (Nat × D)) : setE r (p :: l) = setE (r.set p.1 (some (.val p.2))) l := rfl
@[simp] theorem wp_lift {Q : VD × Tp → Prop} (z : Rs VD) (T : Tp) : wp (lift z T) Q ↔ wp z fun v => Q (v, T) := by cases z <;> simp [lift]
@[simp] theorem wp_rO {A : Type} {Q : A → Prop} (o : Option A) : wp (rO o) Q ↔ ∃ a, o = some a ∧ Q a := by cases o <;> simp
@[simp] theorem wp_dv {Q : D × Tp → Prop} (x : Rs (VD × Tp)) : wp (dv x) Q ↔ wp x fun p => wp (dv1 p) Q := by unfold dv; simp
@[simp] theorem wp_dt {Q : D × Tp → Prop} (x : Rs (VD × Tp)) : wp (dt x) Q ↔ wp x fun p => wp (dt1 p) Q := by unfold dt; simp
@[simp] theorem dv1_val (d : D) (T : Tp) : dv1 (.val d, T) = .ok (d, T) := rfl
@[simp] theorem dv1_own (d : D) (T : Tp) : dv1 (.own d, T) = .ok (d, T) := rfl
@[simp] theorem dt1_val (d : D) (T : Tp) : dt1 (.val d, T) = .ok (d, T) := rfl
@[simp] theorem dt1_own (d : D) (T : Tp) : dt1 (.own d, T) = .ok (d, T) := rfl
@[simp] theorem dt1_peek (d : D) (T : Tp) : dt1 (.peek d, T) = .ok (d, T) := rfl

/-! ## loops -/
def loopK (I : Env → Tp → Prop) (Q : Fl × Tp → Prop) : Fl × Tp → Prop
  | (.nx r, T) => I r T
  | (.ct r, T) => I r T
  | (.bk r, T) => Q (.nx r, T)
  | (.rt v, T) => Q (.rt v, T)
@[simp] theorem loopK_nx (I : Env → Tp → Prop) (Q : Fl × Tp → Prop) (r : Env) (T : Tp) : loopK I Q (.nx r, T) ↔ I r T := Iff.rfl
@[simp] theorem loopK_ct (I : Env → Tp → Prop) (Q : Fl × Tp → Prop) (r : Env) (T : Tp) : loopK I Q (.ct r, T) ↔ I r T := Iff.rfl
@[simp] theorem loopK_bk (I : Env → Tp → Prop) (Q : Fl × Tp → Prop) (r : Env) (T : Tp) : loopK I Q (.bk r, T) ↔ Q (.nx r, T) := Iff.rfl
@[simp] theorem loopK_rt (I : Env → Tp → Prop) (Q : Fl × Tp → Prop) (v : VD) (T : Tp) : loopK I Q (.rt v, T) ↔ Q (.rt v, T) := Iff.rfl
/-- a loop, by an invariant of the turn -/
theorem wp_for {g : DG} {w : DS} {Q : Fl × Tp → Prop} (I : Nat → Env → Tp → Prop) : ∀ (ds : List D) (k : Nat) (r : Env) (T : Tp), I k r T →
    (∀ (i : Nat) (d : D) (r : Env) (T : Tp), ds[i]? = some d → I (k + i) r T → ∃ m, g d = some m ∧ wp (w (setE r m) T) (loopK (I (k + i + 1)) Q)) →
    (∀ r T, I (k + ds.length) r T → Q (.nx r, T)) → wp (forD g w ds r T) Q
  | [], k, r, T, h, _, e => by
    show wp (.ok (.nx r, T)) Q
    exact (wp_ok _).mpr (e r T h)
  | d :: ds, k, r, T, h, s, e => by
    obtain ⟨m, hm, b⟩ := s 0 d r T rfl h
    obtain ⟨⟨fl, T'⟩, e1, q⟩ := b
    show wp ((rO (g d)).bind fun m => (w (setE r m) T).bind fun p => match p.1 with
      | .nx r' => forD g w ds r' p.2
      | .ct r' => forD g w ds r' p.2
      | .bk r' => .ok (.nx r', p.2)
      | .rt v => .ok (.rt v, p.2)) Q
    rw [hm, rO_some, Rs.bind_ok, e1, Rs.bind_ok]
    have go : ∀ r', I (k + 1) r' T' → wp (forD g w ds r' T') Q := fun r' hr => wp_for I ds (k + 1) r' T' hr
      (fun i d r T e2 h2 => by
        have := s (i + 1) d r T (by simpa using e2) (by rw [show k + (i + 1) = k + 1 + i from by omega]; exact h2)
        rw [show k + (i + 1) + 1 = k + 1 + i + 1 from by omega] at this
        exact this)
      (fun r T h2 => e r T (by rw [List.length_cons, show k + (ds.length + 1) = k + 1 + ds.length from by omega]; exact h2))
    cases fl with
    | nx r' => exact go r' q
    | ct r' => exact go r' q
    | bk r' => exact (wp_ok _).mpr q
    | rt v => exact (wp_ok _).mpr q
/-- a comprehension, by an invariant of the turn and what is gathered -/
theorem wp_lc {g : DG} {c : DT} {f : DE} {r : Env} {Q : List D × Tp → Prop} (I : Nat → List D → Tp → Prop) : ∀ (ds : List D) (k : Nat) (acc : List D) (T : Tp), I k acc T →
    (∀ (i : Nat) (d : D) (acc : List D) (T : Tp), ds[i]? = some d → I (k + i) acc T → ∃ m, g d = some m ∧ wp (c (setE r m) T) fun b => (b.1 = true → wp (dv (f (setE r m) b.2)) fun v => I (k + i + 1) (acc ++ [v.1]) v.2) ∧ (b.1 = false → I (k + i + 1) acc b.2)) →
    (∀ l T, I (k + ds.length) (acc ++ l) T → Q (l, T)) → wp (lcD g c f ds r T) Q
  | [], k, acc, T, h, _, e => by
    show wp (.ok ([], T)) Q
    exact (wp_ok _).mpr (e [] T (by rw [List.append_nil]; exact h))
  | d :: ds, k, acc, T, h, s, e => by
    obtain ⟨m, hm, ⟨b, T'⟩, e1, q⟩ := s 0 d acc T rfl h
    show wp ((rO (g d)).bind fun m => (noX (c (setE r m) T)).bind fun b => if b.1 = true then (noX (dv (f (setE r m) b.2))).bind fun v => (lcD g c f ds r v.2).bind fun q => .ok (v.1 :: q.1, q.2) else lcD g c f ds r b.2) Q
    rw [hm, rO_some, Rs.bind_ok, e1, noX_ok, Rs.bind_ok]
    have st : ∀ (i : Nat) (d : D) (acc : List D) (T : Tp), ds[i]? = some d → I (k + 1 + i) acc T → ∃ m, g d = some m ∧ wp (c (setE r m) T) fun b => (b.1 = true → wp (dv (f (setE r m) b.2)) fun v => I (k + 1 + i + 1) (acc ++ [v.1]) v.2) ∧ (b.1 = false → I (k + 1 + i + 1) acc b.2) := fun i d acc T e2 h2 => by
      have := s (i + 1) d acc T (by simpa using e2) (by rw [show k + (i + 1) = k + 1 + i from by omega]; exact h2)
      rw [show k + (i + 1) + 1 = k + 1 + i + 1 from by omega] at this
      exact this
    have en : k + 1 + ds.length = k + (d :: ds).length := by rw [List.length_cons]; omega
    cases b with
    | true =>
      obtain ⟨⟨v, T2⟩, e2, q⟩ := (show wp (dv (f (setE r m) T')) fun v => I (k + 0 + 1) (acc ++ [v.1]) v.2 from q.1 rfl)
      rw [if_pos rfl, e2, noX_ok, Rs.bind_ok]
      refine (wp_bind _ _).mpr (wp_lc (Q := fun q => wp (.ok (v :: q.1, q.2)) Q) I ds (k + 1) (acc ++ [v]) T2 q st fun l T h2 => (wp_ok _).mpr (e (v :: l) T ?_))
      rw [← en]
      rw [List.append_assoc] at h2
      exact h2
    | false =>
      rw [if_neg Bool.false_ne_true]
      refine wp_lc I ds (k + 1) acc T' (q.2 rfl) st fun l T h2 => e l T ?_
      rw [← en]
      exact h2
/-- a comprehension that only reads -/
theorem lc_map {g : DG} {f : DE} {r : Env} {T : Tp} (h : D → D) : ∀ (ds : List D), (∀ d ∈ ds, ∃ m, g d = some m ∧ dv (f (setE r m) T) = .ok (h d, T)) → lcD g xYes f ds r T = .ok (ds.map h, T)
  | [], _ => rfl
  | d :: ds, s => by
    obtain ⟨m, hm, e⟩ := s d List.mem_cons_self
    show (rO (g d)).bind (fun m => (noX (xYes (setE r m) T)).bind fun b => if b.1 = true then (noX (dv (f (setE r m) b.2))).bind fun v => (lcD g xYes f ds r v.2).bind fun q => .ok (v.1 :: q.1, q.2) else lcD g xYes f ds r b.2) = _
    rw [hm]
    simp only [rO_some, Rs.bind_ok, xYes_ap, noX_ok, if_true, e]
    rw [lc_map h ds fun d z => s d (List.mem_cons_of_mem _ z)]
    rfl
theorem lc_filter {g : DG} {c : DT} {f : DE} {r : Env} {T : Tp} (b : D → Bool) (h : D → D) : ∀ (ds : List D), (∀ d ∈ ds, ∃ m, g d = some m ∧ c (setE r m) T = .ok (b d, T) ∧ (b d = true → dv (f (setE r m) T) = .ok (h d, T))) → lcD g c f ds r T = .ok ((ds.filter b).map h, T)
  | [], _ => rfl
  | d :: ds, s => by
    obtain ⟨m, hm, e1, e2⟩ := s d List.mem_cons_self
    show (rO (g d)).bind (fun m => (noX (c (setE r m) T)).bind fun b => if b.1 = true then (noX (dv (f (setE r m) b.2))).bind fun v => (lcD g c f ds r v.2).bind fun q => .ok (v.1 :: q.1, q.2) else lcD g c f ds r b.2) = _
    rw [hm]
    simp only [rO_some, Rs.bind_ok, noX_ok, e1]
    have ih := lc_filter (r := r) (T := T) b h ds fun d z => s d (List.mem_cons_of_mem _ z)
    cases q : b d with
    | true =>
      rw [List.filter_cons_of_pos q, if_pos rfl, e2 q]
      simp only [noX_ok, Rs.bind_ok]
      rw [ih]
      rfl
    | false =>
      rw [List.filter_cons_of_neg (by rw [q]; exact Bool.false_ne_true), if_neg Bool.false_ne_true, ih]
/-! ## operations, opened -/
@[simp] theorem dAddI_ii (i j : Int) : dAddI (.int i) (.int j) = .ok (.val (.int (i + j))) := rfl
@[simp] theorem dAddI_tt (a b : List D) : dAddI (.tup a) (.tup b) = if a.length + b.length ≤ 16000000 then .ok (.val (.tup (a ++ b))) else .stuck := rfl
@[simp] theorem dAddI_ll (a b : List D) : dAddI (.lst a) (.lst b) = if a.length + b.length ≤ 16000000 then .ok (.own (.lst (a ++ b))) else .stuck := rfl
@[simp] theorem dAddZ_ii (i j : Int) : dAddZ (.int i) (.int j) = .ok (.val (.int (i + j))) := rfl
@[simp] theorem dSub_ii (i j : Int) : dSub (.int i) (.int j) = .ok (.val (.int (i - j))) := rfl
@[simp] theorem dMul_ii (i j : Int) : dMul (.int i) (.int j) = if (-(2 ^ 64) < i ∧ i < 2 ^ 64) ∨ (-(2 ^ 64) < j ∧ j < 2 ^ 64) then .ok (.val (.int (i * j))) else .stuck := rfl
@[simp] theorem dDiv_ii (i j : Int) : dDiv (.int i) (.int j) = if 0 < j ∧ j < 1073741824 then .ok (.val (.int (i / j))) else .stuck := rfl
@[simp] theorem dMod_ii (i j : Int) : dMod (.int i) (.int j) = if 0 < j then .ok (.val (.int (i % j))) else .stuck := rfl
@[simp] theorem dPow_ii (i j : Int) : dPow (.int i) (.int j) = if 0 ≤ j ∧ j ≤ 1000000 ∧ i.natAbs < 2 ^ 64 then .ok (.val (.int (i ^ j.toNat))) else .stuck := rfl
@[simp] theorem dNeg_i (i : Int) : dNeg (.int i) = .ok (.val (.int (-i))) := rfl
@[simp] theorem bInt_i (i : Int) : bInt [.int i] = .ok (.val (.int i)) := rfl
@[simp] theorem bInt_b (b : Bool) : bInt [.bl b] = .ok (.val (.int (if b then 1 else 0))) := rfl
@[simp] theorem bLen_l (ds : List D) : bLen [.lst ds] = .ok (.val (.int ds.length)) := rfl
@[simp] theorem bLen_t (ds : List D) : bLen [.tup ds] = .ok (.val (.int ds.length)) := rfl
@[simp] theorem bLen_c (ns : List Int) : bLen [.scr ns] = .ok (.val (.int ns.length)) := rfl
@[simp] theorem bList_l (ds : List D) : bList [.lst ds] = .ok (.own (.lst ds)) := rfl
@[simp] theorem bList_t (ds : List D) : bList [.tup ds] = .ok (.own (.lst ds)) := rfl
@[simp] theorem bList_c (ns : List Int) : bList [.scr ns] = .ok (.own (.lst (ns.map D.int))) := rfl
@[simp] theorem bTuple_l (ds : List D) : bTuple [.lst ds] = .ok (.val (.tup ds)) := rfl
@[simp] theorem bTuple_t (ds : List D) : bTuple [.tup ds] = .ok (.val (.tup ds)) := rfl
@[simp] theorem bSum_l (ds : List D) : bSum [.lst ds] = (rO (nums ds)).bind fun ns => .ok (.val (.int ns.sum)) := rfl
@[simp] theorem bSum_t (ds : List D) : bSum [.tup ds] = (rO (nums ds)).bind fun ns => .ok (.val (.int ns.sum)) := rfl
@[simp] theorem bAll_l (ds : List D) : bAll [.lst ds] = (rO (bls ds)).bind fun ns => .ok (.val (.bl (ns.all id))) := rfl
@[simp] theorem bAny_l (ds : List D) : bAny [.lst ds] = (rO (bls ds)).bind fun ns => .ok (.val (.bl (ns.any id))) := rfl
@[simp] theorem bMax_2 (i j : Int) : bMax [.int i, .int j] = .ok (.val (.int (if j > i then j else i))) := rfl
@[simp] theorem bMin_2 (i j : Int) : bMin [.int i, .int j] = .ok (.val (.int (if j < i then j else i))) := rfl
@[simp] theorem bMax_l (ds : List D) : bMax [.lst ds] = (rO (nums ds)).bind fun ns => (rO ns.max?).bind fun m => .ok (.val (.int m)) := rfl
@[simp] theorem bMax_t (ds : List D) : bMax [.tup ds] = (rO (nums ds)).bind fun ns => (rO ns.max?).bind fun m => .ok (.val (.int m)) := rfl
@[simp] theorem bMin_l (ds : List D) : bMin [.lst ds] = (rO (nums ds)).bind fun ns => (rO ns.min?).bind fun m => .ok (.val (.int m)) := rfl
@[simp] theorem bMin_t (ds : List D) : bMin [.tup ds] = (rO (nums ds)).bind fun ns => (rO ns.min?).bind fun m => .ok (.val (.int m)) := rfl
@[simp] theorem bSorted_l (ds : List D) : bSorted [.lst ds] = if SrtOk ds then .ok (.own (.lst (srtd ds))) else .stuck := rfl
@[simp] theorem dIx_l (ds : List D) (i : Int) : dIx (.lst ds) (.int i) = (rO (atI ds i)).bind fun d => .ok (.val d) := rfl
@[simp] theorem dIx_t (ds : List D) (i : Int) : dIx (.tup ds) (.int i) = (rO (atI ds i)).bind fun d => .ok (.val d) := rfl
@[simp] theorem dRv_l (ds : List D) : dRv (.lst ds) = .ok (.own (.lst ds.reverse)) := rfl
@[simp] theorem dRv_t (ds : List D) : dRv (.tup ds) = .ok (.val (.tup ds.reverse)) := rfl
@[simp] theorem isT_non (cs : List PySem.Str) (t : Ty) : isT cs t .non = some false := by cases t <;> rfl
@[simp] theorem isT_int (cs : List PySem.Str) (t : Ty) (i : Int) : isT cs t (.int i) = some (match t with | .int => true | _ => false) := by cases t <;> rfl
@[simp] theorem isT_bl (cs : List PySem.Str) (t : Ty) (i : Bool) : isT cs t (.bl i) = some (match t with | .int => true | .bool => true | _ => false) := by cases t <;> rfl
@[simp] theorem isT_str (cs : List PySem.Str) (t : Ty) (i : PySem.Str) : isT cs t (.str i) = some (match t with | .str => true | _ => false) := by cases t <;> rfl
@[simp] theorem isT_tup (cs : List PySem.Str) (t : Ty) (i : List D) : isT cs t (.tup i) = some (match t with | .tuple => true | _ => false) := by cases t <;> rfl
@[simp] theorem isT_lst (cs : List PySem.Str) (t : Ty) (i : List D) : isT cs t (.lst i) = some (match t with | .list => true | _ => false) := by cases t <;> rfl
@[simp] theorem isT_dct (cs : List PySem.Str) (t : Ty) (q : Bool) (i : List (D × D)) : isT cs t (.dct q i) = some (match t with | .dict => true | _ => false) := by cases t <;> rfl
@[simp] theorem dIsi_ap (cs : List PySem.Str) (t : Ty) (d : D) : dIsi cs t d = (rO (isT cs t d)).bind fun b => .ok (.val (.bl b)) := rfl
@[simp] theorem mAppend_l (ds : List D) (x : D) : mAppend (.lst ds) [x] = if ds.length < 16000000 then some (.lst (ds ++ [x]), .non) else none := rfl
@[simp] theorem mExtend_l (ds xs : List D) : mExtend (.lst ds) [.lst xs] = if ds.length + xs.length ≤ 16000000 then some (.lst (ds ++ xs), .non) else none := rfl
@[simp] theorem mPop_l (ds : List D) : mPop (.lst ds) [] = (ds[ds.length - 1]?).map fun x => (.lst ds.dropLast, x) := rfl
@[simp] theorem mPop_i (ds : List D) (i : Int) : mPop (.lst ds) [.int i] = (ixN ds.length i).bind fun j => (ds[j]?).map fun x => (.lst (ds.eraseIdx j), x) := rfl
@[simp] theorem mInsert_l (ds : List D) (i : Int) (x : D) : mInsert (.lst ds) [.int i, x] = if ds.length < 16000000 ∧ 0 ≤ i ∧ i < 2 ^ 63 then some (.lst (ds.take i.toNat ++ [x] ++ ds.drop i.toNat), .non) else none := rfl
@[simp] theorem mReverse_l (ds : List D) : mReverse (.lst ds) [] = some (.lst ds.reverse, .non) := rfl
@[simp] theorem setL_l (ds : List D) (k : Int) (v : D) : setL (.lst ds) (.int k) v = (ixN ds.length k).map fun j => .lst (ds.set j v) := rfl
theorem atI_num {ns : List Int} {p : Nat} (h : p < ns.length) : atI (ns.map D.int) (p : Int) = some (.int ns[p]) := atI_nat (by rw [List.getElem?_map, List.getElem?_eq_getElem h]; rfl)
/-- a tape as it stands -/
def TapeV (t : Tp) : Prop := ∃ (ns : List Int) (p : Nat) (a b c : Int), t = some (.lst [.lst (ns.map D.int), .int p, .int a, .int b, .int c])
end Pu
namespace Pu
open PySem L2
open Classical

/-! # plain helpers -/
section
variable {A : Type} {g : DG} {c : DT} {f : DE} {r : Env} {T : Tp}
theorem lc_mapE (e h : A → D) (xs : List A) (s : ∀ x ∈ xs, ∃ m, g (e x) = some m ∧ dv (f (setE r m) T) = .ok (h x, T)) : lcD g xYes f (xs.map e) r T = .ok (xs.map h, T) := by
  induction xs with
  | nil => rfl
  | cons x xs ih =>
    obtain ⟨m, hm, e1⟩ := s x List.mem_cons_self
    show (rO (g (e x))).bind (fun m => (noX (xYes (setE r m) T)).bind fun b => if b.1 = true then (noX (dv (f (setE r m) b.2))).bind fun v => (lcD g xYes f (xs.map e) r v.2).bind fun q => .ok (v.1 :: q.1, q.2) else lcD g xYes f (xs.map e) r b.2) = _
    rw [hm]
    simp only [rO_some, Rs.bind_ok, xYes_ap, noX_ok, if_true, e1]
    rw [ih fun y z => s y (List.mem_cons_of_mem _ z)]
    rfl
theorem lc_filterE (e h : A → D) (b : A → Bool) (xs : List A) (s : ∀ x ∈ xs, ∃ m, g (e x) = some m ∧ c (setE r m) T = .ok (b x, T) ∧ (b x = true → dv (f (setE r m) T) = .ok (h x, T))) : lcD g c f (xs.map e) r T = .ok ((xs.filter b).map h, T) := by
  induction xs with
  | nil => rfl
  | cons x xs ih =>
    obtain ⟨m, hm, e1, e2⟩ := s x List.mem_cons_self
    have ih := ih fun y z => s y (List.mem_cons_of_mem _ z)
    show (rO (g (e x))).bind (fun m => (noX (c (setE r m) T)).bind fun b => if b.1 = true then (noX (dv (f (setE r m) b.2))).bind fun v => (lcD g c f (xs.map e) r v.2).bind fun q => .ok (v.1 :: q.1, q.2) else lcD g c f (xs.map e) r b.2) = _
    rw [hm]
    simp only [rO_some, Rs.bind_ok, noX_ok, e1]
    cases q : b x with
    | true =>
      rw [List.filter_cons_of_pos q, if_pos rfl, e2 q]
      simp only [noX_ok, Rs.bind_ok]
      rw [ih]
      rfl
    | false => rw [List.filter_cons_of_neg (by rw [q]; exact Bool.false_ne_true), if_neg Bool.false_ne_true, ih]
end
@[simp] theorem nums_mapE {A : Type} (h : A → Int) (xs : List A) : nums (xs.map fun x => D.int (h x)) = some (xs.map h) := by
  have := ints_map (xs.map h)
  rwa [List.map_map] at this
@[simp] theorem bls_mapE {A : Type} (h : A → Bool) (xs : List A) : bls (xs.map fun x => D.bl (h x)) = some (xs.map h) := by
  have := bools_map (xs.map h)
  rwa [List.map_map] at this
@[simp] theorem iRng_ap (g : DA) (r : Env) (T : Tp) : iRng g r T = (g r T).bind fun p => (argR p.1).bind fun q => if -8000000 ≤ q.1 ∧ q.1 ≤ 8000000 ∧ -8000000 ≤ q.2 ∧ q.2 ≤ 8000000 then .ok (rngD q.1 (q.2 - q.1).toNat, p.2) else .stuck := rfl
theorem rngD_get {lo : Int} {n i : Nat} {d : D} (h : (rngD lo n)[i]? = some d) : i < n ∧ d = .int (lo + i) := by
  unfold rngD at h
  rw [List.getElem?_map] at h
  by_cases hi : i < n
  · rw [List.getElem?_range hi] at h
    cases h
    exact ⟨hi, rfl⟩
  · rw [List.getElem?_eq_none (by simpa using hi)] at h
    cases h
@[simp] theorem rngD_len (lo : Int) (n : Nat) : (rngD lo n).length = n := by simp [rngD]
theorem enumD_zip : ∀ (ds : List D) (k : Nat), enumD k ds = (ds.zipIdx k).map fun p => .tup [.int (p.2 : Nat), p.1]
  | [], _ => rfl
  | d :: ds, k => by rw [List.zipIdx_cons, List.map_cons, ← enumD_zip ds (k + 1)]; rfl
theorem enumD_map {A : Type} (e : A → D) (xs : List A) : enumD 0 (xs.map e) = xs.zipIdx.map fun p => .tup [.int (p.2 : Nat), e p.1] := by
  rw [enumD_zip, List.zipIdx_map, List.map_map]
  rfl
/-! sorting -/
def leI (a b : Int) : Bool := decide (a ≤ b)
def srtI (ns : List Int) : List Int := ns.mergeSort leI
theorem leI_tr (a b c : Int) (h : leI a b = true) (k : leI b c = true) : leI a c = true := by
  simp only [leI, decide_eq_true_eq] at *
  omega
theorem leI_tot (a b : Int) : (leI a b || leI b a) = true := by
  simp only [leI, Bool.or_eq_true, decide_eq_true_eq]
  omega
theorem srtI_sorted (ns : List Int) : (srtI ns).Pairwise (· ≤ ·) := (List.pairwise_mergeSort leI_tr leI_tot ns).imp fun h => by simpa [leI] using h
theorem srtI_perm (ns : List Int) : (srtI ns).Perm ns := List.mergeSort_perm _ _
theorem srt_uniq {xs ys : List Int} (p : xs.Perm ys) (h1 : xs.Pairwise (· ≤ ·)) (h2 : ys.Pairwise (· ≤ ·)) : xs = ys := List.Perm.eq_of_pairwise (fun a b _ _ h k => Int.le_antisymm h k) h1 h2 p
theorem srt_known {xs ys : List Int} (p : xs.Perm ys) (h : ys.Pairwise (· ≤ ·)) : srtI xs = ys := srt_uniq ((srtI_perm xs).trans p) (srtI_sorted _) h
theorem srtI_congr {xs ys : List Int} (p : xs.Perm ys) : srtI xs = srtI ys := srt_uniq ((srtI_perm xs).trans (p.trans (srtI_perm ys).symm)) (srtI_sorted _) (srtI_sorted _)
@[simp] theorem srtI_len (ns : List Int) : (srtI ns).length = ns.length := (srtI_perm ns).length_eq
theorem allAlike_map {A : Type} (e : A → D) (h : ∀ a b, PySem.W.alike (py (e a)) (py (e b)) = true) (xs : List A) : PySem.W.AllAlike ((xs.map e).map py) := by
  intro d hd d' hd'
  rw [List.map_map] at hd hd'
  obtain ⟨a, _, rfl⟩ := List.mem_map.mp hd
  obtain ⟨b, _, rfl⟩ := List.mem_map.mp hd'
  exact h a b
theorem srtOk_int (ns : List Int) : SrtOk (ns.map D.int) := by
  refine ⟨fun d hd => ?_, allAlike_map _ (fun a b => by simp [PySem.W.alike]) ns, .inr fun d hd => ?_⟩
  · obtain ⟨a, _, rfl⟩ := List.mem_map.mp hd
    simp
  · rw [List.map_map] at hd
    obtain ⟨a, _, rfl⟩ := List.mem_map.mp hd
    simp
theorem srtd_int (ns : List Int) : srtd (ns.map D.int) = (srtI ns).map D.int := by
  unfold srtd srtI
  refine (List.map_mergeSort (r := leI) fun a _ b _ => ?_).symm
  have := congrFun (congrFun (PySem.W.dataLe_int (β := Int) fun x => x) a) b
  unfold leI
  rw [← this]
  unfold PySem.W.dataLe PySem.W.sortLe
  simp
def leP (p q : Int × Int) : Bool := decide (p.1 < q.1 ∨ (p.1 = q.1 ∧ p.2 ≤ q.2))
def dPr (p : Int × Int) : D := .tup [.int p.1, .int p.2]
def srtP (ps : List (Int × Int)) : List (Int × Int) := ps.mergeSort leP
theorem leP_tr (a b c : Int × Int) (h : leP a b = true) (k : leP b c = true) : leP a c = true := by
  simp only [leP, decide_eq_true_eq] at *
  omega
theorem leP_tot (a b : Int × Int) : (leP a b || leP b a) = true := by
  simp only [leP, Bool.or_eq_true, decide_eq_true_eq]
  omega
theorem srtP_perm (ps : List (Int × Int)) : (srtP ps).Perm ps := List.mergeSort_perm _ _
theorem srtP_sorted (ps : List (Int × Int)) : (srtP ps).Pairwise fun a b => leP a b = true := List.pairwise_mergeSort leP_tr leP_tot ps
theorem srtOk_pair (ps : List (Int × Int)) : SrtOk (ps.map dPr) := by
  refine ⟨fun d hd => ?_, allAlike_map _ (fun a b => by simp [dPr, PySem.W.alike, PySem.W.alikeAll]) ps, .inl fun d hd => ?_⟩
  · obtain ⟨a, _, rfl⟩ := List.mem_map.mp hd
    simp [dPr]
  · rw [List.map_map] at hd
    obtain ⟨a, _, rfl⟩ := List.mem_map.mp hd
    exact ⟨.int a.1, [.int a.2], by simp [dPr]⟩
theorem srtd_pair (ps : List (Int × Int)) : srtd (ps.map dPr) = (srtP ps).map dPr := by
  unfold srtd srtP
  refine (List.map_mergeSort (r := leP) fun a _ b _ => ?_).symm
  have := congrFun (congrFun (PySem.W.dataLe_ii (β := Int × Int) (fun x => x.1) (fun x => x.2)) a) b
  unfold leP
  rw [← this]
  unfold PySem.W.dataLe PySem.W.sortLe
  simp [dPr]
theorem sum_perm {xs ys : List Int} (p : xs.Perm ys) : xs.sum = ys.sum := by
  induction p with
  | nil => rfl
  | cons x _ ih => simp [ih]
  | swap x y l => simp; omega
  | trans _ _ a b => exact a.trans b
/-- items of tuples and lists of whole numbers -/
theorem atI_ofNat {A : Type} {xs : List A} {k : Nat} {x : A} (h : xs[k]? = some x) : atI xs (k : Int) = some x := atI_nat h
theorem ixN_some {n : Nat} {i : Int} (h0 : 0 ≤ i) (h1 : i < n) : ixN n i = some i.toNat := by
  obtain ⟨k, rfl⟩ := Int.eq_ofNat_of_zero_le h0
  exact ixN_nat (by omega)
theorem atI_some {A : Type} {xs : List A} {i : Int} (h0 : 0 ≤ i) (h1 : i < xs.length) : atI xs i = some (xs[i.toNat]'(by omega)) := by
  obtain ⟨k, rfl⟩ := Int.eq_ofNat_of_zero_le h0
  refine atI_nat (List.getElem?_eq_getElem (by omega))
/-- the item at i, 0 beyond -/
def nth (s : List Int) (i : Nat) : Int := s.getD i 0
theorem nth_get {s : List Int} {i : Nat} (h : i < s.length) : nth s i = s[i] := by
  unfold nth
  rw [List.getD_eq_getElem?_getD, List.getElem?_eq_getElem h]
  rfl
theorem nth_mem {s : List Int} {i : Nat} (h : i < s.length) : nth s i ∈ s := by
  rw [nth_get h]
  exact List.getElem_mem h
theorem atI_int {ns : List Int} {i : Int} (h0 : 0 ≤ i) (h1 : i < ns.length) : atI (ns.map D.int) i = some (.int (nth ns i.toNat)) := by
  have hk : i.toNat < ns.length := by omega
  rw [atI_some h0 (by rw [List.length_map]; exact h1), List.getElem_map, nth_get hk]
theorem rngD_map (lo : Int) (n : Nat) : rngD lo n = (List.range n).map fun (i : Nat) => D.int (lo + i) := rfl
/-- loops as they should be -/
def Lps (ns : List Int) : Prop := 0 < ns.length ∧ ns.length ≤ 8 ∧ ∀ i ∈ ns, 1 ≤ i ∧ i ≤ 40
/-- a sorted row doubles -/
def dbl (s : List Int) : Bool := decide (nth s 0 = 1) && (List.range (s.length - 1)).all fun i => decide (nth s (i + 1) ≤ 2 * nth s i)
theorem max_of {ns : List Int} (h : 0 < ns.length) (hm : ∀ j ∈ ns, 1 ≤ j ∧ j ≤ 40) : ∃ m, ns.max? = some m ∧ 1 ≤ m ∧ m ≤ 40 := by
  cases e : ns.max? with
  | none =>
    rw [List.max?_eq_none_iff] at e
    subst e
    cases h
  | some m => exact ⟨m, rfl, hm m (List.max?_eq_some_iff.mp e).1⟩
theorem shuffle_step {xs : List Int} {j : Nat} (h : j < xs.length) : (xs.map D.int)[j]? = some (.int (nth xs j)) := by
  rw [List.getElem?_map, List.getElem?_eq_getElem h, nth_get h]
  rfl
@[simp] theorem erase_map : ∀ (xs : List Int) (j : Nat), (xs.map D.int).eraseIdx j = (xs.eraseIdx j).map D.int
  | [], _ => rfl
  | _ :: _, 0 => rfl
  | x :: xs, j + 1 => by simp [erase_map xs j]
theorem mem_erase {xs : List Int} {j : Nat} {x : Int} (h : x ∈ xs.eraseIdx j) : x ∈ xs := List.mem_of_mem_eraseIdx h
/-! one statement behind another, with what holds between -/
def nxP (P : Env → Tp → Prop) : Fl × Tp → Prop
  | (.nx r, T) => P r T
  | _ => False
@[simp] theorem nxP_nx (P : Env → Tp → Prop) (r : Env) (T : Tp) : nxP P (.nx r, T) ↔ P r T := Iff.rfl
theorem wp_seq {f g : DS} {r : Env} {T : Tp} {Q : Fl × Tp → Prop} (P : Env → Tp → Prop) (h1 : wp (f r T) (nxP P)) (h2 : ∀ r T, P r T → wp (g r T) Q) : wp (sSeq f g r T) Q := by
  obtain ⟨⟨fl, T2⟩, e, q⟩ := h1
  rw [sSeq_ap, e, Rs.bind_ok]
  cases fl with
  | nx r2 => exact h2 r2 T2 q
  | rt v => exact q.elim
  | bk r2 => exact q.elim
  | ct r2 => exact q.elim
/-- the law, once its tape is made -/
theorem wp_law {i n : Nat} {f : DE} {g : DS} {ds : List D} {d : D} {T2 : Tp} (h : f (env0 n false ds) none = .ok (.own d, T2)) (k : wp (g ((env0 n false ds).set i (some .tape)) (some d)) fun p => p.1 = .rt (.val (.bl true))) :
    ∃ T, runD n false (fun r T => if T.isNone then sTape i f g r T else .stuck) ds none = .ok (.val (.bl true), T) := by
  have q : wp (sTape i f g (env0 n false ds) none) fun p => p = (.rt (.val (.bl true)), none) := by
    refine (sTape_ap i f g _ none d T2 h).mpr (wp_imp k fun p e => ⟨_, e, rfl⟩)
  obtain ⟨p, e, rfl⟩ := q
  refine ⟨none, ?_⟩
  rw [runD_ap]
  show (sTape i f g (env0 n false ds) none).bind endK = _
  rw [e]
  rfl
theorem lps_set {ns : List Int} {j : Nat} {x : Int} (h : Lps ns) (hx : 1 ≤ x ∧ x ≤ 40) : Lps (ns.set j x) := by
  refine ⟨by rw [List.length_set]; exact h.1, by rw [List.length_set]; exact h.2.1, fun i hi => ?_⟩
  rcases List.mem_or_eq_of_mem_set hi with z | z
  · exact h.2.2 i z
  · rw [z]; exact hx
theorem lps_erase {ns : List Int} {j : Nat} (h : Lps ns) (h1 : 1 < ns.length) : Lps (ns.eraseIdx j) := by
  have := List.length_eraseIdx (l := ns) (i := j)
  have h2 := h.2.1
  refine ⟨?_, ?_, fun i hi => h.2.2 i (mem_erase hi)⟩
  · rw [this]; split <;> omega
  · rw [this]; split <;> omega
theorem lps_ins {ns : List Int} {j : Nat} {x : Int} (h : Lps ns) (h1 : ns.length < 8) (hx : 1 ≤ x ∧ x ≤ 40) : Lps (ns.take j ++ x :: ns.drop j) := by
  have e : (ns.take j ++ x :: ns.drop j).length = ns.length + 1 := by
    rw [List.length_append, List.length_cons, List.length_take, List.length_drop]
    omega
  refine ⟨by omega, by omega, fun i hi => ?_⟩
  rcases List.mem_append.mp hi with z | z
  · exact h.2.2 i (List.mem_of_mem_take z)
  · rcases List.mem_cons.mp z with z | z
    · rw [z]; exact hx
    · exact h.2.2 i (List.mem_of_mem_drop z)
theorem atI_3 {a b c : D} {i : Int} (h0 : 0 ≤ i) (h1 : i < 3) : atI [a, b, c] i = some (if i = 0 then a else if i = 1 then b else c) := by
  have : i = 0 ∨ i = 1 ∨ i = 2 := by omega
  rcases this with rfl | rfl | rfl <;> rfl
end Pu
namespace Pu
open PySem L2
open Classical

/-! ## while: by fuel that is enough -/
def whF (c : DT) (w : DS) : Nat → DS
  | 0, _, _ => .stuck
  | n + 1, r, T => (c r T).bind fun b => if b.1 = true then (w r b.2).bind fun p => (match p.1 with
    | .nx r' => whF c w n r' p.2
    | .ct r' => whF c w n r' p.2
    | .bk r' => .ok (.nx r', p.2)
    | .rt v => .ok (.rt v, p.2)) else .ok (.nx r, b.2)
noncomputable def sWhile (c : DT) (w : DS) : DS := fun r T => if h : ∃ n, whF c w n r T ≠ .stuck then whF c w (choose h) r T else .stuck
theorem ss_while {X : Cx} {C : FC} {e : Expr} {body : List Stmt} {c : DT} {w : DS} {pos : Pos} (hp : PassesOwn (model X.prog X.w) X.A X.env X.xe) (hc : ST X C e c) (hb : SSs X C body w) : SSt X C (.While e body [] pos) (sWhile c w) := by
  refine ps_imp (ps_while hp hc hb) ?_
  rintro D σ H ⟨ρ, T, h, P⟩
  unfold sWhile at P
  by_cases hh : ∃ n, whF c w n ρ T ≠ .stuck
  · rw [dif_pos hh] at P
    refine ⟨fun m σ H => ∃ ρ T, Holds X.K X.mg C Z0 ρ T σ H ∧ PostS X.K X.mg C (GS X.K X.mg C D) (whF c w m ρ T), ⟨_, ρ, T, h, P⟩, ?_⟩
    rintro m σ H ⟨ρ, T, h, P⟩
    cases m with
    | zero => exact P.elim
    | succ m =>
      have P : PostS X.K X.mg C (GS X.K X.mg C D) ((c ρ T).bind fun b => if b.1 = true then (w ρ b.2).bind fun p => (match p.1 with
        | .nx r' => whF c w m r' p.2
        | .ct r' => whF c w m r' p.2
        | .bk r' => .ok (.nx r', p.2)
        | .rt v => .ok (.rt v, p.2)) else .ok (.nx ρ, b.2)) := P
      refine ⟨ρ, T, h, (PostS.at P.bind).imp fun b P => ?_⟩
      obtain ⟨b, T'⟩ := b
      intro H' h' e'
      cases b with
      | false => exact (show ∀ σ H, Holds X.K X.mg C Z0 ρ T' σ H → D.nx σ H from P) σ H' h'
      | true =>
        rw [if_pos rfl]
        refine ⟨fun σ' H' => ∃ ρ T, Holds X.K X.mg C Z0 ρ T σ' H' ∧ PostS X.K X.mg C (GS X.K X.mg C D) (whF c w m ρ T), fun σ' H' q => ⟨m, Nat.lt_succ_self m, q⟩, ρ, T', h', ?_⟩
        refine (PostS.bind (x := w ρ T') P).imp fun p P => ?_
        obtain ⟨fl, T2⟩ := p
        cases fl with
        | nx r' => exact fun σ' H2 h2 => ⟨r', T2, h2, P⟩
        | ct r' => exact fun σ' H2 h2 => ⟨r', T2, h2, P⟩
        | bk r' => exact P
        | rt v => exact P
  · rw [dif_neg hh] at P
    exact P.elim
theorem whF_mono {c : DT} {w : DS} : ∀ (n m : Nat) (r : Env) (T : Tp), n ≤ m → whF c w n r T ≠ .stuck → whF c w m r T = whF c w n r T
  | 0, _, _, _, _, h => absurd rfl h
  | n + 1, 0, _, _, h, _ => absurd h (Nat.not_succ_le_zero n)
  | n + 1, m + 1, r, T, hl, h => by
    have hl := Nat.le_of_succ_le_succ hl
    unfold whF at h ⊢
    cases e1 : c r T with
    | stuck => rfl
    | exc _ _ _ _ => rfl
    | ok b =>
      rw [e1, Rs.bind_ok] at h
      simp only [Rs.bind_ok]
      by_cases hb : b.1 = true
      · rw [if_pos hb] at h ⊢
        rw [if_pos hb]
        cases e2 : w r b.2 with
        | stuck => rfl
        | exc _ _ _ _ => rfl
        | ok p =>
          rw [e2, Rs.bind_ok] at h
          simp only [Rs.bind_ok]
          obtain ⟨fl, T2⟩ := p
          cases fl with
          | nx r' => exact whF_mono n m r' T2 hl h
          | ct r' => exact whF_mono n m r' T2 hl h
          | bk r' => rfl
          | rt v => rfl
      · rw [if_neg hb]
        rw [if_neg hb]
theorem sWhile_at {c : DT} {w : DS} {n : Nat} {r : Env} {T : Tp} (h : whF c w n r T ≠ .stuck) : sWhile c w r T = whF c w n r T := by
  have hh : ∃ n, whF c w n r T ≠ .stuck := ⟨n, h⟩
  unfold sWhile
  rw [dif_pos hh]
  rcases Nat.le_total n (choose hh) with q | q
  · exact whF_mono _ _ r T q h
  · exact (whF_mono _ _ r T q (choose_spec hh)).symm
/-- a while loop, by an invariant and a measure -/
theorem wp_while {c : DT} {w : DS} {Q : Fl × Tp → Prop} (I : Nat → Env → Tp → Prop) (hs : ∀ m r T, I m r T → wp (c r T) fun b => (b.1 = true → wp (w r b.2) (loopK (fun r' T' => ∃ m', m' < m ∧ I m' r' T') Q)) ∧ (b.1 = false → Q (.nx r, b.2))) (m : Nat) (r : Env) (T : Tp) (h : I m r T) : wp (sWhile c w r T) Q := by
  have go : ∀ (m : Nat) (r : Env) (T : Tp), I m r T → wp (whF c w (m + 1) r T) Q := by
    intro m
    induction m using Nat.strongRecOn with
    | ind m ih =>
      intro r T h
      obtain ⟨b, e1, q⟩ := hs m r T h
      unfold whF
      rw [e1, Rs.bind_ok]
      by_cases hb : b.1 = true
      · have q := q.1 hb
        rw [if_pos hb]
        obtain ⟨⟨fl, T2⟩, e2, q⟩ := q
        rw [e2, Rs.bind_ok]
        have next : ∀ r', (∃ m', m' < m ∧ I m' r' T2) → wp (whF c w m r' T2) Q := fun r' ⟨m', lt, hI⟩ => by
          obtain ⟨a, ea, qa⟩ := ih m' lt r' T2 hI
          refine ⟨a, ?_, qa⟩
          rw [whF_mono (m' + 1) m r' T2 lt (by rw [ea]; intro z; cases z), ea]
        cases fl with
        | nx r' => exact next r' q
        | ct r' => exact next r' q
        | bk r' => exact (wp_ok _).mpr q
        | rt v => exact (wp_ok _).mpr q
      · have q := q.2 (by simpa using hb)
        rw [if_neg hb]
        exact (wp_ok _).mpr q
  obtain ⟨a, ea, qa⟩ := go m r T h
  exact ⟨a, by rw [sWhile_at (n := m + 1) (by rw [ea]; intro z; cases z), ea], qa⟩
/-! ## slices opened; rows compared -/
@[simp] theorem partE_none (r : Env) (T : Tp) : partE none r T = .ok (none, T) := rfl
@[simp] theorem partE_some (f : DE) (r : Env) (T : Tp) : partE (some f) r T = (dt (f r T)).bind fun p => (dI p.1).bind fun i => .ok (some i, p.2) := rfl
@[simp] theorem eSl_ap (f : DE) (lo hi : Option DE) (r : Env) (T : Tp) : eSl f lo hi r T = (dt (f r T)).bind fun p => (partE lo r p.2).bind fun a => (partE hi r a.2).bind fun b => lift (dSl p.1 a.1 b.1) b.2 := rfl
@[simp] theorem dSl_l (ds : List D) (lo hi : Option Int) : dSl (.lst ds) lo hi = .ok (.own (.lst (cutA ds lo hi))) := rfl
@[simp] theorem dSl_t (ds : List D) (lo hi : Option Int) : dSl (.tup ds) lo hi = .ok (.val (.tup (cutA ds lo hi))) := rfl
theorem cutA_to {A : Type} {xs : List A} {k : Int} (h : 0 ≤ k) : cutA xs none (some k) = xs.take k.toNat := by
  obtain ⟨n, rfl⟩ := Int.eq_ofNat_of_zero_le h
  unfold cutA
  rw [HT.sIx_none, List.drop_zero, Nat.sub_zero]
  show xs.take (HT.sIx xs.length xs.length (some (n : Int))) = _
  rw [HT.sIx_nat]
  show _ = xs.take n
  rcases Nat.le_total n xs.length with q | q
  · rw [Nat.min_eq_left q]
  · rw [Nat.min_eq_right q, List.take_of_length_le (Nat.le_refl _), List.take_of_length_le q]
theorem cutA_from {A : Type} {xs : List A} {k : Int} (h : 0 ≤ k) : cutA xs (some k) none = xs.drop k.toNat := by
  obtain ⟨n, rfl⟩ := Int.eq_ofNat_of_zero_le h
  unfold cutA
  rw [HT.sIx_none]
  show (xs.drop (HT.sIx xs.length 0 (some (n : Int)))).take _ = _
  rw [HT.sIx_nat]
  show _ = xs.drop n
  rcases Nat.le_total n xs.length with q | q
  · rw [Nat.min_eq_left q, List.take_of_length_le (by rw [List.length_drop]; exact Nat.le_refl _)]
  · rw [Nat.min_eq_right q, Nat.sub_self, List.take_zero, List.drop_eq_nil_of_le q]
/-- xs[:-1] -/
theorem cutA_init {A : Type} {xs : List A} : cutA xs none (some (-1)) = xs.dropLast := by
  unfold cutA
  rw [HT.sIx_none, List.drop_zero, Nat.sub_zero, List.dropLast_eq_take]
  congr 1
  show (if (-1 : Int) < 0 then ((-1 : Int) + (xs.length : Int)).toNat else min (-1 : Int).toNat xs.length) = _
  rw [if_pos (by decide)]
  omega
theorem atI_last {A : Type} {xs : List A} {x : A} : atI (xs ++ [x]) (-1) = some x := by
  unfold L2.atI
  have e : ixN (xs ++ [x]).length (-1) = some xs.length := by
    unfold ixN
    rw [List.length_append, List.length_singleton, if_neg (by decide), if_pos (by omega)]
    congr 1
    omega
  rw [e]
  simp
theorem eqvAll_int : ∀ (ns ms : List Int), PyData.eqvAll (ns.map PyData.int) (ms.map PyData.int) = decide (ns = ms)
  | [], [] => by simp [PyData.eqvAll]
  | [], _ :: _ => by simp [PyData.eqvAll]
  | _ :: _, [] => by simp [PyData.eqvAll]
  | n :: ns, m :: ms => by
    rw [List.map_cons, List.map_cons, PyData.eqvAll, eqvAll_int ns ms, PyData.eqv]
    by_cases h : n = m <;> by_cases k : ns = ms <;> simp [h, k]
theorem pl_ints (ns : List Int) : ∀ d ∈ ns.map D.int, Pl 39 d := fun d hd => by
  obtain ⟨a, _, rfl⟩ := List.mem_map.mp hd
  simp
theorem py_ints (ns : List Int) : (ns.map D.int).map py = ns.map PyData.int := by
  rw [List.map_map]
  apply List.map_congr_left
  intro a _
  simp
theorem eqv_tt (ns ms : List Int) : PyData.eqv (py (.tup (ns.map D.int))) (py (.tup (ms.map D.int))) = decide (ns = ms) := by
  rw [py_tup, py_tup, py_ints, py_ints, PyData.eqv, eqvAll_int]
theorem eqv_ll (ns ms : List Int) : PyData.eqv (py (.lst (ns.map D.int))) (py (.lst (ms.map D.int))) = decide (ns = ms) := by
  rw [py_lst, py_lst, py_ints, py_ints, PyData.eqv, eqvAll_int]
@[simp] theorem dEq_tt (ns ms : List Int) : dEq (.tup (ns.map D.int)) (.tup (ms.map D.int)) = .ok (.val (.bl (decide (ns = ms)))) := by
  unfold dEq dPl
  rw [if_pos ⟨pl_ints ns, pl_ints ms, trivial⟩]
  simp only [eqv_tt]
@[simp] theorem dNe_tt (ns ms : List Int) : dNe (.tup (ns.map D.int)) (.tup (ms.map D.int)) = .ok (.val (.bl (!decide (ns = ms)))) := by
  unfold dNe dPl
  rw [if_pos ⟨pl_ints ns, pl_ints ms, trivial⟩]
  simp only [eqv_tt]
@[simp] theorem dEq_ll (ns ms : List Int) : dEq (.lst (ns.map D.int)) (.lst (ms.map D.int)) = .ok (.val (.bl (decide (ns = ms)))) := by
  unfold dEq dPl
  rw [if_pos ⟨pl_ints ns, pl_ints ms, trivial⟩]
  simp only [eqv_ll]
@[simp] theorem dNe_ll (ns ms : List Int) : dNe (.lst (ns.map D.int)) (.lst (ms.map D.int)) = .ok (.val (.bl (!decide (ns = ms)))) := by
  unfold dNe dPl
  rw [if_pos ⟨pl_ints ns, pl_ints ms, trivial⟩]
  simp only [eqv_ll]
/-! 1, 2, 4 and so on -/
def pw (m : Nat) : List Int := (List.range m).map fun (i : Nat) => (2 : Int) ^ i
theorem pw_succ (m : Nat) : pw (m + 1) = pw m ++ [2 ^ m] := by unfold pw; rw [List.range_succ, List.map_append]; rfl
@[simp] theorem pw_len (m : Nat) : (pw m).length = m := by simp [pw]
theorem pw_sum : ∀ m : Nat, (pw m).sum = 2 ^ m - 1
  | 0 => rfl
  | m + 1 => by
    rw [pw_succ, List.sum_append, pw_sum m, Int.pow_succ]
    simp
    omega
theorem pw_last {m : Nat} (h : 1 ≤ m) : atI ((pw m).map D.int) (-1) = some (.int (2 ^ (m - 1))) := by
  obtain ⟨k, rfl⟩ : ∃ k, m = k + 1 := ⟨m - 1, by omega⟩
  rw [pw_succ, List.map_append]
  exact atI_last
/-- how many lengths 1, 2, 4 .. reach b -/
def LM (b : Int) (m : Nat) : Prop := 1 ≤ m ∧ b ≤ 2 ^ m - 1 ∧ (m = 1 ∨ (2 : Int) ^ (m - 1) - 1 < b)
theorem lm_ex {b : Int} (h0 : 1 ≤ b) (h1 : b ≤ 60) : ∃ m, LM b m ∧ m ≤ 6 := by
  by_cases c1 : b ≤ 1
  · exact ⟨1, ⟨by omega, by omega, .inl rfl⟩, by omega⟩
  by_cases c2 : b ≤ 3
  · exact ⟨2, ⟨by omega, by omega, .inr (by show (2 : Int) ^ 1 - 1 < b; omega)⟩, by omega⟩
  by_cases c3 : b ≤ 7
  · exact ⟨3, ⟨by omega, by omega, .inr (by show (2 : Int) ^ 2 - 1 < b; omega)⟩, by omega⟩
  by_cases c4 : b ≤ 15
  · exact ⟨4, ⟨by omega, by omega, .inr (by show (2 : Int) ^ 3 - 1 < b; omega)⟩, by omega⟩
  by_cases c5 : b ≤ 31
  · exact ⟨5, ⟨by omega, by omega, .inr (by show (2 : Int) ^ 4 - 1 < b; omega)⟩, by omega⟩
  · exact ⟨6, ⟨by omega, by omega, .inr (by show (2 : Int) ^ 5 - 1 < b; omega)⟩, by omega⟩
theorem pow_pos2 : ∀ a : Nat, (0 : Int) < 2 ^ a
  | 0 => by decide
  | a + 1 => by
    have := pow_pos2 a
    rw [Int.pow_succ]
    omega
theorem pow_mono {a b : Nat} (h : a ≤ b) : (2 : Int) ^ a ≤ 2 ^ b := by
  induction h with
  | refl => exact Int.le_refl _
  | @step k _ ih =>
    have := pow_pos2 k
    rw [Int.pow_succ]
    omega
theorem lm_lt {b : Int} {m k : Nat} (h : LM b m) (h1 : 1 ≤ k) (hk : k < m) : (2 : Int) ^ k - 1 < b := by
  obtain ⟨a1, a2, a3⟩ := h
  rcases a3 with a3 | a3
  · omega
  · have := pow_mono (show k ≤ m - 1 by omega)
    omega
end Pu
namespace Pu
open PySem L2
open Classical

/-! ## dicts -/
noncomputable def lookD (kvs : List (D × D)) (k : D) : Option D := (kvs.find? fun p => decide (p.1 = k)).map (·.2)
noncomputable def putD (kvs : List (D × D)) (k v : D) : List (D × D) := if (kvs.any fun p => decide (p.1 = k)) = true then kvs.map (fun p => if p.1 = k then (p.1, v) else p) else kvs ++ [(k, v)]
noncomputable def dropD (kvs : List (D × D)) (k : D) : List (D × D) := kvs.filter fun p => decide (p.1 ≠ k)
def keyT (ks : List Key) : D := .tup (ks.map kD)
/-- a key of that kind of dict -/
def KeyOk : Bool → D → Prop
  | false, k => ∃ q : Key, k = kD q
  | true, k => ∃ q : List Key, k = keyT q
theorem kD_inj {p q : Key} (h : kD p = kD q) : p = q := by
  cases p <;> cases q <;> cases h <;> rfl
theorem kDs_inj : ∀ {p q : List Key}, p.map kD = q.map kD → p = q
  | [], [], _ => rfl
  | [], _ :: _, h => by cases h
  | _ :: _, [], h => by cases h
  | a :: p, b :: q, h => by
    rw [List.map_cons, List.map_cons] at h
    injection h with h1 h2
    rw [kD_inj h1, kDs_inj h2]
theorem keyT_inj {p q : List Key} (h : keyT p = keyT q) : p = q := by
  unfold keyT at h
  injection h with h
  exact kDs_inj h
section
variable {K : PySem.W.Frag} {mg : PySem.Str → Option Value} {S : Addr → Prop} {H : Hp}
theorem Top.key {v : V} {k : Key} (h : Top K mg S H v (kD k)) : v = kV k := by
  cases k with
  | inl i => exact h.int
  | inr x => exact h.str
theorem Reps.keys : ∀ {ks : List Key} {vs : List V}, Reps K mg S H vs (ks.map kD) → vs = ks.map kV
  | [], vs, h => by cases h; rfl
  | k :: ks, vs, h => by
    cases h with
    | cons p t =>
      rw [Reps.keys t, (show Top K mg S H _ (kD k) from .inl p).key]
      rfl
theorem Top.tupH {v : V} {ds : List D} (h : Top K mg S H v (.tup ds)) : ∃ a vs, v = .ref a ∧ H a = some (.tup vs) ∧ Reps K mg S H vs ds := by
  rcases h with h | ⟨p, rfl, h⟩
  · cases h with
    | tup s e z q => exact ⟨_, _, rfl, e, q⟩
  · cases h
theorem Top.keyT {v : V} {ks : List Key} (h : Top K mg S H v (keyT ks)) : ∃ b, v = .ref b ∧ H b = some (.tup (ks.map kV)) := by
  obtain ⟨a, vs, rfl, e, q⟩ := h.tupH
  rw [q.keys] at e
  exact ⟨a, rfl, e⟩
theorem look_rel {κ : Type} [DecidableEq κ] {e : κ → D} (inj : ∀ p q, e p = e q → p = q) (k : κ) : ∀ {kvs : List (κ × V)} {ds : List (D × D)}, ds.map (·.1) = kvs.map (fun p => e p.1) → Reps K mg S H (kvs.map (·.2)) (ds.map (·.2)) →
    (valV kvs k = none ∧ lookD ds (e k) = none) ∨ ∃ v d, valV kvs k = some v ∧ lookD ds (e k) = some d ∧ Rep K mg S H v d
  | [], [], _, _ => .inl ⟨rfl, rfl⟩
  | [], _ :: _, h, _ => by cases h
  | _ :: _, [], h, _ => by cases h
  | p :: kvs, q :: ds, h, r => by
    rw [List.map_cons, List.map_cons] at h
    injection h with h1 h2
    rw [List.map_cons, List.map_cons] at r
    cases r with
    | cons r1 r2 =>
      by_cases c : p.1 = k
      · refine .inr ⟨p.2, q.2, valV_pos c, ?_, r1⟩
        unfold lookD
        rw [List.find?_cons_of_pos (by rw [h1, c]; exact decide_eq_true rfl)]
        rfl
      · have c2 : ¬ q.1 = e k := fun z => c (inj _ _ (h1.symm.trans z))
        have e2 : lookD (q :: ds) (e k) = lookD ds (e k) := by
          unfold lookD
          rw [List.find?_cons_of_neg (by rw [decide_eq_false c2]; exact Bool.false_ne_true)]
        rw [valV_neg c, e2]
        exact look_rel inj k h2 r2
theorem any_rel {κ : Type} [DecidableEq κ] {e : κ → D} (inj : ∀ p q, e p = e q → p = q) (k : κ) : ∀ {kvs : List (κ × V)} {ds : List (D × D)}, ds.map (·.1) = kvs.map (fun p => e p.1) → (ds.any fun p => decide (p.1 = e k)) = kvs.any fun p => decide (p.1 = k)
  | [], [], _ => rfl
  | [], _ :: _, h => by cases h
  | _ :: _, [], h => by cases h
  | p :: kvs, q :: ds, h => by
    rw [List.map_cons, List.map_cons] at h
    injection h with h1 h2
    rw [List.any_cons, List.any_cons, any_rel inj k h2, h1]
    congr 1
    by_cases c : p.1 = k
    · rw [c, decide_eq_true rfl, decide_eq_true rfl]
    · rw [decide_eq_false c, decide_eq_false fun z => c (inj _ _ z)]
theorem put_rel {κ : Type} [DecidableEq κ] {e : κ → D} (inj : ∀ p q, e p = e q → p = q) (k : κ) {v : V} {d : D} (rv : Rep K mg S H v d) {kvs : List (κ × V)} {ds : List (D × D)} (h : ds.map (·.1) = kvs.map (fun p => e p.1)) (r : Reps K mg S H (kvs.map (·.2)) (ds.map (·.2))) :
    (putD ds (e k) d).map (·.1) = (putK kvs k v).map (fun p => e p.1) ∧ Reps K mg S H ((putK kvs k v).map (·.2)) ((putD ds (e k) d).map (·.2)) := by
  unfold putD putK
  rw [any_rel inj k h]
  by_cases c : (kvs.any fun p => decide (p.1 = k)) = true
  · rw [if_pos c, if_pos c]
    clear c
    induction kvs generalizing ds with
    | nil =>
      cases ds with
      | nil => exact ⟨rfl, .nil⟩
      | cons => cases h
    | cons p kvs ih =>
      cases ds with
      | nil => cases h
      | cons q ds =>
        rw [List.map_cons, List.map_cons] at h
        injection h with h1 h2
        rw [List.map_cons, List.map_cons] at r
        cases r with
        | cons r1 r2 =>
          obtain ⟨i1, i2⟩ := ih h2 r2
          by_cases c : p.1 = k
          · have c2 : q.1 = e k := by rw [h1, c]
            simp only [List.map_cons, if_pos c, if_pos c2]
            exact ⟨by rw [i1, h1], .cons rv i2⟩
          · have c2 : ¬ q.1 = e k := fun z => c (inj _ _ (h1.symm.trans z))
            simp only [List.map_cons, if_neg c, if_neg c2]
            exact ⟨by rw [i1, h1], .cons r1 i2⟩
  · rw [if_neg c, if_neg c, List.map_append, List.map_append, List.map_append, List.map_append]
    exact ⟨by rw [h]; rfl, r.app (.cons rv .nil)⟩
/-- a dict that is looked into -/
theorem Top.dct {v : V} {t : Bool} {ds : List (D × D)} (h : Top K mg S H v (.dct t ds)) :
    (t = false ∧ ∃ a kvs, v = .ref a ∧ H a = some (.dK kvs) ∧ kvs.length ≤ sizeLine ∧ ds.map (·.1) = kvs.map (fun p => kD p.1) ∧ Reps K mg S H (kvs.map (·.2)) (ds.map (·.2))) ∨
    (t = true ∧ ∃ a kvs, v = .ref a ∧ H a = some (.dT kvs) ∧ kvs.length ≤ sizeLine ∧ ds.map (·.1) = kvs.map (fun p => Pu.keyT p.1) ∧ Reps K mg S H (kvs.map (·.2)) (ds.map (·.2))) := by
  rcases h with h | ⟨p, rfl, h⟩
  · cases h with
    | dK s e z g q => exact .inl ⟨rfl, _, _, rfl, e, z, g, q⟩
    | dT s e z g q => exact .inr ⟨rfl, _, _, rfl, e, z, g, q⟩
  · cases h with
    | dK e z g q => exact .inl ⟨rfl, _, _, rfl, e, z, g, q⟩
    | dT e z g q => exact .inr ⟨rfl, _, _, rfl, e, z, g, q⟩
/-- what a look gives -/
theorem dget_of {x y : V} {t : Bool} {ds : List (D × D)} {k : D} (p : Top K mg S H x (.dct t ds)) (q : Top K mg S H y k) (hk : KeyOk t k) : ∃ a o, x = .ref a ∧ IsD H a ∧ DGet H a y o ∧ ((o = none ∧ lookD ds k = none) ∨ ∃ v d, o = some v ∧ lookD ds k = some d ∧ Rep K mg S H v d) := by
  rcases p.dct with ⟨rfl, a, kvs, rfl, e, z, g, r⟩ | ⟨rfl, a, kvs, rfl, e, z, g, r⟩
  · obtain ⟨u, rfl⟩ := hk
    rw [q.key]
    exact ⟨a, valV kvs u, rfl, .inl ⟨kvs, .inl e⟩, .k e, look_rel (fun _ _ => kD_inj) u g r⟩
  · obtain ⟨u, rfl⟩ := hk
    obtain ⟨b, rfl, eb⟩ := q.keyT
    exact ⟨a, valV kvs u, rfl, .inr ⟨kvs, .inl e⟩, .t e eb, look_rel (fun _ _ => keyT_inj) u g r⟩
end
/-! d[k], k in d -/
noncomputable def dGet : D → D → Rs VD
  | .dct t ds, k => if KeyOk t k then (rO (lookD ds k)).bind fun d => .ok (.val d) else .stuck
  | _, _ => .stuck
noncomputable def dInD : D → D → Rs VD
  | k, .dct t ds => if KeyOk t k then .ok (.val (.bl (lookD ds k).isSome)) else .stuck
  | _, _ => .stuck
noncomputable def dNinD : D → D → Rs VD
  | k, .dct t ds => if KeyOk t k then .ok (.val (.bl (!(lookD ds k).isSome))) else .stuck
  | _, _ => .stuck
theorem q_get : Quiet2 dGet := fun d e => by
  unfold dGet
  split <;> first | exact quiet_s | exact quiet_if (quiet_r fun _ => quiet_v) quiet_s
theorem q_ind : Quiet2 dInD := fun d e => by
  unfold dInD
  split <;> first | exact quiet_s | exact quiet_if quiet_v quiet_s
theorem q_nind : Quiet2 dNinD := fun d e => by
  unfold dNinD
  split <;> first | exact quiet_s | exact quiet_if quiet_v quiet_s
def rDGet : R2 := fun x y H Q => ∃ a v, x = .ref a ∧ DGet H a y (some v) ∧ Q v H
def rDIn : R2 := fun y x H Q => ∃ a o, x = .ref a ∧ DGet H a y o ∧ Q (.bl o.isSome) H
def rDNin : R2 := fun y x H Q => ∃ a o, x = .ref a ∧ DGet H a y o ∧ Q (.bl (!o.isSome)) H
theorem ifs_ok {p : Prop} [Decidable p] {x : Rs VD} {z : VD} (h : (if p then x else .stuck) = Rs.ok z) : p ∧ x = .ok z := by
  by_cases c : p
  · rw [if_pos c] at h
    exact ⟨c, h⟩
  · rw [if_neg c] at h
    cases h
section
variable {K : PySem.W.Frag} {mg : PySem.Str → Option Value}
theorem d_get : R2D K mg rDGet dGet := fun S H x y dx dy Q z t p q e k => by
  unfold dGet at e
  split at e
  · obtain ⟨hk, e⟩ := ifs_ok e
    obtain ⟨d, ed, e⟩ := o_ok e
    cases e
    obtain ⟨a, o, rfl, _, g, h⟩ := dget_of p q hk
    rcases h with ⟨_, h⟩ | ⟨v, d2, rfl, h, r⟩
    · rw [h] at ed
      cases ed
    · rw [h] at ed
      cases ed
      exact ⟨a, v, rfl, g, k.pure r⟩
  · cases e
theorem d_ind : R2D K mg rDIn dInD := fun S H x y dx dy Q z t p q e k => by
  unfold dInD at e
  split at e
  · obtain ⟨hk, e⟩ := ifs_ok e
    cases e
    obtain ⟨a, o, rfl, _, g, h⟩ := dget_of q p hk
    refine ⟨a, o, rfl, g, ?_⟩
    rcases h with ⟨rfl, h⟩ | ⟨v, d2, rfl, h, r⟩
    · rw [h] at k
      exact k.pure (.bl _)
    · rw [h] at k
      exact k.pure (.bl _)
  · cases e
theorem d_nind : R2D K mg rDNin dNinD := fun S H x y dx dy Q z t p q e k => by
  unfold dNinD at e
  split at e
  · obtain ⟨hk, e⟩ := ifs_ok e
    cases e
    obtain ⟨a, o, rfl, _, g, h⟩ := dget_of q p hk
    refine ⟨a, o, rfl, g, ?_⟩
    rcases h with ⟨rfl, h⟩ | ⟨v, d2, rfl, h, r⟩
    · rw [h] at k
      exact k.pure (.bl _)
    · rw [h] at k
      exact k.pure (.bl _)
  · cases e
end
section
variable {X : Cx} {C : FC} {a b : Expr} {f g h : DE} {pos : Pos}
theorem op_din (hu : X.A.units + 1 < cLine) : OpR X (compareOp .In) rDIn := by
  rintro ps s σ H y x iv u Q I ry rx ⟨a, o, rfl, gt, q⟩
  obtain rfl : u = Value.ref a := rx
  exact d_in hu I gt ry fun s' I' => ⟨.bl o.isSome, H, I', rfl, q⟩
theorem op_dnin (hu : X.A.units + 1 < cLine) : OpR X (compareOp .NotIn) rDNin := by
  rintro ps s σ H y x iv u Q I ry rx ⟨a, o, rfl, gt, q⟩
  obtain rfl : u = Value.ref a := rx
  exact d_notIn hu I gt ry fun s' I' => ⟨.bl (!o.isSome), H, I', rfl, q⟩
theorem u1 {k : Nat} {A : Around} (r : Room k A) : A.units + 1 < cLine := by
  have := r.un
  omega
theorem se_dget (hu : X.A.units + 1 < cLine) (ha : SE X C a f) (hb : SE X C b g) (hs : NoSl b) : SE X C (.Subscript a b pos) (eOp dGet f g) := pe_imp (pe_dget hu ha hb hs) (t_op d_get q_get)
/-! d.get(k), d.get(k, x) -/
noncomputable def getK (k e : D) : D → Rs D
  | .dct t ds => if KeyOk t k then .ok ((lookD ds k).getD e) else .stuck
  | _ => .stuck
def isDctR : D → Rs Unit
  | .dct _ _ => .ok ()
  | _ => .stuck
noncomputable def eGet2 (f g h : DE) : DE := fun r T => (dt (f r T)).bind fun p => (isDctR p.1).bind fun _ => (dt (g r p.2)).bind fun q => (dv (h r q.2)).bind fun w => (getK q.1 w.1 p.1).bind fun d => .ok (.val d, w.2)
noncomputable def eGet1 (f g : DE) : DE := fun r T => (dt (f r T)).bind fun p => (isDctR p.1).bind fun _ => (dt (g r p.2)).bind fun q => (getK q.1 .non p.1).bind fun d => .ok (.val d, q.2)
theorem isD_of {K : PySem.W.Frag} {mg : PySem.Str → Option Value} {S : Addr → Prop} {H : Hp} {x : V} {t : Bool} {ds : List (D × D)} (p : Top K mg S H x (.dct t ds)) : ∃ a, x = .ref a ∧ IsD H a := by
  rcases p.dct with ⟨_, a, kvs, rfl, e, _⟩ | ⟨_, a, kvs, rfl, e, _⟩
  · exact ⟨a, rfl, .inl ⟨kvs, .inl e⟩⟩
  · exact ⟨a, rfl, .inr ⟨kvs, .inl e⟩⟩
theorem m1_of {o e : Expr} {m : PySem.Str} {apos cpos : Pos} (h1 : attributeBase o m X.env (eval o X.env) = eval o X.env) (h2 : ((backTo cpos (starEach [e] X.env)).all (fun x => !x.1) && (backToKw cpos (keywordEach [] X.env)).all (fun x => x.1.isSome)
    && decide (([e] : List Expr).length + ([] : List Keyword).length + (if ([] : List Keyword).isEmpty then 0 else 1) < 30)) = true) (h3 : (apos.endLine == cpos.line) = true) (h4 : backTo cpos (starEach [e] X.env) = [(false, eval e X.env)]) : M1 X o m apos e cpos := ⟨h1, h2, h3, h4⟩
theorem se_get2 {c : Expr} {apos cpos : Pos} (hu : X.A.units + 1 < cLine) (ha : SE X C a f) (hb : SE X C b g) (hc : SE X C c h) (m : M2 X a "get" apos b c cpos := by exact ⟨by rfl, by rfl, by rfl, by rfl⟩) : SE X C (.Call (.Attribute a "get" apos) [b, c] [] cpos) (eGet2 f g h) := by
  refine pe_imp (pe_dget2 hu ha hb hc m) ?_
  rintro σ H Q ⟨ρ, T, h0, P⟩
  refine ⟨ρ, T, h0, gv_dt h0 P fun d T' v H1 h1 e1 p P1 => ?_⟩
  cases d with
  | dct t ds =>
    obtain ⟨a, rfl, hd⟩ := isD_of p.top
    have P1 : PostG X.K X.mg C σ (GV X.K X.mg C ρ σ H Q) ((dt (g ρ T')).bind fun q => (dv (h ρ q.2)).bind fun w => (getK q.1 w.1 (.dct t ds)).bind fun d => .ok (.val d, w.2)) := P1
    refine ⟨a, rfl, hd, ρ, T', h1, gv_dt h1 P1 fun k T2 vk H2 h2 e2 pk P2 => ⟨ρ, T2, h2, gv_dv h2 P2 fun d3 T3 v3 H3 h3 e3 p3 P3 => ?_⟩⟩
    have P3 : PostG X.K X.mg C σ (GV X.K X.mg C ρ σ H Q) ((if KeyOk t k then Rs.ok ((lookD ds k).getD d3) else .stuck).bind fun d => .ok (.val d, T3)) := P3
    by_cases hk : KeyOk t k
    · rw [if_pos hk] at P3
      obtain ⟨a', o, ea, _, gt, hh⟩ := dget_of ((p.ext e2).ext e3).top (pk.ext e3).top hk
      cases ea
      refine ⟨o, gt, (show GV X.K X.mg C ρ σ H Q (.val ((lookD ds k).getD d3), T3) from P3) _ H3 h3 ((e1.trans e2).trans e3) ?_⟩
      rcases hh with ⟨rfl, hl⟩ | ⟨v, d2, rfl, hl, r⟩
      · rw [hl]
        exact p3
      · rw [hl]
        exact r
    · rw [if_neg hk] at P3
      exact P3.elim
  | _ => exact (show False from P1).elim
theorem se_get1 {apos cpos : Pos} (hu : X.A.units + 1 < cLine) (ha : SE X C a f) (hb : SE X C b g) (m : M1 X a "get" apos b cpos := by exact ⟨by rfl, by rfl, by rfl, by rfl⟩) : SE X C (.Call (.Attribute a "get" apos) [b] [] cpos) (eGet1 f g) := by
  refine pe_imp (pe_dget1 hu ha hb m) ?_
  rintro σ H Q ⟨ρ, T, h0, P⟩
  refine ⟨ρ, T, h0, gv_dt h0 P fun d T' v H1 h1 e1 p P1 => ?_⟩
  cases d with
  | dct t ds =>
    obtain ⟨a, rfl, hd⟩ := isD_of p.top
    have P1 : PostG X.K X.mg C σ (GV X.K X.mg C ρ σ H Q) ((dt (g ρ T')).bind fun q => (getK q.1 .non (.dct t ds)).bind fun d => .ok (.val d, q.2)) := P1
    refine ⟨a, rfl, hd, ρ, T', h1, gv_dt h1 P1 fun k T2 vk H2 h2 e2 pk P2 => ?_⟩
    have P3 : PostG X.K X.mg C σ (GV X.K X.mg C ρ σ H Q) ((if KeyOk t k then Rs.ok ((lookD ds k).getD .non) else .stuck).bind fun d => .ok (.val d, T2)) := P2
    by_cases hk : KeyOk t k
    · rw [if_pos hk] at P3
      obtain ⟨a', o, ea, _, gt, hh⟩ := dget_of (p.ext e2).top pk.top hk
      cases ea
      refine ⟨o, gt, (show GV X.K X.mg C ρ σ H Q (.val ((lookD ds k).getD .non), T2) from P3) _ H2 h2 (e1.trans e2) ?_⟩
      rcases hh with ⟨rfl, hl⟩ | ⟨v, d2, rfl, hl, r⟩
      · rw [hl]
        exact .non
      · rw [hl]
        exact r
    · rw [if_neg hk] at P3
      exact P3.elim
  | _ => exact (show False from P1).elim
/-! {} -/
def eDct (t : Bool) : DE := fun _ T => .ok (.own (.dct t []), T)
theorem se_dct (t : Bool) : SE X C (.Dict [] [] pos) (eDct t) := by
  cases t with
  | false =>
    refine pe_imp pe_dnewK ?_
    rintro σ H Q ⟨ρ, T, h, P⟩
    exact fun p hp => gv_res (z := .own (.dct false [])) h P (fun _ q => by cases q) p _ hp (same_new hp) (.dK upd_same (Nat.zero_le _) rfl .nil)
  | true =>
    refine pe_imp pe_dnewT ?_
    rintro σ H Q ⟨ρ, T, h, P⟩
    exact fun p hp => gv_res (z := .own (.dct true [])) h P (fun _ q => by cases q) p _ hp (same_new hp) (.dT upd_same (Nat.zero_le _) rfl .nil)
end
/-! d[k] = v -/
noncomputable def setD : D → D → D → Option D
  | .dct t ds, k, v => if KeyOk t k ∧ ds.length < 16000000 then some (.dct t (putD ds k v)) else none
  | _, _, _ => none
theorem putK_len {κ : Type} [DecidableEq κ] (kvs : List (κ × V)) (k : κ) (v : V) : (putK kvs k v).length ≤ kvs.length + 1 := by
  unfold putK
  split
  · rw [List.length_map]
    omega
  · rw [List.length_append, List.length_singleton]
    omega
theorem d_setD {K : PySem.W.Frag} {mg : PySem.Str → Option Value} : PStD K mg rSetD setD := fun S H p d i v di dx Q d' hp o ti rv e k => by
  unfold setD at e
  split at e
  · obtain ⟨⟨hk, hl⟩, rfl⟩ := ifo e
    have tp : Top K mg S H (.ref p) _ := .inr ⟨p, rfl, o⟩
    rcases tp.dct with ⟨rfl, a, kvs, ea, h1, z, g, r⟩ | ⟨rfl, a, kvs, ea, h1, z, g, r⟩
    · cases ea
      obtain ⟨u, rfl⟩ := hk
      rw [ti.key]
      have hlen : kvs.length < sizeLine := by
        have := congrArg List.length g
        rw [List.length_map, List.length_map] at this
        rw [sizeLine_eq]
        omega
      obtain ⟨q1, q2⟩ := put_rel (fun _ _ => kD_inj) u (rv.upd (u := .dK (putK kvs u v)) hp) g (r.upd hp)
      have hz : (putK kvs u v).length ≤ sizeLine := Nat.le_trans (putK_len kvs u v) hlen
      exact ⟨p, _, rfl, .k h1 hlen, k _ upd_else (.dK upd_same hz q1 q2)⟩
    · cases ea
      obtain ⟨u, rfl⟩ := hk
      obtain ⟨b, rfl, eb⟩ := ti.keyT
      have hlen : kvs.length < sizeLine := by
        have := congrArg List.length g
        rw [List.length_map, List.length_map] at this
        rw [sizeLine_eq]
        omega
      obtain ⟨q1, q2⟩ := put_rel (fun _ _ => keyT_inj) u (rv.upd (u := .dT (putK kvs u v)) hp) g (r.upd hp)
      have hz : (putK kvs u v).length ≤ sizeLine := Nat.le_trans (putK_len kvs u v) hlen
      exact ⟨p, _, rfl, .t h1 eb hlen, k _ upd_else (.dT upd_same hz q1 q2)⟩
  · cases e
end Pu
namespace Pu
open PySem L2
open Classical

/-! ## a[b], b in a, a[b] = c of a sequence or a dict, by what it is -/
theorem ix_dict {X : Cx} (hu : X.A.units + 1 < cLine) : IxR X rDGet := by
  intro value slice pins s σ H x y v u Q I rx ry h hs
  obtain ⟨a, w, rfl, g, q⟩ := h
  obtain rfl : v = Value.ref a := rx
  exact PyProof.Rows.tail_any (dict_typeIs I g) PySem.F.slot_dict_getitem.lookup (d_getItem hu I g ry fun w' s3 I3 rw' => ⟨w, H, I3, rw', q⟩) hs
def rIxA (K : PySem.W.Frag) : R2 := fun x y H Q => L2.rIx K x y H Q ∨ rDGet x y H Q
theorem ix_any {X : Cx} (hu : X.A.units + 1 < cLine) : IxR X (rIxA X.K) := ix_seq.or (ix_dict hu)
noncomputable def dIxA : D → D → Rs VD
  | .dct t ds, k => dGet (.dct t ds) k
  | .tpl ns, .int i => (rO (atI ns i)).bind fun n => .ok (.val (.int n))
  | d, k => dIx d k
theorem q_ixa : Quiet2 dIxA := fun d e => by
  unfold dIxA
  split
  · exact q_get _ _
  · exact quiet_r fun _ => quiet_v
  · exact q_ix _ _
theorem d_ixa {K : PySem.W.Frag} {mg : PySem.Str → Option Value} : R2D K mg (rIxA K) dIxA := fun S H x y dx dy Q z t p q e k => by
  unfold dIxA at e
  split at e
  · exact .inr (d_get S H x y _ dy Q z t p q e k)
  · obtain ⟨n, en, e⟩ := o_ok e
    cases e
    obtain ⟨a, rfl, h1, z1⟩ := p.tplT
    rw [q.int]
    refine .inl (.inr (.inl ⟨a, _, _, .int n, rfl, rfl, h1, ?_, k.pure (.int n)⟩))
    unfold atI at en ⊢
    rw [List.length_map]
    obtain ⟨j, ej, en⟩ := Option.bind_eq_some_iff.mp en
    rw [ej]
    simp [en]
  · exact .inl (d_ix S H x y dx dy Q z t p q e k)
@[simp] theorem dIxA_l (ds : List D) (i : Int) : dIxA (.lst ds) (.int i) = (rO (atI ds i)).bind fun d => .ok (.val d) := rfl
@[simp] theorem dIxA_t (ds : List D) (i : Int) : dIxA (.tup ds) (.int i) = (rO (atI ds i)).bind fun d => .ok (.val d) := rfl
@[simp] theorem dIxA_p (ns : List Int) (i : Int) : dIxA (.tpl ns) (.int i) = (rO (atI ns i)).bind fun n => .ok (.val (.int n)) := rfl
@[simp] theorem dIxA_d (t : Bool) (ds : List (D × D)) (k : D) : dIxA (.dct t ds) k = if KeyOk t k then (rO (lookD ds k)).bind fun d => .ok (.val d) else .stuck := rfl
noncomputable def dInA : D → D → Rs VD
  | k, .dct t ds => dInD k (.dct t ds)
  | k, d => dInS k d
noncomputable def dNinA : D → D → Rs VD
  | k, .dct t ds => dNinD k (.dct t ds)
  | k, d => dNinS k d
def rInA (K : PySem.W.Frag) (mg : PySem.Str → Option Value) : R2 := fun x y H Q => rPl K mg (fun _ e => isSeq e) (fun d e => (itemsD e).any fun y => PyData.eqv (py y) (py d)) x y H Q ∨ rDIn x y H Q
def rNinA (K : PySem.W.Frag) (mg : PySem.Str → Option Value) : R2 := fun x y H Q => rPl K mg (fun _ e => isSeq e) (fun d e => !(itemsD e).any fun y => PyData.eqv (py y) (py d)) x y H Q ∨ rDNin x y H Q
theorem op_inA {X : Cx} (hu : X.A.units + 64 < cLine) : OpR X (compareOp .In) (rInA X.K X.mg) := (op_inP hu).or (op_din (by omega))
theorem op_ninA {X : Cx} (hu : X.A.units + 64 < cLine) : OpR X (compareOp .NotIn) (rNinA X.K X.mg) := (op_ninP hu).or (op_dnin (by omega))
theorem q_ina : Quiet2 dInA := fun d e => by
  unfold dInA
  split
  · exact q_ind _ _
  · exact q_pl _ _
theorem q_nina : Quiet2 dNinA := fun d e => by
  unfold dNinA
  split
  · exact q_nind _ _
  · exact q_pl _ _
theorem d_ina {K : PySem.W.Frag} {mg : PySem.Str → Option Value} : R2D K mg (rInA K mg) dInA := fun S H x y dx dy Q z t p q e k => by
  unfold dInA at e
  split at e
  · exact .inr (d_ind S H x y dx _ Q z t p q e k)
  · exact .inl (d_pl S H x y dx dy Q z t p q e k)
theorem d_nina {K : PySem.W.Frag} {mg : PySem.Str → Option Value} : R2D K mg (rNinA K mg) dNinA := fun S H x y dx dy Q z t p q e k => by
  unfold dNinA at e
  split at e
  · exact .inr (d_nind S H x y dx _ Q z t p q e k)
  · exact .inl (d_pl S H x y dx dy Q z t p q e k)
@[simp] theorem dInA_d (k : D) (t : Bool) (ds : List (D × D)) : dInA k (.dct t ds) = if KeyOk t k then .ok (.val (.bl (lookD ds k).isSome)) else .stuck := rfl
@[simp] theorem dNinA_d (k : D) (t : Bool) (ds : List (D × D)) : dNinA k (.dct t ds) = if KeyOk t k then .ok (.val (.bl (!(lookD ds k).isSome))) else .stuck := rfl
@[simp] theorem dInA_l (k : D) (ds : List D) : dInA k (.lst ds) = dInS k (.lst ds) := rfl
@[simp] theorem dInA_t (k : D) (ds : List D) : dInA k (.tup ds) = dInS k (.tup ds) := rfl
@[simp] theorem dNinA_l (k : D) (ds : List D) : dNinA k (.lst ds) = dNinS k (.lst ds) := rfl
@[simp] theorem dNinA_t (k : D) (ds : List D) : dNinA k (.tup ds) = dNinS k (.tup ds) := rfl
def rSetA : TSet := fun o i v H Q => L2.rSetL o i v H Q ∨ L2.rSetD o i v H Q
theorem set_any {X : Cx} (hu : X.A.units + 1 < cLine) : PSet X rSetA := by
  intro pins s σ H o i v ov iv u Q I ro ri rv h
  rcases h with h | h
  · exact set_list pins s σ H o i v ov iv u Q I ro ri rv h
  · exact set_dict hu pins s σ H o i v ov iv u Q I ro ri rv h
noncomputable def setA : D → D → D → Option D
  | .dct t ds, k, v => setD (.dct t ds) k v
  | d, k, v => setL d k v
theorem d_setA {K : PySem.W.Frag} {mg : PySem.Str → Option Value} : PStD K mg rSetA setA := fun S H p d i v di dx Q d' hp o ti rv e k => by
  unfold setA at e
  split at e
  · exact .inr (d_setD S H p _ i v di dx Q d' hp o ti rv e k)
  · exact .inl (d_setL S H p d i v di dx Q d' hp o ti rv e k)
@[simp] theorem setA_l (ds : List D) (k : Int) (v : D) : setA (.lst ds) (.int k) v = (ixN ds.length k).map fun j => .lst (ds.set j v) := rfl
@[simp] theorem setA_d (t : Bool) (ds : List (D × D)) (k v : D) : setA (.dct t ds) k v = if KeyOk t k ∧ ds.length < 16000000 then some (.dct t (putD ds k v)) else none := rfl
@[simp] theorem keyOk_i (i : Int) : KeyOk false (.int i) := ⟨.inl i, rfl⟩
@[simp] theorem keyOk_s (x : PySem.Str) : KeyOk false (.str x) := ⟨.inr x, rfl⟩
theorem keyOk_t (ns : List Int) : KeyOk true (.tup (ns.map D.int)) := ⟨ns.map Sum.inl, by unfold keyT; rw [List.map_map]; rfl⟩
@[simp] theorem eDct_ap (t : Bool) (r : Env) (T : Tp) : eDct t r T = .ok (.own (.dct t []), T) := rfl
@[simp] theorem eGet2_ap (f g h : DE) (r : Env) (T : Tp) : eGet2 f g h r T = (dt (f r T)).bind fun p => (isDctR p.1).bind fun _ => (dt (g r p.2)).bind fun q => (dv (h r q.2)).bind fun w => (getK q.1 w.1 p.1).bind fun d => .ok (.val d, w.2) := rfl
@[simp] theorem eGet1_ap (f g : DE) (r : Env) (T : Tp) : eGet1 f g r T = (dt (f r T)).bind fun p => (isDctR p.1).bind fun _ => (dt (g r p.2)).bind fun q => (getK q.1 .non p.1).bind fun d => .ok (.val d, q.2) := rfl
@[simp] theorem isDctR_d (t : Bool) (ds : List (D × D)) : isDctR (.dct t ds) = .ok () := rfl
@[simp] theorem getK_d (k e : D) (t : Bool) (ds : List (D × D)) : getK k e (.dct t ds) = if KeyOk t k then .ok ((lookD ds k).getD e) else .stuck := rfl
/-! len of a dict too -/
def bLenA : List D → Rs VD
  | [.dct _ ds] => .ok (.val (.int ds.length))
  | [.tpl ns] => .ok (.val (.int ns.length))
  | ds => bLen ds
theorem q_lena : QuietN bLenA := fun ds => by
  unfold bLenA
  split
  · exact quiet_v
  · exact quiet_v
  · exact q_len _
def rLenA (K : PySem.W.Frag) : List V → Hp → VK → Prop := fun xs H Q => rLen K xs H Q ∨ (∃ a kvs, xs = [V.ref a] ∧ H a = some (.dK kvs) ∧ Q (.int kvs.length) H) ∨ L2.rLenT xs H Q
theorem call_lenA {X : Cx} : CallR X (.builtin "len") (rLenA X.K) := CallR.or call_len (CallR.or call_lenD call_len_dT)
theorem d_lena {K : PySem.W.Frag} {mg : PySem.Str → Option Value} : RnD K mg (rLenA K) bLenA := fun S H xs ds Q z t hp e k => by
  unfold bLenA at e
  split at e
  · cases e
    obtain ⟨x, rfl, p⟩ := topv1 hp
    rcases p.dct with ⟨rfl, a, kvs, rfl, h1, z1, g, r⟩ | ⟨rfl, a, kvs, rfl, h1, z1, g, r⟩
    · have := congrArg List.length g
      rw [List.length_map, List.length_map] at this
      rw [this] at k
      exact .inr (.inl ⟨a, kvs, rfl, h1, k.pure (.int _)⟩)
    · have := congrArg List.length g
      rw [List.length_map, List.length_map] at this
      rw [this] at k
      exact .inr (.inr ⟨a, kvs, rfl, h1, k.pure (.int _)⟩)
  · cases e
    obtain ⟨x, rfl, p⟩ := topv1 hp
    obtain ⟨a, rfl, h1, z1⟩ := p.tplT
    exact .inl ⟨.ref a, _, rfl, .inr ⟨_, h1, by rw [List.length_map]⟩, k.pure (.int _)⟩
  · exact .inl (d_len S H xs ds Q z t hp e k)
@[simp] theorem bLenA_d (t : Bool) (ds : List (D × D)) : bLenA [.dct t ds] = .ok (.val (.int ds.length)) := rfl
@[simp] theorem bLenA_l (ds : List D) : bLenA [.lst ds] = .ok (.val (.int ds.length)) := rfl
@[simp] theorem bLenA_t (ds : List D) : bLenA [.tup ds] = .ok (.val (.int ds.length)) := rfl
@[simp] theorem bLenA_p (ns : List Int) : bLenA [.tpl ns] = .ok (.val (.int ns.length)) := rfl
@[simp] theorem bLenA_c (ns : List Int) : bLenA [.scr ns] = .ok (.val (.int ns.length)) := rfl
end Pu
namespace Pu
open PySem L2

/-! # loops in order, greedy rows -/
def ordP (ns : List Int) : List (Int × Int) := srtP (ns.zipIdx.map fun p => (p.1, (p.2 : Int)))
theorem ordP_perm (ns : List Int) : ((ordP ns).map (·.1)).Perm ns := by
  have h := (srtP_perm (ns.zipIdx.map fun p => (p.1, (p.2 : Int)))).map (·.1)
  rw [List.map_map] at h
  have e : ns.zipIdx.map ((fun p : Int × Int => p.1) ∘ fun p : Int × Nat => (p.1, (p.2 : Int))) = ns := List.zipIdx_map_fst 0 ns
  rw [e] at h
  exact h
theorem ordP_srt (ns : List Int) : (ordP ns).map (·.1) = srtI ns := by
  refine srt_uniq ((ordP_perm ns).trans (srtI_perm ns).symm) ?_ (srtI_sorted ns)
  have h := srtP_sorted (ns.zipIdx.map fun p => (p.1, (p.2 : Int)))
  refine List.pairwise_map.mpr (h.imp fun {a b} z => ?_)
  simp only [leP, decide_eq_true_eq] at z
  omega
theorem ordP_mem {ns : List Int} {p : Int × Int} (h : p ∈ ordP ns) : atI (ns.map D.int) p.2 = some (.int p.1) := by
  have h := (srtP_perm _).mem_iff.mp h
  obtain ⟨q, hq, rfl⟩ := List.mem_map.mp h
  have e := List.mem_zipIdx_iff_getElem?.mp hq
  refine Pu.atI_nat ?_
  rw [List.getElem?_map, e]
  rfl
theorem zip_range (ns : List Int) : ns.zipIdx.map (fun p => (p.1, (p.2 : Int))) = (List.range ns.length).map fun (k : Nat) => (nth ns k, (k : Int)) := by
  apply List.ext_getElem
  · simp
  · intro i h1 h2
    have hi : i < ns.length := by simpa using h1
    simp [nth_get hi]
/-- the greedy row of a wait, over loops from the longest on: what it takes, what is left -/
def gr : Int → List (Int × Int) → List Int
  | _, [] => []
  | w, p :: ps => if p.1 ≤ w then p.2 :: gr (w - p.1) ps else gr w ps
def lft : Int → List (Int × Int) → Int
  | w, [] => w
  | w, p :: ps => if p.1 ≤ w then lft (w - p.1) ps else lft w ps
theorem lft_app : ∀ (a : List (Int × Int)) (w : Int) (p : Int × Int), lft w (a ++ [p]) = if p.1 ≤ lft w a then lft w a - p.1 else lft w a
  | [], w, p => rfl
  | q :: a, w, p => by
    rw [List.cons_append, lft, lft]
    by_cases c : q.1 ≤ w
    · rw [if_pos c, if_pos c, lft_app a]
    · rw [if_neg c, if_neg c, lft_app a]
theorem gr_app : ∀ (a : List (Int × Int)) (w : Int) (p : Int × Int), gr w (a ++ [p]) = gr w a ++ if p.1 ≤ lft w a then [p.2] else []
  | [], w, p => rfl
  | q :: a, w, p => by
    rw [List.cons_append, gr, gr, lft]
    by_cases c : q.1 ≤ w
    · rw [if_pos c, if_pos c, if_pos c, gr_app a]
      rfl
    · rw [if_neg c, if_neg c, if_neg c, gr_app a]
def dig (ns : List Int) (w : Int) : List Int := (gr w (ordP ns).reverse).reverse
theorem ordP_len (ns : List Int) : (ordP ns).length = ns.length := by
  unfold ordP
  rw [(srtP_perm _).length_eq]
  simp
/-! the greedy row of a doubling list is exact -/
def sm (ps : List (Int × Int)) : Int := (ps.map (·.1)).sum
@[simp] theorem sm_nil : sm [] = 0 := rfl
@[simp] theorem sm_cons (p : Int × Int) (ps : List (Int × Int)) : sm (p :: ps) = p.1 + sm ps := by simp [sm]
def Cmp : List (Int × Int) → Prop
  | [] => True
  | p :: ps => 1 ≤ p.1 ∧ p.1 ≤ sm ps + 1 ∧ Cmp ps
theorem lft_zero : ∀ (rs : List (Int × Int)) (w : Int), Cmp rs → 0 ≤ w → w ≤ sm rs → lft w rs = 0
  | [], w, _, h0, h1 => by
    simp at h1
    simp [lft]
    omega
  | p :: ps, w, ⟨c1, c2, c3⟩, h0, h1 => by
    rw [sm_cons] at h1
    rw [lft]
    by_cases c : p.1 ≤ w
    · rw [if_pos c]
      exact lft_zero ps _ c3 (by omega) (by omega)
    · rw [if_neg c]
      exact lft_zero ps _ c3 h0 (by omega)
theorem gr_split : ∀ (a b : List (Int × Int)) (w : Int), gr w (a ++ b) = gr w a ++ gr (lft w a) b
  | [], b, w => rfl
  | q :: a, b, w => by
    rw [List.cons_append, gr, gr, lft]
    by_cases c : q.1 ≤ w
    · rw [if_pos c, if_pos c, if_pos c, gr_split a]
      rfl
    · rw [if_neg c, if_neg c, if_neg c, gr_split a]
theorem gr_sub : ∀ (rs : List (Int × Int)) (w : Int), (gr w rs).Sublist (rs.map (·.2))
  | [], w => List.Sublist.refl _
  | p :: ps, w => by
    rw [gr, List.map_cons]
    by_cases c : p.1 ≤ w
    · rw [if_pos c]
      exact (gr_sub ps _).cons_cons _
    · rw [if_neg c]
      exact (gr_sub ps _).cons _
theorem gr_sum (v : Int → Int) : ∀ (rs : List (Int × Int)) (w : Int), (∀ p ∈ rs, v p.2 = p.1) → ((gr w rs).map v).sum = w - lft w rs
  | [], w, _ => by simp [gr, lft]
  | p :: ps, w, h => by
    have h0 := h p List.mem_cons_self
    have ih := fun w => gr_sum v ps w fun q z => h q (List.mem_cons_of_mem _ z)
    rw [gr, lft]
    by_cases c : p.1 ≤ w
    · rw [if_pos c, if_pos c, List.map_cons, List.sum_cons, ih, h0]
      omega
    · rw [if_neg c, if_neg c, ih]
theorem filter_sub {l r : List Int} (h : r.Sublist l) : l.Nodup → l.filter (fun k => decide (k ∈ r)) = r := by
  induction h with
  | slnil => intro _; rfl
  | @cons r l a h ih =>
    intro hn
    obtain ⟨ha, hn⟩ := List.nodup_cons.mp hn
    rw [List.filter_cons_of_neg (by simpa using fun z => ha (h.subset z)), ih hn]
  | @cons_cons r l a h ih =>
    intro hn
    obtain ⟨ha, hn⟩ := List.nodup_cons.mp hn
    rw [List.filter_cons_of_pos (by simp)]
    congr 1
    rw [← ih hn]
    apply List.filter_congr
    intro x hx
    have : x ≠ a := fun z => ha (z ▸ hx)
    rw [ih hn]
    simp [this]
theorem ordP_nodup (ns : List Int) : ((ordP ns).map (·.2)).Nodup := by
  have h := (srtP_perm (ns.zipIdx.map fun p => (p.1, (p.2 : Int)))).map (·.2)
  refine h.nodup_iff.mpr ?_
  rw [zip_range, List.map_map]
  have e : (List.range ns.length).map ((fun p : Int × Int => p.2) ∘ fun k : Nat => (nth ns k, (k : Int))) = (List.range ns.length).map fun k : Nat => (k : Int) := rfl
  rw [e]
  exact List.pairwise_map.mpr ((List.nodup_range (n := ns.length)).imp fun {a b} h z => h (by omega))
theorem ordP_in {ns : List Int} {p : Int × Int} (h : p ∈ ordP ns) : 0 ≤ p.2 ∧ p.2 < ns.length ∧ nth ns p.2.toNat = p.1 := by
  have h := (srtP_perm _).mem_iff.mp h
  rw [zip_range] at h
  obtain ⟨k, hk, rfl⟩ := List.mem_map.mp h
  have hk := List.mem_range.mp hk
  exact ⟨by simp, by simpa using hk, by simp⟩
theorem ordP_cmp {ns : List Int} (h : Lps ns) (hd : dbl (srtI ns) = true) : Cmp (ordP ns).reverse := by
  have e := ordP_srt ns
  have hl := ordP_len ns
  unfold dbl at hd
  rw [Bool.and_eq_true] at hd
  obtain ⟨d1, d2⟩ := hd
  have d1 : nth (srtI ns) 0 = 1 := by simpa using d1
  have hn : ∀ i (hi : i < (ordP ns).length), nth (srtI ns) i = ((ordP ns)[i]).1 := fun i hi => by
    rw [← e, nth_get (by rw [List.length_map]; exact hi), List.getElem_map]
  have go : ∀ i, i ≤ (ordP ns).length → Cmp ((ordP ns).take i).reverse ∧ (0 < i → 2 * nth (srtI ns) (i - 1) ≤ sm ((ordP ns).take i).reverse + 1) := by
    intro i
    induction i with
    | zero => intro _; exact ⟨trivial, fun z => absurd z (by omega)⟩
    | succ i ih =>
      intro hi
      obtain ⟨c1, c2⟩ := ih (by omega)
      have hi2 : i < (ordP ns).length := by omega
      have ht : ((ordP ns).take (i + 1)).reverse = (ordP ns)[i] :: ((ordP ns).take i).reverse := by
        rw [List.take_add_one, List.getElem?_eq_getElem hi2, List.reverse_append]
        rfl
      have hx := hn i hi2
      have hp : 1 ≤ ((ordP ns)[i]).1 := by
        have := (h.2.2 ((ordP ns)[i]).1 ((ordP_perm ns).mem_iff.mp (List.mem_map_of_mem (List.getElem_mem hi2)))).1
        exact this
      have hb : ((ordP ns)[i]).1 ≤ sm ((ordP ns).take i).reverse + 1 := by
        by_cases c : i = 0
        · subst c
          rw [← hx, d1]
          simp
        · have := c2 (by omega)
          have d := List.all_eq_true.mp d2 (i - 1) (List.mem_range.mpr (by rw [srtI_len]; omega))
          rw [show i - 1 + 1 = i by omega] at d
          have d : nth (srtI ns) i ≤ 2 * nth (srtI ns) (i - 1) := by simpa using d
          omega
      rw [ht]
      refine ⟨⟨hp, hb, c1⟩, fun _ => ?_⟩
      rw [sm_cons, show i + 1 - 1 = i by omega, hx]
      omega
  have := (go _ (Nat.le_refl _)).1
  rwa [List.take_length] at this
theorem sm_ord (ns : List Int) : sm (ordP ns).reverse = ns.sum := by
  unfold sm
  rw [List.map_reverse]
  exact sum_perm ((List.reverse_perm _).trans (ordP_perm ns))
theorem any_int (k : Int) : ∀ ns : List Int, ((ns.map D.int).any fun y => PyData.eqv (py y) (py (.int k))) = decide (k ∈ ns)
  | [] => rfl
  | n :: ns => by
    rw [List.map_cons, List.any_cons, any_int k ns, py_int, py_int, PyData.eqv]
    by_cases h : n = k
    · subst h
      simp
    · have h2 : ¬ k = n := fun z => h z.symm
      by_cases c : k ∈ ns <;> simp [h, h2, c]
theorem pl_in (ns : List Int) : Pl 40 (.tup (ns.map D.int)) ∧ Pl 40 (.lst (ns.map D.int)) := ⟨pl_ints ns, pl_ints ns⟩
@[simp] theorem dInS_t (k : Int) (ns : List Int) : dInS (.int k) (.tup (ns.map D.int)) = .ok (.val (.bl (decide (k ∈ ns)))) := by
  unfold dInS dPl
  rw [if_pos ⟨by simp, (pl_in ns).1, .inr ⟨_, rfl⟩⟩]
  simp only [itemsD, any_int]
@[simp] theorem dInS_l (k : Int) (ns : List Int) : dInS (.int k) (.lst (ns.map D.int)) = .ok (.val (.bl (decide (k ∈ ns)))) := by
  unfold dInS dPl
  rw [if_pos ⟨by simp, (pl_in ns).2, .inl ⟨_, rfl⟩⟩]
  simp only [itemsD, any_int]
@[simp] theorem dNinS_t (k : Int) (ns : List Int) : dNinS (.int k) (.tup (ns.map D.int)) = .ok (.val (.bl (!decide (k ∈ ns)))) := by
  unfold dNinS dPl
  rw [if_pos ⟨by simp, (pl_in ns).1, .inr ⟨_, rfl⟩⟩]
  simp only [itemsD, any_int]
@[simp] theorem dNinS_l (k : Int) (ns : List Int) : dNinS (.int k) (.lst (ns.map D.int)) = .ok (.val (.bl (!decide (k ∈ ns)))) := by
  unfold dNinS dPl
  rw [if_pos ⟨by simp, (pl_in ns).2, .inl ⟨_, rfl⟩⟩]
  simp only [itemsD, any_int]
/-- a block's slot that holds data or nothing is forgotten -/
theorem wipe1 {r : Env} {v : Nat} (o : Option D) (e : r[v]? = some (o.map VD.val)) : wipeE r [v] = some (r.set v none) := by
  unfold wipeE wipeE
  show (match r[v]? with
    | some (some (.own _)) => none
    | some (some .tape) => none
    | _ => some (r.set v none)) = _
  rw [e]
  cases o <;> rfl
/-- a loop of the order: it is taken exactly if what is left ahead of it holds it -/
theorem dig_mem {ns : List Int} {w : Int} {i : Nat} (hi : i < (ordP ns).length) : ∃ a : List (Int × Int), (ordP ns).reverse.take ((ordP ns).length - (i + 1)) = a ∧ (ordP ns).reverse.take ((ordP ns).length - i) = a ++ [(ordP ns)[i]] ∧ (((ordP ns)[i]).2 ∈ dig ns w ↔ ((ordP ns)[i]).1 ≤ lft w a) := by
  refine ⟨_, rfl, ?_, ?_⟩
  · have e : (ordP ns).reverse[(ordP ns).length - (i + 1)]? = some (ordP ns)[i] := by
      rw [List.getElem?_reverse (by omega), show (ordP ns).length - 1 - ((ordP ns).length - (i + 1)) = i by omega, List.getElem?_eq_getElem hi]
    rw [show (ordP ns).length - i = (ordP ns).length - (i + 1) + 1 by omega, List.take_add_one, e]
    rfl
  · have hj : (ordP ns).length - (i + 1) < (ordP ns).reverse.length := by rw [List.length_reverse]; omega
    have e : (ordP ns).reverse[(ordP ns).length - (i + 1)] = (ordP ns)[i] := by
      have : (ordP ns).reverse[(ordP ns).length - (i + 1)]? = some (ordP ns)[i] := by
        rw [List.getElem?_reverse (by omega), show (ordP ns).length - 1 - ((ordP ns).length - (i + 1)) = i by omega, List.getElem?_eq_getElem hi]
      rw [List.getElem?_eq_getElem hj] at this
      injection this
    have hs : (ordP ns).reverse = (ordP ns).reverse.take ((ordP ns).length - (i + 1)) ++ (ordP ns)[i] :: (ordP ns).reverse.drop ((ordP ns).length - (i + 1) + 1) := by
      conv => lhs; rw [← List.take_append_drop ((ordP ns).length - (i + 1)) (ordP ns).reverse, List.drop_eq_getElem_cons hj, e]
    have hnd : ((ordP ns).reverse.map (·.2)).Nodup := by
      rw [List.map_reverse]
      exact (List.reverse_perm _).nodup_iff.mpr (ordP_nodup ns)
    unfold dig
    rw [List.mem_reverse]
    generalize (ordP ns).reverse.take ((ordP ns).length - (i + 1)) = a at hs ⊢
    generalize (ordP ns).reverse.drop ((ordP ns).length - (i + 1) + 1) = b at hs
    rw [hs] at hnd ⊢
    generalize (ordP ns)[i] = p at hnd ⊢
    rw [gr_split, List.mem_append, gr]
    rw [List.map_append, List.map_cons] at hnd
    obtain ⟨n1, n2, n3⟩ := List.nodup_append.mp hnd
    have na : p.2 ∉ gr w a := fun z => n3 _ ((gr_sub a w).subset z) _ List.mem_cons_self rfl
    have nb : ∀ u, p.2 ∉ gr u b := fun u z => (List.nodup_cons.mp n2).1 ((gr_sub b u).subset z)
    constructor
    · intro z
      rcases z with z | z
      · exact absurd z na
      · by_cases c : p.1 ≤ lft w a
        · exact c
        · rw [if_neg c] at z
          exact absurd z (nb _)
    · intro c
      rw [if_pos c]
      exact .inr List.mem_cons_self
theorem srtP_known {o s : List (Int × Int)} (p : o.Perm s) (h : s.Pairwise fun a b => leP a b = true) : srtP o = s := by
  refine List.Perm.eq_of_pairwise (le := fun a b => leP a b = true) (fun a b _ _ h k => ?_) (srtP_sorted o) h ((srtP_perm o).trans p)
  simp only [leP, decide_eq_true_eq] at h k
  exact Prod.ext (by omega) (by omega)
end Pu
namespace HT
open PySem PySem.Spec PyProof.Rows
theorem pu_mul1 (l : Addr) (items : Array Value) (n : Nat) (dd : Option Addr) (sl : Array (Option Value)) (u : Tok) :
    Meets (Builtin.«tuple.__mul__» ⟨[.ref l, .int 1 u], []⟩) (fun _ R s => s.heap.get? l = some { cls := .type "tuple", dict := dd, data := .seq items n, slots := sl } ∧ R (.ok (.ret (Value.ref l))) s) :=
  .of_wp fun prog w A R s h => by
    obtain ⟨hp, g, d, tk, os⟩ := s
    obtain ⟨hl, h⟩ := h
    have f1 := AutoSeq1.idx_int
    wp_walk using wpAny_loadPart' hl
    exact ⟨_, rfl, h⟩
theorem pu_mul0 (l : Addr) (items : Array Value) (n : Nat) (dd : Option Addr) (sl : Array (Option Value)) (x : Int) (u : Tok) (c0 : (decide (x < -(2 ^ 63)) || decide (x ≥ 2 ^ 63)) = false) (c1 : (items.isEmpty || x == 1) = false) (c2 : (decide (x ≤ 0) || items.isEmpty) = true) :
    Meets (Builtin.«tuple.__mul__» ⟨[.ref l, .int x u], []⟩) (fun _ R s => s.heap.get? l = some { cls := .type "tuple", dict := dd, data := .seq items n, slots := sl } ∧
      R (.ok (.ret (Value.ref s.heap.objs.size))) { s with heap := s.heap.push { cls := Value.type "tuple", data := Data.seq #[] }, toks := s.toks }) :=
  .of_wp fun prog w A R s h => by
    obtain ⟨hp, g, d, tk, os⟩ := s
    obtain ⟨hl, h⟩ := h
    have f1 := AutoSeq1.idx_int
    wp_walk using wpAny_loadPart' hl
    repeat (first
      | (refine wpAny_ite_false (decide_eq_false (by rw [c0]; exact Bool.false_ne_true)) ?_; wp_walk using wpAny_loadPart' hl)
      | (refine wpAny_ite_false (decide_eq_false (by rw [c1]; exact Bool.false_ne_true)) ?_; wp_walk using wpAny_loadPart' hl)
      | (refine wpAny_ite_true (decide_eq_true c2) ?_; wp_walk using wpAny_loadPart' hl))
    exact ⟨_, rfl, h⟩
end HT
namespace Pu
open PySem L2 PySem.Spec PyProof.Rows
/-! ## rows repeated -/
def rRepA (K : PySem.W.Frag) : R2 := fun x y H Q => ∃ l k xs, x = .ref l ∧ y = .int k ∧ SqT K H l xs ∧ xs ≠ [] ∧ xs.length ≤ 1000 ∧ ((k = 1 ∧ Q (.ref l) H) ∨ (k ≤ 0 ∧ -(2 ^ 62) < k ∧ ∀ p, H p = none → Q (.ref p) (upd H p (.tup []))))
theorem op_repA {X : Cx} : OpR X (binaryOp .Mult) (rRepA X.K) := by
  intro pins s σ H x y v u Q I rx ry h
  obtain ⟨l, k, xs, rfl, rfl, hT, hne, hz, h⟩ := h
  cases rx
  obtain ⟨t, rfl⟩ := ry
  obtain ⟨its, r, ⟨⟨cls, dd, data, sl⟩, ho, hc, n, hd⟩, hs⟩ := I.tuple hT
  simp only at hc hd
  subst hc hd
  have hle : its.length = xs.length := r.length.symm
  have hi : its.toArray.isEmpty = false := by
    cases its with
    | nil => exact absurd (List.eq_nil_of_length_eq_zero hle.symm) hne
    | cons a b => rfl
  rcases h with ⟨rfl, q⟩ | ⟨k0, k1, q⟩
  · refine wpAny_binaryOp_repeat_ref (T := "tuple") (U := "int") (by decide) ⟨_, ho, rfl⟩ (fun s' => typeIs_int s' 1 t) noFill_tuple_mul F.fills_int_mul F.slot_int_rmul repeat_tuple F.slot_int_index.lookup ?_
    refine call_meets F.slot_int_rmul (typeIs_int s 1 t) F.entry_int_rmul (F.args_int_rmul_2 _ _) (int_rmul_tuple 1 t l its.toArray n dd sl) ⟨ho, rfl, ⟨_, ho, rfl⟩, ?_⟩
    exact call_meets F.slot_tuple_mul ⟨_, ho, rfl⟩ F.entry_tuple_mul (F.args_tuple_mul_2 _ _) (HT.pu_mul1 l its.toArray n dd sl t) ⟨ho, ⟨.ref l, H, I, rfl, q⟩⟩
  · have c0 : (decide (k < -(2 ^ 63)) || decide (k ≥ 2 ^ 63)) = false := by
      rw [decide_eq_false (by omega), decide_eq_false (by omega)]
      rfl
    have c1 : (its.toArray.isEmpty || k == 1) = false := by
      rw [hi, Bool.false_or]
      exact beq_eq_false_iff_ne.mpr (by omega)
    have c2 : (decide (k ≤ 0) || its.toArray.isEmpty) = true := by
      rw [decide_eq_true k0]
      rfl
    refine wpAny_binaryOp_repeat_ref (T := "tuple") (U := "int") (by decide) ⟨_, ho, rfl⟩ (fun s' => typeIs_int s' k t) noFill_tuple_mul F.fills_int_mul F.slot_int_rmul repeat_tuple F.slot_int_index.lookup ?_
    refine call_meets F.slot_int_rmul (typeIs_int s k t) F.entry_int_rmul (F.args_int_rmul_2 _ _) (int_rmul_tuple k t l its.toArray n dd sl) ⟨ho, rfl, ⟨_, ho, rfl⟩, ?_⟩
    refine call_meets F.slot_tuple_mul ⟨_, ho, rfl⟩ F.entry_tuple_mul (F.args_tuple_mul_2 _ _) (HT.pu_mul0 l its.toArray n dd sl k t c0 c1 c2) ⟨ho, ?_⟩
    refine ⟨.ref s.heap.objs.size, _, I.laid (t' := s.toks) (o := .tup []) (fun b ob q => Heap.get?_push_of_some _ q) (Nat.le_refl _) ?_, rfl, q _ (I.hok.fresh (Nat.le_refl _))⟩
    exact ⟨Nat.zero_le _, [], .nil, IsTup.new _ _⟩
def rMulA (K : PySem.W.Frag) : R2 := fun x y H Q => rI CMul (fun i j => .int (i * j)) x y H Q ∨ rRepA K x y H Q ∨ L2.rRepT K x y H Q ∨ L2.rRep x y H Q
theorem op_mulA {X : Cx} : OpR X (binaryOp .Mult) (rMulA X.K) := op_mul.or (op_repA.or (op_repT.or op_rep))
def repA {A : Type} (xs : List A) (k : Int) : List A := (List.replicate k.toNat xs).flatten
def dMulA : D → D → Rs VD
  | .tup ds, .int k => if ds ≠ [] ∧ ds.length ≤ 1000 ∧ -(2 ^ 62) < k ∧ k ≤ 1000 then .ok (.val (.tup (repA ds k))) else .stuck
  | .lst ds, .int k => if -(2 ^ 62) < k ∧ k ≤ 16000 ∧ ds.length ≤ 1000 then .ok (.own (.lst (repA ds k))) else .stuck
  | d, e => dMul d e
theorem q_mula : Quiet2 dMulA := fun d e => by
  unfold dMulA
  split <;> first | exact quiet_if quiet_v quiet_s | exact quiet_if quiet_o quiet_s | exact q_mul _ _
theorem Reps.rep {K : PySem.W.Frag} {mg : PySem.Str → Option Value} {S : Addr → Prop} {H : Hp} {vs : List V} {ds : List D} (r : Reps K mg S H vs ds) : ∀ n : Nat, Reps K mg S H (List.replicate n vs).flatten (List.replicate n ds).flatten
  | 0 => .nil
  | n + 1 => by
    rw [List.replicate_succ, List.replicate_succ, List.flatten_cons, List.flatten_cons]
    exact r.app (Reps.rep r n)
theorem d_mula {K : PySem.W.Frag} {mg : PySem.Str → Option Value} : R2D K mg (rMulA K) dMulA := fun S H x y dx dy Q z t p q e k => by
  unfold dMulA at e
  split at e
  · rename_i ds i
    obtain ⟨⟨c1, c2, c3, c4⟩, rfl⟩ := if_ok e
    have pr := p.rep
    obtain ⟨a, vs, rfl, h1, z1, r⟩ := p.sqT
    have hl := r.len
    have hne : vs ≠ [] := fun w => c1 (List.eq_nil_of_length_eq_zero (by rw [← hl, w]; rfl))
    rw [q.int]
    by_cases k1 : i = 1
    · subst k1
      refine .inr (.inl ⟨a, 1, vs, rfl, rfl, h1, hne, by omega, .inl ⟨rfl, ?_⟩⟩)
      have e1 : repA ds 1 = ds := by unfold repA; simp
      rw [e1] at k
      exact k.pure pr
    · by_cases k0 : i ≤ 0
      · refine .inr (.inl ⟨a, i, vs, rfl, rfl, h1, hne, by omega, .inr ⟨k0, c3, fun u hu => ?_⟩⟩)
        have e1 : repA ds i = [] := by unfold repA; rw [show i.toNat = 0 by omega]; rfl
        rw [e1] at k
        exact k.newT t hu (Nat.zero_le _) .nil
      · refine .inr (.inr (.inl ⟨a, i, vs, rfl, rfl, h1, hne, by omega, c4, by omega, fun u hu => k.newT t hu ?_ (r.rep i.toNat)⟩))
        rw [PyProof.Rows.lm_len_rep_flat, sizeLine_eq]
        have a1 : i.toNat * vs.length ≤ 1000 * 1000 := Nat.mul_le_mul (by omega) (by omega)
        omega
  · rename_i ds i
    obtain ⟨⟨c3, c4, c5⟩, rfl⟩ := if_ok e
    obtain ⟨a, vs, rfl, h1, z1, r⟩ := p.sqL
    have hl := r.len
    have a1 : vs.length * i.toNat ≤ 1000 * 16000 := Nat.mul_le_mul (by omega) (by omega)
    rw [q.int]
    refine .inr (.inr (.inr ⟨a, i, vs, rfl, rfl, h1, by omega, by omega, by rw [sizeLine_eq]; omega, fun u hu => k.newL hu ?_ (r.rep i.toNat)⟩))
    rw [PyProof.Rows.lm_len_rep_flat, sizeLine_eq]
    rw [Nat.mul_comm] at a1
    omega
  · exact .inl (d_mul S H x y dx dy Q z t p q e k)
@[simp] theorem dMulA_ii (i j : Int) : dMulA (.int i) (.int j) = if (-(2 ^ 64) < i ∧ i < 2 ^ 64) ∨ (-(2 ^ 64) < j ∧ j < 2 ^ 64) then .ok (.val (.int (i * j))) else .stuck := rfl
@[simp] theorem dMulA_t (ds : List D) (k : Int) : dMulA (.tup ds) (.int k) = if ds ≠ [] ∧ ds.length ≤ 1000 ∧ -(2 ^ 62) < k ∧ k ≤ 1000 then .ok (.val (.tup (repA ds k))) else .stuck := rfl
@[simp] theorem dMulA_l (ds : List D) (k : Int) : dMulA (.lst ds) (.int k) = if -(2 ^ 62) < k ∧ k ≤ 16000 ∧ ds.length ≤ 1000 then .ok (.own (.lst (repA ds k))) else .stuck := rfl
theorem repA_one {A : Type} (x : A) (k : Int) : repA [x] k = List.replicate k.toNat x := by
  unfold repA
  induction k.toNat with
  | zero => rfl
  | succ n ih => rw [List.replicate_succ, List.flatten_cons, ih]; rfl
end Pu
namespace Pu
open PySem L2

/-! ## a def that calls itself: so deep -/
def noM : DM := fun _ _ => .stuck
/-- nothing is promised -/
theorem okD_no {P : Program} {w : World} {K : PySem.W.Frag} {mg : PySem.Str → Option Value} {base : Heap} {x qual : PySem.Str} {params : Arguments} {body : List Stmt} {scope : Scope} {ps : List PySem.Str} {k : Nat} {io : Bool} (F : ∃ fd, FunD K x qual params body scope [] [] (He.ga K x) fd) (hm : mg x = some (.ref (He.ga K x)))
    (hb : ∀ (kV doc pm : Value) (an : Option Addr) (cdv ct : Value) (us : List Value), us.length = ps.length → bindArgs (PySem.W.fnOf x qual params body scope .none kV doc pm an cdv ct) ⟨us, []⟩ = pure (ps.zip us)) : OkD P w K mg base k x ps.length io noM := by
  obtain ⟨fd, F⟩ := F
  refine ⟨fd, ps, ⟨fun vs H Q E ⟨C, vs1, ds, T, _, hl, _, _, _, _, p⟩ => p.elim, fun A outer s H args us vs Q E _ _ _ _ hsp => ?_⟩, F.bindsN hb, F.kp, hm⟩
  obtain ⟨C, vs1, ds, T, _, hl, _, _, _, _, p⟩ := hsp
  exact p.elim
theorem OkD.up {P : Program} {w : World} {K : PySem.W.Frag} {mg : PySem.Str → Option Value} {base : Heap} {k j : Nat} {x : PySem.Str} {n : Nat} {io : Bool} {M : DM} (h : OkD P w K mg base k x n io M) (e : k ≤ j) : OkD P w K mg base j x n io M := by
  obtain ⟨fd, ps, F, r⟩ := h
  exact ⟨fd, ps, F.mono e, r⟩
end Pu
namespace Pu
open PySem L2

/-! # entries of rows -/
def dE3 (e : Int × Int × Int) : D := .tup [.int e.1, .int e.2.1, .int e.2.2]
/-- the entries of a row: the loop, the time gone, the time left -/
def entL (f : Int → Int) : Int → Int → List Int → List (Int × Int × Int)
  | _, _, [] => []
  | g, l, k :: r => (k, g, l) :: entL f (g + f k) (l - f k) r
theorem entL_len (f : Int → Int) : ∀ (r : List Int) (g l : Int), (entL f g l r).length = r.length
  | [], _, _ => rfl
  | k :: r, g, l => congrArg (· + 1) (entL_len f r _ _)
/-- a row of loops that are there -/
def RowOk (ns row : List Int) : Prop := ∀ k ∈ row, 0 ≤ k ∧ k < ns.length
def vl (ns : List Int) (k : Int) : Int := nth ns k.toNat
def entR (ns row : List Int) : List (Int × Int × Int) := entL (vl ns) 0 (row.map (vl ns)).sum row
/-- two entries clash -/
def cl (c : Int) (a b : Int × Int × Int) : Bool := decide (0 ≤ a.2.1 - b.2.1) && decide (0 < b.2.2 - a.2.2 ∧ b.2.2 - a.2.2 ≤ c * (a.2.1 - b.2.1) + c - 1)
def clS (c : Int) (a b : Int × Int × Int) : Bool := if b.2.2 < a.2.2 then cl c b a else cl c a b
@[simp] theorem at3_0 (a b c : D) : atI [a, b, c] 0 = some a := rfl
@[simp] theorem at3_1 (a b c : D) : atI [a, b, c] 1 = some b := rfl
@[simp] theorem at3_2 (a b c : D) : atI [a, b, c] 2 = some c := rfl
@[simp] theorem at2_0 (a b : D) : atI [a, b] 0 = some a := rfl
@[simp] theorem at2_1 (a b : D) : atI [a, b] 1 = some b := rfl
/-- all of a list are good -/
def AllB {A : Type} (f : A → Bool) (l : List A) : Prop := ∀ a ∈ l, f a = true
theorem allB_nil {A : Type} (f : A → Bool) : AllB f [] := fun _ h => nomatch h
theorem allB_snoc {A : Type} {f : A → Bool} {l : List A} {i : Nat} {x : A} (e : l[i]? = some x) (h : AllB f (l.take i)) (hx : f x = true) : AllB f (l.take (i + 1)) := by
  rw [List.take_add_one, e]
  intro a ha
  rcases List.mem_append.mp ha with z | z
  · exact h a z
  · rw [List.mem_singleton.mp z]
    exact hx
theorem allB_all {A : Type} {f : A → Bool} {l : List A} (h : AllB f l) : l.all f = true := List.all_eq_true.mpr h
theorem all_not {A : Type} {f : A → Bool} {l : List A} {x : A} (h : x ∈ l) (hx : f x = false) : l.all f = false := by
  cases e : l.all f with
  | false => rfl
  | true =>
    have := List.all_eq_true.mp e x h
    rw [hx] at this
    cases this
/-- no two entries of a loop clash -/
def nocl (c : Int) (a b : Int × Int × Int) : Bool := !(decide (a.1 = b.1) && clS c a b)
def okA (c : Int) (bs : List (Int × Int × Int)) (a : Int × Int × Int) : Bool := bs.all (nocl c a)
def friB (c : Int) (bs : List (Int × Int × Int)) : Bool := bs.all (okA c bs)
def hit (c : Int) (a b : Int × Int × Int) : Bool := decide (a.1 = b.1) && cl c a b
theorem hit_iff {c : Int} {a b : Int × Int × Int} : hit c a b = true ↔ a.1 = b.1 ∧ b.2.1 ≤ a.2.1 ∧ a.2.2 < b.2.2 ∧ b.2.2 - a.2.2 ≤ c * (a.2.1 - b.2.1) + c - 1 := by
  unfold hit cl
  simp only [Bool.and_eq_true, decide_eq_true_eq]
  constructor
  · rintro ⟨h1, h2, h3, h4⟩
    exact ⟨h1, by omega, by omega, h4⟩
  · rintro ⟨h1, h2, h3, h4⟩
    exact ⟨h1, by omega, by omega, h4⟩
theorem friB_iff {c : Int} {bs : List (Int × Int × Int)} : friB c bs = true ↔ ∀ a ∈ bs, ∀ b ∈ bs, hit c a b = false := by
  unfold friB okA
  rw [List.all_eq_true]
  constructor
  · intro h a ha b hb
    cases e : hit c a b with
    | false => rfl
    | true =>
      have q := List.all_eq_true.mp (h a ha) b hb
      obtain ⟨h1, h2, h3, h4⟩ := hit_iff.mp e
      have hc : cl c a b = true := by
        unfold hit at e
        exact (Bool.and_eq_true_iff.mp e).2
      unfold nocl clS at q
      rw [if_neg (by omega), hc, h1] at q
      simp at q
  · intro h a ha
    refine List.all_eq_true.mpr fun b hb => ?_
    unfold nocl clS
    by_cases e : a.1 = b.1
    · by_cases l : b.2.2 < a.2.2
      · have q := h b hb a ha
        unfold hit at q
        rw [if_pos l]
        rw [decide_eq_true e.symm, Bool.true_and] at q
        rw [q]
        simp
      · have q := h a ha b hb
        unfold hit at q
        rw [if_neg l]
        rw [decide_eq_true e, Bool.true_and] at q
        rw [q]
        simp
    · rw [decide_eq_false e]
      simp
theorem friB_comm (c : Int) (x y : List (Int × Int × Int)) : friB c (x ++ y) = friB c (y ++ x) := by
  have h : ∀ x y : List (Int × Int × Int), friB c (x ++ y) = true → friB c (y ++ x) = true := fun x y h => friB_iff.mpr fun a ha b hb => friB_iff.mp h a (by simpa [or_comm] using ha) b (by simpa [or_comm] using hb)
  cases e : friB c (x ++ y) with
  | true => rw [h x y e]
  | false =>
    cases e2 : friB c (y ++ x) with
    | false => rfl
    | true =>
      rw [h y x e2] at e
      cases e
theorem friB_mono {c d : Int} {bs : List (Int × Int × Int)} (h : c ≤ d) (k : friB d bs = true) : friB c bs = true := friB_iff.mpr fun a ha b hb => by
  cases e : hit c a b with
  | false => rfl
  | true =>
    obtain ⟨h1, h2, h3, h4⟩ := hit_iff.mp e
    have q := friB_iff.mp k a ha b hb
    have m : c * (a.2.1 - b.2.1) ≤ d * (a.2.1 - b.2.1) := Int.mul_le_mul_of_nonneg_right h (by omega)
    have : hit d a b = true := hit_iff.mpr ⟨h1, h2, h3, by omega⟩
    rw [this] at q
    cases q
theorem ent_of {f : Int → Int} : ∀ {r : List Int} {g l : Int} {e : Int × Int × Int}, e ∈ entL f g l r → (∀ k ∈ r, 1 ≤ f k) → e.1 ∈ r ∧ g ≤ e.2.1 ∧ e.2.1 + e.2.2 = g + l
  | k :: r, g, l, e, h, hf => by
    rw [entL] at h
    have hk := hf k List.mem_cons_self
    rcases List.mem_cons.mp h with z | z
    · subst z
      exact ⟨List.mem_cons_self, Int.le_refl _, rfl⟩
    · obtain ⟨a, b, c⟩ := ent_of z fun q w => hf q (List.mem_cons_of_mem _ w)
      exact ⟨List.mem_cons_of_mem _ a, by omega, by omega⟩
theorem ent_ex {f : Int → Int} : ∀ {r : List Int} (g l : Int) {k : Int}, k ∈ r → ∃ e ∈ entL f g l r, e.1 = k
  | q :: r, g, l, k, h => by
    rw [entL]
    rcases List.mem_cons.mp h with z | z
    · exact ⟨_, List.mem_cons_self, z.symm⟩
    · obtain ⟨e, a, b⟩ := ent_ex (g + f q) (l - f q) z
      exact ⟨e, List.mem_cons_of_mem _ a, b⟩
def dup : List Int → Bool
  | [] => false
  | k :: r => decide (k ∈ r) || dup r
theorem dup_hit {f : Int → Int} {c : Int} (hc : 1 ≤ c) : ∀ {r : List Int} (g l : Int), dup r = true → (∀ k ∈ r, 1 ≤ f k) → ∃ a ∈ entL f g l r, ∃ b ∈ entL f g l r, hit c a b = true
  | [], _, _, h, _ => by cases h
  | k :: r, g, l, h, hf => by
    rw [dup, Bool.or_eq_true, decide_eq_true_eq] at h
    have hk := hf k List.mem_cons_self
    have hf2 : ∀ q ∈ r, 1 ≤ f q := fun q w => hf q (List.mem_cons_of_mem _ w)
    rw [entL]
    rcases h with h | h
    · obtain ⟨e, a, b⟩ := ent_ex (f := f) (g + f k) (l - f k) h
      obtain ⟨_, c1, c2⟩ := ent_of a hf2
      refine ⟨e, List.mem_cons_of_mem _ a, (k, g, l), List.mem_cons_self, hit_iff.mpr ⟨b, by show g ≤ _; omega, by show _ < l; omega, ?_⟩⟩
      show l - e.2.2 ≤ c * (e.2.1 - g) + c - 1
      have m : 1 * (e.2.1 - g) ≤ c * (e.2.1 - g) := Int.mul_le_mul_of_nonneg_right hc (by omega)
      omega
    · obtain ⟨a, ha, b, hb, hh⟩ := dup_hit hc (g + f k) (l - f k) h hf2
      exact ⟨a, List.mem_cons_of_mem _ ha, b, List.mem_cons_of_mem _ hb, hh⟩
theorem dup_not {f : Int → Int} : ∀ {r : List Int} (g l : Int), dup r = false → (∀ k ∈ r, 1 ≤ f k) → ∀ a ∈ entL f g l r, ∀ b ∈ entL f g l r, a.1 = b.1 → a = b
  | [], _, _, _, _, _, h, _, _, _ => nomatch h
  | k :: r, g, l, h, hf, a, ha, b, hb, e => by
    rw [dup, Bool.or_eq_false_iff, decide_eq_false_iff_not] at h
    have hf2 : ∀ q ∈ r, 1 ≤ f q := fun q w => hf q (List.mem_cons_of_mem _ w)
    rw [entL] at ha hb
    rcases List.mem_cons.mp ha with z | z <;> rcases List.mem_cons.mp hb with y | y
    · rw [z, y]
    · have q := (ent_of y hf2).1
      rw [← e, z] at q
      exact absurd q h.1
    · have q := (ent_of z hf2).1
      rw [e, y] at q
      exact absurd q h.1
    · exact dup_not _ _ h.2 hf2 a z b y e
end Pu
namespace Pu
open PySem L2

/-! # data of a kind -/
@[simp] abbrev vI (k : Int) : Option VD := some (.val (.int k))
@[simp] abbrev vD (d : D) : Option VD := some (.val d)
@[simp] abbrev vO (d : D) : Option VD := some (.own d)
abbrev dT (ns : List Int) : D := .tup (ns.map D.int)
abbrev dL (ns : List Int) : D := .lst (ns.map D.int)
/-- a kind of data: it is plain, and two are equal exactly if they are the same -/
structure Enc {A : Type} [DecidableEq A] (n : Nat) (e : A → D) : Prop where
  pl : ∀ a, Pl n (e a)
  eq : ∀ a b, PyData.eqv (py (e a)) (py (e b)) = decide (a = b)
theorem pl_up : ∀ {n m : Nat} {d : D}, n ≤ m → Pl n d → Pl m d
  | n, m, .non, _, _ => by simp
  | n, m, .bl _, _, _ => by simp
  | n, m, .int _, _, _ => by simp
  | n, m, .str _, _, _ => by simp
  | n + 1, m + 1, .tup ds, h, p => by
    rw [pl_tup] at p ⊢
    exact fun d hd => pl_up (Nat.le_of_succ_le_succ h) (p d hd)
  | n + 1, m + 1, .lst ds, h, p => by
    rw [pl_lst] at p ⊢
    exact fun d hd => pl_up (Nat.le_of_succ_le_succ h) (p d hd)
  | 0, m, .tup ds, h, p => (show False from p).elim
  | 0, m, .lst ds, h, p => (show False from p).elim
  | n + 1, 0, .tup ds, h, p => absurd h (Nat.not_succ_le_zero n)
  | n + 1, 0, .lst ds, h, p => absurd h (Nat.not_succ_le_zero n)
  | 0, m, .dct _ _, _, p => (show False from p).elim
  | n + 1, m, .dct _ _, _, p => (show False from p).elim
  | 0, m, .ins _ _, _, p => (show False from p).elim
  | n + 1, m, .ins _ _, _, p => (show False from p).elim
  | 0, m, .scr _, _, p => (show False from p).elim
  | n + 1, m, .scr _, _, p => (show False from p).elim
  | 0, m, .tpl _, _, p => (show False from p).elim
  | n + 1, 0, .tpl _, h, p => absurd h (Nat.not_succ_le_zero n)
  | n + 1, m + 1, .tpl ns, h, p => by simp
theorem eqvAll_enc {A : Type} [DecidableEq A] {n : Nat} {e : A → D} (h : Enc n e) : ∀ xs ys : List A, PyData.eqvAll ((xs.map e).map py) ((ys.map e).map py) = decide (xs = ys)
  | [], [] => by simp [PyData.eqvAll]
  | [], _ :: _ => by simp [PyData.eqvAll]
  | _ :: _, [] => by simp [PyData.eqvAll]
  | x :: xs, y :: ys => by
    rw [List.map_cons, List.map_cons, List.map_cons, List.map_cons, PyData.eqvAll, eqvAll_enc h xs ys, h.eq]
    by_cases c : x = y <;> by_cases k : xs = ys <;> simp [c, k]
theorem enc_int : Enc 0 D.int := ⟨fun a => by simp, fun a b => by rw [py_int, py_int, PyData.eqv]; by_cases h : a = b <;> simp [h]⟩
theorem enc_bl : Enc 0 D.bl := ⟨fun a => by simp, fun a b => by cases a <;> cases b <;> rfl⟩
theorem enc_tup {A : Type} [DecidableEq A] {n : Nat} {e : A → D} (h : Enc n e) : Enc (n + 1) fun xs : List A => .tup (xs.map e) := ⟨fun a => by
    rw [pl_tup]
    intro d hd
    obtain ⟨x, _, rfl⟩ := List.mem_map.mp hd
    exact h.pl x, fun a b => by rw [py_tup, py_tup, PyData.eqv, eqvAll_enc h]⟩
theorem enc_lst {A : Type} [DecidableEq A] {n : Nat} {e : A → D} (h : Enc n e) : Enc (n + 1) fun xs : List A => .lst (xs.map e) := ⟨fun a => by
    rw [pl_lst]
    intro d hd
    obtain ⟨x, _, rfl⟩ := List.mem_map.mp hd
    exact h.pl x, fun a b => by rw [py_lst, py_lst, PyData.eqv, eqvAll_enc h]⟩
theorem enc_pair {A B : Type} [DecidableEq A] [DecidableEq B] {n : Nat} {e : A → D} {f : B → D} (h : Enc n e) (k : Enc n f) : Enc (n + 1) fun p : A × B => .tup [e p.1, f p.2] := ⟨fun p => by
    rw [pl_tup]
    intro d hd
    rcases List.mem_cons.mp hd with rfl | hd
    · exact h.pl _
    · rw [List.mem_singleton.mp hd]; exact k.pl _, fun p q => by
    rw [py_tup, py_tup]
    simp only [List.map_cons, List.map_nil, PyData.eqv, PyData.eqvAll, h.eq, k.eq]
    obtain ⟨a, b⟩ := p
    obtain ⟨c, d⟩ := q
    by_cases h1 : a = c <;> by_cases h2 : b = d <;> simp [h1, h2]⟩
theorem enc_trip {A B C : Type} [DecidableEq A] [DecidableEq B] [DecidableEq C] {n : Nat} {e : A → D} {f : B → D} {g : C → D} (h : Enc n e) (k : Enc n f) (l : Enc n g) : Enc (n + 1) fun p : A × B × C => .tup [e p.1, f p.2.1, g p.2.2] := ⟨fun p => by
    rw [pl_tup]
    intro d hd
    rcases List.mem_cons.mp hd with rfl | hd
    · exact h.pl _
    rcases List.mem_cons.mp hd with rfl | hd
    · exact k.pl _
    · rw [List.mem_singleton.mp hd]; exact l.pl _, fun p q => by
    rw [py_tup, py_tup]
    simp only [List.map_cons, List.map_nil, PyData.eqv, PyData.eqvAll, h.eq, k.eq, l.eq]
    obtain ⟨a, b, c⟩ := p
    obtain ⟨x, y, z⟩ := q
    by_cases h1 : a = x <;> by_cases h2 : b = y <;> by_cases h3 : c = z <;> simp [h1, h2, h3]⟩
/-- a whole number or None -/
def dO : Option Int → D
  | none => .non
  | some i => .int i
@[simp] theorem dO_none : dO none = .non := rfl
@[simp] theorem dO_some (i : Int) : dO (some i) = .int i := rfl
theorem enc_opt : Enc 0 dO := ⟨fun a => by cases a <;> simp, fun a b => by
  cases a with
  | none => cases b with
    | none => rfl
    | some j => rfl
  | some i => cases b with
    | none => rfl
    | some j =>
      rw [dO_some, dO_some, py_int, py_int, PyData.eqv]
      by_cases h : i = j <;> simp [h]⟩
theorem Enc.up {A : Type} [DecidableEq A] {n m : Nat} {e : A → D} (h : Enc n e) (k : n ≤ m) : Enc m e := ⟨fun a => pl_up k (h.pl a), h.eq⟩
theorem enc_dT : Enc 1 dT := enc_tup enc_int
theorem enc_dL : Enc 1 dL := enc_lst enc_int
theorem enc_dPr : Enc 1 dPr := enc_pair enc_int enc_int
theorem enc_dE3 : Enc 1 dE3 := enc_trip enc_int enc_int enc_int
section
variable {A : Type} [DecidableEq A] {n : Nat} {e : A → D}
theorem dEq_enc (h : Enc n e) (a b : A) (hn : n ≤ 40 := by decide) : dEq (e a) (e b) = .ok (.val (.bl (decide (a = b)))) := by
  unfold dEq dPl
  rw [if_pos ⟨pl_up hn (h.pl a), pl_up hn (h.pl b), trivial⟩]
  simp only [h.eq]
theorem dNe_enc (h : Enc n e) (a b : A) (hn : n ≤ 40 := by decide) : dNe (e a) (e b) = .ok (.val (.bl (!decide (a = b)))) := by
  unfold dNe dPl
  rw [if_pos ⟨pl_up hn (h.pl a), pl_up hn (h.pl b), trivial⟩]
  simp only [h.eq]
theorem any_enc (h : Enc n e) (a : A) : ∀ xs : List A, ((xs.map e).any fun y => PyData.eqv (py y) (py (e a))) = decide (a ∈ xs)
  | [] => by simp
  | x :: xs => by
    rw [List.map_cons, List.any_cons, any_enc h a xs, h.eq]
    by_cases c : x = a
    · subst c
      simp
    · have h2 : ¬ a = x := fun z => c z.symm
      by_cases k : a ∈ xs <;> simp [c, h2, k]
theorem dInS_encL (h : Enc n e) (a : A) (xs : List A) (hn : n ≤ 39 := by decide) : dInS (e a) (.lst (xs.map e)) = .ok (.val (.bl (decide (a ∈ xs)))) := by
  unfold dInS dPl
  rw [if_pos ⟨pl_up (by omega) (h.pl a), pl_up (by omega) ((enc_lst h).pl xs), .inl ⟨_, rfl⟩⟩]
  simp only [itemsD, any_enc h]
theorem dInS_encT (h : Enc n e) (a : A) (xs : List A) (hn : n ≤ 39 := by decide) : dInS (e a) (.tup (xs.map e)) = .ok (.val (.bl (decide (a ∈ xs)))) := by
  unfold dInS dPl
  rw [if_pos ⟨pl_up (by omega) (h.pl a), pl_up (by omega) ((enc_tup h).pl xs), .inr ⟨_, rfl⟩⟩]
  simp only [itemsD, any_enc h]
theorem dNinS_encL (h : Enc n e) (a : A) (xs : List A) (hn : n ≤ 39 := by decide) : dNinS (e a) (.lst (xs.map e)) = .ok (.val (.bl (!decide (a ∈ xs)))) := by
  unfold dNinS dPl
  rw [if_pos ⟨pl_up (by omega) (h.pl a), pl_up (by omega) ((enc_lst h).pl xs), .inl ⟨_, rfl⟩⟩]
  simp only [itemsD, any_enc h]
theorem dNinS_encT (h : Enc n e) (a : A) (xs : List A) (hn : n ≤ 39 := by decide) : dNinS (e a) (.tup (xs.map e)) = .ok (.val (.bl (!decide (a ∈ xs)))) := by
  unfold dNinS dPl
  rw [if_pos ⟨pl_up (by omega) (h.pl a), pl_up (by omega) ((enc_tup h).pl xs), .inr ⟨_, rfl⟩⟩]
  simp only [itemsD, any_enc h]
end
@[simp] theorem dInA_l' (d : D) (xs : List D) : dInA d (.lst xs) = dInS d (.lst xs) := rfl
@[simp] theorem dInA_t' (d : D) (xs : List D) : dInA d (.tup xs) = dInS d (.tup xs) := rfl
@[simp] theorem dNinA_l' (d : D) (xs : List D) : dNinA d (.lst xs) = dNinS d (.lst xs) := rfl
@[simp] theorem dNinA_t' (d : D) (xs : List D) : dNinA d (.tup xs) = dNinS d (.tup xs) := rfl
/-! rows in order -/
def leL (a b : List Int) : Bool := decide (a ≤ b)
def srtL (rs : List (List Int)) : List (List Int) := rs.mergeSort leL
theorem leL_tr (a b c : List Int) (h : leL a b = true) (k : leL b c = true) : leL a c = true := by
  simp only [leL, decide_eq_true_eq] at *
  exact List.le_trans h k
theorem leL_tot (a b : List Int) : (leL a b || leL b a) = true := by
  simp only [leL, Bool.or_eq_true, decide_eq_true_eq]
  exact List.le_total a b
theorem leL_anti {a b : List Int} (h : leL a b = true) (k : leL b a = true) : a = b := by
  simp only [leL, decide_eq_true_eq] at *
  exact List.le_antisymm h k
theorem srtL_perm (rs : List (List Int)) : (srtL rs).Perm rs := List.mergeSort_perm _ _
theorem srtL_sorted (rs : List (List Int)) : (srtL rs).Pairwise fun a b => leL a b = true := List.pairwise_mergeSort leL_tr leL_tot rs
theorem srtL_uniq {xs ys : List (List Int)} (p : xs.Perm ys) (h1 : xs.Pairwise fun a b => leL a b = true) (h2 : ys.Pairwise fun a b => leL a b = true) : xs = ys := List.Perm.eq_of_pairwise (fun a b _ _ h k => leL_anti h k) h1 h2 p
theorem srtL_known {xs ys : List (List Int)} (p : xs.Perm ys) (h : ys.Pairwise fun a b => leL a b = true) : srtL xs = ys := srtL_uniq ((srtL_perm xs).trans p) (srtL_sorted _) h
theorem srtL_congr {xs ys : List (List Int)} (p : xs.Perm ys) : srtL xs = srtL ys := srtL_uniq ((srtL_perm xs).trans (p.trans (srtL_perm ys).symm)) (srtL_sorted _) (srtL_sorted _)
@[simp] theorem srtL_len (rs : List (List Int)) : (srtL rs).length = rs.length := (srtL_perm rs).length_eq
theorem srtL_mem {rs : List (List Int)} {r : List Int} : r ∈ srtL rs ↔ r ∈ rs := (srtL_perm rs).mem_iff
theorem dataLt_rows (xs ys : List Int) : PySem.W.dataLt (py (dT xs)) (py (dT ys)) = decide (xs < ys) := by
  rw [py_tup, py_tup, py_ints, py_ints, PySem.W.dataLt_tuple]
  exact PySem.W.dataLt_ints xs ys
theorem srtd_rows (rs : List (List Int)) : srtd (rs.map dT) = (srtL rs).map dT := by
  unfold srtd srtL
  refine (List.map_mergeSort (r := leL) fun a _ b _ => ?_).symm
  show leL a b = !PySem.W.dataLt (py (dT b)) (py (dT a))
  rw [dataLt_rows]
  unfold leL
  by_cases h : b < a
  · have h' : ¬ a ≤ b := fun r => List.not_lt.mpr r h
    simp [h, h']
  · have h' : a ≤ b := List.not_lt.mp h
    simp [h, h']
theorem alike_ints : ∀ (xs ys : List Int), PySem.W.alikeAll ((xs.map D.int).map py) ((ys.map D.int).map py) = true
  | [], _ => by simp [PySem.W.alikeAll]
  | _ :: _, [] => by simp [PySem.W.alikeAll]
  | x :: xs, y :: ys => by
    have := alike_ints xs ys
    simp only [List.map_cons, PySem.W.alikeAll, py_int, PySem.W.alike] at this ⊢
    simpa using this
theorem srtOk_rows {rs : List (List Int)} (h : ∀ r ∈ rs, r ≠ []) : SrtOk (rs.map dT) := by
  refine ⟨fun d hd => ?_, allAlike_map _ (fun a b => by rw [py_tup, py_tup, PySem.W.alike]; exact alike_ints a b) rs, .inl fun d hd => ?_⟩
  · obtain ⟨a, _, rfl⟩ := List.mem_map.mp hd
    exact pl_up (by decide) (enc_dT.pl a)
  · rw [List.map_map] at hd
    obtain ⟨a, ha, rfl⟩ := List.mem_map.mp hd
    cases a with
    | nil => exact absurd rfl (h _ ha)
    | cons x xs => exact ⟨.int x, (xs.map D.int).map py, by show py (dT _) = _; rw [py_tup]; rfl⟩
theorem bSorted_rows {rs : List (List Int)} (h : ∀ r ∈ rs, r ≠ []) : bSorted [.lst (rs.map dT)] = .ok (.own (.lst ((srtL rs).map dT))) := by
  rw [bSorted_l, if_pos (srtOk_rows h), srtd_rows]
end Pu
namespace Pu
open PySem L2

/-! # the last of a row -/
def lst (r : List Int) : Int := nth r (r.length - 1)
theorem atI_neg1 {r : List Int} (h : r ≠ []) : atI (r.map D.int) (-1) = some (.int (lst r)) := by
  have hp : 0 < r.length := List.length_pos_iff.mpr h
  have e : r = r.dropLast ++ [r.getLast h] := (List.dropLast_concat_getLast h).symm
  have e2 : lst r = r.getLast h := by
    unfold lst
    rw [nth_get (by omega), List.getLast_eq_getElem]
  rw [e2]
  conv => lhs; rw [e, List.map_append]
  exact atI_last
theorem lst_snoc (r : List Int) (k : Int) : lst (r ++ [k]) = k := by
  unfold lst
  rw [nth_get (by simp), List.getElem_append_right (by simp)]
  simp
theorem lst_mem {r : List Int} (h : r ≠ []) : lst r ∈ r := nth_mem (by have := List.length_pos_iff.mpr h; omega)
theorem mem_le_sum {r : List Int} (h : ∀ x ∈ r, 0 ≤ x) : ∀ x ∈ r, x ≤ r.sum := by
  induction r with
  | nil => simp
  | cons y r ih =>
    have hp : 0 ≤ r.sum := by
      clear ih
      have h2 : ∀ x ∈ r, 0 ≤ x := fun x hx => h x (List.mem_cons_of_mem _ hx)
      clear h
      induction r with
      | nil => simp
      | cons z r ih => simp; have := h2 z List.mem_cons_self; have := ih fun x hx => h2 x (List.mem_cons_of_mem _ hx); omega
    intro x hx
    have hy := h y List.mem_cons_self
    simp
    rcases List.mem_cons.mp hx with rfl | hx
    · omega
    · have := ih (fun z hz => h z (List.mem_cons_of_mem _ hz)) x hx
      omega
theorem range_filter (a b : Int) : ∀ n : Nat, (List.range n).filter (fun (i : Nat) => decide (a + i ≤ b)) = List.range (min n (b + 1 - a).toNat)
  | 0 => by simp
  | n + 1 => by
    rw [List.range_succ, List.filter_append, range_filter a b n]
    by_cases h : a + (n : Int) ≤ b
    · rw [List.filter_cons_of_pos (by simpa using h), List.filter_nil, Nat.min_eq_left (by omega), Nat.min_eq_left (by omega), List.range_succ]
    · rw [List.filter_cons_of_neg (by simpa using h), List.filter_nil, List.append_nil]
      congr 1
      omega
end Pu
namespace Pu
open PySem L2

/-! # comparisons of rows, pairs, triples, as rules -/
@[simp] theorem dEq_rl (a b : List (List Int)) : dEq (.lst (a.map dT)) (.lst (b.map dT)) = .ok (.val (.bl (decide (a = b)))) := dEq_enc (enc_lst enc_dT) a b
@[simp] theorem dNe_rl (a b : List (List Int)) : dNe (.lst (a.map dT)) (.lst (b.map dT)) = .ok (.val (.bl (!decide (a = b)))) := dNe_enc (enc_lst enc_dT) a b
@[simp] theorem dEq_rt (a b : List (List Int)) : dEq (.tup (a.map dT)) (.tup (b.map dT)) = .ok (.val (.bl (decide (a = b)))) := dEq_enc (enc_tup enc_dT) a b
@[simp] theorem dNe_rt (a b : List (List Int)) : dNe (.tup (a.map dT)) (.tup (b.map dT)) = .ok (.val (.bl (!decide (a = b)))) := dNe_enc (enc_tup enc_dT) a b
@[simp] theorem dEq_pl (a b : List (Int × Int)) : dEq (.lst (a.map dPr)) (.lst (b.map dPr)) = .ok (.val (.bl (decide (a = b)))) := dEq_enc (enc_lst enc_dPr) a b
@[simp] theorem dNe_pl (a b : List (Int × Int)) : dNe (.lst (a.map dPr)) (.lst (b.map dPr)) = .ok (.val (.bl (!decide (a = b)))) := dNe_enc (enc_lst enc_dPr) a b
@[simp] theorem dEq_el (a b : List (Int × Int × Int)) : dEq (.lst (a.map dE3)) (.lst (b.map dE3)) = .ok (.val (.bl (decide (a = b)))) := dEq_enc (enc_lst enc_dE3) a b
@[simp] theorem dNe_el (a b : List (Int × Int × Int)) : dNe (.lst (a.map dE3)) (.lst (b.map dE3)) = .ok (.val (.bl (!decide (a = b)))) := dNe_enc (enc_lst enc_dE3) a b
@[simp] theorem dEq_ol (a b : List (Option Int)) : dEq (.lst (a.map dO)) (.lst (b.map dO)) = .ok (.val (.bl (decide (a = b)))) := dEq_enc (enc_lst enc_opt) a b
@[simp] theorem dNe_ol (a b : List (Option Int)) : dNe (.lst (a.map dO)) (.lst (b.map dO)) = .ok (.val (.bl (!decide (a = b)))) := dNe_enc (enc_lst enc_opt) a b
theorem dEq_pp (a b : Int × Int) : dEq (dPr a) (dPr b) = .ok (.val (.bl (decide (a = b)))) := dEq_enc enc_dPr a b
theorem dEq_ee (a b : Int × Int × Int) : dEq (dE3 a) (dE3 b) = .ok (.val (.bl (decide (a = b)))) := dEq_enc enc_dE3 a b
/-- a thing compared with itself -/
theorem eqv_pl : ∀ (n : Nat) (d : D), Pl n d → PyData.eqv (py d) (py d) = true := by
  intro n
  induction n with
  | zero =>
    intro d h
    cases d <;> first | exact (show False from h).elim | (simp [py, PyData.eqv])
  | succ n ih =>
    have all : ∀ ds : List D, (∀ d ∈ ds, Pl n d) → PyData.eqvAll (ds.map py) (ds.map py) = true := by
      intro ds
      induction ds with
      | nil => intro _; simp [PyData.eqvAll]
      | cons d ds ih2 =>
        intro h
        rw [List.map_cons, PyData.eqvAll, ih d (h d List.mem_cons_self), ih2 fun e z => h e (List.mem_cons_of_mem _ z)]
        rfl
    intro d h
    cases d <;> first | exact (show False from h).elim | (simp [py, PyData.eqv]; done) | (simp only [py, PyData.eqv, eqvAll_int, decide_true]; done) | (simp only [py, PyData.eqv, pys_map]; exact all _ h)
theorem dEq_self {d : D} (h : Pl 40 d) : dEq d d = .ok (.val (.bl true)) := by
  unfold dEq dPl
  rw [if_pos ⟨h, h, trivial⟩]
  simp only [eqv_pl 40 d h]
theorem dNe_self {d : D} (h : Pl 40 d) : dNe d d = .ok (.val (.bl false)) := by
  unfold dNe dPl
  rw [if_pos ⟨h, h, trivial⟩]
  simp only [eqv_pl 40 d h]
  rfl
end Pu
namespace Pu
open PySem L2 PySem.Spec PyProof.Rows

/-! # own things -/
/-- the classes cs are known; f is no name of theirs -/
def AtOk (K : PySem.W.Frag) (mg : PySem.Str → Option Value) (cs : List PySem.Str) (f : PySem.Str) : Prop := ∀ c ∈ cs, ∀ C, mg c = some (.ref C) → Cls K C ∧ NoAttr K C f
theorem atOk_nil {K : PySem.W.Frag} {mg : PySem.Str → Option Value} {f : PySem.Str} : AtOk K mg [] f := fun _ h => nomatch h
theorem atOk_cons {K : PySem.W.Frag} {mg : PySem.Str → Option Value} {cs : List PySem.Str} {c f : PySem.Str} {A : Addr} (m : mg c = some (.ref A)) (h : Cls K A) (n : NoAttr K A f) (t : AtOk K mg cs f) : AtOk K mg (c :: cs) f := fun d hd C e => by
  rcases List.mem_cons.mp hd with rfl | hd
  · rw [m] at e
    cases e
    exact ⟨h, n⟩
  · exact t d hd C e
section
variable {K : PySem.W.Frag} {mg : PySem.Str → Option Value} {S : Addr → Prop} {H : Hp}
theorem Top.ins {v : V} {c : PySem.Str} {ds : List (PySem.Str × D)} (h : Top K mg S H v (.ins c ds)) : ∃ a C dx fs, v = .ref a ∧ H a = some (.ins C dx fs) ∧ mg c = some (.ref C) ∧ ds.map (·.1) = fs.map (·.1) ∧ Reps K mg S H (fs.map (·.2)) (ds.map (·.2)) := by
  rcases h with h | ⟨p, rfl, h⟩
  · cases h with
    | ins s e m g q => exact ⟨_, _, _, _, rfl, e, m, g, q⟩
  · cases h with
    | ins e m g q => exact ⟨_, _, _, _, rfl, e, m, g, q⟩
theorem flds {f : PySem.Str} {d : D} : ∀ {fs : List (PySem.Str × V)} {ds : List (PySem.Str × D)}, ds.map (·.1) = fs.map (·.1) → Reps K mg S H (fs.map (·.2)) (ds.map (·.2)) → ds.lookup f = some d → ∃ v, fs.lookup f = some v ∧ Rep K mg S H v d
  | [], [], _, _, e => by cases e
  | [], _ :: _, e, _, _ => by cases e
  | _ :: _, [], e, _, _ => by cases e
  | (a, x) :: fs, (b, y) :: ds, e, r, l => by
    rw [List.map_cons, List.map_cons] at e r
    injection e with e1 e2
    simp only at e1
    subst e1
    cases r with
    | cons r1 r2 =>
      rw [List.lookup_cons] at l ⊢
      cases q : (f == b) with
      | true =>
        rw [q] at l
        cases l
        exact ⟨x, rfl, r1⟩
      | false =>
        rw [q] at l
        exact flds e2 r2 l
theorem flds_none {f : PySem.Str} : ∀ {fs : List (PySem.Str × V)} {ds : List (PySem.Str × D)}, ds.map (·.1) = fs.map (·.1) → ds.lookup f = none → fs.lookup f = none
  | [], [], _, _ => rfl
  | [], _ :: _, e, _ => by cases e
  | _ :: _, [], e, _ => by cases e
  | (a, x) :: fs, (b, y) :: ds, e, l => by
    rw [List.map_cons, List.map_cons] at e
    injection e with e1 e2
    simp only at e1
    subst e1
    rw [List.lookup_cons] at l ⊢
    cases q : (f == b) with
    | true => rw [q] at l; cases l
    | false =>
      rw [q] at l
      exact flds_none e2 l
def putFD (f : PySem.Str) (v : D) : List (PySem.Str × D) → List (PySem.Str × D)
  | [] => [(f, v)]
  | (g, x) :: r => if g = f then (g, v) :: r else (g, x) :: putFD f v r
theorem putF_rel {f : PySem.Str} {v : V} {d : D} (p : Rep K mg S H v d) : ∀ {fs : List (PySem.Str × V)} {ds : List (PySem.Str × D)}, ds.map (·.1) = fs.map (·.1) → Reps K mg S H (fs.map (·.2)) (ds.map (·.2)) →
    (putFD f d ds).map (·.1) = (putF f v fs).map (·.1) ∧ Reps K mg S H ((putF f v fs).map (·.2)) ((putFD f d ds).map (·.2))
  | [], [], _, _ => ⟨rfl, .cons p .nil⟩
  | [], _ :: _, e, _ => by cases e
  | _ :: _, [], e, _ => by cases e
  | (a, x) :: fs, (b, y) :: ds, e, r => by
    rw [List.map_cons, List.map_cons] at e r
    injection e with e1 e2
    simp only at e1
    subst e1
    cases r with
    | cons r1 r2 =>
      obtain ⟨i1, i2⟩ := putF_rel p e2 r2
      unfold putFD putF
      by_cases q : b = f
      · rw [if_pos q, if_pos q]
        exact ⟨by simp [e2], .cons p r2⟩
      · rw [if_neg q, if_neg q]
        exact ⟨by simp [i1], .cons r1 i2⟩
theorem putF_len {f : PySem.Str} {v : V} {fs : List (PySem.Str × V)} {ds : List (PySem.Str × D)} (e : ds.map (·.1) = fs.map (·.1)) : fs.length = ds.length := by
  have := congrArg List.length e
  simpa using this.symm
end
/-! o.f -/
def dAt (cs : List PySem.Str) (f : PySem.Str) : D → Rs VD
  | .ins c fs => if cs.contains c then (rO (fs.lookup f)).bind fun d => .ok (.val d) else .stuck
  | _ => .stuck
theorem q_at {cs : List PySem.Str} {f : PySem.Str} : Quiet1 (dAt cs f) := fun d => by
  unfold dAt
  split <;> first | exact quiet_s | exact quiet_if (quiet_r fun _ => quiet_v) quiet_s
theorem se_at {X : Cx} {C : FC} {e : Expr} {f : PySem.Str} {g : DE} {cs : List PySem.Str} {pos : Pos} (ho : AtOk X.K X.mg cs f) (he : SE X C e g) (hb : attributeBase e f X.env (eval e X.env) = eval e X.env := by rfl) : SE X C (.Attribute e f pos) (eUn (dAt cs f) g) := by
  refine pe_imp (pe_fld he hb) ?_
  rintro σ H Q ⟨ρ, T, h, P⟩
  refine ⟨ρ, T, h, gv_dt h P fun d T' v H1 h1 e1 p P1 => ?_⟩
  obtain ⟨z, ez, P3⟩ := lift_ex (q_at d) h1 (post_from h1 e1 P1)
  unfold dAt at ez
  split at ez
  · obtain ⟨hc, ez⟩ := ifs_ok ez
    obtain ⟨d, ed, ez⟩ := o_ok ez
    cases ez
    obtain ⟨a, Ca, dx, fs, rfl, ha, hm, hn, hr⟩ := p.top.ins
    obtain ⟨v, ev, rv⟩ := flds hn hr ed
    obtain ⟨c1, c2⟩ := ho _ (by simpa using hc) Ca hm
    exact ⟨a, Ca, dx, fs, v, rfl, ha, c1, c2, ev, P3.pure rv⟩
  · cases ez
/-! self.f = e -/
def sFldK (i : Nat) (cs : List PySem.Str) (f : PySem.Str) (r : Env) (p : D × Tp) : Option (Option VD) → Rs (Fl × Tp)
  | some (some (.own (.ins c fs))) => if cs.contains c ∧ fs.length < 1000 then .ok (.nx (r.set i (some (.own (.ins c (putFD f p.1 fs))))), p.2) else .stuck
  | _ => .stuck
def sFldI (i : Nat) (cs : List PySem.Str) (f : PySem.Str) (fe : DE) : DS := fun r T => (dv (fe r T)).bind fun p => sFldK i cs f r p r[i]?
theorem ss_fldI {X : Cx} {C : FC} {e : Expr} {f x : PySem.Str} {g : DE} {cs : List PySem.Str} {pos pos' p1 : Pos} (i : Nat) (ho : AtOk X.K X.mg cs f) (he : SE X C e g)
    (hN : X.N[i]? = some x := by rfl) (hv : Vis X.env.scope x := by first | exact Or.inl rfl | exact Or.inr (Or.inl rfl) | exact Or.inr (Or.inr rfl)) (hdb : (x == ("__debug__" : Str)) = false := by decide) (hcd : (x == ("__classdict__" : Str)) = false := by decide)
    (hs : swapsWith e (some (.Attribute (.Name x p1) f pos')) pos.line X.env = pure false := by rfl) : SSt X C (.Assign [.Attribute (.Name x p1) f pos'] e pos) (sFldI i cs f g) := by
  refine ps_imp (ps_fld (pe_var hN hv hdb hcd) he hs) ?_
  rintro D σ H ⟨ρ, T, h, P⟩
  refine ⟨ρ, T, h, gs_dv h (PostS.at (σ := σ) P.bind) fun d T' v H' h' e1 q P => ?_⟩
  have P : PostS X.K X.mg C (GS X.K X.mg C D) (sFldK i cs f ρ (d, T') ρ[i]?) := P
  unfold sFldK at P
  split at P
  · rename_i c fs ei
    obtain ⟨⟨hc, hl⟩, P⟩ := postS_if P
    obtain ⟨p, es, o, _⟩ := h'.own i _ ei
    have sp : SS C Z0 ρ σ p := .inr (.inr (.inl ⟨i, _, ei, es⟩))
    obtain ⟨a, Ca, dx, fv, ea, eH, hm, hn, hr⟩ := (show Top X.K X.mg (SS C Z0 ρ σ) H' (.ref p) _ from .inr ⟨p, rfl, o⟩).ins
    cases ea
    obtain ⟨c1, c2⟩ := ho _ (by simpa using hc) Ca hm
    obtain ⟨i1, i2⟩ := putF_rel (f := f) (q.upd (u := .ins Ca dx (putF f v fv)) sp) hn (hr.upd sp)
    have hlen : fv.length < 1000 := by
      have := putF_len (f := f) (v := v) hn
      omega
    exact ⟨_, es, p, Ca, dx, fv, rfl, eH, c1, c2, hlen, P _ _ (h'.upd ei es (fun a o ne z => by rw [upd_ne ne]; exact z) (.ins upd_same hm i1 i2))⟩
  · exact P.elim

/-! self.f, self.f = e where self is the tape -/
def tpD (f : List (PySem.Str × D) → PySem.Str → Rs (VD × Tp)) : Tp → Rs (VD × Tp)
  | some (.ins c fs) => f fs c
  | _ => .stuck
def eTat (i : Nat) (cs : List PySem.Str) (f : PySem.Str) : DE := fun r T => match r[i]? with
  | some (some .tape) => tpD (fun fs c => if cs.contains c then (rO (fs.lookup f)).bind fun d => .ok (.val d, T) else .stuck) T
  | _ => .stuck
def tpS (f : List (PySem.Str × D) → PySem.Str → Rs (Fl × Tp)) : Tp → Rs (Fl × Tp)
  | some (.ins c fs) => f fs c
  | _ => .stuck
def sTfld (i : Nat) (cs : List PySem.Str) (f : PySem.Str) (fe : DE) : DS := fun r T => (dv (fe r T)).bind fun p => match r[i]? with
  | some (some .tape) => tpS (fun fs c => if cs.contains c ∧ fs.length < 1000 then .ok (.nx r, some (.ins c (putFD f p.1 fs))) else .stuck) p.2
  | _ => .stuck
theorem se_tat {X : Cx} {C : FC} {f x : PySem.Str} {cs : List PySem.Str} {pos p1 : Pos} (i : Nat) (ho : AtOk X.K X.mg cs f)
    (hN : X.N[i]? = some x := by rfl) (hv : Vis X.env.scope x := by first | exact Or.inl rfl | exact Or.inr (Or.inl rfl) | exact Or.inr (Or.inr rfl)) (hdb : (x == ("__debug__" : Str)) = false := by decide) (hcd : (x == ("__classdict__" : Str)) = false := by decide)
    (hb : attributeBase (.Name x p1) f X.env (eval (.Name x p1) X.env) = eval (.Name x p1) X.env := by rfl) : SE X C (.Attribute (.Name x p1) f pos) (eTat i cs f) := by
  refine pe_imp (pe_fld (pe_var hN hv hdb hcd) hb) ?_
  rintro σ H Q ⟨ρ, T, h, P⟩
  unfold eTat at P
  cases ei : ρ[i]? with
  | none => rw [ei] at P; exact P.elim
  | some o =>
    rw [ei] at P
    cases o with
    | none => exact P.elim
    | some w =>
      cases w with
      | tape =>
        obtain ⟨p0, hc, es⟩ := h.tslot i ei
        have t := h.tape
        unfold TapeOk at t
        rw [hc] at t
        obtain ⟨d, rfl, o⟩ := t
        cases d with
        | ins c fs =>
          obtain ⟨hcs, P⟩ := postG_if (show PostG X.K X.mg C σ (GV X.K X.mg C ρ σ H Q) (if cs.contains c then (rO (fs.lookup f)).bind fun d => .ok (.val d, some (.ins c fs)) else .stuck) from P)
          obtain ⟨d, ed, P⟩ := rO_ex P
          obtain ⟨a, Ca, dx, fv, ea, eH, hm, hn, hr⟩ := (show Top X.K X.mg (SS C Z0 ρ σ) H (.ref p0) _ from .inr ⟨p0, rfl, o⟩).ins
          cases ea
          obtain ⟨c1, c2⟩ := ho _ (by simpa using hcs) Ca hm
          obtain ⟨v, ev, rv⟩ := flds hn hr ed
          exact ⟨_, es, p0, Ca, dx, fv, v, rfl, eH, c1, c2, ev, P v H h Ext.refl rv⟩
        | _ => exact (show False from P).elim
      | _ => exact P.elim
theorem ss_tfld {X : Cx} {C : FC} {e : Expr} {f x : PySem.Str} {g : DE} {cs : List PySem.Str} {pos pos' p1 : Pos} (i : Nat) (ho : AtOk X.K X.mg cs f) (he : SE X C e g)
    (hN : X.N[i]? = some x := by rfl) (hv : Vis X.env.scope x := by first | exact Or.inl rfl | exact Or.inr (Or.inl rfl) | exact Or.inr (Or.inr rfl)) (hdb : (x == ("__debug__" : Str)) = false := by decide) (hcd : (x == ("__classdict__" : Str)) = false := by decide)
    (hs : swapsWith e (some (.Attribute (.Name x p1) f pos')) pos.line X.env = pure false := by rfl) : SSt X C (.Assign [.Attribute (.Name x p1) f pos'] e pos) (sTfld i cs f g) := by
  refine ps_imp (ps_fld (pe_var hN hv hdb hcd) he hs) ?_
  rintro D σ H ⟨ρ, T, h, P⟩
  refine ⟨ρ, T, h, gs_dv h (PostS.at (σ := σ) P.bind) fun d T' v H' h' e1 q P => ?_⟩
  cases ei : ρ[i]? with
  | none => rw [ei] at P; exact P.elim
  | some o =>
    rw [ei] at P
    cases o with
    | none => exact P.elim
    | some w =>
      cases w with
      | tape =>
        obtain ⟨p0, hc, es⟩ := h'.tslot i ei
        have t := h'.tape
        unfold TapeOk at t
        rw [hc] at t
        obtain ⟨d0, rfl, o⟩ := t
        cases d0 with
        | ins c fs =>
          obtain ⟨⟨hcs, hl⟩, P⟩ := postS_if (show PostS X.K X.mg C (GS X.K X.mg C D) (if cs.contains c ∧ fs.length < 1000 then .ok (.nx ρ, some (.ins c (putFD f d fs))) else .stuck) from P)
          obtain ⟨a, Ca, dx, fv, ea, eH, hm, hn, hr⟩ := (show Top X.K X.mg (SS C Z0 ρ σ) H' (.ref p0) _ from .inr ⟨p0, rfl, o⟩).ins
          cases ea
          have sp : SS C Z0 ρ σ p0 := .inr (.inl hc)
          obtain ⟨c1, c2⟩ := ho _ (by simpa using hcs) Ca hm
          obtain ⟨i1, i2⟩ := putF_rel (f := f) (q.upd (u := .ins Ca dx (putF f v fv)) sp) hn (hr.upd sp)
          have hlen : fv.length < 1000 := by
            have := putF_len (f := f) (v := v) hn
            omega
          refine ⟨_, es, p0, Ca, dx, fv, rfl, eH, c1, c2, hlen, P _ _ (h'.move (T' := some (.ins c (putFD f d fs))) (fun a o z ne => ?_) ss_same (fun _ _ _ _ _ z => z) ?_ fun _ z => z.elim)⟩
          · rw [upd_ne (fun w => ne (by rw [hc, w]))]
            exact z
          · unfold TapeOk
            rw [hc]
            exact ⟨_, rfl, .ins upd_same hm i1 i2⟩
        | _ => exact (show False from P).elim
      | _ => exact P.elim
/-! C(..) -/
/-- a class, as the head tells it: its __init__'s mirror -/
def OkI (P : Program) (w : World) (K : PySem.W.Frag) (mg : PySem.Str → Option Value) (base : Heap) (k : Nat) (x : PySem.Str) (n : Nat) (M : DM) : Prop :=
  ∃ (fd : FuncData) (ps : List PySem.Str) (f : Addr), FnOk P w K mg base (L2.CX P w) k f fd ps (SpD K mg n true M) ∧ Binds K fd ps [] ∧ Mk K (He.ga K x) f ∧ mg x = some (.ref (He.ga K x))
/-- a method -/
def OkM (P : Program) (w : World) (K : PySem.W.Frag) (mg : PySem.Str → Option Value) (base : Heap) (k : Nat) (x m : PySem.Str) (n : Nat) (io : Bool) (M : DM) : Prop :=
  ∃ (fd : FuncData) (ps : List PySem.Str) (f : Addr), FnOk P w K mg base (L2.CX P w) k f fd ps (SpD K mg n io M) ∧ Binds K fd ps [] ∧ Meth K (He.ga K x) m f ∧ Cls K (He.ga K x) ∧ mg x = some (.ref (He.ga K x))
section
variable {P : Program} {w : World} {K : PySem.W.Frag} {mg : PySem.Str → Option Value} {base : Heap}
theorem fnOk_at {x qual : PySem.Str} {params : Arguments} {body : List Stmt} {scope : Scope} {N ps : List PySem.Str} {k : Nat} {io : Bool} {g : DS} {fd : FuncData} {f : Addr} (F : FunD K x qual params body scope [] [] f fd) (S : FnScope N ps scope)
    (hbody : ∀ (cdv : Value) (A : Around) (outer : List PySem.Env) (s : Shared) (H : Hp) (E : XK) (C : FC), Room k (A.deeper (PyProof.Rows.envOfC qual scope s.heap.objs.size f cdv)) → Takes (cxOf (L2.CX P w) P w K mg base N qual scope f cdv A outer s H E) C.W →
      SSs (cxOf (L2.CX P w) P w K mg base N qual scope f cdv A outer s H E) C body g) : FnOk P w K mg base (L2.CX P w) (k + 1) f fd ps (SpD K mg ps.length io (runD N.length io g)) := by
  refine F.ok (CX := L2.CX P w) S (fun vs H Q E ⟨C, vs1, ds, T, _, hl, _⟩ => hl) fun cdv A outer s H vs Q E hr hsp => ?_
  obtain ⟨C0, vs1, ds, T, rfl, hl, st, a, t, r, P⟩ := hsp
  let C : FC := { C0 with W := fun cls d _ H => E cls d H, pin := [] }
  refine ⟨_, hbody cdv A outer s C0.H0 E C hr (takes_of rfl rfl rfl rfl), ?_⟩
  have hpl : ps.length ≤ N.length := by
    have := congrArg List.length S.pre
    rw [List.length_take] at this
    omega
  refine ⟨env0 N.length io ds, T, holds_start (C := C) (by rw [hl]; exact hpl) st a t r rfl, ?_⟩
  unfold runD at P
  cases q : g (env0 N.length io ds) T with
  | stuck =>
    rw [q] at P
    exact P.elim
  | exc c fs T' r' =>
    rw [q] at P
    exact fun σ cls d H' h1 x => P cls d H' h1.frame (h1.tape.less fun a _ _ s z => s (s1_less a z)) (x.less fun a _ _ s z => s (s1_less a z))
  | ok p =>
    rw [q] at P
    obtain ⟨fl, T'⟩ := p
    cases fl with
    | nx r' => exact fun σ H h1 => P .non H h1.frame (ret_val (C := C) h1 .non)
    | rt v => exact fun u H e1 q => P u H e1 q
    | bk r' => exact P.elim
    | ct r' => exact P.elim
theorem okI_of {c x qual : PySem.Str} {params : Arguments} {body : List Stmt} {scope : Scope} {N ps : List PySem.Str} {k : Nat} {g : DS} {f : Addr} (F : ∃ fd, FunD K x qual params body scope [] [] f fd) (M : Mk K (He.ga K c) f) (hm : mg c = some (.ref (He.ga K c))) (S : FnScope N ps scope)
    (hb : ∀ (kV doc pm : Value) (an : Option Addr) (cdv ct : Value) (us : List Value), us.length = ps.length → bindArgs (PySem.W.fnOf x qual params body scope .none kV doc pm an cdv ct) ⟨us, []⟩ = pure (ps.zip us))
    (hbody : ∀ (cdv : Value) (A : Around) (outer : List PySem.Env) (s : Shared) (H : Hp) (E : XK) (C : FC), Room k (A.deeper (PyProof.Rows.envOfC qual scope s.heap.objs.size f cdv)) → Takes (cxOf (L2.CX P w) P w K mg base N qual scope f cdv A outer s H E) C.W →
      SSs (cxOf (L2.CX P w) P w K mg base N qual scope f cdv A outer s H E) C body g) : OkI P w K mg base (k + 1) c ps.length (runD N.length true g) := by
  obtain ⟨fd, F⟩ := F
  exact ⟨fd, ps, f, fnOk_at F S hbody, F.bindsN hb, M, hm⟩
theorem okM_of {c m x qual : PySem.Str} {params : Arguments} {body : List Stmt} {scope : Scope} {N ps : List PySem.Str} {k : Nat} {io : Bool} {g : DS} {f : Addr} (F : ∃ fd, FunD K x qual params body scope [] [] f fd) (M : Meth K (He.ga K c) m f) (hc : Cls K (He.ga K c)) (hm : mg c = some (.ref (He.ga K c))) (S : FnScope N ps scope)
    (hb : ∀ (kV doc pm : Value) (an : Option Addr) (cdv ct : Value) (us : List Value), us.length = ps.length → bindArgs (PySem.W.fnOf x qual params body scope .none kV doc pm an cdv ct) ⟨us, []⟩ = pure (ps.zip us))
    (hbody : ∀ (cdv : Value) (A : Around) (outer : List PySem.Env) (s : Shared) (H : Hp) (E : XK) (C : FC), Room k (A.deeper (PyProof.Rows.envOfC qual scope s.heap.objs.size f cdv)) → Takes (cxOf (L2.CX P w) P w K mg base N qual scope f cdv A outer s H E) C.W →
      SSs (cxOf (L2.CX P w) P w K mg base N qual scope f cdv A outer s H E) C body g) : OkM P w K mg base (k + 1) c m ps.length io (runD N.length io g) := by
  obtain ⟨fd, F⟩ := F
  exact ⟨fd, ps, f, fnOk_at F S hbody, F.bindsN hb, M, hc, hm⟩
end
section
variable {X : Cx} {CX : CXT} {k : Nat} {f A : Addr} {fd : FuncData} {ps : List PySem.Str} {sp : Sp} {E : L2.St → XK} {x m : PySem.Str} {p pos apos : Pos} {e o : Expr} {es : List Expr} {ta : TE} {t : TA}
/-- C(..), what it may let out told by the slots -/
def tMakeX (A : Addr) (sp : Sp) (E : L2.St → XK) (t : TA) : TE := fun σ H Q => t σ H fun vs H1 => ∀ x dx, H1 x = none → H1 dx = none → dx ≠ x → sp (.ref x :: vs) (L2.upd (L2.upd H1 dx (.own x)) x (.ins A dx [])) (fun v H2 => v = .non ∧ Q (.ref x) H2) (E σ)
theorem run_makeX {pins : List (Addr × Obj)} {σ : L2.St} {H : Hp} {s : Shared} {Q : VK} {us : List Value} {vs : List V} (M : Mk X.K A f) (F : FnOk X.prog X.w X.K X.mg X.base CX k f fd ps sp) (hr : Room (k + 1) X.A) (hb : Binds X.K fd ps []) (hx : PassesAt CX X σ (E σ)) (I : Inv X pins σ H s) (r : Vals vs us)
    (h : ∀ x dx, H x = none → H dx = none → dx ≠ x → sp (.ref x :: vs) (L2.upd (L2.upd H dx (.own x)) x (.ins A dx [])) (fun v H2 => v = .non ∧ Q (.ref x) H2) (E σ)) : wpAny (model X.prog X.w) X.A (call (.ref A) us) (EP X pins σ Q) X.xe s := by
  have hq := h (s.heap.objs.size + 1) s.heap.objs.size (I.hok.fresh (Nat.le_succ _)) (I.hok.fresh (Nat.le_refl _)) (Nat.ne_of_lt (Nat.lt_succ_self _))
  have I2 := Inv.made (C := A) I
  have r2 : Vals (V.ref (s.heap.objs.size + 1) :: vs) (Value.ref (s.heap.objs.size + 1) :: us) := .cons rfl r
  have hl : (Value.ref (s.heap.objs.size + 1) :: us).length = ps.length := (r2.length.symm).trans (F.len _ _ _ _ hq)
  have b := hb _ (Value.ref (s.heap.objs.size + 1) :: us) I2.kIn (by rw [List.append_nil]; exact hl)
  rw [List.append_nil] at b
  refine wpAny_call (make_map (f := f) I.kIn M.makes M.init (beq_iff_eq.mp M.fn) (codeAny_mono (F.run _ X.stack _ _ ⟨Value.ref (s.heap.objs.size + 1) :: us, []⟩ (Value.ref (s.heap.objs.size + 1) :: us) _ _ (E σ) (hr.make A us []) (I2.env0.make A us []) b r2 hq) fun r s' hq' => ?_))
  cases r with
  | error ee => exact hx pins _ _ ee s' I2 hq'
  | ok fl =>
    cases fl with
    | ret u =>
      obtain ⟨v, H3, I3, rv, ev, q3⟩ := I2.after hq'
      cases ev
      exact ⟨rv, ⟨V.ref (s.heap.objs.size + 1), H3, I3, rfl, q3⟩⟩
    | next => exact hq'.elim
    | brk => exact hq'.elim
    | cont => exact hq'.elim
theorem pe_makeX (M : Mk X.K A f) (F : FnOk X.prog X.w X.K X.mg X.base CX k f fd ps sp) (hr : Room (k + 1) X.A) (hg : Gl X x) (hm : X.mg x = some (.ref A)) (hb : Binds X.K fd ps []) (hx : ∀ σ, PassesAt CX X σ (E σ)) (ha : PA X (e :: es) t) (hdb : (x == ("__debug__" : PySem.Str)) = false)
    (he : starEach (e :: es) X.env = (false, eval e X.env) :: starEach es X.env) (hpl : (backTo pos (starEach es X.env)).any (·.1) = false) : PE X (.Call (.Name x p) (e :: es) [] pos) (tMakeX A sp E t) :=
  ⟨fun pins s σ H Q I h => wpAny_Call_Name_kw (ld_glob I hg hm (PySem.W.callWith_K (h₀ := X.base) I.ok.mod.kin M.kp (thn (ha.run pos pins s σ H _ I h) fun us s1 ⟨vs, H1, I1, r, q⟩ => ⟨I1.kIn, run_makeX M F hr hb (hx σ) I1 r q⟩) he hpl) hdb)⟩
end
def mkK (T : Tp) (r : Env) : Rs (VD × Tp) → Rs (VD × Tp)
  | .ok (.val .non, some (.ins c fs)) => .ok (.own (.ins c fs), T)
  | .exc c fs _ _ => .exc c fs T r
  | _ => .stuck
@[simp] theorem mkK_ok (T : Tp) (r : Env) (c : PySem.Str) (fs : List (PySem.Str × D)) : mkK T r (.ok (.val .non, some (.ins c fs))) = .ok (.own (.ins c fs), T) := rfl
def eMake (c : PySem.Str) (n : Nat) (M : DM) (g : DA) : DE := fun r T => (g r T).bind fun p => if p.1.length + 1 = n then mkK p.2 r (M p.1 (some (.ins c []))) else .stuck
section
variable {X : Cx} {C : FC} {e : Expr} {es : List Expr} {g : DA} {pos p : Pos} {x : PySem.Str} {k j n : Nat} {M : DM}
theorem se_make (F : OkI X.prog X.w X.K X.mg X.base j x n M) (hr : Room k X.A) (tk : Takes X C.W) (ha : SA X C (e :: es) g) (hk : j + 1 ≤ k := by decide)
    (hg : Gl X x := by rfl) (hdb : (x == ("__debug__" : PySem.Str)) = false := by decide) (he : starEach (e :: es) X.env = (false, eval e X.env) :: starEach es X.env := by rfl) (hpl : (backTo pos (starEach es X.env)).any (·.1) = false := by rfl) :
    SE X C (.Call (.Name x p) (e :: es) [] pos) (eMake x n M g) := by
  obtain ⟨fd, ps, f, F, b, mk, hm⟩ := F
  refine pe_imp (pe_makeX mk F (hr.mono hk) hg hm b (fun σ => passAt tk σ) ha hdb he hpl) ?_
  rintro σ H Q ⟨ρ, T, h, P⟩
  refine ⟨ρ, T, h, ga_bind P fun ds T' vs H1 h1 e1 p P1 => ?_⟩
  obtain ⟨hn, P2⟩ := postG_if P1
  intro a dx ha hdx ne
  have kk : ∀ b o, H1 b = some o → (L2.upd (L2.upd H1 dx (.own a)) a (.ins (He.ga X.K x) dx [])) b = some o := fun b o z => by
    rw [upd_ne (ne_of_none z ha), upd_ne (ne_of_none z hdx)]
    exact z
  have hs : ∀ b, SS C Z0 ρ σ b → b ≠ a := fun b z w => by
    obtain ⟨o, z, _⟩ := h1.tr z
    rw [w, ha] at z
    cases z
  have fw : ∀ b o, H1 b = some o → ¬ SS C Z0 ρ σ b → ¬ S1 (⟨L2.upd (L2.upd H1 dx (.own a)) a (.ins (He.ga X.K x) dx []), SS C Z0 ρ σ, some a, C.W, []⟩ : FC) b := fun b o z s w => by
    rcases w with w | w
    · exact s w
    · cases w
      rw [ha] at z
      cases z
  refine ⟨⟨L2.upd (L2.upd H1 dx (.own a)) a (.ins (He.ga X.K x) dx []), SS C Z0 ρ σ, some a, C.W, []⟩, vs, ds, some (.ins x []), rfl, by rw [List.length_cons, p.len]; exact hn, fun b z => ?_, ⟨rfl, rfl, fun z => hs a z rfl⟩, ⟨_, rfl, .ins upd_same hm rfl .nil⟩, p.go (fun b o z _ => kk b o z) fw, ?_⟩
  · obtain ⟨o, z, m⟩ := h1.tr z
    exact ⟨o, kk b o z, m⟩
  · have back1 : ∀ {H' : Hp}, Ext (⟨L2.upd (L2.upd H1 dx (.own a)) a (.ins (He.ga X.K x) dx []), SS C Z0 ρ σ, some a, C.W, []⟩ : FC) (L2.upd (L2.upd H1 dx (.own a)) a (.ins (He.ga X.K x) dx [])) H' → Same H1 H' := fun {H'} e2 b o z => e2 b o (kk b o z) (fun w => by
      cases w
      rw [ha] at z
      cases z)
    cases q : M ds (some (.ins x [])) with
    | stuck =>
      rw [q] at P2
      exact P2.elim
    | exc c fs T2 r2 =>
      rw [q] at P2
      exact fun cls d H' e2 _ y => P2 cls d H' (h1.more (back1 e2)) (y.less fun b o z s w => s (.inl w))
    | ok z =>
      rw [q] at P2
      obtain ⟨v, T2⟩ := z
      intro u H' e2 rt
      cases v with
      | val d =>
        cases d with
        | non =>
          cases T2 with
          | none => exact (show False from P2).elim
          | some t =>
            cases t with
            | ins c fs =>
              have P3 : GV X.K X.mg C ρ σ H Q (.own (.ins c fs), T') := P2
              obtain ⟨rn, t⟩ := rt
              unfold TapeOk at t
              obtain ⟨t, et, o⟩ := t
              cases et
              cases rn
              refine ⟨rfl, P3 a H' (back h1 e1 ha) (h1.apart (back1 e2) ha o.there) (e1.trans (.same (back1 e2))) (o.go (fun _ z => z) (fun _ _ z _ => z) fun b _ _ s w => s ?_)⟩
              rcases w with w | w | w | w
              · exact .inl (.inl w)
              · exact .inl (.inr (.inl w))
              · exact .inl (.inr (.inr (.inl w)))
              · exact .inr (by rw [w])
            | _ => exact (show False from P2).elim
        | _ => exact (show False from P2).elim
      | _ => exact (show False from P2).elim
end

/-! o.m(..) of data -/
section
variable {X : Cx} {CX : CXT} {k : Nat} {f A : Addr} {fd : FuncData} {ps : List PySem.Str} {sp : Sp} {E : L2.St → XK} {m : PySem.Str} {pos apos : Pos} {e o : Expr} {es : List Expr} {ta : TE} {t : TA}
def tMethX (A : Addr) (m : PySem.Str) (sp : Sp) (E : L2.St → XK) (ta : TE) (t : TA) : TE := fun σ H Q => ta σ H fun x H1 => ∃ a dx fs, x = .ref a ∧ H1 a = some (.ins A dx fs) ∧ fs.lookup m = none ∧ t σ H1 fun vs H2 => sp (x :: vs) H2 Q (E σ)
theorem pe_methX {pl : Sem Bool} (he : PE X o ta) (c : Cls X.K A) (hm : Meth X.K A m f) (F : FnOk X.prog X.w X.K X.mg X.base CX k f fd ps sp) (hr : Room k X.A) (hb : Binds X.K fd ps []) (hx : ∀ σ, PassesAt CX X σ (E σ)) (ha : PA X (e :: es) t)
    (hst : starEach (e :: es) X.env = (false, eval e X.env) :: starEach es X.env) (hpl : (backTo pos (starEach es X.env)).any (·.1) = false)
    (ht : eval (.Call (.Attribute o m apos) (e :: es) [] pos) X.env = (eval o X.env >>= fun ov => standAt apos.atName >>= fun _ => holding [ov] (getMethod ov m pl) >>= fun q => callWith pos q.1 q.2 (backTo pos (starEach (e :: es) X.env)) (backToKw pos (keywordEach [] X.env)))) :
    PE X (.Call (.Attribute o m apos) (e :: es) [] pos) (tMethX A m sp E ta t) := by
  refine ⟨fun pins s σ H Q I h => PySem.W.methodCall_KW (pl := pl) (thn (he.run pins s σ H _ I h) fun u s1 ⟨x, H1, I1, rx, a, dx, fs, ex, ea, l, q⟩ => ?_) ht⟩
  cases ex
  cases (show u = Value.ref a from rx)
  exact getmeth_ok I1 ea c hm l (PySem.W.callWith_K (first := [.ref a]) (h₀ := X.base) I.ok.mod.kin hm.kp (thn (ha.run pos pins s1 σ H1 _ I1 q) fun us s2 ⟨vs, H2, I2, r, q2⟩ => ⟨I2.kIn, run_fnS (us := .ref a :: us) (vs := .ref a :: vs) F hr hb (hx σ) I2 (.cons rfl r) q2⟩) hst hpl)
theorem pe_methX0 {pl : Sem Bool} (he : PE X o ta) (c : Cls X.K A) (hm : Meth X.K A m f) (F : FnOk X.prog X.w X.K X.mg X.base CX k f fd ps sp) (hr : Room k X.A) (hb : Binds X.K fd ps []) (hx : ∀ σ, PassesAt CX X σ (E σ))
    (ht : eval (.Call (.Attribute o m apos) [] [] pos) X.env = (eval o X.env >>= fun ov => standAt apos.atName >>= fun _ => holding [ov] (getMethod ov m pl) >>= fun q => callWith pos q.1 q.2 (backTo pos (starEach [] X.env)) (backToKw pos (keywordEach [] X.env)))) :
    PE X (.Call (.Attribute o m apos) [] [] pos) (tMethX A m sp E ta tNil) := by
  refine ⟨fun pins s σ H Q I h => PySem.W.methodCall_KW (pl := pl) (thn (he.run pins s σ H _ I h) fun u s1 ⟨x, H1, I1, rx, a, dx, fs, ex, ea, l, q⟩ => ?_) ht⟩
  cases ex
  cases (show u = Value.ref a from rx)
  exact getmeth_ok I1 ea c hm l (PySem.W.callWith_K0 (first := [.ref a]) I1.kIn hm.kp (run_fnS (us := [.ref a]) (vs := [.ref a]) F hr hb (hx σ) I1 (.cons rfl .nil) q))
end
/-- the thing is of the class c and has no field m -/
def insD (c m : PySem.Str) : D → Rs D
  | .ins c' fs => if c' = c ∧ fs.lookup m = none then .ok (.ins c' fs) else .stuck
  | _ => .stuck
@[simp] theorem insD_ins (c m : PySem.Str) (fs : List (PySem.Str × D)) : insD c m (.ins c fs) = if fs.lookup m = none then .ok (.ins c fs) else .stuck := by
  unfold insD
  by_cases h : fs.lookup m = none <;> simp [h]
def eMeth (c m : PySem.Str) (n : Nat) (M : DM) (f : DE) (g : DA) : DE := fun r T => (dv (f r T)).bind fun p => (insD c m p.1).bind fun d => (g r p.2).bind fun q => if q.1.length + 1 = n then (match M (d :: q.1) none with
  | .ok z => .ok (z.1, q.2)
  | .exc c fs _ _ => .exc c fs q.2 r
  | .stuck => .stuck) else .stuck
section
variable {X : Cx} {C : FC} {o e : Expr} {es : List Expr} {f : DE} {g : DA} {pos apos : Pos} {c m : PySem.Str} {k j n : Nat} {M : DM}
theorem insD_ex {K : PySem.W.Frag} {mg : PySem.Str → Option Value} {σ : L2.St} {B : Type} {G : B → Prop} {d : D} {h : D → Rs B} (P : PostG K mg C σ G ((insD c m d).bind h)) : ∃ fs, d = .ins c fs ∧ fs.lookup m = none ∧ PostG K mg C σ G (h d) := by
  unfold insD at P
  cases d with
  | ins c' fs =>
    have P1 : PostG K mg C σ G ((if c' = c ∧ fs.lookup m = none then Rs.ok (D.ins c' fs) else .stuck).bind h) := P
    clear P
    by_cases q : c' = c ∧ fs.lookup m = none
    · rw [if_pos q] at P1
      obtain ⟨rfl, q⟩ := q
      exact ⟨fs, rfl, q, P1⟩
    · rw [if_neg q] at P1
      exact P1.elim
  | _ => exact (show False from P).elim
theorem meth_end {ρ : Env} {T' : Tp} {σ : L2.St} {H H1 : Hp} {Q : VK} {ds : List D} {vs : List V} (h1 : Holds X.K X.mg C Z0 ρ T' σ H1) (e1 : Ext C H H1) (p : Reps X.K X.mg (SS C Z0 ρ σ) H1 vs ds)
    (P2 : Post X.K X.mg C ρ σ H Q (match M ds none with
      | .ok z => .ok (z.1, T')
      | .exc c fs _ _ => .exc c fs T' ρ
      | .stuck => .stuck)) (hn : ds.length = n) : SpD X.K X.mg n false M vs H1 Q (WE C.W σ) := by
  have hS : ∀ a, S1 (⟨H1, SS C Z0 ρ σ, none, C.W, []⟩ : FC) a ↔ SS C Z0 ρ σ a := fun a => by
    constructor
    · intro z
      rcases z with z | z
      · exact z
      · cases z
    · exact fun z => .inl z
  refine ⟨⟨H1, SS C Z0 ρ σ, none, C.W, []⟩, vs, ds, none, rfl, by rw [p.len]; exact hn, h1.trk, ⟨rfl, rfl⟩, rfl, p.go (fun _ _ e _ => e) fun a _ _ n z => n ((hS a).mp z), ?_⟩
  cases q : M ds none with
  | stuck =>
    simp only [q] at P2
    exact P2.elim
  | exc c fs T2 r2 =>
    simp only [q] at P2
    exact fun cls d H' e2 _ x => P2 cls d H' (h1.more fun a o z => e2 a o z (by intro z; cases z)) (x.less fun a _ _ n z => n ((hS a).mpr z))
  | ok z =>
    simp only [q] at P2
    have P3 : GV X.K X.mg C ρ σ H Q (z.1, T') := P2
    intro u H' e2 rt
    have hz : ∀ d, z.1 ≠ .peek d := fun d z2 => by
      rw [z2] at rt
      exact rt
    exact ret_res hS rfl rfl e2 rt (gv_res h1 (gv_from h1 e1 P3) hz)
theorem se_meth {pl : Sem Bool} (F : OkM X.prog X.w X.K X.mg X.base j c m n false M) (hr : Room k X.A) (tk : Takes X C.W) (ho : SE X C o f) (ha : SA X C (e :: es) g) (hk : j ≤ k := by decide)
    (hst : starEach (e :: es) X.env = (false, eval e X.env) :: starEach es X.env := by rfl) (hpl : (backTo pos (starEach es X.env)).any (·.1) = false := by rfl)
    (ht : eval (.Call (.Attribute o m apos) (e :: es) [] pos) X.env = (eval o X.env >>= fun ov => standAt apos.atName >>= fun _ => holding [ov] (getMethod ov m pl) >>= fun q => callWith pos q.1 q.2 (backTo pos (starEach (e :: es) X.env)) (backToKw pos (keywordEach [] X.env))) := by rfl) :
    SE X C (.Call (.Attribute o m apos) (e :: es) [] pos) (eMeth c m n M f g) := by
  obtain ⟨fd, ps, fa, F, b, mt, cc, hm⟩ := F
  refine pe_imp (pe_methX ho cc mt F (hr.mono hk) b (fun σ => passAt tk σ) ha hst hpl ht) ?_
  rintro σ H Q ⟨ρ, T, h, P⟩
  refine ⟨ρ, T, h, gv_dv h P fun d T' v H1 h1 e1 p P1 => ?_⟩
  obtain ⟨fs, rfl, hl, P1⟩ := insD_ex P1
  obtain ⟨a, Ca, dx, fv, rfl, eH, hm2, hn, hr2⟩ := (show Top X.K X.mg (SS C Z0 ρ σ) H1 v _ from .inl p).ins
  rw [hm] at hm2
  cases hm2
  refine ⟨a, dx, fv, rfl, eH, flds_none hn hl, ρ, T', h1, ga_bind P1 fun ds T2 vs H2 h2 e2 p2 P2 => ?_⟩
  obtain ⟨hn, P3⟩ := postG_if P2
  exact meth_end h2 (e1.trans e2) (.cons (p.ext e2) p2) P3 hn
theorem se_meth0 {pl : Sem Bool} (F : OkM X.prog X.w X.K X.mg X.base j c m n false M) (hr : Room k X.A) (tk : Takes X C.W) (ho : SE X C o f) (hk : j ≤ k := by decide)
    (ht : eval (.Call (.Attribute o m apos) [] [] pos) X.env = (eval o X.env >>= fun ov => standAt apos.atName >>= fun _ => holding [ov] (getMethod ov m pl) >>= fun q => callWith pos q.1 q.2 (backTo pos (starEach [] X.env)) (backToKw pos (keywordEach [] X.env))) := by rfl) :
    SE X C (.Call (.Attribute o m apos) [] [] pos) (eMeth c m n M f aNil) := by
  obtain ⟨fd, ps, fa, F, b, mt, cc, hm⟩ := F
  refine pe_imp (pe_methX0 ho cc mt F (hr.mono hk) b (fun σ => passAt tk σ) ht) ?_
  rintro σ H Q ⟨ρ, T, h, P⟩
  refine ⟨ρ, T, h, gv_dv h P fun d T' v H1 h1 e1 p P1 => ?_⟩
  obtain ⟨fs, rfl, hl, P1⟩ := insD_ex P1
  obtain ⟨a, Ca, dx, fv, rfl, eH, hm2, hn, hr2⟩ := (show Top X.K X.mg (SS C Z0 ρ σ) H1 v _ from .inl p).ins
  rw [hm] at hm2
  cases hm2
  refine ⟨a, dx, fv, rfl, eH, flds_none hn hl, ?_⟩
  obtain ⟨hn, P3⟩ := postG_if (show PostG X.K X.mg C σ (GV X.K X.mg C ρ σ H Q) (if (1 : Nat) = n then _ else .stuck) from P1)
  exact meth_end h1 e1 (.cons p .nil) P3 hn
end
end Pu
namespace Pu
open PySem L2 PySem.Spec PyProof.Rows

/-! # more operations -/
def dShl : D → D → Rs VD
  | .int i, .int j => if 0 ≤ j ∧ j ≤ 1000000 ∧ i.natAbs < 2 ^ 64 then .ok (.val (.int (i * 2 ^ j.toNat))) else .stuck
  | _, _ => .stuck
def dOr : D → D → Rs VD
  | .int i, .int j => .ok (.val (.int (Builtin.bitOr i j)))
  | _, _ => .stuck
/-- by a great number -/
def dDivW : D → D → Rs VD
  | .int i, .int j => if 0 < j ∧ j.natAbs.log2 < 9000 then .ok (.val (.int (i / j))) else .stuck
  | _, _ => .stuck
def dMulW : D → D → Rs VD
  | .int i, .int j => if i.natAbs.log2 + j.natAbs.log2 < 1000000 then .ok (.val (.int (i * j))) else .stuck
  | _, _ => .stuck
/-- x is True -/
def dIsB : D → D → Rs VD
  | .bl a, .bl b => .ok (.val (.bl (decide (a = b))))
  | _, _ => .stuck
def dIsnB : D → D → Rs VD
  | .bl a, .bl b => .ok (.val (.bl (!decide (a = b))))
  | _, _ => .stuck
section
variable {K : PySem.W.Frag} {mg : PySem.Str → Option Value}
theorem q_shl : Quiet2 dShl := fun d e => by
  unfold dShl
  split <;> first | exact quiet_if quiet_v quiet_s | exact quiet_s
theorem q_or : Quiet2 dOr := fun d e => by
  unfold dOr
  split <;> first | exact quiet_v | exact quiet_s
theorem q_divw : Quiet2 dDivW := fun d e => by
  unfold dDivW
  split <;> first | exact quiet_if quiet_v quiet_s | exact quiet_s
theorem q_mulw : Quiet2 dMulW := fun d e => by
  unfold dMulW
  split <;> first | exact quiet_if quiet_v quiet_s | exact quiet_s
theorem q_isb : Quiet2 dIsB := fun d e => by
  unfold dIsB
  split <;> first | exact quiet_v | exact quiet_s
theorem q_isnb : Quiet2 dIsnB := fun d e => by
  unfold dIsnB
  split <;> first | exact quiet_v | exact quiet_s
theorem d_shl : R2D K mg (rI CPow fun i j => .int (i * 2 ^ j.toNat)) dShl := fun S H x y dx dy Q z t p q e k => by
  unfold dShl at e
  split at e
  · obtain ⟨c, rfl⟩ := if_ok e
    exact ⟨_, _, p.int, q.int, c, k.pure (.int _)⟩
  · cases e
theorem d_or : R2D K mg (rI0 fun i j => .int (Builtin.bitOr i j)) dOr := fun S H x y dx dy Q z t p q e k => by
  unfold dOr at e
  split at e <;> cases e
  exact ⟨_, _, p.int, q.int, k.pure (.int _)⟩
theorem d_divw : R2D K mg (rI CDivW fun i j => .int (i / j)) dDivW := fun S H x y dx dy Q z t p q e k => by
  unfold dDivW at e
  split at e
  · obtain ⟨c, rfl⟩ := if_ok e
    exact ⟨_, _, p.int, q.int, c, k.pure (.int _)⟩
  · cases e
theorem d_mulw : R2D K mg (rI CMulW fun i j => .int (i * j)) dMulW := fun S H x y dx dy Q z t p q e k => by
  unfold dMulW at e
  split at e
  · obtain ⟨c, rfl⟩ := if_ok e
    exact ⟨_, _, p.int, q.int, c, k.pure (.int _)⟩
  · cases e
theorem d_isb : R2D K mg rIsB dIsB := fun S H x y dx dy Q z t p q e k => by
  unfold dIsB at e
  split at e <;> cases e
  exact ⟨_, _, p.bl, q.bl, k.pure (.bl _)⟩
theorem d_isnb : R2D K mg rNotB dIsnB := fun S H x y dx dy Q z t p q e k => by
  unfold dIsnB at e
  split at e <;> cases e
  exact ⟨_, _, p.bl, q.bl, k.pure (.bl _)⟩
end
@[simp] theorem dShl_ii (i j : Int) : dShl (.int i) (.int j) = if 0 ≤ j ∧ j ≤ 1000000 ∧ i.natAbs < 2 ^ 64 then .ok (.val (.int (i * 2 ^ j.toNat))) else .stuck := rfl
@[simp] theorem dOr_ii (i j : Int) : dOr (.int i) (.int j) = .ok (.val (.int (Builtin.bitOr i j))) := rfl
@[simp] theorem dDivW_ii (i j : Int) : dDivW (.int i) (.int j) = if 0 < j ∧ j.natAbs.log2 < 9000 then .ok (.val (.int (i / j))) else .stuck := rfl
@[simp] theorem dMulW_ii (i j : Int) : dMulW (.int i) (.int j) = if i.natAbs.log2 + j.natAbs.log2 < 1000000 then .ok (.val (.int (i * j))) else .stuck := rfl
@[simp] theorem dIsB_bb (a b : Bool) : dIsB (.bl a) (.bl b) = .ok (.val (.bl (decide (a = b)))) := rfl
@[simp] theorem dIsnB_bb (a b : Bool) : dIsnB (.bl a) (.bl b) = .ok (.val (.bl (!decide (a = b)))) := rfl
/-- one type for all that is asked of it -/
theorem isT_all {K : PySem.W.Frag} {mg : PySem.Str → Option Value} {S : Addr → Prop} {H : Hp} {cs : List PySem.Str} (ho : OwnOk K mg cs) {v : V} {d : D} {t0 : Ty} {b0 : Bool} (h : Top K mg S H v d) (e0 : isT cs t0 d = some b0) : ∃ tv, TyX K H v tv ∧ ∀ (t : Ty) (b : Bool), isT cs t d = some b → PySem.W.kitOne K tv (.type t.nm) = some b := by
  have go : ∀ tv : Value, TyX K H v tv → (∀ (t : Ty) (b : Bool), isT cs t d = some b → PySem.W.kitOne K tv (.type t.nm) = some b) → ∃ tv, TyX K H v tv ∧ ∀ (t : Ty) (b : Bool), isT cs t d = some b → PySem.W.kitOne K tv (.type t.nm) = some b := fun tv a b => ⟨tv, a, b⟩
  cases d with
  | non =>
    rw [h.non] at go ⊢
    exact go _ (.base .non) fun t b e => by cases t <;> cases e <;> exact kit_ty (by decide +kernel)
  | bl x =>
    rw [h.bl] at go ⊢
    exact go _ (.base (.bl x)) fun t b e => by cases t <;> cases e <;> exact kit_ty (by decide +kernel)
  | int x =>
    rw [h.int] at go ⊢
    exact go _ (.base (.int x)) fun t b e => by cases t <;> cases e <;> exact kit_ty (by decide +kernel)
  | str x =>
    rw [h.str] at go ⊢
    exact go _ (.base (.str x)) fun t b e => by cases t <;> cases e <;> exact kit_ty (by decide +kernel)
  | tup ds =>
    obtain ⟨a, vs, rfl, h1, _⟩ := h.sqT
    exact go _ (sqT_ty h1) fun t b e => by cases t <;> cases e <;> exact kit_ty (by decide +kernel)
  | lst ds =>
    obtain ⟨a, vs, rfl, h1, z1, r⟩ := h.sqL
    exact go _ (.base (.lst h1)) fun t b e => by cases t <;> cases e <;> exact kit_ty (by decide +kernel)
  | tpl ns =>
    obtain ⟨a, o, rfl, h1, _⟩ := h.tpl
    exact go _ (.fTuple h1) fun t b e => by cases t <;> cases e <;> exact kit_ty (by decide +kernel)
  | scr ns =>
    obtain ⟨a, rfl, h1, z1⟩ := h.scr
    have ty : TyX K H (.ref a) (.type "list") := by
      rcases h1 with (h1 | ⟨o, h1⟩) | ⟨o, its, n, h1, h2, _⟩
      · exact .base (.lst h1)
      · exact .base (.frz h1)
      · exact .kList h1 h2
    exact go _ ty fun t b e => by cases t <;> cases e <;> exact kit_ty (by decide +kernel)
  | dct tt kvs =>
    rcases h.dct with ⟨_, a, l, rfl, h1, _⟩ | ⟨_, a, l, rfl, h1, _⟩
    · exact go _ (.base (.dK h1)) fun t b e => by cases t <;> cases e <;> exact kit_ty (by decide +kernel)
    · exact go _ (.base (.dT h1)) fun t b e => by cases t <;> cases e <;> exact kit_ty (by decide +kernel)
  | ins c fs =>
    obtain ⟨a, C, dx, l, rfl, h1, hm, _⟩ := h.ins
    have ei : ∀ (t : Ty) (b : Bool), isT cs t (.ins c fs) = some b → cs.contains c = true ∧ b = false := fun t b e => by
      have e' : (if cs.contains c then some false else none) = some b := by cases t <;> exact e
      by_cases hc : cs.contains c = true
      · rw [if_pos hc] at e'
        cases e'
        exact ⟨hc, rfl⟩
      · rw [if_neg hc] at e'
        cases e'
    obtain ⟨hc, _⟩ := ei t0 b0 e0
    obtain ⟨⟨h2, h3, h4, h5, h6⟩, h7⟩ := ho c (by simpa using hc) C hm
    exact go _ (.base (.ins h1 h2 h3 h4 h5 h6)) fun t b e => by rw [(ei t b e).2]; exact h7 t
/-! isinstance(x, (T1, T2)) -/
def dIsi2 (cs : List PySem.Str) (t u : Ty) (d : D) : Rs VD := (rO (isT cs t d)).bind fun b => (rO (isT cs u d)).bind fun c => .ok (.val (.bl (b || c)))
@[simp] theorem dIsi2_ap (cs : List PySem.Str) (t u : Ty) (d : D) : dIsi2 cs t u d = (rO (isT cs t d)).bind fun b => (rO (isT cs u d)).bind fun c => .ok (.val (.bl (b || c))) := rfl
theorem q_isi2 {cs : List PySem.Str} {t u : Ty} : Quiet1 (dIsi2 cs t u) := fun d => quiet_r fun _ => quiet_r fun _ => quiet_v
theorem se_isi2 {X : Cx} {C : FC} {e : Expr} {f : DE} {x y : PySem.Str} {t u : Ty} {cs : List PySem.Str} {pos p p2 p3 pt : Pos} {kt : Nat} (ho : OwnOk X.K X.mg cs) (he : SE X C e f) (hm1 : X.mg "isinstance" = none) (hv1 : bootBuiltins "isinstance" = some (.builtin "isinstance")) (hm : X.mg x = none) (hv : bootBuiltins x = some (.type t.nm)) (hm2 : X.mg y = none) (hv2 : bootBuiltins y = some (.type u.nm))
    (hg1 : Gl X "isinstance" := by rfl) (hg : Gl X x := by rfl) (hn : x ≠ "__name__" := by decide) (hdb : (x == ("__debug__" : PySem.Str)) = false := by decide) (hg2 : Gl X y := by rfl) (hn2 : y ≠ "__name__" := by decide) (hdb2 : (y == ("__debug__" : PySem.Str)) = false := by decide)
    (hs : starEach [e, .Tuple [.Name x p2, .Name y p3] kt pt] X.env = (false, eval e X.env) :: starEach [.Tuple [.Name x p2, .Name y p3] kt pt] X.env := by rfl) (hs2 : starEach [.Tuple [.Name x p2, .Name y p3] kt pt] X.env = (false, eval (.Tuple [.Name x p2, .Name y p3] kt pt) X.env) :: starEach [] X.env := by rfl)
    (hs3 : starEach [.Name x p2, .Name y p3] X.env = (false, eval (.Name x p2) X.env) :: starEach [.Name y p3] X.env := by rfl) (hs4 : starEach [.Name y p3] X.env = (false, eval (.Name y p3) X.env) :: starEach [] X.env := by rfl) (hpl : (backTo pos (starEach [.Tuple [.Name x p2, .Name y p3] kt pt] X.env)).any (·.1) = false := by rfl) :
    SE X C (.Call (.Name "isinstance" p) [e, .Tuple [.Name x p2, .Name y p3] kt pt] [] pos) (eUn (dIsi2 cs t u) f) := by
  refine pe_imp (pe_callB call_isiT hg1 hm1 hv1 (pa_cons he (pa_cons (pe_tup (pa_cons (pe_bltn (v := .ty t.nm) hg hm hv rfl hn hdb) (pa_cons (pe_bltn (v := .ty u.nm) hg2 hm2 hv2 rfl hn2 hdb2) pa_nil hs4) hs3)) pa_nil hs2) hs) (by decide) (by decide) hs hpl) ?_
  rintro σ H Q ⟨ρ, T, h, P⟩
  refine ⟨ρ, T, h, gv_dt h P fun d T' v H1 h1 e1 p P1 => ?_⟩
  obtain ⟨z, ez, P3⟩ := lift_ex (q_isi2 d) h1 (post_from h1 e1 P1)
  obtain ⟨b, eb, ez⟩ := o_ok ez
  obtain ⟨c, ec, ez⟩ := o_ok ez
  cases ez
  refine ⟨by show 2 ≤ sizeLine; decide, fun q hq => ?_⟩
  have sm : Same H1 (L2.upd H1 q (.tup [.ty t.nm, .ty u.nm])) := same_new hq
  have p2 : Top X.K X.mg (SS C Z0 ρ σ) (L2.upd H1 q (.tup [.ty t.nm, .ty u.nm])) v d := by
    rcases p with p | ⟨r, er, _, o⟩
    · exact .inl (p.go (fun a o e _ => sm a o e) fun _ _ _ s => s)
    · exact .inr ⟨r, er, o.go (fun o e => sm _ o e) (fun a o e _ => sm a o e) fun _ _ _ s => s⟩
  obtain ⟨tv, ty, kk⟩ := isT_all ho p2 eb
  have k1 := kk _ _ eb
  have k2 := kk _ _ ec
  refine ⟨v, q, _, tv, [.type t.nm, .type u.nm], b || c, rfl, upd_same, .cons (.ty _) (.cons (.ty _) .nil), ty, ?_, P3 (.bl (b || c)) _ sm (.bl _)⟩
  refine kitAny_cons k1 (fun hb => ?_) (fun hb => by rw [hb]; rfl)
  rw [hb]
  refine kitAny_cons k2 (fun hc => ?_) (fun hc => by rw [hc]; rfl)
  rw [hc]
  rfl
/-! zip(a, b) -/
def zipD : List D → List D → List D
  | a :: as, b :: bs => .tup [a, b] :: zipD as bs
  | _, _ => []
theorem zipD_get : ∀ (as bs : List D) (i : Nat), (zipD as bs)[i]? = as[i]?.bind fun a => bs[i]?.map fun b => .tup [a, b]
  | [], _, _ => by simp [zipD]
  | a :: as, [], 0 => by simp [zipD]
  | a :: as, [], i + 1 => by
    show (none : Option D) = _
    cases (a :: as)[i + 1]? <;> rfl
  | a :: as, b :: bs, 0 => rfl
  | a :: as, b :: bs, i + 1 => by
    have := zipD_get as bs i
    simpa [zipD] using this
theorem zipD_len : ∀ as bs : List D, (zipD as bs).length = min as.length bs.length
  | [], _ => by simp [zipD]
  | _ :: _, [] => by simp [zipD]
  | a :: as, b :: bs => by simp [zipD, zipD_len as bs]
def zipR : D → D → Rs (List D)
  | .lst a, .lst b => .ok (zipD a b)
  | .tup a, .tup b => .ok (zipD a b)
  | _, _ => .stuck
@[simp] theorem zipR_l (a b : List D) : zipR (.lst a) (.lst b) = .ok (zipD a b) := rfl
@[simp] theorem zipR_t (a b : List D) : zipR (.tup a) (.tup b) = .ok (zipD a b) := rfl
def iZp (f g : DE) : DI := fun r T => (dv (f r T)).bind fun p => (dv (g r p.2)).bind fun q => (zipR p.1 q.1).bind fun ds => .ok (ds, q.2)
def jZp (f g : DE) : DI := fun r T => (dt (f r T)).bind fun p => (dt (g r p.2)).bind fun q => (zipR p.1 q.1).bind fun ds => .ok (ds, q.2)
@[simp] theorem iZp_ap (f g : DE) (r : Env) (T : Tp) : iZp f g r T = (dv (f r T)).bind fun p => (dv (g r p.2)).bind fun q => (zipR p.1 q.1).bind fun ds => .ok (ds, q.2) := rfl
@[simp] theorem jZp_ap (f g : DE) (r : Env) (T : Tp) : jZp f g r T = (dt (f r T)).bind fun p => (dt (g r p.2)).bind fun q => (zipR p.1 q.1).bind fun ds => .ok (ds, q.2) := rfl
section
variable {K : PySem.W.Frag} {mg : PySem.Str → Option Value}
theorem zipD_ex {as bs : List D} {i : Nat} {d : D} (e : (zipD as bs)[i]? = some d) : ∃ a b, as[i]? = some a ∧ bs[i]? = some b ∧ d = .tup [a, b] := by
  rw [zipD_get] at e
  cases q1 : as[i]? with
  | none => rw [q1] at e; cases e
  | some a =>
    cases q2 : bs[i]? with
    | none => rw [q1, q2] at e; cases e
    | some b =>
      rw [q1, q2] at e
      cases e
      exact ⟨a, b, rfl, rfl, rfl⟩
theorem pin_zipL {a b : Addr} {as bs : List D} (hz : as.length ≤ sizeLine) : PinOk K mg (Itz K a b) (zipD as bs) [(.ref a, .lst as), (.ref b, .lst bs)] := ⟨by rw [zipD_len]; omega, fun S H t h i => by
  obtain ⟨x, vs, e, h1, z, q⟩ := (h _ List.mem_cons_self).sqL
  obtain ⟨y, ws, e', h2, z2, q2⟩ := (h _ (List.mem_cons_of_mem _ List.mem_cons_self)).sqL
  cases e
  cases e'
  refine ⟨fun d e => ?_, fun hi => ⟨vs, ws, .of h1, .of h2, ?_⟩⟩
  · obtain ⟨da, db, ea, eb, rfl⟩ := zipD_ex e
    obtain ⟨v, ev, pv⟩ := q.getD ea
    obtain ⟨w, ew, pw⟩ := q2.getD eb
    refine ⟨⟨vs, ws, v, w, .of h1, .of h2, ev, ew⟩, fun x H3 ⟨T, y1, y2, e1, e2, e3, f1, f2⟩ => ?_⟩
    subst e1 e3
    have g1 := f1 vs (.of h1)
    have g2 := f2 ws (.of h2)
    rw [ev] at g1
    rw [ew] at g2
    cases g1
    cases g2
    exact ⟨same_new e2, rep_pair t e2 pv pw⟩
  · rw [zipD_len] at hi
    rw [q.len, q2.len]
    omega⟩
theorem pin_zipT {a b : Addr} {as bs : List D} (hz : as.length ≤ sizeLine) : PinOk K mg (RZ.ItzT K a b) (zipD as bs) [(.ref a, .tup as), (.ref b, .tup bs)] := ⟨by rw [zipD_len]; omega, fun S H t h i => by
  obtain ⟨x, vs, e, h1, z, q⟩ := (h _ List.mem_cons_self).sqT
  obtain ⟨y, ws, e', h2, z2, q2⟩ := (h _ (List.mem_cons_of_mem _ List.mem_cons_self)).sqT
  cases e
  cases e'
  refine ⟨fun d e => ?_, fun hi => ⟨vs, ws, h1, h2, ?_⟩⟩
  · obtain ⟨da, db, ea, eb, rfl⟩ := zipD_ex e
    obtain ⟨v, ev, pv⟩ := q.getD ea
    obtain ⟨w, ew, pw⟩ := q2.getD eb
    refine ⟨⟨vs, ws, v, w, h1, h2, ev, ew⟩, fun x H3 ⟨T, y1, y2, e1, e2, e3, f1, f2⟩ => ?_⟩
    subst e1 e3
    have g1 := f1 vs h1
    have g2 := f2 ws h2
    rw [ev] at g1
    rw [ew] at g2
    cases g1
    cases g2
    exact ⟨same_new e2, rep_pair t e2 pv pw⟩
  · rw [zipD_len] at hi
    rw [q.len, q2.len]
    omega⟩
theorem zipR_ex {C : FC} {σ : L2.St} {B : Type} {G : B → Prop} {d e : D} {h : List D → Rs B} (P : PostG K mg C σ G ((zipR d e).bind h)) : (∃ as bs, d = .lst as ∧ e = .lst bs ∧ PostG K mg C σ G (h (zipD as bs))) ∨ ∃ as bs, d = .tup as ∧ e = .tup bs ∧ PostG K mg C σ G (h (zipD as bs)) := by
  unfold zipR at P
  split at P
  · exact .inl ⟨_, _, rfl, rfl, P⟩
  · exact .inr ⟨_, _, rfl, rfl, P⟩
  · exact P.elim
end
section
variable {X : Cx} {C : FC} {a b : Expr} {elts : List Expr} {kk : Nat} {f g : DE} {p pos tpos : Pos}
theorem si_zip (hm : X.mg "zip" = none) (ha : SE X C a f) (hb : SE X C b g) (hg : Gl X "zip" := by rfl) (hs : starEach [a, b] X.env = (false, eval a X.env) :: starEach [b] X.env := by rfl) (hs2 : starEach [b] X.env = (false, eval b X.env) :: starEach [] X.env := by rfl) (hpl : (backTo pos (starEach [b] X.env)).any (·.1) = false := by rfl) :
    SI X C (.Tuple elts kk tpos) (.Call (.Name "zip" p) [a, b] [] pos) (iZp f g) := by
  refine pi_imp (RZ.pi_zipA hg hm (pa_cons ha (pa_cons hb pa_nil hs2) hs) hs hpl) ?_
  rintro σ H R ⟨ρ, T, h, P⟩
  refine ⟨ρ, T, h, gv_dv h P fun d T1 v H1 h1 e1 p1 P1 => ⟨ρ, T1, h1, gv_dv h1 P1 fun e T2 w H2 h2 e2 p2 P2 => ?_⟩⟩
  have q1 := p1.ext e2
  rcases zipR_ex P2 with ⟨as, bs, rfl, rfl, P3⟩ | ⟨as, bs, rfl, rfl, P3⟩
  · obtain ⟨x, rfl⟩ := q1.lstRef
    obtain ⟨y, rfl⟩ := p2.lstRef
    obtain ⟨x', vs, ex, g1, z1, r1⟩ := (show Top X.K X.mg _ H2 _ _ from .inl q1).sqL
    obtain ⟨y', ws, ey, g2, z2, r2⟩ := (show Top X.K X.mg _ H2 _ _ from .inl p2).sqL
    cases ex
    cases ey
    exact ⟨x, y, vs, ws, rfl, .inl ⟨.of g1, .of g2, P3 (Itz X.K x y) [(.ref x, .lst as), (.ref y, .lst bs)] H2 h2 (e1.trans e2) (fun q hq => by
      rcases List.mem_cons.mp hq with rfl | hq
      · exact q1
      · rw [List.mem_singleton.mp hq]; exact p2) (pin_zipL (by rw [← r1.len]; exact z1))⟩⟩
  · obtain ⟨x, rfl⟩ := q1.tupRef
    obtain ⟨y, rfl⟩ := p2.tupRef
    obtain ⟨x', vs, ex, g1, z1, r1⟩ := (show Top X.K X.mg _ H2 _ _ from .inl q1).sqT
    obtain ⟨y', ws, ey, g2, z2, r2⟩ := (show Top X.K X.mg _ H2 _ _ from .inl p2).sqT
    cases ex
    cases ey
    exact ⟨x, y, vs, ws, rfl, .inr ⟨g1, g2, P3 (RZ.ItzT X.K x y) [(.ref x, .tup as), (.ref y, .tup bs)] H2 h2 (e1.trans e2) (fun q hq => by
      rcases List.mem_cons.mp hq with rfl | hq
      · exact q1
      · rw [List.mem_singleton.mp hq]; exact p2) (pin_zipT (by rw [← r1.len]; exact z1))⟩⟩
theorem sj_zip (hm : X.mg "zip" = none) (ha : SE X C a f) (hb : SE X C b g) (hg : Gl X "zip" := by rfl) (hs : starEach [a, b] X.env = (false, eval a X.env) :: starEach [b] X.env := by rfl) (hs2 : starEach [b] X.env = (false, eval b X.env) :: starEach [] X.env := by rfl) (hpl : (backTo pos (starEach [b] X.env)).any (·.1) = false := by rfl) :
    SJ X C (.Tuple elts kk tpos) (.Call (.Name "zip" p) [a, b] [] pos) (jZp f g) := by
  refine pi_imp (RZ.pi_zipA hg hm (pa_cons ha (pa_cons hb pa_nil hs2) hs) hs hpl) ?_
  rintro σ H R ⟨ρ, T, h, P⟩
  refine ⟨ρ, T, h, gv_dt h P fun d T1 v H1 h1 e1 p1 P1 => ⟨ρ, T1, h1, gv_dt h1 P1 fun e T2 w H2 h2 e2 p2 P2 => ?_⟩⟩
  have q1 := p1.ext e2
  rcases zipR_ex P2 with ⟨as, bs, rfl, rfl, P3⟩ | ⟨as, bs, rfl, rfl, P3⟩
  · obtain ⟨x, vs, rfl, g1, z1, r1⟩ := q1.top.sqL
    obtain ⟨y, ws, rfl, g2, z2, r2⟩ := p2.top.sqL
    exact ⟨x, y, vs, ws, rfl, .inl ⟨.of g1, .of g2, P3 (Itz X.K x y) [(.ref x, .lst as), (.ref y, .lst bs)] H2 h2 (e1.trans e2) (fun q hq => by
      rcases List.mem_cons.mp hq with rfl | hq
      · exact q1
      · rw [List.mem_singleton.mp hq]; exact p2) (pin_zipL (by rw [← r1.len]; exact z1))⟩⟩
  · obtain ⟨x, vs, rfl, g1, z1, r1⟩ := q1.top.sqT
    obtain ⟨y, ws, rfl, g2, z2, r2⟩ := p2.top.sqT
    exact ⟨x, y, vs, ws, rfl, .inr ⟨g1, g2, P3 (RZ.ItzT X.K x y) [(.ref x, .tup as), (.ref y, .tup bs)] H2 h2 (e1.trans e2) (fun q hq => by
      rcases List.mem_cons.mp hq with rfl | hq
      · exact q1
      · rw [List.mem_singleton.mp hq]; exact p2) (pin_zipT (by rw [← r1.len]; exact z1))⟩⟩
end
end Pu
namespace Pu
open PySem L2 PySem.Spec PyProof.Rows

/-! # xs.index(k) -/
def idxI (k : Int) : List Int → Option Nat
  | [] => none
  | n :: ns => if n = k then some 0 else (idxI k ns).map (· + 1)
theorem idxI_get {k : Int} : ∀ {ns : List Int} {j : Nat}, idxI k ns = some j → ns[j]? = some k ∧ ∀ m, m < j → ns[m]? ≠ some k
  | [], _, h => by cases h
  | n :: ns, j, h => by
    unfold idxI at h
    by_cases c : n = k
    · rw [if_pos c] at h
      cases h
      exact ⟨by rw [c]; rfl, fun m hm => absurd hm (Nat.not_lt_zero m)⟩
    · rw [if_neg c] at h
      cases q : idxI k ns with
      | none => rw [q] at h; cases h
      | some i =>
        rw [q] at h
        cases h
        obtain ⟨a, b⟩ := idxI_get q
        refine ⟨by simpa using a, fun m hm => ?_⟩
        cases m with
        | zero => simpa using c
        | succ m => simpa using b m (Nat.lt_of_succ_lt_succ hm)
theorem idxI_mem {k : Int} : ∀ {ns : List Int}, k ∈ ns → ∃ j, idxI k ns = some j ∧ j < ns.length
  | [], h => by cases h
  | n :: ns, h => by
    unfold idxI
    by_cases c : n = k
    · rw [if_pos c]
      exact ⟨0, rfl, by simp⟩
    · rw [if_neg c]
      rcases List.mem_cons.mp h with z | z
      · exact absurd z.symm c
      · obtain ⟨j, e, hj⟩ := idxI_mem z
        exact ⟨j + 1, by rw [e]; rfl, by simpa using hj⟩
def dIdx : D → D → Rs VD
  | .lst ds, .int k => (rO (nums ds)).bind fun ns => (rO (idxI k ns)).bind fun j => .ok (.val (.int (j : Nat)))
  | .tpl ns, .int k => (rO (idxI k ns)).bind fun j => .ok (.val (.int (j : Nat)))
  | _, _ => .stuck
@[simp] theorem dIdx_l (ds : List D) (k : Int) : dIdx (.lst ds) (.int k) = (rO (nums ds)).bind fun ns => (rO (idxI k ns)).bind fun j => .ok (.val (.int (j : Nat))) := rfl
@[simp] theorem dIdx_p (ns : List Int) (k : Int) : dIdx (.tpl ns) (.int k) = (rO (idxI k ns)).bind fun j => .ok (.val (.int (j : Nat))) := rfl
theorem q_idx : Quiet2 dIdx := fun d e => by
  unfold dIdx
  split <;> first | exact quiet_r fun _ => quiet_r fun _ => quiet_v | exact quiet_r fun _ => quiet_v | exact quiet_s
theorem pe_either {X : Cx} {e : Expr} {t u : TE} (h1 : PE X e t) (h2 : PE X e u) : PE X e (fun σ H R => t σ H R ∨ u σ H R) :=
  ⟨fun pins s σ H R I q => q.elim (fun q => h1.run pins s σ H R I q) fun q => h2.run pins s σ H R I q⟩
theorem flat_ints (ns : List Int) : (ns.map V.int).all flatV = true := by
  rw [List.all_map]
  exact List.all_eq_true.mpr fun _ _ => rfl
/-- t.index(k) of a tuple of whole numbers -/
def rIdxT (K : PySem.W.Frag) : V → List V → Hp → VK → Prop := fun x xs H Q => ∃ (p : Addr) (ys : List Int) (z : Int) (j : Nat), x = .ref p ∧ xs = [.int z] ∧ SqT K H p (ys.map V.int) ∧ ys[j]? = some z ∧ (∀ m, m < j → ys[m]? ≠ some z) ∧ Q (.int (j : Nat)) H
theorem mt_idxT {X : Cx} : MtR X "tuple.index" (rIdxT X.K) := by
  intro pins s σ H x xs v us Q I rx rs h
  obtain ⟨p, ys, z, j, rfl, rfl, hq, hy, hno, q⟩ := h
  cases rx
  obtain ⟨u, rfl, t, rfl⟩ := vals1 rs
  obtain ⟨its, r, ⟨⟨cls, dd, dt, sl⟩, ho, hc, n, hd⟩, hz⟩ := I.tuple hq
  simp only at hc hd
  subst hc hd
  have hl : its.toArray.size = ys.length := by
    have := r.length
    simp only [List.length_map] at this
    simp [this]
  have hj : j < its.toArray.size := by rw [hl]; exact (List.getElem?_eq_some_iff.mp hy).1
  have look : ∀ (m : Nat) (hm : m < its.toArray.size), ∃ y t', ys[m]? = some y ∧ its.toArray[m] = Value.int y t' := fun m hm => by
    have hm2 : m < ys.length := by omega
    obtain ⟨w, hw, t', e3⟩ := r.get (i := m) (x := .int ys[m]) (by simp [hm2])
    obtain ⟨_, e4⟩ := List.getElem?_eq_some_iff.mp hw
    exact ⟨ys[m], t', List.getElem?_eq_getElem hm2, by rw [← e3, ← e4]; simp⟩
  refine call_meets PySem.F.slot_tuple_index ⟨_, ho, rfl⟩ PySem.F.entry_tuple_index (PySem.F.args_tuple_index_2 _ _)
    (TI.tuple_indexAt p its.toArray n dd sl (.int z t) (eqU (.int z)) j hj ?_ ?_)
    ⟨ho, fun w hw => mem_eqAt (x := .int z) ⟨t, rfl⟩ rfl r (flat_ints ys) w (by simpa using hw), ⟨.int (j : Nat), H, I.tok _, ⟨_, rfl⟩, q⟩⟩
  · obtain ⟨y, t', h1, h2⟩ := look j hj
    rw [hy] at h1
    cases h1
    rw [h2]
    exact beq_self_eq_true z
  · intro m hm hmj
    obtain ⟨y, t', h1, h2⟩ := look m hm
    rw [h2]
    exact beq_eq_false_iff_ne.mpr fun e => hno m hmj (by rw [h1, e])
/-! a tuple of whole numbers that its maker knows -/
/-- tuple(xs) -/
def rTpl (K : PySem.W.Frag) : List V → Hp → VK → Prop := fun xs H Q => ∃ (p : Addr) (ys : List V), xs = [.ref p] ∧ SqL K H p ys ∧ ∀ l o, H l = none → o.cls = .type "tuple" → o.dict = none → Q (.ref l) (L2.upd H l (.frz o (.tup ys)))
theorem call_tpl {X : Cx} : CallR X (.type "tuple") (rTpl X.K) := by
  intro pins s σ H xs us Q I r h
  obtain ⟨p, ys, rfl, hq, q⟩ := h
  obtain ⟨u, rfl, rx⟩ := vals1 r
  cases rx
  obtain ⟨its, r2, pl, hz⟩ := I.list hq
  have hlen := r2.length
  refine call_tuple_list pl.isList (fun h' kp => ?_) (by rw [List.size_toArray]; omega)
  have I1 : Inv X pins σ H { s with heap := h' } := I.kept (t' := s.toks) kp
  have new := Heap.get?_push_size h' (o := { cls := Value.type "tuple", data := Data.seq its.toArray }) rfl
  have I2 : Inv X pins σ (L2.upd H h'.objs.size (.frz { cls := Value.type "tuple", data := Data.seq its.toArray } (.tup ys))) { s with heap := h'.push { cls := Value.type "tuple", data := Data.seq its.toArray } } :=
    I1.laid (t' := s.toks) (fun b o e => Heap.get?_push_of_some _ e) (Nat.le_refl _) (show ObjOk X.prog X.w _ _ _ (.frz _ (.tup ys)) from ⟨new, hz, its, r2, IsTup.new _ _⟩)
  exact ⟨.ref h'.objs.size, _, I2, rfl, q _ _ (I1.hok.fresh (Nat.le_refl _)) rfl rfl⟩
def bTpl : List D → Rs VD
  | [.lst ds] => (rO (nums ds)).bind fun ns => .ok (.val (.tpl ns))
  | _ => .stuck
@[simp] theorem bTpl_l (ds : List D) : bTpl [.lst ds] = (rO (nums ds)).bind fun ns => .ok (.val (.tpl ns)) := rfl
theorem q_tpl : QuietN bTpl := fun ds => by
  unfold bTpl
  split <;> first | exact quiet_s | exact quiet_r fun _ => quiet_v
theorem d_tpl {K : PySem.W.Frag} {mg : PySem.Str → Option Value} : RnD K mg (rTpl K) bTpl := fun S H xs ds Q z t hp e k => by
  unfold bTpl at e
  split at e
  · obtain ⟨ns, en, e⟩ := o_ok e
    cases e
    obtain ⟨x, rfl, p⟩ := topv1 hp
    obtain ⟨a, vs, rfl, h1, z1, r⟩ := p.sqL
    rw [ints_eq en] at r
    have ev := r.ofInts
    subst ev
    exact ⟨a, _, rfl, .of h1, fun l o hl c1 c2 => k _ _ (same_new hl) (.tpl (t.fresh hl) upd_same c1 c2 (by simpa using z1))⟩
  · cases e
/-! x.index(k): of a list, of a tuple that is known -/
def idxR : D → Rs Unit
  | .lst _ => .ok ()
  | .tpl _ => .ok ()
  | _ => .stuck
@[simp] theorem idxR_l (ds : List D) : idxR (.lst ds) = .ok () := rfl
@[simp] theorem idxR_p (ns : List Int) : idxR (.tpl ns) = .ok () := rfl
def eIdx (f g : DE) : DE := fun r T => (dt (f r T)).bind fun p => (idxR p.1).bind fun _ => (dt (g r p.2)).bind fun q => lift (dIdx p.1 q.1) q.2
@[simp] theorem eIdx_ap (f g : DE) (r : Env) (T : Tp) : eIdx f g r T = (dt (f r T)).bind fun p => (idxR p.1).bind fun _ => (dt (g r p.2)).bind fun q => lift (dIdx p.1 q.1) q.2 := rfl
theorem pe_bmT {X : Cx} {e o : Expr} {es : List Expr} {to : TE} {t : TA} {r : V → List V → Hp → VK → Prop} {name : PySem.Str} {id : String} {apos cpos : Pos} (pa : PlainAttrs "tuple") (slot : Slot "tuple" name id) (hty : typeOf (.builtin id) = pure (.type "method_descriptor")) (hm : MtR X id r) (ho : PE X o to) (ha : PA X (e :: es) t)
    (hbase : attributeBase o name X.env (eval o X.env) = eval o X.env)
    (hfew : ((backTo cpos (starEach (e :: es) X.env)).all (fun x => !x.1) && (backToKw cpos (keywordEach [] X.env)).all (fun x => x.1.isSome) && decide ((e :: es).length + ([] : List Keyword).length + (if ([] : List Keyword).isEmpty then 0 else 1) < 30)) = true)
    (hline : (apos.endLine == cpos.line) = true) (hs : starEach (e :: es) X.env = (false, eval e X.env) :: starEach es X.env) (hplain : (backTo cpos (starEach es X.env)).any (·.1) = false) :
    PE X (.Call (.Attribute o name apos) (e :: es) [] cpos) (fun σ H Q => to σ H fun x H1 => ∃ p ob xs, x = .ref p ∧ H1 p = some (.frz ob (.tup xs)) ∧ ob.cls = .type "tuple" ∧ ob.dict = none ∧ t σ H1 fun vs H2 => r x vs H2 Q) := by
  refine ⟨fun pins s σ H Q I h => wpAny_Call_method_late hbase hfew hline rfl (thn (ho.run pins s σ H _ I h) fun v s1 ⟨x, H1, I1, r1, p, ob, xs, ex, hp, c1, c2, q1⟩ => ?_)⟩
  subst ex
  cases (show v = Value.ref p from r1)
  have g1 : s1.heap.get? p = some ob := (I1.hok p _ hp).1
  refine ⟨"tuple", id, pa, slot, hty, ⟨ob, g1, c1⟩, fun a ea => by cases ea; exact ⟨ob, g1, c2⟩, ?_⟩
  have hA := ha.run cpos pins s1 σ H1 _ I1 q1
  rw [hs] at hA ⊢
  refine Calls.callWith_builtin (by show (false || (backTo cpos (starEach es X.env)).any (·.1)) = false; rw [hplain]; rfl) (Calls.evalArgs_plain ?_)
  exact thn hA fun us s2 ⟨vs, H2, I2, r2, q2⟩ => hm pins s2 σ H2 (.ref p) vs (.ref p) us Q I2 rfl r2 q2
theorem se_idx {X : Cx} {C : FC} {o e : Expr} {f g : DE} {apos cpos : Pos} (ho : SE X C o f) (ha : SE X C e g)
    (hbase : attributeBase o "index" X.env (eval o X.env) = eval o X.env := by rfl)
    (hfew : ((backTo cpos (starEach [e] X.env)).all (fun x => !x.1) && (backToKw cpos (keywordEach [] X.env)).all (fun x => x.1.isSome) && decide ([e].length + ([] : List Keyword).length + (if ([] : List Keyword).isEmpty then 0 else 1) < 30)) = true := by rfl)
    (hline : (apos.endLine == cpos.line) = true := by rfl) (hs : starEach [e] X.env = (false, eval e X.env) :: starEach [] X.env := by rfl) (hplain : (backTo cpos (starEach [] X.env)).any (·.1) = false := by rfl) :
    SE X C (.Call (.Attribute o "index" apos) [e] [] cpos) (eIdx f g) := by
  refine pe_imp (pe_either (pe_bm PySem.F.plainAttrs_list PySem.F.slot_list_index PySem.F.type_list_index mt_index ho (pa_cons ha pa_nil hs) hbase hfew hline hs hplain) (pe_bmT PySem.F.plainAttrs_tuple PySem.F.slot_tuple_index PySem.F.type_tuple_index mt_idxT ho (pa_cons ha pa_nil hs) hbase hfew hline hs hplain)) ?_
  rintro σ H Q ⟨ρ, T, h, P⟩
  rcases runs_dt P with ⟨d, T', ed, P1⟩ | ⟨c, fs, t, r2, ex⟩
  · cases d with
    | lst ds =>
      refine .inl ⟨ρ, T, h, gv_dtE h P fun d2 T2 v H1 ed2 h1 e1 p P2 => ?_⟩
      obtain rfl := ok_eq ed ed2
      obtain ⟨a, vs, rfl, g1, z1, r1⟩ := p.top.sqL
      refine ⟨.inl ⟨rfl, _, .of g1⟩, ρ, T2, h1, gv_dt h1 (show PostG X.K X.mg C σ (GV X.K X.mg C ρ σ H Q) ((dt (g ρ T2)).bind fun q => lift (dIdx _ q.1) q.2) from P2) fun k T3 w H2 h2 e2 p2 P3 => ?_⟩
      obtain ⟨z, ez, P4⟩ := lift_ex (q_idx _ k) h2 (post_from h2 (e1.trans e2) P3)
      have p3 := p.ext e2
      obtain ⟨b, ws, eb, g2, z2, r2⟩ := p3.top.sqL
      cases eb
      cases k with
      | int k =>
        obtain ⟨ns, en, ez⟩ := o_ok ez
        obtain ⟨j, ej, ez⟩ := o_ok ez
        cases ez
        rw [ints_eq en] at r2
        have ev := r2.ofInts
        subst ev
        obtain ⟨q1, q2⟩ := idxI_get ej
        refine ⟨a, _, .int k, j, .int k, rfl, ?_, .of g2, rfl, flat_ints ns, by rw [List.getElem?_map, q1]; rfl, beq_self_eq_true k, fun m z' hm hz => ?_, P4.pure (.int _)⟩
        · rw [p2.top.int]
        · rw [List.getElem?_map] at hz
          obtain ⟨n, hn, rfl⟩ := Option.map_eq_some_iff.mp hz
          exact beq_eq_false_iff_ne.mpr fun e => q2 m hm (by rw [hn, e])
      | _ => exact nomatch ez
    | tpl ns =>
      refine .inr ⟨ρ, T, h, gv_dtE h P fun d2 T2 v H1 ed2 h1 e1 p P2 => ?_⟩
      obtain rfl := ok_eq ed ed2
      obtain ⟨a, o, rfl, g1, c1, c2, z1⟩ := p.top.tpl
      refine ⟨a, o, _, rfl, g1, c1, c2, ρ, T2, h1, gv_dt h1 (show PostG X.K X.mg C σ (GV X.K X.mg C ρ σ H Q) ((dt (g ρ T2)).bind fun q => lift (dIdx _ q.1) q.2) from P2) fun k T3 w H2 h2 e2 p2 P3 => ?_⟩
      obtain ⟨z, ez, P4⟩ := lift_ex (q_idx _ k) h2 (post_from h2 (e1.trans e2) P3)
      obtain ⟨b, eb, g2, z2⟩ := (p.ext e2).top.tplT
      cases eb
      cases k with
      | int k =>
        obtain ⟨j, ej, ez⟩ := o_ok ez
        cases ez
        obtain ⟨q1, q2⟩ := idxI_get ej
        exact ⟨a, ns, k, j, rfl, by rw [p2.top.int], g2, q1, q2, P4.pure (.int _)⟩
      | _ => exact nomatch ez
    | _ => exact (show False from P1).elim
  · refine .inl ⟨ρ, T, h, ?_⟩
    unfold eIdx at P
    rw [ex] at P ⊢
    exact P
end Pu
namespace Pu
open PySem L2 PySem.Spec PyProof.Rows

/-! # range(a, b, -1) -/
def dwnD (a : Int) (n : Nat) : List D := (List.range n).map fun (i : Nat) => .int (a - i)
theorem dwnD_get {a : Int} {n i : Nat} {d : D} (h : (dwnD a n)[i]? = some d) : i < n ∧ d = .int (a - i) := by
  unfold dwnD at h
  rw [List.getElem?_map] at h
  by_cases hi : i < n
  · rw [List.getElem?_range hi] at h
    cases h
    exact ⟨hi, rfl⟩
  · rw [List.getElem?_eq_none (by simpa using hi)] at h
    cases h
@[simp] theorem dwnD_len (a : Int) (n : Nat) : (dwnD a n).length = n := by simp [dwnD]
def iDwn (f g : DE) : DI := fun r T => (dt (f r T)).bind fun p => (dt (g r p.2)).bind fun q => (dI p.1).bind fun i => (dI q.1).bind fun j => if -8000000 ≤ i ∧ i ≤ 8000000 ∧ -8000000 ≤ j ∧ j ≤ 8000000 then .ok (dwnD i (i - j).toNat, q.2) else .stuck
@[simp] theorem iDwn_ap (f g : DE) (r : Env) (T : Tp) : iDwn f g r T = (dt (f r T)).bind fun p => (dt (g r p.2)).bind fun q => (dI p.1).bind fun i => (dI q.1).bind fun j => if -8000000 ≤ i ∧ i ≤ 8000000 ∧ -8000000 ≤ j ∧ j ≤ 8000000 then .ok (dwnD i (i - j).toNat, q.2) else .stuck := rfl
theorem pin_down {K : PySem.W.Frag} {mg : PySem.Str → Option Value} {a : Int} {n : Nat} (hz : n ≤ sizeLine) : PinOk K mg (Itc a (-1) n) (dwnD a n) [] := ⟨by rw [dwnD_len]; exact hz, fun S H t h i => by
  refine ⟨fun d e => ?_, fun hi => by simpa [Itc] using hi⟩
  obtain ⟨hi, rfl⟩ := dwnD_get e
  refine ⟨hi, fun x H3 ⟨e3, y⟩ => ?_⟩
  subst e3 y
  have : a + ((i : Nat) : Int) * (-1) = a - i := by omega
  rw [this]
  exact ⟨Same.refl _, .int _⟩⟩
theorem dI_ex {K : PySem.W.Frag} {mg : PySem.Str → Option Value} {C : FC} {σ : L2.St} {B : Type} {G : B → Prop} {d : D} {g : Int → Rs B} (h : PostG K mg C σ G ((dI d).bind g)) : ∃ i, d = .int i ∧ PostG K mg C σ G (g i) := by
  cases d with
  | int i => exact ⟨i, rfl, h⟩
  | _ => exact (show False from h).elim
section
variable {X : Cx} {C : FC} {tg a b : Expr} {f g : DE} {p pos p1 : Pos} {j1 : Nat} {p2 : Pos}
theorem t_down {σ : L2.St} {H : Hp} {R : It → Hp → Prop} {ρ : Env} {T : Tp} {GX : Env → L2.St → Hp → (It → Hp → Prop) → List D × Tp → Prop} (h : Holds X.K X.mg C Z0 ρ T σ H) (P : PostG X.K X.mg C σ (GX ρ σ H R) (iDwn f g ρ T))
    (k : ∀ H' T' lo n, n ≤ sizeLine → Holds X.K X.mg C Z0 ρ T' σ H' → Ext C H H' → GX ρ σ H R (dwnD lo n, T') → R (Itc lo (-1) n) H') :
    iRng3 (tCons (tE X.K X.mg C f) (tCons (tE X.K X.mg C g) (tCons (tE X.K X.mg C (eUn dNeg (eC (.int 1)))) tNil))) σ H R := by
  refine ⟨ρ, T, h, gv_dt h P fun d T1 v H1 h1 e1 q1 P1 => ⟨ρ, T1, h1, gv_dt h1 P1 fun e T2 w H2 h2 e2 q2 P2 => ?_⟩⟩
  obtain ⟨i, ed, P4⟩ := dI_ex P2
  obtain ⟨j, ee, P5⟩ := dI_ex P4
  obtain ⟨⟨b1, b2, b3, b4⟩, P3⟩ := postG_if P5
  have ed : d = .int i := ed
  have ee : e = .int j := ee
  subst ed ee
  refine ⟨ρ, T2, h2, fun u H3 h3 e3 q3 => ⟨i, j, -1, (i - j).toNat, ?_, RgC.neg (by omega) (by omega) (by omega) (by omega), k H3 T2 i _ (rng_len (by omega)) h3 ((e1.trans e2).trans e3) P3⟩⟩
  have q3 := (show Top X.K X.mg (SS C Z0 ρ σ) H3 u (.int (-1)) from .inl q3).int
  rw [q1.top.int, q2.top.int, q3]
theorem si_down (hm : X.mg "range" = none) (ha : SE X C a f) (hb : SE X C b g) (hg : Gl X "range" := by rfl)
    (hs : starEach [a, b, .UnaryOp .USub (.Constant (.int 1) j1 p1) p2] X.env = (false, eval a X.env) :: starEach [b, .UnaryOp .USub (.Constant (.int 1) j1 p1) p2] X.env := by rfl)
    (hs2 : starEach [b, .UnaryOp .USub (.Constant (.int 1) j1 p1) p2] X.env = (false, eval b X.env) :: starEach [.UnaryOp .USub (.Constant (.int 1) j1 p1) p2] X.env := by rfl)
    (hs3 : starEach [.UnaryOp .USub (.Constant (.int 1) j1 p1) p2] X.env = (false, eval (.UnaryOp .USub (.Constant (.int 1) j1 p1) p2) X.env) :: starEach [] X.env := by rfl)
    (hpl : (backTo pos (starEach [b, .UnaryOp .USub (.Constant (.int 1) j1 p1) p2] X.env)).any (·.1) = false := by rfl) :
    SI X C tg (.Call (.Name "range" p) [a, b, .UnaryOp .USub (.Constant (.int 1) j1 p1) p2] [] pos) (iDwn f g) := by
  refine pi_imp (pi_range3 hg hm (pa_cons ha (pa_cons hb (pa_cons (se_un (C := C) un_neg d_neg q_neg se_int) pa_nil hs3) hs2) hs) hs hpl) ?_
  rintro σ H R ⟨ρ, T, h, P⟩
  exact t_down (GX := fun ρ σ H R => GI X.K X.mg C ρ σ H R) h P fun H' T' lo n hz hh e q => q (Itc lo (-1) n) [] H' hh e (fun _ z => nomatch z) (pin_down hz)
theorem sj_down (hm : X.mg "range" = none) (ha : SE X C a f) (hb : SE X C b g) (hg : Gl X "range" := by rfl)
    (hs : starEach [a, b, .UnaryOp .USub (.Constant (.int 1) j1 p1) p2] X.env = (false, eval a X.env) :: starEach [b, .UnaryOp .USub (.Constant (.int 1) j1 p1) p2] X.env := by rfl)
    (hs2 : starEach [b, .UnaryOp .USub (.Constant (.int 1) j1 p1) p2] X.env = (false, eval b X.env) :: starEach [.UnaryOp .USub (.Constant (.int 1) j1 p1) p2] X.env := by rfl)
    (hs3 : starEach [.UnaryOp .USub (.Constant (.int 1) j1 p1) p2] X.env = (false, eval (.UnaryOp .USub (.Constant (.int 1) j1 p1) p2) X.env) :: starEach [] X.env := by rfl)
    (hpl : (backTo pos (starEach [b, .UnaryOp .USub (.Constant (.int 1) j1 p1) p2] X.env)).any (·.1) = false := by rfl) :
    SJ X C tg (.Call (.Name "range" p) [a, b, .UnaryOp .USub (.Constant (.int 1) j1 p1) p2] [] pos) (iDwn f g) := by
  refine pi_imp (pi_range3 hg hm (pa_cons ha (pa_cons hb (pa_cons (se_un (C := C) un_neg d_neg q_neg se_int) pa_nil hs3) hs2) hs) hs hpl) ?_
  rintro σ H R ⟨ρ, T, h, P⟩
  exact t_down (GX := fun ρ σ H R => GJ X.K X.mg C ρ σ H R) h P fun H' T' lo n hz hh e q => q (Itc lo (-1) n) [] H' hh e (fun _ z => nomatch z) (pin_down hz)
end
/-! xs[k] += e -/
def sAugK (i : Nat) (fi fe : DE) (r : Env) (T : Tp) : Option (Option VD) → Rs (Fl × Tp)
  | some (some (.own (.lst ds))) => (dt (fi r T)).bind fun p => (dI p.1).bind fun k => (rO (ixN ds.length k)).bind fun j => (rO ds[j]?).bind fun x => (dI x).bind fun x => (dt (fe r p.2)).bind fun q => (dI q.1).bind fun y => .ok (.nx (r.set i (some (.own (.lst (ds.set j (.int (x + y))))))), q.2)
  | _ => .stuck
@[simp] theorem sAugK_own (i : Nat) (fi fe : DE) (r : Env) (T : Tp) (ds : List D) : sAugK i fi fe r T (some (some (.own (.lst ds)))) = (dt (fi r T)).bind fun p => (dI p.1).bind fun k => (rO (ixN ds.length k)).bind fun j => (rO ds[j]?).bind fun x => (dI x).bind fun x => (dt (fe r p.2)).bind fun q => (dI q.1).bind fun y => .ok (.nx (r.set i (some (.own (.lst (ds.set j (.int (x + y))))))), q.2) := rfl
def sAugI (i : Nat) (fi fe : DE) : DS := fun r T => sAugK i fi fe r T r[i]?
@[simp] theorem sAugI_ap (i : Nat) (fi fe : DE) (r : Env) (T : Tp) : sAugI i fi fe r T = sAugK i fi fe r T r[i]? := rfl
theorem get_listS {X : Cx} : PGet X (L2.rIxL X.K) := by
  intro ps s σ H x y v u Q I rx ry ⟨p, xs, i, z, ex, ey, hq, he, q⟩
  subst ex ey
  cases (show v = Value.ref p from rx)
  obtain ⟨t, rfl⟩ := (show ∃ t, u = Value.int i t from ry)
  obtain ⟨its, r, pl, hz⟩ := I.list hq
  obtain ⟨j, g1, g2, g3, g4, g5⟩ := atI_get he
  obtain ⟨w, ew, rw2⟩ := r.get g2
  have hl := r.length
  have hn := line63
  have fin : EP X ps σ Q w s := ⟨z, H, I, rw2, q⟩
  by_cases h0 : 0 ≤ i
  · have hj : i.toNat = j := Option.some.inj ((seqIndex_of h0 g5).symm.trans g1)
    exact wpAny_getItem_list pl.isList h0 (by omega) (by rw [hj]; simpa using ew) fin
  · have hj : (i + (its.toArray.size : Int)).toNat = j := by
      rw [seqIndex_neg (by omega) g4] at g1
      rw [List.size_toArray, ← hl]
      exact Option.some.inj g1
    exact wpAny_getItem_list_neg pl.isList (by omega) (by rw [List.size_toArray]; omega) (by omega) (by rw [hj]; simpa using ew) fin
theorem ss_augI {X : Cx} {C : FC} {x : PySem.Str} {ei e : Expr} {fi fe : DE} {p1 tpos pos : Pos} (i : Nat) (hi : SE X C ei fi) (he : SE X C e fe)
    (hN : X.N[i]? = some x := by rfl) (hv : Vis X.env.scope x := by first | exact Or.inl rfl | exact Or.inr (Or.inl rfl) | exact Or.inr (Or.inr rfl)) (hdb : (x == ("__debug__" : PySem.Str)) = false := by decide) (hcd : (x == ("__classdict__" : PySem.Str)) = false := by decide)
    (ha : ∀ ov iv new, augStore ei ov iv new = (do holding [new, ov, iv] (setItem ov iv new); release [new, ov, iv] []; pure .next) := by intros; rfl) :
    SSt X C (.AugAssign (.Subscript (.Name x p1) ei tpos) .Add e pos) (sAugI i fi fe) := by
  refine ps_imp (ps_augS (pe_var hN hv hdb hcd) hi get_listS he ip_add set_list ha) ?_
  rintro E σ H ⟨ρ, T, h, P⟩
  unfold sAugI sAugK at P
  split at P
  · rename_i ds eo
    obtain ⟨p, es, o, _⟩ := h.own i _ eo
    have sp : SS C Z0 ρ σ p := .inr (.inr (.inl ⟨i, _, eo, es⟩))
    refine ⟨_, es, ρ, T, h, gv_dt h (PostS.at (σ := σ) P) fun d T1 v H1 h1 e1 q P1 => ?_⟩
    obtain ⟨k, ek, P4⟩ := dI_ex P1
    have ek : d = .int k := ek
    subst ek
    obtain ⟨j, ej, P5⟩ := rO_ex P4
    obtain ⟨yd, ey, P6⟩ := rO_ex P5
    obtain ⟨y, ey2, P7⟩ := dI_ex P6
    subst ey2
    obtain ⟨p', es', o1, _⟩ := h1.own i _ eo
    rw [es] at es'
    cases es'
    obtain ⟨vs, g1, z1, r1⟩ := o1.lstInv
    have hl := r1.len
    obtain ⟨w, ew, pw⟩ := r1.getD ey
    rw [q.top.int]
    refine ⟨p, vs, k, w, rfl, rfl, .of g1, by unfold atI; rw [hl, ej]; exact ew, ρ, T1, h1, gv_dt h1 P7 fun d2 T2 v2 H2 h2 e2 q2 P8 => ?_⟩
    obtain ⟨m, em, P9⟩ := dI_ex P8
    have em : d2 = .int m := em
    subst em
    obtain ⟨p', es', o2, _⟩ := h2.own i _ eo
    rw [es] at es'
    cases es'
    obtain ⟨ws, g2, z2, r2⟩ := o2.lstInv
    rw [(show Top X.K X.mg (SS C Z0 ρ σ) H1 w (.int y) from .inl pw).int, q2.top.int]
    refine ⟨y, m, rfl, rfl, p, ws, k, j, rfl, rfl, g2, by rw [r2.len]; exact ej, P9 σ _ (h2.upd eo es (fun a o ne z => by rw [upd_ne ne]; exact z) (.lst upd_same (by rw [List.length_set]; exact z2) ((r2.upd sp).set (.int _) j)))⟩
  · exact P.elim
/-! list(d): its keys -/
def kSmall : D → Bool
  | .tup xs => decide (xs.length ≤ 1000)
  | _ => false
def bListA : List D → Rs VD
  | [.dct false ds] => .ok (.own (.lst (ds.map (·.1))))
  | [.dct true ds] => if ∀ p ∈ ds, kSmall p.1 = true then .ok (.own (.lst (ds.map (·.1)))) else .stuck
  | [.tpl ns] => .ok (.own (.lst (ns.map D.int)))
  | ds => bList ds
@[simp] theorem bListA_d (ds : List (D × D)) : bListA [.dct false ds] = .ok (.own (.lst (ds.map (·.1)))) := rfl
theorem bListA_dt {ds : List (D × D)} (h : ∀ p ∈ ds, kSmall p.1 = true) : bListA [.dct true ds] = .ok (.own (.lst (ds.map (·.1)))) := if_pos h
@[simp] theorem bListA_p (ns : List Int) : bListA [.tpl ns] = .ok (.own (.lst (ns.map D.int))) := rfl
@[simp] theorem bListA_l (ds : List D) : bListA [.lst ds] = .ok (.own (.lst ds)) := rfl
@[simp] theorem bListA_t (ds : List D) : bListA [.tup ds] = .ok (.own (.lst ds)) := rfl
@[simp] theorem bListA_c (ns : List Int) : bListA [.scr ns] = .ok (.own (.lst (ns.map D.int))) := rfl
theorem q_listA : QuietN bListA := fun ds => by
  unfold bListA
  split <;> first | exact quiet_o | exact quiet_if quiet_o quiet_s | exact q_list _
def rListA (K : PySem.W.Frag) : List V → Hp → VK → Prop := fun xs H Q => rList K xs H Q ∨ L2.rListD xs H Q ∨ ∃ d kvs, xs = [V.ref d] ∧ Rd H d (.dT kvs) ∧ ∀ p bs, H p = none → IsKeys H kvs bs → Q (.ref p) (L2.upd H p (.lst (bs.map V.ref)))
theorem call_listA {X : Cx} (hc : X.calm = true) : CallR X (.type "list") (rListA X.K) := CallR.or call_list_of (CallR.or (call_list_dK hc) (call_list_dT hc))
theorem keys_rep {K : PySem.W.Frag} {mg : PySem.Str → Option Value} {S : Addr → Prop} {H : Hp} : ∀ (ks : List Key), Reps K mg S H (ks.map kV) (ks.map kD)
  | [] => .nil
  | .inl i :: ks => .cons (.int i) (keys_rep ks)
  | .inr x :: ks => .cons (.str x) (keys_rep ks)
theorem d_listA {K : PySem.W.Frag} {mg : PySem.Str → Option Value} : RnD K mg (rListA K) bListA := fun S H xs ds Q z t hp e k => by
  unfold bListA at e
  split at e
  · cases e
    obtain ⟨x, rfl, p⟩ := topv1 hp
    rcases p.dct with ⟨_, a, kvs, rfl, h1, z1, g, r⟩ | ⟨w, _⟩
    · refine .inr (.inl ⟨a, kvs, rfl, h1, fun q hq => ?_⟩)
      have kr := keys_rep (K := K) (mg := mg) (S := S) (H := H) (kvs.map (·.1))
      rw [List.map_map, List.map_map] at kr
      have e1 : (kvs.map (kV ∘ fun x => x.1)) = kvs.map fun kv => kV kv.1 := rfl
      have e2 : (kvs.map (kD ∘ fun x => x.1)) = kvs.map fun p => kD p.1 := rfl
      rw [e1, e2, ← g] at kr
      exact k.newL hq (by rw [List.length_map]; exact z1) kr
    · cases w
  · obtain ⟨hks, rfl⟩ := if_ok e
    obtain ⟨x, rfl, p⟩ := topv1 hp
    rcases p.dct with ⟨w, _⟩ | ⟨_, a, kvs, rfl, h1, z1, g, r⟩
    · cases w
    · refine .inr (.inr ⟨a, kvs, rfl, .inl h1, fun q bs hq ik => ?_⟩)
      have go : ∀ {kvs : List (List Key × V)} {bs : List Addr}, IsKeys H kvs bs → (∀ p ∈ kvs, p.1.length ≤ sizeLine) → Reps K mg S H (bs.map V.ref) (kvs.map fun p => keyT p.1) ∧ bs.length = kvs.length := by
        intro kvs bs ik
        unfold IsKeys at ik
        induction ik with
        | nil => exact fun _ => ⟨.nil, rfl⟩
        | @cons x y xs ys h t2 ih =>
          intro hk
          obtain ⟨i1, i2⟩ := ih fun p hp => hk p (List.mem_cons_of_mem _ hp)
          refine ⟨.cons (.tup (fun s => ?_) h (by rw [List.length_map]; exact hk x List.mem_cons_self) (keys_rep x.1)) i1, congrArg (· + 1) i2⟩
          obtain ⟨o, eo, m⟩ := t y s
          rw [h] at eo
          cases eo
          exact m
      obtain ⟨g1, g2⟩ := go ik fun p hp => by
        have : keyT p.1 ∈ kvs.map fun p => keyT p.1 := List.mem_map_of_mem hp
        rw [← g] at this
        obtain ⟨q, hq, eq⟩ := List.mem_map.mp this
        have := hks q hq
        rw [eq] at this
        have := of_decide_eq_true (show decide ((p.1.map kD).length ≤ 1000) = true from this)
        rw [List.length_map] at this
        exact k1000 this
      rw [← g] at g1
      exact k.newL hq (by rw [List.length_map, g2]; exact z1) g1
  · cases e
    obtain ⟨x, rfl, p⟩ := topv1 hp
    obtain ⟨a, rfl, h1, z1⟩ := p.tplT
    exact .inl ⟨_, _, rfl, .inr h1, fun l hl => k.newL hl (by rw [List.length_map]; exact z1) (Reps.ints _)⟩
  · exact .inl (d_list S H xs ds Q z t hp e k)
end Pu
namespace Pu
open PySem L2 PySem.Spec PyProof.Rows

/-! # a call that is lent what slots own; it gives a flat thing -/
def flatD : VD → Bool
  | .val .non => true
  | .val (.bl _) => true
  | .val (.int _) => true
  | .val (.str _) => true
  | _ => false
@[simp] theorem flatD_non : flatD (.val .non) = true := rfl
@[simp] theorem flatD_bl (b : Bool) : flatD (.val (.bl b)) = true := rfl
@[simp] theorem flatD_int (i : Int) : flatD (.val (.int i)) = true := rfl
@[simp] theorem flatD_str (x : PySem.Str) : flatD (.val (.str x)) = true := rfl
def lendK (T : Tp) (r : Env) : Rs (VD × Tp) → Rs (VD × Tp)
  | .ok q => if flatD q.1 = true then .ok (q.1, T) else .stuck
  | .exc c [] _ _ => .exc c [] T r
  | _ => .stuck
@[simp] theorem lendK_ok (T : Tp) (r : Env) (q : VD × Tp) : lendK T r (.ok q) = if flatD q.1 = true then .ok (q.1, T) else .stuck := rfl
@[simp] theorem wp_lendK {Q : VD × Tp → Prop} (T : Tp) (r : Env) (x : Rs (VD × Tp)) : wp (lendK T r x) Q ↔ wp x fun q => flatD q.1 = true ∧ Q (q.1, T) := by
  cases x with
  | ok q =>
    by_cases h : flatD q.1 = true <;> simp [lendK, h]
  | stuck => simp [lendK]
  | exc c fs t r2 => cases fs <;> simp [lendK]
def eDefB (n : Nat) (M : DM) (g : DA) : DE := fun r T => (g r T).bind fun p => if p.1.length = n then lendK p.2 r (M p.1 none) else .stuck
@[simp] theorem eDefB_ap (n : Nat) (M : DM) (g : DA) (r : Env) (T : Tp) : eDefB n M g r T = (g r T).bind fun p => if p.1.length = n then lendK p.2 r (M p.1 none) else .stuck := rfl
section
variable {X : Cx} {C : FC} {e : Expr} {es : List Expr} {g : DA} {pos p : Pos} {x : PySem.Str} {k j n : Nat} {M : DM}
/-- what is lent -/
def Lent (vs : List V) (a : Addr) : Prop := V.ref a ∈ vs
theorem lent_reps {K : PySem.W.Frag} {mg : PySem.Str → Option Value} {C : FC} {r : Env} {σ : L2.St} {H : Hp} {B : Addr → Prop} : ∀ {vs : List V} {ds : List D}, TopCs K mg C r σ H vs ds → (∀ a, V.ref a ∈ vs → C.tp ≠ some a → B a) → Reps K mg (fun a => SS C Z0 r σ a ∧ ¬ B a) H vs ds
  | _, _, .nil, _ => .nil
  | _, _, .cons p t, hb => by
    refine .cons ?_ (lent_reps t fun a ha => hb a (List.mem_cons_of_mem _ ha))
    rcases p with p | ⟨q, eq, nt, o⟩
    · exact p.go (fun _ _ e _ => e) fun a _ _ s z => s z.1
    · subst eq
      exact o.frozen (fun z => z.2 (hb q List.mem_cons_self nt)) fun a _ _ s z => s z.1
theorem se_defB (F : OkD X.prog X.w X.K X.mg X.base j x n false M) (hr : Room k X.A) (tk : Takes X C.W) (ha : SAt X C (e :: es) g) (hk : j ≤ k := by decide)
    (hg : Gl X x := by rfl) (hdb : (x == ("__debug__" : PySem.Str)) = false := by decide) (he : starEach (e :: es) X.env = (false, eval e X.env) :: starEach es X.env := by rfl) (hpl : (backTo pos (starEach es X.env)).any (·.1) = false := by rfl) :
    SE X C (.Call (.Name x p) (e :: es) [] pos) (eDefB n M g) := by
  obtain ⟨fd, ps, F, b, kp, hm⟩ := F
  refine pe_imp (pe_callS F (hr.mono hk) hg hm kp b (fun σ => passAt tk σ) ha hdb he hpl) ?_
  rintro σ H Q ⟨ρ, T, h, P⟩
  refine ⟨ρ, T, h, gb_bind P fun ds T' vs H1 h1 e1 p P1 => ?_⟩
  obtain ⟨hn, P2⟩ := postG_if P1
  have hlen : vs.length = ds.length := by
    clear hn P2 P1
    induction p with
    | nil => rfl
    | cons _ _ ih => exact congrArg (· + 1) ih
  let B : Addr → Prop := fun a => V.ref a ∈ vs ∧ C.tp ≠ some a
  have rp := lent_reps (B := B) p fun a m nt => ⟨m, nt⟩
  have hS : ∀ a, S1 (⟨H1, fun a => SS C Z0 ρ σ a ∧ ¬ B a, none, C.W, []⟩ : FC) a → SS C Z0 ρ σ a ∧ ¬ B a := fun a z => by
    rcases z with z | z
    · exact z
    · cases z
  refine ⟨⟨H1, fun a => SS C Z0 ρ σ a ∧ ¬ B a, none, C.W, []⟩, vs, ds, none, rfl, by rw [hlen]; exact hn, fun a z => h1.trk a z.1, ⟨rfl, rfl⟩, rfl, rp.go (fun _ _ e _ => e) fun a _ _ s z => s (hS a z), ?_⟩
  have sm : ∀ {H' : Hp}, Ext (⟨H1, fun a => SS C Z0 ρ σ a ∧ ¬ B a, none, C.W, []⟩ : FC) H1 H' → Same H1 H' := fun e2 a o z => e2 a o z (by intro z; cases z)
  cases q : M ds none with
  | stuck =>
    rw [q] at P2
    exact P2.elim
  | exc c fs T2 r2 =>
    rw [q] at P2
    cases fs with
    | nil =>
      intro cls d H' e2 _ y
      obtain ⟨Ca, y1, y2, y3⟩ := y
      refine P2 cls d H' (h1.more (sm e2)) ⟨Ca, y1, y2, ?_⟩
      rcases y3 with y3 | ⟨dd, xs, e3, e4, e5, e6⟩
      · exact .inl y3
      · cases xs with
        | nil => exact .inr ⟨dd, [], e3, e4, rfl, .nil⟩
        | cons _ _ => cases e5
    | cons f fs => exact (show False from P2).elim
  | ok z =>
    rw [q] at P2
    obtain ⟨z, T2⟩ := z
    obtain ⟨hf, P3⟩ := postG_if (show PostG X.K X.mg C σ (GV X.K X.mg C ρ σ H Q) (if flatD z = true then .ok (z, T') else .stuck) from P2)
    intro u H' e2 rt
    have fin : ∀ d : D, z = .val d → Rep X.K X.mg (SS C Z0 ρ σ) H' u d → Q u H' := fun d ed pr => by
      subst ed
      exact P3 u H' (h1.more (sm e2)) (e1.trans (.same (sm e2))) pr
    cases z with
    | val d =>
      cases d with
      | non => exact fin _ rfl (by have r1 := rt.1; cases r1; exact .non)
      | bl b => exact fin _ rfl (by have r1 := rt.1; cases r1; exact .bl b)
      | int i => exact fin _ rfl (by have r1 := rt.1; cases r1; exact .int i)
      | str y => exact fin _ rfl (by have r1 := rt.1; cases r1; exact .str y)
      | _ => exact nomatch hf
    | _ => exact nomatch hf
end
end Pu
namespace Pu
open PySem L2

/-! # plain helpers, more -/
/-- the loops in order, each no more than one beyond what the others before it reach -/
def reachI : Int → List Int → Int
  | f, [] => f
  | f, x :: xs => if x > f + 1 then f else reachI (f + x) xs
/-- a tuple of whole numbers, known or not -/
def lpD (b : Bool) (ns : List Int) : D := match b with
  | true => .tpl ns
  | false => .tup (ns.map D.int)
theorem atI_map {A B : Type} (f : A → B) (xs : List A) (i : Int) : atI (xs.map f) i = (atI xs i).map f := by
  unfold L2.atI
  rw [List.length_map]
  cases ixN xs.length i with
  | none => rfl
  | some j => simp
@[simp] theorem isT_lp (cs : List PySem.Str) (t : Ty) (b : Bool) (ns : List Int) : isT cs t (lpD b ns) = some (match t with | .tuple => true | _ => false) := by cases b <;> cases t <;> rfl
@[simp] theorem dIxA_lp (b : Bool) (ns : List Int) (i : Int) : dIxA (lpD b ns) (.int i) = (rO (atI ns i)).bind fun n => .ok (.val (.int n)) := by
  cases b with
  | true => rfl
  | false =>
    show (rO (atI (ns.map D.int) i)).bind _ = _
    rw [atI_map]
    cases atI ns i <;> rfl
@[simp] theorem bLenA_lp (b : Bool) (ns : List Int) : bLenA [lpD b ns] = .ok (.val (.int ns.length)) := by
  cases b
  · show Rs.ok (VD.val (D.int ((ns.map D.int).length : Nat))) = _
    rw [List.length_map]
  · rfl
@[simp] theorem seqD_lp (b : Bool) (ns : List Int) : seqD (lpD b ns) = .ok (ns.map D.int) := by cases b <;> rfl
@[simp] theorem bTpl_map (ns : List Int) : bTpl [.lst (ns.map D.int)] = .ok (.val (.tpl ns)) := by
  show (rO (nums (ns.map D.int))).bind _ = _
  rw [ints_map]
  rfl
theorem atI_vl {ns : List Int} {k : Int} (h : 0 ≤ k ∧ k < ns.length) : atI ns k = some (vl ns k) := by
  obtain ⟨h0, h1⟩ := h
  rw [atI_some h0 h1]
  unfold vl
  rw [nth_get (by omega)]
end Pu
namespace Pu
open PySem L2 PySem.Spec PyProof.Rows

/-! # a op b op c op d -/
section
variable {X : Cx} {a b c d : Expr} {pos : Pos} {ta tb tc td : TE}
/-- the rest of a chain, behind its first link -/
def tLink (r' r'' : R2) (tc td : TE) (σ : L2.St) (y : V) (H : Hp) (Q : VK) : Prop := tc σ H fun z H1 => r' y z H1 fun k H2 => ∃ b, k = .bl b ∧ (if b = true then td σ H2 fun u H3 => r'' z u H3 Q else Q (.bl false) H2)
def tChain3 (r r' r'' : R2) (ta tb tc td : TE) : TE := fun σ H Q => ta σ H fun x H1 => tb σ H1 fun y H2 => r x y H2 fun z H3 => ∃ k, z = .bl k ∧ (if k = true then tLink r' r'' tc td σ y H3 Q else Q (.bl false) H3)
theorem pe_chain3 {op op' op'' : CmpOp} {r r' r'' : R2} (ho : OpR X (compareOp op) r) (ho' : OpR X (compareOp op') r') (ho'' : OpR X (compareOp op'') r'') (ha : PE X a ta) (hb : PE X b tb) (hc : PE X c tc) (hd : PE X d td)
    (hm : lastMarks [op, op', op''] [b, c, d] = false := by with_unfolding_all rfl) : PE X (.Compare a [op, op', op''] [b, c, d] pos) (tChain3 r r' r'' ta tb tc td) := by
  refine ⟨fun pins s σ H Q I h => ?_⟩
  refine Compare_chain (thn (ha.run pins s σ H _ I h) fun v s1 ⟨x, H1, I1, r1, q1⟩ => chain_link (thn (hb.run pins s1 σ H1 _ I1 q1) fun u s2 ⟨y, H2, I2, r2, q2⟩ =>
    thn (ho pins s2 σ H2 x y v u _ I2 r1 r2 q2) fun d s3 ⟨z, H3, I3, r3, k, e, q3⟩ => ?_)) hm
  subst e
  cases r3
  refine wpAny_truthy_bool ?_
  cases k with
  | false => exact ite_ff ⟨.bl false, H3, I3, rfl, q3⟩
  | true =>
    refine ite_tt (chain_link (thn (hc.run pins s3 σ H3 _ I3 q3) fun w' s4 ⟨z', H4, I4, r4, q4⟩ => thn (ho' pins s4 σ H4 y z' u w' _ I4 r2 r4 q4) fun d' s5 ⟨z2, H5, I5, r5, k2, e2, q5⟩ => ?_))
    subst e2
    cases r5
    refine wpAny_truthy_bool ?_
    cases k2 with
    | false => exact ite_ff ⟨.bl false, H5, I5, rfl, q5⟩
    | true => exact ite_tt (chain_last (thn (hd.run pins s5 σ H5 _ I5 q5) fun w2 s6 ⟨z3, H6, I6, r6, q6⟩ => ho'' pins s6 σ H6 z' z3 w' w2 Q I6 r4 r6 q6))
theorem pt_chain3 {op op' op'' : CmpOp} {r r' r'' : R2} (ho : OpR X (compareOp op) r) (ho' : OpR X (compareOp op') r') (ho'' : OpR X (compareOp op'') r'') (ha : PE X a ta) (hb : PE X b tb) (hc : PE X c tc) (hd : PE X d td)
    (hm : lastMarks [op, op', op''] [b, c, d] = false := by with_unfolding_all rfl) : PT X (.Compare a [op, op', op''] [b, c, d] pos) (tTest (tChain3 r r' r'' ta tb tc td)) := by
  refine ⟨fun pins s σ H Q I h => ?_⟩
  refine isTrue_chain (thn (ha.run pins s σ H _ I h) fun v s1 ⟨x, H1, I1, r1, q1⟩ => test_link (thn (hb.run pins s1 σ H1 _ I1 q1) fun u s2 ⟨y, H2, I2, r2, q2⟩ =>
    thn (ho pins s2 σ H2 x y v u _ I2 r1 r2 q2) fun d s3 ⟨z, H3, I3, r3, k, e, q3⟩ => ?_)) hm
  subst e
  cases r3
  refine wpAny_truthy_bool ?_
  cases k with
  | false =>
    obtain ⟨k', e', q'⟩ := q3
    cases e'
    exact ite_ff ⟨H3, I3, q'⟩
  | true =>
    refine ite_tt (test_link (thn (hc.run pins s3 σ H3 _ I3 q3) fun w' s4 ⟨z', H4, I4, r4, q4⟩ => thn (ho' pins s4 σ H4 y z' u w' _ I4 r2 r4 q4) fun d' s5 ⟨z2, H5, I5, r5, k2, e2, q5⟩ => ?_))
    subst e2
    cases r5
    refine wpAny_truthy_bool ?_
    cases k2 with
    | false =>
      obtain ⟨k', e', q'⟩ := q5
      cases e'
      exact ite_ff ⟨H5, I5, q'⟩
    | true =>
      refine ite_tt (test_last (thn (hd.run pins s5 σ H5 _ I5 q5) fun w2 s6 ⟨z3, H6, I6, r6, q6⟩ => thn (ho'' pins s6 σ H6 z' z3 w' w2 _ I6 r4 r6 q6) fun d' s7 ⟨z4, H7, I7, r7, k3, e3, q7⟩ => ?_))
      subst e3
      cases r7
      exact wpAny_truthy_bool ⟨H7, I7, q7⟩
end
def eLink (op' op'' : D → D → Rs VD) (h k : DE) (y : D) : DE := fun r T => (dt (h r T)).bind fun w => (op' y w.1).bind fun z => match z with
  | .val (.bl b) => if b = true then (dt (k r w.2)).bind fun u => lift (op'' w.1 u.1) u.2 else .ok (.val (.bl false), w.2)
  | _ => .stuck
def eChain3 (op op' op'' : D → D → Rs VD) (f g h k : DE) : DE := fun r T => (dt (f r T)).bind fun p => (dt (g r p.2)).bind fun q => (op p.1 q.1).bind fun z => match z with
  | .val (.bl b) => if b = true then eLink op' op'' h k q.1 r q.2 else .ok (.val (.bl false), q.2)
  | _ => .stuck
section
variable {X : Cx} {C : FC} {a b c e : Expr} {f g h k : DE} {pos : Pos} {r r' r'' : R2} {op op' op'' : D → D → Rs VD} {o o' o'' : CmpOp}
theorem t_link (hd' : R2D X.K X.mg r' op') (hq' : Quiet2 op') (hd'' : R2D X.K X.mg r'' op'') (hq'' : Quiet2 op'') {ρ : Env} {T : Tp} {σ : L2.St} {H H0 : Hp} {Q : VK} {d2 : D} {v2 : V} (h2 : Holds X.K X.mg C Z0 ρ T σ H) (e0 : Ext C H0 H) (p2 : TopC X.K X.mg C ρ σ H v2 d2)
    (P : PostG X.K X.mg C σ (GV X.K X.mg C ρ σ H0 Q) (eLink op' op'' h k d2 ρ T)) : tLink r' r'' (tE X.K X.mg C h) (tE X.K X.mg C k) σ v2 H Q := by
  refine ⟨ρ, T, h2, gv_dt h2 (show PostG X.K X.mg C σ (GV X.K X.mg C ρ σ H0 Q) ((dt (h ρ T)).bind _) from P) fun d3 T3 v3 H3 h3 e3 p3 P3 => ?_⟩
  obtain ⟨z, ez, P4⟩ := quiet_ex (hq' d2 d3) P3
  have en : ∀ b, z = .val (.bl b) → r' v2 v3 H3 (fun k' H2 => ∃ b, k' = .bl b ∧ (if b = true then tE X.K X.mg C k σ H2 fun u H3 => r'' v3 u H3 Q else Q (.bl false) H2)) := fun b hb => by
    subst hb
    refine hd' _ H3 v2 v3 d2 d3 _ _ h3.trk (p2.ext e3).top p3.top ez fun y H4 s4 py => ?_
    cases py
    have h4 := h3.more s4
    have e04 := (e0.trans e3).trans (.same s4)
    refine ⟨b, rfl, ?_⟩
    cases b with
    | false => exact (show GV X.K X.mg C ρ σ H0 Q (.val (.bl false), T3) from P4) _ H4 h4 e04 (.bl false)
    | true =>
      have P5 : PostG X.K X.mg C σ (GV X.K X.mg C ρ σ H0 Q) ((dt (k ρ T3)).bind fun w => lift (op'' d3 w.1) w.2) := P4
      refine ⟨ρ, T3, h4, gv_dt h4 P5 fun d5 T5 v5 H5 h5 e5 p5 P6 => ?_⟩
      obtain ⟨u, eu, P7⟩ := lift_ex (hq'' d3 d5) h5 (post_from h5 (e04.trans e5) P6)
      exact hd'' _ H5 v3 v5 d3 d5 Q u h5.trk ((p3.ext (.same s4)).ext e5).top p5.top eu P7
  cases z with
  | val dz =>
    cases dz with
    | bl k => exact en k rfl
    | _ => exact (show False from P4).elim
  | _ => exact (show False from P4).elim
theorem t_chain3 (hd : R2D X.K X.mg r op) (hq : Quiet2 op) (hd' : R2D X.K X.mg r' op') (hq' : Quiet2 op') (hd'' : R2D X.K X.mg r'' op'') (hq'' : Quiet2 op'') : ∀ (σ : L2.St) (H : Hp) (Q : VK), tE X.K X.mg C (eChain3 op op' op'' f g h k) σ H Q → tChain3 r r' r'' (tE X.K X.mg C f) (tE X.K X.mg C g) (tE X.K X.mg C h) (tE X.K X.mg C k) σ H Q := by
  rintro σ H Q ⟨ρ, T, h0, P⟩
  refine ⟨ρ, T, h0, gv_dt h0 P fun d T' v H1 h1 e1 p P1 => ⟨ρ, T', h1, gv_dt h1 P1 fun d2 T2 v2 H2 h2 e2 p2 P2 => ?_⟩⟩
  obtain ⟨z, ez, P3⟩ := quiet_ex (hq d d2) P2
  have en : ∀ b, z = .val (.bl b) → r v v2 H2 (fun z H3 => ∃ b, z = .bl b ∧ (if b = true then tLink r' r'' (tE X.K X.mg C h) (tE X.K X.mg C k) σ v2 H3 Q else Q (.bl false) H3)) := fun b hb => by
    subst hb
    refine hd _ H2 v v2 d d2 _ _ h2.trk (p.ext e2).top p2.top ez fun y H3 s3 py => ?_
    cases py
    have h3 := h2.more s3
    have e03 := (e1.trans e2).trans (.same s3)
    refine ⟨b, rfl, ?_⟩
    cases b with
    | false => exact (show GV X.K X.mg C ρ σ H Q (.val (.bl false), T2) from P3) _ H3 h3 e03 (.bl false)
    | true => exact t_link hd' hq' hd'' hq'' h3 e03 (p2.ext (.same s3)) P3
  cases z with
  | val dz =>
    cases dz with
    | bl k => exact en k rfl
    | _ => exact (show False from P3).elim
  | _ => exact (show False from P3).elim
theorem se_chain3 (ho : OpR X (compareOp o) r) (hd : R2D X.K X.mg r op) (hq : Quiet2 op) (ho' : OpR X (compareOp o') r') (hd' : R2D X.K X.mg r' op') (hq' : Quiet2 op') (ho'' : OpR X (compareOp o'') r'') (hd'' : R2D X.K X.mg r'' op'') (hq'' : Quiet2 op'') (ha : SE X C a f) (hb : SE X C b g) (hc : SE X C c h) (he : SE X C e k)
    (hm : lastMarks [o, o', o''] [b, c, e] = false := by with_unfolding_all rfl) : SE X C (.Compare a [o, o', o''] [b, c, e] pos) (eChain3 op op' op'' f g h k) :=
  pe_imp (pe_chain3 ho ho' ho'' ha hb hc he hm) (t_chain3 hd hq hd' hq' hd'' hq'')
theorem st_chain3 (ho : OpR X (compareOp o) r) (hd : R2D X.K X.mg r op) (hq : Quiet2 op) (ho' : OpR X (compareOp o') r') (hd' : R2D X.K X.mg r' op') (hq' : Quiet2 op') (ho'' : OpR X (compareOp o'') r'') (hd'' : R2D X.K X.mg r'' op'') (hq'' : Quiet2 op'') (ha : SE X C a f) (hb : SE X C b g) (hc : SE X C c h) (he : SE X C e k)
    (hm : lastMarks [o, o', o''] [b, c, e] = false := by with_unfolding_all rfl) : ST X C (.Compare a [o, o', o''] [b, c, e] pos) (xB (eChain3 op op' op'' f g h k)) := by
  refine pt_imp (pt_chain3 ho ho' ho'' ha hb hc he hm) ?_
  intro σ H Q hh
  exact t_chain3 hd hq hd' hq' hd'' hq'' σ H _ (t_B (X := X) (C := C) (f := eChain3 op op' op'' f g h k) σ H Q hh)
end
/-! # tuples of whole numbers that are known: joined, turned, summed -/
def dAddA : D → D → Rs VD
  | .tpl a, .tup b => if a ≠ [] ∧ b ≠ [] ∧ a.length + b.length ≤ 16000000 then .ok (.val (.tup (a.map D.int ++ b))) else .stuck
  | .tup a, .tpl b => if a ≠ [] ∧ b ≠ [] ∧ a.length + b.length ≤ 16000000 then .ok (.val (.tup (a ++ b.map D.int))) else .stuck
  | .tpl a, .tpl b => if a ≠ [] ∧ b ≠ [] ∧ a.length + b.length ≤ 16000000 then .ok (.val (.tup (a.map D.int ++ b.map D.int))) else .stuck
  | d, e => dAddI d e
theorem q_adda : Quiet2 dAddA := fun d e => by
  unfold dAddA
  split <;> first | exact quiet_if quiet_v quiet_s | exact q_add _ _
theorem reps_intsV {K : PySem.W.Frag} {mg : PySem.Str → Option Value} {S : Addr → Prop} {H : Hp} (ns : List Int) : Reps K mg S H (ns.map V.int) (ns.map D.int) := Reps.ints ns
theorem d_adda {K : PySem.W.Frag} {mg : PySem.Str → Option Value} : R2D K mg (rAddU K) dAddA := fun S H x y dx dy Q z t p q e k => by
  have key : ∀ {a1 b1 : Addr} {vs ws : List V} {ds es : List D}, x = .ref a1 → y = .ref b1 → SqT K H a1 vs → SqT K H b1 ws → Reps K mg S H vs ds → Reps K mg S H ws es → ds ≠ [] → es ≠ [] → ds.length + es.length ≤ 16000000 → Res1 K mg S H (.val (.tup (ds ++ es))) Q → rAddU K x y H Q := fun {a1 b1 vs ws ds es} ex ey h1 h2 r1 r2 n1 n2 hl k => by
    have l1 := r1.len
    have l2 := r2.len
    refine .inr (.inl ⟨a1, b1, vs, ws, ex, ey, h1, h2, by rw [sizeLine_eq]; omega, fun e0 => ?_, fun _ e0 => ?_, fun _ _ p hp => k.newT t hp (by rw [List.length_append, sizeLine_eq]; omega) (r1.app r2)⟩)
    · subst e0
      exact absurd (List.eq_nil_of_length_eq_zero l1.symm) n1
    · subst e0
      exact absurd (List.eq_nil_of_length_eq_zero l2.symm) n2
  unfold dAddA at e
  split at e
  · obtain ⟨⟨c1, c2, c3⟩, rfl⟩ := if_ok e
    obtain ⟨a1, rfl, h1, _⟩ := p.tplT
    obtain ⟨b1, ws, rfl, h2, z2, r2⟩ := q.sqT
    exact key rfl rfl h1 h2 (Reps.ints _) r2 (fun w => c1 (List.map_eq_nil_iff.mp w)) c2 (by simpa using c3) k
  · obtain ⟨⟨c1, c2, c3⟩, rfl⟩ := if_ok e
    obtain ⟨a1, ws, rfl, h1, z2, r1⟩ := p.sqT
    obtain ⟨b1, rfl, h2, _⟩ := q.tplT
    exact key rfl rfl h1 h2 r1 (Reps.ints _) c1 (fun w => c2 (List.map_eq_nil_iff.mp w)) (by simpa using c3) k
  · obtain ⟨⟨c1, c2, c3⟩, rfl⟩ := if_ok e
    obtain ⟨a1, rfl, h1, _⟩ := p.tplT
    obtain ⟨b1, rfl, h2, _⟩ := q.tplT
    exact key rfl rfl h1 h2 (Reps.ints _) (Reps.ints _) (fun w => c1 (List.map_eq_nil_iff.mp w)) (fun w => c2 (List.map_eq_nil_iff.mp w)) (by simpa using c3) k
  · exact d_add S H x y dx dy Q z t p q e k
@[simp] theorem dAddA_ii (i j : Int) : dAddA (.int i) (.int j) = .ok (.val (.int (i + j))) := rfl
def bSumA : List D → Rs VD
  | [.tpl ns] => .ok (.val (.int ns.sum))
  | ds => bSum ds
theorem q_suma : QuietN bSumA := fun ds => by
  unfold bSumA
  split <;> first | exact quiet_v | exact q_sum _
theorem d_suma {K : PySem.W.Frag} {mg : PySem.Str → Option Value} : RnD K mg (rSumA K) bSumA := fun S H xs ds Q z t hp e k => by
  unfold bSumA at e
  split at e
  · cases e
    obtain ⟨x, rfl, p⟩ := topv1 hp
    obtain ⟨a, rfl, h1, z1⟩ := p.tplT
    exact ⟨a, _, rfl, .inr h1, k.pure (.int _)⟩
  · exact d_sum S H xs ds Q z t hp e k
/-- xs[::-1] -/
def dRvA : D → Rs VD
  | .tpl ns => .ok (.val (.tup (ns.map D.int).reverse))
  | d => dRv d
theorem se_rvA {X : Cx} {C : FC} {a : Expr} {f : DE} {k : Nat} {p1 p2 p3 pos : Pos} (ha : SE X C a f) : SE X C (.Subscript a (.Slice none none (some (.UnaryOp .USub (.Constant (.int 1) k p1) p2)) p3) pos) (eUn dRvA f) := by
  refine pe_imp (pe_or (pe_revL ha) (pe_revTt ha)) ?_
  rintro σ H Q ⟨ρ, T, h, P⟩
  rcases runs_dt P with ⟨d, T', ed, P1⟩ | ⟨c, fs, t, r2, ex⟩
  · cases d with
    | lst ds =>
      refine .inl ⟨ρ, T, h, gv_dtE h P fun d2 T2 v H1 ed2 h1 e1 p P3 => ?_⟩
      obtain rfl := ok_eq ed ed2
      obtain ⟨a, vs, rfl, h4, z1, r⟩ := p.top.sqL
      have P4 : GV X.K X.mg C ρ σ H Q (.own (.lst ds.reverse), T2) := P3
      exact ⟨a, vs, rfl, .of h4, fun q hq => (gv_res h1 (gv_from h1 e1 P4) fun _ q => nomatch q).newL hq (by rw [List.length_reverse]; exact z1) r.reverse⟩
    | tup ds =>
      refine .inr ⟨ρ, T, h, gv_dtE h P fun d2 T2 v H1 ed2 h1 e1 p P3 => ?_⟩
      obtain rfl := ok_eq ed ed2
      obtain ⟨a, vs, rfl, h4, z1, r⟩ := p.top.sqT
      have P4 : GV X.K X.mg C ρ σ H Q (.val (.tup ds.reverse), T2) := P3
      exact ⟨a, vs, rfl, h4, fun q hq => (gv_res h1 (gv_from h1 e1 P4) fun _ q => nomatch q).newT h1.trk hq (by rw [List.length_reverse]; exact z1) r.reverse⟩
    | tpl ns =>
      refine .inr ⟨ρ, T, h, gv_dtE h P fun d2 T2 v H1 ed2 h1 e1 p P3 => ?_⟩
      obtain rfl := ok_eq ed ed2
      obtain ⟨a, rfl, h4, z1⟩ := p.top.tplT
      have P4 : GV X.K X.mg C ρ σ H Q (.val (.tup (ns.map D.int).reverse), T2) := P3
      exact ⟨a, _, rfl, h4, fun q hq => (gv_res h1 (gv_from h1 e1 P4) fun _ q => nomatch q).newT h1.trk hq (by rw [List.length_reverse, List.length_map]; exact z1) (Reps.ints ns).reverse⟩
    | _ => exact (show False from P1).elim
  · refine .inl ⟨ρ, T, h, ?_⟩
    unfold eUn at P
    rw [ex] at P ⊢
    exact P
end Pu
namespace Pu
open PySem L2 PySem.Spec PyProof.Rows

/-! # a tuple of whole numbers that is known, and some more: known again -/
def rCatP (K : PySem.W.Frag) : R2 := fun x y H Q => ∃ (a b : Addr) (xs ys : List V), x = .ref a ∧ y = .ref b ∧ SqT K H a xs ∧ SqT K H b ys ∧ xs ≠ [] ∧ ys ≠ [] ∧ xs.length + ys.length ≤ sizeLine ∧ ∀ p o, H p = none → o.cls = .type "tuple" → o.dict = none → Q (.ref p) (L2.upd H p (.frz o (.tup (xs ++ ys))))
theorem op_catP {X : Cx} : OpR X (binaryOp .Add) (rCatP X.K) := by
  intro pins s σ H x y v u Q I rx ry h
  obtain ⟨a, b, xs, ys, rfl, rfl, ha, hb, hx, hy, hz, q⟩ := h
  cases rx
  cases ry
  obtain ⟨its, r1, p1, _⟩ := I.tuple ha
  obtain ⟨its2, r2, p2, _⟩ := I.tuple hb
  refine HT.cat_tup p1 p2 (fun z => hx (r1.nil_iff.mp z)) (fun z => absurd (r2.nil_iff.mp z) hy) (fun z => ?_) (by rw [← r1.length, ← r2.length]; exact hz)
  refine ⟨.ref s.heap.objs.size, _, I.laid (t' := s.toks) (o := .frz { cls := Value.type "tuple", data := Data.seq (its ++ its2).toArray } (.tup (xs ++ ys))) (fun b ob q => Heap.get?_push_of_some _ q) (Nat.le_refl _) ?_, rfl, q _ _ (I.hok.fresh (Nat.le_refl _)) ?_ ?_⟩
  · exact ⟨Heap.get?_push_size s.heap rfl, by rw [List.length_append]; exact hz, _, r1.append r2, IsTup.new _ _⟩
  · rfl
  · rfl
def dAddT : D → D → Rs VD
  | .tpl a, .tup b => (rO (nums b)).bind fun ys => if a ≠ [] ∧ ys ≠ [] ∧ a.length + ys.length ≤ 16000000 then .ok (.val (.tpl (a ++ ys))) else .stuck
  | _, _ => .stuck
theorem q_addt : Quiet2 dAddT := fun d e => by
  unfold dAddT
  split <;> first | exact quiet_r fun _ => quiet_if quiet_v quiet_s | exact quiet_s
theorem d_addt {K : PySem.W.Frag} {mg : PySem.Str → Option Value} : R2D K mg (rCatP K) dAddT := fun S H x y dx dy Q z t p q e k => by
  unfold dAddT at e
  split at e
  · obtain ⟨ys, en, e⟩ := o_ok e
    obtain ⟨⟨c1, c2, c3⟩, rfl⟩ := if_ok e
    obtain ⟨a1, rfl, h1, z1⟩ := p.tplT
    obtain ⟨b1, ws, rfl, h2, z2, r2⟩ := q.sqT
    rw [ints_eq en] at r2
    have ev := r2.ofInts
    subst ev
    refine ⟨a1, b1, _, _, rfl, rfl, h1, h2, fun w => c1 (List.map_eq_nil_iff.mp w), fun w => c2 (List.map_eq_nil_iff.mp w), by rw [sizeLine_eq]; simp; omega, fun p o hl o1 o2 => ?_⟩
    rw [← List.map_append]
    exact k _ _ (same_new hl) (.tpl (t.fresh hl) upd_same o1 o2 (by rw [sizeLine_eq]; simp; omega))
  · cases e
end Pu
namespace Pu
open PySem L2

/-! # list(range(n)) -/
def dLRg : D → Rs VD
  | .int n => if -8000000 ≤ n ∧ n ≤ 8000000 then .ok (.own (.lst (rngD 0 (n - 0).toNat))) else .stuck
  | _ => .stuck
theorem rg_reps {K : PySem.W.Frag} {mg : PySem.Str → Option Value} {S : Addr → Prop} {H : Hp} (n : Int) : Reps K mg S H (rgV 0 n) (rngD 0 (n - 0).toNat) := by
  have := Reps.ints (K := K) (mg := mg) (S := S) (H := H) ((List.range (n - 0).toNat).map fun (i : Nat) => (0 : Int) + (i : Nat))
  rw [List.map_map, List.map_map] at this
  exact this
theorem se_listR {X : Cx} {C : FC} {a : Expr} {f : DE} {p1 p2 p3 pos : Pos} (hc : X.calm = true) (hg1 : Gl X "list") (hm1 : X.mg "list" = none) (hg2 : Gl X "range") (hm2 : X.mg "range" = none) (ha : SE X C a f)
    (na : starEach [a] X.env = (false, eval a X.env) :: starEach [] X.env := by rfl) (na2 : starEach [Expr.Call (.Name "range" p2) [a] [] p3] X.env = (false, eval (Expr.Call (.Name "range" p2) [a] [] p3) X.env) :: starEach [] X.env := by rfl) :
    SE X C (.Call (.Name "list" p1) [.Call (.Name "range" p2) [a] [] p3] [] pos) (eUn dLRg f) := by
  refine pe_imp (pe_listRg hc hg1 hm1 (prg_1 hg2 hm2 ha na) na2) ?_
  rintro σ H Q ⟨ρ, T, h, P⟩
  refine ⟨ρ, T, h, gv_dtE h P fun d T2 v H1 ed h1 e1 p P3 => ?_⟩
  cases d with
  | int n =>
    have hv := p.top.int
    have P3 : PostG X.K X.mg C σ (GV X.K X.mg C ρ σ H Q) (lift (if -8000000 ≤ n ∧ n ≤ 8000000 then Rs.ok (VD.own (D.lst (rngD 0 (n - 0).toNat))) else Rs.stuck) T2) := P3
    by_cases c : -8000000 ≤ n ∧ n ≤ 8000000
    · rw [if_pos c] at P3
      have P4 : GV X.K X.mg C ρ σ H Q (.own (.lst (rngD 0 (n - 0).toNat)), T2) := P3
      refine ⟨n, hv, ⟨by omega, by omega, by omega, by omega, by omega⟩, fun q hq => ?_⟩
      exact (gv_res h1 (gv_from h1 e1 P4) fun _ q => nomatch q).newL hq (by rw [rgV_length, sizeLine_eq]; omega) (rg_reps n)
    · rw [if_neg c] at P3
      exact (show False from P3).elim
  | _ => exact (show False from P3).elim
end Pu
namespace Pu
open PySem L2 PySem.Spec PyProof.Rows

/-! # a written tuple of whole numbers, known -/
def tTupF (t : TA) : TE := fun σ H Q => t σ H fun xs H1 => xs.length ≤ sizeLine ∧ ∀ p o, H1 p = none → o.cls = .type "tuple" → o.dict = none → Q (.ref p) (L2.upd H1 p (.frz o (.tup xs)))
theorem pe_tupF {X : Cx} {es : List Expr} {t : TA} {pos : Pos} {x1 : Nat} (h : PA X es t) : PE X (.Tuple es x1 pos) (tTupF t) := by
  refine ⟨fun pins s σ H Q I hq => ?_⟩
  refine wpAny_Tuple_spliced (thn (h.run pos pins s σ H _ I hq) fun us s1 ⟨xs, H1, I1, r, z, q⟩ => ⟨by rw [← r.length]; exact z, ?_⟩)
  have hf : H1 s1.heap.objs.size = none := I1.hok.fresh (Nat.le_refl _)
  refine ⟨.ref s1.heap.objs.size, L2.upd H1 s1.heap.objs.size (.frz { cls := Value.type "tuple", data := Data.seq us.toArray } (.tup xs)), I1.laid (t' := s1.toks) (fun b u e => Heap.get?_push_of_some _ e) (Nat.le_refl _) ?_, rfl, q _ _ hf rfl rfl⟩
  exact ⟨Heap.get?_push_size _ rfl, z, us, r, IsTup.new _ _⟩
def eTpl (g : DA) : DE := fun r T => (g r T).bind fun p => (rO (nums p.1)).bind fun ns => if p.1.length ≤ 1000 then .ok (.val (.tpl ns), p.2) else .stuck
theorem se_tpl {X : Cx} {C : FC} {es : List Expr} {g : DA} {pos : Pos} {x1 : Nat} (h : SA X C es g) : SE X C (.Tuple es x1 pos) (eTpl g) := by
  refine pe_imp (pe_tupF h) ?_
  rintro σ H Q ⟨ρ, T, h, P⟩
  refine ⟨ρ, T, h, ga_bind P fun ds T' vs H1 h1 e1 p P1 => ?_⟩
  have P1 : PostG X.K X.mg C σ (GV X.K X.mg C ρ σ H Q) ((rO (nums ds)).bind fun ns => if ds.length ≤ 1000 then .ok (.val (.tpl ns), T') else .stuck) := P1
  cases en : nums ds with
  | none => rw [en] at P1; exact (show False from P1).elim
  | some ns =>
    rw [en] at P1
    obtain ⟨z, P2⟩ := postG_if (x := Rs.ok (VD.val (.tpl ns), T')) P1
    rw [ints_eq en] at p z
    have ev := p.ofInts
    subst ev
    have z2 : (ns.map V.int).length ≤ sizeLine := k1000 (by simpa using z)
    exact ⟨z2, fun l o hl c1 c2 => (gv_res h1 (gv_from h1 e1 (show GV X.K X.mg C ρ σ H Q (.val (.tpl ns), T') from P2)) fun _ q => nomatch q) _ _ (same_new hl) (.tpl (h1.trk.fresh hl) upd_same c1 c2 (by simpa using z2))⟩
end Pu
namespace Pu
open PySem L2

/-! # for x in a list of one's own: if test: return e; the list stays one's own -/
def oSeq (i : Nat) : DI := fun r T => match r[i]? with
  | some (some (.own (.lst ds))) => .ok (ds, T)
  | _ => .stuck
theorem sRet_rt {f : DE} {r : Env} {T T' : Tp} {fl : Fl} (e : sRet f r T = .ok (fl, T')) : ∃ v, fl = .rt v := by
  unfold sRet at e
  cases q : f r T with
  | ok p =>
    rw [q] at e
    obtain ⟨v, T2⟩ := p
    cases v with
    | val d => cases e; exact ⟨_, rfl⟩
    | own d => cases e; exact ⟨_, rfl⟩
    | peek d => cases e
    | tape => cases e
  | exc c fs t r => rw [q] at e; cases e
  | stuck => rw [q] at e; cases e
theorem ss_forQ {X : Cx} {C : FC} {tg test rete : Expr} {g : DG} {c : DT} {f : DE} {x : Str} {pos ip rp np : Pos} (i : Nat) (hp : PassesOwn (model X.prog X.w) X.A X.env X.xe) (hc : X.calm = true) (hg : SG X tg g) (ht : ST X C test c) (hr : SE X C rete f)
    (hne : ∀ d m, g d = some m → ∀ p ∈ m, p.1 ≠ i) (hN : X.N[i]? = some x := by rfl) (hv : Vis X.env.scope x := by first | exact Or.inl rfl | exact Or.inr (Or.inl rfl) | exact Or.inr (Or.inr rfl))
    (hd : (x == ("__debug__" : Str)) = false := by decide) (hcd : (x == ("__classdict__" : Str)) = false := by decide)
    (hs : ∀ y, foldedSetIterable (.Name x np) X.env y = pure y := by intro _; rfl) : SSt X C (.For tg (.Name x np) [.If test [.Return (some rete) rp] [] ip] [] pos) (sFor (oSeq i) g (sIf c (sRet f) sPass)) := by
  have hb' := pss_one (ps_if (pos := ip) ht (sss_one (ss_ret (pos := rp) hr)) pss_nil)
  refine ps_imp (ps_for hp hc (pi_list (tg := tg) (pe_var hN hv hd hcd)) hg hb' hs) ?_
  rintro E σ H ⟨ρ, T, h, P⟩
  have P : PostS X.K X.mg C (GS X.K X.mg C E) ((oSeq i ρ T).bind fun p => forD g (sIf c (sRet f) sPass) p.1 ρ p.2) := P
  unfold oSeq at P
  cases eo : ρ[i]? with
  | none => rw [eo] at P; exact (show False from P).elim
  | some o =>
  cases o with
  | none => rw [eo] at P; exact (show False from P).elim
  | some w =>
  cases w with
  | val d => rw [eo] at P; exact (show False from P).elim
  | peek d => rw [eo] at P; exact (show False from P).elim
  | tape => rw [eo] at P; exact (show False from P).elim
  | own d =>
  cases d with
  | lst ds =>
    rw [eo] at P
    have P : PostS X.K X.mg C (GS X.K X.mg C E) (forD g (sIf c (sRet f) sPass) ds ρ T) := P
    obtain ⟨p, ep, ow, _⟩ := h.own i _ eo
    have hz : ∃ vs, SqL X.K H p vs ∧ ds.length ≤ sizeLine := by
      obtain ⟨b, vs, e, h2, z, q⟩ := (show Top X.K X.mg _ H (.ref p) (.lst ds) from .inr ⟨p, rfl, ow⟩).sqL
      cases e
      exact ⟨vs, .of h2, by rw [← q.len]; exact z⟩
    obtain ⟨vs0, hl0, hz⟩ := hz
    refine ⟨.ref p, ep, p, rfl, ⟨vs0, hl0⟩, ?_⟩
    refine ⟨fun j m σ H => ∃ r T, Holds X.K X.mg C Z0 r T σ H ∧ j ≤ ds.length ∧ m = ds.length - j ∧ r[i]? = some (some (.own (.lst ds))) ∧ σ[i]? = some (some (.ref p)) ∧ PostS X.K X.mg C (GS X.K X.mg C E) (forD g (sIf c (sRet f) sPass) (ds.drop j) r T), ⟨_, ρ, T, h, Nat.zero_le _, rfl, eo, ep, P⟩, ?_⟩
    rintro j m σ2 H2 ⟨r2, T2, h2, hj, rfl, eo2, ep2, P2⟩
    obtain ⟨p', ep', ow2, _⟩ := h2.own i _ eo2
    rw [ep2] at ep'
    cases ep'
    obtain ⟨ok1, ok2⟩ := (pin_list (K := X.K) (mg := X.mg) (a := p) hz).2 _ H2 h2.trk (fun w hw => by rw [List.mem_singleton.mp hw]; exact .inr ⟨p, rfl, ow2⟩) j
    by_cases hlt : j < ds.length
    · refine .inr ?_
      have ed : ds[j]? = some ds[j] := List.getElem?_eq_getElem hlt
      obtain ⟨go, yl⟩ := ok1 _ ed
      rw [List.drop_eq_getElem_cons hlt] at P2
      have P2 : PostS X.K X.mg C (GS X.K X.mg C E) ((rO (g ds[j])).bind fun m => (sIf c (sRet f) sPass (setE r2 m) T2).bind fun p => match p.1 with
        | .nx r' => forD g (sIf c (sRet f) sPass) (ds.drop (j + 1)) r' p.2
        | .ct r' => forD g (sIf c (sRet f) sPass) (ds.drop (j + 1)) r' p.2
        | .bk r' => .ok (.nx r', p.2)
        | .rt v => .ok (.rt v, p.2)) := P2
      refine ⟨go, fun σ' H' => ∃ r T, Holds X.K X.mg C Z0 r T σ' H' ∧ r[i]? = some (some (.own (.lst ds))) ∧ σ'[i]? = some (some (.ref p)) ∧ PostS X.K X.mg C (GS X.K X.mg C E) (forD g (sIf c (sRet f) sPass) (ds.drop (j + 1)) r T), fun σ' H' ⟨r, T, h', a1, a2, P'⟩ => ⟨ds.length - (j + 1), by omega, r, T, h', hlt, rfl, a1, a2, P'⟩, fun y H3 yy => ?_⟩
      obtain ⟨s3, p3⟩ := yl y H3 yy
      have h3 := h2.more s3
      cases q : g ds[j] with
      | none => rw [q] at P2; exact P2.elim
      | some mm =>
        rw [q] at P2
        have nm := hne _ _ q
        refine ⟨_, ds[j], mm, p3, q, fun l hl => ?_⟩
        have h4 : Holds X.K X.mg C Z0 (setE r2 mm) T2 (setV σ2 l) H3 := h3.setAll hl fun _ _ _ s => s
        have a1 : (setE r2 mm)[i]? = some (some (.own (.lst ds))) := by rw [setE_get mm r2 nm]; exact eo2
        have a2 : (setV σ2 l)[i]? = some (some (.ref p)) := by
          rw [setV_get l σ2 fun z hz => by obtain ⟨w, hw, e⟩ := hl.idx z hz; rw [← e]; exact nm w hw]
          exact ep2
        have P3 : PostS X.K X.mg C (GS X.K X.mg C E) (((c (setE r2 mm) T2).bind fun p => if p.1 = true then sRet f (setE r2 mm) p.2 else sPass (setE r2 mm) p.2).bind fun p => match p.1 with
          | .nx r' => forD g (sIf c (sRet f) sPass) (ds.drop (j + 1)) r' p.2
          | .ct r' => forD g (sIf c (sRet f) sPass) (ds.drop (j + 1)) r' p.2
          | .bk r' => .ok (.nx r', p.2)
          | .rt v => .ok (.rt v, p.2)) := P2
        refine ⟨setE r2 mm, T2, h4, (PostS.at P3.bind.bind).imp fun bp P4 => ?_⟩
        obtain ⟨b, T5⟩ := bp
        intro H5 h5 e5
        cases b with
        | true =>
          refine ⟨setE r2 mm, T5, h5, ?_⟩
          have P4 : PostS X.K X.mg C _ (sRet f (setE r2 mm) T5) := P4
          cases q5 : sRet f (setE r2 mm) T5 with
          | stuck => rw [q5] at P4; exact P4
          | exc cc fs t r => rw [q5] at P4; exact P4
          | ok w =>
            rw [q5] at P4
            obtain ⟨fl, T6⟩ := w
            obtain ⟨v, rfl⟩ := sRet_rt q5
            exact P4
        | false =>
          exact ⟨setE r2 mm, T5, h5, a1, a2, P4⟩
    · have e : j = ds.length := by omega
      subst e
      rw [List.drop_length] at P2
      exact .inl ⟨ok2 (Nat.le_refl _), P2 σ2 H2 h2⟩
  | _ => rw [eo] at P; exact (show False from P).elim
theorem gN_ne {i j : Nat} (h : j ≠ i) : ∀ d m, gN j d = some m → ∀ p ∈ m, p.1 ≠ i := fun d m e p hp => by
  cases e
  rw [List.mem_singleton.mp hp]
  exact h
end Pu
namespace Pu
open PySem L2

/-! # typed runs -/
inductive Rt (A : Type) where
  | ok (a : A) | exc (c : PySem.Str) (fs : List (PySem.Str × D)) | stuck
namespace Rt
variable {A B : Type}
def bind (x : Rt A) (f : A → Rt B) : Rt B := match x with
  | .ok a => f a
  | .exc c fs => .exc c fs
  | .stuck => .stuck
@[simp] theorem bind_ok (a : A) (f : A → Rt B) : (Rt.ok a).bind f = f a := rfl
@[simp] theorem bind_exc (c : PySem.Str) (fs : List (PySem.Str × D)) (f : A → Rt B) : (Rt.exc c fs).bind f = .exc c fs := rfl
@[simp] theorem bind_stuck (f : A → Rt B) : (Rt.stuck : Rt A).bind f = .stuck := rfl
end Rt
/-- what a typed run gives -/
def wr {A : Type} (x : Rt A) (Q : A → Prop) : Prop := ∃ a, x = .ok a ∧ Q a
section
variable {A B : Type} {Q R : A → Prop}
@[simp] theorem wr_ok (a : A) : wr (.ok a) Q ↔ Q a := ⟨fun ⟨b, e, q⟩ => by cases e; exact q, fun q => ⟨a, rfl, q⟩⟩
@[simp] theorem wr_stuck : wr (.stuck : Rt A) Q ↔ False := ⟨fun ⟨b, e, q⟩ => (nomatch e), fun q => q.elim⟩
@[simp] theorem wr_exc (c : PySem.Str) (fs : List (PySem.Str × D)) : wr (.exc c fs : Rt A) Q ↔ False := ⟨fun ⟨b, e, q⟩ => (nomatch e), fun q => q.elim⟩
@[simp] theorem wr_bind (x : Rt B) (f : B → Rt A) : wr (x.bind f) Q ↔ wr x fun b => wr (f b) Q := by
  cases x with
  | ok b => simp
  | exc c fs => simp
  | stuck => simp
theorem wr_imp {x : Rt A} (h : wr x Q) (i : ∀ a, Q a → R a) : wr x R := by
  obtain ⟨a, e, q⟩ := h
  exact ⟨a, e, i a q⟩
@[simp] theorem wr_ite {p : Prop} [Decidable p] (x y : Rt A) : wr (if p then x else y) Q ↔ (p → wr x Q) ∧ (¬ p → wr y Q) := by
  by_cases c : p <;> simp [c]
end
/-- the run x does what the typed run y tells -/
abbrev EX := Tp → Env → Prop
def Sim {A B : Type} (E : EX) (x : Rs A) (y : Rt B) (R : A → B → Prop) : Prop := match y with
  | .ok b => ∃ a, x = .ok a ∧ R a b
  | .exc c fs => ∃ t r, x = .exc c fs t r ∧ E t r
  | .stuck => True
abbrev ET : EX := fun _ _ => True
section
variable {A A' B B' : Type} {E E' : EX} {x : Rs A'} {y : Rt B'} {K : A' → Rs A} {z : B' → Rt B} {R : A → B → Prop} {R1 : A' → B' → Prop}
theorem Sim.bind (h : Sim E' x y R1) (he : ∀ t r, E' t r → E t r) (k : ∀ p b, R1 p b → Sim E (K p) (z b) R) : Sim E (x.bind K) (y.bind z) R := by
  cases y with
  | ok b =>
    obtain ⟨a, e, q⟩ := h
    rw [e]
    exact k a b q
  | exc c fs =>
    obtain ⟨t, r, e, q⟩ := h
    rw [e]
    exact ⟨t, r, rfl, he t r q⟩
  | stuck => trivial
theorem bind_id {A : Type} (x : Rs A) : x.bind Rs.ok = x := by cases x <;> rfl
theorem s_fin {a : A} {b : B} (h : R a b) : Sim E (.ok a) (.ok b) R := ⟨a, rfl, h⟩
theorem s_if {x : Rs A} {y1 y2 : Rt B} {b : Bool} (h1 : b = true → Sim E x y1 R) (h2 : b = false → Sim E x y2 R) : Sim E x (if b = true then y1 else y2) R := by
  cases b with
  | true => exact h1 rfl
  | false => exact h2 rfl
end

/-! ## slots -/
inductive PE where
  | any | free | is (v : VD)
abbrev Pat := List PE
abbrev iv (d : D) : PE := .is (.val d)
abbrev io (d : D) : PE := .is (.own d)
def PE.at : PE → Option VD → Prop
  | .any, _ => True
  | .free, x => (∀ d, x ≠ some (.own d)) ∧ x ≠ some .tape
  | .is v, x => x = some v
def Mat : Pat → Env → Prop
  | [], [] => True
  | p :: ps, x :: xs => p.at x ∧ Mat ps xs
  | _, _ => False
def patOf (r : Env) : Pat := r.map fun x => match x with
  | some v => .is v
  | none => .free
theorem mat_of : ∀ r : Env, Mat (patOf r) r
  | [] => trivial
  | none :: r => ⟨⟨fun d h => (nomatch h), fun h => (nomatch h)⟩, mat_of r⟩
  | some v :: r => ⟨rfl, mat_of r⟩
section
variable {p q : Pat} {r : Env} {v : VD} {d : D} {i : Nat}
theorem Mat.at' : ∀ {p : Pat} {r : Env} {i : Nat} {x : PE}, Mat p r → p[i]? = some x → ∃ y, r[i]? = some y ∧ x.at y
  | [], _, _, _, _, h => nomatch h
  | _ :: _, [], _, _, m, _ => m.elim
  | a :: p, b :: r, 0, x, m, h => by
    cases h
    exact ⟨b, rfl, m.1⟩
  | a :: p, b :: r, i + 1, x, m, h => by
    have := Mat.at' (i := i) m.2 (by simpa using h)
    simpa using this
theorem Mat.get (m : Mat p r) (h : p[i]? = some (.is v)) : r[i]? = some (some v) := by
  obtain ⟨y, e, q⟩ := m.at' h
  rw [e]
  exact congrArg some q
theorem Mat.setA : ∀ {p : Pat} {r : Env} (i : Nat) {x : PE} {y : Option VD}, Mat p r → x.at y → Mat (p.set i x) (r.set i y)
  | [], [], _, _, _, _, _ => trivial
  | [], _ :: _, _, _, _, m, _ => m.elim
  | _ :: _, [], _, _, _, m, _ => m.elim
  | a :: p, b :: r, 0, x, y, m, h => ⟨h, m.2⟩
  | a :: p, b :: r, i + 1, x, y, m, h => ⟨m.1, Mat.setA i m.2 h⟩
theorem Mat.set (m : Mat p r) (i : Nat) (v : VD) : Mat (p.set i (.is v)) (r.set i (some v)) := m.setA i rfl
inductive Wk : Pat → Pat → Prop
  | nil : Wk [] []
  | any {x : PE} {p q : Pat} : Wk p q → Wk (.any :: p) (x :: q)
  | keep {x : PE} {p q : Pat} : Wk p q → Wk (x :: p) (x :: q)
  | fv {d : D} {p q : Pat} : Wk p q → Wk (.free :: p) (.is (.val d) :: q)
  | eq {x y : PE} {p q : Pat} : x = y → Wk p q → Wk (x :: p) (y :: q)
theorem Mat.weak : ∀ {p q : Pat} {r : Env}, Wk p q → Mat q r → Mat p r
  | _, _, [], .nil, _ => trivial
  | _, _, _ :: _, .nil, m => m.elim
  | _, _, [], .any w, m => m.elim
  | _, _, [], .keep w, m => m.elim
  | _, _, [], .fv w, m => m.elim
  | _, _, [], .eq _ w, m => m.elim
  | _, _, _ :: _, .any w, m => ⟨trivial, Mat.weak w m.2⟩
  | _, _, _ :: _, .keep w, m => ⟨m.1, Mat.weak w m.2⟩
  | _, _, _ :: _, .eq e w, m => ⟨e ▸ m.1, Mat.weak w m.2⟩
  | _, _, _ :: _, .fv w, m => ⟨by
      have h := m.1
      unfold PE.at at h ⊢
      rw [h]
      exact ⟨fun d h => (nomatch h), fun h => (nomatch h)⟩, Mat.weak w m.2⟩
def setP (p : Pat) : List (Nat × D) → Pat
  | [] => p
  | (i, d) :: l => setP (p.set i (.is (.val d))) l
theorem Mat.setP : ∀ {l : List (Nat × D)} {p : Pat} {r : Env}, Mat p r → Mat (Pu.setP p l) (setE r l)
  | [], _, _, m => m
  | (i, d) :: l, _, _, m => Mat.setP (l := l) (m.set i (.val d))
def wipeP (p : Pat) : List Nat → Pat
  | [] => p
  | v :: vs => (wipeP p vs).set v .free
inductive Wips (p : Pat) : List Nat → Prop
  | nil : Wips p []
  | f {v : Nat} {vs : List Nat} : (wipeP p vs)[v]? = some .free → Wips p vs → Wips p (v :: vs)
  | v {v : Nat} {vs : List Nat} {d : D} : (wipeP p vs)[v]? = some (.is (.val d)) → Wips p vs → Wips p (v :: vs)
theorem wipe_ok (m : Mat p r) : ∀ {vs : List Nat}, Wips p vs → ∃ r0, wipeE r vs = some r0 ∧ Mat (wipeP p vs) r0
  | [], _ => ⟨r, rfl, m⟩
  | v :: vs, w => by
    have key : ∀ r0 : Env, wipeE r vs = some r0 → Mat (wipeP p vs) r0 → (∀ y, r0[v]? = some y → (∀ d, y ≠ some (.own d)) ∧ y ≠ some .tape) → ∃ r1, wipeE r (v :: vs) = some r1 ∧ Mat (wipeP p (v :: vs)) r1 := fun r0 e m0 h => by
      refine ⟨r0.set v none, ?_, m0.setA v ⟨fun d h => (nomatch h), fun h => (nomatch h)⟩⟩
      show ((wipeE r vs).bind fun r' => _) = _
      rw [e]
      show (match r0[v]? with
        | some (some (.own _)) => none
        | some (some .tape) => none
        | _ => some (r0.set v none)) = _
      split
      · rename_i q
        exact absurd rfl ((h _ q).1 _)
      · rename_i q
        exact absurd rfl (h _ q).2
      · rfl
    cases w with
    | f h w =>
      obtain ⟨r0, e, m0⟩ := wipe_ok m w
      obtain ⟨y, e1, a⟩ := m0.at' h
      refine key r0 e m0 fun y2 e2 => ?_
      rw [e1] at e2
      cases e2
      exact a
    | v h w =>
      obtain ⟨r0, e, m0⟩ := wipe_ok m w
      have e1 := m0.get h
      refine key r0 e m0 fun y2 e2 => ?_
      rw [e1] at e2
      cases e2
      exact ⟨fun d h => (nomatch h), fun h => (nomatch h)⟩
end

/-! ## what is worth something, and changes nothing -/
def Pur {B : Type} (f : Env → Tp → Rs (B × Tp)) (r : Env) (v : B) : Prop := ∀ T, f r T = .ok (v, T)
def Pd (f : DE) (r : Env) (d : D) : Prop := ∀ T, dt (f r T) = .ok (d, T)
def Pv (f : DE) (r : Env) (d : D) : Prop := ∀ T, dv (f r T) = .ok (d, T)
def cst (v : VD) : DE := fun _ T => .ok (v, T)
section
variable {f g h : DE} {c c' : DT} {ga : DA} {r : Env} {p : Pat} {d a b e : D} {v : VD} {i : Nat} {ds : List D}
theorem Pur.pd (h : Pur f r (.val d)) : Pd f r d := fun T => by rw [h T]; rfl
theorem Pur.pdO (h : Pur f r (.own d)) : Pd f r d := fun T => by rw [h T]; rfl
theorem Pur.pdP (h : Pur f r (.peek d)) : Pd f r d := fun T => by rw [h T]; rfl
theorem Pur.pv (h : Pur f r (.val d)) : Pv f r d := fun T => by rw [h T]; rfl
theorem Pur.pvO (h : Pur f r (.own d)) : Pv f r d := fun T => by rw [h T]; rfl
theorem q_cst : Pur (cst v) r v := fun _ => rfl
theorem q_var (m : Mat p r) (h : p[i]? = some (.is (.val d))) : Pur (eVar i) r (.val d) := fun T => by rw [eVar_ap, m.get h]; rfl
theorem q_varO (m : Mat p r) (h : p[i]? = some (.is (.own d))) : Pur (eVar i) r (.peek d) := fun T => by rw [eVar_ap, m.get h]; rfl
theorem q_c : Pur (eC d) r (.val d) := fun _ => rfl
theorem q_op {op : D → D → Rs VD} (hf : Pd f r a) (hg : Pd g r b) (ho : op a b = .ok v) : Pur (eOp op f g) r v := fun T => by
  rw [eOp_ap, hf T, Rs.bind_ok, hg T, Rs.bind_ok]
  show lift (op a b) T = _
  rw [ho]; rfl
theorem q_un {op : D → Rs VD} (hf : Pd f r a) (ho : op a = .ok v) : Pur (eUn op f) r v := fun T => by
  rw [eUn_ap, hf T, Rs.bind_ok]
  show lift (op a) T = _
  rw [ho]; rfl
theorem q_chain {op op' : D → D → Rs VD} {x y : Bool} (hf : Pd f r a) (hg : Pd g r b) (hh : Pd h r e) (ho : op a b = .ok (.val (.bl x))) (ho' : op' b e = .ok (.val (.bl y))) : Pur (eChain op op' f g h) r (.val (.bl (x && y))) := fun T => by
  rw [eChain_ap, hf T, Rs.bind_ok, hg T, Rs.bind_ok]
  show (op a b).bind _ = _
  rw [ho, Rs.bind_ok, chK_bl]
  cases x with
  | false => rfl
  | true =>
    rw [if_pos rfl, hh T, Rs.bind_ok]
    show lift (op' b e) T = _
    rw [ho']; rfl
theorem q_and {x y : Bool} (hf : Pv f r (.bl x)) (hg : x = true → Pur g r (.val (.bl y))) : Pur (eAnd f g) r (.val (.bl (x && y))) := fun T => by
  rw [eAnd_ap, hf T]
  cases x with
  | false => rfl
  | true => exact hg rfl T
theorem q_orE {x y : Bool} (hf : Pv f r (.bl x)) (hg : x = false → Pur g r (.val (.bl y))) : Pur (eOr f g) r (.val (.bl (x || y))) := fun T => by
  rw [eOr_ap, hf T]
  cases x with
  | true => rfl
  | false => exact hg rfl T
theorem q_not {x : Bool} (hf : Pv f r (.bl x)) : Pur (eNot f) r (.val (.bl !x)) := fun T => by rw [eNot_ap, hf T]; rfl
theorem q_if {x : Bool} {v w : VD} (hc : Pur c r x) (hf : x = true → Pur f r v) (hg : x = false → Pur g r w) : Pur (eIf c f g) r (if x = true then v else w) := fun T => by
  rw [eIf_ap, hc T]
  cases x with
  | true => exact hf rfl T
  | false => exact hg rfl T
theorem q_xb {x : Bool} (hf : Pv f r (.bl x)) : Pur (xB f) r x := fun T => by rw [xB_ap, hf T]; rfl
theorem q_xand {x y : Bool} (hf : Pur c r x) (hg : x = true → Pur c' r y) : Pur (xAnd c c') r (x && y) := fun T => by
  rw [xAnd_ap, hf T]
  cases x with
  | false => rfl
  | true => exact hg rfl T
theorem q_xor {x y : Bool} (hf : Pur c r x) (hg : x = false → Pur c' r y) : Pur (xOr c c') r (x || y) := fun T => by
  rw [xOr_ap, hf T]
  cases x with
  | true => rfl
  | false => exact hg rfl T
theorem q_xnot {x : Bool} (hf : Pur c r x) : Pur (xNot c) r (!x) := fun T => by rw [xNot_ap, hf T]; rfl
theorem q_yes : Pur xYes r true := fun _ => rfl
theorem q_nil : Pur aNil r [] := fun _ => rfl
theorem q_cons (hf : Pv f r d) (hg : Pur ga r ds) : Pur (aCons f ga) r (d :: ds) := fun T => by rw [aCons_ap, hf T, Rs.bind_ok, hg T]; rfl
theorem q_consT (hf : Pd f r d) (hg : Pur ga r ds) : Pur (aConsT f ga) r (d :: ds) := fun T => by rw [aConsT_ap, hf T, Rs.bind_ok, hg T]; rfl
theorem q_tup (hg : Pur ga r ds) (hl : Nat.ble ds.length 1000 = true) : Pur (eTup ga) r (.val (.tup ds)) := fun T => by
  rw [eTup_ap, hg T, Rs.bind_ok]
  show (if ds.length ≤ 1000 then _ else _) = _
  rw [if_pos (Nat.le_of_ble_eq_true hl)]
theorem q_lst (hg : Pur ga r ds) (hl : Nat.ble ds.length 1000 = true) : Pur (eLst ga) r (.own (.lst ds)) := fun T => by
  rw [eLst_ap, hg T, Rs.bind_ok]
  show (if ds.length ≤ 1000 then _ else _) = _
  rw [if_pos (Nat.le_of_ble_eq_true hl)]
theorem q_call {op : List D → Rs VD} (hg : Pur ga r ds) (ho : op ds = .ok v) : Pur (eCall op ga) r v := fun T => by
  rw [eCall_ap, hg T, Rs.bind_ok]
  show lift (op ds) T = _
  rw [ho]; rfl
theorem q_dct {t : Bool} : Pur (eDct t) r (.own (.dct t [])) := fun _ => rfl
theorem q_seqI (hf : Pv f r d) (hs : seqD d = .ok ds) : Pur (iSeq f) r ds := fun T => by
  rw [iSeq_ap, hf T, Rs.bind_ok]
  show ((seqD d).bind _) = _
  rw [hs]; rfl
theorem q_seqJ (hf : Pd f r d) (hs : seqD d = .ok ds) : Pur (jSeq f) r ds := fun T => by
  rw [jSeq_ap, hf T, Rs.bind_ok]
  show ((seqD d).bind _) = _
  rw [hs]; rfl
theorem q_enuI (hf : Pv f r d) (hs : seqD d = .ok ds) : Pur (iEnu f) r (enumD 0 ds) := fun T => by
  rw [iEnu_ap, hf T, Rs.bind_ok]
  show ((seqD d).bind _) = _
  rw [hs]; rfl
theorem q_enuJ (hf : Pd f r d) (hs : seqD d = .ok ds) : Pur (jEnu f) r (enumD 0 ds) := fun T => by
  rw [jEnu_ap, hf T, Rs.bind_ok]
  show ((seqD d).bind _) = _
  rw [hs]; rfl
theorem q_zipI {ds' : List D} (hf : Pv f r a) (hg : Pv g r b) (hs : zipR a b = .ok ds') : Pur (iZp f g) r ds' := fun T => by
  show ((dv (f r T)).bind fun p => (dv (g r p.2)).bind fun q => (zipR p.1 q.1).bind fun ds => .ok (ds, q.2)) = _
  rw [hf T, Rs.bind_ok]
  show ((dv (g r T)).bind _) = _
  rw [hg T, Rs.bind_ok]
  show ((zipR a b).bind _) = _
  rw [hs]; rfl
theorem q_zipJ {ds' : List D} (hf : Pd f r a) (hg : Pd g r b) (hs : zipR a b = .ok ds') : Pur (jZp f g) r ds' := fun T => by
  show ((dt (f r T)).bind fun p => (dt (g r p.2)).bind fun q => (zipR p.1 q.1).bind fun ds => .ok (ds, q.2)) = _
  rw [hf T, Rs.bind_ok]
  show ((dt (g r T)).bind _) = _
  rw [hg T, Rs.bind_ok]
  show ((zipR a b).bind _) = _
  rw [hs]; rfl
theorem q_rng {a b : D} {lo hi : Int} {ds : List D} (hg : Pur ga r ds) (h : argR ds = .ok (lo, hi)) (hb : -8000000 ≤ lo ∧ lo ≤ 8000000 ∧ -8000000 ≤ hi ∧ hi ≤ 8000000) : Pur (iRng ga) r (rngD lo (hi - lo).toNat) := fun T => by
  unfold iRng
  rw [hg T, Rs.bind_ok]
  show ((argR ds).bind _) = _
  rw [h, Rs.bind_ok, if_pos hb]
theorem q_sl {lo hi : Option DE} {lo' hi' : Option Int} (hf : Pd f r a) (h1 : ∀ T, partE lo r T = .ok (lo', T)) (h2 : ∀ T, partE hi r T = .ok (hi', T)) (ho : dSl a lo' hi' = .ok v) : Pur (eSl f lo hi) r v := fun T => by
  rw [eSl_ap, hf T, Rs.bind_ok, h1, Rs.bind_ok, h2, Rs.bind_ok]
  show lift (dSl a lo' hi') T = _
  rw [ho]; rfl
theorem q_pnone : ∀ T, partE none r T = .ok (none, T) := fun _ => rfl
theorem q_psome {i : Int} (hf : Pd f r (.int i)) : ∀ T, partE (some f) r T = .ok (some i, T) := fun T => by rw [partE_some, hf T]; rfl
theorem q_idxE (hf : Pd f r a) (hi : idxR a = .ok ()) (hg : Pd g r b) (ho : dIdx a b = .ok v) : Pur (eIdx f g) r v := fun T => by
  rw [eIdx_ap, hf T, Rs.bind_ok]
  show ((idxR a).bind _) = _
  rw [hi, Rs.bind_ok]
  show ((dt (g r T)).bind _) = _
  rw [hg T, Rs.bind_ok]
  show lift (dIdx a b) T = _
  rw [ho]; rfl
theorem q_get2 {x : D} (hf : Pd f r a) (hi : isDctR a = .ok ()) (hg : Pd g r b) (hh : Pv h r e) (ho : getK b e a = .ok x) : Pur (eGet2 f g h) r (.val x) := fun T => by
  rw [eGet2_ap, hf T, Rs.bind_ok]
  show ((isDctR a).bind _) = _
  rw [hi, Rs.bind_ok]
  show ((dt (g r T)).bind _) = _
  rw [hg T, Rs.bind_ok]
  show ((dv (h r T)).bind _) = _
  rw [hh T, Rs.bind_ok]
  show ((getK b e a).bind _) = _
  rw [ho]; rfl
theorem q_get1 {x : D} (hf : Pd f r a) (hi : isDctR a = .ok ()) (hg : Pd g r b) (ho : getK b .non a = .ok x) : Pur (eGet1 f g) r (.val x) := fun T => by
  rw [eGet1_ap, hf T, Rs.bind_ok]
  show ((isDctR a).bind _) = _
  rw [hi, Rs.bind_ok]
  show ((dt (g r T)).bind _) = _
  rw [hg T, Rs.bind_ok]
  show ((getK b .non a).bind _) = _
  rw [ho]; rfl
/-- x : Option, known to be there -/
theorem pd_un {A : Type} {e : Option A → D} {x : Option A} {x' : A} (hx : x = some x') (h : Pd f r (e x)) : Pd f r (e (some x')) := hx ▸ h
theorem pv_un {A : Type} {e : Option A → D} {x : Option A} {x' : A} (hx : x = some x') (h : Pv f r (e x)) : Pv f r (e (some x')) := hx ▸ h
end

/-! ## one part taken out, ahead of the rest -/
structure Plug {B : Type} (x : Env → Tp → Rs B) (f : DE) (x' : VD → Env → Tp → Rs B) (r : Env) : Prop where
  eq : ∀ {A : Type} (T : Tp) (K : B → Rs A), (x r T).bind K = (f r T).bind fun p => (x' p.1 r p.2).bind K
theorem Rs.assoc {A B C : Type} (x : Rs A) (f : A → Rs B) (g : B → Rs C) : (x.bind f).bind g = x.bind fun a => (f a).bind g := by cases x <;> rfl
section
variable {f g h k : DE} {c c' : DT} {ga gb : DA} {r : Env} {d a b e : D} {v : VD} {i : Nat} {ds : List D} {f' : VD → DE} {c2 : VD → DT} {ga' : VD → DA}
theorem plug_id : Plug f f cst r := .mk fun T K => rfl
theorem plug_dv (h : Plug f k f' r) {B A : Type} (T : Tp) (K : D × Tp → Rs B) (K2 : B → Rs A) : ((dv (f r T)).bind K).bind K2 = (k r T).bind fun p => ((dv (f' p.1 r p.2)).bind K).bind K2 := by
  unfold dv
  rw [Rs.assoc, Rs.assoc, h.eq T]
  congr 1
  funext p
  rw [Rs.assoc, Rs.assoc]
theorem plug_dt (h : Plug f k f' r) {B A : Type} (T : Tp) (K : D × Tp → Rs B) (K2 : B → Rs A) : ((dt (f r T)).bind K).bind K2 = (k r T).bind fun p => ((dt (f' p.1 r p.2)).bind K).bind K2 := by
  unfold dt
  rw [Rs.assoc, Rs.assoc, h.eq T]
  congr 1
  funext p
  rw [Rs.assoc, Rs.assoc]
theorem plug_op1 {op : D → D → Rs VD} (h : Plug f k f' r) : Plug (eOp op f g) k (fun v => eOp op (f' v) g) r := .mk fun T K => plug_dt h T _ K
theorem plug_op2 {op : D → D → Rs VD} (hf : Pd f r a) (h : Plug g k f' r) : Plug (eOp op f g) k (fun v => eOp op f (f' v)) r := .mk fun T K => by
  rw [eOp_ap, hf T, Rs.bind_ok, plug_dt h T]
  congr 1
  funext p
  show _ = Rs.bind (eOp op f (f' p.1) r p.2) K
  rw [eOp_ap, hf p.2, Rs.bind_ok]
theorem plug_un {op : D → Rs VD} (h : Plug f k f' r) : Plug (eUn op f) k (fun v => eUn op (f' v)) r := .mk fun T K => plug_dt h T _ K
theorem plug_ch1 {op op' : D → D → Rs VD} {h1 : DE} (h : Plug f k f' r) : Plug (eChain op op' f g h1) k (fun v => eChain op op' (f' v) g h1) r := .mk fun T K => plug_dt h T _ K
theorem plug_ch2 {op op' : D → D → Rs VD} {h1 : DE} (hf : Pd f r a) (h : Plug g k f' r) : Plug (eChain op op' f g h1) k (fun v => eChain op op' f (f' v) h1) r := .mk fun T K => by
  unfold eChain
  rw [hf T, Rs.bind_ok, plug_dt h T]
  congr 1
  funext p
  show _ = Rs.bind (eChain op op' f (f' p.1) h1 r p.2) K
  unfold eChain
  rw [hf p.2, Rs.bind_ok]
theorem plug_and (h : Plug f k f' r) : Plug (eAnd f g) k (fun v => eAnd (f' v) g) r := .mk fun T K => plug_dv h T _ K
theorem plug_or (h : Plug f k f' r) : Plug (eOr f g) k (fun v => eOr (f' v) g) r := .mk fun T K => plug_dv h T _ K
theorem plug_not (h : Plug f k f' r) : Plug (eNot f) k (fun v => eNot (f' v)) r := .mk fun T K => plug_dv h T _ K
theorem plug_xb (h : Plug f k f' r) : Plug (xB f) k (fun v => xB (f' v)) r := .mk fun T K => plug_dv h T _ K
theorem plug_xnot (h : Plug c k c2 r) : Plug (xNot c) k (fun v => xNot (c2 v)) r := .mk fun T K => by
  rw [xNot_ap, Rs.assoc, h.eq T]
  congr 1
  funext p
  show _ = Rs.bind (xNot (c2 p.1) r p.2) K
  rw [xNot_ap, Rs.assoc]
theorem plug_xand (h : Plug c k c2 r) : Plug (xAnd c c') k (fun v => xAnd (c2 v) c') r := .mk fun T K => by
  rw [xAnd_ap, Rs.assoc, h.eq T]
  congr 1
  funext p
  show _ = Rs.bind (xAnd (c2 p.1) c' r p.2) K
  rw [xAnd_ap, Rs.assoc]
theorem plug_xor (h : Plug c k c2 r) : Plug (xOr c c') k (fun v => xOr (c2 v) c') r := .mk fun T K => by
  rw [xOr_ap, Rs.assoc, h.eq T]
  congr 1
  funext p
  show _ = Rs.bind (xOr (c2 p.1) c' r p.2) K
  rw [xOr_ap, Rs.assoc]
theorem plug_if (h : Plug c k c2 r) : Plug (eIf c f g) k (fun v => eIf (c2 v) f g) r := .mk fun T K => by
  rw [eIf_ap, Rs.assoc, h.eq T]
  congr 1
  funext p
  show _ = Rs.bind (eIf (c2 p.1) f g r p.2) K
  rw [eIf_ap, Rs.assoc]
theorem plug_c1 (h : Plug f k f' r) : Plug (aCons f ga) k (fun v => aCons (f' v) ga) r := .mk fun T K => plug_dv h T _ K
theorem plug_t1 (h : Plug f k f' r) : Plug (aConsT f ga) k (fun v => aConsT (f' v) ga) r := .mk fun T K => plug_dt h T _ K
theorem plug_c2 (hf : Pv f r d) (h : Plug ga k ga' r) : Plug (aCons f ga) k (fun v => aCons f (ga' v)) r := .mk fun T K => by
  rw [aCons_ap, hf T, Rs.bind_ok, Rs.assoc, h.eq T]
  congr 1
  funext p
  show _ = Rs.bind (aCons f (ga' p.1) r p.2) K
  rw [aCons_ap, hf p.2, Rs.bind_ok, Rs.assoc]
theorem plug_t2 (hf : Pd f r d) (h : Plug ga k ga' r) : Plug (aConsT f ga) k (fun v => aConsT f (ga' v)) r := .mk fun T K => by
  rw [aConsT_ap, hf T, Rs.bind_ok, Rs.assoc, h.eq T]
  congr 1
  funext p
  show _ = Rs.bind (aConsT f (ga' p.1) r p.2) K
  rw [aConsT_ap, hf p.2, Rs.bind_ok, Rs.assoc]
theorem plug_ga {B : Type} {F : List D × Tp → Rs B} (h : Plug ga k ga' r) : Plug (fun r T => (ga r T).bind F) k (fun v r T => (ga' v r T).bind F) r := .mk fun T K => by
  rw [Rs.assoc, h.eq T]
  congr 1
  funext p
  show _ = Rs.bind ((ga' p.1 r p.2).bind F) K
  rw [Rs.assoc]
theorem plug_tup (h : Plug ga k ga' r) : Plug (eTup ga) k (fun v => eTup (ga' v)) r := plug_ga h
theorem plug_lst (h : Plug ga k ga' r) : Plug (eLst ga) k (fun v => eLst (ga' v)) r := plug_ga h
theorem plug_call {op : List D → Rs VD} (h : Plug ga k ga' r) : Plug (eCall op ga) k (fun v => eCall op (ga' v)) r := plug_ga h
theorem plug_def {n : Nat} {M : DM} (h : Plug ga k ga' r) : Plug (eDef n M ga) k (fun v => eDef n M (ga' v)) r := .mk fun T K => by
  simp only [eDef_ap]
  exact (plug_ga h).eq T K
theorem plug_defT {n : Nat} {M : DM} (ht : r[i]? = some (some .tape)) (h : Plug ga k ga' r) : Plug (eDefT i n M ga) k (fun v => eDefT i n M (ga' v)) r := .mk fun T K => by
  simp only [eDefT_ap, ht, tpK_tape]
  exact (plug_ga h).eq T K
theorem plug_seqI (h : Plug f k f' r) : Plug (iSeq f) k (fun v => iSeq (f' v)) r := .mk fun T K => plug_dv h T _ K
theorem plug_seqJ (h : Plug f k f' r) : Plug (jSeq f) k (fun v => jSeq (f' v)) r := .mk fun T K => plug_dt h T _ K
theorem plug_enuI (h : Plug f k f' r) : Plug (iEnu f) k (fun v => iEnu (f' v)) r := .mk fun T K => plug_dv h T _ K
theorem plug_enuJ (h : Plug f k f' r) : Plug (jEnu f) k (fun v => jEnu (f' v)) r := .mk fun T K => plug_dt h T _ K
theorem plug_zipI1 (h : Plug f k f' r) : Plug (iZp f g) k (fun v => iZp (f' v) g) r := .mk fun T K => plug_dv h T _ K
theorem plug_zipJ1 (h : Plug f k f' r) : Plug (jZp f g) k (fun v => jZp (f' v) g) r := .mk fun T K => plug_dt h T _ K
theorem plug_zipI2 (hf : Pv f r d) (h : Plug g k f' r) : Plug (iZp f g) k (fun v => iZp f (f' v)) r := .mk fun T K => by
  unfold iZp
  rw [hf T, Rs.bind_ok, plug_dv h T]
  congr 1
  funext p
  show _ = Rs.bind (iZp f (f' p.1) r p.2) K
  unfold iZp
  rw [hf p.2, Rs.bind_ok]
theorem plug_zipJ2 (hf : Pd f r d) (h : Plug g k f' r) : Plug (jZp f g) k (fun v => jZp f (f' v)) r := .mk fun T K => by
  unfold jZp
  rw [hf T, Rs.bind_ok, plug_dt h T]
  congr 1
  funext p
  show _ = Rs.bind (jZp f (f' p.1) r p.2) K
  unfold jZp
  rw [hf p.2, Rs.bind_ok]
theorem plug_rng (h : Plug ga k ga' r) : Plug (iRng ga) k (fun v => iRng (ga' v)) r := plug_ga h
theorem plug_down1 (h : Plug f k f' r) : Plug (iDwn f g) k (fun v => iDwn (f' v) g) r := .mk fun T K => plug_dt h T _ K
theorem plug_down2 (hf : Pd f r d) (h : Plug g k f' r) : Plug (iDwn f g) k (fun v => iDwn f (f' v)) r := .mk fun T K => by
  unfold iDwn
  rw [hf T, Rs.bind_ok, plug_dt h T]
  congr 1
  funext p
  show _ = Rs.bind (iDwn f (f' p.1) r p.2) K
  unfold iDwn
  rw [hf p.2, Rs.bind_ok]
theorem plug_lc {vs : List Nat} {it : DI} {it' : VD → DI} {gg : DG} (h : Plug it k it' r) : Plug (eLc vs it gg c f) k (fun v => eLc vs (it' v) gg c f) r := .mk fun T K => by
  rw [eLc_ap, Rs.assoc, h.eq T]
  congr 1
  funext p
  show _ = Rs.bind (eLc vs (it' p.1) gg c f r p.2) K
  rw [eLc_ap, Rs.assoc]
theorem plug_sl1 {lo hi : Option DE} (h : Plug f k f' r) : Plug (eSl f lo hi) k (fun v => eSl (f' v) lo hi) r := .mk fun T K => plug_dt h T _ K
theorem plug_sl2 {hi : Option DE} (hf : Pd f r a) (h : Plug g k f' r) : Plug (eSl f (some g) hi) k (fun v => eSl f (some (f' v)) hi) r := .mk fun T K => by
  rw [eSl_ap, hf T, Rs.bind_ok, partE_some, Rs.assoc, plug_dt h T]
  congr 1
  funext p
  show _ = Rs.bind (eSl f (some (f' p.1)) hi r p.2) K
  rw [eSl_ap, hf p.2, Rs.bind_ok, partE_some]
  simp only [Rs.assoc]
theorem plug_sl3 {lo : Option DE} {lo' : Option Int} (hf : Pd f r a) (h1 : ∀ T, partE lo r T = .ok (lo', T)) (h : Plug g k f' r) : Plug (eSl f lo (some g)) k (fun v => eSl f lo (some (f' v))) r := .mk fun T K => by
  rw [eSl_ap, hf T, Rs.bind_ok, h1, Rs.bind_ok, partE_some, Rs.assoc, plug_dt h T]
  congr 1
  funext p
  show _ = Rs.bind (eSl f lo (some (f' p.1)) r p.2) K
  rw [eSl_ap, hf p.2, Rs.bind_ok, h1, Rs.bind_ok, partE_some]
  simp only [Rs.assoc]
theorem plug_idx1 (h : Plug f k f' r) : Plug (eIdx f g) k (fun v => eIdx (f' v) g) r := .mk fun T K => plug_dt h T _ K
theorem plug_idx2 (hf : Pd f r a) (hi : idxR a = .ok ()) (h : Plug g k f' r) : Plug (eIdx f g) k (fun v => eIdx f (f' v)) r := .mk fun T K => by
  rw [eIdx_ap, hf T, Rs.bind_ok, hi, Rs.bind_ok, plug_dt h T]
  congr 1
  funext p
  show _ = Rs.bind (eIdx f (f' p.1) r p.2) K
  rw [eIdx_ap, hf p.2, Rs.bind_ok, hi, Rs.bind_ok]
theorem plug_meth1 {x m : PySem.Str} {n : Nat} {M : DM} (h : Plug f k f' r) : Plug (eMeth x m n M f ga) k (fun v => eMeth x m n M (f' v) ga) r := .mk fun T K => plug_dv h T _ K
theorem plug_meth2 {x m : PySem.Str} {n : Nat} {M : DM} (hf : Pv f r d) (hi : insD x m d = .ok d) (h : Plug ga k ga' r) : Plug (eMeth x m n M f ga) k (fun v => eMeth x m n M f (ga' v)) r := .mk fun T K => by
  unfold eMeth
  rw [hf T, Rs.bind_ok, hi, Rs.bind_ok, Rs.assoc, h.eq T]
  congr 1
  funext p
  show _ = Rs.bind (eMeth x m n M f (ga' p.1) r p.2) K
  unfold eMeth
  rw [hf p.2, Rs.bind_ok, hi, Rs.bind_ok, Rs.assoc]
theorem plug_make {x : PySem.Str} {n : Nat} {M : DM} (h : Plug ga k ga' r) : Plug (eMake x n M ga) k (fun v => eMake x n M (ga' v)) r := .mk fun T K => by
  unfold eMake
  exact (plug_ga h).eq T K
theorem plug_get1a (h : Plug f k f' r) : Plug (eGet1 f g) k (fun v => eGet1 (f' v) g) r := .mk fun T K => plug_dt h T _ K
theorem plug_get2a {h1 : DE} (h : Plug f k f' r) : Plug (eGet2 f g h1) k (fun v => eGet2 (f' v) g h1) r := .mk fun T K => plug_dt h T _ K
theorem plug_get1b (hf : Pd f r a) (hi : isDctR a = .ok ()) (h : Plug g k f' r) : Plug (eGet1 f g) k (fun v => eGet1 f (f' v)) r := .mk fun T K => by
  rw [eGet1_ap, hf T, Rs.bind_ok, hi, Rs.bind_ok, plug_dt h T]
  congr 1
  funext p
  show _ = Rs.bind (eGet1 f (f' p.1) r p.2) K
  rw [eGet1_ap, hf p.2, Rs.bind_ok, hi, Rs.bind_ok]
theorem plug_get2b {h1 : DE} (hf : Pd f r a) (hi : isDctR a = .ok ()) (h : Plug g k f' r) : Plug (eGet2 f g h1) k (fun v => eGet2 f (f' v) h1) r := .mk fun T K => by
  rw [eGet2_ap, hf T, Rs.bind_ok, hi, Rs.bind_ok, plug_dt h T]
  congr 1
  funext p
  show _ = Rs.bind (eGet2 f (f' p.1) h1 r p.2) K
  rw [eGet2_ap, hf p.2, Rs.bind_ok, hi, Rs.bind_ok]
end
end Pu
namespace Pu
open PySem L2
open Classical

/-! # typed forms -/
section
variable {A B S P : Type}
def noE (x : Rt A) : Rt A := match x with
  | .ok a => .ok a
  | _ => .stuck
@[simp] theorem noE_ok (a : A) : noE (.ok a) = .ok a := rfl
def forS : List A → S → (A → S → Rt S) → Rt S
  | [], s, _ => .ok s
  | x :: xs, s, f => (f x s).bind fun s => forS xs s f
/-- a pass that tells true is the last one -/
def forB : List A → S → (A → S → Rt (Bool × S)) → Rt S
  | [], s, _ => .ok s
  | x :: xs, s, f => (f x s).bind fun p => if p.1 = true then .ok p.2 else forB xs p.2 f
inductive Lp (S P : Type) where
  | nx (s : S) | bk (s : S) | rt (v : P)
def forR : List A → S → (A → S → Rt (Lp S P)) → Rt (S ⊕ P)
  | [], s, _ => .ok (.inl s)
  | x :: xs, s, f => (f x s).bind fun p => match p with
    | .nx s => forR xs s f
    | .bk s => .ok (.inl s)
    | .rt v => .ok (.inr v)
def whF' (c : S → Rt Bool) (f : S → Rt (Lp S P)) : Nat → S → Rt (S ⊕ P)
  | 0, _ => .stuck
  | n + 1, s => (c s).bind fun b => if b = true then (f s).bind fun p => (match p with
    | .nx s => whF' c f n s
    | .bk s => .ok (.inl s)
    | .rt v => .ok (.inr v)) else .ok (.inl s)
noncomputable def whR (c : S → Rt Bool) (f : S → Rt (Lp S P)) (s : S) : Rt (S ⊕ P) := if h : ∃ n, whF' c f n s ≠ .stuck then whF' c f (choose h) s else .stuck
noncomputable def whS (c : S → Rt Bool) (f : S → Rt S) (s : S) : Rt S := (whR (P := Empty) c (fun s => (f s).bind fun s => .ok (.nx s)) s).bind fun o => match o with
  | .inl s => .ok s
  | .inr v => nomatch v
def mapR (f : A → Rt B) : List A → Rt (List B)
  | [] => .ok []
  | x :: xs => (noE (f x)).bind fun y => (mapR f xs).bind fun ys => .ok (y :: ys)
def lcR (c : A → Rt Bool) (f : A → Rt B) : List A → Rt (List B)
  | [] => .ok []
  | x :: xs => (noE (c x)).bind fun b => if b = true then (noE (f x)).bind fun y => (lcR c f xs).bind fun ys => .ok (y :: ys) else lcR c f xs
def mapT (f : A → Tp → Rt (B × Tp)) : List A → Tp → Rt (List B × Tp)
  | [], T => .ok ([], T)
  | x :: xs, T => (noE (f x T)).bind fun y => (mapT f xs y.2).bind fun ys => .ok (y.1 :: ys.1, ys.2)
end

/-! ## whiles by a measure -/
section
variable {S P : Type} {c : S → Rt Bool} {f : S → Rt (Lp S P)}
theorem whF'_mono : ∀ (n m : Nat) (s : S), n ≤ m → whF' c f n s ≠ .stuck → whF' c f m s = whF' c f n s
  | 0, _, _, _, h => absurd rfl h
  | n + 1, 0, _, h, _ => absurd h (Nat.not_succ_le_zero n)
  | n + 1, m + 1, s, hl, h => by
    have hl := Nat.le_of_succ_le_succ hl
    unfold whF' at h ⊢
    cases e1 : c s with
    | stuck => rfl
    | exc _ _ => rfl
    | ok b =>
      rw [e1, Rt.bind_ok] at h
      simp only [Rt.bind_ok]
      by_cases hb : b = true
      · rw [if_pos hb] at h ⊢
        rw [if_pos hb]
        cases e2 : f s with
        | stuck => rfl
        | exc _ _ => rfl
        | ok p =>
          rw [e2, Rt.bind_ok] at h
          simp only [Rt.bind_ok]
          cases p with
          | nx s' => exact whF'_mono n m s' hl h
          | bk s' => rfl
          | rt v => rfl
      · rw [if_neg hb, if_neg hb]
theorem whR_at {n : Nat} {s : S} (h : whF' c f n s ≠ .stuck) : whR c f s = whF' c f n s := by
  have hh : ∃ n, whF' c f n s ≠ .stuck := ⟨n, h⟩
  unfold whR
  rw [dif_pos hh]
  rcases Nat.le_total n (choose hh) with q | q
  · exact whF'_mono _ _ s q h
  · exact (whF'_mono _ _ s q (choose_spec hh)).symm
theorem whR_ex {s : S} (h : whR c f s ≠ .stuck) : ∃ n, whF' c f n s = whR c f s ∧ whF' c f n s ≠ .stuck := by
  unfold whR at h ⊢
  by_cases hh : ∃ n, whF' c f n s ≠ .stuck
  · rw [dif_pos hh] at h ⊢
    exact ⟨choose hh, rfl, h⟩
  · rw [dif_neg hh] at h
    exact absurd rfl h
theorem wr_while {Q : S ⊕ P → Prop} (I : Nat → S → Prop) (hs : ∀ m s, I m s → wr (c s) fun b => (b = true → wr (f s) fun p => match p with
    | .nx s' => ∃ m', m' < m ∧ I m' s'
    | .bk s' => Q (.inl s')
    | .rt v => Q (.inr v)) ∧ (b = false → Q (.inl s))) (m : Nat) (s : S) (h : I m s) : wr (whR c f s) Q := by
  have go : ∀ (m : Nat) (s : S), I m s → wr (whF' c f (m + 1) s) Q := by
    intro m
    induction m using Nat.strongRecOn with
    | ind m ih =>
      intro s h
      obtain ⟨b, e1, q⟩ := hs m s h
      unfold whF'
      rw [e1, Rt.bind_ok]
      by_cases hb : b = true
      · have q := q.1 hb
        rw [if_pos hb]
        obtain ⟨p, e2, q⟩ := q
        rw [e2, Rt.bind_ok]
        cases p with
        | nx s' =>
          obtain ⟨m', lt, hI⟩ := q
          obtain ⟨a, ea, qa⟩ := ih m' lt s' hI
          refine ⟨a, ?_, qa⟩
          show whF' c f m s' = _
          rw [whF'_mono (m' + 1) m s' lt (by rw [ea]; intro z; cases z), ea]
        | bk s' => exact (wr_ok _).mpr q
        | rt v => exact (wr_ok _).mpr q
      · rw [if_neg hb]
        exact (wr_ok _).mpr (q.2 (by simpa using hb))
  obtain ⟨a, ea, qa⟩ := go m s h
  exact ⟨a, by rw [whR_at (n := m + 1) (by rw [ea]; intro z; cases z), ea], qa⟩
theorem wr_whS {c : S → Rt Bool} {f : S → Rt S} {Q : S → Prop} (I : Nat → S → Prop) (hs : ∀ m s, I m s → wr (c s) fun b => (b = true → wr (f s) fun s' => ∃ m', m' < m ∧ I m' s') ∧ (b = false → Q s)) (m : Nat) (s : S) (h : I m s) : wr (whS c f s) Q := by
  unfold whS
  rw [wr_bind]
  refine wr_while I (fun m s hI => wr_imp (hs m s hI) fun b h => ⟨fun hb => ?_, fun hb => (wr_ok _).mpr (h.2 hb)⟩) m s h
  rw [wr_bind]
  refine wr_imp (h.1 hb) fun s' q => (wr_ok _).mpr q
end

/-! ## for by what holds behind each pass -/
section
variable {A B S P : Type}
theorem wr_forS {Q : S → Prop} {f : A → S → Rt S} (I : Nat → S → Prop) : ∀ (xs : List A) (k : Nat) (s : S), I k s → (∀ i x s, xs[i]? = some x → I (k + i) s → wr (f x s) fun s' => I (k + i + 1) s') → (∀ s, I (k + xs.length) s → Q s) → wr (forS xs s f) Q
  | [], k, s, h, _, hq => (wr_ok _).mpr (hq s h)
  | x :: xs, k, s, h, hs, hq => by
    unfold forS
    rw [wr_bind]
    refine wr_imp (hs 0 x s rfl h) fun s' h' => wr_forS I xs (k + 1) s' h' (fun i y s2 hi h2 => ?_) fun s2 h2 => hq s2 ?_
    · have := hs (i + 1) y s2 (by simpa using hi) (by rw [show k + (i + 1) = k + 1 + i by omega]; exact h2)
      rw [show k + 1 + i + 1 = k + (i + 1) + 1 by omega]
      exact this
    · rw [List.length_cons, show k + (xs.length + 1) = k + 1 + xs.length by omega]
      exact h2
theorem wr_forB {Q : S → Prop} {f : A → S → Rt (Bool × S)} (I : Nat → S → Prop) : ∀ (xs : List A) (k : Nat) (s : S), I k s → (∀ i x s, xs[i]? = some x → I (k + i) s → wr (f x s) fun p => if p.1 = true then Q p.2 else I (k + i + 1) p.2) → (∀ s, I (k + xs.length) s → Q s) → wr (forB xs s f) Q
  | [], k, s, h, _, hq => (wr_ok _).mpr (hq s h)
  | x :: xs, k, s, h, hs, hq => by
    unfold forB
    rw [wr_bind]
    refine wr_imp (hs 0 x s rfl h) fun p h' => ?_
    by_cases hp : p.1 = true
    · rw [if_pos hp] at h' ⊢
      exact (wr_ok _).mpr h'
    · rw [if_neg hp] at h' ⊢
      refine wr_forB I xs (k + 1) p.2 h' (fun i y s2 hi h2 => ?_) fun s2 h2 => hq s2 ?_
      · have := hs (i + 1) y s2 (by simpa using hi) (by rw [show k + (i + 1) = k + 1 + i by omega]; exact h2)
        rw [show k + 1 + i + 1 = k + (i + 1) + 1 by omega]
        exact this
      · rw [List.length_cons, show k + (xs.length + 1) = k + 1 + xs.length by omega]
        exact h2
def lpQ (I : S → Prop) (Q : S ⊕ P → Prop) : Lp S P → Prop
  | .nx s => I s
  | .bk s => Q (.inl s)
  | .rt v => Q (.inr v)
@[simp] theorem lpQ_nx (I : S → Prop) (Q : S ⊕ P → Prop) (s : S) : lpQ I Q (.nx s) = I s := rfl
@[simp] theorem lpQ_bk (I : S → Prop) (Q : S ⊕ P → Prop) (s : S) : lpQ I Q (.bk s) = Q (.inl s) := rfl
@[simp] theorem lpQ_rt (I : S → Prop) (Q : S ⊕ P → Prop) (v : P) : lpQ I Q (.rt v) = Q (.inr v) := rfl
theorem wr_forR {Q : S ⊕ P → Prop} {f : A → S → Rt (Lp S P)} (I : Nat → S → Prop) : ∀ (xs : List A) (k : Nat) (s : S), I k s → (∀ i x s, xs[i]? = some x → I (k + i) s → wr (f x s) (lpQ (I (k + i + 1)) Q)) → (∀ s, I (k + xs.length) s → Q (.inl s)) → wr (forR xs s f) Q
  | [], k, s, h, _, hq => (wr_ok _).mpr (hq s h)
  | x :: xs, k, s, h, hs, hq => by
    unfold forR
    rw [wr_bind]
    refine wr_imp (hs 0 x s rfl h) fun p h' => ?_
    cases p with
    | bk s' => exact (wr_ok _).mpr h'
    | rt v => exact (wr_ok _).mpr h'
    | nx s' =>
      refine wr_forR I xs (k + 1) s' h' (fun i y s2 hi h2 => ?_) fun s2 h2 => hq s2 ?_
      · have := hs (i + 1) y s2 (by simpa using hi) (by rw [show k + (i + 1) = k + 1 + i by omega]; exact h2)
        rw [show k + 1 + i + 1 = k + (i + 1) + 1 by omega]
        exact this
      · rw [List.length_cons, show k + (xs.length + 1) = k + 1 + xs.length by omega]
        exact h2
/-- a body that never fails -/
theorem forS_ok {f : A → S → Rt S} {g : A → S → S} : ∀ (xs : List A) (s : S), (∀ x ∈ xs, ∀ s, f x s = .ok (g x s)) → forS xs s f = .ok (xs.foldl (fun s x => g x s) s)
  | [], _, _ => rfl
  | x :: xs, s, h => by
    unfold forS
    rw [h x List.mem_cons_self, Rt.bind_ok, forS_ok xs _ fun y hy => h y (List.mem_cons_of_mem _ hy)]
    rfl
theorem mapR_ok {f : A → Rt B} {g : A → B} : ∀ (xs : List A), (∀ x ∈ xs, f x = .ok (g x)) → mapR f xs = .ok (xs.map g)
  | [], _ => rfl
  | x :: xs, h => by
    unfold mapR
    rw [h x List.mem_cons_self, noE_ok, Rt.bind_ok, mapR_ok xs fun y hy => h y (List.mem_cons_of_mem _ hy)]
    rfl
theorem lcR_ok {c : A → Rt Bool} {d : A → Bool} {f : A → Rt B} {g : A → B} : ∀ (xs : List A), (∀ x ∈ xs, c x = .ok (d x)) → (∀ x ∈ xs, d x = true → f x = .ok (g x)) → lcR c f xs = .ok ((xs.filter d).map g)
  | [], _, _ => rfl
  | x :: xs, hc, hf => by
    unfold lcR
    rw [hc x List.mem_cons_self, noE_ok, Rt.bind_ok, lcR_ok xs (fun y hy => hc y (List.mem_cons_of_mem _ hy)) fun y hy => hf y (List.mem_cons_of_mem _ hy)]
    cases h : d x with
    | true => rw [if_pos rfl, hf x List.mem_cons_self h, noE_ok, Rt.bind_ok, Rt.bind_ok, List.filter_cons_of_pos h]; rfl
    | false => rw [if_neg (by decide), List.filter_cons_of_neg (by simp [h])]
theorem wr_noE {Q : A → Prop} {x : Rt A} : wr (noE x) Q ↔ wr x Q := by cases x <;> simp [noE]
theorem wr_mapT {f : A → Tp → Rt (B × Tp)} (I : Nat → List B → Tp → Prop) {Q : List B × Tp → Prop} : ∀ (xs : List A) (k : Nat) (acc : List B) (T : Tp), I k acc T → (∀ i x acc T, xs[i]? = some x → I (k + i) acc T → wr (f x T) fun y => I (k + i + 1) (acc ++ [y.1]) y.2) → (∀ ls T, I (k + xs.length) (acc ++ ls) T → Q (ls, T)) → wr (mapT f xs T) Q
  | [], k, acc, T, h, _, hq => (wr_ok _).mpr (hq [] T (by simpa using h))
  | x :: xs, k, acc, T, h, hs, hq => by
    unfold mapT
    rw [wr_bind, wr_noE]
    refine wr_imp (hs 0 x acc T rfl h) fun y h' => ?_
    rw [wr_bind]
    refine wr_imp (wr_mapT I (Q := fun p => Q (y.1 :: p.1, p.2)) xs (k + 1) (acc ++ [y.1]) y.2 h' (fun i z acc2 T2 hi h2 => ?_) fun ls T2 h2 => hq (y.1 :: ls) T2 ?_) fun p q => (wr_ok _).mpr q
    · have := hs (i + 1) z acc2 T2 (by simpa using hi) (by rw [show k + (i + 1) = k + 1 + i by omega]; exact h2)
      rw [show k + 1 + i + 1 = k + (i + 1) + 1 by omega]
      exact this
    · rw [List.length_cons, show k + (xs.length + 1) = k + 1 + xs.length by omega]
      simpa using h2
/-- each item has what P tells; mapT gives as many -/
theorem wr_mapT_all {f : A → Tp → Rt (B × Tp)} (It : Tp → Prop) (P : A → B → Prop) : ∀ (xs : List A) (T : Tp), It T → (∀ x ∈ xs, ∀ T, It T → wr (f x T) fun y => P x y.1 ∧ It y.2) → wr (mapT f xs T) fun (p : List B × Tp) => It p.2 ∧ p.1.length = xs.length ∧ ∀ (i : Nat) (x : A) (y : B), xs[i]? = some x → p.1[i]? = some y → P x y
  | [], T, h, _ => (wr_ok _).mpr ⟨h, rfl, fun i x y e => by simp at e⟩
  | x :: xs, T, h, hs => by
    unfold mapT
    rw [wr_bind, wr_noE]
    refine wr_imp (hs x List.mem_cons_self T h) fun y ⟨hp, h'⟩ => ?_
    rw [wr_bind]
    refine wr_imp (wr_mapT_all It P xs y.2 h' fun z hz => hs z (List.mem_cons_of_mem _ hz)) fun p ⟨q1, q2, q3⟩ => (wr_ok _).mpr ⟨q1, by simp [q2], fun i a b ha hb => ?_⟩
    cases i with
    | zero =>
      simp at ha hb
      subst ha hb
      exact hp
    | succ i => exact q3 i a b (by simpa using ha) (by simpa using hb)
end

/-! # the rules -/
def RL {S : Type} (P : S → Pat) (τ : S → Tp) : Fl × Tp → S → Prop := fun p s => ∃ r, p = (.nx r, τ s) ∧ Mat (P s) r
def RC {S : Type} (P : S → Pat) (τ : S → Tp) : Fl × Tp → S → Prop := fun p s => ∃ r, (p = (.nx r, τ s) ∨ p = (.ct r, τ s)) ∧ Mat (P s) r
def RB {S : Type} (P : S → Pat) (τ : S → Tp) : Fl × Tp → Bool × S → Prop := fun p s => ∃ r, ((s.1 = false ∧ (p = (.nx r, τ s.2) ∨ p = (.ct r, τ s.2))) ∨ (s.1 = true ∧ p = (.bk r, τ s.2))) ∧ Mat (P s.2) r
def RR {S V : Type} (P : S → Pat) (τ : S → Tp) (mk : V → VD) (tv : V → Tp) : Fl × Tp → Lp S V → Prop := fun p s => match s with
  | .nx s => ∃ r, (p = (.nx r, τ s) ∨ p = (.ct r, τ s)) ∧ Mat (P s) r
  | .bk s => ∃ r, p = (.bk r, τ s) ∧ Mat (P s) r
  | .rt v => p = (.rt (mk v), tv v)
def RV {V : Type} (mk : V → VD) : VD × Tp → V → Prop := fun p v => p.1 = mk v
def RT {V : Type} (mk : V → VD) : VD × Tp → V × Tp → Prop := fun p v => p = (mk v.1, v.2)
def kSeq {A : Type} (g : DS) (K : Fl × Tp → Rs A) : Fl × Tp → Rs A := fun p => (seqK g p).bind K
section
variable {A B V W S : Type} {E : EX} {K : Fl × Tp → Rs A} {y : Rt B} {R : A → B → Prop} {r : Env} {T : Tp} {p : Pat} {f g : DS} {e e' : DE} {i : Nat} {v : VD} {d : D}
theorem s_seq (h : Sim E ((f r T).bind (kSeq g K)) y R) : Sim E ((sSeq f g r T).bind K) y R := by
  rw [sSeq_ap, Rs.assoc]
  exact h
theorem s_next (h : Sim E ((g r T).bind K) y R) : Sim E (kSeq g K (.nx r, T)) y R := h
theorem s_pass (h : Sim E (K (.nx r, T)) y R) : Sim E ((sPass r T).bind K) y R := h
theorem s_brk (h : Sim E (K (.bk r, T)) y R) : Sim E ((sBrk r T).bind K) y R := h
theorem s_ct (h : Sim E (K (.ct r, T)) y R) : Sim E ((sCt r T).bind K) y R := h
theorem s_plug {x : DS} {k : DE} {x' : VD → DS} (hp : Plug x k x' r) (h : Sim E ((k r T).bind fun p => (x' p.1 r p.2).bind K) y R) : Sim E ((x r T).bind K) y R := by
  rw [hp.eq T K]
  exact h
theorem s_plugE {C : Type} {K : C → Rs A} {x : Env → Tp → Rs C} {k : DE} {x' : VD → Env → Tp → Rs C} (hp : Plug x k x' r) (h : Sim E ((k r T).bind fun p => (x' p.1 r p.2).bind K) y R) : Sim E ((x r T).bind K) y R := by
  rw [hp.eq T K]
  exact h
theorem s_asg (m : Mat p r) (hf : Pur e r v) (hv : ∀ r : Env, put r i v = .ok (r.set i (some v))) (k : ∀ r', Mat (p.set i (.is v)) r' → Sim E (K (.nx r', T)) y R) : Sim E ((sAsg i e r T).bind K) y R := by
  rw [sAsg_ap, hf T, Rs.bind_ok]
  show Sim E (((put r i v).bind _).bind K) y R
  rw [hv, Rs.bind_ok]
  exact k _ (m.set i v)
theorem s_asgG {tg : DG} {l : List (Nat × D)} (m : Mat p r) (hf : Pv e r d) (hg : tg d = some l) (k : ∀ r', Mat (setP p l) r' → Sim E (K (.nx r', T)) y R) : Sim E ((sAsgG tg e r T).bind K) y R := by
  rw [sAsgG_ap, hf T, Rs.bind_ok]
  show Sim E (((rO (tg d)).bind _).bind K) y R
  rw [hg]
  exact k _ m.setP
theorem s_drop (hf : Pd e r d) (k : Sim E (K (.nx r, T)) y R) : Sim E ((sDrop e r T).bind K) y R := by
  rw [sDrop_ap, hf T, Rs.bind_ok]
  exact k
theorem s_ret (hf : Pur e r v) (hv : ∀ T, retK (v, T) = .ok (.rt v, T)) (k : Sim E (K (.rt v, T)) y R) : Sim E ((sRet e r T).bind K) y R := by
  rw [sRet_ap, hf T, Rs.bind_ok, hv]
  exact k
theorem s_retV (m : Mat p r) (hi : p[i]? = some (.is v)) (hv : ∀ T, retVK T (some (some v)) = .ok (.rt v, T)) (k : Sim E (K (.rt v, T)) y R) : Sim E ((sRetV i r T).bind K) y R := by
  rw [sRetV_ap, m.get hi, hv]
  exact k
theorem s_retN (k : Sim E (K (.rt (.val .non), T)) y R) : Sim E ((sRetN r T).bind K) y R := k
theorem s_ifP {c : DT} {b : Bool} {y1 y2 : Rt B} (hc : Pur c r b) (h1 : b = true → Sim E ((f r T).bind K) y1 R) (h2 : b = false → Sim E ((g r T).bind K) y2 R) : Sim E ((sIf c f g r T).bind K) (if b = true then y1 else y2) R := by
  rw [sIf_ap, hc T, Rs.bind_ok]
  cases b with
  | true => exact h1 rfl
  | false => exact h2 rfl
/-- the same, the worth told as it will be -/
theorem s_ifX {c : DT} {b : Bool} (hc : Pur c r b) (h : Sim E ((if b = true then f r T else g r T).bind K) y R) : Sim E ((sIf c f g r T).bind K) y R := by
  rw [sIf_ap, hc T, Rs.bind_ok]
  exact h
theorem s_frzO (m : Mat p r) (hi : p[i]? = some (.is (.own d))) (k : ∀ r', Mat (p.set i (.is (.val d))) r' → Sim E ((g r' T).bind K) y R) : Sim E ((sFrz i g r T).bind K) y R := by
  rw [sFrz_ap, m.get hi, frzK_own]
  exact k _ (m.set i _)
theorem s_frzV (m : Mat p r) (hi : p[i]? = some (.is (.val d))) (k : Sim E ((g r T).bind K) y R) : Sim E ((sFrz i g r T).bind K) y R := by
  rw [sFrz_ap, m.get hi, frzK_val]
  exact k
theorem s_frzN (m : Mat p r) (hi : ∀ x, r[i]? = some x → frzK r i (some x) = r) (hj : frzK r i none = r) (k : Sim E ((g r T).bind K) y R) : Sim E ((sFrz i g r T).bind K) y R := by
  rw [sFrz_ap]
  cases h : r[i]? with
  | none => rw [hj]; exact k
  | some x => rw [hi x h]; exact k
theorem s_frzF (m : Mat p r) (hi : p[i]? = some .free) (k : Sim E ((g r T).bind K) y R) : Sim E ((sFrz i g r T).bind K) y R := by
  obtain ⟨x, e, a⟩ := m.at' hi
  rw [sFrz_ap, e]
  have : frzK r i (some x) = r := by
    unfold frzK
    split
    · rename_i q
      cases q
      exact absurd rfl (a.1 _)
    · rfl
  rw [this]
  exact k
theorem s_aug {op : D → D → Rs VD} {a : D} (m : Mat p r) (hi : p[i]? = some (.is (.val d))) (hf : Pd e r a) (ho : op d a = .ok v) (hv : ∀ r : Env, put r i v = .ok (r.set i (some v))) (k : ∀ r', Mat (p.set i (.is v)) r' → Sim E (K (.nx r', T)) y R) : Sim E ((sAug op i e r T).bind K) y R := by
  rw [sAug_ap, m.get hi, augK_val, hf T, Rs.bind_ok]
  show Sim E (((op d a).bind _).bind K) y R
  rw [ho, Rs.bind_ok, hv, Rs.bind_ok]
  exact k _ (m.set i v)
def Prim {A : Type} (x : Rs VD) (w : Rt A) (mk : A → VD) : Prop := ∀ a, w = .ok a → x = .ok (mk a)
def PrimO {A C : Type} (x : Option C) (w : Rt A) (mk : A → C) : Prop := ∀ a, w = .ok a → x = some (mk a)
def Quit {A : Type} (w : Rt A) : Prop := ∀ c fs, w ≠ .exc c fs
theorem Prim.go {K : VD → Rs A} {w : Rt V} {z : V → Rt B} {mk : V → VD} {x : Rs VD} (h : Prim x w mk) (q : Quit w) (k : ∀ a, w = .ok a → Sim E (K (mk a)) (z a) R) : Sim E (x.bind K) (w.bind z) R := by
  cases e : w with
  | ok a =>
    rw [h a e]
    exact k a e
  | exc c fs => exact absurd e (q c fs)
  | stuck => trivial
theorem PrimO.go {C : Type} {K : C → Rs A} {w : Rt V} {z : V → Rt B} {mk : V → C} {x : Option C} (h : PrimO x w mk) (q : Quit w) (k : ∀ a, w = .ok a → Sim E (K (mk a)) (z a) R) : Sim E ((rO x).bind K) (w.bind z) R := by
  cases e : w with
  | ok a =>
    rw [h a e]
    exact k a e
  | exc c fs => exact absurd e (q c fs)
  | stuck => trivial
theorem s_augM {op : D → D → Rs VD} {a : D} {w : Rt V} {z : V → Rt B} {mk : V → VD} (m : Mat p r) (hi : p[i]? = some (.is (.val d))) (hf : Pd e r a) (ho : Prim (op d a) w mk) (hq : Quit w) (hv : ∀ x (r : Env), put r i (mk x) = .ok (r.set i (some (mk x)))) (k : ∀ x r', Mat (p.set i (.is (mk x))) r' → Sim E (K (.nx r', T)) (z x) R) : Sim E ((sAug op i e r T).bind K) (w.bind z) R := by
  rw [sAug_ap, m.get hi, augK_val, hf T, Rs.bind_ok, Rs.assoc]
  refine ho.go hq fun x _ => ?_
  rw [hv, Rs.bind_ok]
  exact k x _ (m.set i _)
/-- x : Option, by what it is -/
def optR {A B : Type} (o : Option A) (y1 : Rt B) (y2 : A → Rt B) : Rt B := match o with
  | none => y1
  | some a => y2 a
@[simp] theorem optR_none {A B : Type} (y1 : Rt B) (y2 : A → Rt B) : optR none y1 y2 = y1 := rfl
@[simp] theorem optR_some {A B : Type} (a : A) (y1 : Rt B) (y2 : A → Rt B) : optR (some a) y1 y2 = y2 a := rfl
/-- x : Option, needed -/
def unO {A : Type} : Option A → Rt A
  | some a => .ok a
  | none => .stuck
@[simp] theorem unO_some {A : Type} (a : A) : unO (some a) = .ok a := rfl
@[simp] theorem unO_none {A : Type} : unO (none : Option A) = .stuck := rfl
theorem s_un {x : Rs A} {o : Option V} {z : V → Rt B} (k : ∀ a, o = some a → Sim E x (z a) R) : Sim E x ((unO o).bind z) R := by
  cases o with
  | some a => exact k a rfl
  | none => trivial
theorem s_opt {x : Rs A} {o : Option V} {y1 : Rt B} {y2 : V → Rt B} (k1 : o = none → Sim E x y1 R) (k2 : ∀ a, o = some a → Sim E x (y2 a) R) : Sim E x (optR o y1 y2) R := by
  cases o with
  | some a => exact k2 a rfl
  | none => exact k1 rfl
end
section
variable {A B V W : Type} {E : EX} {K : VD × Tp → Rs A} {R : A → B → Prop} {r : Env} {T : Tp} {p : Pat} {f g h : DE} {ga : DA} {i : Nat} {v : VD} {d a b : D} {ds : List D} {w : Rt V} {z : V → Rt B} {mk : V → VD}
/-- a call of a def -/
theorem h_def {n : Nat} {M : DM} (hg : Pur ga r ds) (hn : ds.length = n) (hM : Sim ET (M ds none) w (RV mk)) (hE : E T r) (k : ∀ x, Sim E (K (mk x, T)) (z x) R) : Sim E ((eDef n M ga r T).bind K) (w.bind z) R := by
  rw [eDef_ap, hg T, Rs.bind_ok]
  show Sim E ((if ds.length = n then defK T r (M ds none) else Rs.stuck).bind K) _ R
  rw [if_pos hn]
  cases w with
  | ok x =>
    obtain ⟨q, e, hq⟩ := hM
    rw [e]
    show Sim E (K (q.1, T)) _ R
    rw [show q.1 = mk x from hq]
    exact k x
  | exc c fs =>
    obtain ⟨t, r', e, _⟩ := hM
    rw [e]
    exact ⟨T, r, rfl, hE⟩
  | stuck => trivial
theorem h_defT {n : Nat} {M : DM} {w : Rt (V × Tp)} {z : V × Tp → Rt B} (ht : r[i]? = some (some .tape)) (hg : Pur ga r ds) (hn : ds.length + 1 = n) (hM : Sim ET (M ds T) w (RT mk)) (hE : ∀ T, E T r) (k : ∀ x : V × Tp, Sim E (K (mk x.1, x.2)) (z x) R) : Sim E ((eDefT i n M ga r T).bind K) (w.bind z) R := by
  rw [eDefT_ap, ht, tpK_tape, hg T, Rs.bind_ok]
  show Sim E ((if ds.length + 1 = n then defTK r (M ds T) else Rs.stuck).bind K) _ R
  rw [if_pos hn]
  cases w with
  | ok x =>
    obtain ⟨q, e, hq⟩ := hM
    rw [e]
    show Sim E (K q) _ R
    rw [show q = (mk x.1, x.2) from hq]
    exact k x
  | exc c fs =>
    obtain ⟨t, r', e, _⟩ := hM
    rw [e]
    exact ⟨t, r, rfl, hE t⟩
  | stuck => trivial
theorem h_meth {x m : PySem.Str} {n : Nat} {M : DM} (hf : Pv f r d) (hi : insD x m d = .ok d) (hg : Pur ga r ds) (hn : ds.length + 1 = n) (hM : Sim ET (M (d :: ds) none) w (RV mk)) (hE : E T r) (k : ∀ x, Sim E (K (mk x, T)) (z x) R) : Sim E ((eMeth x m n M f ga r T).bind K) (w.bind z) R := by
  unfold eMeth
  rw [hf T, Rs.bind_ok, hi, Rs.bind_ok, hg T, Rs.bind_ok]
  show Sim E ((if ds.length + 1 = n then _ else Rs.stuck).bind K) _ R
  rw [if_pos hn]
  cases w with
  | ok x =>
    obtain ⟨q, e, hq⟩ := hM
    rw [e]
    show Sim E (K (q.1, T)) _ R
    rw [show q.1 = mk x from hq]
    exact k x
  | exc c fs =>
    obtain ⟨t, r', e, _⟩ := hM
    rw [e]
    exact ⟨T, r, rfl, hE⟩
  | stuck => trivial
/-- what an __init__ gives -/
def RI (x : PySem.Str) (fs : V → List (PySem.Str × D)) : VD × Tp → V → Prop := fun p v => p = (.val .non, some (.ins x (fs v)))
theorem h_make {x : PySem.Str} {n : Nat} {M : DM} {fs : V → List (PySem.Str × D)} (hg : Pur ga r ds) (hn : ds.length + 1 = n) (hM : Sim ET (M ds (some (.ins x []))) w (RI x fs)) (hE : E T r) (k : ∀ o, Sim E (K (.own (.ins x (fs o)), T)) (z o) R) : Sim E ((eMake x n M ga r T).bind K) (w.bind z) R := by
  unfold eMake
  rw [hg T, Rs.bind_ok]
  show Sim E ((if ds.length + 1 = n then mkK T r (M ds (some (.ins x []))) else Rs.stuck).bind K) _ R
  rw [if_pos hn]
  cases w with
  | ok o =>
    obtain ⟨q, e, hq⟩ := hM
    rw [e, show q = _ from hq]
    exact k o
  | exc c fs =>
    obtain ⟨t, r', e, _⟩ := hM
    rw [e]
    exact ⟨T, r, rfl, hE⟩
  | stuck => trivial
/-- an operation that may fail -/
theorem h_op {op : D → D → Rs VD} (hf : Pd f r a) (hg : Pd g r b) (ho : Prim (op a b) w mk) (hq : Quit w) (k : ∀ x, Sim E (K (mk x, T)) (z x) R) : Sim E ((eOp op f g r T).bind K) (w.bind z) R := by
  rw [eOp_ap, hf T, Rs.bind_ok, hg T, Rs.bind_ok]
  show Sim E ((lift (op a b) T).bind K) _ R
  unfold lift
  rw [Rs.assoc]
  exact ho.go hq fun x _ => k x
theorem h_call {op : List D → Rs VD} (hg : Pur ga r ds) (ho : Prim (op ds) w mk) (hq : Quit w) (k : ∀ x, Sim E (K (mk x, T)) (z x) R) : Sim E ((eCall op ga r T).bind K) (w.bind z) R := by
  rw [eCall_ap, hg T, Rs.bind_ok]
  show Sim E ((lift (op ds) T).bind K) _ R
  unfold lift
  rw [Rs.assoc]
  exact ho.go hq fun x _ => k x
theorem h_idx (hf : Pd f r a) (hi : idxR a = .ok ()) (hg : Pd g r b) (ho : Prim (dIdx a b) w mk) (hq : Quit w) (k : ∀ x, Sim E (K (mk x, T)) (z x) R) : Sim E ((eIdx f g r T).bind K) (w.bind z) R := by
  rw [eIdx_ap, hf T, Rs.bind_ok]
  show Sim E (((idxR a).bind _).bind K) _ R
  rw [hi, Rs.bind_ok]
  show Sim E (((dt (g r T)).bind _).bind K) _ R
  rw [hg T, Rs.bind_ok]
  show Sim E ((lift (dIdx a b) T).bind K) _ R
  unfold lift
  rw [Rs.assoc]
  exact ho.go hq fun x _ => k x
/-- a conditional part -/
theorem h_if {c : DT} {bb : Bool} {y1 y2 : Rt V} (hc : Pur c r bb) (h1 : bb = true → Sim E ((f r T).bind Rs.ok) y1 (fun q x => q = (mk x, T))) (h2 : bb = false → Sim E ((g r T).bind Rs.ok) y2 (fun q x => q = (mk x, T))) (k : ∀ x, Sim E (K (mk x, T)) (z x) R) : Sim E ((eIf c f g r T).bind K) ((if bb = true then y1 else y2).bind z) R := by
  rw [eIf_ap, hc T, Rs.bind_ok]
  cases bb with
  | true =>
    refine Sim.bind (bind_id (f r T) ▸ h1 rfl) (fun _ _ h => h) fun q x hq => ?_
    rw [hq]
    exact k x
  | false =>
    refine Sim.bind (bind_id (g r T) ▸ h2 rfl) (fun _ _ h => h) fun q x hq => ?_
    rw [hq]
    exact k x
/-- .. with the tape -/
theorem h_ifT {c : DT} {bb : Bool} {y1 y2 : Rt (V × Tp)} {z : V × Tp → Rt B} (hc : Pur c r bb) (h1 : bb = true → Sim E ((f r T).bind Rs.ok) y1 (RT mk)) (h2 : bb = false → Sim E ((g r T).bind Rs.ok) y2 (RT mk)) (k : ∀ x : V × Tp, Sim E (K (mk x.1, x.2)) (z x) R) : Sim E ((eIf c f g r T).bind K) ((if bb = true then y1 else y2).bind z) R := by
  rw [eIf_ap, hc T, Rs.bind_ok]
  cases bb with
  | true =>
    refine Sim.bind (bind_id (f r T) ▸ h1 rfl) (fun _ _ h => h) fun q x hq => ?_
    rw [show q = _ from hq]
    exact k x
  | false =>
    refine Sim.bind (bind_id (g r T) ▸ h2 rfl) (fun _ _ h => h) fun q x hq => ?_
    rw [show q = _ from hq]
    exact k x
def mB : Bool → VD := fun b => .val (.bl b)
theorem h_and {x : Bool} {w : Rt Bool} {z : Bool → Rt B} (hf : Pv f r (.bl x)) (h1 : x = true → Sim E ((g r T).bind Rs.ok) w (fun q b => q = (mB b, T))) (k : ∀ b, Sim E (K (mB b, T)) (z b) R) : Sim E ((eAnd f g r T).bind K) ((if x = true then w else .ok false).bind z) R := by
  rw [eAnd_ap, hf T]
  cases x with
  | true =>
    refine Sim.bind (bind_id (g r T) ▸ h1 rfl) (fun _ _ h => h) fun q b hq => ?_
    rw [hq]
    exact k b
  | false => exact k false
theorem h_or {x : Bool} {w : Rt Bool} {z : Bool → Rt B} (hf : Pv f r (.bl x)) (h1 : x = false → Sim E ((g r T).bind Rs.ok) w (fun q b => q = (mB b, T))) (k : ∀ b, Sim E (K (mB b, T)) (z b) R) : Sim E ((eOr f g r T).bind K) ((if x = true then .ok true else w).bind z) R := by
  rw [eOr_ap, hf T]
  cases x with
  | false =>
    refine Sim.bind (bind_id (g r T) ▸ h1 rfl) (fun _ _ h => h) fun q b hq => ?_
    rw [hq]
    exact k b
  | true => exact k true
end
/-! tests with parts that may fail -/
section
variable {A B V : Type} {E : EX} {R : A → B → Prop} {r : Env} {T : Tp} {c c' : DT} {K : Bool × Tp → Rs A}
def RBo (T : Tp) : Bool × Tp → Bool → Prop := fun q b => q = (b, T)
def RBT : Bool × Tp → Bool × Tp → Prop := fun q b => q = b
theorem t_pure {C : Type} {K : C × Tp → Rs A} {f : Env → Tp → Rs (C × Tp)} {b : C} {y : Rt B} (hc : Pur f r b) (k : Sim E (K (b, T)) y R) : Sim E ((f r T).bind K) y R := by
  rw [hc T]
  exact k
theorem tt_and {x : Bool} {w : Rt Bool} {z : Bool → Rt B} (hc : Pur c r x) (h1 : x = true → Sim E ((c' r T).bind Rs.ok) w (RBo T)) (k : ∀ b, Sim E (K (b, T)) (z b) R) : Sim E ((xAnd c c' r T).bind K) ((if x = true then w else .ok false).bind z) R := by
  rw [xAnd_ap, hc T, Rs.bind_ok]
  cases x with
  | true =>
    refine Sim.bind (bind_id (c' r T) ▸ h1 rfl) (fun _ _ h => h) fun q b hq => ?_
    rw [show q = _ from hq]
    exact k b
  | false => exact k false
theorem tt_or {x : Bool} {w : Rt Bool} {z : Bool → Rt B} (hc : Pur c r x) (h1 : x = false → Sim E ((c' r T).bind Rs.ok) w (RBo T)) (k : ∀ b, Sim E (K (b, T)) (z b) R) : Sim E ((xOr c c' r T).bind K) ((if x = true then .ok true else w).bind z) R := by
  rw [xOr_ap, hc T, Rs.bind_ok]
  cases x with
  | false =>
    refine Sim.bind (bind_id (c' r T) ▸ h1 rfl) (fun _ _ h => h) fun q b hq => ?_
    rw [show q = _ from hq]
    exact k b
  | true => exact k true
theorem tt_andT {x : Bool} {w : Rt (Bool × Tp)} {z : Bool × Tp → Rt B} (hc : Pur c r x) (h1 : x = true → Sim E ((c' r T).bind Rs.ok) w RBT) (k : ∀ b : Bool × Tp, Sim E (K b) (z b) R) : Sim E ((xAnd c c' r T).bind K) ((if x = true then w else .ok (false, T)).bind z) R := by
  rw [xAnd_ap, hc T, Rs.bind_ok]
  cases x with
  | true =>
    refine Sim.bind (bind_id (c' r T) ▸ h1 rfl) (fun _ _ h => h) fun q b hq => ?_
    rw [show q = _ from hq]
    exact k b
  | false => exact k (false, T)
theorem tt_orT {x : Bool} {w : Rt (Bool × Tp)} {z : Bool × Tp → Rt B} (hc : Pur c r x) (h1 : x = false → Sim E ((c' r T).bind Rs.ok) w RBT) (k : ∀ b : Bool × Tp, Sim E (K b) (z b) R) : Sim E ((xOr c c' r T).bind K) ((if x = true then .ok (true, T) else w).bind z) R := by
  rw [xOr_ap, hc T, Rs.bind_ok]
  cases x with
  | false =>
    refine Sim.bind (bind_id (c' r T) ▸ h1 rfl) (fun _ _ h => h) fun q b hq => ?_
    rw [show q = _ from hq]
    exact k b
  | true => exact k (true, T)
theorem t_not {y : Rt B} (h : Sim E ((c r T).bind fun q => K (!q.1, q.2)) y R) : Sim E ((xNot c r T).bind K) y R := by
  rw [xNot_ap, Rs.assoc]
  exact h
theorem s_test {C : Type} {K : C → Rs A} {f g : Env → Tp → Rs C} {y : Rt B} (h : Sim E ((c r T).bind fun q => (if q.1 = true then f r q.2 else g r q.2).bind K) y R) : Sim E (((c r T).bind fun q => if q.1 = true then f r q.2 else g r q.2).bind K) y R := by
  rw [Rs.assoc]
  exact h
theorem s_sif {f g : DS} {K : Fl × Tp → Rs A} {y : Rt B} (h : Sim E ((c r T).bind fun q => (if q.1 = true then f r q.2 else g r q.2).bind K) y R) : Sim E ((sIf c f g r T).bind K) y R := s_test h
theorem s_ite {C : Type} {K : C → Rs A} {x1 x2 : Rs C} {b : Bool} {y1 y2 : Rt B} (h1 : b = true → Sim E (x1.bind K) y1 R) (h2 : b = false → Sim E (x2.bind K) y2 R) : Sim E ((if b = true then x1 else x2).bind K) (if b = true then y1 else y2) R := by
  cases b with
  | true => exact h1 rfl
  | false => exact h2 rfl
end
/-! comprehensions -/
section
variable {A A1 B V W : Type} {E : EX} {R : A1 → B → Prop} {K : VD × Tp → Rs A1} {r : Env} {T : Tp} {p : Pat} {it : DI} {gg : DG} {c : DT} {f : DE} {vs : List Nat} {xs : List A} {e : A → D} {ms : A → List (Nat × D)} {e' : V → D}
theorem Sim.noX {A B : Type} {x : Rs A} {y : Rt B} {R : A → B → Prop} {E E' : EX} (h : Sim E x y R) : Sim E' (Pu.noX x) (noE y) R := by
  cases y with
  | ok b =>
    obtain ⟨a, ea, q⟩ := h
    rw [ea]
    exact ⟨a, rfl, q⟩
  | exc c fs => trivial
  | stuck => trivial
theorem lc_pure {cond : A → Bool} {elt : A → V} {p' : Pat} (hg : ∀ x, gg (e x) = some (ms x)) (hc : ∀ x r, Mat (setP p' (ms x)) r → Pur c r (cond x)) (hf : ∀ x r, Mat (setP p' (ms x)) r → cond x = true → Pv f r (e' (elt x))) (m : Mat p' r) : ∀ xs : List A, lcD gg c f (xs.map e) r T = .ok (((xs.filter cond).map elt).map e', T)
  | [] => rfl
  | x :: xs => by
    have ih := lc_pure hg hc hf m xs
    rw [List.map_cons]
    unfold lcD
    rw [hg x]
    show ((Pu.noX (c (setE r (ms x)) T)).bind _) = _
    rw [hc x _ m.setP T, noX_ok, Rs.bind_ok]
    cases h : cond x with
    | true =>
      rw [if_pos rfl]
      show ((Pu.noX (dv (f (setE r (ms x)) T))).bind _) = _
      rw [hf x _ m.setP h T, noX_ok, Rs.bind_ok]
      show ((lcD gg c f (xs.map e) r T).bind _) = _
      rw [ih, List.filter_cons_of_pos h]
      rfl
    | false =>
      rw [if_neg (fun h => Bool.false_ne_true h), List.filter_cons_of_neg (by simp [h])]
      exact ih
theorem q_lcF {cond : A → Bool} {elt : A → V} (m : Mat p r) (hw : Wips p vs) (hi : Pur it r (xs.map e)) (hg : ∀ x, gg (e x) = some (ms x)) (hc : ∀ x r, Mat (setP (wipeP p vs) (ms x)) r → Pur c r (cond x)) (hf : ∀ x r, Mat (setP (wipeP p vs) (ms x)) r → cond x = true → Pv f r (e' (elt x))) : Pur (eLc vs it gg c f) r (.own (.lst (((xs.filter cond).map elt).map e'))) := fun T => by
  rw [eLc_ap, hi T, Rs.bind_ok]
  obtain ⟨r0, e0, m0⟩ := wipe_ok m hw
  rw [e0]
  show ((lcD gg c f (xs.map e) r0 T).bind _) = _
  rw [lc_pure hg hc hf m0]
  rfl
theorem filter_yes {A : Type} : ∀ xs : List A, xs.filter (fun _ => true) = xs
  | [] => rfl
  | x :: xs => by rw [List.filter_cons_of_pos rfl, filter_yes xs]
theorem q_lc {elt : A → V} (m : Mat p r) (hw : Wips p vs) (hi : Pur it r (xs.map e)) (hg : ∀ x, gg (e x) = some (ms x)) (hf : ∀ x r, Mat (setP (wipeP p vs) (ms x)) r → Pv f r (e' (elt x))) : Pur (eLc vs it gg xYes f) r (.own (.lst ((xs.map elt).map e'))) := by
  have := q_lcF (cond := fun _ => true) m hw hi hg (fun x r m => q_yes) (fun x r m _ => hf x r m)
  rwa [filter_yes] at this
theorem lc_sim {cond : A → Rt Bool} {elt : A → Rt V} {p' : Pat} (hg : ∀ x, gg (e x) = some (ms x)) (hc : ∀ x r, Mat (setP p' (ms x)) r → Sim ET ((c r T).bind Rs.ok) (cond x) (RBo T)) (hf : ∀ x r, Mat (setP p' (ms x)) r → Sim ET ((dv (f r T)).bind Rs.ok) (elt x) (fun q v => q = (e' v, T))) (m : Mat p' r) : ∀ xs : List A, Sim ET (lcD gg c f (xs.map e) r T) (lcR cond elt xs) (fun q l => q = (l.map e', T))
  | [] => ⟨_, rfl, rfl⟩
  | x :: xs => by
    have ih := lc_sim hg hc hf m xs
    rw [List.map_cons]
    unfold lcD lcR
    rw [hg x]
    show Sim ET ((Pu.noX (c (setE r (ms x)) T)).bind _) _ _
    have h1 := hc x _ m.setP
    rw [bind_id] at h1
    refine Sim.bind (Sim.noX (E' := ET) h1) (fun _ _ h => h) fun q b hq => ?_
    rw [show q = (b, T) from hq]
    cases b with
    | true =>
      rw [if_pos rfl, if_pos rfl]
      have h2 := hf x _ m.setP
      rw [bind_id] at h2
      refine Sim.bind (Sim.noX (E' := ET) h2) (fun _ _ h => h) fun q v hq => ?_
      rw [show q = _ from hq]
      refine Sim.bind ih (fun _ _ h => h) fun q l hq => ?_
      rw [show q = _ from hq]
      exact ⟨_, rfl, rfl⟩
    | false =>
      rw [if_neg (fun h => Bool.false_ne_true h), if_neg (fun h => Bool.false_ne_true h)]
      exact ih
theorem Sim.soft {A B : Type} {x : Rs A} {y : Rt B} {R : A → B → Prop} {E : EX} (h : Sim ET x y R) (q : Quit y) : Sim E x y R := by
  cases y with
  | ok b => exact h
  | exc c fs => exact absurd rfl (q c fs)
  | stuck => trivial
theorem quit_ok {A : Type} {a : A} : Quit (.ok a : Rt A) := fun c fs h => nomatch h
theorem quit_stuck {A : Type} : Quit (.stuck : Rt A) := fun c fs h => nomatch h
theorem quit_noE {A : Type} (x : Rt A) : Quit (noE x) := by
  cases x <;> intro c fs h <;> cases h
theorem quit_bind {A B : Type} {x : Rt A} {f : A → Rt B} (h : Quit x) (k : ∀ a, Quit (f a)) : Quit (x.bind f) := by
  cases x with
  | ok a => exact k a
  | exc c fs => exact absurd rfl (h c fs)
  | stuck => exact quit_stuck
theorem quit_if {A : Type} {p : Prop} [Decidable p] {x y : Rt A} (h : Quit x) (k : Quit y) : Quit (if p then x else y) := by
  by_cases c : p
  · rw [if_pos c]; exact h
  · rw [if_neg c]; exact k
theorem quit_lcR (cond : A → Rt Bool) (elt : A → Rt V) : ∀ xs, Quit (lcR cond elt xs)
  | [] => quit_ok
  | x :: xs => quit_bind (quit_noE _) fun b => quit_if (quit_bind (quit_noE _) fun y => quit_bind (quit_lcR cond elt xs) fun _ => quit_ok) (quit_lcR cond elt xs)
theorem quit_mapR (elt : A → Rt V) : ∀ xs, Quit (mapR elt xs)
  | [] => quit_ok
  | x :: xs => quit_bind (quit_noE _) fun y => quit_bind (quit_mapR elt xs) fun _ => quit_ok
theorem quit_mapT (elt : A → Tp → Rt (V × Tp)) : ∀ xs T, Quit (mapT elt xs T)
  | [], T => quit_ok
  | x :: xs, T => quit_bind (quit_noE _) fun y => quit_bind (quit_mapT elt xs _) fun _ => quit_ok
theorem h_lcF {cond : A → Rt Bool} {elt : A → Rt V} {z : List V → Rt B} (m : Mat p r) (hw : Wips p vs) (hi : Pur it r (xs.map e)) (hg : ∀ x, gg (e x) = some (ms x)) (hc : ∀ x r, Mat (setP (wipeP p vs) (ms x)) r → Sim ET ((c r T).bind Rs.ok) (cond x) (RBo T)) (hf : ∀ x r, Mat (setP (wipeP p vs) (ms x)) r → Sim ET ((dv (f r T)).bind Rs.ok) (elt x) (fun q v => q = (e' v, T))) (k : ∀ l, Sim E (K (.own (.lst (l.map e')), T)) (z l) R) : Sim E ((eLc vs it gg c f r T).bind K) ((lcR cond elt xs).bind z) R := by
  rw [eLc_ap, hi T, Rs.bind_ok]
  obtain ⟨r0, e0, m0⟩ := wipe_ok m hw
  rw [e0]
  show Sim E (((lcD gg c f (xs.map e) r0 T).bind _).bind K) _ R
  rw [Rs.assoc]
  refine Sim.bind (Sim.soft (E := E) (lc_sim hg hc hf m0 xs) (quit_lcR _ _ _)) (fun _ _ h => h) fun q l hq => ?_
  rw [show q = _ from hq]
  exact k l
theorem lcR_yes (elt : A → Rt V) : ∀ xs, lcR (fun _ => .ok true) elt xs = mapR elt xs
  | [] => rfl
  | x :: xs => by
    unfold lcR mapR
    rw [noE_ok, Rt.bind_ok, if_pos rfl, lcR_yes elt xs]
theorem h_lc {elt : A → Rt V} {z : List V → Rt B} (m : Mat p r) (hw : Wips p vs) (hi : Pur it r (xs.map e)) (hg : ∀ x, gg (e x) = some (ms x)) (hf : ∀ x r, Mat (setP (wipeP p vs) (ms x)) r → Sim ET ((dv (f r T)).bind Rs.ok) (elt x) (fun q v => q = (e' v, T))) (k : ∀ l, Sim E (K (.own (.lst (l.map e')), T)) (z l) R) : Sim E ((eLc vs it gg xYes f r T).bind K) ((mapR elt xs).bind z) R := by
  rw [← lcR_yes]
  exact h_lcF m hw hi hg (fun x r m => ⟨_, rfl, rfl⟩) hf k
theorem lcT_sim {elt : A → Tp → Rt (V × Tp)} {p' : Pat} (hg : ∀ x, gg (e x) = some (ms x)) (hf : ∀ x r T, Mat (setP p' (ms x)) r → Sim ET ((dv (f r T)).bind Rs.ok) (elt x T) (fun q v => q = (e' v.1, v.2))) (m : Mat p' r) : ∀ (xs : List A) (T : Tp), Sim ET (lcD gg xYes f (xs.map e) r T) (mapT elt xs T) (fun q l => q = (l.1.map e', l.2))
  | [], T => ⟨_, rfl, rfl⟩
  | x :: xs, T => by
    rw [List.map_cons]
    unfold lcD mapT
    rw [hg x]
    show Sim ET ((Pu.noX (dv (f (setE r (ms x)) T))).bind _) _ _
    have h2 := hf x _ T m.setP
    rw [bind_id] at h2
    refine Sim.bind (Sim.noX (E' := ET) h2) (fun _ _ h => h) fun q v hq => ?_
    rw [show q = _ from hq]
    refine Sim.bind (lcT_sim hg hf m xs v.2) (fun _ _ h => h) fun q l hq => ?_
    rw [show q = _ from hq]
    exact ⟨_, rfl, rfl⟩
theorem h_lcT {elt : A → Tp → Rt (V × Tp)} {z : List V × Tp → Rt B} (m : Mat p r) (hw : Wips p vs) (hi : Pur it r (xs.map e)) (hg : ∀ x, gg (e x) = some (ms x)) (hf : ∀ x r T, Mat (setP (wipeP p vs) (ms x)) r → Sim ET ((dv (f r T)).bind Rs.ok) (elt x T) (fun q v => q = (e' v.1, v.2))) (k : ∀ l : List V × Tp, Sim E (K (.own (.lst (l.1.map e')), l.2)) (z l) R) : Sim E ((eLc vs it gg xYes f r T).bind K) ((mapT elt xs T).bind z) R := by
  rw [eLc_ap, hi T, Rs.bind_ok]
  obtain ⟨r0, e0, m0⟩ := wipe_ok m hw
  rw [e0]
  show Sim E (((lcD gg xYes f (xs.map e) r0 T).bind _).bind K) _ R
  rw [Rs.assoc]
  refine Sim.bind (Sim.soft (E := E) (lcT_sim hg hf m0 xs T) (quit_mapT _ _ _)) (fun _ _ h => h) fun q l hq => ?_
  rw [show q = _ from hq]
  exact k l
/-- the end of an item -/
theorem e_fin {v : D} (hf : Pv f r v) {y : B} {R : D × Tp → B → Prop} (h : R (v, T) y) : Sim E ((dv (f r T)).bind Rs.ok) (.ok y) R := by
  rw [hf T]
  exact ⟨_, rfl, h⟩
theorem e_plug {k : DE} {f' : VD → DE} {y : Rt B} {R : D × Tp → B → Prop} (hp : Plug f k f' r) (h : Sim E ((k r T).bind fun q => (dv (f' q.1 r q.2)).bind Rs.ok) y R) : Sim E ((dv (f r T)).bind Rs.ok) y R := by
  have e := plug_dv hp T (Rs.ok (A := D × Tp)) (Rs.ok (A := D × Tp))
  simp only [bind_id] at e h ⊢
  rw [e]
  exact h
end
/-! loops -/
section
variable {A A1 B V S : Type} {E : EX} {R : A1 → B → Prop} {K : Fl × Tp → Rs A1} {r : Env} {T : Tp} {it : DI} {gg : DG} {w : DS} {xs : List A} {e : A → D} {ms : A → List (Nat × D)} {s0 : S} {P : S → Pat} {τ : S → Tp}
theorem forS_sim {yb : A → S → Rt S} (hg : ∀ x, gg (e x) = some (ms x)) (hb : ∀ x s r, Mat (setP (P s) (ms x)) r → Sim E ((w r (τ s)).bind Rs.ok) (yb x s) (RC P τ)) : ∀ (xs : List A) (s : S) (r : Env), Mat (P s) r → Sim E (forD gg w (xs.map e) r (τ s)) (forS xs s yb) (RL P τ)
  | [], s, r, m => ⟨_, rfl, r, rfl, m⟩
  | x :: xs, s, r, m => by
    rw [List.map_cons]
    unfold forD forS
    rw [hg x]
    show Sim E ((w (setE r (ms x)) (τ s)).bind _) _ _
    have h := hb x s _ m.setP
    rw [bind_id] at h
    refine Sim.bind h (fun _ _ h => h) fun q s' ⟨r', hq, m'⟩ => ?_
    rcases hq with rfl | rfl <;> exact forS_sim hg hb xs s' r' m'
theorem s_forS {yb : A → S → Rt S} {z : S → Rt B} (P : S → Pat) (τ : S → Tp) (s0 : S) (hT : τ s0 = T) (m : Mat (P s0) r) (hi : Pur it r (xs.map e)) (hg : ∀ x, gg (e x) = some (ms x)) (hb : ∀ x s r, Mat (setP (P s) (ms x)) r → Sim E ((w r (τ s)).bind Rs.ok) (yb x s) (RC P τ)) (k : ∀ s r, Mat (P s) r → Sim E (K (.nx r, τ s)) (z s) R) : Sim E ((sFor it gg w r T).bind K) ((forS xs s0 yb).bind z) R := by
  subst hT
  rw [sFor_ap, hi, Rs.bind_ok]
  refine Sim.bind (forS_sim hg hb xs s0 r m) (fun _ _ h => h) fun q s ⟨r', hq, m'⟩ => ?_
  rw [hq]
  exact k s r' m'
theorem forB_sim {yb : A → S → Rt (Bool × S)} (hg : ∀ x, gg (e x) = some (ms x)) (hb : ∀ x s r, Mat (setP (P s) (ms x)) r → Sim E ((w r (τ s)).bind Rs.ok) (yb x s) (RB P τ)) : ∀ (xs : List A) (s : S) (r : Env), Mat (P s) r → Sim E (forD gg w (xs.map e) r (τ s)) (forB xs s yb) (RL P τ)
  | [], s, r, m => ⟨_, rfl, r, rfl, m⟩
  | x :: xs, s, r, m => by
    rw [List.map_cons]
    unfold forD forB
    rw [hg x]
    show Sim E ((w (setE r (ms x)) (τ s)).bind _) _ _
    have h := hb x s _ m.setP
    rw [bind_id] at h
    refine Sim.bind h (fun _ _ h => h) fun q s' ⟨r', hq, m'⟩ => ?_
    rcases hq with ⟨hs, hq⟩ | ⟨hs, rfl⟩
    · rw [hs, if_neg (by decide)]
      rcases hq with rfl | rfl <;> exact forB_sim hg hb xs s'.2 r' m'
    · rw [hs, if_pos rfl]
      exact ⟨_, rfl, r', rfl, m'⟩
theorem s_forB {yb : A → S → Rt (Bool × S)} {z : S → Rt B} (P : S → Pat) (τ : S → Tp) (s0 : S) (hT : τ s0 = T) (m : Mat (P s0) r) (hi : Pur it r (xs.map e)) (hg : ∀ x, gg (e x) = some (ms x)) (hb : ∀ x s r, Mat (setP (P s) (ms x)) r → Sim E ((w r (τ s)).bind Rs.ok) (yb x s) (RB P τ)) (k : ∀ s r, Mat (P s) r → Sim E (K (.nx r, τ s)) (z s) R) : Sim E ((sFor it gg w r T).bind K) ((forB xs s0 yb).bind z) R := by
  subst hT
  rw [sFor_ap, hi, Rs.bind_ok]
  refine Sim.bind (forB_sim hg hb xs s0 r m) (fun _ _ h => h) fun q s ⟨r', hq, m'⟩ => ?_
  rw [hq]
  exact k s r' m'
def RS' (P : S → Pat) (τ : S → Tp) (mk : V → VD) (tv : V → Tp) : Fl × Tp → S ⊕ V → Prop := fun p s => match s with
  | .inl s => ∃ r, p = (.nx r, τ s) ∧ Mat (P s) r
  | .inr v => p = (.rt (mk v), tv v)
variable {mk : V → VD} {tv : V → Tp}
theorem forR_sim {yb : A → S → Rt (Lp S V)} (hg : ∀ x, gg (e x) = some (ms x)) (hb : ∀ x s r, Mat (setP (P s) (ms x)) r → Sim E ((w r (τ s)).bind Rs.ok) (yb x s) (RR P τ mk tv)) : ∀ (xs : List A) (s : S) (r : Env), Mat (P s) r → Sim E (forD gg w (xs.map e) r (τ s)) (forR xs s yb) (RS' P τ mk tv)
  | [], s, r, m => ⟨_, rfl, r, rfl, m⟩
  | x :: xs, s, r, m => by
    rw [List.map_cons]
    unfold forD forR
    rw [hg x]
    show Sim E ((w (setE r (ms x)) (τ s)).bind _) _ _
    have h := hb x s _ m.setP
    rw [bind_id] at h
    refine Sim.bind h (fun _ _ h => h) fun q s' hq => ?_
    cases s' with
    | nx s' =>
      obtain ⟨r', hq, m'⟩ := hq
      rcases hq with rfl | rfl <;> exact forR_sim hg hb xs s' r' m'
    | bk s' =>
      obtain ⟨r', rfl, m'⟩ := hq
      exact ⟨_, rfl, r', rfl, m'⟩
    | rt v =>
      have hq : q = _ := hq
      subst hq
      exact ⟨_, rfl, rfl⟩
theorem s_forR {yb : A → S → Rt (Lp S V)} {z : S ⊕ V → Rt B} (P : S → Pat) (τ : S → Tp) (s0 : S) (hT : τ s0 = T) (mk : V → VD) (tv : V → Tp) (m : Mat (P s0) r) (hi : Pur it r (xs.map e)) (hg : ∀ x, gg (e x) = some (ms x)) (hb : ∀ x s r, Mat (setP (P s) (ms x)) r → Sim E ((w r (τ s)).bind Rs.ok) (yb x s) (RR P τ mk tv)) (k : ∀ s r, Mat (P s) r → Sim E (K (.nx r, τ s)) (z (.inl s)) R) (kr : ∀ v, Sim E (K (.rt (mk v), tv v)) (z (.inr v)) R) : Sim E ((sFor it gg w r T).bind K) ((forR xs s0 yb).bind z) R := by
  subst hT
  rw [sFor_ap, hi, Rs.bind_ok]
  refine Sim.bind (forR_sim hg hb xs s0 r m) (fun _ _ h => h) fun q s hq => ?_
  cases s with
  | inl s =>
    obtain ⟨r', rfl, m'⟩ := hq
    exact k s r' m'
  | inr v =>
    rw [show q = _ from hq]
    exact kr v
theorem whR_sim {c : DT} {yc : S → Rt Bool} {yb : S → Rt (Lp S V)} (hc : ∀ s r, Mat (P s) r → Sim E ((c r (τ s)).bind Rs.ok) (yc s) (RBo (τ s))) (hb : ∀ s r, Mat (P s) r → Sim E ((w r (τ s)).bind Rs.ok) (yb s) (RR P τ mk tv)) : ∀ (n : Nat) (s : S) (r : Env), Mat (P s) r → Sim E (whF c w n r (τ s)) (whF' yc yb n s) (RS' P τ mk tv)
  | 0, s, r, m => trivial
  | n + 1, s, r, m => by
    unfold whF whF'
    have h := hc s r m
    rw [bind_id] at h
    refine Sim.bind h (fun _ _ h => h) fun q b hq => ?_
    rw [show q = _ from hq]
    cases b with
    | false =>
      rw [if_neg (fun h => Bool.false_ne_true h), if_neg (fun h => Bool.false_ne_true h)]
      exact ⟨_, rfl, r, rfl, m⟩
    | true =>
      rw [if_pos rfl, if_pos rfl]
      have h := hb s r m
      rw [bind_id] at h
      refine Sim.bind h (fun _ _ h => h) fun q s' hq => ?_
      cases s' with
      | nx s' =>
        obtain ⟨r', hq, m'⟩ := hq
        rcases hq with rfl | rfl <;> exact whR_sim hc hb n s' r' m'
      | bk s' =>
        obtain ⟨r', rfl, m'⟩ := hq
        exact ⟨_, rfl, r', rfl, m'⟩
      | rt v =>
        have hq : q = _ := hq
        subst hq
        exact ⟨_, rfl, rfl⟩
theorem whR_simS {c : DT} {yc : S → Rt Bool} {yb : S → Rt (Lp S V)} (hc : ∀ s r, Mat (P s) r → Sim E ((c r (τ s)).bind Rs.ok) (yc s) (RBo (τ s))) (hb : ∀ s r, Mat (P s) r → Sim E ((w r (τ s)).bind Rs.ok) (yb s) (RR P τ mk tv)) (s : S) (r : Env) (m : Mat (P s) r) : Sim E (sWhile c w r (τ s)) (whR yc yb s) (RS' P τ mk tv) := by
  by_cases hn : whR yc yb s = .stuck
  · rw [hn]
    trivial
  · obtain ⟨n, e1, e2⟩ := whR_ex hn
    have h := whR_sim hc hb n s r m
    rw [← e1]
    have ne : whF c w n r (τ s) ≠ .stuck := fun z => by
      rw [z] at h
      cases q : whF' yc yb n s with
      | stuck => exact e2 q
      | ok b =>
        rw [q] at h
        obtain ⟨_, e, _⟩ := h
        cases e
      | exc c fs =>
        rw [q] at h
        obtain ⟨_, _, e, _⟩ := h
        cases e
    rw [sWhile_at ne]
    exact h
theorem s_whR {c : DT} {yc : S → Rt Bool} {yb : S → Rt (Lp S V)} {z : S ⊕ V → Rt B} (P : S → Pat) (τ : S → Tp) (s0 : S) (hT : τ s0 = T) (mk : V → VD) (tv : V → Tp) (m : Mat (P s0) r) (hc : ∀ s r, Mat (P s) r → Sim E ((c r (τ s)).bind Rs.ok) (yc s) (RBo (τ s))) (hb : ∀ s r, Mat (P s) r → Sim E ((w r (τ s)).bind Rs.ok) (yb s) (RR P τ mk tv)) (k : ∀ s r, Mat (P s) r → Sim E (K (.nx r, τ s)) (z (.inl s)) R) (kr : ∀ v, Sim E (K (.rt (mk v), tv v)) (z (.inr v)) R) : Sim E ((sWhile c w r T).bind K) ((whR yc yb s0).bind z) R := by
  subst hT
  refine Sim.bind (whR_simS hc hb s0 r m) (fun _ _ h => h) fun q s hq => ?_
  cases s with
  | inl s =>
    obtain ⟨r', rfl, m'⟩ := hq
    exact k s r' m'
  | inr v =>
    rw [show q = _ from hq]
    exact kr v
theorem s_whS {c : DT} {yc : S → Rt Bool} {yb : S → Rt S} {z : S → Rt B} (P : S → Pat) (τ : S → Tp) (s0 : S) (hT : τ s0 = T) (m : Mat (P s0) r) (hc : ∀ s r, Mat (P s) r → Sim E ((c r (τ s)).bind Rs.ok) (yc s) (RBo (τ s))) (hb : ∀ s r, Mat (P s) r → Sim E ((w r (τ s)).bind Rs.ok) (yb s) (RC P τ)) (k : ∀ s r, Mat (P s) r → Sim E (K (.nx r, τ s)) (z s) R) : Sim E ((sWhile c w r T).bind K) ((whS yc yb s0).bind z) R := by
  subst hT
  unfold whS
  have h := whR_simS (V := Empty) (mk := fun v => nomatch v) (tv := fun v => nomatch v) (yb := fun s => (yb s).bind fun s => .ok (.nx s)) hc (fun s r m => by
    have h := hb s r m
    rw [bind_id] at h ⊢
    have := Sim.bind (K := Rs.ok) (z := fun s => .ok (.nx s)) (R := RR P τ (fun v : Empty => nomatch v) (fun v => nomatch v)) h (fun _ _ h => h) fun q s' ⟨r', hq, m'⟩ => ⟨_, rfl, r', hq, m'⟩
    rwa [bind_id] at this) s0 r m
  have assoc : ∀ {A B C : Type} (x : Rt A) (f : A → Rt B) (g : B → Rt C), (x.bind f).bind g = x.bind fun a => (f a).bind g := fun x f g => by cases x <;> rfl
  rw [assoc]
  refine Sim.bind h (fun _ _ h => h) fun q s hq => ?_
  cases s with
  | inl s =>
    obtain ⟨r', rfl, m'⟩ := hq
    exact k s r' m'
  | inr v => nomatch v
/-- the ends of a body -/
theorem x_nx {s : S} (m : Mat (P s) r) (hT : τ s = T) : Sim E (Rs.ok (Fl.nx r, T)) (.ok s) (RC P τ) := ⟨_, rfl, r, .inl (by rw [hT]), m⟩
theorem x_ct {s : S} (m : Mat (P s) r) (hT : τ s = T) : Sim E (Rs.ok (Fl.ct r, T)) (.ok s) (RC P τ) := ⟨_, rfl, r, .inr (by rw [hT]), m⟩
theorem x_nxL {s : S} (m : Mat (P s) r) (hT : τ s = T) : Sim E (Rs.ok (Fl.nx r, T)) (.ok s) (RL P τ) := ⟨_, rfl, r, by rw [hT], m⟩
theorem x_nxB {s : S} (m : Mat (P s) r) (hT : τ s = T) : Sim E (Rs.ok (Fl.nx r, T)) (.ok (false, s)) (RB P τ) := ⟨_, rfl, r, .inl ⟨rfl, .inl (by rw [hT])⟩, m⟩
theorem x_ctB {s : S} (m : Mat (P s) r) (hT : τ s = T) : Sim E (Rs.ok (Fl.ct r, T)) (.ok (false, s)) (RB P τ) := ⟨_, rfl, r, .inl ⟨rfl, .inr (by rw [hT])⟩, m⟩
theorem x_bkB {s : S} (m : Mat (P s) r) (hT : τ s = T) : Sim E (Rs.ok (Fl.bk r, T)) (.ok (true, s)) (RB P τ) := ⟨_, rfl, r, .inr ⟨rfl, by rw [hT]⟩, m⟩
theorem x_nxR {s : S} (m : Mat (P s) r) (hT : τ s = T) : Sim E (Rs.ok (Fl.nx r, T)) (.ok (.nx s)) (RR P τ mk tv) := ⟨_, rfl, r, .inl (by rw [hT]), m⟩
theorem x_ctR {s : S} (m : Mat (P s) r) (hT : τ s = T) : Sim E (Rs.ok (Fl.ct r, T)) (.ok (.nx s)) (RR P τ mk tv) := ⟨_, rfl, r, .inr (by rw [hT]), m⟩
theorem x_bkR {s : S} (m : Mat (P s) r) (hT : τ s = T) : Sim E (Rs.ok (Fl.bk r, T)) (.ok (.bk s)) (RR P τ mk tv) := ⟨_, rfl, r, by rw [hT], m⟩
theorem x_rtR {v : V} {w : VD} (hw : mk v = w) (hT : tv v = T) : Sim E (Rs.ok (Fl.rt w, T)) (.ok (.rt v)) (RR P τ mk tv) := ⟨_, rfl, by rw [← hw, ← hT]; rfl⟩
/-- two ways that come together -/
theorem s_join {w : DS} {y : Rt S} {z : S → Rt B} (P : S → Pat) (τ : S → Tp) (h : Sim E ((w r T).bind Rs.ok) y (RL P τ)) (k : ∀ s r, Mat (P s) r → Sim E (K (.nx r, τ s)) (z s) R) : Sim E ((w r T).bind K) (y.bind z) R := by
  rw [bind_id] at h
  refine Sim.bind h (fun _ _ h => h) fun q s ⟨r', hq, m'⟩ => ?_
  rw [hq]
  exact k s r' m'
end
/-! things that change -/
section
variable {A A1 B V : Type} {E : EX} {R : A1 → B → Prop} {K : D × Env × Tp → Rs A1} {KS : Fl × Tp → Rs A1} {r : Env} {T : Tp} {p : Pat} {i j : Nat} {is : D → Bool} {mo : D → List D → Option (D × D)} {ga : DA} {f : DEm} {d x : D} {ds : List D} {w : Rt V} {z : V → Rt B} {dn xv : V → D} {y : Rt B}
theorem m_mut (m : Mat p r) (hi : p[i]? = some (.is (.own d))) (hs : is d = true) (hg : Pur ga r ds) (ho : PrimO (mo d ds) w (fun a => (dn a, xv a))) (hq : Quit w) (k : ∀ a r', Mat (p.set i (.is (.own (dn a)))) r' → Sim E (K (xv a, r', T)) (z a) R) : Sim E ((eMut i is mo ga r T).bind K) (w.bind z) R := by
  rw [eMut_ap, m.get hi, ownK_own, if_pos hs, hg T, Rs.bind_ok, Rs.assoc]
  refine ho.go hq fun a _ => ?_
  exact k a _ (m.set i _)
theorem plug_mut {k : DE} {ga' : VD → DA} (m : Mat p r) (hi : p[i]? = some (.is (.own d))) (hs : is d = true) (h : Plug ga k ga' r) : Plug (eMut i is mo ga) k (fun v => eMut i is mo (ga' v)) r := .mk fun T K => by
  simp only [eMut_ap, m.get hi, ownK_own, if_pos hs]
  exact (plug_ga h).eq T K
theorem m_mutM (m : Mat p r) (hi : p[i]? = some (.is (.own d))) (hs : is d = true) (h : Sim E ((f r T).bind fun q => ((ownK (fun d2 => (rO (mo d2 [q.1])).bind fun u => .ok (u.2, q.2.1.set i (some (.own u.1)), q.2.2)) q.2.1[i]?).bind K)) y R) : Sim E ((eMutM i is mo f r T).bind K) y R := by
  rw [eMutM_ap, m.get hi, ownK_own, if_pos hs, Rs.assoc]
  exact h
theorem m_own (m : Mat p r) (hi : p[i]? = some (.is (.own d))) (ho : PrimO (mo d [x]) w (fun a => (dn a, xv a))) (hq : Quit w) (k : ∀ a r', Mat (p.set i (.is (.own (dn a)))) r' → Sim E (K (xv a, r', T)) (z a) R) : Sim E ((ownK (fun d2 => (rO (mo d2 [x])).bind fun u => .ok (u.2, r.set i (some (.own u.1)), T)) r[i]?).bind K) (w.bind z) R := by
  rw [m.get hi, ownK_own, Rs.assoc]
  refine ho.go hq fun a _ => ?_
  exact k a _ (m.set i _)
theorem s_dropM (h : Sim E ((f r T).bind fun q => KS (.nx q.2.1, q.2.2)) y R) : Sim E ((sDropM f r T).bind KS) y R := by
  rw [sDropM_ap, Rs.assoc]
  exact h
theorem s_asgM (h : Sim E ((f r T).bind fun q => KS (.nx (q.2.1.set j (some (.val q.1))), q.2.2)) y R) : Sim E ((sAsgM j f r T).bind KS) y R := by
  rw [sAsgM_ap, Rs.assoc]
  exact h
theorem s_asgMG {g : DG} (h : Sim E ((f r T).bind fun q => ((rO (g q.1)).bind fun l => Rs.ok (Fl.nx (setE q.2.1 l), q.2.2)).bind KS) y R) : Sim E ((sAsgMG g f r T).bind KS) y R := by
  rw [sAsgMG_ap, Rs.assoc]
  exact h
theorem s_retM (h : Sim E ((f r T).bind fun q => KS (.rt (.val q.1), q.2.2)) y R) : Sim E ((sRetM f r T).bind KS) y R := by
  rw [sRetM_ap, Rs.assoc]
  exact h
theorem s_setG {g : DG} {l : List (Nat × D)} (m : Mat p r) (hg : g d = some l) (k : ∀ r', Mat (setP p l) r' → Sim E (KS (.nx r', T)) y R) : Sim E (((rO (g d)).bind fun l => Rs.ok (Fl.nx (setE r l), T)).bind KS) y R := by
  rw [hg]
  exact k _ m.setP
theorem s_setI {so : D → D → D → Option D} {fi fe : DE} {kk : D} (m : Mat p r) (hi : p[i]? = some (.is (.own d))) (he : Pv fe r x) (hk : Pd fi r kk) (ho : PrimO (so d kk x) w dn) (hq : Quit w) (k : ∀ a r', Mat (p.set i (.is (.own (dn a)))) r' → Sim E (KS (.nx r', T)) (z a) R) : Sim E ((sSetI i so fi fe r T).bind KS) (w.bind z) R := by
  rw [sSetI_ap, he T, Rs.bind_ok]
  show Sim E ((ownK _ r[i]?).bind KS) _ R
  rw [m.get hi, ownK_own]
  show Sim E (((dt (fi r T)).bind _).bind KS) _ R
  rw [hk T, Rs.bind_ok]
  show Sim E (((rO (so d kk x)).bind _).bind KS) _ R
  rw [Rs.assoc]
  refine ho.go hq fun a _ => ?_
  exact k a _ (m.set i _)
theorem plug_setE {so : D → D → D → Option D} {fi fe k : DE} {f' : VD → DE} (h : Plug fe k f' r) : Plug (sSetI i so fi fe) k (fun v => sSetI i so fi (f' v)) r := .mk fun T K => plug_dv h T _ K
theorem plug_setK {so : D → D → D → Option D} {fi fe k : DE} {f' : VD → DE} (m : Mat p r) (hi : p[i]? = some (.is (.own d))) (he : Pv fe r x) (h : Plug fi k f' r) : Plug (sSetI i so fi fe) k (fun v => sSetI i so (f' v) fe) r := .mk fun T K => by
  rw [sSetI_ap, he T, Rs.bind_ok]
  show ((ownK _ r[i]?).bind K) = _
  rw [m.get hi, ownK_own, plug_dt h T]
  congr 1
  funext q
  show _ = Rs.bind (sSetI i so (f' q.1) fe r q.2) K
  rw [sSetI_ap, he q.2, Rs.bind_ok, m.get hi, ownK_own]
/-- one part of a statement -/
theorem plug_asg {e k : DE} {f' : VD → DE} (h : Plug e k f' r) : Plug (sAsg i e) k (fun v => sAsg i (f' v)) r := .mk fun T K => by
  rw [sAsg_ap, Rs.assoc, h.eq T]
  congr 1
  funext q
  show _ = Rs.bind (sAsg i (f' q.1) r q.2) K
  rw [sAsg_ap, Rs.assoc]
theorem plug_asgG {g : DG} {e k : DE} {f' : VD → DE} (h : Plug e k f' r) : Plug (sAsgG g e) k (fun v => sAsgG g (f' v)) r := .mk fun T K => plug_dv h T _ K
theorem plug_ret {e k : DE} {f' : VD → DE} (h : Plug e k f' r) : Plug (sRet e) k (fun v => sRet (f' v)) r := .mk fun T K => by
  rw [sRet_ap, Rs.assoc, h.eq T]
  congr 1
  funext q
  show _ = Rs.bind (sRet (f' q.1) r q.2) K
  rw [sRet_ap, Rs.assoc]
theorem plug_drop {e k : DE} {f' : VD → DE} (h : Plug e k f' r) : Plug (sDrop e) k (fun v => sDrop (f' v)) r := .mk fun T K => plug_dt h T _ K
theorem plug_aug {op : D → D → Rs VD} {e k : DE} {f' : VD → DE} (m : Mat p r) (hi : p[i]? = some (.is (.val d))) (h : Plug e k f' r) : Plug (sAug op i e) k (fun v => sAug op i (f' v)) r := .mk fun T K => by
  simp only [sAug_ap, m.get hi, augK_val]
  exact plug_dt h T _ K
theorem plug_sif {c : DT} {g1 g2 : DS} {k : DE} {c2 : VD → DT} (h : Plug c k c2 r) : Plug (sIf c g1 g2) k (fun v => sIf (c2 v) g1 g2) r := .mk fun T K => by
  rw [sIf_ap, Rs.assoc, h.eq T]
  congr 1
  funext q
  show _ = Rs.bind (sIf (c2 q.1) g1 g2 r q.2) K
  rw [sIf_ap, Rs.assoc]
theorem plug_for {it : DI} {gg : DG} {w : DS} {k : DE} {it' : VD → DI} (h : Plug it k it' r) : Plug (sFor it gg w) k (fun v => sFor (it' v) gg w) r := .mk fun T K => by
  rw [sFor_ap, Rs.assoc, h.eq T]
  congr 1
  funext q
  show _ = Rs.bind (sFor (it' q.1) gg w r q.2) K
  rw [sFor_ap, Rs.assoc]
end
section
variable {A B : Type} {E : EX} {r : Env} {T : Tp} {it : DI} {gg : DG} {w : DS} {R : A → B → Prop} {K : Fl × Tp → Rs A} {ga : DA} {ds : List D} {lo hi : Int}
/-- a range, its ends in bounds -/
noncomputable def rng (lo hi : Int) : Rt (List Int) := @ite _ (-8000000 ≤ lo ∧ lo ≤ 8000000 ∧ -8000000 ≤ hi ∧ hi ≤ 8000000) (Classical.propDecidable _) (.ok ((List.range (hi - lo).toNat).map fun (i : Nat) => lo + i)) .stuck
def dwn (lo hi : Int) : Rt (List Int) := if -8000000 ≤ lo ∧ lo ≤ 8000000 ∧ -8000000 ≤ hi ∧ hi ≤ 8000000 then .ok ((List.range (lo - hi).toNat).map fun (i : Nat) => lo - i) else .stuck
def rngL (lo hi : Int) : List Int := (List.range (hi - lo).toNat).map fun (i : Nat) => lo + i
theorem rngD_rngL : rngD lo (hi - lo).toNat = (rngL lo hi).map D.int := by
  unfold rngD rngL
  rw [List.map_map]
  rfl
theorem quit_rng : Quit (rng lo hi) := @quit_if _ _ (Classical.propDecidable _) _ _ quit_ok quit_stuck
theorem quit_dwn : Quit (dwn lo hi) := quit_if quit_ok quit_stuck
def csti (ds : List D) : DI := fun _ T => .ok (ds, T)
theorem q_csti {ds : List D} : Pur (csti ds) r ds := fun _ => rfl
theorem h_rng {K : List D × Tp → Rs A} {z : List Int → Rt B} (hg : Pur ga r ds) (h : argR ds = .ok (lo, hi)) (k : ∀ xs, Sim E (K (xs.map D.int, T)) (z xs) R) : Sim E ((iRng ga r T).bind K) ((rng lo hi).bind z) R := by
  unfold rng
  by_cases hb : -8000000 ≤ lo ∧ lo ≤ 8000000 ∧ -8000000 ≤ hi ∧ hi ≤ 8000000
  · rw [if_pos hb, q_rng (a := .non) (b := .non) hg h hb T, rngD_rngL]
    exact k _
  · rw [if_neg hb]
    trivial
theorem h_down {K : List D × Tp → Rs A} {f g : DE} {z : List Int → Rt B} (hf : Pd f r (.int lo)) (hg : Pd g r (.int hi)) (k : ∀ xs, Sim E (K (xs.map D.int, T)) (z xs) R) : Sim E ((iDwn f g r T).bind K) ((dwn lo hi).bind z) R := by
  unfold dwn
  by_cases hb : -8000000 ≤ lo ∧ lo ≤ 8000000 ∧ -8000000 ≤ hi ∧ hi ≤ 8000000
  · rw [if_pos hb]
    unfold iDwn
    rw [hf T, Rs.bind_ok]
    show Sim E (((dt (g r T)).bind _).bind K) _ R
    rw [hg T, Rs.bind_ok]
    show Sim E (Rs.bind (if -8000000 ≤ lo ∧ lo ≤ 8000000 ∧ -8000000 ≤ hi ∧ hi ≤ 8000000 then _ else _) K) _ R
    rw [if_pos hb]
    have : dwnD lo (lo - hi).toNat = ((List.range (lo - hi).toNat).map fun (i : Nat) => lo - i).map D.int := by
      unfold dwnD
      rw [List.map_map]
      rfl
    rw [this]
    exact k _
  · rw [if_neg hb]
    trivial
/-- a for over what it gives -/
theorem s_for1 {y : Rt B} (h : Sim E ((it r T).bind fun q => (sFor (csti q.1) gg w r q.2).bind K) y R) : Sim E ((sFor it gg w r T).bind K) y R := by
  rw [sFor_ap, Rs.assoc]
  exact h
theorem s_lc1 {K : VD × Tp → Rs A} {vs : List Nat} {c : DT} {f : DE} {y : Rt B} (h : Sim E ((it r T).bind fun q => (eLc vs (csti q.1) gg c f r q.2).bind K) y R) : Sim E ((eLc vs it gg c f r T).bind K) y R := by
  rw [eLc_ap, Rs.assoc]
  exact h
end
/-- a def -/
theorem t_run {n : Nat} {io : Bool} {g : DS} {ds : List D} {T : Tp} {B : Type} {y : Rt B} {R : VD × Tp → B → Prop} (h : ∀ r, Mat (patOf (env0 n io ds)) r → Sim ET ((g r T).bind endK) y R) : Sim ET (runD n io g ds T) y R := by
  rw [runD_ap]
  exact h _ (mat_of _)
end Pu
namespace Pu
open PySem L2

/-! # kinds of data, typed -/
abbrev eI : Int → D := D.int
abbrev eB : Bool → D := D.bl
abbrev eS : PySem.Str → D := D.str
abbrev eN : Unit → D := fun _ => .non
abbrev eD : D → D := fun d => d
def eO {A : Type} (e : A → D) : Option A → D
  | none => .non
  | some a => e a
@[simp] theorem eO_none {A : Type} (e : A → D) : eO e none = .non := rfl
@[simp] theorem eO_some {A : Type} (e : A → D) (a : A) : eO e (some a) = e a := rfl
abbrev eL {A : Type} (e : A → D) (xs : List A) : D := .lst (xs.map e)
abbrev eU {A : Type} (e : A → D) (xs : List A) : D := .tup (xs.map e)
abbrev eT (xs : List Int) : D := .tpl xs
abbrev eScr (xs : List Int) : D := .scr xs
abbrev e1 {A : Type} (a : A → D) (p : A) : D := .tup [a p]
abbrev e2 {A B : Type} (a : A → D) (b : B → D) (p : A × B) : D := .tup [a p.1, b p.2]
abbrev e3 {A B C : Type} (a : A → D) (b : B → D) (c : C → D) (p : A × B × C) : D := .tup [a p.1, b p.2.1, c p.2.2]
abbrev e4 {A B C X : Type} (a : A → D) (b : B → D) (c : C → D) (d : X → D) (p : A × B × C × X) : D := .tup [a p.1, b p.2.1, c p.2.2.1, d p.2.2.2]
abbrev e5 {A B C X Y : Type} (a : A → D) (b : B → D) (c : C → D) (d : X → D) (f : Y → D) (p : A × B × C × X × Y) : D := .tup [a p.1, b p.2.1, c p.2.2.1, d p.2.2.2.1, f p.2.2.2.2]
abbrev eK {A B : Type} (t : Bool) (e : A → D) (f : B → D) (kvs : List (A × B)) : D := .dct t (kvs.map fun p => (e p.1, f p.2))

/-! ## equal -/
def memB {A : Type} [DecidableEq A] (a : A) (xs : List A) : Bool := decide (a ∈ xs)
@[simp] theorem memB_iff {A : Type} [DecidableEq A] {a : A} {xs : List A} : memB a xs = true ↔ a ∈ xs := by simp [memB]
@[simp] theorem memB_no {A : Type} [DecidableEq A] {a : A} {xs : List A} : memB a xs = false ↔ a ∉ xs := by simp [memB]
section
variable {A B C X : Type} [DecidableEq A] [DecidableEq B] [DecidableEq C] [DecidableEq X] {n m : Nat} {e : A → D} {f : B → D} {g : C → D} {h : X → D}
theorem enc_str : Enc 0 eS := ⟨fun a => by simp, fun a b => by
  show PyData.eqv (.str a) (.str b) = _
  rw [PyData.eqv]
  by_cases q : a = b
  · subst q; simp
  · rw [decide_eq_false q]; simpa using q⟩
theorem enc_unit : Enc 0 eN := ⟨fun a => by simp, fun a b => rfl⟩
theorem enc_I : Enc 0 eI := enc_int
theorem enc_B : Enc 0 eB := enc_bl
theorem enc_L (h : Enc n e) : Enc (n + 1) (eL e) := enc_lst h
theorem enc_U (h : Enc n e) : Enc (n + 1) (eU e) := enc_tup h
theorem enc_T : Enc 1 eT := ⟨fun a => by simp, fun a b => by
  show PyData.eqv (.tuple (a.map PyData.int)) (.tuple (b.map PyData.int)) = _
  rw [PyData.eqv]
  have := eqvAll_enc enc_int a b
  rw [List.map_map, List.map_map] at this
  exact this⟩
def NN (e : A → D) : Prop := ∀ a, PyData.eqv .none (py (e a)) = false ∧ PyData.eqv (py (e a)) .none = false
theorem enc_O (k : Enc n e) (hn : NN e) : Enc n (eO e) := ⟨fun a => by
  cases a with
  | none => simp
  | some a => exact k.pl a, fun a b => by
  cases a with
  | none => cases b with
    | none => rfl
    | some b => simpa using (hn b).1
  | some a => cases b with
    | none => simpa using (hn a).2
    | some b => simpa using k.eq a b⟩
theorem nn_I : NN eI := fun a => ⟨rfl, rfl⟩
theorem nn_B : NN eB := fun a => ⟨rfl, rfl⟩
theorem nn_S : NN eS := fun a => ⟨rfl, rfl⟩
theorem nn_L : NN (eL e) := fun a => ⟨by rw [py_lst]; rfl, by rw [py_lst]; rfl⟩
theorem nn_U : NN (eU e) := fun a => ⟨by rw [py_tup]; rfl, by rw [py_tup]; rfl⟩
theorem nn_T : NN eT := fun a => ⟨rfl, rfl⟩
theorem nn_tup {g : C → List D} : NN (fun c => D.tup (g c)) := fun a => ⟨by rw [py_tup]; rfl, by rw [py_tup]; rfl⟩
theorem enc_2 (k : Enc n e) (l : Enc n f) : Enc (n + 1) (e2 e f) := enc_pair k l
theorem enc_3 (k : Enc n e) (l : Enc n f) (q : Enc n g) : Enc (n + 1) (e3 e f g) := enc_trip k l q
theorem enc_4 (k : Enc n e) (l : Enc n f) (q : Enc n g) (u : Enc n h) : Enc (n + 1) (e4 e f g h) := ⟨fun p => by
    rw [pl_tup]
    intro d hd
    simp at hd
    rcases hd with rfl | rfl | rfl | rfl
    · exact k.pl _
    · exact l.pl _
    · exact q.pl _
    · exact u.pl _, fun p q' => by
    rw [py_tup, py_tup]
    simp only [List.map_cons, List.map_nil, PyData.eqv, PyData.eqvAll, k.eq, l.eq, q.eq, u.eq]
    obtain ⟨a, b, c, d⟩ := p
    obtain ⟨x, y, z, w⟩ := q'
    by_cases h1 : a = x <;> by_cases h2 : b = y <;> by_cases h3 : c = z <;> by_cases h4 : d = w <;> simp [h1, h2, h3, h4]⟩
theorem q_eq (k : Enc n e) (a b : A) (hn : Nat.ble n 40 = true) : dEq (e a) (e b) = .ok (.val (.bl (decide (a = b)))) := dEq_enc k a b (Nat.le_of_ble_eq_true hn)
theorem q_ne (k : Enc n e) (a b : A) (hn : Nat.ble n 40 = true) : dNe (e a) (e b) = .ok (.val (.bl (!decide (a = b)))) := dNe_enc k a b (Nat.le_of_ble_eq_true hn)
theorem q_inL' (k : Enc n e) (a : A) (xs : List A) (hn : Nat.ble n 39 = true) : dInA (e a) (eL e xs) = .ok (.val (.bl (decide (a ∈ xs)))) := dInS_encL k a xs (Nat.le_of_ble_eq_true hn)
theorem q_inU' (k : Enc n e) (a : A) (xs : List A) (hn : Nat.ble n 39 = true) : dInA (e a) (eU e xs) = .ok (.val (.bl (decide (a ∈ xs)))) := dInS_encT k a xs (Nat.le_of_ble_eq_true hn)
theorem q_ninL' (k : Enc n e) (a : A) (xs : List A) (hn : Nat.ble n 39 = true) : dNinA (e a) (eL e xs) = .ok (.val (.bl (!decide (a ∈ xs)))) := dNinS_encL k a xs (Nat.le_of_ble_eq_true hn)
theorem q_ninU' (k : Enc n e) (a : A) (xs : List A) (hn : Nat.ble n 39 = true) : dNinA (e a) (eU e xs) = .ok (.val (.bl (!decide (a ∈ xs)))) := dNinS_encT k a xs (Nat.le_of_ble_eq_true hn)
theorem q_inL (k : Enc n e) (a : A) (xs : List A) (hn : Nat.ble n 39 = true) : dInA (e a) (eL e xs) = .ok (.val (.bl (memB a xs))) := q_inL' k a xs hn
theorem q_inU (k : Enc n e) (a : A) (xs : List A) (hn : Nat.ble n 39 = true) : dInA (e a) (eU e xs) = .ok (.val (.bl (memB a xs))) := q_inU' k a xs hn
theorem q_ninL (k : Enc n e) (a : A) (xs : List A) (hn : Nat.ble n 39 = true) : dNinA (e a) (eL e xs) = .ok (.val (.bl (!memB a xs))) := q_ninL' k a xs hn
theorem q_ninU (k : Enc n e) (a : A) (xs : List A) (hn : Nat.ble n 39 = true) : dNinA (e a) (eU e xs) = .ok (.val (.bl (!memB a xs))) := q_ninU' k a xs hn
end
theorem dEq_pt (a b : List Int) : dEq (.tpl a) (eU eI b) = .ok (.val (.bl (decide (a = b)))) := by
  have h := (enc_tup enc_int).eq a b
  have : py (.tpl a) = py (D.tup (a.map D.int)) := by rw [py_tup, py_ints]; rfl
  unfold dEq dPl
  rw [if_pos ⟨trivial, (enc_tup enc_int).pl b |> pl_up (by decide), trivial⟩]
  simp only [this]
  rw [h]
theorem dEq_tp (a b : List Int) : dEq (eU eI a) (.tpl b) = .ok (.val (.bl (decide (a = b)))) := by
  have h := (enc_tup enc_int).eq a b
  have : py (.tpl b) = py (D.tup (b.map D.int)) := by rw [py_tup, py_ints]; rfl
  unfold dEq dPl
  rw [if_pos ⟨(enc_tup enc_int).pl a |> pl_up (by decide), trivial, trivial⟩]
  simp only [this]
  rw [h]

/-! ## less -/
structure Ord {A : Type} [DecidableEq A] (n : Nat) (e : A → D) (lt : A → A → Bool) : Prop where
  enc : Enc n e
  lt : ∀ a b, PySem.W.dataLt (py (e a)) (py (e b)) = lt a b
  al : ∀ a b, PySem.W.alike (py (e a)) (py (e b)) = true
/-- an order in which of two unlike ones just one is the less -/
structure Lin {A : Type} (lt : A → A → Bool) : Prop where
  irr : ∀ a, lt a a = false
  tr : ∀ a b c, lt a b = true → lt b c = true → lt a c = true
  tot : ∀ a b, a ≠ b → lt a b = true ∨ lt b a = true
def ltI (a b : Int) : Bool := decide (a < b)
def ltP {A B : Type} [DecidableEq A] (f : A → A → Bool) (g : B → B → Bool) (p q : A × B) : Bool := if p.1 = q.1 then g p.2 q.2 else f p.1 q.1
def ltL {A : Type} [DecidableEq A] (f : A → A → Bool) : List A → List A → Bool
  | [], [] => false
  | [], _ :: _ => true
  | _ :: _, [] => false
  | x :: xs, y :: ys => if x = y then ltL f xs ys else f x y
theorem lin_I : Lin ltI := ⟨fun a => by simp [ltI], fun a b c => by simp [ltI]; omega, fun a b h => by simp [ltI]; omega⟩
theorem lin_P {A B : Type} [DecidableEq A] {f : A → A → Bool} {g : B → B → Bool} (h : Lin f) (k : Lin g) : Lin (ltP f g) := ⟨fun a => by simp [ltP, k.irr], fun a b c u v => by
  unfold ltP at *
  by_cases h1 : a.1 = b.1 <;> by_cases h2 : b.1 = c.1
  · rw [if_pos h1] at u
    rw [if_pos h2] at v
    rw [if_pos (h1.trans h2)]
    exact k.tr _ _ _ u v
  · rw [if_neg h2] at v
    rw [if_neg (fun z => h2 (h1.symm.trans z)), h1]
    exact v
  · rw [if_neg h1] at u
    rw [if_neg (fun z => h1 (z.trans h2.symm)), ← h2]
    exact u
  · rw [if_neg h1] at u
    rw [if_neg h2] at v
    have w := h.tr _ _ _ u v
    rw [if_neg fun z => by rw [z, h.irr] at w; cases w]
    exact w, fun a b n => by
  unfold ltP
  by_cases h1 : a.1 = b.1
  · rw [if_pos h1, if_pos h1.symm]
    exact k.tot _ _ fun z => n (Prod.ext h1 z)
  · rw [if_neg h1, if_neg fun z => h1 z.symm]
    exact h.tot _ _ h1⟩
theorem ltL_irr {A : Type} [DecidableEq A] {f : A → A → Bool} : ∀ a : List A, ltL f a a = false
  | [] => rfl
  | x :: xs => by rw [ltL, if_pos rfl, ltL_irr xs]
theorem ltL_tr {A : Type} [DecidableEq A] {f : A → A → Bool} (h : Lin f) : ∀ a b c : List A, ltL f a b = true → ltL f b c = true → ltL f a c = true
  | [], [], _, u, _ => by simp [ltL] at u
  | [], _ :: _, [], _, v => by simp [ltL] at v
  | [], _ :: _, _ :: _, _, _ => rfl
  | _ :: _, [], _, u, _ => by simp [ltL] at u
  | _ :: _, _ :: _, [], _, v => by simp [ltL] at v
  | x :: a, y :: b, z :: c, u, v => by
    rw [ltL] at *
    by_cases h1 : x = y <;> by_cases h2 : y = z
    · rw [if_pos h1] at u
      rw [if_pos h2] at v
      rw [if_pos (h1.trans h2)]
      exact ltL_tr h _ _ _ u v
    · rw [if_neg h2] at v
      rw [if_neg (fun w => h2 (h1.symm.trans w)), h1]
      exact v
    · rw [if_neg h1] at u
      rw [if_neg (fun w => h1 (w.trans h2.symm)), ← h2]
      exact u
    · rw [if_neg h1] at u
      rw [if_neg h2] at v
      have w := h.tr _ _ _ u v
      rw [if_neg fun q => by rw [q, h.irr] at w; cases w]
      exact w
theorem ltL_tot {A : Type} [DecidableEq A] {f : A → A → Bool} (h : Lin f) : ∀ a b : List A, a ≠ b → ltL f a b = true ∨ ltL f b a = true
  | [], [], n => absurd rfl n
  | [], _ :: _, _ => .inl rfl
  | _ :: _, [], _ => .inr rfl
  | x :: a, y :: b, n => by
    rw [ltL, ltL]
    by_cases h1 : x = y
    · rw [if_pos h1, if_pos h1.symm]
      exact ltL_tot h a b fun z => n (by rw [h1, z])
    · rw [if_neg h1, if_neg fun z => h1 z.symm]
      exact h.tot _ _ h1
theorem lin_L {A : Type} [DecidableEq A] {f : A → A → Bool} (h : Lin f) : Lin (ltL f) := ⟨ltL_irr, ltL_tr h, ltL_tot h⟩
/-- in order -/
def srt {A : Type} (lt : A → A → Bool) (xs : List A) : List A := xs.mergeSort fun a b => !lt b a
section
variable {A : Type} {lt : A → A → Bool}
theorem Lin.le_tr (h : Lin lt) (a b c : A) (u : (!lt b a) = true) (v : (!lt c b) = true) : (!lt c a) = true := by
  rw [Bool.not_eq_true'] at *
  cases q : lt c a with
  | false => rfl
  | true =>
    by_cases e : a = b
    · subst e
      rw [q] at v
      cases v
    · rcases h.tot a b e with z | z
      · rw [h.tr _ _ _ q z] at v
        cases v
      · rw [z] at u
        cases u
theorem Lin.le_tot (h : Lin lt) (a b : A) : (!lt b a || !lt a b) = true := by
  cases q : lt b a with
  | false => rfl
  | true =>
    cases w : lt a b with
    | false => rfl
    | true =>
      have := h.tr _ _ _ q w
      rw [h.irr] at this
      cases this
theorem Lin.le_anti (h : Lin lt) {a b : A} (u : (!lt b a) = true) (v : (!lt a b) = true) : a = b := by
  by_cases e : a = b
  · exact e
  · rw [Bool.not_eq_true'] at u v
    rcases h.tot a b e with z | z
    · rw [z] at v; cases v
    · rw [z] at u; cases u
theorem srt_perm (xs : List A) : (srt lt xs).Perm xs := List.mergeSort_perm _ _
theorem srt_mem {xs : List A} {x : A} : x ∈ srt lt xs ↔ x ∈ xs := (srt_perm xs).mem_iff
@[simp] theorem srt_length (xs : List A) : (srt lt xs).length = xs.length := (srt_perm xs).length_eq
theorem srt_sorted (h : Lin lt) (xs : List A) : (srt lt xs).Pairwise fun a b => (!lt b a) = true := List.pairwise_mergeSort h.le_tr h.le_tot xs
theorem srt_unq (h : Lin lt) {xs ys : List A} (p : xs.Perm ys) (h1 : xs.Pairwise fun a b => (!lt b a) = true) (h2 : ys.Pairwise fun a b => (!lt b a) = true) : xs = ys := List.Perm.eq_of_pairwise (fun a b _ _ u k => h.le_anti u k) h1 h2 p
theorem srt_congr (h : Lin lt) {xs ys : List A} (p : xs.Perm ys) : srt lt xs = srt lt ys := srt_unq h ((srt_perm xs).trans (p.trans (srt_perm ys).symm)) (srt_sorted h _) (srt_sorted h _)
theorem srt_of (h : Lin lt) {xs ys : List A} (p : xs.Perm ys) (s : ys.Pairwise fun a b => (!lt b a) = true) : srt lt xs = ys := srt_unq h ((srt_perm xs).trans p) (srt_sorted h _) s
/-- the same members, none twice -/
theorem srt_same [DecidableEq A] (h : Lin lt) {xs ys : List A} (n1 : xs.Nodup) (n2 : ys.Nodup) (m : ∀ x, x ∈ xs ↔ x ∈ ys) : srt lt xs = srt lt ys := srt_congr h ((List.perm_ext_iff_of_nodup n1 n2).mpr m)
end
section
variable {A B C X : Type} [DecidableEq A] [DecidableEq B] [DecidableEq C] [DecidableEq X] {n : Nat} {e : A → D} {f : B → D} {g : C → D} {lt : A → A → Bool} {lu : B → B → Bool} {lv : C → C → Bool}
open PySem.W in
theorem ord_I : Ord 0 eI ltI := ⟨enc_I, fun a b => by rw [py_int, py_int, dataLt_int]; rfl, fun a b => by simp [alike]⟩
open PySem.W in
theorem rowLt_nil : PyProof.Rows.lexLt PyProof.Rows.itemOrd (keyToksAll []) (keyToksAll []) = false := PyProof.Rows.lex_irrefl _
open PySem.W in
theorem rowLt_cons (k : Ord n e lt) (a b : A) (xs ys : List PyData) : PyProof.Rows.lexLt PyProof.Rows.itemOrd (keyToksAll (py (e a) :: xs)) (keyToksAll (py (e b) :: ys)) = if a = b then PyProof.Rows.lexLt PyProof.Rows.itemOrd (keyToksAll xs) (keyToksAll ys) else lt a b := by
  rw [dataLt_cons (k.al a b), k.enc.eq, k.lt]
  by_cases q : a = b <;> simp [q]
theorem lt_self {lt : A → A → Bool} (k : Ord n e lt) (h : Lin lt) (a : A) : lt a a = false := h.irr a
open PySem.W in
theorem ord_2 (k : Ord n e lt) (l : Ord n f lu) (hu : Lin lu) : Ord (n + 1) (e2 e f) (ltP lt lu) := ⟨enc_2 k.enc l.enc, fun p q => by
  rw [py_tup, py_tup, dataLt_tuple]
  simp only [List.map_cons, List.map_nil]
  rw [rowLt_cons k, rowLt_cons l, rowLt_nil]
  unfold ltP
  by_cases h1 : p.1 = q.1
  · rw [if_pos h1, if_pos h1]
    by_cases h2 : p.2 = q.2
    · rw [if_pos h2, h2, hu.irr]
    · rw [if_neg h2]
  · rw [if_neg h1, if_neg h1], fun p q => by
  rw [py_tup, py_tup]
  simp [alike, alikeAll, k.al, l.al]⟩
open PySem.W in
theorem ord_3 (k : Ord n e lt) (l : Ord n f lu) (q : Ord n g lv) (hv : Lin lv) : Ord (n + 1) (e3 e f g) (ltP lt (ltP lu lv)) := ⟨enc_3 k.enc l.enc q.enc, fun p r => by
  rw [py_tup, py_tup, dataLt_tuple]
  simp only [List.map_cons, List.map_nil]
  rw [rowLt_cons k, rowLt_cons l, rowLt_cons q, rowLt_nil]
  unfold ltP
  by_cases h1 : p.1 = r.1
  · rw [if_pos h1, if_pos h1]
    by_cases h2 : p.2.1 = r.2.1
    · rw [if_pos h2, if_pos h2]
      by_cases h3 : p.2.2 = r.2.2
      · rw [if_pos h3, h3, hv.irr]
      · rw [if_neg h3]
    · rw [if_neg h2, if_neg h2]
  · rw [if_neg h1, if_neg h1], fun p r => by
  rw [py_tup, py_tup]
  simp [alike, alikeAll, k.al, l.al, q.al]⟩
open PySem.W in
theorem rowLt_all (k : Ord n e lt) : ∀ xs ys : List A, PyProof.Rows.lexLt PyProof.Rows.itemOrd (keyToksAll ((xs.map e).map py)) (keyToksAll ((ys.map e).map py)) = ltL lt xs ys
  | [], [] => rowLt_nil
  | [], y :: ys => by
    rw [List.map_cons, List.map_cons, toks_all_cons]
    simp only [keyToksAll, List.map_nil]
    rw [PyProof.Rows.lex_diff (O := PyProof.Rows.itemOrd) (by simp)]
    rfl
  | x :: xs, [] => by
    rw [List.map_cons, List.map_cons, toks_all_cons]
    simp only [keyToksAll, List.map_nil]
    rw [PyProof.Rows.lex_diff (O := PyProof.Rows.itemOrd) (by simp)]
    rfl
  | x :: xs, y :: ys => by
    rw [List.map_cons, List.map_cons, List.map_cons, List.map_cons, rowLt_cons k, rowLt_all k xs ys]
    rfl
open PySem.W in
theorem alike_all (k : Ord n e lt) : ∀ xs ys : List A, alikeAll ((xs.map e).map py) ((ys.map e).map py) = true
  | [], _ => by simp [alikeAll]
  | _ :: _, [] => by simp [alikeAll]
  | x :: xs, y :: ys => by
    rw [List.map_cons, List.map_cons, List.map_cons, List.map_cons, alikeAll, k.al, alike_all k xs ys]
    rfl
open PySem.W in
theorem ord_L (k : Ord n e lt) : Ord (n + 1) (eL e) (ltL lt) := ⟨enc_L k.enc, fun p q => by
  rw [py_lst, py_lst, dataLt_list, rowLt_all k], fun p q => by
  rw [py_lst, py_lst, alike, alike_all k]⟩
open PySem.W in
theorem ord_U (k : Ord n e lt) : Ord (n + 1) (eU e) (ltL lt) := ⟨enc_U k.enc, fun p q => by
  rw [py_tup, py_tup, dataLt_tuple, rowLt_all k], fun p q => by
  rw [py_tup, py_tup, alike, alike_all k]⟩
theorem ord2_of (k : Ord n e lt) (a b : A) (nn : NN e) : Ord2 (e a) (e b) := ⟨k.al a b, fun z => by
  have := (nn a).1
  rw [z] at this
  cases this⟩
theorem q_lt (k : Ord n e lt) (nn : NN e) (a b : A) (hn : Nat.ble n 40 = true) : dLt (e a) (e b) = .ok (.val (.bl (lt a b))) := by
  unfold dLt dPl
  have h := Nat.le_of_ble_eq_true hn
  rw [if_pos ⟨pl_up h (k.enc.pl a), pl_up h (k.enc.pl b), ord2_of k a b nn⟩]
  simp only [k.lt]
theorem q_gt (k : Ord n e lt) (nn : NN e) (a b : A) (hn : Nat.ble n 40 = true) : dGt (e a) (e b) = .ok (.val (.bl (lt b a))) := by
  unfold dGt dPl
  have h := Nat.le_of_ble_eq_true hn
  rw [if_pos ⟨pl_up h (k.enc.pl a), pl_up h (k.enc.pl b), ord2_of k a b nn⟩]
  simp only [k.lt]
theorem q_le (k : Ord n e lt) (nn : NN e) (a b : A) (hn : Nat.ble n 40 = true) : dLe (e a) (e b) = .ok (.val (.bl (!lt b a))) := by
  unfold dLe dPl
  have h := Nat.le_of_ble_eq_true hn
  rw [if_pos ⟨pl_up h (k.enc.pl a), pl_up h (k.enc.pl b), ord2_of k a b nn⟩]
  simp only [k.lt]
theorem q_ge (k : Ord n e lt) (nn : NN e) (a b : A) (hn : Nat.ble n 40 = true) : dGe (e a) (e b) = .ok (.val (.bl (!lt a b))) := by
  unfold dGe dPl
  have h := Nat.le_of_ble_eq_true hn
  rw [if_pos ⟨pl_up h (k.enc.pl a), pl_up h (k.enc.pl b), ord2_of k a b nn⟩]
  simp only [k.lt]
/-! sorted -/
theorem srtd_ord (k : Ord n e lt) (xs : List A) : srtd (xs.map e) = (srt lt xs).map e := by
  unfold srtd srt
  refine (List.map_mergeSort (r := fun a b => !lt b a) fun a _ b _ => ?_).symm
  show (!lt b a) = !PySem.W.dataLt (py (e b)) (py (e a))
  rw [k.lt]
def Shp (e : A → D) : Prop := (∀ a, ∃ x r, py (e a) = .tuple (x :: r)) ∨ ∀ a, py (e a) ≠ .none ∧ ∀ xs, py (e a) ≠ .tuple xs
theorem shp_I : Shp eI := .inr fun a => ⟨fun h => (by cases h), fun xs h => (by cases h)⟩
theorem shp_S : Shp eS := .inr fun a => ⟨fun h => (by cases h), fun xs h => (by cases h)⟩
theorem shp_L : Shp (eL e) := .inr fun a => ⟨fun h => (by rw [py_lst] at h; cases h), fun xs h => (by rw [py_lst] at h; cases h)⟩
theorem shp_2 : Shp (e2 e f) := .inl fun a => ⟨_, _, by rw [py_tup]; rfl⟩
theorem shp_3 : Shp (e3 e f g) := .inl fun a => ⟨_, _, by rw [py_tup]; rfl⟩
theorem shp_4 {h : X → D} : Shp (e4 e f g h) := .inl fun a => ⟨_, _, by rw [py_tup]; rfl⟩
theorem srtOk_ord (k : Ord n e lt) (s : Shp e) (xs : List A) (hn : n ≤ 30) : SrtOk (xs.map e) := by
  refine ⟨fun d hd => ?_, allAlike_map _ k.al xs, ?_⟩
  · obtain ⟨a, _, rfl⟩ := List.mem_map.mp hd
    exact pl_up hn (k.enc.pl a)
  · rcases s with s | s
    · refine .inl fun d hd => ?_
      rw [List.map_map] at hd
      obtain ⟨a, _, rfl⟩ := List.mem_map.mp hd
      exact s a
    · refine .inr fun d hd => ?_
      rw [List.map_map] at hd
      obtain ⟨a, _, rfl⟩ := List.mem_map.mp hd
      exact s a
theorem q_srt (k : Ord n e lt) (s : Shp e) (xs : List A) (hn : Nat.ble n 30 = true) : bSorted [eL e xs] = .ok (.own (eL e (srt lt xs))) := by
  show bSorted [.lst (xs.map e)] = _
  rw [bSorted_l, if_pos (srtOk_ord k s xs (Nat.le_of_ble_eq_true hn)), srtd_ord k]
/-- sorted, of tuples of any length: none of them empty -/
def srtG (lt : A → A → Bool) (xs : List (List A)) : Rt (List (List A)) := if ∀ x ∈ xs, x ≠ [] then .ok (srt (ltL lt) xs) else .stuck
theorem quit_srtG {lt : A → A → Bool} {xs : List (List A)} : Quit (srtG lt xs) := quit_if quit_ok quit_stuck
theorem p_srtU (k : Ord n e lt) (xs : List (List A)) (hn : Nat.ble (n + 1) 30 = true) : Prim (bSorted [eL (eU e) xs]) (srtG lt xs) (fun ys => .own (eL (eU e) ys)) := by
  intro ys h
  unfold srtG at h
  by_cases c : ∀ x ∈ xs, x ≠ []
  · rw [if_pos c] at h
    cases h
    show bSorted [.lst (xs.map (eU e))] = _
    have ok : SrtOk (xs.map (eU e)) := by
      refine ⟨fun d hd => ?_, allAlike_map _ (ord_U k).al xs, .inl fun d hd => ?_⟩
      · obtain ⟨a, _, rfl⟩ := List.mem_map.mp hd
        exact pl_up (Nat.le_of_ble_eq_true hn) ((ord_U k).enc.pl a)
      · rw [List.map_map] at hd
        obtain ⟨a, ha, rfl⟩ := List.mem_map.mp hd
        cases a with
        | nil => exact absurd rfl (c _ ha)
        | cons x xs => exact ⟨_, _, by show py (eU e _) = _; rw [py_tup]; rfl⟩
    rw [bSorted_l, if_pos ok, srtd_ord (ord_U k)]
  · rw [if_neg c] at h
    cases h
end

/-! ## operations that may fail -/
section
variable {A B : Type} {e : A → D} {f : B → D}
def idx (xs : List A) (i : Int) : Rt A := match atI xs i with
  | some a => .ok a
  | none => .stuck
theorem quit_idx {xs : List A} {i : Int} : Quit (idx xs i) := by
  unfold idx
  split
  · exact quit_ok
  · exact quit_stuck
theorem idx_ok {xs : List A} {i : Int} {a : A} (h : atI xs i = some a) : idx xs i = .ok a := by unfold idx; rw [h]
theorem idx_inv {xs : List A} {i : Int} {a : A} (h : idx xs i = .ok a) : atI xs i = some a := by
  unfold idx at h
  split at h
  · cases h; assumption
  · cases h
theorem p_idxL {xs : List A} {i : Int} : Prim (dIxA (eL e xs) (.int i)) (idx xs i) (fun a => .val (e a)) := fun a h => by
  show dIxA (.lst (xs.map e)) (.int i) = _
  rw [dIxA_l, atI_map, idx_inv h]
  rfl
theorem p_idxU {xs : List A} {i : Int} : Prim (dIxA (eU e xs) (.int i)) (idx xs i) (fun a => .val (e a)) := fun a h => by
  show dIxA (.tup (xs.map e)) (.int i) = _
  rw [dIxA_t, atI_map, idx_inv h]
  rfl
theorem p_idxT {xs : List Int} {i : Int} : Prim (dIxA (.tpl xs) (.int i)) (idx xs i) (fun a => .val (.int a)) := fun a h => by
  rw [dIxA_p, idx_inv h]
  rfl
theorem q_fix {ds : List D} {i : Int} {d : D} (h : atI ds i = some d) : dIxA (.tup ds) (.int i) = .ok (.val d) := by
  rw [dIxA_t, h]
  rfl
theorem q_fixL {ds : List D} {i : Int} {d : D} (h : atI ds i = some d) : dIxA (.lst ds) (.int i) = .ok (.val d) := by
  rw [dIxA_l, h]
  rfl
def cat (xs ys : List A) : Rt (List A) := if xs.length + ys.length ≤ 16000000 then .ok (xs ++ ys) else .stuck
theorem quit_cat {xs ys : List A} : Quit (cat xs ys) := quit_if quit_ok quit_stuck
theorem cat_ok {xs ys : List A} (h : xs.length + ys.length ≤ 16000000) : cat xs ys = .ok (xs ++ ys) := if_pos h
theorem p_catL {xs ys : List A} : Prim (dAddA (eL e xs) (eL e ys)) (cat xs ys) (fun a => .own (eL e a)) := fun a h => by
  unfold cat at h
  split at h
  · rename_i c
    cases h
    show dAddI (.lst _) (.lst _) = _
    rw [dAddI_ll, if_pos (by simpa using c), ← List.map_append]
  · cases h
theorem p_catU {xs ys : List A} : Prim (dAddA (eU e xs) (eU e ys)) (cat xs ys) (fun a => .val (eU e a)) := fun a h => by
  unfold cat at h
  split at h
  · rename_i c
    cases h
    show dAddI (.tup _) (.tup _) = _
    rw [dAddI_tt, if_pos (by simpa using c), ← List.map_append]
  · cases h
def push (xs : List A) (x : A) : Rt (List A) := if xs.length < 16000000 then .ok (xs ++ [x]) else .stuck
theorem quit_push {xs : List A} {x : A} : Quit (push xs x) := quit_if quit_ok quit_stuck
theorem push_ok {xs : List A} {x : A} (h : xs.length < 16000000) : push xs x = .ok (xs ++ [x]) := if_pos h
theorem p_push {xs : List A} {x : A} : PrimO (mAppend (eL e xs) [e x]) (push xs x) (fun l => (eL e l, .non)) := fun l h => by
  unfold push at h
  split at h
  · rename_i c
    cases h
    show mAppend (.lst _) _ = _
    rw [mAppend_l, if_pos (by simpa using c)]
    show _ = some (D.lst ((xs ++ [x]).map e), D.non)
    rw [List.map_append]
    rfl
  · cases h
def ext (xs ys : List A) : Rt (List A) := if xs.length + ys.length ≤ 16000000 then .ok (xs ++ ys) else .stuck
theorem quit_ext {xs ys : List A} : Quit (ext xs ys) := quit_if quit_ok quit_stuck
theorem ext_ok {xs ys : List A} (h : xs.length + ys.length ≤ 16000000) : ext xs ys = .ok (xs ++ ys) := if_pos h
theorem p_ext {xs ys : List A} : PrimO (mExtend (eL e xs) [eL e ys]) (ext xs ys) (fun l => (eL e l, .non)) := fun l h => by
  unfold ext at h
  split at h
  · rename_i c
    cases h
    show mExtend (.lst _) [.lst _] = _
    rw [mExtend_l, if_pos (by simpa using c), ← List.map_append]
  · cases h
/-- pop: what is left, and what came out -/
def popL (xs : List A) : Rt (List A × A) := match xs[xs.length - 1]? with
  | some x => .ok (xs.dropLast, x)
  | none => .stuck
theorem quit_popL {xs : List A} : Quit (popL xs) := by
  unfold popL
  split
  · exact quit_ok
  · exact quit_stuck
theorem map_dropLast {A B : Type} (f : A → B) : ∀ xs : List A, (xs.map f).dropLast = xs.dropLast.map f
  | [] => rfl
  | [x] => rfl
  | x :: y :: xs => by
    have := map_dropLast f (y :: xs)
    simpa using this
theorem p_popL {xs : List A} : PrimO (mPop (eL e xs) []) (popL xs) (fun l => (eL e l.1, e l.2)) := fun l h => by
  unfold popL at h
  split at h
  · rename_i x c
    cases h
    show mPop (.lst _) _ = _
    rw [mPop_l, List.length_map, List.getElem?_map, c, map_dropLast]
    rfl
  · cases h
def popA (xs : List A) (i : Int) : Rt (List A × A) := match ixN xs.length i with
  | some j => (match xs[j]? with
    | some x => .ok (xs.eraseIdx j, x)
    | none => .stuck)
  | none => .stuck
theorem quit_popA {xs : List A} {i : Int} : Quit (popA xs i) := by
  unfold popA
  split
  · split
    · exact quit_ok
    · exact quit_stuck
  · exact quit_stuck
theorem map_erase {A B : Type} (f : A → B) : ∀ (xs : List A) (j : Nat), (xs.map f).eraseIdx j = (xs.eraseIdx j).map f
  | [], _ => rfl
  | _ :: _, 0 => rfl
  | x :: xs, j + 1 => by simp [map_erase f xs j]
theorem p_popA {xs : List A} {i : Int} : PrimO (mPop (eL e xs) [.int i]) (popA xs i) (fun l => (eL e l.1, e l.2)) := fun l h => by
  unfold popA at h
  split at h
  · rename_i j c
    split at h
    · rename_i x d
      cases h
      show mPop (.lst _) _ = _
      rw [mPop_i, List.length_map, c]
      show (((xs.map e)[j]?).map _) = _
      rw [List.getElem?_map, d, map_erase]
      rfl
    · cases h
  · cases h
def setAt (xs : List A) (i : Int) (x : A) : Rt (List A) := match ixN xs.length i with
  | some j => .ok (xs.set j x)
  | none => .stuck
theorem quit_setAt {xs : List A} {i : Int} {x : A} : Quit (setAt xs i x) := by
  unfold setAt
  split
  · exact quit_ok
  · exact quit_stuck
theorem p_setAt {xs : List A} {i : Int} {x : A} : PrimO (setA (eL e xs) (.int i) (e x)) (setAt xs i x) (fun l => eL e l) := fun l h => by
  unfold setAt at h
  split at h
  · rename_i j c
    cases h
    show setA (.lst _) _ _ = _
    rw [setA_l, List.length_map, c]
    show some (D.lst ((xs.map e).set j (e x))) = some (D.lst ((xs.set j x).map e))
    rw [List.map_set]
  · cases h
def insAt (xs : List A) (i : Int) (x : A) : Rt (List A) := if xs.length < 16000000 ∧ 0 ≤ i ∧ i < 2 ^ 63 then .ok (xs.take i.toNat ++ [x] ++ xs.drop i.toNat) else .stuck
theorem quit_insAt {xs : List A} {i : Int} {x : A} : Quit (insAt xs i x) := quit_if quit_ok quit_stuck
theorem p_insAt {xs : List A} {i : Int} {x : A} : PrimO (mInsert (eL e xs) [.int i, e x]) (insAt xs i x) (fun l => (eL e l, .non)) := fun l h => by
  unfold insAt at h
  split at h
  · rename_i c
    cases h
    show (if (xs.map e).length < 16000000 ∧ 0 ≤ i ∧ i < 2 ^ 63 then some (D.lst ((xs.map e).take i.toNat ++ [e x] ++ (xs.map e).drop i.toNat), D.non) else none) = _
    rw [if_pos (by simpa using c)]
    simp [List.map_take, List.map_drop]
  · cases h
theorem p_rev {xs : List A} : PrimO (mReverse (eL e xs) []) (.ok xs.reverse) (fun l => (eL e l, .non)) := fun l h => by
  cases h
  show some (D.lst (xs.map e).reverse, D.non) = _
  rw [← List.map_reverse]
/-- whole numbers -/
def idiv (i j : Int) : Rt Int := if 0 < j ∧ j < 1073741824 then .ok (i / j) else .stuck
def imod (i j : Int) : Rt Int := if 0 < j then .ok (i % j) else .stuck
def ipow (i j : Int) : Rt Int := if 0 ≤ j ∧ j ≤ 1000000 ∧ i.natAbs < 2 ^ 64 then .ok (i ^ j.toNat) else .stuck
def imul (i j : Int) : Rt Int := if (-(2 ^ 64) < i ∧ i < 2 ^ 64) ∨ (-(2 ^ 64) < j ∧ j < 2 ^ 64) then .ok (i * j) else .stuck
abbrev mI : Int → VD := fun a => .val (.int a)
theorem quit_idiv {i j : Int} : Quit (idiv i j) := quit_if quit_ok quit_stuck
theorem quit_imod {i j : Int} : Quit (imod i j) := quit_if quit_ok quit_stuck
theorem quit_ipow {i j : Int} : Quit (ipow i j) := quit_if quit_ok quit_stuck
theorem quit_imul {i j : Int} : Quit (imul i j) := quit_if quit_ok quit_stuck
theorem prim_if {V : Type} {p : Prop} [Decidable p] {x : VD} {a : V} {mk : V → VD} (h : x = mk a) : Prim (if p then Rs.ok x else .stuck) (if p then .ok a else .stuck) mk := fun b q => by
  by_cases c : p
  · rw [if_pos c] at q ⊢
    cases q
    rw [h]
  · rw [if_neg c] at q
    cases q
theorem p_idiv {i j : Int} : Prim (dDiv (.int i) (.int j)) (idiv i j) mI := prim_if rfl
theorem p_imod {i j : Int} : Prim (dMod (.int i) (.int j)) (imod i j) mI := prim_if rfl
theorem p_ipow {i j : Int} : Prim (dPow (.int i) (.int j)) (ipow i j) mI := prim_if rfl
theorem p_imul {i j : Int} : Prim (dMulA (.int i) (.int j)) (imul i j) mI := prim_if rfl
theorem q_divL {i j : Int} (h : decide (0 < j ∧ j < 1073741824) = true) : dDiv (.int i) (.int j) = .ok (.val (.int (i / j))) := if_pos (of_decide_eq_true h)
theorem q_modL {i j : Int} (h : decide (0 < j) = true) : dMod (.int i) (.int j) = .ok (.val (.int (i % j))) := if_pos (of_decide_eq_true h)
theorem q_mulR {i j : Int} (h : decide (-(2 ^ 64) < j ∧ j < 2 ^ 64) = true) : dMulA (.int i) (.int j) = .ok (.val (.int (i * j))) := if_pos (.inr (of_decide_eq_true h))
theorem q_mulL {i j : Int} (h : decide (-(2 ^ 64) < i ∧ i < 2 ^ 64) = true) : dMulA (.int i) (.int j) = .ok (.val (.int (i * j))) := if_pos (.inl (of_decide_eq_true h))
def repR (xs : List A) (k : Int) : Rt (List A) := if xs ≠ [] ∧ xs.length ≤ 1000 ∧ -(2 ^ 62) < k ∧ k ≤ 1000 then .ok (repA xs k) else .stuck
theorem quit_repR {xs : List A} {k : Int} : Quit (repR xs k) := by
  unfold repR
  split
  · exact quit_ok
  · exact quit_stuck
theorem repA_map (xs : List A) (k : Int) : repA (xs.map e) k = (repA xs k).map e := by
  unfold repA
  rw [List.map_flatten, List.map_replicate]
theorem p_repU {xs : List A} {k : Int} : Prim (dMulA (eU e xs) (.int k)) (repR xs k) (fun l => .val (eU e l)) := fun l h => by
  unfold repR at h
  split at h
  · rename_i c
    cases h
    show dMulA (.tup _) _ = _
    rw [dMulA_t, if_pos ⟨fun z => c.1 (List.map_eq_nil_iff.mp z), by simpa using c.2⟩, repA_map]
  · cases h
def repRL (xs : List A) (k : Int) : Rt (List A) := if -(2 ^ 62) < k ∧ k ≤ 16000 ∧ xs.length ≤ 1000 then .ok (repA xs k) else .stuck
theorem quit_repRL {xs : List A} {k : Int} : Quit (repRL xs k) := quit_if quit_ok quit_stuck
theorem p_repL {xs : List A} {k : Int} : Prim (dMulA (eL e xs) (.int k)) (repRL xs k) (fun l => .own (eL e l)) := fun l h => by
  unfold repRL at h
  split at h
  · rename_i c
    cases h
    show dMulA (.lst _) _ = _
    rw [dMulA_l, if_pos (by simpa using c), repA_map]
  · cases h
def maxG (xs : List Int) : Rt Int := match xs.max? with
  | some m => .ok m
  | none => .stuck
def minG (xs : List Int) : Rt Int := match xs.min? with
  | some m => .ok m
  | none => .stuck
theorem quit_maxG {xs : List Int} : Quit (maxG xs) := by
  unfold maxG
  split
  · exact quit_ok
  · exact quit_stuck
theorem quit_minG {xs : List Int} : Quit (minG xs) := by
  unfold minG
  split
  · exact quit_ok
  · exact quit_stuck
theorem p_maxL {xs : List Int} : Prim (bMax [eL eI xs]) (maxG xs) mI := fun a h => by
  unfold maxG at h
  split at h
  · rename_i m c
    cases h
    show bMax [.lst _] = _
    rw [bMax_l, ints_map]
    show ((rO xs.max?).bind _) = _
    rw [c]
    rfl
  · cases h
theorem p_maxU {xs : List Int} : Prim (bMax [eU eI xs]) (maxG xs) mI := fun a h => by
  unfold maxG at h
  split at h
  · rename_i m c
    cases h
    show bMax [.tup _] = _
    rw [bMax_t, ints_map]
    show ((rO xs.max?).bind _) = _
    rw [c]
    rfl
  · cases h
theorem p_minL {xs : List Int} : Prim (bMin [eL eI xs]) (minG xs) mI := fun a h => by
  unfold minG at h
  split at h
  · rename_i m c
    cases h
    show bMin [.lst _] = _
    rw [bMin_l, ints_map]
    show ((rO xs.min?).bind _) = _
    rw [c]
    rfl
  · cases h
theorem p_minU {xs : List Int} : Prim (bMin [eU eI xs]) (minG xs) mI := fun a h => by
  unfold minG at h
  split at h
  · rename_i m c
    cases h
    show bMin [.tup _] = _
    rw [bMin_t, ints_map]
    show ((rO xs.min?).bind _) = _
    rw [c]
    rfl
  · cases h
theorem q_max2 {i j : Int} : bMax [.int i, .int j] = .ok (.val (.int (max i j))) := by
  rw [bMax_2]
  congr 3
  rw [Int.max_def]
  split <;> split <;> omega
theorem q_min2 {i j : Int} : bMin [.int i, .int j] = .ok (.val (.int (min i j))) := by
  rw [bMin_2]
  congr 3
  rw [Int.min_def]
  split <;> split <;> omega
/-! that never fail -/
theorem q_lenL {xs : List A} : bLenA [eL e xs] = .ok (.val (.int xs.length)) := by
  show bLenA [.lst _] = _
  rw [bLenA_l, List.length_map]
theorem q_lenU {xs : List A} : bLenA [eU e xs] = .ok (.val (.int xs.length)) := by
  show bLenA [.tup _] = _
  rw [bLenA_t, List.length_map]
theorem q_lenK {t : Bool} {kvs : List (A × B)} : bLenA [eK t e f kvs] = .ok (.val (.int kvs.length)) := by
  show bLenA [.dct _ _] = _
  rw [bLenA_d, List.length_map]
theorem q_sumL {xs : List Int} : bSumA [eL eI xs] = .ok (.val (.int xs.sum)) := by
  show bSum [.lst _] = _
  rw [bSum_l, ints_map]
  rfl
theorem q_sumU {xs : List Int} : bSumA [eU eI xs] = .ok (.val (.int xs.sum)) := by
  show bSum [.tup _] = _
  rw [bSum_t, ints_map]
  rfl
theorem bls_map : ∀ xs : List Bool, bls (xs.map D.bl) = some xs
  | [] => rfl
  | x :: xs => by rw [List.map_cons, bools_cons, bls_map xs]; rfl
theorem q_allL {xs : List Bool} : bAll [eL eB xs] = .ok (.val (.bl (xs.all id))) := by
  show bAll [.lst _] = _
  rw [bAll_l, bls_map]
  rfl
theorem q_anyL {xs : List Bool} : bAny [eL eB xs] = .ok (.val (.bl (xs.any id))) := by
  show bAny [.lst _] = _
  rw [bAny_l, bls_map]
  rfl
theorem cutA_map (g : A → B) (xs : List A) (lo hi : Option Int) : cutA (xs.map g) lo hi = (cutA xs lo hi).map g := by
  unfold cutA
  rw [List.map_take, List.map_drop, List.length_map]
theorem q_cutL {xs : List A} {lo hi : Option Int} : dSl (eL e xs) lo hi = .ok (.own (eL e (cutA xs lo hi))) := by
  show dSl (.lst _) _ _ = _
  rw [dSl_l, cutA_map]
theorem q_cutU {xs : List A} {lo hi : Option Int} : dSl (eU e xs) lo hi = .ok (.val (eU e (cutA xs lo hi))) := by
  show dSl (.tup _) _ _ = _
  rw [dSl_t, cutA_map]
theorem q_rvL {xs : List A} : dRvA (eL e xs) = .ok (.own (eL e xs.reverse)) := by
  show dRv (.lst _) = _
  rw [dRv_l, ← List.map_reverse]
theorem q_rvU {xs : List A} : dRvA (eU e xs) = .ok (.val (eU e xs.reverse)) := by
  show dRv (.tup _) = _
  rw [dRv_t, ← List.map_reverse]
theorem q_tplL {xs : List Int} : bTpl [eL eI xs] = .ok (.val (.tpl xs)) := by
  show bTpl [.lst _] = _
  rw [bTpl_l, ints_map]
  rfl
theorem q_isN {o : Option A} (h : ∀ a, e a ≠ .non) : dIsN (eO e o) .non = .ok (.val (.bl o.isNone)) := by
  cases o with
  | none => rfl
  | some a =>
    show dIsN (e a) .non = _
    have := h a
    cases q : e a <;> first | exact absurd q this | rfl
theorem q_isnN {o : Option A} (h : ∀ a, e a ≠ .non) : dIsnN (eO e o) .non = .ok (.val (.bl o.isSome)) := by
  cases o with
  | none => rfl
  | some a =>
    show dIsnN (e a) .non = _
    have := h a
    cases q : e a <;> first | exact absurd q this | rfl
/-! index -/
def idxOf (xs : List Int) (k : Int) : Rt Int := match idxI k xs with
  | some j => .ok j
  | none => .stuck
theorem quit_idxOf {xs : List Int} {k : Int} : Quit (idxOf xs k) := by
  unfold idxOf
  split
  · exact quit_ok
  · exact quit_stuck
/-! enumerate, zip -/
def enuL : Nat → List A → List (Int × A)
  | _, [] => []
  | k, x :: xs => ((k : Int), x) :: enuL (k + 1) xs
theorem enuD_map : ∀ (k : Nat) (xs : List A), enumD k (xs.map e) = (enuL k xs).map (e2 eI e)
  | _, [] => rfl
  | k, x :: xs => by
    show D.tup [.int k, e x] :: enumD (k + 1) (xs.map e) = _
    rw [enuD_map (k + 1) xs]
    rfl
theorem enuL_len : ∀ (k : Nat) (xs : List A), (enuL k xs).length = xs.length
  | _, [] => rfl
  | k, x :: xs => by simp [enuL, enuL_len (k + 1) xs]
theorem enuL_get : ∀ (k i : Nat) (xs : List A), (enuL k xs)[i]? = xs[i]?.map fun x => (((k + i : Nat) : Int), x)
  | _, _, [] => rfl
  | k, 0, x :: xs => rfl
  | k, i + 1, x :: xs => by
    have := enuL_get (k + 1) i xs
    rw [show k + 1 + i = k + (i + 1) by omega] at this
    simpa [enuL] using this
theorem zipD_map : ∀ (xs : List A) (ys : List B), zipD (xs.map e) (ys.map f) = (xs.zip ys).map (e2 e f)
  | [], _ => by simp [zipD]
  | _ :: _, [] => by simp [zipD]
  | x :: xs, y :: ys => by
    show D.tup [e x, f y] :: zipD (xs.map e) (ys.map f) = _
    rw [zipD_map xs ys]
    rfl
theorem q_enI {g : DE} {r : Env} {d : D} {xs : List A} (hf : Pv g r d) (hs : seqD d = .ok (xs.map e)) : Pur (iEnu g) r ((enuL 0 xs).map (e2 eI e)) := by
  rw [← enuD_map]
  exact q_enuI hf hs
theorem q_enJ {g : DE} {r : Env} {d : D} {xs : List A} (hf : Pd g r d) (hs : seqD d = .ok (xs.map e)) : Pur (jEnu g) r ((enuL 0 xs).map (e2 eI e)) := by
  rw [← enuD_map]
  exact q_enuJ hf hs
theorem zipR_L {xs : List A} {ys : List B} : zipR (eL e xs) (eL f ys) = .ok ((xs.zip ys).map (e2 e f)) := by
  rw [← zipD_map]
  rfl
theorem zipR_U {xs : List A} {ys : List B} : zipR (eU e xs) (eU f ys) = .ok ((xs.zip ys).map (e2 e f)) := by
  rw [← zipD_map]
  rfl
theorem q_rngL {ga : DA} {r : Env} {ds : List D} {lo hi : Int} (hg : Pur ga r ds) (h : argR ds = .ok (lo, hi)) (hb : decide (-8000000 ≤ lo ∧ lo ≤ 8000000 ∧ -8000000 ≤ hi ∧ hi ≤ 8000000) = true) : Pur (iRng ga) r ((rngL lo hi).map D.int) := by
  rw [← rngD_rngL]
  exact q_rng (a := .non) (b := .non) hg h (of_decide_eq_true hb)
/-! dicts, as rows of pairs -/
def aget [DecidableEq A] (kvs : List (A × B)) (k : A) : Option B := (kvs.find? fun p => decide (p.1 = k)).map (·.2)
def ahas [DecidableEq A] (kvs : List (A × B)) (k : A) : Bool := kvs.any fun p => decide (p.1 = k)
def aput [DecidableEq A] (kvs : List (A × B)) (k : A) (v : B) : List (A × B) := if ahas kvs k = true then kvs.map (fun p => if p.1 = k then (p.1, v) else p) else kvs ++ [(k, v)]
def akeys (kvs : List (A × B)) : List A := kvs.map (·.1)
/-- keys of a kind -/
structure KeyE [DecidableEq A] (t : Bool) (e : A → D) : Prop where
  inj : ∀ a b, e a = e b → a = b
  ok : ∀ a, KeyOk t (e a)
theorem key_I : KeyE false eI := ⟨fun a b h => by cases h; rfl, fun a => keyOk_i a⟩
theorem key_S : KeyE false eS := ⟨fun a b h => by cases h; rfl, fun a => keyOk_s a⟩
theorem map_int_inj : ∀ {xs ys : List Int}, xs.map D.int = ys.map D.int → xs = ys
  | [], [], _ => rfl
  | [], _ :: _, h => by cases h
  | _ :: _, [], h => by cases h
  | x :: xs, y :: ys, h => by
    rw [List.map_cons, List.map_cons] at h
    injection h with h1 h2
    cases h1
    rw [map_int_inj h2]
theorem key_U : KeyE true (eU eI) := ⟨fun a b h => by
  have h : D.tup (a.map D.int) = D.tup (b.map D.int) := h
  injection h with h
  exact map_int_inj h, fun a => keyOk_t a⟩
theorem key_2 : KeyE true (e2 eI eI) := ⟨fun a b h => by
  have h : D.tup _ = D.tup _ := h
  injection h with h
  injection h with h1 h
  injection h with h2 h
  injection h1 with h1
  injection h2 with h2
  exact Prod.ext h1 h2, fun a => keyOk_t [a.1, a.2]⟩
theorem key_3 : KeyE true (e3 eI eI eI) := ⟨fun a b h => by
  have h : D.tup _ = D.tup _ := h
  injection h with h
  injection h with h1 h
  injection h with h2 h
  injection h with h3 h
  injection h1 with h1
  injection h2 with h2
  injection h3 with h3
  exact Prod.ext h1 (Prod.ext h2 h3), fun a => keyOk_t [a.1, a.2.1, a.2.2]⟩
variable [DecidableEq A] {t : Bool}
theorem look_map (h : KeyE t e) (k : A) : ∀ kvs : List (A × B), lookD (kvs.map fun p => (e p.1, f p.2)) (e k) = (aget kvs k).map f
  | [] => rfl
  | p :: kvs => by
    have ih := look_map h k kvs
    unfold lookD aget at *
    rw [List.map_cons, List.find?_cons, List.find?_cons]
    by_cases q : p.1 = k
    · simp [q]
    · have q2 : ¬ e p.1 = e k := fun z => q (h.inj _ _ z)
      simp only [q, q2, decide_false]
      exact ih
theorem any_map (h : KeyE t e) (k : A) : ∀ kvs : List (A × B), ((kvs.map fun p => (e p.1, f p.2)).any fun p => @decide (p.1 = e k) (Classical.propDecidable _)) = ahas kvs k
  | [] => rfl
  | p :: kvs => by
    have ih := any_map h k kvs
    unfold ahas at *
    rw [List.map_cons, List.any_cons, List.any_cons, ih]
    by_cases q : p.1 = k
    · simp [q]
    · have q2 : ¬ e p.1 = e k := fun z => q (h.inj _ _ z)
      simp [q, q2]
theorem put_map (h : KeyE t e) (k : A) (v : B) (kvs : List (A × B)) : putD (kvs.map fun p => (e p.1, f p.2)) (e k) (f v) = (aput kvs k v).map fun p => (e p.1, f p.2) := by
  unfold putD aput
  rw [any_map h]
  by_cases q : ahas kvs k = true
  · rw [if_pos q, if_pos q, List.map_map, List.map_map]
    apply List.map_congr_left
    intro p _
    by_cases z : p.1 = k
    · simp [z]
    · have z2 : ¬ e p.1 = e k := fun w => z (h.inj _ _ w)
      simp [z, z2]
  · rw [if_neg q, if_neg q, List.map_append]
    rfl
def dgetR (kvs : List (A × B)) (k : A) : Rt B := match aget kvs k with
  | some v => .ok v
  | none => .stuck
theorem quit_dgetR {kvs : List (A × B)} {k : A} : Quit (dgetR kvs k) := by
  unfold dgetR
  split
  · exact quit_ok
  · exact quit_stuck
theorem p_dget (h : KeyE t e) {kvs : List (A × B)} {k : A} : Prim (dIxA (eK t e f kvs) (e k)) (dgetR kvs k) (fun v => .val (f v)) := fun v q => by
  unfold dgetR at q
  split at q
  · rename_i w c
    cases q
    show dIxA (.dct _ _) _ = _
    rw [dIxA_d, if_pos (h.ok k), look_map h, c]
    rfl
  · cases q
theorem ahas_get {kvs : List (A × B)} {k : A} : ahas kvs k = (aget kvs k).isSome := by
  unfold ahas aget
  induction kvs with
  | nil => rfl
  | cons p kvs ih =>
    rw [List.any_cons, List.find?_cons]
    by_cases q : p.1 = k
    · simp [q]
    · simp only [q, decide_false]
      simpa using ih
theorem q_dIn (h : KeyE t e) {kvs : List (A × B)} {k : A} : dInA (e k) (eK t e f kvs) = .ok (.val (.bl (ahas kvs k))) := by
  show dInD (e k) (.dct _ _) = _
  unfold dInD
  dsimp only
  rw [if_pos (h.ok k), look_map h, ahas_get]
  simp
theorem q_dNin (h : KeyE t e) {kvs : List (A × B)} {k : A} : dNinA (e k) (eK t e f kvs) = .ok (.val (.bl (!ahas kvs k))) := by
  show dNinD (e k) (.dct _ _) = _
  unfold dNinD
  dsimp only
  rw [if_pos (h.ok k), look_map h, ahas_get]
  simp
def dputR (kvs : List (A × B)) (k : A) (v : B) : Rt (List (A × B)) := if kvs.length < 16000000 then .ok (aput kvs k v) else .stuck
theorem quit_dputR {kvs : List (A × B)} {k : A} {v : B} : Quit (dputR kvs k v) := quit_if quit_ok quit_stuck
theorem p_dput (h : KeyE t e) {kvs : List (A × B)} {k : A} {v : B} : PrimO (setA (eK t e f kvs) (e k) (f v)) (dputR kvs k v) (fun l => eK t e f l) := fun l q => by
  unfold dputR at q
  split at q
  · rename_i c
    cases q
    show setA (.dct _ _) _ _ = _
    rw [setA_d, if_pos ⟨h.ok k, by simpa using c⟩, put_map h]
  · cases q
theorem q_keysI {kvs : List (A × B)} : bListA [eK false e f kvs] = .ok (.own (eL e (akeys kvs))) := by
  show bListA [.dct _ _] = _
  rw [bListA_d, List.map_map]
  unfold akeys
  show _ = Rs.ok (VD.own (D.lst ((kvs.map (·.1)).map e)))
  rw [List.map_map]
  rfl
theorem q_keysT {kvs : List (A × B)} (hs : ∀ a, kSmall (e a) = true) : bListA [eK true e f kvs] = .ok (.own (eL e (akeys kvs))) := by
  show bListA [.dct _ _] = _
  rw [bListA_dt, List.map_map]
  · unfold akeys
    show _ = Rs.ok (VD.own (D.lst ((kvs.map (·.1)).map e)))
    rw [List.map_map]
    rfl
  · intro p hp
    obtain ⟨q, _, rfl⟩ := List.mem_map.mp hp
    exact hs _
end
theorem p_idxOfT {xs : List Int} {k : Int} : Prim (dIdx (.tpl xs) (.int k)) (idxOf xs k) mI := fun a h => by
  unfold idxOf at h
  split at h
  · rename_i j c
    cases h
    unfold dIdx
    simp [c]
  · cases h
end Pu
namespace Pu
open PySem L2

/-! # more rules for what the printer writes -/
def lete {A B : Type} (a : A) (f : A → Rt B) : Rt B := f a
@[simp] theorem lete_eq {A B : Type} (a : A) (f : A → Rt B) : lete a f = f a := rfl
def mkM {A : Type} (e : A → D) : Option A → VD
  | none => .val .non
  | some a => .own (e a)
section
variable {A B V W : Type} {E : EX} {K : Fl × Tp → Rs A} {y : Rt B} {R : A → B → Prop} {r : Env} {T : Tp} {p : Pat} {f g : DS} {e : DE} {i : Nat} {d : D} {a : V} {z : V → Rt B}
theorem s_asgL (m : Mat p r) (mk : V → VD) (hf : Pur e r (mk a)) (hv : ∀ x (r : Env), put r i (mk x) = .ok (r.set i (some (mk x)))) (k : ∀ x r', Mat (p.set i (.is (mk x))) r' → Sim E (K (.nx r', T)) (z x) R) : Sim E ((sAsg i e r T).bind K) (lete a z) R := s_asg m hf (hv a) (k a)
theorem s_augL {op : D → D → Rs VD} {b : D} (m : Mat p r) (mk : V → VD) (hi : p[i]? = some (.is (.val d))) (hf : Pd e r b) (ho : op d b = .ok (mk a)) (hv : ∀ x (r : Env), put r i (mk x) = .ok (r.set i (some (mk x)))) (k : ∀ x r', Mat (p.set i (.is (mk x))) r' → Sim E (K (.nx r', T)) (z x) R) : Sim E ((sAug op i e r T).bind K) (lete a z) R := s_aug m hi hf ho (hv a) (k a)
theorem Mat.castO {d' : D} (m : Mat p r) (h : p[i]? = some (.is (.own d))) (e : d' = d) : Mat (p.set i (.is (.own d'))) r := by
  subst e
  have hi := (List.getElem?_eq_some_iff.mp h)
  obtain ⟨hl, e⟩ := hi
  rw [← e, List.set_getElem_self]
  exact m
theorem Mat.selfI {x : PE} (m : Mat p r) (h : p[i]? = some x) : Mat (p.set i x) r := by
  obtain ⟨hl, e⟩ := List.getElem?_eq_some_iff.mp h
  rw [← e, List.set_getElem_self]
  exact m
theorem Mat.narrow {A : Type} {e : A → D} {o : Option A} {x : A} (m : Mat p r) (h : p[i]? = some (.is (.val (eO e o)))) (hx : o = some x) : Mat (p.set i (.is (.val (e x)))) r := by
  subst hx
  exact m.selfI h
theorem Mat.narrow0 {A : Type} {e : A → D} {o : Option A} (m : Mat p r) (h : p[i]? = some (.is (.val (eO e o)))) (hx : o = none) : Mat (p.set i (.is (.val .non))) r := by
  subst hx
  exact m.selfI h
def pMay {A : Type} (e : A → D) : Option A → PE
  | none => .free
  | some a => .is (.val (e a))
theorem Mat.may {A : Type} {e : A → D} {o : Option A} {x : A} (m : Mat p r) (h : p[i]? = some (pMay e o)) (hx : o = some x) : Mat (p.set i (.is (.val (e x)))) r := by
  subst hx
  exact m.selfI h
def augAt (xs : List Int) (k x : Int) : Rt (List Int) := match ixN xs.length k with
  | some j => (match xs[j]? with
    | some y => .ok (xs.set j (y + x))
    | none => .stuck)
  | none => .stuck
theorem s_augI {fi fe : DE} {xs : List Int} {kk x : Int} {z : List Int → Rt B} (m : Mat p r) (hi : p[i]? = some (.is (.own (eL eI xs)))) (hk : Pd fi r (.int kk)) (hx : Pd fe r (.int x)) (k : ∀ ys r', Mat (p.set i (.is (.own (eL eI ys)))) r' → Sim E (K (.nx r', T)) (z ys) R) : Sim E ((sAugI i fi fe r T).bind K) ((augAt xs kk x).bind z) R := by
  rw [sAugI_ap, m.get hi]
  show Sim E ((sAugK i fi fe r T (some (some (.own (.lst (xs.map D.int)))))).bind K) _ R
  rw [sAugK_own, hk T, Rs.bind_ok]
  show Sim E (((rO (ixN (xs.map D.int).length kk)).bind _).bind K) _ R
  rw [List.length_map]
  cases e : ixN xs.length kk with
  | none =>
    rw [show augAt xs kk x = .stuck by unfold augAt; rw [e]]
    trivial
  | some j =>
    show Sim E (((rO (xs.map D.int)[j]?).bind _).bind K) _ R
    rw [List.getElem?_map]
    cases e2 : xs[j]? with
    | none =>
      rw [show augAt xs kk x = .stuck by unfold augAt; simp only [e, e2]]
      trivial
    | some y =>
      rw [show augAt xs kk x = .ok (xs.set j (y + x)) by unfold augAt; simp only [e, e2]]
      show Sim E (((dt (fe r T)).bind _).bind K) _ R
      rw [hx T, Rs.bind_ok]
      have := k (xs.set j (y + x)) _ (m.set i (.own (eL eI (xs.set j (y + x)))))
      show Sim E (K (.nx (r.set i (some (.own (.lst ((xs.map D.int).set j (.int (y + x))))))), T)) _ R
      rw [show (xs.map D.int).set j (.int (y + x)) = (xs.set j (y + x)).map D.int by rw [List.map_set]]
      exact this
theorem isNone_none {A : Type} {o : Option A} (h : o = none) : Option.isNone o = true := by rw [h]; rfl
theorem isNone_some {A : Type} {o : Option A} {a : A} (h : o = some a) : Option.isNone o = false := by rw [h]; rfl
theorem isSome_none {A : Type} {o : Option A} (h : o = none) : Option.isSome o = false := by rw [h]; rfl
theorem isSome_some {A : Type} {o : Option A} {a : A} (h : o = some a) : Option.isSome o = true := by rw [h]; rfl
theorem s_ifT {c : DT} {b : Bool} (hc : Pur c r b) (hb : b = true) (k : Sim E ((f r T).bind K) y R) : Sim E ((sIf c f g r T).bind K) y R := by
  subst hb
  rw [sIf_ap, hc T, Rs.bind_ok, if_pos rfl]
  exact k
theorem s_ifF {c : DT} {b : Bool} (hc : Pur c r b) (hb : b = false) (k : Sim E ((g r T).bind K) y R) : Sim E ((sIf c f g r T).bind K) y R := by
  subst hb
  rw [sIf_ap, hc T, Rs.bind_ok, if_neg Bool.false_ne_true]
  exact k
theorem s_tfld {cs : List PySem.Str} {f c : PySem.Str} {fs fs' : List (PySem.Str × D)} {e : DE} (ht : r[i]? = some (some .tape)) (he : Pv e r d) (hc : cs.contains c = true) (hl : Nat.blt fs.length 1000 = true) (hp : putFD f d fs = fs') (k : Sim E (K (.nx r, some (.ins c fs'))) y R) : Sim E ((sTfld i cs f e r (some (.ins c fs))).bind K) y R := by
  unfold sTfld
  rw [he, Rs.bind_ok, ht]
  show Sim E (Rs.bind (if cs.contains c ∧ fs.length < 1000 then _ else _) K) y R
  rw [if_pos ⟨hc, by simpa [Nat.blt_eq] using hl⟩]
  subst hp
  exact k
theorem plug_tfld {cs : List PySem.Str} {f : PySem.Str} {e k : DE} {f' : VD → DE} (h : Plug e k f' r) : Plug (sTfld i cs f e) k (fun v => sTfld i cs f (f' v)) r := .mk fun T K => plug_dv h T _ K
theorem h_chain {op op' : D → D → Rs VD} {f g h : DE} {K : VD × Tp → Rs A} {a b : D} {x : Bool} {w : Rt Bool} {z : Bool → Rt B} (hf : Pd f r a) (hg : Pd g r b) (ho : op a b = .ok (.val (.bl x)))
    (h1 : x = true → Sim E ((eOp op' (cst (.val b)) h r T).bind Rs.ok) w (fun q y => q = (mB y, T))) (k : ∀ b, Sim E (K (mB b, T)) (z b) R) : Sim E ((eChain op op' f g h r T).bind K) ((if x = true then w else .ok false).bind z) R := by
  rw [eChain_ap, hf T, Rs.bind_ok, hg T, Rs.bind_ok]
  show Sim E (((op a b).bind _).bind K) _ R
  rw [ho, Rs.bind_ok, chK_bl]
  cases x with
  | true =>
    rw [if_pos rfl]
    refine Sim.bind (bind_id _ ▸ h1 rfl) (fun _ _ h => h) fun q b hq => ?_
    rw [hq]
    exact k b
  | false => exact k false
end
theorem law_sim {g : DS} {r : Env} {T : Tp} {y : Rt (Bool × Tp)} (h : Sim ET ((g r T).bind endK) y (RT (fun x => VD.val (eB x)))) (k : wr y fun b => b.1 = true) : wp (g r T) fun p => p.1 = .rt (.val (.bl true)) := by
  obtain ⟨b, rfl, hb⟩ := k
  obtain ⟨a, e, q⟩ := h
  cases hg : g r T with
  | stuck => rw [hg] at e; cases e
  | exc c fs t r => rw [hg] at e; cases e
  | ok p =>
    rw [hg] at e
    refine ⟨p, rfl, ?_⟩
    obtain ⟨fl, T'⟩ := p
    have q : a = _ := q
    cases fl with
    | nx r =>
      have e : Rs.ok (VD.val D.non, T') = Rs.ok a := e
      cases e
      cases q
    | rt v =>
      have e : Rs.ok (v, T') = Rs.ok a := e
      cases e
      cases q
      show Fl.rt _ = _
      rw [hb]
    | bk r => cases e
    | ct r => cases e
theorem pick_sim {M : DM} (n : Int) (T : Tp) (p : Int → Tp → Rt (Int × Tp)) (h : p n T = match M [.int n] T with
  | .ok (.val (.int i), T) => .ok (i, T)
  | _ => .stuck) : Sim ET (M [eI n] T) (p n T) (RT (fun x => VD.val (eI x))) := by
  rw [h]
  show Sim ET (M [.int n] T) _ _
  split
  · rename_i i T' e
    rw [e]
    exact ⟨_, rfl, rfl⟩
  · trivial
/-! kinds -/
section
variable {A B C X : Type} {e : A → D} {f : B → D} {g : C → D} {h : X → D}
theorem nn_2 [DecidableEq A] [DecidableEq B] : NN (e2 e f) := nn_tup
theorem nn_3 [DecidableEq A] [DecidableEq B] [DecidableEq C] : NN (e3 e f g) := nn_tup
theorem nn_4 [DecidableEq A] [DecidableEq B] [DecidableEq C] [DecidableEq X] : NN (e4 e f g h) := nn_tup
theorem Ord.up [DecidableEq A] {n m : Nat} {lt : A → A → Bool} (k : Ord n e lt) (h : n ≤ m) : Ord m e lt := ⟨k.enc.up h, k.lt, k.al⟩
theorem coe_L {A' : Type} {e' : A' → D} {c : A → A'} (h : ∀ x, e' (c x) = e x) (xs : List A) : eL e' (xs.map c) = eL e xs := by
  show D.lst ((xs.map c).map e') = D.lst (xs.map e)
  rw [List.map_map]
  congr 1
  exact List.map_congr_left fun x _ => h x
theorem coe_U {A' : Type} {e' : A' → D} {c : A → A'} (h : ∀ x, e' (c x) = e x) (xs : List A) : eU e' (xs.map c) = eU e xs := by
  show D.tup ((xs.map c).map e') = D.tup (xs.map e)
  rw [List.map_map]
  congr 1
  exact List.map_congr_left fun x _ => h x
theorem coe_O {A' : Type} {e' : A' → D} {c : A → A'} (h : ∀ x, e' (c x) = e x) (o : Option A) : eO e' (o.map c) = eO e o := by
  cases o with
  | none => rfl
  | some a => exact h a
theorem q_isiS {cs : List PySem.Str} {t : D → Rs VD} {o : Option A} (h1 : t .non = .ok (.val (.bl false))) (h2 : ∀ a, t (e a) = .ok (.val (.bl true))) : t (eO e o) = .ok (.val (.bl o.isSome)) := by
  cases o with
  | none => exact h1
  | some a => exact h2 a
theorem q_isiF {cs : List PySem.Str} {t : D → Rs VD} {o : Option A} (h1 : t .non = .ok (.val (.bl false))) (h2 : ∀ a, t (e a) = .ok (.val (.bl false))) : t (eO e o) = .ok (.val (.bl false)) := by
  cases o with
  | none => exact h1
  | some a => exact h2 a
theorem q_getK1 [DecidableEq A] {t : Bool} (k : KeyE t e) {kvs : List (A × B)} {a : A} : getK (e a) .non (eK t e f kvs) = .ok (eO f (aget kvs a)) := by
  show getK (e a) .non (.dct _ _) = _
  rw [getK_d, if_pos (k.ok a), look_map k]
  cases aget kvs a <;> rfl
theorem q_getK2 [DecidableEq A] {t : Bool} (k : KeyE t e) {kvs : List (A × B)} {a : A} {b : B} : getK (e a) (f b) (eK t e f kvs) = .ok (f ((aget kvs a).getD b)) := by
  show getK (e a) (f b) (.dct _ _) = _
  rw [getK_d, if_pos (k.ok a), look_map k]
  cases aget kvs a <;> rfl
theorem q_isB (b c : Bool) : dIsB (.bl b) (.bl c) = .ok (.val (.bl (decide (b = c)))) := by cases b <;> cases c <;> rfl
theorem q_isnB (b c : Bool) : dIsnB (.bl b) (.bl c) = .ok (.val (.bl (!decide (b = c)))) := by cases b <;> cases c <;> rfl
theorem q_ifD {c : DT} {f g : DE} {r : Env} {x : Bool} {mk : A → VD} {a b : A} (hc : Pur c r x) (hf : x = true → Pur f r (mk a)) (hg : x = false → Pur g r (mk b)) : Pur (eIf c f g) r (mk (if x = true then a else b)) := by
  have := q_if hc hf hg
  cases x <;> exact this
end
theorem p_idxOfL {xs : List Int} {k : Int} : Prim (dIdx (eL eI xs) (.int k)) (idxOf xs k) mI := fun a h => by
  unfold idxOf at h
  split at h
  · rename_i j c
    cases h
    show dIdx (.lst _) _ = _
    rw [dIdx_l, ints_map]
    show ((rO (idxI k xs)).bind _) = _
    rw [c]
    rfl
  · cases h
theorem q_eqTU (a b : List Int) : dEq (eT a) (eU eI b) = .ok (.val (.bl (decide (a = b)))) := dEq_pt a b
theorem q_eqUT (a b : List Int) : dEq (eU eI a) (eT b) = .ok (.val (.bl (decide (a = b)))) := dEq_tp a b
theorem q_chain3 {op op' op'' : D → D → Rs VD} {f g h k : DE} {r : Env} {a b c e : D} {x y z : Bool} (hf : Pd f r a) (hg : Pd g r b) (hh : Pd h r c) (hk : Pd k r e) (ho : op a b = .ok (.val (.bl x))) (ho' : op' b c = .ok (.val (.bl y))) (ho'' : op'' c e = .ok (.val (.bl z))) : Pur (eChain3 op op' op'' f g h k) r (.val (.bl (x && (y && z)))) := fun T => by
  unfold eChain3
  rw [hf T, Rs.bind_ok, hg T, Rs.bind_ok]
  show (op a b).bind _ = _
  rw [ho, Rs.bind_ok]
  cases x with
  | false => rfl
  | true =>
    show (if true = true then eLink op' op'' h k b r T else _) = _
    rw [if_pos rfl]
    unfold eLink
    rw [hh T, Rs.bind_ok]
    show (op' b c).bind _ = _
    rw [ho', Rs.bind_ok]
    cases y with
    | false => rfl
    | true =>
      show (if true = true then (dt (k r T)).bind _ else _) = _
      rw [if_pos rfl, hk T, Rs.bind_ok]
      show lift (op'' c e) T = _
      rw [ho'']
      rfl
theorem plug_c31 {op op' op'' : D → D → Rs VD} {f g h1 h2 k : DE} {r : Env} {f' : VD → DE} (h : Plug f k f' r) : Plug (eChain3 op op' op'' f g h1 h2) k (fun v => eChain3 op op' op'' (f' v) g h1 h2) r := .mk fun T K => plug_dt h T _ K
theorem plug_c32 {op op' op'' : D → D → Rs VD} {f g h1 h2 k : DE} {r : Env} {a : D} {f' : VD → DE} (hf : Pd f r a) (h : Plug g k f' r) : Plug (eChain3 op op' op'' f g h1 h2) k (fun v => eChain3 op op' op'' f (f' v) h1 h2) r := .mk fun T K => by
  unfold eChain3
  rw [hf T, Rs.bind_ok, plug_dt h T]
  congr 1
  funext p
  show _ = Rs.bind (eChain3 op op' op'' f (f' p.1) h1 h2 r p.2) K
  unfold eChain3
  rw [hf p.2, Rs.bind_ok]
def catT (xs ys : List Int) : Rt (List Int) := if xs ≠ [] ∧ ys ≠ [] ∧ xs.length + ys.length ≤ 16000000 then .ok (xs ++ ys) else .stuck
theorem quit_catT {xs ys : List Int} : Quit (catT xs ys) := quit_if quit_ok quit_stuck
theorem nmap {A B : Type} {f : A → B} {xs : List A} (h : xs ≠ []) : xs.map f ≠ [] := fun w => h (List.map_eq_nil_iff.mp w)
theorem p_catTU {xs ys : List Int} : Prim (dAddA (eT xs) (eU eI ys)) (catT xs ys) (fun a => .val (eU eI a)) := fun a h => by
  unfold catT at h
  split at h
  · rename_i c
    cases h
    show (if xs ≠ [] ∧ ys.map D.int ≠ [] ∧ xs.length + (ys.map D.int).length ≤ 16000000 then Rs.ok (VD.val (D.tup (xs.map D.int ++ ys.map D.int))) else .stuck) = _
    rw [if_pos ⟨c.1, nmap c.2.1, by simpa using c.2.2⟩, ← List.map_append]
  · cases h
theorem p_catUT {xs ys : List Int} : Prim (dAddA (eU eI xs) (eT ys)) (catT xs ys) (fun a => .val (eU eI a)) := fun a h => by
  unfold catT at h
  split at h
  · rename_i c
    cases h
    show (if xs.map D.int ≠ [] ∧ ys ≠ [] ∧ (xs.map D.int).length + ys.length ≤ 16000000 then Rs.ok (VD.val (D.tup (xs.map D.int ++ ys.map D.int))) else .stuck) = _
    rw [if_pos ⟨nmap c.1, c.2.1, by simpa using c.2.2⟩, ← List.map_append]
  · cases h
theorem p_catTT {xs ys : List Int} : Prim (dAddA (eT xs) (eT ys)) (catT xs ys) (fun a => .val (eU eI a)) := fun a h => by
  unfold catT at h
  split at h
  · rename_i c
    cases h
    show (if xs ≠ [] ∧ ys ≠ [] ∧ xs.length + ys.length ≤ 16000000 then Rs.ok (VD.val (D.tup (xs.map D.int ++ ys.map D.int))) else .stuck) = _
    rw [if_pos c, ← List.map_append]
  · cases h
theorem q_rvT {xs : List Int} : dRvA (eT xs) = .ok (.val (eU eI xs.reverse)) := by
  show Rs.ok (VD.val (D.tup (xs.map D.int).reverse)) = _
  rw [← List.map_reverse]
theorem q_sumT {xs : List Int} : bSumA [eT xs] = .ok (.val (.int xs.sum)) := rfl
end Pu
namespace Pu
open PySem L2

/-! # plain: loops by what is done so far -/
section
variable {A B S : Type}
theorem forS_ind {f : A → S → Rt S} (F : List A → S) : ∀ (xs pre : List A), (∀ p x q, pre ++ xs = p ++ x :: q → pre.length ≤ p.length → f x (F p) = .ok (F (p ++ [x]))) → forS xs (F pre) f = .ok (F (pre ++ xs))
  | [], pre, _ => by rw [List.append_nil]; rfl
  | x :: xs, pre, h => by
    unfold forS
    rw [h pre x xs rfl (Nat.le_refl _), Rt.bind_ok]
    have := forS_ind F xs (pre ++ [x]) fun p y q e hl => h p y q (by rw [← e]; simp) (by simp at hl; omega)
    rw [this]
    simp
/-- a for whose state is told by the items so far -/
theorem forS_pre {f : A → S → Rt S} (F : List A → S) (xs : List A) {s0 : S} (h0 : F [] = s0) (h : ∀ p x q, xs = p ++ x :: q → f x (F p) = .ok (F (p ++ [x]))) : forS xs s0 f = .ok (F xs) := by
  subst h0
  have := forS_ind F xs [] fun p x q e _ => h p x q (by simpa using e)
  simpa using this
theorem mem_pre {xs p q : List A} {x : A} (e : xs = p ++ x :: q) : x ∈ xs := by rw [e]; simp
theorem len_pre {xs p q : List A} {x : A} (e : xs = p ++ x :: q) : p.length < xs.length := by rw [e]; simp
theorem get_pre {xs p q : List A} {x : A} (e : xs = p ++ x :: q) : xs[p.length]? = some x := by rw [e]; simp
/-- rows put behind one another -/
theorem flat_snoc {g : A → List B} {p : List A} {x : A} : (p ++ [x]).flatMap g = p.flatMap g ++ g x := by simp
theorem flat_len {g : A → List B} {n : Nat} : ∀ {xs : List A}, (∀ x ∈ xs, (g x).length ≤ n) → (xs.flatMap g).length ≤ xs.length * n
  | [], _ => by simp
  | x :: xs, h => by
    have a := h x List.mem_cons_self
    have b := flat_len (g := g) (n := n) (xs := xs) fun y hy => h y (List.mem_cons_of_mem _ hy)
    simp only [List.flatMap_cons, List.length_append, List.length_cons]
    have : (xs.length + 1) * n = xs.length * n + n := Nat.succ_mul _ _
    omega
theorem filter_len {g : A → Bool} {xs : List A} : (xs.filter g).length ≤ xs.length := List.length_filter_le _ _
theorem range_len {a b : Int} : ((List.range (b - a).toNat).map fun (i : Nat) => a + (i : Int)).length = (b - a).toNat := by simp
theorem rng_ok {a b : Int} (h : -8000000 ≤ a ∧ a ≤ 8000000 ∧ -8000000 ≤ b ∧ b ≤ 8000000) : rng a b = .ok (rngL a b) := by
  unfold rng
  rw [if_pos h]
  rfl
@[simp] theorem rngL_len (a b : Int) : (rngL a b).length = (b - a).toNat := by simp [rngL]
theorem rngL_get {a b : Int} {i : Nat} {x : Int} (h : (rngL a b)[i]? = some x) : x = a + i ∧ a ≤ x ∧ x < b := by
  unfold rngL at h
  rw [List.getElem?_map] at h
  obtain ⟨j, hj, rfl⟩ := Option.map_eq_some_iff.mp h
  obtain ⟨hl, e⟩ := List.getElem?_eq_some_iff.mp hj
  rw [List.getElem_range] at e
  subst e
  rw [List.length_range] at hl
  omega
theorem rngL_mem {a b x : Int} : x ∈ rngL a b ↔ a ≤ x ∧ x < b := by
  unfold rngL
  rw [List.mem_map]
  constructor
  · rintro ⟨i, hi, rfl⟩
    rw [List.mem_range] at hi
    omega
  · rintro ⟨h1, h2⟩
    exact ⟨(x - a).toNat, List.mem_range.mpr (by omega), by omega⟩
theorem idx_some {xs : List A} {i : Int} (h0 : 0 ≤ i) (h1 : i < xs.length) : idx xs i = .ok (xs[i.toNat]'(by omega)) := idx_ok (atI_some h0 h1)
theorem idx_vl {ns : List Int} {k : Int} (h : 0 ≤ k ∧ k < ns.length) : idx ns k = .ok (vl ns k) := idx_ok (atI_vl h)
theorem imul_ok {i j : Int} (h : -(2 ^ 64) < i ∧ i < 2 ^ 64) : imul i j = .ok (i * j) := if_pos (.inl h)
/-- each once, as it first comes -/
def dd [DecidableEq A] (xs : List A) : List A := xs.foldl (fun acc x => if x ∈ acc then acc else acc ++ [x]) []
theorem dd_snoc [DecidableEq A] (xs : List A) (x : A) : dd (xs ++ [x]) = if x ∈ dd xs then dd xs else dd xs ++ [x] := by
  unfold dd
  rw [List.foldl_append]
  rfl
theorem snoc_ind' {P : List A → Prop} (h0 : P []) (hs : ∀ xs x, P xs → P (xs ++ [x])) (xs : List A) : P xs := by
  have : ∀ n (xs : List A), xs.length = n → P xs := fun n => by
    induction n with
    | zero => intro xs h; rw [List.eq_nil_of_length_eq_zero h]; exact h0
    | succ n ih =>
      intro xs h
      have hne : xs ≠ [] := fun e => by rw [e] at h; cases h
      rw [← List.dropLast_concat_getLast hne]
      exact hs _ _ (ih _ (by rw [List.length_dropLast]; omega))
  exact this _ xs rfl
theorem dd_spec [DecidableEq A] (xs : List A) : (dd xs).Nodup ∧ (∀ x, x ∈ dd xs ↔ x ∈ xs) ∧ (dd xs).length ≤ xs.length := by
  refine snoc_ind' (P := fun xs : List A => (dd xs).Nodup ∧ (∀ x, x ∈ dd xs ↔ x ∈ xs) ∧ (dd xs).length ≤ xs.length) ?_ ?_ xs
  · exact ⟨List.nodup_nil, fun x => Iff.rfl, Nat.le_refl _⟩
  · rintro xs x ⟨h1, h2, h3⟩
    rw [dd_snoc]
    by_cases c : x ∈ dd xs
    · rw [if_pos c]
      refine ⟨h1, fun y => ?_, by simp; omega⟩
      rw [h2, List.mem_append, List.mem_singleton]
      constructor
      · exact .inl
      · rintro (z | rfl)
        · exact z
        · exact (h2 y).mp c
    · rw [if_neg c]
      refine ⟨List.nodup_append.mpr ⟨h1, by simp, fun a ha b hb e => ?_⟩, fun y => ?_, by simp; omega⟩
      · rw [List.mem_singleton.mp hb] at e
        subst e
        exact c ha
      · rw [List.mem_append, List.mem_append, h2]
theorem akeys_put [DecidableEq A] (kvs : List (A × B)) (k : A) (v : B) : akeys (aput kvs k v) = if k ∈ akeys kvs then akeys kvs else akeys kvs ++ [k] := by
  have e : ahas kvs k = decide (k ∈ akeys kvs) := by
    unfold ahas akeys
    rw [Bool.eq_iff_iff, List.any_eq_true, decide_eq_true_eq, List.mem_map]
    constructor
    · rintro ⟨p, hp, h⟩
      exact ⟨p, hp, of_decide_eq_true h⟩
    · rintro ⟨p, hp, h⟩
      exact ⟨p, hp, decide_eq_true h⟩
  unfold aput
  rw [e]
  by_cases c : k ∈ akeys kvs
  · rw [if_pos (decide_eq_true c), if_pos c]
    unfold akeys
    rw [List.map_map]
    apply List.map_congr_left
    intro p _
    show (if p.1 = k then (p.1, v) else p).1 = p.1
    split <;> rfl
  · rw [if_neg (by simpa using c), if_neg c]
    simp [akeys]
/-- found once more or not, as they come -/
theorem pair_dd [DecidableEq A] (xs : List A) : xs.foldl (fun acc x => if x ∈ acc then acc else acc ++ [x]) [] = dd xs := rfl
end
theorem wr_b {A B : Type} {x : Rt B} {f : B → Rt A} {P : B → Prop} {Q : A → Prop} (h : wr x P) (k : ∀ b, P b → wr (f b) Q) : wr (x.bind f) Q := (wr_bind x f).mpr (wr_imp h k)
theorem wr_mapT_mem {A B : Type} {f : A → Tp → Rt (B × Tp)} (It : Tp → Prop) (P : B → Prop) (xs : List A) (T : Tp) (ht : It T) (h : ∀ x ∈ xs, ∀ T, It T → wr (f x T) fun y => P y.1 ∧ It y.2) : wr (mapT f xs T) fun p => It p.2 ∧ p.1.length = xs.length ∧ ∀ y ∈ p.1, P y := by
  refine wr_imp (wr_mapT_all It (fun _ y => P y) xs T ht h) fun p ⟨q1, q2, q3⟩ => ⟨q1, q2, fun y hy => ?_⟩
  obtain ⟨i, hi⟩ := List.getElem?_of_mem hy
  have hl := (List.getElem?_eq_some_iff.mp hi).1
  exact q3 i _ y (List.getElem?_eq_getElem (by omega)) hi
/-! ## loops drawn -/
def LpsM (m l : Int) (ns : List Int) : Prop := 0 < ns.length ∧ (ns.length : Int) ≤ m ∧ (∀ x ∈ ns, 1 ≤ x ∧ x ≤ l) ∧ 1 ∈ ns
theorem LpsM.lps {m l : Int} {ns : List Int} (h : LpsM m l ns) (hm : m ≤ 8) (hl : l ≤ 40) : Lps ns := ⟨h.1, by have := h.2.1; omega, fun x hx => by have := h.2.2.1 x hx; omega⟩
/-! ## rows -/
structure RowW (ns row : List Int) (w : Int) : Prop where
  ok : RowOk ns row
  sum : (row.map (vl ns)).sum = w
theorem vl_pos {ns : List Int} (h : Lps ns) {k : Int} (hk : 0 ≤ k ∧ k < ns.length) : 1 ≤ vl ns k ∧ vl ns k ≤ 40 := by
  unfold vl
  exact h.2.2 _ (nth_mem (by omega))
theorem row_len {ns : List Int} (h : Lps ns) : ∀ {row : List Int}, RowOk ns row → (row.length : Int) ≤ (row.map (vl ns)).sum
  | [], _ => by simp
  | k :: row, hr => by
    have a := vl_pos h (hr k List.mem_cons_self)
    have b := row_len h (row := row) fun x hx => hr x (List.mem_cons_of_mem _ hx)
    simp only [List.length_cons, List.map_cons, List.sum_cons]
    omega
theorem idx_one' {ns : List Int} (h : 1 ∈ ns) : ∃ j : Int, idxOf ns 1 = .ok j ∧ (0 ≤ j ∧ j < ns.length) ∧ vl ns j = 1 := by
  obtain ⟨j, e, hj⟩ := idxI_mem h
  obtain ⟨a, _⟩ := idxI_get e
  refine ⟨(j : Nat), by unfold idxOf; rw [e], by omega, ?_⟩
  unfold vl
  rw [Int.toNat_natCast, nth_get hj]
  exact (List.getElem?_eq_some_iff.mp a).2
theorem rowOk_app {ns r s : List Int} (h : RowOk ns r) (k : RowOk ns s) : RowOk ns (r ++ s) := fun x hx => by
  rcases List.mem_append.mp hx with z | z
  · exact h x z
  · exact k x z
theorem rowOk_one {ns : List Int} {k : Int} (h : 0 ≤ k ∧ k < ns.length) : RowOk ns [k] := fun x hx => by rw [List.mem_singleton.mp hx]; exact h
/-- a table's loops and rows -/
structure Tab (ns : List Int) (rows : List (List Int)) : Prop where
  lps : Lps ns
  pos : 1 ≤ rows.length
  len : rows.length ≤ 60
  row : ∀ (i : Nat) (r : List Int), rows[i]? = some r → RowW ns r (i + 1)
theorem Tab.rw {ns : List Int} {rows : List (List Int)} (h : Tab ns rows) {r : List Int} (hr : r ∈ rows) : ∃ w : Int, 1 ≤ w ∧ w ≤ 60 ∧ RowW ns r w := by
  obtain ⟨i, hi⟩ := List.getElem?_of_mem hr
  have hl := (List.getElem?_eq_some_iff.mp hi).1
  have := h.len
  exact ⟨i + 1, by omega, by omega, h.row i r hi⟩
theorem Tab.rlen {ns : List Int} {rows : List (List Int)} (h : Tab ns rows) {r : List Int} (hr : r ∈ rows) : r.length ≤ 60 := by
  obtain ⟨w, w0, w1, q⟩ := h.rw hr
  have := row_len h.lps q.ok
  rw [q.sum] at this
  omega
theorem Tab.take {ns : List Int} {rows : List (List Int)} (h : Tab ns rows) {n : Nat} (h1 : 1 ≤ n) : Tab ns (rows.take n) := by
  have a := h.pos
  have b := h.len
  refine ⟨h.lps, by rw [List.length_take]; omega, by rw [List.length_take]; omega, fun i r hr => h.row i r ?_⟩
  rw [List.getElem?_take] at hr
  split at hr
  · exact hr
  · cases hr
/-! ## entries -/
abbrev Ent := Int × Int × Int
def ents (ns : List Int) (rows : List (List Int)) : List Ent := rows.flatMap (entR ns)
theorem entR_len {ns row : List Int} : (entR ns row).length = row.length := by unfold entR; exact entL_len _ _ _ _
theorem entL_snoc (f : Int → Int) : ∀ (r : List Int) (g l : Int) (k : Int), entL f g l (r ++ [k]) = entL f g l r ++ [(k, g + (r.map f).sum, l - (r.map f).sum)]
  | [], g, l, k => by simp [entL]
  | x :: r, g, l, k => by
    have := entL_snoc f r (g + f x) (l - f x) k
    simp only [List.cons_append, entL, this, List.map_cons, List.sum_cons]
    rw [show g + f x + (r.map f).sum = g + (f x + (r.map f).sum) by omega, show l - f x - (r.map f).sum = l - (f x + (r.map f).sum) by omega]
theorem ents_len {ns : List Int} {rows : List (List Int)} (h : Tab ns rows) : (ents ns rows).length ≤ 3600 := by
  have a := flat_len (g := entR ns) (n := 60) (xs := rows) fun r hr => by rw [entR_len]; exact h.rlen hr
  have b := h.len
  show (rows.flatMap (entR ns)).length ≤ 3600
  have : rows.length * 60 ≤ 60 * 60 := Nat.mul_le_mul_right _ b
  omega
abbrev ltE : Ent → Ent → Bool := ltP ltI (ltP ltI ltI)
theorem lin_E : Lin ltE := lin_P lin_I (lin_P lin_I lin_I)
abbrev ltEE : Ent × Ent → Ent × Ent → Bool := ltP ltE ltE
theorem lin_EE : Lin ltEE := lin_P lin_E lin_E
/-- the entries of a table, in order, each once -/
def entS (ns : List Int) (rows : List (List Int)) : List Ent := srt ltE (dd (ents ns rows))
theorem entS_nodup (ns : List Int) (rows : List (List Int)) : (entS ns rows).Nodup := (srt_perm _).nodup_iff.mpr (dd_spec _).1
theorem entS_mem {ns : List Int} {rows : List (List Int)} {e : Ent} : e ∈ entS ns rows ↔ e ∈ ents ns rows := by
  unfold entS
  rw [srt_mem]
  exact (dd_spec _).2.1 e
theorem entS_len {ns : List Int} {rows : List (List Int)} (h : Tab ns rows) : (entS ns rows).length ≤ 3600 := by
  unfold entS
  rw [srt_length]
  have := (dd_spec (ents ns rows)).2.2
  have := ents_len h
  omega
/-- the pairs that clash -/
def isC (c : Int) (a b : Ent) : Bool := decide (a.1 = b.1) && decide (a.2.2 < b.2.2) && cl c a b
theorem isC_hit {c : Int} {a b : Ent} : isC c a b = hit c a b := by
  unfold isC hit cl
  rw [Bool.eq_iff_iff]
  simp only [Bool.and_eq_true, decide_eq_true_eq]
  constructor
  · rintro ⟨⟨h1, _⟩, h3⟩
    exact ⟨h1, h3⟩
  · rintro ⟨h1, h2, h3, h4⟩
    exact ⟨⟨h1, by omega⟩, h2, h3, h4⟩
def prC (c : Int) (es : List Ent) : List (Ent × Ent) := es.flatMap fun a => (es.filter (isC c a)).map fun b => (a, b)
theorem prC_mem {c : Int} {es : List Ent} {p : Ent × Ent} : p ∈ prC c es ↔ p.1 ∈ es ∧ p.2 ∈ es ∧ hit c p.1 p.2 = true := by
  unfold prC
  rw [List.mem_flatMap]
  constructor
  · rintro ⟨a, ha, h⟩
    obtain ⟨b, hb, rfl⟩ := List.mem_map.mp h
    obtain ⟨hb, hc⟩ := List.mem_filter.mp hb
    exact ⟨ha, hb, by rw [← isC_hit]; exact hc⟩
  · rintro ⟨h1, h2, h3⟩
    exact ⟨p.1, h1, List.mem_map.mpr ⟨p.2, List.mem_filter.mpr ⟨h2, by rw [isC_hit]; exact h3⟩, rfl⟩⟩
theorem prC_nodup {c : Int} {es : List Ent} (h : es.Nodup) : (prC c es).Nodup := by
  unfold prC
  have key : ∀ as : List Ent, as.Nodup → (as.flatMap fun a => (es.filter (isC c a)).map fun b => (a, b)).Nodup := by
    intro as
    induction as with
    | nil => intro _; exact List.nodup_nil
    | cons a as ih =>
      intro hn
      rw [List.nodup_cons] at hn
      rw [List.flatMap_cons]
      refine List.nodup_append.mpr ⟨?_, ih hn.2, ?_⟩
      · unfold List.Nodup
        rw [List.pairwise_map]
        exact (h.filter _).imp fun ne e => ne (Prod.mk.inj e).2
      · rintro x hx y hy rfl
        obtain ⟨b, _, rfl⟩ := List.mem_map.mp hx
        obtain ⟨a2, h2, hy⟩ := List.mem_flatMap.mp hy
        obtain ⟨b2, _, e⟩ := List.mem_map.mp hy
        rw [(Prod.mk.inj e).1] at h2
        exact hn.1 h2
  exact key es h
def clsT (c : Int) (ns : List Int) (rows : List (List Int)) : List (Ent × Ent) := srt ltEE (prC c (entS ns rows))
theorem clsT_mem {c : Int} {ns : List Int} {rows : List (List Int)} {p : Ent × Ent} : p ∈ clsT c ns rows ↔ p.1 ∈ ents ns rows ∧ p.2 ∈ ents ns rows ∧ hit c p.1 p.2 = true := by
  unfold clsT
  rw [srt_mem, prC_mem, entS_mem, entS_mem]
theorem hit_mono {c d : Int} (h : c ≤ d) {a b : Ent} (k : hit c a b = true) : hit d a b = true := by
  rw [hit_iff] at k ⊢
  obtain ⟨k1, k2, k3, k4⟩ := k
  refine ⟨k1, k2, k3, ?_⟩
  have := Int.mul_le_mul_of_nonneg_right h (show 0 ≤ a.2.1 - b.2.1 by omega)
  omega
end Pu
namespace Pu
open PySem L2

/-! # doubling lists, the line of letters, what plays at a tick (plain) -/
theorem erase_perm : ∀ (xs : List Int) (j : Nat) (h : j < xs.length), (xs[j] :: xs.eraseIdx j).Perm xs
  | [], j, h => absurd h (Nat.not_lt_zero j)
  | x :: xs, 0, _ => List.Perm.refl _
  | x :: xs, j + 1, h => by
    have ih := erase_perm xs j (by simpa using h)
    exact (List.Perm.swap x _ _).trans (ih.cons x)
theorem perm_step {xs ys ns : List Int} {j : Nat} (hj : j < xs.length) (h : (xs ++ ys).Perm ns) : (xs.eraseIdx j ++ (ys ++ [xs[j]])).Perm ns := by
  refine List.Perm.trans ?_ h
  have h1 : (xs[j] :: xs.eraseIdx j).Perm xs := erase_perm xs j hj
  have h2 : (xs.eraseIdx j ++ (ys ++ [xs[j]])).Perm ((xs[j] :: xs.eraseIdx j) ++ ys) := by
    rw [← List.append_assoc]
    exact List.perm_append_comm
  exact h2.trans (h1.append_right ys)
theorem nth_app_lt {s : List Int} {x : Int} {i : Nat} (h : i < s.length) : nth (s ++ [x]) i = nth s i := by
  rw [nth_get h, nth_get (by rw [List.length_append]; omega), List.getElem_append_left h]
theorem nth_app_eq {s : List Int} {x : Int} : nth (s ++ [x]) s.length = x := by
  rw [nth_get (by rw [List.length_append, List.length_singleton]; omega)]
  simp
theorem dbl_app {s : List Int} {x : Int} (h : 0 < s.length) (hd : dbl s = true) (hx : x ≤ 2 * nth s (s.length - 1)) : dbl (s ++ [x]) = true := by
  unfold dbl at hd ⊢
  rw [Bool.and_eq_true] at hd ⊢
  obtain ⟨d1, d2⟩ := hd
  refine ⟨by rw [nth_app_lt h]; exact d1, List.all_eq_true.mpr fun i hi => ?_⟩
  have hi := List.mem_range.mp hi
  rw [List.length_append, List.length_singleton] at hi
  by_cases c : i + 1 < s.length
  · have := List.all_eq_true.mp d2 i (List.mem_range.mpr (by omega))
    rw [nth_app_lt c, nth_app_lt (by omega)]
    exact this
  · have e : i + 1 = s.length := by omega
    rw [e, nth_app_eq, nth_app_lt (by omega)]
    rw [show s.length - 1 = i by omega] at hx
    exact decide_eq_true hx
theorem max_last {s : List Int} {m : Int} (h : 0 < s.length) (hs : s.Pairwise (· ≤ ·)) (hm : s.max? = some m) : m = nth s (s.length - 1) := by
  obtain ⟨m1, m2⟩ := List.max?_eq_some_iff.mp hm
  have hl : s.length - 1 < s.length := by omega
  refine Int.le_antisymm ?_ (m2 _ (nth_mem hl))
  obtain ⟨i, hi, rfl⟩ := List.getElem_of_mem m1
  rw [nth_get hl]
  rcases Nat.lt_or_ge i (s.length - 1) with q | q
  · exact List.pairwise_iff_getElem.mp hs i (s.length - 1) hi hl q
  · have : i = s.length - 1 := by omega
    subst this
    exact Int.le_refl _
theorem snoc_ind'' {A : Type} {P : List A → Prop} (nil : P []) (snoc : ∀ xs x, P xs → P (xs ++ [x])) (xs : List A) : P xs := by
  have : ∀ ys : List A, P ys.reverse := fun ys => by
    induction ys with
    | nil => exact nil
    | cons y ys ih => rw [List.reverse_cons]; exact snoc _ y ih
  have := this xs.reverse
  rwa [List.reverse_reverse] at this
def rowE (b tk L : Int) (n : Nat) : List (Int × Int × Option Int) := (List.range n).map fun (j : Nat) => (tk, (j : Int) + 1, if L + j ≤ b then some (L + j) else none)
theorem rowE_succ (b tk L : Int) (n : Nat) : rowE b tk L (n + 1) = rowE b tk L n ++ [(tk, (n : Int) + 1, if L + n ≤ b then some (L + n) else none)] := by
  unfold rowE
  rw [List.range_succ, List.map_append]
  rfl
@[simp] theorem rowE_zero (b tk L : Int) : rowE b tk L 0 = [] := rfl
def up (b L : Int) (n : Nat) : Int := if L + n ≤ b + 1 then L + n else b + 1
theorem up_zero {b L : Int} (h : L ≤ b + 1) : up b L 0 = L := by unfold up; rw [if_pos (by omega)]; omega
def dn (L : Int) : Int := if L - 1 > 0 then L - 1 else 0
def stepE (b : Int) (s : List (Int × Int × Option Int) × Int × Int) (n : Int) : List (Int × Int × Option Int) × Int × Int := (s.1 ++ rowE b s.2.2 s.2.1 n.toNat, dn (up b s.2.1 n.toNat), s.2.2 + 1)
def ledS (b : Int) (ns : List Int) : List (Int × Int × Option Int) × Int × Int := ns.foldl (stepE b) ([], 0, 0)
theorem ledS_snoc (b : Int) (ns : List Int) (n : Int) : ledS b (ns ++ [n]) = stepE b (ledS b ns) n := by
  unfold ledS
  rw [List.foldl_append]
  rfl
theorem ledS_in {b : Int} (hb : 0 ≤ b) (ns : List Int) : (0 ≤ (ledS b ns).2.1 ∧ (ledS b ns).2.1 ≤ b) ∧ (ledS b ns).2.2 = ns.length := by
  induction ns using snoc_ind'' with
  | nil => exact ⟨⟨Int.le_refl _, hb⟩, rfl⟩
  | snoc ns n ih =>
    rw [ledS_snoc]
    unfold stepE
    refine ⟨?_, by rw [ih.2]; simp⟩
    unfold dn up
    dsimp only
    split <;> split <;> omega
theorem rowE_len (b tk L : Int) (n : Nat) : (rowE b tk L n).length = n := by simp [rowE]
theorem ledS_len {b m : Int} (ns : List Int) (h : ∀ n ∈ ns, n ≤ m) (hm : 0 ≤ m) : ((ledS b ns).1.length : Int) ≤ m * ns.length := by
  induction ns using snoc_ind'' with
  | nil => simp [ledS]
  | snoc ns n ih =>
    have ih := ih fun x hx => h x (List.mem_append_left _ hx)
    have hn := h n (by simp)
    rw [ledS_snoc]
    unfold stepE
    simp only [List.length_append, rowE_len, List.length_singleton]
    have : m * ((ns.length + 1 : Nat) : Int) = m * ns.length + m := by rw [Int.natCast_add, Int.mul_add]; simp
    rw [this]
    omega

theorem ordP_eq (ns : List Int) : srt (ltP ltI ltI) ((rngL 0 ns.length).map fun k => (vl ns k, k)) = ordP ns := by
  have e : (rngL 0 ns.length).map (fun k => (vl ns k, k)) = ns.zipIdx.map fun p => (p.1, (p.2 : Int)) := by
    rw [zip_range]
    unfold rngL
    rw [List.map_map]
    simp only [Int.sub_zero, Int.toNat_natCast]
    refine List.map_congr_left fun i _ => ?_
    simp [vl]
  rw [e]
  refine srt_of (lin_P lin_I lin_I) (srtP_perm _).symm ?_
  refine (srtP_sorted _).imp fun {a b} h => ?_
  simp only [leP, decide_eq_true_eq] at h
  unfold ltP ltI
  by_cases c : b.1 = a.1
  · simp [c] at h ⊢
    omega
  · simp [c] at h ⊢
    omega
theorem ordP_vl {ns : List Int} {p : Int × Int} (h : p ∈ ordP ns) : (0 ≤ p.2 ∧ p.2 < ns.length) ∧ vl ns p.2 = p.1 := by
  obtain ⟨a, b, c⟩ := ordP_in h
  exact ⟨⟨a, b⟩, c⟩
theorem dig_row {ns : List Int} (h : Lps ns) (hd : dbl (srtI ns) = true) {w : Int} (h0 : 1 ≤ w) (h1 : w ≤ ns.sum) : RowW ns (dig ns w) w := by
  refine ⟨fun x hx => ?_, ?_⟩
  · unfold dig at hx
    rw [List.mem_reverse] at hx
    have := (gr_sub (ordP ns).reverse w).mem hx
    obtain ⟨p, hp, rfl⟩ := List.mem_map.mp this
    exact (ordP_vl (List.mem_reverse.mp hp)).1
  · unfold dig
    rw [List.map_reverse, List.sum_reverse, gr_sum (vl ns) _ w fun p hp => (ordP_vl (List.mem_reverse.mp hp)).2, lft_zero _ w (ordP_cmp h hd) (by omega) (by rw [sm_ord]; exact h1)]
    omega
theorem dbl_one {ns : List Int} (h : Lps ns) (hd : dbl (srtI ns) = true) : 1 ∈ ns := by
  unfold dbl at hd
  rw [Bool.and_eq_true, decide_eq_true_eq] at hd
  have hl : 0 < (srtI ns).length := by rw [(srtI_perm ns).length_eq]; exact h.1
  have := nth_mem hl
  rw [hd.1] at this
  exact (srtI_perm ns).mem_iff.mp this
def Dbl (m : Int) (ns : List Int) : Prop := Lps ns ∧ dbl (srtI ns) = true ∧ ns.sum ≤ m
theorem lps_sum {ns : List Int} (h : Lps ns) : 1 ≤ ns.sum ∧ ns.sum ≤ 320 := by
  obtain ⟨a, b, c⟩ := h
  have up : ∀ xs : List Int, (∀ i ∈ xs, 1 ≤ i ∧ i ≤ 40) → (xs.length : Int) ≤ xs.sum ∧ xs.sum ≤ 40 * xs.length := fun xs => by
    induction xs with
    | nil => intro _; simp
    | cons x xs ih =>
      intro hx
      have := ih fun i hi => hx i (List.mem_cons_of_mem _ hi)
      have := hx x List.mem_cons_self
      simp only [List.length_cons, List.sum_cons]
      omega
  have := up ns c
  omega
def dRows (ns : List Int) : List (List Int) := (rngL 1 (ns.sum + 1)).map (dig ns)
theorem dRows_tab {m : Int} {ns : List Int} (h : Dbl m ns) (hm : m ≤ 60) : Tab ns (dRows ns) ∧ ((dRows ns).length : Int) = ns.sum := by
  have hs := lps_sum h.1
  have hl : ((dRows ns).length : Int) = ns.sum := by
    unfold dRows
    rw [List.length_map, rngL_len]
    omega
  have := h.2.2
  refine ⟨⟨h.1, by omega, by omega, fun i r hr => ?_⟩, hl⟩
  unfold dRows at hr
  rw [List.getElem?_map] at hr
  obtain ⟨w, hw, rfl⟩ := Option.map_eq_some_iff.mp hr
  obtain ⟨e, a, b⟩ := rngL_get hw
  have := dig_row h.1 h.2.1 (w := w) (by omega) (by omega)
  rw [e, Int.add_comm] at this
  rwa [e, Int.add_comm]

/-! what plays -/
abbrev Let := Int × Int × Option Int
def wh (f : Int → Int) : List Int → Int → Option (Int × Int)
  | [], _ => none
  | k :: r, a => if a < f k then some (k, f k - a) else wh f r (a - f k)
/-- what letter i plays at tick x -/
def onE (ns : List Int) (rows : List (List Int)) (x : Int) (p : Int × Let) : List Ent := match p.2.2.2 with
  | none => []
  | some w => if 0 < w ∧ p.2.1 ≤ x then ((wh (vl ns) (rows.getD (w - 1).toNat []) (x - p.2.1)).map fun q => (q.1, p.1, q.2)).toList else []
def insL (ns : List Int) (rows : List (List Int)) (x : Int) (es : List Let) : List Ent := (enuL 0 es).flatMap (onE ns rows x)
theorem toList_len {A : Type} (o : Option A) : o.toList.length ≤ 1 := by cases o <;> simp
theorem onE_len {ns : List Int} {rows : List (List Int)} {x : Int} (p : Int × Let) : (onE ns rows x p).length ≤ 1 := by
  unfold onE
  split
  · simp
  · split
    · exact toList_len _
    · simp
theorem insL_len {ns : List Int} {rows : List (List Int)} {x : Int} (es : List Let) : (insL ns rows x es).length ≤ es.length := by
  have := flat_len (g := onE ns rows x) (n := 1) (xs := enuL 0 es) fun p _ => onE_len p
  rw [enuL_len] at this
  unfold insL
  omega
theorem wh_some {f : Int → Int} : ∀ {r : List Int} {a : Int}, 0 ≤ a → a < (r.map f).sum → ∃ q, wh f r a = some q
  | [], a, h0, h => by simp at h; omega
  | k :: r, a, h0, h => by
    unfold wh
    split
    · exact ⟨_, rfl⟩
    · simp only [List.map_cons, List.sum_cons] at h
      exact wh_some (by omega) (by omega)
theorem wh_none {f : Int → Int} : ∀ {r : List Int} {a : Int}, (∀ k ∈ r, 1 ≤ f k) → (r.map f).sum ≤ a → wh f r a = none
  | [], a, _, h => rfl
  | k :: r, a, hp, h => by
    have hs : 0 ≤ (r.map f).sum := by
      have : ∀ xs : List Int, (∀ k ∈ xs, 1 ≤ f k) → 0 ≤ (xs.map f).sum := fun xs => by
        induction xs with
        | nil => intro _; simp
        | cons x xs ih =>
          intro hx
          have := ih fun i hi => hx i (List.mem_cons_of_mem _ hi)
          have := hx x List.mem_cons_self
          simp only [List.map_cons, List.sum_cons]
          omega
      exact this r fun k hk => hp k (List.mem_cons_of_mem _ hk)
    simp only [List.map_cons, List.sum_cons] at h
    unfold wh
    rw [if_neg (by omega)]
    exact wh_none (fun k hk => hp k (List.mem_cons_of_mem _ hk)) (by omega)
/-- a playing is heard at tick x -/
def hd? (f : Int → Int) (x : Int) (y : Ent) : Option Ent := if y.1 ≤ x ∧ y.1 + f y.2.2 - x > 0 then some (y.2.2, y.2.1, y.1 + f y.2.2 - x) else none
theorem hd_none {f : Int → Int} {x t i : Int} : ∀ (r : List Int) (g l : Int), (∀ k ∈ r, 1 ≤ f k) → x < t + g → ((entL f g l r).map fun e => (t + e.2.1, i, e.1)).filterMap (hd? f x) = []
  | [], _, _, _, _ => rfl
  | k :: r, g, l, hp, h => by
    have := hp k List.mem_cons_self
    rw [entL, List.map_cons, List.filterMap_cons_none (by unfold hd?; rw [if_neg (by dsimp only; omega)])]
    exact hd_none r _ _ (fun k hk => hp k (List.mem_cons_of_mem _ hk)) (by omega)
theorem hd_wh {f : Int → Int} {x t i : Int} : ∀ (r : List Int) (g l : Int), (∀ k ∈ r, 1 ≤ f k) → t + g ≤ x → ((entL f g l r).map fun e => (t + e.2.1, i, e.1)).filterMap (hd? f x) = ((wh f r (x - t - g)).map fun q => (q.1, i, q.2)).toList
  | [], _, _, _, _ => rfl
  | k :: r, g, l, hp, h => by
    have h1 := hp k List.mem_cons_self
    have hr : ∀ k ∈ r, 1 ≤ f k := fun k hk => hp k (List.mem_cons_of_mem _ hk)
    rw [entL, List.map_cons]
    unfold wh
    by_cases c : x - t - g < f k
    · rw [if_pos c, List.filterMap_cons_some (b := (k, i, t + g + f k - x)) (by unfold hd?; rw [if_pos (by dsimp only; omega)]), hd_none r _ _ hr (by omega)]
      simp only [Option.map_some, Option.toList_some]
      congr 3
      omega
    · rw [if_neg c, List.filterMap_cons_none (by unfold hd?; rw [if_neg (by dsimp only; omega)]), hd_wh r _ _ hr (by omega)]
      congr 3
      omega
/-- the playings of letter i -/
def plE (ns : List Int) (rows : List (List Int)) (p : Int × Let) : List Ent := match p.2.2.2 with
  | none => []
  | some w => ((([] : List Ent) :: rows.map (entR ns)).getD w.toNat []).map fun e => (p.2.1 + e.2.1, p.1, e.1)
def LetOk (b : Int) (e : Let) : Prop := ∀ w, e.2.2 = some w → 0 ≤ w ∧ w ≤ b
theorem plE_on {ns : List Int} {rows : List (List Int)} (h : Tab ns rows) {x : Int} {p : Int × Let} (hp : LetOk rows.length p.2) : (plE ns rows p).filterMap (hd? (vl ns) x) = onE ns rows x p := by
  unfold plE onE
  split
  · rfl
  · rename_i w e
    obtain ⟨w0, w1⟩ := hp w e
    by_cases c : w = 0
    · subst c
      rfl
    · have hi : (w - 1).toNat < rows.length := by omega
      have e1 : w.toNat = (w - 1).toNat + 1 := by omega
      have hr : rows[(w - 1).toNat]? = some rows[(w - 1).toNat] := List.getElem?_eq_getElem hi
      have q := h.row _ _ hr
      have pos : ∀ k ∈ rows[(w - 1).toNat], 1 ≤ vl ns k := fun k hk => (vl_pos h.lps (q.ok k hk)).1
      rw [e1, List.getD_cons_succ, List.getD_eq_getElem?_getD, List.getElem?_map, List.getD_eq_getElem?_getD, hr]
      simp only [Option.map_some, Option.getD_some]
      unfold entR
      by_cases c2 : p.2.1 ≤ x
      · rw [if_pos ⟨by omega, c2⟩, hd_wh _ _ _ pos (by omega), Int.sub_zero]
      · rw [if_neg (by omega), hd_none _ _ _ pos (by omega)]
theorem plE_len {ns : List Int} {rows : List (List Int)} (h : Tab ns rows) (p : Int × Let) : (plE ns rows p).length ≤ 60 := by
  unfold plE
  split
  · simp
  · rename_i w e
    rw [List.length_map, List.getD_eq_getElem?_getD]
    cases q : (([] : List Ent) :: rows.map (entR ns))[w.toNat]? with
    | none => simp
    | some es =>
      have := List.mem_of_getElem? q
      rcases List.mem_cons.mp this with rfl | m
      · simp
      · obtain ⟨r, hr, rfl⟩ := List.mem_map.mp m
        rw [Option.getD_some, entR_len]
        exact h.rlen hr
theorem pl_ins {ns : List Int} {rows : List (List Int)} (h : Tab ns rows) {x : Int} {es : List Let} (he : ∀ e ∈ es, LetOk rows.length e) : ((enuL 0 es).flatMap (plE ns rows)).filterMap (hd? (vl ns) x) = insL ns rows x es := by
  unfold insL
  have : ∀ (k : Nat) (es : List Let), (∀ e ∈ es, LetOk rows.length e) → ((enuL k es).flatMap (plE ns rows)).filterMap (hd? (vl ns) x) = (enuL k es).flatMap (onE ns rows x) := fun k es => by
    induction es generalizing k with
    | nil => intro _; rfl
    | cons e es ih =>
      intro he
      show (plE ns rows (k, e) ++ (enuL (k + 1) es).flatMap (plE ns rows)).filterMap _ = onE ns rows x (k, e) ++ (enuL (k + 1) es).flatMap (onE ns rows x)
      rw [List.filterMap_append, plE_on h (p := ((k : Int), e)) (he e List.mem_cons_self), ih _ fun e hx => he e (List.mem_cons_of_mem _ hx)]
  exact this 0 es he
theorem srt_fm {A B : Type} [DecidableEq A] [DecidableEq B] {la : A → A → Bool} {lb : B → B → Bool} (h : Lin lb) (f : A → Option B) (xs : List A) : srt lb ((srt la xs).filterMap f) = srt lb (xs.filterMap f) := srt_congr h ((srt_perm xs).filterMap f)
/-! how many play -/
/-- letters of wait more than d at tick x -/
def cnt (x d : Int) (es : List Let) : Nat := es.countP fun e => match e.2.2 with
  | none => false
  | some w => decide (e.1 ≤ x) && decide (d < w - (x - e.1))
theorem cnt_app (x d : Int) (a b : List Let) : cnt x d (a ++ b) = cnt x d a + cnt x d b := List.countP_append
theorem insL_cnt {ns : List Int} {rows : List (List Int)} (h : Tab ns rows) {x : Int} {es : List Let} (he : ∀ e ∈ es, LetOk rows.length e) : (insL ns rows x es).length = cnt x 0 es := by
  unfold insL cnt
  have : ∀ (k : Nat) (es : List Let), (∀ e ∈ es, LetOk rows.length e) → ((enuL k es).flatMap (onE ns rows x)).length = es.countP (fun e => match e.2.2 with
    | none => false
    | some w => decide (e.1 ≤ x) && decide (0 < w - (x - e.1))) := fun k es => by
    induction es generalizing k with
    | nil => intro _; rfl
    | cons e es ih =>
      intro he
      show (onE ns rows x (k, e) ++ (enuL (k + 1) es).flatMap (onE ns rows x)).length = _
      rw [List.length_append, ih _ fun e hx => he e (List.mem_cons_of_mem _ hx), List.countP_cons, Nat.add_comm]
      congr 1
      have hp := he e List.mem_cons_self
      obtain ⟨t, u, o⟩ := e
      unfold onE
      cases o with
      | none => rfl
      | some w =>
        obtain ⟨w0, w1⟩ := hp w rfl
        dsimp only at w0 w1 ⊢
        by_cases c : 0 < w ∧ t ≤ x
        · rw [if_pos c]
          have hi : (w - 1).toNat < rows.length := by omega
          have hr : rows[(w - 1).toNat]? = some rows[(w - 1).toNat] := List.getElem?_eq_getElem hi
          have q := h.row _ _ hr
          have qs := q.sum
          rw [List.getD_eq_getElem?_getD, hr, Option.getD_some]
          by_cases c2 : x - t < w
          · obtain ⟨y, hy⟩ := wh_some (f := vl ns) (r := rows[(w - 1).toNat]) (a := x - t) (by omega) (by omega)
            rw [hy, if_pos (by simp; omega)]
            rfl
          · rw [wh_none (fun k hk => (vl_pos h.lps (q.ok k hk)).1) (by omega), if_neg (by simp; omega)]
            rfl
        · rw [if_neg c, if_neg (by simp; omega)]
          rfl
  exact this 0 es he
theorem cnt_row {b t L x d : Int} (hL : 0 ≤ L ∧ L ≤ b) (hd : 0 ≤ d) (hx : x = t) : ∀ n : Nat, (cnt x d (rowE b t L n) : Int) + (if L - 1 - d > 0 then L - 1 - d else 0) = if up b L n - 1 - d > 0 then up b L n - 1 - d else 0
  | 0 => by
    rw [rowE_zero, up_zero (by omega)]
    simp [cnt]
  | n + 1 => by
    have ih := cnt_row (x := x) hL hd hx n
    rw [rowE_succ, cnt_app, Int.natCast_add]
    by_cases g : L + (n : Int) ≤ b
    · have u1 : up b L n = L + n := by unfold up; rw [if_pos (by omega)]
      have u2 : up b L (n + 1) = L + n + 1 := by unfold up; rw [if_pos (by omega)]; omega
      rw [if_pos g, u2]
      rw [u1] at ih
      have : cnt x d [(t, (n : Int) + 1, some (L + (n : Int)))] = if d < L + n then 1 else 0 := by
        unfold cnt
        rw [List.countP_cons, List.countP_nil]
        subst hx
        simp
      rw [this]
      split at ih <;> split at ih <;> split <;> split <;> simp <;> omega
    · have u : up b L (n + 1) = up b L n := by unfold up; rw [if_neg (by omega)]; split <;> omega
      rw [if_neg g, u]
      have : cnt x d [(t, (n : Int) + 1, (none : Option Int))] = 0 := rfl
      rw [this]
      simpa using ih
theorem cnt_shift {x d : Int} : ∀ {es : List Let}, (∀ e ∈ es, e.1 ≤ x) → cnt (x + 1) d es = cnt x (d + 1) es
  | [], _ => rfl
  | e :: es, h => by
    have ih := cnt_shift (d := d) fun y hy => h y (List.mem_cons_of_mem _ hy)
    have he := h e List.mem_cons_self
    unfold cnt at ih ⊢
    rw [List.countP_cons, List.countP_cons, ih]
    congr 1
    obtain ⟨t, u, o⟩ := e
    cases o with
    | none => rfl
    | some w =>
      dsimp only at he ⊢
      congr 1
      rw [eq_iff_iff, Bool.and_eq_true, Bool.and_eq_true, decide_eq_true_eq, decide_eq_true_eq, decide_eq_true_eq, decide_eq_true_eq]
      omega
theorem led_mem {b : Int} (hb : 0 ≤ b) (ns : List Int) : ∀ e ∈ (ledS b ns).1, (0 ≤ e.1 ∧ e.1 < ns.length) ∧ LetOk b e := by
  induction ns using snoc_ind'' with
  | nil => intro e h; cases h
  | snoc ns n ih =>
    intro e he
    rw [ledS_snoc] at he
    obtain ⟨⟨q1, q2⟩, q3⟩ := ledS_in hb ns
    rcases List.mem_append.mp he with h | h
    · obtain ⟨⟨a1, a2⟩, a3⟩ := ih e h
      exact ⟨⟨a1, by simp; omega⟩, a3⟩
    · unfold rowE at h
      obtain ⟨j, hj, rfl⟩ := List.mem_map.mp h
      rw [q3]
      refine ⟨⟨by dsimp only; omega, by simp; omega⟩, fun w hw => ?_⟩
      dsimp only at hw
      split at hw
      · cases hw
        omega
      · cases hw
theorem led_cnt {b : Int} (hb : 0 ≤ b) (ns : List Int) : ∀ d : Int, 0 ≤ d → (cnt ns.length d (ledS b ns).1 : Int) = if (ledS b ns).2.1 - 1 - d > 0 then (ledS b ns).2.1 - 1 - d else 0 := by
  induction ns using snoc_ind'' with
  | nil => intro d h; simp [ledS, cnt]; omega
  | snoc ns n ih =>
    intro d hd
    obtain ⟨q1, q3⟩ := ledS_in hb ns
    have hm := led_mem hb (ns ++ [n])
    rw [List.length_append, List.length_singleton, Int.natCast_add]
    have hs : ∀ e ∈ (ledS b (ns ++ [n])).1, e.1 ≤ (ns.length : Int) := fun e he => by
      have := (hm e he).1.2
      simp at this
      omega
    show (cnt ((ns.length : Int) + 1) d _ : Int) = _
    rw [cnt_shift hs, ledS_snoc]
    unfold stepE
    dsimp only
    rw [cnt_app, Int.natCast_add, ih (d + 1) (by omega), Int.add_comm, q3]
    rw [cnt_row q1 (by omega) rfl]
    unfold dn
    split <;> split <;> split <;> omega
theorem led_now {b : Int} (hb : 0 ≤ b) (ns : List Int) (n : Int) : (cnt ns.length 0 (ledS b (ns ++ [n])).1 : Int) = (ledS b (ns ++ [n])).2.1 := by
  obtain ⟨q1, q3⟩ := ledS_in hb ns
  rw [ledS_snoc]
  unfold stepE
  dsimp only
  rw [cnt_app, Int.natCast_add, led_cnt hb ns 0 (by omega), Int.add_comm, q3, cnt_row q1 (by omega) rfl]
  unfold dn
  split <;> split <;> omega
theorem cnt_late {x d : Int} {es : List Let} (h : ∀ e ∈ es, x < e.1) : cnt x d es = 0 := by
  unfold cnt
  rw [List.countP_eq_zero]
  intro e he
  have := h e he
  obtain ⟨t, u, o⟩ := e
  cases o with
  | none => simp
  | some w => dsimp only at this ⊢; simp; omega
/-- the letters from tick n on -/
theorem led_pre {b : Int} (hb : 0 ≤ b) (a : List Int) : ∀ c : List Int, ∃ es, (ledS b (a ++ c)).1 = (ledS b a).1 ++ es ∧ ∀ e ∈ es, (a.length : Int) ≤ e.1 := fun c => by
  induction c using snoc_ind'' with
  | nil => exact ⟨[], by simp, fun _ h => (nomatch h)⟩
  | snoc c n ih =>
    obtain ⟨es, h1, h2⟩ := ih
    rw [← List.append_assoc, ledS_snoc]
    unfold stepE
    dsimp only
    rw [h1, List.append_assoc]
    refine ⟨_, rfl, fun e he => ?_⟩
    rcases List.mem_append.mp he with h | h
    · exact h2 e h
    · unfold rowE at h
      obtain ⟨j, hj, rfl⟩ := List.mem_map.mp h
      dsimp only
      rw [(ledS_in hb (a ++ c)).2]
      simp
      omega
def lens (b : Int) (cs : List Int) : List Int := (List.range cs.length).map fun i => (ledS b (cs.take (i + 1))).2.1
theorem lens_snoc {b : Int} (cs : List Int) (n : Int) : lens b (cs ++ [n]) = lens b cs ++ [(ledS b (cs ++ [n])).2.1] := by
  unfold lens
  rw [List.length_append, List.length_singleton, List.range_succ, List.map_append]
  congr 1
  · refine List.map_congr_left fun i hi => ?_
    rw [List.take_append_of_le_length (by have := List.mem_range.mp hi; omega)]
  · rw [List.map_singleton, List.take_of_length_le (by simp)]
theorem lens_len {b : Int} (cs : List Int) : (lens b cs).length = cs.length := by simp [lens]
theorem now_lens {b : Int} (hb : 0 ≤ b) {cs : List Int} {x : Int} (h0 : 0 ≤ x) (h1 : x < cs.length) : ∃ v, idx (lens b cs) x = .ok v ∧ (cnt x 0 (ledS b cs).1 : Int) = v := by
  have hi : x.toNat < cs.length := by omega
  refine ⟨_, idx_some h0 (by rw [lens_len]; exact h1), ?_⟩
  unfold lens
  rw [List.getElem_map, List.getElem_range]
  have e : cs = (cs.take x.toNat ++ [cs[x.toNat]]) ++ cs.drop (x.toNat + 1) := by
    rw [List.append_assoc, List.singleton_append, ← List.drop_eq_getElem_cons hi, List.take_append_drop]
  have e2 : cs.take (x.toNat + 1) = cs.take x.toNat ++ [cs[x.toNat]] := by rw [List.take_add_one, List.getElem?_eq_getElem hi]; rfl
  obtain ⟨es, g1, g2⟩ := led_pre hb (cs.take x.toNat ++ [cs[x.toNat]]) (cs.drop (x.toNat + 1))
  have hl : (cs.take x.toNat).length = x.toNat := by rw [List.length_take]; omega
  have hx : ((cs.take x.toNat).length : Int) = x := by omega
  rw [← e] at g1
  rw [e2, g1, cnt_app, cnt_late (es := es) fun y hy => by have := g2 y hy; rw [List.length_append, hl] at this; simp at this; omega]
  have := led_now hb (cs.take x.toNat) cs[x.toNat]
  rw [hx] at this
  simpa using this
theorem late_none {b : Int} (hb : 0 ≤ b) {cs : List Int} {x : Int} (h : (cs.length : Int) + b < x) : cnt x 0 (ledS b cs).1 = 0 := by
  unfold cnt
  rw [List.countP_eq_zero]
  intro e he
  obtain ⟨⟨a1, a2⟩, a3⟩ := led_mem hb cs e he
  obtain ⟨t, u, o⟩ := e
  cases o with
  | none => simp
  | some w =>
    have := a3 w rfl
    dsimp only at a1 a2 this ⊢
    simp
    omega
theorem enu_rng {A : Type} (es : List A) (d : A) : (rngL 0 es.length).map (fun i => (i, es.getD i.toNat d)) = enuL 0 es := by
  refine List.ext_getElem? fun i => ?_
  rw [List.getElem?_map, enuL_get]
  unfold rngL
  rw [List.getElem?_map]
  by_cases c : i < es.length
  · rw [List.getElem?_range (by omega), List.getElem?_eq_getElem c]
    simp [List.getD_eq_getElem?_getD, List.getElem?_eq_getElem c]
  · rw [List.getElem?_eq_none (by simp; omega), List.getElem?_eq_none (by omega)]
    rfl
end Pu
namespace Pu
open PySem L2

/-! # typed layer, further rules -/
section
variable {A B : Type} {E : EX} {K : VD × Tp → Rs A} {R : A → B → Prop} {r : Env} {T : Tp} {C : Type} {z : Bool → Rt B}
theorem h_chain3 {op op' op'' : D → D → Rs VD} {f g h k : DE} {a b : D} {x : Bool} {w : Rt Bool} (hf : Pd f r a) (hg : Pd g r b) (ho : op a b = .ok (.val (.bl x)))
    (h1 : x = true → Sim E ((eChain op' op'' (cst (.val b)) h k r T).bind Rs.ok) w (fun q y => q = (mB y, T))) (kk : ∀ b, Sim E (K (mB b, T)) (z b) R) : Sim E ((eChain3 op op' op'' f g h k r T).bind K) ((if x = true then w else .ok false).bind z) R := by
  unfold eChain3
  rw [hf T, Rs.bind_ok, hg T, Rs.bind_ok]
  show Sim E (((op a b).bind _).bind K) _ R
  rw [ho, Rs.bind_ok]
  cases x with
  | true =>
    rw [if_pos rfl]
    show Sim E ((if true = true then eLink op' op'' h k b r T else _).bind K) _ R
    rw [if_pos rfl]
    refine Sim.bind (bind_id _ ▸ h1 rfl : Sim E (eLink op' op'' h k b r T) w _) (fun _ _ h => h) fun q b hq => ?_
    rw [hq]
    exact kk b
  | false => exact kk false
end
theorem Pur.cast {f : DE} {r : Env} {v w : VD} (h : w = v) (p : Pur f r v) : Pur f r w := h ▸ p
end Pu
namespace Pu
open PySem L2

/-! # meetings: letters that meet, and clashes -/
def vE (e : Int × Int × Option Int) : Option Int × Int := (e.2.2, e.2.1)
def preS (w : Nat) : List (Option Int × Int) := (List.range w).flatMap fun (i : Nat) => [(some (i : Int), (1 : Int)), (some ((i : Int) + 1), 2)]
theorem preS_len : ∀ w : Nat, (preS w).length = 2 * w
  | 0 => rfl
  | w + 1 => by
    unfold preS
    rw [List.range_succ, List.flatMap_append, List.length_append]
    have := preS_len w
    unfold preS at this
    rw [this]
    simp
    omega
theorem led_zeros {b : Int} (G : List Int) : ∀ k : Nat, (k : Int) ≤ (ledS b G).2.1 → (ledS b G).2.1 ≤ b → (ledS b (G ++ List.replicate k 0)).1 = (ledS b G).1 ∧ (ledS b (G ++ List.replicate k 0)).2.1 = (ledS b G).2.1 - k
  | 0, _, _ => by simp
  | k + 1, h, h2 => by
    obtain ⟨i1, i2⟩ := led_zeros G k (by omega) h2
    rw [List.replicate_succ', ← List.append_assoc, ledS_snoc]
    unfold stepE
    dsimp only
    rw [i2, Int.toNat_zero, rowE_zero, List.append_nil, up_zero (by omega)]
    refine ⟨i1, ?_⟩
    unfold dn
    split <;> omega
theorem led_twos {b : Int} : ∀ k : Nat, (k : Int) ≤ b → (ledS b (List.replicate k 2)).1.map vE = preS k ∧ (ledS b (List.replicate k 2)).2.1 = k
  | 0, _ => ⟨rfl, rfl⟩
  | k + 1, h => by
    obtain ⟨i1, i2⟩ := led_twos (b := b) k (by omega)
    rw [List.replicate_succ', ledS_snoc]
    unfold stepE
    dsimp only
    rw [i2, List.map_append, i1]
    refine ⟨?_, ?_⟩
    · unfold preS
      rw [List.range_succ, List.flatMap_append]
      congr 1
      have h1 : (k : Int) ≤ b := by omega
      have h2 : (k : Int) + 1 ≤ b := by omega
      simp [rowE, vE, List.range_succ, h1, h2]
    · show dn (up b k 2) = _
      unfold dn up
      rw [if_pos (by omega)]
      split <;> omega

/-! ## two letters of the line -/
structure PairOk (c : Int) (e e' : Let) : Prop where
  le : e.1 ≤ e'.1
  out : ∀ w w', e.2.2 = some w → e'.2.2 = some w' → w + e.1 < w' + e'.1 ∧ (w' + e'.1) - (w + e.1) ≤ c * (e'.1 - e.1) + c - 1
theorem rowE_pairs {b t L c : Int} : ∀ n : Nat, (n : Int) ≤ c → (rowE b t L n).Pairwise (PairOk c)
  | 0, _ => List.Pairwise.nil
  | n + 1, hn => by
    rw [rowE_succ]
    refine List.pairwise_append.mpr ⟨rowE_pairs n (by omega), List.pairwise_singleton _ _, fun e he e' he' => ?_⟩
    rw [List.mem_singleton.mp he']
    unfold rowE at he
    obtain ⟨j, hj, rfl⟩ := List.mem_map.mp he
    have hj := List.mem_range.mp hj
    refine ⟨Int.le_refl _, fun w w' h h' => ?_⟩
    dsimp only at h h' ⊢
    split at h <;> split at h' <;> cases h <;> cases h'
    rw [Int.sub_self, Int.mul_zero]
    omega
/-- the line behind the letters so far -/
structure LineInv (c : Int) (es : List Let) (L tk : Int) : Prop where
  lt : ∀ e ∈ es, e.1 < tk
  lo : ∀ e ∈ es, ∀ w, e.2.2 = some w → w + e.1 < L + tk
  hi : ∀ e ∈ es, ∀ w, e.2.2 = some w → L + tk - (w + e.1) ≤ c * (tk - e.1)
theorem led_pairs {b c : Int} (hb : 0 ≤ b) (hc : 1 ≤ c) (cs : List Int) (h : ∀ x ∈ cs, 0 ≤ x ∧ x ≤ c) : (ledS b cs).1.Pairwise (PairOk c) ∧ LineInv c (ledS b cs).1 (ledS b cs).2.1 (ledS b cs).2.2 := by
  induction cs using snoc_ind'' with
  | nil => exact ⟨List.Pairwise.nil, ⟨fun _ h => (nomatch h), fun _ h => (nomatch h), fun _ h => (nomatch h)⟩⟩
  | snoc cs n ih =>
    obtain ⟨i1, i2⟩ := ih fun x hx => h x (List.mem_append_left _ hx)
    have hn := h n (by simp)
    have hL := (ledS_in hb cs).1
    rw [ledS_snoc]
    unfold stepE
    generalize ledS b cs = S at i1 i2 hL ⊢
    obtain ⟨es, L, tk⟩ := S
    dsimp only at i1 i2 hL ⊢
    have hnn : (n.toNat : Int) = n := by omega
    have hmem : ∀ e ∈ rowE b tk L n.toNat, e.1 = tk ∧ ∀ w, e.2.2 = some w → L ≤ w ∧ w < L + n ∧ w ≤ b := fun e he => by
      unfold rowE at he
      obtain ⟨j, hj, rfl⟩ := List.mem_map.mp he
      have hj := List.mem_range.mp hj
      refine ⟨rfl, fun w hw => ?_⟩
      dsimp only at hw
      split at hw <;> cases hw
      omega
    have hup : up b L n.toNat = if L + n ≤ b + 1 then L + n else b + 1 := by unfold up; rw [hnn]
    refine ⟨List.pairwise_append.mpr ⟨i1, rowE_pairs _ (by omega), fun e he e' he' => ?_⟩, ⟨fun e he => ?_, fun e he w hw => ?_, fun e he w hw => ?_⟩⟩
    · obtain ⟨m1, m2⟩ := hmem e' he'
      have l := i2.lt e he
      refine ⟨by omega, fun w w' hw hw' => ?_⟩
      have a := i2.lo e he w hw
      have b' := i2.hi e he w hw
      have d := m2 w' hw'
      rw [m1]
      omega
    · rcases List.mem_append.mp he with q | q
      · have := i2.lt e q; omega
      · have := (hmem e q).1; omega
    · rcases List.mem_append.mp he with q | q
      · have := i2.lo e q w hw
        unfold dn
        rw [hup]
        split <;> split at * <;> omega
      · obtain ⟨m1, m2⟩ := hmem e q
        have := m2 w hw
        unfold dn
        rw [hup]
        split <;> split at * <;> omega
    · rcases List.mem_append.mp he with q | q
      · have a := i2.hi e q w hw
        have l := i2.lt e q
        have e1 : c * (tk + 1 - e.1) = c * (tk - e.1) + c := by rw [show tk + 1 - e.1 = (tk - e.1) + 1 by omega, Int.mul_add, Int.mul_one]
        rw [e1]
        unfold dn
        rw [hup]
        split <;> split at * <;> omega
      · obtain ⟨m1, m2⟩ := hmem e q
        have := m2 w hw
        rw [m1, show tk + 1 - tk = 1 by omega, Int.mul_one]
        unfold dn
        rw [hup]
        split <;> split at * <;> omega
/-! ## no clash, no meeting -/
theorem ent_in {ns : List Int} {rows : List (List Int)} (h : Tab ns rows) {w : Int} (h0 : 1 ≤ w) (h1 : w ≤ rows.length) : ∃ r, (([] : List Ent) :: rows.map (entR ns)).getD w.toNat [] = entR ns r ∧ r ∈ rows ∧ RowW ns r w := by
  have hi : (w - 1).toNat < rows.length := by omega
  have hr : rows[(w - 1).toNat]? = some rows[(w - 1).toNat] := List.getElem?_eq_getElem hi
  have q := h.row _ _ hr
  have e1 : w.toNat = (w - 1).toNat + 1 := by omega
  refine ⟨rows[(w - 1).toNat], ?_, List.getElem_mem hi, ?_⟩
  · rw [e1, List.getD_cons_succ, List.getD_eq_getElem?_getD, List.getElem?_map, hr]
    rfl
  · have : (((w - 1).toNat : Int) + 1) = w := by omega
    rwa [this] at q
theorem entR_sum {ns : List Int} (hL : Lps ns) {r : List Int} {w : Int} (q : RowW ns r w) {e : Ent} (he : e ∈ entR ns r) : e.1 ∈ r ∧ 0 ≤ e.2.1 ∧ e.2.1 + e.2.2 = w := by
  unfold entR at he
  obtain ⟨a, b, c⟩ := ent_of he fun k hk => (vl_pos hL (q.ok k hk)).1
  rw [q.sum] at c
  exact ⟨a, b, by omega⟩
theorem entL_gone {f : Int → Int} : ∀ (r : List Int) (g l : Int), (∀ k ∈ r, 1 ≤ f k) → (entL f g l r).Pairwise fun a b => a.2.1 < b.2.1
  | [], _, _, _ => List.Pairwise.nil
  | k :: r, g, l, hp => by
    have h1 := hp k List.mem_cons_self
    have hr : ∀ k ∈ r, 1 ≤ f k := fun k hk => hp k (List.mem_cons_of_mem _ hk)
    rw [entL]
    refine List.pairwise_cons.mpr ⟨fun e he => ?_, entL_gone r _ _ hr⟩
    have := (ent_of he hr).2.1
    dsimp only
    omega
theorem entR_gone {ns : List Int} (hL : Lps ns) {r : List Int} (q : RowOk ns r) : (entR ns r).Pairwise fun a b => a.2.1 < b.2.1 := entL_gone r _ _ fun k hk => (vl_pos hL (q k hk)).1
/-- when and where something is laid -/
def plT (y : Ent) : Int × Int := (y.1, y.2.2)
theorem plE_mem {ns : List Int} {rows : List (List Int)} (h : Tab ns rows) {i : Int} {e : Let} (hp : LetOk rows.length e) {y : Ent} (hy : y ∈ plE ns rows (i, e)) : ∃ w r x, e.2.2 = some w ∧ r ∈ rows ∧ RowW ns r w ∧ x ∈ entR ns r ∧ y = (e.1 + x.2.1, i, x.1) := by
  obtain ⟨t, u, o⟩ := e
  cases o with
  | none => exact (nomatch hy)
  | some w =>
    have hw := hp w rfl
    dsimp only [plE] at hy
    obtain ⟨x, hx, rfl⟩ := List.mem_map.mp hy
    by_cases c : w = 0
    · subst c
      exact (nomatch hx)
    · obtain ⟨r, e1, e2, e3⟩ := ent_in h (w := w) (by omega) hw.2
      rw [e1] at hx
      exact ⟨w, r, x, rfl, e2, e3, hx, rfl⟩
theorem plE_nodup {ns : List Int} {rows : List (List Int)} (h : Tab ns rows) {i : Int} {e : Let} (hp : LetOk rows.length e) : ((plE ns rows (i, e)).map plT).Nodup := by
  obtain ⟨t, u, o⟩ := e
  cases o with
  | none => exact List.nodup_nil
  | some w =>
    have hw := hp w rfl
    dsimp only [plE]
    by_cases c : w = 0
    · subst c
      exact List.nodup_nil
    · obtain ⟨r, e1, e2, e3⟩ := ent_in h (w := w) (by omega) hw.2
      rw [e1, List.map_map]
      refine List.pairwise_map.mpr ((entR_gone h.lps e3.ok).imp fun {a b} hab z => ?_)
      simp only [Function.comp, plT, Prod.mk.injEq] at z
      omega
theorem no_meet {ns : List Int} {rows : List (List Int)} (h : Tab ns rows) {c : Int} (hn : clsT c ns rows = []) : ∀ (k : Nat) (es : List Let), es.Pairwise (PairOk c) → (∀ e ∈ es, LetOk rows.length e) → (((enuL k es).flatMap (plE ns rows)).map plT).Nodup
  | _, [], _, _ => List.nodup_nil
  | k, e :: es, hp, ho => by
    have ih := no_meet h hn (k + 1) es (List.Pairwise.of_cons hp) fun x hx => ho x (List.mem_cons_of_mem _ hx)
    show ((plE ns rows ((k : Int), e) ++ (enuL (k + 1) es).flatMap (plE ns rows)).map plT).Nodup
    rw [List.map_append]
    refine List.nodup_append.mpr ⟨plE_nodup h (ho e List.mem_cons_self), ih, fun p hp1 q hq1 z => ?_⟩
    subst z
    obtain ⟨y, hy, e1⟩ := List.mem_map.mp hp1
    obtain ⟨y', hy', e2⟩ := List.mem_map.mp hq1
    obtain ⟨⟨i, e'⟩, he', hy'⟩ := List.mem_flatMap.mp hy'
    obtain ⟨n, hn2⟩ := List.getElem?_of_mem he'
    rw [enuL_get] at hn2
    obtain ⟨e'', he'', z⟩ := Option.map_eq_some_iff.mp hn2
    obtain ⟨z1, z2⟩ := Prod.mk.inj z
    subst z2
    have hm := List.mem_of_getElem? he''
    have po := (List.pairwise_cons.mp hp).1 e'' hm
    obtain ⟨w, r, x, a1, a2, a3, a4, rfl⟩ := plE_mem h (ho e List.mem_cons_self) hy
    obtain ⟨w', r', x', b1, b2, b3, b4, rfl⟩ := plE_mem h (ho e'' (List.mem_cons_of_mem _ hm)) hy'
    obtain ⟨o1, o2⟩ := po.out w w' a1 b1
    have l := po.le
    have s1 := entR_sum h.lps a3 a4
    have s2 := entR_sum h.lps b3 b4
    rw [← e2] at e1
    simp only [plT, Prod.mk.injEq] at e1
    have ht : hit c x x' = true := by
      rw [hit_iff]
      have : e''.1 - e.1 = x.2.1 - x'.2.1 := by omega
      rw [this] at o2
      refine ⟨e1.2, by omega, by omega, by omega⟩
    have : (x, x') ∈ clsT c ns rows := clsT_mem.mpr ⟨List.mem_flatMap.mpr ⟨r, a2, a4⟩, List.mem_flatMap.mpr ⟨r', b2, b4⟩, ht⟩
    rw [hn] at this
    exact (nomatch this)
/-! ## a clash, a meeting -/
def lef (c num : Int) : Nat → Int
  | 0 => num
  | n + 1 => lef c num n - min c (lef c num n)
def lrow (c num : Int) (n : Nat) : List Int := (List.range n).map fun i => min c (lef c num i)
def lateL (c num : Int) (n : Nat) : List Int := (lef c num n + 1) :: (lrow c num n).reverse
theorem lrow_succ (c num : Int) (n : Nat) : lrow c num (n + 1) = lrow c num n ++ [min c (lef c num n)] := by
  unfold lrow
  rw [List.range_succ, List.map_append]
  rfl
theorem lef_in {c num : Int} (hc : 1 ≤ c) (h : 0 ≤ num) : ∀ n : Nat, 0 ≤ lef c num n ∧ lef c num n ≤ num ∧ (lef c num n = 0 ∨ lef c num n + c * n = num)
  | 0 => ⟨h, Int.le_refl _, .inr (by simp [lef])⟩
  | n + 1 => by
    obtain ⟨a, b, d⟩ := lef_in hc h n
    unfold lef
    have e : c * ((n + 1 : Nat) : Int) = c * n + c := by rw [Int.natCast_add, Int.mul_add]; simp
    rw [e, Int.min_def]
    split <;> omega
/-- the comings of the last ticks, the first k of them -/
def lateP (c num : Int) (n : Nat) : Nat → List Int
  | 0 => [lef c num n + 1]
  | k + 1 => lateP c num n k ++ [min c (lef c num (n - (k + 1)))]
theorem lateP_all (c num : Int) (n : Nat) : lateP c num n n = lateL c num n := by
  have : ∀ k : Nat, k ≤ n → lateP c num n k = (lef c num n + 1) :: (((List.range' (n - k) k).map fun i => min c (lef c num i)).reverse) := fun k => by
    induction k with
    | zero => intro _; rfl
    | succ k ih =>
      intro hk
      rw [lateP, ih (by omega), List.range'_succ, List.map_cons, List.reverse_cons]
      rw [show n - (k + 1) + 1 = n - k by omega]
      rfl
  rw [this n (Nat.le_refl _), Nat.sub_self]
  unfold lateL lrow
  rw [List.range_eq_range']
structure LateInv (b c W num : Int) (n k : Nat) : Prop where
  ex : ∃ es, (ledS b (List.replicate W.toNat 2 ++ lateP c num n k)).1 = (ledS b (List.replicate W.toNat 2)).1 ++ es ∧ (es.length : Int) = lef c num (n - k) + 1 ∧ es.head? = some (W, 1, some W) ∧ (0 < min c (lef c num (n - k)) ∨ k = 0 → ∃ u, es.getLast? = some (W + k, u, some (W + lef c num (n - k) - k)))
  ln : (ledS b (List.replicate W.toNat 2 ++ lateP c num n k)).2.1 = W + lef c num (n - k) - k
  tk : (ledS b (List.replicate W.toNat 2 ++ lateP c num n k)).2.2 = W + k + 1
theorem rowE_last {b t L : Int} {n : Nat} (hn : 0 < n) (h : L + n ≤ b + 1) : (rowE b t L n).getLast? = some (t, (n : Int), some (L + n - 1)) := by
  obtain ⟨m, rfl⟩ : ∃ m, n = m + 1 := ⟨n - 1, by omega⟩
  rw [rowE_succ, if_pos (by omega), List.getLast?_append]
  simp
  omega
theorem rowE_head {b t L : Int} {n : Nat} (hn : 0 < n) (h : L ≤ b) : (rowE b t L n).head? = some (t, 1, some L) := by
  obtain ⟨m, rfl⟩ : ∃ m, n = m + 1 := ⟨n - 1, by omega⟩
  unfold rowE
  rw [List.range_succ_eq_map, List.map_cons]
  simp [h]
theorem up_ok {b L : Int} {n : Nat} (h : L + n ≤ b + 1) : up b L n = L + n := by unfold up; rw [if_pos h]
theorem late_inv {b c W num : Int} {n : Nat} (hc : 1 ≤ c) (hW : 1 ≤ W ∧ W ≤ b) (hn : 1 ≤ num) (h1 : (n : Int) < W) (h2 : W + num - n ≤ b) : ∀ k : Nat, k ≤ n → LateInv b c W num n k
  | 0, _ => by
    obtain ⟨t1, t2⟩ := led_twos (b := b) W.toNat (by omega)
    have t3 := (ledS_in (b := b) (by omega) (List.replicate W.toNat 2)).2
    obtain ⟨a1, a2, a3⟩ := lef_in hc (by omega) n (num := num)
    rw [List.length_replicate] at t3
    have fit : lef c num n + 1 + W ≤ b + 1 := by
      rcases a3 with z | z
      · omega
      · have : (n : Int) ≤ c * n := by
          have := Int.mul_le_mul_of_nonneg_right hc (Int.natCast_nonneg n)
          omega
        omega
    have hnn : ((lef c num n + 1).toNat : Int) = lef c num n + 1 := by omega
    have eP : lateP c num n 0 = [lef c num n + 1] := rfl
    refine ⟨?_, ?_, ?_⟩ <;> rw [eP]
    · rw [ledS_snoc]
      unfold stepE
      dsimp only
      rw [t2, t3]
      refine ⟨_, rfl, ?_, ?_, fun _ => ?_⟩
      · rw [rowE_len]; exact hnn
      · rw [rowE_head (by omega) (by omega), show ((W.toNat : Nat) : Int) = W by omega]
      · rw [rowE_last (by omega) (by omega)]
        refine ⟨lef c num n + 1, ?_⟩
        rw [hnn, show ((W.toNat : Nat) : Int) = W by omega]
        simp
        omega
    · rw [ledS_snoc]
      unfold stepE
      dsimp only
      rw [t2, up_ok (by omega), hnn]
      unfold dn
      simp
      omega
    · rw [ledS_snoc]
      unfold stepE
      dsimp only
      rw [t3]
      simp
      omega
  | k + 1, hk => by
    obtain ⟨⟨es, i1, i2, i3, i4⟩, i5, i6⟩ := late_inv hc hW hn h1 h2 k (by omega)
    obtain ⟨a1, a2, a3⟩ := lef_in hc (by omega) (n - (k + 1)) (num := num)
    have es1 : n - k = (n - (k + 1)) + 1 := by omega
    have e2 : lef c num (n - k) = lef c num (n - (k + 1)) - min c (lef c num (n - (k + 1))) := by rw [es1]; rfl
    rw [e2] at i2 i5
    have fit : W + lef c num (n - (k + 1)) - (k + 1) ≤ b := by
      rcases a3 with z | z
      · omega
      · have : ((n - (k + 1) : Nat) : Int) ≤ c * ((n - (k + 1) : Nat) : Int) := by
          have := Int.mul_le_mul_of_nonneg_right hc (Int.natCast_nonneg (n - (k + 1)))
          omega
        omega
    generalize hll : lef c num (n - (k + 1)) = l at a1 a2 a3 i2 i5 fit ⊢
    have hm : 0 ≤ min c l ∧ min c l ≤ l := by rw [Int.min_def]; split <;> omega
    generalize hmm : min c l = m at hm i2 i5
    have hnn : (m.toNat : Int) = m := by omega
    have eP : lateP c num n (k + 1) = lateP c num n k ++ [m] := by rw [← hmm, ← hll]; rfl
    refine ⟨?_, ?_, ?_⟩ <;> rw [eP, ← List.append_assoc]
    · rw [ledS_snoc]
      unfold stepE
      dsimp only
      rw [i1, i5, i6, List.append_assoc]
      refine ⟨_, rfl, ?_, ?_, fun h => ?_⟩
      · rw [List.length_append, rowE_len]
        omega
      · rw [List.head?_append, i3]
        rfl
      · have hm0 : 0 < m := by omega
        rw [List.getLast?_append, rowE_last (by omega) (by omega), hnn]
        refine ⟨m, ?_⟩
        simp
        omega
    · rw [ledS_snoc]
      unfold stepE
      dsimp only
      rw [i5, up_ok (by omega), hnn]
      unfold dn
      rw [if_pos (by omega)]
      simp
      omega
    · rw [ledS_snoc]
      unfold stepE
      dsimp only
      rw [i6]
      simp
      omega
/-- the comings of a meeting -/
def mtC (c : Int) (p : Ent × Ent) : List Int := List.replicate (p.1.2.1 + p.1.2.2).toNat 2 ++ lateL c (p.2.2.2 - p.1.2.2) (p.1.2.1 - p.2.2.1).toNat
def mtg (c : Int) : List (Ent × Ent) → Option (List Int × Int × Int)
  | [] => none
  | p :: _ => some (mtC c p, 2 * (p.1.2.1 + p.1.2.2), 2 * (p.1.2.1 + p.1.2.2) + (p.2.2.2 - p.1.2.2))
structure Meets (ns : List Int) (rows : List (List Int)) (c : Int) (cs : List Int) (i j : Int) : Prop where
  ok : (cs.length : Int) ≤ 400 ∧ ∀ x ∈ cs, 0 ≤ x ∧ x ≤ c
  lt : 0 ≤ i ∧ i < j ∧ j < ((ledS rows.length cs).1.length : Int)
  ex : ∃ e e' w w' r r' x x', (ledS rows.length cs).1[i.toNat]? = some e ∧ (ledS rows.length cs).1[j.toNat]? = some e' ∧ e.2.2 = some w ∧ e'.2.2 = some w' ∧ (1 ≤ w ∧ w ≤ rows.length) ∧ (1 ≤ w' ∧ w' ≤ rows.length) ∧ rows[(w - 1).toNat]? = some r ∧ rows[(w' - 1).toNat]? = some r' ∧ x ∈ entR ns r ∧ x' ∈ entR ns r' ∧ e.1 + x.2.1 = e'.1 + x'.2.1 ∧ x.1 = x'.1
theorem ents_in {ns : List Int} {rows : List (List Int)} (h : Tab ns rows) {e : Ent} (he : e ∈ ents ns rows) : (1 ≤ e.2.1 + e.2.2 ∧ e.2.1 + e.2.2 ≤ rows.length) ∧ 0 ≤ e.2.1 ∧ 1 ≤ e.2.2 ∧ ∃ r, rows[(e.2.1 + e.2.2 - 1).toNat]? = some r ∧ e ∈ entR ns r := by
  unfold ents at he
  obtain ⟨r, hr, he⟩ := List.mem_flatMap.mp he
  obtain ⟨i, hi⟩ := List.getElem?_of_mem hr
  have hl := (List.getElem?_eq_some_iff.mp hi).1
  have q := h.row i r hi
  obtain ⟨a, b, c⟩ := entR_sum h.lps q he
  refine ⟨by omega, b, ?_, r, ?_, he⟩
  · have : ∀ (r : List Int) (g l : Int), (∀ k ∈ r, 1 ≤ vl ns k) → l = (r.map (vl ns)).sum → ∀ e ∈ entL (vl ns) g l r, 1 ≤ e.2.2 := fun r => by
      induction r with
      | nil => intro g l _ _ e h; exact (nomatch h)
      | cons k r ih =>
        intro g l hp hl e he
        rw [entL] at he
        have h1 := hp k List.mem_cons_self
        have hs : 0 ≤ (r.map (vl ns)).sum := by
          have : ∀ xs : List Int, (∀ k ∈ xs, 1 ≤ vl ns k) → 0 ≤ (xs.map (vl ns)).sum := fun xs => by
            induction xs with
            | nil => intro _; simp
            | cons x xs ih =>
              intro hx
              have := ih fun i hi => hx i (List.mem_cons_of_mem _ hi)
              have := hx x List.mem_cons_self
              simp only [List.map_cons, List.sum_cons]
              omega
          exact this r fun k hk => hp k (List.mem_cons_of_mem _ hk)
        rw [List.map_cons, List.sum_cons] at hl
        rcases List.mem_cons.mp he with z | z
        · rw [z]
          dsimp only
          omega
        · exact ih _ _ (fun k hk => hp k (List.mem_cons_of_mem _ hk)) (by omega) e z
    exact this r 0 _ (fun k hk => (vl_pos h.lps (q.ok k hk)).1) rfl e he
  · rw [show (e.2.1 + e.2.2 - 1).toNat = i by omega]
    exact hi
theorem meets_of {ns : List Int} {rows : List (List Int)} (h : Tab ns rows) {c : Int} (hc : 2 ≤ c ∧ c ≤ 4) {p : Ent × Ent} (hp : p ∈ clsT c ns rows) : Meets ns rows c (mtC c p) (2 * (p.1.2.1 + p.1.2.2)) (2 * (p.1.2.1 + p.1.2.2) + (p.2.2.2 - p.1.2.2)) := by
  obtain ⟨m1, m2, m3⟩ := clsT_mem.mp hp
  obtain ⟨a, o⟩ := p
  dsimp only at m1 m2 m3 ⊢
  obtain ⟨k1, k2, k3, k4⟩ := hit_iff.mp m3
  obtain ⟨p1, p2, p3, r, p4, p5⟩ := ents_in h m1
  obtain ⟨q1, q2, q3, r', q4, q5⟩ := ents_in h m2
  have h60 := h.len
  unfold mtC
  dsimp only
  have hT : (((a.2.1 - o.2.1).toNat : Nat) : Int) = a.2.1 - o.2.1 := by omega
  have li := late_inv (b := rows.length) (c := c) (W := a.2.1 + a.2.2) (num := o.2.2 - a.2.2) (n := (a.2.1 - o.2.1).toNat) (by omega) p1 (by omega) (by omega) (by omega) _ (Nat.le_refl _)
  obtain ⟨⟨es, i1, i2, i3, i4⟩, i5, i6⟩ := li
  rw [lateP_all, Nat.sub_self] at *
  have i2 : (es.length : Int) = o.2.2 - a.2.2 + 1 := i2
  have hl0 : lef c (o.2.2 - a.2.2) 0 = o.2.2 - a.2.2 := rfl
  rw [hl0] at i4
  obtain ⟨u, i4⟩ := i4 (by rw [Int.min_def]; split <;> omega)
  obtain ⟨t1, t2⟩ := led_twos (b := (rows.length : Int)) (a.2.1 + a.2.2).toNat (by omega)
  have tl : (ledS (rows.length : Int) (List.replicate (a.2.1 + a.2.2).toNat 2)).1.length = 2 * (a.2.1 + a.2.2).toNat := by
    rw [← preS_len, ← t1, List.length_map]
  obtain ⟨f1, f2, f3⟩ := lef_in (c := c) (num := o.2.2 - a.2.2) (by omega) (by omega) (a.2.1 - o.2.1).toNat
  rw [hT] at f3
  refine ⟨⟨?_, fun x hx => ?_⟩, ⟨by omega, by omega, ?_⟩, ?_⟩
  · unfold lateL lrow
    simp
    omega
  · rcases List.mem_append.mp hx with z | z
    · have := List.eq_of_mem_replicate z
      omega
    · unfold lateL at z
      rcases List.mem_cons.mp z with z | z
      · omega
      · rw [List.mem_reverse] at z
        unfold lrow at z
        obtain ⟨i, _, rfl⟩ := List.mem_map.mp z
        have := (lef_in (c := c) (num := o.2.2 - a.2.2) (by omega) (by omega) i).1
        rw [Int.min_def]
        split <;> omega
  · rw [i1, List.length_append, tl]
    omega
  · rw [i1]
    have e0 : es[0]? = some (a.2.1 + a.2.2, 1, some (a.2.1 + a.2.2)) := by rw [← List.head?_eq_getElem?]; exact i3
    have e1 : es[(o.2.2 - a.2.2).toNat]? = some (a.2.1 + a.2.2 + ((a.2.1 - o.2.1).toNat : Nat), u, some (a.2.1 + a.2.2 + (o.2.2 - a.2.2) - ((a.2.1 - o.2.1).toNat : Nat))) := by
      rw [← i4, List.getLast?_eq_getElem?]
      congr 1
      omega
    have g0 : ((ledS (rows.length : Int) (List.replicate (a.2.1 + a.2.2).toNat 2)).1 ++ es)[(2 * (a.2.1 + a.2.2)).toNat]? = some (a.2.1 + a.2.2, 1, some (a.2.1 + a.2.2)) := by
      rw [List.getElem?_append_right (by omega), tl, show (2 * (a.2.1 + a.2.2)).toNat - 2 * (a.2.1 + a.2.2).toNat = 0 by omega]
      exact e0
    have g1 : ((ledS (rows.length : Int) (List.replicate (a.2.1 + a.2.2).toNat 2)).1 ++ es)[(2 * (a.2.1 + a.2.2) + (o.2.2 - a.2.2)).toNat]? = some (a.2.1 + a.2.2 + ((a.2.1 - o.2.1).toNat : Nat), u, some (a.2.1 + a.2.2 + (o.2.2 - a.2.2) - ((a.2.1 - o.2.1).toNat : Nat))) := by
      rw [List.getElem?_append_right (by omega), tl, show (2 * (a.2.1 + a.2.2) + (o.2.2 - a.2.2)).toNat - 2 * (a.2.1 + a.2.2).toNat = (o.2.2 - a.2.2).toNat by omega]
      exact e1
    refine ⟨_, _, _, _, r, r', a, o, g0, g1, rfl, rfl, p1, ⟨by omega, by omega⟩, p4, ?_, p5, q5, ?_, k1⟩
    · rw [← q4]
      congr 2
      omega
    · dsimp only
      omega
/-! ## the same thing twice -/
theorem twice_mem {A : Type} [DecidableEq A] {l : List A} (h : ¬ l.Nodup) : ∃ j : Nat, ∃ hj : j < l.length, l[j] ∈ l.take j := by
  induction l using snoc_ind'' with
  | nil => exact absurd List.nodup_nil h
  | snoc l x ih =>
    by_cases c : l.Nodup
    · have : x ∈ l := by
        apply Classical.byContradiction
        intro hx
        exact h (List.nodup_append.mpr ⟨c, by simp, fun a ha b hb z => hx (by rw [List.mem_singleton.mp hb] at z; exact z ▸ ha)⟩)
      exact ⟨l.length, by simp, by simpa using this⟩
    · obtain ⟨j, hj, hm⟩ := ih c
      refine ⟨j, by simp; omega, ?_⟩
      rw [List.getElem_append_left hj, List.take_append_of_le_length (by omega)]
      exact hm
theorem twice_no {A : Type} [DecidableEq A] {l : List A} (h : l.Nodup) {j : Nat} (hj : j < l.length) : l[j] ∉ l.take j := fun hm => by
  obtain ⟨i, hi, e⟩ := List.getElem_of_mem hm
  rw [List.length_take] at hi
  rw [List.getElem_take] at e
  have := (List.pairwise_iff_getElem.mp h) i j (by omega) hj (by omega)
  exact this e
end Pu
namespace Pu
open PySem L2

/-! # tables changed, keys, when two letters meet -/
theorem idxRows {A : Type} {xs : List A} {w : Int} {r : A} (h : xs[(w - 1).toNat]? = some r) (h1 : 1 ≤ w) : idx xs (w - 1) = .ok r := by
  have := List.getElem?_eq_some_iff.mp h
  obtain ⟨a, b⟩ := this
  rw [idx_some (by omega) (by omega), b]
theorem tabSet {ns : List Int} {rows : List (List Int)} (h : Tab ns rows) {w : Int} (h0 : 1 ≤ w) {r : List Int} (hr : RowW ns r w) : Tab ns (rows.set (w - 1).toNat r) := by
  refine ⟨h.lps, by rw [List.length_set]; exact h.pos, by rw [List.length_set]; exact h.len, fun i r' hi => ?_⟩
  rw [List.getElem?_set] at hi
  split at hi
  · split at hi
    · cases hi
      have : (i : Int) + 1 = w := by omega
      rw [this]
      exact hr
    · cases hi
  · exact h.row i r' hi
theorem tabApp {ns : List Int} {rows : List (List Int)} (h : Tab ns rows) {r : List Int} (hr : RowW ns r (rows.length + 1)) (hl : rows.length < 60) : Tab ns (rows ++ [r]) := by
  refine ⟨h.lps, by simp, by simp; omega, fun i r' hi => ?_⟩
  rw [List.getElem?_append] at hi
  split at hi
  · exact h.row i r' hi
  · have : i = rows.length := by
      have := (List.getElem?_eq_some_iff.mp hi).1
      simp at this
      omega
    subst this
    simp at hi
    subst hi
    exact hr
theorem ents_sub {ns : List Int} {rows rows' : List (List Int)} (h : ∀ r ∈ rows, r ∈ rows') {e : Ent} (he : e ∈ ents ns rows) : e ∈ ents ns rows' := by
  unfold ents at he ⊢
  obtain ⟨r, hr, he⟩ := List.mem_flatMap.mp he
  exact List.mem_flatMap.mpr ⟨r, h r hr, he⟩
theorem cls_sub {c d : Int} (hcd : c ≤ d) {ns : List Int} {rows rows' : List (List Int)} (h : ∀ r ∈ rows, r ∈ rows') {p : Ent × Ent} (hp : p ∈ clsT c ns rows) : p ∈ clsT d ns rows' := by
  rw [clsT_mem] at hp ⊢
  exact ⟨ents_sub h hp.1, ents_sub h hp.2.1, hit_mono hcd hp.2.2⟩
theorem nil_of_no {A : Type} {xs : List A} (h : ∀ x, x ∉ xs) : xs = [] := List.eq_nil_iff_forall_not_mem.mpr h
theorem cls_nil {c d : Int} (hcd : c ≤ d) {ns : List Int} {rows rows' : List (List Int)} (h : ∀ r ∈ rows, r ∈ rows') (hn : clsT d ns rows' = []) : clsT c ns rows = [] := nil_of_no fun p hp => by
  have := cls_sub hcd h hp
  rw [hn] at this
  exact (nomatch this)
theorem ahas_keys {A B : Type} [DecidableEq A] (kvs : List (A × B)) (k : A) : ahas kvs k = decide (k ∈ akeys kvs) := by
  unfold ahas akeys
  rw [Bool.eq_iff_iff, List.any_eq_true, decide_eq_true_eq, List.mem_map]
  constructor
  · rintro ⟨p, hp, e⟩
    exact ⟨p, hp, by simpa using e⟩
  · rintro ⟨p, hp, e⟩
    exact ⟨p, hp, by simpa using e⟩
theorem akeys_len {A B : Type} (kvs : List (A × B)) : kvs.length = (akeys kvs).length := by simp [akeys]
theorem vl_ones {f : Int → Int} {j : Int} : ∀ n : Nat, ((List.replicate n j).map f).sum = n * f j
  | 0 => by simp
  | n + 1 => by
    rw [List.replicate_succ, List.map_cons, List.sum_cons, vl_ones n, Int.natCast_add, Int.add_mul]
    simp
    omega
/-- when and where a letter is laid -/
def plK (ns : List Int) (rows : List (List Int)) (e : Let) : List (Int × Int) := (plE ns rows (0, e)).map plT
theorem plE_plK {ns : List Int} {rows : List (List Int)} (i : Int) (e : Let) : (plE ns rows (i, e)).map plT = plK ns rows e := by
  obtain ⟨t, u, o⟩ := e
  cases o with
  | none => rfl
  | some w =>
    unfold plK plE
    dsimp only
    rw [List.map_map, List.map_map]
    rfl
theorem plK_all {ns : List Int} {rows : List (List Int)} : ∀ (k : Nat) (es : List Let), ((enuL k es).flatMap (plE ns rows)).map plT = es.flatMap (plK ns rows)
  | _, [] => rfl
  | k, e :: es => by
    show (plE ns rows ((k : Int), e) ++ (enuL (k + 1) es).flatMap (plE ns rows)).map plT = plK ns rows e ++ es.flatMap (plK ns rows)
    rw [List.map_append, plK_all (k + 1) es, plE_plK]
theorem plK_some {ns : List Int} {rows : List (List Int)} {t u w : Int} (h0 : 1 ≤ w) {r : List Int} (hr : rows[(w - 1).toNat]? = some r) : plK ns rows (t, u, some w) = (entR ns r).map fun x => (t + x.2.1, x.1) := by
  have e1 : w.toNat = (w - 1).toNat + 1 := by omega
  unfold plK plE
  dsimp only
  rw [e1, List.getD_cons_succ, List.getD_eq_getElem?_getD, List.getElem?_map, hr, List.map_map]
  rfl
theorem plK_len {ns : List Int} {rows : List (List Int)} (h : Tab ns rows) (e : Let) : (plK ns rows e).length ≤ 60 := by
  unfold plK
  rw [List.length_map]
  exact plE_len h _
theorem meets_dup {ns : List Int} {rows : List (List Int)} {c : Int} {cs : List Int} {i j : Int} (hm : Meets ns rows c cs i j) : ¬ ((ledS rows.length cs).1.flatMap (plK ns rows)).Nodup := fun nd => by
  obtain ⟨l1, l2, l3⟩ := hm.lt
  obtain ⟨⟨t, u, o⟩, ⟨t', u', o'⟩, w, w', r, r', x, x', g1, g2, g3, g4, g5, g6, g7, g8, g9, g10, g11, g12⟩ := hm.ex
  dsimp only at g3 g4 g11
  subst g3 g4
  obtain ⟨a1, a2⟩ := List.getElem?_eq_some_iff.mp g1
  obtain ⟨b1, b2⟩ := List.getElem?_eq_some_iff.mp g2
  have nd := List.pairwise_iff_getElem.mp (List.pairwise_flatMap.mp nd).2 i.toNat j.toNat a1 b1 (by omega)
  rw [a2, b2, plK_some g5.1 g7, plK_some g6.1 g8] at nd
  exact nd (t + x.2.1, x.1) (List.mem_map.mpr ⟨x, g9, rfl⟩) (t + x.2.1, x.1) (List.mem_map.mpr ⟨x', g10, by rw [g11, g12]⟩) rfl
theorem safe_nodup {ns : List Int} {rows : List (List Int)} (h : Tab ns rows) {c : Int} (hc : 1 ≤ c) (hn : clsT c ns rows = []) {cs : List Int} (hs : ∀ x ∈ cs, 0 ≤ x ∧ x ≤ c) : ((ledS rows.length cs).1.flatMap (plK ns rows)).Nodup := by
  have := no_meet h hn 0 _ (led_pairs (b := rows.length) (by omega) hc cs hs).1 fun e he => (led_mem (by omega) cs e he).2
  rwa [plK_all] at this
end Pu
namespace Pu
open PySem L2

/-! # all rows of waits that can stand in the line -/
/-- n letters come -/
def addN (b : Nat) (s : List Int) : Nat → List Int
  | 0 => s
  | n + 1 => if (addN b s n).length ≤ b then addN b s n ++ [((addN b s n).length : Int)] else addN b s n
theorem addN_len {b : Nat} {s : List Int} (h : s.length ≤ b + 1) : ∀ n : Nat, (addN b s n).length = min (s.length + n) (b + 1)
  | 0 => by simp [addN]; omega
  | n + 1 => by
    have ih := addN_len h n
    unfold addN
    split
    · rw [List.length_append, List.length_singleton]; omega
    · omega
theorem addN_old {b : Nat} {s : List Int} {i : Nat} (hi : i < s.length) : ∀ n : Nat, (addN b s n)[i]? = s[i]?
  | 0 => rfl
  | n + 1 => by
    have ih := addN_old (b := b) hi n
    unfold addN
    split
    · have hl : i < (addN b s n).length := by
        rw [List.getElem?_eq_getElem hi] at ih
        exact (List.getElem?_eq_some_iff.mp ih).1
      rw [List.getElem?_append_left hl]
      exact ih
    · exact ih
theorem addN_new {b : Nat} {s : List Int} (h : s.length ≤ b + 1) {i : Nat} (h0 : s.length ≤ i) : ∀ n : Nat, ∀ w, (addN b s n)[i]? = some w → w = i
  | 0, w, e => by
    have := (List.getElem?_eq_some_iff.mp e).1
    unfold addN at this
    omega
  | n + 1, w, e => by
    have ih := addN_new h h0 n
    unfold addN at e
    split at e
    · rw [List.getElem?_append] at e
      split at e
      · exact ih w e
      · have : i = (addN b s n).length := by
          have := (List.getElem?_eq_some_iff.mp e).1
          simp at this
          omega
        rw [this] at e ⊢
        simp at e
        exact e.symm
    · exact ih w e
/-- a row of waits behind a tick -/
structure StA (c : Int) (b : Nat) (s : List Int) : Prop where
  len : s.length ≤ b
  el : ∀ (i : Nat) w, s[i]? = some w → (i : Int) + 1 ≤ w ∧ w ≤ b ∧ (s.length : Int) - i ≤ c * (w - i)
  pr : ∀ (i j : Nat) w v, i < j → s[i]? = some w → s[j]? = some v → v - j ≤ w - i ∧ (j : Int) - i ≤ c * ((w - i) - (v - j)) + c - 1
/-- the row at a tick, those that came with it -/
structure StB (c : Int) (b : Nat) (s : List Int) : Prop where
  el : ∀ (i : Nat) w, s[i]? = some w → (i : Int) ≤ w ∧ w ≤ b
  pr : ∀ (i j : Nat) w v, i < j → s[i]? = some w → s[j]? = some v → v - j ≤ w - i ∧ (j : Int) - i ≤ c * ((w - i) - (v - j)) + c - 1
theorem stA_nil {c : Int} {b : Nat} : StA c b [] := ⟨Nat.zero_le _, fun _ _ h => (nomatch h), fun _ _ _ _ _ h => (nomatch h)⟩
theorem addN_stB {c : Int} {b : Nat} {s : List Int} (h : StA c b s) {n : Nat} (hn : (n : Int) ≤ c) : StB c b (addN b s n) := by
  have hl := addN_len (b := b) (s := s) (by have := h.len; omega) n
  have hb := h.len
  have new : ∀ (i : Nat) w, s.length ≤ i → (addN b s n)[i]? = some w → w = i ∧ i < s.length + n ∧ i ≤ b := fun i w h0 e => by
    have := (List.getElem?_eq_some_iff.mp e).1
    exact ⟨addN_new (by omega) h0 n w e, by omega, by omega⟩
  refine ⟨fun i w e => ?_, fun i j w v hij e1 e2 => ?_⟩
  · by_cases hi : i < s.length
    · rw [addN_old hi] at e
      have := h.el i w e
      omega
    · have := new i w (by omega) e
      omega
  · by_cases hj : j < s.length
    · rw [addN_old hj] at e2
      rw [addN_old (by omega)] at e1
      exact h.pr i j w v hij e1 e2
    · obtain ⟨a1, a2, a3⟩ := new j v (by omega) e2
      by_cases hi : i < s.length
      · rw [addN_old hi] at e1
        obtain ⟨b1, b2, b3⟩ := h.el i w e1
        rw [a1, Int.sub_self, Int.sub_zero]
        omega
      · obtain ⟨b1, b2, b3⟩ := new i w (by omega) e1
        rw [a1, b1, Int.sub_self, Int.sub_self, Int.sub_self, Int.mul_zero]
        omega
theorem step_stA {c : Int} (hc : 1 ≤ c) {b : Nat} {s : List Int} (h : StA c b s) {n : Nat} (hn : (n : Int) ≤ c) : StA c b ((addN b s n).drop 1) := by
  have hB := addN_stB h hn
  have hl := addN_len (b := b) (s := s) (by have := h.len; omega) n
  have hb := h.len
  refine ⟨by rw [List.length_drop]; omega, fun i w e => ?_, fun i j w v hij e1 e2 => ?_⟩
  · rw [List.getElem?_drop] at e
    have hin := (List.getElem?_eq_some_iff.mp e).1
    have e1 := hB.el _ w e
    refine ⟨by omega, by omega, ?_⟩
    rw [List.length_drop]
    by_cases hi : 1 + i < s.length
    · rw [addN_old hi] at e
      have := (h.el _ w e).2.2
      rw [show w - (i : Int) = (w - ((1 + i : Nat) : Int)) + 1 by omega, Int.mul_add, Int.mul_one]
      omega
    · have hw := addN_new (by omega) (by omega) n w e
      rw [hw, show ((1 + i : Nat) : Int) - (i : Int) = 1 by omega, Int.mul_one]
      omega
  · rw [List.getElem?_drop] at e1 e2
    have := hB.pr _ _ w v (by omega) e1 e2
    rw [show (w - (i : Int)) - (v - (j : Int)) = (w - ((1 + i : Nat) : Int)) - (v - ((1 + j : Nat) : Int)) by omega]
    omega
/-! ## there are few of them -/
def gS : Nat → Nat → Nat → List (List Int)
  | 0, _, _ => [[]]
  | k + 1, i, m => [] :: (List.range m).flatMap fun a => (gS k (i + 1) (min (a + 1) (6 - i))).map fun t => ((i : Int) + a + 1) :: t
theorem gS_mem {b : Nat} (hb : b ≤ 7) : ∀ (k i m : Nat) (s : List Int), s.length ≤ k → m ≤ 7 - i → (∀ (j : Nat) (w : Int), s[j]? = some w → ((i + j : Nat) : Int) + 1 ≤ w ∧ w ≤ 7) → (∀ w : Int, s[0]? = some w → w - (i : Int) ≤ (m : Int)) → (∀ (j : Nat) (w v : Int), s[j]? = some w → s[j + 1]? = some v → v ≤ w + 1) → s ∈ gS k i m
  | 0, i, m, s, hl, _, _, _, _ => by
    have e : s = [] := List.eq_nil_of_length_eq_zero (by omega)
    rw [e]
    exact List.mem_cons_self
  | k + 1, i, m, [], _, _, _, _, _ => List.mem_cons_self
  | k + 1, i, m, w :: s, hl, hm, he, h0, hp => by
    have w0 := he 0 w rfl
    have w1 := h0 w rfl
    unfold gS
    refine List.mem_cons_of_mem _ (List.mem_flatMap.mpr ⟨(w - i - 1).toNat, List.mem_range.mpr (by omega), List.mem_map.mpr ⟨s, ?_, ?_⟩⟩)
    · refine gS_mem hb k (i + 1) _ s (by simpa using hl) (by omega) (fun j v hv => ?_) (fun v hv => ?_) fun j v u hv hu => hp (j + 1) v u hv hu
      · have := he (j + 1) v hv
        omega
      · have a := hp 0 w v rfl hv
        have b := he 1 v hv
        omega
    · congr 1
      omega
theorem gS_len : (gS 7 0 7).length ≤ 3000 := by decide +kernel
theorem stA_in {c : Int} (hc : 1 ≤ c) {b : Nat} (hb : b ≤ 7) {s : List Int} (h : StA c b s) : s ∈ gS 7 0 7 := by
  refine gS_mem hb 7 0 7 s (by have := h.len; omega) (by omega) (fun j w e => ?_) (fun w e => ?_) fun j w v e1 e2 => ?_
  · have := h.el j w e; omega
  · have := h.el 0 w e; omega
  · have := h.pr j (j + 1) w v (by omega) e1 e2; omega
theorem nodup_le {A : Type} [DecidableEq A] : ∀ {xs ys : List A}, xs.Nodup → (∀ x ∈ xs, x ∈ ys) → xs.length ≤ ys.length
  | [], _, _, _ => Nat.zero_le _
  | x :: xs, ys, hn, h => by
    obtain ⟨n1, n2⟩ := List.nodup_cons.mp hn
    have hx := h x List.mem_cons_self
    have := nodup_le (xs := xs) (ys := ys.erase x) n2 fun y hy => (List.mem_erase_of_ne fun e => n1 (by rw [← e]; exact hy)).mpr (h y (List.mem_cons_of_mem _ hy))
    rw [List.length_erase_of_mem hx] at this
    have := List.length_pos_of_mem hx
    simp
    omega
/-! ## who enters what -/
def entS1 (ns : List Int) (rows : List (List Int)) (p : Int × Int) : List Int := if p.2 > 0 then ((entR ns (rows.getD (p.2 - 1).toNat [])).filter fun x => decide (x.2.2 = p.1)).map fun x => x.1 else []
def entAll (ns : List Int) (rows : List (List Int)) (s : List Int) : List Int := (enuL 0 s).flatMap (entS1 ns rows)
theorem one_left {ns : List Int} (hL : Lps ns) {r : List Int} {w : Int} (q : RowW ns r w) (k : Int) : ((entR ns r).filter fun x => decide (x.2.2 = k)).length ≤ 1 := by
  have hp : ((entR ns r).filter fun x => decide (x.2.2 = k)).Pairwise fun a b => a.2.1 < b.2.1 := (entR_gone hL q.ok).sublist List.filter_sublist
  have hm : ∀ e ∈ (entR ns r).filter fun x => decide (x.2.2 = k), e.2.1 + e.2.2 = w ∧ e.2.2 = k := fun e he => by
    obtain ⟨a, b⟩ := List.mem_filter.mp he
    exact ⟨(entR_sum hL q a).2.2, by simpa using b⟩
  generalize (entR ns r).filter (fun x => decide (x.2.2 = k)) = M at hp hm
  match M, hp, hm with
  | [], _, _ => exact Nat.zero_le _
  | [_], _, _ => exact Nat.le_refl _
  | x :: y :: M, hp, hm =>
    have a := hm x (by simp)
    have b := hm y (by simp)
    have := (List.pairwise_cons.mp hp).1 y (by simp)
    omega
theorem entS1_len {ns : List Int} {rows : List (List Int)} (h : Tab ns rows) (p : Int × Int) : (entS1 ns rows p).length ≤ 1 := by
  unfold entS1
  split
  · rw [List.length_map, List.getD_eq_getElem?_getD]
    cases q : rows[(p.2 - 1).toNat]? with
    | none => simp [entR, entL]
    | some r =>
      rw [Option.getD_some]
      exact one_left h.lps (h.row _ r q) _
  · simp
theorem nodup_short {A : Type} {xs : List A} (h : xs.length ≤ 1) : xs.Nodup := by
  match xs, h with
  | [], _ => exact List.nodup_nil
  | [_], _ => simp
theorem entS1_mem {ns : List Int} {rows : List (List Int)} {p : Int × Int} (hw : 0 ≤ p.2 ∧ p.2 ≤ rows.length) {k : Int} (hk : k ∈ entS1 ns rows p) : ∃ r x, rows[(p.2 - 1).toNat]? = some r ∧ 0 < p.2 ∧ x ∈ entR ns r ∧ x.2.2 = p.1 ∧ x.1 = k := by
  unfold entS1 at hk
  split at hk
  · rename_i c
    obtain ⟨x, hx, e⟩ := List.mem_map.mp hk
    obtain ⟨a, b⟩ := List.mem_filter.mp hx
    have hi : (p.2 - 1).toNat < rows.length := by omega
    rw [List.getD_eq_getElem?_getD, List.getElem?_eq_getElem hi] at a
    exact ⟨_, x, List.getElem?_eq_getElem hi, c, a, by simpa using b, e⟩
  · exact (nomatch hk)
theorem ent_ok {ns : List Int} {rows : List (List Int)} (h : Tab ns rows) {c : Int} (hn : clsT c ns rows = []) {s : List Int} (hs : StB c rows.length s) : (entAll ns rows s).Nodup := by
  unfold entAll
  refine List.pairwise_flatMap.mpr ⟨fun p hp => nodup_short (entS1_len h p), ?_⟩
  refine List.pairwise_iff_getElem.mpr fun i j hi hj hij k hk k' hk' z => ?_
  subst z
  have gi := enuL_get 0 i s
  have gj := enuL_get 0 j s
  rw [List.getElem?_eq_getElem hi] at gi
  rw [List.getElem?_eq_getElem hj] at gj
  obtain ⟨w, hw, ei⟩ := Option.map_eq_some_iff.mp gi.symm
  obtain ⟨v, hv, ej⟩ := Option.map_eq_some_iff.mp gj.symm
  rw [← ei] at hk
  rw [← ej] at hk'
  have bw := hs.el i w hw
  have bv := hs.el j v hv
  obtain ⟨r, x, r1, r2, r3, r4, r5⟩ := entS1_mem (by dsimp only; omega) hk
  obtain ⟨r', x', q1, q2, q3, q4, q5⟩ := entS1_mem (by dsimp only; omega) hk'
  dsimp only at r1 r2 r4 q1 q2 q4
  have sx := entR_sum h.lps (h.row _ _ r1) r3
  have sy := entR_sum h.lps (h.row _ _ q1) q3
  have pr := hs.pr i j w v hij hw hv
  have e1 : x.2.1 = w - i := by omega
  have e2 : x'.2.1 = v - j := by omega
  have hh : hit c x x' = true := hit_iff.mpr ⟨by rw [r5, q5], by omega, by omega, by rw [e1, e2]; omega⟩
  have : (x, x') ∈ clsT c ns rows := clsT_mem.mpr ⟨List.mem_flatMap.mpr ⟨r, List.mem_of_getElem? r1, r3⟩, List.mem_flatMap.mpr ⟨r', List.mem_of_getElem? q1, q3⟩, hh⟩
  rw [hn] at this
  exact (nomatch this)
/-! ## closed under all comings -/
structure Closed (ns : List Int) (rows : List (List Int)) (c : Int) (F : List (List Int)) : Prop where
  nil : [] ∈ F
  st : ∀ s ∈ F, ∀ n : Nat, (n : Int) ≤ c → (entAll ns rows (addN rows.length s n)).Nodup ∧ (addN rows.length s n).drop 1 ∈ F
  len : ∀ s ∈ F, s.length ≤ rows.length
theorem addN_at {b : Nat} {s : List Int} (h : s.length ≤ b + 1) {i n : Nat} (h0 : s.length ≤ i) (h1 : i < s.length + n) (h2 : i ≤ b) : (addN b s n)[i]? = some (i : Int) := by
  have hl := addN_len h n
  have hi : i < (addN b s n).length := by omega
  rw [List.getElem?_eq_getElem hi]
  congr 1
  exact addN_new h h0 n _ (List.getElem?_eq_getElem hi)
theorem closed_no {ns : List Int} {rows : List (List Int)} (h : Tab ns rows) {c : Int} (hc : 2 ≤ c) {F : List (List Int)} (hF : Closed ns rows c F) : clsT c ns rows = [] := nil_of_no fun p hp => by
  obtain ⟨m1, m2, m3⟩ := clsT_mem.mp hp
  obtain ⟨a, o⟩ := p
  dsimp only at m1 m2 m3
  obtain ⟨k1, k2, k3, k4⟩ := hit_iff.mp m3
  obtain ⟨p1, p2, p3, r, p4, p5⟩ := ents_in h m1
  obtain ⟨q1, q2, q3, r', q4, q5⟩ := ents_in h m2
  obtain ⟨W, hW⟩ := Int.eq_ofNat_of_zero_le (show 0 ≤ a.2.1 + a.2.2 by omega)
  obtain ⟨T, hT⟩ := Int.eq_ofNat_of_zero_le (show 0 ≤ a.2.1 - o.2.1 by omega)
  generalize hN : o.2.2 - a.2.2 = num at k4
  have two : ∀ j : Nat, j ≤ W → ∃ s ∈ F, s.length = j := fun j => by
    induction j with
    | zero => intro _; exact ⟨[], hF.nil, rfl⟩
    | succ j ih =>
      intro hj
      obtain ⟨s, hs, hl⟩ := ih (by omega)
      refine ⟨_, (hF.st s hs 2 (by omega)).2, ?_⟩
      rw [List.length_drop, addN_len (by omega)]
      omega
  have late : ∀ k : Nat, k ≤ T → ∃ s ∈ F, ∃ n : Nat, (n : Int) ≤ c ∧ ((addN rows.length s n).length : Int) = W + lef c num (T - k) - k + 1 ∧ (addN rows.length s n)[W - k]? = some (W : Int) ∧ (k = T → (addN rows.length s n)[(W + num - T).toNat]? = some (W + num - T)) := fun k => by
    induction k with
    | zero =>
      intro _
      obtain ⟨s, hs, hl⟩ := two W (Nat.le_refl _)
      obtain ⟨a1, a2, a3⟩ := lef_in (c := c) (num := num) (by omega) (by omega) T
      rw [hT] at k4
      have hle : lef c num T ≤ c - 1 := by omega
      have fit : lef c num T + W ≤ rows.length := by
        rcases a3 with z | z
        · omega
        · have : (T : Int) ≤ c * T := by
            have := Int.mul_le_mul_of_nonneg_right (show 1 ≤ c by omega) (Int.natCast_nonneg T)
            omega
          omega
      refine ⟨s, hs, (lef c num T + 1).toNat, by omega, ?_, ?_, fun hk => ?_⟩
      · rw [addN_len (by omega)]
        simp only [Nat.sub_zero]
        omega
      · exact addN_at (by omega) (by omega) (by omega) (by omega)
      · subst hk
        have : (W + num - ((0 : Nat) : Int)).toNat = W + num.toNat := by omega
        have hz : lef c num 0 = num := rfl
        rw [hz] at fit a1
        rw [this, addN_at (by omega) (by omega) (by rw [hz]; omega) (by omega)]
        congr 1
        omega
    | succ k ih =>
      intro hk
      obtain ⟨s, hs, n, hn, i1, i2, _⟩ := ih (by omega)
      have hmem := (hF.st s hs n hn).2
      have hlen := hF.len _ hmem
      have l0 := (lef_in (c := c) (num := num) (by omega) (by omega) (T - k)).1
      have hdl : (((addN rows.length s n).drop 1).length : Int) = W + lef c num (T - k) - k := by rw [List.length_drop]; omega
      obtain ⟨a1, a2, a3⟩ := lef_in (c := c) (num := num) (by omega) (by omega) (T - (k + 1))
      have es1 : T - k = (T - (k + 1)) + 1 := by omega
      have e2 : lef c num (T - k) = lef c num (T - (k + 1)) - min c (lef c num (T - (k + 1))) := by rw [es1]; rfl
      have fit : W + lef c num (T - (k + 1)) - (k + 1) ≤ rows.length := by
        rcases a3 with z | z
        · omega
        · have : ((T - (k + 1) : Nat) : Int) ≤ c * ((T - (k + 1) : Nat) : Int) := by
            have := Int.mul_le_mul_of_nonneg_right (show 1 ≤ c by omega) (Int.natCast_nonneg (T - (k + 1)))
            omega
          omega
      have hmin : 0 ≤ min c (lef c num (T - (k + 1))) ∧ min c (lef c num (T - (k + 1))) ≤ c := by rw [Int.min_def]; split <;> omega
      generalize hm : min c (lef c num (T - (k + 1))) = m at e2 hmin
      have hal := addN_len (b := rows.length) (s := (addN rows.length s n).drop 1) (by omega) m.toNat
      refine ⟨_, hmem, m.toNat, by omega, ?_, ?_, fun hk2 => ?_⟩
      · rw [hal]
        omega
      · rw [addN_old (by omega), List.getElem?_drop, show 1 + (W - (k + 1)) = W - k by omega]
        exact i2
      · have hz : lef c num (T - (k + 1)) = num := by rw [hk2, Nat.sub_self]; rfl
        rw [hz] at e2 hm fit
        have hm1 : 1 ≤ m := by rw [← hm, Int.min_def]; split <;> omega
        rw [addN_at (by omega) (by omega) (by omega) (by omega)]
        congr 1
        omega
  obtain ⟨s, hs, n, hn, j1, j2, j3⟩ := late T (Nat.le_refl _)
  have j3 := j3 rfl
  generalize hX : addN rows.length s n = X at j1 j2 j3
  have tail : ∀ z : Nat, (entAll ns rows (X.drop z)).Nodup ∧ X.drop (z + 1) ∈ F := fun z => by
    induction z with
    | zero => rw [← hX]; exact hF.st s hs n hn
    | succ z ih =>
      have := hF.st _ ih.2 0 (by omega)
      rw [show addN rows.length (X.drop (z + 1)) 0 = X.drop (z + 1) from rfl, List.drop_drop] at this
      exact this
  have nd := (tail o.2.1.toNat).1
  unfold entAll at nd
  have gA : (X.drop o.2.1.toNat)[a.2.2.toNat]? = some (a.2.1 + a.2.2) := by
    rw [List.getElem?_drop, show o.2.1.toNat + a.2.2.toNat = W - T by omega, j2, hW]
  have gB : (X.drop o.2.1.toNat)[o.2.2.toNat]? = some (o.2.1 + o.2.2) := by
    rw [List.getElem?_drop, show o.2.1.toNat + o.2.2.toNat = (W + num - T).toNat by omega, j3]
    congr 1
    omega
  have nd := (List.pairwise_flatMap.mp nd).2
  have fA := enuL_get 0 a.2.2.toNat (X.drop o.2.1.toNat)
  have fB := enuL_get 0 o.2.2.toNat (X.drop o.2.1.toNat)
  rw [gA] at fA
  rw [gB] at fB
  simp only [Option.map_some, Nat.zero_add] at fA fB
  obtain ⟨hA, fA⟩ := List.getElem?_eq_some_iff.mp fA
  obtain ⟨hB, fB⟩ := List.getElem?_eq_some_iff.mp fB
  have nd := List.pairwise_iff_getElem.mp nd a.2.2.toNat o.2.2.toNat hA hB (by omega)
  rw [fA, fB] at nd
  have inn : ∀ (x : Ent) (r : List Int), rows[(x.2.1 + x.2.2 - 1).toNat]? = some r → x ∈ entR ns r → 1 ≤ x.2.1 + x.2.2 → 0 ≤ x.2.2 → x.1 ∈ entS1 ns rows (((x.2.2.toNat : Nat) : Int), x.2.1 + x.2.2) := fun x r hr hx h1 h2 => by
    unfold entS1
    rw [if_pos (by dsimp only; omega)]
    refine List.mem_map.mpr ⟨x, List.mem_filter.mpr ⟨?_, by simp; omega⟩, rfl⟩
    dsimp only
    rw [List.getD_eq_getElem?_getD, hr]
    exact hx
  exact nd a.1 (inn a r p4 p5 (by omega) (by omega)) o.1 (inn o r' q4 q5 (by omega) (by omega)) k1
end Pu
namespace Pu
open PySem L2

/-! # walks of spots -/
def pAt (r : List (Int × Int)) (k : Int) : Int × Int := r.getD k.toNat (0, 0)
theorem pAt_get {r : List (Int × Int)} {k : Int} (h : k.toNat < r.length) : pAt r k = r[k.toNat] := by
  unfold pAt
  rw [List.getD_eq_getElem?_getD, List.getElem?_eq_getElem h]
  rfl
theorem pAt_mem {r : List (Int × Int)} {k : Int} (h : k.toNat < r.length) : pAt r k ∈ r := by
  rw [pAt_get h]
  exact List.getElem_mem h
def pL (r : List (Int × Int)) : Int × Int := pAt r ((r.length : Int) - 1)
theorem pL_mem {r : List (Int × Int)} (h : r ≠ []) : pL r ∈ r := pAt_mem (by have := List.length_pos_iff.mpr h; omega)
theorem pAt_app {r s : List (Int × Int)} {k : Int} (h : k.toNat < r.length) : pAt (r ++ s) k = pAt r k := by
  rw [pAt_get h, pAt_get (by simp; omega), List.getElem_append_left h]
theorem pAt_snoc {r : List (Int × Int)} {p : Int × Int} {k : Int} (h : k = r.length) : pAt (r ++ [p]) k = p := by
  subst h
  rw [pAt_get (by simp), List.getElem_append_right (by simp)]
  simp
theorem pL_snoc (r : List (Int × Int)) (p : Int × Int) : pL (r ++ [p]) = p := pAt_snoc (by simp)
theorem nth_eq (s : List Int) (k : Nat) : nth s k = (s[k]?).getD 0 := by unfold nth; rw [List.getD_eq_getElem?_getD]
theorem nth_set (s : List Int) (j k : Nat) (v : Int) (h : j < s.length) : nth (s.set j v) k = if j = k then v else nth s k := by
  rw [nth_eq, nth_eq, List.getElem?_set]
  by_cases g : j = k
  · subst g
    simp [h]
  · simp [g]
def spB (c b : Int) (p : Int × Int) : Bool := decide ((0 ≤ p.1 ∧ p.1 ≤ b) ∧ (1 ≤ p.2 ∧ p.2 ≤ c) ∧ p.2 - 1 ≤ p.1)
def nxB (p q : Int × Int) : Bool := if q.2 = 1 then decide (q.1 ≤ p.1) else decide (q = (p.1 + 1, p.2 + 1))
structure Wlk (c b : Int) (r : List (Int × Int)) : Prop where
  ne : r ≠ []
  sp : ∀ p ∈ r, spB c b p = true
  fst : (pAt r 0).2 = 1
  nx : ∀ i : Nat, i + 1 < r.length → nxB (pAt r i) (pAt r (i + 1)) = true
theorem wk_snoc {c b : Int} {r : List (Int × Int)} {q : Int × Int} (h : Wlk c b r) (hs : spB c b q = true) (hn : nxB (pL r) q = true) : Wlk c b (r ++ [q]) := by
  have hp := List.length_pos_iff.mpr h.ne
  refine ⟨by simp, fun p hq => ?_, ?_, fun i hi => ?_⟩
  · rcases List.mem_append.mp hq with z | z
    · exact h.sp p z
    · rw [List.mem_singleton.mp z]; exact hs
  · rw [pAt_app (by omega)]; exact h.fst
  · rw [List.length_append, List.length_singleton] at hi
    rw [pAt_app (by omega)]
    by_cases g : i + 1 < r.length
    · rw [pAt_app (by omega)]
      exact h.nx i g
    · rw [pAt_snoc (by omega)]
      unfold pL at hn
      rwa [show ((r.length : Int) - 1) = i from by omega] at hn
def stp (F : List Int) (p q : Int × Int) : List Int := if q.2 = 1 then F ++ List.replicate (p.1 - q.1).toNat 0 ++ [1] else F.set (F.length - 1) (lst F + 1)
def cmF (r : List (Int × Int)) : Nat → List Int
  | 0 => List.replicate (pAt r 0).1.toNat 2 ++ [1]
  | n + 1 => stp (cmF r n) (pAt r n) (pAt r (n + 1))
theorem cmF_len {r : List (Int × Int)} (h : ∀ p ∈ r, 0 ≤ p.1 ∧ p.1 ≤ 60) : ∀ n : Nat, n < r.length → 0 < (cmF r n).length ∧ (cmF r n).length ≤ 61 * (n + 1)
  | 0, hn => by
    have := h _ (pAt_mem (r := r) (k := 0) (by omega))
    simp [cmF]
    omega
  | n + 1, hn => by
    obtain ⟨i1, i2⟩ := cmF_len h n (by omega)
    have g1 := h _ (pAt_mem (r := r) (k := (n : Int)) (by omega))
    have g2 := h _ (pAt_mem (r := r) (k := (n : Int) + 1) (by omega))
    unfold cmF stp
    split
    · simp
      omega
    · simp
      omega
theorem lst_set {F : List Int} (h : 0 < F.length) (v : Int) : lst (F.set (F.length - 1) v) = v := by
  unfold lst
  rw [List.length_set, nth_set _ _ _ _ (by omega), if_pos rfl]
theorem cmF_last {r : List (Int × Int)} (h : ∀ p ∈ r, 0 ≤ p.1 ∧ p.1 ≤ 60) : ∀ n : Nat, n < r.length → 1 ≤ lst (cmF r n)
  | 0, hn => by
    unfold cmF
    rw [lst_snoc]
    omega
  | n + 1, hn => by
    have ih := cmF_last h n (by omega)
    obtain ⟨i1, i2⟩ := cmF_len h n (by omega)
    unfold cmF stp
    split
    · rw [lst_snoc]
      omega
    · rw [lst_set i1]
      omega
theorem map_set_last (G : List Int) (m v : Int) : (G ++ [m]).set ((G ++ [m]).length - 1) v = G ++ [v] := by
  simp
theorem wk_back {c b : Int} {r : List (Int × Int)} (hw : Wlk c b r) (hb : 0 ≤ b) : ∀ n : Nat, n < r.length → ∃ G m, cmF r n = G ++ [m] ∧ m = (pAt r n).2 ∧ (ledS b G).2.1 + m - 1 = (pAt r n).1 ∧ (ledS b (cmF r n)).1.map vE = preS (pAt r 0).1.toNat ++ (r.take (n + 1)).map fun p => (some p.1, p.2)
  | 0, hn => by
    have hs := hw.sp _ (pAt_mem (r := r) (k := 0) (by omega))
    unfold spB at hs
    have hs := of_decide_eq_true hs
    obtain ⟨w, ew⟩ := Int.eq_ofNat_of_zero_le hs.1.1
    obtain ⟨t1, t2⟩ := led_twos (b := b) w (by omega)
    have e : r.take 1 = [pAt r 0] := by
      rw [pAt_get (by omega)]
      cases r with
      | nil => exact absurd rfl hw.ne
      | cons x xs => rfl
    have f : (pAt r 0).2 = 1 := hw.fst
    refine ⟨List.replicate w 2, 1, by unfold cmF; rw [ew]; rfl, f.symm, ?_, ?_⟩
    · rw [t2]
      show _ = (pAt r 0).1
      omega
    · unfold cmF
      rw [ew, Int.toNat_natCast, ledS_snoc]
      unfold stepE
      dsimp only
      rw [List.map_append, t1, t2, Nat.zero_add, e]
      congr 1
      have h1 : (w : Int) ≤ b := by omega
      simp [rowE, vE, h1, ew, f]
  | n + 1, hn => by
    obtain ⟨G, m, i1, i2, i3, i4⟩ := wk_back hw hb n (by omega)
    have hs1 := hw.sp _ (pAt_mem (r := r) (k := (n : Int)) (by omega))
    have hs2 := hw.sp _ (pAt_mem (r := r) (k := (n : Int) + 1) (by omega))
    unfold spB at hs1 hs2
    have hs1 := of_decide_eq_true hs1
    have hs2 := of_decide_eq_true hs2
    have nx := hw.nx n hn
    have et : r.take (n + 1 + 1) = r.take (n + 1) ++ [pAt r ((n : Int) + 1)] := by
      rw [List.take_succ, List.getElem?_eq_getElem hn, pAt_get (by omega)]
      rfl
    have hL := (ledS_in (b := b) hb G).1
    have es : cmF r (n + 1) = stp (cmF r n) (pAt r n) (pAt r ((n : Int) + 1)) := rfl
    have cc : ((n + 1 : Nat) : Int) = (n : Int) + 1 := by omega
    rw [es, et, cc, List.map_append, ← List.append_assoc, ← i4, i1]
    generalize pAt r n = p at i2 i3 hs1 nx
    generalize pAt r ((n : Int) + 1) = q at hs2 nx
    unfold nxB at nx
    by_cases g : q.2 = 1
    · rw [if_pos g] at nx
      have le := of_decide_eq_true nx
      obtain ⟨k, hk⟩ := Int.eq_ofNat_of_zero_le (show 0 ≤ p.1 - q.1 by omega)
      have sp : (ledS b (G ++ [m])).2.1 = p.1 := by
        rw [ledS_snoc]
        unfold stepE
        dsimp only
        have u : up b (ledS b G).2.1 m.toNat = p.1 + 1 := by unfold up; rw [if_pos (by omega)]; omega
        rw [u]
        unfold dn
        split <;> omega
      obtain ⟨z1, z2⟩ := led_zeros (b := b) (G ++ [m]) k (by omega) (by omega)
      have e5 : stp (G ++ [m]) p q = (G ++ [m] ++ List.replicate k 0) ++ [1] := by unfold stp; rw [if_pos g, hk]; rfl
      refine ⟨_, 1, e5, g.symm, by omega, ?_⟩
      rw [e5, ledS_snoc]
      unfold stepE
      dsimp only
      rw [List.map_append, z1]
      congr 1
      have h1 : (ledS b (G ++ [m] ++ List.replicate k 0)).2.1 = q.1 := by omega
      rw [h1]
      have h2 : q.1 ≤ b := hs2.1.2
      simp [rowE, vE, h2, g]
    · rw [if_neg g] at nx
      have eq := of_decide_eq_true nx
      have q1 : q.1 = p.1 + 1 := by rw [eq]
      have q2 : q.2 = p.2 + 1 := by rw [eq]
      have e5 : stp (G ++ [m]) p q = G ++ [m + 1] := by
        unfold stp
        rw [if_neg g, lst_snoc, map_set_last]
      refine ⟨G, m + 1, e5, by omega, by omega, ?_⟩
      rw [e5, ledS_snoc, ledS_snoc]
      unfold stepE
      dsimp only
      obtain ⟨k, hk⟩ := Int.eq_ofNat_of_zero_le (show 0 ≤ m by omega)
      subst hk
      have e6 : ((k : Int) + 1).toNat = k + 1 := by omega
      rw [e6, Int.toNat_natCast, rowE_succ, ← List.append_assoc, List.map_append]
      congr 1
      have h1 : (ledS b G).2.1 + (k : Int) = q.1 := by omega
      have h2 : q.1 ≤ b := hs2.1.2
      have h3 : (k : Int) + 1 = q.2 := by omega
      simp [vE, h1, h2, h3]
theorem wk_counts {c b : Int} {r : List (Int × Int)} (hw : Wlk c b r) (hc : 2 ≤ c) : ∀ n : Nat, n < r.length → (∀ x ∈ cmF r n, 0 ≤ x ∧ x ≤ c) ∧ ((cmF r n).length : Int) + (pAt r n).1 ≤ 2 * (pAt r 0).1 + 1 + 2 * n ∧ lst (cmF r n) = (pAt r n).2 ∧ 0 < (cmF r n).length
  | 0, hn => by
    have hs := hw.sp _ (pAt_mem (r := r) (k := 0) (by omega))
    unfold spB at hs
    have hs := of_decide_eq_true hs
    unfold cmF
    refine ⟨fun x hx => ?_, by simp; omega, ?_, by simp⟩
    · rcases List.mem_append.mp hx with z | z
      · rw [List.eq_of_mem_replicate z]; omega
      · rw [List.mem_singleton.mp z]; omega
    · rw [lst_snoc]; exact hw.fst.symm
  | n + 1, hn => by
    obtain ⟨i1, i2, i3, i4⟩ := wk_counts hw hc n (by omega)
    have hs1 := hw.sp _ (pAt_mem (r := r) (k := (n : Int)) (by omega))
    have hs2 := hw.sp _ (pAt_mem (r := r) (k := (n : Int) + 1) (by omega))
    unfold spB at hs1 hs2
    have hs1 := of_decide_eq_true hs1
    have hs2 := of_decide_eq_true hs2
    have nx := hw.nx n hn
    have es : cmF r (n + 1) = stp (cmF r n) (pAt r n) (pAt r ((n : Int) + 1)) := rfl
    have cc : ((n + 1 : Nat) : Int) = (n : Int) + 1 := by omega
    rw [es, cc]
    generalize pAt r n = p at i2 i3 hs1 nx
    generalize pAt r ((n : Int) + 1) = q at hs2 nx
    generalize cmF r n = F at i1 i2 i3 i4
    unfold nxB at nx
    unfold stp
    by_cases g : q.2 = 1
    · rw [if_pos g] at nx
      have le := of_decide_eq_true nx
      rw [if_pos g]
      refine ⟨fun x hx => ?_, by simp; omega, by rw [lst_snoc, g], by simp; omega⟩
      rcases List.mem_append.mp hx with z | z
      · rcases List.mem_append.mp z with z | z
        · exact i1 x z
        · rw [List.eq_of_mem_replicate z]; omega
      · rw [List.mem_singleton.mp z]; omega
    · rw [if_neg g] at nx
      have eq := of_decide_eq_true nx
      have q1 : q.1 = p.1 + 1 := by rw [eq]
      have q2 : q.2 = p.2 + 1 := by rw [eq]
      rw [if_neg g, lst_set i4]
      refine ⟨fun x hx => ?_, by simp; omega, by omega, by simp; exact i4⟩
      rcases List.mem_or_eq_of_mem_set hx with z | z
      · exact i1 x z
      · rw [z]; omega
theorem getP {r : List (Int × Int)} {k : Int} (h0 : 0 ≤ k) (h1 : k < r.length) : idx r k = .ok (pAt r k) := by
  rw [idx_some h0 h1, pAt_get (by omega)]
/-- the tick of the last letter -/
theorem cmF_tick {r : List (Int × Int)} (h : ∀ p ∈ r, 0 ≤ p.1 ∧ p.1 ≤ 60) (hn : ∀ i : Nat, i + 1 < r.length → nxB (pAt r i) (pAt r (i + 1)) = true) : ∀ n : Nat, n < r.length → ((cmF r n).length : Int) - 1 + (pAt r n).1 = 2 * (pAt r 0).1 + n
  | 0, h0 => by
    have := h _ (pAt_mem (r := r) (k := 0) (by omega))
    simp [cmF]
    omega
  | n + 1, h0 => by
    have ih := cmF_tick h hn n (by omega)
    have nx := hn n h0
    have g1 := h _ (pAt_mem (r := r) (k := (n : Int)) (by omega))
    have g2 := h _ (pAt_mem (r := r) (k := (n : Int) + 1) (by omega))
    have hl := (cmF_len h n (by omega)).1
    have cc : ((n + 1 : Nat) : Int) = (n : Int) + 1 := by omega
    unfold cmF stp
    rw [cc]
    unfold nxB at nx
    split
    · rename_i g
      rw [if_pos g] at nx
      have := of_decide_eq_true nx
      simp
      omega
    · rename_i g
      rw [if_neg g] at nx
      have := of_decide_eq_true nx
      rw [List.length_set]
      have : (pAt r ((n : Int) + 1)).1 = (pAt r n).1 + 1 := by rw [this]
      omega

/-! ## a walk of the letters between two that meet -/
def rowT (L t0 : Int) (n : Nat) : List (Int × Int) := (List.range n).map fun (j : Nat) => (L + (j : Int), t0 + (j : Int))
theorem rowT_succ (L t0 : Int) (n : Nat) : rowT L t0 (n + 1) = rowT L t0 n ++ [(L + (n : Int), t0 + (n : Int))] := by
  unfold rowT
  rw [List.range_succ, List.map_append]
  rfl
def wS (W : Int) (rows : List Int) : Nat → List (Int × Int) × Int
  | 0 => ([(W, 1)], W + 1)
  | k + 1 => ((wS W rows k).1 ++ rowT (if k = 0 then (wS W rows k).2 else (wS W rows k).2 - 1) (if k = 0 then 2 else 1) (rows.getD k 0).toNat, (if k = 0 then (wS W rows k).2 else (wS W rows k).2 - 1) + ((rows.getD k 0).toNat : Int))
/-- how the letters between are spread -/
structure Spr (c : Int) (T : Nat) (num : Int) (rows : List Int) : Prop where
  len : rows.length = T + 1
  el : ∀ (k : Nat) v, rows[k]? = some v → 0 ≤ v ∧ v ≤ c - (if k = 0 then 1 else 0)
  sum : rows.sum = num
structure WInv (c W : Int) (f : List (Int × Int)) (L : Int) : Prop where
  ne : f ≠ []
  sp : ∀ p ∈ f, spB c 100000 p = true
  fst : pAt f 0 = (W, 1)
  nx : ∀ i : Nat, i + 1 < f.length → nxB (pAt f i) (pAt f (i + 1)) = true
  lo : L ≤ (pL f).1 + 1
theorem winv_snoc {c W L : Int} {f : List (Int × Int)} (h : WInv c W f L) {q : Int × Int} (hs : spB c 100000 q = true) (hn : nxB (pL f) q = true) : WInv c W (f ++ [q]) (q.1 + 1) := by
  have hp := List.length_pos_iff.mpr h.ne
  refine ⟨by simp, fun p hq => ?_, by rw [pAt_app (by omega)]; exact h.fst, fun i hi => ?_, by rw [pL_snoc]; exact Int.le_refl _⟩
  · rcases List.mem_append.mp hq with z | z
    · exact h.sp p z
    · rw [List.mem_singleton.mp z]; exact hs
  · rw [List.length_append, List.length_singleton] at hi
    rw [pAt_app (by omega)]
    by_cases g : i + 1 < f.length
    · rw [pAt_app (by omega)]
      exact h.nx i g
    · rw [pAt_snoc (by omega)]
      unfold pL at hn
      rwa [show ((f.length : Int) - 1) = i from by omega] at hn
theorem winv_row {c W L t0 : Int} {f : List (Int × Int)} (h : WInv c W f L) (ht : t0 = 1 ∧ L - 1 = L - 1 ∨ t0 = 2 ∧ pL f = (L - 1, 1)) (h1 : t0 = 1 → (L : Int) ≤ (pL f).1) (h0 : t0 - 1 ≤ L) : ∀ n : Nat, (n : Int) + t0 ≤ c + 1 → L + n ≤ 100001 → WInv c W (f ++ rowT L t0 n) (if n = 0 then L else L + n) ∧ (0 < n → pL (f ++ rowT L t0 n) = (L + n - 1, t0 + n - 1))
  | 0, _, _ => by
    refine ⟨?_, fun h => absurd h (by decide)⟩
    rw [show rowT L t0 0 = [] from rfl, List.append_nil, if_pos rfl]
    exact h
  | n + 1, hn, hb => by
    obtain ⟨i1, i2⟩ := winv_row h ht h1 h0 n (by omega) (by omega)
    rw [rowT_succ, ← List.append_assoc]
    refine ⟨?_, fun _ => by rw [pL_snoc]; refine Prod.ext ?_ ?_ <;> (dsimp only; omega)⟩
    have := winv_snoc i1 (q := (L + (n : Int), t0 + (n : Int))) ?_ ?_
    · rw [if_neg (by omega)]
      rw [show L + ((n + 1 : Nat) : Int) = (L + (n : Int)) + 1 by omega]
      exact this
    · unfold spB
      refine decide_eq_true ?_
      dsimp only
      rcases ht with z | z <;> omega
    · by_cases c0 : n = 0
      · subst c0
        rw [show rowT L t0 0 = [] from rfl, List.append_nil]
        unfold nxB
        rcases ht with z | z
        · rw [if_pos (by dsimp only; omega)]
          refine decide_eq_true ?_
          have := h1 z.1
          dsimp only
          omega
        · rw [if_neg (by dsimp only; omega), z.2]
          refine decide_eq_true (Prod.ext ?_ ?_) <;> (dsimp only; omega)
      · rw [i2 (by omega)]
        unfold nxB
        rw [if_neg (by dsimp only; rcases ht with z | z <;> omega)]
        refine decide_eq_true (Prod.ext ?_ ?_) <;> (dsimp only; omega)
theorem sum_take (xs : List Int) (k : Nat) (v : Int) (h : xs[k]? = some v) : (xs.take (k + 1)).sum = (xs.take k).sum + v := by
  rw [List.take_add_one, h, List.sum_append]
  simp
theorem take_sum {xs : List Int} (h : ∀ (k : Nat) v, xs[k]? = some v → 0 ≤ v) : ∀ k : Nat, 0 ≤ (xs.take k).sum ∧ (xs.take k).sum ≤ xs.sum := fun k => by
  have pos : ∀ ys : List Int, (∀ y ∈ ys, 0 ≤ y) → 0 ≤ ys.sum := fun ys => by
    induction ys with
    | nil => intro _; simp
    | cons y ys ih =>
      intro hy
      have := ih fun z hz => hy z (List.mem_cons_of_mem _ hz)
      have := hy y List.mem_cons_self
      rw [List.sum_cons]
      omega
  have mem : ∀ y ∈ xs, 0 ≤ y := fun y hy => by
    obtain ⟨i, hi⟩ := List.getElem?_of_mem hy
    exact h i y hi
  have a := pos (xs.take k) fun y hy => mem y (List.mem_of_mem_take hy)
  have b := pos (xs.drop k) fun y hy => mem y (List.mem_of_mem_drop hy)
  have : (xs.take k).sum + (xs.drop k).sum = xs.sum := by rw [← List.sum_append, List.take_append_drop]
  omega
theorem wS_inv {c W num : Int} {T : Nat} {rows : List Int} (hr : Spr c T num rows) (hW : (T : Int) < W ∧ W ≤ 1000) (hn : 0 ≤ num ∧ num ≤ 1000) : ∀ k : Nat, k ≤ T + 1 → WInv c W (wS W rows k).1 (wS W rows k).2 ∧ ((wS W rows k).1.length : Int) = 1 + (rows.take k).sum ∧ (wS W rows k).2 = W + 1 + (rows.take k).sum - (if k = 0 then 0 else (k : Int) - 1) ∧ (k = 0 → pL (wS W rows k).1 = (W, 1)) ∧ (∀ v, 0 < k → rows[k - 1]? = some v → 0 < v → (pL (wS W rows k).1).1 = (wS W rows k).2 - 1)
  | 0, _ => by
    refine ⟨⟨by simp [wS], fun p hp => ?_, rfl, fun i hi => ?_, ?_⟩, by simp [wS], by simp [wS], fun _ => rfl, fun v h => absurd h (by decide)⟩
    · rw [List.mem_singleton.mp hp]
      unfold spB
      refine decide_eq_true ?_
      have := hr.el 0
      obtain ⟨v, hv⟩ : ∃ v, rows[0]? = some v := ⟨_, List.getElem?_eq_getElem (by rw [hr.len]; omega)⟩
      have := hr.el 0 v hv
      rw [if_pos rfl] at this
      dsimp only
      omega
    · simp [wS] at hi
    · show W + 1 ≤ (pL [(W, 1)]).1 + 1
      exact Int.le_refl _
  | k + 1, hk => by
    obtain ⟨i1, i2, i3, i4, i5⟩ := wS_inv hr hW hn k (by omega)
    obtain ⟨v, hv⟩ : ∃ v, rows[k]? = some v := ⟨_, List.getElem?_eq_getElem (by rw [hr.len]; omega)⟩
    have hel := hr.el k v hv
    have hgd : rows.getD k 0 = v := by rw [List.getD_eq_getElem?_getD, hv]; rfl
    have ts := take_sum (xs := rows) (fun k v h => (hr.el k v h).1) k
    have hs := sum_take rows k v hv
    rw [hr.sum] at ts
    have ts1 := take_sum (xs := rows) (fun k v h => (hr.el k v h).1) (k + 1)
    rw [hr.sum] at ts1
    have hvn : ((v.toNat : Nat) : Int) = v := by omega
    unfold wS
    rw [hgd]
    by_cases c0 : k = 0
    · subst c0
      have hp := i4 rfl
      have e0 : (rows.take 0).sum = 0 := by simp
      rw [if_pos rfl] at i3 hel
      rw [if_pos rfl, if_pos rfl]
      rw [e0] at i2 i3 hs
      obtain ⟨j1, j2⟩ := winv_row (t0 := 2) i1 (.inr ⟨rfl, by rw [hp, i3]; refine Prod.ext ?_ rfl; dsimp only; omega⟩) (fun h => absurd h (by decide)) (by omega) v.toNat (by omega) (by omega)
      refine ⟨?_, ?_, ?_, fun h => absurd h (by decide), fun v' _ hv' h0 => ?_⟩
      · by_cases z : v.toNat = 0
        · rw [if_pos z] at j1
          rw [z] at j1 ⊢
          simpa using j1
        · rwa [if_neg z] at j1
      · rw [List.length_append]
        simp only [rowT, List.length_map, List.length_range]
        omega
      · rw [hs]
        simp
        omega
      · rw [j2 (by simp at hv'; rw [hv] at hv'; cases hv'; omega)]
    · rw [if_neg c0] at i3 hel
      rw [if_neg c0, if_neg c0]
      have lo := i1.lo
      have i1' : WInv c W (wS W rows k).1 ((wS W rows k).2 - 1) := ⟨i1.ne, i1.sp, i1.fst, i1.nx, by omega⟩
      have ts2 := take_sum (xs := rows) (fun k v h => (hr.el k v h).1) (k + 1)
      rw [hr.sum] at ts2
      obtain ⟨j1, j2⟩ := winv_row (t0 := 1) i1' (.inl ⟨rfl, rfl⟩) (fun _ => by omega) (by omega) v.toNat (by omega) (by omega)
      refine ⟨?_, ?_, ?_, fun h => absurd h (by omega), fun v' _ hv' h0 => ?_⟩
      · by_cases z : v.toNat = 0
        · rw [if_pos z] at j1
          rw [z] at j1 ⊢
          simpa using j1
        · rwa [if_neg z] at j1
      · rw [List.length_append]
        simp only [rowT, List.length_map, List.length_range]
        omega
      · rw [hs, if_neg (by omega)]
        omega
      · rw [j2 (by simp at hv'; rw [hv] at hv'; cases hv'; omega)]
theorem full_sum {c : Int} : ∀ {xs : List Int}, (∀ x ∈ xs, c ≤ x) → c * xs.length ≤ xs.sum
  | [], _ => by simp
  | x :: xs, h => by
    have ih := full_sum fun y hy => h y (List.mem_cons_of_mem _ hy)
    have := h x List.mem_cons_self
    rw [List.sum_cons, List.length_cons, Int.natCast_add, Int.mul_add]
    simp
    omega
theorem spr_full {c num : Int} {T : Nat} {rows : List Int} (hl : rows.length = T + 1) (h : ∀ (k : Nat) v, rows[k]? = some v → c - (if k = 0 then 1 else 0) ≤ v) : c * T + c - 1 ≤ rows.sum := by
  match rows, hl, h with
  | x :: xs, hl, h =>
    have h0 := h 0 x rfl
    rw [if_pos rfl] at h0
    have := full_sum (c := c) (xs := xs) fun y hy => by
      obtain ⟨i, hi⟩ := List.getElem?_of_mem hy
      have := h (i + 1) y hi
      rw [if_neg (by omega)] at this
      omega
    have hxl : xs.length = T := by simpa using hl
    rw [hxl] at this
    rw [List.sum_cons]
    omega
theorem sum_set {xs : List Int} {k : Nat} {v w : Int} (h : xs[k]? = some v) : (xs.set k w).sum = xs.sum - v + w := by
  induction xs generalizing k with
  | nil => exact (nomatch h)
  | cons x xs ih =>
    cases k with
    | zero => cases h; simp; omega
    | succ k =>
      have := ih (k := k) h
      rw [List.set_cons_succ, List.sum_cons, List.sum_cons, this]
      omega
end Pu
namespace Pu
open PySem L2

/-! # a known tuple and some more -/
theorem p_catTP {xs ys : List Int} : Prim (dAddT (eT xs) (eU eI ys)) (catT xs ys) (fun a => .val (eT a)) := fun a h => by
  unfold catT at h
  split at h
  · rename_i c
    cases h
    show (rO (nums (ys.map D.int))).bind _ = _
    rw [show nums (ys.map D.int) = some ys by have := nums_mapE (fun x : Int => x) ys; rwa [List.map_id'] at this]
    show (if xs ≠ [] ∧ ys ≠ [] ∧ xs.length + ys.length ≤ 16000000 then Rs.ok (VD.val (D.tpl (xs ++ ys))) else .stuck) = _
    rw [if_pos c]
  · cases h
end Pu
namespace Pu
open PySem L2

/-! # list(range(n)) -/
section
variable {A B V : Type} {E : EX} {K : VD × Tp → Rs A} {R : A → B → Prop} {r : Env} {T : Tp} {f : DE} {a : D} {w : Rt V} {mk : V → VD} {z : V → Rt B}
theorem h_un {op : D → Rs VD} (hf : Pd f r a) (ho : Prim (op a) w mk) (hq : Quit w) (k : ∀ x, Sim E (K (mk x, T)) (z x) R) : Sim E ((eUn op f r T).bind K) (w.bind z) R := by
  rw [eUn_ap, hf T, Rs.bind_ok]
  show Sim E ((lift (op a) T).bind K) _ R
  unfold lift
  rw [Rs.assoc]
  exact ho.go hq fun x _ => k x
end
def lrgR (n : Int) : Rt (List Int) := if -8000000 ≤ n ∧ n ≤ 8000000 then .ok (rngL 0 n) else .stuck
theorem quit_lrg {n : Int} : Quit (lrgR n) := quit_if quit_ok quit_stuck
theorem p_lrg {n : Int} : Prim (dLRg (.int n)) (lrgR n) (fun a => .own (eL eI a)) := fun a h => by
  unfold lrgR at h
  split at h
  · rename_i c
    cases h
    show (if -8000000 ≤ n ∧ n ≤ 8000000 then Rs.ok (VD.own (D.lst (rngD 0 (n - 0).toNat))) else Rs.stuck) = _
    rw [if_pos c, rngD_rngL]
  · cases h
theorem lrg_ok {n : Int} (h : -8000000 ≤ n ∧ n ≤ 8000000) : lrgR n = .ok (rngL 0 n) := if_pos h
end Pu
namespace Pu
open PySem L2

/-! # loops under other numbers -/
def nmE (m : List Int) (e : Ent) : Ent := (vl m e.1, e.2)
def nmR (m : List Int) (rows : List (List Int)) : List (List Int) := rows.map fun r => r.map (vl m)
structure Ren (ns ns' m : List Int) : Prop where
  ok : ∀ k : Int, 0 ≤ k ∧ k < ns.length → (0 ≤ vl m k ∧ vl m k < ns'.length) ∧ vl ns' (vl m k) = vl ns k
  inj : ∀ k j : Int, (0 ≤ k ∧ k < ns.length) → (0 ≤ j ∧ j < ns.length) → vl m k = vl m j → k = j
  len : m.length = ns.length
theorem entL_ren {f f' μ : Int → Int} : ∀ (r : List Int) (g l : Int), (∀ k ∈ r, f' (μ k) = f k) → entL f' g l (r.map μ) = (entL f g l r).map fun e => (μ e.1, e.2)
  | [], _, _, _ => rfl
  | k :: r, g, l, h => by
    rw [List.map_cons, entL, entL, List.map_cons, h k List.mem_cons_self, entL_ren r _ _ fun k hk => h k (List.mem_cons_of_mem _ hk)]
theorem sum_ren {f f' μ : Int → Int} {r : List Int} (h : ∀ k ∈ r, f' (μ k) = f k) : ((r.map μ).map f').sum = (r.map f).sum := by
  rw [List.map_map]
  congr 1
  exact List.map_congr_left fun k hk => h k hk
section
variable {ns ns' m : List Int} {rows : List (List Int)} {c : Int}
theorem entR_ren (R : Ren ns ns' m) {r : List Int} (hr : RowOk ns r) : entR ns' (r.map (vl m)) = (entR ns r).map (nmE m) := by
  unfold entR
  rw [sum_ren fun k hk => (R.ok k (hr k hk)).2]
  exact entL_ren r _ _ fun k hk => (R.ok k (hr k hk)).2
theorem tab_ren (R : Ren ns ns' m) (h : Tab ns rows) (hl : Lps ns') : Tab ns' (nmR m rows) := by
  unfold nmR
  refine ⟨hl, by rw [List.length_map]; exact h.pos, by rw [List.length_map]; exact h.len, fun i r hr => ?_⟩
  rw [List.getElem?_map] at hr
  obtain ⟨r0, h0, rfl⟩ := Option.map_eq_some_iff.mp hr
  have q := h.row i r0 h0
  refine ⟨fun k hk => ?_, ?_⟩
  · obtain ⟨j, hj, rfl⟩ := List.mem_map.mp hk
    exact (R.ok j (q.ok j hj)).1
  · rw [sum_ren fun k hk => (R.ok k (q.ok k hk)).2]
    exact q.sum
theorem ents_ren (R : Ren ns ns' m) (h : Tab ns rows) : ents ns' (nmR m rows) = (ents ns rows).map (nmE m) := by
  unfold ents nmR
  rw [List.flatMap_map, List.map_flatMap]
  have : ∀ rs : List (List Int), (∀ r ∈ rs, RowOk ns r) → (rs.flatMap fun r => entR ns' (r.map (vl m))) = rs.flatMap fun r => (entR ns r).map (nmE m) := fun rs => by
    induction rs with
    | nil => intro _; rfl
    | cons r rs ih =>
      intro hr
      rw [List.flatMap_cons, List.flatMap_cons, entR_ren R (hr r List.mem_cons_self), ih fun r h => hr r (List.mem_cons_of_mem _ h)]
  exact this rows fun r hr => by
    obtain ⟨w, _, _, q⟩ := h.rw hr
    exact q.ok
theorem ents_loop (h : Tab ns rows) {e : Ent} (he : e ∈ ents ns rows) : 0 ≤ e.1 ∧ e.1 < ns.length := by
  unfold ents at he
  obtain ⟨r, hr, he⟩ := List.mem_flatMap.mp he
  obtain ⟨w, _, _, q⟩ := h.rw hr
  exact q.ok _ (entR_sum h.lps q he).1
theorem nm_inj (R : Ren ns ns' m) (h : Tab ns rows) {a b : Ent} (ha : a ∈ ents ns rows) (hb : b ∈ ents ns rows) (e : nmE m a = nmE m b) : a = b := by
  obtain ⟨e1, e2⟩ := Prod.mk.inj e
  exact Prod.ext (R.inj _ _ (ents_loop h ha) (ents_loop h hb) e1) e2
theorem nodup_map_on {A B : Type} {f : A → B} {xs : List A} (n : xs.Nodup) (h : ∀ a ∈ xs, ∀ b ∈ xs, f a = f b → a = b) : (xs.map f).Nodup := by
  refine List.pairwise_map.mpr ?_
  exact List.Pairwise.imp_of_mem (fun {a b} ha hb hab z => hab (h a ha b hb z)) n
theorem entS_ren (R : Ren ns ns' m) (h : Tab ns rows) : entS ns' (nmR m rows) = srt ltE ((entS ns rows).map (nmE m)) := by
  unfold entS
  refine srt_same lin_E (dd_spec _).1 (nodup_map_on (entS_nodup ns rows) fun a ha b hb e => nm_inj R h (entS_mem.mp ha) (entS_mem.mp hb) e) fun x => ?_
  rw [(dd_spec _).2.1, ents_ren R h, List.mem_map, List.mem_map]
  constructor
  · rintro ⟨e, he, z⟩; exact ⟨e, entS_mem.mpr he, z⟩
  · rintro ⟨e, he, z⟩; exact ⟨e, entS_mem.mp he, z⟩
theorem hit_ren (R : Ren ns ns' m) (h : Tab ns rows) {a b : Ent} (ha : a ∈ ents ns rows) (hb : b ∈ ents ns rows) : hit c (nmE m a) (nmE m b) = hit c a b := by
  rw [Bool.eq_iff_iff, hit_iff, hit_iff]
  unfold nmE
  dsimp only
  constructor
  · rintro ⟨a1, a2⟩; exact ⟨R.inj _ _ (ents_loop h ha) (ents_loop h hb) a1, a2⟩
  · rintro ⟨a1, a2⟩; exact ⟨by rw [a1], a2⟩
theorem cls_mem_ren (R : Ren ns ns' m) (h : Tab ns rows) {p : Ent × Ent} : p ∈ clsT c ns' (nmR m rows) ↔ ∃ q ∈ clsT c ns rows, (nmE m q.1, nmE m q.2) = p := by
  rw [clsT_mem, ents_ren R h, List.mem_map, List.mem_map]
  constructor
  · rintro ⟨⟨a, ha, e1⟩, ⟨b, hb, e2⟩, k⟩
    rw [← e1, ← e2, hit_ren R h ha hb] at k
    exact ⟨(a, b), clsT_mem.mpr ⟨ha, hb, k⟩, Prod.ext e1 e2⟩
  · rintro ⟨⟨a, b⟩, hq, rfl⟩
    obtain ⟨ha, hb, k⟩ := clsT_mem.mp hq
    exact ⟨⟨a, ha, rfl⟩, ⟨b, hb, rfl⟩, by rw [hit_ren R h ha hb]; exact k⟩
theorem clsT_ren (R : Ren ns ns' m) (h : Tab ns rows) : clsT c ns' (nmR m rows) = srt ltEE ((clsT c ns rows).map fun q => (nmE m q.1, nmE m q.2)) := by
  have n1 : (clsT c ns' (nmR m rows)).Nodup := by
    unfold clsT
    exact (srt_perm _).nodup_iff.mpr (prC_nodup (entS_nodup _ _))
  have n2 : (clsT c ns rows).Nodup := by
    unfold clsT
    exact (srt_perm _).nodup_iff.mpr (prC_nodup (entS_nodup _ _))
  have e : clsT c ns' (nmR m rows) = srt ltEE (clsT c ns' (nmR m rows)) := by
    refine (srt_of lin_EE (List.Perm.refl _) ?_).symm
    unfold clsT
    exact srt_sorted lin_EE _
  rw [e]
  refine srt_same lin_EE n1 (nodup_map_on n2 fun a ha b hb z => ?_) fun p => ?_
  · obtain ⟨a1, a2, _⟩ := clsT_mem.mp ha
    obtain ⟨b1, b2, _⟩ := clsT_mem.mp hb
    obtain ⟨z1, z2⟩ := Prod.mk.inj z
    exact Prod.ext (nm_inj R h a1 b1 z1) (nm_inj R h a2 b2 z2)
  · rw [cls_mem_ren R h, List.mem_map]
theorem meets_ren (R : Ren ns ns' m) (h : Tab ns rows) {cs : List Int} {i j : Int} (q : Meets ns rows c cs i j) : Meets ns' (nmR m rows) c cs i j := by
  have hl : (nmR m rows).length = rows.length := by unfold nmR; rw [List.length_map]
  obtain ⟨e, e', w, w', r, r', x, x', g1, g2, g3, g4, g5, g6, g7, g8, g9, g10, g11, g12⟩ := q.ex
  refine ⟨q.ok, by rw [hl]; exact q.lt, e, e', w, w', r.map (vl m), r'.map (vl m), nmE m x, nmE m x', ?_⟩
  rw [hl]
  refine ⟨g1, g2, g3, g4, g5, g6, ?_, ?_, ?_, ?_, g11, ?_⟩
  · unfold nmR; rw [List.getElem?_map, g7]; rfl
  · unfold nmR; rw [List.getElem?_map, g8]; rfl
  · rw [entR_ren R (h.row _ _ g7).ok]; exact List.mem_map.mpr ⟨x, g9, rfl⟩
  · rw [entR_ren R (h.row _ _ g8).ok]; exact List.mem_map.mpr ⟨x', g10, rfl⟩
  · unfold nmE; rw [g12]
theorem meets_back (R : Ren ns ns' m) (h : Tab ns rows) {cs : List Int} {i j : Int} (q : Meets ns' (nmR m rows) c cs i j) : Meets ns rows c cs i j := by
  have hl : (nmR m rows).length = rows.length := by unfold nmR; rw [List.length_map]
  obtain ⟨l1, l2⟩ := q.lt
  have qe := q.ex
  rw [hl] at l2 qe
  obtain ⟨e, e', w, w', r, r', x, x', g1, g2, g3, g4, g5, g6, g7, g8, g9, g10, g11, g12⟩ := qe
  unfold nmR at g7 g8
  rw [List.getElem?_map] at g7 g8
  obtain ⟨r0, h0, rfl⟩ := Option.map_eq_some_iff.mp g7
  obtain ⟨r1, h1, rfl⟩ := Option.map_eq_some_iff.mp g8
  have k0 := h.row _ _ h0
  have k1 := h.row _ _ h1
  rw [entR_ren R k0.ok] at g9
  rw [entR_ren R k1.ok] at g10
  obtain ⟨y, hy, rfl⟩ := List.mem_map.mp g9
  obtain ⟨y', hy', rfl⟩ := List.mem_map.mp g10
  exact ⟨q.ok, ⟨l1, l2⟩, e, e', w, w', r0, r1, y, y', g1, g2, g3, g4, g5, g6, h0, h1, hy, hy', g11, R.inj _ _ (k0.ok _ (entR_sum h.lps k0 hy).1) (k1.ok _ (entR_sum h.lps k1 hy').1) g12⟩
end
end Pu
namespace Pu
open PySem L2

/-! # a written tuple of whole numbers, known -/
theorem q_tplW {r : Env} {ga : DA} {ns : List Int} (hg : Pur ga r (ns.map D.int)) (hl : Nat.ble ns.length 1000 = true) : Pur (eTpl ga) r (.val (eT ns)) := fun T => by
  show (ga r T).bind _ = _
  rw [hg T]
  show (rO (nums (ns.map D.int))).bind _ = _
  rw [show nums (ns.map D.int) = some ns by have := nums_mapE (fun x : Int => x) ns; rwa [List.map_id'] at this]
  show (if (ns.map D.int).length ≤ 1000 then Rs.ok (VD.val (.tpl ns), T) else .stuck) = _
  rw [if_pos (by rw [List.length_map]; exact Nat.le_of_ble_eq_true hl)]
end Pu
namespace Pu
open PySem L2
theorem q_oseq {p : Pat} {r : Pu.Env} {i : Nat} {ds : List D} (m : Mat p r) (h : p[i]? = some (.is (.own (.lst ds)))) : Pur (oSeq i) r ds := fun T => by
  unfold oSeq
  rw [m.get h]
end Pu
namespace Gk08
open PySem L2 Pu
def top (i : Nat) : Stmt := PySem.Challenge.pw_loopstore_k08_whole_entries_of_tables.main.body.getD i (.Pass ⟨0, 0, 0, 0⟩)
abbrev s__law_tape : Stmt := top 19
def d__law_tape : He.DefD := ⟨("_law_tape", none), "_law_tape", "_law_tape", defArgs s__law_tape, defBody s__law_tape, defScope s__law_tape, [], []⟩
abbrev s__law_pick : Stmt := top 20
def d__law_pick : He.DefD := ⟨("_law_pick", none), "_law_pick", "_law_pick", defArgs s__law_pick, defBody s__law_pick, defScope s__law_pick, [], []⟩
abbrev s__law_loops : Stmt := top 21
def d__law_loops : He.DefD := ⟨("_law_loops", none), "_law_loops", "_law_loops", defArgs s__law_loops, defBody s__law_loops, defScope s__law_loops, [], []⟩
abbrev s__law_row : Stmt := top 22
def d__law_row : He.DefD := ⟨("_law_row", none), "_law_row", "_law_row", defArgs s__law_row, defBody s__law_row, defScope s__law_row, [], []⟩
abbrev s__law_rows : Stmt := top 23
def d__law_rows : He.DefD := ⟨("_law_rows", none), "_law_rows", "_law_rows", defArgs s__law_rows, defBody s__law_rows, defScope s__law_rows, [], []⟩
abbrev s__law_entries : Stmt := top 25
def d__law_entries : He.DefD := ⟨("_law_entries", none), "_law_entries", "_law_entries", defArgs s__law_entries, defBody s__law_entries, defScope s__law_entries, [], []⟩
abbrev s_is_integer : Stmt := top 8
def d_is_integer : He.DefD := ⟨("is_integer", none), "is_integer", "is_integer", defArgs s_is_integer, defBody s_is_integer, defScope s_is_integer, [], []⟩
abbrev s_is_within : Stmt := top 9
def d_is_within : He.DefD := ⟨("is_within", none), "is_within", "is_within", defArgs s_is_within, defBody s_is_within, defScope s_is_within, [], []⟩
abbrev s_are_within : Stmt := top 10
def d_are_within : He.DefD := ⟨("are_within", none), "are_within", "are_within", defArgs s_are_within, defBody s_are_within, defScope s_are_within, [], []⟩
abbrev s_is_loops : Stmt := top 11
def d_is_loops : He.DefD := ⟨("is_loops", none), "is_loops", "is_loops", defArgs s_is_loops, defBody s_is_loops, defScope s_is_loops, [], []⟩
abbrev s_is_row : Stmt := top 12
def d_is_row : He.DefD := ⟨("is_row", none), "is_row", "is_row", defArgs s_is_row, defBody s_is_row, defScope s_is_row, [], []⟩
abbrev s_sum_of : Stmt := top 13
def d_sum_of : He.DefD := ⟨("sum_of", none), "sum_of", "sum_of", defArgs s_sum_of, defBody s_sum_of, defScope s_sum_of, [], []⟩
abbrev s_entries_of : Stmt := top 15
def d_entries_of : He.DefD := ⟨("entries_of", none), "entries_of", "entries_of", defArgs s_entries_of, defBody s_entries_of, defScope s_entries_of, [], []⟩
abbrev s_Table___init__ : Stmt := inClass (top 16) 0
def d_Table___init__ : He.DefD := ⟨("Table", some "__init__"), "__init__", "Table.__init__", defArgs s_Table___init__, defBody s_Table___init__, defScope s_Table___init__, [], []⟩
abbrev s_Table_entries_at : Stmt := inClass (top 16) 2
def d_Table_entries_at : He.DefD := ⟨("Table", some "entries_at"), "entries_at", "Table.entries_at", defArgs s_Table_entries_at, defBody s_Table_entries_at, defScope s_Table_entries_at, [], []⟩
abbrev s_entries : Stmt := top 17
def d_entries : He.DefD := ⟨("entries", none), "entries", "entries", defArgs s_entries, defBody s_entries, defScope s_entries, [], []⟩
abbrev s_law : Stmt := top 28
def d_law : He.DefD := ⟨("law", none), "law", "law", defArgs s_law, defBody s_law, defScope s_law, [], []⟩
def fa : List He.Fa := [.free "list", .free "int", .free "len", .free "range", .free "tuple", .free "sum", .free "isinstance", .free "bool", .free "all", .int "MOST_LENGTH" 40, .int "MOST_LOOPS" 8, .int "MOST_BOUND" 60, .free "enumerate", .int "MOST_ITEMS" 60, .glo "Table", .cls "Table", .noat "Table" "loops", .noat "Table" "rows", .noat "Table" "bound", .noat "Table" "kept_entries", .free "sorted", .glo "_law_tape", .glo "_law_pick", .glo "_law_loops", .glo "_law_row", .glo "_law_rows", .glo "_law_entries", .glo "is_integer", .glo "is_within", .glo "are_within", .glo "is_loops", .glo "is_row", .glo "sum_of", .glo "entries_of", .mkr "Table", .meth "Table" "entries_at", .glo "entries", .glo "law"]
def fn : List He.DefD := [d__law_tape, d__law_pick, d__law_loops, d__law_row, d__law_rows, d__law_entries, d_is_integer, d_is_within, d_are_within, d_is_loops, d_is_row, d_sum_of, d_entries_of, d_Table___init__, d_Table_entries_at, d_entries, d_law]
section
variable {P : Program} {w : World} {K : PySem.W.Frag} {mg : Str → Option Value} {base h : Heap}
theorem sc__law_tape : FnScope ["_law_script"] ["_law_script"] (defScope s__law_tape) := ⟨rfl, rfl, rfl, by decide +kernel, rfl, by decide +kernel, by decide +kernel⟩
noncomputable def g__law_tape : DS := (sRet (eLst (aCons (eCall bListA (aConsT (eVar 0) aNil)) (aCons (eC (.int 0)) (aCons (eC (.int 0)) (aCons (eC (.int 1)) (aCons (eC (.int 0)) aNil)))))))
noncomputable def M__law_tape : DM := runD 1 false g__law_tape
theorem ok__law_tape (X : K.In h) (G : h.Ns mainGlobals mg) (c : He.SaysD fa fn K) : OkD P w K mg base 1 "_law_tape" 1 false M__law_tape := by
  refine okD_of (c.def_ 0 (d := d__law_tape) rfl) (He.glo_ok X G (c.fact 21)) sc__law_tape (fun _ _ _ _ _ _ us hl => match us, hl with | [_], _ => rfl) (fun cdv A outer s H E C hr tk => ?_)
  exact (sss_one (ss_ret (se_lst (sa_cons (se_callTy (call_listA rfl) d_listA q_listA (He.free_ok X G (c.fact 0)) bo_list (sat_cons (se_var 0) sat_nil)) (sa_cons se_int (sa_cons se_int (sa_cons se_int (sa_cons se_int sa_nil))))))))
theorem sc__law_pick : FnScope ["_law_tape_here", "_law_size", "_law_digit", "_law_cell", "_law_mixed"] ["_law_tape_here", "_law_size"] (defScope s__law_pick) := ⟨rfl, rfl, rfl, by decide +kernel, rfl, by decide +kernel, by decide +kernel⟩
noncomputable def g__law_pick : DS := (sSeq (sIf (xB (eOp dGt (eTix 0 2) (eC (.int 1))))
 (sSeq (sAsg 2 (eOp dMod (eCall bInt (aConsT (eTix 0 2) aNil)) (eVar 1)))
 (sSeq (sTset 0 2 (eOp dDiv (eTix 0 2) (eVar 1)))
 (sRetV 2)))
 sPass)
 (sSeq (sTset 0 4 (eOp dAddA (eTix 0 4) (eC (.int 1))))
 (sSeq (sAsg 3 (eC (.int 0)))
 (sSeq (sIf (xB (eOp dLt (eTix 0 1) (eCall bLenA (aConsT (eTix 0 0) aNil))))
 (sSeq (sAsg 3 (eOp dIxA (eTix 0 0) (eTix 0 1)))
 (sTset 0 1 (eOp dAddA (eTix 0 1) (eC (.int 1)))))
 sPass)
 (sSeq (sIf (xB (eOp dGe (eVar 3) (eOp dPow (eC (.int 10)) (eC (.int 18)))))
 (sSeq (sTset 0 2 (eOp dDiv (eVar 3) (eVar 1)))
 (sRet (eOp dMod (eCall bInt (aConsT (eVar 3) aNil)) (eVar 1))))
 sPass)
 (sSeq (sAsg 4 (eOp dMod (eCall bInt (aConsT (eOp dAddA (eOp dAddA (eOp dMulA (eTix 0 3) (eC (.int 48271))) (eOp dMod (eCall bInt (aConsT (eVar 3) aNil)) (eC (.int 2147483629)))) (eOp dMulA (eTix 0 4) (eC (.int 69621)))) aNil)) (eC (.int 2147483647))))
 (sSeq (sAsg 4 (eOp dMod (eCall bInt (aConsT (eOp dMulA (eVar 4) (eOp dAddA (eOp dDiv (eVar 4) (eC (.int 1009))) (eC (.int 40692)))) aNil)) (eC (.int 2147483399))))
 (sSeq (sTset 0 3 (eVar 4))
 (sRet (eOp dMod (eCall bInt (aConsT (eOp dDiv (eVar 4) (eC (.int 16))) aNil)) (eVar 1)))))))))))
noncomputable def M__law_pick : DM := runD 5 true g__law_pick
theorem ok__law_pick (X : K.In h) (G : h.Ns mainGlobals mg) (c : He.SaysD fa fn K) : OkD P w K mg base 1 "_law_pick" 2 true M__law_pick := by
  refine okD_of (c.def_ 1 (d := d__law_pick) rfl) (He.glo_ok X G (c.fact 22)) sc__law_pick (fun _ _ _ _ _ _ us hl => match us, hl with | [_, _], _ => rfl) (fun cdv A outer s H E C hr tk => ?_)
  exact (sss_cons (ss_if (st_cmp (op_gtP (u64 hr)) d_pl q_pl (se_tix 0 2) se_int (nomark _))
 (sss_cons (ss_set 2 sc__law_pick.nd (se_op op_mod d_mod q_mod (se_callTy call_int1 d_int q_int (He.free_ok X G (c.fact 1)) bo_int (sat_cons (se_tix 0 2) sat_nil)) (se_var 1)))
 (sss_cons (ss_tset 0 2 (se_op op_fdiv d_div q_div (se_tix 0 2) (se_var 1)))
 (sss_one (ss_retV 2))))
 sss_nil)
 (sss_cons (ss_tset 0 4 (se_op op_addU d_adda q_adda (se_tix 0 4) se_int))
 (sss_cons (ss_set 3 sc__law_pick.nd se_int)
 (sss_cons (ss_if (st_cmp (op_ltP (u64 hr)) d_pl q_pl (se_tix 0 1) (se_callB call_lenA d_lena q_lena (He.free_ok X G (c.fact 2)) bo_len (sat_cons (se_tix 0 0) sat_nil)) (nomark _))
 (sss_cons (ss_set 3 sc__law_pick.nd (se_ix (ix_any (u1 hr)) d_ixa q_ixa (se_tix 0 0) (se_tix 0 1) (by intro _ _; rfl)))
 (sss_one (ss_tset 0 1 (se_op op_addU d_adda q_adda (se_tix 0 1) se_int))))
 sss_nil)
 (sss_cons (ss_if (st_cmp (op_geP (u64 hr)) d_pl q_pl (se_var 3) (se_op op_pow d_pow q_pow se_int se_int) (nomark _))
 (sss_cons (ss_tset 0 2 (se_op op_fdiv d_div q_div (se_var 3) (se_var 1)))
 (sss_one (ss_ret (se_op op_mod d_mod q_mod (se_callTy call_int1 d_int q_int (He.free_ok X G (c.fact 1)) bo_int (sat_cons (se_var 3) sat_nil)) (se_var 1)))))
 sss_nil)
 (sss_cons (ss_set 4 sc__law_pick.nd (se_op op_mod d_mod q_mod (se_callTy call_int1 d_int q_int (He.free_ok X G (c.fact 1)) bo_int (sat_cons (se_op op_addU d_adda q_adda (se_op op_addU d_adda q_adda (se_op op_mulA d_mula q_mula (se_tix 0 3) se_int) (se_op op_mod d_mod q_mod (se_callTy call_int1 d_int q_int (He.free_ok X G (c.fact 1)) bo_int (sat_cons (se_var 3) sat_nil)) se_int)) (se_op op_mulA d_mula q_mula (se_tix 0 4) se_int)) sat_nil)) se_int))
 (sss_cons (ss_set 4 sc__law_pick.nd (se_op op_mod d_mod q_mod (se_callTy call_int1 d_int q_int (He.free_ok X G (c.fact 1)) bo_int (sat_cons (se_op op_mulA d_mula q_mula (se_var 4) (se_op op_addU d_adda q_adda (se_op op_fdiv d_div q_div (se_var 4) se_int) se_int)) sat_nil)) se_int))
 (sss_cons (ss_tset 0 3 (se_var 4))
 (sss_one (ss_ret (se_op op_mod d_mod q_mod (se_callTy call_int1 d_int q_int (He.free_ok X G (c.fact 1)) bo_int (sat_cons (se_op op_fdiv d_div q_div (se_var 4) se_int) sat_nil)) (se_var 1))))))))))))
theorem sc__law_loops : FnScope ["_law_tape_here", "_law_most", "_law_longest", "_law_many", "_law_found", "_law_k"] ["_law_tape_here", "_law_most", "_law_longest"] (defScope s__law_loops) := ⟨rfl, rfl, rfl, by decide +kernel, rfl, by decide +kernel, by decide +kernel⟩
noncomputable def g__law_loops : DS := (sSeq (sAsg 3 (eOp dAddA (eC (.int 1)) (eDefT 0 2 M__law_pick (aCons (eVar 1) aNil))))
 (sSeq (sAsg 4 (eLc [5] (iRng (aConsT (eVar 3) aNil)) (gN 5) xYes (eOp dAddA (eC (.int 1)) (eDefT 0 2 M__law_pick (aCons (eVar 2) aNil)))))
 (sSeq (sSetI 4 setA (eDefT 0 2 M__law_pick (aCons (eVar 3) aNil)) (eC (.int 1)))
 (sRet (eCall bTpl (aConsT (eVar 4) aNil))))))
noncomputable def M__law_loops : DM := runD 6 true g__law_loops
theorem ok__law_loops (X : K.In h) (G : h.Ns mainGlobals mg) (c : He.SaysD fa fn K) : OkD P w K mg base 2 "_law_loops" 3 true M__law_loops := by
  refine okD_of (c.def_ 2 (d := d__law_loops) rfl) (He.glo_ok X G (c.fact 23)) sc__law_loops (fun _ _ _ _ _ _ us hl => match us, hl with | [_, _, _], _ => rfl) (fun cdv A outer s H E C hr tk => ?_)
  exact (sss_cons (ss_set 3 sc__law_loops.nd (se_op op_addU d_adda q_adda se_int (se_defTO 0 (ok__law_pick X G c) hr tk (sa_cons (se_var 1) sa_nil))))
 (sss_cons (ss_setLc 4 (own := [("_law_k", 5)]) rfl sc__law_loops.nd (sj_range1 (He.free_ok X G (c.fact 3)) (sat_cons (se_var 3) sat_nil) (many_consT many_nil)) (blk_ok (by kernel_rfl)) (within_name (by decide)) (fun s H Ca cl fp => (sg_name 5 sc__law_loops.nd)) (fun s H Ca cl fp L tk => sts_nil) (fun s H Ca cl fp L tk => (se_op op_addU d_adda q_adda se_int (se_defTO 0 (ok__law_pick X G c) hr tk (sa_cons (se_var 2) sa_nil)))))
 (sss_cons (ss_setI 4 (set_any (u1 hr)) d_setA se_int (se_defTO 0 (ok__law_pick X G c) hr tk (sa_cons (se_var 3) sa_nil)))
 (sss_one (ss_ret (se_callTy call_tpl d_tpl q_tpl (He.free_ok X G (c.fact 4)) bo_tuple (sat_cons (se_var 4) sat_nil)))))))
theorem sc__law_row : FnScope ["_law_tape_here", "_law_loops_here", "_law_wait", "_law_row_here", "_law_left", "_law_again", "_law_turn", "_law_fitting", "_law_k"] ["_law_tape_here", "_law_loops_here", "_law_wait"] (defScope s__law_row) := ⟨rfl, rfl, rfl, by decide +kernel, rfl, by decide +kernel, by decide +kernel⟩
noncomputable def g__law_row : DS := (sSeq (sAsg 3 (eLst aNil))
 (sSeq (sAsg 4 (eVar 2))
 (sSeq (sAsg 5 (eOp dEq (eDefT 0 2 M__law_pick (aCons (eC (.int 12)) aNil)) (eC (.int 0))))
 (sSeq (sFor (iRng (aConsT (eC (.int 8)) aNil)) (gN 6)
 (sSeq (sAsg 7 (eLc [8] (iRng (aConsT (eCall bLenA (aConsT (eVar 1) aNil)) aNil)) (gN 8) (xAnd (xB (eOp dLe (eOp dIxA (eVar 1) (eVar 8)) (eVar 4))) (xOr (xB (eVar 5)) (xB (eOp dNinA (eVar 8) (eVar 3))))) (eVar 8)))
 (sSeq (sIf (xOr (xB (eOp dEq (eCall bLenA (aConsT (eVar 7) aNil)) (eC (.int 0)))) (xB (eOp dEq (eVar 4) (eC (.int 0)))))
 sBrk
 sPass)
 (sSeq (sDropM (eMut 3 isLst mAppend (aCons (eOp dIxA (eVar 7) (eDefT 0 2 M__law_pick (aCons (eCall bLenA (aConsT (eVar 7) aNil)) aNil))) aNil)))
 (sAsg 4 (eOp dSub (eVar 4) (eOp dIxA (eVar 1) (eOp dIxA (eVar 3) (eUn dNeg (eC (.int 1)))))))))))
 (sSeq (sFor (iRng (aConsT (eVar 4) aNil)) (gN 6)
 (sDropM (eMut 3 isLst mAppend (aCons (eIdx (eVar 1) (eC (.int 1))) aNil))))
 (sRet (eCall bTuple (aConsT (eVar 3) aNil))))))))
noncomputable def M__law_row : DM := runD 9 true g__law_row
theorem ok__law_row (X : K.In h) (G : h.Ns mainGlobals mg) (c : He.SaysD fa fn K) : OkD P w K mg base 2 "_law_row" 3 true M__law_row := by
  refine okD_of (c.def_ 3 (d := d__law_row) rfl) (He.glo_ok X G (c.fact 24)) sc__law_row (fun _ _ _ _ _ _ us hl => match us, hl with | [_, _, _], _ => rfl) (fun cdv A outer s H E C hr tk => ?_)
  exact (sss_cons (ss_set 3 sc__law_row.nd (se_lst sa_nil))
 (sss_cons (ss_set 4 sc__law_row.nd (se_var 2))
 (sss_cons (ss_set 5 sc__law_row.nd (se_cmp (op_eqP (u64 hr)) d_pl q_pl (se_defTO 0 (ok__law_pick X G c) hr tk (sa_cons se_int sa_nil)) se_int (nomark _)))
 (sss_cons (ss_for (passes_of rfl) rfl (si_range1 (He.free_ok X G (c.fact 3)) (sat_cons se_int sat_nil) (many_consT many_nil)) (sg_name 6 sc__law_row.nd) (fun pins =>
 (sss_cons (ss_setLc 7 (own := [("_law_k", 8)]) rfl sc__law_row.nd (sj_range1 (He.free_ok X G (c.fact 3)) (sat_cons (se_callB call_lenA d_lena q_lena (He.free_ok X G (c.fact 2)) bo_len (sat_cons (se_var 1) sat_nil)) sat_nil) (many_consT many_nil)) (blk_ok (by kernel_rfl)) (within_name (by decide)) (fun s H Ca cl fp => (sg_name 8 sc__law_row.nd)) (fun s H Ca cl fp L tk => (sts_one (st_of (sw_and (st_cmp (op_leP (u64 hr)) d_pl q_pl (se_ix (ix_any (u1 hr)) d_ixa q_ixa (se_var 1) (se_var 8) (by intro _ _; rfl)) (se_var 4) (nomark _)) (sw_and1 (st_of (sw_or (st_val (se_var 5)) (sw_or1 (st_cmp (op_ninA (u64 hr)) d_nina q_nina (se_var 8) (se_var 3) (by with_unfolding_all rfl)))))))))) (fun s H Ca cl fp L tk => (se_var 8)))
 (sss_cons (ss_if (st_of (sw_or (st_cmp (op_eqP (u64 hr)) d_pl q_pl (se_callB call_lenA d_lena q_lena (He.free_ok X G (c.fact 2)) bo_len (sat_cons (se_var 7) sat_nil)) se_int (nomark _)) (sw_or1 (st_cmp (op_eqP (u64 hr)) d_pl q_pl (se_var 4) se_int (nomark _)))))
 (sss_one ss_break)
 sss_nil)
 (sss_cons (ss_exprM (se_mut 3 kind_lst m_append PySem.F.plainAttrs_list PySem.F.slot_list_append PySem.F.type_list_append mt_append (sa_cons (se_ix (ix_any (u1 hr)) d_ixa q_ixa (se_var 7) (se_defTO 0 (ok__law_pick X G c) hr tk (sa_cons (se_callB call_lenA d_lena q_lena (He.free_ok X G (c.fact 2)) bo_len (sat_cons (se_var 7) sat_nil)) sa_nil)) (by intro _ _; rfl)) sa_nil)))
 (sss_one (ss_set 4 sc__law_row.nd (se_op op_sub d_sub q_sub (se_var 4) (se_ix (ix_any (u1 hr)) d_ixa q_ixa (se_var 1) (se_ix (ix_any (u1 hr)) d_ixa q_ixa (se_var 3) (se_un un_neg d_neg q_neg se_int) (by intro _ _; rfl)) (by intro _ _; rfl))))))))))
 (sss_cons (ss_for (passes_of rfl) rfl (si_range1 (He.free_ok X G (c.fact 3)) (sat_cons (se_var 4) sat_nil) (many_consT many_nil)) (sg_name 6 sc__law_row.nd) (fun pins =>
 (sss_one (ss_exprM (se_mut 3 kind_lst m_append PySem.F.plainAttrs_list PySem.F.slot_list_append PySem.F.type_list_append mt_append (sa_cons (se_idx (se_var 1) se_int) sa_nil))))))
 (sss_one (ss_ret (se_callTy call_tuple_of d_tuple q_tuple (He.free_ok X G (c.fact 4)) bo_tuple (sat_cons (se_var 3) sat_nil)))))))))
theorem sc__law_rows : FnScope ["_law_tape_here", "_law_loops_here", "_law_bound", "_law_wait"] ["_law_tape_here", "_law_loops_here", "_law_bound"] (defScope s__law_rows) := ⟨rfl, rfl, rfl, by decide +kernel, rfl, by decide +kernel, by decide +kernel⟩
noncomputable def g__law_rows : DS := (sRet (eCall bTuple (aConsT (eLc [3] (iRng (aConsT (eC (.int 1)) (aConsT (eOp dAddA (eVar 2) (eC (.int 1))) aNil))) (gN 3) xYes (eDefT 0 3 M__law_row (aCons (eVar 1) (aCons (eVar 3) aNil)))) aNil)))
noncomputable def M__law_rows : DM := runD 4 true g__law_rows
theorem ok__law_rows (X : K.In h) (G : h.Ns mainGlobals mg) (c : He.SaysD fa fn K) : OkD P w K mg base 3 "_law_rows" 3 true M__law_rows := by
  refine okD_of (c.def_ 4 (d := d__law_rows) rfl) (He.glo_ok X G (c.fact 25)) sc__law_rows (fun _ _ _ _ _ _ us hl => match us, hl with | [_, _, _], _ => rfl) (fun cdv A outer s H E C hr tk => ?_)
  exact (sss_one (ss_ret (se_callTy call_tuple_of d_tuple q_tuple (He.free_ok X G (c.fact 4)) bo_tuple (sat_cons (se_lc (own := [("_law_wait", 3)]) rfl sc__law_rows.nd (sj_range2 (He.free_ok X G (c.fact 3)) (sat_cons se_int (sat_cons (se_op op_addU d_adda q_adda (se_var 2) se_int) sat_nil)) (many_consT (many_consT many_nil))) (blk_ok (by kernel_rfl)) (within_name (by decide)) (fun s H Ca cl fp => (sg_name 3 sc__law_rows.nd)) (fun s H Ca cl fp L tk => sts_nil) (fun s H Ca cl fp L tk => (se_defTO 0 (ok__law_row X G c) hr tk (sa_cons (se_var 1) (sa_cons (se_var 3) sa_nil))))) sat_nil))))
theorem sc__law_entries : FnScope ["_law_loops_here", "_law_row_here", "_law_total", "_law_found", "_law_gone", "_law_k"] ["_law_loops_here", "_law_row_here"] (defScope s__law_entries) := ⟨rfl, rfl, rfl, by decide +kernel, rfl, by decide +kernel, by decide +kernel⟩
noncomputable def g__law_entries : DS := (sSeq (sAsg 2 (eCall bSumA (aConsT (eLc [5] (jSeq (eVar 1)) (gN 5) xYes (eOp dIxA (eVar 0) (eVar 5))) aNil)))
 (sSeq (sAsg 3 (eLst aNil))
 (sSeq (sAsg 4 (eC (.int 0)))
 (sSeq (sFor (iSeq (eVar 1)) (gN 5)
 (sFrz 4 (sSeq (sDropM (eMut 3 isLst mAppend (aCons (eTup (aCons (eVar 5) (aCons (eVar 4) (aCons (eOp dSub (eVar 2) (eVar 4)) aNil)))) aNil)))
 (sAsg 4 (eOp dAddA (eVar 4) (eOp dIxA (eVar 0) (eVar 5)))))))
 (sRetV 3)))))
noncomputable def M__law_entries : DM := runD 6 false g__law_entries
theorem ok__law_entries (X : K.In h) (G : h.Ns mainGlobals mg) (c : He.SaysD fa fn K) : OkD P w K mg base 1 "_law_entries" 2 false M__law_entries := by
  refine okD_of (c.def_ 5 (d := d__law_entries) rfl) (He.glo_ok X G (c.fact 26)) sc__law_entries (fun _ _ _ _ _ _ us hl => match us, hl with | [_, _], _ => rfl) (fun cdv A outer s H E C hr tk => ?_)
  exact (sss_cons (ss_set 2 sc__law_entries.nd (se_callB (cr_sumA rfl) d_suma q_suma (He.free_ok X G (c.fact 5)) bo_sum (sat_cons (se_lc (own := [("_law_k", 5)]) rfl sc__law_entries.nd (sj_seq (se_var 1)) (blk_ok (by kernel_rfl)) (within_name (by decide)) (fun s H Ca cl fp => (sg_name 5 sc__law_entries.nd)) (fun s H Ca cl fp L tk => sts_nil) (fun s H Ca cl fp L tk => (se_ix (ix_any (u1 hr)) d_ixa q_ixa (se_var 0) (se_var 5) (by intro _ _; rfl)))) sat_nil)))
 (sss_cons (ss_set 3 sc__law_entries.nd (se_lst sa_nil))
 (sss_cons (ss_set 4 sc__law_entries.nd se_int)
 (sss_cons (ss_for (passes_of rfl) rfl (si_seq (se_var 1)) (sg_name 5 sc__law_entries.nd) (fun pins =>
 (sss_frz 4 (sss_cons (ss_exprM (se_mut 3 kind_lst m_append PySem.F.plainAttrs_list PySem.F.slot_list_append PySem.F.type_list_append mt_append (sa_cons (se_tup (sa_cons (se_var 5) (sa_cons (se_var 4) (sa_cons (se_op op_sub d_sub q_sub (se_var 2) (se_var 4)) sa_nil)))) sa_nil)))
 (sss_one (ss_set 4 sc__law_entries.nd (se_op op_addU d_adda q_adda (se_var 4) (se_ix (ix_any (u1 hr)) d_ixa q_ixa (se_var 0) (se_var 5) (by intro _ _; rfl)))))))))
 (sss_one (ss_retV 3))))))
theorem sc_is_integer : FnScope ["thing"] ["thing"] (defScope s_is_integer) := ⟨rfl, rfl, rfl, by decide +kernel, rfl, by decide +kernel, by decide +kernel⟩
noncomputable def g_is_integer : DS := (sRet (eAnd (eUn (dIsi [] .int) (eVar 0)) (eNot (eUn (dIsi [] .bool) (eVar 0)))))
noncomputable def M_is_integer : DM := runD 1 false g_is_integer
theorem ok_is_integer (X : K.In h) (G : h.Ns mainGlobals mg) (c : He.SaysD fa fn K) : OkD P w K mg base 1 "is_integer" 1 false M_is_integer := by
  refine okD_of (c.def_ 6 (d := d_is_integer) rfl) (He.glo_ok X G (c.fact 27)) sc_is_integer (fun _ _ _ _ _ _ us hl => match us, hl with | [_], _ => rfl) (fun cdv A outer s H E C hr tk => ?_)
  exact (sss_one (ss_ret (se_and (se_isi ownOk_nil (se_var 0) (He.free_ok X G (c.fact 6)) bo_isinstance (He.free_ok X G (c.fact 1)) bo_int) (se_and1 (se_not (se_isi ownOk_nil (se_var 0) (He.free_ok X G (c.fact 6)) bo_isinstance (He.free_ok X G (c.fact 7)) bo_bool))))))
theorem sc_is_within : FnScope ["thing", "least", "most"] ["thing", "least", "most"] (defScope s_is_within) := ⟨rfl, rfl, rfl, by decide +kernel, rfl, by decide +kernel, by decide +kernel⟩
noncomputable def g_is_within : DS := (sRet (eAnd (eDef 1 M_is_integer (aCons (eVar 0) aNil)) (eChain dLe dLe (eVar 1) (eVar 0) (eVar 2))))
noncomputable def M_is_within : DM := runD 3 false g_is_within
theorem ok_is_within (X : K.In h) (G : h.Ns mainGlobals mg) (c : He.SaysD fa fn K) : OkD P w K mg base 2 "is_within" 3 false M_is_within := by
  refine okD_of (c.def_ 7 (d := d_is_within) rfl) (He.glo_ok X G (c.fact 28)) sc_is_within (fun _ _ _ _ _ _ us hl => match us, hl with | [_, _, _], _ => rfl) (fun cdv A outer s H E C hr tk => ?_)
  exact (sss_one (ss_ret (se_and (se_defO (ok_is_integer X G c) hr tk (sa_cons (se_var 0) sa_nil)) (se_and1 (se_chain (op_leP (u64 hr)) d_pl q_pl (op_leP (u64 hr)) d_pl q_pl (se_var 1) (se_var 0) (se_var 2))))))
theorem sc_are_within : FnScope ["thing", "most", "least", "greatest", "item"] ["thing", "most", "least", "greatest"] (defScope s_are_within) := ⟨rfl, rfl, rfl, by decide +kernel, rfl, by decide +kernel, by decide +kernel⟩
noncomputable def g_are_within : DS := (sSeq (sIf (xOr (xNot (xB (eUn (dIsi [] .tuple) (eVar 0)))) (xB (eOp dGt (eCall bLenA (aConsT (eVar 0) aNil)) (eVar 1))))
 (sRet (eC (.bl false)))
 sPass)
 (sRet (eCall bAll (aConsT (eLc [4] (jSeq (eVar 0)) (gN 4) xYes (eDef 3 M_is_within (aCons (eVar 4) (aCons (eVar 2) (aCons (eVar 3) aNil))))) aNil))))
noncomputable def M_are_within : DM := runD 5 false g_are_within
theorem ok_are_within (X : K.In h) (G : h.Ns mainGlobals mg) (c : He.SaysD fa fn K) : OkD P w K mg base 3 "are_within" 4 false M_are_within := by
  refine okD_of (c.def_ 8 (d := d_are_within) rfl) (He.glo_ok X G (c.fact 29)) sc_are_within (fun _ _ _ _ _ _ us hl => match us, hl with | [_, _, _, _], _ => rfl) (fun cdv A outer s H E C hr tk => ?_)
  exact (sss_cons (ss_if (st_of (sw_or (st_not (st_val (se_isi ownOk_nil (se_var 0) (He.free_ok X G (c.fact 6)) bo_isinstance (He.free_ok X G (c.fact 4)) bo_tuple))) (sw_or1 (st_cmp (op_gtP (u64 hr)) d_pl q_pl (se_callB call_lenA d_lena q_lena (He.free_ok X G (c.fact 2)) bo_len (sat_cons (se_var 0) sat_nil)) (se_var 1) (nomark _)))))
 (sss_one (ss_ret se_bl))
 sss_nil)
 (sss_one (ss_ret (se_callB (cr_all rfl) d_all q_all (He.free_ok X G (c.fact 8)) bo_all (sat_cons (se_lc (own := [("item", 4)]) rfl sc_are_within.nd (sj_seq (se_var 0)) (blk_ok (by kernel_rfl)) (within_name (by decide)) (fun s H Ca cl fp => (sg_name 4 sc_are_within.nd)) (fun s H Ca cl fp L tk => sts_nil) (fun s H Ca cl fp L tk => (se_defO (ok_is_within X G c) hr tk (sa_cons (se_var 4) (sa_cons (se_var 2) (sa_cons (se_var 3) sa_nil)))))) sat_nil)))))
theorem sc_is_loops : FnScope ["thing"] ["thing"] (defScope s_is_loops) := ⟨rfl, rfl, rfl, by decide +kernel, rfl, by decide +kernel, by decide +kernel⟩
noncomputable def g_is_loops : DS := (sRet (eAnd (eDef 4 M_are_within (aCons (eVar 0) (aCons (eC (.int 8)) (aCons (eC (.int 1)) (aCons (eC (.int 40)) aNil))))) (eOp dGt (eCall bLenA (aConsT (eVar 0) aNil)) (eC (.int 0)))))
noncomputable def M_is_loops : DM := runD 1 false g_is_loops
theorem ok_is_loops (X : K.In h) (G : h.Ns mainGlobals mg) (c : He.SaysD fa fn K) : OkD P w K mg base 4 "is_loops" 1 false M_is_loops := by
  refine okD_of (c.def_ 9 (d := d_is_loops) rfl) (He.glo_ok X G (c.fact 30)) sc_is_loops (fun _ _ _ _ _ _ us hl => match us, hl with | [_], _ => rfl) (fun cdv A outer s H E C hr tk => ?_)
  exact (sss_one (ss_ret (se_and (se_defO (ok_are_within X G c) hr tk (sa_cons (se_var 0) (sa_cons (se_globI (He.int_ok X G (c.fact 10))) (sa_cons se_int (sa_cons (se_globI (He.int_ok X G (c.fact 9))) sa_nil))))) (se_and1 (se_cmp (op_gtP (u64 hr)) d_pl q_pl (se_callB call_lenA d_lena q_lena (He.free_ok X G (c.fact 2)) bo_len (sat_cons (se_var 0) sat_nil)) se_int (nomark _))))))
theorem sc_is_row : FnScope ["loops", "thing"] ["loops", "thing"] (defScope s_is_row) := ⟨rfl, rfl, rfl, by decide +kernel, rfl, by decide +kernel, by decide +kernel⟩
noncomputable def g_is_row : DS := (sRet (eDef 4 M_are_within (aCons (eVar 1) (aCons (eC (.int 60)) (aCons (eC (.int 0)) (aCons (eOp dSub (eCall bLenA (aConsT (eVar 0) aNil)) (eC (.int 1))) aNil))))))
noncomputable def M_is_row : DM := runD 2 false g_is_row
theorem ok_is_row (X : K.In h) (G : h.Ns mainGlobals mg) (c : He.SaysD fa fn K) : OkD P w K mg base 4 "is_row" 2 false M_is_row := by
  refine okD_of (c.def_ 10 (d := d_is_row) rfl) (He.glo_ok X G (c.fact 31)) sc_is_row (fun _ _ _ _ _ _ us hl => match us, hl with | [_, _], _ => rfl) (fun cdv A outer s H E C hr tk => ?_)
  exact (sss_one (ss_ret (se_defO (ok_are_within X G c) hr tk (sa_cons (se_var 1) (sa_cons (se_globI (He.int_ok X G (c.fact 13))) (sa_cons se_int (sa_cons (se_op op_sub d_sub q_sub (se_callB call_lenA d_lena q_lena (He.free_ok X G (c.fact 2)) bo_len (sat_cons (se_var 0) sat_nil)) se_int) sa_nil)))))))
theorem sc_sum_of : FnScope ["loops", "row", "loop"] ["loops", "row"] (defScope s_sum_of) := ⟨rfl, rfl, rfl, by decide +kernel, rfl, by decide +kernel, by decide +kernel⟩
noncomputable def g_sum_of : DS := (sRet (eCall bSumA (aConsT (eLc [2] (jSeq (eVar 1)) (gN 2) xYes (eOp dIxA (eVar 0) (eVar 2))) aNil)))
noncomputable def M_sum_of : DM := runD 3 false g_sum_of
theorem ok_sum_of (X : K.In h) (G : h.Ns mainGlobals mg) (c : He.SaysD fa fn K) : OkD P w K mg base 1 "sum_of" 2 false M_sum_of := by
  refine okD_of (c.def_ 11 (d := d_sum_of) rfl) (He.glo_ok X G (c.fact 32)) sc_sum_of (fun _ _ _ _ _ _ us hl => match us, hl with | [_, _], _ => rfl) (fun cdv A outer s H E C hr tk => ?_)
  exact (sss_one (ss_ret (se_callB (cr_sumA rfl) d_suma q_suma (He.free_ok X G (c.fact 5)) bo_sum (sat_cons (se_lc (own := [("loop", 2)]) rfl sc_sum_of.nd (sj_seq (se_var 1)) (blk_ok (by kernel_rfl)) (within_name (by decide)) (fun s H Ca cl fp => (sg_name 2 sc_sum_of.nd)) (fun s H Ca cl fp L tk => sts_nil) (fun s H Ca cl fp L tk => (se_ix (ix_any (u1 hr)) d_ixa q_ixa (se_var 0) (se_var 2) (by intro _ _; rfl)))) sat_nil))))
theorem sc_entries_of : FnScope ["loops", "row", "left", "gone", "found", "loop"] ["loops", "row"] (defScope s_entries_of) := ⟨rfl, rfl, rfl, by decide +kernel, rfl, by decide +kernel, by decide +kernel⟩
noncomputable def g_entries_of : DS := (sSeq (sAsg 2 (eDef 2 M_sum_of (aCons (eVar 0) (aCons (eVar 1) aNil))))
 (sSeq (sAsg 3 (eC (.int 0)))
 (sSeq (sAsg 4 (eLst aNil))
 (sSeq (sFor (iSeq (eVar 1)) (gN 5)
 (sSeq (sDropM (eMut 4 isLst mAppend (aCons (eTup (aCons (eVar 5) (aCons (eVar 3) (aCons (eVar 2) aNil)))) aNil)))
 (sSeq (sAug dAddZ 3 (eOp dIxA (eVar 0) (eVar 5)))
 (sAug dSub 2 (eOp dIxA (eVar 0) (eVar 5))))))
 (sRetV 4)))))
noncomputable def M_entries_of : DM := runD 6 false g_entries_of
theorem ok_entries_of (X : K.In h) (G : h.Ns mainGlobals mg) (c : He.SaysD fa fn K) : OkD P w K mg base 2 "entries_of" 2 false M_entries_of := by
  refine okD_of (c.def_ 12 (d := d_entries_of) rfl) (He.glo_ok X G (c.fact 33)) sc_entries_of (fun _ _ _ _ _ _ us hl => match us, hl with | [_, _], _ => rfl) (fun cdv A outer s H E C hr tk => ?_)
  exact (sss_cons (ss_set 2 sc_entries_of.nd (se_defO (ok_sum_of X G c) hr tk (sa_cons (se_var 0) (sa_cons (se_var 1) sa_nil))))
 (sss_cons (ss_set 3 sc_entries_of.nd se_int)
 (sss_cons (ss_set 4 sc_entries_of.nd (se_lst sa_nil))
 (sss_cons (ss_for (passes_of rfl) rfl (si_seq (se_var 1)) (sg_name 5 sc_entries_of.nd) (fun pins =>
 (sss_cons (ss_exprM (se_mut 4 kind_lst m_append PySem.F.plainAttrs_list PySem.F.slot_list_append PySem.F.type_list_append mt_append (sa_cons (se_tup (sa_cons (se_var 5) (sa_cons (se_var 3) (sa_cons (se_var 2) sa_nil)))) sa_nil)))
 (sss_cons (ss_aug 3 iop_add d_addz q_addz sc_entries_of.nd (se_ix (ix_any (u1 hr)) d_ixa q_ixa (se_var 0) (se_var 5) (by intro _ _; rfl)))
 (sss_one (ss_aug 2 iop_sub d_sub q_sub sc_entries_of.nd (se_ix (ix_any (u1 hr)) d_ixa q_ixa (se_var 0) (se_var 5) (by intro _ _; rfl))))))))
 (sss_one (ss_retV 4))))))
theorem sc_Table___init__ : FnScope ["self", "loops", "rows", "at", "row"] ["self", "loops", "rows"] (defScope s_Table___init__) := ⟨rfl, rfl, rfl, by decide +kernel, rfl, by decide +kernel, by decide +kernel⟩
noncomputable def g_Table___init__ : DS := (sSeq (sIf (xNot (xB (eDef 1 M_is_loops (aCons (eVar 1) aNil))))
 sNo
 sPass)
 (sSeq (sIf (xOr (xNot (xB (eUn (dIsi [] .tuple) (eVar 2)))) (xNot (xB (eChain dLe dLe (eC (.int 1)) (eCall bLenA (aConsT (eVar 2) aNil)) (eC (.int 60))))))
 sNo
 sPass)
 (sSeq (sFor (iEnu (eVar 2)) (gT 2 [(gN 3), (gN 4)])
 (sIf (xOr (xNot (xB (eDef 2 M_is_row (aCons (eVar 1) (aCons (eVar 4) aNil))))) (xB (eOp dNe (eDef 2 M_sum_of (aCons (eVar 1) (aCons (eVar 4) aNil))) (eOp dAddA (eVar 3) (eC (.int 1))))))
 sNo
 sPass))
 (sSeq (sTfld 0 ["Table"] "loops" (eVar 1))
 (sSeq (sTfld 0 ["Table"] "rows" (eVar 2))
 (sSeq (sTfld 0 ["Table"] "bound" (eCall bLenA (aConsT (eVar 2) aNil)))
 (sTfld 0 ["Table"] "kept_entries" (eOp dAddA (eLst (aCons (eLst aNil) aNil)) (eLc [4] (jSeq (eVar 2)) (gN 4) xYes (eDef 2 M_entries_of (aCons (eVar 1) (aCons (eVar 4) aNil))))))))))))
noncomputable def M_Table___init__ : DM := runD 5 true g_Table___init__
theorem ok_Table___init__ (X : K.In h) (G : h.Ns mainGlobals mg) (c : He.SaysD fa fn K) : OkI P w K mg base 5 "Table" 3 M_Table___init__ := by
  refine okI_of (c.def_ 13 (d := d_Table___init__) rfl) (He.mkr_ok (c.fact 34)) (He.glo_ok X G (c.fact 14)) sc_Table___init__ (fun _ _ _ _ _ _ us hl => match us, hl with | [_, _, _], _ => rfl) (fun cdv A outer s H E C hr tk => ?_)
  exact (sss_cons (ss_if (st_not (st_val (se_defO (ok_is_loops X G c) hr tk (sa_cons (se_var 1) sa_nil))))
 (sss_one ss_no)
 sss_nil)
 (sss_cons (ss_if (st_of (sw_or (st_not (st_val (se_isi ownOk_nil (se_var 2) (He.free_ok X G (c.fact 6)) bo_isinstance (He.free_ok X G (c.fact 4)) bo_tuple))) (sw_or1 (st_not (st_chain (op_leP (u64 hr)) d_pl q_pl (op_leP (u64 hr)) d_pl q_pl se_int (se_callB call_lenA d_lena q_lena (He.free_ok X G (c.fact 2)) bo_len (sat_cons (se_var 2) sat_nil)) (se_globI (He.int_ok X G (c.fact 11))))))))
 (sss_one ss_no)
 sss_nil)
 (sss_cons (ss_for (passes_of rfl) rfl (si_enum (se_var 2) (He.free_ok X G (c.fact 12))) (sg_tup rfl (sgs_cons (sg_name 3 sc_Table___init__.nd) (sgs_cons (sg_name 4 sc_Table___init__.nd) sgs_nil))) (fun pins =>
 (sss_one (ss_if (st_of (sw_or (st_not (st_val (se_defO (ok_is_row X G c) hr tk (sa_cons (se_var 1) (sa_cons (se_var 4) sa_nil))))) (sw_or1 (st_cmp (op_neP (u64 hr)) d_pl q_pl (se_defO (ok_sum_of X G c) hr tk (sa_cons (se_var 1) (sa_cons (se_var 4) sa_nil))) (se_op op_addU d_adda q_adda (se_var 3) se_int) (nomark _)))))
 (sss_one ss_no)
 sss_nil))))
 (sss_cons (ss_tfld 0 (atOk_cons (He.glo_ok X G (c.fact 14)) (He.cls_ok (c.fact 15)) (He.noat_ok (c.fact 16)) atOk_nil) (se_var 1))
 (sss_cons (ss_tfld 0 (atOk_cons (He.glo_ok X G (c.fact 14)) (He.cls_ok (c.fact 15)) (He.noat_ok (c.fact 17)) atOk_nil) (se_var 2))
 (sss_cons (ss_tfld 0 (atOk_cons (He.glo_ok X G (c.fact 14)) (He.cls_ok (c.fact 15)) (He.noat_ok (c.fact 18)) atOk_nil) (se_callB call_lenA d_lena q_lena (He.free_ok X G (c.fact 2)) bo_len (sat_cons (se_var 2) sat_nil)))
 (sss_one (ss_tfld 0 (atOk_cons (He.glo_ok X G (c.fact 14)) (He.cls_ok (c.fact 15)) (He.noat_ok (c.fact 19)) atOk_nil) (se_op op_addU d_adda q_adda (se_lst (sa_cons (se_lst sa_nil) sa_nil)) (se_lc (own := [("row", 4)]) rfl sc_Table___init__.nd (sj_seq (se_var 2)) (blk_ok (by kernel_rfl)) (within_name (by decide)) (fun s H Ca cl fp => (sg_name 4 sc_Table___init__.nd)) (fun s H Ca cl fp L tk => sts_nil) (fun s H Ca cl fp L tk => (se_defO (ok_entries_of X G c) hr tk (sa_cons (se_var 1) (sa_cons (se_var 4) sa_nil))))))))))))))
theorem sc_Table_entries_at : FnScope ["self", "wait"] ["self", "wait"] (defScope s_Table_entries_at) := ⟨rfl, rfl, rfl, by decide +kernel, rfl, by decide +kernel, by decide +kernel⟩
noncomputable def g_Table_entries_at : DS := (sRet (eOp dIxA (eUn (dAt ["Table"] "kept_entries") (eVar 0)) (eVar 1)))
noncomputable def M_Table_entries_at : DM := runD 2 false g_Table_entries_at
theorem ok_Table_entries_at (X : K.In h) (G : h.Ns mainGlobals mg) (c : He.SaysD fa fn K) : OkM P w K mg base 1 "Table" "entries_at" 2 false M_Table_entries_at := by
  refine okM_of (c.def_ 14 (d := d_Table_entries_at) rfl) (He.meth_ok (c.fact 35)) (He.cls_ok (c.fact 15)) (He.glo_ok X G (c.fact 14)) sc_Table_entries_at (fun _ _ _ _ _ _ us hl => match us, hl with | [_, _], _ => rfl) (fun cdv A outer s H E C hr tk => ?_)
  exact (sss_one (ss_ret (se_ix (ix_any (u1 hr)) d_ixa q_ixa (se_at (atOk_cons (He.glo_ok X G (c.fact 14)) (He.cls_ok (c.fact 15)) (He.noat_ok (c.fact 19)) atOk_nil) (se_var 0)) (se_var 1) (by intro _ _; rfl))))
theorem sc_entries : FnScope ["table", "found", "wait", "entry"] ["table"] (defScope s_entries) := ⟨rfl, rfl, rfl, by decide +kernel, rfl, by decide +kernel, by decide +kernel⟩
noncomputable def g_entries : DS := (sSeq (sAsg 1 (eDct true))
 (sSeq (sFor (iRng (aConsT (eC (.int 1)) (aConsT (eOp dAddA (eUn (dAt ["Table"] "bound") (eVar 0)) (eC (.int 1))) aNil))) (gN 2)
 (sFor (iSeq (eMeth "Table" "entries_at" 2 M_Table_entries_at (eVar 0) (aCons (eVar 2) aNil))) (gN 3)
 (sSetI 1 setA (eVar 3) (eC (.bl true)))))
 (sRet (eCall bSorted (aConsT (eCall bListA (aConsT (eVar 1) aNil)) aNil)))))
noncomputable def M_entries : DM := runD 4 false g_entries
theorem ok_entries (X : K.In h) (G : h.Ns mainGlobals mg) (c : He.SaysD fa fn K) : OkD P w K mg base 2 "entries" 1 false M_entries := by
  refine okD_of (c.def_ 15 (d := d_entries) rfl) (He.glo_ok X G (c.fact 36)) sc_entries (fun _ _ _ _ _ _ us hl => match us, hl with | [_], _ => rfl) (fun cdv A outer s H E C hr tk => ?_)
  exact (sss_cons (ss_set 1 sc_entries.nd (se_dct true))
 (sss_cons (ss_for (passes_of rfl) rfl (si_range2 (He.free_ok X G (c.fact 3)) (sat_cons se_int (sat_cons (se_op op_addU d_adda q_adda (se_at (atOk_cons (He.glo_ok X G (c.fact 14)) (He.cls_ok (c.fact 15)) (He.noat_ok (c.fact 18)) atOk_nil) (se_var 0)) se_int) sat_nil)) (many_consT (many_consT many_nil))) (sg_name 2 sc_entries.nd) (fun pins =>
 (sss_one (ss_for (passes_of rfl) rfl (si_seq (se_meth (ok_Table_entries_at X G c) hr tk (se_var 0) (sa_cons (se_var 2) sa_nil))) (sg_name 3 sc_entries.nd) (fun pins =>
 (sss_one (ss_setI 1 (set_any (u1 hr)) d_setA se_bl (se_var 3))))))))
 (sss_one (ss_ret (se_callB (cr_sortedD (u64 hr)) d_sorted q_sorted (He.free_ok X G (c.fact 20)) bo_sorted (sat_cons (se_callTy (call_listA rfl) d_listA q_listA (He.free_ok X G (c.fact 0)) bo_list (sat_cons (se_var 1) sat_nil)) sat_nil))))))
theorem sc_law : FnScope ["_law_script", "_law_tape_here", "_law_loops_here", "_law_rows_here", "_law_due", "_law_row_here", "_law_entry", "_law_table", "_law_told", "_law_wait", "_law_mine", "_law_loop", "_law_gone", "_law_left", "_law_item"] ["_law_script"] (defScope s_law) := ⟨rfl, rfl, rfl, by decide +kernel, rfl, by decide +kernel, by decide +kernel⟩
noncomputable def g_law : DS := (fun r T => if T.isNone then sTape 1 (eDef 1 M__law_tape (aCons (eVar 0) aNil))
 (sSeq (sAsg 2 (eDefT 1 3 M__law_loops (aCons (eC (.int 5)) (aCons (eC (.int 6)) aNil))))
 (sSeq (sAsg 3 (eDefT 1 3 M__law_rows (aCons (eVar 2) (aCons (eOp dAddA (eC (.int 1)) (eDefT 1 2 M__law_pick (aCons (eC (.int 12)) aNil))) aNil))))
 (sSeq (sAsg 4 (eLst aNil))
 (sSeq (sFor (iSeq (eVar 3)) (gN 5)
 (sFor (iSeq (eDef 2 M__law_entries (aCons (eVar 2) (aCons (eVar 5) aNil)))) (gN 6)
 (sIf (xB (eOp dNinA (eVar 6) (eVar 4)))
 (sDropM (eMut 4 isLst mAppend (aCons (eVar 6) aNil)))
 sPass)))
 (sSeq (sAsg 7 (eMake "Table" 3 M_Table___init__ (aCons (eVar 2) (aCons (eVar 3) aNil))))
 (sFrz 7 (sSeq (sAsg 8 (eDef 1 M_entries (aCons (eVar 7) aNil)))
 (sSeq (sIf (xOr (xB (eOp dNe (eVar 8) (eCall bSorted (aConsT (eVar 4) aNil)))) (xNot (xB (eUn (dIsi [] .list) (eVar 8)))))
 (sRet (eC (.bl false)))
 sPass)
 (sSeq (sFor (oSeq 8) (gN 6)
 (sIf (xOr (xNot (xB (eUn (dIsi [] .tuple) (eVar 6)))) (xB (eOp dGt (eCall bLenA (aConsT (eLc [14] (jSeq (eVar 6)) (gN 14) (xB (eUn (dIsi [] .bool) (eVar 14))) (eVar 14)) aNil)) (eC (.int 0))))) (sRet (eC (.bl false))) sPass))
 (sSeq (sFor (iRng (aConsT (eC (.int 1)) (aConsT (eOp dAddA (eCall bLenA (aConsT (eVar 3) aNil)) (eC (.int 1))) aNil))) (gN 9)
 (sSeq (sAsg 10 (eCall bSorted (aConsT (eLc [11, 12, 13] (jSeq (eVar 8)) (gT 3 [(gN 11), (gN 12), (gN 13)]) (xB (eOp dEq (eOp dAddA (eVar 12) (eVar 13)) (eVar 9))) (eTup (aCons (eVar 12) (aCons (eVar 11) aNil)))) aNil)))
 (sIf (xB (eOp dNe (eCall bTuple (aConsT (eLc [12, 11] (jSeq (eVar 10)) (gT 2 [(gN 12), (gN 11)]) xYes (eVar 11)) aNil)) (eOp dIxA (eVar 3) (eOp dSub (eVar 9) (eC (.int 1))))))
 (sRet (eC (.bl false)))
 sPass)))
 (sSeq (sDropM (eMut 8 isLst mAppend (aCons (eTup (aCons (eC (.int 0)) (aCons (eC (.int 0)) (aCons (eC (.int 0)) aNil)))) aNil)))
 (sFrz 7 (sRet (eOp dEq (eDef 1 M_entries (aCons (eVar 7) aNil)) (eCall bSorted (aConsT (eVar 4) aNil)))))))))))))))) r T else .stuck)
noncomputable def M_law : DM := runD 15 false g_law
theorem ok_law {fd : FuncData} (X : K.In h) (G : h.Ns mainGlobals mg) (c : He.SaysD fa fn K) (F : FunD K d_law.name d_law.qual d_law.params d_law.body d_law.scope [] [] (He.ga K d_law.name) fd) : FnOk P w K mg base (L2.CX P w) 7 (He.ga K d_law.name) fd ["_law_script"] (SpD K mg 1 false M_law) := by
  refine okF_of F sc_law (fun cdv A outer s H E C hr tk => ?_)
  exact (sss_tape 1 sc_law.nd (se_defO (ok__law_tape X G c) hr tk (sa_cons (se_var 0) sa_nil)) (fun p =>
 (sss_cons (ss_set 2 sc_law.nd (se_defTO 1 (ok__law_loops X G c) hr tk (sa_cons se_int (sa_cons se_int sa_nil))))
 (sss_cons (ss_set 3 sc_law.nd (se_defTO 1 (ok__law_rows X G c) hr tk (sa_cons (se_var 2) (sa_cons (se_op op_addU d_adda q_adda se_int (se_defTO 1 (ok__law_pick X G c) hr tk (sa_cons se_int sa_nil))) sa_nil))))
 (sss_cons (ss_set 4 sc_law.nd (se_lst sa_nil))
 (sss_cons (ss_for (passes_of rfl) rfl (si_seq (se_var 3)) (sg_name 5 sc_law.nd) (fun pins =>
 (sss_one (ss_for (passes_of rfl) rfl (si_seq (se_defO (ok__law_entries X G c) hr tk (sa_cons (se_var 2) (sa_cons (se_var 5) sa_nil)))) (sg_name 6 sc_law.nd) (fun pins =>
 (sss_one (ss_if (st_cmp (op_ninA (u64 hr)) d_nina q_nina (se_var 6) (se_var 4) (by with_unfolding_all rfl))
 (sss_one (ss_exprM (se_mut 4 kind_lst m_append PySem.F.plainAttrs_list PySem.F.slot_list_append PySem.F.type_list_append mt_append (sa_cons (se_var 6) sa_nil))))
 sss_nil)))))))
 (sss_cons (ss_set 7 sc_law.nd (se_make (ok_Table___init__ X G c) hr tk (sa_cons (se_var 2) (sa_cons (se_var 3) sa_nil))))
 (sss_frz 7 (sss_cons (ss_set 8 sc_law.nd (se_defO (ok_entries X G c) hr tk (sa_cons (se_var 7) sa_nil)))
 (sss_cons (ss_if (st_of (sw_or (st_cmp (op_neP (u64 hr)) d_pl q_pl (se_var 8) (se_callB (cr_sortedD (u64 hr)) d_sorted q_sorted (He.free_ok X G (c.fact 20)) bo_sorted (sat_cons (se_var 4) sat_nil)) (nomark _)) (sw_or1 (st_not (st_val (se_isi ownOk_nil (se_var 8) (He.free_ok X G (c.fact 6)) bo_isinstance (He.free_ok X G (c.fact 0)) bo_list))))))
 (sss_one (ss_ret se_bl))
 sss_nil)
 (sss_cons (ss_forQ 8 (passes_of rfl) rfl (sg_name 6 sc_law.nd) (st_of (sw_or (st_not (st_val (se_isi ownOk_nil (se_var 6) (He.free_ok X G (c.fact 6)) bo_isinstance (He.free_ok X G (c.fact 4)) bo_tuple))) (sw_or1 (st_cmp (op_gtP (u64 hr)) d_pl q_pl (se_callB call_lenA d_lena q_lena (He.free_ok X G (c.fact 2)) bo_len (sat_cons (se_lc (own := [("_law_item", 14)]) rfl sc_law.nd (sj_seq (se_var 6)) (blk_ok (by kernel_rfl)) (within_name (by decide)) (fun s H Ca cl fp => (sg_name 14 sc_law.nd)) (fun s H Ca cl fp L tk => (sts_one (st_val (se_isi ownOk_nil (se_var 14) (He.free_ok X G (c.fact 6)) bo_isinstance (He.free_ok X G (c.fact 7)) bo_bool)))) (fun s H Ca cl fp L tk => (se_var 14))) sat_nil)) se_int (nomark _))))) se_bl (gN_ne (by decide)))
 (sss_cons (ss_for (passes_of rfl) rfl (si_range2 (He.free_ok X G (c.fact 3)) (sat_cons se_int (sat_cons (se_op op_addU d_adda q_adda (se_callB call_lenA d_lena q_lena (He.free_ok X G (c.fact 2)) bo_len (sat_cons (se_var 3) sat_nil)) se_int) sat_nil)) (many_consT (many_consT many_nil))) (sg_name 9 sc_law.nd) (fun pins =>
 (sss_cons (ss_set 10 sc_law.nd (se_callB (cr_sortedD (u64 hr)) d_sorted q_sorted (He.free_ok X G (c.fact 20)) bo_sorted (sat_cons (se_lc (own := [("_law_loop", 11), ("_law_gone", 12), ("_law_left", 13)]) rfl sc_law.nd (sj_seq (se_var 8)) (blk_ok (by kernel_rfl)) (within_tup (withins_cons (within_name (by decide)) (withins_cons (within_name (by decide)) (withins_cons (within_name (by decide)) withins_nil)))) (fun s H Ca cl fp => (sg_tup rfl (sgs_cons (sg_name 11 sc_law.nd) (sgs_cons (sg_name 12 sc_law.nd) (sgs_cons (sg_name 13 sc_law.nd) sgs_nil))))) (fun s H Ca cl fp L tk => (sts_one (st_cmp (op_eqP (u64 hr)) d_pl q_pl (se_op op_addU d_adda q_adda (se_var 12) (se_var 13)) (se_var 9) (nomark _)))) (fun s H Ca cl fp L tk => (se_tup (sa_cons (se_var 12) (sa_cons (se_var 11) sa_nil))))) sat_nil)))
 (sss_one (ss_if (st_cmp (op_neP (u64 hr)) d_pl q_pl (se_callTy call_tuple_of d_tuple q_tuple (He.free_ok X G (c.fact 4)) bo_tuple (sat_cons (se_lc (own := [("_law_gone", 12), ("_law_loop", 11)]) rfl sc_law.nd (sj_seq (se_var 10)) (blk_ok (by kernel_rfl)) (within_tup (withins_cons (within_name (by decide)) (withins_cons (within_name (by decide)) withins_nil))) (fun s H Ca cl fp => (sg_tup rfl (sgs_cons (sg_name 12 sc_law.nd) (sgs_cons (sg_name 11 sc_law.nd) sgs_nil)))) (fun s H Ca cl fp L tk => sts_nil) (fun s H Ca cl fp L tk => (se_var 11))) sat_nil)) (se_ix (ix_any (u1 hr)) d_ixa q_ixa (se_var 3) (se_op op_sub d_sub q_sub (se_var 9) se_int) (by intro _ _; rfl)) (nomark _))
 (sss_one (ss_ret se_bl))
 sss_nil)))))
 (sss_cons (ss_exprM (se_mut 8 kind_lst m_append PySem.F.plainAttrs_list PySem.F.slot_list_append PySem.F.type_list_append mt_append (sa_cons (se_tup (sa_cons se_int (sa_cons se_int (sa_cons se_int sa_nil)))) sa_nil)))
 (sss_frz 7 (sss_one (ss_ret (se_cmp (op_eqP (u64 hr)) d_pl q_pl (se_defO (ok_entries X G c) hr tk (sa_cons (se_var 7) sa_nil)) (se_callB (cr_sortedD (u64 hr)) d_sorted q_sorted (He.free_ok X G (c.fact 20)) bo_sorted (sat_cons (se_var 4) sat_nil)) (nomark _))))))))))))))))))
theorem fd_law (c : He.SaysD fa fn K) : ∃ fd : FuncData, (∀ (s : Shared) (u : Value), BindsTo s fd ⟨[u], []⟩ [("_law_script", u)]) ∧ ∀ (w : World) (mg : PySem.Str → Option Value) (h base : Heap), K.In h → h.Ns mainGlobals mg → FnOk P w K mg base (L2.CX P w) 7 (He.ga K "law") fd ["_law_script"] (SpD K mg 1 false M_law) ∧ mg "law" = some (.ref (He.ga K "law")) := by
  obtain ⟨fd, F⟩ := c.def_ 16 (d := d_law) rfl
  have b := FunD.bindsA (ps := ["_law_script"]) F fun _ _ _ _ _ _ us hl => match us, hl with | [_], _ => rfl
  exact ⟨fd, fun s u => b s [u] rfl, fun w mg h base X G => ⟨ok_law X G c F, (He.glo_ok X G (c.fact 37))⟩⟩
end
def loose0 : List PySem.Str := ["LoopError", "BadTable", "MOST_BOUND", "MOST_LOOPS", "MOST_LENGTH", "MOST_ITEMS", "is_integer", "is_within", "are_within", "is_loops", "is_row", "sum_of", "entries_of", "Table", "entries", "_law_tape", "_law_pick", "_law_loops", "_law_row", "_law_rows", "_law_comings", "_law_entries", "_law_clash", "_law_table_clashes"]
def loose : List PySem.Str := loose0
abbrev Rw : PySem.W.OpenRow := PySem.W.OpenLaw.row PySem.Challenge.rw_loopstore_k08_whole_entries_of_tables
abbrev hk : PySem.W.Hook := He.hookD 5 fa fn
def ob (s : PySem.W.SharedT) : He.AlD := He.obsDG 5 fa fn (HandSHeadRun.getT s)
theorem ob_eq (s : PySem.W.SharedT) : ob s = hk.obs s.abs := He.obsDG_eq (HandSHeadRun.getT_eq s)
theorem run (w : World) : HandSHeadRun.RunEq Rw (PySem.W.view Rw.prog [28]) hk ob 4000 loose w := by
  intro os
  kernel_rfl
end Gk08
namespace Gk08
open PySem L2 Pu
theorem tape_ok (ns : List Int) : M__law_tape [.scr ns] none = .ok (.own (.lst [.lst (ns.map D.int), .int 0, .int 0, .int 1, .int 0]), none) := by
  simp [M__law_tape, runD_ap, g__law_tape, env0, bList]
theorem pick_wp {T : Tp} {n : Int} {Q : VD × Tp → Prop} (ht : TapeV T) (h0 : 0 < n) (h1 : n < 1073741824) (k : ∀ r T', 0 ≤ r → r < n → TapeV T' → Q (.val (.int r), T')) : wp (M__law_pick [.int n] T) Q := by
  obtain ⟨ns, p, a, b, c, rfl⟩ := ht
  have m1 : ∀ x : Int, 0 ≤ x % n := fun x => Int.emod_nonneg _ (by omega)
  have m2 : ∀ x : Int, x % n < n := fun x => Int.emod_lt_of_pos _ h0
  have m3 : ∀ x : Int, -18446744073709551616 < x % 2147483647 ∧ x % 2147483647 < 18446744073709551616 := fun x => by omega
  by_cases hp : p < ns.length
  · have e := atI_num hp
    simp [M__law_pick, runD_ap, g__law_pick, env0, e, hp, h0, h1, m3]
    exact ⟨fun _ => k _ _ (m1 _) (m2 _) ⟨ns, p, _, _, _, rfl⟩, fun _ => ⟨fun _ => k _ _ (m1 _) (m2 _) ⟨ns, p + 1, _, _, _, rfl⟩, fun _ => k _ _ (m1 _) (m2 _) ⟨ns, p + 1, _, _, _, rfl⟩⟩⟩
  · simp [M__law_pick, runD_ap, g__law_pick, env0, hp, h0, h1, m3]
    exact ⟨fun _ => k _ _ (m1 _) (m2 _) ⟨ns, p, _, _, _, rfl⟩, fun _ => k _ _ (m1 _) (m2 _) ⟨ns, p, _, _, _, rfl⟩⟩
noncomputable def pick (n : Int) (T : Tp) : Rt (Int × Tp) := match M__law_pick [.int n] T with
  | .ok (.val (.int i), T) => .ok (i, T)
  | _ => .stuck
theorem t_pick (n : Int) (T : Tp) : Sim ET (M__law_pick [eI n] T) (pick n T) (RT (fun x => VD.val (eI x))) := pick_sim _ _ _ rfl
theorem pick_wr {n : Int} {T : Tp} (ht : TapeV T) (h0 : 0 < n) (h1 : n < 1073741824) : wr (pick n T) fun p => (0 ≤ p.1 ∧ p.1 < n) ∧ TapeV p.2 := by
  obtain ⟨a, e, r, T', rfl, r0, r1, t⟩ := pick_wp (Q := fun p => ∃ (r : Int) (T' : Tp), p = (.val (.int r), T') ∧ 0 ≤ r ∧ r < n ∧ TapeV T') ht h0 h1 fun r T' a b c => ⟨r, T', rfl, a, b, c⟩
  unfold pick
  rw [e]
  exact ⟨_, rfl, ⟨r0, r1⟩, t⟩
noncomputable def floops (vmost : Int) (vlongest : Int) (T : Tp) : Rt ((List Int) × Tp) :=
 ((pick vmost T).bind fun a18 =>
 (lete (((1 : Int) + a18.1) : Int) fun vmany19 =>
 ((rng (0 : Int) vmany19).bind fun xs22 =>
 ((mapT (fun x24 T26 => ((pick vlongest T26).bind fun a28 =>
 .ok (((1 : Int) + a28.1), a28.2))) xs22 a18.2).bind fun a29 =>
 ((pick vmany19 a29.2).bind fun a32 =>
 ((setAt a29.1 a32.1 (1 : Int)).bind fun vfound33 =>
 .ok (vfound33, a32.2)))))))
theorem t_floops (vmost : Int) (vlongest : Int) (T : Tp) : Sim ET (M__law_loops [eI vmost, eI vlongest] T) (floops vmost vlongest T) (RT (fun x => VD.val (eT x))) :=
 t_run (fun r m => (s_seq (s_plugE (plug_asg (plug_op2 (Pur.pd q_c) plug_id)) (h_defT (Mat.get m rfl) (q_cons (Pur.pv (q_var m rfl)) q_nil) rfl (mk := mI) (t_pick _ _) (fun _ => trivial) (fun a18 => (s_asgL (i := 3) m (fun vmany19 => VD.val (eI vmany19)) (q_op (op := dAddA) (Pur.pd q_c) (Pur.pd q_cst) rfl) (fun _ _ => rfl) (fun vmany19 r20 m21 => (s_next (s_seq (s_plugE (plug_asg plug_id) (s_lc1 (h_rng (q_consT (Pur.pd (q_var m21 rfl)) q_nil) rfl (fun xs22 => (h_lcT m21 (.f rfl .nil) q_csti (e := eI) (ms := (fun x => [(5, eI x)])) (fun _ => rfl) (e' := eI) (fun x24 r25 T26 m23 => (e_plug (plug_op2 (Pur.pd q_c) plug_id) (h_defT (Mat.get m23 rfl) (q_cons (Pur.pv (q_var m23 rfl)) q_nil) rfl (mk := mI) (t_pick _ _) (fun _ => trivial) (fun a28 => (e_fin (Pur.pv (q_op (op := dAddA) (Pur.pd q_c) (Pur.pd q_cst) rfl)) rfl))))) (fun a29 => (s_asg (i := 4) m21 q_cst (fun _ => rfl) (fun r30 m31 => (s_next (s_seq (s_plugE (plug_setK m31 rfl (Pur.pv q_c) plug_id) (h_defT (Mat.get m31 rfl) (q_cons (Pur.pv (q_var m31 rfl)) q_nil) rfl (mk := mI) (t_pick _ _) (fun _ => trivial) (fun a32 => (s_setI (i := 4) m31 rfl (Pur.pv q_c) (Pur.pd q_cst) (dn := (eL eI)) p_setAt quit_setAt (fun vfound33 r34 m35 => (s_next (s_ret (q_call (op := bTpl) (q_consT (Pur.pdP (q_varO m35 rfl)) q_nil) q_tplL) (fun _ => rfl) (s_fin rfl)))))))))))))))))))))))))))
noncomputable def frow_T_I (vloopshere : (List Int)) (vwait : Int) (T : Tp) : Rt ((List Int) × Tp) :=
 ((pick (12 : Int) T).bind fun a142 =>
 (lete ((decide (a142.1 = (0 : Int))) : Bool) fun vagain143 =>
 ((forB (rngL (0 : Int) (8 : Int)) (([], vwait, a142.2) : ((List Int) × Int × Tp)) fun x188 s187 =>
 ((rng (0 : Int) (vloopshere.length : Int)).bind fun xs191 =>
 ((lcR (fun x193 => ((idx vloopshere x193).bind fun a195 =>
 .ok ((decide (a195 ≤ s187.2.1)) && (vagain143 || (!memB x193 s187.1))))) (fun x193 => .ok x193) xs191).bind fun a196 =>
 (if ((decide ((a196.length : Int) = (0 : Int))) || (decide (s187.2.1 = (0 : Int)))) = true then
 .ok (true, (s187.1, s187.2.1, s187.2.2))
 else ((pick (a196.length : Int) s187.2.2).bind fun a199 =>
 ((idx a196 a199.1).bind fun a200 =>
 ((push (s187.1 : (List Int)) a200).bind fun vrowhere201 =>
 ((idx vrowhere201 (-(1 : Int))).bind fun a204 =>
 ((idx vloopshere a204).bind fun a205 =>
 (lete ((s187.2.1 - a205) : Int) fun vleft206 =>
 .ok (false, (vrowhere201, vleft206, a199.2)))))))))))).bind fun (s209 : ((List Int) × Int × Tp)) =>
 ((rng (0 : Int) s209.2.1).bind fun xs212 =>
 ((forS xs212 (s209.1 : ((List Int))) fun x221 s220 =>
 ((idxOf vloopshere (1 : Int)).bind fun a224 =>
 ((push (s220 : (List Int)) a224).bind fun vrowhere225 =>
 .ok vrowhere225))).bind fun (s228 : ((List Int))) =>
 .ok (s228, s209.2.2))))))
theorem t_frow_T_I (vloopshere : (List Int)) (vwait : Int) (T : Tp) : Sim ET (M__law_row [eT vloopshere, eI vwait] T) (frow_T_I vloopshere vwait T) (RT (fun x => VD.val ((eU eI) x))) :=
 t_run (fun r m => (s_seq (s_asg (i := 3) m (q_lst q_nil rfl) (fun _ => rfl) (fun r138 m139 => (s_next (s_seq (s_asg (i := 4) m139 (q_var m139 rfl) (fun _ => rfl) (fun r140 m141 => (s_next (s_seq (s_plugE (plug_asg (plug_op1 plug_id)) (h_defT (Mat.get m141 rfl) (q_cons (Pur.pv q_c) q_nil) rfl (mk := mI) (t_pick _ _) (fun _ => trivial) (fun a142 => (s_asgL (i := 5) m141 (fun vagain143 => VD.val (eB vagain143)) (q_op (op := dEq) (Pur.pd q_cst) (Pur.pd q_c) (q_eq enc_I a142.1 (0 : Int) rfl)) (fun _ _ => rfl) (fun vagain143 r144 m145 => (s_next (s_seq (s_forB (fun (s187 : ((List Int) × Int × Tp)) => [.is .tape, iv (eT vloopshere), iv (eI vwait), io ((eL eI) s187.1), iv (eI s187.2.1), iv (eB vagain143), .free, .any, .free]) (fun s187 => s187.2.2) (([], vwait, a142.2) : ((List Int) × Int × Tp)) rfl (Mat.weak (.keep (.keep (.keep (.keep (.keep (.keep (.keep (.any (.keep .nil))))))))) m145) (q_rngL (q_consT (Pur.pd q_c) q_nil) rfl (by decide)) (e := eI) (ms := (fun x => [(6, eI x)])) (fun _ => rfl) (fun x188 s187 r189 m190 => (s_seq (s_plugE (plug_asg plug_id) (s_lc1 (h_rng (q_consT (Pur.pd (q_call (op := bLenA) (q_consT (Pur.pd (q_var m190 rfl)) q_nil) rfl)) q_nil) rfl (fun xs191 => (h_lcF m190 (.f rfl .nil) q_csti (e := eI) (ms := (fun x => [(8, eI x)])) (fun _ => rfl) (e' := eI) (fun x193 r194 m192 => (s_plugE (plug_xand (plug_xb (plug_op1 plug_id))) (h_op (Pur.pd (q_var m192 rfl)) (Pur.pd (q_var m192 rfl)) (mk := fun x => VD.val (eI x)) p_idxT quit_idx (fun a195 => (t_pure (q_xand (q_xb (Pur.pv (q_op (op := dLe) (Pur.pd q_cst) (Pur.pd (q_var m192 rfl)) (dLe_ii _ _)))) (fun _ => (q_xor (q_xb (Pur.pv (q_var m192 rfl))) (fun _ => (q_xb (Pur.pv (q_op (op := dNinA) (Pur.pd (q_var m192 rfl)) (Pur.pdP (q_varO m192 rfl)) (q_ninL enc_I x193 s187.1 rfl)))))))) (s_fin rfl)))))) (fun x193 r194 m192 => (e_fin (Pur.pv (q_var m192 rfl)) rfl)) (fun a196 => (s_asg (i := 7) m190 q_cst (fun _ => rfl) (fun r197 m198 => (s_next (s_seq (s_sif (t_pure (q_xor (q_xb (Pur.pv (q_op (op := dEq) (Pur.pd (q_call (op := bLenA) (q_consT (Pur.pdP (q_varO m198 rfl)) q_nil) q_lenL)) (Pur.pd q_c) (q_eq enc_I (a196.length : Int) (0 : Int) rfl)))) (fun _ => (q_xb (Pur.pv (q_op (op := dEq) (Pur.pd (q_var m198 rfl)) (Pur.pd q_c) (q_eq enc_I s187.2.1 (0 : Int) rfl)))))) (s_ite (fun _ => (s_brk (x_bkB (Mat.weak (.keep (.keep (.keep (.keep (.keep (.keep (.fv (.any (.keep .nil))))))))) m198) rfl))) (fun _ => (s_pass (s_next (s_seq (s_dropM (s_plugE (plug_mut (i := 3) m198 rfl rfl (plug_c1 (plug_op2 (Pur.pdP (q_varO m198 rfl)) plug_id))) (h_defT (Mat.get m198 rfl) (q_cons (Pur.pv (q_call (op := bLenA) (q_consT (Pur.pdP (q_varO m198 rfl)) q_nil) q_lenL)) q_nil) rfl (mk := mI) (t_pick _ _) (fun _ => trivial) (fun a199 => (s_plugE (plug_mut (i := 3) m198 rfl rfl (plug_c1 plug_id)) (h_op (Pur.pdP (q_varO m198 rfl)) (Pur.pd q_cst) (mk := fun x => VD.val (eI x)) p_idxL quit_idx (fun a200 => (m_mut (i := 3) m198 rfl rfl (q_cons (Pur.pv q_cst) q_nil) (dn := (eL eI)) (xv := fun _ => D.non) (p_push (e := eI)) quit_push (fun vrowhere201 r202 m203 => (s_next (s_plugE (plug_asg (plug_op2 (Pur.pd (q_var m203 rfl)) (plug_op2 (Pur.pd (q_var m203 rfl)) plug_id))) (h_op (Pur.pdP (q_varO m203 rfl)) (Pur.pd (q_un (op := dNeg) (Pur.pd q_c) rfl)) (mk := fun x => VD.val (eI x)) p_idxL quit_idx (fun a204 => (s_plugE (plug_asg (plug_op2 (Pur.pd (q_var m203 rfl)) plug_id)) (h_op (Pur.pd (q_var m203 rfl)) (Pur.pd q_cst) (mk := fun x => VD.val (eI x)) p_idxT quit_idx (fun a205 => (s_asgL (i := 4) m203 (fun vleft206 => VD.val (eI vleft206)) (q_op (op := dSub) (Pur.pd (q_var m203 rfl)) (Pur.pd q_cst) rfl) (fun _ _ => rfl) (fun vleft206 r207 m208 => (x_nxB (Mat.weak (.keep (.keep (.keep (.keep (.keep (.keep (.fv (.any (.keep .nil))))))))) m208) rfl)))))))))))))))))))))))))))))))))))))) (fun s209 r210 m211 => (s_next (s_seq (s_for1 (h_rng (q_consT (Pur.pd (q_var m211 rfl)) q_nil) rfl (fun xs212 => (s_forS (fun (s220 : ((List Int))) => [.is .tape, iv (eT vloopshere), iv (eI vwait), io ((eL eI) s220), iv (eI s209.2.1), iv (eB vagain143), .free, .any, .free]) (fun _ => s209.2.2) (s209.1 : ((List Int))) rfl (Mat.weak (.keep (.keep (.keep (.keep (.keep (.keep (.keep (.keep (.keep .nil))))))))) m211) q_csti (e := eI) (ms := (fun x => [(6, eI x)])) (fun _ => rfl) (fun x221 s220 r222 m223 => (s_dropM (s_plugE (plug_mut (i := 3) m223 rfl rfl (plug_c1 plug_id)) (h_idx (Pur.pd (q_var m223 rfl)) rfl (Pur.pd q_c) (mk := mI) p_idxOfT quit_idxOf (fun a224 => (m_mut (i := 3) m223 rfl rfl (q_cons (Pur.pv q_cst) q_nil) (dn := (eL eI)) (xv := fun _ => D.non) (p_push (e := eI)) quit_push (fun vrowhere225 r226 m227 => (x_nx (Mat.weak (.keep (.keep (.keep (.keep (.keep (.keep (.fv (.keep (.keep .nil))))))))) m227) rfl)))))))) (fun s228 r229 m230 => (s_next (s_ret (q_call (op := bTuple) (q_consT (Pur.pdP (q_varO m230 rfl)) q_nil) rfl) (fun _ => rfl) (s_fin rfl)))))))))))))))))))))))))))))
noncomputable def frows_T_I (vloopshere : (List Int)) (vbound : Int) (T : Tp) : Rt ((List (List Int)) × Tp) :=
 ((rng (1 : Int) (vbound + (1 : Int))).bind fun xs234 =>
 ((mapT (fun x236 T238 => ((frow_T_I vloopshere x236 T238).bind fun a240 =>
 .ok (a240.1, a240.2))) xs234 T).bind fun a241 =>
 .ok (a241.1, a241.2)))
theorem t_frows_T_I (vloopshere : (List Int)) (vbound : Int) (T : Tp) : Sim ET (M__law_rows [eT vloopshere, eI vbound] T) (frows_T_I vloopshere vbound T) (RT (fun x => VD.val ((eU (eU eI)) x))) :=
 t_run (fun r m => (s_plugE (plug_ret (plug_call (plug_t1 plug_id))) (s_lc1 (h_rng (q_consT (Pur.pd q_c) (q_consT (Pur.pd (q_op (op := dAddA) (Pur.pd (q_var m rfl)) (Pur.pd q_c) rfl)) q_nil)) rfl (fun xs234 => (h_lcT m (.f rfl .nil) q_csti (e := eI) (ms := (fun x => [(3, eI x)])) (fun _ => rfl) (e' := (eU eI)) (fun x236 r237 T238 m235 => (e_plug plug_id (h_defT (Mat.get m235 rfl) (q_cons (Pur.pv (q_var m235 rfl)) (q_cons (Pur.pv (q_var m235 rfl)) q_nil)) rfl (mk := (fun x => VD.val ((eU eI) x))) (t_frow_T_I vloopshere x236 _) (fun _ => trivial) (fun a240 => (e_fin (Pur.pv q_cst) rfl))))) (fun a241 => (s_ret (q_call (op := bTuple) (q_consT (Pur.pdO q_cst) q_nil) rfl) (fun _ => rfl) (s_fin rfl)))))))))
noncomputable def fentries_T_UI (vloopshere : (List Int)) (vrowhere : (List Int)) : Rt (List (Int × Int × Int)) :=
 ((mapR (fun x298 => ((idx vloopshere x298).bind fun a301 =>
 .ok a301)) vrowhere).bind fun a302 =>
 (lete ((a302.sum) : Int) fun vtotal303 =>
 ((forS vrowhere (([], (0 : Int)) : ((List (Int × Int × Int)) × Int)) fun x331 s330 =>
 ((push (s330.1 : (List (Int × Int × Int))) (x331, s330.2, (vtotal303 - s330.2))).bind fun vfound334 =>
 ((idx vloopshere x331).bind fun a337 =>
 (lete ((s330.2 + a337) : Int) fun vgone338 =>
 .ok (vfound334, vgone338))))).bind fun (s341 : ((List (Int × Int × Int)) × Int)) =>
 .ok s341.1)))
theorem t_fentries_T_UI (vloopshere : (List Int)) (vrowhere : (List Int)) : Sim ET (M__law_entries [eT vloopshere, (eU eI) vrowhere] none) (fentries_T_UI vloopshere vrowhere) (RV (fun x => VD.own ((eL (e3 eI eI eI)) x))) :=
 t_run (fun r m => (s_seq (s_plugE (plug_asg (plug_call (plug_t1 plug_id))) (h_lc m (.f rfl .nil) (q_seqJ (Pur.pd (q_var m rfl)) rfl) (e := eI) (ms := (fun x => [(5, eI x)])) (fun _ => rfl) (e' := eI) (fun x298 r299 m297 => (e_plug plug_id (h_op (Pur.pd (q_var m297 rfl)) (Pur.pd (q_var m297 rfl)) (mk := fun x => VD.val (eI x)) p_idxT quit_idx (fun a301 => (e_fin (Pur.pv q_cst) rfl))))) (fun a302 => (s_asgL (i := 2) m (fun vtotal303 => VD.val (eI vtotal303)) (q_call (op := bSumA) (q_consT (Pur.pdO q_cst) q_nil) q_sumL) (fun _ _ => rfl) (fun vtotal303 r304 m305 => (s_next (s_seq (s_asg (i := 3) m305 (q_lst q_nil rfl) (fun _ => rfl) (fun r306 m307 => (s_next (s_seq (s_asg (i := 4) m307 q_c (fun _ => rfl) (fun r308 m309 => (s_next (s_seq (s_forS (fun (s330 : ((List (Int × Int × Int)) × Int)) => [iv (eT vloopshere), iv ((eU eI) vrowhere), iv (eI vtotal303), io ((eL (e3 eI eI eI)) s330.1), iv (eI s330.2), .free]) (fun _ => (none : Tp)) (([], (0 : Int)) : ((List (Int × Int × Int)) × Int)) rfl (Mat.weak (.keep (.keep (.keep (.keep (.keep (.keep .nil)))))) m309) (q_seqI (Pur.pv (q_var m309 rfl)) rfl) (e := eI) (ms := (fun x => [(5, eI x)])) (fun _ => rfl) (fun x331 s330 r332 m333 => (s_frzV m333 rfl (s_seq (s_dropM (m_mut (i := 3) m333 rfl rfl (q_cons (Pur.pv (q_tup (q_cons (Pur.pv (q_var m333 rfl)) (q_cons (Pur.pv (q_var m333 rfl)) (q_cons (Pur.pv (q_op (op := dSub) (Pur.pd (q_var m333 rfl)) (Pur.pd (q_var m333 rfl)) rfl)) q_nil))) rfl)) q_nil) (dn := (eL (e3 eI eI eI))) (xv := fun _ => D.non) (p_push (e := (e3 eI eI eI))) quit_push (fun vfound334 r335 m336 => (s_next (s_plugE (plug_asg (plug_op2 (Pur.pd (q_var m336 rfl)) plug_id)) (h_op (Pur.pd (q_var m336 rfl)) (Pur.pd (q_var m336 rfl)) (mk := fun x => VD.val (eI x)) p_idxT quit_idx (fun a337 => (s_asgL (i := 4) m336 (fun vgone338 => VD.val (eI vgone338)) (q_op (op := dAddA) (Pur.pd (q_var m336 rfl)) (Pur.pd q_cst) rfl) (fun _ _ => rfl) (fun vgone338 r339 m340 => (x_nx (Mat.weak (.keep (.keep (.keep (.keep (.keep (.fv .nil)))))) m340) rfl))))))))))))) (fun s341 r342 m343 => (s_next (s_retV m343 rfl (fun _ => rfl) (s_fin rfl))))))))))))))))))))))
noncomputable def pisinteger (vthing : Int) : Rt Bool :=
 .ok (true && (!false))
theorem t_pisinteger (vthing : Int) : Sim ET (M_is_integer [eI vthing] none) (pisinteger vthing) (RV (fun x => VD.val (eB x))) :=
 t_run (fun r m => (s_ret (q_and (Pur.pv (q_un (op := (dIsi [] .int)) (Pur.pd (q_var m rfl)) rfl)) (fun _ => (q_not (Pur.pv (q_un (op := (dIsi [] .bool)) (Pur.pd (q_var m rfl)) rfl))))) (fun _ => rfl) (s_fin rfl)))
noncomputable def piswithin (vthing : Int) (vleast : Int) (vmost : Int) : Rt Bool :=
 ((pisinteger vthing).bind fun a415 =>
 .ok (a415 && ((decide (vleast ≤ vthing)) && (decide (vthing ≤ vmost)))))
theorem t_piswithin (vthing : Int) (vleast : Int) (vmost : Int) : Sim ET (M_is_within [eI vthing, eI vleast, eI vmost] none) (piswithin vthing vleast vmost) (RV (fun x => VD.val (eB x))) :=
 t_run (fun r m => (s_plugE (plug_ret (plug_and plug_id)) (h_def (q_cons (Pur.pv (q_var m rfl)) q_nil) rfl (mk := (fun x => VD.val (eB x))) (t_pisinteger vthing) trivial (fun a415 => (s_ret (q_and (Pur.pv q_cst) (fun _ => (q_chain (op := dLe) (op' := dLe) (Pur.pd (q_var m rfl)) (Pur.pd (q_var m rfl)) (Pur.pd (q_var m rfl)) (dLe_ii _ _) (dLe_ii _ _)))) (fun _ => rfl) (s_fin rfl))))))
noncomputable def parewithin_T_I_I_I (vthing : (List Int)) (vmost : Int) (vleast : Int) (vgreatest : Int) : Rt Bool :=
 (if ((!true) || (decide ((vthing.length : Int) > vmost))) = true then
 .ok false
 else ((mapR (fun x420 => ((piswithin x420 vleast vgreatest).bind fun a423 =>
 .ok a423)) vthing).bind fun a424 =>
 .ok (a424.all id)))
theorem t_parewithin_T_I_I_I (vthing : (List Int)) (vmost : Int) (vleast : Int) (vgreatest : Int) : Sim ET (M_are_within [eT vthing, eI vmost, eI vleast, eI vgreatest] none) (parewithin_T_I_I_I vthing vmost vleast vgreatest) (RV (fun x => VD.val (eB x))) :=
 t_run (fun r m => (s_seq (s_sif (t_pure (q_xor (q_xnot (q_xb (Pur.pv (q_un (op := (dIsi [] .tuple)) (Pur.pd (q_var m rfl)) rfl)))) (fun _ => (q_xb (Pur.pv (q_op (op := dGt) (Pur.pd (q_call (op := bLenA) (q_consT (Pur.pd (q_var m rfl)) q_nil) rfl)) (Pur.pd (q_var m rfl)) (dGt_ii _ _)))))) (s_ite (fun _ => (s_ret q_c (fun _ => rfl) (s_fin rfl))) (fun _ => (s_pass (s_next (s_plugE (plug_ret (plug_call (plug_t1 plug_id))) (h_lc m (.f rfl .nil) (q_seqJ (Pur.pd (q_var m rfl)) rfl) (e := eI) (ms := (fun x => [(4, eI x)])) (fun _ => rfl) (e' := eB) (fun x420 r421 m419 => (e_plug plug_id (h_def (q_cons (Pur.pv (q_var m419 rfl)) (q_cons (Pur.pv (q_var m419 rfl)) (q_cons (Pur.pv (q_var m419 rfl)) q_nil))) rfl (mk := (fun x => VD.val (eB x))) (t_piswithin x420 vleast vgreatest) trivial (fun a423 => (e_fin (Pur.pv q_cst) rfl))))) (fun a424 => (s_ret (q_call (op := bAll) (q_consT (Pur.pdO q_cst) q_nil) q_allL) (fun _ => rfl) (s_fin rfl)))))))))))))
noncomputable def pisloops_T (vthing : (List Int)) : Rt Bool :=
 ((parewithin_T_I_I_I vthing (8 : Int) (1 : Int) (40 : Int)).bind fun a426 =>
 .ok (a426 && (decide ((vthing.length : Int) > (0 : Int)))))
theorem t_pisloops_T (vthing : (List Int)) : Sim ET (M_is_loops [eT vthing] none) (pisloops_T vthing) (RV (fun x => VD.val (eB x))) :=
 t_run (fun r m => (s_plugE (plug_ret (plug_and plug_id)) (h_def (q_cons (Pur.pv (q_var m rfl)) (q_cons (Pur.pv q_c) (q_cons (Pur.pv q_c) (q_cons (Pur.pv q_c) q_nil)))) rfl (mk := (fun x => VD.val (eB x))) (t_parewithin_T_I_I_I vthing (8 : Int) (1 : Int) (40 : Int)) trivial (fun a426 => (s_ret (q_and (Pur.pv q_cst) (fun _ => (q_op (op := dGt) (Pur.pd (q_call (op := bLenA) (q_consT (Pur.pd (q_var m rfl)) q_nil) rfl)) (Pur.pd q_c) (dGt_ii _ _)))) (fun _ => rfl) (s_fin rfl))))))
noncomputable def parewithin_UI_I_I_I (vthing : (List Int)) (vmost : Int) (vleast : Int) (vgreatest : Int) : Rt Bool :=
 (if ((!true) || (decide ((vthing.length : Int) > vmost))) = true then
 .ok false
 else ((mapR (fun x438 => ((piswithin x438 vleast vgreatest).bind fun a441 =>
 .ok a441)) vthing).bind fun a442 =>
 .ok (a442.all id)))
theorem t_parewithin_UI_I_I_I (vthing : (List Int)) (vmost : Int) (vleast : Int) (vgreatest : Int) : Sim ET (M_are_within [(eU eI) vthing, eI vmost, eI vleast, eI vgreatest] none) (parewithin_UI_I_I_I vthing vmost vleast vgreatest) (RV (fun x => VD.val (eB x))) :=
 t_run (fun r m => (s_seq (s_sif (t_pure (q_xor (q_xnot (q_xb (Pur.pv (q_un (op := (dIsi [] .tuple)) (Pur.pd (q_var m rfl)) rfl)))) (fun _ => (q_xb (Pur.pv (q_op (op := dGt) (Pur.pd (q_call (op := bLenA) (q_consT (Pur.pd (q_var m rfl)) q_nil) q_lenU)) (Pur.pd (q_var m rfl)) (dGt_ii _ _)))))) (s_ite (fun _ => (s_ret q_c (fun _ => rfl) (s_fin rfl))) (fun _ => (s_pass (s_next (s_plugE (plug_ret (plug_call (plug_t1 plug_id))) (h_lc m (.f rfl .nil) (q_seqJ (Pur.pd (q_var m rfl)) rfl) (e := eI) (ms := (fun x => [(4, eI x)])) (fun _ => rfl) (e' := eB) (fun x438 r439 m437 => (e_plug plug_id (h_def (q_cons (Pur.pv (q_var m437 rfl)) (q_cons (Pur.pv (q_var m437 rfl)) (q_cons (Pur.pv (q_var m437 rfl)) q_nil))) rfl (mk := (fun x => VD.val (eB x))) (t_piswithin x438 vleast vgreatest) trivial (fun a441 => (e_fin (Pur.pv q_cst) rfl))))) (fun a442 => (s_ret (q_call (op := bAll) (q_consT (Pur.pdO q_cst) q_nil) q_allL) (fun _ => rfl) (s_fin rfl)))))))))))))
noncomputable def pisrow_T_UI (vloops : (List Int)) (vthing : (List Int)) : Rt Bool :=
 ((parewithin_UI_I_I_I vthing (60 : Int) (0 : Int) ((vloops.length : Int) - (1 : Int))).bind fun a444 =>
 .ok a444)
theorem t_pisrow_T_UI (vloops : (List Int)) (vthing : (List Int)) : Sim ET (M_is_row [eT vloops, (eU eI) vthing] none) (pisrow_T_UI vloops vthing) (RV (fun x => VD.val (eB x))) :=
 t_run (fun r m => (s_plugE (plug_ret plug_id) (h_def (q_cons (Pur.pv (q_var m rfl)) (q_cons (Pur.pv q_c) (q_cons (Pur.pv q_c) (q_cons (Pur.pv (q_op (op := dSub) (Pur.pd (q_call (op := bLenA) (q_consT (Pur.pd (q_var m rfl)) q_nil) rfl)) (Pur.pd q_c) rfl)) q_nil)))) rfl (mk := (fun x => VD.val (eB x))) (t_parewithin_UI_I_I_I vthing (60 : Int) (0 : Int) ((vloops.length : Int) - (1 : Int))) trivial (fun a444 => (s_ret q_cst (fun _ => rfl) (s_fin rfl))))))
noncomputable def psumof_T_UI (vloops : (List Int)) (vrow : (List Int)) : Rt Int :=
 ((mapR (fun x453 => ((idx vloops x453).bind fun a456 =>
 .ok a456)) vrow).bind fun a457 =>
 .ok (a457.sum))
theorem t_psumof_T_UI (vloops : (List Int)) (vrow : (List Int)) : Sim ET (M_sum_of [eT vloops, (eU eI) vrow] none) (psumof_T_UI vloops vrow) (RV (fun x => VD.val (eI x))) :=
 t_run (fun r m => (s_plugE (plug_ret (plug_call (plug_t1 plug_id))) (h_lc m (.f rfl .nil) (q_seqJ (Pur.pd (q_var m rfl)) rfl) (e := eI) (ms := (fun x => [(2, eI x)])) (fun _ => rfl) (e' := eI) (fun x453 r454 m452 => (e_plug plug_id (h_op (Pur.pd (q_var m452 rfl)) (Pur.pd (q_var m452 rfl)) (mk := fun x => VD.val (eI x)) p_idxT quit_idx (fun a456 => (e_fin (Pur.pv q_cst) rfl))))) (fun a457 => (s_ret (q_call (op := bSumA) (q_consT (Pur.pdO q_cst) q_nil) q_sumL) (fun _ => rfl) (s_fin rfl))))))
noncomputable def pentriesof_T_UI (vloops : (List Int)) (vrow : (List Int)) : Rt (List (Int × Int × Int)) :=
 ((psumof_T_UI vloops vrow).bind fun a526 =>
 ((forS vrow ((a526, (0 : Int), []) : (Int × Int × (List (Int × Int × Int)))) fun x562 s561 =>
 ((push (s561.2.2 : (List (Int × Int × Int))) (x562, s561.2.1, s561.1)).bind fun vfound565 =>
 ((idx vloops x562).bind fun a568 =>
 (lete ((s561.2.1 + a568) : Int) fun vgone569 =>
 ((idx vloops x562).bind fun a572 =>
 (lete ((s561.1 - a572) : Int) fun vleft573 =>
 .ok (vleft573, vgone569, vfound565))))))).bind fun (s576 : (Int × Int × (List (Int × Int × Int)))) =>
 .ok s576.2.2))
theorem t_pentriesof_T_UI (vloops : (List Int)) (vrow : (List Int)) : Sim ET (M_entries_of [eT vloops, (eU eI) vrow] none) (pentriesof_T_UI vloops vrow) (RV (fun x => VD.own ((eL (e3 eI eI eI)) x))) :=
 t_run (fun r m => (s_seq (s_plugE (plug_asg plug_id) (h_def (q_cons (Pur.pv (q_var m rfl)) (q_cons (Pur.pv (q_var m rfl)) q_nil)) rfl (mk := (fun x => VD.val (eI x))) (t_psumof_T_UI vloops vrow) trivial (fun a526 => (s_asg (i := 2) m q_cst (fun _ => rfl) (fun r527 m528 => (s_next (s_seq (s_asg (i := 3) m528 q_c (fun _ => rfl) (fun r529 m530 => (s_next (s_seq (s_asg (i := 4) m530 (q_lst q_nil rfl) (fun _ => rfl) (fun r531 m532 => (s_next (s_seq (s_forS (fun (s561 : (Int × Int × (List (Int × Int × Int)))) => [iv (eT vloops), iv ((eU eI) vrow), iv (eI s561.1), iv (eI s561.2.1), io ((eL (e3 eI eI eI)) s561.2.2), .free]) (fun _ => (none : Tp)) ((a526, (0 : Int), []) : (Int × Int × (List (Int × Int × Int)))) rfl (Mat.weak (.keep (.keep (.keep (.keep (.keep (.keep .nil)))))) m532) (q_seqI (Pur.pv (q_var m532 rfl)) rfl) (e := eI) (ms := (fun x => [(5, eI x)])) (fun _ => rfl) (fun x562 s561 r563 m564 => (s_seq (s_dropM (m_mut (i := 4) m564 rfl rfl (q_cons (Pur.pv (q_tup (q_cons (Pur.pv (q_var m564 rfl)) (q_cons (Pur.pv (q_var m564 rfl)) (q_cons (Pur.pv (q_var m564 rfl)) q_nil))) rfl)) q_nil) (dn := (eL (e3 eI eI eI))) (xv := fun _ => D.non) (p_push (e := (e3 eI eI eI))) quit_push (fun vfound565 r566 m567 => (s_next (s_seq (s_plugE (plug_aug m567 rfl plug_id) (h_op (Pur.pd (q_var m567 rfl)) (Pur.pd (q_var m567 rfl)) (mk := fun x => VD.val (eI x)) p_idxT quit_idx (fun a568 => (s_augL (i := 3) (op := dAddZ) m567 (fun vgone569 => VD.val (eI vgone569)) rfl (Pur.pd q_cst) rfl (fun _ _ => rfl) (fun vgone569 r570 m571 => (s_next (s_plugE (plug_aug m571 rfl plug_id) (h_op (Pur.pd (q_var m571 rfl)) (Pur.pd (q_var m571 rfl)) (mk := fun x => VD.val (eI x)) p_idxT quit_idx (fun a572 => (s_augL (i := 2) (op := dSub) m571 (fun vleft573 => VD.val (eI vleft573)) rfl (Pur.pd q_cst) rfl (fun _ _ => rfl) (fun vleft573 r574 m575 => (x_nx (Mat.weak (.keep (.keep (.keep (.keep (.keep (.fv .nil)))))) m575) rfl))))))))))))))))))) (fun s576 r577 m578 => (s_next (s_retV m578 rfl (fun _ => rfl) (s_fin rfl))))))))))))))))))))))
structure Table where
  vloops : (List Int)
  vrows : (List (List Int))
  vbound : Int
  vkeptentries : (List (List (Int × Int × Int)))
def fsTable (x : Table) : List (PySem.Str × D) := [("loops", eT x.vloops), ("rows", (eU (eU eI)) x.vrows), ("bound", eI x.vbound), ("kept_entries", (eL (eL (e3 eI eI eI))) x.vkeptentries)]
abbrev eTable (x : Table) : D := .ins "Table" (fsTable x)
theorem at_Table_vloops (x : Table) : dAt ["Table"] "loops" (eTable x) = .ok (.val (eT x.vloops)) := by rfl
theorem at_Table_vrows (x : Table) : dAt ["Table"] "rows" (eTable x) = .ok (.val ((eU (eU eI)) x.vrows)) := by rfl
theorem at_Table_vbound (x : Table) : dAt ["Table"] "bound" (eTable x) = .ok (.val (eI x.vbound)) := by rfl
theorem at_Table_vkeptentries (x : Table) : dAt ["Table"] "kept_entries" (eTable x) = .ok (.val ((eL (eL (e3 eI eI eI))) x.vkeptentries)) := by rfl
theorem insD_Table {m : PySem.Str} (x : Table) (h : (fsTable x).lookup m = none) : insD "Table" m (eTable x) = .ok (eTable x) := by show insD "Table" m (.ins "Table" _) = _; rw [insD_ins, if_pos h]
noncomputable def pTableinit_T_UUI (vloops : (List Int)) (vrows : (List (List Int))) : Rt Table :=
 ((pisloops_T vloops).bind fun a583 =>
 (if (!a583) = true then
 .stuck
 else (if ((!true) || (!((decide ((1 : Int) ≤ (vrows.length : Int))) && (decide ((vrows.length : Int) ≤ (60 : Int)))))) = true then
 .stuck
 else ((forS (enuL 0 vrows) (() : Unit) fun x591 s590 =>
 ((pisrow_T_UI vloops x591.2).bind fun a594 =>
 (((if (!a594) = true then .ok true else ((psumof_T_UI vloops x591.2).bind fun a595 =>
 .ok (!decide (a595 = (x591.1 + (1 : Int))))))).bind fun b596 =>
 (if b596 = true then
 .stuck
 else .ok ())))).bind fun (s597 : Unit) =>
 ((mapR (fun x601 => ((pentriesof_T_UI vloops x601).bind fun a604 =>
 .ok a604)) vrows).bind fun a605 =>
 ((cat [[]] a605).bind fun a606 =>
 .ok (⟨vloops, vrows, (vrows.length : Int), a606⟩ : Table)))))))
theorem t_pTableinit_T_UUI (vloops : (List Int)) (vrows : (List (List Int))) : Sim ET (M_Table___init__ [eT vloops, (eU (eU eI)) vrows] (some (D.ins "Table" []))) (pTableinit_T_UUI vloops vrows) (RI "Table" fsTable) :=
 t_run (fun r m => (s_seq (s_sif (s_plugE (plug_xnot (plug_xb plug_id)) (h_def (q_cons (Pur.pv (q_var m rfl)) q_nil) rfl (mk := (fun x => VD.val (eB x))) (t_pisloops_T vloops) trivial (fun a583 => (t_pure (q_xnot (q_xb (Pur.pv q_cst))) (s_ite (fun _ => trivial) (fun _ => (s_pass (s_next (s_seq (s_sif (t_pure (q_xor (q_xnot (q_xb (Pur.pv (q_un (op := (dIsi [] .tuple)) (Pur.pd (q_var m rfl)) rfl)))) (fun _ => (q_xnot (q_xb (Pur.pv (q_chain (op := dLe) (op' := dLe) (Pur.pd q_c) (Pur.pd (q_call (op := bLenA) (q_consT (Pur.pd (q_var m rfl)) q_nil) q_lenU)) (Pur.pd q_c) (dLe_ii _ _) (dLe_ii _ _))))))) (s_ite (fun _ => trivial) (fun _ => (s_pass (s_next (s_seq (s_forS (fun (s590 : Unit) => [.is .tape, iv (eT vloops), iv ((eU (eU eI)) vrows), .free, .free]) (fun _ => (some (D.ins "Table" []))) (() : Unit) rfl (Mat.weak (.keep (.keep (.keep (.keep (.keep .nil))))) m) (q_enI (e := (eU eI)) (Pur.pv (q_var m rfl)) rfl) (e := (e2 eI (eU eI))) (ms := (fun x => [(3, eI x.1), (4, (eU eI) x.2)])) (fun _ => rfl) (fun x591 s590 r592 m593 => (s_sif (s_plugE (plug_xor (plug_xnot (plug_xb plug_id))) (h_def (q_cons (Pur.pv (q_var m593 rfl)) (q_cons (Pur.pv (q_var m593 rfl)) q_nil)) rfl (mk := (fun x => VD.val (eB x))) (t_pisrow_T_UI vloops x591.2) trivial (fun a594 => (tt_or (q_xnot (q_xb (Pur.pv q_cst))) (fun _ => (s_plugE (plug_xb (plug_op1 plug_id)) (h_def (q_cons (Pur.pv (q_var m593 rfl)) (q_cons (Pur.pv (q_var m593 rfl)) q_nil)) rfl (mk := (fun x => VD.val (eI x))) (t_psumof_T_UI vloops x591.2) trivial (fun a595 => (t_pure (q_xb (Pur.pv (q_op (op := dNe) (Pur.pd q_cst) (Pur.pd (q_op (op := dAddA) (Pur.pd (q_var m593 rfl)) (Pur.pd q_c) rfl)) (q_ne enc_I a595 (x591.1 + (1 : Int)) rfl)))) (s_fin rfl)))))) (fun b596 => (s_ite (fun _ => trivial) (fun _ => (s_pass (x_nx (Mat.weak (.keep (.keep (.keep (.fv (.fv .nil))))) m593) rfl))))))))))) (fun s597 r598 m599 => (s_next (s_seq (s_tfld (c := "Table") (fs := []) (Mat.get m599 rfl) (Pur.pv (q_var m599 rfl)) (by decide) rfl (by rfl) (s_next (s_seq (s_tfld (c := "Table") (fs := [("loops", eT vloops)]) (Mat.get m599 rfl) (Pur.pv (q_var m599 rfl)) (by decide) rfl (by rfl) (s_next (s_seq (s_tfld (c := "Table") (fs := [("loops", eT vloops), ("rows", (eU (eU eI)) vrows)]) (Mat.get m599 rfl) (Pur.pv (q_call (op := bLenA) (q_consT (Pur.pd (q_var m599 rfl)) q_nil) q_lenU)) (by decide) rfl (by rfl) (s_next (s_plugE (plug_tfld (plug_op2 (Pur.pdO (q_lst (q_cons (Pur.pvO (q_lst q_nil rfl)) q_nil) rfl)) plug_id)) (h_lc m599 (.f rfl .nil) (q_seqJ (Pur.pd (q_var m599 rfl)) rfl) (e := (eU eI)) (ms := (fun x => [(4, (eU eI) x)])) (fun _ => rfl) (e' := (eL (e3 eI eI eI))) (fun x601 r602 m600 => (e_plug plug_id (h_def (q_cons (Pur.pv (q_var m600 rfl)) (q_cons (Pur.pv (q_var m600 rfl)) q_nil)) rfl (mk := (fun x => VD.own ((eL (e3 eI eI eI)) x))) (t_pentriesof_T_UI vloops x601) trivial (fun a604 => (e_fin (Pur.pvO q_cst) rfl))))) (fun a605 => (s_plugE (plug_tfld plug_id) (h_op (Pur.pdO (q_lst (q_cons (Pur.pvO (q_lst q_nil rfl)) q_nil) rfl)) (Pur.pdO q_cst) (mk := (fun x => VD.own ((eL (eL (e3 eI eI eI))) x))) p_catL quit_cat (fun a606 => (s_tfld (c := "Table") (fs := [("loops", eT vloops), ("rows", (eU (eU eI)) vrows), ("bound", eI (vrows.length : Int))]) (Mat.get m599 rfl) (Pur.pvO q_cst) (by decide) rfl (by rfl) (s_fin rfl)))))))))))))))))))))))))))))))))))))))
noncomputable def pTableentriesat (vself : Table) (vwait : Int) : Rt (List (Int × Int × Int)) :=
 ((idx vself.vkeptentries vwait).bind fun a619 =>
 .ok a619)
theorem t_pTableentriesat (vself : Table) (vwait : Int) : Sim ET (M_Table_entries_at [eTable vself, eI vwait] none) (pTableentriesat vself vwait) (RV (fun x => VD.val ((eL (e3 eI eI eI)) x))) :=
 t_run (fun r m => (s_plugE (plug_ret plug_id) (h_op (Pur.pd (q_un (op := dAt ["Table"] "kept_entries") (Pur.pd (q_var m rfl)) (at_Table_vkeptentries _))) (Pur.pd (q_var m rfl)) (mk := fun x => VD.val ((eL (e3 eI eI eI)) x)) p_idxL quit_idx (fun a619 => (s_ret q_cst (fun _ => rfl) (s_fin rfl))))))
noncomputable def pentries (vtable : Table) : Rt (List (Int × Int × Int)) :=
 ((rng (1 : Int) (vtable.vbound + (1 : Int))).bind fun xs689 =>
 ((forS xs689 ([] : ((List ((Int × Int × Int) × Bool)))) fun x737 s736 =>
 ((pTableentriesat vtable x737).bind fun a740 =>
 ((forS a740 (s736 : ((List ((Int × Int × Int) × Bool)))) fun x748 s747 =>
 ((dputR (s747 : (List ((Int × Int × Int) × Bool))) x748 true).bind fun vfound751 =>
 .ok vfound751)).bind fun (s754 : ((List ((Int × Int × Int) × Bool)))) =>
 .ok s754))).bind fun (s757 : ((List ((Int × Int × Int) × Bool)))) =>
 .ok (srt (ltP ltI (ltP ltI ltI)) (akeys s757))))
theorem t_pentries (vtable : Table) : Sim ET (M_entries [eTable vtable] none) (pentries vtable) (RV (fun x => VD.own ((eL (e3 eI eI eI)) x))) :=
 t_run (fun r m => (s_seq (s_asg (i := 1) m q_dct (fun _ => rfl) (fun r687 m688 => (s_next (s_seq (s_for1 (h_rng (q_consT (Pur.pd q_c) (q_consT (Pur.pd (q_op (op := dAddA) (Pur.pd (q_un (op := dAt ["Table"] "bound") (Pur.pd (q_var m688 rfl)) (at_Table_vbound _))) (Pur.pd q_c) rfl)) q_nil)) rfl (fun xs689 => (s_forS (fun (s736 : ((List ((Int × Int × Int) × Bool)))) => [iv (eTable vtable), io ((eK true (e3 eI eI eI) eB) s736), .free, .free]) (fun _ => (none : Tp)) ([] : ((List ((Int × Int × Int) × Bool)))) rfl (Mat.weak (.keep (.keep (.keep (.keep .nil)))) m688) q_csti (e := eI) (ms := (fun x => [(2, eI x)])) (fun _ => rfl) (fun x737 s736 r738 m739 => (s_plugE (plug_for (plug_seqI plug_id)) (h_meth (Pur.pv (q_var m739 rfl)) (insD_Table _ (by rfl)) (q_cons (Pur.pv (q_var m739 rfl)) q_nil) rfl (mk := (fun x => VD.val ((eL (e3 eI eI eI)) x))) (t_pTableentriesat vtable x737) trivial (fun a740 => (s_forS (fun (s747 : ((List ((Int × Int × Int) × Bool)))) => [iv (eTable vtable), io ((eK true (e3 eI eI eI) eB) s747), iv (eI x737), .free]) (fun _ => (none : Tp)) (s736 : ((List ((Int × Int × Int) × Bool)))) rfl (Mat.weak (.keep (.keep (.keep (.keep .nil)))) m739) (q_seqI (Pur.pv q_cst) rfl) (e := (e3 eI eI eI)) (ms := (fun x => [(3, (e3 eI eI eI) x)])) (fun _ => rfl) (fun x748 s747 r749 m750 => (s_setI (i := 1) m750 rfl (Pur.pv q_c) (Pur.pd (q_var m750 rfl)) (dn := (eK true (e3 eI eI eI) eB)) (p_dput (f := eB) key_3) quit_dputR (fun vfound751 r752 m753 => (x_nx (Mat.weak (.keep (.keep (.keep (.fv .nil)))) m753) rfl)))) (fun s754 r755 m756 => (x_nx (Mat.weak (.keep (.keep (.fv (.keep .nil)))) m756) rfl))))))) (fun s757 r758 m759 => (s_next (s_ret (q_call (op := bSorted) (q_consT (Pur.pdO (q_call (op := bListA) (q_consT (Pur.pdP (q_varO m759 rfl)) q_nil) (q_keysT (fun _ => rfl)))) q_nil) (q_srt (ord_3 ord_I ord_I ord_I lin_I) shp_3 _ rfl)) (fun _ => rfl) (s_fin rfl))))))))))))))
noncomputable def gr_law : DS := (sSeq (sAsg 2 (eDefT 1 3 M__law_loops (aCons (eC (.int 5)) (aCons (eC (.int 6)) aNil))))
 (sSeq (sAsg 3 (eDefT 1 3 M__law_rows (aCons (eVar 2) (aCons (eOp dAddA (eC (.int 1)) (eDefT 1 2 M__law_pick (aCons (eC (.int 12)) aNil))) aNil))))
 (sSeq (sAsg 4 (eLst aNil))
 (sSeq (sFor (iSeq (eVar 3)) (gN 5)
 (sFor (iSeq (eDef 2 M__law_entries (aCons (eVar 2) (aCons (eVar 5) aNil)))) (gN 6)
 (sIf (xB (eOp dNinA (eVar 6) (eVar 4)))
 (sDropM (eMut 4 isLst mAppend (aCons (eVar 6) aNil)))
 sPass)))
 (sSeq (sAsg 7 (eMake "Table" 3 M_Table___init__ (aCons (eVar 2) (aCons (eVar 3) aNil))))
 (sFrz 7 (sSeq (sAsg 8 (eDef 1 M_entries (aCons (eVar 7) aNil)))
 (sSeq (sIf (xOr (xB (eOp dNe (eVar 8) (eCall bSorted (aConsT (eVar 4) aNil)))) (xNot (xB (eUn (dIsi [] .list) (eVar 8)))))
 (sRet (eC (.bl false)))
 sPass)
 (sSeq (sFor (oSeq 8) (gN 6)
 (sIf (xOr (xNot (xB (eUn (dIsi [] .tuple) (eVar 6)))) (xB (eOp dGt (eCall bLenA (aConsT (eLc [14] (jSeq (eVar 6)) (gN 14) (xB (eUn (dIsi [] .bool) (eVar 14))) (eVar 14)) aNil)) (eC (.int 0))))) (sRet (eC (.bl false))) sPass))
 (sSeq (sFor (iRng (aConsT (eC (.int 1)) (aConsT (eOp dAddA (eCall bLenA (aConsT (eVar 3) aNil)) (eC (.int 1))) aNil))) (gN 9)
 (sSeq (sAsg 10 (eCall bSorted (aConsT (eLc [11, 12, 13] (jSeq (eVar 8)) (gT 3 [(gN 11), (gN 12), (gN 13)]) (xB (eOp dEq (eOp dAddA (eVar 12) (eVar 13)) (eVar 9))) (eTup (aCons (eVar 12) (aCons (eVar 11) aNil)))) aNil)))
 (sIf (xB (eOp dNe (eCall bTuple (aConsT (eLc [12, 11] (jSeq (eVar 10)) (gT 2 [(gN 12), (gN 11)]) xYes (eVar 11)) aNil)) (eOp dIxA (eVar 3) (eOp dSub (eVar 9) (eC (.int 1))))))
 (sRet (eC (.bl false)))
 sPass)))
 (sSeq (sDropM (eMut 8 isLst mAppend (aCons (eTup (aCons (eC (.int 0)) (aCons (eC (.int 0)) (aCons (eC (.int 0)) aNil)))) aNil)))
 (sFrz 7 (sRet (eOp dEq (eDef 1 M_entries (aCons (eVar 7) aNil)) (eCall bSorted (aConsT (eVar 4) aNil))))))))))))))))
noncomputable def flaw (sc : List Int) (T : Tp) : Rt (Bool × Tp) :=
 ((floops (5 : Int) (6 : Int) T).bind fun a36 =>
 ((pick (12 : Int) a36.2).bind fun a39 =>
 ((frows_T_I a36.1 ((1 : Int) + a39.1) a39.2).bind fun a242 =>
 ((forS a242.1 ([] : ((List (Int × Int × Int)))) fun x388 s387 =>
 ((fentries_T_UI a36.1 x388).bind fun a391 =>
 ((forS a391 (s387 : ((List (Int × Int × Int)))) fun x399 s398 =>
 (if (!memB x399 s398) = true then
 ((push (s398 : (List (Int × Int × Int))) x399).bind fun vdue402 =>
 .ok vdue402)
 else .ok s398)).bind fun (s405 : ((List (Int × Int × Int)))) =>
 .ok s405))).bind fun (s408 : ((List (Int × Int × Int)))) =>
 ((pTableinit_T_UUI a36.1 a242.1).bind fun a607 =>
 ((pentries a607).bind fun a760 =>
 (if ((!decide (a760 = (srt (ltP ltI (ltP ltI ltI)) s408))) || (!true)) = true then
 .ok (false, a242.2)
 else ((forR (P := Bool) a760 (() : Unit) fun x770 s769 =>
 (if ((!true) || (decide (((([x770.1, x770.2.1, x770.2.2].filter fun x774 => false).map fun x774 => x774).length : Int) > (0 : Int)))) = true then
 .ok (.rt false)
 else .ok (.nx ()))).bind fun o => match o with
 | .inl s776 => ((rng (1 : Int) ((a242.1.length : Int) + (1 : Int))).bind fun xs780 =>
 ((forR (P := Bool) xs780 (() : Unit) fun x807 s806 =>
 (lete ((srt (ltP ltI ltI) ((a760.filter fun x811 => (decide ((x811.2.1 + x811.2.2) = x807))).map fun x811 => (x811.2.1, x811.1))) : (List (Int × Int))) fun vmine813 =>
 ((idx a242.1 (x807 - (1 : Int))).bind fun a819 =>
 (if (!decide ((vmine813.map fun x817 => x817.2) = a819)) = true then
 .ok (.rt false)
 else .ok (.nx ()))))).bind fun o => match o with
 | .inl s820 => ((push (a760 : (List (Int × Int × Int))) ((0 : Int), (0 : Int), (0 : Int))).bind fun vtold824 =>
 ((pentries a607).bind fun a827 =>
 .ok ((decide (a827 = (srt (ltP ltI (ltP ltI ltI)) s408))), a242.2)))
 | .inr v823 => .ok (v823, a242.2)))
 | .inr v779 => .ok (v779, a242.2)))))))))
theorem t_flaw (sc : List Int) (T : Tp) (r : Pu.Env) (m : Mat [iv (eScr sc), .is .tape, .free, .free, .free, .free, .free, .free, .free, .free, .free, .free, .free, .free, .free] r) : Sim ET ((gr_law r T).bind endK) (flaw sc T) (RT (fun x => VD.val (eB x))) :=
 (s_seq (s_plugE (plug_asg plug_id) (h_defT (Mat.get m rfl) (q_cons (Pur.pv q_c) (q_cons (Pur.pv q_c) q_nil)) rfl (mk := (fun x => VD.val (eT x))) (t_floops (5 : Int) (6 : Int) _) (fun _ => trivial) (fun a36 => (s_asg (i := 2) m q_cst (fun _ => rfl) (fun r37 m38 => (s_next (s_seq (s_plugE (plug_asg (plug_defT (Mat.get m38 rfl) (plug_c2 (Pur.pv (q_var m38 rfl)) (plug_c1 (plug_op2 (Pur.pd q_c) plug_id))))) (h_defT (Mat.get m38 rfl) (q_cons (Pur.pv q_c) q_nil) rfl (mk := mI) (t_pick _ _) (fun _ => trivial) (fun a39 => (s_plugE (plug_asg plug_id) (h_defT (Mat.get m38 rfl) (q_cons (Pur.pv (q_var m38 rfl)) (q_cons (Pur.pv (q_op (op := dAddA) (Pur.pd q_c) (Pur.pd q_cst) rfl)) q_nil)) rfl (mk := (fun x => VD.val ((eU (eU eI)) x))) (t_frows_T_I a36.1 ((1 : Int) + a39.1) _) (fun _ => trivial) (fun a242 => (s_asg (i := 3) m38 q_cst (fun _ => rfl) (fun r243 m244 => (s_next (s_seq (s_asg (i := 4) m244 (q_lst q_nil rfl) (fun _ => rfl) (fun r245 m246 => (s_next (s_seq (s_forS (fun (s387 : ((List (Int × Int × Int)))) => [iv (eScr sc), .is .tape, iv (eT a36.1), iv ((eU (eU eI)) a242.1), io ((eL (e3 eI eI eI)) s387), .free, .free, .free, .free, .free, .free, .free, .free, .free, .free]) (fun _ => a242.2) ([] : ((List (Int × Int × Int)))) rfl (Mat.weak (.keep (.keep (.keep (.keep (.keep (.keep (.keep (.keep (.keep (.keep (.keep (.keep (.keep (.keep (.keep .nil))))))))))))))) m246) (q_seqI (Pur.pv (q_var m246 rfl)) rfl) (e := (eU eI)) (ms := (fun x => [(5, (eU eI) x)])) (fun _ => rfl) (fun x388 s387 r389 m390 => (s_plugE (plug_for (plug_seqI plug_id)) (h_def (q_cons (Pur.pv (q_var m390 rfl)) (q_cons (Pur.pv (q_var m390 rfl)) q_nil)) rfl (mk := (fun x => VD.own ((eL (e3 eI eI eI)) x))) (t_fentries_T_UI a36.1 x388) trivial (fun a391 => (s_forS (fun (s398 : ((List (Int × Int × Int)))) => [iv (eScr sc), .is .tape, iv (eT a36.1), iv ((eU (eU eI)) a242.1), io ((eL (e3 eI eI eI)) s398), iv ((eU eI) x388), .free, .free, .free, .free, .free, .free, .free, .free, .free]) (fun _ => a242.2) (s387 : ((List (Int × Int × Int)))) rfl (Mat.weak (.keep (.keep (.keep (.keep (.keep (.keep (.keep (.keep (.keep (.keep (.keep (.keep (.keep (.keep (.keep .nil))))))))))))))) m390) (q_seqI (Pur.pvO q_cst) rfl) (e := (e3 eI eI eI)) (ms := (fun x => [(6, (e3 eI eI eI) x)])) (fun _ => rfl) (fun x399 s398 r400 m401 => (s_sif (t_pure (q_xb (Pur.pv (q_op (op := dNinA) (Pur.pd (q_var m401 rfl)) (Pur.pdP (q_varO m401 rfl)) (q_ninL (enc_3 enc_I enc_I enc_I) x399 s398 rfl)))) (s_ite (fun _ => (s_dropM (m_mut (i := 4) m401 rfl rfl (q_cons (Pur.pv (q_var m401 rfl)) q_nil) (dn := (eL (e3 eI eI eI))) (xv := fun _ => D.non) (p_push (e := (e3 eI eI eI))) quit_push (fun vdue402 r403 m404 => (x_nx (Mat.weak (.keep (.keep (.keep (.keep (.keep (.keep (.fv (.keep (.keep (.keep (.keep (.keep (.keep (.keep (.keep .nil))))))))))))))) m404) rfl))))) (fun _ => (s_pass (x_nx (Mat.weak (.keep (.keep (.keep (.keep (.keep (.keep (.fv (.keep (.keep (.keep (.keep (.keep (.keep (.keep (.keep .nil))))))))))))))) m401) rfl))))))) (fun s405 r406 m407 => (x_nx (Mat.weak (.keep (.keep (.keep (.keep (.keep (.fv (.keep (.keep (.keep (.keep (.keep (.keep (.keep (.keep (.keep .nil))))))))))))))) m407) rfl))))))) (fun s408 r409 m410 => (s_next (s_seq (s_plugE (plug_asg plug_id) (h_make (q_cons (Pur.pv (q_var m410 rfl)) (q_cons (Pur.pv (q_var m410 rfl)) q_nil)) rfl (fs := fsTable) (t_pTableinit_T_UUI a36.1 a242.1) trivial (fun a607 => (s_asg (i := 7) m410 q_cst (fun _ => rfl) (fun r608 m609 => (s_next (s_frzO m609 rfl (fun r610 m611 => (s_seq (s_plugE (plug_asg plug_id) (h_def (q_cons (Pur.pv (q_var m611 rfl)) q_nil) rfl (mk := (fun x => VD.own ((eL (e3 eI eI eI)) x))) (t_pentries a607) trivial (fun a760 => (s_asg (i := 8) m611 q_cst (fun _ => rfl) (fun r761 m762 => (s_next (s_seq (s_sif (t_pure (q_xor (q_xb (Pur.pv (q_op (op := dNe) (Pur.pdP (q_varO m762 rfl)) (Pur.pdO (q_call (op := bSorted) (q_consT (Pur.pdP (q_varO m762 rfl)) q_nil) (q_srt (ord_3 ord_I ord_I ord_I lin_I) shp_3 _ rfl))) (q_ne (enc_L (enc_3 enc_I enc_I enc_I)) a760 (srt (ltP ltI (ltP ltI ltI)) s408) rfl)))) (fun _ => (q_xnot (q_xb (Pur.pv (q_un (op := (dIsi [] .list)) (Pur.pdP (q_varO m762 rfl)) rfl)))))) (s_ite (fun _ => (s_ret q_c (fun _ => rfl) (s_fin rfl))) (fun _ => (s_pass (s_next (s_seq (s_forR (fun (s769 : Unit) => [iv (eScr sc), .is .tape, iv (eT a36.1), iv ((eU (eU eI)) a242.1), io ((eL (e3 eI eI eI)) s408), .free, .free, iv (eTable a607), io ((eL (e3 eI eI eI)) a760), .free, .free, .free, .free, .free, .free]) (fun _ => a242.2) (() : Unit) rfl (fun (v779 : Bool) => VD.val (eB v779)) (fun _ => a242.2) (Mat.weak (.keep (.keep (.keep (.keep (.keep (.keep (.keep (.keep (.keep (.keep (.keep (.keep (.keep (.keep (.keep .nil))))))))))))))) m762) (q_oseq (ds := List.map (e3 eI eI eI) a760) m762 rfl) (e := (e3 eI eI eI)) (ms := (fun x => [(6, (e3 eI eI eI) x)])) (fun _ => rfl) (fun x770 s769 r771 m772 => (s_sif (t_pure (q_xor (q_xnot (q_xb (Pur.pv (q_un (op := (dIsi [] .tuple)) (Pur.pd (q_var m772 rfl)) rfl)))) (fun _ => (q_xb (Pur.pv (q_op (op := dGt) (Pur.pd (q_call (op := bLenA) (q_consT (Pur.pdO (q_lcF (xs := [x770.1, x770.2.1, x770.2.2]) m772 (.f rfl .nil) (q_seqJ (Pur.pd (q_var m772 rfl)) rfl) (e := eI) (ms := (fun x => [(14, eI x)])) (fun _ => rfl) (cond := fun x774 => false) (elt := (fun x774 => x774)) (e' := eI) (fun x774 r775 m773 => (q_xb (Pur.pv (q_un (op := (dIsi [] .bool)) (Pur.pd (q_var m773 rfl)) rfl)))) (fun x774 r775 m773 _ => (Pur.pv (q_var m773 rfl))))) q_nil) q_lenL)) (Pur.pd q_c) (dGt_ii _ _)))))) (s_ite (fun _ => (s_ret q_c (fun _ => rfl) (x_rtR rfl rfl))) (fun _ => (s_pass (x_nxR (Mat.weak (.keep (.keep (.keep (.keep (.keep (.keep (.fv (.keep (.keep (.keep (.keep (.keep (.keep (.keep (.keep .nil))))))))))))))) m772) rfl))))))) (fun s776 r777 m778 => (s_next (s_seq (s_for1 (h_rng (q_consT (Pur.pd q_c) (q_consT (Pur.pd (q_op (op := dAddA) (Pur.pd (q_call (op := bLenA) (q_consT (Pur.pd (q_var m778 rfl)) q_nil) q_lenU)) (Pur.pd q_c) rfl)) q_nil)) rfl (fun xs780 => (s_forR (fun (s806 : Unit) => [iv (eScr sc), .is .tape, iv (eT a36.1), iv ((eU (eU eI)) a242.1), io ((eL (e3 eI eI eI)) s408), .free, .free, iv (eTable a607), io ((eL (e3 eI eI eI)) a760), .free, .any, .free, .free, .free, .free]) (fun _ => a242.2) (() : Unit) rfl (fun (v823 : Bool) => VD.val (eB v823)) (fun _ => a242.2) (Mat.weak (.keep (.keep (.keep (.keep (.keep (.keep (.keep (.keep (.keep (.keep (.any (.keep (.keep (.keep (.keep .nil))))))))))))))) m778) q_csti (e := eI) (ms := (fun x => [(9, eI x)])) (fun _ => rfl) (fun x807 s806 r808 m809 => (s_seq (s_asgL (i := 10) m809 (fun vmine813 => VD.own ((eL (e2 eI eI)) vmine813)) (q_call (op := bSorted) (q_consT (Pur.pdO (q_lcF m809 (.f rfl (.f rfl (.f rfl .nil))) (q_seqJ (Pur.pdP (q_varO m809 rfl)) rfl) (e := (e3 eI eI eI)) (ms := (fun x => [(11, eI x.1), (12, eI x.2.1), (13, eI x.2.2)])) (fun _ => rfl) (cond := fun x811 => (decide ((x811.2.1 + x811.2.2) = x807))) (elt := (fun x811 => (x811.2.1, x811.1))) (e' := (e2 eI eI)) (fun x811 r812 m810 => (q_xb (Pur.pv (q_op (op := dEq) (Pur.pd (q_op (op := dAddA) (Pur.pd (q_var m810 rfl)) (Pur.pd (q_var m810 rfl)) rfl)) (Pur.pd (q_var m810 rfl)) (q_eq enc_I (x811.2.1 + x811.2.2) x807 rfl))))) (fun x811 r812 m810 _ => (Pur.pv (q_tup (q_cons (Pur.pv (q_var m810 rfl)) (q_cons (Pur.pv (q_var m810 rfl)) q_nil)) rfl))))) q_nil) (q_srt (ord_2 ord_I ord_I lin_I) shp_2 _ rfl)) (fun _ _ => rfl) (fun vmine813 r814 m815 => (s_next (s_sif (s_plugE (plug_xb (plug_op2 (Pur.pd (q_call (op := bTuple) (q_consT (Pur.pdO (q_lc m815 (.f rfl (.f rfl .nil)) (q_seqJ (Pur.pdP (q_varO m815 rfl)) rfl) (e := (e2 eI eI)) (ms := (fun x => [(12, eI x.1), (11, eI x.2)])) (fun _ => rfl) (elt := (fun x817 => x817.2)) (e' := eI) (fun x817 r818 m816 => (Pur.pv (q_var m816 rfl))))) q_nil) rfl)) plug_id)) (h_op (Pur.pd (q_var m815 rfl)) (Pur.pd (q_op (op := dSub) (Pur.pd (q_var m815 rfl)) (Pur.pd q_c) rfl)) (mk := fun x => VD.val ((eU eI) x)) p_idxU quit_idx (fun a819 => (t_pure (q_xb (Pur.pv (q_op (op := dNe) (Pur.pd (q_call (op := bTuple) (q_consT (Pur.pdO (q_lc m815 (.f rfl (.f rfl .nil)) (q_seqJ (Pur.pdP (q_varO m815 rfl)) rfl) (e := (e2 eI eI)) (ms := (fun x => [(12, eI x.1), (11, eI x.2)])) (fun _ => rfl) (elt := (fun x817 => x817.2)) (e' := eI) (fun x817 r818 m816 => (Pur.pv (q_var m816 rfl))))) q_nil) rfl)) (Pur.pd q_cst) (q_ne (enc_U enc_I) (vmine813.map fun x817 => x817.2) a819 rfl)))) (s_ite (fun _ => (s_ret q_c (fun _ => rfl) (x_rtR rfl rfl))) (fun _ => (s_pass (x_nxR (Mat.weak (.keep (.keep (.keep (.keep (.keep (.keep (.keep (.keep (.keep (.fv (.any (.keep (.keep (.keep (.keep .nil))))))))))))))) m815) rfl)))))))))))))) (fun s820 r821 m822 => (s_next (s_seq (s_dropM (m_mut (i := 8) m822 rfl rfl (q_cons (Pur.pv (q_tup (q_cons (Pur.pv q_c) (q_cons (Pur.pv q_c) (q_cons (Pur.pv q_c) q_nil))) rfl)) q_nil) (dn := (eL (e3 eI eI eI))) (xv := fun _ => D.non) (p_push (e := (e3 eI eI eI))) quit_push (fun vtold824 r825 m826 => (s_next (s_frzV m826 rfl (s_plugE (plug_ret (plug_op1 plug_id)) (h_def (q_cons (Pur.pv (q_var m826 rfl)) q_nil) rfl (mk := (fun x => VD.own ((eL (e3 eI eI eI)) x))) (t_pentries a607) trivial (fun a827 => (s_ret (q_op (op := dEq) (Pur.pdO q_cst) (Pur.pdO (q_call (op := bSorted) (q_consT (Pur.pdP (q_varO m826 rfl)) q_nil) (q_srt (ord_3 ord_I ord_I ord_I lin_I) shp_3 _ rfl))) (q_eq (enc_L (enc_3 enc_I enc_I enc_I)) a827 (srt (ltP ltI (ltP ltI ltI)) s408) rfl)) (fun _ => rfl) (s_fin rfl))))))))))))) (fun v823 => (s_fin rfl))))))))) (fun v779 => (s_fin rfl))))))))))))))))))))))))))))))))))))))))))))))))))))
theorem law_of (h : ∀ sc T, TapeV T → wr (flaw sc T) fun b => b.1 = true) : ∀ ns : List Int, ns.length ≤ 63 → ∃ T, M_law [.scr ns] none = .ok (.val (.bl true), T) := by
  intro sc hsc
  refine wp_law (g := gr_law) (d := _) (by simp [tape_ok, env0]; exact ⟨rfl, rfl⟩) ?_
  refine law_sim (t_flaw sc _ _ (mat_of ((env0 15 false [.scr sc]).set 1 (some .tape)))) (h sc _ ⟨sc, 0, 0, 1, 0, rfl⟩)
end Gk08
namespace Gk08
open PySem L2 Pu
theorem floops_t {T : Tp} {m l : Int} (hm : 1 ≤ m ∧ m ≤ 8) (hl : 1 ≤ l ∧ l ≤ 40) (ht : TapeV T) : wr (floops m l T) fun p => LpsM m l p.1 ∧ TapeV p.2 := by
  unfold floops
  refine wr_b (pick_wr ht (by omega) (by omega)) fun ⟨v, T1⟩ ⟨hv, t1⟩ => ?_
  dsimp only at hv t1 ⊢
  rw [lete_eq, rng_ok (by omega), Rt.bind_ok]
  refine wr_b (wr_mapT_mem TapeV (fun y => 1 ≤ y ∧ y ≤ l) _ _ t1 fun x hx T2 t2 => ?_) fun ⟨ls, T2⟩ ⟨t2, hlen, hall⟩ => ?_
  · refine wr_b (pick_wr t2 (by omega) (by omega)) fun ⟨u, T3⟩ ⟨hu, t3⟩ => ?_
    exact (wr_ok _).mpr ⟨by dsimp only at hu ⊢; omega, t3⟩
  · rw [rngL_len] at hlen
    dsimp only at hlen hall t2 ⊢
    refine wr_b (pick_wr t2 (by omega) (by omega)) fun ⟨u, T3⟩ ⟨hu, t3⟩ => ?_
    dsimp only at hu t3 ⊢
    unfold setAt
    rw [ixN_some hu.1 (by omega)]
    refine (wr_ok _).mpr ⟨⟨by simp; omega, by simp; omega, fun x hx => ?_, ?_⟩, t3⟩
    · rcases List.mem_or_eq_of_mem_set hx with z | z
      · exact hall x z
      · omega
    · exact List.mem_iff_getElem.mpr ⟨u.toNat, by simp; omega, by simp⟩

theorem frow_T_I_t {T : Tp} {ns : List Int} {w : Int} (hL : Lps ns) (h1 : 1 ∈ ns) (hw : 0 ≤ w ∧ w ≤ 60) (ht : TapeV T) : wr (frow_T_I ns w T) fun p => RowW ns p.1 w ∧ TapeV p.2 := by
  obtain ⟨l1, l2, l3⟩ := id hL
  obtain ⟨j1, hj1, hj2, hj3⟩ := idx_one' h1
  unfold frow_T_I
  refine wr_b (pick_wr ht (by omega) (by omega)) fun ⟨v, T1⟩ ⟨hv, t1⟩ => ?_
  dsimp only at hv t1 ⊢
  rw [lete_eq]
  generalize decide (v = 0) = ag
  have inv : ∀ s : List Int × Int × Tp, RowOk ns s.1 → (s.1.map (vl ns)).sum + s.2.1 = w → 0 ≤ s.2.1 → s.1.length ≤ 60 := fun s a b c => by
    have := row_len hL a
    omega
  refine wr_b (wr_forB (Q := fun s => RowOk ns s.1 ∧ (s.1.map (vl ns)).sum + s.2.1 = w ∧ 0 ≤ s.2.1 ∧ TapeV s.2.2) (fun _ s => RowOk ns s.1 ∧ (s.1.map (vl ns)).sum + s.2.1 = w ∧ 0 ≤ s.2.1 ∧ TapeV s.2.2) _ 0 _ ⟨fun _ h => (nomatch h), by simp, by dsimp only; omega, t1⟩ ?_ fun s h => h) fun ⟨rs, l, T2⟩ ⟨q1, q2, q3, q4⟩ => ?_
  · rintro i x ⟨rs, l, T2⟩ hx ⟨q1, q2, q3, q4⟩
    dsimp only at q1 q2 q3 q4 ⊢
    rw [rng_ok (by omega), Rt.bind_ok]
    rw [lcR_ok (d := fun k => decide (vl ns k ≤ l) && (ag || !memB k rs)) (g := fun k => k) _ (fun k hk => ?_) (fun k _ _ => rfl)]
    · rw [Rt.bind_ok, List.map_id']
      have hfit : ∀ k ∈ (rngL 0 ↑ns.length).filter (fun k => decide (vl ns k ≤ l) && (ag || !memB k rs)), (0 ≤ k ∧ k < ns.length) ∧ vl ns k ≤ l := fun k hk => by
        obtain ⟨a, b⟩ := List.mem_filter.mp hk
        rw [Bool.and_eq_true, decide_eq_true_eq] at b
        exact ⟨rngL_mem.mp a, b.1⟩
      have flen : ((rngL 0 ↑ns.length).filter (fun k => decide (vl ns k ≤ l) && (ag || !memB k rs))).length ≤ 8 := by
        have := filter_len (g := fun k => decide (vl ns k ≤ l) && (ag || !memB k rs)) (xs := rngL 0 ↑ns.length)
        rw [rngL_len] at this
        omega
      generalize (rngL 0 ↑ns.length).filter (fun k => decide (vl ns k ≤ l) && (ag || !memB k rs)) = fit at hfit flen
      by_cases c : decide ((fit.length : Int) = 0) || decide (l = 0) = true
      · rw [if_pos (by simpa using c)]
        exact (wr_ok _).mpr (by rw [if_pos rfl]; exact ⟨q1, q2, q3, q4⟩)
      · rw [if_neg (by simpa using c)]
        simp only [Bool.or_eq_true, decide_eq_true_eq, not_or] at c
        refine wr_b (pick_wr q4 (by omega) (by omega)) fun ⟨u, T3⟩ ⟨hu, t3⟩ => ?_
        dsimp only at hu t3 ⊢
        rw [idx_some hu.1 hu.2, Rt.bind_ok]
        have hm := hfit _ (List.getElem_mem (show u.toNat < fit.length by omega))
        generalize fit[u.toNat]'(by omega) = k at hm
        have hl := inv (rs, l, T2) q1 q2 q3
        dsimp only at hl
        rw [push_ok (by omega), Rt.bind_ok]
        have hlast : idx (rs ++ [k]) (-1) = .ok k := idx_ok atI_last
        rw [hlast, Rt.bind_ok, idx_vl hm.1, Rt.bind_ok, lete_eq]
        refine (wr_ok _).mpr ?_
        rw [if_neg (by simp)]
        exact ⟨rowOk_app q1 (rowOk_one hm.1), by simp; omega, by dsimp only; omega, t3⟩
    · rw [idx_vl (rngL_mem.mp hk), Rt.bind_ok]
  · dsimp only at q1 q2 q3 q4 ⊢
    have hl := inv (rs, l, T2) q1 q2 q3
    dsimp only at hl
    have hr := row_len hL q1
    rw [rng_ok (by omega), Rt.bind_ok]
    rw [forS_pre (S := List Int) (fun p => rs ++ p.map fun _ => j1) _ (by simp) fun p x q e => ?_]
    · rw [Rt.bind_ok]
      refine (wr_ok _).mpr ⟨⟨rowOk_app q1 fun x hx => ?_, ?_⟩, q4⟩
      · obtain ⟨_, _, rfl⟩ := List.mem_map.mp hx
        exact hj2
      · dsimp only
        rw [List.map_append, List.sum_append, List.map_map]
        have : ∀ n : Nat, ∀ xs : List Int, xs.length = n → (xs.map (vl ns ∘ fun _ => j1)).sum = n := fun n => by
          induction n with
          | zero => intro xs h; rw [List.eq_nil_of_length_eq_zero h]; rfl
          | succ n ih =>
            intro xs h
            cases xs with
            | nil => cases h
            | cons y ys =>
              rw [List.map_cons, List.sum_cons, ih ys (by simpa using h)]
              simp [hj3]
              omega
        rw [this _ _ (rngL_len 0 l)]
        omega
    · rw [hj1, Rt.bind_ok, push_ok]
      · rw [Rt.bind_ok]
        simp
      · have := len_pre e
        rw [rngL_len] at this
        simp
        omega

theorem frows_T_I_t {T : Tp} {ns : List Int} {b : Int} (hL : Lps ns) (h1 : 1 ∈ ns) (hb : 1 ≤ b ∧ b ≤ 60) (ht : TapeV T) : wr (frows_T_I ns b T) fun p => (Tab ns p.1 ∧ (p.1.length : Int) = b) ∧ TapeV p.2 := by
  unfold frows_T_I
  rw [rng_ok (by omega), Rt.bind_ok]
  refine wr_b (wr_mapT_all TapeV (fun w r => RowW ns r w) _ _ ht fun w hw T2 t2 => ?_) fun ⟨rs, T2⟩ ⟨t2, hlen, hall⟩ => ?_
  · refine wr_b (frow_T_I_t hL h1 (by have := rngL_mem.mp hw; omega) t2) fun ⟨r, T3⟩ h => (wr_ok _).mpr h
  · rw [rngL_len] at hlen
    dsimp only at hlen hall t2 ⊢
    refine (wr_ok _).mpr ⟨⟨⟨hL, by dsimp only; omega, by dsimp only; omega, fun i r hr => ?_⟩, by dsimp only; omega⟩, t2⟩
    have hi := (List.getElem?_eq_some_iff.mp hr).1
    have := hall i ((rngL 1 (b + 1))[i]'(by rw [rngL_len]; dsimp only at hi; omega)) r (List.getElem?_eq_getElem _) hr
    have e := rngL_get (List.getElem?_eq_getElem (l := rngL 1 (b + 1)) (i := i) (by rw [rngL_len]; dsimp only at hi; omega))
    rw [e.1] at this
    rw [show (i : Int) + 1 = 1 + i by omega]
    exact this

theorem fentries_T_UI_t {ns r : List Int} (h : RowOk ns r) (hl : r.length ≤ 60) : fentries_T_UI ns r = .ok (entR ns r) := by
  unfold fentries_T_UI
  rw [mapR_ok (g := vl ns) _ fun x hx => by rw [idx_vl (h x hx), Rt.bind_ok], Rt.bind_ok, lete_eq]
  have := forS_pre (f := fun x (s : List (Int × Int × Int) × Int) => (push s.1 (x, s.2, (r.map (vl ns)).sum - s.2)).bind fun vf => (idx ns x).bind fun a => lete ((s.2 + a) : Int) fun vg => .ok (vf, vg))
    (fun p => (entL (vl ns) 0 (r.map (vl ns)).sum p, 0 + (p.map (vl ns)).sum)) r (s0 := ([], 0)) (by simp [entL]) fun p x q e => ?_
  · refine (congrArg (fun y => Rt.bind y _) this).trans ?_
    rfl
  · have hp := len_pre e
    have hx := h x (mem_pre e)
    rw [push_ok (by rw [entL_len]; omega), Rt.bind_ok, idx_vl hx, Rt.bind_ok, lete_eq, entL_snoc]
    simp only [List.map_append, List.sum_append, List.map_cons, List.map_nil, List.sum_cons, List.sum_nil]
    simp

theorem pisinteger_t (i : Int) : pisinteger i = .ok true := rfl

theorem piswithin_t (x a b : Int) : piswithin x a b = .ok (decide (a ≤ x ∧ x ≤ b)) := by
  unfold piswithin
  rw [pisinteger_t, Rt.bind_ok]
  simp

theorem parewithin_T_I_I_I_t (xs : List Int) (m a b : Int) : parewithin_T_I_I_I xs m a b = .ok (decide ((xs.length : Int) ≤ m ∧ ∀ x ∈ xs, a ≤ x ∧ x ≤ b)) := by
  unfold parewithin_T_I_I_I
  by_cases c : (xs.length : Int) > m
  · rw [if_pos (by simpa using c), decide_eq_false (by omega)]
  · rw [if_neg (by simpa using c), mapR_ok (g := fun x => decide (a ≤ x ∧ x ≤ b)) _ fun x _ => by rw [piswithin_t, Rt.bind_ok]]
    rw [Rt.bind_ok]
    congr 1
    rw [Bool.eq_iff_iff]
    simp
    omega

theorem pisloops_T_t {ns : List Int} (h : Lps ns) : pisloops_T ns = .ok true := by
  unfold pisloops_T
  rw [parewithin_T_I_I_I_t, Rt.bind_ok]
  obtain ⟨h1, h2, h3⟩ := h
  rw [decide_eq_true ⟨by omega, h3⟩]
  simp
  omega

theorem parewithin_UI_I_I_I_t (xs : List Int) (m a b : Int) : parewithin_UI_I_I_I xs m a b = .ok (decide ((xs.length : Int) ≤ m ∧ ∀ x ∈ xs, a ≤ x ∧ x ≤ b)) := by
  unfold parewithin_UI_I_I_I
  by_cases c : (xs.length : Int) > m
  · rw [if_pos (by simpa using c), decide_eq_false (by omega)]
  · rw [if_neg (by simpa using c), mapR_ok (g := fun x => decide (a ≤ x ∧ x ≤ b)) _ fun x _ => by rw [piswithin_t, Rt.bind_ok]]
    rw [Rt.bind_ok]
    congr 1
    rw [Bool.eq_iff_iff]
    simp
    omega

theorem pisrow_T_UI_t {ns r : List Int} (h : RowOk ns r) (hl : r.length ≤ 60) : pisrow_T_UI ns r = .ok true := by
  unfold pisrow_T_UI
  rw [parewithin_UI_I_I_I_t, Rt.bind_ok, decide_eq_true ⟨by omega, fun x hx => by have := h x hx; omega⟩]

theorem psumof_T_UI_t {ns r : List Int} (h : RowOk ns r) : psumof_T_UI ns r = .ok (r.map (vl ns)).sum := by
  unfold psumof_T_UI
  rw [mapR_ok (g := vl ns) _ fun x hx => by rw [idx_vl (h x hx), Rt.bind_ok], Rt.bind_ok]

theorem pentriesof_T_UI_t {ns r : List Int} (h : RowOk ns r) (hl : r.length ≤ 60) : pentriesof_T_UI ns r = .ok (entR ns r) := by
  unfold pentriesof_T_UI
  rw [psumof_T_UI_t h, Rt.bind_ok]
  have := forS_pre (f := fun x396 (s395 : Int × Int × List (Int × Int × Int)) =>
    (push (s395.2.2 : (List (Int × Int × Int))) (x396, s395.2.1, s395.1)).bind fun vfound399 => (idx ns x396).bind fun a402 => lete ((s395.2.1 + a402) : Int) fun vgone403 => (idx ns x396).bind fun a406 => lete ((s395.1 - a406) : Int) fun vleft407 => .ok (vleft407, vgone403, vfound399))
    (fun p => ((r.map (vl ns)).sum - (p.map (vl ns)).sum, 0 + (p.map (vl ns)).sum, entL (vl ns) 0 (r.map (vl ns)).sum p)) r (s0 := ((r.map (vl ns)).sum, 0, [])) (by simp [entL]) fun p x q e => ?_
  · refine (congrArg (fun y => Rt.bind y _) this).trans ?_
    rfl
  · have hp := len_pre e
    have hx := h x (mem_pre e)
    rw [push_ok (by rw [entL_len]; omega), Rt.bind_ok, idx_vl hx, Rt.bind_ok, lete_eq, Rt.bind_ok, lete_eq, entL_snoc]
    simp only [List.map_append, List.sum_append, List.map_cons, List.map_nil, List.sum_cons, List.sum_nil]
    congr 2
    · omega
    · congr 1
      omega

theorem pTableinit_T_UUI_t {ns : List Int} {rows : List (List Int)} (h : Tab ns rows) : pTableinit_T_UUI ns rows = .ok ⟨ns, rows, rows.length, [] :: rows.map (entR ns)⟩ := by
  have h1 := h.pos
  have h2 := h.len
  unfold pTableinit_T_UUI
  rw [pisloops_T_t h.lps, Rt.bind_ok, if_neg (by simp), if_neg (by simp; omega)]
  rw [forS_pre (S := Unit) (fun _ => ()) _ rfl fun p x q e => ?_]
  · rw [Rt.bind_ok, mapR_ok (g := entR ns) _ fun r hr => ?_]
    · rw [Rt.bind_ok, cat_ok (by simp; omega)]
      rfl
    · obtain ⟨w, _, _, q⟩ := h.rw hr
      rw [pentriesof_T_UI_t q.ok (h.rlen hr), Rt.bind_ok]
  · have hx := get_pre e
    rw [enuL_get] at hx
    obtain ⟨r, hr, rfl⟩ := Option.map_eq_some_iff.mp hx
    have q := h.row _ r hr
    rw [pisrow_T_UI_t q.ok (h.rlen (List.mem_of_getElem? hr)), Rt.bind_ok, if_neg (by simp), psumof_T_UI_t q.ok, q.sum]
    simp

theorem pTableentriesat_t {ns : List Int} {rows : List (List Int)} {b : Int} {w : Int} {r : List Int} (hr : rows[(w - 1).toNat]? = some r) (hw : 1 ≤ w) : pTableentriesat ⟨ns, rows, b, [] :: rows.map (entR ns)⟩ w = .ok (entR ns r) := by
  unfold pTableentriesat
  have hl := (List.getElem?_eq_some_iff.mp hr).1
  have : atI (([] : List Ent) :: rows.map (entR ns)) w = some (entR ns r) := by
    rw [atI_some (by omega) (by simp; omega)]
    congr 1
    obtain ⟨n, hn⟩ := Int.eq_ofNat_of_zero_le (show 0 ≤ w - 1 by omega)
    have : w = ((n + 1 : Nat) : Int) := by omega
    subst this
    rw [show (((n + 1 : Nat) : Int) - 1).toNat = n by omega] at hr hl
    simp only [Int.toNat_natCast, List.getElem_cons_succ, List.getElem_map]
    rw [(List.getElem?_eq_some_iff.mp hr).2]
  rw [idx_ok this, Rt.bind_ok]

theorem dput_dd {es : List Ent} {kvs : List (Ent × Bool)} (h : akeys kvs = dd es) (hl : es.length < 16000000) (x : Ent) : ∃ l, dputR kvs x true = .ok l ∧ akeys l = dd (es ++ [x]) := by
  have := (dd_spec es).2.2
  have e : kvs.length = (dd es).length := by rw [← h]; simp [akeys]
  refine ⟨aput kvs x true, if_pos (by omega), ?_⟩
  rw [akeys_put, h, dd_snoc]
theorem pentries_t {ns : List Int} {rows : List (List Int)} (h : Tab ns rows) : pentries ⟨ns, rows, rows.length, [] :: rows.map (entR ns)⟩ = .ok (entS ns rows) := by
  have h2 := h.len
  unfold pentries
  dsimp only
  rw [rng_ok (by omega), Rt.bind_ok]
  suffices q : wr (forS (rngL 1 ((rows.length : Int) + 1)) ([] : List (Ent × Bool)) fun x s => (pTableentriesat ⟨ns, rows, rows.length, [] :: rows.map (entR ns)⟩ x).bind fun a => (forS a s fun x s => (dputR s x true).bind fun s => .ok s).bind fun s => .ok s) fun s => akeys s = dd (ents ns rows) by
    obtain ⟨s, e, q⟩ := q
    refine (congrArg (fun y => Rt.bind y _) e).trans ?_
    rw [Rt.bind_ok, q]
    rfl
  refine wr_forS (fun i s => akeys s = dd (ents ns (rows.take i))) _ 0 _ rfl ?_ fun s q => ?_
  · intro i x s hx q
    obtain ⟨e1, e2, e3⟩ := rngL_get hx
    rw [Nat.zero_add] at q ⊢
    have hi : i < rows.length := by omega
    have hr : rows[(x - 1).toNat]? = some rows[i] := by rw [e1, show (1 + (i : Int) - 1).toNat = i by omega]; exact List.getElem?_eq_getElem hi
    rw [pTableentriesat_t hr e2, Rt.bind_ok]
    have ht : ents ns (rows.take (i + 1)) = ents ns (rows.take i) ++ entR ns rows[i] := by
      unfold ents
      rw [← List.take_append_getElem hi, List.flatMap_append]
      simp
    rw [ht]
    refine wr_b (wr_forS (fun j s => akeys s = dd (ents ns (rows.take i) ++ (entR ns rows[i]).take j)) _ 0 _ (by simpa using q) ?_ fun s q => ?_) fun s q => (wr_ok _).mpr q
    · intro j y s hy q
      rw [Nat.zero_add] at q ⊢
      have hn : (ents ns (rows.take i) ++ (entR ns rows[i]).take j).length < 16000000 := by
        have a := flat_len (g := entR ns) (n := 60) (xs := rows.take i) fun r hr => by rw [entR_len]; exact h.rlen (List.mem_of_mem_take hr)
        have b := h.rlen (List.getElem_mem hi)
        have : (rows.take i).length * 60 ≤ 60 * 60 := Nat.mul_le_mul_right _ (by rw [List.length_take]; omega)
        rw [List.length_append, List.length_take, entR_len]
        show (List.flatMap _ _).length + _ < _
        omega
      obtain ⟨l, e, q2⟩ := dput_dd q hn y
      rw [e, Rt.bind_ok]
      refine (wr_ok _).mpr ?_
      rw [q2, List.append_assoc, List.take_succ, hy]
      rfl
    · rw [Nat.zero_add, List.take_of_length_le (Nat.le_refl _)] at q
      exact q
  · rw [Nat.zero_add, rngL_len, List.take_of_length_le (by omega)] at q
    exact q

theorem back_row {ns r : List Int} {w : Int} (hL : Lps ns) (q : RowW ns r w) : (srt (ltP ltI ltI) (dd ((entR ns r).map fun e => (e.2.1, e.1)))).map (fun x => x.2) = r := by
  have hg := entR_gone hL q.ok
  have hs : ((entR ns r).map fun e => (e.2.1, e.1)).Pairwise fun a b => a.1 < b.1 := List.pairwise_map.mpr hg
  have nd : ((entR ns r).map fun e => (e.2.1, e.1)).Nodup := hs.imp fun {a b} h e => by rw [e] at h; exact absurd h (Int.lt_irrefl _)
  have e1 : srt (ltP ltI ltI) (dd ((entR ns r).map fun e => (e.2.1, e.1))) = (entR ns r).map fun e => (e.2.1, e.1) := by
    refine srt_of (lin_P lin_I lin_I) ((List.perm_ext_iff_of_nodup (dd_spec _).1 nd).mpr fun x => (dd_spec _).2.1 x) (hs.imp fun {a b} h => ?_)
    have h : a.1 < b.1 := h
    have n1 : ¬ b.1 < a.1 := by omega
    have n2 : ¬ b.1 = a.1 := by omega
    simp [ltP, ltI, n1, n2]
  rw [e1, List.map_map]
  have : ∀ (f : Int → Int) (r : List Int) (g l : Int), (entL f g l r).map ((fun x : Int × Int => x.2) ∘ fun e : Ent => (e.2.1, e.1)) = r := by
    intro f r
    induction r with
    | nil => intro g l; rfl
    | cons k r ih => intro g l; show k :: _ = _; rw [ih]
  exact this _ _ _ _
theorem law_ok (sc : List Int) (T : Tp) (ht : TapeV T) : wr (flaw sc T) fun b => b.1 = true := by
  unfold flaw
  refine wr_b (floops_t (by omega) (by omega) ht) fun ⟨ns, T1⟩ ⟨hL, t1⟩ => ?_
  dsimp only at hL t1 ⊢
  have hl := hL.lps (by omega) (by omega)
  refine wr_b (pick_wr t1 (by omega) (by omega)) fun ⟨b0, T2⟩ ⟨hb0, t2⟩ => ?_
  dsimp only at hb0 t2 ⊢
  refine wr_b (frows_T_I_t hl hL.2.2.2 (by omega) t2) fun ⟨rows, T3⟩ ⟨⟨h, hlen⟩, t3⟩ => ?_
  dsimp only at h hlen t3 ⊢
  have hl60 := h.len
  rw [forS_pre (fun p => dd (ents ns p)) rows (s0 := []) rfl fun p x q e => ?_]
  · rw [Rt.bind_ok, pTableinit_T_UUI_t h, Rt.bind_ok, pentries_t h, Rt.bind_ok]
    have eE : srt (ltP ltI (ltP ltI ltI)) (dd (ents ns rows)) = entS ns rows := rfl
    rw [eE, if_neg (by simp)]
    refine wr_b (wr_forR (Q := fun o => match o with | .inl _ => True | .inr _ => False) (fun _ _ => True) _ 0 _ trivial ?_ fun _ _ => trivial) fun o ho => ?_
    · intro i x s hx _
      rw [if_neg (by simp)]
      exact (wr_ok _).mpr trivial
    · cases o with
      | inr v => exact ho.elim
      | inl s =>
        dsimp only
        rw [rng_ok (by omega), Rt.bind_ok]
        refine wr_b (wr_forR (Q := fun o => match o with | .inl _ => True | .inr _ => False) (fun _ _ => True) _ 0 _ trivial ?_ fun _ _ => trivial) fun o ho => ?_
        · intro i w s hw _
          obtain ⟨w1, w2, w3⟩ := rngL_get hw
          rw [lete_eq, idx_some (by omega) (by omega), Rt.bind_ok]
          have hrow := h.row (w - 1).toNat _ (List.getElem?_eq_getElem (by omega))
          rw [show ((w - 1).toNat : Int) + 1 = w by omega] at hrow
          generalize hr : rows[(w - 1).toNat]'(by omega) = r at hrow
          have hrm : rows[(w - 1).toNat]? = some r := by rw [← hr]; exact List.getElem?_eq_getElem _
          have key : srt (ltP ltI ltI) (((entS ns rows).filter fun x => decide (x.2.1 + x.2.2 = w)).map fun x => (x.2.1, x.1)) = srt (ltP ltI ltI) (dd ((entR ns r).map fun e => (e.2.1, e.1))) := by
            refine srt_same (lin_P lin_I lin_I) ?_ (dd_spec _).1 fun x => ?_
            · refine nodup_map_on ((entS_nodup ns rows).filter _) fun a ha b hb e => ?_
              have a1 := of_decide_eq_true (List.mem_filter.mp ha).2
              have b1 := of_decide_eq_true (List.mem_filter.mp hb).2
              have e1 : a.2.1 = b.2.1 := (Prod.mk.inj e).1
              have e2 : a.1 = b.1 := (Prod.mk.inj e).2
              exact Prod.ext e2 (Prod.ext e1 (by omega))
            · rw [(dd_spec _).2.1, List.mem_map, List.mem_map]
              constructor
              · rintro ⟨e, he, rfl⟩
                obtain ⟨h1, h2⟩ := List.mem_filter.mp he
                have h2 := of_decide_eq_true h2
                obtain ⟨_, _, _, r', hr', hin⟩ := ents_in h (entS_mem.mp h1)
                rw [h2, hrm] at hr'
                cases hr'
                exact ⟨e, hin, rfl⟩
              · rintro ⟨e, he, rfl⟩
                have hs := entR_sum hl hrow he
                exact ⟨e, List.mem_filter.mpr ⟨entS_mem.mpr (List.mem_flatMap.mpr ⟨r, List.mem_of_getElem? hrm, he⟩), decide_eq_true hs.2.2⟩, rfl⟩
          rw [key, back_row hl hrow, if_neg (by simp)]
          exact (wr_ok _).mpr trivial
        · cases o with
          | inr v => exact ho.elim
          | inl s =>
            dsimp only
            rw [push_ok (by have := entS_len h; omega), Rt.bind_ok, Rt.bind_ok]
            exact (wr_ok _).mpr (by simp)
  · obtain ⟨w, _, _, qq⟩ := h.rw (mem_pre e)
    rw [fentries_T_UI_t qq.ok (h.rlen (mem_pre e)), Rt.bind_ok]
    have hlp : ∀ p' : List Ent, (dd (ents ns p ++ p')).length ≤ (ents ns p).length + p'.length := fun p' => by
      have := (dd_spec (ents ns p ++ p')).2.2
      rw [List.length_append] at this
      exact this
    have hle : (ents ns p).length ≤ 3600 := by
      have a := flat_len (g := entR ns) (n := 60) (xs := p) fun r hr => by rw [entR_len]; exact h.rlen (by rw [e]; simp [hr])
      have hp := len_pre e
      have : p.length * 60 ≤ 60 * 60 := Nat.mul_le_mul_right _ (by omega)
      show (List.flatMap _ _).length ≤ _
      omega
    have hre : (entR ns x).length ≤ 60 := by rw [entR_len]; exact h.rlen (mem_pre e)
    rw [forS_pre (S := List Ent) (fun p' => dd (ents ns p ++ p')) (entR ns x) (by simp) fun p' y q' e' => ?_]
    · rw [Rt.bind_ok]
      simp [ents]
    · have hp' := len_pre e'
      have := hlp p'
      rw [← List.append_assoc, dd_snoc]
      by_cases cy : y ∈ dd (ents ns p ++ p')
      · rw [if_neg (by simpa using cy), if_pos cy]
      · rw [if_pos (by simpa using cy), if_neg cy, push_ok (by omega), Rt.bind_ok]
theorem law_true : ∀ ns : List Int, ns.length ≤ 63 → ∃ T, M_law [.scr ns] none = .ok (.val (.bl true), T) := law_of law_ok

end Gk08
open PySem PySem.W PySem.Calls PyProof.Rows
theorem PySem.Challenge.cw_loopstore_k08_whole_entries_of_tables_holds : PySem.Challenge.rw_loopstore_k08_whole_entries_of_tables.Holds := by
  w_on; o_law
  refine HandSHeadRun.head_any (r := OpenLaw.row PySem.Challenge.rw_loopstore_k08_whole_entries_of_tables) (q := view (OpenLaw.row PySem.Challenge.rw_loopstore_k08_whole_entries_of_tables).prog [28]) (H := Gk08.hk) (ob := Gk08.ob) (M := 4000) (loose := Gk08.loose) (d := HandSHeadRun.topDef (OpenLaw.row PySem.Challenge.rw_loopstore_k08_whole_entries_of_tables).prog 28) (kwd := []) Gk08.ob_eq
    (by kernel_rfl) (fun s => by kernel_rfl) Gk08.run (by kernel_rfl) (by kernel_rfl) (by kernel_rfl) (by rfl) (by first | assumption | decide +kernel) (by decide +kernel) ⟨rfl, rfl, rfl, rfl, rfl, by decide +kernel⟩ ?hw ?hc
  case hw => w_witness2
  case hc =>
    exact Pu.walkX (l := PySem.Challenge.rw_loopstore_k08_whole_entries_of_tables) (k := 7) (x := "_law_script") (M := Gk08.M_law) rfl (by kernel_rfl) ⟨rfl, by decide, by decide⟩ (by kernel_rfl) Gk08.law_true fun K c => Gk08.fd_law c
