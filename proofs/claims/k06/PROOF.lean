import PyProof.Rows.All
import Wide.All
import OpenK.AllK
import Wide.FinOn
import HandS.ForMost
import HandS.ForExc
import HandS.SortOrd
import HandS.Deep
import HandS.IsInst
import HandS.Defaults
import KE.KDictKeyed
import HandS.TupAny
import HandS.TupMul
import HandS.Style
import HandS.Wide
import HandS.WordsExc
import KE.SortData
import KE.DataEq
import KE.DataCmp
import HandS.NoneIn
import KE.DataMinMax
import KE.KTupSum
import KE.GoesEnum
import HandS.Head0
import HandS.Head1
import HandS.Head2
import HandS.HeadEnd
import HandS.HeadHook1
import HandS.HeadHook2
import HandS.More
import HandS.DictTup
import HandS.WordsDict
import HandS.Small
import HandS.TupLen
import HandS.TupLe
import HandS.Zip
import HandS.Conv
import HandS.Strs
import HandS.WideBits
import HandS.Text
import HandS.ExcInit
import HandS.ExcField
import KE.KExcIs
import HandS.OwnEq
import HandS.Codes
import PyProof.InstEq
import HandS.TryOnly
import HandS.SetFor
import HandS.DictComp
import PyProof.ReprRoads
import HandS.TryMany
import KE.KDictWalk
import KE.KDictDisplayH
import KE.GoesZip
import KE.GoesMore
import HandS.DictEq
import KE.KDictCopyH
import KE.KDictSum
import HandS.ExcOwn
import HandS.ExcValue
import KE.KEqDict
import HandS.Finally
import HandS.SortKw
import KE.KDictOf
import PySem.Challenge.RW_loopstore_k06_tables_judged
set_option Elab.async false
set_option linter.all false
set_option maxRecDepth 100000
set_option maxHeartbeats 4000000
set_option autoImplicit false
namespace Pu
open PySem L2
/-! ## plain data -/
inductive D where
  | non | bl (b : Bool) | int (i : Int) | str (x : Str) | tup (xs : List D) | lst (xs : List D) | dct (t : Bool) (kvs : List (D × D)) | ins (c : Str) (fs : List (Str × D)) | scr (ns : List Int) | tpl (ns : List Int) | exn (x : Addr × Option Addr) (fs : List (Str × D)) | lrf (q : Addr) | cel (q : Addr) (d : D) | dcn (kvs : List (D × D))
/-- which parts of a thing are one's own: none; all alike, it too; each as told, it too -/
inductive Sh where
  | leaf | hom (s : Sh) | het (ss : List Sh)
inductive VD where
  | val (d : D) | own (d : D) | peek (d : D) | tape | tree (s : Sh) (d : D) | look (d : D)
abbrev Env := List (Option VD)
abbrev Tp := Option D
inductive Rs (A : Type) where
  | ok (a : A) | exc (c : Str) (fs : List (Str × D)) (t : Tp) (r : Env) | stuck
namespace Rs
def bind {A B : Type} (x : Rs A) (f : A → Rs B) : Rs B := match x with
  | .ok a => f a
  | .exc c fs t r => .exc c fs t r
  | .stuck => .stuck
@[simp] theorem bind_ok {A B : Type} (a : A) (f : A → Rs B) : (Rs.ok a).bind f = f a := rfl
@[simp] theorem bind_exc {A B : Type} (c : Str) (fs : List (Str × D)) (t : Tp) (r : Env) (f : A → Rs B) : (Rs.exc c fs t r).bind f = .exc c fs t r := rfl
@[simp] theorem bind_stuck {A B : Type} (f : A → Rs B) : (Rs.stuck : Rs A).bind f = .stuck := rfl
end Rs
abbrev DE := Env → Tp → Rs (VD × Tp)
def kD : Key → D
  | .inl i => .int i
  | .inr x => .str x
/-! ## keys that are tuples of tuples of whole numbers -/
abbrev N2 := List (List Int)
def nk (k : N2) : NestedKey := .tup (k.map fun r => .tup (r.map .num))
def nkD (k : N2) : D := .tup (k.map fun r => .tup (r.map .int))
/-- a dict with such keys, as its one object tells -/
def NDict (a : Addr) (xs : List (N2 × Addr × V)) (h : Heap) : Prop := (a == sysModules) = false ∧ ∃ (w : World) (ys : List (N2 × Addr × Value)),
  Paired (fun (x : N2 × Addr × V) (y : N2 × Addr × Value) => x.1 = y.1 ∧ x.2.1 = y.2.1 ∧ RelV x.2.2 y.2.2) xs ys ∧
  ∃ o es ep, h.get? a = some o ∧ o.ExactDict ∧ o.data = .dict es ep ∧ es.toList = ys.map (fun y => (⟨(nk y.1).hash w, .ref y.2.1, y.2.2⟩ : DictEntry)) ∧ (ys.map (·.1)).Nodup
/-! ## data in the heap -/
section
variable (K : PySem.W.Frag) (mg : Str → Option Value) (S : Addr → Prop) (H : Hp)
mutual
inductive Rep : V → D → Prop
  | non : Rep .non .non
  | bl (b : Bool) : Rep (.bl b) (.bl b)
  | int (i : Int) : Rep (.int i) (.int i)
  | str (x : Str) : Rep (.str x) (.str x)
  | tup {a : Addr} {vs : List V} {ds : List D} : ¬ S a → H a = some (.tup vs) → vs.length ≤ sizeLine → Reps vs ds → Rep (.ref a) (.tup ds)
  | lst {a : Addr} {vs : List V} {ds : List D} : ¬ S a → H a = some (.lst vs) → vs.length ≤ sizeLine → Reps vs ds → Rep (.ref a) (.lst ds)
  | dK {a : Addr} {kvs : List (Key × V)} {ds : List (D × D)} : ¬ S a → H a = some (.dK kvs) → kvs.length ≤ sizeLine → ds.map (·.1) = kvs.map (fun p => kD p.1) → Reps (kvs.map (·.2)) (ds.map (·.2)) → Rep (.ref a) (.dct false ds)
  | dT {a : Addr} {kvs : List (List Key × V)} {ds : List (D × D)} : ¬ S a → H a = some (.dT kvs) → kvs.length ≤ sizeLine → ds.map (·.1) = kvs.map (fun p => D.tup (p.1.map kD)) → Reps (kvs.map (·.2)) (ds.map (·.2)) → Rep (.ref a) (.dct true ds)
  | dKz {a : Addr} {o : Obj} {kvs : List (Key × V)} {ds : List (D × D)} : ¬ S a → H a = some (.frz o (.dK kvs)) → kvs.length ≤ sizeLine → ds.map (·.1) = kvs.map (fun p => kD p.1) → Reps (kvs.map (·.2)) (ds.map (·.2)) → Rep (.ref a) (.dct false ds)
  | dTz {a : Addr} {o : Obj} {kvs : List (List Key × V)} {ds : List (D × D)} : ¬ S a → H a = some (.frz o (.dT kvs)) → kvs.length ≤ sizeLine → ds.map (·.1) = kvs.map (fun p => D.tup (p.1.map kD)) → Reps (kvs.map (·.2)) (ds.map (·.2)) → Rep (.ref a) (.dct true ds)
  | ins {a C dx : Addr} {fs : List (Str × V)} {ds : List (Str × D)} {c : Str} : ¬ S a → H a = some (.ins C dx fs) → mg c = some (.ref C) → ds.map (·.1) = fs.map (·.1) → Reps (fs.map (·.2)) (ds.map (·.2)) → Rep (.ref a) (.ins c ds)
  | scr {a : Addr} {u : HO} {ns : List Int} : ¬ S a → H a = some u → (∀ H', H' a = some u → SqL K H' a (ns.map V.int)) → ns.length ≤ sizeLine → Rep (.ref a) (.scr ns)
  | scrK {a : Addr} {ns : List Int} : (∀ H', SqL K H' a (ns.map V.int)) → ns.length ≤ sizeLine → Rep (.ref a) (.scr ns)
  | tpl {a : Addr} {o : Obj} {ns : List Int} : ¬ S a → H a = some (.frz o (.tup (ns.map V.int))) → o.cls = .type "tuple" → o.dict = none → ns.length ≤ sizeLine → Rep (.ref a) (.tpl ns)
  | lrf (q : Addr) : Rep (.ref q) (.lrf q)
  | dcn {a : Addr} {xs : List (N2 × Addr × V)} {ds : List (D × D)} : ¬ S a → H a = some (.ext (NDict a xs)) → xs.length ≤ sizeLine → ds.map (·.1) = xs.map (fun x => nkD x.1) → Reps (xs.map fun x => V.ref x.2.1) (ds.map (·.1)) → Reps (xs.map (·.2.2)) (ds.map (·.2)) → Rep (.ref a) (.dcn ds)
  | exn0 {a : Addr} : Rep (.ref a) (.exn (a, none) [])
  | exn {a dd : Addr} {fs : List (Str × V)} {ds : List (Str × D)} : ¬ S dd → H dd = some (.xd fs) → ds.map (·.1) = fs.map (·.1) → Reps (fs.map (·.2)) (ds.map (·.2)) → Rep (.ref a) (.exn (a, some dd) ds)
inductive Reps : List V → List D → Prop
  | nil : Reps [] []
  | cons {v : V} {vs : List V} {d : D} {ds : List D} : Rep v d → Reps vs ds → Reps (v :: vs) (d :: ds)
end
/-- what stands at an owned address -/
inductive OwnAt : Addr → D → Prop
  | lst {p : Addr} {vs : List V} {ds : List D} : H p = some (.lst vs) → vs.length ≤ sizeLine → Reps K mg S H vs ds → OwnAt p (.lst ds)
  | dK {p : Addr} {kvs : List (Key × V)} {ds : List (D × D)} : H p = some (.dK kvs) → kvs.length ≤ sizeLine → ds.map (·.1) = kvs.map (fun q => kD q.1) → Reps K mg S H (kvs.map (·.2)) (ds.map (·.2)) → OwnAt p (.dct false ds)
  | dT {p : Addr} {kvs : List (List Key × V)} {ds : List (D × D)} : H p = some (.dT kvs) → kvs.length ≤ sizeLine → ds.map (·.1) = kvs.map (fun q => D.tup (q.1.map kD)) → Reps K mg S H (kvs.map (·.2)) (ds.map (·.2)) → OwnAt p (.dct true ds)
  | ins {p C dx : Addr} {fs : List (Str × V)} {ds : List (Str × D)} {c : Str} : H p = some (.ins C dx fs) → mg c = some (.ref C) → ds.map (·.1) = fs.map (·.1) → Reps K mg S H (fs.map (·.2)) (ds.map (·.2)) → OwnAt p (.ins c ds)
  | dcn {p : Addr} {xs : List (N2 × Addr × V)} {ds : List (D × D)} : H p = some (.ext (NDict p xs)) → xs.length ≤ sizeLine → ds.map (·.1) = xs.map (fun x => nkD x.1) → Reps K mg S H (xs.map fun x => V.ref x.2.1) (ds.map (·.1)) → Reps K mg S H (xs.map (·.2.2)) (ds.map (·.2)) → OwnAt p (.dcn ds)
end
section
variable (K : PySem.W.Frag) (mg : Str → Option Value) (S : Addr → Prop) (H : Hp)
mutual
/-- a thing whose parts of one's own stand at the addresses F -/
inductive TreeAt : List Addr → Sh → V → D → Prop
  | leaf {v : V} {d : D} : Rep K mg S H v d → TreeAt [] .leaf v d
  | lst {p : Addr} {F : List Addr} {s : Sh} {vs : List V} {ds : List D} : H p = some (.lst vs) → vs.length ≤ sizeLine → TreesAt F (ds.map fun _ => s) vs ds → TreeAt (p :: F) (.hom s) (.ref p) (.lst ds)
  | dK {p : Addr} {F : List Addr} {s : Sh} {kvs : List (Key × V)} {ds : List (D × D)} : H p = some (.dK kvs) → kvs.length ≤ sizeLine → ds.map (·.1) = kvs.map (fun q => kD q.1) → TreesAt F (ds.map fun _ => s) (kvs.map (·.2)) (ds.map (·.2)) → TreeAt (p :: F) (.hom s) (.ref p) (.dct false ds)
  | dT {p : Addr} {F : List Addr} {s : Sh} {kvs : List (List Key × V)} {ds : List (D × D)} : H p = some (.dT kvs) → kvs.length ≤ sizeLine → ds.map (·.1) = kvs.map (fun q => D.tup (q.1.map kD)) → TreesAt F (ds.map fun _ => s) (kvs.map (·.2)) (ds.map (·.2)) → TreeAt (p :: F) (.hom s) (.ref p) (.dct true ds)
  | dcn {p : Addr} {xs : List (N2 × Addr × V)} {ds : List (D × D)} : H p = some (.ext (NDict p xs)) → xs.length ≤ sizeLine → ds.map (·.1) = xs.map (fun x => nkD x.1) → Reps K mg S H (xs.map fun x => V.ref x.2.1) (ds.map (·.1)) → Reps K mg S H (xs.map (·.2.2)) (ds.map (·.2)) → TreeAt [p] (.hom .leaf) (.ref p) (.dcn ds)
  | tup {a : Addr} {F : List Addr} {ss : List Sh} {vs : List V} {ds : List D} : ¬ S a → H a = some (.tup vs) → vs.length ≤ sizeLine → TreesAt F ss vs ds → TreeAt F (.het ss) (.ref a) (.tup ds)
  | ins {p C dx : Addr} {F : List Addr} {ss : List Sh} {fs : List (Str × V)} {ds : List (Str × D)} {c : Str} : H p = some (.ins C dx fs) → mg c = some (.ref C) → ds.map (·.1) = fs.map (·.1) → TreesAt F ss (fs.map (·.2)) (ds.map (·.2)) → TreeAt (p :: F) (.het ss) (.ref p) (.ins c ds)
inductive TreesAt : List Addr → List Sh → List V → List D → Prop
  | nil : TreesAt [] [] [] []
  | cons {F G : List Addr} {s : Sh} {ss : List Sh} {v : V} {vs : List V} {d : D} {ds : List D} : TreeAt F s v d → TreesAt G ss vs ds → TreesAt (F ++ G) (s :: ss) (v :: vs) (d :: ds)
end
end
section
variable {K : PySem.W.Frag} {mg : Str → Option Value} {S S' : Addr → Prop} {H H' : Hp}
/-! the rule of change: what is not in S stays; no address that is read comes into S' -/
mutual
theorem Rep.go (k : ∀ a o, H a = some o → ¬ S a → H' a = some o) (n : ∀ a o, H a = some o → ¬ S a → ¬ S' a) : ∀ {v : V} {d : D}, Rep K mg S H v d → Rep K mg S' H' v d
  | _, _, .non => .non
  | _, _, .bl b => .bl b
  | _, _, .int i => .int i
  | _, _, .str x => .str x
  | _, _, .tup h r z q => .tup (n _ _ r h) (k _ _ r h) z (Reps.go k n q)
  | _, _, .lst h r z q => .lst (n _ _ r h) (k _ _ r h) z (Reps.go k n q)
  | _, _, .dK h r z e q => .dK (n _ _ r h) (k _ _ r h) z e (Reps.go k n q)
  | _, _, .dT h r z e q => .dT (n _ _ r h) (k _ _ r h) z e (Reps.go k n q)
  | _, _, .dKz h r z e q => .dKz (n _ _ r h) (k _ _ r h) z e (Reps.go k n q)
  | _, _, .dTz h r z e q => .dTz (n _ _ r h) (k _ _ r h) z e (Reps.go k n q)
  | _, _, .scr h r q z => .scr (n _ _ r h) (k _ _ r h) q z
  | _, _, .scrK q z => .scrK q z
  | _, _, .tpl h r c d z => .tpl (n _ _ r h) (k _ _ r h) c d z
  | _, _, .lrf q => .lrf q
  | _, _, .dcn h r z e q q2 => .dcn (n _ _ r h) (k _ _ r h) z e (Reps.go k n q) (Reps.go k n q2)
  | _, _, .exn0 => .exn0
  | _, _, .exn h r e q => .exn (n _ _ r h) (k _ _ r h) e (Reps.go k n q)
  | _, _, .ins h r m e q => .ins (n _ _ r h) (k _ _ r h) m e (Reps.go k n q)
theorem Reps.go (k : ∀ a o, H a = some o → ¬ S a → H' a = some o) (n : ∀ a o, H a = some o → ¬ S a → ¬ S' a) : ∀ {vs : List V} {ds : List D}, Reps K mg S H vs ds → Reps K mg S' H' vs ds
  | _, _, .nil => .nil
  | _, _, .cons h t => .cons (Rep.go k n h) (Reps.go k n t)
end
theorem Reps.ints : ∀ ns : List Int, Reps K mg S H (ns.map V.int) (ns.map D.int)
  | [] => .nil
  | n :: ns => .cons (.int n) (Reps.ints ns)
theorem Reps.len : ∀ {vs : List V} {ds : List D}, Reps K mg S H vs ds → vs.length = ds.length
  | _, _, .nil => rfl
  | _, _, .cons _ t => congrArg (· + 1) t.len
theorem Reps.app : ∀ {vs ws : List V} {ds es : List D}, Reps K mg S H vs ds → Reps K mg S H ws es → Reps K mg S H (vs ++ ws) (ds ++ es)
  | _, _, _, _, .nil, s => s
  | _, _, _, _, .cons h t, s => .cons h (t.app s)
theorem Reps.get : ∀ {vs : List V} {ds : List D} {i : Nat} {v : V}, Reps K mg S H vs ds → vs[i]? = some v → ∃ d, ds[i]? = some d ∧ Rep K mg S H v d
  | _, _, 0, _, .cons h _, e => by
    cases e
    exact ⟨_, rfl, h⟩
  | _, _, i + 1, _, .cons _ t, e => by
    obtain ⟨d, e1, r⟩ := Reps.get (i := i) t (by simpa using e)
    exact ⟨d, by simpa using e1, r⟩
theorem Reps.getD : ∀ {vs : List V} {ds : List D} {i : Nat} {d : D}, Reps K mg S H vs ds → ds[i]? = some d → ∃ v, vs[i]? = some v ∧ Rep K mg S H v d
  | _, _, 0, _, .cons h _, e => by
    cases e
    exact ⟨_, rfl, h⟩
  | _, _, i + 1, _, .cons _ t, e => by
    obtain ⟨d, e1, r⟩ := Reps.getD (i := i) t (by simpa using e)
    exact ⟨d, by simpa using e1, r⟩
theorem Reps.take : ∀ {vs : List V} {ds : List D} (n : Nat), Reps K mg S H vs ds → Reps K mg S H (vs.take n) (ds.take n)
  | _, _, 0, _ => .nil
  | _, _, _ + 1, .nil => .nil
  | _, _, n + 1, .cons h t => .cons h (t.take n)
theorem Reps.drop : ∀ {vs : List V} {ds : List D} (n : Nat), Reps K mg S H vs ds → Reps K mg S H (vs.drop n) (ds.drop n)
  | _, _, 0, h => h
  | _, _, _ + 1, .nil => .nil
  | _, _, n + 1, .cons _ t => Reps.drop n t
theorem Reps.set {v : V} {d : D} (h : Rep K mg S H v d) : ∀ {vs : List V} {ds : List D} (n : Nat), Reps K mg S H vs ds → Reps K mg S H (vs.set n v) (ds.set n d)
  | _, _, _, .nil => .nil
  | _, _, 0, .cons _ t => .cons h t
  | _, _, n + 1, .cons g t => .cons g (t.set h n)
theorem Reps.reverse : ∀ {vs : List V} {ds : List D}, Reps K mg S H vs ds → Reps K mg S H vs.reverse ds.reverse
  | _, _, .nil => .nil
  | _, _, .cons h t => by
    rw [List.reverse_cons, List.reverse_cons]
    exact t.reverse.app (.cons h .nil)
theorem Reps.erase : ∀ {vs : List V} {ds : List D} (n : Nat), Reps K mg S H vs ds → Reps K mg S H (vs.eraseIdx n) (ds.eraseIdx n)
  | _, _, _, .nil => .nil
  | _, _, 0, .cons _ t => t
  | _, _, n + 1, .cons g t => .cons g (t.erase n)
theorem OwnAt.go {p : Addr} {d : D} (hp : ∀ o, H p = some o → H' p = some o) (k : ∀ a o, H a = some o → ¬ S a → H' a = some o) (n : ∀ a o, H a = some o → ¬ S a → ¬ S' a) (h : OwnAt K mg S H p d) : OwnAt K mg S' H' p d := by
  cases h with
  | lst e z q => exact .lst (hp _ e) z (q.go k n)
  | dK e z g q => exact .dK (hp _ e) z g (q.go k n)
  | dT e z g q => exact .dT (hp _ e) z g (q.go k n)
  | ins e m g q => exact .ins (hp _ e) m g (q.go k n)
  | dcn e z g q q2 => exact .dcn (hp _ e) z g (q.go k n) (q2.go k n)
theorem OwnAt.there {p : Addr} {d : D} (h : OwnAt K mg S H p d) : ∃ o, H p = some o ∧ Mut (some o) := by
  cases h with
  | lst e z q => exact ⟨_, e, trivial⟩
  | dK e z g q => exact ⟨_, e, trivial⟩
  | dT e z g q => exact ⟨_, e, trivial⟩
  | ins e m g q => exact ⟨_, e, trivial⟩
  | dcn e z g q q2 => exact ⟨_, e, trivial⟩
/-- a value that an operation may look into: data, or an owned thing -/
def Top (K : PySem.W.Frag) (mg : Str → Option Value) (S : Addr → Prop) (H : Hp) (v : V) (d : D) : Prop := Rep K mg S H v d ∨ ∃ p, v = .ref p ∧ OwnAt K mg S H p d
/-- an owned thing is given up: it is data from now on -/
theorem OwnAt.frozen {p : Addr} {d : D} (h : OwnAt K mg S H p d) (np : ¬ S' p) (n : ∀ a o, H a = some o → ¬ S a → ¬ S' a) : Rep K mg S' H (.ref p) d := by
  cases h with
  | lst e z q => exact .lst np e z (q.go (fun _ _ e _ => e) n)
  | dK e z g q => exact .dK np e z g (q.go (fun _ _ e _ => e) n)
  | dT e z g q => exact .dT np e z g (q.go (fun _ _ e _ => e) n)
  | ins e m g q => exact .ins np e m g (q.go (fun _ _ e _ => e) n)
  | dcn e z g q q2 => exact .dcn np e z g (q.go (fun _ _ e _ => e) n) (q2.go (fun _ _ e _ => e) n)
/-! trees -/
mutual
theorem TreeAt.go (k : ∀ a o, H a = some o → ¬ S a → H' a = some o) (n : ∀ a o, H a = some o → ¬ S a → ¬ S' a) : ∀ {F : List Addr} {s : Sh} {v : V} {d : D}, (∀ p ∈ F, ∀ o, H p = some o → H' p = some o) → TreeAt K mg S H F s v d → TreeAt K mg S' H' F s v d
  | _, _, _, _, _, .leaf r => .leaf (r.go k n)
  | _, _, _, _, f, .lst h z t => .lst (f _ List.mem_cons_self _ h) z (TreesAt.go k n (fun p hp => f p (List.mem_cons_of_mem _ hp)) t)
  | _, _, _, _, f, .dK h z g t => .dK (f _ List.mem_cons_self _ h) z g (TreesAt.go k n (fun p hp => f p (List.mem_cons_of_mem _ hp)) t)
  | _, _, _, _, f, .dT h z g t => .dT (f _ List.mem_cons_self _ h) z g (TreesAt.go k n (fun p hp => f p (List.mem_cons_of_mem _ hp)) t)
  | _, _, _, _, f, .dcn h z g q q2 => .dcn (f _ List.mem_cons_self _ h) z g (q.go k n) (q2.go k n)
  | _, _, _, _, f, .tup r h z t => .tup (n _ _ h r) (k _ _ h r) z (TreesAt.go k n f t)
  | _, _, _, _, f, .ins h m g t => .ins (f _ List.mem_cons_self _ h) m g (TreesAt.go k n (fun p hp => f p (List.mem_cons_of_mem _ hp)) t)
theorem TreesAt.go (k : ∀ a o, H a = some o → ¬ S a → H' a = some o) (n : ∀ a o, H a = some o → ¬ S a → ¬ S' a) : ∀ {F : List Addr} {ss : List Sh} {vs : List V} {ds : List D}, (∀ p ∈ F, ∀ o, H p = some o → H' p = some o) → TreesAt K mg S H F ss vs ds → TreesAt K mg S' H' F ss vs ds
  | _, _, _, _, _, .nil => .nil
  | _, _, _, _, f, .cons t u => .cons (TreeAt.go k n (fun p hp => f p (List.mem_append_left _ hp)) t) (TreesAt.go k n (fun p hp => f p (List.mem_append_right _ hp)) u)
end
mutual
/-- given up: data from now on -/
theorem TreeAt.frozen (n : ∀ a o, H a = some o → ¬ S a → ¬ S' a) : ∀ {F : List Addr} {s : Sh} {v : V} {d : D}, (∀ p ∈ F, ¬ S' p) → TreeAt K mg S H F s v d → Rep K mg S' H v d
  | _, _, _, _, _, .leaf r => r.go (fun _ _ e _ => e) n
  | _, _, _, _, f, .lst h z t => .lst (f _ List.mem_cons_self) h z (TreesAt.frozen n (fun p hp => f p (List.mem_cons_of_mem _ hp)) t)
  | _, _, _, _, f, .dK h z g t => .dK (f _ List.mem_cons_self) h z g (TreesAt.frozen n (fun p hp => f p (List.mem_cons_of_mem _ hp)) t)
  | _, _, _, _, f, .dT h z g t => .dT (f _ List.mem_cons_self) h z g (TreesAt.frozen n (fun p hp => f p (List.mem_cons_of_mem _ hp)) t)
  | _, _, _, _, f, .dcn h z g q q2 => .dcn (f _ List.mem_cons_self) h z g (q.go (fun _ _ e _ => e) n) (q2.go (fun _ _ e _ => e) n)
  | _, _, _, _, f, .tup r h z t => .tup (n _ _ h r) h z (TreesAt.frozen n f t)
  | _, _, _, _, f, .ins h m g t => .ins (f _ List.mem_cons_self) h m g (TreesAt.frozen n (fun p hp => f p (List.mem_cons_of_mem _ hp)) t)
theorem TreesAt.frozen (n : ∀ a o, H a = some o → ¬ S a → ¬ S' a) : ∀ {F : List Addr} {ss : List Sh} {vs : List V} {ds : List D}, (∀ p ∈ F, ¬ S' p) → TreesAt K mg S H F ss vs ds → Reps K mg S' H vs ds
  | _, _, _, _, _, .nil => .nil
  | _, _, _, _, f, .cons t u => .cons (TreeAt.frozen n (fun p hp => f p (List.mem_append_left _ hp)) t) (TreesAt.frozen n (fun p hp => f p (List.mem_append_right _ hp)) u)
end
mutual
theorem TreeAt.there : ∀ {F : List Addr} {s : Sh} {v : V} {d : D}, TreeAt K mg S H F s v d → ∀ p ∈ F, ∃ o, H p = some o ∧ Mut (some o)
  | _, _, _, _, .leaf _, p, hp => by cases hp
  | _, _, _, _, .lst h _ t, p, hp => by
    rcases List.mem_cons.mp hp with z | z
    · rw [z]
      exact ⟨_, h, trivial⟩
    · exact TreesAt.there t p z
  | _, _, _, _, .dK h _ _ t, p, hp => by
    rcases List.mem_cons.mp hp with z | z
    · rw [z]
      exact ⟨_, h, trivial⟩
    · exact TreesAt.there t p z
  | _, _, _, _, .dT h _ _ t, p, hp => by
    rcases List.mem_cons.mp hp with z | z
    · rw [z]
      exact ⟨_, h, trivial⟩
    · exact TreesAt.there t p z
  | _, _, _, _, .dcn h _ _ _ _, p, hp => by
    rcases List.mem_cons.mp hp with z | z
    · rw [z]
      exact ⟨_, h, trivial⟩
    · cases z
  | _, _, _, _, .tup _ _ _ t, p, hp => TreesAt.there t p hp
  | _, _, _, _, .ins h _ _ t, p, hp => by
    rcases List.mem_cons.mp hp with z | z
    · rw [z]
      exact ⟨_, h, trivial⟩
    · exact TreesAt.there t p z
theorem TreesAt.there : ∀ {F : List Addr} {ss : List Sh} {vs : List V} {ds : List D}, TreesAt K mg S H F ss vs ds → ∀ p ∈ F, ∃ o, H p = some o ∧ Mut (some o)
  | _, _, _, _, .nil, p, hp => by cases hp
  | _, _, _, _, .cons t u, p, hp => by
    rcases List.mem_append.mp hp with z | z
    · exact TreeAt.there t p z
    · exact TreesAt.there u p z
end
/-- what is owned, as a tree -/
theorem Reps.trees : ∀ {vs : List V} {ds : List D}, Reps K mg S H vs ds → TreesAt K mg S H [] (ds.map fun _ => Sh.leaf) vs ds
  | _, _, .nil => .nil
  | _, _, .cons h t => .cons (F := []) (.leaf h) t.trees
theorem OwnAt.tree {p : Addr} {d : D} (h : OwnAt K mg S H p d) (hi : ∀ c fs, d ≠ .ins c fs) : TreeAt K mg S H [p] (.hom .leaf) (.ref p) d := by
  cases h with
  | lst e z q => exact .lst e z q.trees
  | dK e z g q => exact .dK e z g (by have := q.trees; rwa [List.map_map] at this)
  | dT e z g q => exact .dT e z g (by have := q.trees; rwa [List.map_map] at this)
  | ins e m g q => exact absurd rfl (hi _ _)
  | dcn e z g q q2 => exact .dcn e z g q q2
/-- what stands at the tape's place: the tape, or a thing that is lent -/
def CelAt (K : PySem.W.Frag) (mg : Str → Option Value) (S : Addr → Prop) (H : Hp) (p : Addr) (t : D) : Prop := OwnAt K mg S H p t ∨ ∃ d, t = .cel p d ∧ OwnAt K mg S H p d
theorem CelAt.go {p : Addr} {d : D} (hp : ∀ o, H p = some o → H' p = some o) (k : ∀ a o, H a = some o → ¬ S a → H' a = some o) (n : ∀ a o, H a = some o → ¬ S a → ¬ S' a) (h : CelAt K mg S H p d) : CelAt K mg S' H' p d := by
  rcases h with h | ⟨e, ed, h⟩
  · exact .inl (h.go hp k n)
  · exact .inr ⟨e, ed, h.go hp k n⟩
theorem CelAt.there {p : Addr} {d : D} (h : CelAt K mg S H p d) : ∃ o, H p = some o ∧ Mut (some o) := by
  rcases h with h | ⟨_, _, h⟩ <;> exact h.there
theorem CelAt.own {p : Addr} {d : D} (h : CelAt K mg S H p d) (hc : ∀ q e, d ≠ .cel q e) : OwnAt K mg S H p d := by
  rcases h with h | ⟨e, ed, h⟩
  · exact h
  · exact absurd ed (hc p e)
end
end Pu
namespace Pu
open PySem L2
/-! ## a def's frame -/
structure FC where
  H0 : Hp
  S0 : Addr → Prop
  tp : Option Addr
  W : WX
  pin : List (V × D)
  Y : Addr → Prop
def isOwn (r : Env) (σ : L2.St) (p : Addr) : Prop := ∃ (i : Nat) (d : D), r[i]? = some (some (.own d)) ∧ σ[i]? = some (some (.ref p))
def SS (C : FC) (Z : Addr → Prop) (r : Env) (σ : L2.St) : Addr → Prop := fun p => C.S0 p ∨ C.tp = some p ∨ isOwn r σ p ∨ Z p
abbrev Z0 : Addr → Prop := fun _ => False
def Ext (C : FC) (H H' : Hp) : Prop := ∀ a o, H a = some o → C.tp ≠ some a → H' a = some o
theorem Ext.refl {C : FC} {H : Hp} : Ext C H H := fun _ _ e _ => e
theorem Ext.trans {C : FC} {H H1 H2 : Hp} (a : Ext C H H1) (b : Ext C H1 H2) : Ext C H H2 := fun x o e n => b x o (a x o e n) n
theorem Ext.same {C : FC} {H H' : Hp} (s : Same H H') : Ext C H H' := fun a o e _ => s a o e
def TapeOk (K : PySem.W.Frag) (mg : Str → Option Value) (S : Addr → Prop) (tp : Option Addr) (T : Tp) (H : Hp) : Prop :=
  match tp with
  | none => T = none
  | some p => ∃ t, T = some t ∧ CelAt K mg S H p t
/-- the trees that slots own -/
def Trees (K : PySem.W.Frag) (mg : Str → Option Value) (C : FC) (S : Addr → Prop) (r : Env) (σ : L2.St) (H : Hp) : Prop := ∃ φ : Nat → List Addr, (∀ (i : Nat) (s : Sh) (d : D), r[i]? = some (some (.tree s d)) → ∃ v, σ[i]? = some (some v) ∧ TreeAt K mg S H (φ i) s v d) ∧ (∀ i, (φ i).Nodup) ∧
  (∀ i, ∀ p ∈ φ i, (C.S0 p ∧ C.Y p) ∧ C.H0 p = none ∧ C.tp ≠ some p) ∧ ∀ i j p, p ∈ φ i → p ∈ φ j → i = j
theorem Trees.mk' {K : PySem.W.Frag} {mg : Str → Option Value} {C C' : FC} {S S' : Addr → Prop} {r r' : Env} {σ σ' : L2.St} {H H' : Hp} (h : Trees K mg C S r σ H) (k : ∀ a o, H a = some o → ¬ S a → H' a = some o) (n : ∀ a o, H a = some o → ¬ S a → ¬ S' a)
    (f : ∀ p, C.S0 p ∧ C.Y p → C.H0 p = none → C.tp ≠ some p → ∀ o, H p = some o → H' p = some o) (hr : ∀ (i : Nat) (s : Sh) (d : D), r'[i]? = some (some (.tree s d)) → r[i]? = some (some (.tree s d)) ∧ σ'[i]? = σ[i]?)
    (hC : ∀ p, C.S0 p ∧ C.Y p → C.H0 p = none → C.tp ≠ some p → (C'.S0 p ∧ C'.Y p) ∧ C'.H0 p = none ∧ C'.tp ≠ some p) : Trees K mg C' S' r' σ' H' := by
  obtain ⟨φ, h1, h2, h3, h4⟩ := h
  refine ⟨φ, fun i s d e => ?_, h2, fun i p hp => ?_, h4⟩
  · obtain ⟨e1, e2⟩ := hr i s d e
    obtain ⟨v, e3, t⟩ := h1 i s d e1
    exact ⟨v, by rw [e2]; exact e3, t.go k n fun p hp => (fun ⟨a, b, c⟩ => f p a b c) (h3 i p hp)⟩
  · obtain ⟨a, b, c⟩ := h3 i p hp
    exact hC p a b c
theorem Trees.less {K : PySem.W.Frag} {mg : Str → Option Value} {C : FC} {S S' : Addr → Prop} {r : Env} {σ : L2.St} {H : Hp} (h : Trees K mg C S r σ H) (n : ∀ a o, H a = some o → ¬ S a → ¬ S' a) : Trees K mg C S' r σ H :=
  h.mk' (fun _ _ e _ => e) n (fun _ _ _ _ _ e => e) (fun _ _ _ e => ⟨e, rfl⟩) fun _ a b c => ⟨a, b, c⟩
theorem Trees.nil {K : PySem.W.Frag} {mg : Str → Option Value} {C : FC} {S : Addr → Prop} {r : Env} {σ : L2.St} {H : Hp} (h : ∀ (i : Nat) (s : Sh) (d : D), r[i]? ≠ some (some (.tree s d))) : Trees K mg C S r σ H :=
  ⟨fun _ => [], fun i s d e => absurd e (h i s d), fun _ => List.nodup_nil, fun _ _ h => absurd h (by simp), fun _ _ _ h => absurd h (by simp)⟩
structure Holds (K : PySem.W.Frag) (mg : Str → Option Value) (C : FC) (Z : Addr → Prop) (r : Env) (T : Tp) (σ : L2.St) (H : Hp) : Prop where
  len : r.length = σ.length
  frame : Ext C C.H0 H
  val : ∀ (i : Nat) (d : D), r[i]? = some (some (.val d)) → ∃ v, σ[i]? = some (some v) ∧ Rep K mg (SS C Z r σ) H v d
  own : ∀ (i : Nat) (d : D), r[i]? = some (some (.own d)) → ∃ p, σ[i]? = some (some (.ref p)) ∧ OwnAt K mg (SS C Z r σ) H p d ∧ C.H0 p = none ∧ C.tp ≠ some p ∧ ¬ Z p ∧ ¬ C.S0 p
  inj : ∀ (i j : Nat) (p : Addr) (d e : D), r[i]? = some (some (.own d)) → r[j]? = some (some (.own e)) → σ[i]? = some (some (.ref p)) → σ[j]? = some (some (.ref p)) → i = j
  tape : TapeOk K mg (SS C Z r σ) C.tp T H
  tslot : ∀ i : Nat, r[i]? = some (some .tape) → ∃ p, C.tp = some p ∧ σ[i]? = some (some (.ref p))
  st : ∀ p, C.S0 p → ∃ o, H p = some o ∧ Mut (some o)
  zt : ∀ p, Z p → ∃ o, H p = some o ∧ Mut (some o)
  pin : ∀ p ∈ C.pin, Rep K mg (SS C Z r σ) H p.1 p.2
  tree : Trees K mg C (SS C Z r σ) r σ H
section
variable {K : PySem.W.Frag} {mg : Str → Option Value} {C : FC} {Z Z' : Addr → Prop} {r : Env} {T T' : Tp} {σ : L2.St} {H H' : Hp}
theorem Holds.tr (h : Holds K mg C Z r T σ H) {p : Addr} (s : SS C Z r σ p) : ∃ o, H p = some o ∧ Mut (some o) := by
  rcases s with s | s | ⟨i, d, e1, e2⟩ | s
  · exact h.st p s
  · have t := h.tape
    unfold TapeOk at t
    rw [s] at t
    obtain ⟨t, _, o⟩ := t
    exact o.there
  · obtain ⟨q, e3, o, _⟩ := h.own i d e1
    rw [e2] at e3
    cases e3
    exact o.there
  · exact h.zt p s
theorem Holds.fresh (h : Holds K mg C Z r T σ H) {p : Addr} (e : H p = none) : ¬ SS C Z r σ p := fun s => by
  obtain ⟨o, q, _⟩ := h.tr s
  rw [e] at q
  cases q
/-- the heap goes on; nothing of what is excluded changes but the tape, which is told anew; the excluded become others -/
theorem Holds.move (h : Holds K mg C Z r T σ H) (e : Ext C H H') (n : ∀ a o, H a = some o → ¬ SS C Z r σ a → ¬ SS C Z' r σ a) (hz : ∀ (i : Nat) (p : Addr) (d : D), r[i]? = some (some (.own d)) → σ[i]? = some (some (.ref p)) → ¬ Z' p)
    (t : TapeOk K mg (SS C Z' r σ) C.tp T' H') (zt : ∀ p, Z' p → ∃ o, H' p = some o ∧ Mut (some o)) : Holds K mg C Z' r T' σ H' := by
  have k : ∀ a o, H a = some o → ¬ SS C Z r σ a → H' a = some o := fun a o q s => e a o q fun z => s (.inr (.inl z))
  refine ⟨h.len, h.frame.trans e, fun i d q => ?_, fun i d q => ?_, h.inj, t, h.tslot, fun p s => ?_, zt, fun p hp => (h.pin p hp).go k n, h.tree.mk' k n (fun p _ _ nt o q => e p o q nt) (fun _ _ _ e => ⟨e, rfl⟩) fun _ a b c => ⟨a, b, c⟩⟩
  · obtain ⟨v, e1, p⟩ := h.val i d q
    exact ⟨v, e1, p.go k n⟩
  · obtain ⟨p, e1, o, f, g, g2, g3⟩ := h.own i d q
    exact ⟨p, e1, o.go (fun o q => e _ o q g) k n, f, g, hz i p d q e1, g3⟩
  · obtain ⟨o, q, m⟩ := h.st p s
    by_cases z : C.tp = some p
    · unfold TapeOk at t
      rw [z] at t
      obtain ⟨t, _, w⟩ := t
      exact w.there
    · exact ⟨o, e p o q z, m⟩
theorem ss_same {Z : Addr → Prop} : ∀ (a : Addr) (o : HO), H a = some o → ¬ SS C Z r σ a → ¬ SS C Z r σ a := fun _ _ _ s => s
/-- nothing changes but that there is more -/
theorem Holds.more (h : Holds K mg C Z r T σ H) (s : Same H H') : Holds K mg C Z r T σ H' := by
  refine h.move (.same s) ss_same (fun i p d e1 e2 z => ?_) ?_ fun p z => ?_
  · obtain ⟨q, e3, _, _, _, nz, _⟩ := h.own i d e1
    rw [e2] at e3
    cases e3
    exact nz z
  · have t := h.tape
    unfold TapeOk at t ⊢
    cases hp : C.tp with
    | none =>
      rw [hp] at t
      exact t
    | some p =>
      rw [hp] at t
      obtain ⟨t, e, o⟩ := t
      exact ⟨t, e, o.go (fun o q => s _ o q) (fun a o q _ => s a o q) ss_same⟩
  · obtain ⟨o, q, m⟩ := h.zt p z
    exact ⟨o, s p o q, m⟩
/-- a new object is set apart -/
theorem Holds.apart (h : Holds K mg C Z0 r T σ H) (s : Same H H') {p : Addr} (hp : H p = none) (hq : ∃ o, H' p = some o ∧ Mut (some o)) : Holds K mg C (fun a => a = p) r T σ H' := by
  have n : ∀ a o, H a = some o → ¬ SS C Z0 r σ a → ¬ SS C (fun a => a = p) r σ a := fun a o e q z => by
    rcases z with z | z | z | z
    · exact q (.inl z)
    · exact q (.inr (.inl z))
    · exact q (.inr (.inr (.inl z)))
    · rw [z, hp] at e
      cases e
  refine h.move (.same s) n (fun i q d e1 e2 z => ?_) ?_ fun q z => ?_
  · obtain ⟨u, e3, o, _⟩ := h.own i d e1
    rw [e2] at e3
    cases e3
    obtain ⟨o, e, _⟩ := o.there
    rw [z, hp] at e
    cases e
  · have t := h.tape
    unfold TapeOk at t ⊢
    cases hc : C.tp with
    | none =>
      rw [hc] at t
      exact t
    | some u =>
      rw [hc] at t
      obtain ⟨t, e, o⟩ := t
      exact ⟨t, e, o.go (fun o q => s _ o q) (fun a o q _ => s a o q) n⟩
  · rw [z]
    exact hq
/-- new objects are set apart -/
theorem Holds.aparts (h : Holds K mg C Z0 r T σ H) (s : Same H H') {F : List Addr} (hp : ∀ p ∈ F, H p = none) (hq : ∀ p ∈ F, ∃ o, H' p = some o ∧ Mut (some o)) : Holds K mg C (fun a => a ∈ F) r T σ H' := by
  have n : ∀ a o, H a = some o → ¬ SS C Z0 r σ a → ¬ SS C (fun a => a ∈ F) r σ a := fun a o e q z => by
    rcases z with z | z | z | z
    · exact q (.inl z)
    · exact q (.inr (.inl z))
    · exact q (.inr (.inr (.inl z)))
    · rw [hp a z] at e
      cases e
  refine h.move (.same s) n (fun i q d e1 e2 z => ?_) ?_ fun q z => hq q z
  · obtain ⟨u, e3, o, _⟩ := h.own i d e1
    rw [e2] at e3
    cases e3
    obtain ⟨o, e, _⟩ := o.there
    rw [hp q z] at e
    cases e
  · have t := h.tape
    unfold TapeOk at t ⊢
    cases hc : C.tp with
    | none =>
      rw [hc] at t
      exact t
    | some u =>
      rw [hc] at t
      obtain ⟨t, e, o⟩ := t
      exact ⟨t, e, o.go (fun o q => s _ o q) (fun a o q _ => s a o q) n⟩
theorem ss_less {Z : Addr → Prop} (a : Addr) (s : SS C Z0 r σ a) : SS C Z r σ a := by
  rcases s with s | s | s | s
  · exact .inl s
  · exact .inr (.inl s)
  · exact .inr (.inr (.inl s))
  · exact s.elim
/-- .. and given up -/
theorem Holds.join (h : Holds K mg C Z r T σ H) : Holds K mg C Z0 r T σ H := by
  have n : ∀ a o, H a = some o → ¬ SS C Z r σ a → ¬ SS C Z0 r σ a := fun a _ _ s z => s (ss_less a z)
  refine h.move Ext.refl n (fun _ _ _ _ _ z => z) ?_ fun _ z => z.elim
  have t := h.tape
  unfold TapeOk at t ⊢
  cases hc : C.tp with
  | none =>
    rw [hc] at t
    exact t
  | some u =>
    rw [hc] at t
    obtain ⟨t, e, o⟩ := t
    exact ⟨t, e, o.go (fun o q => q) (fun a o q _ => q) n⟩
end
/-- more is excluded -/
abbrev FC.plus (C : FC) (Y : Addr → Prop) : FC := { C with S0 := fun a => C.S0 a ∨ Y a, Y := Y }
/-- what holds between statements: some addresses are those of trees -/
def HoldsY (K : PySem.W.Frag) (mg : Str → Option Value) (C : FC) (r : Env) (T : Tp) (σ : L2.St) (H : Hp) : Prop := ∃ Y, Holds K mg (C.plus Y) Z0 r T σ H ∧ ∀ p, Y p → ¬ C.S0 p
/-! ## what an expression is worth -/
/-- an exception as it lies -/
def ExcAt (K : PySem.W.Frag) (mg : Str → Option Value) (S : Addr → Prop) (H : Hp) (c : Str) (fs : List (Str × D)) (cls : Value) (d : Option Addr) : Prop :=
  ∃ Ca : Addr, mg c = some (.ref Ca) ∧ cls = .ref Ca ∧ ((fs = [] ∧ d = none) ∨ ∃ (dd : Addr) (xs : List (Str × V)), d = some dd ∧ H dd = some (.xd xs) ∧ fs.map (·.1) = xs.map (·.1) ∧ Reps K mg S H (xs.map (·.2)) (fs.map (·.2)))
/-- what is asked of a run: of its worth G, of an exception that it is taken -/
def PostG {B : Type} (K : PySem.W.Frag) (mg : Str → Option Value) (C : FC) (σ : L2.St) (G : B → Prop) : Rs B → Prop
  | .ok b => G b
  | .exc c fs T r => ∀ cls d H', Holds K mg C Z0 r T σ H' → ExcAt K mg (SS C Z0 r σ) H' c fs cls d → C.W cls d σ H'
  | .stuck => False
section
variable {K : PySem.W.Frag} {mg : Str → Option Value} {C : FC} {σ : L2.St} {A B : Type} {G G2 : B → Prop}
theorem PostG.bind {x : Rs A} {g : A → Rs B} (h : PostG K mg C σ G (x.bind g)) : PostG K mg C σ (fun a => PostG K mg C σ G (g a)) x := by
  cases x <;> exact h
theorem PostG.imp {x : Rs B} (h : PostG K mg C σ G x) (i : ∀ b, G b → G2 b) : PostG K mg C σ G2 x := by
  cases x with
  | ok b => exact i b h
  | exc c fs T r => exact h
  | stuck => exact h
end
def TopC (K : PySem.W.Frag) (mg : Str → Option Value) (C : FC) (r : Env) (σ : L2.St) (H : Hp) (v : V) (d : D) : Prop := Rep K mg (SS C Z0 r σ) H v d ∨ ∃ p, v = .ref p ∧ C.tp ≠ some p ∧ OwnAt K mg (SS C Z0 r σ) H p d
def GV (K : PySem.W.Frag) (mg : Str → Option Value) (C : FC) (r : Env) (σ : L2.St) (H : Hp) (Q : VK) : VD × Tp → Prop
  | (.val d, T) => ∀ v H', Holds K mg C Z0 r T σ H' → Ext C H H' → Rep K mg (SS C Z0 r σ) H' v d → Q v H'
  | (.own d, T) => ∀ p H', H p = none → Holds K mg C (fun a => a = p) r T σ H' → Ext C H H' → OwnAt K mg (SS C (fun a => a = p) r σ) H' p d → Q (.ref p) H'
  | (.peek d, T) => ∀ v H', Holds K mg C Z0 r T σ H' → Ext C H H' → TopC K mg C r σ H' v d → Q v H'
  | (.tape, _) => False
  | (.tree s d, T) => ∀ v F H', (∀ p ∈ F, H p = none) → F.Nodup → Holds K mg C (fun a => a ∈ F) r T σ H' → Ext C H H' → TreeAt K mg (SS C (fun a => a ∈ F) r σ) H' F s v d → Q v H'
  | (.look d, T) => ∀ v H', Holds K mg C Z0 r T σ H' → Ext C H H' → Rep K mg (fun a => C.tp = some a) H' v d → Q v H'
abbrev Post (K : PySem.W.Frag) (mg : Str → Option Value) (C : FC) (r : Env) (σ : L2.St) (H : Hp) (Q : VK) : Rs (VD × Tp) → Prop := PostG K mg C σ (GV K mg C r σ H Q)
def tE (K : PySem.W.Frag) (mg : Str → Option Value) (C : FC) (f : DE) : TE := fun σ H Q => ∃ r T, Holds K mg C Z0 r T σ H ∧ Post K mg C r σ H Q (f r T)
abbrev SE (X : Cx) (C : FC) (e : Expr) (f : DE) : Prop := PE X e (tE X.K X.mg C f)
/-- weaken a reading -/
theorem pe_imp {X : Cx} {e : Expr} {t t' : TE} (h : PE X e t) (i : ∀ σ H Q, t' σ H Q → t σ H Q) : PE X e t' := ⟨fun pins s σ H Q I q => h.run pins s σ H Q I (i σ H Q q)⟩
theorem pt_imp {X : Cx} {e : Expr} {t t' : TT} (h : PT X e t) (i : ∀ σ H Q, t' σ H Q → t σ H Q) : PT X e t' := ⟨fun pins s σ H Q I q => h.run pins s σ H Q I (i σ H Q q)⟩
theorem ps_imp {X : Cx} {e : Stmt} {t t' : TS} (h : PS X e t) (i : ∀ D σ H, t' D σ H → t D σ H) : PS X e t' := ⟨fun pins s σ H D I q => h.run pins s σ H D I (i D σ H q)⟩
theorem pss_imp {X : Cx} {e : List Stmt} {t t' : TS} (h : PSs X e t) (i : ∀ D σ H, t' D σ H → t D σ H) : PSs X e t' := ⟨fun pins s σ H D I q => h.run pins s σ H D I (i D σ H q)⟩
theorem pa_imp {X : Cx} {e : List Expr} {t t' : TA} (h : PA X e t) (i : ∀ σ H Q, t' σ H Q → t σ H Q) : PA X e t' := ⟨fun pos pins s σ H Q I q => h.run pos pins s σ H Q I (i σ H Q q)⟩
/-- the worth as plain data; as what an operation may look into -/
def dv1 : VD × Tp → Rs (D × Tp)
  | (.val d, T) => .ok (d, T)
  | (.own d, T) => .ok (d, T)
  | _ => .stuck
def dt1 : VD × Tp → Rs (D × Tp)
  | (.val d, T) => .ok (d, T)
  | (.own d, T) => .ok (d, T)
  | (.peek d, T) => .ok (d, T)
  | _ => .stuck
def dv (x : Rs (VD × Tp)) : Rs (D × Tp) := x.bind dv1
def dt (x : Rs (VD × Tp)) : Rs (D × Tp) := x.bind dt1
@[simp] theorem dv_val (d : D) (T : Tp) : dv (.ok (.val d, T)) = .ok (d, T) := rfl
@[simp] theorem dv_own (d : D) (T : Tp) : dv (.ok (.own d, T)) = .ok (d, T) := rfl
@[simp] theorem dv_exc (c : Str) (fs : List (Str × D)) (T : Tp) (r : Env) : dv (.exc c fs T r) = .exc c fs T r := rfl
@[simp] theorem dt_val (d : D) (T : Tp) : dt (.ok (.val d, T)) = .ok (d, T) := rfl
@[simp] theorem dt_own (d : D) (T : Tp) : dt (.ok (.own d, T)) = .ok (d, T) := rfl
@[simp] theorem dt_peek (d : D) (T : Tp) : dt (.ok (.peek d, T)) = .ok (d, T) := rfl
@[simp] theorem dt_exc (c : Str) (fs : List (Str × D)) (T : Tp) (r : Env) : dt (.exc c fs T r) = .exc c fs T r := rfl
section
variable {K : PySem.W.Frag} {mg : Str → Option Value} {C : FC} {r : Env} {T : Tp} {σ : L2.St} {H H1 : Hp}
/-- its value is used as data: what is asked of the run of x, then of what follows, g -/
theorem gv_dv {B : Type} {G : B → Prop} {Q : VK} {x : Rs (VD × Tp)} {g : D × Tp → Rs B} (h0 : Holds K mg C Z0 r T σ H) (P : PostG K mg C σ G ((dv x).bind g))
    (k : ∀ d T' v H', Holds K mg C Z0 r T' σ H' → Ext C H H' → Rep K mg (SS C Z0 r σ) H' v d → PostG K mg C σ G (g (d, T')) → Q v H') : Post K mg C r σ H Q x := by
  refine (PostG.bind (PostG.bind P)).imp fun p P => ?_
  obtain ⟨v, T'⟩ := p
  cases v with
  | val d => exact fun v H' h1 e1 p => k d T' v H' h1 e1 p P
  | own d => exact fun p H' hp h1 e1 o => k d T' (.ref p) H' h1.join e1 (o.frozen (h0.fresh hp) (fun a o e s z => s (ss_less a z))) P
  | peek d => exact (show False from P).elim
  | tape => exact (show False from P)
  | tree s d => exact (show False from P).elim
  | look d => exact (show False from P).elim
theorem gv_dt {B : Type} {G : B → Prop} {Q : VK} {x : Rs (VD × Tp)} {g : D × Tp → Rs B} (h0 : Holds K mg C Z0 r T σ H) (P : PostG K mg C σ G ((dt x).bind g))
    (k : ∀ d T' v H', Holds K mg C Z0 r T' σ H' → Ext C H H' → TopC K mg C r σ H' v d → PostG K mg C σ G (g (d, T')) → Q v H') : Post K mg C r σ H Q x := by
  refine (PostG.bind (PostG.bind P)).imp fun p P => ?_
  obtain ⟨v, T'⟩ := p
  cases v with
  | val d => exact fun v H' h1 e1 p => k d T' v H' h1 e1 (.inl p) P
  | own d => exact fun p H' hp h1 e1 o => k d T' (.ref p) H' h1.join e1 (.inl (o.frozen (h0.fresh hp) (fun a o e s z => s (ss_less a z)))) P
  | peek d => exact fun v H' h1 e1 p => k d T' v H' h1 e1 p P
  | tape => exact (show False from P)
  | tree s d => exact (show False from P).elim
  | look d => exact (show False from P).elim
theorem back (h0 : Holds K mg C Z0 r T σ H1) (e : Ext C H H1) {p : Addr} (hp : H1 p = none) : H p = none := by
  cases q : H p with
  | none => rfl
  | some o =>
    by_cases z : C.tp = some p
    · exact absurd (.inr (.inl z)) (h0.fresh hp)
    · rw [e p o q z] at hp
      cases hp
/-- an end, reached through a heap between -/
theorem gv_from {Q : VK} {p : VD × Tp} (h0 : Holds K mg C Z0 r T σ H1) (e : Ext C H H1) (h : GV K mg C r σ H Q p) : GV K mg C r σ H1 Q p := by
  obtain ⟨v, T'⟩ := p
  cases v with
  | val d => exact fun v H' h1 e1 p => h v H' h1 (e.trans e1) p
  | own d => exact fun p H' hp h1 e1 o => h p H' (back h0 e hp) h1 (e.trans e1) o
  | peek d => exact fun v H' h1 e1 p => h v H' h1 (e.trans e1) p
  | tape => exact h
  | tree s d => exact fun v F H' hp hn h1 e1 o => h v F H' (fun p q => back h0 e (hp p q)) hn h1 (e.trans e1) o
  | look d => exact fun v H' h1 e1 p => h v H' h1 (e.trans e1) p
theorem post_from {Q : VK} {x : Rs (VD × Tp)} (h0 : Holds K mg C Z0 r T σ H1) (e : Ext C H H1) (h : Post K mg C r σ H Q x) : Post K mg C r σ H1 Q x := h.imp fun _ q => gv_from h0 e q
theorem Reps.ext {Z : Addr → Prop} {vs : List V} {ds : List D} (e : Ext C H H1) (p : Reps K mg (SS C Z r σ) H vs ds) : Reps K mg (SS C Z r σ) H1 vs ds := p.go (fun a o q s => e a o q fun z => s (.inr (.inl z))) ss_same
theorem Rep.ext {Z : Addr → Prop} {v : V} {d : D} (e : Ext C H H1) (p : Rep K mg (SS C Z r σ) H v d) : Rep K mg (SS C Z r σ) H1 v d := p.go (fun a o q s => e a o q fun z => s (.inr (.inl z))) ss_same
theorem TopC.ext {v : V} {d : D} (e : Ext C H H1) (p : TopC K mg C r σ H v d) : TopC K mg C r σ H1 v d := by
  rcases p with p | ⟨q, ev, nt, o⟩
  · exact .inl (p.ext e)
  · exact .inr ⟨q, ev, nt, o.go (fun o z => e _ o z nt) (fun a o q s => e a o q fun z => s (.inr (.inl z))) ss_same⟩
theorem TopC.top {v : V} {d : D} (p : TopC K mg C r σ H v d) : Top K mg (SS C Z0 r σ) H v d := by
  rcases p with p | ⟨q, ev, nt, o⟩
  · exact .inl p
  · exact .inr ⟨q, ev, o⟩
end
end Pu
namespace Pu
open PySem L2
/-! ## operations on data -/
/-- what is asked behind an operation that changes nothing that stands -/
def Res1 (K : PySem.W.Frag) (mg : Str → Option Value) (S : Addr → Prop) (H : Hp) (z : VD) (Q : VK) : Prop := match z with
  | .val d => ∀ v H', Same H H' → Rep K mg S H' v d → Q v H'
  | .own d => ∀ p H', H p = none → Same H H' → OwnAt K mg (fun a => S a ∨ a = p) H' p d → Q (.ref p) H'
  | _ => False
/-- all that is excluded is there -/
def Trk (S : Addr → Prop) (H : Hp) : Prop := ∀ p, S p → ∃ o, H p = some o ∧ Mut (some o)
theorem Trk.fresh {S : Addr → Prop} {H : Hp} (t : Trk S H) {p : Addr} (h : H p = none) : ¬ S p := fun s => by
  obtain ⟨o, e, _⟩ := t p s
  rw [h] at e
  cases e
/-- arguments that a built-in function may look into -/
inductive Tops (K : PySem.W.Frag) (mg : Str → Option Value) (S : Addr → Prop) (H : Hp) : List V → List D → Prop
  | nil : Tops K mg S H [] []
  | cons {v : V} {vs : List V} {d : D} {ds : List D} : Top K mg S H v d → Tops K mg S H vs ds → Tops K mg S H (v :: vs) (d :: ds)
def R2D (K : PySem.W.Frag) (mg : Str → Option Value) (r : R2) (op : D → D → Rs VD) : Prop :=
  ∀ (S : Addr → Prop) (H : Hp) (x y : V) (dx dy : D) (Q : VK) (z : VD), Trk S H → Top K mg S H x dx → Top K mg S H y dy → op dx dy = .ok z → Res1 K mg S H z Q → r x y H Q
def R1D (K : PySem.W.Frag) (mg : Str → Option Value) (r : V → Hp → VK → Prop) (op : D → Rs VD) : Prop :=
  ∀ (S : Addr → Prop) (H : Hp) (x : V) (dx : D) (Q : VK) (z : VD), Trk S H → Top K mg S H x dx → op dx = .ok z → Res1 K mg S H z Q → r x H Q
def RnD (K : PySem.W.Frag) (mg : Str → Option Value) (r : List V → Hp → VK → Prop) (op : List D → Rs VD) : Prop :=
  ∀ (S : Addr → Prop) (H : Hp) (xs : List V) (ds : List D) (Q : VK) (z : VD), Trk S H → Tops K mg S H xs ds → op ds = .ok z → Res1 K mg S H z Q → r xs H Q
section
variable {K : PySem.W.Frag} {mg : Str → Option Value} {S : Addr → Prop} {H : Hp} {Q : VK}
theorem Res1.pure {d : D} {v : V} (h : Res1 K mg S H (.val d) Q) (r : Rep K mg S H v d) : Q v H := h v H (Same.refl H) r
/-- a new object -/
theorem same_new {p : Addr} {o : HO} (hp : H p = none) : Same H (upd H p o) := fun a u e => by
  rw [upd_ne (ne_of_none e hp)]
  exact e
theorem Reps.new {vs : List V} {ds : List D} {p : Addr} {o : HO} (hp : H p = none) (r : Reps K mg S H vs ds) : Reps K mg (fun a => S a ∨ a = p) (upd H p o) vs ds :=
  r.go (fun a u e _ => same_new hp a u e) fun a u e s z => by
    rcases z with z | z
    · exact s z
    · rw [z, hp] at e
      cases e
theorem Res1.newL {vs : List V} {ds : List D} {p : Addr} (h : Res1 K mg S H (.own (.lst ds)) Q) (hp : H p = none) (z : vs.length ≤ sizeLine) (r : Reps K mg S H vs ds) : Q (.ref p) (upd H p (.lst vs)) :=
  h p _ hp (same_new hp) (.lst upd_same z (r.new hp))
theorem Res1.newT {vs : List V} {ds : List D} {p : Addr} (t : Trk S H) (h : Res1 K mg S H (.val (.tup ds)) Q) (hp : H p = none) (z : vs.length ≤ sizeLine) (r : Reps K mg S H vs ds) : Q (.ref p) (upd H p (.tup vs)) :=
  h (.ref p) _ (same_new hp) (.tup (t.fresh hp) upd_same z (r.go (fun a u e _ => same_new hp a u e) fun _ _ _ s => s))
theorem Top.sqT {v : V} {ds : List D} (h : Top K mg S H v (.tup ds)) : ∃ a vs, v = .ref a ∧ SqT K H a vs ∧ vs.length ≤ sizeLine ∧ Reps K mg S H vs ds := by
  rcases h with h | ⟨p, rfl, h⟩
  · cases h with
    | tup s e z q => exact ⟨_, _, rfl, .of e, z, q⟩
  · cases h
theorem Top.tpl {v : V} {ns : List Int} (h : Top K mg S H v (.tpl ns)) : ∃ a o, v = .ref a ∧ H a = some (.frz o (.tup (ns.map V.int))) ∧ o.cls = .type "tuple" ∧ o.dict = none ∧ ns.length ≤ sizeLine := by
  rcases h with h | ⟨p, rfl, h⟩
  · cases h with
    | tpl s e c d z => exact ⟨_, _, rfl, e, c, d, z⟩
  · cases h
theorem Top.tplT {v : V} {ns : List Int} (h : Top K mg S H v (.tpl ns)) : ∃ a, v = .ref a ∧ SqT K H a (ns.map V.int) ∧ ns.length ≤ sizeLine := by
  obtain ⟨a, o, e, h1, _, _, z⟩ := h.tpl
  exact ⟨a, e, .inl (.inr ⟨o, h1⟩), z⟩
theorem Top.rep {v : V} {ds : List D} (h : Top K mg S H v (.tup ds)) : Rep K mg S H v (.tup ds) := by
  rcases h with h | ⟨p, rfl, h⟩
  · exact h
  · cases h
theorem Top.sqL {v : V} {ds : List D} (h : Top K mg S H v (.lst ds)) : ∃ a vs, v = .ref a ∧ H a = some (.lst vs) ∧ vs.length ≤ sizeLine ∧ Reps K mg S H vs ds := by
  rcases h with h | ⟨p, rfl, h⟩
  · cases h with
    | lst s e z q => exact ⟨_, _, rfl, e, z, q⟩
  · cases h with
    | lst e z q => exact ⟨_, _, rfl, e, z, q⟩
theorem Top.int {v : V} {i : Int} (h : Top K mg S H v (.int i)) : v = .int i := by
  rcases h with h | ⟨p, rfl, h⟩ <;> cases h
  rfl
theorem Top.bl {v : V} {b : Bool} (h : Top K mg S H v (.bl b)) : v = .bl b := by
  rcases h with h | ⟨p, rfl, h⟩ <;> cases h
  rfl
theorem Top.str {v : V} {b : Str} (h : Top K mg S H v (.str b)) : v = .str b := by
  rcases h with h | ⟨p, rfl, h⟩ <;> cases h
  rfl
theorem Top.non {v : V} (h : Top K mg S H v .non) : v = .non := by
  rcases h with h | ⟨p, rfl, h⟩ <;> cases h
  rfl
theorem Rep.tupRef {v : V} {ds : List D} (h : Rep K mg S H v (.tup ds)) : ∃ a, v = .ref a := by
  cases h <;> exact ⟨_, rfl⟩
theorem Rep.lstRef {v : V} {ds : List D} (h : Rep K mg S H v (.lst ds)) : ∃ a, v = .ref a := by
  cases h <;> exact ⟨_, rfl⟩
end
section
variable {K : PySem.W.Frag} {mg : Str → Option Value} {C : FC} {r : Env} {T : Tp} {σ : L2.St} {H H1 : Hp} {Q : VK}
theorem Holds.trk {Z : Addr → Prop} (h : Holds K mg C Z r T σ H) : Trk (SS C Z r σ) H := fun _ s => h.tr s
theorem gv_res {z : VD} (h0 : Holds K mg C Z0 r T σ H) (h : GV K mg C r σ H Q (z, T)) (hz : ∀ d, z ≠ .peek d ∧ z ≠ .look d ∧ ∀ s, z ≠ .tree s d) : Res1 K mg (SS C Z0 r σ) H z Q := by
  cases z with
  | val d => exact fun v H' s p => h v H' (h0.more s) (.same s) p
  | own d =>
    refine fun p H' hp s o => ?_
    have e2 : ∀ a, (SS C Z0 r σ a ∨ a = p) ↔ SS C (fun a => a = p) r σ a := fun a => by
      unfold SS
      constructor
      · rintro ((z | z | z | z) | z)
        · exact .inl z
        · exact .inr (.inl z)
        · exact .inr (.inr (.inl z))
        · exact z.elim
        · exact .inr (.inr (.inr z))
      · rintro (z | z | z | z)
        · exact .inl (.inl z)
        · exact .inl (.inr (.inl z))
        · exact .inl (.inr (.inr (.inl z)))
        · exact .inr z
    exact h p H' hp (h0.apart s hp o.there) (.same s) (o.go (fun _ q => q) (fun _ _ q _ => q) fun a _ _ n z => n ((e2 a).mpr z))
  | peek d => exact absurd rfl (hz d).1
  | tape => exact h
  | tree s d => exact absurd rfl ((hz d).2.2 s)
  | look d => exact absurd rfl (hz d).2.1
end
/-- a worth, with the tape as it is -/
def lift (z : Rs VD) (T : Tp) : Rs (VD × Tp) := z.bind fun v => .ok (v, T)
@[simp] theorem lift_ok (z : VD) (T : Tp) : lift (.ok z) T = .ok (z, T) := rfl
@[simp] theorem lift_stuck (T : Tp) : lift .stuck T = .stuck := rfl
def eOp (op : D → D → Rs VD) (f g : DE) : DE := fun r T => (dt (f r T)).bind fun p => (dt (g r p.2)).bind fun q => lift (op p.1 q.1) q.2
def eUn (op : D → Rs VD) (f : DE) : DE := fun r T => (dt (f r T)).bind fun p => lift (op p.1) p.2
/-- an operation that raises nothing -/
def Quiet (x : Rs VD) : Prop := x = .stuck ∨ (∃ d, x = .ok (.val d)) ∨ ∃ d, x = .ok (.own d)
theorem lift_ex {K : PySem.W.Frag} {mg : Str → Option Value} {C : FC} {r : Env} {T : Tp} {σ : L2.St} {H : Hp} {Q : VK} {x : Rs VD} (hx : Quiet x) (h0 : Holds K mg C Z0 r T σ H) (h : Post K mg C r σ H Q (lift x T)) : ∃ z, x = .ok z ∧ Res1 K mg (SS C Z0 r σ) H z Q := by
  rcases hx with e | ⟨d, e⟩ | ⟨d, e⟩
  · rw [e] at h
    exact (show False from h).elim
  · rw [e] at h
    exact ⟨_, e, gv_res h0 h fun _ => ⟨nofun, nofun, nofun⟩⟩
  · rw [e] at h
    exact ⟨_, e, gv_res h0 h fun _ => ⟨nofun, nofun, nofun⟩⟩
def Quiet1 (op : D → Rs VD) : Prop := ∀ d, Quiet (op d)
def Quiet2 (op : D → D → Rs VD) : Prop := ∀ d e, Quiet (op d e)
section
variable {X : Cx} {C : FC} {a b : Expr} {f g : DE} {pos : Pos} {r : R2} {op : D → D → Rs VD}
theorem t_op (hd : R2D X.K X.mg r op) (hq : Quiet2 op) : ∀ (σ : L2.St) (H : Hp) (Q : VK), tE X.K X.mg C (eOp op f g) σ H Q → tOp r (tE X.K X.mg C f) (tE X.K X.mg C g) σ H Q := by
  rintro σ H Q ⟨ρ, T, h, P⟩
  refine ⟨ρ, T, h, gv_dt h P fun d T' v H1 h1 e1 p P1 => ⟨ρ, T', h1, gv_dt h1 P1 fun d2 T2 v2 H2 h2 e2 p2 P2 => ?_⟩⟩
  obtain ⟨z, ez, P3⟩ := lift_ex (hq d d2) h2 (post_from h2 (e1.trans e2) P2)
  exact hd _ H2 v v2 d d2 Q z h2.trk (p.ext e2).top p2.top ez P3
theorem se_op {o : Operator} (ho : OpR X (binaryOp o) r) (hd : R2D X.K X.mg r op) (hq : Quiet2 op) (ha : SE X C a f) (hb : SE X C b g) : SE X C (.BinOp a o b pos) (eOp op f g) :=
  pe_imp (pe_op ho ha hb) (t_op hd hq)
theorem se_cmp {o : CmpOp} (ho : OpR X (compareOp o) r) (hd : R2D X.K X.mg r op) (hq : Quiet2 op) (ha : SE X C a f) (hb : SE X C b g) (hm : behindInMarks o b = false) : SE X C (.Compare a [o] [b] pos) (eOp op f g) :=
  pe_imp (pe_cmpR ho ha hb hm) (t_op hd hq)
theorem se_ix (hr : IxR X r) (hd : R2D X.K X.mg r op) (hq : Quiet2 op) (ha : SE X C a f) (hb : SE X C b g) (hs : PlainIx b) : SE X C (.Subscript a b pos) (eOp op f g) :=
  pe_imp (pe_ix hr ha hb hs) (t_op hd hq)
theorem t_un {r : V → Hp → VK → Prop} {op : D → Rs VD} (hd : R1D X.K X.mg r op) (hq : Quiet1 op) : ∀ (σ : L2.St) (H : Hp) (Q : VK), tE X.K X.mg C (eUn op f) σ H Q → tUn r (tE X.K X.mg C f) σ H Q := by
  rintro σ H Q ⟨ρ, T, h, P⟩
  refine ⟨ρ, T, h, gv_dt h P fun d T' v H1 h1 e1 p P1 => ?_⟩
  obtain ⟨z, ez, P3⟩ := lift_ex (hq d) h1 (post_from h1 e1 P1)
  exact hd _ H1 v d Q z h1.trk p.top ez P3
theorem se_un {o : UnaryOp} {r : V → Hp → VK → Prop} {op : D → Rs VD} (ho : UnR X (unaryOp o) r) (hd : R1D X.K X.mg r op) (hq : Quiet1 op) (ha : SE X C a f) : SE X C (.UnaryOp o a pos) (eUn op f) :=
  pe_imp (pe_un ho ha) (t_un hd hq)
end
/-! ## names and constants -/
/-- a name -/
def eVar (i : Nat) : DE := fun r T => match r[i]? with
  | some (some (.val d)) => .ok (.val d, T)
  | some (some (.own d)) => .ok (.peek d, T)
  | _ => .stuck
def eC (d : D) : DE := fun _ T => .ok (.val d, T)
section
variable {X : Cx} {C : FC}
theorem se_var (i : Nat) {x : Str} {pos : Pos} (hN : X.N[i]? = some x := by rfl) (hv : Vis X.env.scope x := by first | exact Or.inl rfl | exact Or.inr (Or.inl rfl) | exact Or.inr (Or.inr rfl))
    (hd : (x == ("__debug__" : Str)) = false := by decide) (hcd : (x == ("__classdict__" : Str)) = false := by decide) : SE X C (.Name x pos) (eVar i) := by
  refine pe_imp (pe_var hN hv hd hcd) ?_
  rintro σ H Q ⟨ρ, T, h, P⟩
  unfold eVar at P
  cases e : ρ[i]? with
  | none => rw [e] at P; exact P.elim
  | some o =>
    rw [e] at P
    cases o with
    | none => exact P.elim
    | some w =>
      cases w with
      | val d =>
        obtain ⟨v, e1, p⟩ := h.val i d e
        exact ⟨v, e1, P v H h Ext.refl p⟩
      | own d =>
        obtain ⟨p, e1, o, _, nt, _⟩ := h.own i d e
        exact ⟨_, e1, P _ H h Ext.refl (.inr ⟨p, rfl, nt, o⟩)⟩
      | peek d => exact P.elim
      | tape => exact P.elim
      | tree s d => exact P.elim
      | look d => exact P.elim
theorem t_c {d : D} {v : V} (hr : ∀ K mg S H, Rep K mg S H v d) : ∀ (σ : L2.St) (H : Hp) (Q : VK), tE X.K X.mg C (eC d) σ H Q → tC v σ H Q := by
  rintro σ H Q ⟨ρ, T, h, P⟩
  exact P v H h Ext.refl (hr _ _ _ _)
theorem se_int {i : Int} {j : Nat} {pos : Pos} : SE X C (.Constant (.int i) j pos) (eC (.int i)) := pe_imp pe_int (t_c fun _ _ _ _ => .int i)
theorem se_bl {b : Bool} {j : Nat} {pos : Pos} : SE X C (.Constant (.bool b) j pos) (eC (.bl b)) := pe_imp pe_bl (t_c fun _ _ _ _ => .bl b)
theorem se_non {j : Nat} {pos : Pos} : SE X C (.Constant .none j pos) (eC .non) := pe_imp pe_non (t_c fun _ _ _ _ => .non)
theorem se_str {x : Str} {j : Nat} {pos : Pos} : SE X C (.Constant (.str x) j pos) (eC (.str x)) := pe_imp pe_str (t_c fun _ _ _ _ => .str x)
/-- a module's constant -/
theorem se_globI {x : Str} {i : Int} {pos : Pos} (hm : ∃ t, X.mg x = some (.int i t)) (hg : Gl X x := by rfl) (hd : (x == ("__debug__" : Str)) = false := by decide) : SE X C (.Name x pos) (eC (.int i)) := by
  obtain ⟨t, hm⟩ := hm
  exact pe_imp (pe_glob hg hm (v := .int i) ⟨t, rfl⟩ hd) (t_c fun _ _ _ _ => .int i)
/-- what is not served -/
def eNo : DE := fun _ _ => .stuck
end
/-! ## tests -/
/-- a test's worth -/
abbrev DT := Env → Tp → Rs (Bool × Tp)
def GT (K : PySem.W.Frag) (mg : Str → Option Value) (C : FC) (r : Env) (σ : L2.St) (H : Hp) (Q : Bool → Hp → Prop) : Bool × Tp → Prop := fun p => ∀ H', Holds K mg C Z0 r p.2 σ H' → Ext C H H' → Q p.1 H'
abbrev PostT (K : PySem.W.Frag) (mg : Str → Option Value) (C : FC) (r : Env) (σ : L2.St) (H : Hp) (Q : Bool → Hp → Prop) : Rs (Bool × Tp) → Prop := PostG K mg C σ (GT K mg C r σ H Q)
def tT (K : PySem.W.Frag) (mg : Str → Option Value) (C : FC) (f : DT) : TT := fun σ H Q => ∃ r T, Holds K mg C Z0 r T σ H ∧ PostT K mg C r σ H Q (f r T)
abbrev ST (X : Cx) (C : FC) (e : Expr) (f : DT) : Prop := PT X e (tT X.K X.mg C f)
abbrev SW (X : Cx) (C : FC) (e : Expr) (f : DT) : Prop := PW X e (tT X.K X.mg C f)
section
variable {K : PySem.W.Frag} {mg : Str → Option Value} {C : FC} {r : Env} {T : Tp} {σ : L2.St} {H H1 : Hp}
theorem gt_bind {B : Type} {G : B → Prop} {Q : Bool → Hp → Prop} {x : Rs (Bool × Tp)} {g : Bool × Tp → Rs B} (P : PostG K mg C σ G (x.bind g))
    (k : ∀ b T' H', Holds K mg C Z0 r T' σ H' → Ext C H H' → PostG K mg C σ G (g (b, T')) → Q b H') : PostT K mg C r σ H Q x :=
  P.bind.imp fun p P H' h1 e1 => k p.1 p.2 H' h1 e1 P
theorem gt_from {Q : Bool → Hp → Prop} {x : Rs (Bool × Tp)} (e : Ext C H H1) (h : PostT K mg C r σ H Q x) : PostT K mg C r σ H1 Q x := h.imp fun _ q H' h1 e1 => q H' h1 (e.trans e1)
end
/-- a bool -/
def dBl : D → Rs Bool
  | .bl b => .ok b
  | _ => .stuck
@[simp] theorem dBl_bl (b : Bool) : dBl (.bl b) = .ok b := rfl
def xB (f : DE) : DT := fun r T => (dv (f r T)).bind fun p => (dBl p.1).bind fun b => .ok (b, p.2)
def xAnd (f g : DT) : DT := fun r T => (f r T).bind fun p => if p.1 = true then g r p.2 else .ok (false, p.2)
def xOr (f g : DT) : DT := fun r T => (f r T).bind fun p => if p.1 = true then .ok (true, p.2) else g r p.2
def xNot (f : DT) : DT := fun r T => (f r T).bind fun p => .ok (!p.1, p.2)
def eIf (c : DT) (f g : DE) : DE := fun r T => (c r T).bind fun p => if p.1 = true then f r p.2 else g r p.2
def eAnd (f g : DE) : DE := fun r T => (dv (f r T)).bind fun p => (dBl p.1).bind fun b => if b = true then g r p.2 else .ok (.val (.bl false), p.2)
def eOr (f g : DE) : DE := fun r T => (dv (f r T)).bind fun p => (dBl p.1).bind fun b => if b = true then .ok (.val (.bl true), p.2) else g r p.2
def eNot (f : DE) : DE := fun r T => (dv (f r T)).bind fun p => (dBl p.1).bind fun b => .ok (.val (.bl !b), p.2)
section
variable {K : PySem.W.Frag} {mg : Str → Option Value} {C : FC} {r : Env} {T : Tp} {σ : L2.St} {H : Hp} {B : Type} {G : B → Prop}
theorem dbl_ex {d : D} {v : V} {g : Bool → Rs B} (p : Rep K mg (SS C Z0 r σ) H v d) (P : PostG K mg C σ G ((dBl d).bind g)) : ∃ b, v = .bl b ∧ d = .bl b ∧ PostG K mg C σ G (g b) := by
  cases d with
  | bl b =>
    cases p
    exact ⟨b, rfl, rfl, P⟩
  | _ => exact (show False from P).elim
end
section
variable {X : Cx} {C : FC} {a b c : Expr} {f g : DE} {u w : DT} {pos : Pos} {rest : List Expr}
theorem t_B : ∀ (σ : L2.St) (H : Hp) (Q : Bool → Hp → Prop), tT X.K X.mg C (xB f) σ H Q → tB (tE X.K X.mg C f) σ H Q := by
  rintro σ H Q ⟨ρ, T, h, P⟩
  refine ⟨ρ, T, h, gv_dv h P fun d T' v H1 h1 e1 p P1 => ?_⟩
  obtain ⟨b, rfl, rfl, P2⟩ := dbl_ex p P1
  exact ⟨b, rfl, P2 H1 h1 e1⟩
theorem st_val (h : SE X C a f) (he : ∀ whole, isTrue a X.env whole = (do let v ← whole; standAt a.pos; holding [v] (truthy v)) := by intro _; rfl) : ST X C a (xB f) := pt_imp (pt_val h he) t_B
theorem st_cmp {op : D → D → Rs VD} {r : R2} {o : CmpOp} (ho : OpR X (compareOp o) r) (hd : R2D X.K X.mg r op) (hq : Quiet2 op) (ha : SE X C a f) (hb : SE X C b g) (hm : behindInMarks o b = false) : ST X C (.Compare a [o] [b] pos) (xB (eOp op f g)) := by
  refine pt_imp (pt_cmpR ho ha hb hm) ?_
  intro σ H Q hh
  exact t_op hd hq σ H _ (t_B (X := X) (C := C) (f := eOp op f g) σ H Q hh)
theorem st_not (h : ST X C a u) : ST X C (.UnaryOp .Not a pos) (xNot u) := by
  refine pt_imp (pt_not h) ?_
  rintro σ H Q ⟨ρ, T, h, P⟩
  exact ⟨ρ, T, h, gt_bind P fun b T' H1 h1 e1 P1 => P1 H1 h1 e1⟩
theorem t_and : ∀ (σ : L2.St) (H : Hp) (Q : Bool → Hp → Prop), tT X.K X.mg C (xAnd u w) σ H Q → tAnd (tT X.K X.mg C u) (tT X.K X.mg C w) σ H Q := by
  rintro σ H Q ⟨ρ, T, h, P⟩
  refine ⟨ρ, T, h, gt_bind P fun b T' H1 h1 e1 P1 => ?_⟩
  cases b with
  | true => exact ⟨ρ, T', h1, gt_from e1 P1⟩
  | false => exact P1 H1 h1 e1
theorem t_or : ∀ (σ : L2.St) (H : Hp) (Q : Bool → Hp → Prop), tT X.K X.mg C (xOr u w) σ H Q → tOr (tT X.K X.mg C u) (tT X.K X.mg C w) σ H Q := by
  rintro σ H Q ⟨ρ, T, h, P⟩
  refine ⟨ρ, T, h, gt_bind P fun b T' H1 h1 e1 P1 => ?_⟩
  cases b with
  | true => exact P1 H1 h1 e1
  | false => exact ⟨ρ, T', h1, gt_from e1 P1⟩
theorem pw_imp {e : Expr} {t t' : TT} (h : PW X e t) (i : ∀ σ H Q, t' σ H Q → t σ H Q) : PW X e t' := ⟨fun wh pins s σ H Q I q => h.run wh pins s σ H Q I (i σ H Q q)⟩
theorem sw_and1 (h : ST X C a u) : SW X C (.BoolOp .And [a] pos) u := pw_and1 h
theorem sw_or1 (h : ST X C a u) : SW X C (.BoolOp .Or [a] pos) u := pw_or1 h
theorem sw_and (h : ST X C a u) (k : SW X C (.BoolOp .And (b :: rest) pos) w) : SW X C (.BoolOp .And (a :: b :: rest) pos) (xAnd u w) := pw_imp (pw_and h k) t_and
theorem sw_or (h : ST X C a u) (k : SW X C (.BoolOp .Or (b :: rest) pos) w) : SW X C (.BoolOp .Or (a :: b :: rest) pos) (xOr u w) := pw_imp (pw_or h k) t_or
theorem st_of (h : SW X C a u) : ST X C a u := h.pt
theorem se_and1 (h : SE X C a f) : SE X C (.BoolOp .And [a] pos) f := pe_one h
theorem se_and (h : SE X C a f) (k : SE X C (.BoolOp .And (b :: rest) pos) g) : SE X C (.BoolOp .And (a :: b :: rest) pos) (eAnd f g) := by
  refine pe_imp (pe_and h k) ?_
  rintro σ H Q ⟨ρ, T, h, P⟩
  refine ⟨ρ, T, h, gv_dv h P fun d T' v H1 h1 e1 p P1 => ?_⟩
  obtain ⟨b, rfl, rfl, P2⟩ := dbl_ex p P1
  refine ⟨b, rfl, ?_⟩
  cases b with
  | true => exact ⟨ρ, T', h1, post_from h1 e1 P2⟩
  | false => exact P2 _ H1 h1 e1 (.bl false)
theorem se_not (h : SE X C a f) : SE X C (.UnaryOp .Not a pos) (eNot f) := by
  refine pe_imp (pe_not h) ?_
  rintro σ H Q ⟨ρ, T, h, P⟩
  refine ⟨ρ, T, h, gv_dv h P fun d T' v H1 h1 e1 p P1 => ?_⟩
  obtain ⟨b, rfl, rfl, P2⟩ := dbl_ex p P1
  exact ⟨b, rfl, P2 _ H1 h1 e1 (.bl !b)⟩
end
/-! ## argument lists, displays -/
abbrev DA := Env → Tp → Rs (List D × Tp)
def GA (K : PySem.W.Frag) (mg : Str → Option Value) (C : FC) (r : Env) (σ : L2.St) (H : Hp) (Q : List V → Hp → Prop) : List D × Tp → Prop := fun p => ∀ vs H', Holds K mg C Z0 r p.2 σ H' → Ext C H H' → Reps K mg (SS C Z0 r σ) H' vs p.1 → Q vs H'
inductive TopCs (K : PySem.W.Frag) (mg : Str → Option Value) (C : FC) (r : Env) (σ : L2.St) (H : Hp) : List V → List D → Prop
  | nil : TopCs K mg C r σ H [] []
  | cons {v : V} {vs : List V} {d : D} {ds : List D} : TopC K mg C r σ H v d → TopCs K mg C r σ H vs ds → TopCs K mg C r σ H (v :: vs) (d :: ds)
theorem TopCs.tops {K : PySem.W.Frag} {mg : Str → Option Value} {C : FC} {r : Env} {σ : L2.St} {H : Hp} : ∀ {vs : List V} {ds : List D}, TopCs K mg C r σ H vs ds → Tops K mg (SS C Z0 r σ) H vs ds
  | _, _, .nil => .nil
  | _, _, .cons h t => .cons h.top t.tops
def GB (K : PySem.W.Frag) (mg : Str → Option Value) (C : FC) (r : Env) (σ : L2.St) (H : Hp) (Q : List V → Hp → Prop) : List D × Tp → Prop := fun p => ∀ vs H', Holds K mg C Z0 r p.2 σ H' → Ext C H H' → TopCs K mg C r σ H' vs p.1 → Q vs H'
def tA (K : PySem.W.Frag) (mg : Str → Option Value) (C : FC) (f : DA) : TA := fun σ H Q => ∃ r T, Holds K mg C Z0 r T σ H ∧ PostG K mg C σ (GA K mg C r σ H Q) (f r T)
/-- .. that are only looked into -/
def tAt (K : PySem.W.Frag) (mg : Str → Option Value) (C : FC) (f : DA) : TA := fun σ H Q => ∃ r T, Holds K mg C Z0 r T σ H ∧ PostG K mg C σ (GB K mg C r σ H Q) (f r T)
abbrev SA (X : Cx) (C : FC) (es : List Expr) (f : DA) : Prop := PA X es (tA X.K X.mg C f)
abbrev SAt (X : Cx) (C : FC) (es : List Expr) (f : DA) : Prop := PA X es (tAt X.K X.mg C f)
def aNil : DA := fun _ T => .ok ([], T)
def aCons (f : DE) (g : DA) : DA := fun r T => (dv (f r T)).bind fun p => (g r p.2).bind fun q => .ok (p.1 :: q.1, q.2)
def aConsT (f : DE) (g : DA) : DA := fun r T => (dt (f r T)).bind fun p => (g r p.2).bind fun q => .ok (p.1 :: q.1, q.2)
def eTup (g : DA) : DE := fun r T => (g r T).bind fun p => if p.1.length ≤ 1000 then .ok (.val (.tup p.1), p.2) else .stuck
def eLst (g : DA) : DE := fun r T => (g r T).bind fun p => if p.1.length ≤ 1000 then .ok (.own (.lst p.1), p.2) else .stuck
section
variable {K : PySem.W.Frag} {mg : Str → Option Value} {C : FC} {r : Env} {T : Tp} {σ : L2.St} {H H1 : Hp}
theorem ga_bind {B : Type} {G : B → Prop} {Q : List V → Hp → Prop} {x : Rs (List D × Tp)} {g : List D × Tp → Rs B} (P : PostG K mg C σ G (x.bind g))
    (k : ∀ ds T' vs H', Holds K mg C Z0 r T' σ H' → Ext C H H' → Reps K mg (SS C Z0 r σ) H' vs ds → PostG K mg C σ G (g (ds, T')) → Q vs H') : PostG K mg C σ (GA K mg C r σ H Q) x :=
  P.bind.imp fun p P vs H' h1 e1 q => k p.1 p.2 vs H' h1 e1 q P
theorem gb_bind {B : Type} {G : B → Prop} {Q : List V → Hp → Prop} {x : Rs (List D × Tp)} {g : List D × Tp → Rs B} (P : PostG K mg C σ G (x.bind g))
    (k : ∀ ds T' vs H', Holds K mg C Z0 r T' σ H' → Ext C H H' → TopCs K mg C r σ H' vs ds → PostG K mg C σ G (g (ds, T')) → Q vs H') : PostG K mg C σ (GB K mg C r σ H Q) x :=
  P.bind.imp fun p P vs H' h1 e1 q => k p.1 p.2 vs H' h1 e1 q P
end
theorem k1000 {n : Nat} (h : n ≤ 1000) : n ≤ sizeLine := by rw [sizeLine_eq]; omega
theorem postG_if {K : PySem.W.Frag} {mg : Str → Option Value} {C : FC} {σ : L2.St} {B : Type} {G : B → Prop} {p : Prop} [Decidable p] {x : Rs B} (h : PostG K mg C σ G (if p then x else .stuck)) : p ∧ PostG K mg C σ G x := by
  by_cases c : p
  · rw [if_pos c] at h
    exact ⟨c, h⟩
  · rw [if_neg c] at h
    exact h.elim
section
variable {X : Cx} {C : FC} {e : Expr} {es : List Expr} {f : DE} {g : DA} {pos : Pos}
theorem sa_nil : SA X C [] aNil := by
  refine pa_imp pa_nil ?_
  rintro σ H Q ⟨ρ, T, h, P⟩
  exact P [] H h Ext.refl .nil
theorem sat_nil : SAt X C [] aNil := by
  refine pa_imp pa_nil ?_
  rintro σ H Q ⟨ρ, T, h, P⟩
  exact P [] H h Ext.refl .nil
theorem sa_cons (ha : SE X C e f) (hr : SA X C es g) (hs : starEach (e :: es) X.env = (false, eval e X.env) :: starEach es X.env := by rfl) : SA X C (e :: es) (aCons f g) := by
  refine pa_imp (pa_cons ha hr hs) ?_
  rintro σ H Q ⟨ρ, T, h, P⟩
  refine ⟨ρ, T, h, gv_dv h P fun d T' v H1 h1 e1 p P1 => ⟨ρ, T', h1, ga_bind P1 fun ds T2 vs H2 h2 e2 p2 P2 => ?_⟩⟩
  exact P2 _ H2 h2 (e1.trans e2) (.cons (p.ext e2) p2)
theorem sat_cons (ha : SE X C e f) (hr : SAt X C es g) (hs : starEach (e :: es) X.env = (false, eval e X.env) :: starEach es X.env := by rfl) : SAt X C (e :: es) (aConsT f g) := by
  refine pa_imp (pa_cons ha hr hs) ?_
  rintro σ H Q ⟨ρ, T, h, P⟩
  refine ⟨ρ, T, h, gv_dt h P fun d T' v H1 h1 e1 p P1 => ⟨ρ, T', h1, gb_bind P1 fun ds T2 vs H2 h2 e2 p2 P2 => ?_⟩⟩
  exact P2 _ H2 h2 (e1.trans e2) (.cons (p.ext e2) p2)
theorem se_tup {x1 : Nat} (h : SA X C es g) : SE X C (.Tuple es x1 pos) (eTup g) := by
  refine pe_imp (pe_tup h) ?_
  rintro σ H Q ⟨ρ, T, h, P⟩
  refine ⟨ρ, T, h, ga_bind P fun ds T' vs H1 h1 e1 p P1 => ?_⟩
  obtain ⟨z, P2⟩ := postG_if P1
  have z2 : vs.length ≤ sizeLine := k1000 (by rw [p.len]; exact z)
  exact ⟨z2, fun q hq => (gv_res h1 (gv_from h1 e1 (show GV X.K X.mg C ρ σ H Q (.val (.tup ds), T') from P2)) fun _ => ⟨nofun, nofun, nofun⟩).newT h1.trk hq z2 p⟩
theorem se_lst (h : SA X C es g) : SE X C (.List es pos) (eLst g) := by
  refine pe_imp (pe_lst h) ?_
  rintro σ H Q ⟨ρ, T, h, P⟩
  refine ⟨ρ, T, h, ga_bind P fun ds T' vs H1 h1 e1 p P1 => ?_⟩
  obtain ⟨z, P2⟩ := postG_if P1
  have z2 : vs.length ≤ sizeLine := k1000 (by rw [p.len]; exact z)
  exact ⟨z2, fun q hq => (gv_res h1 (gv_from h1 e1 (show GV X.K X.mg C ρ σ H Q (.own (.lst ds), T') from P2)) fun _ => ⟨nofun, nofun, nofun⟩).newL hq z2 p⟩
end
/-! ## calls of built-in functions -/
def eCall (op : List D → Rs VD) (g : DA) : DE := fun r T => (g r T).bind fun p => lift (op p.1) p.2
def QuietN (op : List D → Rs VD) : Prop := ∀ d, Quiet (op d)
section
variable {X : Cx} {C : FC} {e : Expr} {es : List Expr} {g : DA} {pos p : Pos} {x : Str} {r : List V → Hp → VK → Prop} {op : List D → Rs VD}
theorem t_call (hd : RnD X.K X.mg r op) (hq : QuietN op) : ∀ (σ : L2.St) (H : Hp) (Q : VK), tE X.K X.mg C (eCall op g) σ H Q → tCB r (tAt X.K X.mg C g) σ H Q := by
  rintro σ H Q ⟨ρ, T, h, P⟩
  refine ⟨ρ, T, h, gb_bind P fun ds T' vs H1 h1 e1 p P1 => ?_⟩
  obtain ⟨z, ez, P3⟩ := lift_ex (hq ds) h1 (post_from h1 e1 P1)
  exact hd _ H1 vs ds Q z h1.trk p.tops ez P3
theorem se_callB {id : String} (hc : CallR X (.builtin id) r) (hd : RnD X.K X.mg r op) (hq : QuietN op) (hm : X.mg x = none) (hv : bootBuiltins x = some (.builtin id)) (ha : SAt X C (e :: es) g) (hg : Gl X x := by rfl) (hn : x ≠ "__name__" := by decide) (hdb : (x == ("__debug__" : Str)) = false := by decide)
    (he : starEach (e :: es) X.env = (false, eval e X.env) :: starEach es X.env := by rfl) (hpl : (backTo pos (starEach es X.env)).any (·.1) = false := by rfl) : SE X C (.Call (.Name x p) (e :: es) [] pos) (eCall op g) :=
  pe_imp (pe_callB hc hg hm hv ha hn hdb he hpl) (t_call hd hq)
theorem se_callTy {T : String} (hc : CallR X (.type T) r) (hd : RnD X.K X.mg r op) (hq : QuietN op) (hm : X.mg x = none) (hv : bootBuiltins x = some (.type T)) (ha : SAt X C (e :: es) g) (hg : Gl X x := by rfl) (hn : x ≠ "__name__" := by decide) (hdb : (x == ("__debug__" : Str)) = false := by decide)
    (he : starEach (e :: es) X.env = (false, eval e X.env) :: starEach es X.env := by rfl) (hpl : (backTo pos (starEach es X.env)).any (·.1) = false := by rfl) : SE X C (.Call (.Name x p) (e :: es) [] pos) (eCall op g) :=
  pe_imp (pe_callTy hc hg hm hv ha hn hdb he hpl) (t_call hd hq)
end
end Pu
namespace Pu
open PySem L2
/-! ## statements -/
inductive Fl where
  | nx (r : Env) | rt (v : VD) | bk (r : Env) | ct (r : Env)
abbrev DS := Env → Tp → Rs (Fl × Tp)
def S1 (C : FC) : Addr → Prop := fun p => C.S0 p ∨ C.tp = some p
def Ret (K : PySem.W.Frag) (mg : Str → Option Value) (C : FC) (T : Tp) (H : Hp) (u : V) : VD → Prop
  | .val d => Rep K mg (S1 C) H u d ∧ TapeOk K mg (S1 C) C.tp T H
  | .own d => ∃ p, u = .ref p ∧ C.H0 p = none ∧ C.tp ≠ some p ∧ OwnAt K mg (fun a => S1 C a ∨ a = p) H p d ∧ TapeOk K mg (fun a => S1 C a ∨ a = p) C.tp T H
  | .tree s d => ∃ F : List Addr, (∀ p ∈ F, C.H0 p = none ∧ C.tp ≠ some p) ∧ F.Nodup ∧ TreeAt K mg (fun a => S1 C a ∨ a ∈ F) H F s u d ∧ TapeOk K mg (fun a => S1 C a ∨ a ∈ F) C.tp T H
  | _ => False
def GS (K : PySem.W.Frag) (mg : Str → Option Value) (C : FC) (E : Ends) : Fl × Tp → Prop
  | (.nx r, T) => ∀ σ H, HoldsY K mg C r T σ H → E.nx σ H
  | (.bk r, T) => ∀ σ H, HoldsY K mg C r T σ H → E.bk σ H
  | (.ct r, T) => ∀ σ H, HoldsY K mg C r T σ H → E.ct σ H
  | (.rt v, T) => ∀ u H, Ext C C.H0 H → Ret K mg C T H u v → E.rt u H
/-- what is asked of a run, at whatever slots -/
def PostS {B : Type} (K : PySem.W.Frag) (mg : Str → Option Value) (C : FC) (G : B → Prop) : Rs B → Prop
  | .ok b => G b
  | .exc c fs T r => ∀ σ cls d H' (Y : Addr → Prop), (∀ p, Y p → ¬ C.S0 p) → Holds K mg (C.plus Y) Z0 r T σ H' → ExcAt K mg (SS (C.plus Y) Z0 r σ) H' c fs cls d → C.W cls d σ H'
  | .stuck => False
def tS (K : PySem.W.Frag) (mg : Str → Option Value) (C : FC) (g : DS) : TS := fun E σ H => ∃ r T, HoldsY K mg C r T σ H ∧ PostS K mg C (GS K mg C E) (g r T)
abbrev SSt (X : Cx) (C : FC) (st : Stmt) (g : DS) : Prop := PS X st (tS X.K X.mg C g)
abbrev SSs (X : Cx) (C : FC) (st : List Stmt) (g : DS) : Prop := PSs X st (tS X.K X.mg C g)
section
variable {K : PySem.W.Frag} {mg : Str → Option Value} {C : FC} {σ : L2.St} {A B : Type} {G G2 : B → Prop}
theorem PostS.bind {x : Rs A} {g : A → Rs B} (h : PostS K mg C G (x.bind g)) : PostS K mg C (fun a => PostS K mg C G (g a)) x := by
  cases x <;> exact h
theorem PostS.imp {x : Rs B} (h : PostS K mg C G x) (i : ∀ b, G b → G2 b) : PostS K mg C G2 x := by
  cases x with
  | ok b => exact i b h
  | exc c fs T r => exact h
  | stuck => exact h
theorem PostS.at {Y : Addr → Prop} {x : Rs B} (hY : ∀ p, Y p → ¬ C.S0 p) (h : PostS K mg C G x) : PostG K mg (C.plus Y) σ G x := by
  cases x with
  | ok b => exact h
  | exc c fs T r => exact fun cls d H' a b => h σ cls d H' Y hY a b
  | stuck => exact h
theorem pe_ex {X : Cx} {e : Expr} {t : (Addr → Prop) → TE} (h : ∀ Y, PE X e (t Y)) : PE X e (fun σ H Q => ∃ Y, t Y σ H Q) := ⟨fun pins s σ H Q I ⟨Y, q⟩ => (h Y).run pins s σ H Q I q⟩
theorem ps_ex {X : Cx} {st : Stmt} {t : (Addr → Prop) → TS} (h : ∀ Y, PS X st (t Y)) : PS X st (fun D σ H => ∃ Y, t Y D σ H) := ⟨fun pins s σ H D I ⟨Y, q⟩ => (h Y).run pins s σ H D I q⟩
theorem pt_ex {X : Cx} {e : Expr} {t : (Addr → Prop) → TT} (h : ∀ Y, PT X e (t Y)) : PT X e (fun σ H Q => ∃ Y, t Y σ H Q) := ⟨fun pins s σ H Q I ⟨Y, q⟩ => (h Y).run pins s σ H Q I q⟩
theorem postS_if {p : Prop} [Decidable p] {x : Rs B} (h : PostS K mg C G (if p then x else .stuck)) : p ∧ PostS K mg C G x := by
  by_cases c : p
  · rw [if_pos c] at h
    exact ⟨c, h⟩
  · rw [if_neg c] at h
    exact h.elim
variable {r : Env} {T : Tp} {H H1 : Hp}
theorem gs_dv {Q : VK} {x : Rs (VD × Tp)} {R : D × Tp → Prop} (h0 : Holds K mg C Z0 r T σ H) (P : PostG K mg C σ R (dv x))
    (k : ∀ d T' v H', Holds K mg C Z0 r T' σ H' → Ext C H H' → Rep K mg (SS C Z0 r σ) H' v d → R (d, T') → Q v H') : Post K mg C r σ H Q x := by
  refine (PostG.bind P).imp fun p P => ?_
  obtain ⟨v, T'⟩ := p
  cases v with
  | val d => exact fun v H' h1 e1 p => k d T' v H' h1 e1 p P
  | own d => exact fun p H' hp h1 e1 o => k d T' (.ref p) H' h1.join e1 (o.frozen (h0.fresh hp) (fun a o e s z => s (ss_less a z))) P
  | peek d => exact (show False from P).elim
  | tape => exact (show False from P)
  | tree s d => exact (show False from P).elim
  | look d => exact (show False from P).elim
theorem gs_dt {Q : VK} {x : Rs (VD × Tp)} {R : D × Tp → Prop} (h0 : Holds K mg C Z0 r T σ H) (P : PostG K mg C σ R (dt x))
    (k : ∀ d T' v H', Holds K mg C Z0 r T' σ H' → Ext C H H' → TopC K mg C r σ H' v d → R (d, T') → Q v H') : Post K mg C r σ H Q x := by
  refine (PostG.bind P).imp fun p P => ?_
  obtain ⟨v, T'⟩ := p
  cases v with
  | val d => exact fun v H' h1 e1 p => k d T' v H' h1 e1 (.inl p) P
  | own d => exact fun p H' hp h1 e1 o => k d T' (.ref p) H' h1.join e1 (.inl (o.frozen (h0.fresh hp) (fun a o e s z => s (ss_less a z)))) P
  | peek d => exact fun v H' h1 e1 p => k d T' v H' h1 e1 p P
  | tape => exact (show False from P)
  | tree s d => exact (show False from P).elim
  | look d => exact (show False from P).elim
end
/-! ## slots -/
section
variable {K : PySem.W.Frag} {mg : Str → Option Value} {C : FC} {Z : Addr → Prop} {r : Env} {T : Tp} {σ : L2.St} {H H1 : Hp} {i : Nat}
theorem set_at {α : Type} {l : List α} {i j : Nat} {x y : α} (h : (l.set i x)[j]? = some y) : (j = i ∧ y = x) ∨ (j ≠ i ∧ l[j]? = some y) := by
  by_cases e : j = i
  · subst e
    rw [List.getElem?_set_self'] at h
    cases q : l[j]? with
    | none =>
      rw [q] at h
      cases h
    | some z =>
      rw [q] at h
      cases h
      exact .inl ⟨rfl, rfl⟩
  · rw [List.getElem?_set_ne (Ne.symm e)] at h
    exact .inr ⟨e, h⟩
theorem lt_of_get {α : Type} {l : List α} {i : Nat} {x : α} (h : l[i]? = some x) : i < l.length := (List.getElem?_eq_some_iff.mp h).1
theorem tree_set {w : VD} {x : Option V} (hw : ∀ s d, w ≠ .tree s d) (j : Nat) (s : Sh) (d : D) (h : (r.set i (some w))[j]? = some (some (.tree s d))) : r[j]? = some (some (.tree s d)) ∧ (σ.set i x)[j]? = σ[j]? := by
  rcases set_at h with ⟨_, q⟩ | ⟨ne, q⟩
  · injection q with q
    exact absurd q.symm (hw s d)
  · exact ⟨q, List.getElem?_set_ne (Ne.symm ne)⟩
/-- a slot gets data (or nothing that is known) -/
theorem Holds.setVal (h : Holds K mg C Z r T σ H) {v : V} {d : D} (p : Rep K mg (SS C Z r σ) H v d) : Holds K mg C Z (r.set i (some (.val d))) T (σ.set i (some v)) H := by
  have less : ∀ a, SS C Z (r.set i (some (.val d))) (σ.set i (some v)) a → SS C Z r σ a := fun a z => by
    rcases z with z | z | ⟨j, e, z1, z2⟩ | z
    · exact .inl z
    · exact .inr (.inl z)
    · rcases set_at z1 with ⟨_, q⟩ | ⟨ne, q⟩
      · cases q
      · rw [List.getElem?_set_ne (Ne.symm ne)] at z2
        exact .inr (.inr (.inl ⟨j, e, q, z2⟩))
    · exact .inr (.inr (.inr z))
  have n : ∀ a o, H a = some o → ¬ SS C Z r σ a → ¬ SS C Z (r.set i (some (.val d))) (σ.set i (some v)) a := fun a _ _ s z => s (less a z)
  refine ⟨by rw [List.length_set, List.length_set]; exact h.len, h.frame, fun j e q => ?_, fun j e q => ?_, fun j k p d e q1 q2 q3 q4 => ?_, ?_, fun j q => ?_, h.st, h.zt, fun p hp => (h.pin p hp).go (fun _ _ e _ => e) n, h.tree.mk' (fun _ _ e _ => e) n (fun _ _ _ _ _ e => e) (tree_set nofun) fun _ a b c => ⟨a, b, c⟩⟩
  · rcases set_at q with ⟨ej, q⟩ | ⟨ne, q⟩
    · cases q
      subst ej
      refine ⟨v, ?_, p.go (fun _ _ e _ => e) n⟩
      have hj := lt_of_get ‹_›
      rw [List.length_set, h.len] at hj
      rw [List.getElem?_set_self hj]
    · obtain ⟨u, e1, p1⟩ := h.val j e q
      refine ⟨u, ?_, p1.go (fun _ _ e _ => e) n⟩
      rw [List.getElem?_set_ne (Ne.symm ne)]
      exact e1
  · rcases set_at q with ⟨ej, q⟩ | ⟨ne, q⟩
    · cases q
    · obtain ⟨u, e1, o, g⟩ := h.own j e q
      refine ⟨u, ?_, o.go (fun _ e => e) (fun _ _ e _ => e) n, g⟩
      rw [List.getElem?_set_ne (Ne.symm ne)]
      exact e1
  · rcases set_at q1 with ⟨ej, q⟩ | ⟨ne, q1⟩
    · cases q
    · rcases set_at q2 with ⟨ej, q⟩ | ⟨ne2, q2⟩
      · cases q
      · rw [List.getElem?_set_ne (Ne.symm ne)] at q3
        rw [List.getElem?_set_ne (Ne.symm ne2)] at q4
        exact h.inj j k p _ _ q1 q2 q3 q4
  · have t := h.tape
    unfold TapeOk at t ⊢
    cases hc : C.tp with
    | none =>
      rw [hc] at t
      exact t
    | some u =>
      rw [hc] at t
      obtain ⟨t, e, o⟩ := t
      exact ⟨t, e, o.go (fun o q => q) (fun a o q _ => q) n⟩
  · rcases set_at q with ⟨ej, q⟩ | ⟨ne, q⟩
    · cases q
    · rw [List.getElem?_set_ne (Ne.symm ne)]
      exact h.tslot j q
/-- a slot gets the thing that was set apart -/
theorem Holds.setOwn {p : Addr} (h : Holds K mg C (fun a => a = p) r T σ H) {d : D} (hp : C.H0 p = none) (o : OwnAt K mg (SS C (fun a => a = p) r σ) H p d) (nt : C.tp ≠ some p) (ns : ¬ C.S0 p) : Holds K mg C Z0 (r.set i (some (.own d))) T (σ.set i (some (.ref p))) H := by
  have less : ∀ a, SS C Z0 (r.set i (some (.own d))) (σ.set i (some (.ref p))) a → SS C (fun a => a = p) r σ a := fun a z => by
    rcases z with z | z | ⟨j, e, z1, z2⟩ | z
    · exact .inl z
    · exact .inr (.inl z)
    · rcases set_at z1 with ⟨ej, q⟩ | ⟨ne, q⟩
      · subst ej
        have hj := lt_of_get z1
        rw [List.length_set, h.len] at hj
        rw [List.getElem?_set_self hj] at z2
        cases z2
        exact .inr (.inr (.inr rfl))
      · rw [List.getElem?_set_ne (Ne.symm ne)] at z2
        exact .inr (.inr (.inl ⟨j, e, q, z2⟩))
    · exact z.elim
  have n : ∀ a o, H a = some o → ¬ SS C (fun a => a = p) r σ a → ¬ SS C Z0 (r.set i (some (.own d))) (σ.set i (some (.ref p))) a := fun a _ _ s z => s (less a z)
  have no : ∀ (j : Nat) (e : D), r[j]? = some (some (.own e)) → σ[j]? ≠ some (some (.ref p)) := fun j e q z => by
    obtain ⟨u, e1, _, _, _, nz, _⟩ := h.own j e q
    rw [z] at e1
    cases e1
    exact nz rfl
  refine ⟨by rw [List.length_set, List.length_set]; exact h.len, h.frame, fun j e q => ?_, fun j e q => ?_, fun j k p' d e q1 q2 q3 q4 => ?_, ?_, fun j q => ?_, h.st, fun _ z => z.elim, fun p hp => (h.pin p hp).go (fun _ _ e _ => e) n, h.tree.mk' (fun _ _ e _ => e) n (fun _ _ _ _ _ e => e) (tree_set nofun) fun _ a b c => ⟨a, b, c⟩⟩
  · rcases set_at q with ⟨ej, q⟩ | ⟨ne, q⟩
    · cases q
    · obtain ⟨u, e1, p1⟩ := h.val j e q
      refine ⟨u, ?_, p1.go (fun _ _ e _ => e) n⟩
      rw [List.getElem?_set_ne (Ne.symm ne)]
      exact e1
  · rcases set_at q with ⟨ej, q⟩ | ⟨ne, q⟩
    · cases q
      subst ej
      refine ⟨p, ?_, o.go (fun _ e => e) (fun _ _ e _ => e) n, hp, nt, fun z => z, ns⟩
      have hj := lt_of_get ‹_›
      rw [List.length_set, h.len] at hj
      rw [List.getElem?_set_self hj]
    · obtain ⟨u, e1, o, g1, g2, _, g4⟩ := h.own j e q
      refine ⟨u, ?_, o.go (fun _ e => e) (fun _ _ e _ => e) n, g1, g2, fun z => z, g4⟩
      rw [List.getElem?_set_ne (Ne.symm ne)]
      exact e1
  · rcases set_at q1 with ⟨ej, q⟩ | ⟨ne, q1'⟩
    · subst ej
      rcases set_at q2 with ⟨ek, q⟩ | ⟨ne2, q2'⟩
      · exact ek.symm
      · have hj := lt_of_get q1
        rw [List.length_set, h.len] at hj
        rw [List.getElem?_set_self hj] at q3
        cases q3
        rw [List.getElem?_set_ne (Ne.symm ne2)] at q4
        exact absurd q4 (no k _ q2')
    · rcases set_at q2 with ⟨ek, q⟩ | ⟨ne2, q2'⟩
      · subst ek
        have hj := lt_of_get q2
        rw [List.length_set, h.len] at hj
        rw [List.getElem?_set_self hj] at q4
        cases q4
        rw [List.getElem?_set_ne (Ne.symm ne)] at q3
        exact absurd q3 (no j _ q1')
      · rw [List.getElem?_set_ne (Ne.symm ne)] at q3
        rw [List.getElem?_set_ne (Ne.symm ne2)] at q4
        exact h.inj j k p' _ _ q1' q2' q3 q4
  · have t := h.tape
    unfold TapeOk at t ⊢
    cases hc : C.tp with
    | none =>
      rw [hc] at t
      exact t
    | some u =>
      rw [hc] at t
      obtain ⟨t, e, o⟩ := t
      exact ⟨t, e, o.go (fun o q => q) (fun a o q _ => q) n⟩
  · rcases set_at q with ⟨ej, q⟩ | ⟨ne, q⟩
    · cases q
    · rw [List.getElem?_set_ne (Ne.symm ne)]
      exact h.tslot j q
end
end Pu
namespace Pu
open PySem L2
/-! ## statement rules -/
def sPass : DS := fun r T => .ok (.nx r, T)
def sNo : DS := fun _ _ => .stuck
def sSeq (f g : DS) : DS := fun r T => (f r T).bind fun p => match p.1 with
  | .nx r' => g r' p.2
  | .rt v => .ok (.rt v, p.2)
  | .bk r' => .ok (.bk r', p.2)
  | .ct r' => .ok (.ct r', p.2)
def sIf (c : DT) (f g : DS) : DS := fun r T => (c r T).bind fun p => if p.1 = true then f r p.2 else g r p.2
def sDrop (f : DE) : DS := fun r T => (dt (f r T)).bind fun p => .ok (.nx r, p.2)
/-- a worth into a slot -/
def put (r : Env) (i : Nat) : VD → Rs Env
  | .val d => .ok (r.set i (some (.val d)))
  | .own d => .ok (r.set i (some (.own d)))
  | .tree s d => .ok (r.set i (some (.tree s d)))
  | _ => .stuck
@[simp] theorem put_tree (r : Env) (i : Nat) (s : Sh) (d : D) : put r i (.tree s d) = .ok (r.set i (some (.tree s d))) := rfl
@[simp] theorem put_val (r : Env) (i : Nat) (d : D) : put r i (.val d) = .ok (r.set i (some (.val d))) := rfl
@[simp] theorem put_own (r : Env) (i : Nat) (d : D) : put r i (.own d) = .ok (r.set i (some (.own d))) := rfl
def sAsg (i : Nat) (f : DE) : DS := fun r T => (f r T).bind fun p => (put r i p.1).bind fun r' => .ok (.nx r', p.2)
def sRet (f : DE) : DS := fun r T => (f r T).bind fun p => match p.1 with
  | .val d => .ok (.rt (.val d), p.2)
  | .own d => .ok (.rt (.own d), p.2)
  | .tree s d => .ok (.rt (.tree s d), p.2)
  | _ => .stuck
/-- return of a name: what is owned is given away -/
def sRetV (i : Nat) : DS := fun r T => match r[i]? with
  | some (some (.val d)) => .ok (.rt (.val d), T)
  | some (some (.own d)) => .ok (.rt (.own d), T)
  | some (some (.tree s d)) => .ok (.rt (.tree s d), T)
  | _ => .stuck
def sRetN : DS := fun _ T => .ok (.rt (.val .non), T)
def sBrk : DS := fun r T => .ok (.bk r, T)
def sCt : DS := fun r T => .ok (.ct r, T)
/-- a name op= e -/
def sAug (op : D → D → Rs VD) (i : Nat) (f : DE) : DS := fun r T => match r[i]? with
  | some (some (.val d)) => (dt (f r T)).bind fun p => (op d p.1).bind fun v => (put r i v).bind fun r' => .ok (.nx r', p.2)
  | _ => .stuck
/-- what a slot owns is given up -/
def frz (r : Env) (i : Nat) : Env := match r[i]? with
  | some (some (.own d)) => r.set i (some (.val d))
  | some (some (.tree _ d)) => r.set i (some (.val d))
  | _ => r
def sFrz (i : Nat) (g : DS) : DS := fun r T => g (frz r i) T
section
variable {K : PySem.W.Frag} {mg : Str → Option Value} {C : FC} {r : Env} {T : Tp} {σ : L2.St} {H H1 : Hp} {i : Nat}
def phi (φ : Nat → List Addr) (i : Nat) (F : List Addr) (j : Nat) : List Addr := if j = i then F else φ j
theorem phi_eq {φ : Nat → List Addr} {F : List Addr} {i j : Nat} (h : j = i) : phi φ i F j = F := if_pos h
theorem phi_ne {φ : Nat → List Addr} {F : List Addr} {i j : Nat} (h : j ≠ i) : phi φ i F j = φ j := if_neg h
theorem TapeOk.less {S S' : Addr → Prop} {tp : Option Addr} (t : TapeOk K mg S tp T H) (n : ∀ a o, H a = some o → ¬ S a → ¬ S' a) : TapeOk K mg S' tp T H := by
  unfold TapeOk at t ⊢
  cases tp with
  | none => exact t
  | some p =>
    obtain ⟨t, e, o⟩ := t
    exact ⟨t, e, o.go (fun _ q => q) (fun _ _ q _ => q) n⟩
theorem Holds.unown {d : D} (h : Holds K mg C Z0 r T σ H) (e : r[i]? = some (some (.own d))) : Holds K mg C Z0 (r.set i (some (.val d))) T σ H := by
  obtain ⟨p, e1, o, g1, g2, g3, g4⟩ := h.own i d e
  have less : ∀ a, SS C Z0 (r.set i (some (.val d))) σ a → SS C Z0 r σ a := fun a z => by
    rcases z with z | z | ⟨j, e, z1, z2⟩ | z
    · exact .inl z
    · exact .inr (.inl z)
    · rcases set_at z1 with ⟨_, q⟩ | ⟨ne, q⟩
      · cases q
      · exact .inr (.inr (.inl ⟨j, e, q, z2⟩))
    · exact z.elim
  have n : ∀ a o, H a = some o → ¬ SS C Z0 r σ a → ¬ SS C Z0 (r.set i (some (.val d))) σ a := fun a _ _ s z => s (less a z)
  have np : ¬ SS C Z0 (r.set i (some (.val d))) σ p := fun z => by
    rcases z with z | z | ⟨j, u, z1, z2⟩ | z
    · exact g4 z
    · exact g2 z
    · rcases set_at z1 with ⟨_, q⟩ | ⟨ne, q⟩
      · cases q
      · exact ne (h.inj j i p _ _ q e z2 e1)
    · exact z
  refine ⟨by rw [List.length_set]; exact h.len, h.frame, fun j u q => ?_, fun j u q => ?_, fun j k p' u w q1 q2 q3 q4 => ?_, ?_, fun j q => ?_, h.st, fun _ z => z.elim, fun p hp => (h.pin p hp).go (fun _ _ e _ => e) n, h.tree.mk' (fun _ _ e _ => e) n (fun _ _ _ _ _ e => e) (fun j s d q => by
    rcases set_at q with ⟨_, q⟩ | ⟨ne, q⟩
    · cases q
    · exact ⟨q, rfl⟩) fun _ a b c => ⟨a, b, c⟩⟩
  · rcases set_at q with ⟨ej, q⟩ | ⟨ne, q⟩
    · cases q
      subst ej
      exact ⟨_, e1, o.frozen np n⟩
    · obtain ⟨u, e2, p1⟩ := h.val j u q
      exact ⟨u, e2, p1.go (fun _ _ e _ => e) n⟩
  · rcases set_at q with ⟨ej, q⟩ | ⟨ne, q⟩
    · cases q
    · obtain ⟨u, e2, o2, g⟩ := h.own j u q
      exact ⟨u, e2, o2.go (fun _ e => e) (fun _ _ e _ => e) n, g⟩
  · rcases set_at q1 with ⟨ej, q⟩ | ⟨ne, q1⟩
    · cases q
    · rcases set_at q2 with ⟨ej, q⟩ | ⟨ne2, q2⟩
      · cases q
      · exact h.inj j k p' _ _ q1 q2 q3 q4
  · have t := h.tape
    unfold TapeOk at t ⊢
    cases hc : C.tp with
    | none =>
      rw [hc] at t
      exact t
    | some u =>
      rw [hc] at t
      obtain ⟨t, e, o⟩ := t
      exact ⟨t, e, o.go (fun o q => q) (fun a o q _ => q) n⟩
  · rcases set_at q with ⟨ej, q⟩ | ⟨ne, q⟩
    · cases q
    · exact h.tslot j q
/-- a tree is given up -/
theorem Holds.untree {Y : Addr → Prop} {s : Sh} {d : D} (h : Holds K mg (C.plus Y) Z0 r T σ H) (hY : ∀ p, Y p → ¬ C.S0 p) (e : r[i]? = some (some (.tree s d))) : HoldsY K mg C (r.set i (some (.val d))) T σ H := by
  obtain ⟨φ, h1, h2, h3, h4⟩ := h.tree
  have less : ∀ a, SS (C.plus fun p => Y p ∧ p ∉ φ i) Z0 (r.set i (some (.val d))) σ a → SS (C.plus Y) Z0 r σ a := fun a z => by
    rcases z with (z | z) | z | ⟨j, u, z1, z2⟩ | z
    · exact .inl (.inl z)
    · exact .inl (.inr z.1)
    · exact .inr (.inl z)
    · rcases set_at z1 with ⟨_, q⟩ | ⟨ne, q⟩
      · cases q
      · exact .inr (.inr (.inl ⟨j, u, q, z2⟩))
    · exact z.elim
  have n : ∀ a o, H a = some o → ¬ SS (C.plus Y) Z0 r σ a → ¬ SS (C.plus fun p => Y p ∧ p ∉ φ i) Z0 (r.set i (some (.val d))) σ a := fun a _ _ s z => s (less a z)
  have nf : ∀ p ∈ φ i, ¬ SS (C.plus fun p => Y p ∧ p ∉ φ i) Z0 (r.set i (some (.val d))) σ p := fun p hp z => by
    obtain ⟨⟨a1, a2⟩, a3, a4⟩ := h3 i p hp
    rcases z with (z | z) | z | ⟨j, u, z1, z2⟩ | z
    · exact hY p a2 z
    · exact z.2 hp
    · exact a4 z
    · rcases set_at z1 with ⟨_, q⟩ | ⟨ne, q⟩
      · cases q
      · obtain ⟨p', e1, _, _, _, _, g4⟩ := h.own j u q
        rw [z2] at e1
        cases e1
        exact g4 a1
    · exact z
  refine ⟨fun p => Y p ∧ p ∉ φ i, ⟨by rw [List.length_set]; exact h.len, h.frame, fun j u q => ?_, fun j u q => ?_, fun j k p' u w q1 q2 q3 q4 => ?_, ?_, fun j q => ?_, fun p z => ?_, fun _ z => z.elim, fun p hp => (h.pin p hp).go (fun _ _ e _ => e) n, ?_⟩, fun p z => hY p z.1⟩
  · rcases set_at q with ⟨ej, q⟩ | ⟨ne, q⟩
    · cases q
      subst ej
      obtain ⟨v, e1, t⟩ := h1 _ _ _ e
      exact ⟨v, e1, t.frozen n nf⟩
    · obtain ⟨u, e2, p1⟩ := h.val j u q
      exact ⟨u, e2, p1.go (fun _ _ e _ => e) n⟩
  · rcases set_at q with ⟨ej, q⟩ | ⟨ne, q⟩
    · cases q
    · obtain ⟨u, e2, o2, g1, g2, g3, g4⟩ := h.own j u q
      exact ⟨u, e2, o2.go (fun _ e => e) (fun _ _ e _ => e) n, g1, g2, g3, fun z => g4 (z.imp (fun z => z) fun z => z.1)⟩
  · rcases set_at q1 with ⟨ej, q⟩ | ⟨ne, q1⟩
    · cases q
    · rcases set_at q2 with ⟨ej, q⟩ | ⟨ne2, q2⟩
      · cases q
      · exact h.inj j k p' _ _ q1 q2 q3 q4
  · exact (show TapeOk K mg (SS (C.plus Y) Z0 r σ) C.tp T H from h.tape).less n
  · rcases set_at q with ⟨ej, q⟩ | ⟨ne, q⟩
    · cases q
    · exact h.tslot j q
  · exact h.st p (z.imp (fun z => z) fun z => z.1)
  · refine ⟨phi φ i [], fun j s d q => ?_, fun j => ?_, fun j p hp => ?_, fun j k p hj hk => ?_⟩
    · rcases set_at q with ⟨ej, q⟩ | ⟨ne, q⟩
      · cases q
      · obtain ⟨v, e1, t⟩ := h1 j s d q
        refine ⟨v, e1, ?_⟩
        rw [phi_ne ne]
        exact t.go (fun _ _ e _ => e) n fun _ _ _ e => e
    · by_cases c : j = i
      · rw [phi_eq c]; exact List.nodup_nil
      · rw [phi_ne c]; exact h2 j
    · by_cases c : j = i
      · rw [phi_eq c] at hp; cases hp
      · rw [phi_ne c] at hp
        obtain ⟨⟨a1, a2⟩, a3, a4⟩ := h3 j p hp
        have np : p ∉ φ i := fun z => c (h4 j i p hp z)
        exact ⟨⟨.inr ⟨a2, np⟩, a2, np⟩, a3, a4⟩
    · by_cases c : j = i
      · rw [phi_eq c] at hj; cases hj
      · by_cases c2 : k = i
        · rw [phi_eq c2] at hk; cases hk
        · rw [phi_ne c] at hj
          rw [phi_ne c2] at hk
          exact h4 j k p hj hk
theorem HoldsY.unown (h : HoldsY K mg C r T σ H) : HoldsY K mg C (frz r i) T σ H := by
  unfold frz
  obtain ⟨Y, h, hY⟩ := h
  cases e : r[i]? with
  | none => exact ⟨Y, h, hY⟩
  | some o =>
    cases o with
    | none => exact ⟨Y, h, hY⟩
    | some w =>
      cases w with
      | own d => exact ⟨Y, h.unown e, hY⟩
      | tree s d => exact h.untree hY e
      | _ => exact ⟨Y, h, hY⟩
/-- a slot gets a new tree -/
theorem Holds.setTree {Y : Addr → Prop} {F : List Addr} {s : Sh} {d : D} {v : V} (h : Holds K mg (C.plus Y) (fun a => a ∈ F) r T σ H) (hY : ∀ p, Y p → ¬ C.S0 p) (o : TreeAt K mg (SS (C.plus Y) (fun a => a ∈ F) r σ) H F s v d) (hn : F.Nodup) (hF : ∀ p ∈ F, ¬ (C.plus Y).S0 p ∧ C.H0 p = none ∧ C.tp ≠ some p) : HoldsY K mg C (r.set i (some (.tree s d))) T (σ.set i (some v)) H := by
  obtain ⟨φ, h1, h2, h3, h4⟩ := h.tree
  have less : ∀ a, SS (C.plus fun p => Y p ∨ p ∈ F) Z0 (r.set i (some (.tree s d))) (σ.set i (some v)) a → SS (C.plus Y) (fun a => a ∈ F) r σ a := fun a z => by
    rcases z with (z | z | z) | z | ⟨j, u, z1, z2⟩ | z
    · exact .inl (.inl z)
    · exact .inl (.inr z)
    · exact .inr (.inr (.inr z))
    · exact .inr (.inl z)
    · rcases set_at z1 with ⟨_, q⟩ | ⟨ne, q⟩
      · cases q
      · rw [List.getElem?_set_ne (Ne.symm ne)] at z2
        exact .inr (.inr (.inl ⟨j, u, q, z2⟩))
    · exact z.elim
  have n : ∀ a o, H a = some o → ¬ SS (C.plus Y) (fun a => a ∈ F) r σ a → ¬ SS (C.plus fun p => Y p ∨ p ∈ F) Z0 (r.set i (some (.tree s d))) (σ.set i (some v)) a := fun a _ _ s z => s (less a z)
  refine ⟨fun p => Y p ∨ p ∈ F, ⟨by rw [List.length_set, List.length_set]; exact h.len, h.frame, fun j u q => ?_, fun j u q => ?_, fun j k p' u w q1 q2 q3 q4 => ?_, ?_, fun j q => ?_, fun p z => ?_, fun _ z => z.elim, fun p hp => (h.pin p hp).go (fun _ _ e _ => e) n, ?_⟩, fun p z => z.elim (hY p) fun z w => (hF p z).1 (.inl w)⟩
  · rcases set_at q with ⟨ej, q⟩ | ⟨ne, q⟩
    · cases q
    · obtain ⟨u, e2, p1⟩ := h.val j u q
      exact ⟨u, by rw [List.getElem?_set_ne (Ne.symm ne)]; exact e2, p1.go (fun _ _ e _ => e) n⟩
  · rcases set_at q with ⟨ej, q⟩ | ⟨ne, q⟩
    · cases q
    · obtain ⟨u, e2, o2, g1, g2, g3, g4⟩ := h.own j u q
      exact ⟨u, by rw [List.getElem?_set_ne (Ne.symm ne)]; exact e2, o2.go (fun _ e => e) (fun _ _ e _ => e) n, g1, g2, fun z => z, fun z => z.elim (fun z => g4 (.inl z)) fun z => z.elim (fun z => g4 (.inr z)) g3⟩
  · rcases set_at q1 with ⟨ej, q⟩ | ⟨ne, q1⟩
    · cases q
    · rcases set_at q2 with ⟨ej, q⟩ | ⟨ne2, q2⟩
      · cases q
      · rw [List.getElem?_set_ne (Ne.symm ne)] at q3
        rw [List.getElem?_set_ne (Ne.symm ne2)] at q4
        exact h.inj j k p' _ _ q1 q2 q3 q4
  · exact (show TapeOk K mg (SS (C.plus Y) (fun a => a ∈ F) r σ) C.tp T H from h.tape).less n
  · rcases set_at q with ⟨ej, q⟩ | ⟨ne, q⟩
    · cases q
    · rw [List.getElem?_set_ne (Ne.symm ne)]
      exact h.tslot j q
  · rcases z with z | z | z
    · exact h.st p (.inl z)
    · exact h.st p (.inr z)
    · exact h.zt p z
  · refine ⟨phi φ i F, fun j s' d' q => ?_, fun j => ?_, fun j p hp => ?_, fun j k p hj hk => ?_⟩
    · rcases set_at q with ⟨ej, q⟩ | ⟨ne, q⟩
      · cases q
        subst ej
        refine ⟨v, ?_, ?_⟩
        · have hj := lt_of_get ‹_›
          rw [List.length_set, h.len] at hj
          rw [List.getElem?_set_self hj]
        · rw [phi_eq rfl]
          exact o.go (fun _ _ e _ => e) n fun _ _ _ e => e
      · obtain ⟨u, e1, t⟩ := h1 j s' d' q
        refine ⟨u, by rw [List.getElem?_set_ne (Ne.symm ne)]; exact e1, ?_⟩
        rw [phi_ne ne]
        exact t.go (fun _ _ e _ => e) n fun _ _ _ e => e
    · by_cases c : j = i
      · rw [phi_eq c]; exact hn
      · rw [phi_ne c]; exact h2 j
    · by_cases c : j = i
      · rw [phi_eq c] at hp
        exact ⟨⟨.inr (.inr hp), .inr hp⟩, (hF p hp).2⟩
      · rw [phi_ne c] at hp
        obtain ⟨⟨a1, a2⟩, a3⟩ := h3 j p hp
        exact ⟨⟨.inr (.inl a2), .inl a2⟩, a3⟩
    · by_cases c : j = i
      · by_cases c2 : k = i
        · rw [c, c2]
        · rw [phi_eq c] at hj
          rw [phi_ne c2] at hk
          exact absurd (h3 k p hk).1.1 (hF p hj).1
      · rw [phi_ne c] at hj
        by_cases c2 : k = i
        · rw [phi_eq c2] at hk
          exact absurd (h3 j p hj).1.1 (hF p hk).1
        · rw [phi_ne c2] at hk
          exact h4 j k p hj hk
theorem s1_less {Z Y : Addr → Prop} (a : Addr) (s : S1 C a) : SS (C.plus Y) Z r σ a := by
  rcases s with s | s
  · exact .inl (.inl s)
  · exact .inr (.inl s)
theorem ret_val {Y : Addr → Prop} (h : Holds K mg (C.plus Y) Z0 r T σ H) {u : V} {d : D} (p : Rep K mg (SS (C.plus Y) Z0 r σ) H u d) : Ret K mg C T H u (.val d) :=
  ⟨p.go (fun _ _ e _ => e) fun a _ _ s z => s (s1_less a z), (show TapeOk K mg (SS (C.plus Y) Z0 r σ) C.tp T H from h.tape).less fun a _ _ s z => s (s1_less a z)⟩
end
theorem put_slot {K : PySem.W.Frag} {mg : Str → Option Value} {C : FC} {Y : Addr → Prop} {r : Env} {T : Tp} {σ : L2.St} {H : Hp} {i : Nat} {G : Fl × Tp → Prop} {Q : L2.St → Hp → Prop} (h : Holds K mg (C.plus Y) Z0 r T σ H) (hY : ∀ p, Y p → ¬ C.S0 p) {x : Rs (VD × Tp)}
    (P : PostS K mg C G (x.bind fun p => (put r i p.1).bind fun r' => .ok (.nx r', p.2))) (hG : ∀ r' T', G (.nx r', T') → ∀ σ H, HoldsY K mg C r' T' σ H → Q σ H) : Post K mg (C.plus Y) r σ H (fun v H1 => Q (σ.set i (some v)) H1) x := by
  refine (PostS.at hY P.bind).imp fun p P => ?_
  obtain ⟨v, T'⟩ := p
  cases v with
  | val d => exact fun v H' h1 e1 p => hG _ _ P _ _ ⟨Y, h1.setVal p, hY⟩
  | own d =>
    refine fun p H' hp h1 e1 o => hG _ _ P _ _ ⟨Y, h1.setOwn (back h h.frame hp) o (fun z => h.fresh hp (.inr (.inl z))) (fun z => h.fresh hp (.inl z)), hY⟩
  | peek d => exact (show False from P).elim
  | tape => exact (show False from P).elim
  | look d => exact (show False from P).elim
  | tree s d =>
    refine fun v F H' hp hn h1 e1 o => hG _ _ P _ _ (h1.setTree hY o hn fun p z => ⟨fun w => h.fresh (hp p z) (.inl w), back h h.frame (hp p z), fun w => h.fresh (hp p z) (.inr (.inl w))⟩)
section
variable {X : Cx} {C : FC} {st : Stmt} {a b rest : List Stmt} {e : Expr} {c : Expr} {f : DE} {u : DT} {g w : DS} {pos : Pos}
theorem ss_break : SSt X C (.Break pos) sBrk := ps_imp ps_break fun D σ H ⟨ρ, T, h, P⟩ => P σ H h
theorem sss_nil : SSs X C [] sPass := pss_imp pss_nil fun D σ H ⟨ρ, T, h, P⟩ => P σ H h
theorem sss_one (h : SSt X C st g) : SSs X C [st] g := pss_one h
theorem sss_cons (h : SSt X C st g) (k : SSs X C rest w) : SSs X C (st :: rest) (sSeq g w) := by
  refine pss_imp (pss_cons h k) ?_
  rintro D σ H ⟨ρ, T, h, P⟩
  refine ⟨ρ, T, h, P.bind.imp fun p P => ?_⟩
  obtain ⟨fl, T'⟩ := p
  cases fl with
  | nx r' => exact fun σ' H' h' => ⟨r', T', h', P⟩
  | rt v => exact P
  | bk r' => exact P
  | ct r' => exact P
theorem ss_ret (he : ∀ Y, SE X (C.plus Y) e f) : SSt X C (.Return (some e) pos) (sRet f) := by
  refine ps_imp (ps_ret (pe_ex he)) ?_
  rintro D σ H ⟨ρ, T, ⟨Y, h, hY⟩, P⟩
  refine ⟨Y, ρ, T, h, (PostS.at hY P.bind).imp fun p P => ?_⟩
  obtain ⟨v, T'⟩ := p
  cases v with
  | val d => exact fun v H' h1 e1 p => P v H' h1.frame (ret_val h1 p)
  | own d =>
    have n : ∀ p : Addr, ∀ a, ¬ SS (C.plus Y) (fun a => a = p) ρ σ a → ¬ (S1 C a ∨ a = p) := fun p a s z => by
      rcases z with z | z
      · exact s (s1_less a z)
      · exact s (.inr (.inr (.inr z)))
    refine fun p H' hp h1 e1 o => P (.ref p) H' h1.frame ⟨p, rfl, back h h.frame hp, fun z => h.fresh hp (.inr (.inl z)), o.go (fun _ e => e) (fun _ _ e _ => e) fun a _ _ s => n p a s, (show TapeOk X.K X.mg (SS (C.plus Y) (fun a => a = p) ρ σ) C.tp T' H' from h1.tape).less fun a _ _ s => n p a s⟩
  | peek d => exact (show False from P).elim
  | tape => exact (show False from P).elim
  | look d => exact (show False from P).elim
  | tree s d =>
    have n : ∀ F : List Addr, ∀ a, ¬ SS (C.plus Y) (fun a => a ∈ F) ρ σ a → ¬ (S1 C a ∨ a ∈ F) := fun F a s z => by
      rcases z with z | z
      · exact s (s1_less a z)
      · exact s (.inr (.inr (.inr z)))
    refine fun v F H' hp hn h1 e1 o => P v H' h1.frame ⟨F, fun p z => ⟨back h h.frame (hp p z), fun w => h.fresh (hp p z) (.inr (.inl w))⟩, hn, o.go (fun _ _ e _ => e) (fun a _ _ s => n F a s) fun _ _ _ e => e, (show TapeOk X.K X.mg (SS (C.plus Y) (fun a => a ∈ F) ρ σ) C.tp T' H' from h1.tape).less fun a _ _ s => n F a s⟩
theorem ss_retV (i : Nat) {x : Str} (hN : X.N[i]? = some x := by rfl) (hv : Vis X.env.scope x := by first | exact Or.inl rfl | exact Or.inr (Or.inl rfl) | exact Or.inr (Or.inr rfl)) {pos' : Pos}
    (hd : (x == ("__debug__" : Str)) = false := by decide) (hcd : (x == ("__classdict__" : Str)) = false := by decide) : SSt X C (.Return (some (.Name x pos')) pos) (sRetV i) := by
  refine ps_imp (ps_ret (pe_var hN hv hd hcd)) ?_
  rintro D σ H ⟨ρ, T, ⟨Y, h, hY⟩, P⟩
  unfold sRetV at P
  cases e : ρ[i]? with
  | none => rw [e] at P; exact P.elim
  | some o =>
    rw [e] at P
    cases o with
    | none => exact P.elim
    | some w =>
      cases w with
      | val d =>
        obtain ⟨v, e1, p⟩ := h.val i d e
        exact ⟨v, e1, P v H h.frame (ret_val h p)⟩
      | own d =>
        obtain ⟨p, e1, o, g1, g2, g3, g4⟩ := h.own i d e
        have n : ∀ a o, H a = some o → ¬ SS (C.plus Y) Z0 ρ σ a → ¬ (S1 C a ∨ a = p) := fun a _ _ s z => by
          rcases z with z | z
          · exact s (s1_less a z)
          · rw [z] at s
            exact s (.inr (.inr (.inl ⟨i, d, e, e1⟩)))
        exact ⟨_, e1, P _ H h.frame ⟨p, rfl, g1, g2, o.go (fun _ e => e) (fun _ _ e _ => e) n, (show TapeOk X.K X.mg (SS (C.plus Y) Z0 ρ σ) C.tp T H from h.tape).less n⟩⟩
      | peek d => exact P.elim
      | tape => exact P.elim
      | look d => exact P.elim
      | tree s d =>
        obtain ⟨φ, h1, h2, h3, h4⟩ := h.tree
        obtain ⟨v, e1, t⟩ := h1 i s d e
        have n : ∀ a o, H a = some o → ¬ SS (C.plus Y) Z0 ρ σ a → ¬ (S1 C a ∨ a ∈ φ i) := fun a _ _ s z => by
          rcases z with z | z
          · exact s (s1_less a z)
          · exact s (.inl (h3 i a z).1.1)
        exact ⟨_, e1, P _ H h.frame ⟨φ i, fun p z => (h3 i p z).2, h2 i, t.go (fun _ _ e _ => e) n fun _ _ _ e => e, (show TapeOk X.K X.mg (SS (C.plus Y) Z0 ρ σ) C.tp T H from h.tape).less n⟩⟩
theorem ss_if (hc : ∀ Y, ST X (C.plus Y) c u) (ha : SSs X C a g) (hb : SSs X C b w) : SSt X C (.If c a b pos) (sIf u g w) := by
  refine ps_imp (ps_if (pt_ex hc) ha hb) ?_
  rintro D σ H ⟨ρ, T, ⟨Y, h, hY⟩, P⟩
  refine ⟨Y, ρ, T, h, (PostS.at hY P.bind).imp fun p P => ?_⟩
  obtain ⟨b, T'⟩ := p
  intro H' h1 e1
  cases b with
  | true => exact ⟨ρ, T', ⟨Y, h1, hY⟩, P⟩
  | false => exact ⟨ρ, T', ⟨Y, h1, hY⟩, P⟩
theorem sss_frz (i : Nat) (h : SSs X C a g) : SSs X C a (sFrz i g) := pss_imp h fun D σ H ⟨ρ, T, h, P⟩ => ⟨frz ρ i, T, h.unown, P⟩
theorem ss_set (i : Nat) {x : Str} {pos' : Pos} (hN : X.N.Nodup) (he : ∀ Y, SE X (C.plus Y) e f) (hi : X.N[i]? = some x := by rfl) (hx : Loc X.env.scope x := by first | exact Or.inl rfl | exact Or.inr rfl) (hs : swapsWith e (some (.Name x pos')) pos.line X.env = pure false := by rfl) (hf : X.fn x = true ∨ X.env.scope.names.lookup x = some .local := by first | exact .inl rfl | exact .inr rfl) :
    SSt X C (.Assign [.Name x pos'] e pos) (sAsg i f) := by
  refine ps_imp (ps_set hN hi hx (pe_ex he) hs hf) ?_
  rintro D σ H ⟨ρ, T, ⟨Y, h, hY⟩, P⟩
  exact ⟨Y, ρ, T, h, put_slot (Q := D.nx) h hY P fun r' T' q σ' H' h' => q σ' H' h'⟩
theorem ss_aug (i : Nat) {x : Str} {pos' : Pos} {o : Operator} {op : D → D → Rs VD} {r : R2} (ho : OpR X (inplaceOp o) r) (hd : R2D X.K X.mg r op) (hq : Quiet2 op) (hN : X.N.Nodup) (he : ∀ Y, SE X (C.plus Y) e f) (hi : X.N[i]? = some x := by rfl) (hx : Loc X.env.scope x := by first | exact Or.inl rfl | exact Or.inr rfl)
    (hf : X.fn x = true ∨ X.env.scope.names.lookup x = some .local := by first | exact .inl rfl | exact .inr rfl) : SSt X C (.AugAssign (.Name x pos') o e pos) (sAug op i f) := by
  refine ps_imp (ps_aug (ti := fun x y H Q => r x y H Q) hN hi hx (pe_ex he) (fun pins s σ H x y v u Q I rx ry q => ho pins s σ H x y v u Q I rx ry q) hf) ?_
  rintro D σ H ⟨ρ, T, ⟨Y, h, hY⟩, P⟩
  unfold sAug at P
  cases e : ρ[i]? with
  | none => rw [e] at P; exact P.elim
  | some o =>
    rw [e] at P
    cases o with
    | none => exact P.elim
    | some w =>
      cases w with
      | val d =>
        obtain ⟨v, e1, p⟩ := h.val i d e
        refine ⟨v, e1, Y, ρ, T, h, gs_dt h (PostS.at hY P.bind) fun d2 T' v2 H1 h1 e1 p2 P1 => ?_⟩
        have Q2 : Post X.K X.mg (C.plus Y) ρ σ H1 (fun z H2 => D.nx (σ.set i (some z)) H2) (lift (op d d2) T') := by
          refine put_slot (i := i) (G := GS X.K X.mg C D) (Q := D.nx) h1 hY ?_ fun r' T' q σ' H' h' => q σ' H' h'
          rcases hq d d2 with z | ⟨y, z⟩ | ⟨y, z⟩ <;> rw [z] at P1 ⊢ <;> exact P1
        obtain ⟨z, ez, P3⟩ := lift_ex (hq d d2) h1 Q2
        exact hd _ H1 v v2 d d2 _ z h1.trk (.inl (p.ext e1)) p2.top ez P3
      | own d => exact P.elim
      | peek d => exact P.elim
      | tape => exact P.elim
      | look d => exact P.elim
      | tree s d => exact P.elim
end
/-! ## defs -/
def env0 (n : Nat) (io : Bool) (ds : List D) : Env := (if io then [some .tape] else []) ++ ds.map (fun d => some (.val d)) ++ List.replicate (n - (if io then 1 else 0) - ds.length) none
abbrev DM := List D → Tp → Rs (VD × Tp)
def runD (n : Nat) (io : Bool) (g : DS) : DM := fun ds T => (g (env0 n io ds) T).bind fun p => match p.1 with
  | .nx _ => .ok (.val .non, p.2)
  | .rt v => .ok (v, p.2)
  | _ => .stuck
def GF (K : PySem.W.Frag) (mg : Str → Option Value) (C : FC) (Q : VK) : VD × Tp → Prop := fun p => ∀ u H', Ext C C.H0 H' → Ret K mg C p.2 H' u p.1 → Q u H'
def PostF (K : PySem.W.Frag) (mg : Str → Option Value) (C : FC) (Q : VK) (E : XK) : Rs (VD × Tp) → Prop
  | .ok p => GF K mg C Q p
  | .exc c fs T _ => ∀ cls d H', Ext C C.H0 H' → TapeOk K mg (S1 C) C.tp T H' → ExcAt K mg (S1 C) H' c fs cls d → E cls d H'
  | .stuck => False
def Args (C : FC) (io : Bool) (vs vs1 : List V) : Prop := match C.tp with
  | none => io = false ∧ vs = vs1
  | some p => (io = true ∧ vs = .ref p :: vs1 ∨ io = false ∧ vs = vs1) ∧ ¬ C.S0 p
/-- a def's promise: it does what M says -/
def SpD (K : PySem.W.Frag) (mg : Str → Option Value) (n : Nat) (io : Bool) (M : DM) : Sp := fun vs H Q E => ∃ (C : FC) (vs1 : List V) (ds : List D) (T : Tp),
  C.H0 = H ∧ vs.length = n ∧ (∀ p, C.S0 p → ∃ o, H p = some o ∧ Mut (some o)) ∧ Args C io vs vs1 ∧ TapeOk K mg (S1 C) C.tp T H ∧ Reps K mg (S1 C) H vs1 ds ∧ PostF K mg C Q E (M ds T)
theorem ExcAt.less {K : PySem.W.Frag} {mg : Str → Option Value} {S S' : Addr → Prop} {H : Hp} {c : Str} {fs : List (Str × D)} {cls : Value} {d : Option Addr} (x : ExcAt K mg S H c fs cls d) (n : ∀ a o, H a = some o → ¬ S a → ¬ S' a) : ExcAt K mg S' H c fs cls d := by
  obtain ⟨Ca, h1, h2, h3⟩ := x
  refine ⟨Ca, h1, h2, ?_⟩
  rcases h3 with h3 | ⟨dd, xs, e1, e2, e3, q⟩
  · exact .inl h3
  · exact .inr ⟨dd, xs, e1, e2, e3, q.go (fun _ _ e _ => e) n⟩
theorem env0_get {n : Nat} {io : Bool} {ds : List D} {i : Nat} {w : VD} (h : (env0 n io ds)[i]? = some (some w)) : (io = true ∧ i = 0 ∧ w = .tape) ∨ ∃ d, w = .val d ∧ ds[i - (if io then 1 else 0)]? = some d ∧ (if io then 1 else 0) ≤ i := by
  unfold env0 at h
  have core : ∀ (l : List D) (k j : Nat), (l.map (fun d => some (VD.val d)) ++ List.replicate k none)[j]? = some (some w) → ∃ d, w = .val d ∧ l[j]? = some d := fun l k j q => by
    by_cases hj : j < l.length
    · rw [List.getElem?_append_left (by simpa using hj), List.getElem?_map] at q
      cases e : l[j]? with
      | none =>
        rw [e] at q
        cases q
      | some d =>
        rw [e] at q
        cases q
        exact ⟨d, rfl, rfl⟩
    · rw [List.getElem?_append_right (by simpa using hj), List.getElem?_replicate] at q
      split at q <;> cases q
  cases io with
  | false =>
    obtain ⟨d, e1, e2⟩ := core ds _ i h
    exact .inr ⟨d, e1, e2, Nat.zero_le _⟩
  | true =>
    cases i with
    | zero =>
      cases h
      exact .inl ⟨rfl, rfl, rfl⟩
    | succ i =>
      obtain ⟨d, e1, e2⟩ := core ds _ i h
      exact .inr ⟨d, e1, e2, Nat.succ_le_succ (Nat.zero_le _)⟩
theorem start_get {N : List Str} {vs : List V} {i : Nat} {v : V} (h : vs[i]? = some v) : (L2.start N vs)[i]? = some (some v) := by
  unfold L2.start
  have hi := lt_of_get h
  rw [List.getElem?_append_left (by simpa using hi), List.getElem?_map, h]
  rfl
section
variable {P : Program} {w : World} {K : PySem.W.Frag} {mg : Str → Option Value} {base : Heap}
theorem holds_start {C : FC} {N : List Str} {io : Bool} {vs vs1 : List V} {ds : List D} {T : Tp} (hn : vs.length ≤ N.length) (st : ∀ p, C.S0 p → ∃ o, C.H0 p = some o ∧ Mut (some o)) (a : Args C io vs vs1) (t : TapeOk K mg (S1 C) C.tp T C.H0) (r : Reps K mg (S1 C) C.H0 vs1 ds) (hp : C.pin = []) :
    Holds K mg C Z0 (env0 N.length io ds) T (L2.start N vs) C.H0 := by
  have nown : ∀ (i : Nat) (d : D), (env0 N.length io ds)[i]? ≠ some (some (.own d)) := fun i d q => by
    rcases env0_get q with ⟨_, _, z⟩ | ⟨_, z, _⟩ <;> cases z
  have ntree : ∀ (i : Nat) (s : Sh) (d : D), (env0 N.length io ds)[i]? ≠ some (some (.tree s d)) := fun i s d q => by
    rcases env0_get q with ⟨_, _, z⟩ | ⟨_, z, _⟩ <;> cases z
  have n : ∀ a o, C.H0 a = some o → ¬ S1 C a → ¬ SS C Z0 (env0 N.length io ds) (L2.start N vs) a := fun a _ _ s z => by
    rcases z with z | z | ⟨i, d, z, _⟩ | z
    · exact s (.inl z)
    · exact s (.inr z)
    · exact nown i d z
    · exact z
  have hl := r.len
  refine ⟨?_, Ext.refl, fun i d q => ?_, fun i d q => absurd q (nown i d), fun i j p d e q => absurd q (nown i d), t.less n, fun i q => ?_, st, fun _ z => z.elim, fun p z => absurd z (by rw [hp]; simp), .nil ntree⟩
  · unfold Args at a
    unfold env0 L2.start
    cases hc : C.tp with
    | none =>
      rw [hc] at a
      obtain ⟨rfl, rfl⟩ := a
      simp only [Bool.false_eq_true, if_false, List.nil_append, List.length_append, List.length_map, List.length_replicate]
      omega
    | some p =>
      rw [hc] at a
      rcases a with ⟨⟨rfl, rfl⟩ | ⟨rfl, rfl⟩, _⟩
      · simp only [if_true, List.length_append, List.length_map, List.length_replicate, List.length_cons, List.length_nil] at hn ⊢
        omega
      · simp only [Bool.false_eq_true, if_false, List.nil_append, List.length_append, List.length_map, List.length_replicate]
        omega
  · rcases env0_get q with ⟨_, _, z⟩ | ⟨d', z, e, le⟩
    · cases z
    · cases z
      obtain ⟨v, e1, p⟩ := r.getD e
      refine ⟨v, ?_, p.go (fun _ _ e _ => e) n⟩
      apply start_get
      unfold Args at a
      cases hc : C.tp with
      | none =>
        rw [hc] at a
        obtain ⟨rfl, rfl⟩ := a
        simpa using e1
      | some p =>
        rw [hc] at a
        rcases a with ⟨⟨rfl, rfl⟩ | ⟨rfl, rfl⟩, _⟩
        · cases i with
          | zero => exact absurd le (by simp)
          | succ i => simpa using e1
        · simpa using e1
  · rcases env0_get q with ⟨hio, hi, _⟩ | ⟨_, z, _⟩
    · subst hio hi
      unfold Args at a
      cases hc : C.tp with
      | none =>
        rw [hc] at a
        exact absurd a.1 (by simp)
      | some p =>
        rw [hc] at a
        rcases a with ⟨⟨_, rfl⟩ | ⟨z, _⟩, _⟩
        · exact ⟨p, rfl, start_get rfl⟩
        · cases z
    · cases z
theorem Holds.plus0 {C : FC} {r : Env} {T : Tp} {σ : L2.St} {H : Hp} (h : Holds K mg C Z0 r T σ H) (ht : ∀ (i : Nat) (s : Sh) (d : D), r[i]? ≠ some (some (.tree s d))) : HoldsY K mg C r T σ H := by
  have n : ∀ a o, H a = some o → ¬ SS C Z0 r σ a → ¬ SS (C.plus fun _ => False) Z0 r σ a := fun a _ _ s z => s (by
    rcases z with (z | z) | z
    · exact .inl z
    · exact z.elim
    · exact .inr z)
  refine ⟨fun _ => False, ⟨h.len, h.frame, fun i d q => ?_, fun i d q => ?_, h.inj, h.tape.less n, h.tslot, fun p z => h.st p (z.elim (fun z => z) fun z => z.elim), h.zt, fun p z => (h.pin p z).go (fun _ _ e _ => e) n, .nil ht⟩, fun _ z => z.elim⟩
  · obtain ⟨v, e1, p⟩ := h.val i d q
    exact ⟨v, e1, p.go (fun _ _ e _ => e) n⟩
  · obtain ⟨p, e1, o, g1, g2, g3, g4⟩ := h.own i d q
    exact ⟨p, e1, o.go (fun _ e => e) (fun _ _ e _ => e) n, g1, g2, g3, fun z => z.elim g4 fun z => z.elim⟩
end
end Pu
namespace Pu
open PySem L2
/-! ## calls of defs -/
def eDef (n : Nat) (M : DM) (g : DA) : DE := fun r T => (g r T).bind fun p => if p.1.length = n then (match M p.1 none with
  | .ok q => .ok (q.1, p.2)
  | .exc c fs _ _ => .exc c fs p.2 r
  | .stuck => .stuck) else .stuck
/-- .. with the tape ahead -/
def eDefT (i n : Nat) (M : DM) (g : DA) : DE := fun r T => match r[i]? with
  | some (some .tape) => (g r T).bind fun p => if p.1.length + 1 = n then (match M p.1 p.2 with
    | .ok q => .ok q
    | .exc c fs T' _ => .exc c fs T' r
    | .stuck => .stuck) else .stuck
  | _ => .stuck
section
variable {K : PySem.W.Frag} {mg : Str → Option Value} {C : FC} {r : Env} {T : Tp} {σ : L2.St} {H H1 : Hp}
/-- what a def gave, as what an operation gives -/
theorem ret_res {C1 : FC} {T1 : Tp} {Q : VK} {z : VD} (hS : ∀ a, S1 C1 a ↔ SS C Z0 r σ a) (ht : C1.tp = none) (hH : C1.H0 = H) {u : V} {H' : Hp} (e : Ext C1 C1.H0 H') (q : Ret K mg C1 T1 H' u z) (h : Res1 K mg (SS C Z0 r σ) H z Q) : Q u H' := by
  have s : Same H H' := fun a o x => e a o (by rw [hH]; exact x) (by rw [ht]; intro z; cases z)
  cases z with
  | val d => exact h u H' s (q.1.go (fun _ _ e _ => e) fun a _ _ n z => n ((hS a).mpr z))
  | own d =>
    obtain ⟨p, rfl, hp, _, o, _⟩ := q
    refine h p H' (by rw [← hH]; exact hp) s (o.go (fun _ e => e) (fun _ _ e _ => e) fun a _ _ n z => n ?_)
    rcases z with z | z
    · exact .inl ((hS a).mpr z)
    · exact .inr z
  | peek d => exact q.elim
  | tape => exact q.elim
  | look d => exact q.elim
  | tree s d => exact h.elim
end
section
variable {X : Cx} {C : FC} {e : Expr} {es : List Expr} {g : DA} {pos p : Pos} {x : Str} {k : Nat} {f : Addr} {fd : FuncData} {ps : List Str} {n : Nat} {M : DM}
theorem t_def : ∀ (σ : L2.St) (H : Hp) (Q : VK), tE X.K X.mg C (eDef n M g) σ H Q → tCallS (SpD X.K X.mg n false M) (WE C.W) (tA X.K X.mg C g) σ H Q := by
  rintro σ H Q ⟨ρ, T, h, P⟩
  refine ⟨ρ, T, h, ga_bind P fun ds T' vs H1 h1 e1 p P1 => ?_⟩
  obtain ⟨hn, P2⟩ := postG_if P1
  have hS : ∀ a, S1 (⟨H1, SS C Z0 ρ σ, none, C.W, [], fun _ => False⟩ : FC) a ↔ SS C Z0 ρ σ a := fun a => by
    constructor
    · intro z
      rcases z with z | z
      · exact z
      · cases z
    · exact fun z => .inl z
  refine ⟨⟨H1, SS C Z0 ρ σ, none, C.W, [], fun _ => False⟩, vs, ds, none, rfl, by rw [p.len]; exact hn, h1.trk, ⟨rfl, rfl⟩, rfl, p.go (fun _ _ e _ => e) fun a _ _ n z => n ((hS a).mp z), ?_⟩
  cases q : M ds none with
  | stuck =>
    simp only [q] at P2
    exact P2.elim
  | exc c fs T2 r2 =>
    simp only [q] at P2
    exact fun cls d H' e2 _ x => P2 cls d H' (h1.more fun a o z => e2 a o z (by intro z; cases z)) (x.less fun a _ _ n z => n ((hS a).mpr z))
  | ok z =>
    simp only [q] at P2
    have P3 : GV X.K X.mg C ρ σ H Q (z.1, T') := P2
    intro u H' e2 rt
    obtain ⟨z1, z2⟩ := z
    cases z1 with
    | val d => exact ret_res hS rfl rfl e2 rt (gv_res h1 (gv_from h1 e1 P3) fun _ => ⟨nofun, nofun, nofun⟩)
    | own d => exact ret_res hS rfl rfl e2 rt (gv_res h1 (gv_from h1 e1 P3) fun _ => ⟨nofun, nofun, nofun⟩)
    | peek d => exact rt.elim
    | tape => exact rt.elim
    | look d => exact rt.elim
    | tree s d =>
      obtain ⟨F, hF, hn, o, t⟩ := rt
      have sm : Same H1 H' := fun a o z => e2 a o z (by intro z; cases z)
      refine P3 u F H' (fun p z => back h1 e1 (hF p z).1) hn (h1.aparts sm (fun p z => (hF p z).1) o.there) (e1.trans (.same sm)) (o.go (fun _ _ e _ => e) (fun a _ _ n z => n ?_) fun _ _ _ e => e)
      rcases z with z | z | z | z
      · exact .inl ((hS a).mpr (.inl z))
      · exact .inl ((hS a).mpr (.inr (.inl z)))
      · exact .inl ((hS a).mpr (.inr (.inr (.inl z))))
      · exact .inr z
theorem se_def (F : FnOk X.prog X.w X.K X.mg X.base (L2.CX X.prog X.w) k f fd ps (SpD X.K X.mg n false M)) (hm : X.mg x = some (.ref f)) (hk : PySem.W.keepIn X.K (.ref f) = true) (hb : Binds X.K fd ps []) (hr : Room k X.A) (tk : Takes X C.W) (ha : SA X C (e :: es) g)
    (hg : Gl X x := by rfl) (hdb : (x == ("__debug__" : Str)) = false := by decide) (he : starEach (e :: es) X.env = (false, eval e X.env) :: starEach es X.env := by rfl) (hpl : (backTo pos (starEach es X.env)).any (·.1) = false := by rfl) :
    SE X C (.Call (.Name x p) (e :: es) [] pos) (eDef n M g) := pe_imp (pe_callS F hr hg hm hk hb (passAt tk) ha hdb he hpl) t_def
/-- the tape's name, then the others -/
theorem t_defT (i : Nat) : ∀ (σ : L2.St) (H : Hp) (Q : VK), tE X.K X.mg C (eDefT i n M g) σ H Q → tCallS (SpD X.K X.mg n true M) (WE C.W) (tCons (tVar i) (tA X.K X.mg C g)) σ H Q := by
  rintro σ H Q ⟨ρ, T, h, P⟩
  unfold eDefT at P
  cases ei : ρ[i]? with
  | none => rw [ei] at P; exact P.elim
  | some o =>
    rw [ei] at P
    cases o with
    | none => exact P.elim
    | some w =>
      cases w with
      | tape =>
        obtain ⟨p0, hc, es⟩ := h.tslot i ei
        refine ⟨_, es, ρ, T, h, ga_bind P fun ds T' vs H1 h1 e1 p P1 => ?_⟩
        obtain ⟨hn, P2⟩ := postG_if P1
        have hS : ∀ a, S1 (⟨H1, fun a => SS C Z0 ρ σ a ∧ C.tp ≠ some a, C.tp, C.W, [], fun _ => False⟩ : FC) a ↔ SS C Z0 ρ σ a := fun a => by
          constructor
          · intro z
            rcases z with z | z
            · exact z.1
            · exact .inr (.inl z)
          · intro z
            by_cases q : C.tp = some a
            · exact .inr q
            · exact .inl ⟨z, q⟩
        refine ⟨⟨H1, fun a => SS C Z0 ρ σ a ∧ C.tp ≠ some a, C.tp, C.W, [], fun _ => False⟩, vs, ds, T', rfl, by rw [List.length_cons, p.len]; exact hn, fun q z => h1.tr z.1, ?_, h1.tape.less fun a _ _ n z => n ((hS a).mp z), p.go (fun _ _ e _ => e) fun a _ _ n z => n ((hS a).mp z), ?_⟩
        · unfold Args
          rw [hc]
          exact ⟨.inl ⟨rfl, rfl⟩, fun z => z.2 rfl⟩
        cases q : M ds T' with
        | stuck =>
          simp only [q] at P2
          exact P2.elim
        | exc c fs T2 r2 =>
          simp only [q] at P2
          exact fun cls d H' e2 t x => P2 cls d H' (h1.move e2 ss_same (fun _ _ _ _ _ z => z) (t.less fun a _ _ n z => n ((hS a).mpr z)) fun _ z => z.elim) (x.less fun a _ _ n z => n ((hS a).mpr z))
        | ok z =>
          simp only [q] at P2
          obtain ⟨z, T2⟩ := z
          have P3 : GV X.K X.mg C ρ σ H Q (z, T2) := P2
          intro u H' e2 rt
          have e2' : Ext C H1 H' := e2
          cases z with
          | val d =>
            obtain ⟨r1, t⟩ := rt
            exact P3 u H' (h1.move e2' ss_same (fun _ _ _ _ _ z => z) (t.less fun a _ _ n z => n ((hS a).mpr z)) fun _ z => z.elim) (e1.trans e2') (r1.go (fun _ _ e _ => e) fun a _ _ n z => n ((hS a).mpr z))
          | own d =>
            obtain ⟨q, rfl, hp, nt, o, t⟩ := rt
            have hp : H1 q = none := hp
            have n2 : ∀ a o, H1 a = some o → ¬ SS C Z0 ρ σ a → ¬ SS C (fun a => a = q) ρ σ a := fun a o e s z => by
              rcases z with z | z | z | z
              · exact s (.inl z)
              · exact s (.inr (.inl z))
              · exact s (.inr (.inr (.inl z)))
              · rw [z, hp] at e
                cases e
            have n3 : ∀ a o, H' a = some o → ¬ (S1 (⟨H1, fun a => SS C Z0 ρ σ a ∧ C.tp ≠ some a, C.tp, C.W, [], fun _ => False⟩ : FC) a ∨ a = q) → ¬ SS C (fun a => a = q) ρ σ a := fun a _ _ n z => n (by
              rcases z with z | z | z | z
              · exact .inl ((hS a).mpr (.inl z))
              · exact .inl ((hS a).mpr (.inr (.inl z)))
              · exact .inl ((hS a).mpr (.inr (.inr (.inl z))))
              · exact .inr z)
            have om := o.there
            refine P3 q H' (back h1 e1 hp) (h1.move e2' n2 (fun j u d z1 z2 z3 => ?_) (t.less n3) fun a z => by rw [z]; exact om) (e1.trans e2') (o.go (fun _ e => e) (fun _ _ e _ => e) n3)
            obtain ⟨y, y1, y2, _⟩ := h1.own j d z1
            rw [z2] at y1
            cases y1
            obtain ⟨o2, e3, _⟩ := y2.there
            rw [z3, hp] at e3
            cases e3
          | peek d => exact rt.elim
          | tape => exact rt.elim
          | look d => exact rt.elim
          | tree s d =>
            obtain ⟨F, hF, hn, o, t⟩ := rt
            have hF : ∀ p ∈ F, H1 p = none ∧ C.tp ≠ some p := hF
            have n2 : ∀ a o, H1 a = some o → ¬ SS C Z0 ρ σ a → ¬ SS C (fun a => a ∈ F) ρ σ a := fun a o e s z => by
              rcases z with z | z | z | z
              · exact s (.inl z)
              · exact s (.inr (.inl z))
              · exact s (.inr (.inr (.inl z)))
              · rw [(hF a z).1] at e
                cases e
            have n3 : ∀ a o, H' a = some o → ¬ (S1 (⟨H1, fun a => SS C Z0 ρ σ a ∧ C.tp ≠ some a, C.tp, C.W, [], fun _ => False⟩ : FC) a ∨ a ∈ F) → ¬ SS C (fun a => a ∈ F) ρ σ a := fun a _ _ n z => n (by
              rcases z with z | z | z | z
              · exact .inl ((hS a).mpr (.inl z))
              · exact .inl ((hS a).mpr (.inr (.inl z)))
              · exact .inl ((hS a).mpr (.inr (.inr (.inl z))))
              · exact .inr z)
            refine P3 u F H' (fun p z => back h1 e1 (hF p z).1) hn (h1.move e2' n2 (fun j u d z1 z2 z3 => ?_) (t.less n3) o.there) (e1.trans e2') (o.go (fun _ _ e _ => e) n3 fun _ _ _ e => e)
            obtain ⟨y, y1, y2, _⟩ := h1.own j d z1
            rw [z2] at y1
            cases y1
            obtain ⟨o2, e3, _⟩ := y2.there
            rw [(hF u z3).1] at e3
            cases e3
      | _ => exact P.elim
theorem se_defT (i : Nat) {y : Str} {p2 : Pos} (F : FnOk X.prog X.w X.K X.mg X.base (L2.CX X.prog X.w) k f fd ps (SpD X.K X.mg n true M)) (hm : X.mg x = some (.ref f)) (hk : PySem.W.keepIn X.K (.ref f) = true) (hb : Binds X.K fd ps []) (hr : Room k X.A) (tk : Takes X C.W) (ha : SA X C es g)
    (hN : X.N[i]? = some y := by rfl) (hv : Vis X.env.scope y := by first | exact Or.inl rfl | exact Or.inr (Or.inl rfl) | exact Or.inr (Or.inr rfl)) (hd : (y == ("__debug__" : Str)) = false := by decide) (hcd : (y == ("__classdict__" : Str)) = false := by decide)
    (hg : Gl X x := by rfl) (hdb : (x == ("__debug__" : Str)) = false := by decide) (he : starEach (.Name y p2 :: es) X.env = (false, eval (.Name y p2) X.env) :: starEach es X.env := by rfl) (hpl : (backTo pos (starEach es X.env)).any (·.1) = false := by rfl) :
    SE X C (.Call (.Name x p) (.Name y p2 :: es) [] pos) (eDefT i n M g) := pe_imp (pe_callS F hr hg hm hk hb (passAt tk) (pa_cons (pe_var hN hv hd hcd) ha he) hdb he hpl) (t_defT i)
end
/-! ## what a loop or a comprehension walks -/
abbrev DI := Env → Tp → Rs (List D × Tp)
/-- the iterator J gives the data ds, as long as the pinned values stand -/
def PinOk (K : PySem.W.Frag) (mg : Str → Option Value) (J : It) (ds : List D) (pins : List (V × D)) : Prop :=
  ds.length ≤ sizeLine ∧ ∀ (S : Addr → Prop) (H : Hp), Trk S H → (∀ p ∈ pins, Top K mg S H p.1 p.2) → ∀ i : Nat, (∀ d, ds[i]? = some d → J.go i H ∧ ∀ x H3, J.yld i H x H3 → Same H H3 ∧ Rep K mg S H3 x d) ∧ (ds.length ≤ i → J.stop i H)
def GI (K : PySem.W.Frag) (mg : Str → Option Value) (C : FC) (r : Env) (σ : L2.St) (H : Hp) (R : It → Hp → Prop) : List D × Tp → Prop := fun q =>
  ∀ J (pins : List (V × D)) H', Holds K mg C Z0 r q.2 σ H' → Ext C H H' → (∀ p ∈ pins, Rep K mg (SS C Z0 r σ) H' p.1 p.2) → PinOk K mg J q.1 pins → R J H'
def GJ (K : PySem.W.Frag) (mg : Str → Option Value) (C : FC) (r : Env) (σ : L2.St) (H : Hp) (R : It → Hp → Prop) : List D × Tp → Prop := fun q =>
  ∀ J (pins : List (V × D)) H', Holds K mg C Z0 r q.2 σ H' → Ext C H H' → (∀ p ∈ pins, TopC K mg C r σ H' p.1 p.2) → PinOk K mg J q.1 pins → R J H'
/-- the same, at heaps that hold what H1 holds -/
def PinAt (K : PySem.W.Frag) (mg : Str → Option Value) (C : FC) (H1 : Hp) (J : It) (ds : List D) (pins : List (V × D)) : Prop :=
  ds.length ≤ sizeLine ∧ ∀ (S : Addr → Prop) (H : Hp), Trk S H → Ext C H1 H → (∀ p ∈ pins, Top K mg S H p.1 p.2) → ∀ i : Nat, (∀ d, ds[i]? = some d → J.go i H ∧ ∀ x H3, J.yld i H x H3 → Same H H3 ∧ Rep K mg S H3 x d) ∧ (ds.length ≤ i → J.stop i H)
theorem PinOk.at_ {K : PySem.W.Frag} {mg : Str → Option Value} {C : FC} {H1 : Hp} {J : It} {ds : List D} {pins : List (V × D)} (h : PinOk K mg J ds pins) : PinAt K mg C H1 J ds pins := ⟨h.1, fun S H t _ hp => h.2 S H t hp⟩
def GIA (K : PySem.W.Frag) (mg : Str → Option Value) (C : FC) (r : Env) (σ : L2.St) (H : Hp) (R : It → Hp → Prop) : List D × Tp → Prop := fun q =>
  ∀ J (pins : List (V × D)) H', Holds K mg C Z0 r q.2 σ H' → Ext C H H' → (∀ p ∈ pins, Rep K mg (SS C Z0 r σ) H' p.1 p.2) → PinAt K mg C C.H0 J q.1 pins → R J H'
def GJA (K : PySem.W.Frag) (mg : Str → Option Value) (C : FC) (r : Env) (σ : L2.St) (H : Hp) (R : It → Hp → Prop) : List D × Tp → Prop := fun q =>
  ∀ J (pins : List (V × D)) H', Holds K mg C Z0 r q.2 σ H' → Ext C H H' → (∀ p ∈ pins, TopC K mg C r σ H' p.1 p.2) → PinAt K mg C H' J q.1 pins → R J H'
theorem GIA.gi {K : PySem.W.Frag} {mg : Str → Option Value} {C : FC} {r : Env} {σ : L2.St} {H : Hp} {R : It → Hp → Prop} {q : List D × Tp} (h : GIA K mg C r σ H R q) : GI K mg C r σ H R q := fun J pins H' a b c d => h J pins H' a b c d.at_
theorem GJA.gj {K : PySem.W.Frag} {mg : Str → Option Value} {C : FC} {r : Env} {σ : L2.St} {H : Hp} {R : It → Hp → Prop} {q : List D × Tp} (h : GJA K mg C r σ H R q) : GJ K mg C r σ H R q := fun J pins H' a b c d => h J pins H' a b c d.at_
/-- for a loop: what is walked is data; for a comprehension: it is looked into -/
def tI (K : PySem.W.Frag) (mg : Str → Option Value) (C : FC) (f : DI) : TI := fun σ H R => ∃ r T, Holds K mg C Z0 r T σ H ∧ PostG K mg C σ (GI K mg C r σ H R) (f r T)
def tJ (K : PySem.W.Frag) (mg : Str → Option Value) (C : FC) (f : DI) : TI := fun σ H R => ∃ r T, Holds K mg C Z0 r T σ H ∧ PostG K mg C σ (GJ K mg C r σ H R) (f r T)
abbrev SI (X : Cx) (C : FC) (tg e : Expr) (f : DI) : Prop := PI X tg e (tI X.K X.mg C f)
abbrev SJ (X : Cx) (C : FC) (tg e : Expr) (f : DI) : Prop := PI X tg e (tJ X.K X.mg C f)
theorem pi_ex {X : Cx} {tg e : Expr} {t : (Addr → Prop) → TI} (h : ∀ Y, PI X tg e (t Y)) : PI X tg e (fun σ H R => ∃ Y, t Y σ H R) := ⟨fun pins s σ H R I ⟨Y, q⟩ => (h Y).run pins s σ H R I q⟩
theorem pi_imp {X : Cx} {tg e : Expr} {t t' : TI} (h : PI X tg e t) (i : ∀ σ H R, t' σ H R → t σ H R) : PI X tg e t' := ⟨fun pins s σ H R I q => h.run pins s σ H R I (i σ H R q)⟩
def seqD : D → Rs (List D)
  | .tup ds => .ok ds
  | .lst ds => .ok ds
  | .tpl ns => .ok (ns.map D.int)
  | _ => .stuck
@[simp] theorem seqD_tpl (ns : List Int) : seqD (.tpl ns) = .ok (ns.map D.int) := rfl
@[simp] theorem seqD_tup (ds : List D) : seqD (.tup ds) = .ok ds := rfl
@[simp] theorem seqD_lst (ds : List D) : seqD (.lst ds) = .ok ds := rfl
def iSeq (f : DE) : DI := fun r T => (dv (f r T)).bind fun p => (seqD p.1).bind fun ds => .ok (ds, p.2)
def jSeq (f : DE) : DI := fun r T => (dt (f r T)).bind fun p => (seqD p.1).bind fun ds => .ok (ds, p.2)
theorem pi_or {X : Cx} {tg l : Expr} {t u : TI} (h1 : PI X tg l t) (h2 : PI X tg l u) : PI X tg l (fun σ H R => t σ H R ∨ u σ H R) :=
  ⟨fun pins s σ H R I q => q.elim (fun q => h1.run pins s σ H R I q) fun q => h2.run pins s σ H R I q⟩
section
variable {K : PySem.W.Frag} {mg : Str → Option Value}
theorem pin_list {a : Addr} {ds : List D} (hz : ds.length ≤ sizeLine) : PinOk K mg (Itl K a) ds [(.ref a, .lst ds)] := ⟨hz, fun S H t h i => by
  obtain ⟨b, vs, e, h1, z, q⟩ := (h _ List.mem_cons_self).sqL
  cases e
  refine ⟨fun d e => ?_, fun hi => ⟨vs, .of h1, by rw [q.len]; exact hi⟩⟩
  obtain ⟨v, ev, p⟩ := q.getD e
  refine ⟨⟨vs, v, .of h1, ev⟩, fun x H3 ⟨e3, y⟩ => ?_⟩
  subst e3
  have := y vs (.of h1)
  rw [ev] at this
  cases this
  exact ⟨Same.refl _, p⟩⟩
theorem pin_tup {a : Addr} {ds : List D} (hz : ds.length ≤ sizeLine) : PinOk K mg (Itt K a) ds [(.ref a, .tup ds)] := ⟨hz, fun S H t h i => by
  obtain ⟨b, vs, e, h1, z, q⟩ := (h _ List.mem_cons_self).sqT
  cases e
  refine ⟨fun d e => ?_, fun hi => ⟨vs, h1, by rw [q.len]; exact hi⟩⟩
  obtain ⟨v, ev, p⟩ := q.getD e
  refine ⟨⟨vs, v, h1, ev⟩, fun x H3 ⟨e3, y⟩ => ?_⟩
  subst e3
  have := y vs h1
  rw [ev] at this
  cases this
  exact ⟨Same.refl _, p⟩⟩
theorem pin_tpl {a : Addr} {ns : List Int} (hz : ns.length ≤ sizeLine) : PinOk K mg (Itt K a) (ns.map D.int) [(.ref a, .tpl ns)] := ⟨by rw [List.length_map]; exact hz, fun S H t h i => by
  obtain ⟨b, e, h1, z⟩ := (h _ List.mem_cons_self).tplT
  cases e
  refine ⟨fun d e => ?_, fun hi => ⟨_, h1, by rw [List.length_map] at hi ⊢; exact hi⟩⟩
  obtain ⟨v, ev, p⟩ := (Reps.ints (K := K) (mg := mg) (S := S) (H := H) ns).getD e
  refine ⟨⟨_, v, h1, ev⟩, fun x H3 ⟨e3, y⟩ => ?_⟩
  subst e3
  have := y _ h1
  rw [ev] at this
  cases this
  exact ⟨Same.refl _, p⟩⟩
theorem pin_range {lo : Int} {n : Nat} (hz : n ≤ sizeLine) : PinOk K mg (Itr lo n) ((List.range n).map fun (i : Nat) => .int (lo + i)) [] := ⟨by rw [List.length_map, List.length_range]; exact hz, fun S H t h i => by
  refine ⟨fun d e => ?_, fun hi => by simpa [Itr] using hi⟩
  rw [List.getElem?_map] at e
  cases q : (List.range n)[i]? with
  | none =>
    rw [q] at e
    cases e
  | some j =>
    rw [q] at e
    cases e
    obtain ⟨h1, h2⟩ := List.getElem?_eq_some_iff.mp q
    rw [List.getElem_range] at h2
    subst h2
    rw [List.length_range] at h1
    refine ⟨h1, fun x H3 ⟨e3, y⟩ => ?_⟩
    subst e3 y
    exact ⟨Same.refl _, .int _⟩⟩
end
section
variable {X : Cx} {C : FC} {tg l : Expr} {f : DE}
theorem dt_seq {C : FC} {K : PySem.W.Frag} {mg : Str → Option Value} {σ : L2.St} {B : Type} {G : B → Prop} {d : D} {g : List D → Rs B} (h : PostG K mg C σ G ((seqD d).bind g)) : (∃ ds, d = .lst ds ∧ PostG K mg C σ G (g ds)) ∨ (∃ ds, d = .tup ds ∧ PostG K mg C σ G (g ds)) ∨ ∃ ns, d = .tpl ns ∧ PostG K mg C σ G (g (ns.map D.int)) := by
  cases d with
  | lst ds => exact .inl ⟨ds, rfl, h⟩
  | tup ds => exact .inr (.inl ⟨ds, rfl, h⟩)
  | tpl ns => exact .inr (.inr ⟨ns, rfl, h⟩)
  | _ => exact (show False from h).elim
theorem gv_dvE {K : PySem.W.Frag} {mg : Str → Option Value} {C : FC} {r : Env} {T : Tp} {σ : L2.St} {H : Hp} {B : Type} {G : B → Prop} {Q : VK} {x : Rs (VD × Tp)} {g : D × Tp → Rs B} (h0 : Holds K mg C Z0 r T σ H) (P : PostG K mg C σ G ((dv x).bind g))
    (k : ∀ d T' v H', dv x = .ok (d, T') → Holds K mg C Z0 r T' σ H' → Ext C H H' → Rep K mg (SS C Z0 r σ) H' v d → PostG K mg C σ G (g (d, T')) → Q v H') : Post K mg C r σ H Q x := by
  cases x with
  | ok p =>
    obtain ⟨v, T⟩ := p
    cases v with
    | val d => exact fun v H' h1 e1 p => k d T v H' rfl h1 e1 p P
    | own d => exact fun p H' hp h1 e1 o => k d T (.ref p) H' rfl h1.join e1 (o.frozen (h0.fresh hp) (fun a o e s z => s (ss_less a z))) P
    | peek d => exact (show False from P).elim
    | tape => exact (show False from P).elim
    | tree s d => exact (show False from P).elim
    | look d => exact (show False from P).elim
  | exc c fs t r => exact P
  | stuck => exact (show False from P).elim
theorem gv_dtE {K : PySem.W.Frag} {mg : Str → Option Value} {C : FC} {r : Env} {T : Tp} {σ : L2.St} {H : Hp} {B : Type} {G : B → Prop} {Q : VK} {x : Rs (VD × Tp)} {g : D × Tp → Rs B} (h0 : Holds K mg C Z0 r T σ H) (P : PostG K mg C σ G ((dt x).bind g))
    (k : ∀ d T' v H', dt x = .ok (d, T') → Holds K mg C Z0 r T' σ H' → Ext C H H' → TopC K mg C r σ H' v d → PostG K mg C σ G (g (d, T')) → Q v H') : Post K mg C r σ H Q x := by
  cases x with
  | ok p =>
    obtain ⟨v, T⟩ := p
    cases v with
    | val d => exact fun v H' h1 e1 p => k d T v H' rfl h1 e1 (.inl p) P
    | own d => exact fun p H' hp h1 e1 o => k d T (.ref p) H' rfl h1.join e1 (.inl (o.frozen (h0.fresh hp) (fun a o e s z => s (ss_less a z)))) P
    | peek d => exact fun v H' h1 e1 p => k d T v H' rfl h1 e1 p P
    | tape => exact (show False from P).elim
    | tree s d => exact (show False from P).elim
    | look d => exact (show False from P).elim
  | exc c fs t r => exact P
  | stuck => exact (show False from P).elim
theorem runs_dv {K : PySem.W.Frag} {mg : Str → Option Value} {C : FC} {σ : L2.St} {B : Type} {G : B → Prop} {x : Rs (VD × Tp)} {g : D × Tp → Rs B} (P : PostG K mg C σ G ((dv x).bind g)) :
    (∃ d T, dv x = .ok (d, T) ∧ PostG K mg C σ G (g (d, T))) ∨ ∃ c fs t r, x = .exc c fs t r := by
  cases x with
  | ok p =>
    obtain ⟨v, T⟩ := p
    cases v with
    | val d => exact .inl ⟨d, T, rfl, P⟩
    | own d => exact .inl ⟨d, T, rfl, P⟩
    | peek d => exact (show False from P).elim
    | tape => exact (show False from P).elim
    | tree s d => exact (show False from P).elim
    | look d => exact (show False from P).elim
  | exc c fs t r => exact .inr ⟨c, fs, t, r, rfl⟩
  | stuck => exact (show False from P).elim
theorem runs_dt {K : PySem.W.Frag} {mg : Str → Option Value} {C : FC} {σ : L2.St} {B : Type} {G : B → Prop} {x : Rs (VD × Tp)} {g : D × Tp → Rs B} (P : PostG K mg C σ G ((dt x).bind g)) :
    (∃ d T, dt x = .ok (d, T) ∧ PostG K mg C σ G (g (d, T))) ∨ ∃ c fs t r, x = .exc c fs t r := by
  cases x with
  | ok p =>
    obtain ⟨v, T⟩ := p
    cases v with
    | val d => exact .inl ⟨d, T, rfl, P⟩
    | own d => exact .inl ⟨d, T, rfl, P⟩
    | peek d => exact .inl ⟨d, T, rfl, P⟩
    | tape => exact (show False from P).elim
    | tree s d => exact (show False from P).elim
    | look d => exact (show False from P).elim
  | exc c fs t r => exact .inr ⟨c, fs, t, r, rfl⟩
  | stuck => exact (show False from P).elim
theorem ok_eq {d d' : D} {T T' : Tp} {x : Rs (D × Tp)} (h1 : x = .ok (d, T)) (h2 : x = .ok (d', T')) : d = d' := by
  rw [h1] at h2
  cases h2
  rfl
theorem si_seq (h : SE X C l f) : SI X C tg l (iSeq f) := by
  refine pi_imp (pi_or (pi_list (tg := tg) h) (pi_tup h)) ?_
  rintro σ H R ⟨ρ, T, h, P⟩
  rcases runs_dv P with ⟨d, T', ed, P1⟩ | ⟨c, fs, t, r2, ex⟩
  · rcases dt_seq P1 with ⟨ds, rfl, _⟩ | ⟨ds, rfl, _⟩ | ⟨ns, rfl, _⟩
    · refine .inl ⟨ρ, T, h, gv_dvE h P fun d2 T2 v H1 ed2 h1 e1 p P3 => ?_⟩
      obtain rfl := ok_eq ed ed2
      obtain ⟨a, rfl⟩ := p.lstRef
      obtain ⟨b, vs, e, h2, z, q⟩ := (show Top X.K X.mg _ H1 _ _ from .inl p).sqL
      cases e
      exact ⟨a, rfl, ⟨vs, .of h2⟩, P3 (Itl X.K a) [(.ref a, .lst ds)] H1 h1 e1 (fun w hw => by rw [List.mem_singleton.mp hw]; exact p) (pin_list (by rw [← q.len]; exact z))⟩
    · refine .inr ⟨ρ, T, h, gv_dvE h P fun d2 T2 v H1 ed2 h1 e1 p P3 => ?_⟩
      obtain rfl := ok_eq ed ed2
      obtain ⟨a, rfl⟩ := p.tupRef
      obtain ⟨b, vs, e, h2, z, q⟩ := (show Top X.K X.mg _ H1 _ _ from .inl p).sqT
      cases e
      exact ⟨a, rfl, ⟨vs, h2⟩, P3 (Itt X.K a) [(.ref a, .tup ds)] H1 h1 e1 (fun w hw => by rw [List.mem_singleton.mp hw]; exact p) (pin_tup (by rw [← q.len]; exact z))⟩
    · refine .inr ⟨ρ, T, h, gv_dvE h P fun d2 T2 v H1 ed2 h1 e1 p P3 => ?_⟩
      obtain rfl := ok_eq ed ed2
      obtain ⟨b, rfl, h2, z⟩ := (show Top X.K X.mg _ H1 _ _ from .inl p).tplT
      exact ⟨b, rfl, ⟨_, h2⟩, P3 (Itt X.K b) [(.ref b, .tpl ns)] H1 h1 e1 (fun w hw => by rw [List.mem_singleton.mp hw]; exact p) (pin_tpl z)⟩
  · refine .inl ⟨ρ, T, h, ?_⟩
    unfold iSeq at P
    rw [ex] at P ⊢
    exact P
theorem sj_seq (h : SE X C l f) : SJ X C tg l (jSeq f) := by
  refine pi_imp (pi_or (pi_list (tg := tg) h) (pi_tup h)) ?_
  rintro σ H R ⟨ρ, T, h, P⟩
  rcases runs_dt P with ⟨d, T', ed, P1⟩ | ⟨c, fs, t, r2, ex⟩
  · rcases dt_seq P1 with ⟨ds, rfl, _⟩ | ⟨ds, rfl, _⟩ | ⟨ns, rfl, _⟩
    · refine .inl ⟨ρ, T, h, gv_dtE h P fun d2 T2 v H1 ed2 h1 e1 p P3 => ?_⟩
      obtain rfl := ok_eq ed ed2
      obtain ⟨b, vs, rfl, h2, z, q⟩ := p.top.sqL
      exact ⟨b, rfl, ⟨vs, .of h2⟩, P3 (Itl X.K b) [(.ref b, .lst ds)] H1 h1 e1 (fun w hw => by rw [List.mem_singleton.mp hw]; exact p) (pin_list (by rw [← q.len]; exact z))⟩
    · refine .inr ⟨ρ, T, h, gv_dtE h P fun d2 T2 v H1 ed2 h1 e1 p P3 => ?_⟩
      obtain rfl := ok_eq ed ed2
      obtain ⟨b, vs, rfl, h2, z, q⟩ := p.top.sqT
      exact ⟨b, rfl, ⟨vs, h2⟩, P3 (Itt X.K b) [(.ref b, .tup ds)] H1 h1 e1 (fun w hw => by rw [List.mem_singleton.mp hw]; exact p) (pin_tup (by rw [← q.len]; exact z))⟩
    · refine .inr ⟨ρ, T, h, gv_dtE h P fun d2 T2 v H1 ed2 h1 e1 p P3 => ?_⟩
      obtain rfl := ok_eq ed ed2
      obtain ⟨b, rfl, h2, z⟩ := p.top.tplT
      exact ⟨b, rfl, ⟨_, h2⟩, P3 (Itt X.K b) [(.ref b, .tpl ns)] H1 h1 e1 (fun w hw => by rw [List.mem_singleton.mp hw]; exact p) (pin_tpl z)⟩
  · refine .inl ⟨ρ, T, h, ?_⟩
    unfold jSeq at P
    rw [ex] at P ⊢
    exact P
/-- range(n), range(a, b) -/
def dI : D → Rs Int
  | .int i => .ok i
  | _ => .stuck
@[simp] theorem dI_int (i : Int) : dI (.int i) = .ok i := rfl
def rngD (lo : Int) (n : Nat) : List D := (List.range n).map fun (i : Nat) => .int (lo + i)
def argR : List D → Rs (Int × Int)
  | [.int j] => .ok (0, j)
  | [.int i, .int j] => .ok (i, j)
  | _ => .stuck
@[simp] theorem argR_one (j : Int) : argR [.int j] = .ok (0, j) := rfl
@[simp] theorem argR_two (i j : Int) : argR [.int i, .int j] = .ok (i, j) := rfl
def iRng (g : DA) : DI := fun r T => (g r T).bind fun p => (argR p.1).bind fun q => if -8000000 ≤ q.1 ∧ q.1 ≤ 8000000 ∧ -8000000 ≤ q.2 ∧ q.2 ≤ 8000000 then .ok (rngD q.1 (q.2 - q.1).toNat, p.2) else .stuck
theorem rng_len {n : Nat} (h : n ≤ 16000000) : n ≤ sizeLine := by rw [sizeLine_eq]; omega
theorem tops1 {K : PySem.W.Frag} {mg : Str → Option Value} {C : FC} {r : Env} {σ : L2.St} {H : Hp} {vs : List V} {i : Int} (h : TopCs K mg C r σ H vs [.int i]) : vs = [.int i] := by
  cases h with
  | cons a t =>
    cases t
    rw [a.top.int]
theorem tops2 {K : PySem.W.Frag} {mg : Str → Option Value} {C : FC} {r : Env} {σ : L2.St} {H : Hp} {vs : List V} {i j : Int} (h : TopCs K mg C r σ H vs [.int i, .int j]) : vs = [.int i, .int j] := by
  cases h with
  | cons a t =>
    cases t with
    | cons b t =>
      cases t
      rw [a.top.int, b.top.int]
section
variable {K : PySem.W.Frag} {mg : Str → Option Value} {r : Env} {T : Tp} {σ : L2.St} {H : Hp} {R : It → Hp → Prop}
theorem rng_run {g : DA} {Q2 : It → Hp → Prop} {G : List D × Tp → Prop} (one : Bool) (P : PostG K mg C σ G (iRng g r T))
    (k : ∀ H' T' lo n, n ≤ sizeLine → Holds K mg C Z0 r T' σ H' → Ext C H H' → G (rngD lo n, T') → Q2 (Itr lo n) H')
    (G1 : List V → Hp → Prop) (h1 : ∀ vs H', (∃ j : Int, vs = [.int j] ∧ -(2 ^ 62) ≤ j ∧ j < 2 ^ 62 ∧ Q2 (Itr 0 j.toNat) H') → one = true → G1 vs H')
    (h2 : ∀ vs H', (∃ i j : Int, vs = [.int i, .int j] ∧ (-(2 ^ 62) ≤ i ∧ i < 2 ^ 62 ∧ -(2 ^ 62) ≤ j ∧ j < 2 ^ 62) ∧ Q2 (Itr i (j - i).toNat) H') → one = false → G1 vs H')
    (ho : ∀ ds T', g r T = .ok (ds, T') → (ds.length = 1 ↔ one = true)) : PostG K mg C σ (GB K mg C r σ H G1) (g r T) := by
  unfold iRng at P
  cases hg : g r T with
  | stuck =>
    rw [hg] at P
    exact P
  | exc c fs t r2 =>
    rw [hg] at P
    exact P
  | ok p =>
    obtain ⟨ds, T'⟩ := p
    rw [hg] at P
    have hl := ho ds T' hg
    intro vs H' hh e1 tp
    have P : PostG K mg C σ G ((argR ds).bind fun q => if -8000000 ≤ q.1 ∧ q.1 ≤ 8000000 ∧ -8000000 ≤ q.2 ∧ q.2 ≤ 8000000 then .ok (rngD q.1 (q.2 - q.1).toNat, T') else .stuck) := P
    match ds, P, hl, tp with
    | [.int j], P, hl, tp =>
      obtain ⟨b, P2⟩ := postG_if P
      refine h1 vs H' ⟨j, tops1 tp, by have := b.2.2.1; simp only at this; omega, by have := b.2.2.2; simp only at this; omega, ?_⟩ (hl.mp rfl)
      have e : (j - 0).toNat = j.toNat := by rw [Int.sub_zero]
      have P3 : G (rngD 0 (j - 0).toNat, T') := P2
      rw [e] at P3
      exact k H' T' 0 j.toNat (rng_len (by have := b.2.2.2; simp only at this; omega)) hh e1 P3
    | [.int i, .int j], P, hl, tp =>
      obtain ⟨b, P2⟩ := postG_if P
      refine h2 vs H' ⟨i, j, tops2 tp, ⟨by have := b.1; simp only at this; omega, by have := b.2.1; simp only at this; omega, by have := b.2.2.1; simp only at this; omega, by have := b.2.2.2; simp only at this; omega⟩, k H' T' i _ (rng_len (by have := b.1; have := b.2.2.2; simp only at *; omega)) hh e1 P2⟩ ?_
      cases one with
      | false => rfl
      | true =>
        have q := hl.mpr rfl
        simp at q
end
end
/-- one argument, two arguments -/
def Many (n : Nat) (g : DA) : Prop := ∀ r T ds T', g r T = .ok (ds, T') → ds.length = n
theorem many_nil : Many 0 aNil := fun r T ds T' h => by
  cases h
  rfl
theorem many_consT {n : Nat} {f : DE} {g : DA} (h : Many n g) : Many (n + 1) (aConsT f g) := fun r T ds T' e => by
  unfold aConsT at e
  cases q : dt (f r T) with
  | stuck => rw [q] at e; cases e
  | exc c fs t r2 => rw [q] at e; cases e
  | ok p =>
    rw [q] at e
    have e : ((g r p.2).bind fun q => .ok (p.1 :: q.1, q.2)) = Rs.ok (ds, T') := e
    cases q2 : g r p.2 with
    | stuck => rw [q2] at e; cases e
    | exc c fs t r2 => rw [q2] at e; cases e
    | ok w =>
      rw [q2] at e
      cases e
      rw [List.length_cons, h _ _ _ _ q2]
section
variable {X : Cx} {C : FC} {tg a b : Expr} {g : DA} {p pos : Pos}
theorem si_range1 (hm : X.mg "range" = none) (ha : SAt X C [a] g) (hn : Many 1 g) (hg : Gl X "range" := by rfl) (hs : starEach [a] X.env = [(false, eval a X.env)] := by rfl) : SI X C tg (.Call (.Name "range" p) [a] [] pos) (iRng g) := by
  refine pi_imp (pi_range1 hg hm ha hs) ?_
  rintro σ H R ⟨ρ, T, h, P⟩
  refine ⟨ρ, T, h, rng_run (Q2 := R) true P (fun H' T' lo n hz hh e q => q (Itr lo n) [] H' hh e (fun _ z => nomatch z) (pin_range hz)) _ (fun vs H' q _ => q) (fun vs H' q z => nomatch z) fun ds T' e => by simp [hn _ _ _ _ e]⟩
theorem sj_range1 (hm : X.mg "range" = none) (ha : SAt X C [a] g) (hn : Many 1 g) (hg : Gl X "range" := by rfl) (hs : starEach [a] X.env = [(false, eval a X.env)] := by rfl) : SJ X C tg (.Call (.Name "range" p) [a] [] pos) (iRng g) := by
  refine pi_imp (pi_range1 hg hm ha hs) ?_
  rintro σ H R ⟨ρ, T, h, P⟩
  refine ⟨ρ, T, h, rng_run (Q2 := R) true P (fun H' T' lo n hz hh e q => q (Itr lo n) [] H' hh e (fun _ z => nomatch z) (pin_range hz)) _ (fun vs H' q _ => q) (fun vs H' q z => nomatch z) fun ds T' e => by simp [hn _ _ _ _ e]⟩
theorem sj_range2 (hm : X.mg "range" = none) (ha : SAt X C [a, b] g) (hn : Many 2 g) (hg : Gl X "range" := by rfl) (hs : starEach [a, b] X.env = [(false, eval a X.env), (false, eval b X.env)] := by rfl) (hs2 : starEach [b] X.env = [(false, eval b X.env)] := by rfl) : SJ X C tg (.Call (.Name "range" p) [a, b] [] pos) (iRng g) := by
  refine pi_imp (pi_range2 hg hm ha hs hs2) ?_
  rintro σ H R ⟨ρ, T, h, P⟩
  refine ⟨ρ, T, h, rng_run (Q2 := R) false P (fun H' T' lo n hz hh e q => q (Itr lo n) [] H' hh e (fun _ z => nomatch z) (pin_range hz)) _ (fun vs H' q z => nomatch z) (fun vs H' q _ => q) fun ds T' e => by simp [hn _ _ _ _ e]⟩
end
end Pu
namespace Pu
open PySem L2
/-! ## targets -/
/-- what a target takes of a thing: slots and their data -/
abbrev DG := D → Option (List (Nat × D))
def rO {A : Type} : Option A → Rs A
  | some a => .ok a
  | none => .stuck
@[simp] theorem rO_some {A : Type} (a : A) : rO (some a) = .ok a := rfl
@[simp] theorem rO_none {A : Type} : rO (none : Option A) = .stuck := rfl
def setE (r : Env) : List (Nat × D) → Env
  | [] => r
  | p :: l => setE (r.set p.1 (some (.val p.2))) l
def setV (σ : L2.St) : List (Nat × V) → L2.St
  | [] => σ
  | p :: l => setV (σ.set p.1 (some p.2)) l
def gN (i : Nat) : DG := fun d => some [(i, d)]
def gsN : List DG → List D → Option (List (Nat × D))
  | [], [] => some []
  | g :: gs, d :: ds => (g d).bind fun l => (gsN gs ds).bind fun l2 => some (l ++ l2)
  | _, _ => none
def gT (n : Nat) (gs : List DG) : DG := fun d => match d with
  | .tup ds => if ds.length = n then gsN gs ds else none
  | _ => none
section
variable (K : PySem.W.Frag) (mg : Str → Option Value) (S : Addr → Prop) (H : Hp)
inductive RepP : List (Nat × V) → List (Nat × D) → Prop
  | nil : RepP [] []
  | cons {i : Nat} {v : V} {d : D} {l : List (Nat × V)} {m : List (Nat × D)} : Rep K mg S H v d → RepP l m → RepP ((i, v) :: l) ((i, d) :: m)
end
theorem RepP.app {K : PySem.W.Frag} {mg : Str → Option Value} {S : Addr → Prop} {H : Hp} : ∀ {l l2 : List (Nat × V)} {m m2 : List (Nat × D)}, RepP K mg S H l m → RepP K mg S H l2 m2 → RepP K mg S H (l ++ l2) (m ++ m2)
  | _, _, _, _, .nil, h => h
  | _, _, _, _, .cons p t, h => .cons p (t.app h)
/-- a target's reading: whatever is excluded, the slots are set -/
def tG (K : PySem.W.Frag) (mg : Str → Option Value) (g : DG) : TG := fun v σ H Q => ∃ (S : Addr → Prop) (d : D) (m : List (Nat × D)), Rep K mg S H v d ∧ g d = some m ∧ ∀ l, RepP K mg S H l m → Q (setV σ l) H
def tGs (K : PySem.W.Frag) (mg : Str → Option Value) (gs : List DG) : TGs := fun vs σ H Q => ∃ (S : Addr → Prop) (ds : List D) (m : List (Nat × D)), Reps K mg S H vs ds ∧ gsN gs ds = some m ∧ ∀ l, RepP K mg S H l m → Q (setV σ l) H
abbrev SG (X : Cx) (tg : Expr) (g : DG) : Prop := PG X tg (tG X.K X.mg g)
abbrev SGs (X : Cx) (tgs : List Expr) (gs : List DG) : Prop := PGs X tgs (tGs X.K X.mg gs)
theorem pg_imp {X : Cx} {tg : Expr} {t t' : TG} (h : PG X tg t) (i : ∀ v σ H Q, t' v σ H Q → t v σ H Q) : PG X tg t' := ⟨fun pins s σ H v u Q I r q => h.run pins s σ H v u Q I r (i v σ H Q q)⟩
theorem pgs_imp {X : Cx} {tg : List Expr} {t t' : TGs} (h : PGs X tg t) (i : ∀ v σ H Q, t' v σ H Q → t v σ H Q) : PGs X tg t' := ⟨fun pins s σ H v u Q I r q => h.run pins s σ H v u Q I r (i v σ H Q q)⟩
theorem setV_app (l2 : List (Nat × V)) : ∀ (l : List (Nat × V)) (σ : L2.St), setV σ (l ++ l2) = setV (setV σ l) l2
  | [], _ => rfl
  | _ :: l, σ => setV_app l2 l _
section
variable {X : Cx} {e : Expr} {es : List Expr} {g : DG} {gs : List DG} {pos : Pos}
theorem sg_name (i : Nat) {x : Str} (hN : X.N.Nodup) (hi : X.N[i]? = some x := by rfl) (hx : Loc X.env.scope x := by first | exact Or.inl rfl | exact Or.inr rfl) (hf : X.fn x = true ∨ X.env.scope.names.lookup x = some .local := by first | exact .inl rfl | exact .inr rfl) : SG X (.Name x pos) (gN i) := by
  refine pg_imp (pg_name hN hi hx hf) ?_
  rintro v σ H Q ⟨S, d, m, p, e, k⟩
  cases e
  exact k _ (.cons p .nil)
theorem sgs_nil : SGs X [] [] := by
  refine pgs_imp pgs_nil ?_
  rintro v σ H Q ⟨S, ds, m, p, e, k⟩
  cases ds with
  | nil =>
    cases e
    cases p
    exact ⟨rfl, k [] .nil⟩
  | cons d ds => exact nomatch e
theorem sgs_cons (h1 : SG X e g) (h2 : SGs X es gs) (hs : (assignEach (e :: es) X.env).map (·.2) = assign e X.env :: (assignEach es X.env).map (·.2) := by rfl) : SGs X (e :: es) (g :: gs) := by
  refine pgs_imp (pgs_cons h1 h2 hs) ?_
  rintro vs σ H Q ⟨S, ds, m, p, e, k⟩
  cases p with
  | nil => exact nomatch e
  | cons p t =>
    rename_i v vs d ds
    have e : ((g d).bind fun l => (gsN gs ds).bind fun l2 => some (l ++ l2)) = some m := e
    cases q1 : g d with
    | none => rw [q1] at e; cases e
    | some m1 =>
      rw [q1] at e
      have e : ((gsN gs ds).bind fun l2 => some (m1 ++ l2)) = some m := e
      cases q2 : gsN gs ds with
      | none => rw [q2] at e; cases e
      | some m2 =>
        rw [q2] at e
        cases e
        refine ⟨v, vs, rfl, S, d, m1, p, q1, fun l hl => ⟨S, ds, m2, t, q2, fun l2 hl2 => ?_⟩⟩
        rw [← setV_app]
        exact k _ (hl.app hl2)
theorem sg_tup {k : Nat} {n : Nat} (hc : X.calm = true) (h : SGs X es gs) (hn : (assignEach es X.env).length = n := by rfl) (hst : (assignEach es X.env).findIdx? (·.1) = none := by rfl) : SG X (.Tuple es k pos) (gT n gs) := by
  refine pg_imp (pg_tup hc h hn hst) ?_
  rintro v σ H Q ⟨S, d, m, p, e, k⟩
  cases d with
  | tup ds =>
    have e : (if ds.length = n then gsN gs ds else none) = some m := e
    by_cases z : ds.length = n
    · rw [if_pos z] at e
      obtain ⟨a, vs, rfl, h2, z2, q⟩ := (show Top X.K X.mg S H _ _ from .inl p).sqT
      exact ⟨a, vs, rfl, h2, by rw [q.len]; exact z, S, ds, m, q, e, k⟩
    · rw [if_neg z] at e
      cases e
  | _ => exact nomatch e
end
section
variable {K : PySem.W.Frag} {mg : Str → Option Value} {C : FC} {Z : Addr → Prop} {T : Tp} {H : Hp}
theorem Holds.setAll {l : List (Nat × V)} {m : List (Nat × D)} {S : Addr → Prop} (q : RepP K mg S H l m) : ∀ {r : Env} {σ : L2.St}, Holds K mg C Z r T σ H → (∀ a o, H a = some o → ¬ S a → ¬ SS C Z r σ a) → Holds K mg C Z (setE r m) T (setV σ l) H := by
  induction q with
  | nil => exact fun h _ => h
  | cons p t ih =>
    intro r σ h n
    refine ih (h.setVal (p.go (fun _ _ e _ => e) n)) fun a o e s z => n a o e s ?_
    rcases z with z | z | ⟨j, u, z1, z2⟩ | z
    · exact .inl z
    · exact .inr (.inl z)
    · rcases set_at z1 with ⟨_, q⟩ | ⟨ne, q⟩
      · cases q
      · rw [List.getElem?_set_ne (Ne.symm ne)] at z2
        exact .inr (.inr (.inl ⟨j, u, q, z2⟩))
    · exact .inr (.inr (.inr z))
end
/-! ## loops -/
def forD (g : DG) (w : DS) : List D → DS
  | [], r, T => .ok (.nx r, T)
  | d :: ds, r, T => (rO (g d)).bind fun m => (w (setE r m) T).bind fun p => match p.1 with
    | .nx r' => forD g w ds r' p.2
    | .ct r' => forD g w ds r' p.2
    | .bk r' => .ok (.nx r', p.2)
    | .rt v => .ok (.rt v, p.2)
def sFor (f : DI) (g : DG) (w : DS) : DS := fun r T => (f r T).bind fun p => forD g w p.1 r p.2
abbrev FC.pinned (C : FC) (pins : List (V × D)) : FC := { C with pin := pins ++ C.pin }
section
variable {K : PySem.W.Frag} {mg : Str → Option Value} {C : FC} {r : Env} {T : Tp} {σ : L2.St} {H : Hp} {pins : List (V × D)}
theorem Holds.pinUp (h : Holds K mg C Z0 r T σ H) (hp : ∀ p ∈ pins, Rep K mg (SS C Z0 r σ) H p.1 p.2) : Holds K mg (C.pinned pins) Z0 r T σ H :=
  ⟨h.len, h.frame, h.val, h.own, h.inj, h.tape, h.tslot, h.st, h.zt, fun p z => by
    rcases List.mem_append.mp z with z | z
    · exact hp p z
    · exact h.pin p z, h.tree⟩
theorem Holds.pinDown (h : Holds K mg (C.pinned pins) Z0 r T σ H) : Holds K mg C Z0 r T σ H :=
  ⟨h.len, h.frame, h.val, h.own, h.inj, h.tape, h.tslot, h.st, h.zt, fun p z => h.pin p (List.mem_append_right _ z), h.tree⟩
theorem HoldsY.pinDown (h : HoldsY K mg (C.pinned pins) r T σ H) : HoldsY K mg C r T σ H := by
  obtain ⟨Y, h, hY⟩ := h
  exact ⟨Y, Holds.pinDown (C := C.plus Y) (pins := pins) h, hY⟩
theorem postS_pin {B : Type} {G G2 : B → Prop} {x : Rs B} (h : PostS K mg C G x) (i : ∀ b, G b → G2 b) : PostS K mg (C.pinned pins) G2 x := by
  cases x with
  | ok b => exact i b h
  | exc c fs t r => exact fun σ cls d H' Y hY a b => h σ cls d H' Y hY (Holds.pinDown (C := C.plus Y) (pins := pins) a) b
  | stuck => exact h
end
theorem for_core {X : Cx} {C : FC} {Y : Addr → Prop} {g : DG} {w : DS} {E : Ends} {ρ : Env} {T1 : Tp} {σ : L2.St} {H : Hp} {ds : List D} (hY : ∀ p, Y p → ¬ C.S0 p) (P : PostS X.K X.mg C (GS X.K X.mg C E) (forD g w ds ρ T1)) : GIA X.K X.mg (C.plus Y) ρ σ H (fun J H1 => ∃ W : Nat → Nat → L2.St → Hp → Prop, (∃ m, W 0 m σ H1) ∧ ∀ i m σ H, W i m σ H →
  (J.stop i H ∧ E.nx σ H) ∨ (J.go i H ∧ ∃ N : L2.St → Hp → Prop, (∀ σ' H', N σ' H' → ∃ m', m' < m ∧ W (i + 1) m' σ' H') ∧ ∀ x H', J.yld i H x H' → tG X.K X.mg g x σ H' fun σ2 H2 => (∃ pins, tS X.K X.mg (C.pinned pins) w { E with nx := N, ct := N, bk := E.nx } σ2 H2))) (ds, T1) := by
  intro J pins H1 h1 e1 hpin ok
  refine ⟨fun i m σ H => ∃ r T, HoldsY X.K X.mg (C.pinned pins) r T σ H ∧ i ≤ ds.length ∧ m = ds.length - i ∧ PostS X.K X.mg C (GS X.K X.mg C E) (forD g w (ds.drop i) r T), ⟨_, ρ, T1, ⟨Y, h1.pinUp hpin, hY⟩, Nat.zero_le _, rfl, P⟩, ?_⟩
  rintro i m σ2 H2 ⟨r2, T2, ⟨Y2, h2, hY2⟩, hi, rfl, P2⟩
  obtain ⟨ok1, ok2⟩ := ok.2 _ H2 h2.trk h2.frame (fun p z => .inl (h2.pin p (List.mem_append_left _ z))) i
  by_cases hlt : i < ds.length
  · refine .inr ?_
    have ed : ds[i]? = some ds[i] := List.getElem?_eq_getElem hlt
    obtain ⟨go, yl⟩ := ok1 _ ed
    rw [List.drop_eq_getElem_cons hlt] at P2
    have P2 : PostS X.K X.mg C (GS X.K X.mg C E) ((rO (g ds[i])).bind fun m => (w (setE r2 m) T2).bind fun p => match p.1 with
      | .nx r' => forD g w (ds.drop (i + 1)) r' p.2
      | .ct r' => forD g w (ds.drop (i + 1)) r' p.2
      | .bk r' => .ok (.nx r', p.2)
      | .rt v => .ok (.rt v, p.2)) := P2
    refine ⟨go, fun σ' H' => ∃ r T, HoldsY X.K X.mg (C.pinned pins) r T σ' H' ∧ PostS X.K X.mg C (GS X.K X.mg C E) (forD g w (ds.drop (i + 1)) r T), fun σ' H' ⟨r, T, h', P'⟩ => ⟨ds.length - (i + 1), by omega, r, T, h', hlt, rfl, P'⟩, fun x H3 y => ?_⟩
    obtain ⟨s3, p3⟩ := yl x H3 y
    have h3 := h2.more s3
    cases q : g ds[i] with
    | none => rw [q] at P2; exact P2.elim
    | some mm =>
      rw [q] at P2
      refine ⟨_, ds[i], mm, p3, q, fun l hl => ⟨pins, setE r2 mm, T2, ⟨Y2, h3.setAll hl fun _ _ _ s => s, hY2⟩, ?_⟩⟩
      refine postS_pin (PostS.bind P2) fun p P3 => ?_
      obtain ⟨fl, T3⟩ := p
      cases fl with
      | nx r' => exact fun σ' H' h' => ⟨r', T3, h', P3⟩
      | ct r' => exact fun σ' H' h' => ⟨r', T3, h', P3⟩
      | bk r' => exact fun σ' H' h' => P3 σ' H' h'.pinDown
      | rt v => exact P3
  · have e : i = ds.length := by omega
    subst e
    rw [List.drop_length] at P2
    exact .inl ⟨ok2 (Nat.le_refl _), P2 σ2 H2 (HoldsY.pinDown (pins := pins) ⟨Y2, h2, hY2⟩)⟩
theorem ss_for {X : Cx} {C : FC} {tg iter : Expr} {body : List Stmt} {f : DI} {g : DG} {w : DS} {pos : Pos} (hp : PassesOwn (model X.prog X.w) X.A X.env X.xe) (hc : X.calm = true) (hi : ∀ Y, SI X (C.plus Y) tg iter f) (hg : SG X tg g) (hb : ∀ pins, SSs X (C.pinned pins) body w)
    (hs : ∀ x, foldedSetIterable iter X.env x = pure x := by intro _; rfl) : SSt X C (.For tg iter body [] pos) (sFor f g w) := by
  have hb' : PSs X body (fun E σ H => ∃ pins, tS X.K X.mg (C.pinned pins) w E σ H) := ⟨fun ps s σ H E I ⟨pins, q⟩ => (hb pins).run ps s σ H E I q⟩
  refine ps_imp (ps_for hp hc (pi_ex hi) hg hb' hs) ?_
  rintro E σ H ⟨ρ, T, ⟨Y, h, hY⟩, P⟩
  refine ⟨Y, ρ, T, h, (PostS.at hY P.bind).imp fun q P => ?_⟩
  obtain ⟨ds, T1⟩ := q
  exact (for_core (H := H) hY P).gi
/-! ## comprehensions -/
/-- the block's own slots forgotten; what is owned is not -/
def wipeE (r : Env) : List Nat → Option Env
  | [] => some r
  | v :: vs => (wipeE r vs).bind fun r' => match r'[v]? with
    | some (some (.own _)) => none
    | some (some .tape) => none
    | some (some (.tree _ _)) => none
    | _ => some (r'.set v none)
/-- no exception leaves a comprehension -/
def noX {A : Type} : Rs A → Rs A
  | .ok a => .ok a
  | _ => .stuck
@[simp] theorem noX_ok {A : Type} (a : A) : noX (.ok a) = .ok a := rfl
def lcD (g : DG) (c : DT) (f : DE) : List D → Env → Tp → Rs (List D × Tp)
  | [], _, T => .ok ([], T)
  | d :: ds, r, T => (rO (g d)).bind fun m => (noX (c (setE r m) T)).bind fun b => if b.1 = true then (noX (dv (f (setE r m) b.2))).bind fun v => (lcD g c f ds r v.2).bind fun q => .ok (v.1 :: q.1, q.2) else lcD g c f ds r b.2
def eLc (vs : List Nat) (fi : DI) (g : DG) (c : DT) (f : DE) : DE := fun r T => (fi r T).bind fun p => (rO (wipeE r vs)).bind fun r0 => (lcD g c f p.1 r0 p.2).bind fun q => .ok (.own (.lst q.1), q.2)
def xYes : DT := fun _ T => .ok (true, T)
/-- the frame of a block, the new list at L -/
abbrev FC.blk (C : FC) (L : Addr) : FC := { C with S0 := fun a => C.S0 a ∨ a = L, W := fun _ _ _ _ => False, Y := fun a => C.Y a ∧ a ≠ L }
abbrev STs (X : Cx) (C : FC) (ifs : List Expr) (f : DT) : Prop := PTs X ifs (tT X.K X.mg C f)
theorem sts_nil {X : Cx} {C : FC} : STs X C [] xYes := ⟨fun pins s σ H Q I ⟨ρ, T, h, P⟩ => (pts_nil (X := X)).run pins s σ H Q I (P H h Ext.refl)⟩
theorem sts_one {X : Cx} {C : FC} {e : Expr} {f : DT} (h : ST X C e f) : STs X C [e] f := pts_one h
theorem wipeE_get : ∀ {vs : List Nat} {r r' : Env}, wipeE r vs = some r' → r'.length = r.length ∧ (∀ (i : Nat) (w : VD), r'[i]? = some (some w) → r[i]? = some (some w) ∧ i ∉ vs) ∧ (∀ (i : Nat) (d : D), r[i]? = some (some (.own d)) → r'[i]? = some (some (.own d))) ∧ ∀ i : Nat, r[i]? = some (some .tape) → r'[i]? = some (some .tape)
  | [], r, r', h => by
    cases h
    exact ⟨rfl, fun i w e => ⟨e, by simp⟩, fun i d e => e, fun i e => e⟩
  | v :: vs, r, r', h => by
    unfold wipeE at h
    cases q : wipeE r vs with
    | none => rw [q] at h; cases h
    | some r1 =>
      rw [q] at h
      obtain ⟨h1, h2, h3, h4⟩ := wipeE_get q
      have key : r' = r1.set v none ∧ (∀ d, r1[v]? ≠ some (some (.own d))) ∧ r1[v]? ≠ some (some .tape) := by
        have h : (match r1[v]? with
          | some (some (.own _)) => none
          | some (some .tape) => none
          | some (some (.tree _ _)) => none
          | _ => some (r1.set v none)) = some r' := h
        split at h
        · cases h
        · cases h
        · cases h
        · rename_i n1 n2 n3
          cases h
          exact ⟨rfl, fun d e => n1 d e, fun e => n2 e⟩
      obtain ⟨rfl, k1, k2⟩ := key
      refine ⟨by rw [List.length_set, h1], fun i w e => ?_, fun i d e => ?_, fun i e => ?_⟩
      · rcases set_at e with ⟨_, q⟩ | ⟨ne, q⟩
        · cases q
        · obtain ⟨a, b⟩ := h2 i w q
          exact ⟨a, by simp only [List.mem_cons, not_or]; exact ⟨ne, b⟩⟩
      · have e1 := h3 i d e
        by_cases z : v = i
        · subst z
          exact absurd e1 (k1 d)
        · rw [List.getElem?_set_ne z]
          exact e1
      · have e1 := h4 i e
        by_cases z : v = i
        · subst z
          exact absurd e1 k2
        · rw [List.getElem?_set_ne z]
          exact e1
theorem wipe_set {σ : L2.St} {i : Nat} {x : Option V} : ∀ {vs : List Nat}, i ∈ vs → wipe (σ.set i x) vs = wipe σ vs
  | v :: vs, h => by
    unfold wipe
    by_cases e : i ∈ vs
    · rw [wipe_set e]
    · have e2 : i = v := by
        rcases List.mem_cons.mp h with z | z
        · exact z
        · exact absurd z e
      subst e2
      have comm : ∀ (ws : List Nat), i ∉ ws → wipe (σ.set i x) ws = (wipe σ ws).set i x := by
        intro ws
        induction ws with
        | nil => exact fun _ => rfl
        | cons w ws ih =>
          intro hw
          simp only [List.mem_cons, not_or] at hw
          unfold wipe
          rw [ih hw.2, List.set_comm _ _ hw.1]
      rw [comm vs e, List.set_set]
theorem wipe_wipe (σ : L2.St) : ∀ (ws vs : List Nat), (∀ i ∈ ws, i ∈ vs) → wipe (wipe σ ws) vs = wipe σ vs
  | [], vs, _ => rfl
  | w :: ws, vs, h => by
    show wipe ((wipe σ ws).set w none) vs = wipe σ vs
    rw [wipe_set (h w List.mem_cons_self), wipe_wipe σ ws vs fun i z => h i (List.mem_cons_of_mem _ z)]
theorem wipe_setV {vs : List Nat} : ∀ (l : List (Nat × V)) (σ : L2.St), (∀ p ∈ l, p.1 ∈ vs) → wipe (setV σ l) vs = wipe σ vs
  | [], σ, _ => rfl
  | p :: l, σ, h => by
    show wipe (setV (σ.set p.1 (some p.2)) l) vs = _
    rw [wipe_setV l _ fun q z => h q (List.mem_cons_of_mem _ z), wipe_set (h p List.mem_cons_self)]
/-- the slots that a target sets -/
def Within (g : DG) (vs : List Nat) : Prop := ∀ d m, g d = some m → ∀ p ∈ m, p.1 ∈ vs
theorem within_name {i : Nat} {vs : List Nat} (h : i ∈ vs) : Within (gN i) vs := fun d m e p hp => by
  cases e
  rw [List.mem_singleton.mp hp]
  exact h
theorem RepP.idx {K : PySem.W.Frag} {mg : Str → Option Value} {S : Addr → Prop} {H : Hp} {l : List (Nat × V)} {m : List (Nat × D)} (h : RepP K mg S H l m) : ∀ p ∈ l, ∃ q ∈ m, q.1 = p.1 := by
  induction h with
  | nil => intro p z; cases z
  | cons r t ih =>
    intro p z
    rcases List.mem_cons.mp z with z | z
    · exact ⟨_, List.mem_cons_self, by rw [z]⟩
    · obtain ⟨q, h1, h2⟩ := ih p z
      exact ⟨q, List.mem_cons_of_mem _ h1, h2⟩
section
variable {K : PySem.W.Frag} {mg : Str → Option Value} {C : FC} {r r0 : Env} {T : Tp} {σ : L2.St} {H : Hp} {vs : List Nat} {L : Addr}
/-- the same is excluded -/
theorem ss_blk (h : Holds K mg C Z0 r T σ H) (hw : wipeE r vs = some r0) (a : Addr) : SS (C.blk L) Z0 r0 (wipe σ vs) a ↔ SS C (fun a => a = L) r σ a := by
  obtain ⟨w1, w2, w3, w4⟩ := wipeE_get hw
  constructor
  · rintro ((z | z) | z | ⟨i, d, z1, z2⟩ | z)
    · exact .inl z
    · exact .inr (.inr (.inr z))
    · exact .inr (.inl z)
    · obtain ⟨a1, a2⟩ := w2 i _ z1
      rw [wipe_out a2] at z2
      exact .inr (.inr (.inl ⟨i, d, a1, z2⟩))
    · exact z.elim
  · rintro (z | z | ⟨i, d, z1, z2⟩ | z)
    · exact .inl (.inl z)
    · exact .inr (.inl z)
    · have q := w3 i d z1
      obtain ⟨_, a2⟩ := w2 i _ q
      refine .inr (.inr (.inl ⟨i, d, q, ?_⟩))
      rw [wipe_out a2]
      exact z2
    · exact .inl (.inr z)
theorem Holds.toBlk (h : Holds K mg C Z0 r T σ H) (hw : wipeE r vs = some r0) (hL : H L = none) : Holds K mg (C.blk L) Z0 r0 T (wipe σ vs) (upd H L (.lst [])) := by
  obtain ⟨w1, w2, w3, w4⟩ := wipeE_get hw
  have s : Same H (upd H L (.lst [])) := same_new hL
  have k : ∀ a o, H a = some o → ¬ SS C Z0 r σ a → upd H L (.lst []) a = some o := fun a o e _ => s a o e
  have n : ∀ a o, H a = some o → ¬ SS C Z0 r σ a → ¬ SS (C.blk L) Z0 r0 (wipe σ vs) a := fun a o e q z => by
    rcases (ss_blk h hw a).mp z with z | z | z | z
    · exact q (.inl z)
    · exact q (.inr (.inl z))
    · exact q (.inr (.inr (.inl z)))
    · rw [z, hL] at e
      cases e
  refine ⟨by rw [w1, wipe_length, h.len], h.frame.trans (.same s), fun i d q => ?_, fun i d q => ?_, fun i j p d e q1 q2 q3 q4 => ?_, ?_, fun i q => ?_, fun p z => ?_, fun _ z => z.elim, fun p z => (h.pin p z).go k n, h.tree.mk' k n (fun p _ _ _ o e => s p o e) (fun i s d q => (fun ⟨a1, a2⟩ => ⟨a1, by rw [wipe_out a2]⟩) (w2 i _ q)) fun p a b c => ⟨⟨.inl a.1, a.2, fun z => by
    obtain ⟨o, e, _⟩ := h.st p a.1
    rw [z, hL] at e
    cases e⟩, b, c⟩⟩
  · obtain ⟨a1, a2⟩ := w2 i _ q
    obtain ⟨v, e1, p⟩ := h.val i d a1
    exact ⟨v, by rw [wipe_out a2]; exact e1, p.go k n⟩
  · obtain ⟨a1, a2⟩ := w2 i _ q
    obtain ⟨p, e1, o, g1, g2, g3, g4⟩ := h.own i d a1
    refine ⟨p, by rw [wipe_out a2]; exact e1, o.go (fun o z => s _ o z) k n, g1, g2, fun z => z, fun z => ?_⟩
    rcases z with z | z
    · exact g4 z
    · obtain ⟨ob, eo, _⟩ := o.there
      rw [z, hL] at eo
      cases eo
  · obtain ⟨a1, a2⟩ := w2 i _ q1
    obtain ⟨b1, b2⟩ := w2 j _ q2
    rw [wipe_out a2] at q3
    rw [wipe_out b2] at q4
    exact h.inj i j p d e a1 b1 q3 q4
  · have t := h.tape
    unfold TapeOk at t ⊢
    show match C.tp with
      | none => T = none
      | some p => ∃ t, T = some t ∧ CelAt K mg (SS (C.blk L) Z0 r0 (wipe σ vs)) (upd H L (.lst [])) p t
    cases hc : C.tp with
    | none =>
      rw [hc] at t
      exact t
    | some u =>
      rw [hc] at t
      obtain ⟨t, e, o⟩ := t
      exact ⟨t, e, o.go (fun o q => s _ o q) k n⟩
  · obtain ⟨a1, a2⟩ := w2 i _ q
    obtain ⟨p, e1, e2⟩ := h.tslot i a1
    exact ⟨p, e1, by rw [wipe_out a2]; exact e2⟩
  · rcases z with z | z
    · obtain ⟨o, e, m⟩ := h.st p z
      exact ⟨o, s p o e, m⟩
    · rw [z]
      exact ⟨_, upd_same, trivial⟩
/-- the new list grows -/
theorem Holds.grow (h : Holds K mg (C.blk L) Z0 r T σ H) {xs ys : List V} (hL : H L = some (.lst xs)) (nL : C.H0 L = none) (nt : C.tp ≠ some L) (no : ∀ (i : Nat) (d : D), r[i]? = some (some (.own d)) → σ[i]? ≠ some (some (.ref L))) : Holds K mg (C.blk L) Z0 r T σ (upd H L (.lst ys)) := by
  have ex : SS (C.blk L) Z0 r σ L := .inl (.inr rfl)
  have k : ∀ a o, H a = some o → ¬ SS (C.blk L) Z0 r σ a → upd H L (.lst ys) a = some o := fun a o e q => by
    rw [upd_ne (fun z => q (by rw [z]; exact ex))]
    exact e
  have kn : ∀ a o, a ≠ L → H a = some o → upd H L (.lst ys) a = some o := fun a o z e => by
    rw [upd_ne z]
    exact e
  have ke : ∀ a o, H a = some o → Mut (some o) → ∃ o', upd H L (.lst ys) a = some o' ∧ Mut (some o') := fun a o e m => by
    by_cases z : a = L
    · rw [z]
      exact ⟨_, upd_same, trivial⟩
    · exact ⟨o, kn a o z e, m⟩
  refine ⟨h.len, fun a o e q => ?_, fun i d q => ?_, fun i d q => ?_, h.inj, ?_, h.tslot, fun p z => ?_, fun _ z => z.elim, fun p z => (h.pin p z).go k ss_same, h.tree.mk' k ss_same (fun p a _ _ o e => kn p o a.2.2 e) (fun _ _ _ e => ⟨e, rfl⟩) fun _ a b c => ⟨a, b, c⟩⟩
  · refine kn a o (fun z => ?_) (h.frame a o e q)
    have e : C.H0 a = some o := e
    rw [z, nL] at e
    cases e
  · obtain ⟨v, e1, p⟩ := h.val i d q
    exact ⟨v, e1, p.go k ss_same⟩
  · obtain ⟨p, e1, o, g⟩ := h.own i d q
    exact ⟨p, e1, o.go (fun u z => kn p u (fun z2 => no i d q (by rw [← z2]; exact e1)) z) k ss_same, g⟩
  · have t := h.tape
    unfold TapeOk at t ⊢
    cases hc : (C.blk L).tp with
    | none =>
      rw [hc] at t
      exact t
    | some u =>
      rw [hc] at t
      obtain ⟨t, e, o⟩ := t
      exact ⟨t, e, o.go (fun o q => kn u o (fun z => nt (by rw [← z]; exact hc)) q) k ss_same⟩
  · obtain ⟨o, e, m⟩ := h.st p z
    exact ke p o e m
end
theorem noX_ex {A B : Type} {K : PySem.W.Frag} {mg : Str → Option Value} {C : FC} {σ : L2.St} {G : B → Prop} {x : Rs A} {g : A → Rs B} (h : PostG K mg C σ G ((noX x).bind g)) : ∃ a, x = .ok a ∧ PostG K mg C σ G (g a) := by
  cases x with
  | ok b => exact ⟨b, rfl, h⟩
  | exc c fs t r => exact (show False from h).elim
  | stuck => exact (show False from h).elim
theorem gv_known {K : PySem.W.Frag} {mg : Str → Option Value} {C : FC} {r : Env} {T T' : Tp} {σ : L2.St} {H : Hp} {Q : VK} {x : Rs (VD × Tp)} {d : D} (h0 : Holds K mg C Z0 r T σ H) (e : dv x = .ok (d, T'))
    (k : ∀ v H', Holds K mg C Z0 r T' σ H' → Ext C H H' → Rep K mg (SS C Z0 r σ) H' v d → Q v H') : Post K mg C r σ H Q x := by
  cases x with
  | ok p =>
    obtain ⟨v, T⟩ := p
    cases v with
    | val d =>
      cases e
      exact fun v H' h1 e1 p => k v H' h1 e1 p
    | own d =>
      cases e
      exact fun p H' hp h1 e1 o => k (.ref p) H' h1.join e1 (o.frozen (h0.fresh hp) (fun a o e s z => s (ss_less a z)))
    | peek d => exact nomatch e
    | tape => exact nomatch e
    | tree s d => exact nomatch e
    | look d => exact nomatch e
  | exc c fs t r => exact nomatch e
  | stuck => exact nomatch e
theorem setE_get {i : Nat} : ∀ (m : List (Nat × D)) (r : Env), (∀ p ∈ m, p.1 ≠ i) → (setE r m)[i]? = r[i]?
  | [], _, _ => rfl
  | p :: m, r, h => by
    show (setE (r.set p.1 _) m)[i]? = _
    rw [setE_get m _ fun q z => h q (List.mem_cons_of_mem _ z), List.getElem?_set_ne (h p List.mem_cons_self)]
theorem setV_get {i : Nat} : ∀ (m : List (Nat × V)) (r : L2.St), (∀ p ∈ m, p.1 ≠ i) → (setV r m)[i]? = r[i]?
  | [], _, _ => rfl
  | p :: m, r, h => by
    show (setV (r.set p.1 _) m)[i]? = _
    rw [setV_get m _ fun q z => h q (List.mem_cons_of_mem _ z), List.getElem?_set_ne (h p List.mem_cons_self)]
section
variable {K : PySem.W.Frag} {mg : Str → Option Value} {C : FC} {r : Env} {T T' : Tp} {σ : L2.St} {H H' : Hp} {vs : List Nat}
/-- behind an element: the block's own slots are forgotten again -/
theorem Holds.unset (h : Holds K mg C Z0 r T σ H) {m : List (Nat × D)} {l : List (Nat × V)} (hr : ∀ (i : Nat) (w : VD), r[i]? = some (some w) → i ∉ vs) (hm : ∀ p ∈ m, p.1 ∈ vs) (hl : ∀ p ∈ l, p.1 ∈ vs)
    (e : Ext C H H') (h2 : Holds K mg C Z0 (setE r m) T' (setV σ l) H') : Holds K mg C Z0 r T' σ H' := by
  refine h.move e ss_same (fun _ _ _ _ _ z => z) (h2.tape.less fun a _ _ s z => s ?_) fun _ z => z.elim
  rcases z with z | z | ⟨i, d, z1, z2⟩ | z
  · exact .inl z
  · exact .inr (.inl z)
  · have hi := hr i _ z1
    refine .inr (.inr (.inl ⟨i, d, ?_, ?_⟩))
    · rw [setE_get m r fun p z q => hi (by rw [← q]; exact hm p z)]
      exact z1
    · rw [setV_get l σ fun p z q => hi (by rw [← q]; exact hl p z)]
      exact z2
  · exact z.elim
end
theorem lc_coreA {X : Cx} {C : FC} {own : List (Str × Nat)} {g : DG} {c : DT} {f : DE} (hw : Within g (own.map (·.2))) {ρ : Env} {T1 : Tp} {σ : L2.St} {H : Hp} {Q : VK} {ds : List D} (P : PostG X.K X.mg C σ (GV X.K X.mg C ρ σ H Q) ((rO (wipeE ρ (own.map (·.2)))).bind fun r0 => (lcD g c f ds r0 T1).bind fun q => .ok (.own (.lst q.1), q.2))) :
    GJA X.K X.mg C ρ σ H (fun J H1 => ∀ D, H1 D = none → ∃ W : Nat → Nat → Hp → Prop, (∃ m, W 0 m (L2.upd H1 D (.lst []))) ∧ ∀ i m H, W i m H →
  (J.stop i H ∧ Q (.ref D) H) ∨ (J.go i H ∧ ∃ Nx : Hp → Prop, (∀ H', Nx H' → ∃ m', m' < m ∧ W (i + 1) m' H') ∧ ∀ x H', J.yld i H x H' → tG X.K X.mg g x (wipe σ (own.map (·.2))) H' fun σ2 H2 => wipe σ2 (own.map (·.2)) = wipe σ (own.map (·.2)) ∧ (∃ L, tT X.K X.mg (C.blk L) c σ2 H2 fun b H3 =>
    if b = true then (∃ L, tE X.K X.mg (C.blk L) f σ2 H3 fun y H4 => ∃ acc, H4 D = some (.lst acc) ∧ acc.length < sizeLine ∧ Nx (L2.upd H4 D (.lst (acc ++ [y])))) else Nx H3))) (ds, T1) := by
  intro J pins H1 h1 e1 hpin ⟨hz, ok⟩
  have hz : ds.length ≤ 16777216 := by rw [← sizeLine_eq]; exact hz
  intro L hL
  cases hw0 : wipeE ρ (own.map (·.2)) with
  | none =>
    rw [hw0] at P
    exact P.elim
  | some r0 =>
    rw [hw0] at P
    have P : PostG X.K X.mg C σ (fun q => GV X.K X.mg C ρ σ H Q (.own (.lst q.1), q.2)) (lcD g c f ds r0 T1) := PostG.bind (x := lcD g c f ds r0 T1) P
    obtain ⟨w1, w2, w3, w4⟩ := wipeE_get hw0
    have hb0 := h1.toBlk hw0 hL
    have H0L : C.H0 L = none := back h1 h1.frame hL
    have ntL : C.tp ≠ some L := fun z => h1.fresh hL (.inr (.inl z))
    have noL : ∀ (i : Nat) (d : D), r0[i]? = some (some (.own d)) → (wipe σ (own.map (·.2)))[i]? ≠ some (some (.ref L)) := fun i d q z => by
      obtain ⟨p, e2, o, _⟩ := hb0.own i d q
      rw [z] at e2
      cases e2
      obtain ⟨a1, a2⟩ := w2 i _ q
      obtain ⟨p, e3, o3, _⟩ := h1.own i d a1
      rw [wipe_out a2, e3] at z
      cases z
      obtain ⟨u, eu, _⟩ := o3.there
      rw [hL] at eu
      cases eu
    have nn : ∀ a o, H1 a = some o → ¬ SS C Z0 ρ σ a → ¬ SS (C.blk L) Z0 r0 (wipe σ (own.map (·.2))) a := fun a o e q z => by
      rcases (ss_blk h1 hw0 a).mp z with z | z | z | z
      · exact q (.inl z)
      · exact q (.inr (.inl z))
      · exact q (.inr (.inr (.inl z)))
      · rw [z, hL] at e
        cases e
    refine ⟨fun i m H2 => ∃ (acc : List D) (accV : List V) (T2 : Tp), Holds X.K X.mg (C.blk L) Z0 r0 T2 (wipe σ (own.map (·.2))) H2 ∧ Ext C H1 H2 ∧ H2 L = some (.lst accV) ∧ accV.length ≤ i ∧ Reps X.K X.mg (SS (C.blk L) Z0 r0 (wipe σ (own.map (·.2)))) H2 accV acc ∧ i ≤ ds.length ∧ m = ds.length - i ∧
      PostG X.K X.mg C σ (fun q => GV X.K X.mg C ρ σ H Q (.own (.lst (acc ++ q.1)), q.2)) (lcD g c f (ds.drop i) r0 T2), ⟨_, [], [], T1, hb0, .same (same_new hL), upd_same, Nat.zero_le _, .nil, Nat.zero_le _, rfl, by simpa using P⟩, ?_⟩
    rintro i m H2 ⟨acc, accV, T2, h2, e2, hL2, hal, racc, hi, rfl, P2⟩
    have pinT : ∀ p ∈ pins, Top X.K X.mg (SS (C.blk L) Z0 r0 (wipe σ (own.map (·.2)))) H2 p.1 p.2 := fun p z => by
      rcases hpin p z with q | ⟨a, ea, nt, o⟩
      · exact .inl (q.go (fun a o x s => e2 a o x fun z => s (.inr (.inl z))) nn)
      · exact .inr ⟨a, ea, o.go (fun o x => e2 _ o x nt) (fun a o x s => e2 a o x fun z => s (.inr (.inl z))) nn⟩
    obtain ⟨ok1, ok2⟩ := ok _ H2 h2.trk e2 pinT i
    by_cases hlt : i < ds.length
    · refine .inr ?_
      have ed : ds[i]? = some ds[i] := List.getElem?_eq_getElem hlt
      obtain ⟨go, yl⟩ := ok1 _ ed
      rw [List.drop_eq_getElem_cons hlt] at P2
      have P2 : PostG X.K X.mg C σ (fun q => GV X.K X.mg C ρ σ H Q (.own (.lst (acc ++ q.1)), q.2)) ((rO (g ds[i])).bind fun m => (noX (c (setE r0 m) T2)).bind fun b => if b.1 = true then (noX (dv (f (setE r0 m) b.2))).bind fun v => (lcD g c f (ds.drop (i + 1)) r0 v.2).bind fun q => .ok (v.1 :: q.1, q.2) else lcD g c f (ds.drop (i + 1)) r0 b.2) := P2
      refine ⟨go, fun H' => ∃ (acc : List D) (accV : List V) (T2 : Tp), Holds X.K X.mg (C.blk L) Z0 r0 T2 (wipe σ (own.map (·.2))) H' ∧ Ext C H1 H' ∧ H' L = some (.lst accV) ∧ accV.length ≤ i + 1 ∧ Reps X.K X.mg (SS (C.blk L) Z0 r0 (wipe σ (own.map (·.2)))) H' accV acc ∧
        PostG X.K X.mg C σ (fun q => GV X.K X.mg C ρ σ H Q (.own (.lst (acc ++ q.1)), q.2)) (lcD g c f (ds.drop (i + 1)) r0 T2), fun H' ⟨acc, accV, T2, a1, a2, a3, a4, a5, a6⟩ => ⟨ds.length - (i + 1), by omega, acc, accV, T2, a1, a2, a3, a4, a5, hlt, rfl, a6⟩, fun x H3 y => ?_⟩
      obtain ⟨s3, p3⟩ := yl x H3 y
      have h3 := h2.more s3
      cases q : g ds[i] with
      | none => rw [q] at P2; exact P2.elim
      | some mm =>
        rw [q] at P2
        obtain ⟨⟨b, T3⟩, eb, P3⟩ := noX_ex P2
        have hmm := hw _ _ q
        refine ⟨_, ds[i], mm, p3, q, fun l hl => ?_⟩
        have hll : ∀ p ∈ l, p.1 ∈ own.map (·.2) := fun p z => by
          obtain ⟨u, u1, u2⟩ := hl.idx p z
          rw [← u2]
          exact hmm u u1
        refine ⟨by rw [wipe_setV l _ hll, wipe_wipe σ _ _ fun _ z => z], L, setE r0 mm, T2, Holds.setAll hl h3 fun _ _ _ s => s, ?_⟩
        rw [eb]
        intro H4 h4 e4
        have e4' : Ext C H3 H4 := e4
        have hb4 : Holds X.K X.mg (C.blk L) Z0 r0 T3 (wipe σ (own.map (·.2))) H4 := h3.unset (fun i w z => (w2 i w z).2) hmm hll e4 h4
        have e14 : Ext C H1 H4 := (e2.trans (.same s3)).trans e4'
        have hL4 : H4 L = some (.lst accV) := e4 L _ (s3 L _ hL2) ntL
        have r4 : Reps X.K X.mg (SS (C.blk L) Z0 r0 (wipe σ (own.map (·.2)))) H4 accV acc := racc.go (fun a o x s => e4 a o (s3 a o x) fun z => s (.inr (.inl z))) ss_same
        cases b with
        | false => exact ⟨acc, accV, T3, hb4, e14, hL4, by omega, r4, P3⟩
        | true =>
          obtain ⟨⟨v, T4⟩, ev, P4⟩ := noX_ex P3
          have P4 : PostG X.K X.mg C σ (fun q => GV X.K X.mg C ρ σ H Q (.own (.lst (acc ++ q.1)), q.2)) ((lcD g c f (ds.drop (i + 1)) r0 T4).bind fun q => .ok (v :: q.1, q.2)) := P4
          refine ⟨L, setE r0 mm, T3, h4, gv_known h4 ev fun y H5 h5 e5 p5 => ?_⟩
          have hb5 : Holds X.K X.mg (C.blk L) Z0 r0 T4 (wipe σ (own.map (·.2))) H5 := hb4.unset (fun i w z => (w2 i w z).2) hmm hll e5 h5
          have hL5 : H5 L = some (.lst accV) := e5 L _ hL4 ntL
          have r5 : Reps X.K X.mg (SS (C.blk L) Z0 r0 (wipe σ (own.map (·.2)))) H5 accV acc := r4.go (fun a o x s => e5 a o x fun z => s (.inr (.inl z))) ss_same
          have p5' : Rep X.K X.mg (SS (C.blk L) Z0 r0 (wipe σ (own.map (·.2)))) H5 y v := p5.go (fun _ _ e _ => e) fun a _ _ s z => s (by
            rcases z with z | z | ⟨j, d, z1, z2⟩ | z
            · exact .inl z
            · exact .inr (.inl z)
            · have hj := (w2 j _ z1).2
              refine .inr (.inr (.inl ⟨j, d, ?_, ?_⟩))
              · rw [setE_get mm r0 fun p z q => hj (by rw [← q]; exact hmm p z)]
                exact z1
              · rw [setV_get l _ fun p z q => hj (by rw [← q]; exact hll p z)]
                exact z2
            · exact z.elim)
          have kL : ∀ a o, H5 a = some o → ¬ SS (C.blk L) Z0 r0 (wipe σ (own.map (·.2))) a → upd H5 L (.lst (accV ++ [y])) a = some o := fun a o e s => by
            rw [upd_ne (fun z => s (.inl (.inr z)))]
            exact e
          refine ⟨accV, hL5, by rw [sizeLine_eq]; omega, acc ++ [v], accV ++ [y], T4, hb5.grow hL5 H0L ntL noL, fun a o x nt => ?_, upd_same, by rw [List.length_append, List.length_singleton]; omega, (r5.app (.cons p5' .nil)).go kL ss_same, ?_⟩
          · rw [upd_ne (fun z => by rw [z, hL] at x; cases x)]
            exact e5 a o (e14 a o x nt) nt
          · refine P4.bind.imp fun q P5 => ?_
            have P5 : GV X.K X.mg C ρ σ H Q (.own (.lst (acc ++ (v :: q.1))), q.2) := P5
            rw [List.append_assoc]
            exact P5
    · have e : i = ds.length := by omega
      subst e
      rw [List.drop_length] at P2
      refine .inl ⟨ok2 (Nat.le_refl _), ?_⟩
      have P3 : GV X.K X.mg C ρ σ H Q (.own (.lst (acc ++ [])), T2) := P2
      rw [List.append_nil] at P3
      have n2 : ∀ a o, H2 a = some o → ¬ SS (C.blk L) Z0 r0 (wipe σ (own.map (·.2))) a → ¬ SS C (fun a => a = L) ρ σ a := fun a _ _ s z => s ((ss_blk h1 hw0 a).mpr z)
      refine P3 L H2 (back h1 e1 hL) (h1.move e2 (fun a o e s z => ?_) (fun j p d z1 z2 z3 => ?_) (h2.tape.less n2) fun p z => by rw [z]; exact ⟨_, hL2, trivial⟩) (e1.trans e2) (.lst hL2 (by rw [sizeLine_eq]; omega) (racc.go (fun _ _ e _ => e) n2))
      · rcases z with z | z | z | z
        · exact s (.inl z)
        · exact s (.inr (.inl z))
        · exact s (.inr (.inr (.inl z)))
        · rw [z, hL] at e
          cases e
      · obtain ⟨p, e3, o3, _⟩ := h1.own j d z1
        rw [z2] at e3
        cases e3
        obtain ⟨u, eu, _⟩ := o3.there
        rw [z3, hL] at eu
        cases eu
theorem t_lc {X : Cx} {C : FC} {own : List (Str × Nat)} {fi : DI} {g : DG} {c : DT} {f : DE} (hw : Within g (own.map (·.2))) : ∀ (σ : L2.St) (H : Hp) (Q : VK), tE X.K X.mg C (eLc (own.map (·.2)) fi g c f) σ H Q →
    tLc (tJ X.K X.mg C fi) (tG X.K X.mg g) (fun σ H Q => ∃ L, tT X.K X.mg (C.blk L) c σ H Q) (fun σ H Q => ∃ L, tE X.K X.mg (C.blk L) f σ H Q) (own.map (·.2)) σ H Q := by
  rintro σ H Q ⟨ρ, T, h, P⟩
  refine ⟨ρ, T, h, P.bind.imp fun p P => ?_⟩
  obtain ⟨ds, T1⟩ := p
  exact (lc_coreA hw P).gj
theorem se_lc {X : Cx} {C : FC} {elt tg iter : Expr} {ifs : List Expr} {scope : Scope} {own : List (Str × Nat)} {pos : Pos} {fi : DI} {g : DG} {c : DT} {f : DE} (hc : X.calm = true) (hN : X.N.Nodup) (hi : SJ X C tg iter fi) (ok : BlkOk X.N X.env.scope scope own) (hw : Within g (own.map (·.2)))
    (hg : ∀ (s : Shared) (H : Hp) (Ca : Addr) (cl : List (Str × Addr)) (fp : List Addr), SG (X.blk s H scope (compEnvC scope cl Ca X.env) fp) tg g)
    (ht : ∀ (s : Shared) (H : Hp) (Ca : Addr) (cl : List (Str × Addr)) (fp : List Addr) (L : Addr), Takes (X.blk s H scope (compEnvC scope cl Ca X.env) fp) (C.blk L).W → STs (X.blk s H scope (compEnvC scope cl Ca X.env) fp) (C.blk L) ifs c)
    (he : ∀ (s : Shared) (H : Hp) (Ca : Addr) (cl : List (Str × Addr)) (fp : List Addr) (L : Addr), Takes (X.blk s H scope (compEnvC scope cl Ca X.env) fp) (C.blk L).W → SE (X.blk s H scope (compEnvC scope cl Ca X.env) fp) (C.blk L) elt f)
    (hs : ∀ x, foldedSetIterable iter X.env x = pure x := by intro _; rfl) : SE X C (.ListComp elt [⟨tg, iter, ifs, 0⟩] scope pos) (eLc (own.map (·.2)) fi g c f) := by
  exact pe_imp (pe_lc (g := tG X.K X.mg g) (tt := fun σ H Q => ∃ L, tT X.K X.mg (C.blk L) c σ H Q) (te := fun σ H Q => ∃ L, tE X.K X.mg (C.blk L) f σ H Q) hc hN hi ok hg
    (fun s H Ca cl fp => ⟨fun ps s2 σ H2 Q I ⟨L, q⟩ => (ht s H Ca cl fp L takes0).run ps s2 σ H2 Q I q⟩) (fun s H Ca cl fp => ⟨fun ps s2 σ H2 Q I ⟨L, q⟩ => (he s H Ca cl fp L takes0).run ps s2 σ H2 Q I q⟩) hs) (t_lc hw)
end Pu
namespace Pu
open PySem L2
/-! ## whole numbers -/
def dAddI : D → D → Rs VD
  | .int i, .int j => .ok (.val (.int (i + j)))
  | .tup a, .tup b => if a.length + b.length ≤ 16000000 then .ok (.val (.tup (a ++ b))) else .stuck
  | .lst a, .lst b => if a.length + b.length ≤ 16000000 then .ok (.own (.lst (a ++ b))) else .stuck
  | _, _ => .stuck
def dSub : D → D → Rs VD
  | .int i, .int j => .ok (.val (.int (i - j)))
  | _, _ => .stuck
/-- a product: one factor below 2 ^ 64 -/
def dMul : D → D → Rs VD
  | .int i, .int j => if (-(2 ^ 64) < i ∧ i < 2 ^ 64) ∨ (-(2 ^ 64) < j ∧ j < 2 ^ 64) then .ok (.val (.int (i * j))) else .stuck
  | _, _ => .stuck
def dDiv : D → D → Rs VD
  | .int i, .int j => if 0 < j ∧ j < 1073741824 then .ok (.val (.int (i / j))) else .stuck
  | _, _ => .stuck
def dMod : D → D → Rs VD
  | .int i, .int j => if 0 < j then .ok (.val (.int (i % j))) else .stuck
  | _, _ => .stuck
def dPow : D → D → Rs VD
  | .int i, .int j => if 0 ≤ j ∧ j ≤ 1000000 ∧ i.natAbs < 2 ^ 64 then .ok (.val (.int (i ^ j.toNat))) else .stuck
  | _, _ => .stuck
def dNeg : D → Rs VD
  | .int i => .ok (.val (.int (-i)))
  | _ => .stuck
section
variable {K : PySem.W.Frag} {mg : Str → Option Value}
theorem quiet_v {d : D} : Quiet (.ok (.val d)) := .inr (.inl ⟨d, rfl⟩)
theorem quiet_o {d : D} : Quiet (.ok (.own d)) := .inr (.inr ⟨d, rfl⟩)
theorem quiet_s : Quiet .stuck := .inl rfl
theorem quiet_if {p : Prop} [Decidable p] {x y : Rs VD} (h : Quiet x) (k : Quiet y) : Quiet (if p then x else y) := by
  by_cases c : p
  · rw [if_pos c]; exact h
  · rw [if_neg c]; exact k
theorem if_ok {p : Prop} [Decidable p] {x z : VD} (h : (if p then Rs.ok x else .stuck) = Rs.ok z) : p ∧ x = z := by
  by_cases c : p
  · rw [if_pos c] at h
    cases h
    exact ⟨c, rfl⟩
  · rw [if_neg c] at h
    cases h
def rAddU (K : PySem.W.Frag) : R2 := fun x y H Q => (rI0 fun i j => .int (i + j)) x y H Q ∨ rCatA K x y H Q ∨ rCat x y H Q
theorem op_addU {X : Cx} : OpR X (binaryOp .Add) (rAddU X.K) := op_add.or (op_catA.or op_cat)
theorem q_add : Quiet2 dAddI := fun d e => by
  unfold dAddI
  split <;> first | exact quiet_v | exact quiet_s | exact quiet_if quiet_v quiet_s | exact quiet_if quiet_o quiet_s
theorem d_add : R2D K mg (rAddU K) dAddI := fun S H x y dx dy Q z t p q e k => by
  unfold dAddI at e
  split at e
  · cases e
    exact .inl ⟨_, _, p.int, q.int, k.pure (.int _)⟩
  · rename_i a b
    obtain ⟨c, rfl⟩ := if_ok e
    obtain ⟨a1, vs, rfl, h1, z1, r1⟩ := p.sqT
    obtain ⟨b1, ws, rfl, h2, z2, r2⟩ := q.sqT
    refine .inr (.inl ?_)
    have l1 := r1.len
    have l2 := r2.len
    refine ⟨a1, b1, vs, ws, rfl, rfl, h1, h2, by rw [sizeLine_eq]; omega, ?_⟩
    refine ⟨fun e0 => ?_, fun _ e0 => ?_, fun _ _ p hp => k.newT t hp (by rw [List.length_append, sizeLine_eq]; omega) (r1.app r2)⟩
    · subst e0
      cases r1
      exact k.pure q.rep
    · subst e0
      cases r2
      rw [List.append_nil] at k
      exact k.pure p.rep
  · rename_i a b
    obtain ⟨c, rfl⟩ := if_ok e
    obtain ⟨a1, vs, rfl, h1, z1, r1⟩ := p.sqL
    obtain ⟨b1, ws, rfl, h2, z2, r2⟩ := q.sqL
    have l1 := r1.len
    have l2 := r2.len
    exact .inr (.inr ⟨a1, b1, vs, ws, rfl, rfl, h1, h2, by rw [sizeLine_eq]; omega, fun p hp => k.newL hp (by rw [List.length_append, sizeLine_eq]; omega) (r1.app r2)⟩)
  · cases e
theorem q_sub : Quiet2 dSub := fun d e => by
  unfold dSub
  split <;> first | exact quiet_v | exact quiet_s
theorem q_mul : Quiet2 dMul := fun d e => by
  unfold dMul
  split <;> first | exact quiet_if quiet_v quiet_s | exact quiet_s
theorem q_div : Quiet2 dDiv := fun d e => by
  unfold dDiv
  split <;> first | exact quiet_if quiet_v quiet_s | exact quiet_s
theorem q_mod : Quiet2 dMod := fun d e => by
  unfold dMod
  split <;> first | exact quiet_if quiet_v quiet_s | exact quiet_s
theorem q_pow : Quiet2 dPow := fun d e => by
  unfold dPow
  split <;> first | exact quiet_if quiet_v quiet_s | exact quiet_s
theorem q_neg : Quiet1 dNeg := fun d => by
  unfold dNeg
  split <;> first | exact quiet_v | exact quiet_s
theorem d_sub : R2D K mg (rI0 fun i j => .int (i - j)) dSub := fun S H x y dx dy Q z t p q e k => by
  unfold dSub at e
  split at e <;> cases e
  exact ⟨_, _, p.int, q.int, k.pure (.int _)⟩
theorem d_mul : R2D K mg (rI CMul fun i j => .int (i * j)) dMul := fun S H x y dx dy Q z t p q e k => by
  unfold dMul at e
  split at e
  · obtain ⟨c, rfl⟩ := if_ok e
    exact ⟨_, _, p.int, q.int, c, k.pure (.int _)⟩
  · cases e
theorem d_div : R2D K mg (rI CDiv fun i j => .int (i / j)) dDiv := fun S H x y dx dy Q z t p q e k => by
  unfold dDiv at e
  split at e
  · obtain ⟨c, rfl⟩ := if_ok e
    exact ⟨_, _, p.int, q.int, c, k.pure (.int _)⟩
  · cases e
theorem d_mod : R2D K mg (rI (fun _ j => 0 < j) fun i j => .int (i % j)) dMod := fun S H x y dx dy Q z t p q e k => by
  unfold dMod at e
  split at e
  · obtain ⟨c, rfl⟩ := if_ok e
    exact ⟨_, _, p.int, q.int, c, k.pure (.int _)⟩
  · cases e
theorem d_pow : R2D K mg (rI CPow fun i j => .int (i ^ j.toNat)) dPow := fun S H x y dx dy Q z t p q e k => by
  unfold dPow at e
  split at e
  · obtain ⟨c, rfl⟩ := if_ok e
    exact ⟨_, _, p.int, q.int, c, k.pure (.int _)⟩
  · cases e
theorem d_neg : R1D K mg (rU fun i => .int (-i)) dNeg := fun S H x dx Q z t p e k => by
  unfold dNeg at e
  split at e <;> cases e
  exact ⟨_, p.int, k.pure (.int _)⟩
end
/-! ## plain data -/
mutual
def py : D → PyData
  | .non => .none
  | .bl b => .bool b
  | .int i => .int i
  | .str x => .str x
  | .tup ds => .tuple (pys ds)
  | .lst ds => .list (pys ds)
  | .dct _ _ => .dict []
  | .ins _ _ => .dict []
  | .scr _ => .dict []
  | .tpl ns => .tuple (ns.map PyData.int)
  | .exn _ _ => .dict []
  | .lrf _ => .dict []
  | .cel _ _ => .dict []
  | .dcn _ => .dict []
def pys : List D → List PyData
  | [] => []
  | d :: ds => py d :: pys ds
end
theorem pys_map : ∀ ds : List D, pys ds = ds.map py
  | [] => by rw [pys]; rfl
  | d :: ds => by rw [pys, pys_map ds]; rfl
/-- texts, whole numbers, bools, None, lists and tuples of such, so deep -/
def Pl : Nat → D → Prop
  | _, .non => True
  | _, .bl _ => True
  | _, .int _ => True
  | _, .str _ => True
  | n + 1, .tup ds => ∀ d ∈ ds, Pl n d
  | n + 1, .lst ds => ∀ d ∈ ds, Pl n d
  | _ + 1, .tpl _ => True
  | _, _ => False
@[simp] theorem pl_non (n : Nat) : Pl n .non = True := by cases n <;> rfl
@[simp] theorem pl_bl (n : Nat) (b : Bool) : Pl n (.bl b) = True := by cases n <;> rfl
@[simp] theorem pl_int (n : Nat) (i : Int) : Pl n (.int i) = True := by cases n <;> rfl
@[simp] theorem pl_str (n : Nat) (x : Str) : Pl n (.str x) = True := by cases n <;> rfl
@[simp] theorem pl_tup (n : Nat) (ds : List D) : Pl (n + 1) (.tup ds) = ∀ d ∈ ds, Pl n d := rfl
@[simp] theorem pl_tpl (n : Nat) (ns : List Int) : Pl (n + 1) (.tpl ns) = True := rfl
@[simp] theorem pl_lst (n : Nat) (ds : List D) : Pl (n + 1) (.lst ds) = ∀ d ∈ ds, Pl n d := rfl
theorem plainAll_of {l : List PyData} (h : ∀ d ∈ l, d.plain = true) : PyData.plainAll l = true := by
  induction l with
  | nil => rw [PyData.plainAll]
  | cons d l ih =>
    rw [PyData.plainAll, h d List.mem_cons_self, ih fun e z => h e (List.mem_cons_of_mem _ z)]
    rfl
theorem depthAll_of {n : Nat} {l : List PyData} (h : ∀ d ∈ l, d.depth ≤ n) : PyData.depthAll l ≤ n := by
  induction l with
  | nil => rw [PyData.depthAll]; exact Nat.zero_le _
  | cons d l ih =>
    rw [PyData.depthAll]
    exact Nat.max_le.mpr ⟨h d List.mem_cons_self, ih fun e z => h e (List.mem_cons_of_mem _ z)⟩
theorem pl_py : ∀ (n : Nat) (d : D), Pl n d → (py d).plain = true ∧ (py d).depth ≤ n
  | n, .non, _ => by rw [py, PyData.plain, PyData.depth]; exact ⟨rfl, Nat.zero_le _⟩
  | n, .bl _, _ => by rw [py, PyData.plain, PyData.depth]; exact ⟨rfl, Nat.zero_le _⟩
  | n, .int _, _ => by rw [py, PyData.plain, PyData.depth]; exact ⟨rfl, Nat.zero_le _⟩
  | n, .str _, _ => by rw [py, PyData.plain, PyData.depth]; exact ⟨rfl, Nat.zero_le _⟩
  | 0, .tup _, h => h.elim
  | 0, .lst _, h => h.elim
  | n + 1, .tup ds, h => by
    have q := fun e (z : e ∈ ds) => pl_py n e (h e z)
    rw [py, PyData.plain, PyData.depth, pys_map]
    refine ⟨plainAll_of fun d z => ?_, ?_⟩
    · obtain ⟨e, z1, rfl⟩ := List.mem_map.mp z
      exact (q e z1).1
    · have := depthAll_of (n := n) (l := ds.map py) fun d z => by
        obtain ⟨e, z1, rfl⟩ := List.mem_map.mp z
        exact (q e z1).2
      omega
  | n + 1, .lst ds, h => by
    have q := fun e (z : e ∈ ds) => pl_py n e (h e z)
    rw [py, PyData.plain, PyData.depth, pys_map]
    refine ⟨plainAll_of fun d z => ?_, ?_⟩
    · obtain ⟨e, z1, rfl⟩ := List.mem_map.mp z
      exact (q e z1).1
    · have := depthAll_of (n := n) (l := ds.map py) fun d z => by
        obtain ⟨e, z1, rfl⟩ := List.mem_map.mp z
        exact (q e z1).2
      omega
  | n, .dct _ _, h => by cases n <;> exact h.elim
  | n, .ins _ _, h => by cases n <;> exact h.elim
  | n, .scr _, h => by cases n <;> exact h.elim
  | n, .exn _ _, h => by cases n <;> exact h.elim
  | n, .lrf _, h => by cases n <;> exact h.elim
  | n, .cel _ _, h => by cases n <;> exact h.elim
  | n, .dcn _, h => by cases n <;> exact h.elim
  | 0, .tpl _, h => h.elim
  | n + 1, .tpl ns, _ => by
    rw [py, PyData.plain, PyData.depth]
    refine ⟨plainAll_of fun d z => ?_, ?_⟩
    · obtain ⟨e, _, rfl⟩ := List.mem_map.mp z
      rw [PyData.plain]
    · have := depthAll_of (n := n) (l := ns.map PyData.int) fun d z => by
        obtain ⟨e, _, rfl⟩ := List.mem_map.mp z
        rw [PyData.depth]
        exact Nat.zero_le _
      omega
theorem readsInts {h : Heap} : ∀ {ns : List Int} {us : List Value}, Vals (ns.map V.int) us → ∃ as, PySem.ReadsAll h us (ns.map PyData.int) as
  | [], _, r => by cases r; exact ⟨_, .nil⟩
  | n :: ns, _, r => by
    cases r with
    | cons r1 r2 =>
      obtain ⟨t, rfl⟩ := r1
      obtain ⟨as, hr⟩ := readsInts r2
      exact ⟨_, .cons (.int n t) hr⟩
section
variable {X : Cx} {ps : List (Addr × Obj)} {σ : L2.St} {H : Hp} {s : Shared} {mg : Str → Option Value} {S : Addr → Prop}
mutual
theorem Rep.reads (I : Inv X ps σ H s) : ∀ {v : V} {d : D} (n : Nat) (u : Value), Rep X.K mg S H v d → Pl n d → RelV v u → ∃ as, PySem.Reads s.heap u (py d) as
  | _, _, _, _, .non, _, r => by cases r; rw [py]; exact ⟨_, .none⟩
  | _, _, _, _, .bl b, _, r => by cases r; rw [py]; exact ⟨_, .bool b⟩
  | _, _, _, _, .int i, _, r => by obtain ⟨t, rfl⟩ := r; rw [py]; exact ⟨_, .int i t⟩
  | _, _, _, _, .str x, _, r => by obtain ⟨t, rfl⟩ := r; rw [py]; exact ⟨_, .str x t⟩
  | _, _, 0, _, .tup _ _ _ _, h, _ => h.elim
  | _, _, 0, _, .lst _ _ _ _, h, _ => h.elim
  | _, _, n + 1, _, .tup _ e _ q, h, r => by
    cases r
    obtain ⟨its, rv, ⟨o, ho, hc, k, hd⟩, _⟩ := I.tuple (.of e)
    obtain ⟨as, hr⟩ := Reps.reads I n _ q h rv
    rw [py]
    exact ⟨_, .tuple ho hc hd hr⟩
  | _, _, n + 1, _, .lst _ e _ q, h, r => by
    cases r
    obtain ⟨its, rv, ⟨o, k, ho, hc, _, hd⟩, _⟩ := I.list (.of e)
    obtain ⟨as, hr⟩ := Reps.reads I n _ q h rv
    rw [py]
    exact ⟨_, .list ho hc hd hr⟩
  | _, _, n, _, .dK _ _ _ _ _, h, _ => by cases n <;> exact h.elim
  | _, _, n, _, .dT _ _ _ _ _, h, _ => by cases n <;> exact h.elim
  | _, _, n, _, .dKz _ _ _ _ _, h, _ => by cases n <;> exact h.elim
  | _, _, n, _, .dTz _ _ _ _ _, h, _ => by cases n <;> exact h.elim
  | _, _, n, _, .ins _ _ _ _ _, h, _ => by cases n <;> exact h.elim
  | _, _, n, _, .scr _ _ _ _, h, _ => by cases n <;> exact h.elim
  | _, _, n, _, .scrK _ _, h, _ => by cases n <;> exact h.elim
  | _, _, n, _, .exn0, h, _ => by cases n <;> exact h.elim
  | _, _, n, _, .lrf _, h, _ => by cases n <;> exact h.elim
  | _, _, n, _, .dcn _ _ _ _ _ _, h, _ => by cases n <;> exact h.elim
  | _, _, n, _, .exn _ _ _ _, h, _ => by cases n <;> exact h.elim
  | _, _, 0, _, .tpl _ _ _ _ _, h, _ => h.elim
  | _, _, n + 1, _, .tpl _ e _ _ _, _, r => by
    cases r
    obtain ⟨its, rv, ⟨o, ho, hc, k, hd⟩, _⟩ := I.tuple (.inl (.inr ⟨_, e⟩))
    obtain ⟨as, hr⟩ := readsInts rv
    rw [py]
    exact ⟨_, .tuple ho hc hd hr⟩
theorem Reps.reads (I : Inv X ps σ H s) : ∀ {vs : List V} {ds : List D} (n : Nat) (us : List Value), Reps X.K mg S H vs ds → (∀ d ∈ ds, Pl n d) → Vals vs us → ∃ as, PySem.ReadsAll s.heap us (pys ds) as
  | _, _, _, _, .nil, _, r => by cases r; rw [pys]; exact ⟨_, .nil⟩
  | _, _, n, _, .cons p t, h, r => by
    cases r with
    | cons r1 r2 =>
      obtain ⟨as, h1⟩ := Rep.reads I n _ p (h _ List.mem_cons_self) r1
      obtain ⟨bs, h2⟩ := Reps.reads I n _ t (fun d z => h d (List.mem_cons_of_mem _ z)) r2
      rw [pys]
      exact ⟨_, .cons h1 h2⟩
end
theorem Top.reads (I : Inv X ps σ H s) {v : V} {d : D} (n : Nat) {u : Value} (h : Top X.K mg S H v d) (pl : Pl n d) (r : RelV v u) : ∃ as, PySem.Reads s.heap u (py d) as := by
  rcases h with h | ⟨p, rfl, h⟩
  · exact h.reads I n u pl r
  · cases h with
    | lst e z q =>
      cases n with
      | zero => exact pl.elim
      | succ n =>
        cases r
        obtain ⟨its, rv, ⟨o, k, ho, hc, _, hd⟩, _⟩ := I.list (.of e)
        obtain ⟨as, hr⟩ := Reps.reads I n _ q pl rv
        rw [py]
        exact ⟨_, .list ho hc hd hr⟩
    | dK e z g q => cases n <;> exact pl.elim
    | dT e z g q => cases n <;> exact pl.elim
    | ins e m g q => cases n <;> exact pl.elim
    | dcn e z g q q2 => cases n <;> exact pl.elim
end
end Pu
namespace Pu
open PySem L2
open Classical
/-! ## comparisons of plain data -/
def rPl (K : PySem.W.Frag) (mg : Str → Option Value) (c : D → D → Prop) (f : D → D → Bool) : R2 := fun x y H Q => ∃ (S : Addr → Prop) (d e : D), Top K mg S H x d ∧ Top K mg S H y e ∧ Pl 40 d ∧ Pl 40 e ∧ c d e ∧ Q (.bl (f d e)) H
noncomputable def dPl (c : D → D → Prop) (f : D → D → Bool) : D → D → Rs VD := fun d e => if Pl 40 d ∧ Pl 40 e ∧ c d e then .ok (.val (.bl (f d e))) else .stuck
theorem q_pl {c : D → D → Prop} {f : D → D → Bool} : Quiet2 (dPl c f) := fun _ _ => quiet_if quiet_v quiet_s
theorem d_pl {K : PySem.W.Frag} {mg : Str → Option Value} {c : D → D → Prop} {f : D → D → Bool} : R2D K mg (rPl K mg c f) (dPl c f) := fun S H x y dx dy Q z t p q e k => by
  obtain ⟨⟨h1, h2, h3⟩, rfl⟩ := if_ok e
  exact ⟨S, dx, dy, p, q, h1, h2, h3, k.pure (.bl _)⟩
/-- the two can be ordered -/
def Ord2 (d e : D) : Prop := W.alike (py d) (py e) = true ∧ py d ≠ .none
noncomputable def dEq : D → D → Rs VD := dPl (fun _ _ => True) fun d e => PyData.eqv (py d) (py e)
noncomputable def dNe : D → D → Rs VD := dPl (fun _ _ => True) fun d e => !PyData.eqv (py d) (py e)
noncomputable def dLt : D → D → Rs VD := dPl Ord2 fun d e => W.dataLt (py d) (py e)
noncomputable def dGt : D → D → Rs VD := dPl Ord2 fun d e => W.dataLt (py e) (py d)
noncomputable def dLe : D → D → Rs VD := dPl Ord2 fun d e => !W.dataLt (py e) (py d)
noncomputable def dGe : D → D → Rs VD := dPl Ord2 fun d e => !W.dataLt (py d) (py e)
def isSeq (e : D) : Prop := (∃ ds, e = .lst ds) ∨ (∃ ds, e = .tup ds) ∨ ∃ ns, e = .tpl ns
def itemsD : D → List D
  | .lst ds => ds
  | .tup ds => ds
  | .tpl ns => ns.map D.int
  | _ => []
noncomputable def dInS : D → D → Rs VD := dPl (fun _ e => isSeq e) fun d e => (itemsD e).any fun y => PyData.eqv (py y) (py d)
noncomputable def dNinS : D → D → Rs VD := dPl (fun _ e => isSeq e) fun d e => !(itemsD e).any fun y => PyData.eqv (py y) (py d)
section
variable {X : Cx}
theorem room40 {n m u : Nat} (hu : u + 64 < cLine) (h1 : n ≤ 40) : u + min n m < cLine := Nat.lt_of_le_of_lt (Nat.add_le_add_left (Nat.le_trans (Nat.min_le_left _ _) (Nat.le_trans h1 (by decide))) u) hu
theorem op_eqP (hu : X.A.units + 64 < cLine) : OpR X (compareOp .Eq) (rPl X.K X.mg (fun _ _ => True) fun d e => PyData.eqv (py d) (py e)) := by
  rintro ps s σ H x y v u Q I rx ry ⟨S, d, e, p, q, h1, h2, _, k⟩
  obtain ⟨as, r1⟩ := p.reads I 40 h1 rx
  obtain ⟨bs, r2⟩ := q.reads I 40 h2 ry
  exact SeqAt.eq_plain r1 r2 (pl_py 40 d h1).1 (pl_py 40 e h2).1 (room40 hu (pl_py 40 d h1).2) ⟨.bl _, H, I, rfl, k⟩
theorem op_neP (hu : X.A.units + 64 < cLine) : OpR X (compareOp .NotEq) (rPl X.K X.mg (fun _ _ => True) fun d e => !PyData.eqv (py d) (py e)) := by
  rintro ps s σ H x y v u Q I rx ry ⟨S, d, e, p, q, h1, h2, _, k⟩
  obtain ⟨as, r1⟩ := p.reads I 40 h1 rx
  obtain ⟨bs, r2⟩ := q.reads I 40 h2 ry
  exact SeqAt.ne_plain r1 r2 (pl_py 40 d h1).1 (pl_py 40 e h2).1 (room40 hu (pl_py 40 d h1).2) ⟨.bl _, H, I, rfl, k⟩
theorem op_ltP (hu : X.A.units + 64 < cLine) : OpR X (compareOp .Lt) (rPl X.K X.mg Ord2 fun d e => W.dataLt (py d) (py e)) := by
  rintro ps s σ H x y v u Q I rx ry ⟨S, d, e, p, q, h1, h2, ⟨h3, h4⟩, k⟩
  obtain ⟨as, r1⟩ := p.reads I 40 h1 rx
  obtain ⟨bs, r2⟩ := q.reads I 40 h2 ry
  exact W.lt_data r1 r2 h3 h4 (room40 hu (pl_py 40 d h1).2) ⟨.bl _, H, I, rfl, k⟩
theorem op_gtP (hu : X.A.units + 64 < cLine) : OpR X (compareOp .Gt) (rPl X.K X.mg Ord2 fun d e => W.dataLt (py e) (py d)) := by
  rintro ps s σ H x y v u Q I rx ry ⟨S, d, e, p, q, h1, h2, ⟨h3, h4⟩, k⟩
  obtain ⟨as, r1⟩ := p.reads I 40 h1 rx
  obtain ⟨bs, r2⟩ := q.reads I 40 h2 ry
  exact W.gt_data r1 r2 h3 h4 (room40 hu (pl_py 40 d h1).2) ⟨.bl _, H, I, rfl, k⟩
theorem op_leP (hu : X.A.units + 64 < cLine) : OpR X (compareOp .LtE) (rPl X.K X.mg Ord2 fun d e => !W.dataLt (py e) (py d)) := by
  rintro ps s σ H x y v u Q I rx ry ⟨S, d, e, p, q, h1, h2, ⟨h3, h4⟩, k⟩
  obtain ⟨as, r1⟩ := p.reads I 40 h1 rx
  obtain ⟨bs, r2⟩ := q.reads I 40 h2 ry
  exact W.le_data r1 r2 h3 h4 (room40 hu (pl_py 40 d h1).2) ⟨.bl _, H, I, rfl, k⟩
theorem op_geP (hu : X.A.units + 64 < cLine) : OpR X (compareOp .GtE) (rPl X.K X.mg Ord2 fun d e => !W.dataLt (py d) (py e)) := by
  rintro ps s σ H x y v u Q I rx ry ⟨S, d, e, p, q, h1, h2, ⟨h3, h4⟩, k⟩
  obtain ⟨as, r1⟩ := p.reads I 40 h1 rx
  obtain ⟨bs, r2⟩ := q.reads I 40 h2 ry
  exact W.ge_data r1 r2 h3 h4 (room40 hu (pl_py 40 d h1).2) ⟨.bl _, H, I, rfl, k⟩
theorem any_pys (d : D) (ds : List D) : (pys ds).any (fun y => PyData.eqv y (py d)) = ds.any fun y => PyData.eqv (py y) (py d) := by
  rw [pys_map, List.any_map]
  rfl
theorem plain_all {n : Nat} {ds : List D} (h : ∀ d ∈ ds, Pl n d) : PyData.plainAll (pys ds) = true := by
  rw [pys_map]
  exact plainAll_of fun d z => by
    obtain ⟨e, z1, rfl⟩ := List.mem_map.mp z
    exact (pl_py n e (h e z1)).1
theorem room41 {n m u : Nat} (hu : u + 64 < cLine) (h1 : m ≤ 40) : u + 1 + min n m < cLine := by
  have := Nat.min_le_right n m
  omega
theorem op_ninP (hu : X.A.units + 64 < cLine) : OpR X (compareOp .NotIn) (rPl X.K X.mg (fun _ e => isSeq e) fun d e => !(itemsD e).any fun y => PyData.eqv (py y) (py d)) := by
  rintro ps s σ H x y v u Q I rx ry ⟨S, d, e, p, q, h1, h2, h3, k⟩
  obtain ⟨as, r1⟩ := p.reads I 40 h1 rx
  obtain ⟨bs, r2⟩ := q.reads I 40 h2 ry
  rcases h3 with ⟨ds, rfl⟩ | ⟨ds, rfl⟩ | ⟨ns, rfl⟩
  · rw [py] at r2
    refine SeqAt.notIn_list_data r2 r1 (plain_all (n := 39) h2) (pl_py 40 d h1).1 (room41 hu (pl_py 40 d h1).2) ⟨.bl _, H, I, rfl, ?_⟩
    rw [any_pys]
    exact k
  · rw [py] at r2
    refine SeqAt.notIn_tuple_data r2 r1 (plain_all (n := 39) h2) (pl_py 40 d h1).1 (room41 hu (pl_py 40 d h1).2) ⟨.bl _, H, I, rfl, ?_⟩
    rw [any_pys]
    exact k
  · have e : PyData.tuple (ns.map PyData.int) = .tuple (pys (ns.map D.int)) := by rw [pys_map, List.map_map]; exact congrArg _ (List.map_congr_left fun _ _ => by show _ = py (.int _); rw [py])
    rw [py, e] at r2
    refine SeqAt.notIn_tuple_data r2 r1 (plain_all (n := 39) fun z hz => by obtain ⟨i, _, rfl⟩ := List.mem_map.mp hz; trivial) (pl_py 40 d h1).1 (room41 hu (pl_py 40 d h1).2) ⟨.bl _, H, I, rfl, ?_⟩
    rw [any_pys]
    exact k
end
/-- x is None, x is not None -/
def dIsN : D → D → Rs VD
  | .non, .non => .ok (.val (.bl true))
  | _, .non => .ok (.val (.bl false))
  | _, _ => .stuck
def dIsnN : D → D → Rs VD
  | .non, .non => .ok (.val (.bl false))
  | _, .non => .ok (.val (.bl true))
  | _, _ => .stuck
section
variable {K : PySem.W.Frag} {mg : Str → Option Value}
theorem top_non {S : Addr → Prop} {H : Hp} {v : V} {d : D} (h : Top K mg S H v d) (n : d ≠ .non) : v ≠ .non := fun e => by
  subst e
  rcases h with h | ⟨p, q, _⟩
  · cases h
    exact n rfl
  · cases q
theorem q_isn : Quiet2 dIsN := fun d e => by
  unfold dIsN
  split <;> first | exact quiet_v | exact quiet_s
theorem q_isnn : Quiet2 dIsnN := fun d e => by
  unfold dIsnN
  split <;> first | exact quiet_v | exact quiet_s
theorem d_isn : R2D K mg (fun x y H Q => y = .non ∧ Q (.bl (decide (x = .non))) H) dIsN := fun S H x y dx dy Q z t p q e k => by
  unfold dIsN at e
  split at e
  · cases e
    refine ⟨q.non, ?_⟩
    rw [p.non, decide_eq_true rfl]
    exact k.pure (.bl _)
  · rename_i n
    cases e
    refine ⟨q.non, ?_⟩
    rw [decide_eq_false (top_non p fun z => n z)]
    exact k.pure (.bl _)
  · cases e
theorem d_isnn : R2D K mg (fun x y H Q => y = .non ∧ Q (.bl (!decide (x = .non))) H) dIsnN := fun S H x y dx dy Q z t p q e k => by
  unfold dIsnN at e
  split at e
  · cases e
    refine ⟨q.non, ?_⟩
    rw [p.non, decide_eq_true rfl]
    exact k.pure (.bl _)
  · rename_i n
    cases e
    refine ⟨q.non, ?_⟩
    rw [decide_eq_false (top_non p fun z => n z)]
    exact k.pure (.bl _)
  · cases e
end
/-! ## items and slices -/
def dIx : D → D → Rs VD
  | .lst ds, .int i => (rO (atI ds i)).bind fun d => .ok (.val d)
  | .tup ds, .int i => (rO (atI ds i)).bind fun d => .ok (.val d)
  | .str x, .int i => if x.length ≤ 16000000 then (rO (atI x.cps.toList i)).bind fun c => .ok (.val (.str ⟨#[c]⟩)) else .stuck
  | _, _ => .stuck
theorem quiet_o2 {A : Type} {o : Option A} {f : A → VD} (h : ∀ a, Quiet (.ok (f a))) : Quiet ((rO o).bind fun d => .ok (f d)) := by
  cases o with
  | none => exact quiet_s
  | some a => exact h a
theorem q_ix : Quiet2 dIx := fun d e => by
  unfold dIx
  split
  · exact quiet_o2 fun _ => quiet_v
  · exact quiet_o2 fun _ => quiet_v
  · exact quiet_if (quiet_o2 fun _ => quiet_v) quiet_s
  · exact quiet_s
section
variable {K : PySem.W.Frag} {mg : Str → Option Value} {S : Addr → Prop} {H : Hp}
theorem Reps.atI {vs : List V} {ds : List D} (r : Reps K mg S H vs ds) {i : Int} {d : D} (e : L2.atI ds i = some d) : ∃ v, L2.atI vs i = some v ∧ Rep K mg S H v d := by
  unfold L2.atI at e ⊢
  rw [r.len]
  cases q : ixN ds.length i with
  | none => rw [q] at e; cases e
  | some j =>
    rw [q] at e
    exact r.getD (show ds[j]? = some d from e)
theorem o2_ok {A : Type} {o : Option A} {f : A → VD} {z : VD} (h : ((rO o).bind fun d => Rs.ok (f d)) = Rs.ok z) : ∃ a, o = some a ∧ f a = z := by
  cases o with
  | none => cases h
  | some a =>
    cases h
    exact ⟨a, rfl, rfl⟩
theorem d_ix : R2D K mg (rIx K) dIx := fun S H x y dx dy Q z t p q e k => by
  unfold dIx at e
  split at e
  · obtain ⟨d, e1, rfl⟩ := o2_ok e
    obtain ⟨a, vs, rfl, h1, z1, r⟩ := p.sqL
    obtain ⟨v, e2, p2⟩ := r.atI e1
    exact .inl ⟨a, vs, _, v, rfl, q.int, .of h1, e2, k.pure p2⟩
  · obtain ⟨d, e1, rfl⟩ := o2_ok e
    obtain ⟨a, vs, rfl, h1, z1, r⟩ := p.sqT
    obtain ⟨v, e2, p2⟩ := r.atI e1
    exact .inr (.inl ⟨a, vs, _, v, rfl, q.int, h1, e2, k.pure p2⟩)
  · rename_i w i
    by_cases c : w.length ≤ 16000000
    · rw [if_pos c] at e
      obtain ⟨ch, e1, rfl⟩ := o2_ok e
      exact .inr (.inr ⟨w, i, ch, p.str, q.int, by rw [sizeLine_eq]; omega, e1, k.pure (.str _)⟩)
    · rw [if_neg c] at e
      cases e
  · cases e
end
/-- xs[lo:hi] -/
def cutA {A : Type} (xs : List A) (lo hi : Option Int) : List A := (xs.drop (HT.sIx xs.length 0 lo)).take (HT.sIx xs.length xs.length hi - HT.sIx xs.length 0 lo)
def dSl : D → Option Int → Option Int → Rs VD
  | .lst ds, lo, hi => .ok (.own (.lst (cutA ds lo hi)))
  | .tup ds, lo, hi => .ok (.val (.tup (cutA ds lo hi)))
  | _, _, _ => .stuck
def partE (f : Option DE) : Env → Tp → Rs (Option Int × Tp) := fun r T => match f with
  | none => .ok (none, T)
  | some f => (dt (f r T)).bind fun p => (dI p.1).bind fun i => .ok (some i, p.2)
def eSl (f : DE) (lo hi : Option DE) : DE := fun r T => (dt (f r T)).bind fun p => (partE lo r p.2).bind fun a => (partE hi r a.2).bind fun b => lift (dSl p.1 a.1 b.1) b.2
def GO (K : PySem.W.Frag) (mg : Str → Option Value) (C : FC) (r : Env) (σ : L2.St) (H : Hp) (Q : Option Int → Hp → Prop) : Option Int × Tp → Prop := fun p => ∀ H', Holds K mg C Z0 r p.2 σ H' → Ext C H H' → Q p.1 H'
def tO (K : PySem.W.Frag) (mg : Str → Option Value) (C : FC) (f : Option DE) : TO := fun σ H Q => ∃ r T, Holds K mg C Z0 r T σ H ∧ PostG K mg C σ (GO K mg C r σ H Q) (partE f r T)
abbrev SO (X : Cx) (C : FC) (e : Option Expr) (f : Option DE) : Prop := PO X e (tO X.K X.mg C f)
section
variable {X : Cx} {C : FC} {e : Expr} {f : DE}
theorem po_imp {X : Cx} {e : Option Expr} {t t' : TO} (h : PO X e t) (i : ∀ σ H Q, t' σ H Q → t σ H Q) : PO X e t' := ⟨fun pins s σ H Q I q => h.run pins s σ H Q I (i σ H Q q)⟩
theorem so_none : SO X C none none := po_imp po_none fun σ H Q ⟨ρ, T, h, P⟩ => P H h Ext.refl
theorem di_ex {K : PySem.W.Frag} {mg : Str → Option Value} {C : FC} {σ : L2.St} {B : Type} {G : B → Prop} {d : D} {g : Int → Rs B} (P : PostG K mg C σ G ((dI d).bind g)) : ∃ i, d = .int i ∧ PostG K mg C σ G (g i) := by
  cases d with
  | int i => exact ⟨i, rfl, P⟩
  | _ => exact (show False from P).elim
theorem so_some (h : SE X C e f) : SO X C (some e) (some f) := by
  refine po_imp (po_some h) ?_
  rintro σ H Q ⟨ρ, T, h, P⟩
  refine ⟨ρ, T, h, gv_dt h P fun d T' v H1 h1 e1 p P1 => ?_⟩
  obtain ⟨i, rfl, P2⟩ := di_ex P1
  exact ⟨i, p.top.int, P2 H1 h1 e1⟩
theorem go_bind {K : PySem.W.Frag} {mg : Str → Option Value} {r : Env} {σ : L2.St} {H : Hp} {B : Type} {G : B → Prop} {Q : Option Int → Hp → Prop} {x : Rs (Option Int × Tp)} {g : Option Int × Tp → Rs B} (P : PostG K mg C σ G (x.bind g))
    (k : ∀ b T' H', Holds K mg C Z0 r T' σ H' → Ext C H H' → PostG K mg C σ G (g (b, T')) → Q b H') : PostG K mg C σ (GO K mg C r σ H Q) x :=
  P.bind.imp fun p P H' h1 e1 => k p.1 p.2 H' h1 e1 P
theorem cut_map {K : PySem.W.Frag} {mg : Str → Option Value} {S : Addr → Prop} {H : Hp} {vs : List V} {ds : List D} (r : Reps K mg S H vs ds) (lo hi : Option Int) : Reps K mg S H (cutV vs lo hi) (cutA ds lo hi) := by
  unfold cutV cutA
  rw [r.len]
  exact (r.drop _).take _
theorem cut_whole {A : Type} {xs : List A} {lo hi : Option Int} (h : HT.sIx xs.length 0 lo = 0 ∧ HT.sIx xs.length xs.length hi = xs.length) : cutA xs lo hi = xs := by
  unfold cutA
  rw [h.1, h.2, List.drop_zero, Nat.sub_zero, List.take_length]
theorem se_sl {a : Expr} {lo hi : Option Expr} {fl fh : Option DE} {pos p2 : Pos} (ha : SE X C a f) (hl : SO X C lo fl) (hh : SO X C hi fh) : SE X C (.Subscript a (.Slice lo hi none p2) pos) (eSl f fl fh) := by
  refine pe_imp (pe_slice (sl_tupA.or sl_list) ha hl hh) ?_
  rintro σ H Q ⟨ρ, T, h, P⟩
  refine ⟨ρ, T, h, gv_dt h P fun d T' v H1 h1 e1 p P1 => ⟨ρ, T', h1, go_bind P1 fun x T2 H2 h2 e2 P2 => ⟨ρ, T2, h2, go_bind P2 fun y T3 H3 h3 e3 P3 => ?_⟩⟩⟩
  have p3 := ((p.ext e2).ext e3).top
  have e0 := (e1.trans e2).trans e3
  cases d with
  | lst ds =>
    obtain ⟨a, vs, rfl, h4, z1, r⟩ := p3.sqL
    have P4 : GV X.K X.mg C ρ σ H Q (.own (.lst (cutA ds x y)), T3) := P3
    exact .inr ⟨a, vs, rfl, .of h4, fun q hq => (gv_res h3 (gv_from h3 e0 P4) fun _ => ⟨nofun, nofun, nofun⟩).newL hq (Nat.le_trans (cutV_length _ _ _) z1) (cut_map r x y)⟩
  | tup ds =>
    obtain ⟨a, vs, rfl, h4, z1, r⟩ := p3.sqT
    have P4 : GV X.K X.mg C ρ σ H Q (.val (.tup (cutA ds x y)), T3) := P3
    refine .inl ⟨a, vs, rfl, h4, fun w => ?_, fun w q hq => (gv_res h3 (gv_from h3 e0 P4) fun _ => ⟨nofun, nofun, nofun⟩).newT h3.trk hq (Nat.le_trans (cutV_length _ _ _) z1) (cut_map r x y)⟩
    rw [r.len] at w
    rw [cut_whole w] at P4
    exact P4 _ H3 h3 e0 p3.rep
  | _ => exact (show False from P3).elim
end
end Pu
namespace Pu
open PySem L2
open Classical
/-! ## calls of built-in functions -/
theorem topv1 {K : PySem.W.Frag} {mg : Str → Option Value} {S : Addr → Prop} {H : Hp} {xs : List V} {d : D} (h : Tops K mg S H xs [d]) : ∃ x, xs = [x] ∧ Top K mg S H x d := by
  cases h with
  | cons p t =>
    cases t
    exact ⟨_, rfl, p⟩
/-- whole numbers alone -/
def nums : List D → Option (List Int)
  | [] => some []
  | .int i :: ds => (nums ds).map (i :: ·)
  | _ => none
@[simp] theorem ints_nil : nums [] = some [] := rfl
@[simp] theorem ints_cons (i : Int) (ds : List D) : nums (.int i :: ds) = (nums ds).map (i :: ·) := rfl
@[simp] theorem ints_map : ∀ ns : List Int, nums (ns.map D.int) = some ns
  | [] => rfl
  | n :: ns => by rw [List.map_cons, ints_cons, ints_map ns]; rfl
theorem ints_eq : ∀ {ds : List D} {ns : List Int}, nums ds = some ns → ds = ns.map D.int
  | [], ns, h => by cases h; rfl
  | .int i :: ds, ns, h => by
    rw [ints_cons] at h
    cases q : nums ds with
    | none => rw [q] at h; cases h
    | some l =>
      rw [q] at h
      cases h
      rw [List.map_cons, ints_eq q]
  | .non :: _, _, h => nomatch h
  | .bl _ :: _, _, h => nomatch h
  | .str _ :: _, _, h => nomatch h
  | .tup _ :: _, _, h => nomatch h
  | .lst _ :: _, _, h => nomatch h
  | .dct _ _ :: _, _, h => nomatch h
  | .ins _ _ :: _, _, h => nomatch h
  | .scr _ :: _, _, h => nomatch h
  | .tpl _ :: _, _, h => nomatch h
def bls : List D → Option (List Bool)
  | [] => some []
  | .bl i :: ds => (bls ds).map (i :: ·)
  | _ => none
@[simp] theorem bools_nil : bls [] = some [] := rfl
@[simp] theorem bools_cons (i : Bool) (ds : List D) : bls (.bl i :: ds) = (bls ds).map (i :: ·) := rfl
@[simp] theorem bools_map : ∀ ns : List Bool, bls (ns.map D.bl) = some ns
  | [] => rfl
  | n :: ns => by rw [List.map_cons, bools_cons, bools_map ns]; rfl
theorem bools_eq : ∀ {ds : List D} {ns : List Bool}, bls ds = some ns → ds = ns.map D.bl
  | [], ns, h => by cases h; rfl
  | .bl i :: ds, ns, h => by
    rw [bools_cons] at h
    cases q : bls ds with
    | none => rw [q] at h; cases h
    | some l =>
      rw [q] at h
      cases h
      rw [List.map_cons, bools_eq q]
  | .non :: _, _, h => nomatch h
  | .int _ :: _, _, h => nomatch h
  | .str _ :: _, _, h => nomatch h
  | .tup _ :: _, _, h => nomatch h
  | .lst _ :: _, _, h => nomatch h
  | .dct _ _ :: _, _, h => nomatch h
  | .ins _ _ :: _, _, h => nomatch h
  | .scr _ :: _, _, h => nomatch h
  | .tpl _ :: _, _, h => nomatch h
section
variable {K : PySem.W.Frag} {mg : Str → Option Value} {S : Addr → Prop} {H : Hp}
theorem Reps.ofInts : ∀ {ns : List Int} {vs : List V}, Reps K mg S H vs (ns.map D.int) → vs = ns.map V.int
  | [], vs, h => by cases h; rfl
  | n :: ns, vs, h => by
    cases h with
    | cons p t =>
      cases p
      rw [Reps.ofInts t]
      rfl
theorem Reps.ofBools : ∀ {ns : List Bool} {vs : List V}, Reps K mg S H vs (ns.map D.bl) → vs = ns.map V.bl
  | [], vs, h => by cases h; rfl
  | n :: ns, vs, h => by
    cases h with
    | cons p t =>
      cases p
      rw [Reps.ofBools t]
      rfl
theorem reps_ints : ∀ ns : List Int, Reps K mg S H (ns.map V.int) (ns.map D.int)
  | [] => .nil
  | n :: ns => .cons (.int n) (reps_ints ns)
theorem Top.scr {v : V} {ns : List Int} (h : Top K mg S H v (.scr ns)) : ∃ a, v = .ref a ∧ SqL K H a (ns.map V.int) ∧ ns.length ≤ sizeLine := by
  rcases h with h | ⟨p, rfl, h⟩
  · cases h with
    | scr s e q z => exact ⟨_, rfl, q _ e, z⟩
    | scrK q z => exact ⟨_, rfl, q _, z⟩
  · cases h
theorem o_ok {A : Type} {o : Option A} {f : A → Rs VD} {z : VD} (h : (rO o).bind f = Rs.ok z) : ∃ a, o = some a ∧ f a = .ok z := by
  cases o with
  | none => cases h
  | some a => exact ⟨a, rfl, h⟩
theorem quiet_r {A : Type} {o : Option A} {f : A → Rs VD} (h : ∀ a, Quiet (f a)) : Quiet ((rO o).bind f) := by
  cases o with
  | none => exact quiet_s
  | some a => exact h a
end
/-! len -/
def bLen : List D → Rs VD
  | [.lst ds] => .ok (.val (.int ds.length))
  | [.tup ds] => .ok (.val (.int ds.length))
  | [.str x] => if x.length ≤ 16000000 then .ok (.val (.int x.length)) else .stuck
  | [.scr ns] => .ok (.val (.int ns.length))
  | _ => .stuck
theorem q_len : QuietN bLen := fun ds => by
  unfold bLen
  split <;> first | exact quiet_v | exact quiet_s | exact quiet_if quiet_v quiet_s
def rLen (K : PySem.W.Frag) : List V → Hp → VK → Prop := fun xs H Q => ∃ x n, xs = [x] ∧ LenV K x H n ∧ Q (.int n) H
theorem d_len {K : PySem.W.Frag} {mg : Str → Option Value} : RnD K mg (rLen K) bLen := fun S H xs ds Q z t hp e k => by
  unfold bLen at e
  split at e
  · cases e
    obtain ⟨x, rfl, p⟩ := topv1 hp
    obtain ⟨a, vs, rfl, h1, z1, r⟩ := p.sqL
    exact ⟨_, _, rfl, .inl ⟨vs, .inl (.inl h1), r.len.symm⟩, k.pure (.int _)⟩
  · cases e
    obtain ⟨x, rfl, p⟩ := topv1 hp
    obtain ⟨a, vs, rfl, h1, z1, r⟩ := p.sqT
    exact ⟨_, _, rfl, .inr ⟨vs, h1, r.len.symm⟩, k.pure (.int _)⟩
  · obtain ⟨c, rfl⟩ := if_ok e
    obtain ⟨x, rfl, p⟩ := topv1 hp
    exact ⟨_, _, rfl, by rw [p.str]; exact ⟨by rw [sizeLine_eq]; omega, rfl⟩, k.pure (.int _)⟩
  · cases e
    obtain ⟨x, rfl, p⟩ := topv1 hp
    obtain ⟨a, rfl, h1, z1⟩ := p.scr
    exact ⟨_, _, rfl, .inl ⟨_, h1, by rw [List.length_map]⟩, k.pure (.int _)⟩
  · cases e
/-! list, tuple, int -/
def bList : List D → Rs VD
  | [.lst ds] => .ok (.own (.lst ds))
  | [.tup ds] => .ok (.own (.lst ds))
  | [.scr ns] => .ok (.own (.lst (ns.map D.int)))
  | _ => .stuck
theorem q_list : QuietN bList := fun ds => by
  unfold bList
  split <;> first | exact quiet_o | exact quiet_s
def rList (K : PySem.W.Frag) : List V → Hp → VK → Prop := fun xs H Q => ∃ p ys, xs = [.ref p] ∧ (SqL K H p ys ∨ SqT K H p ys) ∧ ∀ l, H l = none → Q (.ref l) (upd H l (.lst ys))
theorem d_list {K : PySem.W.Frag} {mg : Str → Option Value} : RnD K mg (rList K) bList := fun S H xs ds Q z t hp e k => by
  unfold bList at e
  split at e
  · cases e
    obtain ⟨x, rfl, p⟩ := topv1 hp
    obtain ⟨a, vs, rfl, h1, z1, r⟩ := p.sqL
    exact ⟨_, _, rfl, .inl (.inl (.inl h1)), fun l hl => k.newL hl z1 r⟩
  · cases e
    obtain ⟨x, rfl, p⟩ := topv1 hp
    obtain ⟨a, vs, rfl, h1, z1, r⟩ := p.sqT
    exact ⟨_, _, rfl, .inr h1, fun l hl => k.newL hl z1 r⟩
  · cases e
    obtain ⟨x, rfl, p⟩ := topv1 hp
    obtain ⟨a, rfl, h1, z1⟩ := p.scr
    exact ⟨_, _, rfl, .inl h1, fun l hl => k.newL hl (by rw [List.length_map]; exact z1) (reps_ints _)⟩
  · cases e
def bTuple : List D → Rs VD
  | [.lst ds] => .ok (.val (.tup ds))
  | [.tup ds] => .ok (.val (.tup ds))
  | _ => .stuck
theorem q_tuple : QuietN bTuple := fun ds => by
  unfold bTuple
  split <;> first | exact quiet_v | exact quiet_s
def rTuple (K : PySem.W.Frag) : List V → Hp → VK → Prop := fun xs H Q => ∃ p ys, xs = [.ref p] ∧ ((SqL K H p ys ∧ ∀ l, H l = none → Q (.ref l) (upd H l (.tup ys))) ∨ (SqT K H p ys ∧ Q (.ref p) H))
theorem d_tuple {K : PySem.W.Frag} {mg : Str → Option Value} : RnD K mg (rTuple K) bTuple := fun S H xs ds Q z t hp e k => by
  unfold bTuple at e
  split at e
  · cases e
    obtain ⟨x, rfl, p⟩ := topv1 hp
    obtain ⟨a, vs, rfl, h1, z1, r⟩ := p.sqL
    exact ⟨_, _, rfl, .inl ⟨.inl (.inl h1), fun l hl => k.newT t hl z1 r⟩⟩
  · cases e
    obtain ⟨x, rfl, p⟩ := topv1 hp
    have p2 := p.rep
    obtain ⟨a, vs, rfl, h1, z1, r⟩ := p.sqT
    exact ⟨_, _, rfl, .inr ⟨h1, k.pure p2⟩⟩
  · cases e
def bInt : List D → Rs VD
  | [.int i] => .ok (.val (.int i))
  | [.bl b] => .ok (.val (.int (if b then 1 else 0)))
  | _ => .stuck
theorem q_int : QuietN bInt := fun ds => by
  unfold bInt
  split <;> first | exact quiet_v | exact quiet_s
theorem d_int {K : PySem.W.Frag} {mg : Str → Option Value} : RnD K mg (fun xs H Q => (∃ i, xs = [.int i] ∧ Q (.int i) H) ∨ ∃ k, xs = [.bl k] ∧ Q (.int (if k then 1 else 0)) H) bInt := fun S H xs ds Q z t hp e k => by
  unfold bInt at e
  split at e
  · cases e
    obtain ⟨x, rfl, p⟩ := topv1 hp
    rw [p.int]
    exact .inl ⟨_, rfl, k.pure (.int _)⟩
  · cases e
    obtain ⟨x, rfl, p⟩ := topv1 hp
    rw [p.bl]
    exact .inr ⟨_, rfl, k.pure (.int _)⟩
  · cases e
/-! sum, all, any, min, max -/
def rSumA (K : PySem.W.Frag) : List V → Hp → VK → Prop := fun vs H Q => ∃ (a : Addr) (ns : List Int), vs = [V.ref a] ∧ (SqL K H a (ns.map V.int) ∨ SqT K H a (ns.map V.int)) ∧ Q (.int ns.sum) H
theorem cr_sumA {X : Cx} (hc : X.calm = true) : CallR X (.builtin "sum") (rSumA X.K) := by
  intro pins s σ H vs us Q I r h
  obtain ⟨a, ns, rfl, hs, q⟩ := h
  rcases hs with hs | hs
  · exact cr_sum hc pins s σ H _ us Q I r ⟨a, ns, rfl, hs, q⟩
  · obtain ⟨its, rv, hl, _⟩ := I.tuple hs
    rw [Vals.ref1 r]
    obtain ⟨xs, hx⟩ := rv.ints.allInts.items
    have hn : numsOf its.toArray.toList = ns := by rw [show its.toArray.toList = its from rfl, rv.ints.numsOf]
    have hl : s.heap.IsTuple a its.toArray := hl
    rw [hx] at hl hn
    rw [nums_intItems] at hn
    refine PySem.W.ktm_sumG (I.ok.hd hc) hl fun h' tk t' hk => ?_
    rw [preSum_eq, List.take_of_length_le (by simp), hn]
    exact ⟨.int _, H, I.kept hk, ⟨_, rfl⟩, q⟩
def bSum : List D → Rs VD
  | [.lst ds] => (rO (nums ds)).bind fun ns => .ok (.val (.int ns.sum))
  | [.tup ds] => (rO (nums ds)).bind fun ns => .ok (.val (.int ns.sum))
  | _ => .stuck
theorem q_sum : QuietN bSum := fun ds => by
  unfold bSum
  split <;> first | exact quiet_s | exact quiet_r fun _ => quiet_v
theorem d_sum {K : PySem.W.Frag} {mg : Str → Option Value} : RnD K mg (rSumA K) bSum := fun S H xs ds Q z t hp e k => by
  unfold bSum at e
  split at e
  · obtain ⟨ns, e1, e⟩ := o_ok e
    cases e
    have := ints_eq e1
    subst this
    obtain ⟨x, rfl, p⟩ := topv1 hp
    obtain ⟨a, vs, rfl, h1, z1, r⟩ := p.sqL
    rw [r.ofInts] at h1
    exact ⟨a, ns, rfl, .inl (.inl (.inl h1)), k.pure (.int _)⟩
  · obtain ⟨ns, e1, e⟩ := o_ok e
    cases e
    have := ints_eq e1
    subst this
    obtain ⟨x, rfl, p⟩ := topv1 hp
    obtain ⟨a, vs, rfl, h1, z1, r⟩ := p.sqT
    rw [r.ofInts] at h1
    exact ⟨a, ns, rfl, .inr h1, k.pure (.int _)⟩
  · cases e
def bAll : List D → Rs VD
  | [.lst ds] => (rO (bls ds)).bind fun ns => .ok (.val (.bl (ns.all id)))
  | _ => .stuck
def bAny : List D → Rs VD
  | [.lst ds] => (rO (bls ds)).bind fun ns => .ok (.val (.bl (ns.any id)))
  | _ => .stuck
theorem q_all : QuietN bAll := fun ds => by
  unfold bAll
  split <;> first | exact quiet_s | exact quiet_r fun _ => quiet_v
theorem d_all {K : PySem.W.Frag} {mg : Str → Option Value} : RnD K mg (rAll K) bAll := fun S H xs ds Q z t hp e k => by
  unfold bAll at e
  split at e
  · obtain ⟨ns, e1, e⟩ := o_ok e
    cases e
    have := bools_eq e1
    subst this
    obtain ⟨x, rfl, p⟩ := topv1 hp
    obtain ⟨a, vs, rfl, h1, z1, r⟩ := p.sqL
    rw [r.ofBools] at h1
    exact ⟨a, ns, rfl, .inl (.inl h1), k.pure (.bl _)⟩
  · cases e
def bMax : List D → Rs VD
  | [.int i, .int j] => .ok (.val (.int (if j > i then j else i)))
  | [.lst ds] => (rO (nums ds)).bind fun ns => (rO ns.max?).bind fun m => .ok (.val (.int m))
  | [.tup ds] => (rO (nums ds)).bind fun ns => (rO ns.max?).bind fun m => .ok (.val (.int m))
  | _ => .stuck
def bMin : List D → Rs VD
  | [.int i, .int j] => .ok (.val (.int (if j < i then j else i)))
  | [.lst ds] => (rO (nums ds)).bind fun ns => (rO ns.min?).bind fun m => .ok (.val (.int m))
  | [.tup ds] => (rO (nums ds)).bind fun ns => (rO ns.min?).bind fun m => .ok (.val (.int m))
  | _ => .stuck
end Pu
namespace Pu
open PySem L2
open Classical
/-! ## isinstance -/
inductive Ty where
  | int | bool | str | tuple | list | dict
def Ty.nm : Ty → String
  | .int => "int" | .bool => "bool" | .str => "str" | .tuple => "tuple" | .list => "list" | .dict => "dict"
/-- is it of that type? own things: those of the classes cs alone -/
def isT (cs : List Str) : Ty → D → Option Bool
  | t, .ins c _ => if cs.contains c then some false else none
  | _, .exn _ _ => none
  | _, .lrf _ => none
  | _, .cel _ _ => none
  | _, .dcn _ => none
  | .int, .int _ => some true
  | .int, .bl _ => some true
  | .bool, .bl _ => some true
  | .str, .str _ => some true
  | .tuple, .tup _ => some true
  | .tuple, .tpl _ => some true
  | .list, .lst _ => some true
  | .list, .scr _ => some true
  | .dict, .dct _ _ => some true
  | _, _ => some false
def dIsi (cs : List Str) (t : Ty) (d : D) : Rs VD := (rO (isT cs t d)).bind fun b => .ok (.val (.bl b))
/-- a value's type; of a dict that is locked, too -/
inductive TyZ (K : PySem.W.Frag) (H : Hp) : V → Value → Prop where
  | x {v : V} {t : Value} (h : TyX K H v t) : TyZ K H v t
  | fT {a : Addr} {o : Obj} {kvs : List (List Key × V)} (e : H a = some (.frz o (.dT kvs))) : TyZ K H (.ref a) (.type "dict")
namespace TyZ
variable {K : PySem.W.Frag} {H : Hp}
theorem base {v : V} {t : Value} (h : TyOf K H v t) : TyZ K H v t := .x (.base h)
theorem kList {a : Addr} {o : Obj} (e : K.lookup a = some o) (c : o.cls = .type "list") : TyZ K H (.ref a) (.type "list") := .x (.kList e c)
theorem kTuple {a : Addr} {o : Obj} (e : K.lookup a = some o) (c : o.cls = .type "tuple") : TyZ K H (.ref a) (.type "tuple") := .x (.kTuple e c)
theorem fTuple {a : Addr} {o : Obj} {xs : List V} (e : H a = some (.frz o (.tup xs))) : TyZ K H (.ref a) (.type "tuple") := .x (.fTuple e)
theorem fDict {a : Addr} {o : Obj} {kvs : List (Key × V)} (e : H a = some (.frz o (.dK kvs))) : TyZ K H (.ref a) (.type "dict") := .x (.fDict e)
theorem dK {a : Addr} {kvs : List (Key × V)} (e : Rd H a (.dK kvs)) : TyZ K H (.ref a) (.type "dict") := e.elim (fun e => .base (.dK e)) fun ⟨_, e⟩ => .fDict e
theorem dT {a : Addr} {kvs : List (List Key × V)} (e : Rd H a (.dT kvs)) : TyZ K H (.ref a) (.type "dict") := e.elim (fun e => .base (.dT e)) fun ⟨_, e⟩ => .fT e
end TyZ
theorem kit_ofZ {X : Cx} {pins : List (Addr × Obj)} {σ : L2.St} {H : Hp} {s : Shared} {x : V} {u t : Value} (I : Inv X pins σ H s) (rx : RelV x u) (ty : TyZ X.K H x t) : ∃ P : Heap → Prop, PySem.W.KitX X.K u t P ∧ P s.heap ∧ u ≠ .builtin "__main__.__loader__#opaque" := by
  cases ty with
  | x h => exact kit_of I rx h
  | @fT a ob kvs ea =>
    cases (show u = Value.ref a from rx)
    obtain ⟨_, _, _, xs, _, o, es, ep, h1, h2, _⟩ := (show ObjOk X.prog X.w H s.heap a (.frz ob (.dT kvs)) from I.hok a _ ea)
    exact ⟨_, PySem.W.kitx_dict, ⟨o, h1, h2.1⟩, fun z => nomatch z⟩
def rIsiZ (K : PySem.W.Frag) : List V → Hp → VK → Prop := fun xs H Q => ∃ (x c : V) (t u : Value) (b : Bool), xs = [x, c] ∧ ClsV c u ∧ TyZ K H x t ∧ PySem.W.kitOne K t u = some b ∧ Q (.bl b) H
theorem call_isiZ {X : Cx} : CallR X (.builtin "isinstance") (rIsiZ X.K) := fun pins s σ H xs us Q I r ⟨x, c, t, u, b, ex, k, ty, e, q⟩ => by
  subst ex
  obtain ⟨u1, u2, rfl, r1, r2⟩ := vals2 r
  cases k.eq r2
  obtain ⟨P, Z, p, hx⟩ := kit_ofZ I r1 ty
  exact PySem.W.kia_one Z I.kIn p e hx fun tk => ⟨.bl b, H, I.tok tk, rfl, q⟩
/-- what a class of its own must be -/
def OwnCls (K : PySem.W.Frag) (C : Addr) : Prop := Cls K C ∧ PySem.W.findIn K (.ref C) "__class__" = some (some (.builtin "object.__class__")) ∧ PySem.W.specialIn K (.builtin "object.__class__") "__get__" = some (some (.builtin "getset_descriptor.__get__")) ∧
  PySem.W.takesIn K (.builtin "object.__class__") = some true ∧ PySem.W.mroIn K C (.type "object") = some true
def OwnOk (K : PySem.W.Frag) (mg : Str → Option Value) (cs : List Str) : Prop := ∀ c ∈ cs, ∀ C, mg c = some (.ref C) → OwnCls K C ∧ ∀ t : Ty, PySem.W.kitOne K (.ref C) (.type t.nm) = some false
theorem ownOk_nil {K : PySem.W.Frag} {mg : Str → Option Value} : OwnOk K mg [] := fun _ h => nomatch h
section
variable {K : PySem.W.Frag} {mg : Str → Option Value} {S : Addr → Prop} {H : Hp}
theorem Top.dctTy {v : V} {tt : Bool} {kvs : List (D × D)} (h : Top K mg S H v (.dct tt kvs)) : TyZ K H v (.type "dict") := by
  rcases h with h | ⟨p, rfl, h⟩
  · cases h with
    | dK s h0 z g q => exact .dK (.inl h0)
    | dT s h0 z g q => exact .dT (.inl h0)
    | dKz s h0 z g q => exact .dK (.inr ⟨_, h0⟩)
    | dTz s h0 z g q => exact .dT (.inr ⟨_, h0⟩)
  · cases h with
    | dK h0 z g q => exact .dK (.inl h0)
    | dT h0 z g q => exact .dT (.inl h0)
theorem isT_ok {cs : List Str} (ho : OwnOk K mg cs) {v : V} {d : D} {t : Ty} {b : Bool} (h : Top K mg S H v d) (e : isT cs t d = some b) (nk : ∀ ds, d = .tup ds → ∃ a, v = V.ref a ∧ (TyZ K H (.ref a) (.type "tuple"))) : ∃ tv, TyZ K H v tv ∧ PySem.W.kitOne K tv (.type t.nm) = some b := by
  cases d with
  | non =>
    rw [h.non]
    refine ⟨_, .base .non, ?_⟩
    cases t <;> cases e <;> exact kit_ty (by decide +kernel)
  | bl x =>
    rw [h.bl]
    refine ⟨_, .base (.bl x), ?_⟩
    cases t <;> cases e <;> exact kit_ty (by decide +kernel)
  | int x =>
    rw [h.int]
    refine ⟨_, .base (.int x), ?_⟩
    cases t <;> cases e <;> exact kit_ty (by decide +kernel)
  | str x =>
    rw [h.str]
    refine ⟨_, .base (.str x), ?_⟩
    cases t <;> cases e <;> exact kit_ty (by decide +kernel)
  | tup ds =>
    obtain ⟨a, rfl, ty⟩ := nk ds rfl
    refine ⟨_, ty, ?_⟩
    cases t <;> cases e <;> exact kit_ty (by decide +kernel)
  | lst ds =>
    obtain ⟨a, vs, rfl, h1, z1, r⟩ := h.sqL
    refine ⟨_, .base (.lst h1), ?_⟩
    cases t <;> cases e <;> exact kit_ty (by decide +kernel)
  | exn a b => cases t <;> cases e
  | lrf a => cases t <;> cases e
  | cel a b => cases t <;> cases e
  | dcn a => cases t <;> cases e
  | tpl ns =>
    obtain ⟨a, o, rfl, h1, _⟩ := h.tpl
    refine ⟨_, .fTuple h1, ?_⟩
    cases t <;> cases e <;> exact kit_ty (by decide +kernel)
  | scr ns =>
    obtain ⟨a, rfl, h1, z1⟩ := h.scr
    have ty : TyZ K H (.ref a) (.type "list") := by
      rcases h1 with (h1 | ⟨o, h1⟩) | ⟨o, its, n, h1, h2, _⟩
      · exact .base (.lst h1)
      · exact .base (.frz h1)
      · exact .kList h1 h2
    refine ⟨_, ty, ?_⟩
    cases t <;> cases e <;> exact kit_ty (by decide +kernel)
  | dct tt kvs =>
    have h1 := h.dctTy
    refine ⟨_, h1, ?_⟩
    cases t <;> cases e <;> exact kit_ty (by decide +kernel)
  | ins c fs =>
    have h1 : ∃ a C dx l, v = .ref a ∧ H a = some (.ins C dx l) ∧ mg c = some (.ref C) := by
      rcases h with h | ⟨p, rfl, h⟩
      · cases h with
        | ins s e m g q => exact ⟨_, _, _, _, rfl, e, m⟩
      · cases h with
        | ins e m g q => exact ⟨_, _, _, _, rfl, e, m⟩
    obtain ⟨a, C, dx, l, rfl, h1, hm⟩ := h1
    have e' : (if cs.contains c then some false else none) = some b := by cases t <;> exact e
    by_cases hc : cs.contains c = true
    · rw [if_pos hc] at e'
      cases e'
      obtain ⟨⟨h2, h3, h4, h5, h6⟩, h7⟩ := ho c (by simpa using hc) C hm
      exact ⟨_, .base (.ins h1 h2 h3 h4 h5 h6), h7 t⟩
    · rw [if_neg hc] at e'
      cases e'
/-- a tuple's type -/
theorem sqT_ty {a : Addr} {xs : List V} (h : SqT K H a xs) : TyZ K H (.ref a) (.type "tuple") := by
  rcases h with (h | ⟨o, h⟩) | ⟨o, its, n, h1, h2, _⟩
  · exact .base (.tup h)
  · exact .fTuple h
  · exact .kTuple h1 h2
theorem isT_ok2 {cs : List Str} (ho : OwnOk K mg cs) {v : V} {d : D} {t : Ty} {b : Bool} (h : Top K mg S H v d) (e : isT cs t d = some b) : ∃ tv, TyZ K H v tv ∧ PySem.W.kitOne K tv (.type t.nm) = some b :=
  isT_ok ho h e fun ds z => by
    subst z
    obtain ⟨a, vs, rfl, h1, _⟩ := h.sqT
    exact ⟨a, rfl, sqT_ty h1⟩
end
theorem q_isi {cs : List Str} {t : Ty} : Quiet1 (dIsi cs t) := fun d => quiet_r fun _ => quiet_v
theorem se_isi {X : Cx} {C : FC} {e : Expr} {f : DE} {x : Str} {t : Ty} {cs : List Str} {pos p p2 : Pos} (ho : OwnOk X.K X.mg cs) (he : SE X C e f) (hm1 : X.mg "isinstance" = none) (hv1 : bootBuiltins "isinstance" = some (.builtin "isinstance")) (hm : X.mg x = none) (hv : bootBuiltins x = some (.type t.nm))
    (hg1 : Gl X "isinstance" := by rfl) (hg : Gl X x := by rfl) (hn : x ≠ "__name__" := by decide) (hdb : (x == ("__debug__" : Str)) = false := by decide)
    (hs : starEach [e, .Name x p2] X.env = (false, eval e X.env) :: starEach [.Name x p2] X.env := by rfl) (hs2 : starEach [.Name x p2] X.env = (false, eval (.Name x p2) X.env) :: starEach [] X.env := by rfl) (hpl : (backTo pos (starEach [.Name x p2] X.env)).any (·.1) = false := by rfl) :
    SE X C (.Call (.Name "isinstance" p) [e, .Name x p2] [] pos) (eUn (dIsi cs t) f) := by
  refine pe_imp (pe_callB call_isiZ hg1 hm1 hv1 (pa_cons he (pa_cons (pe_bltn (v := .ty t.nm) hg hm hv rfl hn hdb) pa_nil hs2) hs) (by decide) (by decide) hs hpl) ?_
  rintro σ H Q ⟨ρ, T, h, P⟩
  refine ⟨ρ, T, h, gv_dt h P fun d T' v H1 h1 e1 p P1 => ?_⟩
  obtain ⟨z, ez, P3⟩ := lift_ex (q_isi d) h1 (post_from h1 e1 P1)
  obtain ⟨b, eb, ez⟩ := o_ok ez
  cases ez
  obtain ⟨tv, ty, kt⟩ := isT_ok2 ho p.top eb
  exact ⟨v, .ty t.nm, tv, .type t.nm, b, rfl, .ty _, ty, kt, P3.pure (.bl b)⟩
/-! ## sorted -/
section
variable {K : PySem.W.Frag} {mg : Str → Option Value} {S : Addr → Prop} {H : Hp}
theorem Reps.zip : ∀ {vs : List V} {ds : List D}, Reps K mg S H vs ds → ∀ p ∈ vs.zip ds, Rep K mg S H p.1 p.2
  | _, _, .nil, p, h => nomatch h
  | _, _, .cons a t, p, h => by
    rcases List.mem_cons.mp h with e | h
    · rw [e]; exact a
    · exact t.zip p h
end
def srtd (ds : List D) : List D := ds.mergeSort (PySem.W.dataLe false py)
def SrtOk (ds : List D) : Prop := (∀ d ∈ ds, Pl 30 d) ∧ PySem.W.AllAlike (ds.map py) ∧ PySem.W.Sortable (ds.map py)
noncomputable def bSorted : List D → Rs VD
  | [.lst ds] => if SrtOk ds then .ok (.own (.lst (srtd ds))) else .stuck
  | _ => .stuck
end Pu
namespace Pu
open PySem L2
open Classical
/-! ## what a slot owns is changed -/
section
variable {K : PySem.W.Frag} {mg : Str → Option Value} {C : FC} {r : Env} {T : Tp} {σ : L2.St} {H H' : Hp} {i : Nat} {p : Addr} {d d' : D}
theorem ss_own (e : r[i]? = some (some (.own d))) (a : Addr) : SS C Z0 (r.set i (some (.own d'))) σ a ↔ SS C Z0 r σ a := by
  constructor
  · rintro (z | z | ⟨j, u, z1, z2⟩ | z)
    · exact .inl z
    · exact .inr (.inl z)
    · rcases set_at z1 with ⟨ej, q⟩ | ⟨ne, q⟩
      · subst ej
        exact .inr (.inr (.inl ⟨_, _, e, z2⟩))
      · exact .inr (.inr (.inl ⟨j, u, q, z2⟩))
    · exact z.elim
  · rintro (z | z | ⟨j, u, z1, z2⟩ | z)
    · exact .inl z
    · exact .inr (.inl z)
    · by_cases ej : j = i
      · subst ej
        exact .inr (.inr (.inl ⟨_, d', by rw [List.getElem?_set_self (lt_of_get z1)], z2⟩))
      · exact .inr (.inr (.inl ⟨j, u, by rw [List.getElem?_set_ne (Ne.symm ej)]; exact z1, z2⟩))
    · exact z.elim
theorem Holds.upd (h : Holds K mg C Z0 r T σ H) (e : r[i]? = some (some (.own d))) (es : σ[i]? = some (some (.ref p))) (k : ∀ a o, a ≠ p → H a = some o → H' a = some o) (o : OwnAt K mg (SS C Z0 r σ) H' p d') : Holds K mg C Z0 (r.set i (some (.own d'))) T σ H' := by
  obtain ⟨p', ep, _, g1, g2, _, g4⟩ := h.own i d e
  rw [es] at ep
  cases ep
  have sp : SS C Z0 r σ p := .inr (.inr (.inl ⟨i, d, e, es⟩))
  have kk : ∀ a o, H a = some o → ¬ SS C Z0 r σ a → H' a = some o := fun a o q s => k a o (fun z => s (by rw [z]; exact sp)) q
  have n1 : ∀ (H : Hp) a o, H a = some o → ¬ SS C Z0 r σ a → ¬ SS C Z0 (r.set i (some (.own d'))) σ a := fun _ a _ _ s z => s ((ss_own e a).mp z)
  have om := o.there
  have ke : ∀ a o, H a = some o → Mut (some o) → ∃ o', H' a = some o' ∧ Mut (some o') := fun a o q m => by
    by_cases z : a = p
    · rw [z]
      exact om
    · exact ⟨o, k a o z q, m⟩
  refine ⟨by rw [List.length_set]; exact h.len, fun a o q z => ?_, fun j u q => ?_, fun j u q => ?_, fun j l a u w q1 q2 q3 q4 => ?_, ?_, fun j q => ?_, fun a s => ?_, fun _ z => z.elim, fun q hq => (h.pin q hq).go kk (n1 H), h.tree.mk' kk (n1 H) (fun q a _ _ o e => k q o (fun z => g4 (by rw [← z]; exact a.1)) e) (fun j s d q => by
    rcases set_at q with ⟨_, q⟩ | ⟨ne, q⟩
    · cases q
    · exact ⟨q, rfl⟩) fun _ a b c => ⟨a, b, c⟩⟩
  · refine k a o (fun w => ?_) (h.frame a o q z)
    rw [w, g1] at q
    cases q
  · rcases set_at q with ⟨_, q⟩ | ⟨ne, q⟩
    · cases q
    · obtain ⟨v, e1, q1⟩ := h.val j u q
      exact ⟨v, e1, q1.go kk (n1 H)⟩
  · rcases set_at q with ⟨ej, q⟩ | ⟨ne, q⟩
    · cases q
      subst ej
      exact ⟨p, es, o.go (fun _ e => e) (fun _ _ e _ => e) (n1 H'), g1, g2, fun z => z, g4⟩
    · obtain ⟨v, e1, o2, w⟩ := h.own j u q
      refine ⟨v, e1, o2.go (fun o z => k v o (fun z2 => ?_) z) kk (n1 H), w⟩
      subst z2
      exact ne (h.inj j i v u d q e e1 es)
  · have q1' : ∃ u, r[j]? = some (some (.own u)) := by
      rcases set_at q1 with ⟨ej, q⟩ | ⟨ne, q⟩
      · subst ej
        exact ⟨_, e⟩
      · exact ⟨_, q⟩
    have q2' : ∃ u, r[l]? = some (some (.own u)) := by
      rcases set_at q2 with ⟨ej, q⟩ | ⟨ne, q⟩
      · subst ej
        exact ⟨_, e⟩
      · exact ⟨_, q⟩
    obtain ⟨_, q1'⟩ := q1'
    obtain ⟨_, q2'⟩ := q2'
    exact h.inj j l a _ _ q1' q2' q3 q4
  · have t := h.tape
    unfold TapeOk at t ⊢
    cases hc : C.tp with
    | none =>
      rw [hc] at t
      exact t
    | some u =>
      rw [hc] at t
      obtain ⟨t, e1, o2⟩ := t
      exact ⟨t, e1, o2.go (fun o z => k u o (fun z2 => g2 (by rw [← z2]; exact hc)) z) kk (n1 H)⟩
  · rcases set_at q with ⟨ej, q⟩ | ⟨ne, q⟩
    · cases q
    · exact h.tslot j q
  · obtain ⟨o1, q, m⟩ := h.st a s
    exact ke a o1 q m
end
/-! ## expressions that change what slots own -/
abbrev DEm := Env → Tp → Rs (D × Env × Tp)
def GM (K : PySem.W.Frag) (mg : Str → Option Value) (C : FC) (σ : L2.St) (Q : VK) : D × Env × Tp → Prop := fun q => ∀ v H', Holds K mg C Z0 q.2.1 q.2.2 σ H' → Rep K mg (SS C Z0 q.2.1 σ) H' v q.1 → Q v H'
def tM (K : PySem.W.Frag) (mg : Str → Option Value) (C : FC) (f : DEm) : TE := fun σ H Q => ∃ r T, Holds K mg C Z0 r T σ H ∧ PostG K mg C σ (GM K mg C σ Q) (f r T)
abbrev SM (X : Cx) (C : FC) (e : Expr) (f : DEm) : Prop := PE X e (tM X.K X.mg C f)
/-- a method that changes: by values -/
def MtD (K : PySem.W.Frag) (mg : Str → Option Value) (r : V → List V → Hp → VK → Prop) (mo : D → List D → Option (D × D)) : Prop :=
  ∀ (S : Addr → Prop) (H : Hp) (p : Addr) (d : D) (vs : List V) (ds : List D) (Q : VK) (d' z : D), S p → OwnAt K mg S H p d → Reps K mg S H vs ds → mo d ds = some (d', z) →
    (∀ v H', (∀ a o, a ≠ p → H a = some o → H' a = some o) → OwnAt K mg S H' p d' → Rep K mg S H' v z → Q v H') → r (.ref p) vs H Q
/-- what kind of thing -/
def isLst : D → Bool
  | .lst _ => true
  | _ => false
def isDct : D → Bool
  | .dct _ _ => true
  | _ => false
@[simp] theorem isLst_lst (ds : List D) : isLst (.lst ds) = true := rfl
@[simp] theorem isDct_dct (t : Bool) (ds : List (D × D)) : isDct (.dct t ds) = true := rfl
def KindOk (K : PySem.W.Frag) (mg : Str → Option Value) (T : String) (is : D → Bool) : Prop := ∀ S H p d, OwnAt K mg S H p d → is d = true → tyV K T (.ref p) H
theorem kind_lst {K : PySem.W.Frag} {mg : Str → Option Value} : KindOk K mg "list" isLst := fun S H p d o e => by
  cases o with
  | lst h z q => exact .inl ⟨rfl, _, .inl (.of h)⟩
  | dK h z g q => cases e
  | dT h z g q => cases e
  | ins h m g q => cases e
  | dcn => cases e
def eMut (i : Nat) (is : D → Bool) (mo : D → List D → Option (D × D)) (g : DA) : DEm := fun r T => match r[i]? with
  | some (some (.own d)) => if is d = true then (g r T).bind fun p => (rO (mo d p.1)).bind fun q => .ok (q.2, r.set i (some (.own q.1)), p.2) else .stuck
  | _ => .stuck
/-- .. of one argument that changes too -/
def eMutM (i : Nat) (is : D → Bool) (mo : D → List D → Option (D × D)) (f : DEm) : DEm := fun r T => match r[i]? with
  | some (some (.own d)) => if is d = true then (f r T).bind fun p => (match p.2.1[i]? with
    | some (some (.own d2)) => (rO (mo d2 [p.1])).bind fun q => .ok (q.2, p.2.1.set i (some (.own q.1)), p.2.2)
    | _ => .stuck) else .stuck
  | _ => .stuck
theorem rO_ex {A B : Type} {K : PySem.W.Frag} {mg : Str → Option Value} {C : FC} {σ : L2.St} {G : B → Prop} {o : Option A} {g : A → Rs B} (h : PostG K mg C σ G ((rO o).bind g)) : ∃ a, o = some a ∧ PostG K mg C σ G (g a) := by
  cases o with
  | none => exact (show False from h).elim
  | some a => exact ⟨a, rfl, h⟩
theorem own_ex {B : Type} {K : PySem.W.Frag} {mg : Str → Option Value} {C : FC} {σ : L2.St} {G : B → Prop} {o : Option (Option VD)} {g : D → Rs B} (h : PostG K mg C σ G (match o with
    | some (some (.own d)) => g d
    | _ => .stuck)) : ∃ d, o = some (some (.own d)) ∧ PostG K mg C σ G (g d) := by
  cases o with
  | none => exact (show False from h).elim
  | some w =>
    cases w with
    | none => exact (show False from h).elim
    | some w =>
      cases w with
      | own d => exact ⟨d, rfl, h⟩
      | _ => exact (show False from h).elim
section
variable {X : Cx} {C : FC} {e : Expr} {es : List Expr} {x : Str} {g : DA} {is : D → Bool} {mo : D → List D → Option (D × D)} {r : V → List V → Hp → VK → Prop} {T id : String} {name : Str} {apos cpos p : Pos} {f : DEm}
theorem mut_end {K : PySem.W.Frag} {mg : Str → Option Value} {C : FC} {ρ : Env} {T : Tp} {σ : L2.St} {H : Hp} {i : Nat} {q : Addr} {d : D} {vs : List V} {Q : VK} (h1 : Holds K mg C Z0 ρ T σ H) (ei : ρ[i]? = some (some (.own d))) (es : σ[i]? = some (some (.ref q)))
    {d' z : D} (P3 : GM K mg C σ Q (z, ρ.set i (some (.own d')), T)) : ∀ v H', (∀ a o, a ≠ q → H a = some o → H' a = some o) → OwnAt K mg (SS C Z0 ρ σ) H' q d' → Rep K mg (SS C Z0 ρ σ) H' v z → Q v H' := fun v H' k o p =>
  P3 v H' (h1.upd ei es k o) (p.go (fun _ _ e _ => e) fun a _ _ s w => s ((ss_own ei a).mp w))
theorem se_mut (i : Nat) (hk : KindOk X.K X.mg T is) (hd : MtD X.K X.mg r mo) (pa : PlainAttrs T) (slot : Slot T name id) (hty : typeOf (.builtin id) = pure (.type "method_descriptor")) (hm : MtR X id r) (ha : SA X C (e :: es) g)
    (hN : X.N[i]? = some x := by rfl) (hv : Vis X.env.scope x := by first | exact Or.inl rfl | exact Or.inr (Or.inl rfl) | exact Or.inr (Or.inr rfl)) (hdb : (x == ("__debug__" : Str)) = false := by decide) (hcd : (x == ("__classdict__" : Str)) = false := by decide)
    (hbase : attributeBase (.Name x p) name X.env (eval (.Name x p) X.env) = eval (.Name x p) X.env := by rfl)
    (hfew : ((backTo cpos (starEach (e :: es) X.env)).all (fun x => !x.1) && (backToKw cpos (keywordEach [] X.env)).all (fun x => x.1.isSome)
      && decide ((e :: es).length + ([] : List Keyword).length + (if ([] : List Keyword).isEmpty then 0 else 1) < 30)) = true := by rfl)
    (hline : (apos.endLine == cpos.line) = true := by rfl) (hs : starEach (e :: es) X.env = (false, eval e X.env) :: starEach es X.env := by rfl) (hplain : (backTo cpos (starEach es X.env)).any (·.1) = false := by rfl) :
    SM X C (.Call (.Attribute (.Name x p) name apos) (e :: es) [] cpos) (eMut i is mo g) := by
  refine pe_imp (pe_bm pa slot hty hm (pe_var hN hv hdb hcd) ha hbase hfew hline hs hplain) ?_
  rintro σ H Q ⟨ρ, T, h, P⟩
  unfold eMut at P
  obtain ⟨d, ei, P⟩ := own_ex P
  obtain ⟨hi, P⟩ := postG_if P
  obtain ⟨q, es, o, _⟩ := h.own i d ei
  refine ⟨_, es, hk _ _ _ _ o hi, ρ, T, h, ga_bind P fun ds T' vs H1 h1 e1 p1 P1 => ?_⟩
  obtain ⟨⟨d', z⟩, em, P2⟩ := rO_ex P1
  obtain ⟨q', es', o1, _⟩ := h1.own i d ei
  rw [es] at es'
  cases es'
  exact hd _ H1 q d vs ds Q d' z (.inr (.inr (.inl ⟨i, d, ei, es⟩))) o1 p1 em (mut_end (vs := vs) h1 ei es P2)
end
/-! ## statements of such -/
def sDropM (f : DEm) : DS := fun r T => (f r T).bind fun p => .ok (.nx p.2.1, p.2.2)
def sAsgM (i : Nat) (f : DEm) : DS := fun r T => (f r T).bind fun p => .ok (.nx (p.2.1.set i (some (.val p.1))), p.2.2)
def sAsgMG (g : DG) (f : DEm) : DS := fun r T => (f r T).bind fun p => (rO (g p.1)).bind fun m => .ok (.nx (setE p.2.1 m), p.2.2)
def sRetM (f : DEm) : DS := fun r T => (f r T).bind fun p => .ok (.rt (.val p.1), p.2.2)
/-- a, b = e -/
def sAsgG (g : DG) (f : DE) : DS := fun r T => (dv (f r T)).bind fun p => (rO (g p.1)).bind fun m => .ok (.nx (setE r m), p.2)
section
variable {X : Cx} {C : FC} {e tg : Expr} {f : DEm} {fe : DE} {g : DG} {pos : Pos}
theorem ss_exprM (he : ∀ Y, SM X (C.plus Y) e f) (hs : swapsWith e none pos.line X.env = pure false := by rfl) : SSt X C (.Expr e pos) (sDropM f) := by
  refine ps_imp (ps_expr (pe_ex he) hs) ?_
  rintro D σ H ⟨ρ, T, ⟨Y, h, hY⟩, P⟩
  exact ⟨Y, ρ, T, h, (PostS.at hY P.bind).imp fun p P v H' h' _ => P σ H' ⟨Y, h', hY⟩⟩
end
/-! ## x[i] = e -/
def PStD (K : PySem.W.Frag) (mg : Str → Option Value) (t : TSet) (so : D → D → D → Option D) : Prop :=
  ∀ (S : Addr → Prop) (H : Hp) (p : Addr) (d : D) (i v : V) (di dx : D) (Q : Hp → Prop) (d' : D), S p → OwnAt K mg S H p d → Top K mg S H i di → Rep K mg S H v dx → so d di dx = some d' →
    (∀ H', (∀ a o, a ≠ p → H a = some o → H' a = some o) → OwnAt K mg S H' p d' → Q H') → t (.ref p) i v H Q
def sSetI (i : Nat) (so : D → D → D → Option D) (fi fe : DE) : DS := fun r T => (dv (fe r T)).bind fun p => match r[i]? with
  | some (some (.own d)) => (dt (fi r p.2)).bind fun q => (rO (so d q.1 p.1)).bind fun d' => .ok (.nx (r.set i (some (.own d'))), q.2)
  | _ => .stuck
section
variable {X : Cx} {C : FC} {e ei : Expr} {fi fe : DE} {pos p1 p2 : Pos} {x : Str} {t : TSet} {so : D → D → D → Option D}
theorem ss_setI (i : Nat) (ht : PSet X t) (hd : PStD X.K X.mg t so) (he : ∀ Y, SE X (C.plus Y) e fe) (hi : ∀ Y, SE X (C.plus Y) ei fi)
    (hN : X.N[i]? = some x := by rfl) (hv : Vis X.env.scope x := by first | exact Or.inl rfl | exact Or.inr (Or.inl rfl) | exact Or.inr (Or.inr rfl)) (hdb : (x == ("__debug__" : Str)) = false := by decide) (hcd : (x == ("__classdict__" : Str)) = false := by decide)
    (ha : ∀ v, assign (.Subscript (.Name x p1) ei p2) X.env v = (do
      let ov ← holding [v] (eval (.Name x p1) X.env)
      let iv ← holding [v, ov] (eval ei X.env)
      standAt p2
      holding [v, ov, iv] (setItem ov iv v)
      release [v, ov, iv] []) := by intro _; rfl)
    (hs : swapsWithSole [.Subscript (.Name x p1) ei p2] e pos.line X.env = pure false := by rfl) (hw : swappedStores [.Subscript (.Name x p1) ei p2] e X.env = pure none := by rfl)
    (h1 : (assignEach [.Subscript (.Name x p1) ei p2] X.env).map (·.2) = [assign (.Subscript (.Name x p1) ei p2) X.env] := by rfl) : SSt X C (.Assign [.Subscript (.Name x p1) ei p2] e pos) (sSetI i so fi fe) := by
  refine ps_imp (ps_asg (pe_ex he) (pg_sub (pe_var hN hv hdb hcd) (pe_ex hi) ht ha) hs hw h1) ?_
  rintro D σ H ⟨ρ, T, ⟨Y, h, hY⟩, P⟩
  refine ⟨Y, ρ, T, h, gs_dv h (PostS.at (σ := σ) hY P.bind) fun d T' v H' h' e1 q P => ?_⟩
  have P := PostS.at (σ := σ) hY P
  obtain ⟨d0, ei, P⟩ := own_ex P
  obtain ⟨p, es, o, _⟩ := h'.own i d0 ei
  refine ⟨_, es, Y, ρ, T', h', gv_dt h' P fun di T2 vi H2 h2 e2 qi P2 => ?_⟩
  obtain ⟨d', em, P3⟩ := rO_ex P2
  obtain ⟨p', es', o2, _⟩ := h2.own i d0 ei
  rw [es] at es'
  cases es'
  exact hd _ H2 p d0 vi v di d _ d' (.inr (.inr (.inl ⟨i, d0, ei, es⟩))) o2 qi.top (q.ext e2) em fun H3 k o3 => (show ∀ σ' H', HoldsY X.K X.mg C (ρ.set i (some (.own d'))) T2 σ' H' → D.nx σ' H' from P3) σ H3 ⟨Y, h2.upd ei es k o3, hY⟩
end
/-- xs[i] = v of a list -/
def setL : D → D → D → Option D
  | .lst ds, .int k, v => (ixN ds.length k).map fun j => .lst (ds.set j v)
  | _, _, _ => none
theorem OwnAt.lstInv {K : PySem.W.Frag} {mg : Str → Option Value} {S : Addr → Prop} {H : Hp} {p : Addr} {ds : List D} (h : OwnAt K mg S H p (.lst ds)) : ∃ vs, H p = some (.lst vs) ∧ vs.length ≤ sizeLine ∧ Reps K mg S H vs ds := by
  cases h with
  | lst e z q => exact ⟨_, e, z, q⟩
theorem Reps.upd {K : PySem.W.Frag} {mg : Str → Option Value} {S : Addr → Prop} {H : Hp} {p : Addr} {u : HO} {vs : List V} {ds : List D} (hp : S p) (q : Reps K mg S H vs ds) : Reps K mg S (upd H p u) vs ds :=
  q.go (fun a o e s => by rw [upd_ne (fun z => s (by rw [z]; exact hp))]; exact e) fun _ _ _ s => s
theorem Rep.upd {K : PySem.W.Frag} {mg : Str → Option Value} {S : Addr → Prop} {H : Hp} {p : Addr} {u : HO} {v : V} {d : D} (hp : S p) (q : Rep K mg S H v d) : Rep K mg S (upd H p u) v d :=
  q.go (fun a o e s => by rw [upd_ne (fun z => s (by rw [z]; exact hp))]; exact e) fun _ _ _ s => s
theorem upd_else {H : Hp} {p : Addr} {u : HO} : ∀ a o, a ≠ p → H a = some o → upd H p u a = some o := fun a o n e => by
  rw [upd_ne n]
  exact e
theorem d_setL {K : PySem.W.Frag} {mg : Str → Option Value} : PStD K mg rSetL setL := fun S H p d i v di dx Q d' hp o ti rv e k => by
  unfold setL at e
  split at e
  · rename_i ds j
    cases ej : ixN ds.length j with
    | none => rw [ej] at e; cases e
    | some n =>
      rw [ej] at e
      cases e
      obtain ⟨vs, h1, z, q⟩ := o.lstInv
      refine ⟨p, vs, j, n, rfl, ti.int, h1, by rw [q.len]; exact ej, k _ upd_else (.lst upd_same (by rw [List.length_set]; exact z) ?_)⟩
      exact (q.upd hp).set (rv.upd hp) n
  · cases e
/-! ## methods of lists -/
def mAppend : D → List D → Option (D × D)
  | .lst ds, [x] => if ds.length < 16000000 then some (.lst (ds ++ [x]), .non) else none
  | _, _ => none
theorem ifo {A : Type} {p : Prop} [Decidable p] {x z : A} (h : (if p then some x else none) = some z) : p ∧ x = z := by
  by_cases c : p
  · rw [if_pos c] at h
    cases h
    exact ⟨c, rfl⟩
  · rw [if_neg c] at h
    cases h
theorem m_append {K : PySem.W.Frag} {mg : Str → Option Value} : MtD K mg rAppend mAppend := fun S H p d vs ds Q d' z hp o ra e k => by
  unfold mAppend at e
  split at e
  · obtain ⟨c, e⟩ := ifo e
    cases e
    obtain ⟨ws, h1, z1, q⟩ := o.lstInv
    cases ra with
    | cons r1 r2 =>
      cases r2
      have hl := q.len
      refine ⟨p, ws, _, rfl, rfl, h1, by rw [sizeLine_eq]; omega, k _ _ upd_else (.lst upd_same ?_ ?_) .non⟩
      · rw [List.length_append, List.length_singleton, sizeLine_eq]
        omega
      · exact (q.upd hp).app (.cons (r1.upd hp) .nil)
  · cases e
def mExtend : D → List D → Option (D × D)
  | .lst ds, [.lst xs] => if ds.length + xs.length ≤ 16000000 then some (.lst (ds ++ xs), .non) else none
  | _, _ => none
def mPop : D → List D → Option (D × D)
  | .lst ds, [] => (ds[ds.length - 1]?).map fun x => (.lst ds.dropLast, x)
  | .lst ds, [.int i] => (ixN ds.length i).bind fun j => (ds[j]?).map fun x => (.lst (ds.eraseIdx j), x)
  | _, _ => none
theorem Reps.dropLast {K : PySem.W.Frag} {mg : Str → Option Value} {S : Addr → Prop} {H : Hp} {vs : List V} {ds : List D} (q : Reps K mg S H vs ds) : Reps K mg S H vs.dropLast ds.dropLast := by
  rw [List.dropLast_eq_take, List.dropLast_eq_take, q.len]
  exact q.take _
def mInsert : D → List D → Option (D × D)
  | .lst ds, [.int i, x] => if ds.length < 16000000 ∧ 0 ≤ i ∧ i < 2 ^ 63 then some (.lst (ds.take i.toNat ++ [x] ++ ds.drop i.toNat), .non) else none
  | _, _ => none
def rInsert : V → List V → Hp → VK → Prop := fun x vs H Q => ∃ (l : Addr) (xs : List V) (i : Int) (y : V), x = .ref l ∧ vs = [.int i, y] ∧ H l = some (.lst xs) ∧ xs.length < sizeLine ∧ 0 ≤ i ∧ i < 2 ^ 63 ∧
    Q .non (upd H l (.lst (xs.take i.toNat ++ [y] ++ xs.drop i.toNat)))
theorem m_insert {K : PySem.W.Frag} {mg : Str → Option Value} : MtD K mg rInsert mInsert := fun S H p d vs ds Q d' z hp o ra e k => by
  unfold mInsert at e
  split at e
  · obtain ⟨⟨c1, c2, c3⟩, e⟩ := ifo e
    cases e
    obtain ⟨ws, h1, z1, q⟩ := o.lstInv
    cases ra with
    | cons r1 r2 =>
      cases r1
      cases r2 with
      | cons r2 r3 =>
        cases r3
        have hl := q.len
        refine ⟨p, ws, _, _, rfl, rfl, h1, by rw [sizeLine_eq]; omega, c2, c3, k _ _ upd_else (.lst upd_same ?_ ?_) .non⟩
        · rw [List.length_append, List.length_append, List.length_take, List.length_drop, List.length_singleton, sizeLine_eq]
          omega
        · exact (((q.take _).upd hp).app (.cons (r2.upd hp) .nil)).app ((q.drop _).upd hp)
  · cases e
def mReverse : D → List D → Option (D × D)
  | .lst ds, [] => some (.lst ds.reverse, .non)
  | _, _ => none
end Pu
namespace Pu
open PySem L2
open Classical
/-! ## the tape, where it is read -/
/-- tape[k], k known -/
def eTix (i k : Nat) : DE := fun r T => match r[i]? with
  | some (some .tape) => (match T with
    | some (.lst ds) => (rO ds[k]?).bind fun d => .ok (.val d, T)
    | _ => .stuck)
  | _ => .stuck
/-- tape[k] = e -/
def sTset (i k : Nat) (f : DE) : DS := fun r T => match r[i]? with
  | some (some .tape) => (dv (f r T)).bind fun p => (match p.2 with
    | some (.lst ds) => if k < ds.length then .ok (.nx r, some (.lst (ds.set k p.1))) else .stuck
    | _ => .stuck)
  | _ => .stuck
theorem tape_ex {B : Type} {K : PySem.W.Frag} {mg : Str → Option Value} {C : FC} {σ : L2.St} {G : B → Prop} {o : Option (Option VD)} {g : Rs B} (h : PostG K mg C σ G (match o with
    | some (some .tape) => g
    | _ => .stuck)) : o = some (some .tape) ∧ PostG K mg C σ G g := by
  cases o with
  | none => exact (show False from h).elim
  | some w =>
    cases w with
    | none => exact (show False from h).elim
    | some w =>
      cases w with
      | tape => exact ⟨rfl, h⟩
      | _ => exact (show False from h).elim
theorem lst_ex {B : Type} {K : PySem.W.Frag} {mg : Str → Option Value} {C : FC} {σ : L2.St} {G : B → Prop} {T : Tp} {g : List D → Rs B} (h : PostG K mg C σ G (match T with
    | some (.lst ds) => g ds
    | _ => .stuck)) : ∃ ds, T = some (.lst ds) ∧ PostG K mg C σ G (g ds) := by
  cases T with
  | none => exact (show False from h).elim
  | some d =>
    cases d with
    | lst ds => exact ⟨ds, rfl, h⟩
    | _ => exact (show False from h).elim
theorem atI_nat {A : Type} {xs : List A} {k : Nat} {x : A} (h : xs[k]? = some x) : L2.atI xs (k : Int) = some x := by
  have hk := lt_of_get h
  unfold L2.atI
  have e : ixN xs.length (k : Int) = some k := by
    unfold ixN
    rw [if_pos (by omega), if_pos (by omega)]
    rfl
  rw [e]
  exact h
theorem ixN_nat {n k : Nat} (h : k < n) : ixN n (k : Int) = some k := by
  unfold ixN
  rw [if_pos (by omega), if_pos (by omega)]
  rfl
section
variable {X : Cx} {C : FC} {x : Str} {f : DE} {e : Expr} {p p1 p2 pos : Pos} {j : Nat}
theorem tape_at {K : PySem.W.Frag} {mg : Str → Option Value} {ρ : Env} {T : Tp} {σ : L2.St} {H : Hp} {i : Nat} (h : Holds K mg C Z0 ρ T σ H) (e : ρ[i]? = some (some .tape)) : ∃ q t, C.tp = some q ∧ σ[i]? = some (some (.ref q)) ∧ T = some t ∧ CelAt K mg (SS C Z0 ρ σ) H q t := by
  obtain ⟨q, hc, es⟩ := h.tslot i e
  have t := h.tape
  unfold TapeOk at t
  rw [hc] at t
  obtain ⟨t, e1, o⟩ := t
  exact ⟨q, t, hc, es, e1, o⟩
theorem se_tix (i k : Nat) {ki : Int} (hk : ki = (k : Int) := by rfl) (hN : X.N[i]? = some x := by rfl) (hv : Vis X.env.scope x := by first | exact Or.inl rfl | exact Or.inr (Or.inl rfl) | exact Or.inr (Or.inr rfl)) (hdb : (x == ("__debug__" : Str)) = false := by decide) (hcd : (x == ("__classdict__" : Str)) = false := by decide)
    (hs : PlainIx (.Constant (.int ki) j p1) := by intro _ _; rfl) : SE X C (.Subscript (.Name x p) (.Constant (.int ki) j p1) pos) (eTix i k) := by
  subst hk
  refine pe_imp (pe_ix ix_seq (pe_var hN hv hdb hcd) pe_int hs) ?_
  rintro σ H Q ⟨ρ, T, h, P⟩
  unfold eTix at P
  obtain ⟨ei, P⟩ := tape_ex P
  obtain ⟨q, t, hc, es, eT, o⟩ := tape_at h ei
  obtain ⟨ds, eT2, P⟩ := lst_ex P
  obtain ⟨d, ed, P⟩ := rO_ex P
  rw [eT] at eT2
  cases eT2
  obtain ⟨vs, h1, z, rp⟩ := (o.own nofun).lstInv
  obtain ⟨v, ev, pv⟩ := rp.getD ed
  exact ⟨_, es, .inl ⟨q, vs, k, v, rfl, rfl, .inl (.of h1), atI_nat ev, P v H h Ext.refl pv⟩⟩
theorem ss_tset (i k : Nat) {ki : Int} (he : ∀ Y, SE X (C.plus Y) e f) (hk : ki = (k : Int) := by rfl) (hN : X.N[i]? = some x := by rfl) (hv : Vis X.env.scope x := by first | exact Or.inl rfl | exact Or.inr (Or.inl rfl) | exact Or.inr (Or.inr rfl)) (hdb : (x == ("__debug__" : Str)) = false := by decide) (hcd : (x == ("__classdict__" : Str)) = false := by decide)
    (ha : ∀ v, assign (.Subscript (.Name x p1) (.Constant (.int ki) j p) p2) X.env v = (do
      let ov ← holding [v] (eval (.Name x p1) X.env)
      let iv ← holding [v, ov] (eval (.Constant (.int ki) j p) X.env)
      standAt p2
      holding [v, ov, iv] (setItem ov iv v)
      release [v, ov, iv] []) := by intro _; rfl)
    (hs : swapsWithSole [.Subscript (.Name x p1) (.Constant (.int ki) j p) p2] e pos.line X.env = pure false := by rfl) (hw : swappedStores [.Subscript (.Name x p1) (.Constant (.int ki) j p) p2] e X.env = pure none := by rfl)
    (h1 : (assignEach [.Subscript (.Name x p1) (.Constant (.int ki) j p) p2] X.env).map (·.2) = [assign (.Subscript (.Name x p1) (.Constant (.int ki) j p) p2) X.env] := by rfl) : SSt X C (.Assign [.Subscript (.Name x p1) (.Constant (.int ki) j p) p2] e pos) (sTset i k f) := by
  subst hk
  refine ps_imp (ps_asg (pe_ex he) (pg_sub (pe_var hN hv hdb hcd) pe_int set_list ha) hs hw h1) ?_
  rintro D σ H ⟨ρ, T, ⟨Y, h, hY⟩, P⟩
  have P := PostS.at (σ := σ) hY P
  unfold sTset at P
  obtain ⟨ei, P⟩ := tape_ex P
  refine ⟨Y, ρ, T, h, gv_dv h P fun d T' v H' h' e1 q P => ?_⟩
  obtain ⟨ds, eT2, P⟩ := lst_ex P
  obtain ⟨hk, P⟩ := postG_if P
  obtain ⟨a, t, hc, es, eT, o⟩ := tape_at h' ei
  rw [eT] at eT2
  cases eT2
  obtain ⟨vs, h2, z, rp⟩ := (o.own nofun).lstInv
  have hc : C.tp = some a := hc
  have hp : SS (C.plus Y) Z0 ρ σ a := .inr (.inl hc)
  refine ⟨_, es, a, vs, (k : Int), k, rfl, rfl, h2, by rw [rp.len]; exact ixN_nat hk, ?_⟩
  refine (show ∀ σ' H', HoldsY X.K X.mg C ρ (some (.lst (ds.set k d))) σ' H' → D.nx σ' H' from P) σ _ ⟨Y, h'.move (fun b o e n => ?_) ss_same (fun _ _ _ _ _ z => z) ?_ (fun _ z => z.elim), hY⟩
  · rw [upd_ne (fun z => n (by rw [z]; exact hc))]
    exact e
  · show TapeOk X.K X.mg _ C.tp _ _
    unfold TapeOk
    rw [hc]
    exact ⟨_, rfl, .inl <| .lst upd_same (by rw [List.length_set]; exact z) ((rp.upd hp).set (q.upd hp) k)⟩
end
end Pu
namespace PySem
open Sem (wp)
set_option maxHeartbeats 1000000 in
theorem pu_enum_new {v : Value} {o : Obj} {H : Heap → Prop} (B : Begins v o H) :
    Meets (Builtin.«enumerate.__new__» ⟨[.type "enumerate", v], []⟩) (fun _ R s => H s.heap ∧
      R (.ok (.ret (.ref (s.heap.push o).objs.size))) { s with heap := (s.heap.push o).push { cls := .type "enumerate", data := .fields #[.none, .bool false, .ref s.heap.objs.size, rawInt 0, .none, .none] } }) :=
  .of_wp fun prog w A R s h => by
    obtain ⟨hp, g, d, tk, os⟩ := s; obtain ⟨h1, h⟩ := h
    have hsub := sub_enumerate
    have q1 : ∀ {A' : Around} {E : Value → Shared → Prop} {Q : Value → Shared → Prop}, Q (.ref hp.objs.size) ⟨hp.push o, g, d, tk, os⟩ → wpAny (model prog w) A' (pyIter v) Q E ⟨hp, g, d, tk, os⟩ :=
      fun q => B.iter prog w _ _ ⟨hp, g, d, tk, os⟩ _ h1 q
    wp_walk using q1
    refine wpAny_stack_any fun st => wpAny_pure ?_
    split
    · rename_i c _ _ _ _ _
      cases (c == Value.type "enumerate")
      · wp_walk using q1
        exact ⟨_, rfl, h⟩
      · wp_walk using q1
        exact ⟨_, rfl, h⟩
    · wp_walk using q1
      exact ⟨_, rfl, h⟩
theorem pu_enum {prog : Program} {w : World} {A : Around} {E : Value → Shared → Prop} {s : Shared} {v : Value} {o : Obj} {H : Heap → Prop} {Q : Value → Shared → Prop} (B : Begins v o H) (h1 : H s.heap)
    (h : ∀ h', IsEnum h' (s.heap.objs.size + 1) s.heap.objs.size 0 .none → h'.get? s.heap.objs.size = some o → h'.objs.size = s.heap.objs.size + 2 →
      (∀ b o, s.heap.get? b = some o → h'.get? b = some o) → Q (.ref (s.heap.objs.size + 1)) { s with heap := h' }) :
    wpAny (model prog w) A (call (.type "enumerate") [v]) Q E s := by
  refine callType_new F.called_enumerate (by decide) (F.typeCall_enumerate_1 _) (F.newCall_enumerate_1 _) (fun obj => F.args_object_init_2 obj _) F.entry_enumerate_new (pu_enum_new B) ⟨h1, ?_⟩
  have hz : (s.heap.push o).objs.size = s.heap.objs.size + 1 := Heap.size_push ..
  show _ ∧ _
  rw [hz]
  have he : IsEnum ((s.heap.push o).push { cls := .type "enumerate", data := .fields #[.none, .bool false, .ref s.heap.objs.size, rawInt 0, .none, .none] }) (s.heap.objs.size + 1) s.heap.objs.size 0 .none := by
    have := Heap.get?_push_size (s.heap.push o) (o := { cls := .type "enumerate", data := .fields #[.none, .bool false, .ref s.heap.objs.size, rawInt 0, .none, .none] }) rfl
    rw [hz] at this; exact this
  refine ⟨⟨_, he, rfl⟩, h _ he (Heap.get?_push_of_some _ (Heap.get?_push_size _ B.free)) (by rw [Heap.size_push, hz]) fun b o x => Heap.get?_push_of_some _ (Heap.get?_push_of_some _ x)⟩
end PySem
namespace Pu
open PySem L2
open Classical
def IteT (K : PySem.W.Frag) (a : Addr) : It :=
  ⟨fun i H => ∃ (xs : List V) (x : V), SqT K H a xs ∧ xs[i]? = some x, fun i H v H' => ∃ T x, v = .ref T ∧ H T = none ∧ H' = upd H T (.tup [.int (i : Nat), x]) ∧ ∀ xs, SqT K H a xs → xs[i]? = some x, fun i H => ∃ xs : List V, SqT K H a xs ∧ xs.length ≤ i⟩
theorem turn_enumT {P : Program} {w : World} {K : PySem.W.Frag} {elts : List Expr} {kk : Nat} {tpos : Pos} (a e it : Addr) (hne : a ≠ it) :
    Turn P w K (.Tuple elts kk tpos) (IteT K a) [e, it] e (fun i h => (∃ old, IsEnum h e it ((i : Nat) : Int) old) ∧ h.IsTupleIter it a i ∧ e ≠ it ∧ e ≠ a) where
  mem := by simp
  obj := fun i h st b hb => by
    obtain ⟨⟨old, he⟩, ⟨o, ho, hc, hd⟩, _⟩ := st
    have e' : b = e ∨ b = it := by simpa using hb
    rcases e' with z | z
    · rw [z]; exact ⟨_, he, fun v q => nomatch q⟩
    · rw [z]; exact ⟨o, ho, fun v q => by rw [hd] at q; cases q⟩
  keep := fun i h h' st k => let ⟨⟨old, he⟩, hi, hn⟩ := st; ⟨⟨old, k e (by simp) _ he⟩, hi.at fun o q => k it (by simp) o q, hn⟩
  item := by
    intro X hP hw hK hc i pins s σ H E I hf st hg
    subst hP hw hK
    obtain ⟨⟨old, he⟩, hit, hn, hea⟩ := st
    obtain ⟨xs, x, hq, hx⟩ := hg
    obtain ⟨its, rv, p, hz⟩ := I.tuple hq
    obtain ⟨u, hu, ru⟩ := rv.get hx
    have hel : e < s.heap.objs.size := Heap.lt_size he
    have hil : it < s.heap.objs.size := by obtain ⟨_, q, _⟩ := hit; exact Heap.lt_size q
    have hlt : i < its.toArray.size := by
      have := lt_of_get hu
      simpa using this
    refine wpAny_pyNext_enum_itemD (Draws.tuple (A := X.A.in1) (I.ok.hd hc) it a hne its.toArray) he ⟨hit, p⟩ hlt hn (by simp [hn, hea]) fun y h' tk hy ho hst' hT hsz hk => ?_
    obtain ⟨hit', _⟩ := hst'
    have hy' : its[i]? = some y := by simpa using hy
    rw [hu] at hy'
    cases hy'
    refine ⟨_, rfl, wpAny_letOwnedTupleGo_enum (s := { s with heap := h', toks := tk + 1 }) ho fun h'' he' sb => ?_⟩
    have hT2 : h''.get? s.heap.objs.size = some { cls := .type "tuple", data := .seq #[.int i tk, u] } := (sb.2 _ (Nat.ne_of_gt hel)).trans hT
    have new : ObjOk X.prog X.w (upd H s.heap.objs.size (.tup [.int (i : Nat), x])) h'' s.heap.objs.size (.tup [.int (i : Nat), x]) :=
      ⟨by show 2 ≤ sizeLine; decide, [.int i tk, u], .cons ⟨_, rfl⟩ (.cons ru .nil), ⟨_, hT2, rfl, _, rfl⟩⟩
    have I1 : Inv X pins σ (upd H s.heap.objs.size (.tup [.int (i : Nat), x])) { s with heap := h'', toks := tk + 1 } :=
      I.turnedNew (ch := [e, it]) (fun b ob hb q => (sb.2 b (fun z => hb (by simp [z]))).trans (hk b ob (fun z => hb (by simp [z])) (fun z => hb (by simp [z])) q)) hf (Nat.le_refl _) new
    refine ⟨.ref s.heap.objs.size, _, I1, rfl, ⟨_, x, rfl, I.hok.fresh (Nat.le_refl _), rfl, fun ys hy => by rw [I.tuple_inj hy hq]; exact hx⟩, ⟨⟨u, ?_⟩, hit'.at fun o q => (sb.2 it (Ne.symm hn)).trans q, hn, hea⟩, fun b hb => ?_⟩
    · have e1 : ((i + 1 : Nat) : Int) = (i : Int) + 1 := by omega
      rw [e1]; exact he'
    · have hb' : b < s.heap.objs.size := by
        have e' : b = e ∨ b = it := by simpa using hb
        rcases e' with z | z
        · rw [z]; exact hel
        · rw [z]; exact hil
      rw [upd_ne (Nat.ne_of_lt hb')]
      exact (hf b hb).1
  done := by
    intro X hP hw hK hc i pins s σ H E I hf st hg
    subst hP hw hK
    obtain ⟨⟨old, he⟩, hit, hn, hea⟩ := st
    obtain ⟨xs, hq, hx⟩ := hg
    obtain ⟨its, rv, p, hz⟩ := I.tuple hq
    obtain ⟨f0, f1, f2, f3, f4, f5⟩ := hf it (by simp)
    have hl := rv.length
    refine wpAny_pyNext_enum_endD (n := i) (St := fun j h => j = i ∧ h.IsTupleIter it a j ∧ h.IsTuple a its.toArray) (fp := [it, a]) (P := fun i v => its.toArray[i]? = some v) ?_ he ⟨rfl, hit, p⟩ fun h' eb => ⟨rfl, I.turned (t' := s.toks) (fun b o hb q => eb b o hb q) f0 f1 f3 f4 f5⟩
    have D := Draws.tuple (prog := X.prog) (w := X.w) (A := X.A.in1) (I.ok.hd hc) it a hne its.toArray
    refine ⟨fun j h st => D.live j h st.2, fun j h h' st k => ⟨st.1, D.frame j h h' st.2 k⟩, fun j s Q E hj st hQ => absurd hj (by rw [st.1]; exact Nat.lt_irrefl _), fun s Q E st hE => wpAny_nextOf_tuple_end (I.ok.hd hc) st.2.1 st.2.2 (by simp; omega) hE⟩
  self := fun A i s Q E st h => let ⟨⟨_, he⟩, _⟩ := st; wpAny_pyIter_enum he h
def iEnumT (K : PySem.W.Frag) (ta : TA) : TI := fun σ H R => ta σ H fun vs H1 => ∃ a xs, vs = [.ref a] ∧ SqT K H1 a xs ∧ R (IteT K a) H1
theorem pi_enumT {X : Cx} {e : Expr} {ta : TA} {p pos tpos : Pos} {elts : List Expr} {kk : Nat} (hg : Gl X "enumerate") (hm : X.mg "enumerate" = none) (ha : PA X [e] ta) (hs : starEach [e] X.env = [(false, eval e X.env)] := by rfl) :
    PI X (.Tuple elts kk tpos) (.Call (.Name "enumerate" p) [e] [] pos) (iEnumT X.K ta) := by
  refine ⟨fun pins s σ H R I h => ?_⟩
  refine PyProof.Rows.Call_ (ld_blt I hg hm PyProof.Rows.boot_enumerate (PyProof.Rows.callWith_type1 (thn (ha.run pos pins s σ H _ I h) fun us s1 ⟨vs, H1, I1, r1, q1⟩ => ?_) hs rfl))
  obtain ⟨a, xs, ex, hq, q⟩ := q1
  subst ex
  cases r1 with
  | cons r rr =>
    cases rr
    cases r
    obtain ⟨its, rv, p', hz⟩ := I1.tuple hq
    refine pu_enum (begins_tuple a its.toArray) p' fun h' he hit hsz hk => wpAny_pyIter_enum he ?_
    have I2 : Inv X pins σ H1 { s1 with heap := h' } := I1.kept (t' := s1.toks) hk
    have hal : a < s1.heap.objs.size := by obtain ⟨_, q, _⟩ := p'; exact Heap.lt_size q
    refine ⟨s1.heap.objs.size + 1, [s1.heap.objs.size + 1, s1.heap.objs.size], _, _, H1, rfl, I2, turn_enumT a (s1.heap.objs.size + 1) s1.heap.objs.size (Nat.ne_of_lt hal), ⟨⟨.none, he⟩, ⟨_, hit, rfl, rfl⟩, Nat.succ_ne_self _, fun z => absurd hal (by rw [← z]; exact Nat.not_lt.mpr (Nat.le_succ _))⟩, fun b hb => ?_, q⟩
    have e' : b = s1.heap.objs.size + 1 ∨ b = s1.heap.objs.size := by simpa using hb
    have hle : s1.heap.objs.size ≤ b := by
      rcases e' with z | z
      · rw [z]; exact Nat.le_add_right _ _
      · rw [z]; exact Nat.le_refl _
    exact I1.fpOk hle (I1.hok.fresh hle)
/-! ## enumerate(xs) -/
def enumD : Nat → List D → List D
  | _, [] => []
  | k, d :: ds => .tup [.int k, d] :: enumD (k + 1) ds
theorem enumD_get : ∀ (ds : List D) (k i : Nat), (enumD k ds)[i]? = (ds[i]?).map fun d => .tup [.int ((k + i : Nat) : Int), d]
  | [], _, _ => rfl
  | d :: ds, k, 0 => rfl
  | d :: ds, k, i + 1 => by
    have := enumD_get ds (k + 1) i
    rw [show k + 1 + i = k + (i + 1) from by omega] at this
    simpa [enumD] using this
theorem enumD_len : ∀ (ds : List D) (k : Nat), (enumD k ds).length = ds.length
  | [], _ => rfl
  | d :: ds, k => congrArg (· + 1) (enumD_len ds (k + 1))
section
variable {K : PySem.W.Frag} {mg : Str → Option Value}
theorem rep_pair {S : Addr → Prop} {H : Hp} {T : Addr} {x y : V} {dx dy : D} (t : Trk S H) (h : H T = none) (px : Rep K mg S H x dx) (py : Rep K mg S H y dy) : Rep K mg S (upd H T (.tup [x, y])) (.ref T) (.tup [dx, dy]) :=
  .tup (t.fresh h) upd_same (by show 2 ≤ sizeLine; decide) ((Reps.cons px (.cons py .nil)).go (fun a o e _ => same_new h a o e) fun _ _ _ s => s)
theorem pin_enumL {a : Addr} {ds : List D} (hz : ds.length ≤ sizeLine) : PinOk K mg (Ite K a) (enumD 0 ds) [(.ref a, .lst ds)] := ⟨by rw [enumD_len]; exact hz, fun S H t h i => by
  obtain ⟨b, vs, e, h1, z, q⟩ := (h _ List.mem_cons_self).sqL
  cases e
  refine ⟨fun d e => ?_, fun hi => ⟨vs, .inl (.of h1), by rw [q.len]; rw [enumD_len] at hi; exact hi⟩⟩
  rw [enumD_get] at e
  cases ed : ds[i]? with
  | none => rw [ed] at e; cases e
  | some d0 =>
    rw [ed] at e
    cases e
    obtain ⟨v, ev, p⟩ := q.getD ed
    refine ⟨⟨vs, v, .inl (.of h1), ev⟩, fun x H3 ⟨T, y, e1, e2, e3, e4⟩ => ?_⟩
    subst e1 e3
    have := e4 vs (.inl (.of h1))
    rw [ev] at this
    cases this
    refine ⟨same_new e2, ?_⟩
    rw [Nat.zero_add]
    exact rep_pair t e2 (.int _) p⟩
theorem pin_enumP {a : Addr} {ns : List Int} (hz : ns.length ≤ sizeLine) : PinOk K mg (IteT K a) (enumD 0 (ns.map D.int)) [(.ref a, .tpl ns)] := ⟨by rw [enumD_len, List.length_map]; exact hz, fun S H t h i => by
  obtain ⟨b, e, h1, z⟩ := (h _ List.mem_cons_self).tplT
  cases e
  refine ⟨fun d e => ?_, fun hi => ⟨_, h1, by rw [enumD_len, List.length_map] at hi; rw [List.length_map]; exact hi⟩⟩
  rw [enumD_get] at e
  cases ed : (ns.map D.int)[i]? with
  | none => rw [ed] at e; cases e
  | some d0 =>
    rw [ed] at e
    cases e
    obtain ⟨v, ev, p⟩ := (Reps.ints (K := K) (mg := mg) (S := S) (H := H) ns).getD ed
    refine ⟨⟨_, v, h1, ev⟩, fun x H3 ⟨T, y, e1, e2, e3, e4⟩ => ?_⟩
    subst e1 e3
    have := e4 _ h1
    rw [ev] at this
    cases this
    refine ⟨same_new e2, ?_⟩
    rw [Nat.zero_add]
    exact rep_pair t e2 (.int _) p⟩
theorem pin_enumT {a : Addr} {ds : List D} (hz : ds.length ≤ sizeLine) : PinOk K mg (IteT K a) (enumD 0 ds) [(.ref a, .tup ds)] := ⟨by rw [enumD_len]; exact hz, fun S H t h i => by
  obtain ⟨b, vs, e, h1, z, q⟩ := (h _ List.mem_cons_self).sqT
  cases e
  refine ⟨fun d e => ?_, fun hi => ⟨vs, h1, by rw [q.len]; rw [enumD_len] at hi; exact hi⟩⟩
  rw [enumD_get] at e
  cases ed : ds[i]? with
  | none => rw [ed] at e; cases e
  | some d0 =>
    rw [ed] at e
    cases e
    obtain ⟨v, ev, p⟩ := q.getD ed
    refine ⟨⟨vs, v, h1, ev⟩, fun x H3 ⟨T, y, e1, e2, e3, e4⟩ => ?_⟩
    subst e1 e3
    have := e4 vs h1
    rw [ev] at this
    cases this
    refine ⟨same_new e2, ?_⟩
    rw [Nat.zero_add]
    exact rep_pair t e2 (.int _) p⟩
end
def iEnu (f : DE) : DI := fun r T => (dv (f r T)).bind fun p => (seqD p.1).bind fun ds => .ok (enumD 0 ds, p.2)
def jEnu (f : DE) : DI := fun r T => (dt (f r T)).bind fun p => (seqD p.1).bind fun ds => .ok (enumD 0 ds, p.2)
section
variable {X : Cx} {C : FC} {l : Expr} {elts : List Expr} {kk : Nat} {f : DE} {p pos tpos : Pos}
theorem si_enum (h : SE X C l f) (hm : X.mg "enumerate" = none) (hg : Gl X "enumerate" := by rfl) (hs : starEach [l] X.env = [(false, eval l X.env)] := by rfl) : SI X C (.Tuple elts kk tpos) (.Call (.Name "enumerate" p) [l] [] pos) (iEnu f) := by
  refine pi_imp (pi_or (pi_enum hg hm (pa_cons h pa_nil hs) hs) (pi_enumT hg hm (pa_cons h pa_nil hs) hs)) ?_
  rintro σ H R ⟨ρ, T, h, P⟩
  rcases runs_dv P with ⟨d, T', ed, P1⟩ | ⟨c, fs, t, r2, ex⟩
  · rcases dt_seq P1 with ⟨ds, rfl, _⟩ | ⟨ds, rfl, _⟩ | ⟨ns, rfl, _⟩
    · refine .inl ⟨ρ, T, h, gv_dvE h P fun d2 T2 v H1 ed2 h1 e1 p P3 => ?_⟩
      obtain rfl := ok_eq ed ed2
      obtain ⟨a, rfl⟩ := p.lstRef
      obtain ⟨b, vs, e, h2, z, q⟩ := (show Top X.K X.mg _ H1 _ _ from .inl p).sqL
      cases e
      exact ⟨a, vs, rfl, .inl (.of h2), P3 (Ite X.K a) [(.ref a, .lst ds)] H1 h1 e1 (fun w hw => by rw [List.mem_singleton.mp hw]; exact p) (pin_enumL (by rw [← q.len]; exact z))⟩
    · refine .inr ⟨ρ, T, h, gv_dvE h P fun d2 T2 v H1 ed2 h1 e1 p P3 => ?_⟩
      obtain rfl := ok_eq ed ed2
      obtain ⟨a, rfl⟩ := p.tupRef
      obtain ⟨b, vs, e, h2, z, q⟩ := (show Top X.K X.mg _ H1 _ _ from .inl p).sqT
      cases e
      exact ⟨a, vs, rfl, h2, P3 (IteT X.K a) [(.ref a, .tup ds)] H1 h1 e1 (fun w hw => by rw [List.mem_singleton.mp hw]; exact p) (pin_enumT (by rw [← q.len]; exact z))⟩
    · refine .inr ⟨ρ, T, h, gv_dvE h P fun d2 T2 v H1 ed2 h1 e1 p P3 => ?_⟩
      obtain rfl := ok_eq ed ed2
      obtain ⟨b, rfl, h2, z⟩ := (show Top X.K X.mg _ H1 _ _ from .inl p).tplT
      exact ⟨b, _, rfl, h2, P3 (IteT X.K b) [(.ref b, .tpl ns)] H1 h1 e1 (fun w hw => by rw [List.mem_singleton.mp hw]; exact p) (pin_enumP z)⟩
  · refine .inl ⟨ρ, T, h, ?_⟩
    unfold iEnu at P
    rw [ex] at P ⊢
    exact P
end
end Pu
namespace Pu
open PySem L2 PyProof.Rows
/-- xs[::-1] of a list or a tuple -/
def dRv : D → Rs VD
  | .lst ds => .ok (.own (.lst ds.reverse))
  | .tup ds => .ok (.val (.tup ds.reverse))
  | _ => .stuck
end Pu
namespace Pu
open PySem L2
/-! ## a def, as the head tells it -/
def OkD (P : Program) (w : World) (K : PySem.W.Frag) (mg : Str → Option Value) (base : Heap) (k : Nat) (x : Str) (n : Nat) (io : Bool) (M : DM) : Prop :=
  ∃ (fd : FuncData) (ps : List Str), FnOk P w K mg base (L2.CX P w) k (He.ga K x) fd ps (SpD K mg n io M) ∧ Binds K fd ps [] ∧ PySem.W.keepIn K (.ref (He.ga K x)) = true ∧ mg x = some (.ref (He.ga K x))
section
variable {P : Program} {w : World} {K : PySem.W.Frag} {mg : Str → Option Value} {base : Heap}
theorem okF_of {x qual : Str} {params : Arguments} {body : List Stmt} {scope : Scope} {N ps : List Str} {k : Nat} {io : Bool} {g : DS} {fd : FuncData} (F : FunD K x qual params body scope [] [] (He.ga K x) fd) (S : FnScope N ps scope)
    (hbody : ∀ (cdv : Value) (A : Around) (outer : List PySem.Env) (s : Shared) (H : Hp) (E : XK) (C : FC), Room k (A.deeper (PyProof.Rows.envOfC qual scope s.heap.objs.size (He.ga K x) cdv)) → Takes (cxOf (L2.CX P w) P w K mg base N qual scope (He.ga K x) cdv A outer s H E) C.W →
      SSs (cxOf (L2.CX P w) P w K mg base N qual scope (He.ga K x) cdv A outer s H E) C body g) : FnOk P w K mg base (L2.CX P w) (k + 1) (He.ga K x) fd ps (SpD K mg ps.length io (runD N.length io g)) := by
  refine F.ok (CX := L2.CX P w) S (fun vs H Q E ⟨C, vs1, ds, T, _, hl, _⟩ => hl) fun cdv A outer s H vs Q E hr hsp => ?_
  obtain ⟨C0, vs1, ds, T, rfl, hl, st, a, t, r, P⟩ := hsp
  let C : FC := { C0 with W := fun cls d _ H => E cls d H, pin := [] }
  refine ⟨_, hbody cdv A outer s C0.H0 E C hr (takes_of rfl rfl rfl rfl), ?_⟩
  have hpl : ps.length ≤ N.length := by
    have := congrArg List.length S.pre
    rw [List.length_take] at this
    omega
  have ntree : ∀ (i : Nat) (s : Sh) (d : D), (env0 N.length io ds)[i]? ≠ some (some (.tree s d)) := fun i s d q => by
    rcases env0_get q with ⟨_, _, z⟩ | ⟨_, z, _⟩ <;> cases z
  refine ⟨env0 N.length io ds, T, (holds_start (C := C) (by rw [hl]; exact hpl) st a t r rfl).plus0 ntree, ?_⟩
  unfold runD at P
  cases q : g (env0 N.length io ds) T with
  | stuck =>
    rw [q] at P
    exact P.elim
  | exc c fs T' r' =>
    rw [q] at P
    exact fun σ cls d H' Y hY h1 x => P cls d H' h1.frame ((show TapeOk K mg (SS (C.plus Y) Z0 r' σ) C.tp T' H' from h1.tape).less fun a _ _ s z => s (s1_less a z)) (x.less fun a _ _ s z => s (s1_less a z))
  | ok p =>
    rw [q] at P
    obtain ⟨fl, T'⟩ := p
    cases fl with
    | nx r' => exact fun σ H ⟨Y, h1, hY⟩ => P .non H h1.frame (ret_val (C := C) h1 .non)
    | rt v => exact fun u H e1 q => P u H e1 q
    | bk r' => exact P.elim
    | ct r' => exact P.elim
theorem okD_of {x qual : Str} {params : Arguments} {body : List Stmt} {scope : Scope} {N ps : List Str} {k : Nat} {io : Bool} {g : DS} (F : ∃ fd, FunD K x qual params body scope [] [] (He.ga K x) fd) (hm : mg x = some (.ref (He.ga K x))) (S : FnScope N ps scope)
    (hb : ∀ (kV doc pm : Value) (an : Option Addr) (cdv ct : Value) (us : List Value), us.length = ps.length → bindArgs (PySem.W.fnOf x qual params body scope .none kV doc pm an cdv ct) ⟨us, []⟩ = pure (ps.zip us))
    (hbody : ∀ (cdv : Value) (A : Around) (outer : List PySem.Env) (s : Shared) (H : Hp) (E : XK) (C : FC), Room k (A.deeper (PyProof.Rows.envOfC qual scope s.heap.objs.size (He.ga K x) cdv)) → Takes (cxOf (L2.CX P w) P w K mg base N qual scope (He.ga K x) cdv A outer s H E) C.W →
      SSs (cxOf (L2.CX P w) P w K mg base N qual scope (He.ga K x) cdv A outer s H E) C body g) : OkD P w K mg base (k + 1) x ps.length io (runD N.length io g) := by
  obtain ⟨fd, F⟩ := F
  exact ⟨fd, ps, okF_of F S hbody, F.bindsN hb, F.kp, hm⟩
theorem OkD.mono {k j : Nat} {x : Str} {n : Nat} {io : Bool} {M N : DM} (h : OkD P w K mg base k x n io M) (e : M = N) : OkD P w K mg base k x n io N := e ▸ h
end
section
variable {X : Cx} {C : FC} {e : Expr} {es : List Expr} {g : DA} {pos p p2 : Pos} {x y : Str} {k j n : Nat} {M : DM}
theorem se_defO (F : OkD X.prog X.w X.K X.mg X.base j x n false M) (hr : Room k X.A) (tk : Takes X C.W) (ha : SA X C (e :: es) g) (hk : j ≤ k := by decide)
    (hg : Gl X x := by rfl) (hdb : (x == ("__debug__" : Str)) = false := by decide) (he : starEach (e :: es) X.env = (false, eval e X.env) :: starEach es X.env := by rfl) (hpl : (backTo pos (starEach es X.env)).any (·.1) = false := by rfl) :
    SE X C (.Call (.Name x p) (e :: es) [] pos) (eDef n M g) := by
  obtain ⟨fd, ps, F, b, kp, hm⟩ := F
  exact se_def F hm kp b (hr.mono hk) tk ha hg hdb he hpl
theorem se_defTO (i : Nat) (F : OkD X.prog X.w X.K X.mg X.base j x n true M) (hr : Room k X.A) (tk : Takes X C.W) (ha : SA X C es g) (hk : j ≤ k := by decide)
    (hN : X.N[i]? = some y := by rfl) (hv : Vis X.env.scope y := by first | exact Or.inl rfl | exact Or.inr (Or.inl rfl) | exact Or.inr (Or.inr rfl)) (hd : (y == ("__debug__" : Str)) = false := by decide) (hcd : (y == ("__classdict__" : Str)) = false := by decide)
    (hg : Gl X x := by rfl) (hdb : (x == ("__debug__" : Str)) = false := by decide) (he : starEach (.Name y p2 :: es) X.env = (false, eval (.Name y p2) X.env) :: starEach es X.env := by rfl) (hpl : (backTo pos (starEach es X.env)).any (·.1) = false := by rfl) :
    SE X C (.Call (.Name x p) (.Name y p2 :: es) [] pos) (eDefT i n M g) := by
  obtain ⟨fd, ps, F, b, kp, hm⟩ := F
  exact se_defT i F hm kp b (hr.mono hk) tk ha hN hv hd hcd hg hdb he hpl
end
/-! ## the law: its tape is made, the rest goes with it -/
def sTape (i : Nat) (f : DE) (g : DS) : DS := fun r T => (f r T).bind fun p => match p.1 with
  | .own d => (match g (r.set i (some .tape)) (some d) with
    | .ok (.rt v, _) => .ok (.rt v, none)
    | _ => .stuck)
  | _ => .stuck
theorem sss_tape {X : Cx} {C : FC} {e : Expr} {f : DE} {g : DS} {rest : List Stmt} {pos : Pos} (i : Nat) {x : Str} {pos' : Pos} (hN : X.N.Nodup) (he : ∀ Y, SE X (C.plus Y) e f) (hrest : ∀ p, SSs X { C with tp := some p } rest g) 
    (hi : X.N[i]? = some x := by rfl) (hx : Loc X.env.scope x := by first | exact Or.inl rfl | exact Or.inr rfl) (hs : swapsWith e (some (.Name x pos')) pos.line X.env = pure false := by rfl) (hf : X.fn x = true ∨ X.env.scope.names.lookup x = some .local := by first | exact .inl rfl | exact .inr rfl) :
    SSs X C (.Assign [.Name x pos'] e pos :: rest) (fun r T => if T.isNone then sTape i f g r T else .stuck) := by
  have hrest' : PSs X rest (fun E σ H => ∃ p, tS X.K X.mg { C with tp := some p } g E σ H) := ⟨fun ps s σ H E I ⟨p, q⟩ => (hrest p).run ps s σ H E I q⟩
  refine pss_imp (pss_cons (ps_set hN hi hx (pe_ex he) hs hf) hrest') ?_
  rintro D σ H ⟨ρ, T, ⟨Y, h, hY⟩, P⟩
  obtain ⟨hT, P⟩ := postS_if P
  have hc : C.tp = none := by
    have t : TapeOk X.K X.mg _ C.tp T H := h.tape
    unfold TapeOk at t
    cases q : C.tp with
    | none => rfl
    | some p =>
      rw [q] at t
      obtain ⟨t, e, _⟩ := t
      rw [e] at hT
      cases hT
  unfold sTape at P
  refine ⟨Y, ρ, T, h, (PostS.at hY P.bind).imp fun p P => ?_⟩
  obtain ⟨v, T'⟩ := p
  cases v with
  | own d =>
    intro p H' hp h1 e1 o
    have P : PostS X.K X.mg C (GS X.K X.mg C D) (match g (ρ.set i (some .tape)) (some d) with
      | .ok (.rt v, _) => .ok (.rt v, none)
      | _ => .stuck) := P
    cases q : g (ρ.set i (some .tape)) (some d) with
    | stuck => rw [q] at P; exact P.elim
    | exc c fs T r => rw [q] at P; exact P.elim
    | ok z =>
      rw [q] at P
      obtain ⟨fl, T2⟩ := z
      cases fl with
      | rt v =>
        have P : GS X.K X.mg C D (.rt v, none) := P
        have H0p : C.H0 p = none := back h h.frame hp
        have less : ∀ a, SS (({ C with tp := some p } : FC).plus Y) Z0 (ρ.set i (some .tape)) (σ.set i (some (.ref p))) a → SS (C.plus Y) (fun a => a = p) ρ σ a := fun a z => by
          rcases z with z | z | ⟨j, e, z1, z2⟩ | z
          · exact .inl z
          · cases z
            exact .inr (.inr (.inr rfl))
          · rcases set_at z1 with ⟨ej, q⟩ | ⟨ne, q⟩
            · cases q
            · rw [List.getElem?_set_ne (Ne.symm ne)] at z2
              exact .inr (.inr (.inl ⟨j, e, q, z2⟩))
          · exact z.elim
        have n : ∀ a o, H' a = some o → ¬ SS (C.plus Y) (fun a => a = p) ρ σ a → ¬ SS (({ C with tp := some p } : FC).plus Y) Z0 (ρ.set i (some .tape)) (σ.set i (some (.ref p))) a := fun a _ _ s z => s (less a z)
        refine ⟨p, ρ.set i (some .tape), some d, ⟨Y, ⟨by rw [List.length_set, List.length_set]; exact h1.len, fun a o e nt => h1.frame a o e (show C.tp ≠ some a by rw [hc]; intro z; cases z), fun j u z => ?_, fun j u z => ?_, fun j l a u w z1 z2 z3 z4 => ?_, ⟨d, rfl, .inl (o.go (fun _ e => e) (fun _ _ e _ => e) n)⟩, fun j z => ?_, h1.st, fun _ z => z.elim, fun a z => (h1.pin a z).go (fun _ _ e _ => e) n, h1.tree.mk' (fun _ _ e _ => e) n (fun _ _ _ _ _ e => e) (tree_set nofun) fun q a b c => ⟨a, b, fun z => by
          cases z
          obtain ⟨o, e, _⟩ := h.st p a.1
          rw [hp] at e
          cases e⟩⟩, hY⟩, ?_⟩
        · rcases set_at z with ⟨_, z⟩ | ⟨ne, z⟩
          · cases z
          · obtain ⟨v, e1, p1⟩ := h1.val j u z
            refine ⟨v, ?_, p1.go (fun _ _ e _ => e) n⟩
            rw [List.getElem?_set_ne (Ne.symm ne)]
            exact e1
        · rcases set_at z with ⟨_, z⟩ | ⟨ne, z⟩
          · cases z
          · obtain ⟨v, e1, o1, g1, g2, g3, g4⟩ := h1.own j u z
            refine ⟨v, ?_, o1.go (fun _ e => e) (fun _ _ e _ => e) n, g1, ?_, fun z => z, g4⟩
            · rw [List.getElem?_set_ne (Ne.symm ne)]
              exact e1
            · intro z
              cases z
              exact g3 rfl
        · rcases set_at z1 with ⟨_, z⟩ | ⟨ne, z1⟩
          · cases z
          · rcases set_at z2 with ⟨_, z⟩ | ⟨ne2, z2⟩
            · cases z
            · rw [List.getElem?_set_ne (Ne.symm ne)] at z3
              rw [List.getElem?_set_ne (Ne.symm ne2)] at z4
              exact h1.inj j l a _ _ z1 z2 z3 z4
        · rcases set_at z with ⟨ej, _⟩ | ⟨ne, z⟩
          · subst ej
            have hj := lt_of_get z
            rw [List.length_set, h1.len] at hj
            exact ⟨p, rfl, List.getElem?_set_self hj⟩
          · obtain ⟨q, e1, _⟩ := h1.tslot j z
            have e1 : C.tp = some q := e1
            rw [hc] at e1
            cases e1
        · rw [q]
          intro u H2 e2 r2
          have e3 : Ext C C.H0 H2 := fun a o e _ => e2 a o e (fun z => by
            cases z
            have e : C.H0 p = some o := e
            rw [H0p] at e
            cases e)
          refine P u H2 e3 ?_
          have n1 : ∀ a, S1 C a → S1 { C with tp := some p } a := fun a z => by
            rcases z with z | z
            · exact .inl z
            · rw [hc] at z
              cases z
          have tn : ∀ S, TapeOk X.K X.mg S C.tp none H2 := fun S => by
            unfold TapeOk
            rw [hc]
          cases v with
          | val d => exact ⟨r2.1.go (fun _ _ e _ => e) fun a _ _ s z => s (n1 a z), tn _⟩
          | own d =>
            obtain ⟨p', eu, g1, g2, g3, g4⟩ := r2
            refine ⟨p', eu, g1, (fun z => by rw [hc] at z; cases z), g3.go (fun _ e => e) (fun _ _ e _ => e) (fun a _ _ s z => s ?_), tn _⟩
            rcases z with z | z
            · exact .inl (n1 a z)
            · exact .inr z
          | peek d => exact r2.elim
          | tape => exact r2.elim
          | look d => exact r2.elim
          | tree s d =>
            obtain ⟨F, hF, hn, o, t⟩ := r2
            refine ⟨F, fun p z => ⟨(hF p z).1, fun w => by rw [hc] at w; cases w⟩, hn, o.go (fun _ _ e _ => e) (fun a _ _ s z => s ?_) (fun _ _ _ e => e), tn _⟩
            rcases z with z | z
            · exact .inl (n1 a z)
            · exact .inr z
      | _ => exact P.elim
  | _ => exact (show False from P).elim
/-- the law holds, if its mirror says True of every script -/
theorem law_sp {K : PySem.W.Frag} {mg : Str → Option Value} {M : DM} (hM : ∀ ns : List Int, ns.length ≤ 63 → ∃ T, M [.scr ns] none = .ok (.val (.bl true), T)) (H : Hp) (a : Addr) (ns : List Int) (hl : ns.length ≤ 63) (hs : SqL K H a (ns.map V.int)) :
    SpD K mg 1 false M [.ref a] H (fun v _ => v = .bl true) (fun _ _ _ => False) := by
  obtain ⟨T, e⟩ := hM ns hl
  have z : ns.length ≤ sizeLine := by rw [sizeLine_eq]; omega
  have r : Rep K mg (S1 (⟨H, fun _ => False, none, fun _ _ _ _ => False, [], fun _ => False⟩ : FC)) H (.ref a) (.scr ns) := by
    have ns1 : ¬ S1 (⟨H, fun _ => False, none, fun _ _ _ _ => False, [], fun _ => False⟩ : FC) a := fun z => by
      rcases z with z | z
      · exact z
      · cases z
    rcases hs with (hs | ⟨o, hs⟩) | hs
    · exact .scr ns1 hs (fun H' e => .inl (.inl e)) z
    · exact .scr ns1 hs (fun H' e => .inl (.inr ⟨o, e⟩)) z
    · exact .scrK (fun H' => .inr hs) z
  refine ⟨⟨H, fun _ => False, none, fun _ _ _ _ => False, [], fun _ => False⟩, [.ref a], [.scr ns], none, rfl, rfl, fun _ z => z.elim, ⟨rfl, rfl⟩, rfl, .cons r .nil, ?_⟩
  rw [e]
  intro u H' _ r
  have r : Rep K mg (S1 (⟨H, fun _ => False, none, fun _ _ _ _ => False, [], fun _ => False⟩ : FC)) H' u (.bl true) := r.1
  cases r
  rfl
end Pu
namespace Pu
open PySem L2
open Classical
/-! ## a op b op c -/
def eChain (op op' : D → D → Rs VD) (f g h : DE) : DE := fun r T => (dt (f r T)).bind fun p => (dt (g r p.2)).bind fun q => (op p.1 q.1).bind fun z => match z with
  | .val (.bl k) => if k = true then (dt (h r q.2)).bind fun w => lift (op' q.1 w.1) w.2 else .ok (.val (.bl false), q.2)
  | _ => .stuck
section
variable {X : Cx} {C : FC} {a b c : Expr} {f g h : DE} {pos : Pos} {r r' : R2} {op op' : D → D → Rs VD} {o o' : CmpOp}
theorem quiet_ex {B : Type} {K : PySem.W.Frag} {mg : Str → Option Value} {C : FC} {σ : L2.St} {G : B → Prop} {x : Rs VD} {k : VD → Rs B} (hx : Quiet x) (P : PostG K mg C σ G (x.bind k)) : ∃ z, x = .ok z ∧ PostG K mg C σ G (k z) := by
  rcases hx with e | ⟨d, e⟩ | ⟨d, e⟩ <;> rw [e] at P
  · exact P.elim
  · exact ⟨_, e, P⟩
  · exact ⟨_, e, P⟩
theorem t_chain (hd : R2D X.K X.mg r op) (hq : Quiet2 op) (hd' : R2D X.K X.mg r' op') (hq' : Quiet2 op') : ∀ (σ : L2.St) (H : Hp) (Q : VK), tE X.K X.mg C (eChain op op' f g h) σ H Q → tChain r r' (tE X.K X.mg C f) (tE X.K X.mg C g) (tE X.K X.mg C h) σ H Q := by
  rintro σ H Q ⟨ρ, T, h0, P⟩
  refine ⟨ρ, T, h0, gv_dt h0 P fun d T' v H1 h1 e1 p P1 => ⟨ρ, T', h1, gv_dt h1 P1 fun d2 T2 v2 H2 h2 e2 p2 P2 => ?_⟩⟩
  obtain ⟨z, ez, P3⟩ := quiet_ex (hq d d2) P2
  have en : ∀ k, z = .val (.bl k) → r v v2 H2 (fun z H3 => ∃ k, z = .bl k ∧ (if k = true then tE X.K X.mg C h σ H3 fun w' H4 => r' v2 w' H4 Q else Q (.bl false) H3)) := fun k hk => by
    subst hk
    refine hd _ H2 v v2 d d2 _ _ h2.trk (p.ext e2).top p2.top ez fun y H3 s3 py => ?_
    cases py
    have h3 := h2.more s3
    have e03 := (e1.trans e2).trans (.same s3)
    refine ⟨k, rfl, ?_⟩
    cases k with
    | false => exact (show GV X.K X.mg C ρ σ H Q (.val (.bl false), T2) from P3) _ H3 h3 e03 (.bl false)
    | true =>
      have P4 : PostG X.K X.mg C σ (GV X.K X.mg C ρ σ H Q) ((dt (h ρ T2)).bind fun w => lift (op' d2 w.1) w.2) := P3
      refine ⟨ρ, T2, h3, gv_dt h3 P4 fun d3 T3 v3 H4 h4 e4 p4 P5 => ?_⟩
      obtain ⟨u, eu, P6⟩ := lift_ex (hq' d2 d3) h4 (post_from h4 (e03.trans e4) P5)
      exact hd' _ H4 v2 v3 d2 d3 Q u h4.trk ((p2.ext (.same s3)).ext e4).top p4.top eu P6
  cases z with
  | val dz =>
    cases dz with
    | bl k => exact en k rfl
    | _ => exact (show False from P3).elim
  | _ => exact (show False from P3).elim
theorem se_chain (ho : OpR X (compareOp o) r) (hd : R2D X.K X.mg r op) (hq : Quiet2 op) (ho' : OpR X (compareOp o') r') (hd' : R2D X.K X.mg r' op') (hq' : Quiet2 op') (ha : SE X C a f) (hb : SE X C b g) (hc : SE X C c h)
    (hm : lastMarks [o, o'] [b, c] = false := by with_unfolding_all rfl) : SE X C (.Compare a [o, o'] [b, c] pos) (eChain op op' f g h) :=
  pe_imp (pe_chain ho ho' ha hb hc hm) (t_chain hd hq hd' hq')
theorem st_chain (ho : OpR X (compareOp o) r) (hd : R2D X.K X.mg r op) (hq : Quiet2 op) (ho' : OpR X (compareOp o') r') (hd' : R2D X.K X.mg r' op') (hq' : Quiet2 op') (ha : SE X C a f) (hb : SE X C b g) (hc : SE X C c h)
    (hm : lastMarks [o, o'] [b, c] = false := by with_unfolding_all rfl) : ST X C (.Compare a [o, o'] [b, c] pos) (xB (eChain op op' f g h)) := by
  refine pt_imp (pt_chain ho ho' ha hb hc hm) ?_
  intro σ H Q hh
  exact t_chain hd hq hd' hq' σ H _ (t_B (X := X) (C := C) (f := eChain op op' f g h) σ H Q hh)
end
/-! ## whole numbers compared -/
@[simp] theorem py_non : py .non = .none := by rw [py]
@[simp] theorem py_bl (b : Bool) : py (.bl b) = .bool b := by rw [py]
@[simp] theorem py_int (i : Int) : py (.int i) = .int i := by rw [py]
@[simp] theorem py_str (x : Str) : py (.str x) = .str x := by rw [py]
@[simp] theorem py_tup (ds : List D) : py (.tup ds) = .tuple (ds.map py) := by rw [py, pys_map]
@[simp] theorem py_lst (ds : List D) : py (.lst ds) = .list (ds.map py) := by rw [py, pys_map]
@[simp] theorem dataLt_i (i j : Int) : PySem.W.dataLt (.int i) (.int j) = decide (i < j) := PySem.W.dataLt_int i j
theorem ord_ii (i j : Int) : Ord2 (.int i) (.int j) := ⟨by simp [PySem.W.alike], by simp⟩
@[simp] theorem dLt_ii (i j : Int) : dLt (.int i) (.int j) = .ok (.val (.bl (decide (i < j)))) := by
  unfold dLt dPl
  rw [if_pos ⟨by simp, by simp, ord_ii i j⟩]
  simp only [py_int, dataLt_i]
@[simp] theorem dGt_ii (i j : Int) : dGt (.int i) (.int j) = .ok (.val (.bl (decide (i > j)))) := by
  unfold dGt dPl
  rw [if_pos ⟨by simp, by simp, ord_ii i j⟩]
  simp only [py_int, dataLt_i]
@[simp] theorem dLe_ii (i j : Int) : dLe (.int i) (.int j) = .ok (.val (.bl (decide (i ≤ j)))) := by
  unfold dLe dPl
  rw [if_pos ⟨by simp, by simp, ord_ii i j⟩]
  simp only [py_int, dataLt_i]
  congr 3
  by_cases h : i ≤ j
  · rw [decide_eq_true h, decide_eq_false (by omega)]; rfl
  · rw [decide_eq_false h, decide_eq_true (by omega)]; rfl
@[simp] theorem dGe_ii (i j : Int) : dGe (.int i) (.int j) = .ok (.val (.bl (decide (i ≥ j)))) := by
  unfold dGe dPl
  rw [if_pos ⟨by simp, by simp, ord_ii i j⟩]
  simp only [py_int, dataLt_i]
  congr 3
  by_cases h : i ≥ j
  · rw [decide_eq_true h, decide_eq_false (by omega)]; rfl
  · rw [decide_eq_false h, decide_eq_true (by omega)]; rfl
@[simp] theorem dEq_ii (i j : Int) : dEq (.int i) (.int j) = .ok (.val (.bl (decide (i = j)))) := by
  unfold dEq dPl
  rw [if_pos ⟨by simp, by simp, trivial⟩]
  simp only [py_int, py_bl, py_str, PyData.eqv]
  congr 3
@[simp] theorem dNe_ii (i j : Int) : dNe (.int i) (.int j) = .ok (.val (.bl (!decide (i = j)))) := by
  unfold dNe dPl
  rw [if_pos ⟨by simp, by simp, trivial⟩]
  simp only [py_int, py_bl, py_str, PyData.eqv]
  congr 3
@[simp] theorem dEq_bb (i j : Bool) : dEq (.bl i) (.bl j) = .ok (.val (.bl (i == j))) := by
  unfold dEq dPl
  rw [if_pos ⟨by simp, by simp, trivial⟩]
  simp only [py_int, py_bl, py_str, PyData.eqv]
@[simp] theorem dNe_bb (i j : Bool) : dNe (.bl i) (.bl j) = .ok (.val (.bl (!(i == j)))) := by
  unfold dNe dPl
  rw [if_pos ⟨by simp, by simp, trivial⟩]
  simp only [py_int, py_bl, py_str, PyData.eqv]
@[simp] theorem dEq_ss (i j : Str) : dEq (.str i) (.str j) = .ok (.val (.bl (i == j))) := by
  unfold dEq dPl
  rw [if_pos ⟨by simp, by simp, trivial⟩]
  simp only [py_int, py_bl, py_str, PyData.eqv]
@[simp] theorem dNe_ss (i j : Str) : dNe (.str i) (.str j) = .ok (.val (.bl (!(i == j)))) := by
  unfold dNe dPl
  rw [if_pos ⟨by simp, by simp, trivial⟩]
  simp only [py_int, py_bl, py_str, PyData.eqv]
/-! ## names of built-in things -/
theorem bo_len : bootBuiltins "len" = some (.builtin "len") := by decide +kernel
theorem bo_isinstance : bootBuiltins "isinstance" = some (.builtin "isinstance") := by decide +kernel
theorem bo_list : bootBuiltins "list" = some (.type "list") := by decide +kernel
theorem bo_tuple : bootBuiltins "tuple" = some (.type "tuple") := by decide +kernel
theorem bo_int : bootBuiltins "int" = some (.type "int") := by decide +kernel
theorem bo_bool : bootBuiltins "bool" = some (.type "bool") := by decide +kernel
theorem bo_sum : bootBuiltins "sum" = some (.builtin "sum") := by decide +kernel
theorem bo_all : bootBuiltins "all" = some (.builtin "all") := by decide +kernel
theorem u64 {k : Nat} {A : Around} (r : Room k A) : A.units + 64 < cLine := by
  have := r.un
  omega
/-- a block's names, told by a test -/
def blkB (N : List Str) (sc scope : Scope) (own : List (Str × Nat)) : Bool :=
  decide (scope.kind = .function) && scope.names.all (fun y => decide (scope.names.lookup y.1 = some y.2)) && own.all (fun p => decide (N[p.2]? = some p.1)) &&
  scope.names.all (fun y => !decide (y.2 = .free) || decide (sc.names.lookup y.1 = some .cell) || decide (sc.names.lookup y.1 = some .free)) &&
  scope.names.all (fun y => !(decide (y.2 = .local) || decide (y.2 = .cell)) || decide (y.1 ∈ own.map (·.1)) || !decide (y.1 ∈ N))
theorem blk_ok {N : List Str} {sc scope : Scope} {own : List (Str × Nat)} (h : blkB N sc scope own = true) : BlkOk N sc scope own := by
  unfold blkB at h
  simp only [Bool.and_eq_true, decide_eq_true_eq, List.all_eq_true, Bool.or_eq_true, Bool.not_eq_true', decide_eq_false_iff_not] at h
  obtain ⟨⟨⟨⟨h1, h2⟩, h3⟩, h4⟩, h5⟩ := h
  refine ⟨h1, h2, h3, fun y hy e => ?_, fun y hy e => ?_⟩
  · rcases h4 y hy with (h | h) | h
    · exact absurd e h
    · exact .inl h
    · exact .inr h
  · rcases h5 y hy with (h | h) | h
    · simp only [Bool.or_eq_false_iff, decide_eq_false_iff_not] at h
      exact absurd e (fun z => z.elim h.1 h.2)
    · exact .inl h
    · exact .inr h
end Pu
namespace Pu
open PySem L2
open Classical
/-! ## a name gets a comprehension; a name += a number -/
theorem ss_setLc {X : Cx} {C : FC} {elt tg iter : Expr} {ifs : List Expr} {scope : Scope} {own : List (Str × Nat)} {pos spos py : Pos} {y : Str} {fi : DI} {g : DG} {c : DT} {f : DE} (i : Nat) (hc : X.calm = true) (hN : X.N.Nodup) (hi : ∀ Y, SJ X (C.plus Y) tg iter fi) (ok : BlkOk X.N X.env.scope scope own) (hw : Within g (own.map (·.2)))
    (hg : ∀ (s : Shared) (H : Hp) (Ca : Addr) (cl : List (Str × Addr)) (fp : List Addr), SG (X.blk s H scope (compEnvC scope cl Ca X.env) fp) tg g)
    (ht : ∀ (Y : Addr → Prop) (s : Shared) (H : Hp) (Ca : Addr) (cl : List (Str × Addr)) (fp : List Addr) (L : Addr), Takes (X.blk s H scope (compEnvC scope cl Ca X.env) fp) ((C.plus Y).blk L).W → STs (X.blk s H scope (compEnvC scope cl Ca X.env) fp) ((C.plus Y).blk L) ifs c)
    (he : ∀ (Y : Addr → Prop) (s : Shared) (H : Hp) (Ca : Addr) (cl : List (Str × Addr)) (fp : List Addr) (L : Addr), Takes (X.blk s H scope (compEnvC scope cl Ca X.env) fp) ((C.plus Y).blk L).W → SE (X.blk s H scope (compEnvC scope cl Ca X.env) fp) ((C.plus Y).blk L) elt f)
    (hy : X.N[i]? = some y := by rfl) (hyl : X.env.scope.names.lookup y = some .local := by rfl) (hsw : swapsWith (.ListComp elt [⟨tg, iter, ifs, 0⟩] scope pos) (some (.Name y py)) spos.line X.env = pure true := by exact sw_true rfl rfl rfl (by rfl))
    (hs : ∀ x, foldedSetIterable iter X.env x = pure x := by intro _; rfl) : SSt X C (.Assign [.Name y py] (.ListComp elt [⟨tg, iter, ifs, 0⟩] scope pos) spos) (sAsg i (eLc (own.map (·.2)) fi g c f)) := by
  refine ps_imp (ps_ex fun Y => ps_setLc (g := tG X.K X.mg g) (tt := fun σ H Q => ∃ L, tT X.K X.mg ((C.plus Y).blk L) c σ H Q) (te := fun σ H Q => ∃ L, tE X.K X.mg ((C.plus Y).blk L) f σ H Q) hc hN hy hyl hsw (hi Y) ok hg
    (fun s H Ca cl fp => ⟨fun ps s2 σ H2 Q I ⟨L, q⟩ => (ht Y s H Ca cl fp L takes0).run ps s2 σ H2 Q I q⟩) (fun s H Ca cl fp => ⟨fun ps s2 σ H2 Q I ⟨L, q⟩ => (he Y s H Ca cl fp L takes0).run ps s2 σ H2 Q I q⟩) hs) ?_
  rintro D σ H ⟨ρ, T, ⟨Y, h, hY⟩, P⟩
  exact ⟨Y, t_lc hw σ H _ ⟨ρ, T, h, put_slot (Q := D.nx) h hY P fun r' T' q σ' H' h' => q σ' H' h'⟩⟩
def dAddZ : D → D → Rs VD
  | .int i, .int j => .ok (.val (.int (i + j)))
  | _, _ => .stuck
theorem q_addz : Quiet2 dAddZ := fun d e => by
  unfold dAddZ
  split <;> first | exact quiet_v | exact quiet_s
theorem d_addz {K : PySem.W.Frag} {mg : Str → Option Value} : R2D K mg (rI0 fun i j => .int (i + j)) dAddZ := fun S H x y dx dy Q z t p q e k => by
  unfold dAddZ at e
  split at e <;> cases e
  exact ⟨_, _, p.int, q.int, k.pure (.int _)⟩
end Pu
namespace Pu
open PySem L2
end Pu
namespace Pu
open PySem L2
open Classical
/-! # the plain side: what a run gives -/
def wp {A : Type} (x : Rs A) (Q : A → Prop) : Prop := ∃ a, x = .ok a ∧ Q a
section
variable {A B : Type} {Q R : A → Prop}
@[simp] theorem wp_ok (a : A) : wp (.ok a) Q ↔ Q a := ⟨fun ⟨b, e, q⟩ => by cases e; exact q, fun q => ⟨a, rfl, q⟩⟩
@[simp] theorem wp_stuck : wp (.stuck : Rs A) Q ↔ False := ⟨fun ⟨b, e, q⟩ => (nomatch e), fun q => q.elim⟩
@[simp] theorem wp_exc (c : PySem.Str) (fs : List (PySem.Str × D)) (t : Tp) (r : Env) : wp (.exc c fs t r : Rs A) Q ↔ False := ⟨fun ⟨b, e, q⟩ => (nomatch e), fun q => q.elim⟩
@[simp] theorem wp_bind (x : Rs B) (f : B → Rs A) : wp (x.bind f) Q ↔ wp x fun b => wp (f b) Q := by
  cases x with
  | ok b => simp
  | exc c fs t r => simp
  | stuck => simp
theorem wp_imp {x : Rs A} (h : wp x Q) (i : ∀ a, Q a → R a) : wp x R := by
  obtain ⟨a, e, q⟩ := h
  exact ⟨a, e, i a q⟩
@[simp] theorem wp_ite {p : Prop} [Decidable p] (x y : Rs A) : wp (if p then x else y) Q ↔ (p → wp x Q) ∧ (¬ p → wp y Q) := by
  by_cases c : p <;> simp [c]
@[simp] theorem wp_noX (x : Rs A) : wp (noX x) Q ↔ wp x Q := by cases x <;> simp [noX]
end
/-! ## the forms, opened -/
def seqK (g : DS) : Fl × Tp → Rs (Fl × Tp)
  | (.nx r, T) => g r T
  | (.rt v, T) => .ok (.rt v, T)
  | (.bk r, T) => .ok (.bk r, T)
  | (.ct r, T) => .ok (.ct r, T)
@[simp] theorem seqK_nx (g : DS) (r : Env) (T : Tp) : seqK g (.nx r, T) = g r T := rfl
@[simp] theorem seqK_rt (g : DS) (v : VD) (T : Tp) : seqK g (.rt v, T) = .ok (.rt v, T) := rfl
@[simp] theorem seqK_bk (g : DS) (r : Env) (T : Tp) : seqK g (.bk r, T) = .ok (.bk r, T) := rfl
@[simp] theorem seqK_ct (g : DS) (r : Env) (T : Tp) : seqK g (.ct r, T) = .ok (.ct r, T) := rfl
@[simp] theorem sSeq_ap (f g : DS) (r : Env) (T : Tp) : sSeq f g r T = (f r T).bind (seqK g) := by
  unfold sSeq
  congr 1
  funext p
  obtain ⟨fl, T⟩ := p
  cases fl <;> rfl
@[simp] theorem sPass_ap (r : Env) (T : Tp) : sPass r T = .ok (.nx r, T) := rfl
@[simp] theorem sNo_ap (r : Env) (T : Tp) : sNo r T = .stuck := rfl
@[simp] theorem sBrk_ap (r : Env) (T : Tp) : sBrk r T = .ok (.bk r, T) := rfl
@[simp] theorem sCt_ap (r : Env) (T : Tp) : sCt r T = .ok (.ct r, T) := rfl
@[simp] theorem sIf_ap (c : DT) (f g : DS) (r : Env) (T : Tp) : sIf c f g r T = (c r T).bind fun p => if p.1 = true then f r p.2 else g r p.2 := rfl
@[simp] theorem sDrop_ap (f : DE) (r : Env) (T : Tp) : sDrop f r T = (dt (f r T)).bind fun p => .ok (.nx r, p.2) := rfl
@[simp] theorem sAsg_ap (i : Nat) (f : DE) (r : Env) (T : Tp) : sAsg i f r T = (f r T).bind fun p => (put r i p.1).bind fun r' => .ok (.nx r', p.2) := rfl
def retK : VD × Tp → Rs (Fl × Tp)
  | (.val d, T) => .ok (.rt (.val d), T)
  | (.own d, T) => .ok (.rt (.own d), T)
  | (.tree s d, T) => .ok (.rt (.tree s d), T)
  | _ => .stuck
@[simp] theorem retK_tree (s : Sh) (d : D) (T : Tp) : retK (.tree s d, T) = .ok (.rt (.tree s d), T) := rfl
@[simp] theorem retK_val (d : D) (T : Tp) : retK (.val d, T) = .ok (.rt (.val d), T) := rfl
@[simp] theorem retK_own (d : D) (T : Tp) : retK (.own d, T) = .ok (.rt (.own d), T) := rfl
@[simp] theorem sRet_ap (f : DE) (r : Env) (T : Tp) : sRet f r T = (f r T).bind retK := by
  unfold sRet
  congr 1
  funext p
  obtain ⟨v, T⟩ := p
  cases v <;> rfl
def retVK (T : Tp) : Option (Option VD) → Rs (Fl × Tp)
  | some (some (.val d)) => .ok (.rt (.val d), T)
  | some (some (.own d)) => .ok (.rt (.own d), T)
  | some (some (.tree s d)) => .ok (.rt (.tree s d), T)
  | _ => .stuck
@[simp] theorem retVK_tree (s : Sh) (d : D) (T : Tp) : retVK T (some (some (.tree s d))) = .ok (.rt (.tree s d), T) := rfl
@[simp] theorem retVK_val (d : D) (T : Tp) : retVK T (some (some (.val d))) = .ok (.rt (.val d), T) := rfl
@[simp] theorem retVK_own (d : D) (T : Tp) : retVK T (some (some (.own d))) = .ok (.rt (.own d), T) := rfl
@[simp] theorem sRetV_ap (i : Nat) (r : Env) (T : Tp) : sRetV i r T = retVK T r[i]? := by
  unfold sRetV retVK
  cases r[i]? with
  | none => rfl
  | some o =>
    cases o with
    | none => rfl
    | some w => cases w <;> rfl
@[simp] theorem sRetN_ap (r : Env) (T : Tp) : sRetN r T = .ok (.rt (.val .non), T) := rfl
def augK (op : D → D → Rs VD) (i : Nat) (f : DE) (r : Env) (T : Tp) : Option (Option VD) → Rs (Fl × Tp)
  | some (some (.val d)) => (dt (f r T)).bind fun p => (op d p.1).bind fun v => (put r i v).bind fun r' => .ok (.nx r', p.2)
  | _ => .stuck
@[simp] theorem augK_val (op : D → D → Rs VD) (i : Nat) (f : DE) (r : Env) (T : Tp) (d : D) : augK op i f r T (some (some (.val d))) = (dt (f r T)).bind fun p => (op d p.1).bind fun v => (put r i v).bind fun r' => .ok (.nx r', p.2) := rfl
@[simp] theorem sAug_ap (op : D → D → Rs VD) (i : Nat) (f : DE) (r : Env) (T : Tp) : sAug op i f r T = augK op i f r T r[i]? := by
  unfold sAug augK
  cases r[i]? with
  | none => rfl
  | some o =>
    cases o with
    | none => rfl
    | some w => cases w <;> rfl
def frzK (r : Env) (i : Nat) : Option (Option VD) → Env
  | some (some (.own d)) => r.set i (some (.val d))
  | some (some (.tree _ d)) => r.set i (some (.val d))
  | _ => r
@[simp] theorem frzK_tree (r : Env) (i : Nat) (s : Sh) (d : D) : frzK r i (some (some (.tree s d))) = r.set i (some (.val d)) := rfl
@[simp] theorem frzK_own (r : Env) (i : Nat) (d : D) : frzK r i (some (some (.own d))) = r.set i (some (.val d)) := rfl
@[simp] theorem frzK_val (r : Env) (i : Nat) (d : D) : frzK r i (some (some (.val d))) = r := rfl
@[simp] theorem frzK_none (r : Env) (i : Nat) : frzK r i (some none) = r := rfl
@[simp] theorem sFrz_ap (i : Nat) (g : DS) (r : Env) (T : Tp) : sFrz i g r T = g (frzK r i r[i]?) T := by
  unfold sFrz frz frzK
  cases r[i]? with
  | none => rfl
  | some o =>
    cases o with
    | none => rfl
    | some w => cases w <;> rfl
def varK (T : Tp) : Option (Option VD) → Rs (VD × Tp)
  | some (some (.val d)) => .ok (.val d, T)
  | some (some (.own d)) => .ok (.peek d, T)
  | _ => .stuck
@[simp] theorem varK_val (d : D) (T : Tp) : varK T (some (some (.val d))) = .ok (.val d, T) := rfl
@[simp] theorem varK_own (d : D) (T : Tp) : varK T (some (some (.own d))) = .ok (.peek d, T) := rfl
@[simp] theorem eVar_ap (i : Nat) (r : Env) (T : Tp) : eVar i r T = varK T r[i]? := by
  unfold eVar varK
  cases r[i]? with
  | none => rfl
  | some o =>
    cases o with
    | none => rfl
    | some w => cases w <;> rfl
@[simp] theorem eC_ap (d : D) (r : Env) (T : Tp) : eC d r T = .ok (.val d, T) := rfl
@[simp] theorem eNo_ap (r : Env) (T : Tp) : eNo r T = .stuck := rfl
@[simp] theorem eOp_ap (op : D → D → Rs VD) (f g : DE) (r : Env) (T : Tp) : eOp op f g r T = (dt (f r T)).bind fun p => (dt (g r p.2)).bind fun q => lift (op p.1 q.1) q.2 := rfl
@[simp] theorem eUn_ap (op : D → Rs VD) (f : DE) (r : Env) (T : Tp) : eUn op f r T = (dt (f r T)).bind fun p => lift (op p.1) p.2 := rfl
def chK (op' : D → D → Rs VD) (h : DE) (r : Env) (q : D × Tp) : VD → Rs (VD × Tp)
  | .val (.bl k) => if k = true then (dt (h r q.2)).bind fun w => lift (op' q.1 w.1) w.2 else .ok (.val (.bl false), q.2)
  | _ => .stuck
@[simp] theorem chK_bl (op' : D → D → Rs VD) (h : DE) (r : Env) (q : D × Tp) (k : Bool) : chK op' h r q (.val (.bl k)) = if k = true then (dt (h r q.2)).bind fun w => lift (op' q.1 w.1) w.2 else .ok (.val (.bl false), q.2) := rfl
@[simp] theorem eChain_ap (op op' : D → D → Rs VD) (f g h : DE) (r : Env) (T : Tp) : eChain op op' f g h r T = (dt (f r T)).bind fun p => (dt (g r p.2)).bind fun q => (op p.1 q.1).bind (chK op' h r q) := by
  unfold eChain
  congr 1
@[simp] theorem xB_ap (f : DE) (r : Env) (T : Tp) : xB f r T = (dv (f r T)).bind fun p => (dBl p.1).bind fun b => .ok (b, p.2) := rfl
@[simp] theorem xAnd_ap (f g : DT) (r : Env) (T : Tp) : xAnd f g r T = (f r T).bind fun p => if p.1 = true then g r p.2 else .ok (false, p.2) := rfl
@[simp] theorem xOr_ap (f g : DT) (r : Env) (T : Tp) : xOr f g r T = (f r T).bind fun p => if p.1 = true then .ok (true, p.2) else g r p.2 := rfl
@[simp] theorem xNot_ap (f : DT) (r : Env) (T : Tp) : xNot f r T = (f r T).bind fun p => .ok (!p.1, p.2) := rfl
@[simp] theorem xYes_ap (r : Env) (T : Tp) : xYes r T = .ok (true, T) := rfl
@[simp] theorem eIf_ap (c : DT) (f g : DE) (r : Env) (T : Tp) : eIf c f g r T = (c r T).bind fun p => if p.1 = true then f r p.2 else g r p.2 := rfl
@[simp] theorem eAnd_ap (f g : DE) (r : Env) (T : Tp) : eAnd f g r T = (dv (f r T)).bind fun p => (dBl p.1).bind fun b => if b = true then g r p.2 else .ok (.val (.bl false), p.2) := rfl
@[simp] theorem eOr_ap (f g : DE) (r : Env) (T : Tp) : eOr f g r T = (dv (f r T)).bind fun p => (dBl p.1).bind fun b => if b = true then .ok (.val (.bl true), p.2) else g r p.2 := rfl
@[simp] theorem eNot_ap (f : DE) (r : Env) (T : Tp) : eNot f r T = (dv (f r T)).bind fun p => (dBl p.1).bind fun b => .ok (.val (.bl !b), p.2) := rfl
@[simp] theorem aNil_ap (r : Env) (T : Tp) : aNil r T = .ok ([], T) := rfl
@[simp] theorem aCons_ap (f : DE) (g : DA) (r : Env) (T : Tp) : aCons f g r T = (dv (f r T)).bind fun p => (g r p.2).bind fun q => .ok (p.1 :: q.1, q.2) := rfl
@[simp] theorem aConsT_ap (f : DE) (g : DA) (r : Env) (T : Tp) : aConsT f g r T = (dt (f r T)).bind fun p => (g r p.2).bind fun q => .ok (p.1 :: q.1, q.2) := rfl
@[simp] theorem eTup_ap (g : DA) (r : Env) (T : Tp) : eTup g r T = (g r T).bind fun p => if p.1.length ≤ 1000 then .ok (.val (.tup p.1), p.2) else .stuck := rfl
@[simp] theorem eLst_ap (g : DA) (r : Env) (T : Tp) : eLst g r T = (g r T).bind fun p => if p.1.length ≤ 1000 then .ok (.own (.lst p.1), p.2) else .stuck := rfl
@[simp] theorem eCall_ap (op : List D → Rs VD) (g : DA) (r : Env) (T : Tp) : eCall op g r T = (g r T).bind fun p => lift (op p.1) p.2 := rfl
def defK (T : Tp) (r : Env) : Rs (VD × Tp) → Rs (VD × Tp)
  | .ok q => .ok (q.1, T)
  | .exc c fs _ _ => .exc c fs T r
  | .stuck => .stuck
@[simp] theorem defK_ok (T : Tp) (r : Env) (q : VD × Tp) : defK T r (.ok q) = .ok (q.1, T) := rfl
@[simp] theorem defK_exc (T T2 : Tp) (r r2 : Env) (c : PySem.Str) (fs : List (PySem.Str × D)) : defK T r (.exc c fs T2 r2) = .exc c fs T r := rfl
@[simp] theorem wp_defK {Q : VD × Tp → Prop} (T : Tp) (r : Env) (x : Rs (VD × Tp)) : wp (defK T r x) Q ↔ wp x fun q => Q (q.1, T) := by cases x <;> simp [defK]
@[simp] theorem eDef_ap (n : Nat) (M : DM) (g : DA) (r : Env) (T : Tp) : eDef n M g r T = (g r T).bind fun p => if p.1.length = n then defK p.2 r (M p.1 none) else .stuck := by
  unfold eDef
  congr 1
def defTK (r : Env) : Rs (VD × Tp) → Rs (VD × Tp)
  | .ok q => .ok q
  | .exc c fs T' _ => .exc c fs T' r
  | .stuck => .stuck
@[simp] theorem defTK_ok (r : Env) (q : VD × Tp) : defTK r (.ok q) = .ok q := rfl
@[simp] theorem wp_defTK {Q : VD × Tp → Prop} (r : Env) (x : Rs (VD × Tp)) : wp (defTK r x) Q ↔ wp x Q := by cases x <;> simp [defTK]
def tpK {A : Type} (x : Rs A) : Option (Option VD) → Rs A
  | some (some .tape) => x
  | _ => .stuck
@[simp] theorem tpK_tape {A : Type} (x : Rs A) : tpK x (some (some .tape)) = x := rfl
@[simp] theorem eDefT_ap (i n : Nat) (M : DM) (g : DA) (r : Env) (T : Tp) : eDefT i n M g r T = tpK ((g r T).bind fun p => if p.1.length + 1 = n then defTK r (M p.1 p.2) else .stuck) r[i]? := by
  unfold eDefT tpK
  cases r[i]? with
  | none => rfl
  | some o =>
    cases o with
    | none => rfl
    | some w => cases w <;> rfl
def lsK (f : List D → Rs (VD × Tp)) : Tp → Rs (VD × Tp)
  | some (.lst ds) => f ds
  | _ => .stuck
@[simp] theorem lsK_lst (f : List D → Rs (VD × Tp)) (ds : List D) : lsK f (some (.lst ds)) = f ds := rfl
@[simp] theorem eTix_ap (i k : Nat) (r : Env) (T : Tp) : eTix i k r T = tpK (lsK (fun ds => (rO ds[k]?).bind fun d => .ok (.val d, T)) T) r[i]? := by
  unfold eTix tpK lsK
  cases r[i]? with
  | none => rfl
  | some o =>
    cases o with
    | none => rfl
    | some w =>
      cases w <;> rfl
def lsS (f : List D → Rs (Fl × Tp)) : Tp → Rs (Fl × Tp)
  | some (.lst ds) => f ds
  | _ => .stuck
@[simp] theorem lsS_lst (f : List D → Rs (Fl × Tp)) (ds : List D) : lsS f (some (.lst ds)) = f ds := rfl
@[simp] theorem sTset_ap (i k : Nat) (f : DE) (r : Env) (T : Tp) : sTset i k f r T = tpK ((dv (f r T)).bind fun p => lsS (fun ds => if k < ds.length then .ok (.nx r, some (.lst (ds.set k p.1))) else .stuck) p.2) r[i]? := by
  unfold sTset tpK lsS
  cases r[i]? with
  | none => rfl
  | some o =>
    cases o with
    | none => rfl
    | some w =>
      cases w <;> rfl
def endK : Fl × Tp → Rs (VD × Tp)
  | (.nx _, T) => .ok (.val .non, T)
  | (.rt v, T) => .ok (v, T)
  | _ => .stuck
@[simp] theorem endK_nx (r : Env) (T : Tp) : endK (.nx r, T) = .ok (.val .non, T) := rfl
@[simp] theorem endK_rt (v : VD) (T : Tp) : endK (.rt v, T) = .ok (v, T) := rfl
theorem runD_ap (n : Nat) (io : Bool) (g : DS) (ds : List D) (T : Tp) : runD n io g ds T = (g (env0 n io ds) T).bind endK := by
  unfold runD
  congr 1
  funext p
  obtain ⟨fl, T⟩ := p
  cases fl <;> rfl
def ownK {A : Type} (f : D → Rs A) : Option (Option VD) → Rs A
  | some (some (.own d)) => f d
  | _ => .stuck
@[simp] theorem ownK_own {A : Type} (f : D → Rs A) (d : D) : ownK f (some (some (.own d))) = f d := rfl
@[simp] theorem eMut_ap (i : Nat) (is : D → Bool) (mo : D → List D → Option (D × D)) (g : DA) (r : Env) (T : Tp) : eMut i is mo g r T = ownK (fun d => if is d = true then (g r T).bind fun p => (rO (mo d p.1)).bind fun q => .ok (q.2, r.set i (some (.own q.1)), p.2) else .stuck) r[i]? := by
  unfold eMut ownK
  cases r[i]? with
  | none => rfl
  | some o =>
    cases o with
    | none => rfl
    | some w => cases w <;> rfl
@[simp] theorem eMutM_ap (i : Nat) (is : D → Bool) (mo : D → List D → Option (D × D)) (f : DEm) (r : Env) (T : Tp) : eMutM i is mo f r T = ownK (fun d => if is d = true then (f r T).bind fun p => ownK (fun d2 => (rO (mo d2 [p.1])).bind fun q => .ok (q.2, p.2.1.set i (some (.own q.1)), p.2.2)) p.2.1[i]? else .stuck) r[i]? := by
  unfold eMutM ownK
  cases r[i]? with
  | none => rfl
  | some o =>
    cases o with
    | none => rfl
    | some w =>
      cases w with
      | own d =>
        congr 1
      | _ => rfl
@[simp] theorem sDropM_ap (f : DEm) (r : Env) (T : Tp) : sDropM f r T = (f r T).bind fun p => .ok (.nx p.2.1, p.2.2) := rfl
@[simp] theorem sAsgM_ap (i : Nat) (f : DEm) (r : Env) (T : Tp) : sAsgM i f r T = (f r T).bind fun p => .ok (.nx (p.2.1.set i (some (.val p.1))), p.2.2) := rfl
@[simp] theorem sAsgMG_ap (g : DG) (f : DEm) (r : Env) (T : Tp) : sAsgMG g f r T = (f r T).bind fun p => (rO (g p.1)).bind fun m => .ok (.nx (setE p.2.1 m), p.2.2) := rfl
@[simp] theorem sAsgG_ap (g : DG) (f : DE) (r : Env) (T : Tp) : sAsgG g f r T = (dv (f r T)).bind fun p => (rO (g p.1)).bind fun m => .ok (.nx (setE r m), p.2) := rfl
@[simp] theorem sRetM_ap (f : DEm) (r : Env) (T : Tp) : sRetM f r T = (f r T).bind fun p => .ok (.rt (.val p.1), p.2.2) := rfl
@[simp] theorem sSetI_ap (i : Nat) (so : D → D → D → Option D) (fi fe : DE) (r : Env) (T : Tp) : sSetI i so fi fe r T = (dv (fe r T)).bind fun p => ownK (fun d => (dt (fi r p.2)).bind fun q => (rO (so d q.1 p.1)).bind fun d' => .ok (.nx (r.set i (some (.own d'))), q.2)) r[i]? := by
  unfold sSetI ownK
  congr 1
@[simp] theorem sTape_ap (i : Nat) (f : DE) (g : DS) (r : Env) (T : Tp) (d : D) (T2 : Tp) (h : f r T = .ok (.own d, T2)) {Q : Fl × Tp → Prop} : wp (sTape i f g r T) Q ↔ wp (g (r.set i (some .tape)) (some d)) fun p => ∃ v, p.1 = .rt v ∧ Q (.rt v, none) := by
  unfold sTape
  rw [h]
  simp only [Rs.bind_ok]
  cases e : g (r.set i (some .tape)) (some d) with
  | stuck => simp
  | exc c fs t r => simp
  | ok z =>
    obtain ⟨fl, T3⟩ := z
    cases fl <;> simp
@[simp] theorem sFor_ap (f : DI) (g : DG) (w : DS) (r : Env) (T : Tp) : sFor f g w r T = (f r T).bind fun p => forD g w p.1 r p.2 := rfl
@[simp] theorem iSeq_ap (f : DE) (r : Env) (T : Tp) : iSeq f r T = (dv (f r T)).bind fun p => (seqD p.1).bind fun ds => .ok (ds, p.2) := rfl
@[simp] theorem jSeq_ap (f : DE) (r : Env) (T : Tp) : jSeq f r T = (dt (f r T)).bind fun p => (seqD p.1).bind fun ds => .ok (ds, p.2) := rfl
@[simp] theorem iEnu_ap (f : DE) (r : Env) (T : Tp) : iEnu f r T = (dv (f r T)).bind fun p => (seqD p.1).bind fun ds => .ok (enumD 0 ds, p.2) := rfl
@[simp] theorem jEnu_ap (f : DE) (r : Env) (T : Tp) : jEnu f r T = (dt (f r T)).bind fun p => (seqD p.1).bind fun ds => .ok (enumD 0 ds, p.2) := rfl
@[simp] theorem eLc_ap (vs : List Nat) (fi : DI) (g : DG) (c : DT) (f : DE) (r : Env) (T : Tp) : eLc vs fi g c f r T = (fi r T).bind fun p => (rO (wipeE r vs)).bind fun r0 => (lcD g c f p.1 r0 p.2).bind fun q => .ok (.own (.lst q.1), q.2) := rfl
@[simp] theorem setE_nil (r : Env) : setE r [] = r := rfl
@[simp] theorem setE_cons (r : Env) (p : Nat × D) (l : List (Nat × D)) : setE r (p :: l) = setE (r.set p.1 (some (.val p.2))) l := rfl
@[simp] theorem wp_lift {Q : VD × Tp → Prop} (z : Rs VD) (T : Tp) : wp (lift z T) Q ↔ wp z fun v => Q (v, T) := by cases z <;> simp [lift]
@[simp] theorem wp_rO {A : Type} {Q : A → Prop} (o : Option A) : wp (rO o) Q ↔ ∃ a, o = some a ∧ Q a := by cases o <;> simp
@[simp] theorem wp_dv {Q : D × Tp → Prop} (x : Rs (VD × Tp)) : wp (dv x) Q ↔ wp x fun p => wp (dv1 p) Q := by unfold dv; simp
@[simp] theorem wp_dt {Q : D × Tp → Prop} (x : Rs (VD × Tp)) : wp (dt x) Q ↔ wp x fun p => wp (dt1 p) Q := by unfold dt; simp
@[simp] theorem dv1_val (d : D) (T : Tp) : dv1 (.val d, T) = .ok (d, T) := rfl
@[simp] theorem dv1_own (d : D) (T : Tp) : dv1 (.own d, T) = .ok (d, T) := rfl
@[simp] theorem dt1_val (d : D) (T : Tp) : dt1 (.val d, T) = .ok (d, T) := rfl
@[simp] theorem dt1_own (d : D) (T : Tp) : dt1 (.own d, T) = .ok (d, T) := rfl
@[simp] theorem dt1_peek (d : D) (T : Tp) : dt1 (.peek d, T) = .ok (d, T) := rfl
/-! ## loops -/
def loopK (I : Env → Tp → Prop) (Q : Fl × Tp → Prop) : Fl × Tp → Prop
  | (.nx r, T) => I r T
  | (.ct r, T) => I r T
  | (.bk r, T) => Q (.nx r, T)
  | (.rt v, T) => Q (.rt v, T)
@[simp] theorem loopK_nx (I : Env → Tp → Prop) (Q : Fl × Tp → Prop) (r : Env) (T : Tp) : loopK I Q (.nx r, T) ↔ I r T := Iff.rfl
@[simp] theorem loopK_ct (I : Env → Tp → Prop) (Q : Fl × Tp → Prop) (r : Env) (T : Tp) : loopK I Q (.ct r, T) ↔ I r T := Iff.rfl
@[simp] theorem loopK_bk (I : Env → Tp → Prop) (Q : Fl × Tp → Prop) (r : Env) (T : Tp) : loopK I Q (.bk r, T) ↔ Q (.nx r, T) := Iff.rfl
@[simp] theorem loopK_rt (I : Env → Tp → Prop) (Q : Fl × Tp → Prop) (v : VD) (T : Tp) : loopK I Q (.rt v, T) ↔ Q (.rt v, T) := Iff.rfl
/-! ## operations, opened -/
@[simp] theorem dAddI_ii (i j : Int) : dAddI (.int i) (.int j) = .ok (.val (.int (i + j))) := rfl
@[simp] theorem dAddI_tt (a b : List D) : dAddI (.tup a) (.tup b) = if a.length + b.length ≤ 16000000 then .ok (.val (.tup (a ++ b))) else .stuck := rfl
@[simp] theorem dAddI_ll (a b : List D) : dAddI (.lst a) (.lst b) = if a.length + b.length ≤ 16000000 then .ok (.own (.lst (a ++ b))) else .stuck := rfl
@[simp] theorem dAddZ_ii (i j : Int) : dAddZ (.int i) (.int j) = .ok (.val (.int (i + j))) := rfl
@[simp] theorem dSub_ii (i j : Int) : dSub (.int i) (.int j) = .ok (.val (.int (i - j))) := rfl
@[simp] theorem dMul_ii (i j : Int) : dMul (.int i) (.int j) = if (-(2 ^ 64) < i ∧ i < 2 ^ 64) ∨ (-(2 ^ 64) < j ∧ j < 2 ^ 64) then .ok (.val (.int (i * j))) else .stuck := rfl
@[simp] theorem dDiv_ii (i j : Int) : dDiv (.int i) (.int j) = if 0 < j ∧ j < 1073741824 then .ok (.val (.int (i / j))) else .stuck := rfl
@[simp] theorem dMod_ii (i j : Int) : dMod (.int i) (.int j) = if 0 < j then .ok (.val (.int (i % j))) else .stuck := rfl
@[simp] theorem dPow_ii (i j : Int) : dPow (.int i) (.int j) = if 0 ≤ j ∧ j ≤ 1000000 ∧ i.natAbs < 2 ^ 64 then .ok (.val (.int (i ^ j.toNat))) else .stuck := rfl
@[simp] theorem dNeg_i (i : Int) : dNeg (.int i) = .ok (.val (.int (-i))) := rfl
@[simp] theorem bInt_i (i : Int) : bInt [.int i] = .ok (.val (.int i)) := rfl
@[simp] theorem bInt_b (b : Bool) : bInt [.bl b] = .ok (.val (.int (if b then 1 else 0))) := rfl
@[simp] theorem bLen_l (ds : List D) : bLen [.lst ds] = .ok (.val (.int ds.length)) := rfl
@[simp] theorem bLen_t (ds : List D) : bLen [.tup ds] = .ok (.val (.int ds.length)) := rfl
@[simp] theorem bLen_c (ns : List Int) : bLen [.scr ns] = .ok (.val (.int ns.length)) := rfl
@[simp] theorem bList_l (ds : List D) : bList [.lst ds] = .ok (.own (.lst ds)) := rfl
@[simp] theorem bList_t (ds : List D) : bList [.tup ds] = .ok (.own (.lst ds)) := rfl
@[simp] theorem bList_c (ns : List Int) : bList [.scr ns] = .ok (.own (.lst (ns.map D.int))) := rfl
@[simp] theorem bTuple_l (ds : List D) : bTuple [.lst ds] = .ok (.val (.tup ds)) := rfl
@[simp] theorem bTuple_t (ds : List D) : bTuple [.tup ds] = .ok (.val (.tup ds)) := rfl
@[simp] theorem bSum_l (ds : List D) : bSum [.lst ds] = (rO (nums ds)).bind fun ns => .ok (.val (.int ns.sum)) := rfl
@[simp] theorem bSum_t (ds : List D) : bSum [.tup ds] = (rO (nums ds)).bind fun ns => .ok (.val (.int ns.sum)) := rfl
@[simp] theorem bAll_l (ds : List D) : bAll [.lst ds] = (rO (bls ds)).bind fun ns => .ok (.val (.bl (ns.all id))) := rfl
@[simp] theorem bAny_l (ds : List D) : bAny [.lst ds] = (rO (bls ds)).bind fun ns => .ok (.val (.bl (ns.any id))) := rfl
@[simp] theorem bMax_2 (i j : Int) : bMax [.int i, .int j] = .ok (.val (.int (if j > i then j else i))) := rfl
@[simp] theorem bMin_2 (i j : Int) : bMin [.int i, .int j] = .ok (.val (.int (if j < i then j else i))) := rfl
@[simp] theorem bMax_l (ds : List D) : bMax [.lst ds] = (rO (nums ds)).bind fun ns => (rO ns.max?).bind fun m => .ok (.val (.int m)) := rfl
@[simp] theorem bMax_t (ds : List D) : bMax [.tup ds] = (rO (nums ds)).bind fun ns => (rO ns.max?).bind fun m => .ok (.val (.int m)) := rfl
@[simp] theorem bMin_l (ds : List D) : bMin [.lst ds] = (rO (nums ds)).bind fun ns => (rO ns.min?).bind fun m => .ok (.val (.int m)) := rfl
@[simp] theorem bMin_t (ds : List D) : bMin [.tup ds] = (rO (nums ds)).bind fun ns => (rO ns.min?).bind fun m => .ok (.val (.int m)) := rfl
@[simp] theorem bSorted_l (ds : List D) : bSorted [.lst ds] = if SrtOk ds then .ok (.own (.lst (srtd ds))) else .stuck := rfl
@[simp] theorem dIx_l (ds : List D) (i : Int) : dIx (.lst ds) (.int i) = (rO (atI ds i)).bind fun d => .ok (.val d) := rfl
@[simp] theorem dIx_t (ds : List D) (i : Int) : dIx (.tup ds) (.int i) = (rO (atI ds i)).bind fun d => .ok (.val d) := rfl
@[simp] theorem dRv_l (ds : List D) : dRv (.lst ds) = .ok (.own (.lst ds.reverse)) := rfl
@[simp] theorem dRv_t (ds : List D) : dRv (.tup ds) = .ok (.val (.tup ds.reverse)) := rfl
@[simp] theorem isT_non (cs : List PySem.Str) (t : Ty) : isT cs t .non = some false := by cases t <;> rfl
@[simp] theorem isT_int (cs : List PySem.Str) (t : Ty) (i : Int) : isT cs t (.int i) = some (match t with | .int => true | _ => false) := by cases t <;> rfl
@[simp] theorem isT_bl (cs : List PySem.Str) (t : Ty) (i : Bool) : isT cs t (.bl i) = some (match t with | .int => true | .bool => true | _ => false) := by cases t <;> rfl
@[simp] theorem isT_str (cs : List PySem.Str) (t : Ty) (i : PySem.Str) : isT cs t (.str i) = some (match t with | .str => true | _ => false) := by cases t <;> rfl
@[simp] theorem isT_tup (cs : List PySem.Str) (t : Ty) (i : List D) : isT cs t (.tup i) = some (match t with | .tuple => true | _ => false) := by cases t <;> rfl
@[simp] theorem isT_lst (cs : List PySem.Str) (t : Ty) (i : List D) : isT cs t (.lst i) = some (match t with | .list => true | _ => false) := by cases t <;> rfl
@[simp] theorem isT_dct (cs : List PySem.Str) (t : Ty) (q : Bool) (i : List (D × D)) : isT cs t (.dct q i) = some (match t with | .dict => true | _ => false) := by cases t <;> rfl
@[simp] theorem dIsi_ap (cs : List PySem.Str) (t : Ty) (d : D) : dIsi cs t d = (rO (isT cs t d)).bind fun b => .ok (.val (.bl b)) := rfl
@[simp] theorem mAppend_l (ds : List D) (x : D) : mAppend (.lst ds) [x] = if ds.length < 16000000 then some (.lst (ds ++ [x]), .non) else none := rfl
@[simp] theorem mExtend_l (ds xs : List D) : mExtend (.lst ds) [.lst xs] = if ds.length + xs.length ≤ 16000000 then some (.lst (ds ++ xs), .non) else none := rfl
@[simp] theorem mPop_l (ds : List D) : mPop (.lst ds) [] = (ds[ds.length - 1]?).map fun x => (.lst ds.dropLast, x) := rfl
@[simp] theorem mPop_i (ds : List D) (i : Int) : mPop (.lst ds) [.int i] = (ixN ds.length i).bind fun j => (ds[j]?).map fun x => (.lst (ds.eraseIdx j), x) := rfl
@[simp] theorem mInsert_l (ds : List D) (i : Int) (x : D) : mInsert (.lst ds) [.int i, x] = if ds.length < 16000000 ∧ 0 ≤ i ∧ i < 2 ^ 63 then some (.lst (ds.take i.toNat ++ [x] ++ ds.drop i.toNat), .non) else none := rfl
@[simp] theorem mReverse_l (ds : List D) : mReverse (.lst ds) [] = some (.lst ds.reverse, .non) := rfl
@[simp] theorem setL_l (ds : List D) (k : Int) (v : D) : setL (.lst ds) (.int k) v = (ixN ds.length k).map fun j => .lst (ds.set j v) := rfl
theorem atI_num {ns : List Int} {p : Nat} (h : p < ns.length) : atI (ns.map D.int) (p : Int) = some (.int ns[p]) := atI_nat (by rw [List.getElem?_map, List.getElem?_eq_getElem h]; rfl)
/-- a tape as it stands -/
def TapeV (t : Tp) : Prop := ∃ (ns : List Int) (p : Nat) (a b c : Int), t = some (.lst [.lst (ns.map D.int), .int p, .int a, .int b, .int c])
end Pu
namespace Pu
open PySem L2
open Classical
/-! # plain helpers -/
@[simp] theorem nums_mapE {A : Type} (h : A → Int) (xs : List A) : nums (xs.map fun x => D.int (h x)) = some (xs.map h) := by
  have := ints_map (xs.map h)
  rwa [List.map_map] at this
@[simp] theorem bls_mapE {A : Type} (h : A → Bool) (xs : List A) : bls (xs.map fun x => D.bl (h x)) = some (xs.map h) := by
  have := bools_map (xs.map h)
  rwa [List.map_map] at this
@[simp] theorem iRng_ap (g : DA) (r : Env) (T : Tp) : iRng g r T = (g r T).bind fun p => (argR p.1).bind fun q => if -8000000 ≤ q.1 ∧ q.1 ≤ 8000000 ∧ -8000000 ≤ q.2 ∧ q.2 ≤ 8000000 then .ok (rngD q.1 (q.2 - q.1).toNat, p.2) else .stuck := rfl
@[simp] theorem rngD_len (lo : Int) (n : Nat) : (rngD lo n).length = n := by simp [rngD]
/-! sorting -/
theorem srt_uniq {xs ys : List Int} (p : xs.Perm ys) (h1 : xs.Pairwise (· ≤ ·)) (h2 : ys.Pairwise (· ≤ ·)) : xs = ys := List.Perm.eq_of_pairwise (fun a b _ _ h k => Int.le_antisymm h k) h1 h2 p
def dPr (p : Int × Int) : D := .tup [.int p.1, .int p.2]
/-- items of tuples and lists of whole numbers -/
theorem atI_ofNat {A : Type} {xs : List A} {k : Nat} {x : A} (h : xs[k]? = some x) : atI xs (k : Int) = some x := atI_nat h
theorem ixN_some {n : Nat} {i : Int} (h0 : 0 ≤ i) (h1 : i < n) : ixN n i = some i.toNat := by
  obtain ⟨k, rfl⟩ := Int.eq_ofNat_of_zero_le h0
  exact ixN_nat (by omega)
theorem atI_some {A : Type} {xs : List A} {i : Int} (h0 : 0 ≤ i) (h1 : i < xs.length) : atI xs i = some (xs[i.toNat]'(by omega)) := by
  obtain ⟨k, rfl⟩ := Int.eq_ofNat_of_zero_le h0
  refine atI_nat (List.getElem?_eq_getElem (by omega))
/-- the item at i, 0 beyond -/
def nth (s : List Int) (i : Nat) : Int := s.getD i 0
theorem nth_get {s : List Int} {i : Nat} (h : i < s.length) : nth s i = s[i] := by
  unfold nth
  rw [List.getD_eq_getElem?_getD, List.getElem?_eq_getElem h]
  rfl
theorem nth_mem {s : List Int} {i : Nat} (h : i < s.length) : nth s i ∈ s := by
  rw [nth_get h]
  exact List.getElem_mem h
/-- loops as they should be -/
def Lps (ns : List Int) : Prop := 0 < ns.length ∧ ns.length ≤ 8 ∧ ∀ i ∈ ns, 1 ≤ i ∧ i ≤ 40
@[simp] theorem erase_map : ∀ (xs : List Int) (j : Nat), (xs.map D.int).eraseIdx j = (xs.eraseIdx j).map D.int
  | [], _ => rfl
  | _ :: _, 0 => rfl
  | x :: xs, j + 1 => by simp [erase_map xs j]
/-! one statement behind another, with what holds between -/
def nxP (P : Env → Tp → Prop) : Fl × Tp → Prop
  | (.nx r, T) => P r T
  | _ => False
@[simp] theorem nxP_nx (P : Env → Tp → Prop) (r : Env) (T : Tp) : nxP P (.nx r, T) ↔ P r T := Iff.rfl
/-- the law, once its tape is made -/
theorem wp_law {i n : Nat} {f : DE} {g : DS} {ds : List D} {d : D} {T2 : Tp} (h : f (env0 n false ds) none = .ok (.own d, T2)) (k : wp (g ((env0 n false ds).set i (some .tape)) (some d)) fun p => p.1 = .rt (.val (.bl true))) :
    ∃ T, runD n false (fun r T => if T.isNone then sTape i f g r T else .stuck) ds none = .ok (.val (.bl true), T) := by
  have q : wp (sTape i f g (env0 n false ds) none) fun p => p = (.rt (.val (.bl true)), none) := by
    refine (sTape_ap i f g _ none d T2 h).mpr (wp_imp k fun p e => ⟨_, e, rfl⟩)
  obtain ⟨p, e, rfl⟩ := q
  refine ⟨none, ?_⟩
  rw [runD_ap]
  show (sTape i f g (env0 n false ds) none).bind endK = _
  rw [e]
  rfl
end Pu
namespace Pu
open PySem L2
open Classical
/-! ## while: by fuel that is enough -/
/-! ## slices opened; rows compared -/
@[simp] theorem partE_none (r : Env) (T : Tp) : partE none r T = .ok (none, T) := rfl
@[simp] theorem partE_some (f : DE) (r : Env) (T : Tp) : partE (some f) r T = (dt (f r T)).bind fun p => (dI p.1).bind fun i => .ok (some i, p.2) := rfl
@[simp] theorem eSl_ap (f : DE) (lo hi : Option DE) (r : Env) (T : Tp) : eSl f lo hi r T = (dt (f r T)).bind fun p => (partE lo r p.2).bind fun a => (partE hi r a.2).bind fun b => lift (dSl p.1 a.1 b.1) b.2 := rfl
@[simp] theorem dSl_l (ds : List D) (lo hi : Option Int) : dSl (.lst ds) lo hi = .ok (.own (.lst (cutA ds lo hi))) := rfl
@[simp] theorem dSl_t (ds : List D) (lo hi : Option Int) : dSl (.tup ds) lo hi = .ok (.val (.tup (cutA ds lo hi))) := rfl
theorem atI_last {A : Type} {xs : List A} {x : A} : atI (xs ++ [x]) (-1) = some x := by
  unfold L2.atI
  have e : ixN (xs ++ [x]).length (-1) = some xs.length := by
    unfold ixN
    rw [List.length_append, List.length_singleton, if_neg (by decide), if_pos (by omega)]
    congr 1
    omega
  rw [e]
  simp
theorem eqvAll_int : ∀ (ns ms : List Int), PyData.eqvAll (ns.map PyData.int) (ms.map PyData.int) = decide (ns = ms)
  | [], [] => by simp [PyData.eqvAll]
  | [], _ :: _ => by simp [PyData.eqvAll]
  | _ :: _, [] => by simp [PyData.eqvAll]
  | n :: ns, m :: ms => by
    rw [List.map_cons, List.map_cons, PyData.eqvAll, eqvAll_int ns ms, PyData.eqv]
    by_cases h : n = m <;> by_cases k : ns = ms <;> simp [h, k]
theorem pl_ints (ns : List Int) : ∀ d ∈ ns.map D.int, Pl 39 d := fun d hd => by
  obtain ⟨a, _, rfl⟩ := List.mem_map.mp hd
  simp
theorem py_ints (ns : List Int) : (ns.map D.int).map py = ns.map PyData.int := by
  rw [List.map_map]
  apply List.map_congr_left
  intro a _
  simp
theorem eqv_tt (ns ms : List Int) : PyData.eqv (py (.tup (ns.map D.int))) (py (.tup (ms.map D.int))) = decide (ns = ms) := by
  rw [py_tup, py_tup, py_ints, py_ints, PyData.eqv, eqvAll_int]
theorem eqv_ll (ns ms : List Int) : PyData.eqv (py (.lst (ns.map D.int))) (py (.lst (ms.map D.int))) = decide (ns = ms) := by
  rw [py_lst, py_lst, py_ints, py_ints, PyData.eqv, eqvAll_int]
@[simp] theorem dEq_tt (ns ms : List Int) : dEq (.tup (ns.map D.int)) (.tup (ms.map D.int)) = .ok (.val (.bl (decide (ns = ms)))) := by
  unfold dEq dPl
  rw [if_pos ⟨pl_ints ns, pl_ints ms, trivial⟩]
  simp only [eqv_tt]
@[simp] theorem dNe_tt (ns ms : List Int) : dNe (.tup (ns.map D.int)) (.tup (ms.map D.int)) = .ok (.val (.bl (!decide (ns = ms)))) := by
  unfold dNe dPl
  rw [if_pos ⟨pl_ints ns, pl_ints ms, trivial⟩]
  simp only [eqv_tt]
@[simp] theorem dEq_ll (ns ms : List Int) : dEq (.lst (ns.map D.int)) (.lst (ms.map D.int)) = .ok (.val (.bl (decide (ns = ms)))) := by
  unfold dEq dPl
  rw [if_pos ⟨pl_ints ns, pl_ints ms, trivial⟩]
  simp only [eqv_ll]
@[simp] theorem dNe_ll (ns ms : List Int) : dNe (.lst (ns.map D.int)) (.lst (ms.map D.int)) = .ok (.val (.bl (!decide (ns = ms)))) := by
  unfold dNe dPl
  rw [if_pos ⟨pl_ints ns, pl_ints ms, trivial⟩]
  simp only [eqv_ll]
/-! 1, 2, 4 and so on -/
end Pu
namespace Pu
open PySem L2
open Classical
/-! ## dicts -/
noncomputable def lookD (kvs : List (D × D)) (k : D) : Option D := (kvs.find? fun p => decide (p.1 = k)).map (·.2)
noncomputable def putD (kvs : List (D × D)) (k v : D) : List (D × D) := if (kvs.any fun p => decide (p.1 = k)) = true then kvs.map (fun p => if p.1 = k then (p.1, v) else p) else kvs ++ [(k, v)]
def keyT (ks : List Key) : D := .tup (ks.map kD)
/-- a key of that kind of dict -/
def KeyOk : Bool → D → Prop
  | false, k => ∃ q : Key, k = kD q
  | true, k => ∃ q : List Key, k = keyT q
theorem kD_inj {p q : Key} (h : kD p = kD q) : p = q := by
  cases p <;> cases q <;> cases h <;> rfl
theorem kDs_inj : ∀ {p q : List Key}, p.map kD = q.map kD → p = q
  | [], [], _ => rfl
  | [], _ :: _, h => by cases h
  | _ :: _, [], h => by cases h
  | a :: p, b :: q, h => by
    rw [List.map_cons, List.map_cons] at h
    injection h with h1 h2
    rw [kD_inj h1, kDs_inj h2]
theorem keyT_inj {p q : List Key} (h : keyT p = keyT q) : p = q := by
  unfold keyT at h
  injection h with h
  exact kDs_inj h
section
variable {K : PySem.W.Frag} {mg : PySem.Str → Option Value} {S : Addr → Prop} {H : Hp}
theorem Top.key {v : V} {k : Key} (h : Top K mg S H v (kD k)) : v = kV k := by
  cases k with
  | inl i => exact h.int
  | inr x => exact h.str
theorem Reps.keys : ∀ {ks : List Key} {vs : List V}, Reps K mg S H vs (ks.map kD) → vs = ks.map kV
  | [], vs, h => by cases h; rfl
  | k :: ks, vs, h => by
    cases h with
    | cons p t =>
      rw [Reps.keys t, (show Top K mg S H _ (kD k) from .inl p).key]
      rfl
theorem Top.tupH {v : V} {ds : List D} (h : Top K mg S H v (.tup ds)) : ∃ a vs, v = .ref a ∧ H a = some (.tup vs) ∧ Reps K mg S H vs ds := by
  rcases h with h | ⟨p, rfl, h⟩
  · cases h with
    | tup s e z q => exact ⟨_, _, rfl, e, q⟩
  · cases h
theorem Top.keyT {v : V} {ks : List Key} (h : Top K mg S H v (keyT ks)) : ∃ b, v = .ref b ∧ H b = some (.tup (ks.map kV)) := by
  obtain ⟨a, vs, rfl, e, q⟩ := h.tupH
  rw [q.keys] at e
  exact ⟨a, rfl, e⟩
theorem look_rel {κ : Type} [DecidableEq κ] {e : κ → D} (inj : ∀ p q, e p = e q → p = q) (k : κ) : ∀ {kvs : List (κ × V)} {ds : List (D × D)}, ds.map (·.1) = kvs.map (fun p => e p.1) → Reps K mg S H (kvs.map (·.2)) (ds.map (·.2)) →
    (valV kvs k = none ∧ lookD ds (e k) = none) ∨ ∃ v d, valV kvs k = some v ∧ lookD ds (e k) = some d ∧ Rep K mg S H v d
  | [], [], _, _ => .inl ⟨rfl, rfl⟩
  | [], _ :: _, h, _ => by cases h
  | _ :: _, [], h, _ => by cases h
  | p :: kvs, q :: ds, h, r => by
    rw [List.map_cons, List.map_cons] at h
    injection h with h1 h2
    rw [List.map_cons, List.map_cons] at r
    cases r with
    | cons r1 r2 =>
      by_cases c : p.1 = k
      · refine .inr ⟨p.2, q.2, valV_pos c, ?_, r1⟩
        unfold lookD
        rw [List.find?_cons_of_pos (by rw [h1, c]; exact decide_eq_true rfl)]
        rfl
      · have c2 : ¬ q.1 = e k := fun z => c (inj _ _ (h1.symm.trans z))
        have e2 : lookD (q :: ds) (e k) = lookD ds (e k) := by
          unfold lookD
          rw [List.find?_cons_of_neg (by rw [decide_eq_false c2]; exact Bool.false_ne_true)]
        rw [valV_neg c, e2]
        exact look_rel inj k h2 r2
theorem any_rel {κ : Type} [DecidableEq κ] {e : κ → D} (inj : ∀ p q, e p = e q → p = q) (k : κ) : ∀ {kvs : List (κ × V)} {ds : List (D × D)}, ds.map (·.1) = kvs.map (fun p => e p.1) → (ds.any fun p => decide (p.1 = e k)) = kvs.any fun p => decide (p.1 = k)
  | [], [], _ => rfl
  | [], _ :: _, h => by cases h
  | _ :: _, [], h => by cases h
  | p :: kvs, q :: ds, h => by
    rw [List.map_cons, List.map_cons] at h
    injection h with h1 h2
    rw [List.any_cons, List.any_cons, any_rel inj k h2, h1]
    congr 1
    by_cases c : p.1 = k
    · rw [c, decide_eq_true rfl, decide_eq_true rfl]
    · rw [decide_eq_false c, decide_eq_false fun z => c (inj _ _ z)]
theorem put_rel {κ : Type} [DecidableEq κ] {e : κ → D} (inj : ∀ p q, e p = e q → p = q) (k : κ) {v : V} {d : D} (rv : Rep K mg S H v d) {kvs : List (κ × V)} {ds : List (D × D)} (h : ds.map (·.1) = kvs.map (fun p => e p.1)) (r : Reps K mg S H (kvs.map (·.2)) (ds.map (·.2))) :
    (putD ds (e k) d).map (·.1) = (putK kvs k v).map (fun p => e p.1) ∧ Reps K mg S H ((putK kvs k v).map (·.2)) ((putD ds (e k) d).map (·.2)) := by
  unfold putD putK
  rw [any_rel inj k h]
  by_cases c : (kvs.any fun p => decide (p.1 = k)) = true
  · rw [if_pos c, if_pos c]
    clear c
    induction kvs generalizing ds with
    | nil =>
      cases ds with
      | nil => exact ⟨rfl, .nil⟩
      | cons => cases h
    | cons p kvs ih =>
      cases ds with
      | nil => cases h
      | cons q ds =>
        rw [List.map_cons, List.map_cons] at h
        injection h with h1 h2
        rw [List.map_cons, List.map_cons] at r
        cases r with
        | cons r1 r2 =>
          obtain ⟨i1, i2⟩ := ih h2 r2
          by_cases c : p.1 = k
          · have c2 : q.1 = e k := by rw [h1, c]
            simp only [List.map_cons, if_pos c, if_pos c2]
            exact ⟨by rw [i1, h1], .cons rv i2⟩
          · have c2 : ¬ q.1 = e k := fun z => c (inj _ _ (h1.symm.trans z))
            simp only [List.map_cons, if_neg c, if_neg c2]
            exact ⟨by rw [i1, h1], .cons r1 i2⟩
  · rw [if_neg c, if_neg c, List.map_append, List.map_append, List.map_append, List.map_append]
    exact ⟨by rw [h]; rfl, r.app (.cons rv .nil)⟩
/-- a dict that is looked into -/
theorem Top.dct {v : V} {t : Bool} {ds : List (D × D)} (h : Top K mg S H v (.dct t ds)) :
    (t = false ∧ ∃ a kvs, v = .ref a ∧ Rd H a (.dK kvs) ∧ kvs.length ≤ sizeLine ∧ ds.map (·.1) = kvs.map (fun p => kD p.1) ∧ Reps K mg S H (kvs.map (·.2)) (ds.map (·.2))) ∨
    (t = true ∧ ∃ a kvs, v = .ref a ∧ Rd H a (.dT kvs) ∧ kvs.length ≤ sizeLine ∧ ds.map (·.1) = kvs.map (fun p => Pu.keyT p.1) ∧ Reps K mg S H (kvs.map (·.2)) (ds.map (·.2))) := by
  rcases h with h | ⟨p, rfl, h⟩
  · cases h with
    | dK s e z g q => exact .inl ⟨rfl, _, _, rfl, .inl e, z, g, q⟩
    | dT s e z g q => exact .inr ⟨rfl, _, _, rfl, .inl e, z, g, q⟩
    | dKz s e z g q => exact .inl ⟨rfl, _, _, rfl, .inr ⟨_, e⟩, z, g, q⟩
    | dTz s e z g q => exact .inr ⟨rfl, _, _, rfl, .inr ⟨_, e⟩, z, g, q⟩
  · cases h with
    | dK e z g q => exact .inl ⟨rfl, _, _, rfl, .inl e, z, g, q⟩
    | dT e z g q => exact .inr ⟨rfl, _, _, rfl, .inl e, z, g, q⟩
theorem OwnAt.dct {p : Addr} {t : Bool} {ds : List (D × D)} (h : OwnAt K mg S H p (.dct t ds)) :
    (t = false ∧ ∃ kvs, H p = some (.dK kvs) ∧ kvs.length ≤ sizeLine ∧ ds.map (·.1) = kvs.map (fun p => kD p.1) ∧ Reps K mg S H (kvs.map (·.2)) (ds.map (·.2))) ∨
    (t = true ∧ ∃ kvs, H p = some (.dT kvs) ∧ kvs.length ≤ sizeLine ∧ ds.map (·.1) = kvs.map (fun p => Pu.keyT p.1) ∧ Reps K mg S H (kvs.map (·.2)) (ds.map (·.2))) := by
  cases h with
  | dK e z g q => exact .inl ⟨rfl, _, e, z, g, q⟩
  | dT e z g q => exact .inr ⟨rfl, _, e, z, g, q⟩
/-- what a look gives -/
theorem dget_of {x y : V} {t : Bool} {ds : List (D × D)} {k : D} (p : Top K mg S H x (.dct t ds)) (q : Top K mg S H y k) (hk : KeyOk t k) : ∃ a o, x = .ref a ∧ IsD H a ∧ DGet H a y o ∧ ((o = none ∧ lookD ds k = none) ∨ ∃ v d, o = some v ∧ lookD ds k = some d ∧ Rep K mg S H v d) := by
  rcases p.dct with ⟨rfl, a, kvs, rfl, e, z, g, r⟩ | ⟨rfl, a, kvs, rfl, e, z, g, r⟩
  · obtain ⟨u, rfl⟩ := hk
    rw [q.key]
    exact ⟨a, valV kvs u, rfl, .inl ⟨kvs, e⟩, .inl ⟨kvs, u, e, rfl, rfl⟩, look_rel (fun _ _ => kD_inj) u g r⟩
  · obtain ⟨u, rfl⟩ := hk
    obtain ⟨b, rfl, eb⟩ := q.keyT
    exact ⟨a, valV kvs u, rfl, .inr ⟨kvs, e⟩, .inr ⟨kvs, u, b, e, rfl, eb, rfl⟩, look_rel (fun _ _ => keyT_inj) u g r⟩
end
/-! d[k], k in d -/
noncomputable def dGet : D → D → Rs VD
  | .dct t ds, k => if KeyOk t k then (rO (lookD ds k)).bind fun d => .ok (.val d) else .stuck
  | _, _ => .stuck
noncomputable def dInD : D → D → Rs VD
  | k, .dct t ds => if KeyOk t k then .ok (.val (.bl (lookD ds k).isSome)) else .stuck
  | _, _ => .stuck
noncomputable def dNinD : D → D → Rs VD
  | k, .dct t ds => if KeyOk t k then .ok (.val (.bl (!(lookD ds k).isSome))) else .stuck
  | _, _ => .stuck
theorem q_get : Quiet2 dGet := fun d e => by
  unfold dGet
  split <;> first | exact quiet_s | exact quiet_if (quiet_r fun _ => quiet_v) quiet_s
theorem q_nind : Quiet2 dNinD := fun d e => by
  unfold dNinD
  split <;> first | exact quiet_s | exact quiet_if quiet_v quiet_s
def rDGet : R2 := fun x y H Q => ∃ a v, x = .ref a ∧ DGet H a y (some v) ∧ Q v H
def rDNin : R2 := fun y x H Q => ∃ a o, x = .ref a ∧ DGet H a y o ∧ Q (.bl (!o.isSome)) H
theorem ifs_ok {p : Prop} [Decidable p] {x : Rs VD} {z : VD} (h : (if p then x else .stuck) = Rs.ok z) : p ∧ x = .ok z := by
  by_cases c : p
  · rw [if_pos c] at h
    exact ⟨c, h⟩
  · rw [if_neg c] at h
    cases h
section
variable {K : PySem.W.Frag} {mg : PySem.Str → Option Value}
theorem d_get : R2D K mg rDGet dGet := fun S H x y dx dy Q z t p q e k => by
  unfold dGet at e
  split at e
  · obtain ⟨hk, e⟩ := ifs_ok e
    obtain ⟨d, ed, e⟩ := o_ok e
    cases e
    obtain ⟨a, o, rfl, _, g, h⟩ := dget_of p q hk
    rcases h with ⟨_, h⟩ | ⟨v, d2, rfl, h, r⟩
    · rw [h] at ed
      cases ed
    · rw [h] at ed
      cases ed
      exact ⟨a, v, rfl, g, k.pure r⟩
  · cases e
theorem d_nind : R2D K mg rDNin dNinD := fun S H x y dx dy Q z t p q e k => by
  unfold dNinD at e
  split at e
  · obtain ⟨hk, e⟩ := ifs_ok e
    cases e
    obtain ⟨a, o, rfl, _, g, h⟩ := dget_of q p hk
    refine ⟨a, o, rfl, g, ?_⟩
    rcases h with ⟨rfl, h⟩ | ⟨v, d2, rfl, h, r⟩
    · rw [h] at k
      exact k.pure (.bl _)
    · rw [h] at k
      exact k.pure (.bl _)
  · cases e
end
section
variable {X : Cx} {C : FC} {a b : Expr} {f g h : DE} {pos : Pos}
theorem op_dnin (hu : X.A.units + 1 < cLine) : OpR X (compareOp .NotIn) rDNin := by
  rintro ps s σ H y x iv u Q I ry rx ⟨a, o, rfl, gt, q⟩
  obtain rfl : u = Value.ref a := rx
  exact d_notIn hu I gt ry fun s' I' => ⟨.bl (!o.isSome), H, I', rfl, q⟩
theorem u1 {k : Nat} {A : Around} (r : Room k A) : A.units + 1 < cLine := by
  have := r.un
  omega
/-! d.get(k), d.get(k, x) -/
noncomputable def getK (k e : D) : D → Rs D
  | .dct t ds => if KeyOk t k then .ok ((lookD ds k).getD e) else .stuck
  | _ => .stuck
def isDctR : D → Rs Unit
  | .dct _ _ => .ok ()
  | _ => .stuck
noncomputable def eGet2 (f g h : DE) : DE := fun r T => (dt (f r T)).bind fun p => (isDctR p.1).bind fun _ => (dt (g r p.2)).bind fun q => (dv (h r q.2)).bind fun w => (getK q.1 w.1 p.1).bind fun d => .ok (.val d, w.2)
noncomputable def eGet1 (f g : DE) : DE := fun r T => (dt (f r T)).bind fun p => (isDctR p.1).bind fun _ => (dt (g r p.2)).bind fun q => (getK q.1 .non p.1).bind fun d => .ok (.val d, q.2)
/-! {} -/
def eDct (t : Bool) : DE := fun _ T => .ok (.own (.dct t []), T)
theorem se_dct (t : Bool) : SE X C (.Dict [] [] pos) (eDct t) := by
  cases t with
  | false =>
    refine pe_imp pe_dnewK ?_
    rintro σ H Q ⟨ρ, T, h, P⟩
    exact fun p hp => gv_res (z := .own (.dct false [])) h P (fun _ => ⟨nofun, nofun, nofun⟩) p _ hp (same_new hp) (.dK upd_same (Nat.zero_le _) rfl .nil)
  | true =>
    refine pe_imp pe_dnewT ?_
    rintro σ H Q ⟨ρ, T, h, P⟩
    exact fun p hp => gv_res (z := .own (.dct true [])) h P (fun _ => ⟨nofun, nofun, nofun⟩) p _ hp (same_new hp) (.dT upd_same (Nat.zero_le _) rfl .nil)
end
/-! d[k] = v -/
noncomputable def setD : D → D → D → Option D
  | .dct t ds, k, v => if KeyOk t k ∧ ds.length < 16000000 then some (.dct t (putD ds k v)) else none
  | _, _, _ => none
theorem putK_len {κ : Type} [DecidableEq κ] (kvs : List (κ × V)) (k : κ) (v : V) : (putK kvs k v).length ≤ kvs.length + 1 := by
  unfold putK
  split
  · rw [List.length_map]
    omega
  · rw [List.length_append, List.length_singleton]
    omega
theorem d_setD {K : PySem.W.Frag} {mg : PySem.Str → Option Value} : PStD K mg rSetD setD := fun S H p d i v di dx Q d' hp o ti rv e k => by
  unfold setD at e
  split at e
  · obtain ⟨⟨hk, hl⟩, rfl⟩ := ifo e
    rcases o.dct with ⟨rfl, kvs, h1, z, g, r⟩ | ⟨rfl, kvs, h1, z, g, r⟩
    · obtain ⟨u, rfl⟩ := hk
      rw [ti.key]
      have hlen : kvs.length < sizeLine := by
        have := congrArg List.length g
        rw [List.length_map, List.length_map] at this
        rw [sizeLine_eq]
        omega
      obtain ⟨q1, q2⟩ := put_rel (fun _ _ => kD_inj) u (rv.upd (u := .dK (putK kvs u v)) hp) g (r.upd hp)
      have hz : (putK kvs u v).length ≤ sizeLine := Nat.le_trans (putK_len kvs u v) hlen
      exact ⟨p, _, rfl, .k h1 hlen, k _ upd_else (.dK upd_same hz q1 q2)⟩
    · obtain ⟨u, rfl⟩ := hk
      obtain ⟨b, rfl, eb⟩ := ti.keyT
      have hlen : kvs.length < sizeLine := by
        have := congrArg List.length g
        rw [List.length_map, List.length_map] at this
        rw [sizeLine_eq]
        omega
      obtain ⟨q1, q2⟩ := put_rel (fun _ _ => keyT_inj) u (rv.upd (u := .dT (putK kvs u v)) hp) g (r.upd hp)
      have hz : (putK kvs u v).length ≤ sizeLine := Nat.le_trans (putK_len kvs u v) hlen
      exact ⟨p, _, rfl, .t h1 eb hlen, k _ upd_else (.dT upd_same hz q1 q2)⟩
  · cases e
end Pu
namespace Pu
open PySem L2
open Classical
/-! ## a[b], b in a, a[b] = c of a sequence or a dict, by what it is -/
theorem ix_dict {X : Cx} (hu : X.A.units + 1 < cLine) : IxR X rDGet := by
  intro value slice pins s σ H x y v u Q I rx ry h hs
  obtain ⟨a, w, rfl, g, q⟩ := h
  obtain rfl : v = Value.ref a := rx
  exact PyProof.Rows.tail_any (dict_typeIs I g) PySem.F.slot_dict_getitem.lookup (d_getItem hu I g ry fun w' s3 I3 rw' => ⟨w, H, I3, rw', q⟩) hs
def rIxA (K : PySem.W.Frag) : R2 := fun x y H Q => L2.rIx K x y H Q ∨ rDGet x y H Q
theorem ix_any {X : Cx} (hu : X.A.units + 1 < cLine) : IxR X (rIxA X.K) := ix_seq.or (ix_dict hu)
noncomputable def dIxA : D → D → Rs VD
  | .dct t ds, k => dGet (.dct t ds) k
  | .tpl ns, .int i => (rO (atI ns i)).bind fun n => .ok (.val (.int n))
  | d, k => dIx d k
theorem q_ixa : Quiet2 dIxA := fun d e => by
  unfold dIxA
  split
  · exact q_get _ _
  · exact quiet_r fun _ => quiet_v
  · exact q_ix _ _
theorem d_ixa {K : PySem.W.Frag} {mg : PySem.Str → Option Value} : R2D K mg (rIxA K) dIxA := fun S H x y dx dy Q z t p q e k => by
  unfold dIxA at e
  split at e
  · exact .inr (d_get S H x y _ dy Q z t p q e k)
  · obtain ⟨n, en, e⟩ := o_ok e
    cases e
    obtain ⟨a, rfl, h1, z1⟩ := p.tplT
    rw [q.int]
    refine .inl (.inr (.inl ⟨a, _, _, .int n, rfl, rfl, h1, ?_, k.pure (.int n)⟩))
    unfold atI at en ⊢
    rw [List.length_map]
    obtain ⟨j, ej, en⟩ := Option.bind_eq_some_iff.mp en
    rw [ej]
    simp [en]
  · exact .inl (d_ix S H x y dx dy Q z t p q e k)
@[simp] theorem dIxA_l (ds : List D) (i : Int) : dIxA (.lst ds) (.int i) = (rO (atI ds i)).bind fun d => .ok (.val d) := rfl
@[simp] theorem dIxA_t (ds : List D) (i : Int) : dIxA (.tup ds) (.int i) = (rO (atI ds i)).bind fun d => .ok (.val d) := rfl
@[simp] theorem dIxA_p (ns : List Int) (i : Int) : dIxA (.tpl ns) (.int i) = (rO (atI ns i)).bind fun n => .ok (.val (.int n)) := rfl
@[simp] theorem dIxA_d (t : Bool) (ds : List (D × D)) (k : D) : dIxA (.dct t ds) k = if KeyOk t k then (rO (lookD ds k)).bind fun d => .ok (.val d) else .stuck := rfl
noncomputable def dInA : D → D → Rs VD
  | k, .dct t ds => dInD k (.dct t ds)
  | k, d => dInS k d
noncomputable def dNinA : D → D → Rs VD
  | k, .dct t ds => dNinD k (.dct t ds)
  | k, d => dNinS k d
def rNinA (K : PySem.W.Frag) (mg : PySem.Str → Option Value) : R2 := fun x y H Q => rPl K mg (fun _ e => isSeq e) (fun d e => !(itemsD e).any fun y => PyData.eqv (py y) (py d)) x y H Q ∨ rDNin x y H Q
theorem op_ninA {X : Cx} (hu : X.A.units + 64 < cLine) : OpR X (compareOp .NotIn) (rNinA X.K X.mg) := (op_ninP hu).or (op_dnin (by omega))
theorem q_nina : Quiet2 dNinA := fun d e => by
  unfold dNinA
  split
  · exact q_nind _ _
  · exact q_pl _ _
theorem d_nina {K : PySem.W.Frag} {mg : PySem.Str → Option Value} : R2D K mg (rNinA K mg) dNinA := fun S H x y dx dy Q z t p q e k => by
  unfold dNinA at e
  split at e
  · exact .inr (d_nind S H x y dx _ Q z t p q e k)
  · exact .inl (d_pl S H x y dx dy Q z t p q e k)
@[simp] theorem dInA_d (k : D) (t : Bool) (ds : List (D × D)) : dInA k (.dct t ds) = if KeyOk t k then .ok (.val (.bl (lookD ds k).isSome)) else .stuck := rfl
@[simp] theorem dNinA_d (k : D) (t : Bool) (ds : List (D × D)) : dNinA k (.dct t ds) = if KeyOk t k then .ok (.val (.bl (!(lookD ds k).isSome))) else .stuck := rfl
@[simp] theorem dInA_l (k : D) (ds : List D) : dInA k (.lst ds) = dInS k (.lst ds) := rfl
@[simp] theorem dInA_t (k : D) (ds : List D) : dInA k (.tup ds) = dInS k (.tup ds) := rfl
@[simp] theorem dNinA_l (k : D) (ds : List D) : dNinA k (.lst ds) = dNinS k (.lst ds) := rfl
@[simp] theorem dNinA_t (k : D) (ds : List D) : dNinA k (.tup ds) = dNinS k (.tup ds) := rfl
def rSetA : TSet := fun o i v H Q => L2.rSetL o i v H Q ∨ L2.rSetD o i v H Q
theorem set_any {X : Cx} (hu : X.A.units + 1 < cLine) : PSet X rSetA := by
  intro pins s σ H o i v ov iv u Q I ro ri rv h
  rcases h with h | h
  · exact set_list pins s σ H o i v ov iv u Q I ro ri rv h
  · exact set_dict hu pins s σ H o i v ov iv u Q I ro ri rv h
noncomputable def setA : D → D → D → Option D
  | .dct t ds, k, v => setD (.dct t ds) k v
  | d, k, v => setL d k v
theorem d_setA {K : PySem.W.Frag} {mg : PySem.Str → Option Value} : PStD K mg rSetA setA := fun S H p d i v di dx Q d' hp o ti rv e k => by
  unfold setA at e
  split at e
  · exact .inr (d_setD S H p _ i v di dx Q d' hp o ti rv e k)
  · exact .inl (d_setL S H p d i v di dx Q d' hp o ti rv e k)
@[simp] theorem setA_l (ds : List D) (k : Int) (v : D) : setA (.lst ds) (.int k) v = (ixN ds.length k).map fun j => .lst (ds.set j v) := rfl
@[simp] theorem setA_d (t : Bool) (ds : List (D × D)) (k v : D) : setA (.dct t ds) k v = if KeyOk t k ∧ ds.length < 16000000 then some (.dct t (putD ds k v)) else none := rfl
@[simp] theorem keyOk_i (i : Int) : KeyOk false (.int i) := ⟨.inl i, rfl⟩
@[simp] theorem keyOk_s (x : PySem.Str) : KeyOk false (.str x) := ⟨.inr x, rfl⟩
@[simp] theorem eDct_ap (t : Bool) (r : Env) (T : Tp) : eDct t r T = .ok (.own (.dct t []), T) := rfl
@[simp] theorem eGet2_ap (f g h : DE) (r : Env) (T : Tp) : eGet2 f g h r T = (dt (f r T)).bind fun p => (isDctR p.1).bind fun _ => (dt (g r p.2)).bind fun q => (dv (h r q.2)).bind fun w => (getK q.1 w.1 p.1).bind fun d => .ok (.val d, w.2) := rfl
@[simp] theorem eGet1_ap (f g : DE) (r : Env) (T : Tp) : eGet1 f g r T = (dt (f r T)).bind fun p => (isDctR p.1).bind fun _ => (dt (g r p.2)).bind fun q => (getK q.1 .non p.1).bind fun d => .ok (.val d, q.2) := rfl
@[simp] theorem isDctR_d (t : Bool) (ds : List (D × D)) : isDctR (.dct t ds) = .ok () := rfl
@[simp] theorem getK_d (k e : D) (t : Bool) (ds : List (D × D)) : getK k e (.dct t ds) = if KeyOk t k then .ok ((lookD ds k).getD e) else .stuck := rfl
/-! len of a dict too -/
def bLenA : List D → Rs VD
  | [.dct _ ds] => .ok (.val (.int ds.length))
  | [.tpl ns] => .ok (.val (.int ns.length))
  | ds => bLen ds
theorem q_lena : QuietN bLenA := fun ds => by
  unfold bLenA
  split
  · exact quiet_v
  · exact quiet_v
  · exact q_len _
/-- the length of a dict, also of one that is locked -/
def rLenZ : List V → Hp → VK → Prop := fun xs H Q => ∃ a, xs = [V.ref a] ∧ ((∃ kvs, Rd H a (.dK kvs) ∧ Q (.int kvs.length) H) ∨ ∃ kvs, Rd H a (.dT kvs) ∧ Q (.int kvs.length) H)
theorem call_lenZ {X : Cx} : CallR X (.builtin "len") rLenZ := fun pins s σ H xs us Q I r ⟨a, ex, hq⟩ => by
  subst ex
  obtain ⟨u, rfl, rx⟩ := vals1 r
  cases rx
  rcases hq with ⟨kvs, ha, q⟩ | ⟨kvs, ha, q⟩
  · exact L2.d_len I ha fun t s' J => ⟨.int kvs.length, H, J, ⟨t, rfl⟩, q⟩
  · obtain ⟨z1, z2, ys, z3, z4⟩ := dt_rd I.hok ha
    have el := Paired.length z3
    rw [el] at z1 q
    exact call_len_dictH z2 z4 (by rw [sizeLine_eq] at z1; omega) ⟨.int ys.length, H, I.tok _, ⟨_, rfl⟩, q⟩
def rLenA (K : PySem.W.Frag) : List V → Hp → VK → Prop := fun xs H Q => rLen K xs H Q ∨ rLenZ xs H Q
theorem call_lenA {X : Cx} : CallR X (.builtin "len") (rLenA X.K) := CallR.or call_len call_lenZ
theorem d_lena {K : PySem.W.Frag} {mg : PySem.Str → Option Value} : RnD K mg (rLenA K) bLenA := fun S H xs ds Q z t hp e k => by
  unfold bLenA at e
  split at e
  · cases e
    obtain ⟨x, rfl, p⟩ := topv1 hp
    rcases p.dct with ⟨rfl, a, kvs, rfl, h1, z1, g, r⟩ | ⟨rfl, a, kvs, rfl, h1, z1, g, r⟩
    · have := congrArg List.length g
      rw [List.length_map, List.length_map] at this
      rw [this] at k
      exact .inr ⟨a, rfl, .inl ⟨kvs, h1, k.pure (.int _)⟩⟩
    · have := congrArg List.length g
      rw [List.length_map, List.length_map] at this
      rw [this] at k
      exact .inr ⟨a, rfl, .inr ⟨kvs, h1, k.pure (.int _)⟩⟩
  · cases e
    obtain ⟨x, rfl, p⟩ := topv1 hp
    obtain ⟨a, rfl, h1, z1⟩ := p.tplT
    exact .inl ⟨.ref a, _, rfl, .inr ⟨_, h1, by rw [List.length_map]⟩, k.pure (.int _)⟩
  · exact .inl (d_len S H xs ds Q z t hp e k)
@[simp] theorem bLenA_d (t : Bool) (ds : List (D × D)) : bLenA [.dct t ds] = .ok (.val (.int ds.length)) := rfl
@[simp] theorem bLenA_l (ds : List D) : bLenA [.lst ds] = .ok (.val (.int ds.length)) := rfl
@[simp] theorem bLenA_t (ds : List D) : bLenA [.tup ds] = .ok (.val (.int ds.length)) := rfl
@[simp] theorem bLenA_p (ns : List Int) : bLenA [.tpl ns] = .ok (.val (.int ns.length)) := rfl
@[simp] theorem bLenA_c (ns : List Int) : bLenA [.scr ns] = .ok (.val (.int ns.length)) := rfl
end Pu
namespace Pu
open PySem L2
/-! # loops in order, greedy rows -/
/-! the greedy row of a doubling list is exact -/
def sm (ps : List (Int × Int)) : Int := (ps.map (·.1)).sum
@[simp] theorem sm_nil : sm [] = 0 := rfl
@[simp] theorem sm_cons (p : Int × Int) (ps : List (Int × Int)) : sm (p :: ps) = p.1 + sm ps := by simp [sm]
theorem any_int (k : Int) : ∀ ns : List Int, ((ns.map D.int).any fun y => PyData.eqv (py y) (py (.int k))) = decide (k ∈ ns)
  | [] => rfl
  | n :: ns => by
    rw [List.map_cons, List.any_cons, any_int k ns, py_int, py_int, PyData.eqv]
    by_cases h : n = k
    · subst h
      simp
    · have h2 : ¬ k = n := fun z => h z.symm
      by_cases c : k ∈ ns <;> simp [h, h2, c]
theorem pl_in (ns : List Int) : Pl 40 (.tup (ns.map D.int)) ∧ Pl 40 (.lst (ns.map D.int)) := ⟨pl_ints ns, pl_ints ns⟩
@[simp] theorem dInS_t (k : Int) (ns : List Int) : dInS (.int k) (.tup (ns.map D.int)) = .ok (.val (.bl (decide (k ∈ ns)))) := by
  unfold dInS dPl
  rw [if_pos ⟨by simp, (pl_in ns).1, .inr (.inl ⟨_, rfl⟩)⟩]
  simp only [itemsD, any_int]
@[simp] theorem dInS_l (k : Int) (ns : List Int) : dInS (.int k) (.lst (ns.map D.int)) = .ok (.val (.bl (decide (k ∈ ns)))) := by
  unfold dInS dPl
  rw [if_pos ⟨by simp, (pl_in ns).2, .inl ⟨_, rfl⟩⟩]
  simp only [itemsD, any_int]
@[simp] theorem dNinS_t (k : Int) (ns : List Int) : dNinS (.int k) (.tup (ns.map D.int)) = .ok (.val (.bl (!decide (k ∈ ns)))) := by
  unfold dNinS dPl
  rw [if_pos ⟨by simp, (pl_in ns).1, .inr (.inl ⟨_, rfl⟩)⟩]
  simp only [itemsD, any_int]
@[simp] theorem dNinS_l (k : Int) (ns : List Int) : dNinS (.int k) (.lst (ns.map D.int)) = .ok (.val (.bl (!decide (k ∈ ns)))) := by
  unfold dNinS dPl
  rw [if_pos ⟨by simp, (pl_in ns).2, .inl ⟨_, rfl⟩⟩]
  simp only [itemsD, any_int]
end Pu
namespace HT
open PySem PySem.Spec PyProof.Rows
theorem pu_mul1 (l : Addr) (items : Array Value) (n : Nat) (dd : Option Addr) (sl : Array (Option Value)) (u : Tok) :
    Meets (Builtin.«tuple.__mul__» ⟨[.ref l, .int 1 u], []⟩) (fun _ R s => s.heap.get? l = some { cls := .type "tuple", dict := dd, data := .seq items n, slots := sl } ∧ R (.ok (.ret (Value.ref l))) s) :=
  .of_wp fun prog w A R s h => by
    obtain ⟨hp, g, d, tk, os⟩ := s
    obtain ⟨hl, h⟩ := h
    have f1 := AutoSeq1.idx_int
    wp_walk using wpAny_loadPart' hl
    exact ⟨_, rfl, h⟩
theorem pu_mul0 (l : Addr) (items : Array Value) (n : Nat) (dd : Option Addr) (sl : Array (Option Value)) (x : Int) (u : Tok) (c0 : (decide (x < -(2 ^ 63)) || decide (x ≥ 2 ^ 63)) = false) (c1 : (items.isEmpty || x == 1) = false) (c2 : (decide (x ≤ 0) || items.isEmpty) = true) :
    Meets (Builtin.«tuple.__mul__» ⟨[.ref l, .int x u], []⟩) (fun _ R s => s.heap.get? l = some { cls := .type "tuple", dict := dd, data := .seq items n, slots := sl } ∧
      R (.ok (.ret (Value.ref s.heap.objs.size))) { s with heap := s.heap.push { cls := Value.type "tuple", data := Data.seq #[] }, toks := s.toks }) :=
  .of_wp fun prog w A R s h => by
    obtain ⟨hp, g, d, tk, os⟩ := s
    obtain ⟨hl, h⟩ := h
    have f1 := AutoSeq1.idx_int
    wp_walk using wpAny_loadPart' hl
    repeat (first
      | (refine wpAny_ite_false (decide_eq_false (by rw [c0]; exact Bool.false_ne_true)) ?_; wp_walk using wpAny_loadPart' hl)
      | (refine wpAny_ite_false (decide_eq_false (by rw [c1]; exact Bool.false_ne_true)) ?_; wp_walk using wpAny_loadPart' hl)
      | (refine wpAny_ite_true (decide_eq_true c2) ?_; wp_walk using wpAny_loadPart' hl))
    exact ⟨_, rfl, h⟩
end HT
namespace Pu
open PySem L2 PySem.Spec PyProof.Rows
/-! ## rows repeated -/
def rRepA (K : PySem.W.Frag) : R2 := fun x y H Q => ∃ l k xs, x = .ref l ∧ y = .int k ∧ SqT K H l xs ∧ xs ≠ [] ∧ xs.length ≤ 1000 ∧ ((k = 1 ∧ Q (.ref l) H) ∨ (k ≤ 0 ∧ -(2 ^ 62) < k ∧ ∀ p, H p = none → Q (.ref p) (upd H p (.tup []))))
theorem op_repA {X : Cx} : OpR X (binaryOp .Mult) (rRepA X.K) := by
  intro pins s σ H x y v u Q I rx ry h
  obtain ⟨l, k, xs, rfl, rfl, hT, hne, hz, h⟩ := h
  cases rx
  obtain ⟨t, rfl⟩ := ry
  obtain ⟨its, r, ⟨⟨cls, dd, data, sl⟩, ho, hc, n, hd⟩, hs⟩ := I.tuple hT
  simp only at hc hd
  subst hc hd
  have hle : its.length = xs.length := r.length.symm
  have hi : its.toArray.isEmpty = false := by
    cases its with
    | nil => exact absurd (List.eq_nil_of_length_eq_zero hle.symm) hne
    | cons a b => rfl
  rcases h with ⟨rfl, q⟩ | ⟨k0, k1, q⟩
  · refine wpAny_binaryOp_repeat_ref (T := "tuple") (U := "int") (by decide) ⟨_, ho, rfl⟩ (fun s' => typeIs_int s' 1 t) noFill_tuple_mul F.fills_int_mul F.slot_int_rmul repeat_tuple F.slot_int_index.lookup ?_
    refine call_meets F.slot_int_rmul (typeIs_int s 1 t) F.entry_int_rmul (F.args_int_rmul_2 _ _) (int_rmul_tuple 1 t l its.toArray n dd sl) ⟨ho, rfl, ⟨_, ho, rfl⟩, ?_⟩
    exact call_meets F.slot_tuple_mul ⟨_, ho, rfl⟩ F.entry_tuple_mul (F.args_tuple_mul_2 _ _) (HT.pu_mul1 l its.toArray n dd sl t) ⟨ho, ⟨.ref l, H, I, rfl, q⟩⟩
  · have c0 : (decide (k < -(2 ^ 63)) || decide (k ≥ 2 ^ 63)) = false := by
      rw [decide_eq_false (by omega), decide_eq_false (by omega)]
      rfl
    have c1 : (its.toArray.isEmpty || k == 1) = false := by
      rw [hi, Bool.false_or]
      exact beq_eq_false_iff_ne.mpr (by omega)
    have c2 : (decide (k ≤ 0) || its.toArray.isEmpty) = true := by
      rw [decide_eq_true k0]
      rfl
    refine wpAny_binaryOp_repeat_ref (T := "tuple") (U := "int") (by decide) ⟨_, ho, rfl⟩ (fun s' => typeIs_int s' k t) noFill_tuple_mul F.fills_int_mul F.slot_int_rmul repeat_tuple F.slot_int_index.lookup ?_
    refine call_meets F.slot_int_rmul (typeIs_int s k t) F.entry_int_rmul (F.args_int_rmul_2 _ _) (int_rmul_tuple k t l its.toArray n dd sl) ⟨ho, rfl, ⟨_, ho, rfl⟩, ?_⟩
    refine call_meets F.slot_tuple_mul ⟨_, ho, rfl⟩ F.entry_tuple_mul (F.args_tuple_mul_2 _ _) (HT.pu_mul0 l its.toArray n dd sl k t c0 c1 c2) ⟨ho, ?_⟩
    refine ⟨.ref s.heap.objs.size, _, I.laid (t' := s.toks) (o := .tup []) (fun b ob q => Heap.get?_push_of_some _ q) (Nat.le_refl _) ?_, rfl, q _ (I.hok.fresh (Nat.le_refl _))⟩
    exact ⟨Nat.zero_le _, [], .nil, IsTup.new _ _⟩
def rMulA (K : PySem.W.Frag) : R2 := fun x y H Q => rI CMul (fun i j => .int (i * j)) x y H Q ∨ rRepA K x y H Q ∨ L2.rRepT K x y H Q ∨ L2.rRep x y H Q
theorem op_mulA {X : Cx} : OpR X (binaryOp .Mult) (rMulA X.K) := op_mul.or (op_repA.or (op_repT.or op_rep))
def repA {A : Type} (xs : List A) (k : Int) : List A := (List.replicate k.toNat xs).flatten
def dMulA : D → D → Rs VD
  | .tup ds, .int k => if ds ≠ [] ∧ ds.length ≤ 1000 ∧ -(2 ^ 62) < k ∧ k ≤ 1000 then .ok (.val (.tup (repA ds k))) else .stuck
  | .lst ds, .int k => if -(2 ^ 62) < k ∧ k ≤ 16000 ∧ ds.length ≤ 1000 then .ok (.own (.lst (repA ds k))) else .stuck
  | d, e => dMul d e
theorem q_mula : Quiet2 dMulA := fun d e => by
  unfold dMulA
  split <;> first | exact quiet_if quiet_v quiet_s | exact quiet_if quiet_o quiet_s | exact q_mul _ _
theorem Reps.rep {K : PySem.W.Frag} {mg : PySem.Str → Option Value} {S : Addr → Prop} {H : Hp} {vs : List V} {ds : List D} (r : Reps K mg S H vs ds) : ∀ n : Nat, Reps K mg S H (List.replicate n vs).flatten (List.replicate n ds).flatten
  | 0 => .nil
  | n + 1 => by
    rw [List.replicate_succ, List.replicate_succ, List.flatten_cons, List.flatten_cons]
    exact r.app (Reps.rep r n)
theorem d_mula {K : PySem.W.Frag} {mg : PySem.Str → Option Value} : R2D K mg (rMulA K) dMulA := fun S H x y dx dy Q z t p q e k => by
  unfold dMulA at e
  split at e
  · rename_i ds i
    obtain ⟨⟨c1, c2, c3, c4⟩, rfl⟩ := if_ok e
    have pr := p.rep
    obtain ⟨a, vs, rfl, h1, z1, r⟩ := p.sqT
    have hl := r.len
    have hne : vs ≠ [] := fun w => c1 (List.eq_nil_of_length_eq_zero (by rw [← hl, w]; rfl))
    rw [q.int]
    by_cases k1 : i = 1
    · subst k1
      refine .inr (.inl ⟨a, 1, vs, rfl, rfl, h1, hne, by omega, .inl ⟨rfl, ?_⟩⟩)
      have e1 : repA ds 1 = ds := by unfold repA; simp
      rw [e1] at k
      exact k.pure pr
    · by_cases k0 : i ≤ 0
      · refine .inr (.inl ⟨a, i, vs, rfl, rfl, h1, hne, by omega, .inr ⟨k0, c3, fun u hu => ?_⟩⟩)
        have e1 : repA ds i = [] := by unfold repA; rw [show i.toNat = 0 by omega]; rfl
        rw [e1] at k
        exact k.newT t hu (Nat.zero_le _) .nil
      · refine .inr (.inr (.inl ⟨a, i, vs, rfl, rfl, h1, hne, by omega, c4, by omega, fun u hu => k.newT t hu ?_ (r.rep i.toNat)⟩))
        rw [PyProof.Rows.lm_len_rep_flat, sizeLine_eq]
        have a1 : i.toNat * vs.length ≤ 1000 * 1000 := Nat.mul_le_mul (by omega) (by omega)
        omega
  · rename_i ds i
    obtain ⟨⟨c3, c4, c5⟩, rfl⟩ := if_ok e
    obtain ⟨a, vs, rfl, h1, z1, r⟩ := p.sqL
    have hl := r.len
    have a1 : vs.length * i.toNat ≤ 1000 * 16000 := Nat.mul_le_mul (by omega) (by omega)
    rw [q.int]
    refine .inr (.inr (.inr ⟨a, i, vs, rfl, rfl, h1, by omega, by omega, by rw [sizeLine_eq]; omega, fun u hu => k.newL hu ?_ (r.rep i.toNat)⟩))
    rw [PyProof.Rows.lm_len_rep_flat, sizeLine_eq]
    rw [Nat.mul_comm] at a1
    omega
  · exact .inl (d_mul S H x y dx dy Q z t p q e k)
@[simp] theorem dMulA_ii (i j : Int) : dMulA (.int i) (.int j) = if (-(2 ^ 64) < i ∧ i < 2 ^ 64) ∨ (-(2 ^ 64) < j ∧ j < 2 ^ 64) then .ok (.val (.int (i * j))) else .stuck := rfl
@[simp] theorem dMulA_t (ds : List D) (k : Int) : dMulA (.tup ds) (.int k) = if ds ≠ [] ∧ ds.length ≤ 1000 ∧ -(2 ^ 62) < k ∧ k ≤ 1000 then .ok (.val (.tup (repA ds k))) else .stuck := rfl
@[simp] theorem dMulA_l (ds : List D) (k : Int) : dMulA (.lst ds) (.int k) = if -(2 ^ 62) < k ∧ k ≤ 16000 ∧ ds.length ≤ 1000 then .ok (.own (.lst (repA ds k))) else .stuck := rfl
end Pu
namespace Pu
open PySem L2
/-! ## a def that calls itself: so deep -/
theorem OkD.up {P : Program} {w : World} {K : PySem.W.Frag} {mg : PySem.Str → Option Value} {base : Heap} {k j : Nat} {x : PySem.Str} {n : Nat} {io : Bool} {M : DM} (h : OkD P w K mg base k x n io M) (e : k ≤ j) : OkD P w K mg base j x n io M := by
  obtain ⟨fd, ps, F, r⟩ := h
  exact ⟨fd, ps, F.mono e, r⟩
end Pu
namespace Pu
open PySem L2
/-! # entries of rows -/
def dE3 (e : Int × Int × Int) : D := .tup [.int e.1, .int e.2.1, .int e.2.2]
/-- the entries of a row: the loop, the time gone, the time left -/
def entL (f : Int → Int) : Int → Int → List Int → List (Int × Int × Int)
  | _, _, [] => []
  | g, l, k :: r => (k, g, l) :: entL f (g + f k) (l - f k) r
theorem entL_len (f : Int → Int) : ∀ (r : List Int) (g l : Int), (entL f g l r).length = r.length
  | [], _, _ => rfl
  | k :: r, g, l => congrArg (· + 1) (entL_len f r _ _)
/-- a row of loops that are there -/
def RowOk (ns row : List Int) : Prop := ∀ k ∈ row, 0 ≤ k ∧ k < ns.length
def vl (ns : List Int) (k : Int) : Int := nth ns k.toNat
def entR (ns row : List Int) : List (Int × Int × Int) := entL (vl ns) 0 (row.map (vl ns)).sum row
/-- two entries clash -/
def cl (c : Int) (a b : Int × Int × Int) : Bool := decide (0 ≤ a.2.1 - b.2.1) && decide (0 < b.2.2 - a.2.2 ∧ b.2.2 - a.2.2 ≤ c * (a.2.1 - b.2.1) + c - 1)
def clS (c : Int) (a b : Int × Int × Int) : Bool := if b.2.2 < a.2.2 then cl c b a else cl c a b
@[simp] theorem at3_0 (a b c : D) : atI [a, b, c] 0 = some a := rfl
@[simp] theorem at3_1 (a b c : D) : atI [a, b, c] 1 = some b := rfl
@[simp] theorem at3_2 (a b c : D) : atI [a, b, c] 2 = some c := rfl
@[simp] theorem at2_0 (a b : D) : atI [a, b] 0 = some a := rfl
@[simp] theorem at2_1 (a b : D) : atI [a, b] 1 = some b := rfl
def hit (c : Int) (a b : Int × Int × Int) : Bool := decide (a.1 = b.1) && cl c a b
theorem hit_iff {c : Int} {a b : Int × Int × Int} : hit c a b = true ↔ a.1 = b.1 ∧ b.2.1 ≤ a.2.1 ∧ a.2.2 < b.2.2 ∧ b.2.2 - a.2.2 ≤ c * (a.2.1 - b.2.1) + c - 1 := by
  unfold hit cl
  simp only [Bool.and_eq_true, decide_eq_true_eq]
  constructor
  · rintro ⟨h1, h2, h3, h4⟩
    exact ⟨h1, by omega, by omega, h4⟩
  · rintro ⟨h1, h2, h3, h4⟩
    exact ⟨h1, by omega, by omega, h4⟩
theorem ent_of {f : Int → Int} : ∀ {r : List Int} {g l : Int} {e : Int × Int × Int}, e ∈ entL f g l r → (∀ k ∈ r, 1 ≤ f k) → e.1 ∈ r ∧ g ≤ e.2.1 ∧ e.2.1 + e.2.2 = g + l
  | k :: r, g, l, e, h, hf => by
    rw [entL] at h
    have hk := hf k List.mem_cons_self
    rcases List.mem_cons.mp h with z | z
    · subst z
      exact ⟨List.mem_cons_self, Int.le_refl _, rfl⟩
    · obtain ⟨a, b, c⟩ := ent_of z fun q w => hf q (List.mem_cons_of_mem _ w)
      exact ⟨List.mem_cons_of_mem _ a, by omega, by omega⟩
end Pu
namespace Pu
open PySem L2
/-! # data of a kind -/
@[simp] abbrev vI (k : Int) : Option VD := some (.val (.int k))
@[simp] abbrev vD (d : D) : Option VD := some (.val d)
@[simp] abbrev vO (d : D) : Option VD := some (.own d)
abbrev dT (ns : List Int) : D := .tup (ns.map D.int)
/-- a kind of data: it is plain, and two are equal exactly if they are the same -/
structure Enc {A : Type} [DecidableEq A] (n : Nat) (e : A → D) : Prop where
  pl : ∀ a, Pl n (e a)
  eq : ∀ a b, PyData.eqv (py (e a)) (py (e b)) = decide (a = b)
theorem pl_up : ∀ {n m : Nat} {d : D}, n ≤ m → Pl n d → Pl m d
  | n, m, .non, _, _ => by simp
  | n, m, .bl _, _, _ => by simp
  | n, m, .int _, _, _ => by simp
  | n, m, .str _, _, _ => by simp
  | n + 1, m + 1, .tup ds, h, p => by
    rw [pl_tup] at p ⊢
    exact fun d hd => pl_up (Nat.le_of_succ_le_succ h) (p d hd)
  | n + 1, m + 1, .lst ds, h, p => by
    rw [pl_lst] at p ⊢
    exact fun d hd => pl_up (Nat.le_of_succ_le_succ h) (p d hd)
  | 0, m, .tup ds, h, p => (show False from p).elim
  | 0, m, .lst ds, h, p => (show False from p).elim
  | n + 1, 0, .tup ds, h, p => absurd h (Nat.not_succ_le_zero n)
  | n + 1, 0, .lst ds, h, p => absurd h (Nat.not_succ_le_zero n)
  | 0, m, .dct _ _, _, p => (show False from p).elim
  | n + 1, m, .dct _ _, _, p => (show False from p).elim
  | 0, m, .ins _ _, _, p => (show False from p).elim
  | n + 1, m, .ins _ _, _, p => (show False from p).elim
  | 0, m, .scr _, _, p => (show False from p).elim
  | n + 1, m, .scr _, _, p => (show False from p).elim
  | 0, m, .exn _ _, _, p => (show False from p).elim
  | 0, m, .lrf _, _, p => (show False from p).elim
  | 0, m, .cel _ _, _, p => (show False from p).elim
  | 0, m, .dcn _, _, p => (show False from p).elim
  | n + 1, m, .exn _ _, _, p => (show False from p).elim
  | n + 1, m, .lrf _, _, p => (show False from p).elim
  | n + 1, m, .cel _ _, _, p => (show False from p).elim
  | n + 1, m, .dcn _, _, p => (show False from p).elim
  | 0, m, .tpl _, _, p => (show False from p).elim
  | n + 1, 0, .tpl _, h, p => absurd h (Nat.not_succ_le_zero n)
  | n + 1, m + 1, .tpl ns, h, p => by simp
theorem eqvAll_enc {A : Type} [DecidableEq A] {n : Nat} {e : A → D} (h : Enc n e) : ∀ xs ys : List A, PyData.eqvAll ((xs.map e).map py) ((ys.map e).map py) = decide (xs = ys)
  | [], [] => by simp [PyData.eqvAll]
  | [], _ :: _ => by simp [PyData.eqvAll]
  | _ :: _, [] => by simp [PyData.eqvAll]
  | x :: xs, y :: ys => by
    rw [List.map_cons, List.map_cons, List.map_cons, List.map_cons, PyData.eqvAll, eqvAll_enc h xs ys, h.eq]
    by_cases c : x = y <;> by_cases k : xs = ys <;> simp [c, k]
theorem enc_int : Enc 0 D.int := ⟨fun a => by simp, fun a b => by rw [py_int, py_int, PyData.eqv]; by_cases h : a = b <;> simp [h]⟩
theorem enc_tup {A : Type} [DecidableEq A] {n : Nat} {e : A → D} (h : Enc n e) : Enc (n + 1) fun xs : List A => .tup (xs.map e) := ⟨fun a => by
    rw [pl_tup]
    intro d hd
    obtain ⟨x, _, rfl⟩ := List.mem_map.mp hd
    exact h.pl x, fun a b => by rw [py_tup, py_tup, PyData.eqv, eqvAll_enc h]⟩
theorem enc_lst {A : Type} [DecidableEq A] {n : Nat} {e : A → D} (h : Enc n e) : Enc (n + 1) fun xs : List A => .lst (xs.map e) := ⟨fun a => by
    rw [pl_lst]
    intro d hd
    obtain ⟨x, _, rfl⟩ := List.mem_map.mp hd
    exact h.pl x, fun a b => by rw [py_lst, py_lst, PyData.eqv, eqvAll_enc h]⟩
theorem enc_pair {A B : Type} [DecidableEq A] [DecidableEq B] {n : Nat} {e : A → D} {f : B → D} (h : Enc n e) (k : Enc n f) : Enc (n + 1) fun p : A × B => .tup [e p.1, f p.2] := ⟨fun p => by
    rw [pl_tup]
    intro d hd
    rcases List.mem_cons.mp hd with rfl | hd
    · exact h.pl _
    · rw [List.mem_singleton.mp hd]; exact k.pl _, fun p q => by
    rw [py_tup, py_tup]
    simp only [List.map_cons, List.map_nil, PyData.eqv, PyData.eqvAll, h.eq, k.eq]
    obtain ⟨a, b⟩ := p
    obtain ⟨c, d⟩ := q
    by_cases h1 : a = c <;> by_cases h2 : b = d <;> simp [h1, h2]⟩
theorem enc_trip {A B C : Type} [DecidableEq A] [DecidableEq B] [DecidableEq C] {n : Nat} {e : A → D} {f : B → D} {g : C → D} (h : Enc n e) (k : Enc n f) (l : Enc n g) : Enc (n + 1) fun p : A × B × C => .tup [e p.1, f p.2.1, g p.2.2] := ⟨fun p => by
    rw [pl_tup]
    intro d hd
    rcases List.mem_cons.mp hd with rfl | hd
    · exact h.pl _
    rcases List.mem_cons.mp hd with rfl | hd
    · exact k.pl _
    · rw [List.mem_singleton.mp hd]; exact l.pl _, fun p q => by
    rw [py_tup, py_tup]
    simp only [List.map_cons, List.map_nil, PyData.eqv, PyData.eqvAll, h.eq, k.eq, l.eq]
    obtain ⟨a, b, c⟩ := p
    obtain ⟨x, y, z⟩ := q
    by_cases h1 : a = x <;> by_cases h2 : b = y <;> by_cases h3 : c = z <;> simp [h1, h2, h3]⟩
/-- a whole number or None -/
def dO : Option Int → D
  | none => .non
  | some i => .int i
@[simp] theorem dO_none : dO none = .non := rfl
@[simp] theorem dO_some (i : Int) : dO (some i) = .int i := rfl
theorem enc_opt : Enc 0 dO := ⟨fun a => by cases a <;> simp, fun a b => by
  cases a with
  | none => cases b with
    | none => rfl
    | some j => rfl
  | some i => cases b with
    | none => rfl
    | some j =>
      rw [dO_some, dO_some, py_int, py_int, PyData.eqv]
      by_cases h : i = j <;> simp [h]⟩
theorem Enc.up {A : Type} [DecidableEq A] {n m : Nat} {e : A → D} (h : Enc n e) (k : n ≤ m) : Enc m e := ⟨fun a => pl_up k (h.pl a), h.eq⟩
theorem enc_dT : Enc 1 dT := enc_tup enc_int
theorem enc_dPr : Enc 1 dPr := enc_pair enc_int enc_int
theorem enc_dE3 : Enc 1 dE3 := enc_trip enc_int enc_int enc_int
section
variable {A : Type} [DecidableEq A] {n : Nat} {e : A → D}
theorem dEq_enc (h : Enc n e) (a b : A) (hn : n ≤ 40 := by decide) : dEq (e a) (e b) = .ok (.val (.bl (decide (a = b)))) := by
  unfold dEq dPl
  rw [if_pos ⟨pl_up hn (h.pl a), pl_up hn (h.pl b), trivial⟩]
  simp only [h.eq]
theorem dNe_enc (h : Enc n e) (a b : A) (hn : n ≤ 40 := by decide) : dNe (e a) (e b) = .ok (.val (.bl (!decide (a = b)))) := by
  unfold dNe dPl
  rw [if_pos ⟨pl_up hn (h.pl a), pl_up hn (h.pl b), trivial⟩]
  simp only [h.eq]
theorem any_enc (h : Enc n e) (a : A) : ∀ xs : List A, ((xs.map e).any fun y => PyData.eqv (py y) (py (e a))) = decide (a ∈ xs)
  | [] => by simp
  | x :: xs => by
    rw [List.map_cons, List.any_cons, any_enc h a xs, h.eq]
    by_cases c : x = a
    · subst c
      simp
    · have h2 : ¬ a = x := fun z => c z.symm
      by_cases k : a ∈ xs <;> simp [c, h2, k]
theorem dNinS_encL (h : Enc n e) (a : A) (xs : List A) (hn : n ≤ 39 := by decide) : dNinS (e a) (.lst (xs.map e)) = .ok (.val (.bl (!decide (a ∈ xs)))) := by
  unfold dNinS dPl
  rw [if_pos ⟨pl_up (by omega) (h.pl a), pl_up (by omega) ((enc_lst h).pl xs), .inl ⟨_, rfl⟩⟩]
  simp only [itemsD, any_enc h]
end
@[simp] theorem dInA_l' (d : D) (xs : List D) : dInA d (.lst xs) = dInS d (.lst xs) := rfl
@[simp] theorem dInA_t' (d : D) (xs : List D) : dInA d (.tup xs) = dInS d (.tup xs) := rfl
@[simp] theorem dNinA_l' (d : D) (xs : List D) : dNinA d (.lst xs) = dNinS d (.lst xs) := rfl
@[simp] theorem dNinA_t' (d : D) (xs : List D) : dNinA d (.tup xs) = dNinS d (.tup xs) := rfl
/-! rows in order -/
def leL (a b : List Int) : Bool := decide (a ≤ b)
def srtL (rs : List (List Int)) : List (List Int) := rs.mergeSort leL
theorem srtL_perm (rs : List (List Int)) : (srtL rs).Perm rs := List.mergeSort_perm _ _
@[simp] theorem srtL_len (rs : List (List Int)) : (srtL rs).length = rs.length := (srtL_perm rs).length_eq
end Pu
namespace Pu
open PySem L2
/-! # the last of a row -/
def lst (r : List Int) : Int := nth r (r.length - 1)
theorem lst_mem {r : List Int} (h : r ≠ []) : lst r ∈ r := nth_mem (by have := List.length_pos_iff.mpr h; omega)
theorem mem_le_sum {r : List Int} (h : ∀ x ∈ r, 0 ≤ x) : ∀ x ∈ r, x ≤ r.sum := by
  induction r with
  | nil => simp
  | cons y r ih =>
    have hp : 0 ≤ r.sum := by
      clear ih
      have h2 : ∀ x ∈ r, 0 ≤ x := fun x hx => h x (List.mem_cons_of_mem _ hx)
      clear h
      induction r with
      | nil => simp
      | cons z r ih => simp; have := h2 z List.mem_cons_self; have := ih fun x hx => h2 x (List.mem_cons_of_mem _ hx); omega
    intro x hx
    have hy := h y List.mem_cons_self
    simp
    rcases List.mem_cons.mp hx with rfl | hx
    · omega
    · have := ih (fun z hz => h z (List.mem_cons_of_mem _ hz)) x hx
      omega
end Pu
namespace Pu
open PySem L2
/-! # comparisons of rows, pairs, triples, as rules -/
@[simp] theorem dEq_rl (a b : List (List Int)) : dEq (.lst (a.map dT)) (.lst (b.map dT)) = .ok (.val (.bl (decide (a = b)))) := dEq_enc (enc_lst enc_dT) a b
@[simp] theorem dNe_rl (a b : List (List Int)) : dNe (.lst (a.map dT)) (.lst (b.map dT)) = .ok (.val (.bl (!decide (a = b)))) := dNe_enc (enc_lst enc_dT) a b
@[simp] theorem dEq_rt (a b : List (List Int)) : dEq (.tup (a.map dT)) (.tup (b.map dT)) = .ok (.val (.bl (decide (a = b)))) := dEq_enc (enc_tup enc_dT) a b
@[simp] theorem dNe_rt (a b : List (List Int)) : dNe (.tup (a.map dT)) (.tup (b.map dT)) = .ok (.val (.bl (!decide (a = b)))) := dNe_enc (enc_tup enc_dT) a b
@[simp] theorem dEq_pl (a b : List (Int × Int)) : dEq (.lst (a.map dPr)) (.lst (b.map dPr)) = .ok (.val (.bl (decide (a = b)))) := dEq_enc (enc_lst enc_dPr) a b
@[simp] theorem dNe_pl (a b : List (Int × Int)) : dNe (.lst (a.map dPr)) (.lst (b.map dPr)) = .ok (.val (.bl (!decide (a = b)))) := dNe_enc (enc_lst enc_dPr) a b
@[simp] theorem dEq_el (a b : List (Int × Int × Int)) : dEq (.lst (a.map dE3)) (.lst (b.map dE3)) = .ok (.val (.bl (decide (a = b)))) := dEq_enc (enc_lst enc_dE3) a b
@[simp] theorem dNe_el (a b : List (Int × Int × Int)) : dNe (.lst (a.map dE3)) (.lst (b.map dE3)) = .ok (.val (.bl (!decide (a = b)))) := dNe_enc (enc_lst enc_dE3) a b
@[simp] theorem dEq_ol (a b : List (Option Int)) : dEq (.lst (a.map dO)) (.lst (b.map dO)) = .ok (.val (.bl (decide (a = b)))) := dEq_enc (enc_lst enc_opt) a b
@[simp] theorem dNe_ol (a b : List (Option Int)) : dNe (.lst (a.map dO)) (.lst (b.map dO)) = .ok (.val (.bl (!decide (a = b)))) := dNe_enc (enc_lst enc_opt) a b
end Pu
namespace Pu
open PySem L2 PySem.Spec PyProof.Rows
/-! # own things -/
/-- the classes cs are known; f is no name of theirs -/
def AtOk (K : PySem.W.Frag) (mg : PySem.Str → Option Value) (cs : List PySem.Str) (f : PySem.Str) : Prop := ∀ c ∈ cs, ∀ C, mg c = some (.ref C) → Cls K C ∧ NoAttr K C f
theorem atOk_nil {K : PySem.W.Frag} {mg : PySem.Str → Option Value} {f : PySem.Str} : AtOk K mg [] f := fun _ h => nomatch h
theorem atOk_cons {K : PySem.W.Frag} {mg : PySem.Str → Option Value} {cs : List PySem.Str} {c f : PySem.Str} {A : Addr} (m : mg c = some (.ref A)) (h : Cls K A) (n : NoAttr K A f) (t : AtOk K mg cs f) : AtOk K mg (c :: cs) f := fun d hd C e => by
  rcases List.mem_cons.mp hd with rfl | hd
  · rw [m] at e
    cases e
    exact ⟨h, n⟩
  · exact t d hd C e
section
variable {K : PySem.W.Frag} {mg : PySem.Str → Option Value} {S : Addr → Prop} {H : Hp}
theorem Top.ins {v : V} {c : PySem.Str} {ds : List (PySem.Str × D)} (h : Top K mg S H v (.ins c ds)) : ∃ a C dx fs, v = .ref a ∧ H a = some (.ins C dx fs) ∧ mg c = some (.ref C) ∧ ds.map (·.1) = fs.map (·.1) ∧ Reps K mg S H (fs.map (·.2)) (ds.map (·.2)) := by
  rcases h with h | ⟨p, rfl, h⟩
  · cases h with
    | ins s e m g q => exact ⟨_, _, _, _, rfl, e, m, g, q⟩
  · cases h with
    | ins e m g q => exact ⟨_, _, _, _, rfl, e, m, g, q⟩
theorem flds {f : PySem.Str} {d : D} : ∀ {fs : List (PySem.Str × V)} {ds : List (PySem.Str × D)}, ds.map (·.1) = fs.map (·.1) → Reps K mg S H (fs.map (·.2)) (ds.map (·.2)) → ds.lookup f = some d → ∃ v, fs.lookup f = some v ∧ Rep K mg S H v d
  | [], [], _, _, e => by cases e
  | [], _ :: _, e, _, _ => by cases e
  | _ :: _, [], e, _, _ => by cases e
  | (a, x) :: fs, (b, y) :: ds, e, r, l => by
    rw [List.map_cons, List.map_cons] at e r
    injection e with e1 e2
    simp only at e1
    subst e1
    cases r with
    | cons r1 r2 =>
      rw [List.lookup_cons] at l ⊢
      cases q : (f == b) with
      | true =>
        rw [q] at l
        cases l
        exact ⟨x, rfl, r1⟩
      | false =>
        rw [q] at l
        exact flds e2 r2 l
def putFD (f : PySem.Str) (v : D) : List (PySem.Str × D) → List (PySem.Str × D)
  | [] => [(f, v)]
  | (g, x) :: r => if g = f then (g, v) :: r else (g, x) :: putFD f v r
theorem putF_rel {f : PySem.Str} {v : V} {d : D} (p : Rep K mg S H v d) : ∀ {fs : List (PySem.Str × V)} {ds : List (PySem.Str × D)}, ds.map (·.1) = fs.map (·.1) → Reps K mg S H (fs.map (·.2)) (ds.map (·.2)) →
    (putFD f d ds).map (·.1) = (putF f v fs).map (·.1) ∧ Reps K mg S H ((putF f v fs).map (·.2)) ((putFD f d ds).map (·.2))
  | [], [], _, _ => ⟨rfl, .cons p .nil⟩
  | [], _ :: _, e, _ => by cases e
  | _ :: _, [], e, _ => by cases e
  | (a, x) :: fs, (b, y) :: ds, e, r => by
    rw [List.map_cons, List.map_cons] at e r
    injection e with e1 e2
    simp only at e1
    subst e1
    cases r with
    | cons r1 r2 =>
      obtain ⟨i1, i2⟩ := putF_rel p e2 r2
      unfold putFD putF
      by_cases q : b = f
      · rw [if_pos q, if_pos q]
        exact ⟨by simp [e2], .cons p r2⟩
      · rw [if_neg q, if_neg q]
        exact ⟨by simp [i1], .cons r1 i2⟩
theorem putF_len {f : PySem.Str} {v : V} {fs : List (PySem.Str × V)} {ds : List (PySem.Str × D)} (e : ds.map (·.1) = fs.map (·.1)) : fs.length = ds.length := by
  have := congrArg List.length e
  simpa using this.symm
end
/-! o.f -/
def dAt (cs : List PySem.Str) (f : PySem.Str) : D → Rs VD
  | .ins c fs => if cs.contains c then (rO (fs.lookup f)).bind fun d => .ok (.val d) else .stuck
  | _ => .stuck
theorem q_at {cs : List PySem.Str} {f : PySem.Str} : Quiet1 (dAt cs f) := fun d => by
  unfold dAt
  split <;> first | exact quiet_s | exact quiet_if (quiet_r fun _ => quiet_v) quiet_s
theorem se_at {X : Cx} {C : FC} {e : Expr} {f : PySem.Str} {g : DE} {cs : List PySem.Str} {pos : Pos} (ho : AtOk X.K X.mg cs f) (he : SE X C e g) (hb : attributeBase e f X.env (eval e X.env) = eval e X.env := by rfl) : SE X C (.Attribute e f pos) (eUn (dAt cs f) g) := by
  refine pe_imp (pe_fld he hb) ?_
  rintro σ H Q ⟨ρ, T, h, P⟩
  refine ⟨ρ, T, h, gv_dt h P fun d T' v H1 h1 e1 p P1 => ?_⟩
  obtain ⟨z, ez, P3⟩ := lift_ex (q_at d) h1 (post_from h1 e1 P1)
  unfold dAt at ez
  split at ez
  · obtain ⟨hc, ez⟩ := ifs_ok ez
    obtain ⟨d, ed, ez⟩ := o_ok ez
    cases ez
    obtain ⟨a, Ca, dx, fs, rfl, ha, hm, hn, hr⟩ := p.top.ins
    obtain ⟨v, ev, rv⟩ := flds hn hr ed
    obtain ⟨c1, c2⟩ := ho _ (by simpa using hc) Ca hm
    exact ⟨a, Ca, dx, fs, v, rfl, ha, c1, c2, ev, P3.pure rv⟩
  · cases ez
/-! self.f = e -/
/-! self.f, self.f = e where self is the tape -/
def tpS (f : List (PySem.Str × D) → PySem.Str → Rs (Fl × Tp)) : Tp → Rs (Fl × Tp)
  | some (.ins c fs) => f fs c
  | _ => .stuck
def sTfld (i : Nat) (cs : List PySem.Str) (f : PySem.Str) (fe : DE) : DS := fun r T => (dv (fe r T)).bind fun p => match r[i]? with
  | some (some .tape) => tpS (fun fs c => if cs.contains c ∧ fs.length < 1000 then .ok (.nx r, some (.ins c (putFD f p.1 fs))) else .stuck) p.2
  | _ => .stuck
theorem ss_tfld {X : Cx} {C : FC} {e : Expr} {f x : PySem.Str} {g : DE} {cs : List PySem.Str} {pos pos' p1 : Pos} (i : Nat) (ho : AtOk X.K X.mg cs f) (he : ∀ Y, SE X (C.plus Y) e g)
    (hN : X.N[i]? = some x := by rfl) (hv : Vis X.env.scope x := by first | exact Or.inl rfl | exact Or.inr (Or.inl rfl) | exact Or.inr (Or.inr rfl)) (hdb : (x == ("__debug__" : Str)) = false := by decide) (hcd : (x == ("__classdict__" : Str)) = false := by decide)
    (hs : swapsWith e (some (.Attribute (.Name x p1) f pos')) pos.line X.env = pure false := by rfl) : SSt X C (.Assign [.Attribute (.Name x p1) f pos'] e pos) (sTfld i cs f g) := by
  refine ps_imp (ps_fld (pe_var hN hv hdb hcd) (pe_ex he) hs) ?_
  rintro D σ H ⟨ρ, T, ⟨Y, h, hY⟩, P⟩
  refine ⟨Y, ρ, T, h, gs_dv h (PostS.at (σ := σ) hY P.bind) fun d T' v H' h' e1 q P => ?_⟩
  cases ei : ρ[i]? with
  | none => rw [ei] at P; exact P.elim
  | some o =>
    rw [ei] at P
    cases o with
    | none => exact P.elim
    | some w =>
      cases w with
      | tape =>
        obtain ⟨p0, hc, es⟩ := h'.tslot i ei
        have hc : C.tp = some p0 := hc
        have t : TapeOk X.K X.mg _ C.tp _ _ := h'.tape
        unfold TapeOk at t
        rw [hc] at t
        obtain ⟨d0, rfl, o⟩ := t
        cases d0 with
        | ins c fs =>
          obtain ⟨⟨hcs, hl⟩, P⟩ := postS_if (show PostS X.K X.mg C (GS X.K X.mg C D) (if cs.contains c ∧ fs.length < 1000 then .ok (.nx ρ, some (.ins c (putFD f d fs))) else .stuck) from P)
          obtain ⟨a, Ca, dx, fv, ea, eH, hm, hn, hr⟩ := (show Top X.K X.mg (SS (C.plus Y) Z0 ρ σ) H' (.ref p0) _ from .inr ⟨p0, rfl, o.own nofun⟩).ins
          cases ea
          have sp : SS (C.plus Y) Z0 ρ σ p0 := .inr (.inl hc)
          obtain ⟨c1, c2⟩ := ho _ (by simpa using hcs) Ca hm
          obtain ⟨i1, i2⟩ := putF_rel (f := f) (q.upd (u := .ins Ca dx (putF f v fv)) sp) hn (hr.upd sp)
          have hlen : fv.length < 1000 := by
            have := putF_len (f := f) (v := v) hn
            omega
          refine ⟨_, es, p0, Ca, dx, fv, rfl, eH, c1, c2, hlen, P _ _ ⟨Y, h'.move (T' := some (.ins c (putFD f d fs))) (fun a o z ne => ?_) ss_same (fun _ _ _ _ _ z => z) ?_ (fun _ z => z.elim), hY⟩⟩
          · rw [upd_ne (fun w => ne (by rw [hc, w]))]
            exact z
          · show TapeOk X.K X.mg _ C.tp _ _
            unfold TapeOk
            rw [hc]
            exact ⟨_, rfl, .inl (.ins upd_same hm i1 i2)⟩
        | _ => exact (show False from P).elim
      | _ => exact P.elim
/-! C(..) -/
/-- a class, as the head tells it: its __init__'s mirror -/
def OkI (P : Program) (w : World) (K : PySem.W.Frag) (mg : PySem.Str → Option Value) (base : Heap) (k : Nat) (x : PySem.Str) (n : Nat) (M : DM) : Prop :=
  ∃ (fd : FuncData) (ps : List PySem.Str) (f : Addr), FnOk P w K mg base (L2.CX P w) k f fd ps (SpD K mg n true M) ∧ Binds K fd ps [] ∧ Mk K (He.ga K x) f ∧ mg x = some (.ref (He.ga K x))
section
variable {P : Program} {w : World} {K : PySem.W.Frag} {mg : PySem.Str → Option Value} {base : Heap}
theorem fnOk_at {x qual : PySem.Str} {params : Arguments} {body : List Stmt} {scope : Scope} {N ps : List PySem.Str} {k : Nat} {io : Bool} {g : DS} {fd : FuncData} {f : Addr} (F : FunD K x qual params body scope [] [] f fd) (S : FnScope N ps scope)
    (hbody : ∀ (cdv : Value) (A : Around) (outer : List PySem.Env) (s : Shared) (H : Hp) (E : XK) (C : FC), Room k (A.deeper (PyProof.Rows.envOfC qual scope s.heap.objs.size f cdv)) → Takes (cxOf (L2.CX P w) P w K mg base N qual scope f cdv A outer s H E) C.W →
      SSs (cxOf (L2.CX P w) P w K mg base N qual scope f cdv A outer s H E) C body g) : FnOk P w K mg base (L2.CX P w) (k + 1) f fd ps (SpD K mg ps.length io (runD N.length io g)) := by
  refine F.ok (CX := L2.CX P w) S (fun vs H Q E ⟨C, vs1, ds, T, _, hl, _⟩ => hl) fun cdv A outer s H vs Q E hr hsp => ?_
  obtain ⟨C0, vs1, ds, T, rfl, hl, st, a, t, r, P⟩ := hsp
  let C : FC := { C0 with W := fun cls d _ H => E cls d H, pin := [] }
  refine ⟨_, hbody cdv A outer s C0.H0 E C hr (takes_of rfl rfl rfl rfl), ?_⟩
  have hpl : ps.length ≤ N.length := by
    have := congrArg List.length S.pre
    rw [List.length_take] at this
    omega
  have ntree : ∀ (i : Nat) (s : Sh) (d : D), (env0 N.length io ds)[i]? ≠ some (some (.tree s d)) := fun i s d q => by
    rcases env0_get q with ⟨_, _, z⟩ | ⟨_, z, _⟩ <;> cases z
  refine ⟨env0 N.length io ds, T, (holds_start (C := C) (by rw [hl]; exact hpl) st a t r rfl).plus0 ntree, ?_⟩
  unfold runD at P
  cases q : g (env0 N.length io ds) T with
  | stuck =>
    rw [q] at P
    exact P.elim
  | exc c fs T' r' =>
    rw [q] at P
    exact fun σ cls d H' Y hY h1 x => P cls d H' h1.frame ((show TapeOk K mg (SS (C.plus Y) Z0 r' σ) C.tp T' H' from h1.tape).less fun a _ _ s z => s (s1_less a z)) (x.less fun a _ _ s z => s (s1_less a z))
  | ok p =>
    rw [q] at P
    obtain ⟨fl, T'⟩ := p
    cases fl with
    | nx r' => exact fun σ H ⟨Y, h1, hY⟩ => P .non H h1.frame (ret_val (C := C) h1 .non)
    | rt v => exact fun u H e1 q => P u H e1 q
    | bk r' => exact P.elim
    | ct r' => exact P.elim
theorem okI_of {c x qual : PySem.Str} {params : Arguments} {body : List Stmt} {scope : Scope} {N ps : List PySem.Str} {k : Nat} {g : DS} {f : Addr} (F : ∃ fd, FunD K x qual params body scope [] [] f fd) (M : Mk K (He.ga K c) f) (hm : mg c = some (.ref (He.ga K c))) (S : FnScope N ps scope)
    (hb : ∀ (kV doc pm : Value) (an : Option Addr) (cdv ct : Value) (us : List Value), us.length = ps.length → bindArgs (PySem.W.fnOf x qual params body scope .none kV doc pm an cdv ct) ⟨us, []⟩ = pure (ps.zip us))
    (hbody : ∀ (cdv : Value) (A : Around) (outer : List PySem.Env) (s : Shared) (H : Hp) (E : XK) (C : FC), Room k (A.deeper (PyProof.Rows.envOfC qual scope s.heap.objs.size f cdv)) → Takes (cxOf (L2.CX P w) P w K mg base N qual scope f cdv A outer s H E) C.W →
      SSs (cxOf (L2.CX P w) P w K mg base N qual scope f cdv A outer s H E) C body g) : OkI P w K mg base (k + 1) c ps.length (runD N.length true g) := by
  obtain ⟨fd, F⟩ := F
  exact ⟨fd, ps, f, fnOk_at F S hbody, F.bindsN hb, M, hm⟩
end
section
variable {X : Cx} {CX : CXT} {k : Nat} {f A : Addr} {fd : FuncData} {ps : List PySem.Str} {sp : Sp} {E : L2.St → XK} {x m : PySem.Str} {p pos apos : Pos} {e o : Expr} {es : List Expr} {ta : TE} {t : TA}
/-- C(..), what it may let out told by the slots -/
def tMakeX (A : Addr) (sp : Sp) (E : L2.St → XK) (t : TA) : TE := fun σ H Q => t σ H fun vs H1 => ∀ x dx, H1 x = none → H1 dx = none → dx ≠ x → sp (.ref x :: vs) (L2.upd (L2.upd H1 dx (.own x)) x (.ins A dx [])) (fun v H2 => v = .non ∧ Q (.ref x) H2) (E σ)
theorem run_makeX {pins : List (Addr × Obj)} {σ : L2.St} {H : Hp} {s : Shared} {Q : VK} {us : List Value} {vs : List V} (M : Mk X.K A f) (F : FnOk X.prog X.w X.K X.mg X.base CX k f fd ps sp) (hr : Room (k + 1) X.A) (hb : Binds X.K fd ps []) (hx : PassesAt CX X σ (E σ)) (I : Inv X pins σ H s) (r : Vals vs us)
    (h : ∀ x dx, H x = none → H dx = none → dx ≠ x → sp (.ref x :: vs) (L2.upd (L2.upd H dx (.own x)) x (.ins A dx [])) (fun v H2 => v = .non ∧ Q (.ref x) H2) (E σ)) : wpAny (model X.prog X.w) X.A (call (.ref A) us) (EP X pins σ Q) X.xe s := by
  have hq := h (s.heap.objs.size + 1) s.heap.objs.size (I.hok.fresh (Nat.le_succ _)) (I.hok.fresh (Nat.le_refl _)) (Nat.ne_of_lt (Nat.lt_succ_self _))
  have I2 := Inv.made (C := A) I
  have r2 : Vals (V.ref (s.heap.objs.size + 1) :: vs) (Value.ref (s.heap.objs.size + 1) :: us) := .cons rfl r
  have hl : (Value.ref (s.heap.objs.size + 1) :: us).length = ps.length := (r2.length.symm).trans (F.len _ _ _ _ hq)
  have b := hb _ (Value.ref (s.heap.objs.size + 1) :: us) I2.kIn (by rw [List.append_nil]; exact hl)
  rw [List.append_nil] at b
  refine wpAny_call (make_map (f := f) I.kIn M.makes M.init (beq_iff_eq.mp M.fn) (codeAny_mono (F.run _ X.stack _ _ ⟨Value.ref (s.heap.objs.size + 1) :: us, []⟩ (Value.ref (s.heap.objs.size + 1) :: us) _ _ (E σ) (hr.make A us []) (I2.env0.make A us []) b r2 hq) fun r s' hq' => ?_))
  cases r with
  | error ee => exact hx pins _ _ ee s' I2 hq'
  | ok fl =>
    cases fl with
    | ret u =>
      obtain ⟨v, H3, I3, rv, ev, q3⟩ := I2.after hq'
      cases ev
      exact ⟨rv, ⟨V.ref (s.heap.objs.size + 1), H3, I3, rfl, q3⟩⟩
    | next => exact hq'.elim
    | brk => exact hq'.elim
    | cont => exact hq'.elim
theorem pe_makeX (M : Mk X.K A f) (F : FnOk X.prog X.w X.K X.mg X.base CX k f fd ps sp) (hr : Room (k + 1) X.A) (hg : Gl X x) (hm : X.mg x = some (.ref A)) (hb : Binds X.K fd ps []) (hx : ∀ σ, PassesAt CX X σ (E σ)) (ha : PA X (e :: es) t) (hdb : (x == ("__debug__" : PySem.Str)) = false)
    (he : starEach (e :: es) X.env = (false, eval e X.env) :: starEach es X.env) (hpl : (backTo pos (starEach es X.env)).any (·.1) = false) : PE X (.Call (.Name x p) (e :: es) [] pos) (tMakeX A sp E t) :=
  ⟨fun pins s σ H Q I h => wpAny_Call_Name_kw (ld_glob I hg hm (PySem.W.callWith_K (h₀ := X.base) I.ok.mod.kin M.kp (thn (ha.run pos pins s σ H _ I h) fun us s1 ⟨vs, H1, I1, r, q⟩ => ⟨I1.kIn, run_makeX M F hr hb (hx σ) I1 r q⟩) he hpl) hdb)⟩
end
def mkK (T : Tp) (r : Env) : Rs (VD × Tp) → Rs (VD × Tp)
  | .ok (.val .non, some (.ins c fs)) => .ok (.own (.ins c fs), T)
  | .exc c fs _ _ => .exc c fs T r
  | _ => .stuck
@[simp] theorem mkK_ok (T : Tp) (r : Env) (c : PySem.Str) (fs : List (PySem.Str × D)) : mkK T r (.ok (.val .non, some (.ins c fs))) = .ok (.own (.ins c fs), T) := rfl
def eMake (c : PySem.Str) (n : Nat) (M : DM) (g : DA) : DE := fun r T => (g r T).bind fun p => if p.1.length + 1 = n then mkK p.2 r (M p.1 (some (.ins c []))) else .stuck
section
variable {X : Cx} {C : FC} {e : Expr} {es : List Expr} {g : DA} {pos p : Pos} {x : PySem.Str} {k j n : Nat} {M : DM}
theorem se_make (F : OkI X.prog X.w X.K X.mg X.base j x n M) (hr : Room k X.A) (tk : Takes X C.W) (ha : SA X C (e :: es) g) (hk : j + 1 ≤ k := by decide)
    (hg : Gl X x := by rfl) (hdb : (x == ("__debug__" : PySem.Str)) = false := by decide) (he : starEach (e :: es) X.env = (false, eval e X.env) :: starEach es X.env := by rfl) (hpl : (backTo pos (starEach es X.env)).any (·.1) = false := by rfl) :
    SE X C (.Call (.Name x p) (e :: es) [] pos) (eMake x n M g) := by
  obtain ⟨fd, ps, f, F, b, mk, hm⟩ := F
  refine pe_imp (pe_makeX mk F (hr.mono hk) hg hm b (fun σ => passAt tk σ) ha hdb he hpl) ?_
  rintro σ H Q ⟨ρ, T, h, P⟩
  refine ⟨ρ, T, h, ga_bind P fun ds T' vs H1 h1 e1 p P1 => ?_⟩
  obtain ⟨hn, P2⟩ := postG_if P1
  intro a dx ha hdx ne
  have kk : ∀ b o, H1 b = some o → (L2.upd (L2.upd H1 dx (.own a)) a (.ins (He.ga X.K x) dx [])) b = some o := fun b o z => by
    rw [upd_ne (ne_of_none z ha), upd_ne (ne_of_none z hdx)]
    exact z
  have hs : ∀ b, SS C Z0 ρ σ b → b ≠ a := fun b z w => by
    obtain ⟨o, z, _⟩ := h1.tr z
    rw [w, ha] at z
    cases z
  have fw : ∀ b o, H1 b = some o → ¬ SS C Z0 ρ σ b → ¬ S1 (⟨L2.upd (L2.upd H1 dx (.own a)) a (.ins (He.ga X.K x) dx []), SS C Z0 ρ σ, some a, C.W, [], fun _ => False⟩ : FC) b := fun b o z s w => by
    rcases w with w | w
    · exact s w
    · cases w
      rw [ha] at z
      cases z
  refine ⟨⟨L2.upd (L2.upd H1 dx (.own a)) a (.ins (He.ga X.K x) dx []), SS C Z0 ρ σ, some a, C.W, [], fun _ => False⟩, vs, ds, some (.ins x []), rfl, by rw [List.length_cons, p.len]; exact hn, fun b z => ?_, ⟨.inl ⟨rfl, rfl⟩, fun z => hs a z rfl⟩, ⟨_, rfl, .inl (.ins upd_same hm rfl .nil)⟩, p.go (fun b o z _ => kk b o z) fw, ?_⟩
  · obtain ⟨o, z, m⟩ := h1.tr z
    exact ⟨o, kk b o z, m⟩
  · have back1 : ∀ {H' : Hp}, Ext (⟨L2.upd (L2.upd H1 dx (.own a)) a (.ins (He.ga X.K x) dx []), SS C Z0 ρ σ, some a, C.W, [], fun _ => False⟩ : FC) (L2.upd (L2.upd H1 dx (.own a)) a (.ins (He.ga X.K x) dx [])) H' → Same H1 H' := fun {H'} e2 b o z => e2 b o (kk b o z) (fun w => by
      cases w
      rw [ha] at z
      cases z)
    cases q : M ds (some (.ins x [])) with
    | stuck =>
      rw [q] at P2
      exact P2.elim
    | exc c fs T2 r2 =>
      rw [q] at P2
      exact fun cls d H' e2 _ y => P2 cls d H' (h1.more (back1 e2)) (y.less fun b o z s w => s (.inl w))
    | ok z =>
      rw [q] at P2
      obtain ⟨v, T2⟩ := z
      intro u H' e2 rt
      cases v with
      | val d =>
        cases d with
        | non =>
          cases T2 with
          | none => exact (show False from P2).elim
          | some t =>
            cases t with
            | ins c fs =>
              have P3 : GV X.K X.mg C ρ σ H Q (.own (.ins c fs), T') := P2
              obtain ⟨rn, t⟩ := rt
              unfold TapeOk at t
              obtain ⟨t, et, o⟩ := t
              cases et
              cases rn
              have o := o.own nofun
              refine ⟨rfl, P3 a H' (back h1 e1 ha) (h1.apart (back1 e2) ha o.there) (e1.trans (.same (back1 e2))) (o.go (fun _ z => z) (fun _ _ z _ => z) fun b _ _ s w => s ?_)⟩
              rcases w with w | w | w | w
              · exact .inl (.inl w)
              · exact .inl (.inr (.inl w))
              · exact .inl (.inr (.inr (.inl w)))
              · exact .inr (by rw [w])
            | _ => exact (show False from P2).elim
        | _ => exact (show False from P2).elim
      | _ => exact (show False from P2).elim
end
/-! o.m(..) of data -/
/-- the thing is of the class c and has no field m -/
def insD (c m : PySem.Str) : D → Rs D
  | .ins c' fs => if c' = c ∧ fs.lookup m = none then .ok (.ins c' fs) else .stuck
  | _ => .stuck
@[simp] theorem insD_ins (c m : PySem.Str) (fs : List (PySem.Str × D)) : insD c m (.ins c fs) = if fs.lookup m = none then .ok (.ins c fs) else .stuck := by
  unfold insD
  by_cases h : fs.lookup m = none <;> simp [h]
end Pu
namespace Pu
open PySem L2 PySem.Spec PyProof.Rows
/-! # more operations -/
def dShl : D → D → Rs VD
  | .int i, .int j => if 0 ≤ j ∧ j ≤ 1000000 ∧ i.natAbs < 2 ^ 64 then .ok (.val (.int (i * 2 ^ j.toNat))) else .stuck
  | _, _ => .stuck
def dOr : D → D → Rs VD
  | .int i, .int j => .ok (.val (.int (Builtin.bitOr i j)))
  | _, _ => .stuck
/-- by a great number -/
def dDivW : D → D → Rs VD
  | .int i, .int j => if 0 < j ∧ j.natAbs.log2 < 9000 then .ok (.val (.int (i / j))) else .stuck
  | _, _ => .stuck
def dMulW : D → D → Rs VD
  | .int i, .int j => if i.natAbs.log2 + j.natAbs.log2 < 1000000 then .ok (.val (.int (i * j))) else .stuck
  | _, _ => .stuck
/-- x is True -/
def dIsB : D → D → Rs VD
  | .bl a, .bl b => .ok (.val (.bl (decide (a = b))))
  | _, _ => .stuck
def dIsnB : D → D → Rs VD
  | .bl a, .bl b => .ok (.val (.bl (!decide (a = b))))
  | _, _ => .stuck
@[simp] theorem dShl_ii (i j : Int) : dShl (.int i) (.int j) = if 0 ≤ j ∧ j ≤ 1000000 ∧ i.natAbs < 2 ^ 64 then .ok (.val (.int (i * 2 ^ j.toNat))) else .stuck := rfl
@[simp] theorem dOr_ii (i j : Int) : dOr (.int i) (.int j) = .ok (.val (.int (Builtin.bitOr i j))) := rfl
@[simp] theorem dDivW_ii (i j : Int) : dDivW (.int i) (.int j) = if 0 < j ∧ j.natAbs.log2 < 9000 then .ok (.val (.int (i / j))) else .stuck := rfl
@[simp] theorem dMulW_ii (i j : Int) : dMulW (.int i) (.int j) = if i.natAbs.log2 + j.natAbs.log2 < 1000000 then .ok (.val (.int (i * j))) else .stuck := rfl
@[simp] theorem dIsB_bb (a b : Bool) : dIsB (.bl a) (.bl b) = .ok (.val (.bl (decide (a = b)))) := rfl
@[simp] theorem dIsnB_bb (a b : Bool) : dIsnB (.bl a) (.bl b) = .ok (.val (.bl (!decide (a = b)))) := rfl
/-! isinstance(x, (T1, T2)) -/
def dIsi2 (cs : List PySem.Str) (t u : Ty) (d : D) : Rs VD := (rO (isT cs t d)).bind fun b => (rO (isT cs u d)).bind fun c => .ok (.val (.bl (b || c)))
@[simp] theorem dIsi2_ap (cs : List PySem.Str) (t u : Ty) (d : D) : dIsi2 cs t u d = (rO (isT cs t d)).bind fun b => (rO (isT cs u d)).bind fun c => .ok (.val (.bl (b || c))) := rfl
/-! zip(a, b) -/
def zipD : List D → List D → List D
  | a :: as, b :: bs => .tup [a, b] :: zipD as bs
  | _, _ => []
def zipR : D → D → Rs (List D)
  | .lst a, .lst b => .ok (zipD a b)
  | .tup a, .tup b => .ok (zipD a b)
  | _, _ => .stuck
@[simp] theorem zipR_l (a b : List D) : zipR (.lst a) (.lst b) = .ok (zipD a b) := rfl
@[simp] theorem zipR_t (a b : List D) : zipR (.tup a) (.tup b) = .ok (zipD a b) := rfl
def iZp (f g : DE) : DI := fun r T => (dv (f r T)).bind fun p => (dv (g r p.2)).bind fun q => (zipR p.1 q.1).bind fun ds => .ok (ds, q.2)
def jZp (f g : DE) : DI := fun r T => (dt (f r T)).bind fun p => (dt (g r p.2)).bind fun q => (zipR p.1 q.1).bind fun ds => .ok (ds, q.2)
@[simp] theorem iZp_ap (f g : DE) (r : Env) (T : Tp) : iZp f g r T = (dv (f r T)).bind fun p => (dv (g r p.2)).bind fun q => (zipR p.1 q.1).bind fun ds => .ok (ds, q.2) := rfl
@[simp] theorem jZp_ap (f g : DE) (r : Env) (T : Tp) : jZp f g r T = (dt (f r T)).bind fun p => (dt (g r p.2)).bind fun q => (zipR p.1 q.1).bind fun ds => .ok (ds, q.2) := rfl
end Pu
namespace Pu
open PySem L2 PySem.Spec PyProof.Rows
/-! # xs.index(k) -/
def idxI (k : Int) : List Int → Option Nat
  | [] => none
  | n :: ns => if n = k then some 0 else (idxI k ns).map (· + 1)
theorem idxI_get {k : Int} : ∀ {ns : List Int} {j : Nat}, idxI k ns = some j → ns[j]? = some k ∧ ∀ m, m < j → ns[m]? ≠ some k
  | [], _, h => by cases h
  | n :: ns, j, h => by
    unfold idxI at h
    by_cases c : n = k
    · rw [if_pos c] at h
      cases h
      exact ⟨by rw [c]; rfl, fun m hm => absurd hm (Nat.not_lt_zero m)⟩
    · rw [if_neg c] at h
      cases q : idxI k ns with
      | none => rw [q] at h; cases h
      | some i =>
        rw [q] at h
        cases h
        obtain ⟨a, b⟩ := idxI_get q
        refine ⟨by simpa using a, fun m hm => ?_⟩
        cases m with
        | zero => simpa using c
        | succ m => simpa using b m (Nat.lt_of_succ_lt_succ hm)
theorem idxI_mem {k : Int} : ∀ {ns : List Int}, k ∈ ns → ∃ j, idxI k ns = some j ∧ j < ns.length
  | [], h => by cases h
  | n :: ns, h => by
    unfold idxI
    by_cases c : n = k
    · rw [if_pos c]
      exact ⟨0, rfl, by simp⟩
    · rw [if_neg c]
      rcases List.mem_cons.mp h with z | z
      · exact absurd z.symm c
      · obtain ⟨j, e, hj⟩ := idxI_mem z
        exact ⟨j + 1, by rw [e]; rfl, by simpa using hj⟩
def dIdx : D → D → Rs VD
  | .lst ds, .int k => (rO (nums ds)).bind fun ns => (rO (idxI k ns)).bind fun j => .ok (.val (.int (j : Nat)))
  | .tpl ns, .int k => (rO (idxI k ns)).bind fun j => .ok (.val (.int (j : Nat)))
  | _, _ => .stuck
@[simp] theorem dIdx_l (ds : List D) (k : Int) : dIdx (.lst ds) (.int k) = (rO (nums ds)).bind fun ns => (rO (idxI k ns)).bind fun j => .ok (.val (.int (j : Nat))) := rfl
@[simp] theorem dIdx_p (ns : List Int) (k : Int) : dIdx (.tpl ns) (.int k) = (rO (idxI k ns)).bind fun j => .ok (.val (.int (j : Nat))) := rfl
theorem q_idx : Quiet2 dIdx := fun d e => by
  unfold dIdx
  split <;> first | exact quiet_r fun _ => quiet_r fun _ => quiet_v | exact quiet_r fun _ => quiet_v | exact quiet_s
theorem pe_either {X : Cx} {e : Expr} {t u : TE} (h1 : PE X e t) (h2 : PE X e u) : PE X e (fun σ H R => t σ H R ∨ u σ H R) :=
  ⟨fun pins s σ H R I q => q.elim (fun q => h1.run pins s σ H R I q) fun q => h2.run pins s σ H R I q⟩
theorem flat_ints (ns : List Int) : (ns.map V.int).all flatV = true := by
  rw [List.all_map]
  exact List.all_eq_true.mpr fun _ _ => rfl
/-- t.index(k) of a tuple of whole numbers -/
def rIdxT (K : PySem.W.Frag) : V → List V → Hp → VK → Prop := fun x xs H Q => ∃ (p : Addr) (ys : List Int) (z : Int) (j : Nat), x = .ref p ∧ xs = [.int z] ∧ SqT K H p (ys.map V.int) ∧ ys[j]? = some z ∧ (∀ m, m < j → ys[m]? ≠ some z) ∧ Q (.int (j : Nat)) H
theorem mt_idxT {X : Cx} : MtR X "tuple.index" (rIdxT X.K) := by
  intro pins s σ H x xs v us Q I rx rs h
  obtain ⟨p, ys, z, j, rfl, rfl, hq, hy, hno, q⟩ := h
  cases rx
  obtain ⟨u, rfl, t, rfl⟩ := vals1 rs
  obtain ⟨its, r, ⟨⟨cls, dd, dt, sl⟩, ho, hc, n, hd⟩, hz⟩ := I.tuple hq
  simp only at hc hd
  subst hc hd
  have hl : its.toArray.size = ys.length := by
    have := r.length
    simp only [List.length_map] at this
    simp [this]
  have hj : j < its.toArray.size := by rw [hl]; exact (List.getElem?_eq_some_iff.mp hy).1
  have look : ∀ (m : Nat) (hm : m < its.toArray.size), ∃ y t', ys[m]? = some y ∧ its.toArray[m] = Value.int y t' := fun m hm => by
    have hm2 : m < ys.length := by omega
    obtain ⟨w, hw, t', e3⟩ := r.get (i := m) (x := .int ys[m]) (by simp [hm2])
    obtain ⟨_, e4⟩ := List.getElem?_eq_some_iff.mp hw
    exact ⟨ys[m], t', List.getElem?_eq_getElem hm2, by rw [← e3, ← e4]; simp⟩
  refine call_meets PySem.F.slot_tuple_index ⟨_, ho, rfl⟩ PySem.F.entry_tuple_index (PySem.F.args_tuple_index_2 _ _)
    (TI.tuple_indexAt p its.toArray n dd sl (.int z t) (eqU (.int z)) j hj ?_ ?_)
    ⟨ho, fun w hw => mem_eqAt (x := .int z) ⟨t, rfl⟩ rfl r (flat_ints ys) w (by simpa using hw), ⟨.int (j : Nat), H, I.tok _, ⟨_, rfl⟩, q⟩⟩
  · obtain ⟨y, t', h1, h2⟩ := look j hj
    rw [hy] at h1
    cases h1
    rw [h2]
    exact beq_self_eq_true z
  · intro m hm hmj
    obtain ⟨y, t', h1, h2⟩ := look m hm
    rw [h2]
    exact beq_eq_false_iff_ne.mpr fun e => hno m hmj (by rw [h1, e])
/-! a tuple of whole numbers that its maker knows -/
/-- tuple(xs) -/
def rTpl (K : PySem.W.Frag) : List V → Hp → VK → Prop := fun xs H Q => ∃ (p : Addr) (ys : List V), xs = [.ref p] ∧ SqL K H p ys ∧ ∀ l o, H l = none → o.cls = .type "tuple" → o.dict = none → Q (.ref l) (L2.upd H l (.frz o (.tup ys)))
theorem call_tpl {X : Cx} : CallR X (.type "tuple") (rTpl X.K) := by
  intro pins s σ H xs us Q I r h
  obtain ⟨p, ys, rfl, hq, q⟩ := h
  obtain ⟨u, rfl, rx⟩ := vals1 r
  cases rx
  obtain ⟨its, r2, pl, hz⟩ := I.list hq
  have hlen := r2.length
  refine call_tuple_list pl.isList (fun h' kp => ?_) (by rw [List.size_toArray]; omega)
  have I1 : Inv X pins σ H { s with heap := h' } := I.kept (t' := s.toks) kp
  have new := Heap.get?_push_size h' (o := { cls := Value.type "tuple", data := Data.seq its.toArray }) rfl
  have I2 : Inv X pins σ (L2.upd H h'.objs.size (.frz { cls := Value.type "tuple", data := Data.seq its.toArray } (.tup ys))) { s with heap := h'.push { cls := Value.type "tuple", data := Data.seq its.toArray } } :=
    I1.laid (t' := s.toks) (fun b o e => Heap.get?_push_of_some _ e) (Nat.le_refl _) (show ObjOk X.prog X.w _ _ _ (.frz _ (.tup ys)) from ⟨new, hz, its, r2, IsTup.new _ _⟩)
  exact ⟨.ref h'.objs.size, _, I2, rfl, q _ _ (I1.hok.fresh (Nat.le_refl _)) rfl rfl⟩
def bTpl : List D → Rs VD
  | [.lst ds] => (rO (nums ds)).bind fun ns => .ok (.val (.tpl ns))
  | _ => .stuck
@[simp] theorem bTpl_l (ds : List D) : bTpl [.lst ds] = (rO (nums ds)).bind fun ns => .ok (.val (.tpl ns)) := rfl
theorem q_tpl : QuietN bTpl := fun ds => by
  unfold bTpl
  split <;> first | exact quiet_s | exact quiet_r fun _ => quiet_v
theorem d_tpl {K : PySem.W.Frag} {mg : PySem.Str → Option Value} : RnD K mg (rTpl K) bTpl := fun S H xs ds Q z t hp e k => by
  unfold bTpl at e
  split at e
  · obtain ⟨ns, en, e⟩ := o_ok e
    cases e
    obtain ⟨x, rfl, p⟩ := topv1 hp
    obtain ⟨a, vs, rfl, h1, z1, r⟩ := p.sqL
    rw [ints_eq en] at r
    have ev := r.ofInts
    subst ev
    exact ⟨a, _, rfl, .of h1, fun l o hl c1 c2 => k _ _ (same_new hl) (.tpl (t.fresh hl) upd_same c1 c2 (by simpa using z1))⟩
  · cases e
/-! x.index(k): of a list, of a tuple that is known -/
def idxR : D → Rs Unit
  | .lst _ => .ok ()
  | .tpl _ => .ok ()
  | _ => .stuck
@[simp] theorem idxR_l (ds : List D) : idxR (.lst ds) = .ok () := rfl
@[simp] theorem idxR_p (ns : List Int) : idxR (.tpl ns) = .ok () := rfl
def eIdx (f g : DE) : DE := fun r T => (dt (f r T)).bind fun p => (idxR p.1).bind fun _ => (dt (g r p.2)).bind fun q => lift (dIdx p.1 q.1) q.2
@[simp] theorem eIdx_ap (f g : DE) (r : Env) (T : Tp) : eIdx f g r T = (dt (f r T)).bind fun p => (idxR p.1).bind fun _ => (dt (g r p.2)).bind fun q => lift (dIdx p.1 q.1) q.2 := rfl
theorem pe_bmT {X : Cx} {e o : Expr} {es : List Expr} {to : TE} {t : TA} {r : V → List V → Hp → VK → Prop} {name : PySem.Str} {id : String} {apos cpos : Pos} (pa : PlainAttrs "tuple") (slot : Slot "tuple" name id) (hty : typeOf (.builtin id) = pure (.type "method_descriptor")) (hm : MtR X id r) (ho : PE X o to) (ha : PA X (e :: es) t)
    (hbase : attributeBase o name X.env (eval o X.env) = eval o X.env)
    (hfew : ((backTo cpos (starEach (e :: es) X.env)).all (fun x => !x.1) && (backToKw cpos (keywordEach [] X.env)).all (fun x => x.1.isSome) && decide ((e :: es).length + ([] : List Keyword).length + (if ([] : List Keyword).isEmpty then 0 else 1) < 30)) = true)
    (hline : (apos.endLine == cpos.line) = true) (hs : starEach (e :: es) X.env = (false, eval e X.env) :: starEach es X.env) (hplain : (backTo cpos (starEach es X.env)).any (·.1) = false) :
    PE X (.Call (.Attribute o name apos) (e :: es) [] cpos) (fun σ H Q => to σ H fun x H1 => ∃ p ob xs, x = .ref p ∧ H1 p = some (.frz ob (.tup xs)) ∧ ob.cls = .type "tuple" ∧ ob.dict = none ∧ t σ H1 fun vs H2 => r x vs H2 Q) := by
  refine ⟨fun pins s σ H Q I h => wpAny_Call_method_late hbase hfew hline rfl (thn (ho.run pins s σ H _ I h) fun v s1 ⟨x, H1, I1, r1, p, ob, xs, ex, hp, c1, c2, q1⟩ => ?_)⟩
  subst ex
  cases (show v = Value.ref p from r1)
  have g1 : s1.heap.get? p = some ob := (I1.hok p _ hp).1
  refine ⟨"tuple", id, pa, slot, hty, ⟨ob, g1, c1⟩, fun a ea => by cases ea; exact ⟨ob, g1, c2⟩, ?_⟩
  have hA := ha.run cpos pins s1 σ H1 _ I1 q1
  rw [hs] at hA ⊢
  refine Calls.callWith_builtin (by show (false || (backTo cpos (starEach es X.env)).any (·.1)) = false; rw [hplain]; rfl) (Calls.evalArgs_plain ?_)
  exact thn hA fun us s2 ⟨vs, H2, I2, r2, q2⟩ => hm pins s2 σ H2 (.ref p) vs (.ref p) us Q I2 rfl r2 q2
theorem se_idx {X : Cx} {C : FC} {o e : Expr} {f g : DE} {apos cpos : Pos} (ho : SE X C o f) (ha : SE X C e g)
    (hbase : attributeBase o "index" X.env (eval o X.env) = eval o X.env := by rfl)
    (hfew : ((backTo cpos (starEach [e] X.env)).all (fun x => !x.1) && (backToKw cpos (keywordEach [] X.env)).all (fun x => x.1.isSome) && decide ([e].length + ([] : List Keyword).length + (if ([] : List Keyword).isEmpty then 0 else 1) < 30)) = true := by rfl)
    (hline : (apos.endLine == cpos.line) = true := by rfl) (hs : starEach [e] X.env = (false, eval e X.env) :: starEach [] X.env := by rfl) (hplain : (backTo cpos (starEach [] X.env)).any (·.1) = false := by rfl) :
    SE X C (.Call (.Attribute o "index" apos) [e] [] cpos) (eIdx f g) := by
  refine pe_imp (pe_either (pe_bm PySem.F.plainAttrs_list PySem.F.slot_list_index PySem.F.type_list_index mt_index ho (pa_cons ha pa_nil hs) hbase hfew hline hs hplain) (pe_bmT PySem.F.plainAttrs_tuple PySem.F.slot_tuple_index PySem.F.type_tuple_index mt_idxT ho (pa_cons ha pa_nil hs) hbase hfew hline hs hplain)) ?_
  rintro σ H Q ⟨ρ, T, h, P⟩
  rcases runs_dt P with ⟨d, T', ed, P1⟩ | ⟨c, fs, t, r2, ex⟩
  · cases d with
    | lst ds =>
      refine .inl ⟨ρ, T, h, gv_dtE h P fun d2 T2 v H1 ed2 h1 e1 p P2 => ?_⟩
      obtain rfl := ok_eq ed ed2
      obtain ⟨a, vs, rfl, g1, z1, r1⟩ := p.top.sqL
      refine ⟨.inl ⟨rfl, _, .of g1⟩, ρ, T2, h1, gv_dt h1 (show PostG X.K X.mg C σ (GV X.K X.mg C ρ σ H Q) ((dt (g ρ T2)).bind fun q => lift (dIdx _ q.1) q.2) from P2) fun k T3 w H2 h2 e2 p2 P3 => ?_⟩
      obtain ⟨z, ez, P4⟩ := lift_ex (q_idx _ k) h2 (post_from h2 (e1.trans e2) P3)
      have p3 := p.ext e2
      obtain ⟨b, ws, eb, g2, z2, r2⟩ := p3.top.sqL
      cases eb
      cases k with
      | int k =>
        obtain ⟨ns, en, ez⟩ := o_ok ez
        obtain ⟨j, ej, ez⟩ := o_ok ez
        cases ez
        rw [ints_eq en] at r2
        have ev := r2.ofInts
        subst ev
        obtain ⟨q1, q2⟩ := idxI_get ej
        refine ⟨a, _, .int k, j, .int k, rfl, ?_, .of g2, rfl, flat_ints ns, by rw [List.getElem?_map, q1]; rfl, beq_self_eq_true k, fun m z' hm hz => ?_, P4.pure (.int _)⟩
        · rw [p2.top.int]
        · rw [List.getElem?_map] at hz
          obtain ⟨n, hn, rfl⟩ := Option.map_eq_some_iff.mp hz
          exact beq_eq_false_iff_ne.mpr fun e => q2 m hm (by rw [hn, e])
      | _ => exact nomatch ez
    | tpl ns =>
      refine .inr ⟨ρ, T, h, gv_dtE h P fun d2 T2 v H1 ed2 h1 e1 p P2 => ?_⟩
      obtain rfl := ok_eq ed ed2
      obtain ⟨a, o, rfl, g1, c1, c2, z1⟩ := p.top.tpl
      refine ⟨a, o, _, rfl, g1, c1, c2, ρ, T2, h1, gv_dt h1 (show PostG X.K X.mg C σ (GV X.K X.mg C ρ σ H Q) ((dt (g ρ T2)).bind fun q => lift (dIdx _ q.1) q.2) from P2) fun k T3 w H2 h2 e2 p2 P3 => ?_⟩
      obtain ⟨z, ez, P4⟩ := lift_ex (q_idx _ k) h2 (post_from h2 (e1.trans e2) P3)
      obtain ⟨b, eb, g2, z2⟩ := (p.ext e2).top.tplT
      cases eb
      cases k with
      | int k =>
        obtain ⟨j, ej, ez⟩ := o_ok ez
        cases ez
        obtain ⟨q1, q2⟩ := idxI_get ej
        exact ⟨a, ns, k, j, rfl, by rw [p2.top.int], g2, q1, q2, P4.pure (.int _)⟩
      | _ => exact nomatch ez
    | _ => exact (show False from P1).elim
  · refine .inl ⟨ρ, T, h, ?_⟩
    unfold eIdx at P
    rw [ex] at P ⊢
    exact P
end Pu
namespace Pu
open PySem L2 PySem.Spec PyProof.Rows
/-! # range(a, b, -1) -/
def dwnD (a : Int) (n : Nat) : List D := (List.range n).map fun (i : Nat) => .int (a - i)
@[simp] theorem dwnD_len (a : Int) (n : Nat) : (dwnD a n).length = n := by simp [dwnD]
def iDwn (f g : DE) : DI := fun r T => (dt (f r T)).bind fun p => (dt (g r p.2)).bind fun q => (dI p.1).bind fun i => (dI q.1).bind fun j => if -8000000 ≤ i ∧ i ≤ 8000000 ∧ -8000000 ≤ j ∧ j ≤ 8000000 then .ok (dwnD i (i - j).toNat, q.2) else .stuck
@[simp] theorem iDwn_ap (f g : DE) (r : Env) (T : Tp) : iDwn f g r T = (dt (f r T)).bind fun p => (dt (g r p.2)).bind fun q => (dI p.1).bind fun i => (dI q.1).bind fun j => if -8000000 ≤ i ∧ i ≤ 8000000 ∧ -8000000 ≤ j ∧ j ≤ 8000000 then .ok (dwnD i (i - j).toNat, q.2) else .stuck := rfl
/-! xs[k] += e -/
def sAugK (i : Nat) (fi fe : DE) (r : Env) (T : Tp) : Option (Option VD) → Rs (Fl × Tp)
  | some (some (.own (.lst ds))) => (dt (fi r T)).bind fun p => (dI p.1).bind fun k => (rO (ixN ds.length k)).bind fun j => (rO ds[j]?).bind fun x => (dI x).bind fun x => (dt (fe r p.2)).bind fun q => (dI q.1).bind fun y => .ok (.nx (r.set i (some (.own (.lst (ds.set j (.int (x + y))))))), q.2)
  | _ => .stuck
@[simp] theorem sAugK_own (i : Nat) (fi fe : DE) (r : Env) (T : Tp) (ds : List D) : sAugK i fi fe r T (some (some (.own (.lst ds)))) = (dt (fi r T)).bind fun p => (dI p.1).bind fun k => (rO (ixN ds.length k)).bind fun j => (rO ds[j]?).bind fun x => (dI x).bind fun x => (dt (fe r p.2)).bind fun q => (dI q.1).bind fun y => .ok (.nx (r.set i (some (.own (.lst (ds.set j (.int (x + y))))))), q.2) := rfl
def sAugI (i : Nat) (fi fe : DE) : DS := fun r T => sAugK i fi fe r T r[i]?
@[simp] theorem sAugI_ap (i : Nat) (fi fe : DE) (r : Env) (T : Tp) : sAugI i fi fe r T = sAugK i fi fe r T r[i]? := rfl
/-! list(d): its keys -/
def kSmall : D → Bool
  | .tup xs => decide (xs.length ≤ 1000)
  | _ => false
def bListA : List D → Rs VD
  | [.dct false ds] => .ok (.own (.lst (ds.map (·.1))))
  | [.dct true ds] => if ∀ p ∈ ds, kSmall p.1 = true then .ok (.own (.lst (ds.map (·.1)))) else .stuck
  | [.tpl ns] => .ok (.own (.lst (ns.map D.int)))
  | ds => bList ds
@[simp] theorem bListA_d (ds : List (D × D)) : bListA [.dct false ds] = .ok (.own (.lst (ds.map (·.1)))) := rfl
@[simp] theorem bListA_p (ns : List Int) : bListA [.tpl ns] = .ok (.own (.lst (ns.map D.int))) := rfl
@[simp] theorem bListA_l (ds : List D) : bListA [.lst ds] = .ok (.own (.lst ds)) := rfl
@[simp] theorem bListA_t (ds : List D) : bListA [.tup ds] = .ok (.own (.lst ds)) := rfl
@[simp] theorem bListA_c (ns : List Int) : bListA [.scr ns] = .ok (.own (.lst (ns.map D.int))) := rfl
theorem q_listA : QuietN bListA := fun ds => by
  unfold bListA
  split <;> first | exact quiet_o | exact quiet_if quiet_o quiet_s | exact q_list _
/-- list(d), the keys whole numbers or texts; d may be locked -/
def rListDZ : List V → Hp → VK → Prop := fun xs H Q => ∃ d kvs, xs = [V.ref d] ∧ Rd H d (.dK kvs) ∧ ∀ q, H q = none → Q (.ref q) (L2.upd H q (.lst (kvs.map fun p => kV p.1)))
theorem call_listDZ {X : Cx} (hc : X.calm = true) : CallR X (.type "list") rListDZ := fun pins s σ H xs us Q I r ⟨d, kvs, ex, hd, q⟩ => by
  subst ex
  obtain ⟨u, rfl, rx⟩ := vals1 r
  cases rx
  obtain ⟨z1, z2, ws, kr, od⟩ := rd_of I.hok hd
  obtain ⟨n, at0⟩ := od.dictAt
  have el : kvs.length = ws.length := Paired.length kr
  rw [el] at z1
  refine PySem.W.kdl_call (PySem.W.kdl_dict (knd := mixKind X.prog X.w) (kvs := ws) (ep := n) z2) (I.ok.hd hc) at0 z1 fun h1 t1 out c hkp hnew hout => ?_
  refine ⟨.ref s.heap.objs.size, _, I.laid hkp (Nat.le_refl _) (o := .lst (kvs.map fun p => kV p.1)) ⟨by rw [List.length_map, el]; exact z1, out.toList, c, ?_, by rw [Array.toArray_toList]; exact hnew⟩, rfl, q _ (I.hok.fresh (Nat.le_refl _))⟩
  refine vals_of_at (by rw [List.length_map, el]; simpa using hout.1.symm) fun i x y ex ey => ?_
  obtain ⟨k, v, ek, hk⟩ := hout.2 i y (by rw [← Array.getElem?_toList]; exact ey)
  have ek2 : (ws.map (·.1))[i]? = some k := by rw [List.getElem?_map, ek]; rfl
  rw [← KV.keys kr, List.getElem?_map] at ek2
  obtain ⟨p, ep, rfl⟩ := Option.map_eq_some_iff.mp ek2
  rw [List.getElem?_map, ep] at ex
  cases ex
  exact keyIs_rel hk
def rListA (K : PySem.W.Frag) : List V → Hp → VK → Prop := fun xs H Q => rList K xs H Q ∨ rListDZ xs H Q ∨ ∃ d kvs, xs = [V.ref d] ∧ Rd H d (.dT kvs) ∧ ∀ p bs, H p = none → IsKeys H kvs bs → Q (.ref p) (L2.upd H p (.lst (bs.map V.ref)))
theorem call_listA {X : Cx} (hc : X.calm = true) : CallR X (.type "list") (rListA X.K) := CallR.or call_list_of (CallR.or (call_listDZ hc) (call_list_dT hc))
theorem keys_rep {K : PySem.W.Frag} {mg : PySem.Str → Option Value} {S : Addr → Prop} {H : Hp} : ∀ (ks : List Key), Reps K mg S H (ks.map kV) (ks.map kD)
  | [] => .nil
  | .inl i :: ks => .cons (.int i) (keys_rep ks)
  | .inr x :: ks => .cons (.str x) (keys_rep ks)
theorem d_listA {K : PySem.W.Frag} {mg : PySem.Str → Option Value} : RnD K mg (rListA K) bListA := fun S H xs ds Q z t hp e k => by
  unfold bListA at e
  split at e
  · cases e
    obtain ⟨x, rfl, p⟩ := topv1 hp
    rcases p.dct with ⟨_, a, kvs, rfl, h1, z1, g, r⟩ | ⟨w, _⟩
    · refine .inr (.inl ⟨a, kvs, rfl, h1, fun q hq => ?_⟩)
      have kr := keys_rep (K := K) (mg := mg) (S := S) (H := H) (kvs.map (·.1))
      rw [List.map_map, List.map_map] at kr
      have e1 : (kvs.map (kV ∘ fun x => x.1)) = kvs.map fun kv => kV kv.1 := rfl
      have e2 : (kvs.map (kD ∘ fun x => x.1)) = kvs.map fun p => kD p.1 := rfl
      rw [e1, e2, ← g] at kr
      exact k.newL hq (by rw [List.length_map]; exact z1) kr
    · cases w
  · obtain ⟨hks, rfl⟩ := if_ok e
    obtain ⟨x, rfl, p⟩ := topv1 hp
    rcases p.dct with ⟨w, _⟩ | ⟨_, a, kvs, rfl, h1, z1, g, r⟩
    · cases w
    · refine .inr (.inr ⟨a, kvs, rfl, h1, fun q bs hq ik => ?_⟩)
      have go : ∀ {kvs : List (List Key × V)} {bs : List Addr}, IsKeys H kvs bs → (∀ p ∈ kvs, p.1.length ≤ sizeLine) → Reps K mg S H (bs.map V.ref) (kvs.map fun p => keyT p.1) ∧ bs.length = kvs.length := by
        intro kvs bs ik
        unfold IsKeys at ik
        induction ik with
        | nil => exact fun _ => ⟨.nil, rfl⟩
        | @cons x y xs ys h t2 ih =>
          intro hk
          obtain ⟨i1, i2⟩ := ih fun p hp => hk p (List.mem_cons_of_mem _ hp)
          refine ⟨.cons (.tup (fun s => ?_) h (by rw [List.length_map]; exact hk x List.mem_cons_self) (keys_rep x.1)) i1, congrArg (· + 1) i2⟩
          obtain ⟨o, eo, m⟩ := t y s
          rw [h] at eo
          cases eo
          exact m
      obtain ⟨g1, g2⟩ := go ik fun p hp => by
        have : keyT p.1 ∈ kvs.map fun p => keyT p.1 := List.mem_map_of_mem hp
        rw [← g] at this
        obtain ⟨q, hq, eq⟩ := List.mem_map.mp this
        have := hks q hq
        rw [eq] at this
        have := of_decide_eq_true (show decide ((p.1.map kD).length ≤ 1000) = true from this)
        rw [List.length_map] at this
        exact k1000 this
      rw [← g] at g1
      exact k.newL hq (by rw [List.length_map, g2]; exact z1) g1
  · cases e
    obtain ⟨x, rfl, p⟩ := topv1 hp
    obtain ⟨a, rfl, h1, z1⟩ := p.tplT
    exact .inl ⟨_, _, rfl, .inr h1, fun l hl => k.newL hl (by rw [List.length_map]; exact z1) (Reps.ints _)⟩
  · exact .inl (d_list S H xs ds Q z t hp e k)
end Pu
namespace Pu
open PySem L2 PySem.Spec PyProof.Rows
/-! # a call that is lent what slots own; it gives a flat thing -/
def flatD : VD → Bool
  | .val .non => true
  | .val (.bl _) => true
  | .val (.int _) => true
  | .val (.str _) => true
  | .val (.tup ds) => ds.all fun d => match d with
    | .int _ => true
    | _ => false
  | _ => false
@[simp] theorem flatD_non : flatD (.val .non) = true := rfl
@[simp] theorem flatD_bl (b : Bool) : flatD (.val (.bl b)) = true := rfl
@[simp] theorem flatD_int (i : Int) : flatD (.val (.int i)) = true := rfl
@[simp] theorem flatD_str (x : PySem.Str) : flatD (.val (.str x)) = true := rfl
def lendK (T : Tp) (r : Env) : Rs (VD × Tp) → Rs (VD × Tp)
  | .ok q => if flatD q.1 = true then .ok (q.1, T) else .stuck
  | .exc c [] _ _ => .exc c [] T r
  | _ => .stuck
@[simp] theorem lendK_ok (T : Tp) (r : Env) (q : VD × Tp) : lendK T r (.ok q) = if flatD q.1 = true then .ok (q.1, T) else .stuck := rfl
@[simp] theorem wp_lendK {Q : VD × Tp → Prop} (T : Tp) (r : Env) (x : Rs (VD × Tp)) : wp (lendK T r x) Q ↔ wp x fun q => flatD q.1 = true ∧ Q (q.1, T) := by
  cases x with
  | ok q =>
    by_cases h : flatD q.1 = true <;> simp [lendK, h]
  | stuck => simp [lendK]
  | exc c fs t r2 => cases fs <;> simp [lendK]
def eDefB (n : Nat) (M : DM) (g : DA) : DE := fun r T => (g r T).bind fun p => if p.1.length = n then lendK p.2 r (M p.1 none) else .stuck
@[simp] theorem eDefB_ap (n : Nat) (M : DM) (g : DA) (r : Env) (T : Tp) : eDefB n M g r T = (g r T).bind fun p => if p.1.length = n then lendK p.2 r (M p.1 none) else .stuck := rfl
end Pu
namespace Pu
open PySem L2
/-! # plain helpers, more -/
/-- a tuple of whole numbers, known or not -/
def lpD (b : Bool) (ns : List Int) : D := match b with
  | true => .tpl ns
  | false => .tup (ns.map D.int)
theorem atI_map {A B : Type} (f : A → B) (xs : List A) (i : Int) : atI (xs.map f) i = (atI xs i).map f := by
  unfold L2.atI
  rw [List.length_map]
  cases ixN xs.length i with
  | none => rfl
  | some j => simp
@[simp] theorem isT_lp (cs : List PySem.Str) (t : Ty) (b : Bool) (ns : List Int) : isT cs t (lpD b ns) = some (match t with | .tuple => true | _ => false) := by cases b <;> cases t <;> rfl
@[simp] theorem dIxA_lp (b : Bool) (ns : List Int) (i : Int) : dIxA (lpD b ns) (.int i) = (rO (atI ns i)).bind fun n => .ok (.val (.int n)) := by
  cases b with
  | true => rfl
  | false =>
    show (rO (atI (ns.map D.int) i)).bind _ = _
    rw [atI_map]
    cases atI ns i <;> rfl
@[simp] theorem bLenA_lp (b : Bool) (ns : List Int) : bLenA [lpD b ns] = .ok (.val (.int ns.length)) := by
  cases b
  · show Rs.ok (VD.val (D.int ((ns.map D.int).length : Nat))) = _
    rw [List.length_map]
  · rfl
@[simp] theorem seqD_lp (b : Bool) (ns : List Int) : seqD (lpD b ns) = .ok (ns.map D.int) := by cases b <;> rfl
@[simp] theorem bTpl_map (ns : List Int) : bTpl [.lst (ns.map D.int)] = .ok (.val (.tpl ns)) := by
  show (rO (nums (ns.map D.int))).bind _ = _
  rw [ints_map]
  rfl
theorem atI_vl {ns : List Int} {k : Int} (h : 0 ≤ k ∧ k < ns.length) : atI ns k = some (vl ns k) := by
  obtain ⟨h0, h1⟩ := h
  rw [atI_some h0 h1]
  unfold vl
  rw [nth_get (by omega)]
end Pu
namespace Pu
open PySem L2 PySem.Spec PyProof.Rows
/-! # a op b op c op d -/
/-! # tuples of whole numbers that are known: joined, turned, summed -/
def dAddA : D → D → Rs VD
  | .tpl a, .tup b => if a ≠ [] ∧ b ≠ [] ∧ a.length + b.length ≤ 16000000 then .ok (.val (.tup (a.map D.int ++ b))) else .stuck
  | .tup a, .tpl b => if a ≠ [] ∧ b ≠ [] ∧ a.length + b.length ≤ 16000000 then .ok (.val (.tup (a ++ b.map D.int))) else .stuck
  | .tpl a, .tpl b => if a ≠ [] ∧ b ≠ [] ∧ a.length + b.length ≤ 16000000 then .ok (.val (.tup (a.map D.int ++ b.map D.int))) else .stuck
  | d, e => dAddI d e
theorem q_adda : Quiet2 dAddA := fun d e => by
  unfold dAddA
  split <;> first | exact quiet_if quiet_v quiet_s | exact q_add _ _
theorem d_adda {K : PySem.W.Frag} {mg : PySem.Str → Option Value} : R2D K mg (rAddU K) dAddA := fun S H x y dx dy Q z t p q e k => by
  have key : ∀ {a1 b1 : Addr} {vs ws : List V} {ds es : List D}, x = .ref a1 → y = .ref b1 → SqT K H a1 vs → SqT K H b1 ws → Reps K mg S H vs ds → Reps K mg S H ws es → ds ≠ [] → es ≠ [] → ds.length + es.length ≤ 16000000 → Res1 K mg S H (.val (.tup (ds ++ es))) Q → rAddU K x y H Q := fun {a1 b1 vs ws ds es} ex ey h1 h2 r1 r2 n1 n2 hl k => by
    have l1 := r1.len
    have l2 := r2.len
    refine .inr (.inl ⟨a1, b1, vs, ws, ex, ey, h1, h2, by rw [sizeLine_eq]; omega, fun e0 => ?_, fun _ e0 => ?_, fun _ _ p hp => k.newT t hp (by rw [List.length_append, sizeLine_eq]; omega) (r1.app r2)⟩)
    · subst e0
      exact absurd (List.eq_nil_of_length_eq_zero l1.symm) n1
    · subst e0
      exact absurd (List.eq_nil_of_length_eq_zero l2.symm) n2
  unfold dAddA at e
  split at e
  · obtain ⟨⟨c1, c2, c3⟩, rfl⟩ := if_ok e
    obtain ⟨a1, rfl, h1, _⟩ := p.tplT
    obtain ⟨b1, ws, rfl, h2, z2, r2⟩ := q.sqT
    exact key rfl rfl h1 h2 (Reps.ints _) r2 (fun w => c1 (List.map_eq_nil_iff.mp w)) c2 (by simpa using c3) k
  · obtain ⟨⟨c1, c2, c3⟩, rfl⟩ := if_ok e
    obtain ⟨a1, ws, rfl, h1, z2, r1⟩ := p.sqT
    obtain ⟨b1, rfl, h2, _⟩ := q.tplT
    exact key rfl rfl h1 h2 r1 (Reps.ints _) c1 (fun w => c2 (List.map_eq_nil_iff.mp w)) (by simpa using c3) k
  · obtain ⟨⟨c1, c2, c3⟩, rfl⟩ := if_ok e
    obtain ⟨a1, rfl, h1, _⟩ := p.tplT
    obtain ⟨b1, rfl, h2, _⟩ := q.tplT
    exact key rfl rfl h1 h2 (Reps.ints _) (Reps.ints _) (fun w => c1 (List.map_eq_nil_iff.mp w)) (fun w => c2 (List.map_eq_nil_iff.mp w)) (by simpa using c3) k
  · exact d_add S H x y dx dy Q z t p q e k
@[simp] theorem dAddA_ii (i j : Int) : dAddA (.int i) (.int j) = .ok (.val (.int (i + j))) := rfl
def bSumA : List D → Rs VD
  | [.tpl ns] => .ok (.val (.int ns.sum))
  | ds => bSum ds
theorem q_suma : QuietN bSumA := fun ds => by
  unfold bSumA
  split <;> first | exact quiet_v | exact q_sum _
theorem d_suma {K : PySem.W.Frag} {mg : PySem.Str → Option Value} : RnD K mg (rSumA K) bSumA := fun S H xs ds Q z t hp e k => by
  unfold bSumA at e
  split at e
  · cases e
    obtain ⟨x, rfl, p⟩ := topv1 hp
    obtain ⟨a, rfl, h1, z1⟩ := p.tplT
    exact ⟨a, _, rfl, .inr h1, k.pure (.int _)⟩
  · exact d_sum S H xs ds Q z t hp e k
end Pu
namespace Pu
open PySem L2 PySem.Spec PyProof.Rows
/-! # a tuple of whole numbers that is known, and some more: known again -/
def rCatP (K : PySem.W.Frag) : R2 := fun x y H Q => ∃ (a b : Addr) (xs ys : List V), x = .ref a ∧ y = .ref b ∧ SqT K H a xs ∧ SqT K H b ys ∧ xs ≠ [] ∧ ys ≠ [] ∧ xs.length + ys.length ≤ sizeLine ∧ ∀ p o, H p = none → o.cls = .type "tuple" → o.dict = none → Q (.ref p) (L2.upd H p (.frz o (.tup (xs ++ ys))))
theorem op_catP {X : Cx} : OpR X (binaryOp .Add) (rCatP X.K) := by
  intro pins s σ H x y v u Q I rx ry h
  obtain ⟨a, b, xs, ys, rfl, rfl, ha, hb, hx, hy, hz, q⟩ := h
  cases rx
  cases ry
  obtain ⟨its, r1, p1, _⟩ := I.tuple ha
  obtain ⟨its2, r2, p2, _⟩ := I.tuple hb
  refine HT.cat_tup p1 p2 (fun z => hx (r1.nil_iff.mp z)) (fun z => absurd (r2.nil_iff.mp z) hy) (fun z => ?_) (by rw [← r1.length, ← r2.length]; exact hz)
  refine ⟨.ref s.heap.objs.size, _, I.laid (t' := s.toks) (o := .frz { cls := Value.type "tuple", data := Data.seq (its ++ its2).toArray } (.tup (xs ++ ys))) (fun b ob q => Heap.get?_push_of_some _ q) (Nat.le_refl _) ?_, rfl, q _ _ (I.hok.fresh (Nat.le_refl _)) ?_ ?_⟩
  · exact ⟨Heap.get?_push_size s.heap rfl, by rw [List.length_append]; exact hz, _, r1.append r2, IsTup.new _ _⟩
  · rfl
  · rfl
def dAddT : D → D → Rs VD
  | .tpl a, .tup b => (rO (nums b)).bind fun ys => if a ≠ [] ∧ ys ≠ [] ∧ a.length + ys.length ≤ 16000000 then .ok (.val (.tpl (a ++ ys))) else .stuck
  | _, _ => .stuck
theorem q_addt : Quiet2 dAddT := fun d e => by
  unfold dAddT
  split <;> first | exact quiet_r fun _ => quiet_if quiet_v quiet_s | exact quiet_s
theorem d_addt {K : PySem.W.Frag} {mg : PySem.Str → Option Value} : R2D K mg (rCatP K) dAddT := fun S H x y dx dy Q z t p q e k => by
  unfold dAddT at e
  split at e
  · obtain ⟨ys, en, e⟩ := o_ok e
    obtain ⟨⟨c1, c2, c3⟩, rfl⟩ := if_ok e
    obtain ⟨a1, rfl, h1, z1⟩ := p.tplT
    obtain ⟨b1, ws, rfl, h2, z2, r2⟩ := q.sqT
    rw [ints_eq en] at r2
    have ev := r2.ofInts
    subst ev
    refine ⟨a1, b1, _, _, rfl, rfl, h1, h2, fun w => c1 (List.map_eq_nil_iff.mp w), fun w => c2 (List.map_eq_nil_iff.mp w), by rw [sizeLine_eq]; simp; omega, fun p o hl o1 o2 => ?_⟩
    rw [← List.map_append]
    exact k _ _ (same_new hl) (.tpl (t.fresh hl) upd_same o1 o2 (by rw [sizeLine_eq]; simp; omega))
  · cases e
end Pu
namespace Pu
open PySem L2
/-! # list(range(n)) -/
end Pu
namespace Pu
open PySem L2 PySem.Spec PyProof.Rows
/-! # a written tuple of whole numbers, known -/
end Pu
namespace Pu
open PySem L2
/-! # for x in a list of one's own: if test: return e; the list stays one's own -/
end Pu
namespace Pu
open PySem L2 PySem.Spec PyProof.Rows
/-! # a head with facts of one's own -/
abbrev AlX : Type := He.AlD × Bool
def obsX (fa : List He.Fa) (fn : List He.DefD) (fx : List (PySem.W.Frag → Bool)) (K : PySem.W.Frag) : AlX := (He.obsD fa fn K, fx.all fun f => f K)
def valX (fn : List He.DefD) : AlX := (He.valD fn, true)
def SaysX (fa : List He.Fa) (fn : List He.DefD) (fx : List (PySem.W.Frag → Bool)) (K : PySem.W.Frag) : Prop := obsX fa fn fx K = valX fn
def obsXG (n : Nat) (fa : List He.Fa) (fn : List He.DefD) (fx : List (PySem.W.Frag → Bool)) (g : Addr → Option Obj) : AlX := obsX fa fn fx (He.frG g (He.asD g n))
section
variable {fa : List He.Fa} {fn : List He.DefD} {fx : List (PySem.W.Frag → Bool)} {K : PySem.W.Frag}
theorem SaysX.d (c : SaysX fa fn fx K) : He.SaysD fa fn K := congrArg (fun z : AlX => z.1) c
theorem SaysX.fact (c : SaysX fa fn fx K) (i : Nat) {f : He.Fa} (h : fa[i]? = some f := by rfl) : f.ok K = true := c.d.fact i h
theorem SaysX.def_ (c : SaysX fa fn fx K) (i : Nat) {d : He.DefD} (h : fn[i]? = some d := by rfl) : ∃ fd, FunD K d.name d.qual d.params d.body d.scope (d.dvs K) (d.kws K) (He.fAd K d.at_) fd := c.d.def_ i h
theorem SaysX.own (c : SaysX fa fn fx K) (i : Nat) {f : PySem.W.Frag → Bool} (h : fx[i]? = some f := by rfl) : f K = true := by
  have c1 : (fx.all fun f => f K) = true := congrArg (fun z : AlX => z.2) c
  exact List.all_eq_true.mp c1 f (List.mem_of_getElem? h)
end
end Pu
namespace Pu
open PySem L2 PySem.Spec PyProof.Rows
/-! # exceptions with fields -/
/-- the class at x: an exception's of one's own, with its __init__, the fields fs not found on it; it may be caught and read -/
def oexB (K : PySem.W.Frag) (C : Addr) : Bool := match K.lookup C with
  | some ⟨.type "type", _, .cls cd, sl⟩ => (match cd.mro, sl.toList with
    | .ref C' :: bm, [_, _, _, _, some (.builtin n), _] => C' == C && (n == "ValueError.__new__" && (cd.hasDict && (!cd.hasDel && PySem.HandSPX.refsVE bm)))
    | _, _ => false)
  | _ => false
def oexF (x : PySem.Str) (fs : List PySem.Str) (K : PySem.W.Frag) : Bool :=
  oexB K (He.ga K x) && (decide (PySem.W.findIn K (.ref (He.ga K x)) "__setattr__" = some (some (.builtin "object.__setattr__"))) && (decide (PySem.W.subIn K (.ref (He.ga K x)) (.type "BaseException") = some true) &&
    (decide (PySem.W.typeIn K (.ref (He.ga K x)) = some (.type "type")) && (PySem.W.keepIn K (.ref (He.ga K x)) && (decide (PySem.W.findIn K (.ref (He.ga K x)) "__init__" = some (some (.ref (He.ma K (He.ga K x) "__init__")))) &&
      (decide (PySem.W.typeIn K (.ref (He.ma K (He.ga K x) "__init__")) = some (.type "function")) && (xfB K (He.ga K x) && fs.all fun f => decide (PySem.W.findIn K (.ref (He.ga K x)) f = some none))))))))
theorem oexB_ok {K : PySem.W.Frag} {C : Addr} (q : oexB K C = true) : ∃ nm qn N bs bm sn sub ab col dd k0 k1 k2 k3 k5, K.lookup C = some (excClassObj nm qn C N bs bm true sn sub ab col dd k0 k1 k2 k3 k5 "ValueError.__new__") ∧ PySem.HandSPX.refsVE bm = true := by
  unfold oexB at q
  split at q
  · rename_i dd cd sl ho
    split at q
    · rename_i C' bm k0 k1 k2 k3 n k5 hm hs
      simp only [Bool.and_eq_true, beq_iff_eq, Bool.not_eq_true'] at q
      obtain ⟨rfl, rfl, hh, hdel, ht⟩ := q
      obtain ⟨nm, bs, mro, ns, qn, hd, sn, sub, ab, col, del⟩ := cd
      dsimp only at hm hdel hh
      subst hm hdel hh
      have hsl : sl = #[k0, k1, k2, k3, some (.builtin "ValueError.__new__"), k5] := by
        obtain ⟨l⟩ := sl
        simp only at hs
        rw [hs]
      subst hsl
      exact ⟨nm, qn, ns, bs, bm, sn, sub, ab, col, dd, k0, k1, k2, k3, k5, ho, ht⟩
    · cases q
  · cases q
structure OexX (K : PySem.W.Frag) (x : PySem.Str) (fs : List PySem.Str) : Prop where
  t : OexC K (He.ga K x)
  ini : PySem.W.findIn K (.ref (He.ga K x)) "__init__" = some (some (.ref (He.ma K (He.ga K x) "__init__")))
  ity : PySem.W.typeIn K (.ref (He.ma K (He.ga K x) "__init__")) = some (.type "function")
  xf : XfC K (He.ga K x)
  no : ∀ f ∈ fs, PySem.W.findIn K (.ref (He.ga K x)) f = some none
theorem oexF_ok {x : PySem.Str} {fs : List PySem.Str} {K : PySem.W.Frag} (q : oexF x fs K = true) : OexX K x fs := by
  unfold oexF at q
  simp only [Bool.and_eq_true, decide_eq_true_eq, List.all_eq_true] at q
  obtain ⟨q1, q2, q3, q4, q5, q6, q7, q8, q9⟩ := q
  exact ⟨⟨oexB_ok q1, q2, q3, q4, q5⟩, q6, q7, xfB_ok q8, fun f hf => q9 f hf⟩
/-! ## its __init__: two fields -/
def spO2 (C : Addr) (f1 f2 : PySem.Str) : Sp := fun vs H Q _ => ∃ a v1 v2, vs = [.ref a, v1, v2] ∧ H a = some (exo a C none) ∧
  ∀ H2 d, H2 a = some (exo a C (some d)) → H2 d = some (exd d [(f2, v2), (f1, v1)]) → H d = none → d ≠ a → (∀ b, b ≠ a → b ≠ d → H2 b = H b) → Q .non H2
section
variable {P : Program} {w : World} {K : PySem.W.Frag} {mg : PySem.Str → Option Value} {base : Heap}
theorem init2_ok {C : Addr} {qual f1 f2 : PySem.Str} {params : Arguments} {scope : Scope} {fI : Addr} {fd : FuncData} {p1 p2 p3 p4 p5 p6 p7 p8 : Pos} (F : FunD K "__init__" qual params [.Assign [.Attribute (.Name "self" p1) f1 p2] (.Name f1 p3) p4, .Assign [.Attribute (.Name "self" p5) f2 p6] (.Name f2 p7) p8] scope [] [] fI fd) (S : FnScope ["self", f1, f2] ["self", f1, f2] scope)
    (T : OexC K C) (n1 : PySem.W.findIn K (.ref C) f1 = some none) (n2 : PySem.W.findIn K (.ref C) f2 = some none)
    (hv : ∀ (cdv : Value) (A : Around) (outer : List PySem.Env) (s : Shared) (H : Hp) (E : XK), Vis (cxOf (L2.CX P w) P w K mg base ["self", f1, f2] qual scope fI cdv A outer s H E).env.scope "self" ∧ Vis (cxOf (L2.CX P w) P w K mg base ["self", f1, f2] qual scope fI cdv A outer s H E).env.scope f1 ∧ Vis (cxOf (L2.CX P w) P w K mg base ["self", f1, f2] qual scope fI cdv A outer s H E).env.scope f2)
    (hd1 : (f1 == ("__debug__" : PySem.Str)) = false) (hc1 : (f1 == ("__classdict__" : PySem.Str)) = false) (hd2 : (f2 == ("__debug__" : PySem.Str)) = false) (hc2 : (f2 == ("__classdict__" : PySem.Str)) = false) :
    FnOk P w K mg base (L2.CX P w) 1 fI fd ["self", f1, f2] (spO2 C f1 f2) := by
  refine F.ok (CX := L2.CX P w) S (fun vs H Q E ⟨a, v1, v2, e, _⟩ => by rw [e]; rfl) fun cdv A outer s H vs Q E hr hsp => ?_
  obtain ⟨a, v1, v2, rfl, ha, q⟩ := hsp
  obtain ⟨vs, v1', v2'⟩ := hv cdv A outer s H E
  refine ⟨_, pss_cons (ps_ost (pe_var (i := 0) rfl vs) (pe_var (i := 1) rfl v1' hd1 hc1)) (pss_one (ps_ost (pe_var (i := 0) rfl vs) (pe_var (i := 2) rfl v2' hd2 hc2))), ?_⟩
  refine ⟨v1, rfl, .ref a, rfl, a, C, rfl, T, n1, .inl ⟨ha, fun dx hx hxa => ?_⟩⟩
  have e1 : (L2.upd (L2.upd H dx (exd dx [(f1, v1)])) a (exo a C (some dx))) a = some (exo a C (some dx)) := upd_same
  have e2 : (L2.upd (L2.upd H dx (exd dx [(f1, v1)])) a (exo a C (some dx))) dx = some (exd dx [(f1, v1)]) := by rw [upd_ne hxa]; exact upd_same
  refine ⟨v2, rfl, .ref a, rfl, a, C, rfl, T, n2, .inr ⟨dx, _, e1, e2, by simp, ?_⟩⟩
  refine q _ dx ?_ upd_same hx hxa fun b hb hd => ?_
  · rw [upd_ne (Ne.symm hxa)]
    exact e1
  · rw [upd_ne hd, upd_ne hb, upd_ne hd]
/-- an exception's class with two fields, as the head tells it -/
def OkE (P : Program) (w : World) (K : PySem.W.Frag) (mg : PySem.Str → Option Value) (base : Heap) (x f1 f2 : PySem.Str) : Prop :=
  ∃ (fd : FuncData), FnOk P w K mg base (L2.CX P w) 1 (He.ma K (He.ga K x) "__init__") fd ["self", f1, f2] (spO2 (He.ga K x) f1 f2) ∧ Binds K fd ["self", f1, f2] [] ∧ OexX K x [f1, f2] ∧ mg x = some (.ref (He.ga K x))
theorem okE_of {x qual f1 f2 : PySem.Str} {params : Arguments} {scope : Scope} {p1 p2 p3 p4 p5 p6 p7 p8 : Pos} (F : ∃ fd, FunD K "__init__" qual params [.Assign [.Attribute (.Name "self" p1) f1 p2] (.Name f1 p3) p4, .Assign [.Attribute (.Name "self" p5) f2 p6] (.Name f2 p7) p8] scope [] [] (He.ma K (He.ga K x) "__init__") fd) (O : OexX K x [f1, f2]) (hm : mg x = some (.ref (He.ga K x))) (S : FnScope ["self", f1, f2] ["self", f1, f2] scope)
    (hb : ∀ (kV doc pm : Value) (an : Option Addr) (cdv ct : Value) (us : List Value), us.length = (["self", f1, f2] : List PySem.Str).length → bindArgs (PySem.W.fnOf "__init__" qual params [.Assign [.Attribute (.Name "self" p1) f1 p2] (.Name f1 p3) p4, .Assign [.Attribute (.Name "self" p5) f2 p6] (.Name f2 p7) p8] scope .none kV doc pm an cdv ct) ⟨us, []⟩ = pure ((["self", f1, f2] : List PySem.Str).zip us))
    (hv : ∀ (cdv : Value) (A : Around) (outer : List PySem.Env) (s : Shared) (H : Hp) (E : XK), Vis (cxOf (L2.CX P w) P w K mg base ["self", f1, f2] qual scope (He.ma K (He.ga K x) "__init__") cdv A outer s H E).env.scope "self" ∧ Vis (cxOf (L2.CX P w) P w K mg base ["self", f1, f2] qual scope (He.ma K (He.ga K x) "__init__") cdv A outer s H E).env.scope f1 ∧ Vis (cxOf (L2.CX P w) P w K mg base ["self", f1, f2] qual scope (He.ma K (He.ga K x) "__init__") cdv A outer s H E).env.scope f2)
    (hd1 : (f1 == ("__debug__" : PySem.Str)) = false := by decide) (hc1 : (f1 == ("__classdict__" : PySem.Str)) = false := by decide) (hd2 : (f2 == ("__debug__" : PySem.Str)) = false := by decide) (hc2 : (f2 == ("__classdict__" : PySem.Str)) = false := by decide) : OkE P w K mg base x f1 f2 := by
  obtain ⟨fd, F⟩ := F
  exact ⟨fd, init2_ok F S O.t (O.no f1 (by simp)) (O.no f2 (by simp)) hv hd1 hc1 hd2 hc2, F.bindsN hb, O, hm⟩
end
/-! ## raise -/
def sRaise2 (x f1 f2 : PySem.Str) (g : DA) : DS := fun r T => (g r T).bind fun p => match p.1 with
  | [d1, d2] => .exc x [(f2, d2), (f1, d1)] p.2 r
  | _ => .stuck
theorem ss_raise2 {X : Cx} {C : FC} {x f1 f2 : PySem.Str} {k : Nat} {e : Expr} {es : List Expr} {g : DA} {p pos pos' : Pos} (hc : X.calm = true) (O : OkE X.prog X.w X.K X.mg X.base x f1 f2) (hr : Room k X.A) (tk : Takes X C.W) (ha : ∀ Y, SA X (C.plus Y) (e :: es) g) (hk : 2 ≤ k := by decide)
    (hg : Gl X x := by rfl) (hdb : (x == ("__debug__" : PySem.Str)) = false := by decide) (he : starEach (e :: es) X.env = (false, eval e X.env) :: starEach es X.env := by rfl) (hpl : (backTo pos (starEach es X.env)).any (·.1) = false := by rfl) :
    SSt X C (.Raise (some (.Call (.Name x p) (e :: es) [] pos)) none pos') (sRaise2 x f1 f2 g) := by
  obtain ⟨fd, F1, b, O, hm⟩ := O
  have hx : Passes (L2.CX X.prog X.w) X (fun _ _ _ => False) := passes_call tk fun _ _ _ _ h => h.elim
  refine ps_imp (ps_ex fun Y => ps_raise hc tk (pmk_oex (p := p) (pos := pos) (dvs := []) (ds := []) O.t O.ini O.ity F1 (hr.mono hk) b .nil hx hg hm (ha Y) hdb he hpl)) ?_
  rintro E σ H ⟨ρ, T, ⟨Y, h, hY⟩, P⟩
  refine ⟨Y, ρ, T, h, ga_bind (PostS.at hY P) fun ds T' vs H1 h1 e1 q P1 => ?_⟩
  cases q with
  | nil => exact (show False from P1).elim
  | @cons v1 d1 _ _ q1 q =>
  cases q with
  | nil => exact (show False from P1).elim
  | @cons v2 d2 _ _ q2 q =>
  cases q with
  | @cons v3 d3 _ _ q3 q => exact (show False from P1).elim
  | nil =>
    have P1 : PostG X.K X.mg (C.plus Y) σ (GS X.K X.mg C E) (Rs.exc x [(f2, _), (f1, _)] T' ρ) := P1
    refine ⟨by simp, fun a ha => ⟨a, v1, v2, rfl, upd_same, fun H2 d e1 e2 e3 e4 e5 => ⟨rfl, d, _, e1, e2, ?_, ?_⟩⟩⟩
    · rw [upd_ne e4] at e3
      exact e3
    · have hd1 : H1 d = none := by rw [upd_ne e4] at e3; exact e3
      have sm : Same H1 (L2.upd (del H2 a) d (.xd [(f2, v2), (f1, v1)])) := fun b o hb => by
        have nb : b ≠ d := fun z => by rw [z, hd1] at hb; cases hb
        have na : b ≠ a := fun z => by rw [z, ha] at hb; cases hb
        rw [upd_ne nb, del_ne na, e5 b na nb, upd_ne na]
        exact hb
      exact P1 _ _ _ (h1.more sm) ⟨_, hm, rfl, .inr ⟨d, _, rfl, upd_same, rfl, .cons (q2.ext (.same sm)) (.cons (q1.ext (.same sm)) .nil)⟩⟩
end Pu
namespace Pu
open PySem L2 PySem.Spec PyProof.Rows
/-! # try: f; except C as e: y = (e.f1, e.f2) -/
section
variable {K : PySem.W.Frag} {mg : PySem.Str → Option Value} {C : FC} {Z : Addr → Prop} {r : Env} {T : Tp} {σ : L2.St} {H : Hp}
def okFree (r : Env) (i : Nat) : Bool := match r[i]? with
  | none => false
  | some (some (.own _)) => false
  | some (some .tape) => false
  | _ => true
theorem okFree_own {r : Env} {i : Nat} (h : okFree r i = true) {d : D} (e : r[i]? = some (some (.own d))) : False := by
  unfold okFree at h
  rw [e] at h
  cases h
theorem okFree_lt {r : Env} {i : Nat} (h : okFree r i = true) : i < r.length := by
  unfold okFree at h
  cases e : r[i]? with
  | none => rw [e] at h; cases h
  | some o => exact (List.getElem?_eq_some_iff.mp e).1
theorem blank_get {r : Env} {i j : Nat} {w : VD} (e : (r.set i none)[j]? = some (some w)) : i ≠ j ∧ r[j]? = some (some w) := by
  have ne : i ≠ j := fun z => by
    subst z
    rw [List.getElem?_set] at e
    simp at e
  exact ⟨ne, by rwa [List.getElem?_set_ne ne] at e⟩
theorem ss_blank {i : Nat} (hi : okFree r i = true) (w : Option V) : SS C Z (r.set i none) (σ.set i w) = SS C Z r σ := by
  funext p
  apply propext
  unfold SS
  have e : isOwn (r.set i none) (σ.set i w) p ↔ isOwn r σ p := by
    constructor
    · rintro ⟨j, d, e1, e2⟩
      obtain ⟨ne, e1⟩ := blank_get e1
      rw [List.getElem?_set_ne ne] at e2
      exact ⟨j, d, e1, e2⟩
    · rintro ⟨j, d, e1, e2⟩
      have ne : i ≠ j := fun z => by subst z; exact okFree_own hi e1
      exact ⟨j, d, by rw [List.getElem?_set_ne ne]; exact e1, by rw [List.getElem?_set_ne ne]; exact e2⟩
  rw [e]
theorem Holds.blank (h : Holds K mg C Z r T σ H) {i : Nat} (hi : okFree r i = true) (w : Option V) : Holds K mg C Z (r.set i none) T (σ.set i w) H := by
  refine ⟨by rw [List.length_set, List.length_set]; exact h.len, h.frame, fun j d e => ?_, fun j d e => ?_, fun j l p d e e1 e2 e3 e4 => ?_, ?_, fun j e => ?_, h.st, h.zt, fun p hp => ?_, h.tree.mk' (fun _ _ e _ => e) (fun a _ _ s => by rw [ss_blank hi]; exact s) (fun _ _ _ _ _ e => e) (fun j s d q => (fun ⟨a, b⟩ => ⟨b, List.getElem?_set_ne a⟩) (blank_get q)) fun _ a b c => ⟨a, b, c⟩⟩
  · obtain ⟨ne, e⟩ := blank_get e
    rw [List.getElem?_set_ne ne, ss_blank hi]
    exact h.val j d e
  · obtain ⟨ne, e⟩ := blank_get e
    rw [List.getElem?_set_ne ne, ss_blank hi]
    exact h.own j d e
  · obtain ⟨n1, e1⟩ := blank_get e1
    obtain ⟨n2, e2⟩ := blank_get e2
    rw [List.getElem?_set_ne n1] at e3
    rw [List.getElem?_set_ne n2] at e4
    exact h.inj j l p d e e1 e2 e3 e4
  · rw [ss_blank hi]
    exact h.tape
  · obtain ⟨ne, e⟩ := blank_get e
    rw [List.getElem?_set_ne ne]
    exact h.tslot j e
  · rw [ss_blank hi]
    exact h.pin p hp
theorem Holds.other {W : WX} (h : Holds K mg C Z r T σ H) : Holds K mg { C with W := W } Z r T σ H := ⟨h.len, h.frame, h.val, h.own, h.inj, h.tape, h.tslot, h.st, h.zt, h.pin, h.tree⟩
theorem Holds.same {W : WX} (h : Holds K mg { C with W := W } Z r T σ H) : Holds K mg C Z r T σ H := ⟨h.len, h.frame, h.val, h.own, h.inj, h.tape, h.tslot, h.st, h.zt, h.pin, h.tree⟩
theorem HoldsY.other {W : WX} (h : HoldsY K mg C r T σ H) : HoldsY K mg { C with W := W } r T σ H := by
  obtain ⟨Y, h, hY⟩ := h
  exact ⟨Y, Holds.other (C := C.plus Y) h, hY⟩
theorem HoldsY.same {W : WX} (h : HoldsY K mg { C with W := W } r T σ H) : HoldsY K mg C r T σ H := by
  obtain ⟨Y, h, hY⟩ := h
  exact ⟨Y, Holds.same (C := C.plus Y) h, hY⟩
theorem look_reps {S : Addr → Prop} : ∀ {fs : List (PySem.Str × D)} {xs : List (PySem.Str × V)} {f : PySem.Str} {d : D}, fs.map (·.1) = xs.map (·.1) → Reps K mg S H (xs.map (·.2)) (fs.map (·.2)) → fs.lookup f = some d → ∃ v, xs.lookup f = some v ∧ Rep K mg S H v d
  | [], _, _, _, _, _, h => nomatch h
  | (g, d') :: fs, [], _, _, e, _, _ => nomatch e
  | (g, d') :: fs, (g', v) :: xs, f, d, e, q, h => by
    cases q with
    | cons q1 q2 =>
      have e1 : g = g' := (List.cons.inj e).1
      have e2 := (List.cons.inj e).2
      subst e1
      rw [List.lookup_cons] at h ⊢
      cases b : f == g with
      | true =>
        rw [b] at h
        cases h
        exact ⟨v, rfl, q1⟩
      | false =>
        rw [b] at h
        exact look_reps e2 q2 h
end
end Pu
namespace Pu
open PySem L2 PySem.Spec PyProof.Rows
/-! # min of a list of pairs -/
end Pu
namespace Pu
open PySem L2 PySem.Spec PyProof.Rows
/-! # isinstance(C(a, b), D), C an exception's class of one's own -/
end Pu
namespace Pu
open PySem L2 PySem.Spec PyProof.Rows PySem.W
/-! # x != y of instances with an __eq__ of one's own -/
/-! ## isinstance(x, C), C a class of one's own -/
end Pu
namespace Pu
open PySem L2 PySem.Spec PyProof.Rows
/-! # raise C(), C a plain exception's class of one's own -/
/-! # try: f; except C: g -/
/-- which classes are caught by cn, which are not -/
def Hits (K : PySem.W.Frag) (mg : PySem.Str → Option Value) (cn : PySem.Str) : List (PySem.Str × Bool) → Prop
  | [] => True
  | p :: l => (PySem.W.exmOne K (.ref (He.ga K p.1)) (.ref (He.ga K cn)) = some p.2 ∧ mg p.1 = some (.ref (He.ga K p.1))) ∧ Hits K mg cn l
theorem hits_nil {K : PySem.W.Frag} {mg : PySem.Str → Option Value} {cn : PySem.Str} : Hits K mg cn [] := trivial
theorem hits_cons {K : PySem.W.Frag} {mg : PySem.Str → Option Value} {cn x : PySem.Str} {b : Bool} {l : List (PySem.Str × Bool)} (h : PySem.W.exmOne K (.ref (He.ga K x)) (.ref (He.ga K cn)) = some b) (hm : mg x = some (.ref (He.ga K x))) (r : Hits K mg cn l) : Hits K mg cn ((x, b) :: l) := ⟨⟨h, hm⟩, r⟩
theorem Hits.look {K : PySem.W.Frag} {mg : PySem.Str → Option Value} {cn : PySem.Str} : ∀ {l : List (PySem.Str × Bool)} {c : PySem.Str} {b : Bool}, Hits K mg cn l → l.lookup c = some b → PySem.W.exmOne K (.ref (He.ga K c)) (.ref (He.ga K cn)) = some b ∧ mg c = some (.ref (He.ga K c))
  | [], _, _, _, h => nomatch h
  | (x, b') :: l, c, b, h, e => by
    rw [List.lookup_cons] at e
    cases q : c == x with
    | true =>
      rw [q] at e
      cases e
      rw [eq_of_beq q]
      exact h.1
    | false =>
      rw [q] at e
      exact Hits.look h.2 e
end Pu
namespace Pu
open PySem L2
/-! # [xs.pop(e) for ..]: a comprehension whose item changes an owned list -/
/-! tuple(..) of it -/
end Pu
namespace Pu
open PySem L2
/-! # trees: things whose parts are one's own -/
/-! ## more set apart while the rest is run -/
section
variable {K : PySem.W.Frag} {mg : Str → Option Value} {C : FC} {Z F : Addr → Prop} {r : Env} {T : Tp} {σ : L2.St} {H H' : Hp}
theorem TreesAt.leaves {S : Addr → Prop} : ∀ {F : List Addr} {ss : List Sh} {vs : List V} {ds : List D}, TreesAt K mg S H F ss vs ds → (∀ s ∈ ss, s = Sh.leaf) → F = [] ∧ Reps K mg S H vs ds
  | _, _, _, _, .nil, _ => ⟨rfl, .nil⟩
  | _, _, _, _, .cons t u, hs => by
    have e := hs _ List.mem_cons_self
    subst e
    cases t with
    | leaf p =>
      obtain ⟨e2, q⟩ := u.leaves fun s z => hs s (List.mem_cons_of_mem _ z)
      rw [e2]
      exact ⟨rfl, .cons p q⟩
theorem TreeAt.own {S : Addr → Prop} {F : List Addr} {v : V} {d : D} (t : TreeAt K mg S H F (.hom .leaf) v d) : ∃ p, v = .ref p ∧ F = [p] ∧ OwnAt K mg S H p d := by
  have hl : ∀ {A : Type} (l : List A), ∀ s ∈ l.map (fun _ => Sh.leaf), s = Sh.leaf := fun l s z => by
    obtain ⟨_, _, e⟩ := List.mem_map.mp z
    exact e.symm
  cases t with
  | lst h z t =>
    obtain ⟨e, q⟩ := t.leaves (hl _)
    exact ⟨_, rfl, by rw [e], .lst h z q⟩
  | dK h z g t =>
    obtain ⟨e, q⟩ := t.leaves (hl _)
    exact ⟨_, rfl, by rw [e], .dK h z g q⟩
  | dT h z g t =>
    obtain ⟨e, q⟩ := t.leaves (hl _)
    exact ⟨_, rfl, by rw [e], .dT h z g q⟩
  | dcn h z g q q2 => exact ⟨_, rfl, rfl, .dcn h z g q q2⟩
/-- one part of one's own, and the whole behind a change of it -/
theorem TreesAt.at {S : Addr → Prop} : ∀ {F : List Addr} {ss : List Sh} {vs : List V} {ds : List D} (j : Nat) {d : D}, TreesAt K mg S H F ss vs ds → ss[j]? = some (.hom .leaf) → ds[j]? = some d → F.Nodup →
    ∃ p, vs[j]? = some (.ref p) ∧ p ∈ F ∧ OwnAt K mg S H p d ∧ ∀ (S' : Addr → Prop) (H' : Hp) (d' : D), (∀ a o, H a = some o → ¬ S a → H' a = some o) → (∀ a o, H a = some o → ¬ S a → ¬ S' a) → (∀ q ∈ F, q ≠ p → ∀ o, H q = some o → H' q = some o) → (∀ c fs, d' ≠ .ins c fs) → OwnAt K mg S' H' p d' → TreesAt K mg S' H' F ss vs (ds.set j d')
  | _, _, _, _, _, _, .nil, e, _, _ => by simp at e
  | _, _, _, _, 0, d, .cons t u, e1, e2, hn => by
    simp only [List.getElem?_cons_zero, Option.some.injEq] at e1 e2
    subst e1 e2
    obtain ⟨p, rfl, eF, o⟩ := t.own
    subst eF
    refine ⟨p, rfl, by simp, o, fun S' H' d' k n f hi o' => ?_⟩
    have hp := (List.nodup_cons.mp hn).1
    exact .cons (o'.tree hi) (u.go k n fun q hq => f q (by simp [hq]) fun z => hp (by rw [← z]; exact hq))
  | _, _, _, _, j + 1, d, .cons t u, e1, e2, hn => by
    obtain ⟨n1, n2, n3⟩ := List.nodup_append.mp hn
    obtain ⟨p, ep, hp, o, k2⟩ := TreesAt.at j u (by simpa using e1) (by simpa using e2) n2
    refine ⟨p, by simpa using ep, List.mem_append_right _ hp, o, fun S' H' d' k n f hi o' => ?_⟩
    rw [List.set_cons_succ]
    exact .cons (t.go k n fun q hq => f q (List.mem_append_left _ hq) fun z => n3 q hq p hp z) (k2 S' H' d' k n (fun q hq => f q (List.mem_append_right _ hq)) hi o')
theorem TreesAt.len {S : Addr → Prop} : ∀ {F : List Addr} {ss : List Sh} {vs : List V} {ds : List D}, TreesAt K mg S H F ss vs ds → vs.length = ds.length
  | _, _, _, _, .nil => rfl
  | _, _, _, _, .cons _ u => congrArg (· + 1) u.len
end
/-! ## displays -/
abbrev DAo := Env → Tp → Rs (List (Sh × D) × Tp)
/-! ## looks -/
def dl1 : VD × Tp → Rs (D × Tp)
  | (.val d, T) => .ok (d, T)
  | (.own d, T) => .ok (d, T)
  | (.peek d, T) => .ok (d, T)
  | (.look d, T) => .ok (d, T)
  | _ => .stuck
def dl (x : Rs (VD × Tp)) : Rs (D × Tp) := x.bind dl1
end Pu
namespace Pu
open PySem L2
/-! # x[k].append(e): a part of a tree changes -/
section
variable {K : PySem.W.Frag} {mg : Str → Option Value} {C : FC} {r : Env} {T : Tp} {σ : L2.St} {H : Hp} {i : Nat}
theorem map_set {A B : Type} (x : B) (l : List A) (j : Nat) (a : A) : (l.set j a).map (fun _ => x) = l.map fun _ => x := by
  rw [List.map_const', List.map_const', List.length_set]
end
end Pu
namespace Pu
open PySem L2
/-! # a tree looked into as a thing that is let be -/
/-! # a tree taken out of its slot -/
section
variable {K : PySem.W.Frag} {mg : Str → Option Value} {C : FC} {Y Z : Addr → Prop} {r : Env} {T : Tp} {σ : L2.St} {H H' : Hp} {i j : Nat} {d : D} {s : Sh}
theorem TreesAt.app {S : Addr → Prop} : ∀ {F G : List Addr} {ss ts : List Sh} {vs ws : List V} {ds es : List D}, TreesAt K mg S H F ss vs ds → TreesAt K mg S H G ts ws es → TreesAt K mg S H (F ++ G) (ss ++ ts) (vs ++ ws) (ds ++ es)
  | _, _, _, _, _, _, _, _, .nil, u => u
  | _, _, _, _, _, _, _, _, .cons (F := F1) (G := G1) t q, u => by
    rw [List.append_assoc]
    exact .cons t (q.app u)
end
end Pu
/-! # for v in x: v.append(..): all parts of a tree change alike -/
namespace Pu
open PySem L2
end Pu
/-! # return (a, b) of two things of one's own; f(..)[k] of such a pair -/
namespace Pu
open PySem L2
end Pu
/-! # () * k, too -/
namespace Pu
open PySem L2 PySem.Spec PyProof.Rows
end Pu
namespace Pu
open PySem L2
/-! # [e for x in xs], each part one's own -/
end Pu
namespace Pu
open PySem L2
/-! # xs.count(k) -/
/-! # range(0, n, c) -/
/-! # y = x[k]; y.append(e): a part of a tree under another name, which is known no more behind -/
end Pu
namespace Pu
open PySem L2 PySem.Spec PyProof.Rows PySem.W
/-! # == and != by an __eq__ of one's own, and isinstance(x, C), against any kind of thing -/
/-! ## isinstance(x, C) -/
/-! ## x == y, x != y -/
end Pu
namespace Pu
open PySem L2
/-! # x, y = a, b: two plain names at once -/
/-! # x.bit_length() -/
end Pu
namespace Pu
open PySem L2
open Classical
/-! # {k: v for x in xs if ..}, keys whole numbers or texts -/
end Pu
namespace Pu
open PySem L2
open Classical
/-! # a name gets a dict comprehension -/
end Pu
namespace Pu
open PySem L2 PySem.Spec PyProof.Rows
/-! # repr -/
mutual
/-- a thing as data that can be shown -/
def pyD : D → PyData
  | .non => .none
  | .bl b => .bool b
  | .int i => .int i
  | .str x => .str x
  | .tup xs => .tuple (pyDs xs)
  | .lst xs => .list (pyDs xs)
  | .tpl ns => .tuple (ns.map PyData.int)
  | .dct _ kvs => .dict (pyKv kvs)
  | .ins _ _ => .none
  | .scr _ => .none
  | .exn _ _ => .none
  | .lrf _ => .none
  | .cel _ _ => .none
  | .dcn _ => .none
def pyDs : List D → List PyData
  | [] => []
  | x :: xs => pyD x :: pyDs xs
def pyKv : List (D × D) → List (PyData × PyData)
  | [] => []
  | (k, v) :: xs => (pyD k, pyD v) :: pyKv xs
end
mutual
/-- it can be shown: no thing of one's own, no very great number, no dict with tuples as keys -/
def shE : D → Bool
  | .non => true
  | .bl _ => true
  | .int i => decide (i.natAbs.log2 < 1920)
  | .str _ => true
  | .tup xs => shEs xs
  | .lst xs => shEs xs
  | .tpl ns => ns.all fun i => decide (i.natAbs.log2 < 1920)
  | .dct t kvs => !t && shEKv kvs
  | .ins _ _ => false
  | .scr _ => false
  | .exn _ _ => false
  | .lrf _ => false
  | .cel _ _ => false
  | .dcn _ => false
def shEs : List D → Bool
  | [] => true
  | x :: xs => shE x && shEs xs
def shEKv : List (D × D) → Bool
  | [] => true
  | (k, v) :: xs => shE k && shE v && shEKv xs
end
theorem sh_ints : ∀ ns : List Int, (ns.all fun i => decide (i.natAbs.log2 < 1920)) = true → PyData.showableAll (ns.map PyData.int) = true
  | [], _ => by rw [List.map_nil, PyData.showableAll]
  | i :: ns, h => by
    rw [List.all_cons, Bool.and_eq_true] at h
    rw [List.map_cons, PyData.showableAll, PyData.showable, sh_ints ns h.2, h.1]
    rfl
mutual
theorem sh_ok : ∀ d : D, shE d = true → (pyD d).showable = true
  | .non, _ => by rw [pyD, PyData.showable]
  | .bl b, _ => by rw [pyD, PyData.showable]
  | .int i, h => by rw [pyD, PyData.showable]; rw [shE] at h; exact h
  | .str x, _ => by rw [pyD, PyData.showable]
  | .tup xs, h => by
    rw [shE] at h
    rw [pyD, PyData.showable]
    exact shs_ok xs h
  | .lst xs, h => by
    rw [shE] at h
    rw [pyD, PyData.showable]
    exact shs_ok xs h
  | .dct t kvs, h => by
    rw [shE, Bool.and_eq_true] at h
    rw [pyD, PyData.showable]
    exact shk_ok kvs h.2
  | .tpl ns, h => by
    rw [shE] at h
    rw [pyD, PyData.showable]
    exact sh_ints ns h
  | .ins _ _, h => by rw [shE] at h; cases h
  | .scr _, h => by rw [shE] at h; cases h
  | .exn _ _, h => by rw [shE] at h; cases h
  | .lrf _, h => by rw [shE] at h; cases h
  | .cel _ _, h => by rw [shE] at h; cases h
  | .dcn _, h => by rw [shE] at h; cases h
theorem shs_ok : ∀ ds : List D, shEs ds = true → PyData.showableAll (pyDs ds) = true
  | [], _ => by rw [pyDs, PyData.showableAll]
  | d :: ds, h => by
    rw [shEs, Bool.and_eq_true] at h
    rw [pyDs, PyData.showableAll, sh_ok d h.1, shs_ok ds h.2]
    rfl
theorem shk_ok : ∀ ds : List (D × D), shEKv ds = true → PyData.showableKv (pyKv ds) = true
  | [], _ => by rw [pyKv, PyData.showableKv]
  | (k, v) :: ds, h => by
    rw [shEKv, Bool.and_eq_true, Bool.and_eq_true] at h
    rw [pyKv, PyData.showableKv, sh_ok k h.1.1, sh_ok v h.1.2, shk_ok ds h.2]
    rfl
end
theorem pyKv_keys : ∀ ds : List (D × D), (pyKv ds).map (·.1) = pyDs (ds.map (·.1))
  | [] => by rw [pyKv, List.map_nil, List.map_nil, pyDs]
  | (k, v) :: ds => by rw [pyKv, List.map_cons, List.map_cons, pyDs, pyKv_keys ds]
theorem pyKv_vals : ∀ ds : List (D × D), (pyKv ds).map (·.2) = pyDs (ds.map (·.2))
  | [] => by rw [pyKv, List.map_nil, List.map_nil, pyDs]
  | (k, v) :: ds => by rw [pyKv, List.map_cons, List.map_cons, pyDs, pyKv_vals ds]
theorem shKv_split : ∀ ds : List (D × D), shEKv ds = true → shEs (ds.map (·.2)) = true
  | [], _ => by rw [List.map_nil, shEs]
  | (k, v) :: ds, h => by
    rw [shEKv, Bool.and_eq_true, Bool.and_eq_true] at h
    rw [List.map_cons, shEs, h.1.2, shKv_split ds h.2]
    rfl
theorem shEs_split {ds : List (D × D)} (h : shEKv ds = true) : shEs (ds.map (·.2)) = true := shKv_split ds h
theorem reads_keys {hp : Heap} {P : Program} {w : World} : ∀ {es : List DictEntry} {kvs : List (Key × Value)}, Pairs (mixKind P w) es kvs → ReadsAll hp (es.map (·.key)) (pyDs (kvs.map fun q => kD q.1)) []
  | [], [], _ => by rw [List.map_nil, List.map_nil, pyDs]; exact .nil
  | [], _ :: _, h => by cases h
  | _ :: _, [], h => by cases h
  | e :: es, (k, v) :: kvs, h => by
    cases h with
    | cons r _ t =>
      have r1 : keyIs k e.key = true := r
      rw [List.map_cons, List.map_cons, pyDs]
      rcases keyIs_shape r1 with ⟨i, u, e1, e2⟩ | ⟨x, u, e1, e2⟩
      · subst e1
        rw [e2]
        show ReadsAll hp _ (pyD (.int i) :: _) _
        rw [pyD]
        exact .cons (as := []) (.int i u) (reads_keys t)
      · subst e1
        rw [e2]
        show ReadsAll hp _ (pyD (.str x) :: _) _
        rw [pyD]
        exact .cons (as := []) (.str x u) (reads_keys t)
section
variable {P : Program} {w : World} {K : PySem.W.Frag} {mg : PySem.Str → Option Value} {S : Addr → Prop} {H : Hp} {hp : Heap}
theorem pairs_vals {vs : List (Key × V)} : ∀ {kvs : List (Key × Value)} {es : List DictEntry}, KV vs kvs → Pairs (mixKind P w) es kvs → Vals (vs.map (·.2)) (es.map (·.val)) ∧ vs.map (fun p => kD p.1) = kvs.map fun q => kD q.1 := by
  induction vs with
  | nil =>
    intro kvs es a b
    cases a
    cases b
    exact ⟨.nil, rfl⟩
  | cons p vs ih =>
    intro kvs es a b
    cases a with
    | cons r a =>
      cases b with
      | cons _ q b =>
        obtain ⟨h1, h2⟩ := ih a b
        refine ⟨.cons ?_ h1, ?_⟩
        · dsimp only
          rw [q]; exact r.2
        · rw [List.map_cons, List.map_cons, h2, r.1]
theorem reads_ints0 {hp : Heap} : ∀ {ns : List Int} {us : List Value}, Vals (ns.map V.int) us → ReadsAll hp us (ns.map PyData.int) []
  | [], _, .nil => .nil
  | i :: ns, _, .cons r t => by
    obtain ⟨t', rfl⟩ := r
    exact .cons (as := []) (.int i t') (reads_ints0 t)
mutual
theorem reads_rep (hk : HOk P w H hp) : ∀ {v : V} {d : D}, Rep K mg S H v d → shE d = true → ∀ u, RelV v u → ∃ as, Reads hp u (pyD d) as ∧ ∀ a ∈ as, H a ≠ none
  | _, _, .non, _, _, r => by cases r; rw [pyD]; exact ⟨_, .none, fun _ h => nomatch h⟩
  | _, _, .bl b, _, _, r => by cases r; rw [pyD]; exact ⟨_, .bool b, fun _ h => nomatch h⟩
  | _, _, .int i, _, _, r => by obtain ⟨t, rfl⟩ := r; rw [pyD]; exact ⟨_, .int i t, fun _ h => nomatch h⟩
  | _, _, .str x, _, _, r => by obtain ⟨t, rfl⟩ := r; rw [pyD]; exact ⟨_, .str x t, fun _ h => nomatch h⟩
  | _, _, .tup s h z q, hs, _, r => by
    cases r
    rw [shE] at hs
    obtain ⟨_, its, vr, o, ho, hc, n, hd⟩ := hk _ _ h
    obtain ⟨as, ra, rn⟩ := reads_reps hk q hs its vr
    rw [pyD]
    exact ⟨as, .tuple ho hc hd ra, rn⟩
  | _, _, .lst s h z q, hs, _, r => by
    cases r
    rw [shE] at hs
    obtain ⟨_, its, n, vr, ho⟩ := hk _ _ h
    obtain ⟨as, ra, rn⟩ := reads_reps hk q hs its vr
    rw [pyD]
    refine ⟨_, .list ho rfl rfl ra, fun a ha => ?_⟩
    rcases List.mem_cons.mp ha with z | z
    · rw [z, h]; exact nofun
    · exact rn a z
  | _, _, .dK (ds := ds) s h z e q, hs, _, r => by
    cases r
    rw [shE, Bool.and_eq_true] at hs
    obtain ⟨_, _, kvs, kr, o, es, ep, ho, hx, hd, _, hpr, _⟩ := hk _ _ h
    obtain ⟨vr, ke⟩ := pairs_vals kr hpr
    obtain ⟨as, ra, rn⟩ := reads_reps hk q (shEs_split hs.2) _ vr
    have rk := reads_keys (hp := hp) hpr
    rw [← ke, ← e, ← pyKv_keys] at rk
    rw [← pyKv_vals] at ra
    rw [pyD]
    refine ⟨_, .dict ho hx.1 hd rk ra, fun a ha => ?_⟩
    rcases List.mem_cons.mp ha with z | z
    · rw [z, h]; exact nofun
    · exact rn a (by simpa using z)
  | _, _, .dKz (ds := ds) s h z e q, hs, _, r => by
    cases r
    rw [shE, Bool.and_eq_true] at hs
    obtain ⟨_, _, _, kvs, kr, o, es, ep, ho, hx, hd, _, hpr, _⟩ := hk _ _ h
    obtain ⟨vr, ke⟩ := pairs_vals kr hpr
    obtain ⟨as, ra, rn⟩ := reads_reps hk q (shEs_split hs.2) _ vr
    have rk := reads_keys (hp := hp) hpr
    rw [← ke, ← e, ← pyKv_keys] at rk
    rw [← pyKv_vals] at ra
    rw [pyD]
    refine ⟨_, .dict ho hx.1 hd rk ra, fun a ha => ?_⟩
    rcases List.mem_cons.mp ha with z | z
    · rw [z, h]; exact nofun
    · exact rn a (by simpa using z)
  | _, _, .dT .., hs, _, _ => by rw [shE] at hs; cases hs
  | _, _, .dTz .., hs, _, _ => by rw [shE] at hs; cases hs
  | _, _, .ins .., hs, _, _ => by rw [shE] at hs; cases hs
  | _, _, .scr .., hs, _, _ => by rw [shE] at hs; cases hs
  | _, _, .scrK .., hs, _, _ => by rw [shE] at hs; cases hs
  | _, _, .tpl s h c d z, hs, _, r => by
    cases r
    obtain ⟨_, _, its, vr, o, ho, hc, n, hd⟩ := hk _ _ h
    rw [pyD]
    exact ⟨[], .tuple ho hc hd (reads_ints0 vr), fun _ h => nomatch h⟩
  | _, _, .exn0, hs, _, _ => by rw [shE] at hs; cases hs
  | _, _, .dcn .., hs, _, _ => by rw [shE] at hs; cases hs
  | _, _, .exn .., hs, _, _ => by rw [shE] at hs; cases hs
theorem reads_reps (hk : HOk P w H hp) : ∀ {vs : List V} {ds : List D}, Reps K mg S H vs ds → shEs ds = true → ∀ us, Vals vs us → ∃ as, ReadsAll hp us (pyDs ds) as ∧ ∀ a ∈ as, H a ≠ none
  | _, _, .nil, _, _, .nil => by rw [pyDs]; exact ⟨_, .nil, fun _ h => nomatch h⟩
  | _, _, .cons p q, hs, _, .cons r rr => by
    rw [shEs, Bool.and_eq_true] at hs
    obtain ⟨a1, r1, n1⟩ := reads_rep hk p hs.1 _ r
    obtain ⟨a2, r2, n2⟩ := reads_reps hk q hs.2 _ rr
    rw [pyDs]
    exact ⟨_, .cons r1 r2, fun a ha => (List.mem_append.mp ha).elim (n1 a) (n2 a)⟩
end
theorem reads_top (hk : HOk P w H hp) {v : V} {d : D} (t : Top K mg S H v d) (hs : shE d = true) (u : Value) (r : RelV v u) : ∃ as, Reads hp u (pyD d) as ∧ ∀ a ∈ as, H a ≠ none := by
  rcases t with t | ⟨p, rfl, t⟩
  · exact reads_rep hk t hs u r
  · cases t with
    | lst h z q =>
      cases r
      rw [shE] at hs
      obtain ⟨_, its, n, vr, ho⟩ := hk _ _ h
      obtain ⟨as, ra, rn⟩ := reads_reps hk q hs its vr
      rw [pyD]
      refine ⟨_, .list ho rfl rfl ra, fun a ha => ?_⟩
      rcases List.mem_cons.mp ha with z | z
      · rw [z, h]; exact nofun
      · exact rn a z
    | dK h z e q =>
      cases r
      rw [shE, Bool.and_eq_true] at hs
      obtain ⟨_, _, kvs, kr, o, es, ep, ho, hx, hd, _, hpr, _⟩ := hk _ _ h
      obtain ⟨vr, ke⟩ := pairs_vals kr hpr
      obtain ⟨as, ra, rn⟩ := reads_reps hk q (shEs_split hs.2) _ vr
      have rk := reads_keys (hp := hp) hpr
      rw [← ke, ← e, ← pyKv_keys] at rk
      rw [← pyKv_vals] at ra
      rw [pyD]
      refine ⟨_, .dict ho hx.1 hd rk ra, fun a ha => ?_⟩
      rcases List.mem_cons.mp ha with z | z
      · rw [z, h]; exact nofun
      · exact rn a (by simpa using z)
    | dT => rw [shE] at hs; cases hs
    | ins => rw [shE] at hs; cases hs
    | dcn => rw [shE] at hs; cases hs
end
/-- tuples, lists and dicts -/
def isBox : D → Bool
  | .tup _ => true
  | .lst _ => true
  | .dct _ _ => true
  | .tpl _ => true
  | _ => false
theorem box_top {K : PySem.W.Frag} {mg : PySem.Str → Option Value} {S : Addr → Prop} {H : Hp} {v : V} {d : D} (t : Top K mg S H v d) (hb : isBox d = true) : ∃ a, v = .ref a := by
  rcases t with t | ⟨p, rfl, t⟩
  · cases t <;> first | exact ⟨_, rfl⟩ | cases hb
  · exact ⟨p, rfl⟩
/-- what repr is; it is not too long -/
def bRepr : List D → Rs VD
  | [d] => if shE d = true ∧ (pyD d).shown.length ≤ sizeLine ∧ (pyD d).depth ≤ 60 then .ok (.val (.str (pyD d).shown)) else .stuck
  | _ => .stuck
theorem q_repr : QuietN bRepr := fun ds => by
  unfold bRepr
  split
  · split
    · exact quiet_v
    · exact .inl rfl
  · exact .inl rfl
/-- the modules' dict stands at its place ahead of all -/
def Sm (B : Heap) : Prop := ∃ o, B.get? sysModules = some o
def rRepr (K : PySem.W.Frag) (mg : PySem.Str → Option Value) : List V → Hp → VK → Prop := fun xs H Q => ∃ (x : V) (d : D) (S : Addr → Prop), xs = [x] ∧ Top K mg S H x d ∧ shE d = true ∧ (pyD d).shown.length ≤ sizeLine ∧ (pyD d).depth ≤ 60 ∧ Q (.str (pyD d).shown) H
theorem call_repr {X : Cx} (hg : X.A.guards = some [] ∧ Sm X.base) (hu : X.A.units + 64 < cLine) : CallR X (.builtin "repr") (rRepr X.K X.mg) := by
  intro pins s σ H xs us Q I r h
  obtain ⟨x, d, S, rfl, t, hs, hz, hd, q⟩ := h
  obtain ⟨u, rfl, rx⟩ := vals1 r
  by_cases hb : isBox d = true
  · obtain ⟨a, rfl⟩ := box_top t hb
    cases rx
    obtain ⟨as, ra, rn⟩ := reads_top I.hok t hs _ rfl
    obtain ⟨o, ho⟩ := hg.2
    obtain ⟨b1, b2⟩ := I.ok.bs _ _ ho
    have hn := I.base.free _ _ b1 b2 (I.ok.noex _ _ ho)
    exact repr_of_reads' ra (sh_ok d hs) (fun _ z => rn _ z hn) hg.1 (by omega) (fun _ _ e => e) (fun h' u tk hk => ⟨.str _, H, I.kept (t' := tk) hk, ⟨u, rfl⟩, q⟩) hz
  · have done : ∀ z : PySem.Str, z = (pyD d).shown → EP X pins σ Q (.str z s.toks) { s with toks := s.toks + 1 } := fun z e => by
      subst e
      exact ⟨.str _, H, I.tok _, ⟨_, rfl⟩, q⟩
    cases d with
    | non =>
      rcases t with t | ⟨p, rfl, t⟩
      · cases t
        cases rx
        exact PySem.P.repr_of_none (done _ (by rw [pyD, PyData.shown]))
      · cases t
    | bl b =>
      rcases t with t | ⟨p, rfl, t⟩
      · cases t
        cases rx
        exact PySem.P.repr_of_bool (done _ (by rw [pyD, PyData.shown]))
      · cases t
    | int i =>
      rcases t with t | ⟨p, rfl, t⟩
      · cases t
        obtain ⟨_, rfl⟩ := rx
        rw [shE] at hs
        exact PySem.P.repr_of_int (of_decide_eq_true hs) (done _ (by rw [pyD, PyData.shown]))
      · cases t
    | str z =>
      rcases t with t | ⟨p, rfl, t⟩
      · cases t
        obtain ⟨_, rfl⟩ := rx
        rw [pyD, PyData.shown] at hz
        exact PySem.P.repr_of_str (done _ (by rw [pyD, PyData.shown])) hz
      · cases t
    | tup _ => exact absurd rfl hb
    | lst _ => exact absurd rfl hb
    | dct _ _ => exact absurd rfl hb
    | tpl _ => exact absurd rfl hb
    | exn _ _ => rw [shE] at hs; cases hs
    | lrf _ => rw [shE] at hs; cases hs
    | cel _ _ => rw [shE] at hs; cases hs
    | dcn _ => rw [shE] at hs; cases hs
    | ins _ _ => rw [shE] at hs; cases hs
    | scr _ => rw [shE] at hs; cases hs
theorem d_repr {K : PySem.W.Frag} {mg : PySem.Str → Option Value} : RnD K mg (rRepr K mg) bRepr := fun S H xs ds Q z t hp e k => by
  unfold bRepr at e
  split at e
  · split at e
    · rename_i d hc
      cases e
      obtain ⟨x, rfl, p⟩ := topv1 hp
      exact ⟨x, d, S, rfl, p, hc.1, hc.2.1, hc.2.2, k.pure (.str _)⟩
    · cases e
  · cases e
/-! ## the same, without known tuples -/
mutual
def shD : D → Bool
  | .non => true
  | .bl _ => true
  | .int i => decide (i.natAbs.log2 < 1920)
  | .str _ => true
  | .tup xs => shDs xs
  | .lst xs => shDs xs
  | .tpl _ => false
  | .dct t kvs => !t && shKv kvs
  | .ins _ _ => false
  | .scr _ => false
  | .exn _ _ => false
  | .lrf _ => false
  | .cel _ _ => false
  | .dcn _ => false
def shDs : List D → Bool
  | [] => true
  | x :: xs => shD x && shDs xs
def shKv : List (D × D) → Bool
  | [] => true
  | (k, v) :: xs => shD k && shD v && shKv xs
end
mutual
theorem shE_of : ∀ d : D, shD d = true → shE d = true
  | .non, _ => by rw [shE]
  | .bl b, _ => by rw [shE]
  | .int i, h => by rw [shE]; rw [shD] at h; exact h
  | .str x, _ => by rw [shE]
  | .tup xs, h => by rw [shE]; rw [shD] at h; exact shEs_of xs h
  | .lst xs, h => by rw [shE]; rw [shD] at h; exact shEs_of xs h
  | .dct t kvs, h => by
    rw [shD, Bool.and_eq_true] at h
    rw [shE, Bool.and_eq_true]
    exact ⟨h.1, shEKv_of kvs h.2⟩
  | .tpl _, h => by rw [shD] at h; cases h
  | .ins _ _, h => by rw [shD] at h; cases h
  | .scr _, h => by rw [shD] at h; cases h
  | .exn _ _, h => by rw [shD] at h; cases h
  | .lrf _, h => by rw [shD] at h; cases h
  | .cel _ _, h => by rw [shD] at h; cases h
  | .dcn _, h => by rw [shD] at h; cases h
theorem shEs_of : ∀ ds : List D, shDs ds = true → shEs ds = true
  | [], _ => by rw [shEs]
  | d :: ds, h => by
    rw [shDs, Bool.and_eq_true] at h
    rw [shEs, shE_of d h.1, shEs_of ds h.2]
    rfl
theorem shEKv_of : ∀ ds : List (D × D), shKv ds = true → shEKv ds = true
  | [], _ => by rw [shEKv]
  | (k, v) :: ds, h => by
    rw [shKv, Bool.and_eq_true, Bool.and_eq_true] at h
    rw [shEKv, shE_of k h.1.1, shE_of v h.1.2, shEKv_of ds h.2]
    rfl
end
end Pu
namespace Pu
open PySem L2 PySem.Spec PyProof.Rows
/-! # a promise of the def law alone, called where nothing is being shown -/
/-- like FnOk, but only where no guard stands -/
structure FnG (P : Program) (w : World) (K : PySem.W.Frag) (mg : PySem.Str → Option Value) (B : Heap) (CX : CXT) (k : Nat) (f : Addr) (fd : FuncData) (ps : List PySem.Str) (sp : Sp) : Prop where
  len : ∀ vs H Q E, sp vs H Q E → vs.length = ps.length
  run : ∀ (A : Around) (out : List PySem.Env) (t : Shared) (H : Hp) (as : PySem.Args) (us : List Value) (vs : List V) (Q : VK) (E : XK), A.guards = some [] → Room k A → Env0 P w K mg B A out t H → BindsTo t fd as (ps.zip us) → Vals vs us → sp vs H Q E →
    codeAny (model P w) A (.call (.ref f) as) (CR CX out P w H t Q E) t
section
variable {P : Program} {w : World} {K : PySem.W.Frag} {mg : PySem.Str → Option Value} {B : Heap}
theorem fnG_of {CX : CXT} {k : Nat} {f : Addr} {nm qual : PySem.Str} {params : Arguments} {body : List Stmt} {sc : Scope} {dv kv doc pm cdv ct oc : Value} {an od : Option Addr} {osl : Array (Option Value)} {N ps : List PySem.Str} {sp : Sp}
    (hf : K.lookup f = some ⟨oc, od, .func (PySem.W.fnOf nm qual params body sc dv kv doc pm an cdv ct), osl⟩) (hcd : PySem.W.codeIn K cdv qual = true) (S : FnScope N ps sc) (hlen : ∀ vs H Q E, sp vs H Q E → vs.length = ps.length)
    (hbody : ∀ (A : Around) (out : List PySem.Env) (t : Shared) (H : Hp) (vs : List V) (Q : VK) (E : XK), A.guards = some [] → Room k (A.deeper (envOfC qual sc t.heap.objs.size f cdv)) → sp vs H Q E →
      ∃ ts, PSs (cxOf CX P w K mg B N qual sc f cdv A out t H E) body ts ∧ ts { nx := fun _ H' => Q .non H', rt := Q } (L2.start N vs) H) :
    FnG P w K mg B CX (k + 1) f (PySem.W.fnOf nm qual params body sc dv kv doc pm an cdv ct) ps sp := by
  refine ⟨hlen, fun A out t H as us vs Q E hg hr e1 hb rv hsp => ?_⟩
  have hl1 := hlen _ _ _ _ hsp
  have KX1 : K.In t.heap := e1.mod.kin.keeps fun a o e => (e1.bs a o e).1
  have lim1 : t.heap.NoLimit := e1.mod.nolimit.keeps fun a o e => (e1.bs a o e).1
  have hk1 : ∀ y ∈ ps.zip us, sc.names.lookup y.1 = some .local ∨ (sc.names.lookup y.1 = some .cell ∧ ((cellsFrom (t.heap.objs.size + 1) sc.names []).lookup y.1).isSome = true) := fun ⟨n, v⟩ hy => (S.par n (List.of_mem_zip hy).1).elim (fun q => .inl q) fun q => .inr ⟨q, PySem.W.cellsFrom_some _ _ _ (.inl q)⟩
  refine codeAny_call_function hr.depth (KX1 _ _ hf) rfl S.co S.gen rfl (PySem.W.codeRec_of KX1 hcd) (hb _ _ _ _ ?_)
  refine wpAny_newFunctionEnv_cells S.kind hk1 fun en hen t1 x => ?_
  subst hen
  refine ⟨lim1.keeps x.toInCall.keep, codeAny_func ?_⟩
  obtain ⟨ts, hts, hq⟩ := hbody A out t H vs Q E hg (hr.deeper _) hsp
  have J : Inv (cxOf CX P w K mg B N qual sc f cdv A out t H E) [] (L2.start N vs) H t1 := inv_start S hr.hd e1 hl1 rv x
  refine wpAny_mono (hts.run [] t1 (L2.start N vs) H _ J hq) (fun fl t2 hs => ?_) fun e t2 hs => hs
  have fin1 : ∀ {σ1 : L2.St} {H1 : Hp} {v : V} {u : Value}, Inv (cxOf CX P w K mg B N qual sc f cdv A out t H E) [] σ1 H1 t2 → RelV v u → Q v H1 → CE out P w H t Q u t2 := fun {σ1 H1 v u} J1 r1 q => ⟨v, H1, J1.os, J1.bare, J1.base, J1.hok, r1, q⟩
  cases fl with
  | brk => exact (hs.choose_spec.choose_spec.2 : False).elim
  | cont => exact (hs.choose_spec.choose_spec.2 : False).elim
  | next =>
    obtain ⟨σ1, H1, J1, q⟩ := hs
    exact fin1 (v := V.non) (u := Value.none) J1 rfl q
  | ret u =>
    obtain ⟨v, σ1, H1, J1, r1, q⟩ := hs
    exact fin1 J1 r1 q
theorem funG_of {qual x : PySem.Str} {params : Arguments} {body : List Stmt} {sc : Scope} {dvs : List V} {kws : List (PySem.Str × V)} {f : Addr} {fd : FuncData} {CX : CXT} {N ps : List PySem.Str} {k : Nat} {sp : Sp} (F : FunD K x qual params body sc dvs kws f fd) (S : FnScope N ps sc) (hlen : ∀ vs H Q E, sp vs H Q E → vs.length = ps.length)
    (hbody : ∀ (cdv : Value) (A : Around) (out : List PySem.Env) (t : Shared) (H : Hp) (vs : List V) (Q : VK) (E : XK), A.guards = some [] → Room k (A.deeper (envOfC qual sc t.heap.objs.size f cdv)) → sp vs H Q E →
      ∃ ts, PSs (cxOf CX P w K mg B N qual sc f cdv A out t H E) body ts ∧ ts { nx := fun _ H' => Q .non H', rt := Q } (L2.start N vs) H) : FnG P w K mg B CX (k + 1) f fd ps sp := by
  obtain ⟨oc, od, dv, kv, doc, pm, an, cdv, ct, osl, rfl, hf, hcd, -, -⟩ := F.ex
  exact fnG_of hf hcd S hlen fun A out t H vs Q E hg hr hsp => hbody cdv A out t H vs Q E hg hr hsp
theorem okG_of {x qual : PySem.Str} {params : Arguments} {body : List Stmt} {scope : Scope} {N ps : List PySem.Str} {k : Nat} {io : Bool} {g : DS} {fd : FuncData} (F : FunD K x qual params body scope [] [] (He.ga K x) fd) (S : FnScope N ps scope)
    (hbody : ∀ (cdv : Value) (A : Around) (outer : List PySem.Env) (s : Shared) (H : Hp) (E : XK) (C : FC), A.guards = some [] → Room k (A.deeper (PyProof.Rows.envOfC qual scope s.heap.objs.size (He.ga K x) cdv)) → Takes (cxOf (L2.CX P w) P w K mg B N qual scope (He.ga K x) cdv A outer s H E) C.W →
      SSs (cxOf (L2.CX P w) P w K mg B N qual scope (He.ga K x) cdv A outer s H E) C body g) : FnG P w K mg B (L2.CX P w) (k + 1) (He.ga K x) fd ps (SpD K mg ps.length io (runD N.length io g)) := by
  refine funG_of (CX := L2.CX P w) F S (fun vs H Q E ⟨C, vs1, ds, T, _, hl, _⟩ => hl) fun cdv A outer s H vs Q E hg hr hsp => ?_
  obtain ⟨C0, vs1, ds, T, rfl, hl, st, a, t, r, P⟩ := hsp
  let C : FC := { C0 with W := fun cls d _ H => E cls d H, pin := [] }
  refine ⟨_, hbody cdv A outer s C0.H0 E C hg hr (takes_of rfl rfl rfl rfl), ?_⟩
  have hpl : ps.length ≤ N.length := by
    have := congrArg List.length S.pre
    rw [List.length_take] at this
    omega
  have ntree : ∀ (i : Nat) (s : Sh) (d : D), (env0 N.length io ds)[i]? ≠ some (some (.tree s d)) := fun i s d q => by
    rcases env0_get q with ⟨_, _, z⟩ | ⟨_, z, _⟩ <;> cases z
  refine ⟨env0 N.length io ds, T, (holds_start (C := C) (by rw [hl]; exact hpl) st a t r rfl).plus0 ntree, ?_⟩
  unfold runD at P
  cases q : g (env0 N.length io ds) T with
  | stuck =>
    rw [q] at P
    exact P.elim
  | exc c fs T' r' =>
    rw [q] at P
    exact fun σ cls d H' Y hY h1 x => P cls d H' h1.frame ((show TapeOk K mg (SS (C.plus Y) Z0 r' σ) C.tp T' H' from h1.tape).less fun a _ _ s z => s (s1_less a z)) (x.less fun a _ _ s z => s (s1_less a z))
  | ok p =>
    rw [q] at P
    obtain ⟨fl, T'⟩ := p
    cases fl with
    | nx r' => exact fun σ H ⟨Y, h1, hY⟩ => P .non H h1.frame (ret_val (C := C) h1 .non)
    | rt v => exact fun u H e1 q => P u H e1 q
    | bk r' => exact P.elim
    | ct r' => exact P.elim
/-- the law's call -/
theorem lawG_call {mb : PySem.Str → Option Value} {CX : CXT} {k : Nat} {f0 a0 : Addr} {fd : FuncData} {x : PySem.Str} {sp : Sp} {t1 : Shared} {ws : List Value} {ns : List Int}
    (KX : K.In t1.heap) (nsG : t1.heap.Ns mainGlobals mg) (nsB : t1.heap.Ns builtinsNs mb) (hbb : ∀ x : PySem.Str, x ≠ "__name__" → mb x = bootBuiltins x) (lim : t1.heap.NoLimit) (gens0 : t1.gens = #[])
    (hobj : t1.heap.get? a0 = some { cls := .type "list", data := .seq ws.toArray }) (hints : IntsAre ws ns) (hlen : ns.length ≤ sizeLine) (hr : Room k callerA)
    (hsm : ∃ o, t1.heap.get? sysModules = some o ∧ o.cls = .type "dict") (F : ∀ B : Heap, K.In B → B.Ns mainGlobals mg → Sm B → FnG P w K mg B CX k f0 fd [x] sp) (bt : ∀ (s : Shared) (u : Value), BindsTo s fd ⟨[u], []⟩ [(x, u)])
    (hsp : ∀ H : Hp, Only H → SqL K H a0 (ns.map V.int) → sp [.ref a0] H (fun v _ => v = .bl true) fun _ _ _ => False)
    (hCX : ∀ H e s2, CX [] H t1 (fun _ _ _ => False) e s2 → False) :
    codeAny (model P w) callerA (.call (.ref f0) ⟨[.ref a0], []⟩) (fun r s2 => r = .ok (.ret (.bool true)) ∧ OldK t1.heap s2.heap ∧ s2.os = t1.os ∧ AllBare s2.gens) t1 := by
  have rI := vals_ints hints
  have lI := hints.length
  have main : ∀ H : Hp, Only H → SqL K H a0 (ns.map V.int) → HOk P w H t1.heap → (∀ b, H b ≠ none → b = a0) → (H a0 ≠ none → K.lookup a0 = none) → codeAny (model P w) callerA (.call (.ref f0) ⟨[.ref a0], []⟩) (fun r s2 => r = .ok (.ret (.bool true)) ∧ OldK t1.heap s2.heap ∧ s2.os = t1.os ∧ AllBare s2.gens) t1 := by
    intro H hO hS hh only kno
    have hid : ∀ {b : Addr} {o : Obj}, t1.heap.get? b = some o → H b = none → (hidT t1.heap H).get? b = some o := fun e n => hidT_get e n
    have ndict : ∀ {b : Addr} {o : Obj} {es : Array DictEntry} {ep : Nat}, t1.heap.get? b = some o → o.data = .dict es ep → H b = none := fun {b o es ep} e d => by
      rcases hq : H b with _ | u
      · rfl
      · obtain rfl := only b (by rw [hq]; exact fun z => nomatch z)
        rw [hobj] at e
        cases e
        cases (show Data.seq ws.toArray _ = Data.dict es ep from d)
    have keepNs : ∀ {b : Addr} {m : PySem.Str → Option Value}, t1.heap.Ns b m → (hidT t1.heap H).Ns b m := fun {b m} ⟨o, es, ep, e, d, r⟩ => ⟨o, es, ep, hid e (ndict e d), d, r⟩
    have keepK : K.In (hidT t1.heap H) := fun b o e => hid (KX b o e) (by
      rcases hq : H b with _ | u
      · rfl
      · obtain rfl := only b (by rw [hq]; exact fun z => nomatch z)
        rw [kno (by rw [hq]; exact fun z => nomatch z)] at e
        cases e)
    have md : Mod K mg (hidT t1.heap H) := ⟨keepK, keepNs nsG, ⟨mb, keepNs nsB, hbb⟩, let ⟨mc, h1, h2⟩ := lim; ⟨mc, keepNs h1, h2⟩⟩
    have en : Env0 P w K mg (hidT t1.heap H) callerA [] t1 H := ⟨rfl, md, fun b o e => of_hidT e, Nat.le_of_eq (hidT_size _ _), trivial, fun b z => (List.not_mem_nil (show b ∈ ([] : List Addr) from z)).elim, hh, .of_eq gens0⟩
    have smh : Sm (hidT t1.heap H) := by
      obtain ⟨o, ho, hc⟩ := hsm
      refine ⟨o, hid ho ?_⟩
      rcases hq : H sysModules with _ | u
      · rfl
      · obtain e := only _ (by rw [hq]; exact fun z => nomatch z)
        rw [e, hobj] at ho
        cases ho
        exact absurd (Value.type.inj hc) (by decide)
    refine codeAny_mono ((F _ keepK (keepNs nsG) smh).run callerA [] t1 H ⟨[.ref a0], []⟩ [.ref a0] [.ref a0] _ _ rfl hr en (bt t1 (.ref a0)) (.cons rfl .nil) (hsp H hO hS)) fun r s2 h => ?_
    rcases r with e | fl
    · exact (hCX H e s2 h).elim
    · cases fl with
      | ret u =>
        obtain ⟨v, H2, os, bare, un, hh2, rv, q⟩ := h
        obtain rfl : v = .bl true := q
        obtain rfl : u = Value.bool true := rv
        refine ⟨rfl, OldK.of_keep fun b o e => ?_, os, bare⟩
        rcases hq : H b with _ | u
        · exact un.keep b o e hq (fun z => (List.not_mem_nil (show b ∈ ([] : List Addr) from z)).elim) (by simp)
        · rcases hO b with z | ⟨ob, xs, z⟩
          · rw [hq] at z; cases z
          · obtain ⟨d1, _⟩ := hh b _ z
            obtain ⟨d2, _⟩ := hh2 b _ (un.frzs b ob _ z)
            rw [e] at d1
            cases d1
            exact d2
      | next => exact False.elim h
      | brk => exact False.elim h
      | cont => exact False.elim h
  rcases hk : K.lookup a0 with _ | o
  · refine main (fun b => if b = a0 then some (.frz { cls := .type "list", data := .seq ws.toArray } (.lst (ns.map V.int))) else none) (fun b => ?_) (.inl (.inr ⟨{ cls := .type "list", data := .seq ws.toArray }, if_pos rfl⟩)) (fun b u z => ?_) (fun b z => Classical.byContradiction fun hb => z (if_neg hb)) fun _ => hk
    · rcases Classical.em (b = a0) with hb | hb
      · exact .inr ⟨_, _, if_pos hb⟩
      · exact .inl (if_neg hb)
    · rcases Classical.em (b = a0) with hb | hb
      · cases (if_pos hb).symm.trans z
        subst hb
        exact ⟨hobj, by rw [List.length_map]; exact hlen, ws, _, rI, hobj⟩
      · cases (if_neg hb).symm.trans z
  · have e := KX a0 o hk
    rw [hobj] at e
    cases e
    exact main (fun _ => none) (fun _ => .inl rfl) (.inr ⟨_, ws.toArray, _, hk, rfl, rfl, rfl, by rw [List.size_toArray, lI]; exact hlen, by simpa using rI⟩) (fun b u z => nomatch (show (none : Option HO) = some u from z)) (fun b z => (z rfl).elim) fun z => (z rfl).elim
end
/-! ## a head that also tells where the modules' dict stands -/
def smB (g : Addr → Option Obj) : Bool := match g sysModules with
  | some ⟨.type c, _, _, _⟩ => decide (c = "dict")
  | _ => false
theorem smB_ok {g : Addr → Option Obj} (h : smB g = true) : ∃ o, g sysModules = some o ∧ o.cls = .type "dict" := by
  unfold smB at h
  split at h
  · rename_i e
    exact ⟨_, e, by rw [of_decide_eq_true h]⟩
  · cases h
theorem smB_of {g : Addr → Option Obj} {o : Obj} (h : g sysModules = some o) (hc : o.cls = .type "dict") : smB g = true := by
  obtain ⟨c, d, dt, sl⟩ := o
  dsimp only at hc
  subst hc
  unfold smB
  rw [h]
  rfl
abbrev AlS : Type := AlX × Bool
def hookS (n : Nat) (fa : List He.Fa) (fn : List He.DefD) (fx : List (PySem.W.Frag → Bool)) : PySem.W.Hook where
  α := AlS
  obs := fun s => (obsXG n fa fn fx s.heap.get?, smB s.heap.get?)
  val := fun _ => (valX fn, true)
  says := fun _ h => (∃ K : PySem.W.Frag, K.In h ∧ SaysX fa fn fx K) ∧ smB h.get? = true
  of := fun _ _ e => ⟨⟨_, He.frG_in, congrArg (fun z : AlS => z.1) e⟩, congrArg (fun z : AlS => z.2) e⟩
  keeps := fun _ _ _ ⟨⟨K, hK, c⟩, q⟩ k => ⟨⟨K, PySem.W.Frag.In.keeps hK k, c⟩, by
    obtain ⟨o, ho, hc⟩ := smB_ok q
    exact smB_of (k _ _ ho) hc⟩
def obsSG (n : Nat) (fa : List He.Fa) (fn : List He.DefD) (fx : List (PySem.W.Frag → Bool)) (g : Addr → Option Obj) : AlS := (obsXG n fa fn fx g, smB g)
theorem obsSG_eq {n : Nat} {fa : List He.Fa} {fn : List He.DefD} {fx : List (PySem.W.Frag → Bool)} {g : Addr → Option Obj} {s : Shared} (h : ∀ a, g a = s.heap.get? a) : obsSG n fa fn fx g = (hookS n fa fn fx).obs s := by
  have e : g = s.heap.get? := funext h
  rw [e] <;> rfl
/-- the end of a law whose def is run where no guard stands -/
theorem walkG {l : PySem.W.OpenLaw} {k : Nat} {q : Program} {loose : List PySem.Str} {XP : (PySem.Str → Option Value) → Heap → Prop} {fa : List He.Fa} {fn : List He.DefD} {fx : List (PySem.W.Frag → Bool)} {d : DefRec} {x : PySem.Str} {M : DM}
    (hn : l.most = some 63) (hdf : d.params.defaults = []) (hr : Room k callerA) (hd1 : d.name = "law")
    (hM : ∀ ns : List Int, ns.length ≤ 63 → ∃ T, M [.scr ns] none = .ok (.val (.bl true), T))
    (hb : ∀ (K : PySem.W.Frag), SaysX fa fn fx K → ∃ fd : FuncData, (∀ (s : Shared) (u : Value), BindsTo s fd ⟨[u], []⟩ [(x, u)]) ∧
      ∀ (w : World) (mg : PySem.Str → Option Value) (h base : Heap), K.In h → h.Ns mainGlobals mg → Sm base → FnG l.prog w K mg base (L2.CX l.prog w) k (He.ga K "law") fd [x] (SpD K mg 1 false M) ∧ mg "law" = some (.ref (He.ga K "law"))) :
    PySem.W.WalkO q loose XP (fun _ h => (∃ K : PySem.W.Frag, K.In h ∧ SaysX fa fn fx K) ∧ smB h.get? = true) l.row.toRowW d [] (fun f vs => PySem.call f vs) := by
  refine Att.attach_call hn hdf ?_
  intro w s0 s1 mg mb fa' o pm cd doc a vs ns G Y ho hd hcd hmg hobj hints hlen hg
  obtain ⟨⟨K, KX, c⟩, hsm⟩ := Y
  obtain ⟨so, hso, hsc⟩ := smB_ok hsm
  obtain ⟨fd, bt, F⟩ := hb K c
  obtain ⟨_, el⟩ := F w mg _ s1.heap KX G.T.g ⟨so, hso⟩
  rw [hd1, el] at hmg
  cases hmg
  exact lawG_call KX G.T.g G.T.b G.T.builtins G.T.nolimit hg hobj hints (Nat.le_trans hlen (by decide)) hr ⟨so, hso, hsc⟩
    (fun base _ _ sm => (F w mg _ base KX G.T.g sm).1) bt (fun H _ hS => law_sp hM H a ns hlen hS) fun H e s' z => by
      obtain ⟨_, _, _, _, _, _, _, _, _, _, _, _, f⟩ := z
      exact f
end Pu
namespace Pu
open PySem L2 PySem.Spec PyProof.Rows
theorem bo_repr : bootBuiltins "repr" = some (.builtin "repr") := by decide +kernel
/-! # xs.count(k), xs.index(k) of flat things -/
end Pu
namespace Pu
open PySem L2 PySem.Spec PyProof.Rows
/-! # try .. except C as e: a suite that asks of e -/
abbrev XA := Addr × Option Addr
/-- where no address is known -/
abbrev x0 : XA := (0, none)
/-- isinstance(e, C), known -/
def eIsE (i : Nat) (x : XA) (b : Bool) : DE := fun r T => match r[i]? with
  | some (some (.val (.exn y _))) => if y = x then .ok (.val (.bl b), T) else .stuck
  | _ => .stuck
/-- e.f -/
def eXf (i : Nat) (x : XA) (f : PySem.Str) : DE := fun r T => match r[i]? with
  | some (some (.val (.exn y fs))) => if y = x then (match fs.lookup f with
    | some d => .ok (.val d, T)
    | none => .stuck) else .stuck
  | _ => .stuck
/-! ## the same wherever e stands -/
abbrev Xe (r : Env) (i : Nat) (x : XA) (fs : List (PySem.Str × D)) : Env := r.set i (some (.val (.exn x fs)))
def BE (i : Nat) (f : XA → DE) : Prop := ∀ (r : Env) (T : Tp) (x : XA) (fs : List (PySem.Str × D)) (z : VD × Tp), f x0 (Xe r i x0 fs) T = .ok z → f x (Xe r i x fs) T = .ok z
def BA (i : Nat) (f : XA → DA) : Prop := ∀ (r : Env) (T : Tp) (x : XA) (fs : List (PySem.Str × D)) (z : List D × Tp), f x0 (Xe r i x0 fs) T = .ok z → f x (Xe r i x fs) T = .ok z
def BT (i : Nat) (f : XA → DT) : Prop := ∀ (r : Env) (T : Tp) (x : XA) (fs : List (PySem.Str × D)) (z : Bool × Tp), f x0 (Xe r i x0 fs) T = .ok z → f x (Xe r i x fs) T = .ok z
def BS (i : Nat) (f : XA → DS) : Prop := ∀ (r : Env) (T : Tp) (x : XA) (fs : List (PySem.Str × D)) (r2 : Env) (T2 : Tp), f x0 (Xe r i x0 fs) T = .ok (.nx r2, T2) → ∃ r3 : Env, r3.length = r.length ∧ r2 = Xe r3 i x0 fs ∧ f x (Xe r i x fs) T = .ok (.nx (Xe r3 i x fs), T2)
section
variable {i j : Nat} {f g h : XA → DE} {ga : XA → DA} {c c' : XA → DT} {s t : XA → DS}
theorem rs_ok {A B : Type} {x : Rs A} {k : A → Rs B} {z : B} (h : x.bind k = .ok z) : ∃ y, x = .ok y ∧ k y = .ok z := by
  cases x with
  | ok y => exact ⟨y, rfl, h⟩
  | exc c fs t r => cases h
  | stuck => cases h
theorem BE.k {d : D} : BE i fun _ => eC d := fun r T x fs z e => e
theorem BE.isE {b : Bool} : BE i fun x => eIsE i x b := fun r T x fs z e => by
  unfold eIsE at e ⊢
  try dsimp only at e ⊢
  by_cases hl : i < r.length
  · rw [List.getElem?_set_self hl] at e ⊢
    dsimp only at e ⊢
    rw [if_pos rfl] at e ⊢
    exact e
  · rw [List.getElem?_eq_none (by rw [List.length_set]; omega)] at e
    cases e
theorem BE.xf {n : PySem.Str} : BE i fun x => eXf i x n := fun r T x fs z e => by
  unfold eXf at e ⊢
  try dsimp only at e ⊢
  by_cases hl : i < r.length
  · rw [List.getElem?_set_self hl] at e ⊢
    dsimp only at e ⊢
    rw [if_pos rfl] at e ⊢
    exact e
  · rw [List.getElem?_eq_none (by rw [List.length_set]; omega)] at e
    cases e
theorem BE.dv (hf : BE i f) {r : Env} {T : Tp} {x : XA} {fs : List (PySem.Str × D)} {z : D × Tp} (e : dv (f x0 (Xe r i x0 fs) T) = .ok z) : Pu.dv (f x (Xe r i x fs) T) = .ok z := by
  obtain ⟨y, e1, e2⟩ := rs_ok e
  rw [hf r T x fs y e1]
  exact e2
theorem BE.call {o : List D → Rs VD} (hg : BA i ga) : BE i fun x => eCall o (ga x) := fun r T x fs z e => by
  unfold eCall at e ⊢
  try dsimp only at e ⊢
  obtain ⟨p, e1, e⟩ := rs_ok e
  rw [hg r T x fs p e1, Rs.bind_ok]
  exact e
theorem BE.lst (hg : BA i ga) : BE i fun x => eLst (ga x) := fun r T x fs z e => by
  unfold eLst at e ⊢
  try dsimp only at e ⊢
  obtain ⟨p, e1, e⟩ := rs_ok e
  rw [hg r T x fs p e1, Rs.bind_ok]
  exact e
theorem BE.tup (hg : BA i ga) : BE i fun x => eTup (ga x) := fun r T x fs z e => by
  unfold eTup at e ⊢
  try dsimp only at e ⊢
  obtain ⟨p, e1, e⟩ := rs_ok e
  rw [hg r T x fs p e1, Rs.bind_ok]
  exact e
theorem BA.nil : BA i fun _ => aNil := fun r T x fs z e => e
theorem BA.cons (hf : BE i f) (hg : BA i ga) : BA i fun x => aCons (f x) (ga x) := fun r T x fs z e => by
  unfold aCons at e ⊢
  try dsimp only at e ⊢
  obtain ⟨p, e1, e⟩ := rs_ok e
  obtain ⟨q, e2, e⟩ := rs_ok e
  rw [hf.dv e1, Rs.bind_ok, hg r p.2 x fs q e2, Rs.bind_ok]
  exact e
theorem BT.b (hf : BE i f) : BT i fun x => xB (f x) := fun r T x fs z e => by
  unfold xB at e ⊢
  try dsimp only at e ⊢
  obtain ⟨p, e1, e⟩ := rs_ok e
  rw [hf.dv e1, Rs.bind_ok]
  exact e
theorem BT.nt (hc : BT i c) : BT i fun x => xNot (c x) := fun r T x fs z e => by
  unfold xNot at e ⊢
  try dsimp only at e ⊢
  obtain ⟨p, e1, e⟩ := rs_ok e
  rw [hc r T x fs p e1, Rs.bind_ok]
  exact e
theorem BT.and (hc : BT i c) (hd : BT i c') : BT i fun x => xAnd (c x) (c' x) := fun r T x fs z e => by
  unfold xAnd at e ⊢
  try dsimp only at e ⊢
  obtain ⟨p, e1, e⟩ := rs_ok e
  rw [hc r T x fs p e1, Rs.bind_ok]
  by_cases hp : p.1 = true
  · rw [if_pos hp] at e ⊢
    exact hd r p.2 x fs z e
  · rw [if_neg hp] at e ⊢
    exact e
theorem BT.or (hc : BT i c) (hd : BT i c') : BT i fun x => xOr (c x) (c' x) := fun r T x fs z e => by
  unfold xOr at e ⊢
  try dsimp only at e ⊢
  obtain ⟨p, e1, e⟩ := rs_ok e
  rw [hc r T x fs p e1, Rs.bind_ok]
  by_cases hp : p.1 = true
  · rw [if_pos hp] at e ⊢
    exact e
  · rw [if_neg hp] at e ⊢
    exact hd r p.2 x fs z e
theorem BS.pass : BS i fun _ => sPass := fun r T x fs r2 T2 e => by
  cases e
  exact ⟨r, rfl, rfl, rfl⟩
theorem BS.no : BS i fun _ => sNo := fun r T x fs r2 T2 e => by cases e
theorem BS.seq (hs : BS i s) (ht : BS i t) : BS i fun x => sSeq (s x) (t x) := fun r T x fs r2 T2 e => by
  unfold sSeq at e ⊢
  try dsimp only at e ⊢
  obtain ⟨⟨fl, T1⟩, e1, e⟩ := rs_ok e
  cases fl with
  | nx r1 =>
    obtain ⟨r3, l3, rfl, e3⟩ := hs r T x fs r1 T1 e1
    obtain ⟨r4, l4, rfl, e4⟩ := ht r3 T1 x fs r2 T2 e
    exact ⟨r4, by omega, rfl, by rw [e3, Rs.bind_ok]; exact e4⟩
  | rt v => cases e
  | bk r1 => cases e
  | ct r1 => cases e
theorem BS.ite (hc : BT i c) (hs : BS i s) (ht : BS i t) : BS i fun x => sIf (c x) (s x) (t x) := fun r T x fs r2 T2 e => by
  unfold sIf at e ⊢
  try dsimp only at e ⊢
  obtain ⟨p, e1, e⟩ := rs_ok e
  rw [hc r T x fs p e1, Rs.bind_ok]
  by_cases hp : p.1 = true
  · rw [if_pos hp] at e ⊢
    exact hs r p.2 x fs r2 T2 e
  · rw [if_neg hp] at e ⊢
    exact ht r p.2 x fs r2 T2 e
theorem put_xe {r : Env} {x : XA} {fs : List (PySem.Str × D)} {v : VD} {r2 : Env} (hj : i ≠ j) (e : put (Xe r i x0 fs) j v = .ok r2) : ∃ r3 : Env, r3.length = r.length ∧ r2 = Xe r3 i x0 fs ∧ put (Xe r i x fs) j v = .ok (Xe r3 i x fs) := by
  cases v with
  | val d => cases e; exact ⟨r.set j (some (.val d)), by simp, List.set_comm _ _ hj, congrArg Rs.ok (List.set_comm _ _ hj)⟩
  | own d => cases e; exact ⟨r.set j (some (.own d)), by simp, List.set_comm _ _ hj, congrArg Rs.ok (List.set_comm _ _ hj)⟩
  | tree s d => cases e; exact ⟨r.set j (some (.tree s d)), by simp, List.set_comm _ _ hj, congrArg Rs.ok (List.set_comm _ _ hj)⟩
  | peek d => cases e
  | look d => cases e
  | tape => cases e
theorem BS.asg (hf : BE i f) (hj : i ≠ j) : BS i fun x => sAsg j (f x) := fun r T x fs r2 T2 e => by
  unfold sAsg at e ⊢
  try dsimp only at e ⊢
  obtain ⟨p, e1, e⟩ := rs_ok e
  obtain ⟨r4, e2, e⟩ := rs_ok e
  obtain ⟨r3, l3, rfl, e3⟩ := put_xe (x := x) hj e2
  cases e
  exact ⟨r3, l3, rfl, by rw [hf r T x fs p e1, Rs.bind_ok, e3]; rfl⟩
theorem frz_xe {r : Env} {x : XA} {fs : List (PySem.Str × D)} (hj : i ≠ j) : frz (Xe r i x fs) j = Xe (frz r j) i x fs := by
  unfold frz
  rw [List.getElem?_set_ne hj]
  rcases e : r[j]? with _ | _ | v
  · rfl
  · rfl
  · cases v <;> first | rfl | exact List.set_comm _ _ hj
theorem BS.frz (hs : BS i s) (hj : i ≠ j) : BS i fun x => sFrz j (s x) := fun r T x fs r2 T2 e => by
  unfold sFrz at e ⊢
  try dsimp only at e ⊢
  rw [frz_xe hj] at e ⊢
  obtain ⟨r3, l3, e3, e4⟩ := hs (Pu.frz r j) T x fs r2 T2 e
  refine ⟨r3, ?_, e3, e4⟩
  rw [l3]
  unfold Pu.frz
  split <;> simp
end
/-! ## what must be known of the classes -/
/-- instances of the class x are asked of in the plain way -/
def isyF (x : PySem.Str) (K : PySem.W.Frag) : Bool :=
  xfB K (He.ga K x) && ((PySem.W.clsIn K (He.ga K x)).isSome && (decide (PySem.W.findIn K (.ref (He.ga K x)) "__class__" = some (some (.builtin "object.__class__"))) && (decide (PySem.W.specialIn K (.builtin "object.__class__") "__get__" = some (some (.builtin "getset_descriptor.__get__"))) &&
    (decide (PySem.W.takesIn K (.builtin "object.__class__") = some true) && decide (PySem.W.mroIn K (He.ga K x) (.type "object") = some true)))))
/-- of the classes xs; which of them is of the class c -/
def isyT (xs : List (PySem.Str × Bool)) (c : PySem.Str) (K : PySem.W.Frag) : Bool := xs.all fun p => isyF p.1 K && decide (PySem.W.kitOne K (.ref (He.ga K p.1)) (.ref (He.ga K c)) = some p.2)
/-- whether the class x, of xs, is one of those that are of the class asked for -/
def isx (xs : List (PySem.Str × Bool)) (x : PySem.Str) : Bool := (xs.lookup x).getD false
theorem se_isE {X : Cx} {C : FC} {xs : List (PySem.Str × Bool)} {x c n : PySem.Str} {a : Addr} {oe : Obj} {d : Option Addr} {pn : List (Addr × Obj)} {p1 p2 p3 pos : Pos} (i : Nat) (O : isyT xs c X.K = true) (hx : ∃ b, xs.lookup x = some b) (hz : Zc (.ref (He.ga X.K x)) d oe) (hf : ∃ vs, oe.data = .fields vs) (hmc : X.mg c = some (.ref (He.ga X.K c))) (hmi : X.mg "isinstance" = none)
    (hi : X.N[i]? = some n := by rfl) (hv : Vis X.env.scope n := by first | exact Or.inl rfl | exact Or.inr (Or.inl rfl) | exact Or.inr (Or.inr rfl)) (hd : (n == ("__debug__" : PySem.Str)) = false := by decide) (hcd : (n == ("__classdict__" : PySem.Str)) = false := by decide)
    (hgi : Gl X "isinstance" := by rfl) (hgc : Gl X c := by rfl) (hdc : (c == ("__debug__" : PySem.Str)) = false := by decide)
    (st1 : starEach [.Name n p2, .Name c p3] X.env = (false, eval (.Name n p2) X.env) :: starEach [.Name c p3] X.env := by rfl) (st2 : starEach [.Name c p3] X.env = (false, eval (.Name c p3) X.env) :: starEach [] X.env := by rfl) (hpl : (backTo pos (starEach [.Name c p3] X.env)).any (·.1) = false := by rfl) :
    SE (X.suite a ((a, oe) :: pn)) C (.Call (.Name "isinstance" p1) [.Name n p2, .Name c p3] [] pos) (eIsE i (a, d) (isx xs x)) := by
  obtain ⟨b, hb⟩ := hx
  have eb : isx xs x = b := by unfold isx; rw [hb]; rfl
  rw [eb]
  have hm : (x, b) ∈ xs := by
    clear eb O hz
    induction xs with
    | nil => cases hb
    | cons q xs ih =>
      rw [List.lookup_cons] at hb
      cases z : x == q.1 with
      | true =>
        rw [z] at hb
        cases hb
        rw [eq_of_beq z]
        exact List.mem_cons_self
      | false =>
        rw [z] at hb
        exact List.mem_cons_of_mem _ (ih hb)
  have O1 := List.all_eq_true.mp O _ hm
  rw [Bool.and_eq_true] at O1
  obtain ⟨O1, O2⟩ := O1
  have O2 := of_decide_eq_true O2
  unfold isyF at O1
  simp only [Bool.and_eq_true, decide_eq_true_eq] at O1
  obtain ⟨q1, q2, q3, q4, q5, q6⟩ := O1
  have xf := xfB_ok q1
  refine ⟨fun pins s σ H Q I ⟨ρ, T, h, P⟩ => ?_⟩
  have P : PostG X.K X.mg C σ (GV X.K X.mg C ρ σ H Q) (match ρ[i]? with
    | some (some (.val (.exn y _))) => if y = (a, d) then .ok (.val (.bl b), T) else .stuck
    | _ => .stuck) := P
  split at P
  case h_2 => exact P.elim
  case h_1 y fs er =>
  obtain ⟨hy, P⟩ := postG_if P
  subst hy
  rw [if_pos rfl] at P
  obtain ⟨v, ev, rv⟩ := h.val i _ er
  have hdd : v = .ref a ∧ (d = none ∨ ∃ (dd : Addr) (xs : List (PySem.Str × V)), d = some dd ∧ H dd = some (.xd xs)) := by
    cases rv with
    | exn0 => exact ⟨rfl, .inl rfl⟩
    | exn s hd _ _ => exact ⟨rfl, .inr ⟨_, _, rfl, hd⟩⟩
  obtain ⟨rfl, hdd⟩ := hdd
  have P : GV X.K X.mg C ρ σ H Q (.val (.bl b), T) := P
  have q : Q (.bl b) H := P (.bl b) H h Ext.refl (.bl _)
  have gn : PE (X.suite a ((a, oe) :: pn)) (.Name n p2) _ := pe_var (i := i) hi hv hd hcd
  refine wpAny_Call_Name_kw (ld_blt I hgi hmi bo_isinstance ?_ (by decide) (by decide))
  refine callWith_builtin1 (args_cons (thn (gn.run pins s σ H (fun u H1 => u = .ref a ∧ H1 = H) I ⟨.ref a, ev, rfl, rfl⟩) fun u s1 ⟨w, H1, I1, r1, ew, eH⟩ => ?_) st1) st1 hpl
  subst ew eH
  cases r1
  refine args_cons (ld_glob I1 hgc hmc (args_nil ?_) hdc) st2
  have hpin := I1.pin (a, oe) (List.mem_append_left _ List.mem_cons_self)
  have JI : ∃ od, PySem.W.InstAt s1.heap a oe (He.ga X.K x) od := by
    obtain ⟨vs, hvs⟩ := hf
    rcases hdd with rfl | ⟨dd, ys, rfl, hh⟩
    · exact ⟨none, hpin.1, hz.1, by unfold PySem.W.notCls; rw [hvs] <;> rfl, by rw [hz.2]; trivial⟩
    · obtain ⟨mA, hns, _⟩ := I1.hok dd _ hh
      obtain ⟨od, ho, _⟩ := lookIn_ns hns
      exact ⟨some od, hpin.1, hz.1, by unfold PySem.W.notCls; rw [hvs] <;> rfl, by rw [hz.2]; exact ho⟩
  obtain ⟨od, JI⟩ := JI
  exact PySem.W.kia_one (PySem.W.kitx_exc q2 xf.ga xf.gg xf.exC q3 q4 q5 q6) I1.kIn JI O2 (fun z => nomatch z) fun tk => ⟨.bl b, H1, I1.tok _, rfl, q⟩
/-- the fields fs of x are read in the plain way -/
def xffF (x : PySem.Str) (fs : List PySem.Str) (K : PySem.W.Frag) : Bool := xfB K (He.ga K x) && fs.all fun f => decide (PySem.W.findIn K (.ref (He.ga K x)) f = some none)
theorem se_xf {X : Cx} {C : FC} {x n f : PySem.Str} {fl : List PySem.Str} {a : Addr} {oe : Obj} {d : Option Addr} {pn : List (Addr × Obj)} {p2 pos : Pos} (i : Nat) (O : xffF x fl X.K = true) (hfl : f ∈ fl) (hz : Zc (.ref (He.ga X.K x)) d oe) (hf : ∃ vs, oe.data = .fields vs)
    (hi : X.N[i]? = some n := by rfl) (hv : Vis X.env.scope n := by first | exact Or.inl rfl | exact Or.inr (Or.inl rfl) | exact Or.inr (Or.inr rfl)) (hd : (n == ("__debug__" : PySem.Str)) = false := by decide) (hcd : (n == ("__classdict__" : PySem.Str)) = false := by decide)
    (ab : attributeBase (.Name n p2) f X.env (eval (.Name n p2) X.env) = eval (.Name n p2) X.env := by rfl) :
    SE (X.suite a ((a, oe) :: pn)) C (.Attribute (.Name n p2) f pos) (eXf i (a, d) f) := by
  unfold xffF at O
  rw [Bool.and_eq_true] at O
  have hno := of_decide_eq_true (List.all_eq_true.mp O.2 f hfl)
  refine pe_imp (pe_xf (xfB_ok O.1) hno hz hf (pe_var (X := X.suite a ((a, oe) :: pn)) (i := i) hi hv hd hcd) ab) ?_
  rintro σ H Q ⟨ρ, T, h, P⟩
  have P : PostG X.K X.mg C σ (GV X.K X.mg C ρ σ H Q) (match ρ[i]? with
    | some (some (.val (.exn y fs))) => if y = (a, d) then (match fs.lookup f with
      | some d => .ok (.val d, T)
      | none => .stuck) else .stuck
    | _ => .stuck) := P
  split at P
  case h_2 => exact P.elim
  case h_1 y fs er =>
  obtain ⟨hy, P⟩ := postG_if P
  subst hy
  rw [if_pos rfl] at P
  obtain ⟨v, ev, rv⟩ := h.val i _ er
  cases l1 : fs.lookup f with
  | none => rw [l1] at P; exact P.elim
  | some dv =>
    rw [l1] at P
    have PV : ∀ u H2, Holds X.K X.mg C Z0 ρ T σ H2 → Ext C H H2 → Rep X.K X.mg (SS C Z0 ρ σ) H2 u dv → Q u H2 := (show GV X.K X.mg C ρ σ H Q (.val dv, T) from P)
    clear P
    cases rv with
    | exn0 => cases l1
    | exn s hdd hk hr =>
      obtain ⟨w, e1, e2⟩ := look_reps hk hr l1
      exact ⟨_, ev, rfl, rfl, _, _, w, rfl, hdd, e1, PV w H h Ext.refl e2⟩
/-- try: f; except cn as e: g -/
def sTryE (i : Nat) (l : List (PySem.Str × Bool)) (f : DS) (g : PySem.Str → XA → DS) : DS := fun r T => match f r T with
  | .ok x => .ok x
  | .stuck => .stuck
  | .exc c fs T' r' => match l.lookup c with
    | some true => if okFree r' i = true then (match g c x0 (Xe r' i x0 fs) T' with
        | .ok (.nx r2, T2) => .ok (.nx (r2.set i none), T2)
        | _ => .stuck) else .stuck
    | some false => .exc c fs T' r'
    | none => .stuck
theorem ss_tryE {X : Cx} {C : FC} {cn n : PySem.Str} {l : List (PySem.Str × Bool)} {body suite : List Stmt} {b₀ : Stmt} {f : DS} {g : PySem.Str → XA → DS} {np pos pos' : Pos} (i : Nat) (hs : X.stack = X.env :: X.outer) (hf : X.env.frame = some X.env.locals) (hN : X.N.Nodup) (tk : Takes X C.W)
    (hm : X.mg cn = some (.ref (He.ga X.K cn))) (hl : Hits X.K X.mg cn l)
    (hb : ∀ (W : WX) (pn : List (Addr × Obj)) (xe : Value → Shared → Prop), Takes (X.tr pn xe) W → PassesOwn (model X.prog X.w) X.A X.env xe → SSs (X.tr pn xe) { C with W := W } body f)
    (hsu : ∀ (a : Addr) (oe : Obj) (d : Option Addr) (pn : List (Addr × Obj)) (x : PySem.Str), (∃ b, l.lookup x = some b) → Zc (.ref (He.ga X.K x)) d oe → (∃ vs, oe.data = .fields vs) → SSs (X.suite a ((a, oe) :: pn)) C (b₀ :: suite) (g x (a, d)))
    (hB : ∀ x, BS i (g x)) (hi : X.N[i]? = some n := by rfl) (hln : X.env.kindOf n = some .local := by rfl) (hg : Gl X cn := by rfl) (hdb : (cn == ("__debug__" : PySem.Str)) = false := by decide) :
    SSt X C (.Try body [.ExceptHandler (some (.Name cn np)) (some n) (b₀ :: suite) pos'] [] [] pos) (sTryE i l f g) := by
  refine ps_imp (ps_try_as (tb := fun W => tS X.K X.mg { C with W := W } f) (ts := fun a cls d D σ H => ∃ x, (∃ b, l.lookup x = some b) ∧ cls = .ref (He.ga X.K x) ∧ tS X.K X.mg C (g x (a, d)) D σ H) hs hf hN hi hln (c := .ref (He.ga X.K cn)) ⟨hg, hdb, .inl hm⟩ tk hb (fun a oe cls d pn hz hv => ⟨fun pins s σ H D I ⟨x, hx, ec, h⟩ => by
    subst ec
    exact (hsu a oe d pn x hx hz hv).run pins s σ H D I h⟩)) ?_
  rintro D σ H ⟨ρ, T, h, P⟩
  refine ⟨ρ, T, h.other, ?_⟩
  unfold sTryE at P
  cases q : f ρ T with
  | stuck => rw [q] at P; exact P
  | ok b =>
    rw [q] at P
    obtain ⟨fl, T'⟩ := b
    cases fl with
    | nx r' => exact fun σ H h' => P σ H h'.same
    | bk r' => exact fun σ H h' => P σ H h'.same
    | ct r' => exact fun σ H h' => P σ H h'.same
    | rt v =>
      cases v with
      | val d => exact P
      | own d => exact P
      | peek d => exact P
      | tape => exact P
      | look d => exact P
      | tree s d => exact P
  | exc c fs T' r' =>
    rw [q] at P
    have P : PostS X.K X.mg C (GS X.K X.mg C D) (match l.lookup c with
      | some true => if okFree r' i = true then (match g c x0 (Xe r' i x0 fs) T' with
          | .ok (.nx r2, T2) => .ok (.nx (r2.set i none), T2)
          | _ => .stuck) else .stuck
      | some false => .exc c fs T' r'
      | none => .stuck) := P
    intro σ' cls d H' Y hY hH hE
    have hH2 : Holds X.K X.mg (C.plus Y) Z0 r' T' σ' H' := Holds.same (C := C.plus Y) hH
    cases el : l.lookup c with
    | none => rw [el] at P; exact P.elim
    | some b =>
      rw [el] at P
      obtain ⟨hx, hmc⟩ := hl.look el
      obtain ⟨Ca, em, ec, hq⟩ := hE
      have em2 := em
      rw [hmc] at em2
      cases em2
      subst ec
      refine ⟨b, hx, fun eb a _ => ?_, fun eb => ?_⟩
      · subst eb
        have P : PostS X.K X.mg C (GS X.K X.mg C D) (if okFree r' i = true then (match g c x0 (Xe r' i x0 fs) T' with
          | .ok (.nx r2, T2) => .ok (.nx (r2.set i none), T2)
          | _ => .stuck) else .stuck) := P
        obtain ⟨ei, P9⟩ := postS_if P
        clear P
        refine ⟨c, ⟨_, el⟩, rfl, ?_⟩
        have rx : Rep X.K X.mg (SS (C.plus Y) Z0 r' σ') H' (.ref a) (.exn (a, d) fs) := by
          rcases hq with ⟨rfl, rfl⟩ | ⟨dd, xs, rfl, hdd, hk, hr⟩
          · exact .exn0
          · refine .exn (fun z => ?_) hdd hk hr
            obtain ⟨o, e1, e2⟩ := hH2.tr z
            rw [hdd] at e1
            cases e1
            exact e2
        have h3 := (hH2.blank ei none).setVal (i := i) (v := .ref a) (d := .exn (a, d) fs) (by rw [ss_blank ei]; exact rx)
        rw [List.set_set, List.set_set] at h3
        refine ⟨Xe r' i (a, d) fs, T', ⟨Y, h3, hY⟩, ?_⟩
        cases e : g c x0 (Xe r' i x0 fs) T' with
        | stuck => rw [e] at P9; exact P9.elim
        | exc c1 f1 t1 r1 => rw [e] at P9; exact (show False from P9).elim
        | ok z =>
          obtain ⟨fl, T2⟩ := z
          cases fl with
          | nx r2 =>
            rw [e] at P9
            obtain ⟨r3, l3, rfl, e3⟩ := hB c r' T' (a, d) fs r2 T2 e
            rw [e3]
            have P9 : GS X.K X.mg C D (.nx ((Xe r3 i x0 fs).set i none), T2) := P9
            intro σ2 H2 h2
            obtain ⟨Y2, h2, hY2⟩ := h2
            have ok2 : okFree (Xe r3 i (a, d) fs) i = true := by
              unfold okFree
              rw [List.getElem?_set_self (by rw [l3]; exact okFree_lt ei)]
            have h4 := h2.blank ok2 none
            rw [List.set_set] at h4
            refine P9 _ _ ⟨Y2, ?_, hY2⟩
            rw [List.set_set]
            exact h4
          | rt v => rw [e] at P9; exact (show False from P9).elim
          | bk r2 => rw [e] at P9; exact (show False from P9).elim
          | ct r2 => rw [e] at P9; exact (show False from P9).elim
      · subst eb
        have P : ∀ σ cls d H' (Y : Addr → Prop), (∀ p, Y p → ¬ C.S0 p) → Holds X.K X.mg (C.plus Y) Z0 r' T' σ H' → ExcAt X.K X.mg (SS (C.plus Y) Z0 r' σ) H' c fs cls d → C.W cls d σ H' := P
        exact P σ' _ d H' Y hY hH2 ⟨_, em, rfl, hq⟩
theorem hit_same : ∀ {l l2 : List (PySem.Str × Bool)} {x : PySem.Str}, (∃ b, l.lookup x = some b) → l.map (·.1) = l2.map (·.1) → ∃ b, l2.lookup x = some b
  | [], _, _, ⟨_, h⟩, _ => nomatch h
  | p :: l, [], _, _, e => nomatch e
  | p :: l, q :: l2, x, ⟨b, h⟩, e => by
    have e1 : p.1 = q.1 := (List.cons.inj e).1
    have e2 := (List.cons.inj e).2
    rw [List.lookup_cons] at h ⊢
    rw [← e1]
    cases z : x == p.1 with
    | true => exact ⟨_, rfl⟩
    | false =>
      rw [z] at h
      exact hit_same ⟨b, h⟩ e2
/-! # [f, g, ..][k](args) -/
inductive FnL (X : Cx) (n j : Nat) : List Expr → List V → List DM → Prop
  | nil : FnL X n j [] [] []
  | cons {x : PySem.Str} {p : Pos} {M : DM} {es : List Expr} {vs : List V} {Ms : List DM} : OkD X.prog X.w X.K X.mg X.base j x n false M → Gl X x → (x == ("__debug__" : PySem.Str)) = false → (starEach (.Name x p :: es) X.env = (false, eval (.Name x p) X.env) :: starEach es X.env) → FnL X n j es vs Ms → FnL X n j (.Name x p :: es) (.ref (He.ga X.K x) :: vs) (M :: Ms)
theorem FnL.at {X : Cx} {n j : Nat} : ∀ {es : List Expr} {vs : List V} {Ms : List DM} {i : Nat} {M : DM}, FnL X n j es vs Ms → Ms[i]? = some M → ∃ x, vs[i]? = some (.ref (He.ga X.K x)) ∧ OkD X.prog X.w X.K X.mg X.base j x n false M
  | _, _, _, _, _, .nil, h => by simp at h
  | _, _, _, 0, _, .cons F _ _ _ _, h => by cases h; exact ⟨_, rfl, F⟩
  | _, _, _, i + 1, _, .cons _ _ _ _ t, h => by
    obtain ⟨x, e, F⟩ := t.at (by simpa using h)
    exact ⟨x, by simpa using e, F⟩
theorem FnL.len {X : Cx} {n j : Nat} : ∀ {es : List Expr} {vs : List V} {Ms : List DM}, FnL X n j es vs Ms → vs.length = Ms.length
  | _, _, _, .nil => rfl
  | _, _, _, .cons _ _ _ _ t => congrArg (· + 1) t.len
end Pu
namespace Pu
open PySem L2 PySem.Spec PyProof.Rows
/-! # try with several clauses, each `except C as e` -/
abbrev Cl := Value × (Addr → Value → Option Addr → TS)
inductive ClOk (X : Cx) (n : PySem.Str) : List ExceptHandler → List Cl → Prop
  | nil : ClOk X n [] []
  | cons {x : PySem.Str} {q : Cl} {b : Stmt} {bs : List Stmt} {p p' : Pos} {hs : List ExceptHandler} {l : List Cl} (nm : Names X x q.1)
      (su : ∀ (a : Addr) (oe : Obj) (cls : Value) (d : Option Addr) (pn : List (Addr × Obj)), Zc cls d oe → (∃ vs, oe.data = .fields vs) → PSs (X.suite a ((a, oe) :: pn)) (b :: bs) (q.2 a cls d)) (r : ClOk X n hs l) :
      ClOk X n (.ExceptHandler (some (.Name x p)) (some n) (b :: bs) p' :: hs) (q :: l)
end Pu
namespace Pu
open PySem L2 PySem.Spec PyProof.Rows
/-- a clause: the class's name, which classes it catches, its suite -/
structure Clz where
  cn : PySem.Str
  l : List (PySem.Str × Bool)
  g : PySem.Str → XA → DS
/-- the kit's form of a clause -/
def cl1 (X : Cx) (C : FC) (h : Clz) : Cl := (.ref (He.ga X.K h.cn), fun a cls d D σ H => ∃ x, (∃ b, h.l.lookup x = some b) ∧ cls = .ref (He.ga X.K x) ∧ tS X.K X.mg C (h.g x (a, d)) D σ H)
inductive ClE (X : Cx) (C : FC) (i : Nat) (n : PySem.Str) : List ExceptHandler → List Clz → Prop
  | nil : ClE X C i n [] []
  | cons {h : Clz} {b : Stmt} {bs : List Stmt} {p p' : Pos} {hs : List ExceptHandler} {l : List Clz} (hm : X.mg h.cn = some (.ref (He.ga X.K h.cn))) (hl : Hits X.K X.mg h.cn h.l)
      (hsu : ∀ (a : Addr) (oe : Obj) (d : Option Addr) (pn : List (Addr × Obj)) (x : PySem.Str), (∃ b, h.l.lookup x = some b) → Zc (.ref (He.ga X.K x)) d oe → (∃ vs, oe.data = .fields vs) → SSs (X.suite a ((a, oe) :: pn)) C (b :: bs) (h.g x (a, d)))
      (hB : ∀ x, BS i (h.g x)) (r : ClE X C i n hs l) (hg : Gl X h.cn := by rfl) (hdb : (h.cn == ("__debug__" : PySem.Str)) = false := by decide) : ClE X C i n (.ExceptHandler (some (.Name h.cn p)) (some n) (b :: bs) p' :: hs) (h :: l)
section
variable {X : Cx} {C : FC} {i : Nat} {n : PySem.Str}
theorem ClE.ok {hs : List ExceptHandler} {l : List Clz} (k : ClE X C i n hs l) : ClOk X n hs (l.map (cl1 X C)) := by
  induction k with
  | nil => exact .nil
  | cons hm hl hsu hB r hg hdb ih => exact .cons (q := cl1 X C _) ⟨hg, hdb, .inl hm⟩ (fun a oe cls d pn hz hv => ⟨fun pins s σ H D I ⟨x, hx, ec, h⟩ => by
      subst ec
      exact (hsu a oe d pn x hx hz hv).run pins s σ H D I h⟩) ih
end
end Pu
namespace Pu
open PySem L2 PySem.Spec PyProof.Rows
/-! # exceptions with one field -/
/-- the fields fl of all of the classes xs are read in the plain way -/
def xffT (xs : List (PySem.Str × Bool)) (fl : List PySem.Str) (K : PySem.W.Frag) : Bool := xs.all fun p => xffF p.1 fl K
theorem xffT_at {xs : List (PySem.Str × Bool)} {fl : List PySem.Str} {K : PySem.W.Frag} {x : PySem.Str} (O : xffT xs fl K = true) (h : ∃ b, xs.lookup x = some b) : xffF x fl K = true := by
  obtain ⟨b, hb⟩ := h
  have hm : (x, b) ∈ xs := by
    clear O
    induction xs with
    | nil => cases hb
    | cons q xs ih =>
      rw [List.lookup_cons] at hb
      cases z : x == q.1 with
      | true =>
        rw [z] at hb
        cases hb
        rw [eq_of_beq z]
        exact List.mem_cons_self
      | false =>
        rw [z] at hb
        exact List.mem_cons_of_mem _ (ih hb)
  exact List.all_eq_true.mp O _ hm
end Pu
namespace Pu
open PySem L2 PySem.Spec PyProof.Rows
/-! # {k: v}, both constants -/
def eDctC (k : Key) (vd : D) : DE := fun _ T => .ok (.own (.dct false [(kD k, vd)]), T)
theorem se_dctC {X : Cx} {C : FC} {ke ve : Expr} {k : Key} {v : V} {vd : D} {pos : Pos} (hk : PE X ke (tC (kV k))) (hv : PE X ve (tC v)) (rv : ∀ S H, Rep X.K X.mg S H v vd) : SE X C (.Dict [some ke] [ve] pos) (eDctC k vd) := by
  refine pe_imp (pe_disp (pps_cons hk hv pps_nil) rfl rfl (by simp) (by simp)) ?_
  rintro σ H Q ⟨ρ, T, h, P⟩ p hp
  refine ⟨upd_same, [(k, v)], rfl, by simp, ?_⟩
  have sm : Same H (L2.upd (L2.upd H p (.dK [])) p (.dK (mergeK [] [(k, v)]))) := fun b o hb => by
    have nb : b ≠ p := fun z => by rw [z, hp] at hb; cases hb
    rw [upd_ne nb, upd_ne nb]
    exact hb
  exact gv_res (z := .own (.dct false [(kD k, vd)])) h P (fun _ => ⟨nofun, nofun, nofun⟩) p _ hp sm (.dK (kvs := [(k, v)]) upd_same (show 1 ≤ sizeLine from by decide) rfl (.cons (rv _ _) .nil))
end Pu
namespace Pu
open PySem L2 PySem.Spec PyProof.Rows
/-! # x[a], x[b] = e, f: two items of one list at once -/
end Pu
namespace PySem.W
open PySem PySem.Calls PyProof.Rows
end PySem.W
namespace Pu
open PySem L2 PySem.Spec PyProof.Rows
/-! # sorted of a tuple, too -/
open Classical
end Pu
namespace Pu
open PySem L2 PySem.Spec PyProof.Rows
/-! # sorted of a list with at most one item: whatever it is -/
end Pu
namespace Pu
open PySem L2 PySem.Spec PyProof.Rows
/-! # a dict is locked, or let go: what is told of all things stays -/
structure Swp (d : Addr) (H H' : Hp) : Prop where
  off : ∀ a, a ≠ d → H' a = H a
  at_ : ∃ o u, ((∃ k, u = HO.dK k) ∨ ∃ k, u = HO.dT k) ∧ ((H d = some u ∧ H' d = some (.frz o u)) ∨ (H d = some (.frz o u) ∧ H' d = some u))
section
variable {K : PySem.W.Frag} {mg : PySem.Str → Option Value} {S : Addr → Prop} {H H' : Hp} {d : Addr}
theorem Swp.keep (s : Swp d H H') {a : Addr} {c : HO} (r : H a = some c) (h1 : ∀ k, c ≠ .dK k) (h2 : ∀ k, c ≠ .dT k) (h3 : ∀ o k, c ≠ .frz o (.dK k)) (h4 : ∀ o k, c ≠ .frz o (.dT k)) : H' a = some c := by
  by_cases e : a = d
  · subst e
    obtain ⟨o, u, hu, q⟩ := s.at_
    rcases q with ⟨q, _⟩ | ⟨q, _⟩ <;> rw [r] at q <;> cases q <;> rcases hu with ⟨k, rfl⟩ | ⟨k, rfl⟩
    · exact absurd rfl (h1 k)
    · exact absurd rfl (h2 k)
    · exact absurd rfl (h3 o k)
    · exact absurd rfl (h4 o k)
  · rw [s.off a e]
    exact r
theorem Swp.dK (s : Swp d H H') {a : Addr} {k : List (Key × V)} (r : H a = some (.dK k)) : H' a = some (.dK k) ∨ ∃ o, H' a = some (.frz o (.dK k)) := by
  by_cases e : a = d
  · subst e
    obtain ⟨o, u, hu, q⟩ := s.at_
    rcases q with ⟨q, q2⟩ | ⟨q, _⟩ <;> rw [r] at q <;> cases q
    exact .inr ⟨o, q2⟩
  · rw [s.off a e]
    exact .inl r
theorem Swp.dT (s : Swp d H H') {a : Addr} {k : List (List Key × V)} (r : H a = some (.dT k)) : H' a = some (.dT k) ∨ ∃ o, H' a = some (.frz o (.dT k)) := by
  by_cases e : a = d
  · subst e
    obtain ⟨o, u, hu, q⟩ := s.at_
    rcases q with ⟨q, q2⟩ | ⟨q, _⟩ <;> rw [r] at q <;> cases q
    exact .inr ⟨o, q2⟩
  · rw [s.off a e]
    exact .inl r
theorem Swp.fK (s : Swp d H H') {a : Addr} {o : Obj} {k : List (Key × V)} (r : H a = some (.frz o (.dK k))) : H' a = some (.dK k) ∨ ∃ o, H' a = some (.frz o (.dK k)) := by
  by_cases e : a = d
  · subst e
    obtain ⟨o, u, hu, q⟩ := s.at_
    rcases q with ⟨q, _⟩ | ⟨q, q2⟩ <;> rw [r] at q <;> cases q
    · rcases hu with ⟨k, z⟩ | ⟨k, z⟩ <;> cases z
    · exact .inl q2
  · rw [s.off a e]
    exact .inr ⟨_, r⟩
theorem Swp.fT (s : Swp d H H') {a : Addr} {o : Obj} {k : List (List Key × V)} (r : H a = some (.frz o (.dT k))) : H' a = some (.dT k) ∨ ∃ o, H' a = some (.frz o (.dT k)) := by
  by_cases e : a = d
  · subst e
    obtain ⟨o, u, hu, q⟩ := s.at_
    rcases q with ⟨q, _⟩ | ⟨q, q2⟩ <;> rw [r] at q <;> cases q
    · rcases hu with ⟨k, z⟩ | ⟨k, z⟩ <;> cases z
    · exact .inl q2
  · rw [s.off a e]
    exact .inr ⟨_, r⟩
theorem Swp.there (s : Swp d H H') {a : Addr} {c : HO} (r : H a = some c) : ∃ c', H' a = some c' := by
  by_cases e : a = d
  · subst e
    obtain ⟨o, u, hu, q⟩ := s.at_
    rcases q with ⟨_, q⟩ | ⟨_, q⟩ <;> exact ⟨_, q⟩
  · rw [s.off a e]
    exact ⟨_, r⟩
theorem Swp.scr (s : Swp d H H') {a : Addr} {u : HO} {ns : List Int} (r : H a = some u) (f : ∀ H', H' a = some u → SqL K H' a (ns.map V.int)) : ∃ u', H' a = some u' ∧ ∀ H', H' a = some u' → SqL K H' a (ns.map V.int) := by
  by_cases e : a = d
  · obtain ⟨u', hu'⟩ := s.there r
    refine ⟨u', hu', fun H2 _ => ?_⟩
    rcases f H r with (q | ⟨o, q⟩) | q
    · subst e
      obtain ⟨o, u, hu, q2⟩ := s.at_
      rcases q2 with ⟨q2, _⟩ | ⟨q2, _⟩ <;> rw [q] at q2 <;> cases q2
      rcases hu with ⟨k, z⟩ | ⟨k, z⟩ <;> cases z
    · subst e
      obtain ⟨o, u, hu, q2⟩ := s.at_
      rcases q2 with ⟨q2, _⟩ | ⟨q2, _⟩ <;> rw [q] at q2 <;> cases q2 <;> rcases hu with ⟨k, z⟩ | ⟨k, z⟩ <;> cases z
    · exact .inr q
  · exact ⟨u, by rw [s.off a e]; exact r, f⟩
theorem Swp.kTup (s : Swp d H H') {a : Addr} {vs : List V} (r : H a = some (.tup vs)) : H' a = some (.tup vs) := s.keep r (fun _ z => nomatch z) (fun _ z => nomatch z) (fun _ _ z => nomatch z) (fun _ _ z => nomatch z)
theorem Swp.kLst (s : Swp d H H') {a : Addr} {vs : List V} (r : H a = some (.lst vs)) : H' a = some (.lst vs) := s.keep r (fun _ z => nomatch z) (fun _ z => nomatch z) (fun _ _ z => nomatch z) (fun _ _ z => nomatch z)
theorem Swp.kXd (s : Swp d H H') {a : Addr} {fs : List (PySem.Str × V)} (r : H a = some (.xd fs)) : H' a = some (.xd fs) := s.keep r (fun _ z => nomatch z) (fun _ z => nomatch z) (fun _ _ z => nomatch z) (fun _ _ z => nomatch z)
theorem Swp.kExt (s : Swp d H H') {a : Addr} {φ : Heap → Prop} (r : H a = some (.ext φ)) : H' a = some (.ext φ) := s.keep r (fun _ z => nomatch z) (fun _ z => nomatch z) (fun _ _ z => nomatch z) (fun _ _ z => nomatch z)
theorem Swp.kIns (s : Swp d H H') {a : Addr} {C dx : Addr} {fs : List (PySem.Str × V)} (r : H a = some (.ins C dx fs)) : H' a = some (.ins C dx fs) := s.keep r (fun _ z => nomatch z) (fun _ z => nomatch z) (fun _ _ z => nomatch z) (fun _ _ z => nomatch z)
theorem Swp.kTpl (s : Swp d H H') {a : Addr} {o : Obj} {vs : List V} (r : H a = some (.frz o (.tup vs))) : H' a = some (.frz o (.tup vs)) := s.keep r (fun _ z => nomatch z) (fun _ z => nomatch z) (fun _ _ z => by cases z) (fun _ _ z => by cases z)
theorem rep_dK {a : Addr} {kvs : List (Key × V)} {ds : List (D × D)} (r : H a = some (.dK kvs) ∨ ∃ o, H a = some (.frz o (.dK kvs))) (h : ¬ S a) (z : kvs.length ≤ sizeLine) (e : ds.map (·.1) = kvs.map fun p => kD p.1) (q : Reps K mg S H (kvs.map (·.2)) (ds.map (·.2))) : Rep K mg S H (.ref a) (.dct false ds) := r.elim (fun r => .dK h r z e q) fun ⟨_, r⟩ => .dKz h r z e q
theorem rep_dT {a : Addr} {kvs : List (List Key × V)} {ds : List (D × D)} (r : H a = some (.dT kvs) ∨ ∃ o, H a = some (.frz o (.dT kvs))) (h : ¬ S a) (z : kvs.length ≤ sizeLine) (e : ds.map (·.1) = kvs.map fun p => D.tup (p.1.map kD)) (q : Reps K mg S H (kvs.map (·.2)) (ds.map (·.2))) : Rep K mg S H (.ref a) (.dct true ds) := r.elim (fun r => .dT h r z e q) fun ⟨_, r⟩ => .dTz h r z e q
theorem rep_scr {a : Addr} {ns : List Int} (r : ∃ u', H a = some u' ∧ ∀ H', H' a = some u' → SqL K H' a (ns.map V.int)) (h : ¬ S a) (z : ns.length ≤ sizeLine) : Rep K mg S H (.ref a) (.scr ns) := let ⟨_, r2, q2⟩ := r; .scr h r2 q2 z
mutual
theorem Rep.swap (s : Swp d H H') : ∀ {v : V} {x : D}, Rep K mg S H v x → Rep K mg S H' v x
  | _, _, .non => .non
  | _, _, .bl b => .bl b
  | _, _, .int i => .int i
  | _, _, .str x => .str x
  | _, _, .tup h r z q => .tup h (s.kTup r) z (Reps.swap s q)
  | _, _, .lst h r z q => .lst h (s.kLst r) z (Reps.swap s q)
  | _, _, .dK h r z e q => rep_dK (s.dK r) h z e (Reps.swap s q)
  | _, _, .dT h r z e q => rep_dT (s.dT r) h z e (Reps.swap s q)
  | _, _, .dKz h r z e q => rep_dK (s.fK r) h z e (Reps.swap s q)
  | _, _, .dTz h r z e q => rep_dT (s.fT r) h z e (Reps.swap s q)
  | _, _, .scr h r q z => rep_scr (s.scr r q) h z
  | _, _, .scrK q z => .scrK q z
  | _, _, .tpl h r c e z => .tpl h (s.kTpl r) c e z
  | _, _, .exn0 => .exn0
  | _, _, .lrf q => .lrf q
  | _, _, .dcn h r z e q q2 => .dcn h (s.kExt r) z e (Reps.swap s q) (Reps.swap s q2)
  | _, _, .exn h r e q => .exn h (s.kXd r) e (Reps.swap s q)
  | _, _, .ins h r m e q => .ins h (s.kIns r) m e (Reps.swap s q)
theorem Reps.swap (s : Swp d H H') : ∀ {vs : List V} {ds : List D}, Reps K mg S H vs ds → Reps K mg S H' vs ds
  | _, _, .nil => .nil
  | _, _, .cons p t => .cons (Rep.swap s p) (Reps.swap s t)
end
theorem OwnAt.swap (s : Swp d H H') {p : Addr} {x : D} (hp : p ≠ d) (h : OwnAt K mg S H p x) : OwnAt K mg S H' p x := by
  have k : ∀ {c : HO}, H p = some c → H' p = some c := fun r => by rw [s.off p hp]; exact r
  cases h with
  | lst e z g => exact .lst (k e) z (g.swap s)
  | dK e z g q => exact .dK (k e) z g (q.swap s)
  | dT e z g q => exact .dT (k e) z g (q.swap s)
  | ins e m g q => exact .ins (k e) m g (q.swap s)
  | dcn e z g q q2 => exact .dcn (k e) z g (q.swap s) (q2.swap s)
theorem CelAt.swap (s : Swp d H H') {p : Addr} {x : D} (hp : p ≠ d) (h : CelAt K mg S H p x) : CelAt K mg S H' p x := h.elim (fun h => .inl (h.swap s hp)) fun ⟨e, ed, h⟩ => .inr ⟨e, ed, h.swap s hp⟩
mutual
theorem TreeAt.swap (s : Swp d H H') : ∀ {F : List Addr} {sh : Sh} {v : V} {x : D}, (∀ p ∈ F, p ≠ d) → TreeAt K mg S H F sh v x → TreeAt K mg S H' F sh v x
  | _, _, _, _, _, .leaf r => .leaf (r.swap s)
  | _, _, _, _, f, .lst h z t => .lst (by rw [s.off _ (f _ List.mem_cons_self)]; exact h) z (TreesAt.swap s (fun p hp => f p (List.mem_cons_of_mem _ hp)) t)
  | _, _, _, _, f, .dK h z g t => .dK (by rw [s.off _ (f _ List.mem_cons_self)]; exact h) z g (TreesAt.swap s (fun p hp => f p (List.mem_cons_of_mem _ hp)) t)
  | _, _, _, _, f, .dT h z g t => .dT (by rw [s.off _ (f _ List.mem_cons_self)]; exact h) z g (TreesAt.swap s (fun p hp => f p (List.mem_cons_of_mem _ hp)) t)
  | _, _, _, _, f, .dcn h z g q q2 => .dcn (by rw [s.off _ (f _ List.mem_cons_self)]; exact h) z g (q.swap s) (q2.swap s)
  | _, _, _, _, f, .tup n h z t => .tup n (s.kTup h) z (TreesAt.swap s f t)
  | _, _, _, _, f, .ins h m g t => .ins (by rw [s.off _ (f _ List.mem_cons_self)]; exact h) m g (TreesAt.swap s (fun p hp => f p (List.mem_cons_of_mem _ hp)) t)
theorem TreesAt.swap (s : Swp d H H') : ∀ {F : List Addr} {ss : List Sh} {vs : List V} {xs : List D}, (∀ p ∈ F, p ≠ d) → TreesAt K mg S H F ss vs xs → TreesAt K mg S H' F ss vs xs
  | _, _, _, _, _, .nil => .nil
  | _, _, _, _, f, .cons a b => .cons (TreeAt.swap s (fun p hp => f p (List.mem_append_left _ hp)) a) (TreesAt.swap s (fun p hp => f p (List.mem_append_right _ hp)) b)
end
theorem TapeOk.swap (s : Swp d H H') {tp : Option Addr} {T : Tp} (hp : tp ≠ some d) (h : TapeOk K mg S tp T H) : TapeOk K mg S tp T H' := by
  unfold TapeOk at h ⊢
  cases tp with
  | none => exact h
  | some p =>
    obtain ⟨t, e, o⟩ := h
    exact ⟨t, e, CelAt.swap s (fun z => hp (by rw [z])) o⟩
/-- the frame's heap changed at d -/
theorem Holds.swapTo {C : FC} {G : Hp} {Z : Addr → Prop} {r : Env} {T : Tp} {σ : L2.St} (h : Holds K mg C Z r T σ H) (s : Swp d H H') (nd : ¬ SS C Z r σ d) (fr : Ext { C with H0 := G } G H') (hG : ∀ p, p ≠ d → C.H0 p = none → G p = none) : Holds K mg { C with H0 := G } Z r T σ H' := by
  have ne : ∀ p, SS C Z r σ p → p ≠ d := fun p hp z => nd (by rw [← z]; exact hp)
  refine ⟨h.len, fr, fun i x e => ?_, fun i x e => ?_, h.inj, h.tape.swap s fun z => nd (.inr (.inl z)), h.tslot, fun p hp => ?_, fun p hp => ?_, fun p hp => (h.pin p hp).swap s, ?_⟩
  · obtain ⟨v, e1, p⟩ := h.val i x e
    exact ⟨v, e1, p.swap s⟩
  · obtain ⟨p, e1, o, g1, g2, g3, g4⟩ := h.own i x e
    have hp := ne p (.inr (.inr (.inl ⟨i, x, e, e1⟩)))
    exact ⟨p, e1, o.swap s hp, hG p hp g1, g2, g3, g4⟩
  · obtain ⟨o, e, m⟩ := h.st p hp
    exact ⟨o, by rw [s.off p (ne p (.inl hp))]; exact e, m⟩
  · obtain ⟨o, e, m⟩ := h.zt p hp
    exact ⟨o, by rw [s.off p (ne p (.inr (.inr (.inr hp))))]; exact e, m⟩
  · obtain ⟨φ, h1, h2, h3, h4⟩ := h.tree
    have hn : ∀ i, ∀ p ∈ φ i, p ≠ d := fun i p hp => ne p (.inl (h3 i p hp).1.1)
    refine ⟨φ, fun i sh x e => ?_, h2, fun i p hp => ?_, h4⟩
    · obtain ⟨v, e1, t⟩ := h1 i sh x e
      exact ⟨v, e1, t.swap s (hn i)⟩
    · obtain ⟨a, b, c⟩ := h3 i p hp
      exact ⟨a, hG p (hn i p hp) b, c⟩
/-- what is locked is nobody's own -/
theorem Holds.notSS {C : FC} {Z : Addr → Prop} {r : Env} {T : Tp} {σ : L2.St} (h : Holds K mg C Z r T σ H) {o : Obj} {u : HO} (e : H d = some (.frz o u)) : ¬ SS C Z r σ d := fun z => by
  obtain ⟨c, e2, m⟩ := h.tr z
  rw [e] at e2
  cases e2
  exact m
theorem swp_free {o : Obj} {u : HO} (hu : (∃ k, u = HO.dK k) ∨ ∃ k, u = HO.dT k) (e : H d = some (.frz o u)) : Swp d H (L2.upd H d u) := ⟨fun a n => upd_ne n, o, u, hu, .inr ⟨e, upd_same⟩⟩
end
/-- the frame while d is locked -/
abbrev FC.lk (C : FC) (d : Addr) (c : HO) : FC := { C with H0 := L2.upd C.H0 d c }
section
variable {K : PySem.W.Frag} {mg : PySem.Str → Option Value} {C : FC} {Z : Addr → Prop} {r : Env} {T : Tp} {σ : L2.St} {H : Hp} {d : Addr} {o : Obj} {u : HO}
theorem Holds.lkAt (h : Holds K mg (C.lk d u) Z r T σ H) (nt : C.tp ≠ some d) : H d = some u := h.frame d u upd_same nt
theorem Holds.free (hu : (∃ k, u = HO.dK k) ∨ ∃ k, u = HO.dT k) (h : Holds K mg (C.lk d (.frz o u)) Z r T σ H) (nt : C.tp ≠ some d) (h0 : ∀ c, C.H0 d = some c → c = u) : Holds K mg C Z r T σ (L2.upd H d u) := by
  have e := h.lkAt nt
  refine h.swapTo (G := C.H0) (swp_free hu e) (h.notSS e) (fun a c q n => ?_) fun p hp z => by
    have z : L2.upd C.H0 d (.frz o u) p = none := z
    rw [upd_ne hp] at z
    exact z
  by_cases ea : a = d
  · subst ea
    rw [upd_same, h0 c q]
  · rw [upd_ne ea]
    exact h.frame a c (show L2.upd C.H0 d (.frz o u) a = some c by rw [upd_ne ea]; exact q) n
end
end Pu
namespace L2
open PySem PySem.Spec PyProof.Rows
/-! # .items() of a dict whose keys are tuples -/
end L2
namespace Pu
open PySem L2 PySem.Spec PyProof.Rows
/-! # for k in d, for k, v in d.items(): d a name, walked while it is locked -/
section
variable {K : PySem.W.Frag} {mg : PySem.Str → Option Value} {C : FC} {d : Addr} {o : Obj} {u : HO} {E : Ends} {b : Fl × Tp}
theorem HoldsY.free {r : Env} {T : Tp} {σ : L2.St} {H : Hp} (hu : (∃ k, u = HO.dK k) ∨ ∃ k, u = HO.dT k) (nt : C.tp ≠ some d) (h0 : ∀ c, C.H0 d = some c → c = u) (h : HoldsY K mg (C.lk d (.frz o u)) r T σ H) : H d = some (.frz o u) ∧ HoldsY K mg C r T σ (L2.upd H d u) := by
  obtain ⟨Y, h, hY⟩ := h
  exact ⟨Holds.lkAt (C := C.plus Y) h nt, Y, Holds.free (C := C.plus Y) hu h nt h0, hY⟩
end
end Pu
namespace Pu
open PySem L2 PySem.Spec PyProof.Rows
/-! # keys and items of a dict -/
end Pu
namespace Pu
open PySem L2 PySem.Spec PyProof.Rows
/-! # [.. for k in d], [.. for k, v in d.items()] -/
end Pu
namespace L2
open PySem PySem.Spec PyProof.Rows
/-! # {k: v}, k a tuple that is written, v a constant -/
end L2
namespace Pu
open PySem L2 PySem.Spec PyProof.Rows
end Pu
namespace Pu
open PySem L2 PySem.Spec PyProof.Rows
/-! # return (x, e): x a list of one's own, e a new one -/
end Pu
namespace Pu
open PySem L2 PySem.Spec PyProof.Rows
/-! # two tuples of whole numbers, put behind one another: known -/
def dAddU : D → D → Rs VD
  | .tup a, .tup b => (rO (nums a)).bind fun xs => (rO (nums b)).bind fun ys => if xs ≠ [] ∧ ys ≠ [] ∧ xs.length + ys.length ≤ 16000000 then .ok (.val (.tpl (xs ++ ys))) else .stuck
  | _, _ => .stuck
theorem q_addu : Quiet2 dAddU := fun d e => by
  unfold dAddU
  split <;> first | exact quiet_r fun _ => quiet_r fun _ => quiet_if quiet_v quiet_s | exact quiet_s
theorem d_addu {K : PySem.W.Frag} {mg : PySem.Str → Option Value} : R2D K mg (rCatP K) dAddU := fun S H x y dx dy Q z t p q e k => by
  unfold dAddU at e
  split at e
  · obtain ⟨xs, em, e⟩ := o_ok e
    obtain ⟨ys, en, e⟩ := o_ok e
    obtain ⟨⟨c1, c2, c3⟩, rfl⟩ := if_ok e
    obtain ⟨a1, us, rfl, h1, z1, r1⟩ := p.sqT
    rw [ints_eq em] at r1
    have eu := r1.ofInts
    subst eu
    obtain ⟨b1, ws, rfl, h2, z2, r2⟩ := q.sqT
    rw [ints_eq en] at r2
    have ev := r2.ofInts
    subst ev
    refine ⟨a1, b1, _, _, rfl, rfl, h1, h2, fun w => c1 (List.map_eq_nil_iff.mp w), fun w => c2 (List.map_eq_nil_iff.mp w), by rw [sizeLine_eq]; simp; omega, fun p o hl o1 o2 => ?_⟩
    rw [← List.map_append]
    exact k _ _ (same_new hl) (.tpl (t.fresh hl) upd_same o1 o2 (by rw [sizeLine_eq]; simp; omega))
  · cases e
/-- a part of a known tuple, not all of it -/
def dSlT : D → Option Int → Option Int → Rs VD
  | .tpl ns, lo, hi => if HT.sIx ns.length 0 lo = 0 ∧ HT.sIx ns.length ns.length hi = ns.length then .stuck else .ok (.val (.tup (cutA (ns.map D.int) lo hi)))
  | _, _, _ => .stuck
def eSlT (f : DE) (lo hi : Option DE) : DE := fun r T => (dt (f r T)).bind fun p => (partE lo r p.2).bind fun a => (partE hi r a.2).bind fun b => lift (dSlT p.1 a.1 b.1) b.2
theorem se_slT {X : Cx} {C : FC} {f : DE} {a : Expr} {lo hi : Option Expr} {fl fh : Option DE} {pos p2 : Pos} (ha : SE X C a f) (hl : SO X C lo fl) (hh : SO X C hi fh) : SE X C (.Subscript a (.Slice lo hi none p2) pos) (eSlT f fl fh) := by
  refine pe_imp (pe_slice (sl_tupA.or sl_list) ha hl hh) ?_
  rintro σ H Q ⟨ρ, T, h, P⟩
  refine ⟨ρ, T, h, gv_dt h P fun d T' v H1 h1 e1 p P1 => ⟨ρ, T', h1, go_bind P1 fun x T2 H2 h2 e2 P2 => ⟨ρ, T2, h2, go_bind P2 fun y T3 H3 h3 e3 P3 => ?_⟩⟩⟩
  have p3 := ((p.ext e2).ext e3).top
  have e0 := (e1.trans e2).trans e3
  cases d with
  | tpl ns =>
    obtain ⟨a, rfl, h4, z1⟩ := p3.tplT
    have P5 : PostG X.K X.mg C σ (GV X.K X.mg C ρ σ H Q) (lift (dSlT (.tpl ns) x y) T3) := P3
    rw [show dSlT (.tpl ns) x y = if HT.sIx ns.length 0 x = 0 ∧ HT.sIx ns.length ns.length y = ns.length then .stuck else .ok (.val (.tup (cutA (ns.map D.int) x y))) from rfl] at P5
    by_cases c : HT.sIx ns.length 0 x = 0 ∧ HT.sIx ns.length ns.length y = ns.length
    · rw [if_pos c] at P5
      exact (show False from P5).elim
    · rw [if_neg c] at P5
      have P4 : GV X.K X.mg C ρ σ H Q (.val (.tup (cutA (ns.map D.int) x y)), T3) := P5
      refine .inl ⟨a, _, rfl, h4, fun w => ?_, fun w q hq => (gv_res h3 (gv_from h3 e0 P4) fun _ => ⟨nofun, nofun, nofun⟩).newT h3.trk hq (Nat.le_trans (cutV_length _ _ _) (by rw [List.length_map]; exact z1)) (cut_map (Reps.ints ns) x y)⟩
      rw [List.length_map] at w
      exact absurd w c
  | _ => exact (show False from P3).elim
end Pu
namespace Pu
open PySem L2 PySem.Spec PyProof.Rows
/-! # an expression is run while one's own thing is let be -/
/-! # a part of a pair of which some parts are one's own -/
/-! # return (x, e), return (e, x): x one's own, e not -/
end Pu
namespace Pu
open PySem L2 PySem.Spec PyProof.Rows
/-! # zip of two rows, each a list or a tuple -/
def IterB (t : Bool) (h : Heap) (it a : Addr) (i : Nat) : Prop := match t with
  | true => h.IsTupleIter it a i
  | false => h.IsListIter it a i
def SeqB (t : Bool) (h : Heap) (a : Addr) (its : Array Value) : Prop := match t with
  | true => h.IsTuple a its
  | false => h.IsList a its
theorem IterB.there {t : Bool} {h : Heap} {it a : Addr} {i : Nat} (x : IterB t h it a i) : ∃ o, h.get? it = some o ∧ ∀ v, o.data ≠ .cell v := by
  cases t with
  | true => obtain ⟨o, e, _, d⟩ := x; exact ⟨o, e, fun v q => by rw [d] at q; cases q⟩
  | false => obtain ⟨o, e, _, d⟩ := x; exact ⟨o, e, fun v q => by rw [d] at q; cases q⟩
theorem IterB.at {t : Bool} {h h' : Heap} {it a : Addr} {i : Nat} (x : IterB t h it a i) (k : ∀ o, h.get? it = some o → h'.get? it = some o) : IterB t h' it a i := by
  cases t with
  | true => exact Heap.IsTupleIter.at x k
  | false => exact Heap.IsListIter.at x k
theorem SeqB.at {t : Bool} {h h' : Heap} {a : Addr} {its : Array Value} (x : SeqB t h a its) (k : ∀ o, h.get? a = some o → h'.get? a = some o) : SeqB t h' a its := by
  cases t with
  | true => exact Heap.IsTuple.at x k
  | false => exact Heap.IsList.at x k
/-! ## the rows as data -/
/-! # for over what is a dict or a row -/
end Pu
namespace Pu
open PySem L2 PySem.Spec PyProof.Rows PySem.W
/-! # == of two dicts whose keys are tuples -/
end Pu
namespace Pu
open PySem L2 PySem.Spec PyProof.Rows PySem.W
/-! # dicts whose keys are tuples of tuples of whole numbers -/
theorem dp_row : ∀ r : List Int, NestedKey.depthAll (r.map .num) = 0
  | [] => rfl
  | a :: r => by rw [List.map_cons, NestedKey.depthAll, dp_row r, NestedKey.depth]; rfl
theorem dp_all : ∀ k : N2, NestedKey.depthAll (k.map fun r => .tup (r.map .num)) ≤ 1
  | [] => Nat.zero_le _
  | r :: k => by
    have := dp_all k
    rw [List.map_cons, NestedKey.depthAll, NestedKey.depth, dp_row r]
    omega
theorem nk_depth (k : N2) : (nk k).depth ≤ 8 := by
  have := dp_all k
  unfold nk
  rw [NestedKey.depth]
  omega
/-- the key k stands at b -/
def KeyAt (H : Hp) (k : N2) (b : Addr) : Prop := ∃ vs, H b = some (.tup vs) ∧ Paired (fun (r : List Int) (v : V) => ∃ c, v = V.ref c ∧ H c = some (.tup (r.map V.int))) k vs
section
variable {P : Program} {w : World} {H : Hp} {h : Heap}
theorem na_row : ∀ {r : List Int} {us : List Value}, Vals (r.map V.int) us → NestedAll h (r.map .num) us
  | [], _, x => by cases x; exact .nil
  | a :: r, _, x => by
    cases x with
    | cons x1 x2 =>
      obtain ⟨t, rfl⟩ := x1
      exact .cons (.int a t) (na_row x2)
theorem na_all (ok : HOk P w H h) : ∀ {k : N2} {vs : List V} {us : List Value}, Paired (fun (r : List Int) (v : V) => ∃ c, v = V.ref c ∧ H c = some (.tup (r.map V.int))) k vs → Vals vs us → NestedAll h (k.map fun r => .tup (r.map .num)) us
  | _, _, _, .nil, x => by cases x; exact .nil
  | _, _, _, .cons p t, x => by
    cases x with
    | cons x1 x2 =>
      obtain ⟨c, rfl, hc⟩ := p
      cases x1
      obtain ⟨_, its, r, o, h1, h2, n, h3⟩ := (show ObjOk P w H h c (.tup _) from ok c _ hc)
      exact .cons (.tup h1 h2 h3 (na_row r)) (na_all ok t x2)
theorem KeyAt.is {k : N2} {b : Addr} (x : KeyAt H k b) (ok : HOk P w H h) : (nestedKind P w).is h (nk k) b := by
  obtain ⟨vs, hb, p⟩ := x
  obtain ⟨_, its, r, o, h1, h2, n, h3⟩ := (show ObjOk P w H h b (.tup vs) from ok b _ hb)
  exact ⟨.tup h1 h2 h3 (na_all ok p r), nk_depth k⟩
end
/-! ## as expressions and statements -/
end Pu
namespace Pu
open PySem L2 PySem.Spec PyProof.Rows PySem.W
open Classical
/-! # a thing that is lent: looked into, changed -/
/-- where it stands -/
def lrfA : D → Rs Addr
  | .lrf q => .ok q
  | _ => .stuck
@[simp] theorem lrfA_lrf (q : Addr) : lrfA (.lrf q) = .ok q := rfl
end Pu
namespace Pu
open PySem L2 PySem.Spec PyProof.Rows PySem.W
/-! # calls that are lent what the caller was lent -/
/-! ## a dict of one's own that will be lent: from here on it is told apart -/
end Pu
namespace Pu
open PySem L2 PySem.Spec PyProof.Rows PySem.W
/-! ## what is apart may have changed -/
/-! ## o.m(..), o a thing that was just made, with one part of its own behind -/
end Pu
namespace Pu
open PySem L2 PySem.Spec PyProof.Rows PySem.W
/-! # C(..) whose __init__ ends with self.f = {} -/
/-! the thing that is made: its own dict is a part of it -/
end Pu
namespace Pu
open PySem L2 PySem.Spec PyProof.Rows
/-! # {k: v for x in d} -/
/-! # for x in o.f, o.f a dict -/
end Pu
namespace PySem.W
open PySem PySem.Calls PyProof.Rows
end PySem.W
namespace Pu
open PySem L2 PySem.Spec PyProof.Rows
open Classical
/-! # sorted(d), dict(d) -/
/-! a method that calls itself: so deep -/
end Pu
namespace Pu
open PySem L2 PySem.Spec PyProof.Rows PySem.W
/-! # f(.., thing just made, ..): the thing's dict is lent -/
section
variable {K : PySem.W.Frag} {mg : PySem.Str → Option Value} {C : FC} {r : Env} {σ : L2.St} {H H1 H2 : Hp}
/-- a thing made at F, with the lent dict q in it -/
structure LntAt (K : PySem.W.Frag) (mg : PySem.Str → Option Value) (C : FC) (r : Env) (σ : L2.St) (H : Hp) (F : List Addr) (q : Addr) (d : D) (v : V) (mk : D) : Prop where
  mem : q ∈ F
  own : OwnAt K mg (SS C (fun a => a ∈ F) r σ) H q d
  rep : Rep K mg (fun a => SS C Z0 r σ a ∨ a = q) H v mk
theorem LntAt.ext {F : List Addr} {q : Addr} {d mk : D} {v : V} (l : LntAt K mg C r σ H1 F q d v mk) (e : Ext C H1 H2) (hq : C.tp ≠ some q) : LntAt K mg C r σ H2 F q d v mk :=
  ⟨l.mem, l.own.go (fun o z => e q o z hq) (fun a o z s => e a o z fun w => s (.inr (.inl w))) (fun _ _ _ s => s), l.rep.go (fun a o z s => e a o z fun w => s (.inl (.inr (.inl w)))) (fun _ _ _ s => s)⟩
end
end Pu
namespace Pu
open PySem L2 PySem.Spec PyProof.Rows PySem.W
/-! # == and != of two dicts that are alike -/
open Classical
/-! # d.clear(), d.pop(k, x) -/
end Pu
namespace Pu
open PySem L2
/-! # return (None, x), return (x, None) of a thing of one's own -/
/-! # what is one's own, handed on as a value -/
/-! # list(range(a, b)), tuple(range(..)) -/
/-! # {k: v, ..} with keys that are constants -/
end Pu
namespace Pu
open PySem L2 PySem.Spec PyProof.Rows
open Classical
/-! # sorted of a known tuple, too -/
end Pu
namespace Pu
open PySem L2 PySem.Spec PyProof.Rows
/-! # a known tuple and some more, perhaps none: known again -/
/-! # max(xs, default = 0) -/
end Pu
namespace PySem
end PySem
namespace Pu
open PySem L2 PySem.Spec PyProof.Rows
open Classical
end Pu
namespace Pu
open PySem L2 PySem.Spec PyProof.Rows
/-! # a part of a known tuple, known again -/
end Pu
namespace Pu
open PySem L2
/-! # typed runs -/
inductive Rt (A : Type) where
  | ok (a : A) | exc (c : PySem.Str) (fs : List (PySem.Str × D)) | stuck
namespace Rt
variable {A B : Type}
def bind (x : Rt A) (f : A → Rt B) : Rt B := match x with
  | .ok a => f a
  | .exc c fs => .exc c fs
  | .stuck => .stuck
@[simp] theorem bind_ok (a : A) (f : A → Rt B) : (Rt.ok a).bind f = f a := rfl
@[simp] theorem bind_exc (c : PySem.Str) (fs : List (PySem.Str × D)) (f : A → Rt B) : (Rt.exc c fs).bind f = .exc c fs := rfl
@[simp] theorem bind_stuck (f : A → Rt B) : (Rt.stuck : Rt A).bind f = .stuck := rfl
end Rt
/-- what a typed run gives -/
def wr {A : Type} (x : Rt A) (Q : A → Prop) : Prop := ∃ a, x = .ok a ∧ Q a
section
variable {A B : Type} {Q R : A → Prop}
@[simp] theorem wr_ok (a : A) : wr (.ok a) Q ↔ Q a := ⟨fun ⟨b, e, q⟩ => by cases e; exact q, fun q => ⟨a, rfl, q⟩⟩
@[simp] theorem wr_stuck : wr (.stuck : Rt A) Q ↔ False := ⟨fun ⟨b, e, q⟩ => (nomatch e), fun q => q.elim⟩
@[simp] theorem wr_exc (c : PySem.Str) (fs : List (PySem.Str × D)) : wr (.exc c fs : Rt A) Q ↔ False := ⟨fun ⟨b, e, q⟩ => (nomatch e), fun q => q.elim⟩
@[simp] theorem wr_bind (x : Rt B) (f : B → Rt A) : wr (x.bind f) Q ↔ wr x fun b => wr (f b) Q := by
  cases x with
  | ok b => simp
  | exc c fs => simp
  | stuck => simp
theorem wr_imp {x : Rt A} (h : wr x Q) (i : ∀ a, Q a → R a) : wr x R := by
  obtain ⟨a, e, q⟩ := h
  exact ⟨a, e, i a q⟩
@[simp] theorem wr_ite {p : Prop} [Decidable p] (x y : Rt A) : wr (if p then x else y) Q ↔ (p → wr x Q) ∧ (¬ p → wr y Q) := by
  by_cases c : p <;> simp [c]
end
/-- the run x does what the typed run y tells -/
abbrev EX := Tp → Env → Prop
def Sim {A B : Type} (E : EX) (x : Rs A) (y : Rt B) (R : A → B → Prop) : Prop := match y with
  | .ok b => ∃ a, x = .ok a ∧ R a b
  | .exc c fs => ∃ t r, x = .exc c fs t r ∧ E t r
  | .stuck => True
abbrev ET : EX := fun _ _ => True
section
variable {A A' B B' : Type} {E E' : EX} {x : Rs A'} {y : Rt B'} {K : A' → Rs A} {z : B' → Rt B} {R : A → B → Prop} {R1 : A' → B' → Prop}
theorem Sim.bind (h : Sim E' x y R1) (he : ∀ t r, E' t r → E t r) (k : ∀ p b, R1 p b → Sim E (K p) (z b) R) : Sim E (x.bind K) (y.bind z) R := by
  cases y with
  | ok b =>
    obtain ⟨a, e, q⟩ := h
    rw [e]
    exact k a b q
  | exc c fs =>
    obtain ⟨t, r, e, q⟩ := h
    rw [e]
    exact ⟨t, r, rfl, he t r q⟩
  | stuck => trivial
theorem bind_id {A : Type} (x : Rs A) : x.bind Rs.ok = x := by cases x <;> rfl
theorem s_fin {a : A} {b : B} (h : R a b) : Sim E (.ok a) (.ok b) R := ⟨a, rfl, h⟩
end
/-! ## slots -/
inductive PE where
  | any | free | is (v : VD)
abbrev Pat := List PE
abbrev iv (d : D) : PE := .is (.val d)
abbrev io (d : D) : PE := .is (.own d)
def PE.at : PE → Option VD → Prop
  | .any, _ => True
  | .free, x => (∀ d, x ≠ some (.own d)) ∧ x ≠ some .tape ∧ ∀ s d, x ≠ some (.tree s d)
  | .is v, x => x = some v
def Mat : Pat → Env → Prop
  | [], [] => True
  | p :: ps, x :: xs => p.at x ∧ Mat ps xs
  | _, _ => False
def patOf (r : Env) : Pat := r.map fun x => match x with
  | some v => .is v
  | none => .free
theorem mat_of : ∀ r : Env, Mat (patOf r) r
  | [] => trivial
  | none :: r => ⟨⟨nofun, nofun, nofun⟩, mat_of r⟩
  | some v :: r => ⟨rfl, mat_of r⟩
section
variable {p q : Pat} {r : Env} {v : VD} {d : D} {i : Nat}
theorem Mat.at' : ∀ {p : Pat} {r : Env} {i : Nat} {x : PE}, Mat p r → p[i]? = some x → ∃ y, r[i]? = some y ∧ x.at y
  | [], _, _, _, _, h => nomatch h
  | _ :: _, [], _, _, m, _ => m.elim
  | a :: p, b :: r, 0, x, m, h => by
    cases h
    exact ⟨b, rfl, m.1⟩
  | a :: p, b :: r, i + 1, x, m, h => by
    have := Mat.at' (i := i) m.2 (by simpa using h)
    simpa using this
theorem Mat.get (m : Mat p r) (h : p[i]? = some (.is v)) : r[i]? = some (some v) := by
  obtain ⟨y, e, q⟩ := m.at' h
  rw [e]
  exact congrArg some q
theorem Mat.setA : ∀ {p : Pat} {r : Env} (i : Nat) {x : PE} {y : Option VD}, Mat p r → x.at y → Mat (p.set i x) (r.set i y)
  | [], [], _, _, _, _, _ => trivial
  | [], _ :: _, _, _, _, m, _ => m.elim
  | _ :: _, [], _, _, _, m, _ => m.elim
  | a :: p, b :: r, 0, x, y, m, h => ⟨h, m.2⟩
  | a :: p, b :: r, i + 1, x, y, m, h => ⟨m.1, Mat.setA i m.2 h⟩
theorem Mat.set (m : Mat p r) (i : Nat) (v : VD) : Mat (p.set i (.is v)) (r.set i (some v)) := m.setA i rfl
inductive Wk : Pat → Pat → Prop
  | nil : Wk [] []
  | any {x : PE} {p q : Pat} : Wk p q → Wk (.any :: p) (x :: q)
  | keep {x : PE} {p q : Pat} : Wk p q → Wk (x :: p) (x :: q)
  | fv {d : D} {p q : Pat} : Wk p q → Wk (.free :: p) (.is (.val d) :: q)
  | eq {x y : PE} {p q : Pat} : x = y → Wk p q → Wk (x :: p) (y :: q)
theorem Mat.weak : ∀ {p q : Pat} {r : Env}, Wk p q → Mat q r → Mat p r
  | _, _, [], .nil, _ => trivial
  | _, _, _ :: _, .nil, m => m.elim
  | _, _, [], .any w, m => m.elim
  | _, _, [], .keep w, m => m.elim
  | _, _, [], .fv w, m => m.elim
  | _, _, [], .eq _ w, m => m.elim
  | _, _, _ :: _, .any w, m => ⟨trivial, Mat.weak w m.2⟩
  | _, _, _ :: _, .keep w, m => ⟨m.1, Mat.weak w m.2⟩
  | _, _, _ :: _, .eq e w, m => ⟨e ▸ m.1, Mat.weak w m.2⟩
  | _, _, _ :: _, .fv w, m => ⟨by
      have h := m.1
      unfold PE.at at h ⊢
      rw [h]
      exact ⟨nofun, nofun, nofun⟩, Mat.weak w m.2⟩
def setP (p : Pat) : List (Nat × D) → Pat
  | [] => p
  | (i, d) :: l => setP (p.set i (.is (.val d))) l
theorem Mat.setP : ∀ {l : List (Nat × D)} {p : Pat} {r : Env}, Mat p r → Mat (Pu.setP p l) (setE r l)
  | [], _, _, m => m
  | (i, d) :: l, _, _, m => Mat.setP (l := l) (m.set i (.val d))
def wipeP (p : Pat) : List Nat → Pat
  | [] => p
  | v :: vs => (wipeP p vs).set v .free
inductive Wips (p : Pat) : List Nat → Prop
  | nil : Wips p []
  | f {v : Nat} {vs : List Nat} : (wipeP p vs)[v]? = some .free → Wips p vs → Wips p (v :: vs)
  | v {v : Nat} {vs : List Nat} {d : D} : (wipeP p vs)[v]? = some (.is (.val d)) → Wips p vs → Wips p (v :: vs)
theorem wipe_ok (m : Mat p r) : ∀ {vs : List Nat}, Wips p vs → ∃ r0, wipeE r vs = some r0 ∧ Mat (wipeP p vs) r0
  | [], _ => ⟨r, rfl, m⟩
  | v :: vs, w => by
    have key : ∀ r0 : Env, wipeE r vs = some r0 → Mat (wipeP p vs) r0 → (∀ y, r0[v]? = some y → (∀ d, y ≠ some (.own d)) ∧ y ≠ some .tape ∧ ∀ s d, y ≠ some (.tree s d)) → ∃ r1, wipeE r (v :: vs) = some r1 ∧ Mat (wipeP p (v :: vs)) r1 := fun r0 e m0 h => by
      refine ⟨r0.set v none, ?_, m0.setA v ⟨nofun, nofun, nofun⟩⟩
      show ((wipeE r vs).bind fun r' => _) = _
      rw [e]
      show (match r0[v]? with
        | some (some (.own _)) => none
        | some (some .tape) => none
        | some (some (.tree _ _)) => none
        | _ => some (r0.set v none)) = _
      split
      · rename_i q
        exact absurd rfl ((h _ q).1 _)
      · rename_i q
        exact absurd rfl (h _ q).2.1
      · rename_i q
        exact absurd rfl ((h _ q).2.2 _ _)
      · rfl
    cases w with
    | f h w =>
      obtain ⟨r0, e, m0⟩ := wipe_ok m w
      obtain ⟨y, e1, a⟩ := m0.at' h
      refine key r0 e m0 fun y2 e2 => ?_
      rw [e1] at e2
      cases e2
      exact a
    | v h w =>
      obtain ⟨r0, e, m0⟩ := wipe_ok m w
      have e1 := m0.get h
      refine key r0 e m0 fun y2 e2 => ?_
      rw [e1] at e2
      cases e2
      exact ⟨nofun, nofun, nofun⟩
end
/-! ## what is worth something, and changes nothing -/
def Pur {B : Type} (f : Env → Tp → Rs (B × Tp)) (r : Env) (v : B) : Prop := ∀ T, f r T = .ok (v, T)
def Pd (f : DE) (r : Env) (d : D) : Prop := ∀ T, dt (f r T) = .ok (d, T)
def Pv (f : DE) (r : Env) (d : D) : Prop := ∀ T, dv (f r T) = .ok (d, T)
def cst (v : VD) : DE := fun _ T => .ok (v, T)
section
variable {f g h : DE} {c c' : DT} {ga : DA} {r : Env} {p : Pat} {d a b e : D} {v : VD} {i : Nat} {ds : List D}
theorem Pur.pd (h : Pur f r (.val d)) : Pd f r d := fun T => by rw [h T]; rfl
theorem Pur.pdO (h : Pur f r (.own d)) : Pd f r d := fun T => by rw [h T]; rfl
theorem Pur.pdP (h : Pur f r (.peek d)) : Pd f r d := fun T => by rw [h T]; rfl
theorem Pur.pv (h : Pur f r (.val d)) : Pv f r d := fun T => by rw [h T]; rfl
theorem Pur.pvO (h : Pur f r (.own d)) : Pv f r d := fun T => by rw [h T]; rfl
theorem q_cst : Pur (cst v) r v := fun _ => rfl
theorem q_var (m : Mat p r) (h : p[i]? = some (.is (.val d))) : Pur (eVar i) r (.val d) := fun T => by rw [eVar_ap, m.get h]; rfl
theorem q_varO (m : Mat p r) (h : p[i]? = some (.is (.own d))) : Pur (eVar i) r (.peek d) := fun T => by rw [eVar_ap, m.get h]; rfl
theorem q_c : Pur (eC d) r (.val d) := fun _ => rfl
theorem q_op {op : D → D → Rs VD} (hf : Pd f r a) (hg : Pd g r b) (ho : op a b = .ok v) : Pur (eOp op f g) r v := fun T => by
  rw [eOp_ap, hf T, Rs.bind_ok, hg T, Rs.bind_ok]
  show lift (op a b) T = _
  rw [ho]; rfl
theorem q_un {op : D → Rs VD} (hf : Pd f r a) (ho : op a = .ok v) : Pur (eUn op f) r v := fun T => by
  rw [eUn_ap, hf T, Rs.bind_ok]
  show lift (op a) T = _
  rw [ho]; rfl
theorem q_chain {op op' : D → D → Rs VD} {x y : Bool} (hf : Pd f r a) (hg : Pd g r b) (hh : Pd h r e) (ho : op a b = .ok (.val (.bl x))) (ho' : op' b e = .ok (.val (.bl y))) : Pur (eChain op op' f g h) r (.val (.bl (x && y))) := fun T => by
  rw [eChain_ap, hf T, Rs.bind_ok, hg T, Rs.bind_ok]
  show (op a b).bind _ = _
  rw [ho, Rs.bind_ok, chK_bl]
  cases x with
  | false => rfl
  | true =>
    rw [if_pos rfl, hh T, Rs.bind_ok]
    show lift (op' b e) T = _
    rw [ho']; rfl
theorem q_and {x y : Bool} (hf : Pv f r (.bl x)) (hg : x = true → Pur g r (.val (.bl y))) : Pur (eAnd f g) r (.val (.bl (x && y))) := fun T => by
  rw [eAnd_ap, hf T]
  cases x with
  | false => rfl
  | true => exact hg rfl T
theorem q_not {x : Bool} (hf : Pv f r (.bl x)) : Pur (eNot f) r (.val (.bl !x)) := fun T => by rw [eNot_ap, hf T]; rfl
theorem q_xb {x : Bool} (hf : Pv f r (.bl x)) : Pur (xB f) r x := fun T => by rw [xB_ap, hf T]; rfl
theorem q_xand {x y : Bool} (hf : Pur c r x) (hg : x = true → Pur c' r y) : Pur (xAnd c c') r (x && y) := fun T => by
  rw [xAnd_ap, hf T]
  cases x with
  | false => rfl
  | true => exact hg rfl T
theorem q_xor {x y : Bool} (hf : Pur c r x) (hg : x = false → Pur c' r y) : Pur (xOr c c') r (x || y) := fun T => by
  rw [xOr_ap, hf T]
  cases x with
  | true => rfl
  | false => exact hg rfl T
theorem q_xnot {x : Bool} (hf : Pur c r x) : Pur (xNot c) r (!x) := fun T => by rw [xNot_ap, hf T]; rfl
theorem q_nil : Pur aNil r [] := fun _ => rfl
theorem q_cons (hf : Pv f r d) (hg : Pur ga r ds) : Pur (aCons f ga) r (d :: ds) := fun T => by rw [aCons_ap, hf T, Rs.bind_ok, hg T]; rfl
theorem q_consT (hf : Pd f r d) (hg : Pur ga r ds) : Pur (aConsT f ga) r (d :: ds) := fun T => by rw [aConsT_ap, hf T, Rs.bind_ok, hg T]; rfl
theorem q_tup (hg : Pur ga r ds) (hl : Nat.ble ds.length 1000 = true) : Pur (eTup ga) r (.val (.tup ds)) := fun T => by
  rw [eTup_ap, hg T, Rs.bind_ok]
  show (if ds.length ≤ 1000 then _ else _) = _
  rw [if_pos (Nat.le_of_ble_eq_true hl)]
theorem q_lst (hg : Pur ga r ds) (hl : Nat.ble ds.length 1000 = true) : Pur (eLst ga) r (.own (.lst ds)) := fun T => by
  rw [eLst_ap, hg T, Rs.bind_ok]
  show (if ds.length ≤ 1000 then _ else _) = _
  rw [if_pos (Nat.le_of_ble_eq_true hl)]
theorem q_call {op : List D → Rs VD} (hg : Pur ga r ds) (ho : op ds = .ok v) : Pur (eCall op ga) r v := fun T => by
  rw [eCall_ap, hg T, Rs.bind_ok]
  show lift (op ds) T = _
  rw [ho]; rfl
theorem q_dct {t : Bool} : Pur (eDct t) r (.own (.dct t [])) := fun _ => rfl
theorem q_seqI (hf : Pv f r d) (hs : seqD d = .ok ds) : Pur (iSeq f) r ds := fun T => by
  rw [iSeq_ap, hf T, Rs.bind_ok]
  show ((seqD d).bind _) = _
  rw [hs]; rfl
theorem q_seqJ (hf : Pd f r d) (hs : seqD d = .ok ds) : Pur (jSeq f) r ds := fun T => by
  rw [jSeq_ap, hf T, Rs.bind_ok]
  show ((seqD d).bind _) = _
  rw [hs]; rfl
theorem q_enuI (hf : Pv f r d) (hs : seqD d = .ok ds) : Pur (iEnu f) r (enumD 0 ds) := fun T => by
  rw [iEnu_ap, hf T, Rs.bind_ok]
  show ((seqD d).bind _) = _
  rw [hs]; rfl
theorem q_rng {a b : D} {lo hi : Int} {ds : List D} (hg : Pur ga r ds) (h : argR ds = .ok (lo, hi)) (hb : -8000000 ≤ lo ∧ lo ≤ 8000000 ∧ -8000000 ≤ hi ∧ hi ≤ 8000000) : Pur (iRng ga) r (rngD lo (hi - lo).toNat) := fun T => by
  unfold iRng
  rw [hg T, Rs.bind_ok]
  show ((argR ds).bind _) = _
  rw [h, Rs.bind_ok, if_pos hb]
theorem q_sl {lo hi : Option DE} {lo' hi' : Option Int} (hf : Pd f r a) (h1 : ∀ T, partE lo r T = .ok (lo', T)) (h2 : ∀ T, partE hi r T = .ok (hi', T)) (ho : dSl a lo' hi' = .ok v) : Pur (eSl f lo hi) r v := fun T => by
  rw [eSl_ap, hf T, Rs.bind_ok, h1, Rs.bind_ok, h2, Rs.bind_ok]
  show lift (dSl a lo' hi') T = _
  rw [ho]; rfl
theorem q_pnone : ∀ T, partE none r T = .ok (none, T) := fun _ => rfl
theorem q_psome {i : Int} (hf : Pd f r (.int i)) : ∀ T, partE (some f) r T = .ok (some i, T) := fun T => by rw [partE_some, hf T]; rfl
/-- x : Option, known to be there -/
theorem pd_un {A : Type} {e : Option A → D} {x : Option A} {x' : A} (hx : x = some x') (h : Pd f r (e x)) : Pd f r (e (some x')) := hx ▸ h
end
/-! ## one part taken out, ahead of the rest -/
structure Plug {B : Type} (x : Env → Tp → Rs B) (f : DE) (x' : VD → Env → Tp → Rs B) (r : Env) : Prop where
  eq : ∀ {A : Type} (T : Tp) (K : B → Rs A), (x r T).bind K = (f r T).bind fun p => (x' p.1 r p.2).bind K
theorem Rs.assoc {A B C : Type} (x : Rs A) (f : A → Rs B) (g : B → Rs C) : (x.bind f).bind g = x.bind fun a => (f a).bind g := by cases x <;> rfl
section
variable {f g h k : DE} {c c' : DT} {ga gb : DA} {r : Env} {d a b e : D} {v : VD} {i : Nat} {ds : List D} {f' : VD → DE} {c2 : VD → DT} {ga' : VD → DA}
theorem plug_id : Plug f f cst r := .mk fun T K => rfl
theorem plug_dv (h : Plug f k f' r) {B A : Type} (T : Tp) (K : D × Tp → Rs B) (K2 : B → Rs A) : ((dv (f r T)).bind K).bind K2 = (k r T).bind fun p => ((dv (f' p.1 r p.2)).bind K).bind K2 := by
  unfold dv
  rw [Rs.assoc, Rs.assoc, h.eq T]
  congr 1
  funext p
  rw [Rs.assoc, Rs.assoc]
theorem plug_dt (h : Plug f k f' r) {B A : Type} (T : Tp) (K : D × Tp → Rs B) (K2 : B → Rs A) : ((dt (f r T)).bind K).bind K2 = (k r T).bind fun p => ((dt (f' p.1 r p.2)).bind K).bind K2 := by
  unfold dt
  rw [Rs.assoc, Rs.assoc, h.eq T]
  congr 1
  funext p
  rw [Rs.assoc, Rs.assoc]
theorem plug_op1 {op : D → D → Rs VD} (h : Plug f k f' r) : Plug (eOp op f g) k (fun v => eOp op (f' v) g) r := .mk fun T K => plug_dt h T _ K
theorem plug_op2 {op : D → D → Rs VD} (hf : Pd f r a) (h : Plug g k f' r) : Plug (eOp op f g) k (fun v => eOp op f (f' v)) r := .mk fun T K => by
  rw [eOp_ap, hf T, Rs.bind_ok, plug_dt h T]
  congr 1
  funext p
  show _ = Rs.bind (eOp op f (f' p.1) r p.2) K
  rw [eOp_ap, hf p.2, Rs.bind_ok]
theorem plug_un {op : D → Rs VD} (h : Plug f k f' r) : Plug (eUn op f) k (fun v => eUn op (f' v)) r := .mk fun T K => plug_dt h T _ K
theorem plug_and (h : Plug f k f' r) : Plug (eAnd f g) k (fun v => eAnd (f' v) g) r := .mk fun T K => plug_dv h T _ K
theorem plug_not (h : Plug f k f' r) : Plug (eNot f) k (fun v => eNot (f' v)) r := .mk fun T K => plug_dv h T _ K
theorem plug_xb (h : Plug f k f' r) : Plug (xB f) k (fun v => xB (f' v)) r := .mk fun T K => plug_dv h T _ K
theorem plug_xnot (h : Plug c k c2 r) : Plug (xNot c) k (fun v => xNot (c2 v)) r := .mk fun T K => by
  rw [xNot_ap, Rs.assoc, h.eq T]
  congr 1
  funext p
  show _ = Rs.bind (xNot (c2 p.1) r p.2) K
  rw [xNot_ap, Rs.assoc]
theorem plug_xand (h : Plug c k c2 r) : Plug (xAnd c c') k (fun v => xAnd (c2 v) c') r := .mk fun T K => by
  rw [xAnd_ap, Rs.assoc, h.eq T]
  congr 1
  funext p
  show _ = Rs.bind (xAnd (c2 p.1) c' r p.2) K
  rw [xAnd_ap, Rs.assoc]
theorem plug_xor (h : Plug c k c2 r) : Plug (xOr c c') k (fun v => xOr (c2 v) c') r := .mk fun T K => by
  rw [xOr_ap, Rs.assoc, h.eq T]
  congr 1
  funext p
  show _ = Rs.bind (xOr (c2 p.1) c' r p.2) K
  rw [xOr_ap, Rs.assoc]
theorem plug_c1 (h : Plug f k f' r) : Plug (aCons f ga) k (fun v => aCons (f' v) ga) r := .mk fun T K => plug_dv h T _ K
theorem plug_t1 (h : Plug f k f' r) : Plug (aConsT f ga) k (fun v => aConsT (f' v) ga) r := .mk fun T K => plug_dt h T _ K
theorem plug_c2 (hf : Pv f r d) (h : Plug ga k ga' r) : Plug (aCons f ga) k (fun v => aCons f (ga' v)) r := .mk fun T K => by
  rw [aCons_ap, hf T, Rs.bind_ok, Rs.assoc, h.eq T]
  congr 1
  funext p
  show _ = Rs.bind (aCons f (ga' p.1) r p.2) K
  rw [aCons_ap, hf p.2, Rs.bind_ok, Rs.assoc]
theorem plug_ga {B : Type} {F : List D × Tp → Rs B} (h : Plug ga k ga' r) : Plug (fun r T => (ga r T).bind F) k (fun v r T => (ga' v r T).bind F) r := .mk fun T K => by
  rw [Rs.assoc, h.eq T]
  congr 1
  funext p
  show _ = Rs.bind ((ga' p.1 r p.2).bind F) K
  rw [Rs.assoc]
theorem plug_tup (h : Plug ga k ga' r) : Plug (eTup ga) k (fun v => eTup (ga' v)) r := plug_ga h
theorem plug_lst (h : Plug ga k ga' r) : Plug (eLst ga) k (fun v => eLst (ga' v)) r := plug_ga h
theorem plug_call {op : List D → Rs VD} (h : Plug ga k ga' r) : Plug (eCall op ga) k (fun v => eCall op (ga' v)) r := plug_ga h
theorem plug_def {n : Nat} {M : DM} (h : Plug ga k ga' r) : Plug (eDef n M ga) k (fun v => eDef n M (ga' v)) r := .mk fun T K => by
  simp only [eDef_ap]
  exact (plug_ga h).eq T K
theorem plug_seqJ (h : Plug f k f' r) : Plug (jSeq f) k (fun v => jSeq (f' v)) r := .mk fun T K => plug_dt h T _ K
theorem plug_lc {vs : List Nat} {it : DI} {it' : VD → DI} {gg : DG} (h : Plug it k it' r) : Plug (eLc vs it gg c f) k (fun v => eLc vs (it' v) gg c f) r := .mk fun T K => by
  rw [eLc_ap, Rs.assoc, h.eq T]
  congr 1
  funext p
  show _ = Rs.bind (eLc vs (it' p.1) gg c f r p.2) K
  rw [eLc_ap, Rs.assoc]
theorem plug_sl1 {lo hi : Option DE} (h : Plug f k f' r) : Plug (eSl f lo hi) k (fun v => eSl (f' v) lo hi) r := .mk fun T K => plug_dt h T _ K
end
end Pu
namespace Pu
open PySem L2
open Classical
/-! # typed forms -/
section
variable {A B S P : Type}
def noE (x : Rt A) : Rt A := match x with
  | .ok a => .ok a
  | _ => .stuck
@[simp] theorem noE_ok (a : A) : noE (.ok a) = .ok a := rfl
def forS : List A → S → (A → S → Rt S) → Rt S
  | [], s, _ => .ok s
  | x :: xs, s, f => (f x s).bind fun s => forS xs s f
/-- a pass that tells true is the last one -/
def forB : List A → S → (A → S → Rt (Bool × S)) → Rt S
  | [], s, _ => .ok s
  | x :: xs, s, f => (f x s).bind fun p => if p.1 = true then .ok p.2 else forB xs p.2 f
inductive Lp (S P : Type) where
  | nx (s : S) | bk (s : S) | rt (v : P)
def forR : List A → S → (A → S → Rt (Lp S P)) → Rt (S ⊕ P)
  | [], s, _ => .ok (.inl s)
  | x :: xs, s, f => (f x s).bind fun p => match p with
    | .nx s => forR xs s f
    | .bk s => .ok (.inl s)
    | .rt v => .ok (.inr v)
def mapR (f : A → Rt B) : List A → Rt (List B)
  | [] => .ok []
  | x :: xs => (noE (f x)).bind fun y => (mapR f xs).bind fun ys => .ok (y :: ys)
def lcR (c : A → Rt Bool) (f : A → Rt B) : List A → Rt (List B)
  | [] => .ok []
  | x :: xs => (noE (c x)).bind fun b => if b = true then (noE (f x)).bind fun y => (lcR c f xs).bind fun ys => .ok (y :: ys) else lcR c f xs
def mapT (f : A → Tp → Rt (B × Tp)) : List A → Tp → Rt (List B × Tp)
  | [], T => .ok ([], T)
  | x :: xs, T => (noE (f x T)).bind fun y => (mapT f xs y.2).bind fun ys => .ok (y.1 :: ys.1, ys.2)
end
/-! ## whiles by a measure -/
/-! ## for by what holds behind each pass -/
section
variable {A B S P : Type}
theorem wr_forB {Q : S → Prop} {f : A → S → Rt (Bool × S)} (I : Nat → S → Prop) : ∀ (xs : List A) (k : Nat) (s : S), I k s → (∀ i x s, xs[i]? = some x → I (k + i) s → wr (f x s) fun p => if p.1 = true then Q p.2 else I (k + i + 1) p.2) → (∀ s, I (k + xs.length) s → Q s) → wr (forB xs s f) Q
  | [], k, s, h, _, hq => (wr_ok _).mpr (hq s h)
  | x :: xs, k, s, h, hs, hq => by
    unfold forB
    rw [wr_bind]
    refine wr_imp (hs 0 x s rfl h) fun p h' => ?_
    by_cases hp : p.1 = true
    · rw [if_pos hp] at h' ⊢
      exact (wr_ok _).mpr h'
    · rw [if_neg hp] at h' ⊢
      refine wr_forB I xs (k + 1) p.2 h' (fun i y s2 hi h2 => ?_) fun s2 h2 => hq s2 ?_
      · have := hs (i + 1) y s2 (by simpa using hi) (by rw [show k + (i + 1) = k + 1 + i by omega]; exact h2)
        rw [show k + 1 + i + 1 = k + (i + 1) + 1 by omega]
        exact this
      · rw [List.length_cons, show k + (xs.length + 1) = k + 1 + xs.length by omega]
        exact h2
def lpQ (I : S → Prop) (Q : S ⊕ P → Prop) : Lp S P → Prop
  | .nx s => I s
  | .bk s => Q (.inl s)
  | .rt v => Q (.inr v)
@[simp] theorem lpQ_nx (I : S → Prop) (Q : S ⊕ P → Prop) (s : S) : lpQ I Q (.nx s) = I s := rfl
@[simp] theorem lpQ_bk (I : S → Prop) (Q : S ⊕ P → Prop) (s : S) : lpQ I Q (.bk s) = Q (.inl s) := rfl
@[simp] theorem lpQ_rt (I : S → Prop) (Q : S ⊕ P → Prop) (v : P) : lpQ I Q (.rt v) = Q (.inr v) := rfl
theorem wr_forR {Q : S ⊕ P → Prop} {f : A → S → Rt (Lp S P)} (I : Nat → S → Prop) : ∀ (xs : List A) (k : Nat) (s : S), I k s → (∀ i x s, xs[i]? = some x → I (k + i) s → wr (f x s) (lpQ (I (k + i + 1)) Q)) → (∀ s, I (k + xs.length) s → Q (.inl s)) → wr (forR xs s f) Q
  | [], k, s, h, _, hq => (wr_ok _).mpr (hq s h)
  | x :: xs, k, s, h, hs, hq => by
    unfold forR
    rw [wr_bind]
    refine wr_imp (hs 0 x s rfl h) fun p h' => ?_
    cases p with
    | bk s' => exact (wr_ok _).mpr h'
    | rt v => exact (wr_ok _).mpr h'
    | nx s' =>
      refine wr_forR I xs (k + 1) s' h' (fun i y s2 hi h2 => ?_) fun s2 h2 => hq s2 ?_
      · have := hs (i + 1) y s2 (by simpa using hi) (by rw [show k + (i + 1) = k + 1 + i by omega]; exact h2)
        rw [show k + 1 + i + 1 = k + (i + 1) + 1 by omega]
        exact this
      · rw [List.length_cons, show k + (xs.length + 1) = k + 1 + xs.length by omega]
        exact h2
theorem mapR_ok {f : A → Rt B} {g : A → B} : ∀ (xs : List A), (∀ x ∈ xs, f x = .ok (g x)) → mapR f xs = .ok (xs.map g)
  | [], _ => rfl
  | x :: xs, h => by
    unfold mapR
    rw [h x List.mem_cons_self, noE_ok, Rt.bind_ok, mapR_ok xs fun y hy => h y (List.mem_cons_of_mem _ hy)]
    rfl
theorem lcR_ok {c : A → Rt Bool} {d : A → Bool} {f : A → Rt B} {g : A → B} : ∀ (xs : List A), (∀ x ∈ xs, c x = .ok (d x)) → (∀ x ∈ xs, d x = true → f x = .ok (g x)) → lcR c f xs = .ok ((xs.filter d).map g)
  | [], _, _ => rfl
  | x :: xs, hc, hf => by
    unfold lcR
    rw [hc x List.mem_cons_self, noE_ok, Rt.bind_ok, lcR_ok xs (fun y hy => hc y (List.mem_cons_of_mem _ hy)) fun y hy => hf y (List.mem_cons_of_mem _ hy)]
    cases h : d x with
    | true => rw [if_pos rfl, hf x List.mem_cons_self h, noE_ok, Rt.bind_ok, Rt.bind_ok, List.filter_cons_of_pos h]; rfl
    | false => rw [if_neg (by decide), List.filter_cons_of_neg (by simp [h])]
theorem wr_noE {Q : A → Prop} {x : Rt A} : wr (noE x) Q ↔ wr x Q := by cases x <;> simp [noE]
/-- each item has what P tells; mapT gives as many -/
theorem wr_mapT_all {f : A → Tp → Rt (B × Tp)} (It : Tp → Prop) (P : A → B → Prop) : ∀ (xs : List A) (T : Tp), It T → (∀ x ∈ xs, ∀ T, It T → wr (f x T) fun y => P x y.1 ∧ It y.2) → wr (mapT f xs T) fun (p : List B × Tp) => It p.2 ∧ p.1.length = xs.length ∧ ∀ (i : Nat) (x : A) (y : B), xs[i]? = some x → p.1[i]? = some y → P x y
  | [], T, h, _ => (wr_ok _).mpr ⟨h, rfl, fun i x y e => by simp at e⟩
  | x :: xs, T, h, hs => by
    unfold mapT
    rw [wr_bind, wr_noE]
    refine wr_imp (hs x List.mem_cons_self T h) fun y ⟨hp, h'⟩ => ?_
    rw [wr_bind]
    refine wr_imp (wr_mapT_all It P xs y.2 h' fun z hz => hs z (List.mem_cons_of_mem _ hz)) fun p ⟨q1, q2, q3⟩ => (wr_ok _).mpr ⟨q1, by simp [q2], fun i a b ha hb => ?_⟩
    cases i with
    | zero =>
      simp at ha hb
      subst ha hb
      exact hp
    | succ i => exact q3 i a b (by simpa using ha) (by simpa using hb)
end
/-! # the rules -/
def RL {S : Type} (P : S → Pat) (τ : S → Tp) : Fl × Tp → S → Prop := fun p s => ∃ r, p = (.nx r, τ s) ∧ Mat (P s) r
def RC {S : Type} (P : S → Pat) (τ : S → Tp) : Fl × Tp → S → Prop := fun p s => ∃ r, (p = (.nx r, τ s) ∨ p = (.ct r, τ s)) ∧ Mat (P s) r
def RB {S : Type} (P : S → Pat) (τ : S → Tp) : Fl × Tp → Bool × S → Prop := fun p s => ∃ r, ((s.1 = false ∧ (p = (.nx r, τ s.2) ∨ p = (.ct r, τ s.2))) ∨ (s.1 = true ∧ p = (.bk r, τ s.2))) ∧ Mat (P s.2) r
def RR {S V : Type} (P : S → Pat) (τ : S → Tp) (mk : V → VD) (tv : V → Tp) : Fl × Tp → Lp S V → Prop := fun p s => match s with
  | .nx s => ∃ r, (p = (.nx r, τ s) ∨ p = (.ct r, τ s)) ∧ Mat (P s) r
  | .bk s => ∃ r, p = (.bk r, τ s) ∧ Mat (P s) r
  | .rt v => p = (.rt (mk v), tv v)
def RV {V : Type} (mk : V → VD) : VD × Tp → V → Prop := fun p v => p.1 = mk v
def RT {V : Type} (mk : V → VD) : VD × Tp → V × Tp → Prop := fun p v => p = (mk v.1, v.2)
def kSeq {A : Type} (g : DS) (K : Fl × Tp → Rs A) : Fl × Tp → Rs A := fun p => (seqK g p).bind K
section
variable {A B V W S : Type} {E : EX} {K : Fl × Tp → Rs A} {y : Rt B} {R : A → B → Prop} {r : Env} {T : Tp} {p : Pat} {f g : DS} {e e' : DE} {i : Nat} {v : VD} {d : D}
theorem s_seq (h : Sim E ((f r T).bind (kSeq g K)) y R) : Sim E ((sSeq f g r T).bind K) y R := by
  rw [sSeq_ap, Rs.assoc]
  exact h
theorem s_next (h : Sim E ((g r T).bind K) y R) : Sim E (kSeq g K (.nx r, T)) y R := h
theorem s_pass (h : Sim E (K (.nx r, T)) y R) : Sim E ((sPass r T).bind K) y R := h
theorem s_brk (h : Sim E (K (.bk r, T)) y R) : Sim E ((sBrk r T).bind K) y R := h
theorem s_plugE {C : Type} {K : C → Rs A} {x : Env → Tp → Rs C} {k : DE} {x' : VD → Env → Tp → Rs C} (hp : Plug x k x' r) (h : Sim E ((k r T).bind fun p => (x' p.1 r p.2).bind K) y R) : Sim E ((x r T).bind K) y R := by
  rw [hp.eq T K]
  exact h
theorem s_asg (m : Mat p r) (hf : Pur e r v) (hv : ∀ r : Env, put r i v = .ok (r.set i (some v))) (k : ∀ r', Mat (p.set i (.is v)) r' → Sim E (K (.nx r', T)) y R) : Sim E ((sAsg i e r T).bind K) y R := by
  rw [sAsg_ap, hf T, Rs.bind_ok]
  show Sim E (((put r i v).bind _).bind K) y R
  rw [hv, Rs.bind_ok]
  exact k _ (m.set i v)
theorem s_ret (hf : Pur e r v) (hv : ∀ T, retK (v, T) = .ok (.rt v, T)) (k : Sim E (K (.rt v, T)) y R) : Sim E ((sRet e r T).bind K) y R := by
  rw [sRet_ap, hf T, Rs.bind_ok, hv]
  exact k
theorem s_retV (m : Mat p r) (hi : p[i]? = some (.is v)) (hv : ∀ T, retVK T (some (some v)) = .ok (.rt v, T)) (k : Sim E (K (.rt v, T)) y R) : Sim E ((sRetV i r T).bind K) y R := by
  rw [sRetV_ap, m.get hi, hv]
  exact k
theorem s_frzV (m : Mat p r) (hi : p[i]? = some (.is (.val d))) (k : Sim E ((g r T).bind K) y R) : Sim E ((sFrz i g r T).bind K) y R := by
  rw [sFrz_ap, m.get hi, frzK_val]
  exact k
theorem s_aug {op : D → D → Rs VD} {a : D} (m : Mat p r) (hi : p[i]? = some (.is (.val d))) (hf : Pd e r a) (ho : op d a = .ok v) (hv : ∀ r : Env, put r i v = .ok (r.set i (some v))) (k : ∀ r', Mat (p.set i (.is v)) r' → Sim E (K (.nx r', T)) y R) : Sim E ((sAug op i e r T).bind K) y R := by
  rw [sAug_ap, m.get hi, augK_val, hf T, Rs.bind_ok]
  show Sim E (((op d a).bind _).bind K) y R
  rw [ho, Rs.bind_ok, hv, Rs.bind_ok]
  exact k _ (m.set i v)
def Prim {A : Type} (x : Rs VD) (w : Rt A) (mk : A → VD) : Prop := ∀ a, w = .ok a → x = .ok (mk a)
def PrimO {A C : Type} (x : Option C) (w : Rt A) (mk : A → C) : Prop := ∀ a, w = .ok a → x = some (mk a)
def Quit {A : Type} (w : Rt A) : Prop := ∀ c fs, w ≠ .exc c fs
theorem Prim.go {K : VD → Rs A} {w : Rt V} {z : V → Rt B} {mk : V → VD} {x : Rs VD} (h : Prim x w mk) (q : Quit w) (k : ∀ a, w = .ok a → Sim E (K (mk a)) (z a) R) : Sim E (x.bind K) (w.bind z) R := by
  cases e : w with
  | ok a =>
    rw [h a e]
    exact k a e
  | exc c fs => exact absurd e (q c fs)
  | stuck => trivial
theorem PrimO.go {C : Type} {K : C → Rs A} {w : Rt V} {z : V → Rt B} {mk : V → C} {x : Option C} (h : PrimO x w mk) (q : Quit w) (k : ∀ a, w = .ok a → Sim E (K (mk a)) (z a) R) : Sim E ((rO x).bind K) (w.bind z) R := by
  cases e : w with
  | ok a =>
    rw [h a e]
    exact k a e
  | exc c fs => exact absurd e (q c fs)
  | stuck => trivial
/-- x : Option, by what it is -/
def optR {A B : Type} (o : Option A) (y1 : Rt B) (y2 : A → Rt B) : Rt B := match o with
  | none => y1
  | some a => y2 a
@[simp] theorem optR_none {A B : Type} (y1 : Rt B) (y2 : A → Rt B) : optR none y1 y2 = y1 := rfl
@[simp] theorem optR_some {A B : Type} (a : A) (y1 : Rt B) (y2 : A → Rt B) : optR (some a) y1 y2 = y2 a := rfl
/-- x : Option, needed -/
def unO {A : Type} : Option A → Rt A
  | some a => .ok a
  | none => .stuck
@[simp] theorem unO_some {A : Type} (a : A) : unO (some a) = .ok a := rfl
@[simp] theorem unO_none {A : Type} : unO (none : Option A) = .stuck := rfl
theorem s_un {x : Rs A} {o : Option V} {z : V → Rt B} (k : ∀ a, o = some a → Sim E x (z a) R) : Sim E x ((unO o).bind z) R := by
  cases o with
  | some a => exact k a rfl
  | none => trivial
end
section
variable {A B V W : Type} {E : EX} {K : VD × Tp → Rs A} {R : A → B → Prop} {r : Env} {T : Tp} {p : Pat} {f g h : DE} {ga : DA} {i : Nat} {v : VD} {d a b : D} {ds : List D} {w : Rt V} {z : V → Rt B} {mk : V → VD}
/-- a call of a def -/
theorem h_def {n : Nat} {M : DM} (hg : Pur ga r ds) (hn : ds.length = n) (hM : Sim ET (M ds none) w (RV mk)) (hE : E T r) (k : ∀ x, Sim E (K (mk x, T)) (z x) R) : Sim E ((eDef n M ga r T).bind K) (w.bind z) R := by
  rw [eDef_ap, hg T, Rs.bind_ok]
  show Sim E ((if ds.length = n then defK T r (M ds none) else Rs.stuck).bind K) _ R
  rw [if_pos hn]
  cases w with
  | ok x =>
    obtain ⟨q, e, hq⟩ := hM
    rw [e]
    show Sim E (K (q.1, T)) _ R
    rw [show q.1 = mk x from hq]
    exact k x
  | exc c fs =>
    obtain ⟨t, r', e, _⟩ := hM
    rw [e]
    exact ⟨T, r, rfl, hE⟩
  | stuck => trivial
theorem h_defT {n : Nat} {M : DM} {w : Rt (V × Tp)} {z : V × Tp → Rt B} (ht : r[i]? = some (some .tape)) (hg : Pur ga r ds) (hn : ds.length + 1 = n) (hM : Sim ET (M ds T) w (RT mk)) (hE : ∀ T, E T r) (k : ∀ x : V × Tp, Sim E (K (mk x.1, x.2)) (z x) R) : Sim E ((eDefT i n M ga r T).bind K) (w.bind z) R := by
  rw [eDefT_ap, ht, tpK_tape, hg T, Rs.bind_ok]
  show Sim E ((if ds.length + 1 = n then defTK r (M ds T) else Rs.stuck).bind K) _ R
  rw [if_pos hn]
  cases w with
  | ok x =>
    obtain ⟨q, e, hq⟩ := hM
    rw [e]
    show Sim E (K q) _ R
    rw [show q = (mk x.1, x.2) from hq]
    exact k x
  | exc c fs =>
    obtain ⟨t, r', e, _⟩ := hM
    rw [e]
    exact ⟨t, r, rfl, hE t⟩
  | stuck => trivial
/-- what an __init__ gives -/
def RI (x : PySem.Str) (fs : V → List (PySem.Str × D)) : VD × Tp → V → Prop := fun p v => p = (.val .non, some (.ins x (fs v)))
theorem h_make {x : PySem.Str} {n : Nat} {M : DM} {fs : V → List (PySem.Str × D)} (hg : Pur ga r ds) (hn : ds.length + 1 = n) (hM : Sim ET (M ds (some (.ins x []))) w (RI x fs)) (hE : E T r) (k : ∀ o, Sim E (K (.own (.ins x (fs o)), T)) (z o) R) : Sim E ((eMake x n M ga r T).bind K) (w.bind z) R := by
  unfold eMake
  rw [hg T, Rs.bind_ok]
  show Sim E ((if ds.length + 1 = n then mkK T r (M ds (some (.ins x []))) else Rs.stuck).bind K) _ R
  rw [if_pos hn]
  cases w with
  | ok o =>
    obtain ⟨q, e, hq⟩ := hM
    rw [e, show q = _ from hq]
    exact k o
  | exc c fs =>
    obtain ⟨t, r', e, _⟩ := hM
    rw [e]
    exact ⟨T, r, rfl, hE⟩
  | stuck => trivial
/-- an operation that may fail -/
theorem h_op {op : D → D → Rs VD} (hf : Pd f r a) (hg : Pd g r b) (ho : Prim (op a b) w mk) (hq : Quit w) (k : ∀ x, Sim E (K (mk x, T)) (z x) R) : Sim E ((eOp op f g r T).bind K) (w.bind z) R := by
  rw [eOp_ap, hf T, Rs.bind_ok, hg T, Rs.bind_ok]
  show Sim E ((lift (op a b) T).bind K) _ R
  unfold lift
  rw [Rs.assoc]
  exact ho.go hq fun x _ => k x
theorem h_call {op : List D → Rs VD} (hg : Pur ga r ds) (ho : Prim (op ds) w mk) (hq : Quit w) (k : ∀ x, Sim E (K (mk x, T)) (z x) R) : Sim E ((eCall op ga r T).bind K) (w.bind z) R := by
  rw [eCall_ap, hg T, Rs.bind_ok]
  show Sim E ((lift (op ds) T).bind K) _ R
  unfold lift
  rw [Rs.assoc]
  exact ho.go hq fun x _ => k x
theorem h_idx (hf : Pd f r a) (hi : idxR a = .ok ()) (hg : Pd g r b) (ho : Prim (dIdx a b) w mk) (hq : Quit w) (k : ∀ x, Sim E (K (mk x, T)) (z x) R) : Sim E ((eIdx f g r T).bind K) (w.bind z) R := by
  rw [eIdx_ap, hf T, Rs.bind_ok]
  show Sim E (((idxR a).bind _).bind K) _ R
  rw [hi, Rs.bind_ok]
  show Sim E (((dt (g r T)).bind _).bind K) _ R
  rw [hg T, Rs.bind_ok]
  show Sim E ((lift (dIdx a b) T).bind K) _ R
  unfold lift
  rw [Rs.assoc]
  exact ho.go hq fun x _ => k x
def mB : Bool → VD := fun b => .val (.bl b)
theorem h_and {x : Bool} {w : Rt Bool} {z : Bool → Rt B} (hf : Pv f r (.bl x)) (h1 : x = true → Sim E ((g r T).bind Rs.ok) w (fun q b => q = (mB b, T))) (k : ∀ b, Sim E (K (mB b, T)) (z b) R) : Sim E ((eAnd f g r T).bind K) ((if x = true then w else .ok false).bind z) R := by
  rw [eAnd_ap, hf T]
  cases x with
  | true =>
    refine Sim.bind (bind_id (g r T) ▸ h1 rfl) (fun _ _ h => h) fun q b hq => ?_
    rw [hq]
    exact k b
  | false => exact k false
end
/-! tests with parts that may fail -/
section
variable {A B V : Type} {E : EX} {R : A → B → Prop} {r : Env} {T : Tp} {c c' : DT} {K : Bool × Tp → Rs A}
def RBo (T : Tp) : Bool × Tp → Bool → Prop := fun q b => q = (b, T)
theorem t_pure {C : Type} {K : C × Tp → Rs A} {f : Env → Tp → Rs (C × Tp)} {b : C} {y : Rt B} (hc : Pur f r b) (k : Sim E (K (b, T)) y R) : Sim E ((f r T).bind K) y R := by
  rw [hc T]
  exact k
theorem tt_and {x : Bool} {w : Rt Bool} {z : Bool → Rt B} (hc : Pur c r x) (h1 : x = true → Sim E ((c' r T).bind Rs.ok) w (RBo T)) (k : ∀ b, Sim E (K (b, T)) (z b) R) : Sim E ((xAnd c c' r T).bind K) ((if x = true then w else .ok false).bind z) R := by
  rw [xAnd_ap, hc T, Rs.bind_ok]
  cases x with
  | true =>
    refine Sim.bind (bind_id (c' r T) ▸ h1 rfl) (fun _ _ h => h) fun q b hq => ?_
    rw [show q = _ from hq]
    exact k b
  | false => exact k false
theorem tt_or {x : Bool} {w : Rt Bool} {z : Bool → Rt B} (hc : Pur c r x) (h1 : x = false → Sim E ((c' r T).bind Rs.ok) w (RBo T)) (k : ∀ b, Sim E (K (b, T)) (z b) R) : Sim E ((xOr c c' r T).bind K) ((if x = true then .ok true else w).bind z) R := by
  rw [xOr_ap, hc T, Rs.bind_ok]
  cases x with
  | false =>
    refine Sim.bind (bind_id (c' r T) ▸ h1 rfl) (fun _ _ h => h) fun q b hq => ?_
    rw [show q = _ from hq]
    exact k b
  | true => exact k true
theorem s_test {C : Type} {K : C → Rs A} {f g : Env → Tp → Rs C} {y : Rt B} (h : Sim E ((c r T).bind fun q => (if q.1 = true then f r q.2 else g r q.2).bind K) y R) : Sim E (((c r T).bind fun q => if q.1 = true then f r q.2 else g r q.2).bind K) y R := by
  rw [Rs.assoc]
  exact h
theorem s_sif {f g : DS} {K : Fl × Tp → Rs A} {y : Rt B} (h : Sim E ((c r T).bind fun q => (if q.1 = true then f r q.2 else g r q.2).bind K) y R) : Sim E ((sIf c f g r T).bind K) y R := s_test h
theorem s_ite {C : Type} {K : C → Rs A} {x1 x2 : Rs C} {b : Bool} {y1 y2 : Rt B} (h1 : b = true → Sim E (x1.bind K) y1 R) (h2 : b = false → Sim E (x2.bind K) y2 R) : Sim E ((if b = true then x1 else x2).bind K) (if b = true then y1 else y2) R := by
  cases b with
  | true => exact h1 rfl
  | false => exact h2 rfl
end
/-! comprehensions -/
section
variable {A A1 B V W : Type} {E : EX} {R : A1 → B → Prop} {K : VD × Tp → Rs A1} {r : Env} {T : Tp} {p : Pat} {it : DI} {gg : DG} {c : DT} {f : DE} {vs : List Nat} {xs : List A} {e : A → D} {ms : A → List (Nat × D)} {e' : V → D}
theorem Sim.noX {A B : Type} {x : Rs A} {y : Rt B} {R : A → B → Prop} {E E' : EX} (h : Sim E x y R) : Sim E' (Pu.noX x) (noE y) R := by
  cases y with
  | ok b =>
    obtain ⟨a, ea, q⟩ := h
    rw [ea]
    exact ⟨a, rfl, q⟩
  | exc c fs => trivial
  | stuck => trivial
theorem lc_sim {cond : A → Rt Bool} {elt : A → Rt V} {p' : Pat} (hg : ∀ x, gg (e x) = some (ms x)) (hc : ∀ x r, Mat (setP p' (ms x)) r → Sim ET ((c r T).bind Rs.ok) (cond x) (RBo T)) (hf : ∀ x r, Mat (setP p' (ms x)) r → Sim ET ((dv (f r T)).bind Rs.ok) (elt x) (fun q v => q = (e' v, T))) (m : Mat p' r) : ∀ xs : List A, Sim ET (lcD gg c f (xs.map e) r T) (lcR cond elt xs) (fun q l => q = (l.map e', T))
  | [] => ⟨_, rfl, rfl⟩
  | x :: xs => by
    have ih := lc_sim hg hc hf m xs
    rw [List.map_cons]
    unfold lcD lcR
    rw [hg x]
    show Sim ET ((Pu.noX (c (setE r (ms x)) T)).bind _) _ _
    have h1 := hc x _ m.setP
    rw [bind_id] at h1
    refine Sim.bind (Sim.noX (E' := ET) h1) (fun _ _ h => h) fun q b hq => ?_
    rw [show q = (b, T) from hq]
    cases b with
    | true =>
      rw [if_pos rfl, if_pos rfl]
      have h2 := hf x _ m.setP
      rw [bind_id] at h2
      refine Sim.bind (Sim.noX (E' := ET) h2) (fun _ _ h => h) fun q v hq => ?_
      rw [show q = _ from hq]
      refine Sim.bind ih (fun _ _ h => h) fun q l hq => ?_
      rw [show q = _ from hq]
      exact ⟨_, rfl, rfl⟩
    | false =>
      rw [if_neg (fun h => Bool.false_ne_true h), if_neg (fun h => Bool.false_ne_true h)]
      exact ih
theorem Sim.soft {A B : Type} {x : Rs A} {y : Rt B} {R : A → B → Prop} {E : EX} (h : Sim ET x y R) (q : Quit y) : Sim E x y R := by
  cases y with
  | ok b => exact h
  | exc c fs => exact absurd rfl (q c fs)
  | stuck => trivial
theorem quit_ok {A : Type} {a : A} : Quit (.ok a : Rt A) := fun c fs h => nomatch h
theorem quit_stuck {A : Type} : Quit (.stuck : Rt A) := fun c fs h => nomatch h
theorem quit_noE {A : Type} (x : Rt A) : Quit (noE x) := by
  cases x <;> intro c fs h <;> cases h
theorem quit_bind {A B : Type} {x : Rt A} {f : A → Rt B} (h : Quit x) (k : ∀ a, Quit (f a)) : Quit (x.bind f) := by
  cases x with
  | ok a => exact k a
  | exc c fs => exact absurd rfl (h c fs)
  | stuck => exact quit_stuck
theorem quit_if {A : Type} {p : Prop} [Decidable p] {x y : Rt A} (h : Quit x) (k : Quit y) : Quit (if p then x else y) := by
  by_cases c : p
  · rw [if_pos c]; exact h
  · rw [if_neg c]; exact k
theorem quit_lcR (cond : A → Rt Bool) (elt : A → Rt V) : ∀ xs, Quit (lcR cond elt xs)
  | [] => quit_ok
  | x :: xs => quit_bind (quit_noE _) fun b => quit_if (quit_bind (quit_noE _) fun y => quit_bind (quit_lcR cond elt xs) fun _ => quit_ok) (quit_lcR cond elt xs)
theorem quit_mapT (elt : A → Tp → Rt (V × Tp)) : ∀ xs T, Quit (mapT elt xs T)
  | [], T => quit_ok
  | x :: xs, T => quit_bind (quit_noE _) fun y => quit_bind (quit_mapT elt xs _) fun _ => quit_ok
theorem h_lcF {cond : A → Rt Bool} {elt : A → Rt V} {z : List V → Rt B} (m : Mat p r) (hw : Wips p vs) (hi : Pur it r (xs.map e)) (hg : ∀ x, gg (e x) = some (ms x)) (hc : ∀ x r, Mat (setP (wipeP p vs) (ms x)) r → Sim ET ((c r T).bind Rs.ok) (cond x) (RBo T)) (hf : ∀ x r, Mat (setP (wipeP p vs) (ms x)) r → Sim ET ((dv (f r T)).bind Rs.ok) (elt x) (fun q v => q = (e' v, T))) (k : ∀ l, Sim E (K (.own (.lst (l.map e')), T)) (z l) R) : Sim E ((eLc vs it gg c f r T).bind K) ((lcR cond elt xs).bind z) R := by
  rw [eLc_ap, hi T, Rs.bind_ok]
  obtain ⟨r0, e0, m0⟩ := wipe_ok m hw
  rw [e0]
  show Sim E (((lcD gg c f (xs.map e) r0 T).bind _).bind K) _ R
  rw [Rs.assoc]
  refine Sim.bind (Sim.soft (E := E) (lc_sim hg hc hf m0 xs) (quit_lcR _ _ _)) (fun _ _ h => h) fun q l hq => ?_
  rw [show q = _ from hq]
  exact k l
theorem lcR_yes (elt : A → Rt V) : ∀ xs, lcR (fun _ => .ok true) elt xs = mapR elt xs
  | [] => rfl
  | x :: xs => by
    unfold lcR mapR
    rw [noE_ok, Rt.bind_ok, if_pos rfl, lcR_yes elt xs]
theorem h_lc {elt : A → Rt V} {z : List V → Rt B} (m : Mat p r) (hw : Wips p vs) (hi : Pur it r (xs.map e)) (hg : ∀ x, gg (e x) = some (ms x)) (hf : ∀ x r, Mat (setP (wipeP p vs) (ms x)) r → Sim ET ((dv (f r T)).bind Rs.ok) (elt x) (fun q v => q = (e' v, T))) (k : ∀ l, Sim E (K (.own (.lst (l.map e')), T)) (z l) R) : Sim E ((eLc vs it gg xYes f r T).bind K) ((mapR elt xs).bind z) R := by
  rw [← lcR_yes]
  exact h_lcF m hw hi hg (fun x r m => ⟨_, rfl, rfl⟩) hf k
theorem lcT_sim {elt : A → Tp → Rt (V × Tp)} {p' : Pat} (hg : ∀ x, gg (e x) = some (ms x)) (hf : ∀ x r T, Mat (setP p' (ms x)) r → Sim ET ((dv (f r T)).bind Rs.ok) (elt x T) (fun q v => q = (e' v.1, v.2))) (m : Mat p' r) : ∀ (xs : List A) (T : Tp), Sim ET (lcD gg xYes f (xs.map e) r T) (mapT elt xs T) (fun q l => q = (l.1.map e', l.2))
  | [], T => ⟨_, rfl, rfl⟩
  | x :: xs, T => by
    rw [List.map_cons]
    unfold lcD mapT
    rw [hg x]
    show Sim ET ((Pu.noX (dv (f (setE r (ms x)) T))).bind _) _ _
    have h2 := hf x _ T m.setP
    rw [bind_id] at h2
    refine Sim.bind (Sim.noX (E' := ET) h2) (fun _ _ h => h) fun q v hq => ?_
    rw [show q = _ from hq]
    refine Sim.bind (lcT_sim hg hf m xs v.2) (fun _ _ h => h) fun q l hq => ?_
    rw [show q = _ from hq]
    exact ⟨_, rfl, rfl⟩
theorem h_lcT {elt : A → Tp → Rt (V × Tp)} {z : List V × Tp → Rt B} (m : Mat p r) (hw : Wips p vs) (hi : Pur it r (xs.map e)) (hg : ∀ x, gg (e x) = some (ms x)) (hf : ∀ x r T, Mat (setP (wipeP p vs) (ms x)) r → Sim ET ((dv (f r T)).bind Rs.ok) (elt x T) (fun q v => q = (e' v.1, v.2))) (k : ∀ l : List V × Tp, Sim E (K (.own (.lst (l.1.map e')), l.2)) (z l) R) : Sim E ((eLc vs it gg xYes f r T).bind K) ((mapT elt xs T).bind z) R := by
  rw [eLc_ap, hi T, Rs.bind_ok]
  obtain ⟨r0, e0, m0⟩ := wipe_ok m hw
  rw [e0]
  show Sim E (((lcD gg xYes f (xs.map e) r0 T).bind _).bind K) _ R
  rw [Rs.assoc]
  refine Sim.bind (Sim.soft (E := E) (lcT_sim hg hf m0 xs T) (quit_mapT _ _ _)) (fun _ _ h => h) fun q l hq => ?_
  rw [show q = _ from hq]
  exact k l
/-- the end of an item -/
theorem e_fin {v : D} (hf : Pv f r v) {y : B} {R : D × Tp → B → Prop} (h : R (v, T) y) : Sim E ((dv (f r T)).bind Rs.ok) (.ok y) R := by
  rw [hf T]
  exact ⟨_, rfl, h⟩
theorem e_plug {k : DE} {f' : VD → DE} {y : Rt B} {R : D × Tp → B → Prop} (hp : Plug f k f' r) (h : Sim E ((k r T).bind fun q => (dv (f' q.1 r q.2)).bind Rs.ok) y R) : Sim E ((dv (f r T)).bind Rs.ok) y R := by
  have e := plug_dv hp T (Rs.ok (A := D × Tp)) (Rs.ok (A := D × Tp))
  simp only [bind_id] at e h ⊢
  rw [e]
  exact h
end
/-! loops -/
section
variable {A A1 B V S : Type} {E : EX} {R : A1 → B → Prop} {K : Fl × Tp → Rs A1} {r : Env} {T : Tp} {it : DI} {gg : DG} {w : DS} {xs : List A} {e : A → D} {ms : A → List (Nat × D)} {s0 : S} {P : S → Pat} {τ : S → Tp}
theorem forS_sim {yb : A → S → Rt S} (hg : ∀ x, gg (e x) = some (ms x)) (hb : ∀ x s r, Mat (setP (P s) (ms x)) r → Sim E ((w r (τ s)).bind Rs.ok) (yb x s) (RC P τ)) : ∀ (xs : List A) (s : S) (r : Env), Mat (P s) r → Sim E (forD gg w (xs.map e) r (τ s)) (forS xs s yb) (RL P τ)
  | [], s, r, m => ⟨_, rfl, r, rfl, m⟩
  | x :: xs, s, r, m => by
    rw [List.map_cons]
    unfold forD forS
    rw [hg x]
    show Sim E ((w (setE r (ms x)) (τ s)).bind _) _ _
    have h := hb x s _ m.setP
    rw [bind_id] at h
    refine Sim.bind h (fun _ _ h => h) fun q s' ⟨r', hq, m'⟩ => ?_
    rcases hq with rfl | rfl <;> exact forS_sim hg hb xs s' r' m'
theorem s_forS {yb : A → S → Rt S} {z : S → Rt B} (P : S → Pat) (τ : S → Tp) (s0 : S) (hT : τ s0 = T) (m : Mat (P s0) r) (hi : Pur it r (xs.map e)) (hg : ∀ x, gg (e x) = some (ms x)) (hb : ∀ x s r, Mat (setP (P s) (ms x)) r → Sim E ((w r (τ s)).bind Rs.ok) (yb x s) (RC P τ)) (k : ∀ s r, Mat (P s) r → Sim E (K (.nx r, τ s)) (z s) R) : Sim E ((sFor it gg w r T).bind K) ((forS xs s0 yb).bind z) R := by
  subst hT
  rw [sFor_ap, hi, Rs.bind_ok]
  refine Sim.bind (forS_sim hg hb xs s0 r m) (fun _ _ h => h) fun q s ⟨r', hq, m'⟩ => ?_
  rw [hq]
  exact k s r' m'
theorem forB_sim {yb : A → S → Rt (Bool × S)} (hg : ∀ x, gg (e x) = some (ms x)) (hb : ∀ x s r, Mat (setP (P s) (ms x)) r → Sim E ((w r (τ s)).bind Rs.ok) (yb x s) (RB P τ)) : ∀ (xs : List A) (s : S) (r : Env), Mat (P s) r → Sim E (forD gg w (xs.map e) r (τ s)) (forB xs s yb) (RL P τ)
  | [], s, r, m => ⟨_, rfl, r, rfl, m⟩
  | x :: xs, s, r, m => by
    rw [List.map_cons]
    unfold forD forB
    rw [hg x]
    show Sim E ((w (setE r (ms x)) (τ s)).bind _) _ _
    have h := hb x s _ m.setP
    rw [bind_id] at h
    refine Sim.bind h (fun _ _ h => h) fun q s' ⟨r', hq, m'⟩ => ?_
    rcases hq with ⟨hs, hq⟩ | ⟨hs, rfl⟩
    · rw [hs, if_neg (by decide)]
      rcases hq with rfl | rfl <;> exact forB_sim hg hb xs s'.2 r' m'
    · rw [hs, if_pos rfl]
      exact ⟨_, rfl, r', rfl, m'⟩
theorem s_forB {yb : A → S → Rt (Bool × S)} {z : S → Rt B} (P : S → Pat) (τ : S → Tp) (s0 : S) (hT : τ s0 = T) (m : Mat (P s0) r) (hi : Pur it r (xs.map e)) (hg : ∀ x, gg (e x) = some (ms x)) (hb : ∀ x s r, Mat (setP (P s) (ms x)) r → Sim E ((w r (τ s)).bind Rs.ok) (yb x s) (RB P τ)) (k : ∀ s r, Mat (P s) r → Sim E (K (.nx r, τ s)) (z s) R) : Sim E ((sFor it gg w r T).bind K) ((forB xs s0 yb).bind z) R := by
  subst hT
  rw [sFor_ap, hi, Rs.bind_ok]
  refine Sim.bind (forB_sim hg hb xs s0 r m) (fun _ _ h => h) fun q s ⟨r', hq, m'⟩ => ?_
  rw [hq]
  exact k s r' m'
def RS' (P : S → Pat) (τ : S → Tp) (mk : V → VD) (tv : V → Tp) : Fl × Tp → S ⊕ V → Prop := fun p s => match s with
  | .inl s => ∃ r, p = (.nx r, τ s) ∧ Mat (P s) r
  | .inr v => p = (.rt (mk v), tv v)
variable {mk : V → VD} {tv : V → Tp}
theorem forR_sim {yb : A → S → Rt (Lp S V)} (hg : ∀ x, gg (e x) = some (ms x)) (hb : ∀ x s r, Mat (setP (P s) (ms x)) r → Sim E ((w r (τ s)).bind Rs.ok) (yb x s) (RR P τ mk tv)) : ∀ (xs : List A) (s : S) (r : Env), Mat (P s) r → Sim E (forD gg w (xs.map e) r (τ s)) (forR xs s yb) (RS' P τ mk tv)
  | [], s, r, m => ⟨_, rfl, r, rfl, m⟩
  | x :: xs, s, r, m => by
    rw [List.map_cons]
    unfold forD forR
    rw [hg x]
    show Sim E ((w (setE r (ms x)) (τ s)).bind _) _ _
    have h := hb x s _ m.setP
    rw [bind_id] at h
    refine Sim.bind h (fun _ _ h => h) fun q s' hq => ?_
    cases s' with
    | nx s' =>
      obtain ⟨r', hq, m'⟩ := hq
      rcases hq with rfl | rfl <;> exact forR_sim hg hb xs s' r' m'
    | bk s' =>
      obtain ⟨r', rfl, m'⟩ := hq
      exact ⟨_, rfl, r', rfl, m'⟩
    | rt v =>
      have hq : q = _ := hq
      subst hq
      exact ⟨_, rfl, rfl⟩
theorem s_forR {yb : A → S → Rt (Lp S V)} {z : S ⊕ V → Rt B} (P : S → Pat) (τ : S → Tp) (s0 : S) (hT : τ s0 = T) (mk : V → VD) (tv : V → Tp) (m : Mat (P s0) r) (hi : Pur it r (xs.map e)) (hg : ∀ x, gg (e x) = some (ms x)) (hb : ∀ x s r, Mat (setP (P s) (ms x)) r → Sim E ((w r (τ s)).bind Rs.ok) (yb x s) (RR P τ mk tv)) (k : ∀ s r, Mat (P s) r → Sim E (K (.nx r, τ s)) (z (.inl s)) R) (kr : ∀ v, Sim E (K (.rt (mk v), tv v)) (z (.inr v)) R) : Sim E ((sFor it gg w r T).bind K) ((forR xs s0 yb).bind z) R := by
  subst hT
  rw [sFor_ap, hi, Rs.bind_ok]
  refine Sim.bind (forR_sim hg hb xs s0 r m) (fun _ _ h => h) fun q s hq => ?_
  cases s with
  | inl s =>
    obtain ⟨r', rfl, m'⟩ := hq
    exact k s r' m'
  | inr v =>
    rw [show q = _ from hq]
    exact kr v
/-- the ends of a body -/
theorem x_nx {s : S} (m : Mat (P s) r) (hT : τ s = T) : Sim E (Rs.ok (Fl.nx r, T)) (.ok s) (RC P τ) := ⟨_, rfl, r, .inl (by rw [hT]), m⟩
theorem x_nxL {s : S} (m : Mat (P s) r) (hT : τ s = T) : Sim E (Rs.ok (Fl.nx r, T)) (.ok s) (RL P τ) := ⟨_, rfl, r, by rw [hT], m⟩
theorem x_nxB {s : S} (m : Mat (P s) r) (hT : τ s = T) : Sim E (Rs.ok (Fl.nx r, T)) (.ok (false, s)) (RB P τ) := ⟨_, rfl, r, .inl ⟨rfl, .inl (by rw [hT])⟩, m⟩
theorem x_bkB {s : S} (m : Mat (P s) r) (hT : τ s = T) : Sim E (Rs.ok (Fl.bk r, T)) (.ok (true, s)) (RB P τ) := ⟨_, rfl, r, .inr ⟨rfl, by rw [hT]⟩, m⟩
theorem x_nxR {s : S} (m : Mat (P s) r) (hT : τ s = T) : Sim E (Rs.ok (Fl.nx r, T)) (.ok (.nx s)) (RR P τ mk tv) := ⟨_, rfl, r, .inl (by rw [hT]), m⟩
theorem x_rtR {v : V} {w : VD} (hw : mk v = w) (hT : tv v = T) : Sim E (Rs.ok (Fl.rt w, T)) (.ok (.rt v)) (RR P τ mk tv) := ⟨_, rfl, by rw [← hw, ← hT]; rfl⟩
/-- two ways that come together -/
theorem s_join {w : DS} {y : Rt S} {z : S → Rt B} (P : S → Pat) (τ : S → Tp) (h : Sim E ((w r T).bind Rs.ok) y (RL P τ)) (k : ∀ s r, Mat (P s) r → Sim E (K (.nx r, τ s)) (z s) R) : Sim E ((w r T).bind K) (y.bind z) R := by
  rw [bind_id] at h
  refine Sim.bind h (fun _ _ h => h) fun q s ⟨r', hq, m'⟩ => ?_
  rw [hq]
  exact k s r' m'
end
/-! things that change -/
section
variable {A A1 B V : Type} {E : EX} {R : A1 → B → Prop} {K : D × Env × Tp → Rs A1} {KS : Fl × Tp → Rs A1} {r : Env} {T : Tp} {p : Pat} {i j : Nat} {is : D → Bool} {mo : D → List D → Option (D × D)} {ga : DA} {f : DEm} {d x : D} {ds : List D} {w : Rt V} {z : V → Rt B} {dn xv : V → D} {y : Rt B}
theorem m_mut (m : Mat p r) (hi : p[i]? = some (.is (.own d))) (hs : is d = true) (hg : Pur ga r ds) (ho : PrimO (mo d ds) w (fun a => (dn a, xv a))) (hq : Quit w) (k : ∀ a r', Mat (p.set i (.is (.own (dn a)))) r' → Sim E (K (xv a, r', T)) (z a) R) : Sim E ((eMut i is mo ga r T).bind K) (w.bind z) R := by
  rw [eMut_ap, m.get hi, ownK_own, if_pos hs, hg T, Rs.bind_ok, Rs.assoc]
  refine ho.go hq fun a _ => ?_
  exact k a _ (m.set i _)
theorem plug_mut {k : DE} {ga' : VD → DA} (m : Mat p r) (hi : p[i]? = some (.is (.own d))) (hs : is d = true) (h : Plug ga k ga' r) : Plug (eMut i is mo ga) k (fun v => eMut i is mo (ga' v)) r := .mk fun T K => by
  simp only [eMut_ap, m.get hi, ownK_own, if_pos hs]
  exact (plug_ga h).eq T K
theorem s_dropM (h : Sim E ((f r T).bind fun q => KS (.nx q.2.1, q.2.2)) y R) : Sim E ((sDropM f r T).bind KS) y R := by
  rw [sDropM_ap, Rs.assoc]
  exact h
theorem s_setI {so : D → D → D → Option D} {fi fe : DE} {kk : D} (m : Mat p r) (hi : p[i]? = some (.is (.own d))) (he : Pv fe r x) (hk : Pd fi r kk) (ho : PrimO (so d kk x) w dn) (hq : Quit w) (k : ∀ a r', Mat (p.set i (.is (.own (dn a)))) r' → Sim E (KS (.nx r', T)) (z a) R) : Sim E ((sSetI i so fi fe r T).bind KS) (w.bind z) R := by
  rw [sSetI_ap, he T, Rs.bind_ok]
  show Sim E ((ownK _ r[i]?).bind KS) _ R
  rw [m.get hi, ownK_own]
  show Sim E (((dt (fi r T)).bind _).bind KS) _ R
  rw [hk T, Rs.bind_ok]
  show Sim E (((rO (so d kk x)).bind _).bind KS) _ R
  rw [Rs.assoc]
  refine ho.go hq fun a _ => ?_
  exact k a _ (m.set i _)
theorem plug_setE {so : D → D → D → Option D} {fi fe k : DE} {f' : VD → DE} (h : Plug fe k f' r) : Plug (sSetI i so fi fe) k (fun v => sSetI i so fi (f' v)) r := .mk fun T K => plug_dv h T _ K
theorem plug_setK {so : D → D → D → Option D} {fi fe k : DE} {f' : VD → DE} (m : Mat p r) (hi : p[i]? = some (.is (.own d))) (he : Pv fe r x) (h : Plug fi k f' r) : Plug (sSetI i so fi fe) k (fun v => sSetI i so (f' v) fe) r := .mk fun T K => by
  rw [sSetI_ap, he T, Rs.bind_ok]
  show ((ownK _ r[i]?).bind K) = _
  rw [m.get hi, ownK_own, plug_dt h T]
  congr 1
  funext q
  show _ = Rs.bind (sSetI i so (f' q.1) fe r q.2) K
  rw [sSetI_ap, he q.2, Rs.bind_ok, m.get hi, ownK_own]
/-- one part of a statement -/
theorem plug_asg {e k : DE} {f' : VD → DE} (h : Plug e k f' r) : Plug (sAsg i e) k (fun v => sAsg i (f' v)) r := .mk fun T K => by
  rw [sAsg_ap, Rs.assoc, h.eq T]
  congr 1
  funext q
  show _ = Rs.bind (sAsg i (f' q.1) r q.2) K
  rw [sAsg_ap, Rs.assoc]
theorem plug_ret {e k : DE} {f' : VD → DE} (h : Plug e k f' r) : Plug (sRet e) k (fun v => sRet (f' v)) r := .mk fun T K => by
  rw [sRet_ap, Rs.assoc, h.eq T]
  congr 1
  funext q
  show _ = Rs.bind (sRet (f' q.1) r q.2) K
  rw [sRet_ap, Rs.assoc]
theorem plug_aug {op : D → D → Rs VD} {e k : DE} {f' : VD → DE} (m : Mat p r) (hi : p[i]? = some (.is (.val d))) (h : Plug e k f' r) : Plug (sAug op i e) k (fun v => sAug op i (f' v)) r := .mk fun T K => by
  simp only [sAug_ap, m.get hi, augK_val]
  exact plug_dt h T _ K
end
section
variable {A B : Type} {E : EX} {r : Env} {T : Tp} {it : DI} {gg : DG} {w : DS} {R : A → B → Prop} {K : Fl × Tp → Rs A} {ga : DA} {ds : List D} {lo hi : Int}
/-- a range, its ends in bounds -/
noncomputable def rng (lo hi : Int) : Rt (List Int) := @ite _ (-8000000 ≤ lo ∧ lo ≤ 8000000 ∧ -8000000 ≤ hi ∧ hi ≤ 8000000) (Classical.propDecidable _) (.ok ((List.range (hi - lo).toNat).map fun (i : Nat) => lo + i)) .stuck
def rngL (lo hi : Int) : List Int := (List.range (hi - lo).toNat).map fun (i : Nat) => lo + i
theorem rngD_rngL : rngD lo (hi - lo).toNat = (rngL lo hi).map D.int := by
  unfold rngD rngL
  rw [List.map_map]
  rfl
def csti (ds : List D) : DI := fun _ T => .ok (ds, T)
theorem q_csti {ds : List D} : Pur (csti ds) r ds := fun _ => rfl
theorem h_rng {K : List D × Tp → Rs A} {z : List Int → Rt B} (hg : Pur ga r ds) (h : argR ds = .ok (lo, hi)) (k : ∀ xs, Sim E (K (xs.map D.int, T)) (z xs) R) : Sim E ((iRng ga r T).bind K) ((rng lo hi).bind z) R := by
  unfold rng
  by_cases hb : -8000000 ≤ lo ∧ lo ≤ 8000000 ∧ -8000000 ≤ hi ∧ hi ≤ 8000000
  · rw [if_pos hb, q_rng (a := .non) (b := .non) hg h hb T, rngD_rngL]
    exact k _
  · rw [if_neg hb]
    trivial
/-- a for over what it gives -/
theorem s_for1 {y : Rt B} (h : Sim E ((it r T).bind fun q => (sFor (csti q.1) gg w r q.2).bind K) y R) : Sim E ((sFor it gg w r T).bind K) y R := by
  rw [sFor_ap, Rs.assoc]
  exact h
theorem s_lc1 {K : VD × Tp → Rs A} {vs : List Nat} {c : DT} {f : DE} {y : Rt B} (h : Sim E ((it r T).bind fun q => (eLc vs (csti q.1) gg c f r q.2).bind K) y R) : Sim E ((eLc vs it gg c f r T).bind K) y R := by
  rw [eLc_ap, Rs.assoc]
  exact h
end
/-- a def -/
theorem t_run {n : Nat} {io : Bool} {g : DS} {ds : List D} {T : Tp} {B : Type} {y : Rt B} {R : VD × Tp → B → Prop} (h : ∀ r, Mat (patOf (env0 n io ds)) r → Sim ET ((g r T).bind endK) y R) : Sim ET (runD n io g ds T) y R := by
  rw [runD_ap]
  exact h _ (mat_of _)
end Pu
namespace Pu
open PySem L2
/-! # kinds of data, typed -/
abbrev eI : Int → D := D.int
abbrev eB : Bool → D := D.bl
abbrev eS : PySem.Str → D := D.str
abbrev eN : Unit → D := fun _ => .non
abbrev eD : D → D := fun d => d
def eO {A : Type} (e : A → D) : Option A → D
  | none => .non
  | some a => e a
@[simp] theorem eO_none {A : Type} (e : A → D) : eO e none = .non := rfl
@[simp] theorem eO_some {A : Type} (e : A → D) (a : A) : eO e (some a) = e a := rfl
abbrev eL {A : Type} (e : A → D) (xs : List A) : D := .lst (xs.map e)
abbrev eU {A : Type} (e : A → D) (xs : List A) : D := .tup (xs.map e)
abbrev eT (xs : List Int) : D := .tpl xs
abbrev eScr (xs : List Int) : D := .scr xs
abbrev e1 {A : Type} (a : A → D) (p : A) : D := .tup [a p]
abbrev e2 {A B : Type} (a : A → D) (b : B → D) (p : A × B) : D := .tup [a p.1, b p.2]
abbrev e3 {A B C : Type} (a : A → D) (b : B → D) (c : C → D) (p : A × B × C) : D := .tup [a p.1, b p.2.1, c p.2.2]
abbrev e4 {A B C X : Type} (a : A → D) (b : B → D) (c : C → D) (d : X → D) (p : A × B × C × X) : D := .tup [a p.1, b p.2.1, c p.2.2.1, d p.2.2.2]
abbrev e5 {A B C X Y : Type} (a : A → D) (b : B → D) (c : C → D) (d : X → D) (f : Y → D) (p : A × B × C × X × Y) : D := .tup [a p.1, b p.2.1, c p.2.2.1, d p.2.2.2.1, f p.2.2.2.2]
abbrev eK {A B : Type} (t : Bool) (e : A → D) (f : B → D) (kvs : List (A × B)) : D := .dct t (kvs.map fun p => (e p.1, f p.2))
/-! ## equal -/
def memB {A : Type} [DecidableEq A] (a : A) (xs : List A) : Bool := decide (a ∈ xs)
@[simp] theorem memB_iff {A : Type} [DecidableEq A] {a : A} {xs : List A} : memB a xs = true ↔ a ∈ xs := by simp [memB]
@[simp] theorem memB_no {A : Type} [DecidableEq A] {a : A} {xs : List A} : memB a xs = false ↔ a ∉ xs := by simp [memB]
section
variable {A B C X : Type} [DecidableEq A] [DecidableEq B] [DecidableEq C] [DecidableEq X] {n m : Nat} {e : A → D} {f : B → D} {g : C → D} {h : X → D}
theorem enc_str : Enc 0 eS := ⟨fun a => by simp, fun a b => by
  show PyData.eqv (.str a) (.str b) = _
  rw [PyData.eqv]
  by_cases q : a = b
  · subst q; simp
  · rw [decide_eq_false q]; simpa using q⟩
theorem enc_I : Enc 0 eI := enc_int
theorem q_eq (k : Enc n e) (a b : A) (hn : Nat.ble n 40 = true) : dEq (e a) (e b) = .ok (.val (.bl (decide (a = b)))) := dEq_enc k a b (Nat.le_of_ble_eq_true hn)
theorem q_ne (k : Enc n e) (a b : A) (hn : Nat.ble n 40 = true) : dNe (e a) (e b) = .ok (.val (.bl (!decide (a = b)))) := dNe_enc k a b (Nat.le_of_ble_eq_true hn)
theorem q_ninL' (k : Enc n e) (a : A) (xs : List A) (hn : Nat.ble n 39 = true) : dNinA (e a) (eL e xs) = .ok (.val (.bl (!decide (a ∈ xs)))) := dNinS_encL k a xs (Nat.le_of_ble_eq_true hn)
theorem q_ninL (k : Enc n e) (a : A) (xs : List A) (hn : Nat.ble n 39 = true) : dNinA (e a) (eL e xs) = .ok (.val (.bl (!memB a xs))) := q_ninL' k a xs hn
end
/-! ## less -/
structure Ord {A : Type} [DecidableEq A] (n : Nat) (e : A → D) (lt : A → A → Bool) : Prop where
  enc : Enc n e
  lt : ∀ a b, PySem.W.dataLt (py (e a)) (py (e b)) = lt a b
  al : ∀ a b, PySem.W.alike (py (e a)) (py (e b)) = true
def ltI (a b : Int) : Bool := decide (a < b)
def ltP {A B : Type} [DecidableEq A] (f : A → A → Bool) (g : B → B → Bool) (p q : A × B) : Bool := if p.1 = q.1 then g p.2 q.2 else f p.1 q.1
/-- in order -/
def srt {A : Type} (lt : A → A → Bool) (xs : List A) : List A := xs.mergeSort fun a b => !lt b a
section
variable {A : Type} {lt : A → A → Bool}
theorem srt_perm (xs : List A) : (srt lt xs).Perm xs := List.mergeSort_perm _ _
theorem srt_mem {xs : List A} {x : A} : x ∈ srt lt xs ↔ x ∈ xs := (srt_perm xs).mem_iff
@[simp] theorem srt_length (xs : List A) : (srt lt xs).length = xs.length := (srt_perm xs).length_eq
end
/-! ## operations that may fail -/
section
variable {A B : Type} {e : A → D} {f : B → D}
def idx (xs : List A) (i : Int) : Rt A := match atI xs i with
  | some a => .ok a
  | none => .stuck
theorem quit_idx {xs : List A} {i : Int} : Quit (idx xs i) := by
  unfold idx
  split
  · exact quit_ok
  · exact quit_stuck
theorem idx_ok {xs : List A} {i : Int} {a : A} (h : atI xs i = some a) : idx xs i = .ok a := by unfold idx; rw [h]
theorem idx_inv {xs : List A} {i : Int} {a : A} (h : idx xs i = .ok a) : atI xs i = some a := by
  unfold idx at h
  split at h
  · cases h; assumption
  · cases h
theorem p_idxL {xs : List A} {i : Int} : Prim (dIxA (eL e xs) (.int i)) (idx xs i) (fun a => .val (e a)) := fun a h => by
  show dIxA (.lst (xs.map e)) (.int i) = _
  rw [dIxA_l, atI_map, idx_inv h]
  rfl
theorem p_idxU {xs : List A} {i : Int} : Prim (dIxA (eU e xs) (.int i)) (idx xs i) (fun a => .val (e a)) := fun a h => by
  show dIxA (.tup (xs.map e)) (.int i) = _
  rw [dIxA_t, atI_map, idx_inv h]
  rfl
theorem p_idxT {xs : List Int} {i : Int} : Prim (dIxA (.tpl xs) (.int i)) (idx xs i) (fun a => .val (.int a)) := fun a h => by
  rw [dIxA_p, idx_inv h]
  rfl
def cat (xs ys : List A) : Rt (List A) := if xs.length + ys.length ≤ 16000000 then .ok (xs ++ ys) else .stuck
theorem quit_cat {xs ys : List A} : Quit (cat xs ys) := quit_if quit_ok quit_stuck
theorem cat_ok {xs ys : List A} (h : xs.length + ys.length ≤ 16000000) : cat xs ys = .ok (xs ++ ys) := if_pos h
theorem p_catL {xs ys : List A} : Prim (dAddA (eL e xs) (eL e ys)) (cat xs ys) (fun a => .own (eL e a)) := fun a h => by
  unfold cat at h
  split at h
  · rename_i c
    cases h
    show dAddI (.lst _) (.lst _) = _
    rw [dAddI_ll, if_pos (by simpa using c), ← List.map_append]
  · cases h
theorem p_catU {xs ys : List A} : Prim (dAddA (eU e xs) (eU e ys)) (cat xs ys) (fun a => .val (eU e a)) := fun a h => by
  unfold cat at h
  split at h
  · rename_i c
    cases h
    show dAddI (.tup _) (.tup _) = _
    rw [dAddI_tt, if_pos (by simpa using c), ← List.map_append]
  · cases h
def push (xs : List A) (x : A) : Rt (List A) := if xs.length < 16000000 then .ok (xs ++ [x]) else .stuck
theorem quit_push {xs : List A} {x : A} : Quit (push xs x) := quit_if quit_ok quit_stuck
theorem push_ok {xs : List A} {x : A} (h : xs.length < 16000000) : push xs x = .ok (xs ++ [x]) := if_pos h
theorem p_push {xs : List A} {x : A} : PrimO (mAppend (eL e xs) [e x]) (push xs x) (fun l => (eL e l, .non)) := fun l h => by
  unfold push at h
  split at h
  · rename_i c
    cases h
    show mAppend (.lst _) _ = _
    rw [mAppend_l, if_pos (by simpa using c)]
    show _ = some (D.lst ((xs ++ [x]).map e), D.non)
    rw [List.map_append]
    rfl
  · cases h
def ext (xs ys : List A) : Rt (List A) := if xs.length + ys.length ≤ 16000000 then .ok (xs ++ ys) else .stuck
def setAt (xs : List A) (i : Int) (x : A) : Rt (List A) := match ixN xs.length i with
  | some j => .ok (xs.set j x)
  | none => .stuck
theorem quit_setAt {xs : List A} {i : Int} {x : A} : Quit (setAt xs i x) := by
  unfold setAt
  split
  · exact quit_ok
  · exact quit_stuck
theorem p_setAt {xs : List A} {i : Int} {x : A} : PrimO (setA (eL e xs) (.int i) (e x)) (setAt xs i x) (fun l => eL e l) := fun l h => by
  unfold setAt at h
  split at h
  · rename_i j c
    cases h
    show setA (.lst _) _ _ = _
    rw [setA_l, List.length_map, c]
    show some (D.lst ((xs.map e).set j (e x))) = some (D.lst ((xs.set j x).map e))
    rw [List.map_set]
  · cases h
def insAt (xs : List A) (i : Int) (x : A) : Rt (List A) := if xs.length < 16000000 ∧ 0 ≤ i ∧ i < 2 ^ 63 then .ok (xs.take i.toNat ++ [x] ++ xs.drop i.toNat) else .stuck
theorem quit_insAt {xs : List A} {i : Int} {x : A} : Quit (insAt xs i x) := quit_if quit_ok quit_stuck
theorem p_insAt {xs : List A} {i : Int} {x : A} : PrimO (mInsert (eL e xs) [.int i, e x]) (insAt xs i x) (fun l => (eL e l, .non)) := fun l h => by
  unfold insAt at h
  split at h
  · rename_i c
    cases h
    show (if (xs.map e).length < 16000000 ∧ 0 ≤ i ∧ i < 2 ^ 63 then some (D.lst ((xs.map e).take i.toNat ++ [e x] ++ (xs.map e).drop i.toNat), D.non) else none) = _
    rw [if_pos (by simpa using c)]
    simp [List.map_take, List.map_drop]
  · cases h
def ipow (i j : Int) : Rt Int := if 0 ≤ j ∧ j ≤ 1000000 ∧ i.natAbs < 2 ^ 64 then .ok (i ^ j.toNat) else .stuck
abbrev mI : Int → VD := fun a => .val (.int a)
theorem quit_ipow {i j : Int} : Quit (ipow i j) := quit_if quit_ok quit_stuck
theorem prim_if {V : Type} {p : Prop} [Decidable p] {x : VD} {a : V} {mk : V → VD} (h : x = mk a) : Prim (if p then Rs.ok x else .stuck) (if p then .ok a else .stuck) mk := fun b q => by
  by_cases c : p
  · rw [if_pos c] at q ⊢
    cases q
    rw [h]
  · rw [if_neg c] at q
    cases q
theorem p_ipow {i j : Int} : Prim (dPow (.int i) (.int j)) (ipow i j) mI := prim_if rfl
def repR (xs : List A) (k : Int) : Rt (List A) := if xs ≠ [] ∧ xs.length ≤ 1000 ∧ -(2 ^ 62) < k ∧ k ≤ 1000 then .ok (repA xs k) else .stuck
theorem quit_repR {xs : List A} {k : Int} : Quit (repR xs k) := by
  unfold repR
  split
  · exact quit_ok
  · exact quit_stuck
theorem repA_map (xs : List A) (k : Int) : repA (xs.map e) k = (repA xs k).map e := by
  unfold repA
  rw [List.map_flatten, List.map_replicate]
theorem p_repU {xs : List A} {k : Int} : Prim (dMulA (eU e xs) (.int k)) (repR xs k) (fun l => .val (eU e l)) := fun l h => by
  unfold repR at h
  split at h
  · rename_i c
    cases h
    show dMulA (.tup _) _ = _
    rw [dMulA_t, if_pos ⟨fun z => c.1 (List.map_eq_nil_iff.mp z), by simpa using c.2⟩, repA_map]
  · cases h
/-! that never fail -/
theorem q_lenL {xs : List A} : bLenA [eL e xs] = .ok (.val (.int xs.length)) := by
  show bLenA [.lst _] = _
  rw [bLenA_l, List.length_map]
theorem q_lenU {xs : List A} : bLenA [eU e xs] = .ok (.val (.int xs.length)) := by
  show bLenA [.tup _] = _
  rw [bLenA_t, List.length_map]
theorem q_sumL {xs : List Int} : bSumA [eL eI xs] = .ok (.val (.int xs.sum)) := by
  show bSum [.lst _] = _
  rw [bSum_l, ints_map]
  rfl
theorem bls_map : ∀ xs : List Bool, bls (xs.map D.bl) = some xs
  | [] => rfl
  | x :: xs => by rw [List.map_cons, bools_cons, bls_map xs]; rfl
theorem q_allL {xs : List Bool} : bAll [eL eB xs] = .ok (.val (.bl (xs.all id))) := by
  show bAll [.lst _] = _
  rw [bAll_l, bls_map]
  rfl
theorem cutA_map (g : A → B) (xs : List A) (lo hi : Option Int) : cutA (xs.map g) lo hi = (cutA xs lo hi).map g := by
  unfold cutA
  rw [List.map_take, List.map_drop, List.length_map]
theorem q_cutU {xs : List A} {lo hi : Option Int} : dSl (eU e xs) lo hi = .ok (.val (eU e (cutA xs lo hi))) := by
  show dSl (.tup _) _ _ = _
  rw [dSl_t, cutA_map]
theorem q_tplL {xs : List Int} : bTpl [eL eI xs] = .ok (.val (.tpl xs)) := by
  show bTpl [.lst _] = _
  rw [bTpl_l, ints_map]
  rfl
theorem q_isN {o : Option A} (h : ∀ a, e a ≠ .non) : dIsN (eO e o) .non = .ok (.val (.bl o.isNone)) := by
  cases o with
  | none => rfl
  | some a =>
    show dIsN (e a) .non = _
    have := h a
    cases q : e a <;> first | exact absurd q this | rfl
theorem q_isnN {o : Option A} (h : ∀ a, e a ≠ .non) : dIsnN (eO e o) .non = .ok (.val (.bl o.isSome)) := by
  cases o with
  | none => rfl
  | some a =>
    show dIsnN (e a) .non = _
    have := h a
    cases q : e a <;> first | exact absurd q this | rfl
/-! index -/
def idxOf (xs : List Int) (k : Int) : Rt Int := match idxI k xs with
  | some j => .ok j
  | none => .stuck
theorem quit_idxOf {xs : List Int} {k : Int} : Quit (idxOf xs k) := by
  unfold idxOf
  split
  · exact quit_ok
  · exact quit_stuck
/-! enumerate, zip -/
def enuL : Nat → List A → List (Int × A)
  | _, [] => []
  | k, x :: xs => ((k : Int), x) :: enuL (k + 1) xs
theorem enuD_map : ∀ (k : Nat) (xs : List A), enumD k (xs.map e) = (enuL k xs).map (e2 eI e)
  | _, [] => rfl
  | k, x :: xs => by
    show D.tup [.int k, e x] :: enumD (k + 1) (xs.map e) = _
    rw [enuD_map (k + 1) xs]
    rfl
theorem enuL_len : ∀ (k : Nat) (xs : List A), (enuL k xs).length = xs.length
  | _, [] => rfl
  | k, x :: xs => by simp [enuL, enuL_len (k + 1) xs]
theorem enuL_get : ∀ (k i : Nat) (xs : List A), (enuL k xs)[i]? = xs[i]?.map fun x => (((k + i : Nat) : Int), x)
  | _, _, [] => rfl
  | k, 0, x :: xs => rfl
  | k, i + 1, x :: xs => by
    have := enuL_get (k + 1) i xs
    rw [show k + 1 + i = k + (i + 1) by omega] at this
    simpa [enuL] using this
theorem q_enI {g : DE} {r : Env} {d : D} {xs : List A} (hf : Pv g r d) (hs : seqD d = .ok (xs.map e)) : Pur (iEnu g) r ((enuL 0 xs).map (e2 eI e)) := by
  rw [← enuD_map]
  exact q_enuI hf hs
theorem q_rngL {ga : DA} {r : Env} {ds : List D} {lo hi : Int} (hg : Pur ga r ds) (h : argR ds = .ok (lo, hi)) (hb : decide (-8000000 ≤ lo ∧ lo ≤ 8000000 ∧ -8000000 ≤ hi ∧ hi ≤ 8000000) = true) : Pur (iRng ga) r ((rngL lo hi).map D.int) := by
  rw [← rngD_rngL]
  exact q_rng (a := .non) (b := .non) hg h (of_decide_eq_true hb)
/-! dicts, as rows of pairs -/
def aget [DecidableEq A] (kvs : List (A × B)) (k : A) : Option B := (kvs.find? fun p => decide (p.1 = k)).map (·.2)
def ahas [DecidableEq A] (kvs : List (A × B)) (k : A) : Bool := kvs.any fun p => decide (p.1 = k)
def akeys (kvs : List (A × B)) : List A := kvs.map (·.1)
/-- keys of a kind -/
structure KeyE [DecidableEq A] (t : Bool) (e : A → D) : Prop where
  inj : ∀ a b, e a = e b → a = b
  ok : ∀ a, KeyOk t (e a)
variable [DecidableEq A] {t : Bool}
theorem any_map (h : KeyE t e) (k : A) : ∀ kvs : List (A × B), ((kvs.map fun p => (e p.1, f p.2)).any fun p => @decide (p.1 = e k) (Classical.propDecidable _)) = ahas kvs k
  | [] => rfl
  | p :: kvs => by
    have ih := any_map h k kvs
    unfold ahas at *
    rw [List.map_cons, List.any_cons, List.any_cons, ih]
    by_cases q : p.1 = k
    · simp [q]
    · have q2 : ¬ e p.1 = e k := fun z => q (h.inj _ _ z)
      simp [q, q2]
theorem ahas_get {kvs : List (A × B)} {k : A} : ahas kvs k = (aget kvs k).isSome := by
  unfold ahas aget
  induction kvs with
  | nil => rfl
  | cons p kvs ih =>
    rw [List.any_cons, List.find?_cons]
    by_cases q : p.1 = k
    · simp [q]
    · simp only [q, decide_false]
      simpa using ih
end
theorem p_idxOfT {xs : List Int} {k : Int} : Prim (dIdx (.tpl xs) (.int k)) (idxOf xs k) mI := fun a h => by
  unfold idxOf at h
  split at h
  · rename_i j c
    cases h
    unfold dIdx
    simp [c]
  · cases h
end Pu
namespace Pu
open PySem L2
/-! # more rules for what the printer writes -/
def lete {A B : Type} (a : A) (f : A → Rt B) : Rt B := f a
@[simp] theorem lete_eq {A B : Type} (a : A) (f : A → Rt B) : lete a f = f a := rfl
section
variable {A B V W : Type} {E : EX} {K : Fl × Tp → Rs A} {y : Rt B} {R : A → B → Prop} {r : Env} {T : Tp} {p : Pat} {f g : DS} {e : DE} {i : Nat} {d : D} {a : V} {z : V → Rt B}
theorem s_asgL (m : Mat p r) (mk : V → VD) (hf : Pur e r (mk a)) (hv : ∀ x (r : Env), put r i (mk x) = .ok (r.set i (some (mk x)))) (k : ∀ x r', Mat (p.set i (.is (mk x))) r' → Sim E (K (.nx r', T)) (z x) R) : Sim E ((sAsg i e r T).bind K) (lete a z) R := s_asg m hf (hv a) (k a)
theorem s_augL {op : D → D → Rs VD} {b : D} (m : Mat p r) (mk : V → VD) (hi : p[i]? = some (.is (.val d))) (hf : Pd e r b) (ho : op d b = .ok (mk a)) (hv : ∀ x (r : Env), put r i (mk x) = .ok (r.set i (some (mk x)))) (k : ∀ x r', Mat (p.set i (.is (mk x))) r' → Sim E (K (.nx r', T)) (z x) R) : Sim E ((sAug op i e r T).bind K) (lete a z) R := s_aug m hi hf ho (hv a) (k a)
theorem s_tfld {cs : List PySem.Str} {f c : PySem.Str} {fs fs' : List (PySem.Str × D)} {e : DE} (ht : r[i]? = some (some .tape)) (he : Pv e r d) (hc : cs.contains c = true) (hl : Nat.blt fs.length 1000 = true) (hp : putFD f d fs = fs') (k : Sim E (K (.nx r, some (.ins c fs'))) y R) : Sim E ((sTfld i cs f e r (some (.ins c fs))).bind K) y R := by
  unfold sTfld
  rw [he, Rs.bind_ok, ht]
  show Sim E (Rs.bind (if cs.contains c ∧ fs.length < 1000 then _ else _) K) y R
  rw [if_pos ⟨hc, by simpa [Nat.blt_eq] using hl⟩]
  subst hp
  exact k
theorem plug_tfld {cs : List PySem.Str} {f : PySem.Str} {e k : DE} {f' : VD → DE} (h : Plug e k f' r) : Plug (sTfld i cs f e) k (fun v => sTfld i cs f (f' v)) r := .mk fun T K => plug_dv h T _ K
end
theorem law_sim {g : DS} {r : Env} {T : Tp} {y : Rt (Bool × Tp)} (h : Sim ET ((g r T).bind endK) y (RT (fun x => VD.val (eB x)))) (k : wr y fun b => b.1 = true) : wp (g r T) fun p => p.1 = .rt (.val (.bl true)) := by
  obtain ⟨b, rfl, hb⟩ := k
  obtain ⟨a, e, q⟩ := h
  cases hg : g r T with
  | stuck => rw [hg] at e; cases e
  | exc c fs t r => rw [hg] at e; cases e
  | ok p =>
    rw [hg] at e
    refine ⟨p, rfl, ?_⟩
    obtain ⟨fl, T'⟩ := p
    have q : a = _ := q
    cases fl with
    | nx r =>
      have e : Rs.ok (VD.val D.non, T') = Rs.ok a := e
      cases e
      cases q
    | rt v =>
      have e : Rs.ok (v, T') = Rs.ok a := e
      cases e
      cases q
      show Fl.rt _ = _
      rw [hb]
    | bk r => cases e
    | ct r => cases e
theorem pick_sim {M : DM} (n : Int) (T : Tp) (p : Int → Tp → Rt (Int × Tp)) (h : p n T = match M [.int n] T with
  | .ok (.val (.int i), T) => .ok (i, T)
  | _ => .stuck) : Sim ET (M [eI n] T) (p n T) (RT (fun x => VD.val (eI x))) := by
  rw [h]
  show Sim ET (M [.int n] T) _ _
  split
  · rename_i i T' e
    rw [e]
    exact ⟨_, rfl, rfl⟩
  · trivial
/-! kinds -/
section
variable {A B C X : Type} {e : A → D} {f : B → D} {g : C → D} {h : X → D}
theorem Ord.up [DecidableEq A] {n m : Nat} {lt : A → A → Bool} (k : Ord n e lt) (h : n ≤ m) : Ord m e lt := ⟨k.enc.up h, k.lt, k.al⟩
end
def catT (xs ys : List Int) : Rt (List Int) := if xs ≠ [] ∧ ys ≠ [] ∧ xs.length + ys.length ≤ 16000000 then .ok (xs ++ ys) else .stuck
theorem quit_catT {xs ys : List Int} : Quit (catT xs ys) := quit_if quit_ok quit_stuck
theorem nmap {A B : Type} {f : A → B} {xs : List A} (h : xs ≠ []) : xs.map f ≠ [] := fun w => h (List.map_eq_nil_iff.mp w)
theorem p_catTU {xs ys : List Int} : Prim (dAddA (eT xs) (eU eI ys)) (catT xs ys) (fun a => .val (eU eI a)) := fun a h => by
  unfold catT at h
  split at h
  · rename_i c
    cases h
    show (if xs ≠ [] ∧ ys.map D.int ≠ [] ∧ xs.length + (ys.map D.int).length ≤ 16000000 then Rs.ok (VD.val (D.tup (xs.map D.int ++ ys.map D.int))) else .stuck) = _
    rw [if_pos ⟨c.1, nmap c.2.1, by simpa using c.2.2⟩, ← List.map_append]
  · cases h
end Pu
namespace Pu
open PySem L2
/-! # plain: loops by what is done so far -/
section
variable {A B S : Type}
theorem forS_ind {f : A → S → Rt S} (F : List A → S) : ∀ (xs pre : List A), (∀ p x q, pre ++ xs = p ++ x :: q → pre.length ≤ p.length → f x (F p) = .ok (F (p ++ [x]))) → forS xs (F pre) f = .ok (F (pre ++ xs))
  | [], pre, _ => by rw [List.append_nil]; rfl
  | x :: xs, pre, h => by
    unfold forS
    rw [h pre x xs rfl (Nat.le_refl _), Rt.bind_ok]
    have := forS_ind F xs (pre ++ [x]) fun p y q e hl => h p y q (by rw [← e]; simp) (by simp at hl; omega)
    rw [this]
    simp
/-- a for whose state is told by the items so far -/
theorem forS_pre {f : A → S → Rt S} (F : List A → S) (xs : List A) {s0 : S} (h0 : F [] = s0) (h : ∀ p x q, xs = p ++ x :: q → f x (F p) = .ok (F (p ++ [x]))) : forS xs s0 f = .ok (F xs) := by
  subst h0
  have := forS_ind F xs [] fun p x q e _ => h p x q (by simpa using e)
  simpa using this
theorem mem_pre {xs p q : List A} {x : A} (e : xs = p ++ x :: q) : x ∈ xs := by rw [e]; simp
theorem len_pre {xs p q : List A} {x : A} (e : xs = p ++ x :: q) : p.length < xs.length := by rw [e]; simp
theorem filter_len {g : A → Bool} {xs : List A} : (xs.filter g).length ≤ xs.length := List.length_filter_le _ _
theorem rng_ok {a b : Int} (h : -8000000 ≤ a ∧ a ≤ 8000000 ∧ -8000000 ≤ b ∧ b ≤ 8000000) : rng a b = .ok (rngL a b) := by
  unfold rng
  rw [if_pos h]
  rfl
@[simp] theorem rngL_len (a b : Int) : (rngL a b).length = (b - a).toNat := by simp [rngL]
theorem rngL_get {a b : Int} {i : Nat} {x : Int} (h : (rngL a b)[i]? = some x) : x = a + i ∧ a ≤ x ∧ x < b := by
  unfold rngL at h
  rw [List.getElem?_map] at h
  obtain ⟨j, hj, rfl⟩ := Option.map_eq_some_iff.mp h
  obtain ⟨hl, e⟩ := List.getElem?_eq_some_iff.mp hj
  rw [List.getElem_range] at e
  subst e
  rw [List.length_range] at hl
  omega
theorem rngL_mem {a b x : Int} : x ∈ rngL a b ↔ a ≤ x ∧ x < b := by
  unfold rngL
  rw [List.mem_map]
  constructor
  · rintro ⟨i, hi, rfl⟩
    rw [List.mem_range] at hi
    omega
  · rintro ⟨h1, h2⟩
    exact ⟨(x - a).toNat, List.mem_range.mpr (by omega), by omega⟩
theorem idx_some {xs : List A} {i : Int} (h0 : 0 ≤ i) (h1 : i < xs.length) : idx xs i = .ok (xs[i.toNat]'(by omega)) := idx_ok (atI_some h0 h1)
theorem idx_vl {ns : List Int} {k : Int} (h : 0 ≤ k ∧ k < ns.length) : idx ns k = .ok (vl ns k) := idx_ok (atI_vl h)
/-- each once, as it first comes -/
def dd [DecidableEq A] (xs : List A) : List A := xs.foldl (fun acc x => if x ∈ acc then acc else acc ++ [x]) []
theorem dd_snoc [DecidableEq A] (xs : List A) (x : A) : dd (xs ++ [x]) = if x ∈ dd xs then dd xs else dd xs ++ [x] := by
  unfold dd
  rw [List.foldl_append]
  rfl
theorem snoc_ind' {P : List A → Prop} (h0 : P []) (hs : ∀ xs x, P xs → P (xs ++ [x])) (xs : List A) : P xs := by
  have : ∀ n (xs : List A), xs.length = n → P xs := fun n => by
    induction n with
    | zero => intro xs h; rw [List.eq_nil_of_length_eq_zero h]; exact h0
    | succ n ih =>
      intro xs h
      have hne : xs ≠ [] := fun e => by rw [e] at h; cases h
      rw [← List.dropLast_concat_getLast hne]
      exact hs _ _ (ih _ (by rw [List.length_dropLast]; omega))
  exact this _ xs rfl
theorem dd_spec [DecidableEq A] (xs : List A) : (dd xs).Nodup ∧ (∀ x, x ∈ dd xs ↔ x ∈ xs) ∧ (dd xs).length ≤ xs.length := by
  refine snoc_ind' (P := fun xs : List A => (dd xs).Nodup ∧ (∀ x, x ∈ dd xs ↔ x ∈ xs) ∧ (dd xs).length ≤ xs.length) ?_ ?_ xs
  · exact ⟨List.nodup_nil, fun x => Iff.rfl, Nat.le_refl _⟩
  · rintro xs x ⟨h1, h2, h3⟩
    rw [dd_snoc]
    by_cases c : x ∈ dd xs
    · rw [if_pos c]
      refine ⟨h1, fun y => ?_, by simp; omega⟩
      rw [h2, List.mem_append, List.mem_singleton]
      constructor
      · exact .inl
      · rintro (z | rfl)
        · exact z
        · exact (h2 y).mp c
    · rw [if_neg c]
      refine ⟨List.nodup_append.mpr ⟨h1, by simp, fun a ha b hb e => ?_⟩, fun y => ?_, by simp; omega⟩
      · rw [List.mem_singleton.mp hb] at e
        subst e
        exact c ha
      · rw [List.mem_append, List.mem_append, h2]
end
theorem wr_b {A B : Type} {x : Rt B} {f : B → Rt A} {P : B → Prop} {Q : A → Prop} (h : wr x P) (k : ∀ b, P b → wr (f b) Q) : wr (x.bind f) Q := (wr_bind x f).mpr (wr_imp h k)
theorem wr_mapT_mem {A B : Type} {f : A → Tp → Rt (B × Tp)} (It : Tp → Prop) (P : B → Prop) (xs : List A) (T : Tp) (ht : It T) (h : ∀ x ∈ xs, ∀ T, It T → wr (f x T) fun y => P y.1 ∧ It y.2) : wr (mapT f xs T) fun p => It p.2 ∧ p.1.length = xs.length ∧ ∀ y ∈ p.1, P y := by
  refine wr_imp (wr_mapT_all It (fun _ y => P y) xs T ht h) fun p ⟨q1, q2, q3⟩ => ⟨q1, q2, fun y hy => ?_⟩
  obtain ⟨i, hi⟩ := List.getElem?_of_mem hy
  have hl := (List.getElem?_eq_some_iff.mp hi).1
  exact q3 i _ y (List.getElem?_eq_getElem (by omega)) hi
/-! ## loops drawn -/
def LpsM (m l : Int) (ns : List Int) : Prop := 0 < ns.length ∧ (ns.length : Int) ≤ m ∧ (∀ x ∈ ns, 1 ≤ x ∧ x ≤ l) ∧ 1 ∈ ns
theorem LpsM.lps {m l : Int} {ns : List Int} (h : LpsM m l ns) (hm : m ≤ 8) (hl : l ≤ 40) : Lps ns := ⟨h.1, by have := h.2.1; omega, fun x hx => by have := h.2.2.1 x hx; omega⟩
/-! ## rows -/
structure RowW (ns row : List Int) (w : Int) : Prop where
  ok : RowOk ns row
  sum : (row.map (vl ns)).sum = w
theorem vl_pos {ns : List Int} (h : Lps ns) {k : Int} (hk : 0 ≤ k ∧ k < ns.length) : 1 ≤ vl ns k ∧ vl ns k ≤ 40 := by
  unfold vl
  exact h.2.2 _ (nth_mem (by omega))
theorem row_len {ns : List Int} (h : Lps ns) : ∀ {row : List Int}, RowOk ns row → (row.length : Int) ≤ (row.map (vl ns)).sum
  | [], _ => by simp
  | k :: row, hr => by
    have a := vl_pos h (hr k List.mem_cons_self)
    have b := row_len h (row := row) fun x hx => hr x (List.mem_cons_of_mem _ hx)
    simp only [List.length_cons, List.map_cons, List.sum_cons]
    omega
theorem idx_one' {ns : List Int} (h : 1 ∈ ns) : ∃ j : Int, idxOf ns 1 = .ok j ∧ (0 ≤ j ∧ j < ns.length) ∧ vl ns j = 1 := by
  obtain ⟨j, e, hj⟩ := idxI_mem h
  obtain ⟨a, _⟩ := idxI_get e
  refine ⟨(j : Nat), by unfold idxOf; rw [e], by omega, ?_⟩
  unfold vl
  rw [Int.toNat_natCast, nth_get hj]
  exact (List.getElem?_eq_some_iff.mp a).2
theorem rowOk_app {ns r s : List Int} (h : RowOk ns r) (k : RowOk ns s) : RowOk ns (r ++ s) := fun x hx => by
  rcases List.mem_append.mp hx with z | z
  · exact h x z
  · exact k x z
theorem rowOk_one {ns : List Int} {k : Int} (h : 0 ≤ k ∧ k < ns.length) : RowOk ns [k] := fun x hx => by rw [List.mem_singleton.mp hx]; exact h
/-- a table's loops and rows -/
structure Tab (ns : List Int) (rows : List (List Int)) : Prop where
  lps : Lps ns
  pos : 1 ≤ rows.length
  len : rows.length ≤ 60
  row : ∀ (i : Nat) (r : List Int), rows[i]? = some r → RowW ns r (i + 1)
theorem Tab.rw {ns : List Int} {rows : List (List Int)} (h : Tab ns rows) {r : List Int} (hr : r ∈ rows) : ∃ w : Int, 1 ≤ w ∧ w ≤ 60 ∧ RowW ns r w := by
  obtain ⟨i, hi⟩ := List.getElem?_of_mem hr
  have hl := (List.getElem?_eq_some_iff.mp hi).1
  have := h.len
  exact ⟨i + 1, by omega, by omega, h.row i r hi⟩
theorem Tab.take {ns : List Int} {rows : List (List Int)} (h : Tab ns rows) {n : Nat} (h1 : 1 ≤ n) : Tab ns (rows.take n) := by
  have a := h.pos
  have b := h.len
  refine ⟨h.lps, by rw [List.length_take]; omega, by rw [List.length_take]; omega, fun i r hr => h.row i r ?_⟩
  rw [List.getElem?_take] at hr
  split at hr
  · exact hr
  · cases hr
/-! ## entries -/
abbrev Ent := Int × Int × Int
def ents (ns : List Int) (rows : List (List Int)) : List Ent := rows.flatMap (entR ns)
theorem entL_snoc (f : Int → Int) : ∀ (r : List Int) (g l : Int) (k : Int), entL f g l (r ++ [k]) = entL f g l r ++ [(k, g + (r.map f).sum, l - (r.map f).sum)]
  | [], g, l, k => by simp [entL]
  | x :: r, g, l, k => by
    have := entL_snoc f r (g + f x) (l - f x) k
    simp only [List.cons_append, entL, this, List.map_cons, List.sum_cons]
    rw [show g + f x + (r.map f).sum = g + (f x + (r.map f).sum) by omega, show l - f x - (r.map f).sum = l - (f x + (r.map f).sum) by omega]
abbrev ltE : Ent → Ent → Bool := ltP ltI (ltP ltI ltI)
abbrev ltEE : Ent × Ent → Ent × Ent → Bool := ltP ltE ltE
/-- the entries of a table, in order, each once -/
def entS (ns : List Int) (rows : List (List Int)) : List Ent := srt ltE (dd (ents ns rows))
theorem entS_mem {ns : List Int} {rows : List (List Int)} {e : Ent} : e ∈ entS ns rows ↔ e ∈ ents ns rows := by
  unfold entS
  rw [srt_mem]
  exact (dd_spec _).2.1 e
/-- the pairs that clash -/
def isC (c : Int) (a b : Ent) : Bool := decide (a.1 = b.1) && decide (a.2.2 < b.2.2) && cl c a b
theorem isC_hit {c : Int} {a b : Ent} : isC c a b = hit c a b := by
  unfold isC hit cl
  rw [Bool.eq_iff_iff]
  simp only [Bool.and_eq_true, decide_eq_true_eq]
  constructor
  · rintro ⟨⟨h1, _⟩, h3⟩
    exact ⟨h1, h3⟩
  · rintro ⟨h1, h2, h3, h4⟩
    exact ⟨⟨h1, by omega⟩, h2, h3, h4⟩
def prC (c : Int) (es : List Ent) : List (Ent × Ent) := es.flatMap fun a => (es.filter (isC c a)).map fun b => (a, b)
theorem prC_mem {c : Int} {es : List Ent} {p : Ent × Ent} : p ∈ prC c es ↔ p.1 ∈ es ∧ p.2 ∈ es ∧ hit c p.1 p.2 = true := by
  unfold prC
  rw [List.mem_flatMap]
  constructor
  · rintro ⟨a, ha, h⟩
    obtain ⟨b, hb, rfl⟩ := List.mem_map.mp h
    obtain ⟨hb, hc⟩ := List.mem_filter.mp hb
    exact ⟨ha, hb, by rw [← isC_hit]; exact hc⟩
  · rintro ⟨h1, h2, h3⟩
    exact ⟨p.1, h1, List.mem_map.mpr ⟨p.2, List.mem_filter.mpr ⟨h2, by rw [isC_hit]; exact h3⟩, rfl⟩⟩
def clsT (c : Int) (ns : List Int) (rows : List (List Int)) : List (Ent × Ent) := srt ltEE (prC c (entS ns rows))
theorem clsT_mem {c : Int} {ns : List Int} {rows : List (List Int)} {p : Ent × Ent} : p ∈ clsT c ns rows ↔ p.1 ∈ ents ns rows ∧ p.2 ∈ ents ns rows ∧ hit c p.1 p.2 = true := by
  unfold clsT
  rw [srt_mem, prC_mem, entS_mem, entS_mem]
theorem hit_mono {c d : Int} (h : c ≤ d) {a b : Ent} (k : hit c a b = true) : hit d a b = true := by
  rw [hit_iff] at k ⊢
  obtain ⟨k1, k2, k3, k4⟩ := k
  refine ⟨k1, k2, k3, ?_⟩
  have := Int.mul_le_mul_of_nonneg_right h (show 0 ≤ a.2.1 - b.2.1 by omega)
  omega
end Pu
namespace Pu
open PySem L2
/-! # doubling lists, the line of letters, what plays at a tick (plain) -/
theorem snoc_ind'' {A : Type} {P : List A → Prop} (nil : P []) (snoc : ∀ xs x, P xs → P (xs ++ [x])) (xs : List A) : P xs := by
  have : ∀ ys : List A, P ys.reverse := fun ys => by
    induction ys with
    | nil => exact nil
    | cons y ys ih => rw [List.reverse_cons]; exact snoc _ y ih
  have := this xs.reverse
  rwa [List.reverse_reverse] at this
def rowE (b tk L : Int) (n : Nat) : List (Int × Int × Option Int) := (List.range n).map fun (j : Nat) => (tk, (j : Int) + 1, if L + j ≤ b then some (L + j) else none)
@[simp] theorem rowE_zero (b tk L : Int) : rowE b tk L 0 = [] := rfl
def up (b L : Int) (n : Nat) : Int := if L + n ≤ b + 1 then L + n else b + 1
def dn (L : Int) : Int := if L - 1 > 0 then L - 1 else 0
def stepE (b : Int) (s : List (Int × Int × Option Int) × Int × Int) (n : Int) : List (Int × Int × Option Int) × Int × Int := (s.1 ++ rowE b s.2.2 s.2.1 n.toNat, dn (up b s.2.1 n.toNat), s.2.2 + 1)
def ledS (b : Int) (ns : List Int) : List (Int × Int × Option Int) × Int × Int := ns.foldl (stepE b) ([], 0, 0)
theorem ledS_snoc (b : Int) (ns : List Int) (n : Int) : ledS b (ns ++ [n]) = stepE b (ledS b ns) n := by
  unfold ledS
  rw [List.foldl_append]
  rfl
theorem ledS_in {b : Int} (hb : 0 ≤ b) (ns : List Int) : (0 ≤ (ledS b ns).2.1 ∧ (ledS b ns).2.1 ≤ b) ∧ (ledS b ns).2.2 = ns.length := by
  induction ns using snoc_ind'' with
  | nil => exact ⟨⟨Int.le_refl _, hb⟩, rfl⟩
  | snoc ns n ih =>
    rw [ledS_snoc]
    unfold stepE
    refine ⟨?_, by rw [ih.2]; simp⟩
    unfold dn up
    dsimp only
    split <;> split <;> omega
theorem rowE_len (b tk L : Int) (n : Nat) : (rowE b tk L n).length = n := by simp [rowE]
/-! what plays -/
abbrev Let := Int × Int × Option Int
def wh (f : Int → Int) : List Int → Int → Option (Int × Int)
  | [], _ => none
  | k :: r, a => if a < f k then some (k, f k - a) else wh f r (a - f k)
/-! how many play -/
end Pu
namespace Pu
open PySem L2
/-! # typed layer, further rules -/
end Pu
namespace Pu
open PySem L2
/-! # meetings: letters that meet, and clashes -/
/-! ## two letters of the line -/
/-! ## no clash, no meeting -/
theorem ent_in {ns : List Int} {rows : List (List Int)} (h : Tab ns rows) {w : Int} (h0 : 1 ≤ w) (h1 : w ≤ rows.length) : ∃ r, (([] : List Ent) :: rows.map (entR ns)).getD w.toNat [] = entR ns r ∧ r ∈ rows ∧ RowW ns r w := by
  have hi : (w - 1).toNat < rows.length := by omega
  have hr : rows[(w - 1).toNat]? = some rows[(w - 1).toNat] := List.getElem?_eq_getElem hi
  have q := h.row _ _ hr
  have e1 : w.toNat = (w - 1).toNat + 1 := by omega
  refine ⟨rows[(w - 1).toNat], ?_, List.getElem_mem hi, ?_⟩
  · rw [e1, List.getD_cons_succ, List.getD_eq_getElem?_getD, List.getElem?_map, hr]
    rfl
  · have : (((w - 1).toNat : Int) + 1) = w := by omega
    rwa [this] at q
theorem entR_sum {ns : List Int} (hL : Lps ns) {r : List Int} {w : Int} (q : RowW ns r w) {e : Ent} (he : e ∈ entR ns r) : e.1 ∈ r ∧ 0 ≤ e.2.1 ∧ e.2.1 + e.2.2 = w := by
  unfold entR at he
  obtain ⟨a, b, c⟩ := ent_of he fun k hk => (vl_pos hL (q.ok k hk)).1
  rw [q.sum] at c
  exact ⟨a, b, by omega⟩
theorem entL_gone {f : Int → Int} : ∀ (r : List Int) (g l : Int), (∀ k ∈ r, 1 ≤ f k) → (entL f g l r).Pairwise fun a b => a.2.1 < b.2.1
  | [], _, _, _ => List.Pairwise.nil
  | k :: r, g, l, hp => by
    have h1 := hp k List.mem_cons_self
    have hr : ∀ k ∈ r, 1 ≤ f k := fun k hk => hp k (List.mem_cons_of_mem _ hk)
    rw [entL]
    refine List.pairwise_cons.mpr ⟨fun e he => ?_, entL_gone r _ _ hr⟩
    have := (ent_of he hr).2.1
    dsimp only
    omega
theorem entR_gone {ns : List Int} (hL : Lps ns) {r : List Int} (q : RowOk ns r) : (entR ns r).Pairwise fun a b => a.2.1 < b.2.1 := entL_gone r _ _ fun k hk => (vl_pos hL (q k hk)).1
/-- when and where something is laid -/
def plT (y : Ent) : Int × Int := (y.1, y.2.2)
/-! ## a clash, a meeting -/
structure Meets (ns : List Int) (rows : List (List Int)) (c : Int) (cs : List Int) (i j : Int) : Prop where
  ok : (cs.length : Int) ≤ 400 ∧ ∀ x ∈ cs, 0 ≤ x ∧ x ≤ c
  lt : 0 ≤ i ∧ i < j ∧ j < ((ledS rows.length cs).1.length : Int)
  ex : ∃ e e' w w' r r' x x', (ledS rows.length cs).1[i.toNat]? = some e ∧ (ledS rows.length cs).1[j.toNat]? = some e' ∧ e.2.2 = some w ∧ e'.2.2 = some w' ∧ (1 ≤ w ∧ w ≤ rows.length) ∧ (1 ≤ w' ∧ w' ≤ rows.length) ∧ rows[(w - 1).toNat]? = some r ∧ rows[(w' - 1).toNat]? = some r' ∧ x ∈ entR ns r ∧ x' ∈ entR ns r' ∧ e.1 + x.2.1 = e'.1 + x'.2.1 ∧ x.1 = x'.1
/-! ## the same thing twice -/
end Pu
namespace Pu
open PySem L2
/-! # tables changed, keys, when two letters meet -/
theorem ents_sub {ns : List Int} {rows rows' : List (List Int)} (h : ∀ r ∈ rows, r ∈ rows') {e : Ent} (he : e ∈ ents ns rows) : e ∈ ents ns rows' := by
  unfold ents at he ⊢
  obtain ⟨r, hr, he⟩ := List.mem_flatMap.mp he
  exact List.mem_flatMap.mpr ⟨r, h r hr, he⟩
theorem cls_sub {c d : Int} (hcd : c ≤ d) {ns : List Int} {rows rows' : List (List Int)} (h : ∀ r ∈ rows, r ∈ rows') {p : Ent × Ent} (hp : p ∈ clsT c ns rows) : p ∈ clsT d ns rows' := by
  rw [clsT_mem] at hp ⊢
  exact ⟨ents_sub h hp.1, ents_sub h hp.2.1, hit_mono hcd hp.2.2⟩
theorem nil_of_no {A : Type} {xs : List A} (h : ∀ x, x ∉ xs) : xs = [] := List.eq_nil_iff_forall_not_mem.mpr h
theorem cls_nil {c d : Int} (hcd : c ≤ d) {ns : List Int} {rows rows' : List (List Int)} (h : ∀ r ∈ rows, r ∈ rows') (hn : clsT d ns rows' = []) : clsT c ns rows = [] := nil_of_no fun p hp => by
  have := cls_sub hcd h hp
  rw [hn] at this
  exact (nomatch this)
theorem ahas_keys {A B : Type} [DecidableEq A] (kvs : List (A × B)) (k : A) : ahas kvs k = decide (k ∈ akeys kvs) := by
  unfold ahas akeys
  rw [Bool.eq_iff_iff, List.any_eq_true, decide_eq_true_eq, List.mem_map]
  constructor
  · rintro ⟨p, hp, e⟩
    exact ⟨p, hp, by simpa using e⟩
  · rintro ⟨p, hp, e⟩
    exact ⟨p, hp, by simpa using e⟩
theorem akeys_len {A B : Type} (kvs : List (A × B)) : kvs.length = (akeys kvs).length := by simp [akeys]
end Pu
namespace Pu
open PySem L2
/-! # all rows of waits that can stand in the line -/
/-! ## there are few of them -/
theorem nodup_le {A : Type} [DecidableEq A] : ∀ {xs ys : List A}, xs.Nodup → (∀ x ∈ xs, x ∈ ys) → xs.length ≤ ys.length
  | [], _, _, _ => Nat.zero_le _
  | x :: xs, ys, hn, h => by
    obtain ⟨n1, n2⟩ := List.nodup_cons.mp hn
    have hx := h x List.mem_cons_self
    have := nodup_le (xs := xs) (ys := ys.erase x) n2 fun y hy => (List.mem_erase_of_ne fun e => n1 (by rw [← e]; exact hy)).mpr (h y (List.mem_cons_of_mem _ hy))
    rw [List.length_erase_of_mem hx] at this
    have := List.length_pos_of_mem hx
    simp
    omega
/-! ## who enters what -/
/-! ## closed under all comings -/
end Pu
namespace Pu
open PySem L2
/-! # walks of spots -/
/-! ## a walk of the letters between two that meet -/
end Pu
namespace Pu
open PySem L2
/-! # a known tuple and some more -/
theorem p_catTP {xs ys : List Int} : Prim (dAddT (eT xs) (eU eI ys)) (catT xs ys) (fun a => .val (eT a)) := fun a h => by
  unfold catT at h
  split at h
  · rename_i c
    cases h
    show (rO (nums (ys.map D.int))).bind _ = _
    rw [show nums (ys.map D.int) = some ys by have := nums_mapE (fun x : Int => x) ys; rwa [List.map_id'] at this]
    show (if xs ≠ [] ∧ ys ≠ [] ∧ xs.length + ys.length ≤ 16000000 then Rs.ok (VD.val (D.tpl (xs ++ ys))) else .stuck) = _
    rw [if_pos c]
  · cases h
end Pu
namespace Pu
open PySem L2
/-! # list(range(n)) -/
section
variable {A B V : Type} {E : EX} {K : VD × Tp → Rs A} {R : A → B → Prop} {r : Env} {T : Tp} {f : DE} {a : D} {w : Rt V} {mk : V → VD} {z : V → Rt B}
theorem h_un {op : D → Rs VD} (hf : Pd f r a) (ho : Prim (op a) w mk) (hq : Quit w) (k : ∀ x, Sim E (K (mk x, T)) (z x) R) : Sim E ((eUn op f r T).bind K) (w.bind z) R := by
  rw [eUn_ap, hf T, Rs.bind_ok]
  show Sim E ((lift (op a) T).bind K) _ R
  unfold lift
  rw [Rs.assoc]
  exact ho.go hq fun x _ => k x
end
end Pu
namespace Pu
open PySem L2
/-! # loops under other numbers -/
end Pu
namespace Pu
open PySem L2
/-! # a written tuple of whole numbers, known -/
end Pu
namespace Pu
open PySem L2
end Pu
namespace Pu
open PySem L2
/-! # raise, try, min of pairs -/
section
variable {A B V : Type} {E : EX} {K : Fl × Tp → Rs A} {R : A → B → Prop} {r : Pu.Env} {T : Tp} {p : Pat} {ga : DA} {i j : Nat}
theorem s_raise2 {x f1 f2 : PySem.Str} {d1 d2 : D} (hg : Pur ga r [d1, d2]) (hE : E T r) : Sim E ((sRaise2 x f1 f2 ga r T).bind K) (Rt.exc x [(f2, d2), (f1, d1)] : Rt B) R := by
  show Sim E (((ga r T).bind _).bind K) _ R
  rw [hg T]
  exact ⟨T, r, rfl, hE⟩
end
end Pu
namespace Pu
open PySem L2
/-! # the first meeting of layings -/
end Pu
namespace Pu
open PySem L2
/-! # != by an __eq__ of one's own -/
section
variable {A B V : Type} {E : EX} {K : VD × Tp → Rs A} {R : A → B → Prop} {r : Pu.Env} {T : Tp} {f g : DE} {k : DE} {f' : VD → DE}
def neR (w : Rt Bool) : Rt Bool := match w with
  | .ok b => .ok (!b)
  | _ => .stuck
@[simp] theorem neR_ok (b : Bool) : neR (.ok b) = .ok (!b) := rfl
end
end Pu
namespace Pu
open PySem L2
/-! # digits of doubling loops never clash for two comers -/
/-- from the longest on: each at most twice the next one -/
def ChD : List (Int × Int) → Prop
  | [] => True
  | [p] => 1 ≤ p.1
  | p :: q :: r => 1 ≤ p.1 ∧ p.1 ≤ 2 * q.1 ∧ ChD (q :: r)
theorem ChD.hd {p : Int × Int} {r : List (Int × Int)} (h : ChD (p :: r)) : 1 ≤ p.1 ∧ ChD r := by
  cases r with
  | nil => exact ⟨h, trivial⟩
  | cons q r => exact ⟨h.1, h.2.2⟩
theorem ChD.pre : ∀ {a b : List (Int × Int)}, ChD (a ++ b) → ChD a
  | [], _, _ => trivial
  | [p], b, h => (ChD.hd (r := b) h).1
  | p :: q :: r, b, h => ⟨h.1, h.2.1, ChD.pre (a := q :: r) (b := b) h.2.2⟩
end Pu
namespace Pu
open PySem L2
/-! # raise of a plain class; try .. except C -/
end Pu
namespace Pu
open PySem L2
/-! # tuple([xs.pop(..) for ..]) -/
end Pu
namespace Pu
open PySem L2
/-! # rows of lengths that reach, and their greedy rows -/
def Rch (r : List Int) : Prop := ∀ a x b, r = a ++ x :: b → 1 ≤ x ∧ x ≤ a.sum + 1
theorem Rch.pre {a b : List Int} (h : Rch (a ++ b)) : Rch a := fun c x d e => h c x (d ++ b) (by rw [e]; simp)
end Pu
namespace Pu
open PySem L2
/-! # typed rules for trees -/
def Plk (f : DE) (r : Pu.Env) (d : D) : Prop := ∀ T, dl (f r T) = .ok (d, T)
section
variable {f g : DE} {ga : DAo} {r : Pu.Env} {p : Pat} {d a b : D} {v : VD} {i : Nat} {s : Sh} {sd : Sh × D} {l : List (Sh × D)}
theorem Pur.pl (h : Pur f r (.val d)) : Plk f r d := fun T => by rw [h T]; rfl
end
/-! # a call that is lent lists of one's own -/
end Pu
namespace Pu
open PySem L2
/-! # typed rules: a tree let be, x = x + (parts,), for v in x: v.append -/
/-! # () * k, too -/
end Pu
namespace Pu
open PySem L2
/-! # typed rules: rows of one's own, count, range with a step -/
end Pu
namespace Pu
open PySem L2
/-! # days judged: the plain law -/
/-- what a letter is laid into, in the order of L -/
def rowI (L : List Ent) (i : Int) : List (Int × Int) := (L.filter fun x => decide (x.2.1 = i)).map fun x => (x.1, x.2.2)
/-! ## the part of one letter -/
/-! ## ascending -/
/-! ## led through -/
/-! ## where the layings lie -/
/-! ## no loop holds more than its length -/
end Pu
namespace Pu
open PySem L2
/-! # typed rules: own == against any kind of thing -/
def cmpR (neg : Bool) (w : Rt Bool) : Rt Bool := match w with
  | .ok b => .ok (if neg = true then !b else b)
  | _ => .stuck
@[simp] theorem cmpR_ok (neg b : Bool) : cmpR neg (.ok b) = .ok (if neg = true then !b else b) := rfl
end Pu
namespace Pu
open PySem L2
/-! # typed: x, y = a, b -/
end Pu
namespace Pu
open PySem L2
open Classical
/-! # typed: {k: v for x in xs if ..}, all of it pure -/
end Pu
namespace Pu
open PySem L2
/-! # typed: repr -/
def reprR (d : D) : Rt PySem.Str := if shE d = true ∧ (pyD d).shown.length ≤ sizeLine ∧ (pyD d).depth ≤ 60 then .ok (pyD d).shown else .stuck
theorem quit_repr {d : D} : Quit (reprR d) := by
  unfold reprR
  split
  · intro c fs e; cases e
  · intro c fs e; cases e
theorem p_repr {d : D} : Prim (bRepr [d]) (reprR d) (fun x => VD.val (eS x)) := by
  show Prim (if _ then _ else _) _ _
  unfold reprR
  split
  · intro a e; cases e; rfl
  · intro a e; cases e
/-! ## how long the text is -/
mutual
def wtD : D → Nat
  | .non => 4
  | .bl _ => 5
  | .int _ => 1921
  | .str x => (reprText x).length
  | .tup xs => 3 + wtDs xs
  | .lst xs => 2 + wtDs xs
  | .dct _ kvs => 2 + wtKv kvs
  | .tpl ns => 3 + 1923 * ns.length
  | _ => 4
def wtDs : List D → Nat
  | [] => 0
  | x :: xs => wtD x + 2 + wtDs xs
def wtKv : List (D × D) → Nat
  | [] => 0
  | (k, v) :: xs => wtD k + wtD v + 4 + wtKv xs
end
mutual
def dpD : D → Nat
  | .tup xs => 1 + dpDs xs
  | .lst xs => 1 + dpDs xs
  | .dct _ kvs => 1 + dpKv kvs
  | .tpl _ => 1
  | _ => 0
def dpDs : List D → Nat
  | [] => 0
  | x :: xs => max (dpD x) (dpDs xs)
def dpKv : List (D × D) → Nat
  | [] => 0
  | (k, v) :: xs => max (max (dpD k) (dpD v)) (dpKv xs)
end
theorem textFrom_le : ∀ (ts : List PySem.Str) (k : Nat) (acc : PySem.Str), (textFrom k acc ts).length ≤ acc.length + piled ts
  | [], k, acc => by rw [textFrom, piled_nil]; omega
  | t :: ts, k, acc => by
    rw [textFrom, piled_cons]
    refine Nat.le_trans (textFrom_le ts _ _) ?_
    rw [strLen_append, strLen_append]
    have : ((if k > 0 then ", " else "" : String) : PySem.Str).length ≤ 2 := by
      split
      · exact Nat.le_refl 2
      · exact Nat.zero_le 2
    omega
theorem listText_le (ts : List PySem.Str) : (listText ts).length ≤ 2 + piled ts := by
  unfold listText
  rw [strLen_append]
  have := textFrom_le ts 0 "["
  have e1 : (("[" : String) : PySem.Str).length = 1 := rfl
  have e2 : (("]" : String) : PySem.Str).length = 1 := rfl
  omega
theorem tupleText_le (ts : List PySem.Str) : (tupleText ts).length ≤ 3 + piled ts := by
  unfold tupleText
  rw [strLen_append, strLen_append]
  have e1 : (("(" : String) : PySem.Str).length = 1 := rfl
  have e2 : ((if ts.length == 1 then ",)" else ")" : String) : PySem.Str).length ≤ 2 := by
    split
    · exact Nat.le_refl 2
    · exact Nat.le_succ 1
  have e3 : (Str.join ", " ts).length ≤ piled ts := by
    cases ts with
    | nil => exact Nat.zero_le _
    | cons t ts =>
      have := join_length_add (t :: ts) (by simp)
      omega
  omega
theorem dictText_le (ts : List PySem.Str) : (dictText ts).length ≤ 2 + piled ts := by
  unfold dictText
  rw [strLen_append, strLen_append]
  have e1 : (("{" : String) : PySem.Str).length = 1 := rfl
  have e2 : (("}" : String) : PySem.Str).length = 1 := rfl
  have e3 : (Str.join ", " ts).length ≤ piled ts := by
    cases ts with
    | nil => exact Nat.zero_le _
    | cons t ts =>
      have := join_length_add (t :: ts) (by simp)
      omega
  omega
theorem wti_ok : ∀ ns : List Int, (ns.all fun i => decide (i.natAbs.log2 < 1920)) = true → piled (PyData.shownAll (ns.map PyData.int)) ≤ 1923 * ns.length
  | [], _ => by rw [List.map_nil, PyData.shownAll, piled_nil]; exact Nat.zero_le _
  | i :: ns, h => by
    rw [List.all_cons, Bool.and_eq_true] at h
    have a := PyProof.Rows.int_text_len_1921 (of_decide_eq_true h.1)
    have b := wti_ok ns h.2
    rw [List.map_cons, PyData.shownAll, piled_cons, PyData.shown, List.length_cons]
    omega
theorem depthAll_ints : ∀ ns : List Int, PyData.depthAll (ns.map PyData.int) = 0
  | [] => by rw [List.map_nil, PyData.depthAll]
  | i :: ns => by rw [List.map_cons, PyData.depthAll, PyData.depth, depthAll_ints ns]; rfl
mutual
theorem dp_ok : ∀ d : D, shE d = true → (pyD d).depth ≤ dpD d
  | .non, _ => by rw [pyD, PyData.depth]; exact Nat.zero_le _
  | .bl b, _ => by rw [pyD, PyData.depth]; exact Nat.zero_le _
  | .int i, h => by rw [pyD, PyData.depth]; exact Nat.zero_le _
  | .str x, _ => by rw [pyD, PyData.depth]; exact Nat.zero_le _
  | .tup xs, h => by
    rw [shE] at h
    rw [pyD, PyData.depth, dpD]
    have := dps_ok xs h
    omega
  | .lst xs, h => by
    rw [shE] at h
    rw [pyD, PyData.depth, dpD]
    have := dps_ok xs h
    omega
  | .dct t kvs, h => by
    rw [shE, Bool.and_eq_true] at h
    rw [pyD, PyData.depth, dpD]
    have := dpk_ok kvs h.2
    omega
  | .tpl ns, h => by
    rw [pyD, PyData.depth, dpD, depthAll_ints ns]
    exact Nat.le_refl _
  | .exn _ _, h => by rw [shE] at h; cases h
  | .lrf _, h => by rw [shE] at h; cases h
  | .cel _ _, h => by rw [shE] at h; cases h
  | .dcn _, h => by rw [shE] at h; cases h
  | .ins _ _, h => by rw [shE] at h; cases h
  | .scr _, h => by rw [shE] at h; cases h
theorem dps_ok : ∀ ds : List D, shEs ds = true → PyData.depthAll (pyDs ds) ≤ dpDs ds
  | [], _ => by rw [pyDs, PyData.depthAll]; exact Nat.zero_le _
  | d :: ds, h => by
    rw [shEs, Bool.and_eq_true] at h
    have a := dp_ok d h.1
    have b := dps_ok ds h.2
    rw [pyDs, PyData.depthAll, dpDs]
    omega
theorem dpk_ok : ∀ ds : List (D × D), shEKv ds = true → PyData.depthKv (pyKv ds) ≤ dpKv ds
  | [], _ => by rw [pyKv, PyData.depthKv]; exact Nat.zero_le _
  | (k, v) :: ds, h => by
    rw [shEKv, Bool.and_eq_true, Bool.and_eq_true] at h
    have a := dp_ok k h.1.1
    have a2 := dp_ok v h.1.2
    have b := dpk_ok ds h.2
    rw [pyKv, PyData.depthKv, dpKv]
    omega
end
/-- what can be shown, its text at most so long, at most so deep -/
def Shw (w k : Nat) (d : D) : Prop := shD d = true ∧ wtD d ≤ w ∧ dpD d ≤ k
theorem shw_I {i : Int} (h : i.natAbs.log2 < 1920) : Shw 1921 0 (eI i) := ⟨by show shD (.int i) = true; rw [shD]; exact decide_eq_true h, by show wtD (.int i) ≤ _; rw [wtD]; exact Nat.le_refl _, by show dpD (.int i) ≤ _; rw [dpD] <;> first | exact Nat.le_refl _ | (intros; contradiction)⟩
theorem log_small {i : Int} (h : -10 ^ 60 ≤ i ∧ i ≤ 10 ^ 60) : i.natAbs.log2 < 1920 := by
  have a : i.natAbs ≤ 10 ^ 60 := by omega
  by_cases c : i.natAbs = 0
  · rw [c]; decide
  · have := Nat.log2_self_le c
    have p : (10 : Nat) ^ 60 < 2 ^ 200 := by decide
    have q : i.natAbs.log2 < 200 := Nat.lt_of_not_le fun z => by
      have := Nat.pow_le_pow_right (n := 2) (by decide) z
      omega
    omega
theorem shw_i {i : Int} (h : -10 ^ 60 ≤ i ∧ i ≤ 10 ^ 60) : Shw 1921 0 (eI i) := shw_I (log_small h)
theorem Shw.up {w k w' k' : Nat} {d : D} (h : Shw w k d) (a : w ≤ w') (b : k ≤ k') : Shw w' k' d := ⟨h.1, Nat.le_trans h.2.1 a, Nat.le_trans h.2.2 b⟩
/-! ## count, index of flat things -/
end Pu
namespace Pu
open PySem L2
/-! # long comings: the plain law -/
/-- the line, how many went out, how many were turned away -/
abbrev R3 := Int × Int × Int
/-- the line behind those that come at one tick, ahead of its going out -/
def tkn (b l n : Int) : Int := if l + n ≤ b + 1 then l + n else b + 1
def r1 (b : Int) (s : R3) (n : Int) : R3 := (if tkn b s.1 n > 0 then tkn b s.1 n - 1 else tkn b s.1 n, if tkn b s.1 n > 0 then s.2.1 + 1 else s.2.1, s.2.2 + (n - (tkn b s.1 n - s.1)))
/-- the comings once, from a line on -/
def rD (b : Int) (cs : List Int) (l : Int) : R3 := cs.foldl (r1 b) (l, 0, 0)
/-- one behind another -/
def r2 (s t : R3) : R3 := (t.1, s.2.1 + t.2.1, s.2.2 + t.2.2)
/-- the comings n times -/
def rN (b : Int) (cs : List Int) : Nat → Int → R3
  | 0, l => (l, 0, 0)
  | n + 1, l => r2 (rD b cs l) (rN b cs n (rD b cs l).1)
/-! ## the line of before -/
/-! ## tables of all lines -/
theorem mem_rngL {a b x : Int} (h : x ∈ rngL a b) : a ≤ x ∧ x < b := by
  obtain ⟨i, hi⟩ := List.getElem?_of_mem h
  exact (rngL_get hi).2
/-- rows of comings and times, one behind another: the line, who came, went out, was turned away -/
def l1 (b : Int) (s : Int × Int × Int × Int) (x : List Int × Int) : Int × Int × Int × Int := ((rN b x.1 x.2.toNat s.1).1, s.2.1 + x.2 * x.1.sum, s.2.2.1 + (rN b x.1 x.2.toNat s.1).2.1, s.2.2.2 + (rN b x.1 x.2.toNat s.1).2.2)
end Pu
namespace Pu
open PySem L2
/-! # things of any kind, taken as of one kind -/
def Dec {A : Type} (e : A → D) (g : D → Option A) : Prop := ∀ d a, g d = some a → d = e a
def decD : D → Option D := fun d => some d
def decI : D → Option Int
  | .int i => some i
  | _ => none
def decs {A : Type} (g : D → Option A) : List D → Option (List A)
  | [] => some []
  | d :: ds => match g d, decs g ds with
    | some a, some as => some (a :: as)
    | _, _ => none
def decU {A : Type} (g : D → Option A) : D → Option (List A)
  | .tup ds => decs g ds
  | _ => none
theorem dec_D : Dec eD decD := fun d a h => by cases h; rfl
theorem dec_I : Dec eI decI := fun d a h => by
  cases d <;> first | (cases h; rfl) | cases h
theorem decs_ok {A : Type} {e : A → D} {g : D → Option A} (hg : Dec e g) : ∀ (ds : List D) (as : List A), decs g ds = some as → ds = as.map e
  | [], _, h => by cases h; rfl
  | d :: ds, as, h => by
    unfold decs at h
    split at h
    · rename_i a bs e1 e2
      cases h
      rw [List.map_cons, ← hg d a e1, ← decs_ok hg ds bs e2]
    · cases h
theorem dec_U {A : Type} {e : A → D} {g : D → Option A} (hg : Dec e g) : Dec (eU e) (decU g) := fun d a h => by
  cases d with
  | tup ds => exact congrArg D.tup (decs_ok hg ds a h)
  | _ => cases h
theorem decs_map {A : Type} {e : A → D} {g : D → Option A} (h : ∀ a, g (e a) = some a) : ∀ xs : List A, decs g (xs.map e) = some xs
  | [] => rfl
  | x :: xs => by
    rw [List.map_cons, decs, h x, decs_map h xs]
theorem decs_D : ∀ xs : List D, decs decD xs = some xs
  | [] => rfl
  | x :: xs => by
    rw [decs, decs_D xs]
    rfl
section
variable {f g : DE} {r : Env} {T : Tp} {d d' : D}
theorem pd_dec (h : d = d') (p : Pd f r d) : Pd f r d' := h ▸ p
theorem pv_dec (h : d = d') (p : Pv f r d) : Pv f r d' := h ▸ p
end
/-! ## isinstance, ==, of any kind -/
def isiR (t : Ty) (d : D) : Rt Bool := match isT [] t d with
  | some b => .ok b
  | none => .stuck
theorem quit_isiR {t : Ty} {d : D} : Quit (isiR t d) := fun c fs e => by
  unfold isiR at e
  split at e <;> cases e
theorem p_isiR {t : Ty} {d : D} : Prim (dIsi [] t d) (isiR t d) (fun x => VD.val (eB x)) := fun b h => by
  unfold isiR at h
  unfold dIsi
  split at h
  · rename_i e
    cases h
    rw [e]
    rfl
  · cases h
def opBR (op : D → D → Rs VD) (a b : D) : Rt Bool := match op a b with
  | .ok (.val (.bl b)) => .ok b
  | _ => .stuck
theorem quit_opBR {op : D → D → Rs VD} {a b : D} : Quit (opBR op a b) := fun c fs e => by
  unfold opBR at e
  split at e <;> cases e
theorem p_opBR {op : D → D → Rs VD} {a b : D} : Prim (op a b) (opBR op a b) (fun x => VD.val (eB x)) := fun x h => by
  unfold opBR at h
  split at h
  · rename_i e
    cases h
    exact e
  · cases h
section
variable {A B : Type} {E : EX} {R : A → B → Prop} {r : Env} {T : Tp} {p : Pat}
/-! ## try .. except C as e -/
theorem q_isE {i : Nat} {b : Bool} {fs : List (PySem.Str × D)} (m : Mat p r) (h : p[i]? = some (iv (.exn x0 fs))) : Pur (eIsE i x0 b) r (.val (.bl b)) := fun T => by
  unfold eIsE
  rw [m.get h]
  exact if_pos rfl
def tryE (l : List (PySem.Str × Bool)) (w : Rt A) (h : PySem.Str → List (PySem.Str × D) → Rt A) : Rt A := match w with
  | .ok a => .ok a
  | .stuck => .stuck
  | .exc c fs => match l.lookup c with
    | some true => (match h c fs with
      | .ok a => .ok a
      | _ => .stuck)
    | some false => .exc c fs
    | none => .stuck
theorem s_tryE {S : Type} {K : Fl × Tp → Rs A} {f : DS} {g : PySem.Str → XA → DS} {i : Nat} {l : List (PySem.Str × Bool)} {y : Rt S} {yh : PySem.Str → List (PySem.Str × D) → Rt S} {zz : S → Rt B} (P : S → Pat) (τ : S → Tp) (m : Mat p r) (hf : p[i]? = some .free) (hP : ∀ s, (P s)[i]? = some .any) (hb : Sim (fun T' r' => T' = T ∧ Mat p r') ((f r T).bind Rs.ok) y (RL P τ)) (hh : ∀ c fs r', Mat (p.set i (iv (.exn x0 fs))) r' → Sim ET ((g c x0 r' T).bind Rs.ok) (yh c fs) (RL P τ)) (hE : ∀ r', Mat p r' → E T r') (k : ∀ s r', Mat (P s) r' → Sim E (K (.nx r', τ s)) (zz s) R) : Sim E ((sTryE i l f g r T).bind K) ((tryE l y yh).bind zz) R := by
  rw [bind_id] at hb
  unfold sTryE
  cases y with
  | ok x =>
    obtain ⟨q, eq, r1, hq, m1⟩ := hb
    rw [eq]
    subst hq
    exact k x r1 m1
  | stuck => trivial
  | exc c fs =>
    obtain ⟨t, r', eq, rfl, m1⟩ := hb
    rw [eq]
    show Sim E ((match l.lookup c with
      | some true => if okFree r' i = true then (match g c x0 (Xe r' i x0 fs) t with
          | .ok (.nx r2, T2) => Rs.ok (Fl.nx (r2.set i none), T2)
          | _ => Rs.stuck) else Rs.stuck
      | some false => Rs.exc c fs t r'
      | none => Rs.stuck).bind K) ((match l.lookup c with
      | some true => (match yh c fs with
        | .ok a => Rt.ok a
        | _ => Rt.stuck)
      | some false => Rt.exc c fs
      | none => Rt.stuck).bind zz) R
    cases l.lookup c with
    | none => trivial
    | some b =>
      cases b with
      | false => exact ⟨t, r', rfl, hE r' m1⟩
      | true =>
        have hh := hh c fs _ (m1.set i (.val (.exn x0 fs)))
        rw [bind_id] at hh
        cases e : yh c fs with
        | stuck => trivial
        | exc c2 f2 => trivial
        | ok x =>
          rw [e] at hh
          obtain ⟨q, eq2, r2, hq, m2⟩ := hh
          have ok : okFree r' i = true := by
            obtain ⟨v, e1, a1, a2, a3⟩ := m1.at' hf
            unfold okFree
            rw [e1]
            rcases v with _ | v
            · rfl
            · cases v with
              | own d => exact absurd rfl (a1 d)
              | tape => exact absurd rfl a2
              | _ => rfl
          show Sim E ((if okFree r' i = true then (match g c x0 (Xe r' i x0 fs) t with
            | .ok (.nx r2, T2) => Rs.ok (Fl.nx (r2.set i none), T2)
            | _ => Rs.stuck) else Rs.stuck).bind K) (zz x) R
          rw [if_pos ok]
          have eq3 : g c x0 (Xe r' i x0 fs) t = .ok q := eq2
          rw [eq3, hq]
          refine k x _ ?_
          have m3 : Mat ((P x).set i .any) (r2.set i none) := m2.setA i trivial
          have e3 : (P x).set i .any = P x := by
            have h1 := hP x
            obtain ⟨h2, h3⟩ := List.getElem?_eq_some_iff.mp h1
            rw [← h3]
            exact List.set_getElem_self h2
          rw [e3] at m3
          exact m3
/-! ## [f, g, ..][k](args), its worth let go -/
end
end Pu
namespace Pu
open PySem L2
/-! # where the line settles -/
/-! ## fractions -/
/-! ## things that are no numbers within bounds -/
def inI (d : D) (a b : Int) : Bool := match d with
  | .int n => decide (a ≤ n ∧ n ≤ b)
  | _ => false
end Pu
namespace Pu
open PySem L2
/-! # try with several clauses; raise with one field; e.f -/
def xfR (fs : List (PySem.Str × D)) (f : PySem.Str) : Rt D := match fs.lookup f with
  | some d => .ok d
  | none => .stuck
section
variable {A B S : Type} {E : EX} {R : A → B → Prop} {r : Env} {T : Tp} {p : Pat}
/-! ## raise C(e) -/
/-! ## e.f -/
theorem h_xf {K : VD × Tp → Rs A} {i : Nat} {f : PySem.Str} {fs : List (PySem.Str × D)} {z : D → Rt B} (m : Mat p r) (h : p[i]? = some (iv (.exn x0 fs))) (k : ∀ d, Sim E (K (.val d, T)) (z d) R) : Sim E ((eXf i x0 f r T).bind K) ((xfR fs f).bind z) R := by
  unfold eXf xfR
  rw [m.get h]
  dsimp only
  rw [if_pos rfl]
  cases fs.lookup f with
  | none => trivial
  | some d => exact k d
end
end Pu
namespace Pu
open PySem L2
theorem decU_I (ns : List Int) : decU decI (eU eI ns) = some ns := decs_map (e := eI) (g := decI) (fun _ => rfl) ns
/-! ## == and != of things of any kind that are of one kind -/
theorem opEq {A : Type} [DecidableEq A] {n : Nat} {e : A → D} (k : Enc n e) (a b : A) (hn : n ≤ 40 := by decide) : opBR dEq (e a) (e b) = .ok (decide (a = b)) := by
  unfold opBR
  rw [dEq_enc k a b hn]
/-! # the lists of doubling loops -/
structure RwD (tot : Int) (r : List Int) : Prop where
  ne : r ≠ []
  len : r.length ≤ 8
  pos : ∀ x ∈ r, 1 ≤ x
  sum : r.sum ≤ tot
  one : nth r 0 = 1
  chn : ∀ i, i + 1 < r.length → nth r i ≤ nth r (i + 1) ∧ nth r (i + 1) ≤ 2 * nth r i
theorem RwD.lst {tot : Int} {r : List Int} (h : RwD tot r) : 1 ≤ lst r ∧ lst r ≤ r.sum := ⟨h.pos _ (lst_mem h.ne), mem_le_sum (fun x hx => by have := h.pos x hx; omega) _ (lst_mem h.ne)⟩
end Pu
namespace Pu
open PySem L2
theorem q_dctC {r : Env} {k : Key} {vd : D} : Pur (eDctC k vd) r (.own (.dct false [(kD k, vd)])) := fun _ => rfl
end Pu
namespace Pu
open PySem L2
/-! # things of any kind: tuples of whole numbers within bounds -/
def areI (d : D) (m a b : Int) : Bool := match d with
  | .tup ds => decide ((ds.length : Int) ≤ m) && ds.all fun x => inI x a b
  | _ => false
theorem inI_iff {d : D} {a b : Int} : inI d a b = true ↔ ∃ n, d = .int n ∧ a ≤ n ∧ n ≤ b := by
  unfold inI
  split
  · rename_i n
    simp
  · rename_i h
    constructor
    · intro z; cases z
    · rintro ⟨n, rfl, _⟩; exact absurd rfl (h n)
theorem alls_I {a b : Int} : ∀ ds : List D, (ds.all fun x => inI x a b) = true → ∃ cs : List Int, ds = cs.map eI ∧ ∀ x ∈ cs, a ≤ x ∧ x ≤ b
  | [], _ => ⟨[], rfl, fun _ h => nomatch h⟩
  | d :: ds, h => by
    rw [List.all_cons, Bool.and_eq_true] at h
    obtain ⟨n, rfl, hn⟩ := inI_iff.mp h.1
    obtain ⟨cs, rfl, hc⟩ := alls_I ds h.2
    exact ⟨n :: cs, rfl, fun x hx => by
      rcases List.mem_cons.mp hx with z | z
      · subst z; exact hn
      · exact hc x z⟩
theorem areI_ex {d : D} {m a b : Int} (h : areI d m a b = true) : ∃ cs : List Int, d = eU eI cs ∧ (cs.length : Int) ≤ m ∧ ∀ x ∈ cs, a ≤ x ∧ x ≤ b := by
  unfold areI at h
  split at h
  · rename_i ds
    rw [Bool.and_eq_true] at h
    obtain ⟨cs, rfl, hc⟩ := alls_I ds h.2
    have := of_decide_eq_true h.1
    rw [List.length_map] at this
    exact ⟨cs, rfl, this, hc⟩
  · cases h
theorem areI_U {cs : List Int} {m a b : Int} : areI (eU eI cs) m a b = decide ((cs.length : Int) ≤ m ∧ ∀ x ∈ cs, a ≤ x ∧ x ≤ b) := by
  show (decide (((cs.map eI).length : Int) ≤ m) && (cs.map eI).all fun x => inI x a b) = _
  rw [Bool.eq_iff_iff]
  simp [inI, List.all_map]
/-- in a thing that can be shown all parts can be shown -/
theorem shDs_mem : ∀ {ds : List D}, shDs ds = true → ∀ d ∈ ds, shD d = true
  | [], _, _, h => nomatch h
  | x :: ds, h, d, hd => by
    rw [shDs, Bool.and_eq_true] at h
    rcases List.mem_cons.mp hd with z | z
    · subst z; exact h.1
    · exact shDs_mem h.2 d z
theorem shD_tup {ds : List D} (h : shD (.tup ds) = true) : ∀ d ∈ ds, shD d = true := by
  rw [shD] at h
  exact shDs_mem h
theorem decU_D (ds : List D) : decU decD (.tup ds) = some ds := decs_D ds
/-- whether it is a tuple -/
def isTup (d : D) : Bool := match d with
  | .tup _ => true
  | _ => false
theorem isiR_tup {d : D} (h : shD d = true) : isiR .tuple d = .ok (isTup d) := by
  cases d <;> first | rfl | (rw [shD] at h; cases h)
theorem isTup_iff {d : D} : isTup d = true ↔ ∃ ds, d = .tup ds := by
  cases d <;> simp [isTup]
theorem wr_idx {A : Type} {xs : List A} {i : Int} (h0 : 0 ≤ i) (h1 : i < xs.length) : wr (idx xs i) fun a => a ∈ xs := by
  rw [idx_some h0 h1]
  exact (wr_ok _).mpr (List.getElem_mem _)
theorem if_nf {A : Type} {a b : A} : (if (!false) = true then a else b) = a := rfl
theorem if_nt {A : Type} {a b : A} : (if (!true) = true then a else b) = b := rfl
theorem cutA_len {A : Type} (xs : List A) (lo hi : Option Int) : (cutA xs lo hi).length ≤ xs.length := by
  unfold cutA
  rw [List.length_take, List.length_drop]
  omega
theorem cutA_mem {A : Type} {xs : List A} {lo hi : Option Int} {x : A} (h : x ∈ cutA xs lo hi) : x ∈ xs := List.mem_of_mem_drop (List.mem_of_mem_take h)
end Pu
namespace Pu
open PySem L2
/-! ## triples decoded -/
end Pu
namespace Pu
open PySem L2
/-! # days of any kind judged -/
/-- where one comes who goes on from s by a row, if one can -/
def goB (f : Int → Int) : Int → List (Int × Int) → Option Int
  | s, [] => some s
  | s, x :: r => if x.1 = s then goB f (s + f x.2) r else none
/-- whether a row leads a letter -/
def rowOk (f : Int → Int) (row : List (Int × Int)) (e : Let) : Bool := match e.2.2 with
  | none => row.isEmpty
  | some w => decide (goB f e.1 row = some (e.1 + w))
/-! ## how long their text is -/
end Pu
namespace Pu
open PySem L2
/-! # typed: sorted of lists and tuples, also where the one item is an empty tuple -/
end Pu
namespace Pu
open PySem L2
/-! # rows of stands are days -/
theorem go_snoc {f : Int → Int} : ∀ (r : List (Int × Int)) (s : Int) (x : Int × Int), goB f s (r ++ [x]) = (goB f s r).bind fun s' => if x.1 = s' then some (s' + f x.2) else none
  | [], s, x => rfl
  | y :: r, s, x => by
    show (if y.1 = s then goB f (s + f y.2) (r ++ [x]) else none) = (if y.1 = s then goB f (s + f y.2) r else none).bind _
    split
    · exact go_snoc r _ x
    · rfl
theorem rowI_app (A B : List Ent) (i : Int) : rowI (A ++ B) i = rowI A i ++ rowI B i := by
  unfold rowI
  rw [List.filter_append, List.map_append]
theorem rowI_none {A : List Ent} {i : Int} (h : ∀ x ∈ A, x.2.1 ≠ i) : rowI A i = [] := by
  unfold rowI
  rw [List.filter_eq_nil_iff.mpr fun x hx => by simpa using h x hx]
  rfl
theorem rngL_at2 {a b : Int} {j : Nat} (h : a + j < b) : (rngL a b)[j]? = some (a + j) := by
  unfold rngL
  rw [List.getElem?_map, List.getElem?_range (by omega)]
  rfl
theorem nd_inj {A : Type} {l : List A} (h : l.Nodup) {i j : Nat} {hi : i < l.length} {hj : j < l.length} (e : l[i] = l[j]) : i = j := by
  have hp := List.pairwise_iff_getElem.mp h
  rcases Nat.lt_trichotomy i j with c | c | c
  · exact absurd e (hp i j hi hj c)
  · exact c
  · exact absurd e.symm (hp j i hj hi c)
theorem nd_map {A B : Type} {g : A → B} (hg : ∀ a b, g a = g b → a = b) {l : List A} (h : l.Nodup) : (l.map g).Nodup := List.Pairwise.map g (fun a b q z => q (hg a b z)) h
/-- who stands in the line, when each comes back, and what was laid: at the tick t -/
structure PlS (f : Int → Int) (m t : Int) (E : List Let) (ln st : List Int) (A : List Ent) : Prop where
  len : st.length = ln.length
  inl : ∀ (p : Nat) (i v : Int), ln[p]? = some i → st[p]? = some v → (0 ≤ v ∧ v ≤ p) ∧ 0 ≤ i ∧ ∃ e w, E[i.toNat]? = some e ∧ e.2.2 = some w ∧ e.1 + w = t + p ∧ goB f e.1 (rowI A i) = some (t + v)
  out : ∀ (i : Nat) (e : Let), E[i]? = some e → (i : Int) ∉ ln → rowOk f (rowI A i) e = true
  nd : ln.Nodup
  lay : (A.map plT).Nodup
  lin : ∀ x ∈ A, x.1 < t ∧ (0 ≤ x.2.1 ∧ x.2.1 < E.length) ∧ 0 ≤ x.2.2 ∧ x.2.2 < m
section
variable {f : Int → Int} {m t b : Int} {E : List Let} {ln st st' : List Int} {A : List Ent}
theorem PlS.inE (h : PlS f m t E ln st A) {i : Int} (hi : i ∈ ln) : 0 ≤ i ∧ i < E.length := by
  obtain ⟨p, hp, rfl⟩ := List.getElem_of_mem hi
  have h2 : p < st.length := by rw [h.len]; exact hp
  obtain ⟨_, h0, e, w, he, _⟩ := h.inl p _ _ (List.getElem?_eq_getElem hp) (List.getElem?_eq_getElem h2)
  have := (List.getElem?_eq_some_iff.mp he).1
  omega
theorem key_one {w : List (Int × Int)} (h : (w.map (·.1)).Nodup) {p l : Int} (hm : (p, l) ∈ w) : w.filter (fun q => decide (q.1 = p)) = [(p, l)] := by
  induction w with
  | nil => cases hm
  | cons q w ih =>
    rw [List.map_cons, List.nodup_cons] at h
    rcases List.mem_cons.mp hm with c | c
    · subst c
      rw [List.filter_cons_of_pos (by simp), List.filter_eq_nil_iff.mpr fun x hx => by
        have : x.1 ≠ p := fun z => h.1 (by rw [← z]; exact List.mem_map_of_mem (f := (·.1)) hx)
        simpa using this]
    · have : q.1 ≠ p := fun z => h.1 (by rw [z]; exact List.mem_map_of_mem (f := (·.1)) c)
      rw [List.filter_cons_of_neg (by simpa using this)]
      exact ih h.2 c
/-- what a laying-out adds -/
def layW (t : Int) (ln : List Int) (w : List (Int × Int)) : List Ent := w.map fun q => (t, vl ln q.1, q.2)
theorem vl_get {ln : List Int} {p : Nat} {i : Int} (h : ln[p]? = some i) : vl ln (p : Int) = i := by
  obtain ⟨h1, h2⟩ := List.getElem?_eq_some_iff.mp h
  have := atI_vl (ns := ln) (k := (p : Int)) (by omega)
  rw [atI_some (by omega) (by omega)] at this
  simpa [h2] using this.symm
theorem rowW_at {w : List (Int × Int)} (hn : ln.Nodup) (hp : ∀ q ∈ w, 0 < q.1 ∧ q.1 < ln.length) {p : Nat} {i : Int} (hi : ln[p]? = some i) : rowI (layW t ln w) i = (w.filter fun q => decide (q.1 = (p : Int))).map fun q => (t, q.2) := by
  unfold rowI layW
  rw [List.filter_map, List.map_map]
  have : (w.filter fun q => decide (q.1 = (p : Int))) = w.filter ((fun x : Ent => decide (x.2.1 = i)) ∘ fun q => (t, vl ln q.1, q.2)) := List.filter_congr fun q hq => by
    obtain ⟨h1, h2⟩ := hp q hq
    have hq' : q.1.toNat < ln.length := by omega
    have hv := vl_get (List.getElem?_eq_getElem hq')
    rw [show ((q.1.toNat : Nat) : Int) = q.1 by omega] at hv
    show decide (q.1 = (p : Int)) = decide (vl ln q.1 = i)
    rw [hv]
    obtain ⟨i1, i2⟩ := List.getElem?_eq_some_iff.mp hi
    refine decide_eq_decide.mpr ⟨fun z => ?_, fun z => ?_⟩
    · have : q.1.toNat = p := by omega
      subst this
      exact i2
    · rw [← i2] at z
      have := nd_inj hn z
      omega
  rw [← this]
  rfl
/-- a laying-out is laid -/
theorem PlS.laid (h : PlS f m t E ln st A) {w : List (Int × Int)} (hp : ∀ q ∈ w, (0 < q.1 ∧ q.1 < ln.length) ∧ (0 ≤ q.2 ∧ q.2 < m) ∧ (1 ≤ f q.2 ∧ f q.2 ≤ q.1) ∧ st[q.1.toNat]? = some 0) (h1 : (w.map (·.1)).Nodup) (h2 : (w.map (·.2)).Nodup) (hall : ∀ p : Nat, p + 1 < ln.length → st[p + 1]? = some 0 → ((p + 1 : Nat) : Int) ∈ w.map (·.1))
    (hs : st'.length = ln.length - 1) (hs1 : ∀ (p : Nat) (l : Int), (((p + 1 : Nat) : Int), l) ∈ w → st'[p]? = some (f l - 1)) (hs2 : ∀ (p : Nat) (v : Int), ((p + 1 : Nat) : Int) ∉ w.map (·.1) → st[p + 1]? = some v → st'[p]? = some (v - 1)) : PlS f m (t + 1) E (ln.drop 1) st' (A ++ layW t ln w) := by
  have hpp : ∀ q ∈ w, 0 < q.1 ∧ q.1 < ln.length := fun q hq => (hp q hq).1
  have hno : ∀ {p : Nat}, ((p : Nat) : Int) ∉ w.map (·.1) → (w.filter fun q => decide (q.1 = (p : Int))) = [] := fun {p} hq => List.filter_eq_nil_iff.mpr fun x hx => by
    have : x.1 ≠ (p : Int) := fun z => hq (by rw [← z]; exact List.mem_map_of_mem hx)
    simpa using this
  have hvl : ∀ q ∈ w, vl ln q.1 ∈ ln := fun q hq => by
    have := hpp q hq
    have hq' : q.1.toNat < ln.length := by omega
    have hv := vl_get (List.getElem?_eq_getElem hq')
    rw [show ((q.1.toNat : Nat) : Int) = q.1 by omega] at hv
    rw [hv]
    exact List.getElem_mem hq'
  refine ⟨by rw [hs, List.length_drop], fun p i v e1 e2 => ?_, fun i e he hn => ?_, ?_, ?_, fun x hx => ?_⟩
  · rw [List.getElem?_drop] at e1
    rw [show 1 + p = p + 1 by omega] at e1
    have hpl := (List.getElem?_eq_some_iff.mp e1).1
    have hst : p + 1 < st.length := by rw [h.len]; exact hpl
    obtain ⟨g1, g2, e, w', g3, g4, g5, g6⟩ := h.inl (p + 1) i _ e1 (List.getElem?_eq_getElem hst)
    rw [rowI_app, rowW_at h.nd hpp e1]
    by_cases c : ((p + 1 : Nat) : Int) ∈ w.map (·.1)
    · obtain ⟨⟨q1, q2⟩, hq, hq1⟩ := List.mem_map.mp c
      dsimp only at hq1
      subst hq1
      obtain ⟨_, r2, r3, r4⟩ := hp _ hq
      dsimp only at r2 r3 r4
      have hv := hs1 p q2 hq
      rw [hv] at e2
      cases e2
      rw [show ((p + 1 : Nat) : Int).toNat = p + 1 by omega, List.getElem?_eq_getElem hst] at r4
      have r4 := Option.some.inj r4
      rw [r4] at g6
      refine ⟨by omega, g2, e, w', g3, g4, by omega, ?_⟩
      rw [key_one h1 hq]
      show goB f e.1 (rowI A i ++ [(t, q2)]) = _
      rw [go_snoc, g6]
      show (if t = t + 0 then some (t + 0 + f q2) else none) = _
      rw [if_pos (by omega)]
      congr 1
      omega
    · have hv := hs2 p _ c (List.getElem?_eq_getElem hst)
      rw [hv] at e2
      cases e2
      have hne : st[p + 1] ≠ 0 := fun z => c (hall p hpl (by rw [List.getElem?_eq_getElem hst, z]))
      refine ⟨by omega, g2, e, w', g3, g4, by omega, ?_⟩
      rw [hno c]
      show goB f e.1 (rowI A i ++ []) = _
      rw [List.append_nil, g6]
      congr 1
      omega
  · by_cases c : (i : Int) ∈ ln
    · obtain ⟨p, hpl, hpi⟩ := List.getElem_of_mem c
      have h0 : p = 0 := by
        match p, hpl, hpi with
        | 0, _, _ => rfl
        | p + 1, hpl, hpi => exact absurd (List.mem_iff_getElem.mpr ⟨p, by rw [List.length_drop]; omega, by rw [List.getElem_drop]; simpa [Nat.add_comm] using hpi⟩) hn
      subst h0
      have hi : ln[0]? = some (i : Int) := by rw [List.getElem?_eq_getElem hpl, hpi]
      have hst : 0 < st.length := by rw [h.len]; exact hpl
      obtain ⟨g1, g2, e', w', g3, g4, g5, g6⟩ := h.inl 0 i _ hi (List.getElem?_eq_getElem hst)
      rw [Int.toNat_natCast, he] at g3
      cases g3
      rw [rowI_app, rowW_at h.nd hpp hi, hno fun z => by
        obtain ⟨q, hq, e⟩ := List.mem_map.mp z
        have := (hpp q hq).1
        omega]
      show rowOk f (rowI A i ++ []) e = true
      rw [List.append_nil]
      unfold rowOk
      rw [g4]
      refine decide_eq_true ?_
      rw [g6]
      congr 1
      omega
    · have := h.out i e he c
      rw [rowI_app, rowI_none (A := layW t ln w) fun x hx => ?_, List.append_nil]
      · exact this
      · obtain ⟨q, hq, rfl⟩ := List.mem_map.mp hx
        exact fun z => c (by rw [← z]; exact hvl q hq)
  · exact h.nd.sublist (List.drop_sublist _ _)
  · rw [List.map_append]
    refine List.nodup_append.mpr ⟨h.lay, ?_, fun x hx y hy q => ?_⟩
    · unfold layW
      rw [List.map_map]
      have : (w.map (plT ∘ fun q => ((t, vl ln q.1, q.2) : Ent))) = (w.map (·.2)).map fun l => (t, l) := by
        rw [List.map_map]
        rfl
      rw [this]
      exact nd_map (fun a b z => (Prod.mk.inj z).2) h2
    · subst q
      obtain ⟨y2, hy2, e2⟩ := List.mem_map.mp hy
      obtain ⟨q, _, rfl⟩ := List.mem_map.mp hy2
      obtain ⟨z, hz, e⟩ := List.mem_map.mp hx
      rw [← e2] at e
      have := (h.lin z hz).1
      have := congrArg (·.1) e
      dsimp only [plT] at this
      omega
  · rcases List.mem_append.mp hx with c | c
    · have := h.lin x c
      omega
    · obtain ⟨q, hq, rfl⟩ := List.mem_map.mp c
      have := h.inE (hvl q hq)
      have := (hp q hq).2.1
      dsimp only
      omega
end
/-! ## the places at the switch -/
theorem enuL_fst {A : Type} : ∀ (k : Nat) (xs : List A), (enuL k xs).map (·.1) = rngL k (k + xs.length : Nat)
  | k, xs => by
    refine List.ext_getElem? fun i => ?_
    rw [List.getElem?_map, enuL_get]
    by_cases c : i < xs.length
    · rw [List.getElem?_eq_getElem c, rngL_at2 (by omega)]
      simp
    · rw [List.getElem?_eq_none (by omega), List.getElem?_eq_none (by rw [rngL_len]; omega)]
      rfl
theorem rngL_nd (a b : Int) : (rngL a b).Nodup := by
  unfold rngL
  exact nd_map (fun a b z => by omega) List.nodup_range
def sprL (st : List Int) (u : Int) : List Int := (((enuL 0 st).filter fun x => ((decide (x.1 > (0 : Int))) && (decide (x.2 = (0 : Int))))).map fun x => x.1) ++ (((rngL st.length u).filter fun x => (decide (x > (0 : Int)))).map fun x => x)
theorem sprL_mem {st : List Int} {u p : Int} : p ∈ sprL st u ↔ 0 < p ∧ ((p < st.length ∧ st[p.toNat]? = some 0) ∨ ((st.length : Int) ≤ p ∧ p < u)) := by
  unfold sprL
  rw [List.mem_append, List.mem_map, List.mem_map]
  constructor
  · rintro (⟨x, hx, rfl⟩ | ⟨x, hx, rfl⟩)
    · rw [List.mem_filter] at hx
      obtain ⟨hx, h2⟩ := hx
      simp only [Bool.and_eq_true, decide_eq_true_eq] at h2
      obtain ⟨i, hi⟩ := List.mem_iff_getElem?.mp hx
      rw [enuL_get] at hi
      obtain ⟨y, hy, rfl⟩ := Option.map_eq_some_iff.mp hi
      dsimp only at h2 ⊢
      have := (List.getElem?_eq_some_iff.mp hy).1
      refine ⟨h2.1, .inl ⟨by omega, ?_⟩⟩
      rw [show ((0 + i : Nat) : Int).toNat = i by omega, hy, h2.2]
    · rw [List.mem_filter] at hx
      obtain ⟨hx, h2⟩ := hx
      have hx := mem_rngL hx
      exact ⟨of_decide_eq_true h2, .inr hx⟩
  · rintro ⟨h0, (⟨h1, h2⟩ | ⟨h1, h2⟩)⟩
    · refine .inl ⟨(p, 0), List.mem_filter.mpr ⟨List.mem_iff_getElem?.mpr ⟨p.toNat, ?_⟩, ?_⟩, rfl⟩
      · rw [enuL_get, h2, Option.map_some]
        congr 2
        omega
      · simp [h0]
    · exact .inr ⟨p, List.mem_filter.mpr ⟨rngL_mem.mpr ⟨h1, h2⟩, decide_eq_true h0⟩, rfl⟩
theorem sprL_nd (st : List Int) (u : Int) : (sprL st u).Nodup := by
  unfold sprL
  refine List.nodup_append.mpr ⟨?_, ?_, fun x hx y hy q => ?_⟩
  · have h := (List.filter_sublist (l := enuL 0 st) (p := fun x => ((decide (x.1 > (0 : Int))) && (decide (x.2 = (0 : Int)))))).map (·.1)
    rw [enuL_fst] at h
    exact (rngL_nd _ _).sublist h
  · rw [List.map_id']
    exact (rngL_nd _ _).sublist List.filter_sublist
  · subst q
    obtain ⟨a, ha, rfl⟩ := List.mem_map.mp hx
    obtain ⟨b, hb, e⟩ := List.mem_map.mp hy
    have h1 : a.1 ∈ (enuL 0 st).map (·.1) := List.mem_map_of_mem (List.mem_filter.mp ha).1
    rw [enuL_fst] at h1
    have h1 := mem_rngL h1
    have h2 := mem_rngL (List.mem_filter.mp hb).1
    omega
/-! ## dicts that are written so -/
theorem ahas_map {X A B : Type} [DecidableEq A] {k : X → A} {v : X → B} (xs : List X) (a : A) : ahas (xs.map fun x => (k x, v x)) a = decide (a ∈ xs.map k) := by
  rw [ahas_keys]
  unfold akeys
  rw [List.map_map]
  rfl
theorem aget_map {X A B : Type} [DecidableEq A] {k : X → A} {v : X → B} : ∀ {xs : List X}, (xs.map k).Nodup → ∀ x ∈ xs, aget (xs.map fun x => (k x, v x)) (k x) = some (v x)
  | [], _, x, h => by cases h
  | y :: xs, n, x, h => by
    rw [List.map_cons, List.nodup_cons] at n
    unfold aget
    rw [List.map_cons]
    rcases List.mem_cons.mp h with q | q
    · subst q
      rw [List.find?_cons_of_pos (by simp)]
      rfl
    · have : k y ≠ k x := fun z => n.1 (by rw [z]; exact List.mem_map_of_mem q)
      rw [List.find?_cons_of_neg (by simpa using this)]
      exact aget_map n.2 x q
end Pu
namespace Pu
open PySem L2
/-! # typed: for k in d, for k, v in d.items() -/
/-! return (x, e) -/
end Pu
namespace Pu
open PySem L2
/-! # the game: stands, and how deep they are lost -/
/-- a stand for a bound -/
def StdOk (b : Int) (st : List Int) : Prop := (st.length : Int) ≤ b ∧ ∀ (p : Nat) (v : Int), st[p]? = some v → 0 ≤ v ∧ v ≤ p
/-- the places of a laying-out, its loops, and how they fit -/
def LayOk (ns sp : List Int) (w : List (Int × Int)) : Prop := w.map (·.1) = sp ∧ (w.map (·.2)).Nodup ∧ ∀ q ∈ w, (0 ≤ q.2 ∧ q.2 < (ns.length : Int)) ∧ vl ns q.2 ≤ q.1
theorem LayOk.len {ns sp : List Int} {w : List (Int × Int)} (h : LayOk ns sp w) : w.length = sp.length := by rw [← h.1, List.length_map]
/-- the stand to which a laying-out leads -/
def aftS (ns st : List Int) (u : Int) (w : List (Int × Int)) : List Int := (rngL 1 u).map fun p => (match aget (w.map fun x => (x.1, vl ns x.2)) p with
  | some v => v
  | none => vl st p) - 1
theorem aftS_len (ns st : List Int) (u : Int) (w : List (Int × Int)) : (aftS ns st u w).length = (u - 1).toNat := by
  unfold aftS
  rw [List.length_map, rngL_len]
theorem aftS_get {ns st : List Int} {u : Int} {w : List (Int × Int)} {p : Nat} (h : ((p + 1 : Nat) : Int) < u) : (aftS ns st u w)[p]? = some ((match aget (w.map fun x => (x.1, vl ns x.2)) ((p + 1 : Nat) : Int) with
  | some v => v
  | none => vl st ((p + 1 : Nat) : Int)) - 1) := by
  unfold aftS
  rw [List.getElem?_map, rngL_at2 (by omega), Option.map_some, show (1 : Int) + (p : Int) = ((p + 1 : Nat) : Int) by omega]
/-- what tells it -/
structure IsAft (ns st : List Int) (u : Int) (w : List (Int × Int)) (st' : List Int) : Prop where
  len : st'.length = (u - 1).toNat
  laid : ∀ (p : Nat) (l : Int), (((p + 1 : Nat) : Int), l) ∈ w → st'[p]? = some (vl ns l - 1)
  rest : ∀ (p : Nat) (v : Int), ((p + 1 : Nat) : Int) ∉ w.map (·.1) → st[p + 1]? = some v → st'[p]? = some (v - 1)
section
variable {ns st : List Int} {u : Int} {w : List (Int × Int)}
theorem lay_in_u (hw : LayOk ns (sprL st u) w) (hu : (st.length : Int) ≤ u) {p l : Int} (h : (p, l) ∈ w) : 0 < p ∧ p < u := by
  have := sprL_mem.mp (show p ∈ sprL st u by rw [← hw.1]; exact List.mem_map_of_mem (f := (·.1)) h)
  omega
theorem isAft_aftS (hw : LayOk ns (sprL st u) w) (hu : (st.length : Int) ≤ u) : IsAft ns st u w (aftS ns st u w) := by
  have nd : (w.map (·.1)).Nodup := by rw [hw.1]; exact sprL_nd _ _
  refine ⟨aftS_len .., fun p l h => ?_, fun p v h hv => ?_⟩
  · have := lay_in_u hw hu h
    rw [aftS_get this.2, aget_map (k := fun x : Int × Int => x.1) (v := fun x => vl ns x.2) nd _ h]
  · have hp := (List.getElem?_eq_some_iff.mp hv).1
    rw [aftS_get (by omega)]
    have hn : aget (w.map fun x => (x.1, vl ns x.2)) ((p + 1 : Nat) : Int) = none := by
      have e := ahas_map (k := fun x : Int × Int => x.1) (v := fun x => vl ns x.2) w ((p + 1 : Nat) : Int)
      rw [decide_eq_false h, ahas_get] at e
      exact Option.isSome_eq_false_iff.mp e |> Option.isNone_iff_eq_none.mp
    rw [hn]
    dsimp only
    rw [vl_get hv]
theorem isAft_eq (hw : LayOk ns (sprL st u) w) (hu : (st.length : Int) ≤ u) {st' : List Int} (h : IsAft ns st u w st') : st' = aftS ns st u w := by
  have h2 := isAft_aftS hw hu
  refine List.ext_getElem? fun p => ?_
  by_cases c : p < (u - 1).toNat
  · by_cases hm : ((p + 1 : Nat) : Int) ∈ w.map (·.1)
    · obtain ⟨⟨q1, q2⟩, hq, e⟩ := List.mem_map.mp hm
      dsimp only at e
      subst e
      rw [h.laid p q2 hq, h2.laid p q2 hq]
    · have hl : p + 1 < st.length := Classical.byContradiction fun z => hm (by rw [hw.1]; exact sprL_mem.mpr ⟨by omega, .inr ⟨by omega, by omega⟩⟩)
      rw [h.rest p _ hm (List.getElem?_eq_getElem hl), h2.rest p _ hm (List.getElem?_eq_getElem hl)]
  · rw [List.getElem?_eq_none (by rw [h.len]; omega), List.getElem?_eq_none (by rw [h2.len]; omega)]
theorem up_in {b L : Int} {k : Nat} (h : L ≤ b) : L ≤ up b L k ∧ up b L k ≤ b + 1 := by unfold up; split <;> omega
/-- and it is a stand again -/
theorem aft_std {b : Int} {k : Nat} (hn : ∀ x ∈ ns, 1 ≤ x) (hs : StdOk b st) (hw : LayOk ns (sprL st (up b st.length k)) w) : StdOk b (aftS ns st (up b st.length k) w) := by
  have hs1 := hs.1
  have hu := up_in (k := k) hs1
  have h := isAft_aftS hw hu.1
  refine ⟨by rw [h.len]; omega, fun p v hv => ?_⟩
  have hp := (List.getElem?_eq_some_iff.mp hv).1
  rw [h.len] at hp
  by_cases hm : ((p + 1 : Nat) : Int) ∈ w.map (·.1)
  · obtain ⟨⟨q1, q2⟩, hq, e⟩ := List.mem_map.mp hm
    dsimp only at e
    subst e
    rw [h.laid p q2 hq] at hv
    cases hv
    have h3 := hw.2.2 _ hq
    dsimp only at h3
    have : 1 ≤ vl ns q2 := hn _ (nth_mem (by omega))
    omega
  · have hl : p + 1 < st.length := Classical.byContradiction fun z => hm (by rw [hw.1]; exact sprL_mem.mpr ⟨by omega, .inr ⟨by omega, by omega⟩⟩)
    rw [h.rest p _ hm (List.getElem?_eq_getElem hl)] at hv
    cases hv
    have h3 := hs.2 (p + 1) _ (List.getElem?_eq_getElem hl)
    have : st[p + 1] ≠ 0 := fun z => hm (by rw [hw.1]; exact sprL_mem.mpr ⟨by omega, .inl ⟨by omega, by rw [Int.toNat_natCast, List.getElem?_eq_getElem hl, z]⟩⟩)
    omega
end
/-! ## ascending lists -/
theorem asc_ext {xs ys : List Int} (h1 : xs.Pairwise (· < ·)) (h2 : ys.Pairwise (· < ·)) (h : ∀ x, x ∈ xs ↔ x ∈ ys) : xs = ys := by
  have n1 : xs.Nodup := h1.imp fun z => by omega
  have n2 : ys.Nodup := h2.imp fun z => by omega
  exact srt_uniq ((List.perm_ext_iff_of_nodup n1 n2).mpr h) (h1.imp fun z => by omega) (h2.imp fun z => by omega)
theorem rngL_asc (a b : Int) : (rngL a b).Pairwise (· < ·) := by
  unfold rngL
  rw [List.pairwise_map]
  exact List.pairwise_lt_range.imp fun z => by omega
theorem sprL_asc (st : List Int) (u : Int) : (sprL st u).Pairwise (· < ·) := by
  unfold sprL
  refine List.pairwise_append.mpr ⟨?_, ?_, fun x hx y hy => ?_⟩
  · have h := (List.filter_sublist (l := enuL 0 st) (p := fun x => ((decide (x.1 > (0 : Int))) && (decide (x.2 = (0 : Int)))))).map (·.1)
    rw [enuL_fst] at h
    exact (rngL_asc _ _).sublist h
  · rw [List.map_id']
    exact (rngL_asc _ _).sublist List.filter_sublist
  · obtain ⟨a, ha, rfl⟩ := List.mem_map.mp hx
    obtain ⟨b, hb, rfl⟩ := List.mem_map.mp hy
    have h1 : a.1 ∈ (enuL 0 st).map (·.1) := List.mem_map_of_mem (f := (·.1)) (List.mem_filter.mp ha).1
    rw [enuL_fst] at h1
    have h1 := mem_rngL h1
    have h2 := mem_rngL (List.mem_filter.mp hb).1
    omega
/-! ## lost, by so many rounds -/
def FlS (ns : List Int) (c b : Int) : Nat → List Int → Prop
  | 0, _ => False
  | d + 1, st => FlS ns c b d st ∨ ∃ k : Nat, (k : Int) ≤ c ∧ ∀ w, LayOk ns (sprL st (up b st.length k)) w → FlS ns c b d (aftS ns st (up b st.length k) w)
section
variable {ns : List Int} {c b : Int}
theorem FlS.mono {d e : Nat} {st : List Int} (h : FlS ns c b d st) (hd : d ≤ e) : FlS ns c b e st := by
  induction e with
  | zero =>
    have : d = 0 := by omega
    subst this
    exact h
  | succ e ih =>
    by_cases q : d = e + 1
    · subst q; exact h
    · exact .inl (ih (by omega))
/-- a set of stands that is never left -/
def ClS (ns : List Int) (c b : Int) (X : List Int → Prop) : Prop := ∀ st, X st → ∀ (k : Nat), (k : Int) ≤ c → ∀ w, LayOk ns (sprL st (up b st.length k)) w → X (aftS ns st (up b st.length k) w)
end
/-! ## dicts that grow -/
theorem mem_keys {A B : Type} [DecidableEq A] {kvs : List (A × B)} {k : A} : k ∈ akeys kvs ↔ ∃ v, aget kvs k = some v := by
  have := ahas_get (kvs := kvs) (k := k)
  rw [ahas_keys] at this
  constructor
  · intro h
    rw [decide_eq_true h] at this
    exact Option.isSome_iff_exists.mp this.symm
  · rintro ⟨v, hv⟩
    rw [hv] at this
    exact of_decide_eq_true this
/-- the lost stands found in so many rounds -/
structure LostI (ns : List Int) (c b : Int) (X : List Int → Prop) (d : Nat) (f : List (List Int × Int × Int)) : Prop where
  nd : (akeys f).Nodup
  mem : ∀ st, st ∈ akeys f ↔ X st ∧ FlS ns c b d st
  val : ∀ st n e, aget f st = some (n, e) → (0 ≤ n ∧ n ≤ c) ∧ ∃ j : Nat, e = j ∧ j < d ∧ ¬ FlS ns c b j st ∧ ∀ w, LayOk ns (sprL st (up b st.length n.toNat)) w → FlS ns c b j (aftS ns st (up b st.length n.toNat) w)
theorem LostI.deep {ns : List Int} {c b : Int} {X : List Int → Prop} {d : Nat} {f : List (List Int × Int × Int)} (h : LostI ns c b X d f) {st : List Int} {n e : Int} (z : aget f st = some (n, e)) : ∃ j : Nat, e = j ∧ ¬ FlS ns c b j st ∧ FlS ns c b (j + 1) st := by
  obtain ⟨⟨a1, a2⟩, j, b1, b2, b3, b4⟩ := h.val st n e z
  exact ⟨j, b1, b3, .inr ⟨n.toNat, by omega, b4⟩⟩
/-! ## all stands of a bound -/
def layS : Nat → List (List Int)
  | 0 => [[]]
  | n + 1 => (layS n).flatMap fun st => (rngL 0 ((n : Int) + 1)).map fun l => st ++ [l]
theorem layS_mem : ∀ (n : Nat) (st : List Int), st ∈ layS n ↔ st.length = n ∧ ∀ (p : Nat) (v : Int), st[p]? = some v → 0 ≤ v ∧ v ≤ p
  | 0, st => by
    unfold layS
    rw [List.mem_singleton]
    constructor
    · rintro rfl
      exact ⟨rfl, fun p v h => by simp at h⟩
    · rintro ⟨h, _⟩
      exact List.eq_nil_of_length_eq_zero h
  | n + 1, st => by
    unfold layS
    rw [List.mem_flatMap]
    constructor
    · rintro ⟨s, hs, hm⟩
      obtain ⟨l, hl, rfl⟩ := List.mem_map.mp hm
      obtain ⟨h1, h2⟩ := (layS_mem n s).mp hs
      have hl := mem_rngL hl
      refine ⟨by simp [h1], fun p v hv => ?_⟩
      by_cases c : p < s.length
      · rw [List.getElem?_append_left c] at hv
        exact h2 p v hv
      · have hp := (List.getElem?_eq_some_iff.mp hv).1
        rw [List.length_append, List.length_singleton] at hp
        have : p = s.length := by omega
        subst this
        rw [List.getElem?_append_right (Nat.le_refl _), Nat.sub_self] at hv
        cases hv
        omega
    · rintro ⟨h1, h2⟩
      have hne : st ≠ [] := fun z => by rw [z] at h1; cases h1
      refine ⟨st.dropLast, (layS_mem n _).mpr ⟨by rw [List.length_dropLast, h1]; omega, fun p v hv => ?_⟩, ?_⟩
      · have hp := (List.getElem?_eq_some_iff.mp hv).1
        rw [List.length_dropLast] at hp
        rw [List.dropLast_eq_take, List.getElem?_take_of_lt (by omega)] at hv
        exact h2 p v hv
      · refine List.mem_map.mpr ⟨st.getLast hne, ?_, List.dropLast_concat_getLast hne⟩
        have hl : st[n]? = some (st.getLast hne) := by
          rw [List.getLast_eq_getElem, List.getElem?_eq_getElem (by omega)]
          congr 2
          omega
        have := h2 n _ hl
        exact rngL_mem.mpr ⟨by omega, by omega⟩
theorem layS_len (n : Nat) : (layS (n + 1)).length = (layS n).length * (n + 1) := by
  have e : layS (n + 1) = (layS n).flatMap fun st => (rngL 0 ((n : Int) + 1)).map fun l => st ++ [l] := rfl
  rw [e]
  generalize layS n = xs
  induction xs with
  | nil => simp
  | cons x xs ih =>
    rw [List.flatMap_cons, List.length_append, ih, List.length_map, rngL_len, List.length_cons, Nat.add_mul, Nat.one_mul, show ((n : Int) + 1 - 0).toNat = n + 1 by omega]
    omega
def allS (b : Nat) : List (List Int) := (List.range (b + 1)).flatMap layS
theorem allS_mem {b : Nat} {st : List Int} : st ∈ allS b ↔ StdOk b st := by
  unfold allS
  rw [List.mem_flatMap]
  constructor
  · rintro ⟨n, hn, h⟩
    obtain ⟨h1, h2⟩ := (layS_mem n st).mp h
    have := List.mem_range.mp hn
    exact ⟨by omega, h2⟩
  · rintro ⟨h1, h2⟩
    exact ⟨st.length, List.mem_range.mpr (by omega), (layS_mem _ _).mpr ⟨rfl, h2⟩⟩
theorem allS_succ (b : Nat) : allS (b + 1) = allS b ++ layS (b + 1) := by
  unfold allS
  rw [List.range_succ, List.flatMap_append]
  congr 1
  exact List.flatMap_singleton ..
theorem allS_few {b : Nat} (h : b ≤ 6) : (allS b).length ≤ 874 ∧ (b ≤ 5 → (allS b).length ≤ 154) := by
  have h0 : (layS 0).length = 1 := rfl
  have h1 : (layS 1).length = (layS 0).length * 1 := layS_len 0
  have h2 : (layS 2).length = (layS 1).length * 2 := layS_len 1
  have h3 : (layS 3).length = (layS 2).length * 3 := layS_len 2
  have h4 : (layS 4).length = (layS 3).length * 4 := layS_len 3
  have h5 : (layS 5).length = (layS 4).length * 5 := layS_len 4
  have h6 : (layS 6).length = (layS 5).length * 6 := layS_len 5
  have a0 : (allS 0).length = 1 := rfl
  have as : ∀ b, (allS (b + 1)).length = (allS b).length + (layS (b + 1)).length := fun b => by rw [allS_succ, List.length_append]
  have a1 : (allS 1).length = (allS 0).length + (layS 1).length := as 0
  have a2 : (allS 2).length = (allS 1).length + (layS 2).length := as 1
  have a3 : (allS 3).length = (allS 2).length + (layS 3).length := as 2
  have a4 : (allS 4).length = (allS 3).length + (layS 4).length := as 3
  have a5 : (allS 5).length = (allS 4).length + (layS 5).length := as 4
  have a6 : (allS 6).length = (allS 5).length + (layS 6).length := as 5
  have : b = 0 ∨ b = 1 ∨ b = 2 ∨ b = 3 ∨ b = 4 ∨ b = 5 ∨ b = 6 := by omega
  rcases this with z | z | z | z | z | z | z <;> subst z <;> omega
/-- no more stands than there are -/
theorem std_few {b : Nat} {ks : List (List Int)} (h : ks.Nodup) (hs : ∀ st ∈ ks, StdOk b st) : ks.length ≤ (allS b).length := nodup_le h fun st hst => allS_mem.mpr (hs st hst)
end Pu
namespace Pu
open PySem L2
/-! # all layings-out, place by place -/
theorem lay_snoc {ns sp : List Int} {pl : Int} {w : List (Int × Int)} : LayOk ns (sp ++ [pl]) w ↔ ∃ w0 l, LayOk ns sp w0 ∧ (0 ≤ l ∧ l < (ns.length : Int)) ∧ vl ns l ≤ pl ∧ l ∉ w0.map (·.2) ∧ w = w0 ++ [(pl, l)] := by
  constructor
  · rintro ⟨h1, h2, h3⟩
    have hne : w ≠ [] := fun z => by
      rw [z] at h1
      have := congrArg List.length h1
      simp at this
    have e := List.dropLast_concat_getLast hne
    generalize w.dropLast = w0 at e
    generalize w.getLast hne = q at e
    subst e
    rw [List.map_append] at h1 h2
    obtain ⟨e1, e2⟩ := List.append_inj' h1 rfl
    obtain ⟨q1, q2⟩ := q
    have e2 : q1 = pl := by simpa using e2
    subst e2
    have hq := h3 (q1, q2) (by simp)
    obtain ⟨n1, _, n3⟩ := List.nodup_append.mp h2
    exact ⟨w0, q2, ⟨e1, n1, fun q hq => h3 q (List.mem_append_left _ hq)⟩, hq.1, hq.2, fun z => n3 q2 z q2 (by simp) rfl, rfl⟩
  · rintro ⟨w0, l, ⟨h1, h2, h3⟩, hl, hv, hn, rfl⟩
    refine ⟨by rw [List.map_append, h1]; rfl, ?_, fun q hq => ?_⟩
    · rw [List.map_append]
      exact List.nodup_append.mpr ⟨h2, by simp, fun a ha b hb e => hn (by rw [← (List.mem_singleton.mp hb : b = l), ← e]; exact ha)⟩
    · rcases List.mem_append.mp hq with z | z
      · exact h3 q z
      · rw [List.mem_singleton.mp z]
        exact ⟨hl, hv⟩
end Pu
namespace Pu
open PySem L2
/-- the first that will do -/
theorem forR_first {A P : Type} {f : A → Unit → Rt (Lp Unit P)} {p : A → Bool} {g : A → P} : ∀ xs : List A, (∀ x ∈ xs, f x () = if p x = true then .ok (.rt (g x)) else .ok (.nx ())) → forR xs () f = .ok (match xs.find? p with
  | none => .inl ()
  | some x => .inr (g x))
  | [], _ => rfl
  | x :: xs, h => by
    unfold forR
    rw [h x List.mem_cons_self]
    by_cases c : p x = true
    · rw [if_pos c, List.find?_cons_of_pos c]
      rfl
    · rw [if_neg c, List.find?_cons_of_neg c]
      exact forR_first xs fun y hy => h y (List.mem_cons_of_mem _ hy)
/-! # known and waiting -/
structure KW (b : Int) (F : List Int → Prop) (known : List (List Int × Bool)) (waiting : List (List Int)) : Prop where
  nk : (akeys known).Nodup
  nw : waiting.Nodup
  iff : ∀ st, st ∈ akeys known ↔ F st ∨ st ∈ waiting
  dis : ∀ st, F st → st ∉ waiting
  std : ∀ st ∈ akeys known, StdOk b st
theorem KW.few {b : Int} {F : List Int → Prop} {known : List (List Int × Bool)} {waiting : List (List Int)} (h : KW b F known waiting) (h0 : 0 ≤ b) (hb : b ≤ 6) : known.length ≤ 874 ∧ waiting.length ≤ 874 := by
  have hk := std_few (b := b.toNat) h.nk fun st hst => by rw [show ((b.toNat : Nat) : Int) = b by omega]; exact h.std st hst
  have hw := std_few (b := b.toNat) h.nw fun st hst => by rw [show ((b.toNat : Nat) : Int) = b by omega]; exact h.std st ((h.iff st).mpr (.inr hst))
  have := (allS_few (b := b.toNat) (by omega)).1
  rw [← akeys_len] at hk
  omega
/-- the waiting one goes over to the found ones -/
theorem KW.take {b : Int} {F : List Int → Prop} {known : List (List Int × Bool)} {waiting rest : List (List Int)} {a : List Int} (h : KW b F known waiting) (e : waiting = rest ++ [a]) : KW b (fun st => F st ∨ st = a) known rest ∧ ¬ F a ∧ StdOk b a := by
  subst e
  obtain ⟨n1, _, n3⟩ := List.nodup_append.mp h.nw
  have ha : a ∉ rest := fun z => n3 a z a (by simp) rfl
  have hFa : ¬ F a := fun z => h.dis a z (by simp)
  refine ⟨⟨h.nk, n1, fun st => ?_, fun st z z2 => ?_, h.std⟩, hFa, h.std a ((h.iff a).mpr (.inr (by simp)))⟩
  · rw [h.iff, List.mem_append, List.mem_singleton]
    constructor
    · rintro (z | z | z)
      · exact .inl (.inl z)
      · exact .inr z
      · exact .inl (.inr z)
    · rintro ((z | z) | z)
      · exact .inl z
      · exact .inr (.inr z)
      · exact .inr (.inl z)
  · rcases z with z | z
    · exact h.dis st z (List.mem_append_left _ z2)
    · rw [z] at z2
      exact ha z2
/-! # what a round finds -/
structure Frs (ns : List Int) (c b : Int) (X : List Int → Prop) (d : Nat) (done : List (List Int)) (L : List (List Int × Int)) : Prop where
  ok : ∀ q ∈ L, X q.1 ∧ ¬ FlS ns c b d q.1 ∧ (0 ≤ q.2 ∧ q.2 ≤ c) ∧ ∀ w, LayOk ns (sprL q.1 (up b q.1.length q.2.toNat)) w → FlS ns c b d (aftS ns q.1 (up b q.1.length q.2.toNat) w)
  all : ∀ st ∈ done, ¬ FlS ns c b d st → FlS ns c b (d + 1) st → ∃ n, (st, n) ∈ L
  few : L.length ≤ done.length
section
variable {ns : List Int} {c b : Int} {X : List Int → Prop} {d : Nat} {done : List (List Int)} {L : List (List Int × Int)}
theorem Frs.nil : Frs ns c b X d [] [] := ⟨fun q h => (nomatch h), fun q h => (nomatch h), Nat.le_refl _⟩
theorem Frs.no (h : Frs ns c b X d done L) {st : List Int} (hs : FlS ns c b (d + 1) st → FlS ns c b d st) : Frs ns c b X d (done ++ [st]) L := by
  refine ⟨h.ok, fun s z a1 a2 => ?_, by have := h.few; simp; omega⟩
  rcases List.mem_append.mp z with z | z
  · exact h.all s z a1 a2
  · rw [List.mem_singleton.mp z] at a1 a2
    exact absurd (hs a2) a1
end
/-! # both lists -/
structure KeptP (ns : List Int) (c b : Int) (Y : List Int → Prop) (K : List (List Int × List (Option (List (Int × Int))))) : Prop where
  nd : (akeys K).Nodup
  iff : ∀ st, st ∈ akeys K ↔ Y st
  val : ∀ st vs, aget K st = some vs → (vs.length : Int) = c + 1 ∧ ∀ (k : Nat) v, vs[k]? = some v → ∃ w, v = some w ∧ LayOk ns (sprL st (up b st.length k)) w ∧ Y (aftS ns st (up b st.length k) w)
end Pu
namespace Pu
open PySem L2
/-! # families of stands that can be kept -/
def KeepS (ns : List Int) (c b : Int) (X : List Int → Prop) : Prop := ∀ st, X st → ∀ k : Nat, (k : Int) ≤ c → ∃ w, LayOk ns (sprL st (up b st.length k)) w ∧ X (aftS ns st (up b st.length k) w)
section
variable {ns : List Int} {c b : Int} {X : List Int → Prop}
theorem KeepS.no (h : KeepS ns c b X) : ∀ (d : Nat) (st : List Int), X st → ¬ FlS ns c b d st
  | 0, st, _, z => z
  | d + 1, st, hx, z => by
    rcases z with z | ⟨k, hk, z⟩
    · exact h.no d st hx z
    · obtain ⟨w, hw, hx2⟩ := h st hx k hk
      exact h.no d _ hx2 (z w hw)
/-- what is kept with a greater bound -/
theorem KeepS.less (h : KeepS ns c b X) {b' : Int} (hb : b' ≤ b) : KeepS ns c b' fun st => X st ∧ (st.length : Int) ≤ b' := fun st ⟨hx, hl⟩ k hk => by
  have hu := up_in (b := b') (k := k) hl
  have hk2 : up b' st.length k - st.length ≤ k := by unfold up; split <;> omega
  obtain ⟨w, hw, hx2⟩ := h st hx (up b' st.length k - st.length).toNat (by omega)
  have e : up b st.length (up b' st.length k - st.length).toNat = up b' st.length k := by
    generalize up b' st.length k = u at hu
    unfold up
    rw [if_pos (by omega)]
    omega
  rw [e] at hw hx2
  exact ⟨w, hw, hx2, by rw [aftS_len]; omega⟩
theorem KeepS.std (h : KeepS ns c b X) (hp : ∀ x ∈ ns, 1 ≤ x) : KeepS ns c b fun st => X st ∧ StdOk b st := fun st ⟨hx, hs⟩ k hk => by
  obtain ⟨w, hw, hx2⟩ := h st hx k hk
  exact ⟨w, hw, hx2, aft_std hp hs hw⟩
/-! ## how many a loop holds -/
/-- the loop of a place, and when the letter comes back -/
def hP (ns st : List Int) (g : Nat → Int) (w : List (Int × Int)) (p : Nat) : Int × Int := match w.find? fun q => decide (q.1 = (p : Int)) with
  | some q => (q.2, vl ns q.2)
  | none => (g p, vl st p)
/-! ## the reach -/
end
end Pu
namespace Pu
open PySem L2
/-! # a safe table keeps its stands -/
/-- the entries of a wait -/
def entW (ns : List Int) (rows : List (List Int)) (w : Int) : List Ent := (([] : List Ent) :: rows.map (entR ns)).getD w.toNat []
theorem entL_next {f : Int → Int} : ∀ (r : List Int) (g l : Int), (∀ k ∈ r, 1 ≤ f k) → (r.map f).sum = l → ∀ e ∈ entL f g l r, (0 ≤ e.2.2 - f e.1 ∧ (e.2.2 - f e.1 = 0 ∨ ∃ e' ∈ entL f g l r, e'.2.2 = e.2.2 - f e.1)) ∧ e.2.2 ≤ l ∧ 1 ≤ e.2.2 ∧ ∀ e' ∈ entL f g l r, e'.2.2 < e.2.2 → e'.2.2 ≤ e.2.2 - f e.1
  | [], _, _, _, _, e, he => by cases he
  | k :: r, g, l, h, hs, e, he => by
    have hk := h k List.mem_cons_self
    have hr : ∀ k ∈ r, 1 ≤ f k := fun x hx => h x (List.mem_cons_of_mem _ hx)
    rw [List.map_cons, List.sum_cons] at hs
    have ih := entL_next r (g + f k) (l - f k) hr (by omega)
    have hpos : ∀ xs : List Int, (∀ k ∈ xs, 1 ≤ f k) → 0 ≤ (xs.map f).sum := fun xs => by
      induction xs with
      | nil => intro _; simp
      | cons x xs ih =>
        intro h
        have := ih fun k hk => h k (List.mem_cons_of_mem _ hk)
        have := h x List.mem_cons_self
        rw [List.map_cons, List.sum_cons]
        omega
    have h0 := hpos r hr
    rw [entL] at he ⊢
    rcases List.mem_cons.mp he with rfl | he
    · dsimp only
      refine ⟨⟨by omega, ?_⟩, Int.le_refl _, by omega, fun e' he' hlt => ?_⟩
      · cases r with
        | nil =>
          simp only [List.map_nil, List.sum_nil] at hs
          exact .inl (by omega)
        | cons k2 r =>
          exact .inr ⟨(k2, g + f k, l - f k), List.mem_cons_of_mem _ (by rw [entL]; exact List.mem_cons_self), rfl⟩
      · rcases List.mem_cons.mp he' with rfl | he'
        · dsimp only at hlt
          omega
        · exact (ih e' he').2.1
    · obtain ⟨⟨a1, a2⟩, a3, a4, a5⟩ := ih e he
      refine ⟨⟨a1, ?_⟩, by omega, a4, fun e' he' hlt => ?_⟩
      · rcases a2 with z | ⟨e', he', z⟩
        · exact .inl z
        · exact .inr ⟨e', List.mem_cons_of_mem _ he', z⟩
      · rcases List.mem_cons.mp he' with rfl | he'
        · dsimp only at hlt
          omega
        · exact a5 e' he' hlt
structure EW (ns : List Int) (rows : List (List Int)) (w : Int) (E : List Ent) : Prop where
  ok : ∀ e ∈ E, (0 ≤ e.1 ∧ e.1 < (ns.length : Int)) ∧ 1 ≤ vl ns e.1 ∧ (0 ≤ e.2.1 ∧ e.2.1 + e.2.2 = w) ∧ 1 ≤ e.2.2 ∧ e ∈ ents ns rows
  nxt : ∀ e ∈ E, 0 ≤ e.2.2 - vl ns e.1 ∧ (e.2.2 - vl ns e.1 = 0 ∨ ∃ e' ∈ E, e'.2.2 = e.2.2 - vl ns e.1)
  les : ∀ e ∈ E, ∀ e' ∈ E, e'.2.2 < e.2.2 → e'.2.2 ≤ e.2.2 - vl ns e.1
  asc : E.Pairwise fun a b => b.2.2 < a.2.2
  fst : 1 ≤ w → ∃ e ∈ E, e.2.2 = w
theorem entW_ok {ns : List Int} {rows : List (List Int)} (h : Tab ns rows) {w : Int} (h0 : 0 ≤ w) (h1 : w ≤ rows.length) : EW ns rows w (entW ns rows w) := by
  by_cases c : w = 0
  · subst c
    exact ⟨fun e he => (nomatch he), fun e he => (nomatch he), fun e he => (nomatch he), .nil, fun z => by omega⟩
  · obtain ⟨r, e1, e2, e3⟩ := ent_in h (w := w) (by omega) h1
    unfold entW
    rw [e1]
    have hpos : ∀ k ∈ r, 1 ≤ vl ns k := fun k hk => (vl_pos h.lps (e3.ok k hk)).1
    have hn := entL_next (f := vl ns) r 0 (r.map (vl ns)).sum hpos rfl
    have hE : entR ns r = entL (vl ns) 0 (r.map (vl ns)).sum r := rfl
    have hs := fun e he => entR_sum h.lps e3 (e := e) he
    refine ⟨fun e he => ?_, fun e he => ?_, fun e he e' he' => ?_, ?_, fun _ => ?_⟩
    · have := hs e he
      exact ⟨e3.ok _ this.1, hpos _ this.1, this.2, (hn e (by rw [← hE]; exact he)).2.2.1, List.mem_flatMap.mpr ⟨r, e2, he⟩⟩
    · have := (hn e (by rw [← hE]; exact he)).1
      rw [hE]
      exact this
    · exact (hn e (by rw [← hE]; exact he)).2.2.2 e' (by rw [← hE]; exact he')
    · refine (entR_gone h.lps e3.ok).imp_of_mem fun {a b} ha hb hab => ?_
      have := (hs a ha).2
      have := (hs b hb).2
      omega
    · cases r with
      | nil =>
        have := e3.sum
        simp at this
        omega
      | cons k r =>
        refine ⟨(k, 0, ((k :: r).map (vl ns)).sum), ?_, e3.sum⟩
        rw [hE, entL]
        exact List.mem_cons_self
/-- the next place at the switch -/
def nxE (E : List Ent) (p : Int) : Int := ((E.map (·.2.2)).filter fun l => decide (l ≤ p)).foldl max 0
structure IsNx (E : List Ent) (p m : Int) : Prop where
  nn : 0 ≤ m
  le : m ≤ p
  isE : m = 0 ∨ ∃ e ∈ E, e.2.2 = m
  most : ∀ e ∈ E, e.2.2 ≤ p → e.2.2 ≤ m
theorem mx_spec : ∀ (xs : List Int) (a : Int), a ≤ xs.foldl max a ∧ (∀ x ∈ xs, x ≤ xs.foldl max a) ∧ (xs.foldl max a = a ∨ xs.foldl max a ∈ xs)
  | [], a => ⟨Int.le_refl _, fun x h => (nomatch h), .inl rfl⟩
  | x :: xs, a => by
    obtain ⟨h1, h2, h3⟩ := mx_spec xs (max a x)
    rw [List.foldl_cons]
    refine ⟨by omega, fun y hy => ?_, ?_⟩
    · rcases List.mem_cons.mp hy with rfl | hy
      · omega
      · exact h2 y hy
    · rcases h3 with z | z
      · rw [z]
        by_cases q : x ≤ a
        · exact .inl (by omega)
        · exact .inr (by rw [show max a x = x by omega]; exact List.mem_cons_self)
      · exact .inr (List.mem_cons_of_mem _ z)
theorem isNx_nxE (E : List Ent) {p : Int} (h : 0 ≤ p) : IsNx E p (nxE E p) := by
  obtain ⟨h1, h2, h3⟩ := mx_spec ((E.map (·.2.2)).filter fun l => decide (l ≤ p)) 0
  have hm : ∀ l, l ∈ ((E.map (·.2.2)).filter fun l => decide (l ≤ p)) ↔ (∃ e ∈ E, e.2.2 = l) ∧ l ≤ p := fun l => by
    rw [List.mem_filter, List.mem_map, decide_eq_true_eq]
  unfold nxE
  refine ⟨h1, ?_, ?_, fun e he hle => h2 _ ((hm _).mpr ⟨⟨e, he, rfl⟩, hle⟩)⟩
  · rcases h3 with z | z
    · omega
    · exact ((hm _).mp z).2
  · rcases h3 with z | z
    · exact .inl z
    · exact .inr ((hm _).mp z).1
theorem IsNx.uniq {E : List Ent} {p m m' : Int} (h : IsNx E p m) (h' : IsNx E p m') : m = m' := by
  have a := h.nn
  have a' := h'.nn
  have b : m ≤ m' := by
    rcases h.isE with z | ⟨e, he, z⟩
    · omega
    · rw [← z]
      exact h'.most e he (by rw [z]; exact h.le)
  have b' : m' ≤ m := by
    rcases h'.isE with z | ⟨e, he, z⟩
    · omega
    · rw [← z]
      exact h.most e he (by rw [z]; exact h'.le)
  omega
/-- the waits of the letters in a line -/
structure WaitS (c b : Int) (row : List Int) : Prop where
  len : (row.length : Int) ≤ b
  at' : ∀ (p : Nat) (w : Int), row[p]? = some w → (p : Int) < w ∧ w ≤ b
  tail : ∀ (p : Nat) (w : Int), row[p]? = some w → (row.length : Int) - p ≤ c * (w - p)
  two : ∀ (p q : Nat) (w v : Int), p < q → row[p]? = some w → row[q]? = some v → v - q ≤ w - p ∧ (q : Int) - p + 1 ≤ c * ((w - p) - (v - q) + 1)
/-- with those that came -/
structure LonS (c b : Int) (row : List Int) : Prop where
  len : (row.length : Int) ≤ b + 1
  at' : ∀ (p : Nat) (w : Int), row[p]? = some w → (p : Int) ≤ w ∧ w ≤ b
  two : ∀ (p q : Nat) (w v : Int), p < q → row[p]? = some w → row[q]? = some v → v - q ≤ w - p ∧ (q : Int) - p + 1 ≤ c * ((w - p) - (v - q) + 1)
def lonW (row : List Int) (u : Int) : List Int := row ++ rngL row.length u
theorem lonW_len {row : List Int} {u : Int} (h : (row.length : Int) ≤ u) : ((lonW row u).length : Int) = u := by
  unfold lonW
  rw [List.length_append, rngL_len]
  omega
theorem lonW_get {row : List Int} {u : Int} {p : Nat} {w : Int} (h : (lonW row u)[p]? = some w) : (p < row.length ∧ row[p]? = some w) ∨ ((row.length : Int) ≤ p ∧ (p : Int) < u ∧ w = p) := by
  unfold lonW at h
  by_cases c : p < row.length
  · rw [List.getElem?_append_left c] at h
    exact .inl ⟨c, h⟩
  · rw [List.getElem?_append_right (by omega)] at h
    have := rngL_get h
    exact .inr ⟨by omega, by omega, by omega⟩
theorem WaitS.nil {c b : Int} (hb : 0 ≤ b) : WaitS c b [] := ⟨hb, fun p w h => by simp at h, fun p w h => by simp at h, fun p q w v _ h => by simp at h⟩
theorem WaitS.lon {c b : Int} {row : List Int} (h : WaitS c b row) {k : Nat} (hk : (k : Int) ≤ c) : LonS c b (lonW row (up b row.length k)) ∧ WaitS c b ((lonW row (up b row.length k)).drop 1) := by
  have hu := up_in (k := k) h.len
  have huk : up b row.length k - row.length ≤ k := by unfold up; split <;> omega
  generalize up b row.length k = u at hu huk
  have hl := lonW_len hu.1
  have hlon : LonS c b (lonW row u) := by
    refine ⟨by omega, fun p w hw => ?_, fun p q w v hpq hw hv => ?_⟩
    · rcases lonW_get hw with ⟨_, z⟩ | ⟨z1, z2, z3⟩
      · have := h.at' p w z
        omega
      · omega
    · rcases lonW_get hw with ⟨z0, z⟩ | ⟨z1, z2, z3⟩
      · rcases lonW_get hv with ⟨_, y⟩ | ⟨y1, y2, y3⟩
        · exact h.two p q w v hpq z y
        · have a := h.at' p w z
          have t := h.tail p w z
          rw [y3, show w - p - ((q : Int) - q) + 1 = (w - p) + 1 by omega, Int.mul_add, Int.mul_one]
          omega
      · rcases lonW_get hv with ⟨y0, y⟩ | ⟨y1, y2, y3⟩
        · omega
        · rw [z3, y3, show (p : Int) - p - ((q : Int) - q) + 1 = 1 by omega, Int.mul_one]
          omega
  refine ⟨hlon, ?_⟩
  have hd : ((lonW row u).drop 1).length = (lonW row u).length - 1 := List.length_drop
  have hg : ∀ p : Nat, ((lonW row u).drop 1)[p]? = (lonW row u)[p + 1]? := fun p => by rw [List.getElem?_drop, Nat.add_comm]
  have hlen := h.len
  refine ⟨by omega, fun p w hw => ?_, fun p w hw => ?_, fun p q w v hpq hw hv => ?_⟩
  · rw [hg] at hw
    have := hlon.at' _ w hw
    omega
  · rw [hg] at hw
    have hp := (List.getElem?_eq_some_iff.mp hw).1
    rcases lonW_get hw with ⟨_, z⟩ | ⟨z1, z2, z3⟩
    · have t := h.tail _ w z
      rw [show w - (p : Int) = (w - ((p + 1 : Nat) : Int)) + 1 by omega, Int.mul_add, Int.mul_one]
      omega
    · rw [show w - (p : Int) = 1 by omega, Int.mul_one]
      omega
  · rw [hg] at hw hv
    have := hlon.two (p + 1) (q + 1) w v (by omega) hw hv
    rw [show w - (p : Int) - (v - q) + 1 = w - ((p + 1 : Nat) : Int) - (v - ((q + 1 : Nat) : Int)) + 1 by omega]
    omega
/-- the stand of the waits -/
def stW (ns : List Int) (rows : List (List Int)) (row : List Int) : List Int := (enuL 0 row).map fun x => x.1 - nxE (entW ns rows x.2) x.1
theorem stW_len (ns : List Int) (rows : List (List Int)) (row : List Int) : (stW ns rows row).length = row.length := by
  unfold stW
  rw [List.length_map, enuL_len]
theorem stW_get {ns : List Int} {rows : List (List Int)} {row : List Int} {p : Nat} : (stW ns rows row)[p]? = row[p]?.map fun w => (p : Int) - nxE (entW ns rows w) p := by
  unfold stW
  rw [List.getElem?_map, enuL_get, Option.map_map, Nat.zero_add]
  rfl
/-- what the table lays -/
def laysW (ns : List Int) (rows : List (List Int)) (row : List Int) : List (Int × Int) := (enuL 0 row).flatMap fun x => ((entW ns rows x.2).filter fun e => decide (e.2.2 = x.1)).map fun e => (x.1, e.1)
theorem laysW_mem {ns : List Int} {rows : List (List Int)} {row : List Int} {q : Int × Int} : q ∈ laysW ns rows row ↔ ∃ (p : Nat) (w : Int) (e : Ent), row[p]? = some w ∧ e ∈ entW ns rows w ∧ e.2.2 = (p : Int) ∧ q = ((p : Int), e.1) := by
  unfold laysW
  rw [List.mem_flatMap]
  constructor
  · rintro ⟨x, hx, hq⟩
    obtain ⟨p, hp⟩ := List.mem_iff_getElem?.mp hx
    rw [enuL_get, Nat.zero_add] at hp
    obtain ⟨w, hw, rfl⟩ := Option.map_eq_some_iff.mp hp
    obtain ⟨e, he, rfl⟩ := List.mem_map.mp hq
    obtain ⟨he, h2⟩ := List.mem_filter.mp he
    exact ⟨p, w, e, hw, he, of_decide_eq_true h2, rfl⟩
  · rintro ⟨p, w, e, hw, he, h2, rfl⟩
    exact ⟨((p : Int), w), List.mem_iff_getElem?.mpr ⟨p, by rw [enuL_get, hw, Nat.zero_add]; rfl⟩, List.mem_map.mpr ⟨e, List.mem_filter.mpr ⟨he, decide_eq_true h2⟩, rfl⟩⟩
theorem enuL_asc {A : Type} : ∀ (k : Nat) (xs : List A), (enuL k xs).Pairwise fun a b => a.1 < b.1
  | k, xs => by
    have h := rngL_asc (k : Int) ((k + xs.length : Nat) : Int)
    rw [← enuL_fst, List.pairwise_map] at h
    exact h
section
variable {ns : List Int} {rows : List (List Int)} {c b : Int} {row : List Int}
theorem laysW_asc (h : Tab ns rows) (hb : b ≤ rows.length) (hl : LonS c b row) : (laysW ns rows row).Pairwise fun a b => a.1 < b.1 := by
  unfold laysW
  rw [List.pairwise_flatMap]
  refine ⟨fun x hx => ?_, (enuL_asc 0 row).imp fun {x y} hxy a ha b hb => ?_⟩
  · obtain ⟨p, hp⟩ := List.mem_iff_getElem?.mp hx
    rw [enuL_get, Nat.zero_add] at hp
    obtain ⟨w, hw, rfl⟩ := Option.map_eq_some_iff.mp hp
    have ha := hl.at' p w hw
    have hE := entW_ok h (w := w) (by omega) (by omega)
    rw [List.pairwise_map]
    refine (hE.asc.filter _).imp_of_mem fun {a b} ha hb hab => ?_
    have h1 := of_decide_eq_true (List.mem_filter.mp ha).2
    have h2 := of_decide_eq_true (List.mem_filter.mp hb).2
    omega
  · obtain ⟨_, _, rfl⟩ := List.mem_map.mp ha
    obtain ⟨_, _, rfl⟩ := List.mem_map.mp hb
    exact hxy
theorem laysW_two (h : Tab ns rows) (hb : b ≤ rows.length) (hl : LonS c b row) (hc : 0 ≤ c) (hn : clsT c ns rows = []) : ((laysW ns rows row).map (·.2)).Nodup := by
  rw [List.Nodup, List.pairwise_map]
  refine (laysW_asc h hb hl).imp_of_mem fun {x y} hx hy hxy e => ?_
  obtain ⟨p, w, e1, hw, he1, hp, rfl⟩ := laysW_mem.mp hx
  obtain ⟨q, v, e2, hv, he2, hq, rfl⟩ := laysW_mem.mp hy
  dsimp only at hxy e
  have t := hl.two p q w v (by omega) hw hv
  have a1 := hl.at' p w hw
  have a2 := hl.at' q v hv
  have E1 := (entW_ok h (w := w) (by omega) (by omega)).ok e1 he1
  have E2 := (entW_ok h (w := v) (by omega) (by omega)).ok e2 he2
  have ht : hit c e1 e2 = true := by
    rw [hit_iff]
    have e3 : c * (e1.2.1 - e2.2.1) + c = c * (w - p - (v - q) + 1) := by
      rw [show w - (p : Int) - (v - q) + 1 = (e1.2.1 - e2.2.1) + 1 by omega, Int.mul_add, Int.mul_one]
    refine ⟨e, by omega, by omega, by omega⟩
  have : (e1, e2) ∈ clsT c ns rows := clsT_mem.mpr ⟨E1.2.2.2.2, E2.2.2.2.2, ht⟩
  rw [hn] at this
  cases this
theorem laysW_ok (h : Tab ns rows) (hb : b ≤ rows.length) (hw : WaitS c b row) (hc : 0 ≤ c) (hn : clsT c ns rows = []) {k : Nat} (hk : (k : Int) ≤ c) : LayOk ns (sprL (stW ns rows row) (up b row.length k)) (laysW ns rows (lonW row (up b row.length k))) := by
  obtain ⟨hl, hd⟩ := hw.lon hk
  have hu := up_in (k := k) hw.len
  generalize up b row.length k = u at hl hd hu
  refine ⟨asc_ext (List.pairwise_map.mpr (laysW_asc h hb hl)) (sprL_asc _ _) fun x => ?_, laysW_two h hb hl hc hn, fun q hq => ?_⟩
  · rw [List.mem_map, sprL_mem, stW_len]
    constructor
    · rintro ⟨q, hq, rfl⟩
      obtain ⟨p, w, e, hpw, he, hp, rfl⟩ := laysW_mem.mp hq
      have a := hl.at' p w hpw
      have E := entW_ok h (w := w) (by omega) (by omega)
      have e1 := (E.ok e he).2.2.2.1
      refine ⟨by dsimp only; omega, ?_⟩
      rcases lonW_get hpw with ⟨z0, z⟩ | ⟨z1, z2, z3⟩
      · refine .inl ⟨by dsimp only; omega, ?_⟩
        dsimp only
        rw [Int.toNat_natCast, stW_get, z, Option.map_some]
        have n := isNx_nxE (entW ns rows w) (p := (p : Int)) (by omega)
        have n1 := n.le
        have n2 := n.most e he (by omega)
        congr 1
        omega
      · exact .inr ⟨z1, z2⟩
    · rintro ⟨h0, ⟨h1, h2⟩ | ⟨h1, h2⟩⟩
      · rw [stW_get] at h2
        obtain ⟨w, hpw, e0⟩ := Option.map_eq_some_iff.mp h2
        rw [show ((x.toNat : Nat) : Int) = x by omega] at e0
        have n := isNx_nxE (entW ns rows w) (p := x) (by omega)
        rcases n.isE with z | ⟨e, he, z⟩
        · omega
        · have hlx : (lonW row u)[x.toNat]? = some w := by
            unfold lonW
            rw [List.getElem?_append_left (by omega), hpw]
          exact ⟨(x, e.1), laysW_mem.mpr ⟨x.toNat, w, e, hlx, he, by omega, by rw [show ((x.toNat : Nat) : Int) = x by omega]⟩, rfl⟩
      · have hlx : (lonW row u)[x.toNat]? = some x := by
          unfold lonW
          rw [List.getElem?_append_right (by omega), rngL_at2 (by omega)]
          congr 1
          omega
        have a := hl.at' _ _ hlx
        obtain ⟨e, he, z⟩ := (entW_ok h (w := x) (by omega) (by omega)).fst (by omega)
        exact ⟨(x, e.1), laysW_mem.mpr ⟨x.toNat, x, e, hlx, he, by omega, by rw [show ((x.toNat : Nat) : Int) = x by omega]⟩, rfl⟩
  · obtain ⟨p, w, e, hpw, he, hp, rfl⟩ := laysW_mem.mp hq
    have a := hl.at' p w hpw
    have E := entW_ok h (w := w) (by omega) (by omega)
    have n := (E.nxt e he).1
    exact ⟨(E.ok e he).1, by dsimp only; omega⟩
theorem laysW_aft (h : Tab ns rows) (hb : b ≤ rows.length) (hw : WaitS c b row) (hc : 0 ≤ c) (hn : clsT c ns rows = []) {k : Nat} (hk : (k : Int) ≤ c) : aftS ns (stW ns rows row) (up b row.length k) (laysW ns rows (lonW row (up b row.length k))) = stW ns rows ((lonW row (up b row.length k)).drop 1) := by
  have hly := laysW_ok h hb hw hc hn hk
  obtain ⟨hl, hd⟩ := hw.lon hk
  have hu := up_in (k := k) hw.len
  generalize up b row.length k = u at hl hd hu hly
  have hlen := lonW_len hu.1
  have hg : ∀ p : Nat, ((lonW row u).drop 1)[p]? = (lonW row u)[p + 1]? := fun p => by rw [List.getElem?_drop, Nat.add_comm]
  refine (isAft_eq hly (by rw [stW_len]; exact hu.1) ⟨by rw [stW_len, List.length_drop]; omega, fun p l hm => ?_, fun p v hnm hv => ?_⟩).symm
  · obtain ⟨p', w, e, hpw, he, hp, z⟩ := laysW_mem.mp hm
    simp only [Prod.mk.injEq] at z
    have : p' = p + 1 := by omega
    subst this
    have a := hl.at' _ w hpw
    have E := entW_ok h (w := w) (by omega) (by omega)
    have n := E.nxt e he
    have ev := (E.ok e he).2.1
    rw [stW_get, hg, hpw, Option.map_some, z.2]
    have hx : IsNx (entW ns rows w) p (e.2.2 - vl ns e.1) := ⟨n.1, by omega, n.2, fun e' he' hle => E.les e he e' he' (by omega)⟩
    have := (isNx_nxE (entW ns rows w) (p := (p : Int)) (by omega)).uniq hx
    congr 1
    omega
  · rw [stW_get] at hv
    obtain ⟨w, hpw, rfl⟩ := Option.map_eq_some_iff.mp hv
    have hlx : (lonW row u)[p + 1]? = some w := by
      unfold lonW
      rw [List.getElem?_append_left (List.getElem?_eq_some_iff.mp hpw).1, hpw]
    rw [stW_get, hg, hlx, Option.map_some]
    have n := isNx_nxE (entW ns rows w) (p := ((p + 1 : Nat) : Int)) (by omega)
    have hno : ∀ e ∈ entW ns rows w, e.2.2 ≠ ((p + 1 : Nat) : Int) := fun e he z => hnm (List.mem_map.mpr ⟨(((p + 1 : Nat) : Int), e.1), laysW_mem.mpr ⟨p + 1, w, e, hlx, he, z, rfl⟩, rfl⟩)
    have hx : IsNx (entW ns rows w) p (nxE (entW ns rows w) ((p + 1 : Nat) : Int)) := by
      refine ⟨n.nn, ?_, n.isE, fun e he hle => n.most e he (by omega)⟩
      have := n.le
      rcases n.isE with z | ⟨e, he, z⟩
      · omega
      · have := hno e he
        omega
    have := (isNx_nxE (entW ns rows w) (p := (p : Int)) (by omega)).uniq hx
    congr 1
    omega
end
end Pu
namespace Pu
open PySem L2
/-! # few enough stands -/
/-! # known and waiting, any family -/
structure KZ (Z F : List Int → Prop) (known : List (List Int × Bool)) (waiting : List (List Int)) : Prop where
  nk : (akeys known).Nodup
  nw : waiting.Nodup
  iff : ∀ st, st ∈ akeys known ↔ F st ∨ st ∈ waiting
  dis : ∀ st, F st → st ∉ waiting
  std : ∀ st ∈ akeys known, Z st
section
variable {Z F : List Int → Prop} {known : List (List Int × Bool)} {waiting : List (List Int)}
theorem KZ.few (h : KZ Z F known waiting) (hf : ∀ ks : List (List Int), ks.Nodup → (∀ st ∈ ks, Z st) → ks.length ≤ 2000) : known.length ≤ 2000 ∧ waiting.length ≤ 2000 := by
  have hk := hf _ h.nk h.std
  have hw := hf _ h.nw fun st hst => h.std st ((h.iff st).mpr (.inr hst))
  rw [← akeys_len] at hk
  exact ⟨hk, hw⟩
theorem KZ.take {rest : List (List Int)} {a : List Int} (h : KZ Z F known waiting) (e : waiting = rest ++ [a]) : KZ Z (fun st => F st ∨ st = a) known rest ∧ ¬ F a ∧ Z a := by
  subst e
  obtain ⟨n1, _, n3⟩ := List.nodup_append.mp h.nw
  have ha : a ∉ rest := fun z => n3 a z a (by simp) rfl
  have hFa : ¬ F a := fun z => h.dis a z (by simp)
  refine ⟨⟨h.nk, n1, fun st => ?_, fun st z z2 => ?_, h.std⟩, hFa, h.std a ((h.iff a).mpr (.inr (by simp)))⟩
  · rw [h.iff, List.mem_append, List.mem_singleton]
    constructor
    · rintro (z | z | z)
      · exact .inl (.inl z)
      · exact .inr z
      · exact .inl (.inr z)
    · rintro ((z | z) | z)
      · exact .inl z
      · exact .inr (.inr z)
      · exact .inr (.inl z)
  · rcases z with z | z
    · exact h.dis st z (List.mem_append_left _ z2)
    · rw [z] at z2
      exact ha z2
end
/-! # the reach, and doubling loops -/
/-! # kept or not -/
def Kp (ns : List Int) (c b : Int) : Prop := ∃ X, KeepS ns c b X ∧ X []
theorem Kp.less {ns : List Int} {c b b' : Int} (h : Kp ns c b) (h0 : 0 ≤ b') (hb : b' ≤ b) : Kp ns c b' := by
  obtain ⟨X, hX, x0⟩ := h
  exact ⟨_, hX.less hb, x0, h0⟩
theorem Kp.no {ns : List Int} {c b : Int} (h : Kp ns c b) (d : Nat) : ¬ FlS ns c b d [] := by
  obtain ⟨X, hX, x0⟩ := h
  exact hX.no d [] x0
end Pu
namespace Pu
open PySem L2
theorem p_catUP {xs ys : List Int} : Prim (dAddU (eU eI xs) (eU eI ys)) (catT xs ys) (fun a => .val (eT a)) := fun a h => by
  unfold catT at h
  split at h
  · rename_i c
    cases h
    show (rO (nums (xs.map D.int))).bind _ = _
    rw [show nums (xs.map D.int) = some xs by have := nums_mapE (fun x : Int => x) xs; rwa [List.map_id'] at this]
    show (rO (nums (ys.map D.int))).bind _ = _
    rw [show nums (ys.map D.int) = some ys by have := nums_mapE (fun x : Int => x) ys; rwa [List.map_id'] at this]
    show (if xs ≠ [] ∧ ys ≠ [] ∧ xs.length + ys.length ≤ 16000000 then Rs.ok (VD.val (D.tpl (xs ++ ys))) else .stuck) = _
    rw [if_pos c]
  · cases h
/-- a known tuple and things of any kind -/
def catTD (xs : List Int) (ys : List D) : Rt (List D) := if xs ≠ [] ∧ ys ≠ [] ∧ xs.length + ys.length ≤ 16000000 then .ok (xs.map D.int ++ ys) else .stuck
theorem quit_catTD {xs : List Int} {ys : List D} : Quit (catTD xs ys) := quit_if quit_ok quit_stuck
theorem p_catTD {xs : List Int} {ys : List D} : Prim (dAddA (eT xs) (eU eD ys)) (catTD xs ys) (fun a => .val (eU eD a)) := fun a h => by
  unfold catTD at h
  split at h
  · rename_i c
    cases h
    have e1 : eU eD ys = .tup ys := by
      show D.tup (ys.map fun x => x) = _
      rw [List.map_id']
    have e2 : eU eD (xs.map D.int ++ ys) = .tup (xs.map D.int ++ ys) := by
      show D.tup ((xs.map D.int ++ ys).map fun x => x) = _
      rw [List.map_id']
    rw [e1]
    show _ = Rs.ok (VD.val (eU eD (xs.map D.int ++ ys)))
    rw [e2]
    show (if xs ≠ [] ∧ ys ≠ [] ∧ xs.length + ys.length ≤ 16000000 then Rs.ok (VD.val (D.tup (xs.map D.int ++ ys))) else .stuck) = _
    rw [if_pos c]
  · cases h
/-- a part of a known tuple, not all of it -/
def cutT (xs : List Int) (lo hi : Option Int) : Rt (List Int) := if HT.sIx xs.length 0 lo = 0 ∧ HT.sIx xs.length xs.length hi = xs.length then .stuck else .ok (cutA xs lo hi)
section
variable {A B : Type} {E : EX} {R : A → B → Prop} {r : Pu.Env} {T : Tp} {f : DE}
theorem h_slT {K : VD × Tp → Rs A} {xs : List Int} {lo hi : Option DE} {lo' hi' : Option Int} {z : List Int → Rt B} (hf : Pd f r (eT xs)) (h1 : ∀ T, partE lo r T = .ok (lo', T)) (h2 : ∀ T, partE hi r T = .ok (hi', T)) (k : ∀ ys, Sim E (K (.val (eU eI ys), T)) (z ys) R) : Sim E ((eSlT f lo hi r T).bind K) ((cutT xs lo' hi').bind z) R := by
  have e0 : eSlT f lo hi r T = lift (dSlT (.tpl xs) lo' hi') T := by
    show ((dt (f r T)).bind fun p => (partE lo r p.2).bind fun a => (partE hi r a.2).bind fun b => lift (dSlT p.1 a.1 b.1) b.2) = _
    rw [hf T, Rs.bind_ok, h1, Rs.bind_ok, h2, Rs.bind_ok] <;> rfl
  rw [e0]
  unfold cutT
  have e1 : dSlT (.tpl xs) lo' hi' = if HT.sIx xs.length 0 lo' = 0 ∧ HT.sIx xs.length xs.length hi' = xs.length then .stuck else .ok (.val (.tup (cutA (xs.map D.int) lo' hi'))) := rfl
  unfold lift
  rw [e1]
  by_cases c : HT.sIx xs.length 0 lo' = 0 ∧ HT.sIx xs.length xs.length hi' = xs.length
  · rw [if_pos c, if_pos c]
    trivial
  · rw [if_neg c, if_neg c]
    have e2 : D.tup (cutA (xs.map D.int) lo' hi') = eU eI (cutA xs lo' hi') := by
      show _ = D.tup ((cutA xs lo' hi').map D.int)
      rw [cutA_map]
    rw [e2]
    exact k _
end
end Pu
namespace Pu
open PySem L2
/-! # tables judged: the plain law -/
def tl (d : D) : List D := match d with
  | .tup ds => ds
  | _ => []
def intsD (d : D) : List Int := (decU decI d).getD []
theorem ints_U (cs : List Int) : intsD (eU eI cs) = cs := by unfold intsD; rw [decU_I]; rfl
theorem tl_U {A : Type} {e : A → D} (xs : List A) : tl (eU e xs) = xs.map e := rfl
def lpsD (d : D) : Bool := areI d 8 1 40 && decide (0 < (tl d).length)
def rowD (ns : List Int) (x : D) (i : Int) : Bool := areI x 60 0 (ns.length - 1) && decide (((intsD x).map (vl ns)).sum = i + 1)
theorem lpsD_ex {d : D} (h : lpsD d = true) : ∃ ns, d = eU eI ns ∧ Lps ns := by
  unfold lpsD at h
  rw [Bool.and_eq_true] at h
  obtain ⟨cs, rfl, h1, h2⟩ := areI_ex h.1
  have := of_decide_eq_true h.2
  rw [tl_U, List.length_map] at this
  exact ⟨cs, rfl, this, by omega, h2⟩
theorem rowI_ex {ns : List Int} {d : D} (h : areI d 60 0 (ns.length - 1) = true) : ∃ cs, d = eU eI cs ∧ RowOk ns cs ∧ cs.length ≤ 60 := by
  obtain ⟨cs, rfl, h1, h2⟩ := areI_ex h
  exact ⟨cs, rfl, fun x hx => by have := h2 x hx; omega, by omega⟩
/-- the number of the first wrong row -/
def badE (ns : List Int) (ds : List D) : Option Int := ((enuL 0 ds).find? fun x => !rowD ns x.2 x.1).map (·.1)
def fltD (a b : D) : Option (PySem.Str × Int) :=
  if lpsD a = true then (if (isTup b && (decide (1 ≤ (tl b).length) && decide ((tl b).length ≤ 60))) = true then (badE (intsD a) (tl b)).map fun i => (("rows" : PySem.Str), i) else some (("rows" : PySem.Str), -1)) else some (("loops" : PySem.Str), -1)
theorem find_congr {A : Type} {p q : A → Bool} : ∀ {xs : List A}, (∀ x ∈ xs, p x = q x) → xs.find? p = xs.find? q
  | [], _ => rfl
  | x :: xs, h => by
    rw [List.find?_cons, List.find?_cons, h x List.mem_cons_self, find_congr fun y hy => h y (List.mem_cons_of_mem _ hy)]
theorem badE_rng (ns : List Int) (ds : List D) : (rngL 0 ds.length).find? (fun k => !rowD ns ((ds[k.toNat]?).getD .non) k) = badE ns ds := by
  have e0 := enuL_fst 0 ds
  rw [Nat.zero_add] at e0
  rw [show rngL 0 (ds.length : Int) = (enuL 0 ds).map (·.1) from e0.symm, List.find?_map]
  unfold badE
  congr 1
  refine find_congr fun x hx => ?_
  obtain ⟨i, hi⟩ := List.mem_iff_getElem?.mp hx
  rw [enuL_get] at hi
  cases e : ds[i]? with
  | none => rw [e] at hi; cases hi
  | some d =>
    rw [e] at hi
    cases hi
    show (!rowD ns ((ds[(((0 + i : Nat) : Int)).toNat]?).getD .non) _) = _
    rw [show (((0 + i : Nat) : Int)).toNat = i by omega, e]
    rfl
theorem forS_first {A : Type} {f : A → Unit → Rt Unit} {p : A → Bool} {c : PySem.Str} {g : A → List (PySem.Str × D)} : ∀ xs : List A, (∀ x ∈ xs, f x () = if p x = true then .exc c (g x) else .ok ()) → forS xs () f = (match xs.find? p with
  | none => .ok ()
  | some x => .exc c (g x))
  | [], _ => rfl
  | x :: xs, h => by
    unfold forS
    rw [h x List.mem_cons_self]
    by_cases c : p x = true
    · rw [if_pos c, List.find?_cons_of_pos c]
      rfl
    · rw [if_neg c, List.find?_cons_of_neg c]
      exact forS_first xs fun y hy => h y (List.mem_cons_of_mem _ hy)
end Pu
namespace Pu
open PySem L2
/-! # typed: zip of two rows of any sort -/
/-! # a slot that is one of two things -/
/-! # list(d), keys of any length -/
end Pu
namespace Pu
open PySem L2
/-! # days as somebody leads them: tick by tick -/
theorem dn_nn (x : Int) : dn x = ((x - 1).toNat : Int) := by unfold dn; split <;> omega
theorem LayOk.few {ns sp : List Int} {w : List (Int × Int)} (h : LayOk ns sp w) : w.length ≤ ns.length := by
  have := nodup_le (ys := rngL 0 ns.length) h.2.1 fun x hx => by
    obtain ⟨q, hq, rfl⟩ := List.mem_map.mp hx
    exact rngL_mem.mpr (h.2.2 q hq).1
  rw [List.length_map, rngL_len] at this
  omega
/-- what stands behind so many ticks -/
structure StQ (ns : List Int) (b : Int) (st ln cs : List Int) (A : List Ent) (come : Int) : Prop where
  pl : PlS (vl ns) ns.length cs.length (ledS b cs).1 ln st A
  ll : (ln.length : Int) = (ledS b cs).2.1
  co : come = (ledS b cs).1.length
  al : A.length ≤ ns.length * cs.length
theorem StQ.std {ns : List Int} {b : Int} {st ln cs : List Int} {A : List Ent} {come : Int} (hb : 0 ≤ b) (h : StQ ns b st ln cs A come) : StdOk b st := ⟨by
  have := h.pl.len
  have := h.ll
  have := (ledS_in hb cs).1
  omega, fun p v hv => by
  have hp := (List.getElem?_eq_some_iff.mp hv).1
  have hq : p < ln.length := by rw [← h.pl.len]; exact hp
  exact (h.pl.inl p _ v (List.getElem?_eq_getElem hq) hv).1⟩
/-- the letters in the line when so many more have come -/
def rowQ (b : Int) (ln : List Int) (come : Int) (k : Nat) : List Int := ln ++ rngL come (come + (up b ln.length k - ln.length))
theorem rowQ_len {b : Int} {ln : List Int} {come : Int} {k : Nat} (h : (ln.length : Int) ≤ b) : ((rowQ b ln come k).length : Int) = up b ln.length k := by
  have := up_in (k := k) h
  unfold rowQ
  rw [List.length_append, rngL_len]
  omega
/-! ## the comings, and nobody behind them -/
def cmN (cs : List Int) (t : Nat) : Nat := (cs.getD t 0).toNat
def cmP (cs : List Int) (t : Nat) : List Int := (List.range t).map fun i => (cmN cs i : Int)
theorem cmP_succ (cs : List Int) (t : Nat) : cmP cs (t + 1) = cmP cs t ++ [(cmN cs t : Int)] := by
  unfold cmP
  rw [List.range_succ, List.map_append]
  rfl
/-- the line and how many have come, ahead of a tick -/
def lnQ (b : Int) (cs : List Int) : Nat → List Int × Int
  | 0 => ([], 0)
  | t + 1 => ((rowQ b (lnQ b cs t).1 (lnQ b cs t).2 (cmN cs t)).drop 1, (lnQ b cs t).2 + cmN cs t)
def rwQ (b : Int) (cs : List Int) (t : Nat) : List Int := rowQ b (lnQ b cs t).1 (lnQ b cs t).2 (cmN cs t)
theorem lnQ_led {b : Int} (hb : 0 ≤ b) (cs : List Int) : ∀ t, ((lnQ b cs t).1.length : Int) = (ledS b (cmP cs t)).2.1 ∧ (lnQ b cs t).2 = (ledS b (cmP cs t)).1.length
  | 0 => ⟨rfl, rfl⟩
  | t + 1 => by
    obtain ⟨h1, h2⟩ := lnQ_led hb cs t
    have hin := ledS_in (b := b) hb (cmP cs t)
    have hl := rowQ_len (b := b) (ln := (lnQ b cs t).1) (come := (lnQ b cs t).2) (k := cmN cs t) (by omega)
    rw [cmP_succ, ledS_snoc]
    unfold stepE
    refine ⟨?_, ?_⟩
    · show (((rowQ b (lnQ b cs t).1 (lnQ b cs t).2 (cmN cs t)).drop 1).length : Int) = dn (up b (ledS b (cmP cs t)).2.1 (cmN cs t : Int).toNat)
      rw [List.length_drop, ← h1, dn_nn, Int.toNat_natCast]
      omega
    · show (lnQ b cs t).2 + cmN cs t = (((ledS b (cmP cs t)).1 ++ rowE b _ _ (cmN cs t : Int).toNat).length : Int)
      rw [List.length_append, rowE_len, h2]
      omega
theorem lnQ_le {b : Int} (hb : 0 ≤ b) (cs : List Int) (t : Nat) : ((lnQ b cs t).1.length : Int) ≤ b := by
  have := (lnQ_led hb cs t).1
  have := (ledS_in (b := b) hb (cmP cs t)).1
  omega
theorem rwQ_len {b : Int} (hb : 0 ≤ b) (cs : List Int) (t : Nat) : ((rwQ b cs t).length : Int) = up b (lnQ b cs t).1.length (cmN cs t) := rowQ_len (lnQ_le hb cs t)
/-! ## steps from a stand to a stand -/
/-- the stands to which one can come -/
def RcS (ns : List Int) (b : Int) (cs : List Int) : Nat → List Int → Prop
  | 0, st => st = []
  | t + 1, st' => ∃ st, RcS ns b cs t st ∧ ∃ w, LayOk ns (sprL st (up b st.length (cmN cs t))) w ∧ st' = aftS ns st (up b st.length (cmN cs t)) w
theorem RcS.std {ns : List Int} {b : Int} {cs : List Int} (hb : 0 ≤ b) (hn : ∀ x ∈ ns, 1 ≤ x) : ∀ {t : Nat} {st : List Int}, RcS ns b cs t st → StdOk b st ∧ st.length = (lnQ b cs t).1.length
  | 0, st, h => by
    have h : st = [] := h
    subst h
    exact ⟨⟨hb, fun p v h => by simp at h⟩, rfl⟩
  | t + 1, st', ⟨st, h, w, hw, e⟩ => by
    obtain ⟨h1, h2⟩ := h.std hb hn
    subst e
    refine ⟨aft_std hn h1 hw, ?_⟩
    rw [aftS_len]
    show _ = ((rowQ b (lnQ b cs t).1 (lnQ b cs t).2 (cmN cs t)).drop 1).length
    have := rwQ_len hb cs t
    unfold rwQ at this
    rw [List.length_drop, h2]
    omega
theorem RcS.less {ns : List Int} {b : Int} {cs : List Int} {t : Nat} (h : ∃ st, RcS ns b cs (t + 1) st) : ∃ st, RcS ns b cs t st := by
  obtain ⟨_, st, h, _⟩ := h
  exact ⟨st, h⟩
end Pu
namespace Pu
open PySem L2
/-! # who knows all ahead: the ways to deal -/
def DlOk (ns pl d : List Int) : Prop := ∃ w, LayOk ns pl w ∧ d = w.map (·.2)
theorem zip_unzip : ∀ w : List (Int × Int), (w.map (·.1)).zip (w.map (·.2)) = w
  | [] => rfl
  | (a, b) :: w => by
    rw [List.map_cons, List.map_cons, List.zip_cons_cons, zip_unzip w]
theorem LayOk.zip {ns sp : List Int} {w : List (Int × Int)} (h : LayOk ns sp w) : sp.zip (w.map (·.2)) = w := by
  rw [← h.1, zip_unzip]
theorem dl_snoc {ns pl d : List Int} {p : Int} : DlOk ns (pl ++ [p]) d ↔ ∃ d0 l, DlOk ns pl d0 ∧ (0 ≤ l ∧ l < (ns.length : Int)) ∧ vl ns l ≤ p ∧ l ∉ d0 ∧ d = d0 ++ [l] := by
  constructor
  · rintro ⟨w, hw, rfl⟩
    obtain ⟨w0, l, h1, h2, h3, h4, rfl⟩ := lay_snoc.mp hw
    exact ⟨w0.map (·.2), l, ⟨w0, h1, rfl⟩, h2, h3, h4, by simp⟩
  · rintro ⟨d0, l, ⟨w0, h1, rfl⟩, h2, h3, h4, rfl⟩
    exact ⟨w0 ++ [(p, l)], lay_snoc.mpr ⟨w0, l, h1, h2, h3, h4, rfl⟩, by simp⟩
def fitQ (ns : List Int) (p : Int) (row : List Int) : List Int := (rngL 0 ns.length).filter fun k => decide (vl ns k ≤ p) && !memB k row
def dealsQ (ns : List Int) (pl : List Int) : List (List Int) := pl.foldl (fun L p => L.flatMap fun row => (fitQ ns p row).map fun k => row ++ [k]) [[]]
theorem dealsQ_snoc (ns pl : List Int) (p : Int) : dealsQ ns (pl ++ [p]) = (dealsQ ns pl).flatMap fun row => (fitQ ns p row).map fun k => row ++ [k] := by
  unfold dealsQ
  rw [List.foldl_append]
  rfl
theorem fitQ_mem {ns row : List Int} {p l : Int} : l ∈ fitQ ns p row ↔ (0 ≤ l ∧ l < (ns.length : Int)) ∧ vl ns l ≤ p ∧ l ∉ row := by
  unfold fitQ
  rw [List.mem_filter, rngL_mem]
  simp
theorem dealsQ_mem {ns : List Int} (pl : List Int) : ∀ d, d ∈ dealsQ ns pl ↔ DlOk ns pl d := by
  refine snoc_ind' (P := fun pl => ∀ d, d ∈ dealsQ ns pl ↔ DlOk ns pl d) (fun d => ?_) (fun pl p ih d => ?_) pl
  · show d ∈ [[]] ↔ _
    rw [List.mem_singleton]
    constructor
    · rintro rfl
      exact ⟨[], ⟨rfl, List.nodup_nil, fun q h => nomatch h⟩, rfl⟩
    · rintro ⟨w, hw, rfl⟩
      rw [List.map_eq_nil_iff.mp hw.1]
      rfl
  · rw [dealsQ_snoc, dl_snoc, List.mem_flatMap]
    constructor
    · rintro ⟨row, h1, h2⟩
      obtain ⟨l, h3, rfl⟩ := List.mem_map.mp h2
      obtain ⟨a, b, c⟩ := fitQ_mem.mp h3
      exact ⟨row, l, (ih row).mp h1, a, b, c, rfl⟩
    · rintro ⟨d0, l, h1, h2, h3, h4, rfl⟩
      exact ⟨d0, (ih d0).mpr h1, List.mem_map_of_mem (fitQ_mem.mpr ⟨h2, h3, h4⟩)⟩
theorem DlOk.len {ns pl d : List Int} (h : DlOk ns pl d) : d.length = pl.length ∧ pl.length ≤ ns.length := by
  obtain ⟨w, hw, rfl⟩ := h
  have := hw.len
  have := hw.few
  rw [List.length_map]
  omega
/-! ## the places at the switch -/
/-! ## the next stand -/
/-! ## one tick of all that is known -/
abbrev Way := List Int × List Int × List Int
structure LedP (ns : List Int) (ks : List (List Int)) (u : Int) (D : List (List Int × Way)) : Prop where
  nd : (akeys D).Nodup
  iff : ∀ st', st' ∈ akeys D ↔ ∃ st ∈ ks, ∃ w, LayOk ns (sprL st u) w ∧ st' = aftS ns st u w
  val : ∀ st' v, aget D st' = some v → v.1 ∈ ks ∧ ∃ w, LayOk ns (sprL v.1 u) w ∧ st' = aftS ns v.1 u w ∧ v.2.1 = w.map (·.1) ∧ v.2.2 = w.map (·.2)
/-- on the way: all of the first ones, of the next one the first deals -/
structure LedI (ns : List Int) (ks : List (List Int)) (u : Int) (st0 : List Int) (ds : List (List Int)) (D : List (List Int × Way)) : Prop where
  nd : (akeys D).Nodup
  iff : ∀ st', st' ∈ akeys D ↔ (∃ st ∈ ks, ∃ w, LayOk ns (sprL st u) w ∧ st' = aftS ns st u w) ∨ ∃ w, LayOk ns (sprL st0 u) w ∧ w.map (·.2) ∈ ds ∧ st' = aftS ns st0 u w
  val : ∀ st' v, aget D st' = some v → (v.1 ∈ ks ∨ v.1 = st0) ∧ ∃ w, LayOk ns (sprL v.1 u) w ∧ st' = aftS ns v.1 u w ∧ v.2.1 = w.map (·.1) ∧ v.2.2 = w.map (·.2)
theorem LedP.nil (ns : List Int) (u : Int) : LedP ns [] u [] := ⟨List.nodup_nil, fun st' => ⟨fun h => (nomatch h), fun ⟨_, h, _⟩ => (nomatch h)⟩, fun st' v h => (nomatch h)⟩
theorem LedP.go {ns : List Int} {ks : List (List Int)} {u : Int} {D : List (List Int × Way)} (h : LedP ns ks u D) (st0 : List Int) : LedI ns ks u st0 [] D :=
  ⟨h.nd, fun st' => (h.iff st').trans ⟨.inl, fun z => z.elim id fun ⟨_, _, h, _⟩ => (nomatch h)⟩, fun st' v e => ⟨.inl (h.val st' v e).1, (h.val st' v e).2⟩⟩
theorem LedI.all {ns : List Int} {ks : List (List Int)} {u : Int} {st0 : List Int} {D : List (List Int × Way)} (h : LedI ns ks u st0 (dealsQ ns (sprL st0 u)) D) : LedP ns (ks ++ [st0]) u D := by
  refine ⟨h.nd, fun st' => (h.iff st').trans ⟨?_, ?_⟩, fun st' v e => ⟨?_, (h.val st' v e).2⟩⟩
  · rintro (⟨st, hs, z⟩ | ⟨w, hw, _, e⟩)
    · exact ⟨st, List.mem_append_left _ hs, z⟩
    · exact ⟨st0, by simp, w, hw, e⟩
  · rintro ⟨st, hs, w, hw, e⟩
    rcases List.mem_append.mp hs with z | z
    · exact .inl ⟨st, z, w, hw, e⟩
    · rw [List.mem_singleton.mp z] at hw e
      exact .inr ⟨w, hw, (dealsQ_mem _ _).mpr ⟨w, hw, rfl⟩, e⟩
  · rcases (h.val st' v e).1 with z | z
    · exact List.mem_append_left _ z
    · rw [z]; simp
/-! ## ticks one behind another -/
/-! ## the way back -/
theorem LedI.len {ns : List Int} {ks : List (List Int)} {u : Int} {st0 : List Int} {ds : List (List Int)} {D : List (List Int × Way)} (h : LedI ns ks u st0 ds D) {ks2 : List (List Int)} (h1 : ∀ x ∈ ks, x ∈ ks2) (h2 : st0 ∈ ks2) {N : Nat} (hf : ∀ xs : List (List Int), xs.Nodup → (∀ x ∈ xs, ∃ st ∈ ks2, ∃ w, LayOk ns (sprL st u) w ∧ x = aftS ns st u w) → xs.length ≤ N) : D.length ≤ N := by
  rw [akeys_len]
  refine hf _ h.nd fun x hx => ?_
  rcases (h.iff x).mp hx with ⟨st, a, b⟩ | ⟨w, a, _, b⟩
  · exact ⟨st, h1 st a, b⟩
  · exact ⟨st0, h2, w, a, b⟩
/-! ## until nobody is left -/
/-! ## the flood -/
end Pu
namespace Pu
open PySem L2
/-! # typed: things that are lent -/
/-! [f(x) for x in xs if c(x)], what is lent going along -/
/-! at whatever place -/
/-! an __init__ that ends so -/
/-! dict(d), sorted(d) -/
end Pu
namespace Pu
open PySem L2
/-! # all rows of loops that make a wait -/
theorem nodup_flat {A B : Type} {f : A → List B} {xs : List A} (h : xs.Nodup) (h1 : ∀ x ∈ xs, (f x).Nodup) (h2 : ∀ x ∈ xs, ∀ y ∈ xs, ∀ b, b ∈ f x → b ∈ f y → x = y) : (xs.flatMap f).Nodup := by
  induction xs with
  | nil => exact List.Pairwise.nil
  | cons x xs ih =>
    rw [List.flatMap_cons]
    obtain ⟨a1, a2⟩ := List.nodup_cons.mp h
    refine List.nodup_append.mpr ⟨h1 x List.mem_cons_self, ih a2 (fun y z => h1 y (List.mem_cons_of_mem _ z)) (fun y hy z hz => h2 y (List.mem_cons_of_mem _ hy) z (List.mem_cons_of_mem _ hz)), fun b hb c hc e => ?_⟩
    subst e
    obtain ⟨y, hy, hb2⟩ := List.mem_flatMap.mp hc
    have := h2 x List.mem_cons_self y (List.mem_cons_of_mem _ hy) b hb hb2
    subst this
    exact a1 hy
theorem nodup_map {A B : Type} {f : A → B} {xs : List A} (h : xs.Nodup) (h2 : ∀ x ∈ xs, ∀ y ∈ xs, f x = f y → x = y) : (xs.map f).Nodup := by
  have := nodup_flat (f := fun x => [f x]) h (fun x _ => by simp) (fun x hx y hy b hb hc => by
    rw [List.mem_singleton] at hb hc
    exact h2 x hx y hy (hb.symm.trans hc))
  have e : xs.flatMap (fun x => [f x]) = xs.map f := by
    clear this h h2
    induction xs with
    | nil => rfl
    | cons x xs ih => rw [List.flatMap_cons, ih]; rfl
  rwa [e] at this
/-! orders of a lot -/
def insA (x : Int) (s : List Int) : List (List Int) := (List.range (s.length + 1)).map fun i => s.take i ++ [x] ++ s.drop i
def ordsA (xs : List Int) : List (List Int) := xs.foldl (fun acc x => acc.flatMap (insA x)) [[]]
/-! the lots -/
def smL (ls r : List Int) : Int := (r.map (vl ls)).sum
def lotsA (ls : List Int) (w : Int) : Nat → List (List Int)
  | 0 => [[]]
  | j + 1 => lotsA ls w j ++ ((lotsA ls w j).filter fun l => decide (smL ls l + vl ls j ≤ w)).map fun l => l ++ [(j : Int)]
def allRw (ls : List Int) (w : Int) : List (List Int) := ((lotsA ls w ls.length).filter fun l => decide (smL ls l = w)).flatMap ordsA
/-! the layers -/
/-! other orders of the loops; one loop more -/
end Pu
namespace Pu
open PySem L2
/-! # a dict that is lent and keeps what was found -/
/-! # rows that are friends -/
/-- no entry of the two clashes with another -/
def frB (c : Int) (x y : List Ent) : Bool := !((x ++ y).any fun a => (x ++ y).any fun b => decide (a.1 = b.1) && clS c a b)
/-! ## the search, as a plain function: tr tells whether two places (wait, number of the row) are friends, N how many rows a wait has -/
end Pu
namespace Pu
open PySem L2
/-! # loops that hand a lent thing on -/
/-! # what the search finds -/
end Pu
namespace Pu
open PySem L2
/-! # how many rows there are -/
/-! # the lists of a search -/
def rwR (ns : List Int) (w : Int) : List (List Int) := srtL (allRw ns w)
end Pu
namespace Pu
open PySem L2
/-! # friends and clashes -/
theorem frB_iff {c : Int} {x y : List Ent} : frB c x y = true ↔ ∀ a ∈ x ++ y, ∀ b ∈ x ++ y, hit c a b = false := by
  unfold frB
  rw [Bool.not_eq_true', Bool.eq_false_iff]
  constructor
  · intro h a ha b hb
    rw [Bool.eq_false_iff]
    intro z
    obtain ⟨z1, z2, z3, z4⟩ := hit_iff.mp z
    refine h (List.any_eq_true.mpr ⟨a, ha, List.any_eq_true.mpr ⟨b, hb, ?_⟩⟩)
    unfold clS
    rw [if_neg (by omega)]
    exact z
  · intro h z
    obtain ⟨a, ha, z⟩ := List.any_eq_true.mp z
    obtain ⟨b, hb, z⟩ := List.any_eq_true.mp z
    rw [Bool.and_eq_true, decide_eq_true_eq] at z
    unfold clS at z
    split at z
    · have := h b hb a ha
      unfold hit at this
      rw [z.2, z.1] at this
      simp at this
    · have := h a ha b hb
      unfold hit at this
      rw [z.2, z.1] at this
      simp at this
theorem clsT_fr {c : Int} {ns : List Int} {rows : List (List Int)} : clsT c ns rows = [] ↔ ∀ x ∈ rows, ∀ y ∈ rows, frB c (entR ns x) (entR ns y) = true := by
  constructor
  · intro h x hx y hy
    have e : ∀ a, a ∈ entR ns x ++ entR ns y → a ∈ ents ns rows := fun a ha => by
      rcases List.mem_append.mp ha with z | z
      · exact List.mem_flatMap.mpr ⟨x, hx, z⟩
      · exact List.mem_flatMap.mpr ⟨y, hy, z⟩
    refine frB_iff.mpr fun a ha b hb => ?_
    rw [Bool.eq_false_iff]
    intro z
    have : (a, b) ∈ clsT c ns rows := clsT_mem.mpr ⟨e a ha, e b hb, z⟩
    rw [h] at this
    cases this
  · intro h
    refine nil_of_no fun p hp => ?_
    obtain ⟨m1, m2, m3⟩ := clsT_mem.mp hp
    obtain ⟨x, hx, a1⟩ := List.mem_flatMap.mp m1
    obtain ⟨y, hy, b1⟩ := List.mem_flatMap.mp m2
    have := frB_iff.mp (h x hx y hy) p.1 (List.mem_append_left _ a1) p.2 (List.mem_append_right _ b1)
    rw [this] at m3
    cases m3
/-! # tables, as lists of rows of the waits 1, 2, .. -/
structure TbR (ns : List Int) (c : Int) (rows : List (List Int)) : Prop where
  at_ : ∀ (i : Nat) (r : List Int), rows[i]? = some r → r ∈ rwR ns ((i : Int) + 1)
  fr : ∀ x ∈ rows, ∀ y ∈ rows, frB c (entR ns x) (entR ns y) = true
end Pu
namespace Pu
open PySem L2
/-! # the same loops in another order: tables go along -/
/-- there is a safe table -/
def HasT (ns : List Int) (c b : Int) : Prop := ∃ rows, TbR ns c rows ∧ rows.length = b.toNat
theorem tbR_take {ns : List Int} {c : Int} {rows : List (List Int)} (h : TbR ns c rows) (n : Nat) : TbR ns c (rows.take n) := by
  refine ⟨fun i r hr => ?_, fun x hx y hy => h.fr x (List.mem_of_mem_take hx) y (List.mem_of_mem_take hy)⟩
  have hi := (List.getElem?_eq_some_iff.mp hr).1
  rw [List.length_take] at hi
  rw [List.getElem?_take_of_lt (by omega)] at hr
  exact h.at_ i r hr
theorem HasT.less {ns : List Int} {c b d : Int} (h : HasT ns c b) (hd : d ≤ b) : HasT ns c d := by
  obtain ⟨rows, h1, h2⟩ := h
  exact ⟨rows.take d.toNat, tbR_take h1 _, by rw [List.length_take]; omega⟩
/-- the greatest bound with a safe table -/
structure GrT (ns : List Int) (c g : Int) : Prop where
  pos : 0 ≤ g
  lt : g ≤ 60
  has : HasT ns c g
  no : g < 60 → ¬ HasT ns c (g + 1)
theorem GrT.uniq {ns : List Int} {c g g' : Int} (h : GrT ns c g) (h' : GrT ns c g') : g = g' := by
  rcases Int.lt_trichotomy g g' with z | z | z
  · exact absurd (h'.has.less (by omega)) (h.no (by have := h'.lt; omega))
  · exact z
  · exact absurd (h.has.less (by omega)) (h'.no (by have := h.lt; omega))
end Pu
namespace Pu
open PySem L2
/-! # how many tables there are -/
/-- a list of just all tables -/
structure AllT (ns : List Int) (c b : Int) (l : List (List (List Int))) : Prop where
  nd : l.Nodup
  mem : ∀ t, t ∈ l ↔ t.length = b.toNat ∧ TbR ns c t
theorem AllT.len {ns : List Int} {c b : Int} {l l' : List (List (List Int))} (h : AllT ns c b l) (h' : AllT ns c b l') : l.length = l'.length :=
  Nat.le_antisymm (h.nd.length_le_of_subset fun t ht => (h'.mem t).mpr ((h.mem t).mp ht)) (h'.nd.length_le_of_subset fun t ht => (h.mem t).mpr ((h'.mem t).mp ht))
theorem AllT.has {ns : List Int} {c b : Int} {l : List (List (List Int))} (h : AllT ns c b l) : l ≠ [] ↔ HasT ns c b := by
  constructor
  · intro z
    obtain ⟨t, ht⟩ := List.exists_mem_of_ne_nil _ z
    obtain ⟨h1, h2⟩ := (h.mem t).mp ht
    exact ⟨t, h2, h1⟩
  · rintro ⟨t, h1, h2⟩ z
    have := (h.mem t).mpr ⟨h2, h1⟩
    rw [z] at this
    cases this
theorem AllT.more {ns : List Int} {c d b : Int} {l l' : List (List (List Int))} (h : AllT ns c b l) (h' : AllT ns d b l') (hcd : c ≤ d) : l'.length ≤ l.length :=
  h'.nd.length_le_of_subset fun t ht => by
    obtain ⟨h1, h2⟩ := (h'.mem t).mp ht
    exact (h.mem t).mpr ⟨h1, h2.at_, clsT_fr.mp (cls_nil (ns := ns) hcd (fun r hr => hr) (clsT_fr.mpr h2.fr))⟩
/-! ## tables that go on from choices -/
/-! ## helpers of the specs -/
end Pu
namespace Pu
open PySem L2
/-! # f(.., thing just made, ..) -/
end Pu
namespace Pu
open PySem L2
theorem opNe_self {d : D} (h : Pl 40 d) : opBR dNe (eD d) (eD d) = .ok false := by
  have h2 := PySem.SeqAt.eqv_refl_plain (py d) (pl_py 40 d h).1
  unfold opBR dNe dPl
  rw [if_pos ⟨h, h, trivial⟩]
  show Rt.ok (!PyData.eqv (py d) (py d)) = _
  rw [h2]
  rfl
end Pu
namespace Pu
open PySem L2
/-! # searches with lists of one's own: L tells the rows of each wait -/
def numG (L : Int → List (List Int)) (w : Int) : Nat := (L w).length
def plcG (L : Int → List (List Int)) (b : Int) : List (Int × Int) := (rngL 1 (b + 1)).flatMap fun w => (List.range (numG L w)).map fun (i : Nat) => (w, (i : Int))
structure LOk (L : Int → List (List Int)) (ns : List Int) (c b : Int) : Prop where
  row : ∀ w, 1 ≤ w → w ≤ b → ∀ r ∈ L w, RowOk ns r ∧ r.length ≤ 60 ∧ (r.map (vl ns)).sum = w
  self : ∀ w, 1 ≤ w → w ≤ b → ∀ r ∈ L w, frB c (entR ns r) (entR ns r) = true
  len : (plcG L b).length ≤ 3000
theorem plcG_mem {L : Int → List (List Int)} {b : Int} {p : Int × Int} : p ∈ plcG L b ↔ (1 ≤ p.1 ∧ p.1 ≤ b) ∧ 0 ≤ p.2 ∧ p.2 < (numG L p.1 : Int) := by
  unfold plcG
  rw [List.mem_flatMap]
  constructor
  · rintro ⟨w, hw, h⟩
    obtain ⟨i, hi, rfl⟩ := List.mem_map.mp h
    rw [List.mem_range] at hi
    have := mem_rngL hw
    dsimp only
    omega
  · rintro ⟨h1, h2, h3⟩
    refine ⟨p.1, rngL_mem.mpr (by omega), List.mem_map.mpr ⟨p.2.toNat, List.mem_range.mpr (by omega), ?_⟩⟩
    rw [Int.toNat_of_nonneg h2]
theorem LOk.num {L : Int → List (List Int)} {ns : List Int} {c b w : Int} (h : LOk L ns c b) (hw : 1 ≤ w ∧ w ≤ b) : numG L w ≤ 3000 := by
  have : ((List.range (numG L w)).map fun (i : Nat) => (w, (i : Int))).length ≤ (plcG L b).length := List.Nodup.length_le_of_subset (by
    refine nodup_map List.nodup_range fun x _ y _ e => ?_
    injection e with _ e
    exact Int.ofNat.inj e) fun p hp2 => by
    obtain ⟨i, hi, rfl⟩ := List.mem_map.mp hp2
    rw [List.mem_range] at hi
    exact plcG_mem.mpr ⟨hw, by dsimp only; omega, by dsimp only; omega⟩
  rw [List.length_map, List.length_range] at this
  have := h.len
  omega
/-! ## tables of such rows -/
end Pu
namespace Pu
open PySem L2
/-! # letters in the line, tick by tick, with their waits -/
/-! ## all letters, seen at a tick -/
/-! ## when a letter comes back -/
theorem stW_std {ns : List Int} {rows : List (List Int)} {c b : Int} {row : List Int} (h : WaitS c b row) : StdOk b (stW ns rows row) := by
  refine ⟨by rw [stW_len]; exact h.len, fun p v hv => ?_⟩
  rw [stW_get] at hv
  obtain ⟨w, hw, rfl⟩ := Option.map_eq_some_iff.mp hv
  have n := isNx_nxE (entW ns rows w) (p := (p : Int)) (by omega)
  have := n.nn
  have := n.le
  omega
end Pu
namespace Pu
open PySem L2
/-! # dicts that are compared, cleared, popped from -/
/-! # what is None or of one's own -/
/-! # list(range(a, b)), tuple(range(..)) -/
end Pu
namespace Pu
open PySem L2
/-! # dicts read in another order; lost lists with other depths -/
/-- a dict that tells of the first keys what another one tells, turned by f -/
structure TurnI {A B C : Type} [DecidableEq A] (K : List (A × B)) (f : B → C) (ks : List A) (s : List (A × C)) : Prop where
  nd : (akeys s).Nodup
  get : ∀ k, aget s k = if k ∈ ks then (aget K k).map f else none
theorem TurnI.nil {A B C : Type} [DecidableEq A] {K : List (A × B)} {f : B → C} : TurnI K f [] [] := ⟨.nil, fun k => by simp [aget]⟩
theorem TurnI.keys {A B C : Type} [DecidableEq A] {K : List (A × B)} {f : B → C} {ks : List A} {s : List (A × C)} (h : TurnI K f ks s) : ∀ k ∈ akeys s, k ∈ akeys K := fun k z => by
  obtain ⟨v, e⟩ := mem_keys.mp z
  rw [h.get] at e
  split at e
  · obtain ⟨w, e, _⟩ := Option.map_eq_some_iff.mp e
    exact mem_keys.mpr ⟨w, e⟩
  · cases e
theorem KeptP.same {ns : List Int} {c b : Int} {Y : List Int → Prop} {K K' : List (List Int × List (Option (List (Int × Int))))} (h : KeptP ns c b Y K) (n : (akeys K').Nodup) (e : ∀ k, aget K' k = aget K k) : KeptP ns c b Y K' := ⟨n, fun st => by
  rw [← h.iff, mem_keys, mem_keys, e], fun st vs z => h.val st vs (by rw [← e]; exact z)⟩
/-- a lost list, of any depths -/
structure LostG (ns : List Int) (c b : Int) (F : List (List Int × Int × Int)) : Prop where
  nd : (akeys F).Nodup
  h0 : [] ∈ akeys F
  std : ∀ st ∈ akeys F, StdOk b st
  val : ∀ st n e, aget F st = some (n, e) → (0 ≤ n ∧ n ≤ c) ∧ 0 ≤ e ∧ ∀ w, LayOk ns (sprL st (up b st.length n.toNat)) w → ∃ n' e', aget F (aftS ns st (up b st.length n.toNat) w) = some (n', e') ∧ e' < e
theorem LostI.g {ns : List Int} {c b : Int} {X : List Int → Prop} {d : Nat} {F : List (List Int × Int × Int)} (hF : LostI ns c b X d F) (hX : ClS ns c b X) (hXs : ∀ st, X st → StdOk b st) (hk0 : [] ∈ akeys F) (hc : 0 ≤ c) : LostG ns c b F := ⟨hF.nd, hk0, fun st z => hXs st ((hF.mem _).mp z).1, fun st n e ev => by
  obtain ⟨a1, j, a2, a3, a4, a5⟩ := hF.val st n e ev
  have hx := ((hF.mem st).mp (mem_keys.mpr ⟨_, ev⟩)).1
  refine ⟨a1, by omega, fun w hw => ?_⟩
  have hfl := a5 w hw
  have hxa := hX st hx n.toNat (by omega) w hw
  obtain ⟨⟨n', e'⟩, ev'⟩ := mem_keys.mp ((hF.mem _).mpr ⟨hxa, hfl.mono (by omega)⟩)
  obtain ⟨j', b1, b2, b3⟩ := hF.deep ev'
  have hlt : j' < j := Classical.byContradiction fun z => b2 (hfl.mono (by omega))
  exact ⟨n', e', ev', by omega⟩⟩
theorem LostG.same {ns : List Int} {c b : Int} {F F' : List (List Int × Int × Int)} (h : LostG ns c b F) (n : (akeys F').Nodup) (f : Int → Int) (hf : ∀ x, 0 ≤ x → 0 ≤ f x) (hl : ∀ x y, x < y → f x < f y) (e : ∀ k, aget F' k = (aget F k).map fun v => (v.1, f v.2)) : LostG ns c b F' := by
  have hk : ∀ st, st ∈ akeys F' → st ∈ akeys F := fun st z => by
    obtain ⟨v, q⟩ := mem_keys.mp z
    rw [e] at q
    obtain ⟨w, q, _⟩ := Option.map_eq_some_iff.mp q
    exact mem_keys.mpr ⟨w, q⟩
  refine ⟨n, ?_, fun st z => h.std st (hk st z), fun st m x ev => ?_⟩
  · obtain ⟨v, q⟩ := mem_keys.mp h.h0
    exact mem_keys.mpr ⟨_, by rw [e, q]; rfl⟩
  · rw [e] at ev
    obtain ⟨⟨m0, x0⟩, q, q2⟩ := Option.map_eq_some_iff.mp ev
    obtain ⟨rfl, rfl⟩ := Prod.mk.inj q2
    obtain ⟨h1, h2, h3⟩ := h.val st m0 x0 q
    refine ⟨h1, hf _ h2, fun w hw => ?_⟩
    obtain ⟨n', e', g1, g2⟩ := h3 w hw
    exact ⟨n', f e', by rw [e, g1]; rfl, hl _ _ g2⟩
end Pu
namespace Pu
open PySem L2
/-! # whether a thing of any kind is a bar -/
/-! # how big a bar is -/
theorem dpDs_le {k : Nat} : ∀ ps : List D, (∀ p ∈ ps, dpD p ≤ k) → dpDs ps ≤ k
  | [], _ => by rw [dpDs]; omega
  | x :: ps, h => by
    have h1 := h x (by simp)
    have h2 := dpDs_le ps fun p hp => h p (by simp [hp])
    rw [dpDs]
    omega
theorem shDs_of : ∀ ps : List D, (∀ p ∈ ps, shD p = true) → shDs ps = true
  | [], _ => by rw [shDs]
  | x :: ps, h => by
    rw [shDs, h x (by simp), shDs_of ps fun p hp => h p (by simp [hp])]
    rfl
theorem shD_tp (ps : List D) : shD (.tup ps) = shDs ps := by rw [shD]
theorem dpD_tp (ps : List D) : dpD (.tup ps) = 1 + dpDs ps := by rw [dpD]
end Pu
namespace Pu
open PySem L2
/-! # typed: sorted of a known tuple -/
end Pu
namespace Pu
open PySem L2
end Pu
namespace Pu
open PySem L2
end Pu
namespace Pu
open PySem L2
end Pu
namespace Pu
open PySem L2
/-! # typed: a known tuple and perhaps nothing more; max with default 0 -/
end Pu
namespace Pu
open PySem L2
/-! # closed lists of tables -/
/-- the row of waits a tick later, when so many come -/
def nextW (b : Int) (row : List Int) (k : Nat) : List Int := (lonW row (up b row.length k)).drop 1
inductive ReW (c b : Int) : List Int → Prop
  | nil : ReW c b []
  | step {row : List Int} {k : Nat} : ReW c b row → (k : Int) ≤ c → ReW c b (nextW b row k)
theorem ReW.wait {c b : Int} (hb : 0 ≤ b) {row : List Int} (h : ReW c b row) : WaitS c b row := by
  induction h with
  | nil => exact WaitS.nil hb
  | step _ hk ih => exact (ih.lon hk).2
/-! ## there are few of them -/
/-! ## entries -/
/-- the laying-outs of a row of waits, one for each number -/
def laysT (ns : List Int) (rows : List (List Int)) (c b : Int) (row : List Int) : List (List (Int × Int)) := (rngL 0 (c + 1)).map fun k => laysW ns rows (lonW row (up b row.length k.toNat))
structure KeptW (ns : List Int) (c b : Int) (Y : List Int → Prop) (K : List (List Int × List (List (Int × Int)))) : Prop where
  nd : (akeys K).Nodup
  iff : ∀ st, st ∈ akeys K ↔ Y st
  val : ∀ st vs, aget K st = some vs → (vs.length : Int) = c + 1 ∧ ∀ (k : Nat) w, vs[k]? = some w → LayOk ns (sprL st (up b st.length k)) w ∧ Y (aftS ns st (up b st.length k) w)
def YW (ns : List Int) (rows : List (List Int)) (R : List Int → Prop) (st : List Int) : Prop := ∃ row, R row ∧ st = stW ns rows row
/-- what closed_of tells of a safe table -/
structure ClW (ns : List Int) (rows : List (List Int)) (c b : Int) (R : List Int → Prop) (K : List (List Int × List (List (Int × Int)))) : Prop where
  re : ∀ r, R r → ReW c b r
  nil : R []
  kept : KeptW ns c b (YW ns rows R) K
theorem ClW.of {ns : List Int} {rows : List (List Int)} {c b : Int} {R : List Int → Prop} {K : List (List Int × List (List (Int × Int)))} (h : Tab ns rows) (hb : 0 ≤ b ∧ b ≤ rows.length) (hc : 0 ≤ c) (hn : clsT c ns rows = []) (re : ∀ r, R r → ReW c b r) (nil : R []) (cl : ∀ r, R r → ∀ k : Nat, (k : Int) ≤ c → R (nextW b r k))
    (nd : (akeys K).Nodup) (iff : ∀ st, st ∈ akeys K ↔ YW ns rows R st) (val : ∀ st vs, aget K st = some vs → ∃ row, R row ∧ st = stW ns rows row ∧ vs = laysT ns rows c b row) : ClW ns rows c b R K :=
  ⟨re, nil, nd, iff, fun st vs e => by
    obtain ⟨row, hr, rfl, rfl⟩ := val st vs e
    have hw := (re row hr).wait hb.1
    refine ⟨by unfold laysT; rw [List.length_map, rngL_len]; omega, fun k w hk => ?_⟩
    unfold laysT at hk
    rw [List.getElem?_map] at hk
    obtain ⟨x, hx, rfl⟩ := Option.map_eq_some_iff.mp hk
    have hx := rngL_get hx
    have ex : x.toNat = k := by omega
    rw [ex, stW_len]
    refine ⟨laysW_ok h hb.2 hw hc hn (by omega), nextW b row k, cl row hr k (by omega), ?_⟩
    exact laysW_aft h hb.2 hw hc hn (by omega)⟩
theorem ClW.std {ns : List Int} {rows : List (List Int)} {c b : Int} {R : List Int → Prop} {K : List (List Int × List (List (Int × Int)))} (h : ClW ns rows c b R K) (hb : 0 ≤ b) : ∀ st, YW ns rows R st → StdOk b st := fun st ⟨row, hr, e⟩ => by
  rw [e]
  exact stW_std ((h.re row hr).wait hb)
/-! ## hashes of stands -/
/-! ## the line of a row of waits, letter by letter -/
end Pu
namespace Pu
open PySem L2
/-! # texts of many digits -/
mutual
def fnD : D → Nat
  | .non => 4
  | .bl _ => 5
  | .int i => if 0 ≤ i ∧ i ≤ 9 then 1 else 1921
  | .str x => (reprText x).length
  | .tup xs => 3 + fnDs xs
  | .lst xs => 2 + fnDs xs
  | .dct _ kvs => 2 + fnKv kvs
  | .tpl ns => 3 + 1923 * ns.length
  | _ => 4
def fnDs : List D → Nat
  | [] => 0
  | x :: xs => fnD x + 2 + fnDs xs
def fnKv : List (D × D) → Nat
  | [] => 0
  | (k, v) :: xs => fnD k + fnD v + 4 + fnKv xs
end
theorem digit_text {i : Int} (h : 0 ≤ i ∧ i ≤ 9) : (PyData.shown (.int i)).length = 1 := by
  have : i = 0 ∨ i = 1 ∨ i = 2 ∨ i = 3 ∨ i = 4 ∨ i = 5 ∨ i = 6 ∨ i = 7 ∨ i = 8 ∨ i = 9 := by omega
  rcases this with z | z | z | z | z | z | z | z | z | z <;> subst z <;> (rw [PyData.shown]; decide +kernel)
mutual
theorem fn_ok : ∀ d : D, shE d = true → (pyD d).shown.length ≤ fnD d
  | .non, _ => by rw [pyD, PyData.shown, fnD]; exact Nat.le_refl 4
  | .bl b, _ => by
    rw [pyD, PyData.shown, fnD]
    cases b
    · exact Nat.le_refl 5
    · exact Nat.le_succ 4
  | .int i, h => by
    rw [shE] at h
    rw [pyD, fnD]
    by_cases c : 0 ≤ i ∧ i ≤ 9
    · rw [if_pos c, digit_text c]; exact Nat.le_refl 1
    · rw [if_neg c, PyData.shown]
      exact PyProof.Rows.int_text_len_1921 (of_decide_eq_true h)
  | .str x, _ => by rw [pyD, PyData.shown, fnD]; exact Nat.le_refl _
  | .tup xs, h => by
    rw [shE] at h
    rw [pyD, PyData.shown, fnD]
    exact Nat.le_trans (tupleText_le _) (Nat.add_le_add_left (fns_ok xs h) 3)
  | .lst xs, h => by
    rw [shE] at h
    rw [pyD, PyData.shown, fnD]
    exact Nat.le_trans (listText_le _) (Nat.add_le_add_left (fns_ok xs h) 2)
  | .dct t kvs, h => by
    rw [shE, Bool.and_eq_true] at h
    rw [pyD, PyData.shown, fnD]
    exact Nat.le_trans (dictText_le _) (Nat.add_le_add_left (fnk_ok kvs h.2) 2)
  | .tpl ns, h => by
    rw [shE] at h
    rw [pyD, PyData.shown, fnD]
    exact Nat.le_trans (tupleText_le _) (Nat.add_le_add_left (wti_ok ns h) 3)
  | .exn _ _, h => by rw [shE] at h; cases h
  | .lrf _, h => by rw [shE] at h; cases h
  | .cel _ _, h => by rw [shE] at h; cases h
  | .dcn _, h => by rw [shE] at h; cases h
  | .ins _ _, h => by rw [shE] at h; cases h
  | .scr _, h => by rw [shE] at h; cases h
theorem fns_ok : ∀ ds : List D, shEs ds = true → piled (PyData.shownAll (pyDs ds)) ≤ fnDs ds
  | [], _ => by rw [pyDs, PyData.shownAll, piled_nil]; exact Nat.zero_le _
  | d :: ds, h => by
    rw [shEs, Bool.and_eq_true] at h
    have a := fn_ok d h.1
    have b := fns_ok ds h.2
    rw [pyDs, PyData.shownAll, piled_cons, fnDs]
    omega
theorem fnk_ok : ∀ ds : List (D × D), shEKv ds = true → piled (PyData.shownKv (pyKv ds)) ≤ fnKv ds
  | [], _ => by rw [pyKv, PyData.shownKv, piled_nil]; exact Nat.zero_le _
  | (k, v) :: ds, h => by
    rw [shEKv, Bool.and_eq_true, Bool.and_eq_true] at h
    have a := fn_ok k h.1.1
    have a2 := fn_ok v h.1.2
    have b := fnk_ok ds h.2
    rw [pyKv, PyData.shownKv, piled_cons, fnKv, strLen_append, strLen_append]
    have e : ((": " : String) : PySem.Str).length = 2 := rfl
    omega
end
theorem reprR_f {d : D} (h1 : shE d = true) (h2 : fnD d ≤ 16000000) (h3 : dpD d ≤ 60) : reprR d = .ok (pyD d).shown := by
  have a := fn_ok d h1
  have b := dp_ok d h1
  have e : sizeLine = 16777216 := rfl
  unfold reprR
  rw [if_pos ⟨h1, by omega, by omega⟩]
theorem fnD_tp (ps : List D) : fnD (.tup ps) = 3 + fnDs ps := by rw [fnD]
theorem fnD_ls (ps : List D) : fnD (.lst ps) = 2 + fnDs ps := by rw [fnD]
theorem dpD_ls (ps : List D) : dpD (.lst ps) = 1 + dpDs ps := by rw [dpD]
theorem fnD_i (v : Int) : fnD (.int v) ≤ 1921 := by rw [fnD]; split <;> omega
theorem fnDs_le {w : Nat} : ∀ ps : List D, (∀ p ∈ ps, fnD p ≤ w) → fnDs ps ≤ ps.length * (w + 2)
  | [], _ => by rw [fnDs]; omega
  | x :: ps, h => by
    have h1 := h x (by simp)
    have h2 := fnDs_le ps fun p hp => h p (by simp [hp])
    rw [fnDs, List.length_cons, Nat.succ_mul]
    omega
/-- what can be shown, its text at most so long, at most so deep, without known tuples -/
def Shf (w k : Nat) (d : D) : Prop := shD d = true ∧ fnD d ≤ w ∧ dpD d ≤ k
theorem Shf.up {w k w' k' : Nat} {d : D} (h : Shf w k d) (a : w ≤ w') (b : k ≤ k') : Shf w' k' d := ⟨h.1, Nat.le_trans h.2.1 a, Nat.le_trans h.2.2 b⟩
theorem shf_tup {w k n : Nat} {ds : List D} (h : ∀ d ∈ ds, Shf w k d) (hn : ds.length ≤ n) : Shf (3 + n * (w + 2)) (1 + k) (.tup ds) := by
  refine ⟨by rw [shD_tp]; exact shDs_of ds fun d hd => (h d hd).1, ?_, ?_⟩
  · have := fnDs_le ds fun d hd => (h d hd).2.1
    have z := Nat.mul_le_mul_right (w + 2) hn
    rw [fnD_tp]
    omega
  · have := dpDs_le ds fun d hd => (h d hd).2.2
    rw [dpD_tp]
    omega
theorem shD_ls (ps : List D) : shD (.lst ps) = shDs ps := by rw [shD]
theorem shf_lst {w k n : Nat} {ds : List D} (h : ∀ d ∈ ds, Shf w k d) (hn : ds.length ≤ n) : Shf (3 + n * (w + 2)) (1 + k) (.lst ds) := by
  refine ⟨by rw [shD_ls]; exact shDs_of ds fun d hd => (h d hd).1, ?_, ?_⟩
  · have := fnDs_le ds fun d hd => (h d hd).2.1
    have z := Nat.mul_le_mul_right (w + 2) hn
    rw [fnD_ls]
    omega
  · have := dpDs_le ds fun d hd => (h d hd).2.2
    rw [dpD_ls]
    omega
theorem shf_i {i : Int} (h : -10 ^ 60 ≤ i ∧ i ≤ 10 ^ 60) : Shf 1921 0 (.int i) := ⟨(shw_i h).1, fnD_i i, (shw_i h).2.2⟩
theorem shf_dig {i : Int} (h : 0 ≤ i ∧ i ≤ 9) : Shf 1 0 (.int i) := ⟨(shw_i ⟨by omega, by omega⟩).1, by rw [fnD, if_pos h]; exact Nat.le_refl 1, (shw_i ⟨by omega, by omega⟩).2.2⟩
/-- a row of at most sixty digits -/
theorem shf_row {r : List Int} (hl : r.length ≤ 60) (h : ∀ x ∈ r, 0 ≤ x ∧ x ≤ 9) : Shf 183 1 (eU eI r) := (shf_tup (ds := r.map eI) (w := 1) (k := 0) (n := 60) (fun d hd => by
  obtain ⟨x, hx, rfl⟩ := List.mem_map.mp hd
  exact shf_dig (h x hx)) (by rw [List.length_map]; exact hl)).up (by decide) (by decide)
/-! # tables judged: what is handed in -/
/-- loops, or a thing in their place -/
def Loo (a : D) : Prop := (∃ ns : List Int, a = .tpl ns ∧ ns.length ≤ 16 ∧ ∀ x ∈ ns, 0 ≤ x ∧ x ≤ 100) ∨ Shf 1000000 10 a
def Asked6 (d : D) : Prop := ∃ a b, d = .tup [a, b] ∧ Loo a ∧ Shf 8000000 12 b
/-- the loops as a tuple like others -/
def unT (d : D) : D := match d with
  | .tpl ns => eU eI ns
  | d => d
theorem Loo.shE {a : D} (h : Loo a) : shE a = true ∧ fnD a ≤ 1000000 ∧ dpD a ≤ 10 := by
  rcases h with ⟨ns, rfl, hl, hx⟩ | ⟨h1, h2, h3⟩
  · refine ⟨?_, ?_, ?_⟩
    · rw [Pu.shE, List.all_eq_true]
      intro i hi
      have := hx i hi
      exact decide_eq_true (log_small ⟨by omega, by omega⟩)
    · rw [fnD]; omega
    · rw [dpD]; omega
  · exact ⟨shE_of a h1, h2, h3⟩
theorem Asked6.repr {d : D} (h : Asked6 d) : reprR d = .ok (pyD d).shown := by
  obtain ⟨a, b, rfl, ha, hb⟩ := h
  obtain ⟨a1, a2, a3⟩ := ha.shE
  refine reprR_f ?_ ?_ ?_
  · rw [Pu.shE, shEs, shEs, shEs, a1, shE_of b hb.1]; rfl
  · rw [fnD, fnDs, fnDs, fnDs]
    have := hb.2.1
    omega
  · rw [dpD, dpDs, dpDs, dpDs]
    have := hb.2.2
    omega
end Pu
namespace Gk06
open PySem L2 Pu
def top (i : Nat) : Stmt := PySem.Challenge.pw_loopstore_k06_tables_judged.main.body.getD i (.Pass ⟨0, 0, 0, 0⟩)
abbrev s__law_tape : Stmt := top 20
def d__law_tape : He.DefD := ⟨("_law_tape", none), "_law_tape", "_law_tape", defArgs s__law_tape, defBody s__law_tape, defScope s__law_tape, [], []⟩
abbrev s__law_pick : Stmt := top 21
def d__law_pick : He.DefD := ⟨("_law_pick", none), "_law_pick", "_law_pick", defArgs s__law_pick, defBody s__law_pick, defScope s__law_pick, [], []⟩
abbrev s__law_loops : Stmt := top 22
def d__law_loops : He.DefD := ⟨("_law_loops", none), "_law_loops", "_law_loops", defArgs s__law_loops, defBody s__law_loops, defScope s__law_loops, [], []⟩
abbrev s__law_row : Stmt := top 23
def d__law_row : He.DefD := ⟨("_law_row", none), "_law_row", "_law_row", defArgs s__law_row, defBody s__law_row, defScope s__law_row, [], []⟩
abbrev s__law_rows : Stmt := top 24
def d__law_rows : He.DefD := ⟨("_law_rows", none), "_law_rows", "_law_rows", defArgs s__law_rows, defBody s__law_rows, defScope s__law_rows, [], []⟩
abbrev s__law_odd : Stmt := top 26
def d__law_odd : He.DefD := ⟨("_law_odd", none), "_law_odd", "_law_odd", defArgs s__law_odd, defBody s__law_odd, defScope s__law_odd, [], []⟩
abbrev s__law_bent : Stmt := top 30
def d__law_bent : He.DefD := ⟨("_law_bent", none), "_law_bent", "_law_bent", defArgs s__law_bent, defBody s__law_bent, defScope s__law_bent, [], []⟩
abbrev s__law_is_int : Stmt := top 27
def d__law_is_int : He.DefD := ⟨("_law_is_int", none), "_law_is_int", "_law_is_int", defArgs s__law_is_int, defBody s__law_is_int, defScope s__law_is_int, [], []⟩
abbrev s__law_are_ints : Stmt := top 28
def d__law_are_ints : He.DefD := ⟨("_law_are_ints", none), "_law_are_ints", "_law_are_ints", defArgs s__law_are_ints, defBody s__law_are_ints, defScope s__law_are_ints, [], []⟩
abbrev s__law_fault : Stmt := top 29
def d__law_fault : He.DefD := ⟨("_law_fault", none), "_law_fault", "_law_fault", defArgs s__law_fault, defBody s__law_fault, defScope s__law_fault, [], []⟩
abbrev s_is_integer : Stmt := top 10
def d_is_integer : He.DefD := ⟨("is_integer", none), "is_integer", "is_integer", defArgs s_is_integer, defBody s_is_integer, defScope s_is_integer, [], []⟩
abbrev s_is_within : Stmt := top 11
def d_is_within : He.DefD := ⟨("is_within", none), "is_within", "is_within", defArgs s_is_within, defBody s_is_within, defScope s_is_within, [], []⟩
abbrev s_are_within : Stmt := top 12
def d_are_within : He.DefD := ⟨("are_within", none), "are_within", "are_within", defArgs s_are_within, defBody s_are_within, defScope s_are_within, [], []⟩
abbrev s_is_loops : Stmt := top 13
def d_is_loops : He.DefD := ⟨("is_loops", none), "is_loops", "is_loops", defArgs s_is_loops, defBody s_is_loops, defScope s_is_loops, [], []⟩
abbrev s_BadTable___init__ : Stmt := inClass (top 3) 0
def d_BadTable___init__ : He.DefD := ⟨("BadTable", some "__init__"), "__init__", "BadTable.__init__", defArgs s_BadTable___init__, defBody s_BadTable___init__, defScope s_BadTable___init__, [], []⟩
abbrev s_is_row : Stmt := top 14
def d_is_row : He.DefD := ⟨("is_row", none), "is_row", "is_row", defArgs s_is_row, defBody s_is_row, defScope s_is_row, [], []⟩
abbrev s_sum_of : Stmt := top 15
def d_sum_of : He.DefD := ⟨("sum_of", none), "sum_of", "sum_of", defArgs s_sum_of, defBody s_sum_of, defScope s_sum_of, [], []⟩
abbrev s_entries_of : Stmt := top 17
def d_entries_of : He.DefD := ⟨("entries_of", none), "entries_of", "entries_of", defArgs s_entries_of, defBody s_entries_of, defScope s_entries_of, [], []⟩
abbrev s_Table___init__ : Stmt := inClass (top 18) 0
def d_Table___init__ : He.DefD := ⟨("Table", some "__init__"), "__init__", "Table.__init__", defArgs s_Table___init__, defBody s_Table___init__, defScope s_Table___init__, [], []⟩
abbrev s__law_tried : Stmt := top 31
def d__law_tried : He.DefD := ⟨("_law_tried", none), "_law_tried", "_law_tried", defArgs s__law_tried, defBody s__law_tried, defScope s__law_tried, [], []⟩
abbrev s_law : Stmt := top 32
def d_law : He.DefD := ⟨("law", none), "law", "law", defArgs s_law, defBody s_law, defScope s_law, [], []⟩
def fa : List He.Fa := [.free "list", .free "int", .free "len", .free "range", .free "tuple", .free "repr", .free "isinstance", .free "bool", .free "sum", .free "all", .int "MOST_LENGTH" 40, .int "MOST_LOOPS" 8, .int "MOST_BOUND" 60, .free "enumerate", .int "MOST_ITEMS" 60, .glo "Table", .cls "Table", .noat "Table" "loops", .noat "Table" "rows", .noat "Table" "bound", .noat "Table" "kept_entries", .glo "BadTable", .glo "BadText", .exm "BadTable" "LoopError" true, .glo "LoopError", .glo "_law_tape", .glo "_law_pick", .glo "_law_loops", .glo "_law_row", .glo "_law_rows", .glo "_law_odd", .glo "_law_bent", .glo "_law_is_int", .glo "_law_are_ints", .glo "_law_fault", .glo "is_integer", .glo "is_within", .glo "are_within", .glo "is_loops", .glo "is_row", .glo "sum_of", .glo "entries_of", .mkr "Table", .glo "_law_tried", .glo "law"]
def fx : List (PySem.W.Frag → Bool) := [oexF "BadTable" ["part", "at"], isyT [("BadTable", true)] "BadTable", isyT [("BadTable", false)] "BadText", xffT [("BadTable", true)] ["at"], xffT [("BadTable", true)] ["part"]]
def fn : List He.DefD := [d__law_tape, d__law_pick, d__law_loops, d__law_row, d__law_rows, d__law_odd, d__law_bent, d__law_is_int, d__law_are_ints, d__law_fault, d_is_integer, d_is_within, d_are_within, d_is_loops, d_BadTable___init__, d_is_row, d_sum_of, d_entries_of, d_Table___init__, d__law_tried, d_law]
section
variable {P : Program} {w : World} {K : PySem.W.Frag} {mg : Str → Option Value} {base h : Heap}
theorem sc__law_tape : FnScope ["_law_script"] ["_law_script"] (defScope s__law_tape) := ⟨rfl, rfl, rfl, by decide +kernel, rfl, by decide +kernel, by decide +kernel⟩
noncomputable def g__law_tape : DS := (sRet (eLst (aCons (eCall bListA (aConsT (eVar 0) aNil)) (aCons (eC (.int 0)) (aCons (eC (.int 0)) (aCons (eC (.int 1)) (aCons (eC (.int 0)) aNil)))))))
noncomputable def M__law_tape : DM := runD 1 false g__law_tape
theorem ok__law_tape (X : K.In h) (G : h.Ns mainGlobals mg) (c : SaysX fa fn fx K) : OkD P w K mg base 1 "_law_tape" 1 false M__law_tape := by
  refine okD_of (c.def_ 0 (d := d__law_tape) rfl) (He.glo_ok X G (c.fact 25)) sc__law_tape (fun _ _ _ _ _ _ us hl => match us, hl with | [_], _ => rfl) (fun cdv A outer s H E C hr tk => ?_)
  exact (sss_one (ss_ret (fun _ => (se_lst (sa_cons (se_callTy (call_listA rfl) d_listA q_listA (He.free_ok X G (c.fact 0)) bo_list (sat_cons (se_var 0) sat_nil)) (sa_cons se_int (sa_cons se_int (sa_cons se_int (sa_cons se_int sa_nil)))))))))
theorem sc__law_pick : FnScope ["_law_tape_here", "_law_size", "_law_digit", "_law_cell", "_law_mixed"] ["_law_tape_here", "_law_size"] (defScope s__law_pick) := ⟨rfl, rfl, rfl, by decide +kernel, rfl, by decide +kernel, by decide +kernel⟩
noncomputable def g__law_pick : DS := (sSeq (sIf (xB (eOp dGt (eTix 0 2) (eC (.int 1))))
 (sSeq (sAsg 2 (eOp dMod (eCall bInt (aConsT (eTix 0 2) aNil)) (eVar 1)))
 (sSeq (sTset 0 2 (eOp dDiv (eTix 0 2) (eVar 1)))
 (sRetV 2)))
 sPass)
 (sSeq (sTset 0 4 (eOp dAddA (eTix 0 4) (eC (.int 1))))
 (sSeq (sAsg 3 (eC (.int 0)))
 (sSeq (sIf (xB (eOp dLt (eTix 0 1) (eCall bLenA (aConsT (eTix 0 0) aNil))))
 (sSeq (sAsg 3 (eOp dIxA (eTix 0 0) (eTix 0 1)))
 (sTset 0 1 (eOp dAddA (eTix 0 1) (eC (.int 1)))))
 sPass)
 (sSeq (sIf (xB (eOp dGe (eVar 3) (eOp dPow (eC (.int 10)) (eC (.int 18)))))
 (sSeq (sTset 0 2 (eOp dDiv (eVar 3) (eVar 1)))
 (sRet (eOp dMod (eCall bInt (aConsT (eVar 3) aNil)) (eVar 1))))
 sPass)
 (sSeq (sAsg 4 (eOp dMod (eCall bInt (aConsT (eOp dAddA (eOp dAddA (eOp dMulA (eTix 0 3) (eC (.int 48271))) (eOp dMod (eCall bInt (aConsT (eVar 3) aNil)) (eC (.int 2147483629)))) (eOp dMulA (eTix 0 4) (eC (.int 69621)))) aNil)) (eC (.int 2147483647))))
 (sSeq (sAsg 4 (eOp dMod (eCall bInt (aConsT (eOp dMulA (eVar 4) (eOp dAddA (eOp dDiv (eVar 4) (eC (.int 1009))) (eC (.int 40692)))) aNil)) (eC (.int 2147483399))))
 (sSeq (sTset 0 3 (eVar 4))
 (sRet (eOp dMod (eCall bInt (aConsT (eOp dDiv (eVar 4) (eC (.int 16))) aNil)) (eVar 1)))))))))))
noncomputable def M__law_pick : DM := runD 5 true g__law_pick
theorem ok__law_pick (X : K.In h) (G : h.Ns mainGlobals mg) (c : SaysX fa fn fx K) : OkD P w K mg base 1 "_law_pick" 2 true M__law_pick := by
  refine okD_of (c.def_ 1 (d := d__law_pick) rfl) (He.glo_ok X G (c.fact 26)) sc__law_pick (fun _ _ _ _ _ _ us hl => match us, hl with | [_, _], _ => rfl) (fun cdv A outer s H E C hr tk => ?_)
  exact (sss_cons (ss_if (fun _ => (st_cmp (op_gtP (u64 hr)) d_pl q_pl (se_tix 0 2) se_int (nomark _)))
 (sss_cons (ss_set 2 sc__law_pick.nd (fun _ => (se_op op_mod d_mod q_mod (se_callTy call_int1 d_int q_int (He.free_ok X G (c.fact 1)) bo_int (sat_cons (se_tix 0 2) sat_nil)) (se_var 1))))
 (sss_cons (ss_tset 0 2 (fun _ => (se_op op_fdiv d_div q_div (se_tix 0 2) (se_var 1))))
 (sss_one (ss_retV 2))))
 sss_nil)
 (sss_cons (ss_tset 0 4 (fun _ => (se_op op_addU d_adda q_adda (se_tix 0 4) se_int)))
 (sss_cons (ss_set 3 sc__law_pick.nd (fun _ => se_int))
 (sss_cons (ss_if (fun _ => (st_cmp (op_ltP (u64 hr)) d_pl q_pl (se_tix 0 1) (se_callB call_lenA d_lena q_lena (He.free_ok X G (c.fact 2)) bo_len (sat_cons (se_tix 0 0) sat_nil)) (nomark _)))
 (sss_cons (ss_set 3 sc__law_pick.nd (fun _ => (se_ix (ix_any (u1 hr)) d_ixa q_ixa (se_tix 0 0) (se_tix 0 1) (by intro _ _; rfl))))
 (sss_one (ss_tset 0 1 (fun _ => (se_op op_addU d_adda q_adda (se_tix 0 1) se_int)))))
 sss_nil)
 (sss_cons (ss_if (fun _ => (st_cmp (op_geP (u64 hr)) d_pl q_pl (se_var 3) (se_op op_pow d_pow q_pow se_int se_int) (nomark _)))
 (sss_cons (ss_tset 0 2 (fun _ => (se_op op_fdiv d_div q_div (se_var 3) (se_var 1))))
 (sss_one (ss_ret (fun _ => (se_op op_mod d_mod q_mod (se_callTy call_int1 d_int q_int (He.free_ok X G (c.fact 1)) bo_int (sat_cons (se_var 3) sat_nil)) (se_var 1))))))
 sss_nil)
 (sss_cons (ss_set 4 sc__law_pick.nd (fun _ => (se_op op_mod d_mod q_mod (se_callTy call_int1 d_int q_int (He.free_ok X G (c.fact 1)) bo_int (sat_cons (se_op op_addU d_adda q_adda (se_op op_addU d_adda q_adda (se_op op_mulA d_mula q_mula (se_tix 0 3) se_int) (se_op op_mod d_mod q_mod (se_callTy call_int1 d_int q_int (He.free_ok X G (c.fact 1)) bo_int (sat_cons (se_var 3) sat_nil)) se_int)) (se_op op_mulA d_mula q_mula (se_tix 0 4) se_int)) sat_nil)) se_int)))
 (sss_cons (ss_set 4 sc__law_pick.nd (fun _ => (se_op op_mod d_mod q_mod (se_callTy call_int1 d_int q_int (He.free_ok X G (c.fact 1)) bo_int (sat_cons (se_op op_mulA d_mula q_mula (se_var 4) (se_op op_addU d_adda q_adda (se_op op_fdiv d_div q_div (se_var 4) se_int) se_int)) sat_nil)) se_int)))
 (sss_cons (ss_tset 0 3 (fun _ => (se_var 4)))
 (sss_one (ss_ret (fun _ => (se_op op_mod d_mod q_mod (se_callTy call_int1 d_int q_int (He.free_ok X G (c.fact 1)) bo_int (sat_cons (se_op op_fdiv d_div q_div (se_var 4) se_int) sat_nil)) (se_var 1)))))))))))))
theorem sc__law_loops : FnScope ["_law_tape_here", "_law_most", "_law_longest", "_law_many", "_law_found", "_law_k"] ["_law_tape_here", "_law_most", "_law_longest"] (defScope s__law_loops) := ⟨rfl, rfl, rfl, by decide +kernel, rfl, by decide +kernel, by decide +kernel⟩
noncomputable def g__law_loops : DS := (sSeq (sAsg 3 (eOp dAddA (eC (.int 1)) (eDefT 0 2 M__law_pick (aCons (eVar 1) aNil))))
 (sSeq (sAsg 4 (eLc [5] (iRng (aConsT (eVar 3) aNil)) (gN 5) xYes (eOp dAddA (eC (.int 1)) (eDefT 0 2 M__law_pick (aCons (eVar 2) aNil)))))
 (sSeq (sSetI 4 setA (eDefT 0 2 M__law_pick (aCons (eVar 3) aNil)) (eC (.int 1)))
 (sRet (eCall bTpl (aConsT (eVar 4) aNil))))))
noncomputable def M__law_loops : DM := runD 6 true g__law_loops
theorem ok__law_loops (X : K.In h) (G : h.Ns mainGlobals mg) (c : SaysX fa fn fx K) : OkD P w K mg base 2 "_law_loops" 3 true M__law_loops := by
  refine okD_of (c.def_ 2 (d := d__law_loops) rfl) (He.glo_ok X G (c.fact 27)) sc__law_loops (fun _ _ _ _ _ _ us hl => match us, hl with | [_, _, _], _ => rfl) (fun cdv A outer s H E C hr tk => ?_)
  exact (sss_cons (ss_set 3 sc__law_loops.nd (fun _ => (se_op op_addU d_adda q_adda se_int (se_defTO 0 (ok__law_pick X G c) hr tk (sa_cons (se_var 1) sa_nil)))))
 (sss_cons (ss_setLc 4 (own := [("_law_k", 5)]) rfl sc__law_loops.nd (fun _ => (sj_range1 (He.free_ok X G (c.fact 3)) (sat_cons (se_var 3) sat_nil) (many_consT many_nil))) (blk_ok (by kernel_rfl)) (within_name (by decide)) (fun s H Ca cl fp => (sg_name 5 sc__law_loops.nd)) (fun _ s H Ca cl fp L tk => sts_nil) (fun _ s H Ca cl fp L tk => (se_op op_addU d_adda q_adda se_int (se_defTO 0 (ok__law_pick X G c) hr tk (sa_cons (se_var 2) sa_nil)))))
 (sss_cons (ss_setI 4 (set_any (u1 hr)) d_setA (fun _ => se_int) (fun _ => (se_defTO 0 (ok__law_pick X G c) hr tk (sa_cons (se_var 3) sa_nil))))
 (sss_one (ss_ret (fun _ => (se_callTy call_tpl d_tpl q_tpl (He.free_ok X G (c.fact 4)) bo_tuple (sat_cons (se_var 4) sat_nil))))))))
theorem sc__law_row : FnScope ["_law_tape_here", "_law_loops_here", "_law_wait", "_law_row_here", "_law_left", "_law_again", "_law_turn", "_law_fitting", "_law_k"] ["_law_tape_here", "_law_loops_here", "_law_wait"] (defScope s__law_row) := ⟨rfl, rfl, rfl, by decide +kernel, rfl, by decide +kernel, by decide +kernel⟩
noncomputable def g__law_row : DS := (sSeq (sAsg 3 (eLst aNil))
 (sSeq (sAsg 4 (eVar 2))
 (sSeq (sAsg 5 (eOp dEq (eDefT 0 2 M__law_pick (aCons (eC (.int 12)) aNil)) (eC (.int 0))))
 (sSeq (sFor (iRng (aConsT (eC (.int 8)) aNil)) (gN 6)
 (sSeq (sAsg 7 (eLc [8] (iRng (aConsT (eCall bLenA (aConsT (eVar 1) aNil)) aNil)) (gN 8) (xAnd (xB (eOp dLe (eOp dIxA (eVar 1) (eVar 8)) (eVar 4))) (xOr (xB (eVar 5)) (xB (eOp dNinA (eVar 8) (eVar 3))))) (eVar 8)))
 (sSeq (sIf (xOr (xB (eOp dEq (eCall bLenA (aConsT (eVar 7) aNil)) (eC (.int 0)))) (xB (eOp dEq (eVar 4) (eC (.int 0)))))
 sBrk
 sPass)
 (sSeq (sDropM (eMut 3 isLst mAppend (aCons (eOp dIxA (eVar 7) (eDefT 0 2 M__law_pick (aCons (eCall bLenA (aConsT (eVar 7) aNil)) aNil))) aNil)))
 (sAsg 4 (eOp dSub (eVar 4) (eOp dIxA (eVar 1) (eOp dIxA (eVar 3) (eUn dNeg (eC (.int 1)))))))))))
 (sSeq (sFor (iRng (aConsT (eVar 4) aNil)) (gN 6)
 (sDropM (eMut 3 isLst mAppend (aCons (eIdx (eVar 1) (eC (.int 1))) aNil))))
 (sRet (eCall bTuple (aConsT (eVar 3) aNil))))))))
noncomputable def M__law_row : DM := runD 9 true g__law_row
theorem ok__law_row (X : K.In h) (G : h.Ns mainGlobals mg) (c : SaysX fa fn fx K) : OkD P w K mg base 2 "_law_row" 3 true M__law_row := by
  refine okD_of (c.def_ 3 (d := d__law_row) rfl) (He.glo_ok X G (c.fact 28)) sc__law_row (fun _ _ _ _ _ _ us hl => match us, hl with | [_, _, _], _ => rfl) (fun cdv A outer s H E C hr tk => ?_)
  exact (sss_cons (ss_set 3 sc__law_row.nd (fun _ => (se_lst sa_nil)))
 (sss_cons (ss_set 4 sc__law_row.nd (fun _ => (se_var 2)))
 (sss_cons (ss_set 5 sc__law_row.nd (fun _ => (se_cmp (op_eqP (u64 hr)) d_pl q_pl (se_defTO 0 (ok__law_pick X G c) hr tk (sa_cons se_int sa_nil)) se_int (nomark _))))
 (sss_cons (ss_for (passes_of rfl) rfl (fun _ => (si_range1 (He.free_ok X G (c.fact 3)) (sat_cons se_int sat_nil) (many_consT many_nil))) (sg_name 6 sc__law_row.nd) (fun pins =>
 (sss_cons (ss_setLc 7 (own := [("_law_k", 8)]) rfl sc__law_row.nd (fun _ => (sj_range1 (He.free_ok X G (c.fact 3)) (sat_cons (se_callB call_lenA d_lena q_lena (He.free_ok X G (c.fact 2)) bo_len (sat_cons (se_var 1) sat_nil)) sat_nil) (many_consT many_nil))) (blk_ok (by kernel_rfl)) (within_name (by decide)) (fun s H Ca cl fp => (sg_name 8 sc__law_row.nd)) (fun _ s H Ca cl fp L tk => (sts_one (st_of (sw_and (st_cmp (op_leP (u64 hr)) d_pl q_pl (se_ix (ix_any (u1 hr)) d_ixa q_ixa (se_var 1) (se_var 8) (by intro _ _; rfl)) (se_var 4) (nomark _)) (sw_and1 (st_of (sw_or (st_val (se_var 5)) (sw_or1 (st_cmp (op_ninA (u64 hr)) d_nina q_nina (se_var 8) (se_var 3) (by with_unfolding_all rfl)))))))))) (fun _ s H Ca cl fp L tk => (se_var 8)))
 (sss_cons (ss_if (fun _ => (st_of (sw_or (st_cmp (op_eqP (u64 hr)) d_pl q_pl (se_callB call_lenA d_lena q_lena (He.free_ok X G (c.fact 2)) bo_len (sat_cons (se_var 7) sat_nil)) se_int (nomark _)) (sw_or1 (st_cmp (op_eqP (u64 hr)) d_pl q_pl (se_var 4) se_int (nomark _))))))
 (sss_one ss_break)
 sss_nil)
 (sss_cons (ss_exprM (fun _ => (se_mut 3 kind_lst m_append PySem.F.plainAttrs_list PySem.F.slot_list_append PySem.F.type_list_append mt_append (sa_cons (se_ix (ix_any (u1 hr)) d_ixa q_ixa (se_var 7) (se_defTO 0 (ok__law_pick X G c) hr tk (sa_cons (se_callB call_lenA d_lena q_lena (He.free_ok X G (c.fact 2)) bo_len (sat_cons (se_var 7) sat_nil)) sa_nil)) (by intro _ _; rfl)) sa_nil))))
 (sss_one (ss_set 4 sc__law_row.nd (fun _ => (se_op op_sub d_sub q_sub (se_var 4) (se_ix (ix_any (u1 hr)) d_ixa q_ixa (se_var 1) (se_ix (ix_any (u1 hr)) d_ixa q_ixa (se_var 3) (se_un un_neg d_neg q_neg se_int) (by intro _ _; rfl)) (by intro _ _; rfl)))))))))))
 (sss_cons (ss_for (passes_of rfl) rfl (fun _ => (si_range1 (He.free_ok X G (c.fact 3)) (sat_cons (se_var 4) sat_nil) (many_consT many_nil))) (sg_name 6 sc__law_row.nd) (fun pins =>
 (sss_one (ss_exprM (fun _ => (se_mut 3 kind_lst m_append PySem.F.plainAttrs_list PySem.F.slot_list_append PySem.F.type_list_append mt_append (sa_cons (se_idx (se_var 1) se_int) sa_nil)))))))
 (sss_one (ss_ret (fun _ => (se_callTy call_tuple_of d_tuple q_tuple (He.free_ok X G (c.fact 4)) bo_tuple (sat_cons (se_var 3) sat_nil))))))))))
theorem sc__law_rows : FnScope ["_law_tape_here", "_law_loops_here", "_law_bound", "_law_wait"] ["_law_tape_here", "_law_loops_here", "_law_bound"] (defScope s__law_rows) := ⟨rfl, rfl, rfl, by decide +kernel, rfl, by decide +kernel, by decide +kernel⟩
noncomputable def g__law_rows : DS := (sRet (eCall bTuple (aConsT (eLc [3] (iRng (aConsT (eC (.int 1)) (aConsT (eOp dAddA (eVar 2) (eC (.int 1))) aNil))) (gN 3) xYes (eDefT 0 3 M__law_row (aCons (eVar 1) (aCons (eVar 3) aNil)))) aNil)))
noncomputable def M__law_rows : DM := runD 4 true g__law_rows
theorem ok__law_rows (X : K.In h) (G : h.Ns mainGlobals mg) (c : SaysX fa fn fx K) : OkD P w K mg base 3 "_law_rows" 3 true M__law_rows := by
  refine okD_of (c.def_ 4 (d := d__law_rows) rfl) (He.glo_ok X G (c.fact 29)) sc__law_rows (fun _ _ _ _ _ _ us hl => match us, hl with | [_, _, _], _ => rfl) (fun cdv A outer s H E C hr tk => ?_)
  exact (sss_one (ss_ret (fun _ => (se_callTy call_tuple_of d_tuple q_tuple (He.free_ok X G (c.fact 4)) bo_tuple (sat_cons (se_lc (own := [("_law_wait", 3)]) rfl sc__law_rows.nd (sj_range2 (He.free_ok X G (c.fact 3)) (sat_cons se_int (sat_cons (se_op op_addU d_adda q_adda (se_var 2) se_int) sat_nil)) (many_consT (many_consT many_nil))) (blk_ok (by kernel_rfl)) (within_name (by decide)) (fun s H Ca cl fp => (sg_name 3 sc__law_rows.nd)) (fun s H Ca cl fp L tk => sts_nil) (fun s H Ca cl fp L tk => (se_defTO 0 (ok__law_row X G c) hr tk (sa_cons (se_var 1) (sa_cons (se_var 3) sa_nil))))) sat_nil)))))
theorem sc__law_odd : FnScope ["_law_tape_here", "_law_things"] ["_law_tape_here"] (defScope s__law_odd) := ⟨rfl, rfl, rfl, by decide +kernel, rfl, by decide +kernel, by decide +kernel⟩
noncomputable def g__law_odd : DS := (sSeq (sAsg 1 (eLst (aCons (eC .non) (aCons (eC (.bl true)) (aCons (eC (.bl false)) (aCons (eC (.int 0)) (aCons (eC (.int 1)) (aCons (eC (.int 5)) (aCons (eC (.int 61)) (aCons (eUn dNeg (eC (.int 1))) (aCons (eOp dPow (eC (.int 10)) (eC (.int 20))) (aCons (eC (.str "")) (aCons (eC (.str "2")) (aCons (eTup aNil) (aCons (eLst aNil) (aCons (eDct false) (aCons (eTup (aCons (eC (.int 1)) aNil)) (aCons (eLst (aCons (eC (.int 2)) aNil)) (aCons (eTup (aCons (eC (.int 0)) (aCons (eC (.int 1)) aNil))) (aCons (eLst (aCons (eLst (aCons (eC (.int 1)) aNil)) (aCons (eC (.int 2)) aNil))) (aCons (eDctC (.inr "a") (.int 1)) aNil)))))))))))))))))))))
 (sSeq (sAsg 1 (eOp dAddA (eVar 1) (eLst (aCons (eTup (aCons (eC (.bl true)) aNil)) (aCons (eTup (aCons (eC (.int 2)) (aCons (eC .non) aNil))) (aCons (eTup (aCons (eC (.int 1)) (aCons (eC (.str "1")) aNil))) (aCons (eTup (aCons (eTup (aCons (eC (.int 1)) (aCons (eC (.int 2)) aNil))) aNil)) (aCons (eOp dMulA (eTup (aCons (eC (.int 0)) aNil)) (eC (.int 401))) (aCons (eOp dMulA (eTup (aCons (eC (.int 1)) aNil)) (eC (.int 9))) (aCons (eTup (aCons (eC (.int 41)) aNil)) (aCons (eTup (aCons (eC (.int 1)) (aCons (eC (.int 0)) aNil))) aNil)))))))))))
 (sRet (eOp dIxA (eVar 1) (eDefT 0 2 M__law_pick (aCons (eCall bLenA (aConsT (eVar 1) aNil)) aNil))))))
noncomputable def M__law_odd : DM := runD 2 true g__law_odd
theorem ok__law_odd (X : K.In h) (G : h.Ns mainGlobals mg) (c : SaysX fa fn fx K) : OkD P w K mg base 2 "_law_odd" 1 true M__law_odd := by
  refine okD_of (c.def_ 5 (d := d__law_odd) rfl) (He.glo_ok X G (c.fact 30)) sc__law_odd (fun _ _ _ _ _ _ us hl => match us, hl with | [_], _ => rfl) (fun cdv A outer s H E C hr tk => ?_)
  exact (sss_cons (ss_set 1 sc__law_odd.nd (fun _ => (se_lst (sa_cons se_non (sa_cons se_bl (sa_cons se_bl (sa_cons se_int (sa_cons se_int (sa_cons se_int (sa_cons se_int (sa_cons (se_un un_neg d_neg q_neg se_int) (sa_cons (se_op op_pow d_pow q_pow se_int se_int) (sa_cons se_str (sa_cons se_str (sa_cons (se_tup sa_nil) (sa_cons (se_lst sa_nil) (sa_cons (se_dct false) (sa_cons (se_tup (sa_cons se_int sa_nil)) (sa_cons (se_lst (sa_cons se_int sa_nil)) (sa_cons (se_tup (sa_cons se_int (sa_cons se_int sa_nil))) (sa_cons (se_lst (sa_cons (se_lst (sa_cons se_int sa_nil)) (sa_cons se_int sa_nil))) (sa_cons (se_dctC (k := .inr "a") pe_str pe_int (fun _ _ => (.int _))) sa_nil))))))))))))))))))))))
 (sss_cons (ss_set 1 sc__law_odd.nd (fun _ => (se_op op_addU d_adda q_adda (se_var 1) (se_lst (sa_cons (se_tup (sa_cons se_bl sa_nil)) (sa_cons (se_tup (sa_cons se_int (sa_cons se_non sa_nil))) (sa_cons (se_tup (sa_cons se_int (sa_cons se_str sa_nil))) (sa_cons (se_tup (sa_cons (se_tup (sa_cons se_int (sa_cons se_int sa_nil))) sa_nil)) (sa_cons (se_op op_mulA d_mula q_mula (se_tup (sa_cons se_int sa_nil)) se_int) (sa_cons (se_op op_mulA d_mula q_mula (se_tup (sa_cons se_int sa_nil)) se_int) (sa_cons (se_tup (sa_cons se_int sa_nil)) (sa_cons (se_tup (sa_cons se_int (sa_cons se_int sa_nil))) sa_nil))))))))))))
 (sss_one (ss_ret (fun _ => (se_ix (ix_any (u1 hr)) d_ixa q_ixa (se_var 1) (se_defTO 0 (ok__law_pick X G c) hr tk (sa_cons (se_callB call_lenA d_lena q_lena (He.free_ok X G (c.fact 2)) bo_len (sat_cons (se_var 1) sat_nil)) sa_nil)) (by intro _ _; rfl)))))))
theorem sc__law_bent : FnScope ["_law_tape_here", "_law_loops_here", "_law_rows_here", "_law_kind", "_law_made", "_law_at", "_law_wrong", "_law_one", "_law_number"] ["_law_tape_here", "_law_loops_here", "_law_rows_here"] (defScope s__law_bent) := ⟨rfl, rfl, rfl, by decide +kernel, rfl, by decide +kernel, by decide +kernel⟩
noncomputable def g__law_bent : DS := (sSeq (sAsg 3 (eDefT 0 2 M__law_pick (aCons (eC (.int 7)) aNil)))
 (sSeq (sAsg 4 (eCall bListA (aConsT (eVar 2) aNil)))
 (sSeq (sAsg 5 (eDefT 0 2 M__law_pick (aCons (eCall bLenA (aConsT (eVar 4) aNil)) aNil)))
 (sSeq (sIf (xB (eOp dEq (eVar 3) (eC (.int 0))))
 (sSeq (sAsg 6 (eLst (aCons (eCall bListA (aConsT (eVar 1) aNil)) (aCons (eTup aNil) (aCons (eOp dAddA (eVar 1) (eOp dMulA (eTup (aCons (eC (.int 1)) aNil)) (eC (.int 8)))) (aCons (eOp dAddT (eVar 1) (eTup (aCons (eC (.int 0)) aNil))) (aCons (eOp dAddT (eVar 1) (eTup (aCons (eC (.int 41)) aNil))) (aCons (eOp dAddA (eVar 1) (eTup (aCons (eC (.bl true)) aNil))) (aCons (eC .non) (aCons (eC (.int 5)) aNil))))))))))
 (sSeq (sDropM (eMut 6 isLst mAppend (aCons (eDefT 0 1 M__law_odd aNil) aNil)))
 (sRet (eTup (aCons (eOp dIxA (eVar 6) (eDefT 0 2 M__law_pick (aCons (eC (.int 9)) aNil))) (aCons (eVar 2) aNil))))))
 sPass)
 (sSeq (sIf (xB (eOp dEq (eVar 3) (eC (.int 1))))
 (sSeq (sAsg 6 (eLst (aCons (eCall bListA (aConsT (eVar 2) aNil)) (aCons (eTup aNil) (aCons (eOp dMulA (eVar 2) (eC (.int 61))) (aCons (eC .non) (aCons (eDct false) (aCons (eOp dIxA (eVar 2) (eC (.int 0))) (aCons (eDefT 0 1 M__law_odd aNil) (aCons (eOp dAddA (eVar 2) (eTup (aCons (eTup aNil) aNil))) aNil))))))))))
 (sRet (eTup (aCons (eVar 1) (aCons (eOp dIxA (eVar 6) (eDefT 0 2 M__law_pick (aCons (eC (.int 8)) aNil))) aNil)))))
 sPass)
 (sSeq (sIf (xB (eOp dEq (eVar 3) (eC (.int 2))))
 (sSeq (sAsg 7 (eOp dIxA (eVar 4) (eVar 5)))
 (sSetI 4 setA (eVar 5) (eOp dIxA (eLst (aCons (eCall bListA (aConsT (eVar 7) aNil)) (aCons (eDefT 0 1 M__law_odd aNil) (aCons (eOp dAddA (eVar 7) (eTup (aCons (eCall bLenA (aConsT (eVar 1) aNil)) aNil))) (aCons (eOp dAddA (eVar 7) (eTup (aCons (eUn dNeg (eC (.int 1))) aNil))) (aCons (eC .non) aNil)))))) (eDefT 0 2 M__law_pick (aCons (eC (.int 5)) aNil)))))
 sPass)
 (sSeq (sIf (xB (eOp dEq (eVar 3) (eC (.int 3))))
 (sSetI 4 setA (eVar 5) (eOp dAddA (eOp dIxA (eVar 4) (eVar 5)) (eTup (aCons (eIdx (eVar 1) (eC (.int 1))) aNil))))
 sPass)
 (sSeq (sIf (xB (eOp dEq (eVar 3) (eC (.int 4))))
 (sSetI 4 setA (eVar 5) (eSl (eOp dIxA (eVar 4) (eVar 5)) (some (eC (.int 1))) none))
 sPass)
 (sSeq (sIf (xB (eOp dEq (eVar 3) (eC (.int 5))))
 (sSetI 4 setA (eVar 5) (eCall bTuple (aConsT (eLc [8] (jSeq (eOp dIxA (eVar 4) (eVar 5))) (gN 8) xYes (eOp dEq (eVar 8) (eC (.int 1)))) aNil)))
 sPass)
 (sSeq (sIf (xB (eOp dEq (eVar 3) (eC (.int 6))))
 (sDropM (eMut 4 isLst mInsert (aCons (eVar 5) (aCons (eOp dIxA (eVar 4) (eDefT 0 2 M__law_pick (aCons (eCall bLenA (aConsT (eVar 4) aNil)) aNil))) aNil))))
 sPass)
 (sRet (eTup (aCons (eVar 1) (aCons (eCall bTuple (aConsT (eVar 4) aNil)) aNil))))))))))))))
noncomputable def M__law_bent : DM := runD 9 true g__law_bent
theorem ok__law_bent (X : K.In h) (G : h.Ns mainGlobals mg) (c : SaysX fa fn fx K) : OkD P w K mg base 3 "_law_bent" 3 true M__law_bent := by
  refine okD_of (c.def_ 6 (d := d__law_bent) rfl) (He.glo_ok X G (c.fact 31)) sc__law_bent (fun _ _ _ _ _ _ us hl => match us, hl with | [_, _, _], _ => rfl) (fun cdv A outer s H E C hr tk => ?_)
  exact (sss_cons (ss_set 3 sc__law_bent.nd (fun _ => (se_defTO 0 (ok__law_pick X G c) hr tk (sa_cons se_int sa_nil))))
 (sss_cons (ss_set 4 sc__law_bent.nd (fun _ => (se_callTy (call_listA rfl) d_listA q_listA (He.free_ok X G (c.fact 0)) bo_list (sat_cons (se_var 2) sat_nil))))
 (sss_cons (ss_set 5 sc__law_bent.nd (fun _ => (se_defTO 0 (ok__law_pick X G c) hr tk (sa_cons (se_callB call_lenA d_lena q_lena (He.free_ok X G (c.fact 2)) bo_len (sat_cons (se_var 4) sat_nil)) sa_nil))))
 (sss_cons (ss_if (fun _ => (st_cmp (op_eqP (u64 hr)) d_pl q_pl (se_var 3) se_int (nomark _)))
 (sss_cons (ss_set 6 sc__law_bent.nd (fun _ => (se_lst (sa_cons (se_callTy (call_listA rfl) d_listA q_listA (He.free_ok X G (c.fact 0)) bo_list (sat_cons (se_var 1) sat_nil)) (sa_cons (se_tup sa_nil) (sa_cons (se_op op_addU d_adda q_adda (se_var 1) (se_op op_mulA d_mula q_mula (se_tup (sa_cons se_int sa_nil)) se_int)) (sa_cons (se_op op_catP d_addt q_addt (se_var 1) (se_tup (sa_cons se_int sa_nil))) (sa_cons (se_op op_catP d_addt q_addt (se_var 1) (se_tup (sa_cons se_int sa_nil))) (sa_cons (se_op op_addU d_adda q_adda (se_var 1) (se_tup (sa_cons se_bl sa_nil))) (sa_cons se_non (sa_cons se_int sa_nil)))))))))))
 (sss_cons (ss_exprM (fun _ => (se_mut 6 kind_lst m_append PySem.F.plainAttrs_list PySem.F.slot_list_append PySem.F.type_list_append mt_append (sa_cons (se_defTO 0 (ok__law_odd X G c) hr tk sa_nil) sa_nil))))
 (sss_one (ss_ret (fun _ => (se_tup (sa_cons (se_ix (ix_any (u1 hr)) d_ixa q_ixa (se_var 6) (se_defTO 0 (ok__law_pick X G c) hr tk (sa_cons se_int sa_nil)) (by intro _ _; rfl)) (sa_cons (se_var 2) sa_nil))))))))
 sss_nil)
 (sss_cons (ss_if (fun _ => (st_cmp (op_eqP (u64 hr)) d_pl q_pl (se_var 3) se_int (nomark _)))
 (sss_cons (ss_set 6 sc__law_bent.nd (fun _ => (se_lst (sa_cons (se_callTy (call_listA rfl) d_listA q_listA (He.free_ok X G (c.fact 0)) bo_list (sat_cons (se_var 2) sat_nil)) (sa_cons (se_tup sa_nil) (sa_cons (se_op op_mulA d_mula q_mula (se_var 2) se_int) (sa_cons se_non (sa_cons (se_dct false) (sa_cons (se_ix (ix_any (u1 hr)) d_ixa q_ixa (se_var 2) se_int (by intro _ _; rfl)) (sa_cons (se_defTO 0 (ok__law_odd X G c) hr tk sa_nil) (sa_cons (se_op op_addU d_adda q_adda (se_var 2) (se_tup (sa_cons (se_tup sa_nil) sa_nil))) sa_nil)))))))))))
 (sss_one (ss_ret (fun _ => (se_tup (sa_cons (se_var 1) (sa_cons (se_ix (ix_any (u1 hr)) d_ixa q_ixa (se_var 6) (se_defTO 0 (ok__law_pick X G c) hr tk (sa_cons se_int sa_nil)) (by intro _ _; rfl)) sa_nil)))))))
 sss_nil)
 (sss_cons (ss_if (fun _ => (st_cmp (op_eqP (u64 hr)) d_pl q_pl (se_var 3) se_int (nomark _)))
 (sss_cons (ss_set 7 sc__law_bent.nd (fun _ => (se_ix (ix_any (u1 hr)) d_ixa q_ixa (se_var 4) (se_var 5) (by intro _ _; rfl))))
 (sss_one (ss_setI 4 (set_any (u1 hr)) d_setA (fun _ => (se_ix (ix_any (u1 hr)) d_ixa q_ixa (se_lst (sa_cons (se_callTy (call_listA rfl) d_listA q_listA (He.free_ok X G (c.fact 0)) bo_list (sat_cons (se_var 7) sat_nil)) (sa_cons (se_defTO 0 (ok__law_odd X G c) hr tk sa_nil) (sa_cons (se_op op_addU d_adda q_adda (se_var 7) (se_tup (sa_cons (se_callB call_lenA d_lena q_lena (He.free_ok X G (c.fact 2)) bo_len (sat_cons (se_var 1) sat_nil)) sa_nil))) (sa_cons (se_op op_addU d_adda q_adda (se_var 7) (se_tup (sa_cons (se_un un_neg d_neg q_neg se_int) sa_nil))) (sa_cons se_non sa_nil)))))) (se_defTO 0 (ok__law_pick X G c) hr tk (sa_cons se_int sa_nil)) (by intro _ _; rfl))) (fun _ => (se_var 5)))))
 sss_nil)
 (sss_cons (ss_if (fun _ => (st_cmp (op_eqP (u64 hr)) d_pl q_pl (se_var 3) se_int (nomark _)))
 (sss_one (ss_setI 4 (set_any (u1 hr)) d_setA (fun _ => (se_op op_addU d_adda q_adda (se_ix (ix_any (u1 hr)) d_ixa q_ixa (se_var 4) (se_var 5) (by intro _ _; rfl)) (se_tup (sa_cons (se_idx (se_var 1) se_int) sa_nil)))) (fun _ => (se_var 5))))
 sss_nil)
 (sss_cons (ss_if (fun _ => (st_cmp (op_eqP (u64 hr)) d_pl q_pl (se_var 3) se_int (nomark _)))
 (sss_one (ss_setI 4 (set_any (u1 hr)) d_setA (fun _ => (se_sl (se_ix (ix_any (u1 hr)) d_ixa q_ixa (se_var 4) (se_var 5) (by intro _ _; rfl)) (so_some se_int) so_none)) (fun _ => (se_var 5))))
 sss_nil)
 (sss_cons (ss_if (fun _ => (st_cmp (op_eqP (u64 hr)) d_pl q_pl (se_var 3) se_int (nomark _)))
 (sss_one (ss_setI 4 (set_any (u1 hr)) d_setA (fun _ => (se_callTy call_tuple_of d_tuple q_tuple (He.free_ok X G (c.fact 4)) bo_tuple (sat_cons (se_lc (own := [("_law_number", 8)]) rfl sc__law_bent.nd (sj_seq (se_ix (ix_any (u1 hr)) d_ixa q_ixa (se_var 4) (se_var 5) (by intro _ _; rfl))) (blk_ok (by kernel_rfl)) (within_name (by decide)) (fun s H Ca cl fp => (sg_name 8 sc__law_bent.nd)) (fun s H Ca cl fp L tk => sts_nil) (fun s H Ca cl fp L tk => (se_cmp (op_eqP (u64 hr)) d_pl q_pl (se_var 8) se_int (nomark _)))) sat_nil))) (fun _ => (se_var 5))))
 sss_nil)
 (sss_cons (ss_if (fun _ => (st_cmp (op_eqP (u64 hr)) d_pl q_pl (se_var 3) se_int (nomark _)))
 (sss_one (ss_exprM (fun _ => (se_mut 4 kind_lst m_insert PySem.F.plainAttrs_list PySem.F.slot_list_insert PySem.F.type_list_insert mt_insert (sa_cons (se_var 5) (sa_cons (se_ix (ix_any (u1 hr)) d_ixa q_ixa (se_var 4) (se_defTO 0 (ok__law_pick X G c) hr tk (sa_cons (se_callB call_lenA d_lena q_lena (He.free_ok X G (c.fact 2)) bo_len (sat_cons (se_var 4) sat_nil)) sa_nil)) (by intro _ _; rfl)) sa_nil))))))
 sss_nil)
 (sss_one (ss_ret (fun _ => (se_tup (sa_cons (se_var 1) (sa_cons (se_callTy call_tuple_of d_tuple q_tuple (He.free_ok X G (c.fact 4)) bo_tuple (sat_cons (se_var 4) sat_nil)) sa_nil))))))))))))))))
theorem sc__law_is_int : FnScope ["_law_thing", "_law_least", "_law_most"] ["_law_thing", "_law_least", "_law_most"] (defScope s__law_is_int) := ⟨rfl, rfl, rfl, by decide +kernel, rfl, by decide +kernel, by decide +kernel⟩
noncomputable def g__law_is_int : DS := (sRet (eAnd (eUn (dIsi [] .int) (eVar 0)) (eAnd (eNot (eUn (dIsi [] .bool) (eVar 0))) (eAnd (eOp dLe (eVar 1) (eVar 0)) (eOp dLe (eVar 0) (eVar 2))))))
noncomputable def M__law_is_int : DM := runD 3 false g__law_is_int
theorem ok__law_is_int (X : K.In h) (G : h.Ns mainGlobals mg) (c : SaysX fa fn fx K) : OkD P w K mg base 1 "_law_is_int" 3 false M__law_is_int := by
  refine okD_of (c.def_ 7 (d := d__law_is_int) rfl) (He.glo_ok X G (c.fact 32)) sc__law_is_int (fun _ _ _ _ _ _ us hl => match us, hl with | [_, _, _], _ => rfl) (fun cdv A outer s H E C hr tk => ?_)
  exact (sss_one (ss_ret (fun _ => (se_and (se_isi ownOk_nil (se_var 0) (He.free_ok X G (c.fact 6)) bo_isinstance (He.free_ok X G (c.fact 1)) bo_int) (se_and (se_not (se_isi ownOk_nil (se_var 0) (He.free_ok X G (c.fact 6)) bo_isinstance (He.free_ok X G (c.fact 7)) bo_bool)) (se_and (se_cmp (op_leP (u64 hr)) d_pl q_pl (se_var 1) (se_var 0) (nomark _)) (se_and1 (se_cmp (op_leP (u64 hr)) d_pl q_pl (se_var 0) (se_var 2) (nomark _)))))))))
theorem sc__law_are_ints : FnScope ["_law_thing", "_law_many", "_law_least", "_law_most", "_law_item"] ["_law_thing", "_law_many", "_law_least", "_law_most"] (defScope s__law_are_ints) := ⟨rfl, rfl, rfl, by decide +kernel, rfl, by decide +kernel, by decide +kernel⟩
noncomputable def g__law_are_ints : DS := (sSeq (sIf (xOr (xNot (xB (eUn (dIsi [] .tuple) (eVar 0)))) (xB (eOp dGt (eCall bLenA (aConsT (eVar 0) aNil)) (eVar 1))))
 (sRet (eC (.bl false)))
 sPass)
 (sRet (eOp dEq (eCall bLenA (aConsT (eLc [4] (jSeq (eVar 0)) (gN 4) (xNot (xB (eDef 3 M__law_is_int (aCons (eVar 4) (aCons (eVar 2) (aCons (eVar 3) aNil)))))) (eVar 4)) aNil)) (eC (.int 0)))))
noncomputable def M__law_are_ints : DM := runD 5 false g__law_are_ints
theorem ok__law_are_ints (X : K.In h) (G : h.Ns mainGlobals mg) (c : SaysX fa fn fx K) : OkD P w K mg base 2 "_law_are_ints" 4 false M__law_are_ints := by
  refine okD_of (c.def_ 8 (d := d__law_are_ints) rfl) (He.glo_ok X G (c.fact 33)) sc__law_are_ints (fun _ _ _ _ _ _ us hl => match us, hl with | [_, _, _, _], _ => rfl) (fun cdv A outer s H E C hr tk => ?_)
  exact (sss_cons (ss_if (fun _ => (st_of (sw_or (st_not (st_val (se_isi ownOk_nil (se_var 0) (He.free_ok X G (c.fact 6)) bo_isinstance (He.free_ok X G (c.fact 4)) bo_tuple))) (sw_or1 (st_cmp (op_gtP (u64 hr)) d_pl q_pl (se_callB call_lenA d_lena q_lena (He.free_ok X G (c.fact 2)) bo_len (sat_cons (se_var 0) sat_nil)) (se_var 1) (nomark _))))))
 (sss_one (ss_ret (fun _ => se_bl)))
 sss_nil)
 (sss_one (ss_ret (fun _ => (se_cmp (op_eqP (u64 hr)) d_pl q_pl (se_callB call_lenA d_lena q_lena (He.free_ok X G (c.fact 2)) bo_len (sat_cons (se_lc (own := [("_law_item", 4)]) rfl sc__law_are_ints.nd (sj_seq (se_var 0)) (blk_ok (by kernel_rfl)) (within_name (by decide)) (fun s H Ca cl fp => (sg_name 4 sc__law_are_ints.nd)) (fun s H Ca cl fp L tk => (sts_one (st_not (st_val (se_defO (ok__law_is_int X G c) hr tk (sa_cons (se_var 4) (sa_cons (se_var 2) (sa_cons (se_var 3) sa_nil)))))))) (fun s H Ca cl fp L tk => (se_var 4))) sat_nil)) se_int (nomark _))))))
theorem sc__law_fault : FnScope ["_law_loops_here", "_law_rows_here", "_law_at", "_law_k"] ["_law_loops_here", "_law_rows_here"] (defScope s__law_fault) := ⟨rfl, rfl, rfl, by decide +kernel, rfl, by decide +kernel, by decide +kernel⟩
noncomputable def g__law_fault : DS := (sSeq (sIf (xOr (xNot (xB (eDef 4 M__law_are_ints (aCons (eVar 0) (aCons (eC (.int 8)) (aCons (eC (.int 1)) (aCons (eC (.int 40)) aNil))))))) (xB (eOp dEq (eCall bLenA (aConsT (eVar 0) aNil)) (eC (.int 0)))))
 (sRet (eTup (aCons (eC (.str "loops")) (aCons (eUn dNeg (eC (.int 1))) aNil))))
 sPass)
 (sSeq (sIf (xOr (xNot (xB (eUn (dIsi [] .tuple) (eVar 1)))) (xOr (xB (eOp dLt (eCall bLenA (aConsT (eVar 1) aNil)) (eC (.int 1)))) (xB (eOp dGt (eCall bLenA (aConsT (eVar 1) aNil)) (eC (.int 60))))))
 (sRet (eTup (aCons (eC (.str "rows")) (aCons (eUn dNeg (eC (.int 1))) aNil))))
 sPass)
 (sSeq (sFor (iRng (aConsT (eCall bLenA (aConsT (eVar 1) aNil)) aNil)) (gN 2)
 (sIf (xOr (xNot (xB (eDef 4 M__law_are_ints (aCons (eOp dIxA (eVar 1) (eVar 2)) (aCons (eC (.int 60)) (aCons (eC (.int 0)) (aCons (eOp dSub (eCall bLenA (aConsT (eVar 0) aNil)) (eC (.int 1))) aNil))))))) (xB (eOp dNe (eCall bSumA (aConsT (eLc [3] (jSeq (eOp dIxA (eVar 1) (eVar 2))) (gN 3) xYes (eOp dIxA (eVar 0) (eVar 3))) aNil)) (eOp dAddA (eVar 2) (eC (.int 1))))))
 (sRet (eTup (aCons (eC (.str "rows")) (aCons (eVar 2) aNil))))
 sPass))
 (sRet (eC .non)))))
noncomputable def M__law_fault : DM := runD 4 false g__law_fault
theorem ok__law_fault (X : K.In h) (G : h.Ns mainGlobals mg) (c : SaysX fa fn fx K) : OkD P w K mg base 3 "_law_fault" 2 false M__law_fault := by
  refine okD_of (c.def_ 9 (d := d__law_fault) rfl) (He.glo_ok X G (c.fact 34)) sc__law_fault (fun _ _ _ _ _ _ us hl => match us, hl with | [_, _], _ => rfl) (fun cdv A outer s H E C hr tk => ?_)
  exact (sss_cons (ss_if (fun _ => (st_of (sw_or (st_not (st_val (se_defO (ok__law_are_ints X G c) hr tk (sa_cons (se_var 0) (sa_cons se_int (sa_cons se_int (sa_cons se_int sa_nil))))))) (sw_or1 (st_cmp (op_eqP (u64 hr)) d_pl q_pl (se_callB call_lenA d_lena q_lena (He.free_ok X G (c.fact 2)) bo_len (sat_cons (se_var 0) sat_nil)) se_int (nomark _))))))
 (sss_one (ss_ret (fun _ => (se_tup (sa_cons se_str (sa_cons (se_un un_neg d_neg q_neg se_int) sa_nil))))))
 sss_nil)
 (sss_cons (ss_if (fun _ => (st_of (sw_or (st_not (st_val (se_isi ownOk_nil (se_var 1) (He.free_ok X G (c.fact 6)) bo_isinstance (He.free_ok X G (c.fact 4)) bo_tuple))) (sw_or (st_cmp (op_ltP (u64 hr)) d_pl q_pl (se_callB call_lenA d_lena q_lena (He.free_ok X G (c.fact 2)) bo_len (sat_cons (se_var 1) sat_nil)) se_int (nomark _)) (sw_or1 (st_cmp (op_gtP (u64 hr)) d_pl q_pl (se_callB call_lenA d_lena q_lena (He.free_ok X G (c.fact 2)) bo_len (sat_cons (se_var 1) sat_nil)) se_int (nomark _)))))))
 (sss_one (ss_ret (fun _ => (se_tup (sa_cons se_str (sa_cons (se_un un_neg d_neg q_neg se_int) sa_nil))))))
 sss_nil)
 (sss_cons (ss_for (passes_of rfl) rfl (fun _ => (si_range1 (He.free_ok X G (c.fact 3)) (sat_cons (se_callB call_lenA d_lena q_lena (He.free_ok X G (c.fact 2)) bo_len (sat_cons (se_var 1) sat_nil)) sat_nil) (many_consT many_nil))) (sg_name 2 sc__law_fault.nd) (fun pins =>
 (sss_one (ss_if (fun _ => (st_of (sw_or (st_not (st_val (se_defO (ok__law_are_ints X G c) hr tk (sa_cons (se_ix (ix_any (u1 hr)) d_ixa q_ixa (se_var 1) (se_var 2) (by intro _ _; rfl)) (sa_cons se_int (sa_cons se_int (sa_cons (se_op op_sub d_sub q_sub (se_callB call_lenA d_lena q_lena (He.free_ok X G (c.fact 2)) bo_len (sat_cons (se_var 0) sat_nil)) se_int) sa_nil))))))) (sw_or1 (st_cmp (op_neP (u64 hr)) d_pl q_pl (se_callB (cr_sumA rfl) d_suma q_suma (He.free_ok X G (c.fact 8)) bo_sum (sat_cons (se_lc (own := [("_law_k", 3)]) rfl sc__law_fault.nd (sj_seq (se_ix (ix_any (u1 hr)) d_ixa q_ixa (se_var 1) (se_var 2) (by intro _ _; rfl))) (blk_ok (by kernel_rfl)) (within_name (by decide)) (fun s H Ca cl fp => (sg_name 3 sc__law_fault.nd)) (fun s H Ca cl fp L tk => sts_nil) (fun s H Ca cl fp L tk => (se_ix (ix_any (u1 hr)) d_ixa q_ixa (se_var 0) (se_var 3) (by intro _ _; rfl)))) sat_nil)) (se_op op_addU d_adda q_adda (se_var 2) se_int) (nomark _))))))
 (sss_one (ss_ret (fun _ => (se_tup (sa_cons se_str (sa_cons (se_var 2) sa_nil))))))
 sss_nil))))
 (sss_one (ss_ret (fun _ => se_non))))))
theorem sc_is_integer : FnScope ["thing"] ["thing"] (defScope s_is_integer) := ⟨rfl, rfl, rfl, by decide +kernel, rfl, by decide +kernel, by decide +kernel⟩
noncomputable def g_is_integer : DS := (sRet (eAnd (eUn (dIsi [] .int) (eVar 0)) (eNot (eUn (dIsi [] .bool) (eVar 0)))))
noncomputable def M_is_integer : DM := runD 1 false g_is_integer
theorem ok_is_integer (X : K.In h) (G : h.Ns mainGlobals mg) (c : SaysX fa fn fx K) : OkD P w K mg base 1 "is_integer" 1 false M_is_integer := by
  refine okD_of (c.def_ 10 (d := d_is_integer) rfl) (He.glo_ok X G (c.fact 35)) sc_is_integer (fun _ _ _ _ _ _ us hl => match us, hl with | [_], _ => rfl) (fun cdv A outer s H E C hr tk => ?_)
  exact (sss_one (ss_ret (fun _ => (se_and (se_isi ownOk_nil (se_var 0) (He.free_ok X G (c.fact 6)) bo_isinstance (He.free_ok X G (c.fact 1)) bo_int) (se_and1 (se_not (se_isi ownOk_nil (se_var 0) (He.free_ok X G (c.fact 6)) bo_isinstance (He.free_ok X G (c.fact 7)) bo_bool)))))))
theorem sc_is_within : FnScope ["thing", "least", "most"] ["thing", "least", "most"] (defScope s_is_within) := ⟨rfl, rfl, rfl, by decide +kernel, rfl, by decide +kernel, by decide +kernel⟩
noncomputable def g_is_within : DS := (sRet (eAnd (eDef 1 M_is_integer (aCons (eVar 0) aNil)) (eChain dLe dLe (eVar 1) (eVar 0) (eVar 2))))
noncomputable def M_is_within : DM := runD 3 false g_is_within
theorem ok_is_within (X : K.In h) (G : h.Ns mainGlobals mg) (c : SaysX fa fn fx K) : OkD P w K mg base 2 "is_within" 3 false M_is_within := by
  refine okD_of (c.def_ 11 (d := d_is_within) rfl) (He.glo_ok X G (c.fact 36)) sc_is_within (fun _ _ _ _ _ _ us hl => match us, hl with | [_, _, _], _ => rfl) (fun cdv A outer s H E C hr tk => ?_)
  exact (sss_one (ss_ret (fun _ => (se_and (se_defO (ok_is_integer X G c) hr tk (sa_cons (se_var 0) sa_nil)) (se_and1 (se_chain (op_leP (u64 hr)) d_pl q_pl (op_leP (u64 hr)) d_pl q_pl (se_var 1) (se_var 0) (se_var 2)))))))
theorem sc_are_within : FnScope ["thing", "most", "least", "greatest", "item"] ["thing", "most", "least", "greatest"] (defScope s_are_within) := ⟨rfl, rfl, rfl, by decide +kernel, rfl, by decide +kernel, by decide +kernel⟩
noncomputable def g_are_within : DS := (sSeq (sIf (xOr (xNot (xB (eUn (dIsi [] .tuple) (eVar 0)))) (xB (eOp dGt (eCall bLenA (aConsT (eVar 0) aNil)) (eVar 1))))
 (sRet (eC (.bl false)))
 sPass)
 (sRet (eCall bAll (aConsT (eLc [4] (jSeq (eVar 0)) (gN 4) xYes (eDef 3 M_is_within (aCons (eVar 4) (aCons (eVar 2) (aCons (eVar 3) aNil))))) aNil))))
noncomputable def M_are_within : DM := runD 5 false g_are_within
theorem ok_are_within (X : K.In h) (G : h.Ns mainGlobals mg) (c : SaysX fa fn fx K) : OkD P w K mg base 3 "are_within" 4 false M_are_within := by
  refine okD_of (c.def_ 12 (d := d_are_within) rfl) (He.glo_ok X G (c.fact 37)) sc_are_within (fun _ _ _ _ _ _ us hl => match us, hl with | [_, _, _, _], _ => rfl) (fun cdv A outer s H E C hr tk => ?_)
  exact (sss_cons (ss_if (fun _ => (st_of (sw_or (st_not (st_val (se_isi ownOk_nil (se_var 0) (He.free_ok X G (c.fact 6)) bo_isinstance (He.free_ok X G (c.fact 4)) bo_tuple))) (sw_or1 (st_cmp (op_gtP (u64 hr)) d_pl q_pl (se_callB call_lenA d_lena q_lena (He.free_ok X G (c.fact 2)) bo_len (sat_cons (se_var 0) sat_nil)) (se_var 1) (nomark _))))))
 (sss_one (ss_ret (fun _ => se_bl)))
 sss_nil)
 (sss_one (ss_ret (fun _ => (se_callB (cr_all rfl) d_all q_all (He.free_ok X G (c.fact 9)) bo_all (sat_cons (se_lc (own := [("item", 4)]) rfl sc_are_within.nd (sj_seq (se_var 0)) (blk_ok (by kernel_rfl)) (within_name (by decide)) (fun s H Ca cl fp => (sg_name 4 sc_are_within.nd)) (fun s H Ca cl fp L tk => sts_nil) (fun s H Ca cl fp L tk => (se_defO (ok_is_within X G c) hr tk (sa_cons (se_var 4) (sa_cons (se_var 2) (sa_cons (se_var 3) sa_nil)))))) sat_nil))))))
theorem sc_is_loops : FnScope ["thing"] ["thing"] (defScope s_is_loops) := ⟨rfl, rfl, rfl, by decide +kernel, rfl, by decide +kernel, by decide +kernel⟩
noncomputable def g_is_loops : DS := (sRet (eAnd (eDef 4 M_are_within (aCons (eVar 0) (aCons (eC (.int 8)) (aCons (eC (.int 1)) (aCons (eC (.int 40)) aNil))))) (eOp dGt (eCall bLenA (aConsT (eVar 0) aNil)) (eC (.int 0)))))
noncomputable def M_is_loops : DM := runD 1 false g_is_loops
theorem ok_is_loops (X : K.In h) (G : h.Ns mainGlobals mg) (c : SaysX fa fn fx K) : OkD P w K mg base 4 "is_loops" 1 false M_is_loops := by
  refine okD_of (c.def_ 13 (d := d_is_loops) rfl) (He.glo_ok X G (c.fact 38)) sc_is_loops (fun _ _ _ _ _ _ us hl => match us, hl with | [_], _ => rfl) (fun cdv A outer s H E C hr tk => ?_)
  exact (sss_one (ss_ret (fun _ => (se_and (se_defO (ok_are_within X G c) hr tk (sa_cons (se_var 0) (sa_cons (se_globI (He.int_ok X G (c.fact 11))) (sa_cons se_int (sa_cons (se_globI (He.int_ok X G (c.fact 10))) sa_nil))))) (se_and1 (se_cmp (op_gtP (u64 hr)) d_pl q_pl (se_callB call_lenA d_lena q_lena (He.free_ok X G (c.fact 2)) bo_len (sat_cons (se_var 0) sat_nil)) se_int (nomark _)))))))
theorem sc_BadTable___init__ : FnScope ["self", "part", "at"] ["self", "part", "at"] (defScope s_BadTable___init__) := ⟨rfl, rfl, rfl, by decide +kernel, rfl, by decide +kernel, by decide +kernel⟩
theorem okE_BadTable (X : K.In h) (G : h.Ns mainGlobals mg) (c : SaysX fa fn fx K) : OkE P w K mg base "BadTable" "part" "at" :=
  okE_of (c.def_ 14 (d := d_BadTable___init__) rfl) (oexF_ok (c.own 0)) (He.glo_ok X G (c.fact 21)) sc_BadTable___init__ (fun _ _ _ _ _ _ us hl => match us, hl with | [_, _, _], _ => rfl) (fun _ _ _ _ _ _ => ⟨by first | exact Or.inl rfl | exact Or.inr (Or.inl rfl) | exact Or.inr (Or.inr rfl), by first | exact Or.inl rfl | exact Or.inr (Or.inl rfl) | exact Or.inr (Or.inr rfl), by first | exact Or.inl rfl | exact Or.inr (Or.inl rfl) | exact Or.inr (Or.inr rfl)⟩)
theorem sc_is_row : FnScope ["loops", "thing"] ["loops", "thing"] (defScope s_is_row) := ⟨rfl, rfl, rfl, by decide +kernel, rfl, by decide +kernel, by decide +kernel⟩
noncomputable def g_is_row : DS := (sRet (eDef 4 M_are_within (aCons (eVar 1) (aCons (eC (.int 60)) (aCons (eC (.int 0)) (aCons (eOp dSub (eCall bLenA (aConsT (eVar 0) aNil)) (eC (.int 1))) aNil))))))
noncomputable def M_is_row : DM := runD 2 false g_is_row
theorem ok_is_row (X : K.In h) (G : h.Ns mainGlobals mg) (c : SaysX fa fn fx K) : OkD P w K mg base 4 "is_row" 2 false M_is_row := by
  refine okD_of (c.def_ 15 (d := d_is_row) rfl) (He.glo_ok X G (c.fact 39)) sc_is_row (fun _ _ _ _ _ _ us hl => match us, hl with | [_, _], _ => rfl) (fun cdv A outer s H E C hr tk => ?_)
  exact (sss_one (ss_ret (fun _ => (se_defO (ok_are_within X G c) hr tk (sa_cons (se_var 1) (sa_cons (se_globI (He.int_ok X G (c.fact 14))) (sa_cons se_int (sa_cons (se_op op_sub d_sub q_sub (se_callB call_lenA d_lena q_lena (He.free_ok X G (c.fact 2)) bo_len (sat_cons (se_var 0) sat_nil)) se_int) sa_nil))))))))
theorem sc_sum_of : FnScope ["loops", "row", "loop"] ["loops", "row"] (defScope s_sum_of) := ⟨rfl, rfl, rfl, by decide +kernel, rfl, by decide +kernel, by decide +kernel⟩
noncomputable def g_sum_of : DS := (sRet (eCall bSumA (aConsT (eLc [2] (jSeq (eVar 1)) (gN 2) xYes (eOp dIxA (eVar 0) (eVar 2))) aNil)))
noncomputable def M_sum_of : DM := runD 3 false g_sum_of
theorem ok_sum_of (X : K.In h) (G : h.Ns mainGlobals mg) (c : SaysX fa fn fx K) : OkD P w K mg base 1 "sum_of" 2 false M_sum_of := by
  refine okD_of (c.def_ 16 (d := d_sum_of) rfl) (He.glo_ok X G (c.fact 40)) sc_sum_of (fun _ _ _ _ _ _ us hl => match us, hl with | [_, _], _ => rfl) (fun cdv A outer s H E C hr tk => ?_)
  exact (sss_one (ss_ret (fun _ => (se_callB (cr_sumA rfl) d_suma q_suma (He.free_ok X G (c.fact 8)) bo_sum (sat_cons (se_lc (own := [("loop", 2)]) rfl sc_sum_of.nd (sj_seq (se_var 1)) (blk_ok (by kernel_rfl)) (within_name (by decide)) (fun s H Ca cl fp => (sg_name 2 sc_sum_of.nd)) (fun s H Ca cl fp L tk => sts_nil) (fun s H Ca cl fp L tk => (se_ix (ix_any (u1 hr)) d_ixa q_ixa (se_var 0) (se_var 2) (by intro _ _; rfl)))) sat_nil)))))
theorem sc_entries_of : FnScope ["loops", "row", "left", "gone", "found", "loop"] ["loops", "row"] (defScope s_entries_of) := ⟨rfl, rfl, rfl, by decide +kernel, rfl, by decide +kernel, by decide +kernel⟩
noncomputable def g_entries_of : DS := (sSeq (sAsg 2 (eDef 2 M_sum_of (aCons (eVar 0) (aCons (eVar 1) aNil))))
 (sSeq (sAsg 3 (eC (.int 0)))
 (sSeq (sAsg 4 (eLst aNil))
 (sSeq (sFor (iSeq (eVar 1)) (gN 5)
 (sSeq (sDropM (eMut 4 isLst mAppend (aCons (eTup (aCons (eVar 5) (aCons (eVar 3) (aCons (eVar 2) aNil)))) aNil)))
 (sSeq (sAug dAddZ 3 (eOp dIxA (eVar 0) (eVar 5)))
 (sAug dSub 2 (eOp dIxA (eVar 0) (eVar 5))))))
 (sRetV 4)))))
noncomputable def M_entries_of : DM := runD 6 false g_entries_of
theorem ok_entries_of (X : K.In h) (G : h.Ns mainGlobals mg) (c : SaysX fa fn fx K) : OkD P w K mg base 2 "entries_of" 2 false M_entries_of := by
  refine okD_of (c.def_ 17 (d := d_entries_of) rfl) (He.glo_ok X G (c.fact 41)) sc_entries_of (fun _ _ _ _ _ _ us hl => match us, hl with | [_, _], _ => rfl) (fun cdv A outer s H E C hr tk => ?_)
  exact (sss_cons (ss_set 2 sc_entries_of.nd (fun _ => (se_defO (ok_sum_of X G c) hr tk (sa_cons (se_var 0) (sa_cons (se_var 1) sa_nil)))))
 (sss_cons (ss_set 3 sc_entries_of.nd (fun _ => se_int))
 (sss_cons (ss_set 4 sc_entries_of.nd (fun _ => (se_lst sa_nil)))
 (sss_cons (ss_for (passes_of rfl) rfl (fun _ => (si_seq (se_var 1))) (sg_name 5 sc_entries_of.nd) (fun pins =>
 (sss_cons (ss_exprM (fun _ => (se_mut 4 kind_lst m_append PySem.F.plainAttrs_list PySem.F.slot_list_append PySem.F.type_list_append mt_append (sa_cons (se_tup (sa_cons (se_var 5) (sa_cons (se_var 3) (sa_cons (se_var 2) sa_nil)))) sa_nil))))
 (sss_cons (ss_aug 3 iop_add d_addz q_addz sc_entries_of.nd (fun _ => (se_ix (ix_any (u1 hr)) d_ixa q_ixa (se_var 0) (se_var 5) (by intro _ _; rfl))))
 (sss_one (ss_aug 2 iop_sub d_sub q_sub sc_entries_of.nd (fun _ => (se_ix (ix_any (u1 hr)) d_ixa q_ixa (se_var 0) (se_var 5) (by intro _ _; rfl)))))))))
 (sss_one (ss_retV 4))))))
theorem sc_Table___init__ : FnScope ["self", "loops", "rows", "at", "row"] ["self", "loops", "rows"] (defScope s_Table___init__) := ⟨rfl, rfl, rfl, by decide +kernel, rfl, by decide +kernel, by decide +kernel⟩
noncomputable def g_Table___init__ : DS := (sSeq (sIf (xNot (xB (eDef 1 M_is_loops (aCons (eVar 1) aNil))))
 (sRaise2 "BadTable" "part" "at" (aCons (eC (.str "loops")) (aCons (eUn dNeg (eC (.int 1))) aNil)))
 sPass)
 (sSeq (sIf (xOr (xNot (xB (eUn (dIsi [] .tuple) (eVar 2)))) (xNot (xB (eChain dLe dLe (eC (.int 1)) (eCall bLenA (aConsT (eVar 2) aNil)) (eC (.int 60))))))
 (sRaise2 "BadTable" "part" "at" (aCons (eC (.str "rows")) (aCons (eUn dNeg (eC (.int 1))) aNil)))
 sPass)
 (sSeq (sFor (iEnu (eVar 2)) (gT 2 [(gN 3), (gN 4)])
 (sIf (xOr (xNot (xB (eDef 2 M_is_row (aCons (eVar 1) (aCons (eVar 4) aNil))))) (xB (eOp dNe (eDef 2 M_sum_of (aCons (eVar 1) (aCons (eVar 4) aNil))) (eOp dAddA (eVar 3) (eC (.int 1))))))
 (sRaise2 "BadTable" "part" "at" (aCons (eC (.str "rows")) (aCons (eVar 3) aNil)))
 sPass))
 (sSeq (sTfld 0 ["Table"] "loops" (eVar 1))
 (sSeq (sTfld 0 ["Table"] "rows" (eVar 2))
 (sSeq (sTfld 0 ["Table"] "bound" (eCall bLenA (aConsT (eVar 2) aNil)))
 (sTfld 0 ["Table"] "kept_entries" (eOp dAddA (eLst (aCons (eLst aNil) aNil)) (eLc [4] (jSeq (eVar 2)) (gN 4) xYes (eDef 2 M_entries_of (aCons (eVar 1) (aCons (eVar 4) aNil))))))))))))
noncomputable def M_Table___init__ : DM := runD 5 true g_Table___init__
theorem ok_Table___init__ (X : K.In h) (G : h.Ns mainGlobals mg) (c : SaysX fa fn fx K) : OkI P w K mg base 5 "Table" 3 M_Table___init__ := by
  refine okI_of (c.def_ 18 (d := d_Table___init__) rfl) (He.mkr_ok (c.fact 42)) (He.glo_ok X G (c.fact 15)) sc_Table___init__ (fun _ _ _ _ _ _ us hl => match us, hl with | [_, _, _], _ => rfl) (fun cdv A outer s H E C hr tk => ?_)
  exact (sss_cons (ss_if (fun _ => (st_not (st_val (se_defO (ok_is_loops X G c) hr tk (sa_cons (se_var 1) sa_nil)))))
 (sss_one (ss_raise2 rfl (okE_BadTable X G c) hr tk (fun _ => (sa_cons se_str (sa_cons (se_un un_neg d_neg q_neg se_int) sa_nil)))))
 sss_nil)
 (sss_cons (ss_if (fun _ => (st_of (sw_or (st_not (st_val (se_isi ownOk_nil (se_var 2) (He.free_ok X G (c.fact 6)) bo_isinstance (He.free_ok X G (c.fact 4)) bo_tuple))) (sw_or1 (st_not (st_chain (op_leP (u64 hr)) d_pl q_pl (op_leP (u64 hr)) d_pl q_pl se_int (se_callB call_lenA d_lena q_lena (He.free_ok X G (c.fact 2)) bo_len (sat_cons (se_var 2) sat_nil)) (se_globI (He.int_ok X G (c.fact 12)))))))))
 (sss_one (ss_raise2 rfl (okE_BadTable X G c) hr tk (fun _ => (sa_cons se_str (sa_cons (se_un un_neg d_neg q_neg se_int) sa_nil)))))
 sss_nil)
 (sss_cons (ss_for (passes_of rfl) rfl (fun _ => (si_enum (se_var 2) (He.free_ok X G (c.fact 13)))) (sg_tup rfl (sgs_cons (sg_name 3 sc_Table___init__.nd) (sgs_cons (sg_name 4 sc_Table___init__.nd) sgs_nil))) (fun pins =>
 (sss_one (ss_if (fun _ => (st_of (sw_or (st_not (st_val (se_defO (ok_is_row X G c) hr tk (sa_cons (se_var 1) (sa_cons (se_var 4) sa_nil))))) (sw_or1 (st_cmp (op_neP (u64 hr)) d_pl q_pl (se_defO (ok_sum_of X G c) hr tk (sa_cons (se_var 1) (sa_cons (se_var 4) sa_nil))) (se_op op_addU d_adda q_adda (se_var 3) se_int) (nomark _))))))
 (sss_one (ss_raise2 rfl (okE_BadTable X G c) hr tk (fun _ => (sa_cons se_str (sa_cons (se_var 3) sa_nil)))))
 sss_nil))))
 (sss_cons (ss_tfld 0 (atOk_cons (He.glo_ok X G (c.fact 15)) (He.cls_ok (c.fact 16)) (He.noat_ok (c.fact 17)) atOk_nil) (fun _ => (se_var 1)))
 (sss_cons (ss_tfld 0 (atOk_cons (He.glo_ok X G (c.fact 15)) (He.cls_ok (c.fact 16)) (He.noat_ok (c.fact 18)) atOk_nil) (fun _ => (se_var 2)))
 (sss_cons (ss_tfld 0 (atOk_cons (He.glo_ok X G (c.fact 15)) (He.cls_ok (c.fact 16)) (He.noat_ok (c.fact 19)) atOk_nil) (fun _ => (se_callB call_lenA d_lena q_lena (He.free_ok X G (c.fact 2)) bo_len (sat_cons (se_var 2) sat_nil))))
 (sss_one (ss_tfld 0 (atOk_cons (He.glo_ok X G (c.fact 15)) (He.cls_ok (c.fact 16)) (He.noat_ok (c.fact 20)) atOk_nil) (fun _ => (se_op op_addU d_adda q_adda (se_lst (sa_cons (se_lst sa_nil) sa_nil)) (se_lc (own := [("row", 4)]) rfl sc_Table___init__.nd (sj_seq (se_var 2)) (blk_ok (by kernel_rfl)) (within_name (by decide)) (fun s H Ca cl fp => (sg_name 4 sc_Table___init__.nd)) (fun s H Ca cl fp L tk => sts_nil) (fun s H Ca cl fp L tk => (se_defO (ok_entries_of X G c) hr tk (sa_cons (se_var 1) (sa_cons (se_var 4) sa_nil)))))))))))))))
theorem sc__law_tried : FnScope ["_law_loops_here", "_law_rows_here", "_law_found", "_law_told", "e"] ["_law_loops_here", "_law_rows_here"] (defScope s__law_tried) := ⟨rfl, rfl, rfl, by decide +kernel, rfl, by decide +kernel, by decide +kernel⟩
noncomputable def g__law_tried : DS := (sSeq (sAsg 2 (eTup (aCons (eC (.str "none")) (aCons (eC .non) aNil))))
 (sSeq (sTryE 4 [("BadTable", true)]
 (sSeq (sAsg 3 (eMake "Table" 3 M_Table___init__ (aCons (eVar 0) (aCons (eVar 1) aNil))))
 (sAsg 2 (eTup (aCons (eC (.str "told")) (aCons (eUn (dAt ["Table"] "loops") (eVar 3)) (aCons (eUn (dAt ["Table"] "rows") (eVar 3)) (aCons (eUn (dAt ["Table"] "bound") (eVar 3)) aNil)))))))
 (fun cx xx => (sIf (xAnd (xB (eIsE 4 xx (isx [("BadTable", true)] cx))) (xNot (xB (eIsE 4 xx (isx [("BadTable", false)] cx)))))
 (sAsg 2 (eTup (aCons (eC (.str "bad")) (aCons (eXf 4 xx "part") (aCons (eXf 4 xx "at") aNil)))))
 sPass)))
 (sRetV 2)))
noncomputable def M__law_tried : DM := runD 5 false g__law_tried
theorem ok__law_tried (X : K.In h) (G : h.Ns mainGlobals mg) (c : SaysX fa fn fx K) : OkD P w K mg base 7 "_law_tried" 2 false M__law_tried := by
  refine okD_of (c.def_ 19 (d := d__law_tried) rfl) (He.glo_ok X G (c.fact 43)) sc__law_tried (fun _ _ _ _ _ _ us hl => match us, hl with | [_, _], _ => rfl) (fun cdv A outer s H E C hr tk => ?_)
  exact (sss_cons (ss_set 2 sc__law_tried.nd (fun _ => (se_tup (sa_cons se_str (sa_cons se_non sa_nil)))))
 (sss_cons (ss_tryE 4 rfl rfl sc__law_tried.nd tk (He.glo_ok X G (c.fact 24)) (hits_cons (He.exm_ok (c.fact 23)) (He.glo_ok X G (c.fact 21)) hits_nil) (fun W pn xe tk hp =>
 (sss_cons (ss_set 3 sc__law_tried.nd (fun _ => (se_make (ok_Table___init__ X G c) hr tk (sa_cons (se_var 0) (sa_cons (se_var 1) sa_nil)))))
 (sss_one (ss_set 2 sc__law_tried.nd (fun _ => (se_tup (sa_cons se_str (sa_cons (se_at (atOk_cons (He.glo_ok X G (c.fact 15)) (He.cls_ok (c.fact 16)) (He.noat_ok (c.fact 17)) atOk_nil) (se_var 3)) (sa_cons (se_at (atOk_cons (He.glo_ok X G (c.fact 15)) (He.cls_ok (c.fact 16)) (He.noat_ok (c.fact 18)) atOk_nil) (se_var 3)) (sa_cons (se_at (atOk_cons (He.glo_ok X G (c.fact 15)) (He.cls_ok (c.fact 16)) (He.noat_ok (c.fact 19)) atOk_nil) (se_var 3)) sa_nil)))))))))) (fun ea oe ed pn cx hcx hzx hfx =>
 (sss_one (ss_if (fun _ => (st_of (sw_and (st_val (se_isE 4 (c.own 1) (hit_same hcx rfl) hzx hfx (He.glo_ok X G (c.fact 21)) (He.free_ok X G (c.fact 6)))) (sw_and1 (st_not (st_val (se_isE 4 (c.own 2) (hit_same hcx rfl) hzx hfx (He.glo_ok X G (c.fact 22)) (He.free_ok X G (c.fact 6)))))))))
 (sss_one (ss_set 2 sc__law_tried.nd (fun _ => (se_tup (sa_cons se_str (sa_cons (se_xf 4 (xffT_at (c.own 4) (hit_same hcx rfl)) (List.mem_singleton.mpr rfl) hzx hfx) (sa_cons (se_xf 4 (xffT_at (c.own 3) (hit_same hcx rfl)) (List.mem_singleton.mpr rfl) hzx hfx) sa_nil)))))))
 sss_nil))) (fun cx => (BS.ite (BT.and (BT.b BE.isE) (BT.nt (BT.b BE.isE))) (BS.asg (BE.tup (BA.cons BE.k (BA.cons BE.xf (BA.cons BE.xf BA.nil)))) (by decide)) BS.pass)))
 (sss_one (ss_retV 2))))
theorem sc_law : FnScope ["_law_script", "_law_tape_here", "_law_loops_here", "_law_bound", "_law_rows_here", "_law_turn", "_law_one", "_law_kept", "_law_fault_here", "_law_found"] ["_law_script"] (defScope s_law) := ⟨rfl, rfl, rfl, by decide +kernel, rfl, by decide +kernel, by decide +kernel⟩
noncomputable def g_law : DS := (fun r T => if T.isNone then sTape 1 (eDef 1 M__law_tape (aCons (eVar 0) aNil))
 (sSeq (sAsg 2 (eDefT 1 3 M__law_loops (aCons (eC (.int 8)) (aCons (eC (.int 6)) aNil))))
 (sSeq (sIf (xB (eOp dEq (eDefT 1 2 M__law_pick (aCons (eC (.int 10)) aNil)) (eC (.int 0))))
 (sAsg 2 (eOp dAddU (eOp dAddA (eTup (aCons (eC (.int 1)) aNil)) (eSlT (eVar 2) (some (eC (.int 1))) (some (eC (.int 7))))) (eTup (aCons (eC (.int 40)) aNil))))
 sPass)
 (sSeq (sAsg 3 (eOp dAddA (eC (.int 1)) (eDefT 1 2 M__law_pick (aCons (eC (.int 12)) aNil))))
 (sSeq (sIf (xB (eOp dEq (eDefT 1 2 M__law_pick (aCons (eC (.int 15)) aNil)) (eC (.int 0))))
 (sAsg 3 (eC (.int 60)))
 sPass)
 (sFrz 2 (sSeq (sAsg 4 (eDefT 1 3 M__law_rows (aCons (eVar 2) (aCons (eVar 3) aNil))))
 (sFrz 2 (sSeq (sFor (iRng (aConsT (eC (.int 4)) aNil)) (gN 5)
 (sFrz 2 (sSeq (sAsg 6 (eTup (aCons (eVar 2) (aCons (eVar 4) aNil))))
 (sSeq (sIf (xB (eOp dGt (eDefT 1 2 M__law_pick (aCons (eC (.int 4)) aNil)) (eC (.int 0))))
 (sFrz 2 (sAsg 6 (eDefT 1 3 M__law_bent (aCons (eVar 2) (aCons (eVar 4) aNil)))))
 sPass)
 (sSeq (sAsg 7 (eCall bRepr (aConsT (eVar 6) aNil)))
 (sSeq (sAsg 8 (eDef 2 M__law_fault (aCons (eOp dIxA (eVar 6) (eC (.int 0))) (aCons (eOp dIxA (eVar 6) (eC (.int 1))) aNil))))
 (sSeq (sAsg 9 (eDef 2 M__law_tried (aCons (eOp dIxA (eVar 6) (eC (.int 0))) (aCons (eOp dIxA (eVar 6) (eC (.int 1))) aNil))))
 (sSeq (sIf (xB (eOp dNe (eCall bRepr (aConsT (eVar 6) aNil)) (eVar 7)))
 (sRet (eC (.bl false)))
 sPass)
 (sSeq (sIf (xAnd (xB (eOp dIsnN (eVar 8) (eC .non))) (xOr (xB (eOp dNe (eVar 9) (eOp dAddA (eTup (aCons (eC (.str "bad")) aNil)) (eVar 8)))) (xB (eUn (dIsi [] .bool) (eOp dIxA (eVar 9) (eC (.int 2)))))))
 (sRet (eC (.bl false)))
 sPass)
 (sIf (xAnd (xB (eOp dIsN (eVar 8) (eC .non))) (xB (eOp dNe (eVar 9) (eTup (aCons (eC (.str "told")) (aCons (eOp dIxA (eVar 6) (eC (.int 0))) (aCons (eOp dIxA (eVar 6) (eC (.int 1))) (aCons (eCall bLenA (aConsT (eOp dIxA (eVar 6) (eC (.int 1))) aNil)) aNil))))))))
 (sRet (eC (.bl false)))
 sPass))))))))))
 (sRet (eC (.bl true))))))))))) r T else .stuck)
noncomputable def M_law : DM := runD 10 false g_law
theorem ok_law {fd : FuncData} (sm : Sm base) (X : K.In h) (G : h.Ns mainGlobals mg) (c : SaysX fa fn fx K) (F : FunD K d_law.name d_law.qual d_law.params d_law.body d_law.scope [] [] (He.ga K d_law.name) fd) : FnG P w K mg base (L2.CX P w) 8 (He.ga K d_law.name) fd ["_law_script"] (SpD K mg 1 false M_law) := by
  refine okG_of F sc_law (fun cdv A outer s H E C hgd0 hr tk => ?_)
  have hgd : A.guards = some [] ∧ Sm base := ⟨hgd0, sm⟩
  exact (sss_tape 1 sc_law.nd (fun _ => (se_defO (ok__law_tape X G c) hr tk (sa_cons (se_var 0) sa_nil))) (fun p =>
 (sss_cons (ss_set 2 sc_law.nd (fun _ => (se_defTO 1 (ok__law_loops X G c) hr tk (sa_cons se_int (sa_cons se_int sa_nil)))))
 (sss_cons (ss_if (fun _ => (st_cmp (op_eqP (u64 hr)) d_pl q_pl (se_defTO 1 (ok__law_pick X G c) hr tk (sa_cons se_int sa_nil)) se_int (nomark _)))
 (sss_one (ss_set 2 sc_law.nd (fun _ => (se_op op_catP d_addu q_addu (se_op op_addU d_adda q_adda (se_tup (sa_cons se_int sa_nil)) (se_slT (se_var 2) (so_some se_int) (so_some se_int))) (se_tup (sa_cons se_int sa_nil))))))
 sss_nil)
 (sss_cons (ss_set 3 sc_law.nd (fun _ => (se_op op_addU d_adda q_adda se_int (se_defTO 1 (ok__law_pick X G c) hr tk (sa_cons se_int sa_nil)))))
 (sss_cons (ss_if (fun _ => (st_cmp (op_eqP (u64 hr)) d_pl q_pl (se_defTO 1 (ok__law_pick X G c) hr tk (sa_cons se_int sa_nil)) se_int (nomark _)))
 (sss_one (ss_set 3 sc_law.nd (fun _ => se_int)))
 sss_nil)
 (sss_frz 2 (sss_cons (ss_set 4 sc_law.nd (fun _ => (se_defTO 1 (ok__law_rows X G c) hr tk (sa_cons (se_var 2) (sa_cons (se_var 3) sa_nil)))))
 (sss_frz 2 (sss_cons (ss_for (passes_of rfl) rfl (fun _ => (si_range1 (He.free_ok X G (c.fact 3)) (sat_cons se_int sat_nil) (many_consT many_nil))) (sg_name 5 sc_law.nd) (fun pins =>
 (sss_frz 2 (sss_cons (ss_set 6 sc_law.nd (fun _ => (se_tup (sa_cons (se_var 2) (sa_cons (se_var 4) sa_nil)))))
 (sss_cons (ss_if (fun _ => (st_cmp (op_gtP (u64 hr)) d_pl q_pl (se_defTO 1 (ok__law_pick X G c) hr tk (sa_cons se_int sa_nil)) se_int (nomark _)))
 (sss_frz 2 (sss_one (ss_set 6 sc_law.nd (fun _ => (se_defTO 1 (ok__law_bent X G c) hr tk (sa_cons (se_var 2) (sa_cons (se_var 4) sa_nil)))))))
 sss_nil)
 (sss_cons (ss_set 7 sc_law.nd (fun _ => (se_callB (call_repr hgd (u64 hr)) d_repr q_repr (He.free_ok X G (c.fact 5)) bo_repr (sat_cons (se_var 6) sat_nil))))
 (sss_cons (ss_set 8 sc_law.nd (fun _ => (se_defO (ok__law_fault X G c) hr tk (sa_cons (se_ix (ix_any (u1 hr)) d_ixa q_ixa (se_var 6) se_int (by intro _ _; rfl)) (sa_cons (se_ix (ix_any (u1 hr)) d_ixa q_ixa (se_var 6) se_int (by intro _ _; rfl)) sa_nil)))))
 (sss_cons (ss_set 9 sc_law.nd (fun _ => (se_defO (ok__law_tried X G c) hr tk (sa_cons (se_ix (ix_any (u1 hr)) d_ixa q_ixa (se_var 6) se_int (by intro _ _; rfl)) (sa_cons (se_ix (ix_any (u1 hr)) d_ixa q_ixa (se_var 6) se_int (by intro _ _; rfl)) sa_nil)))))
 (sss_cons (ss_if (fun _ => (st_cmp (op_neP (u64 hr)) d_pl q_pl (se_callB (call_repr hgd (u64 hr)) d_repr q_repr (He.free_ok X G (c.fact 5)) bo_repr (sat_cons (se_var 6) sat_nil)) (se_var 7) (nomark _)))
 (sss_one (ss_ret (fun _ => se_bl)))
 sss_nil)
 (sss_cons (ss_if (fun _ => (st_of (sw_and (st_cmp op_notN d_isnn q_isnn (se_var 8) se_non (nomark _)) (sw_and1 (st_of (sw_or (st_cmp (op_neP (u64 hr)) d_pl q_pl (se_var 9) (se_op op_addU d_adda q_adda (se_tup (sa_cons se_str sa_nil)) (se_var 8)) (nomark _)) (sw_or1 (st_val (se_isi ownOk_nil (se_ix (ix_any (u1 hr)) d_ixa q_ixa (se_var 9) se_int (by intro _ _; rfl)) (He.free_ok X G (c.fact 6)) bo_isinstance (He.free_ok X G (c.fact 7)) bo_bool)))))))))
 (sss_one (ss_ret (fun _ => se_bl)))
 sss_nil)
 (sss_one (ss_if (fun _ => (st_of (sw_and (st_cmp op_isN d_isn q_isn (se_var 8) se_non (nomark _)) (sw_and1 (st_cmp (op_neP (u64 hr)) d_pl q_pl (se_var 9) (se_tup (sa_cons se_str (sa_cons (se_ix (ix_any (u1 hr)) d_ixa q_ixa (se_var 6) se_int (by intro _ _; rfl)) (sa_cons (se_ix (ix_any (u1 hr)) d_ixa q_ixa (se_var 6) se_int (by intro _ _; rfl)) (sa_cons (se_callB call_lenA d_lena q_lena (He.free_ok X G (c.fact 2)) bo_len (sat_cons (se_ix (ix_any (u1 hr)) d_ixa q_ixa (se_var 6) se_int (by intro _ _; rfl)) sat_nil)) sa_nil))))) (nomark _))))))
 (sss_one (ss_ret (fun _ => se_bl)))
 sss_nil))))))))))))
 (sss_one (ss_ret (fun _ => se_bl)))))))))))))
theorem fd_law (c : SaysX fa fn fx K) : ∃ fd : FuncData, (∀ (s : Shared) (u : Value), BindsTo s fd ⟨[u], []⟩ [("_law_script", u)]) ∧ ∀ (w : World) (mg : PySem.Str → Option Value) (h base : Heap), K.In h → h.Ns mainGlobals mg → Sm base → FnG P w K mg base (L2.CX P w) 8 (He.ga K "law") fd ["_law_script"] (SpD K mg 1 false M_law) ∧ mg "law" = some (.ref (He.ga K "law")) := by
  obtain ⟨fd, F⟩ := c.def_ 20 (d := d_law) rfl
  have b := FunD.bindsA (ps := ["_law_script"]) F fun _ _ _ _ _ _ us hl => match us, hl with | [_], _ => rfl
  exact ⟨fd, fun s u => b s [u] rfl, fun w mg h base X G sm => ⟨ok_law sm X G c F, (He.glo_ok X G (c.fact 44))⟩⟩
end
def loose0 : List PySem.Str := ["_wall", "LoopError", "BadTable", "BadText", "MOST_BOUND", "MOST_LOOPS", "MOST_LENGTH", "MOST_ITEMS", "is_integer", "is_within", "are_within", "is_loops", "is_row", "sum_of", "entries_of", "Table", "_law_tape", "_law_pick", "_law_loops", "_law_row", "_law_rows", "_law_comings", "_law_odd", "_law_is_int", "_law_are_ints", "_law_fault", "_law_bent", "_law_tried"]
def loose : List PySem.Str := loose0
abbrev Rw : PySem.W.OpenRow := PySem.W.OpenLaw.row PySem.Challenge.rw_loopstore_k06_tables_judged
abbrev hk : PySem.W.Hook := Pu.hookS 5 fa fn fx
def ob (s : PySem.W.SharedT) : Pu.AlS := Pu.obsSG 5 fa fn fx (HandSHeadRun.getT s)
theorem ob_eq (s : PySem.W.SharedT) : ob s = hk.obs s.abs := Pu.obsSG_eq (HandSHeadRun.getT_eq s)
theorem run (w : World) : HandSHeadRun.RunEq Rw (PySem.W.view Rw.prog [32]) hk ob 4000 loose w := by
  intro os
  kernel_rfl
end Gk06
namespace Gk06
open PySem L2 Pu
theorem tape_ok (ns : List Int) : M__law_tape [.scr ns] none = .ok (.own (.lst [.lst (ns.map D.int), .int 0, .int 0, .int 1, .int 0]), none) := by
  simp [M__law_tape, runD_ap, g__law_tape, env0, bList]
theorem pick_wp {T : Tp} {n : Int} {Q : VD × Tp → Prop} (ht : TapeV T) (h0 : 0 < n) (h1 : n < 1073741824) (k : ∀ r T', 0 ≤ r → r < n → TapeV T' → Q (.val (.int r), T')) : wp (M__law_pick [.int n] T) Q := by
  obtain ⟨ns, p, a, b, c, rfl⟩ := ht
  have m1 : ∀ x : Int, 0 ≤ x % n := fun x => Int.emod_nonneg _ (by omega)
  have m2 : ∀ x : Int, x % n < n := fun x => Int.emod_lt_of_pos _ h0
  have m3 : ∀ x : Int, -18446744073709551616 < x % 2147483647 ∧ x % 2147483647 < 18446744073709551616 := fun x => by omega
  by_cases hp : p < ns.length
  · have e := atI_num hp
    simp [M__law_pick, runD_ap, g__law_pick, env0, e, hp, h0, h1, m3]
    exact ⟨fun _ => k _ _ (m1 _) (m2 _) ⟨ns, p, _, _, _, rfl⟩, fun _ => ⟨fun _ => k _ _ (m1 _) (m2 _) ⟨ns, p + 1, _, _, _, rfl⟩, fun _ => k _ _ (m1 _) (m2 _) ⟨ns, p + 1, _, _, _, rfl⟩⟩⟩
  · simp [M__law_pick, runD_ap, g__law_pick, env0, hp, h0, h1, m3]
    exact ⟨fun _ => k _ _ (m1 _) (m2 _) ⟨ns, p, _, _, _, rfl⟩, fun _ => k _ _ (m1 _) (m2 _) ⟨ns, p, _, _, _, rfl⟩⟩
noncomputable def pick (n : Int) (T : Tp) : Rt (Int × Tp) := match M__law_pick [.int n] T with
  | .ok (.val (.int i), T) => .ok (i, T)
  | _ => .stuck
theorem t_pick (n : Int) (T : Tp) : Sim ET (M__law_pick [eI n] T) (pick n T) (RT (fun x => VD.val (eI x))) := pick_sim _ _ _ rfl
theorem pick_wr {n : Int} {T : Tp} (ht : TapeV T) (h0 : 0 < n) (h1 : n < 1073741824) : wr (pick n T) fun p => (0 ≤ p.1 ∧ p.1 < n) ∧ TapeV p.2 := by
  obtain ⟨a, e, r, T', rfl, r0, r1, t⟩ := pick_wp (Q := fun p => ∃ (r : Int) (T' : Tp), p = (.val (.int r), T') ∧ 0 ≤ r ∧ r < n ∧ TapeV T') ht h0 h1 fun r T' a b c => ⟨r, T', rfl, a, b, c⟩
  unfold pick
  rw [e]
  exact ⟨_, rfl, ⟨r0, r1⟩, t⟩
noncomputable def floops (vmost : Int) (vlongest : Int) (T : Tp) : Rt ((List Int) × Tp) :=
 ((pick vmost T).bind fun a18 =>
 (lete (((1 : Int) + a18.1) : Int) fun vmany19 =>
 ((rng (0 : Int) vmany19).bind fun xs22 =>
 ((mapT (fun x24 T26 => ((pick vlongest T26).bind fun a28 =>
 .ok (((1 : Int) + a28.1), a28.2))) xs22 a18.2).bind fun a29 =>
 ((pick vmany19 a29.2).bind fun a32 =>
 ((setAt a29.1 a32.1 (1 : Int)).bind fun vfound33 =>
 .ok (vfound33, a32.2)))))))
theorem t_floops (vmost : Int) (vlongest : Int) (T : Tp) : Sim ET (M__law_loops [eI vmost, eI vlongest] T) (floops vmost vlongest T) (RT (fun x => VD.val (eT x))) :=
 t_run (fun r m => (s_seq (s_plugE (plug_asg (plug_op2 (Pur.pd q_c) plug_id)) (h_defT (Mat.get m rfl) (q_cons (Pur.pv (q_var m rfl)) q_nil) rfl (mk := mI) (t_pick _ _) (fun _ => trivial) (fun a18 => (s_asgL (i := 3) m (fun vmany19 => VD.val (eI vmany19)) (q_op (op := dAddA) (Pur.pd q_c) (Pur.pd q_cst) rfl) (fun _ _ => rfl) (fun vmany19 r20 m21 => (s_next (s_seq (s_plugE (plug_asg plug_id) (s_lc1 (h_rng (q_consT (Pur.pd (q_var m21 rfl)) q_nil) rfl (fun xs22 => (h_lcT m21 (.f rfl .nil) q_csti (e := eI) (ms := (fun x => [(5, eI x)])) (fun _ => rfl) (e' := eI) (fun x24 r25 T26 m23 => (e_plug (plug_op2 (Pur.pd q_c) plug_id) (h_defT (Mat.get m23 rfl) (q_cons (Pur.pv (q_var m23 rfl)) q_nil) rfl (mk := mI) (t_pick _ _) (fun _ => trivial) (fun a28 => (e_fin (Pur.pv (q_op (op := dAddA) (Pur.pd q_c) (Pur.pd q_cst) rfl)) rfl))))) (fun a29 => (s_asg (i := 4) m21 q_cst (fun _ => rfl) (fun r30 m31 => (s_next (s_seq (s_plugE (plug_setK m31 rfl (Pur.pv q_c) plug_id) (h_defT (Mat.get m31 rfl) (q_cons (Pur.pv (q_var m31 rfl)) q_nil) rfl (mk := mI) (t_pick _ _) (fun _ => trivial) (fun a32 => (s_setI (i := 4) m31 rfl (Pur.pv q_c) (Pur.pd q_cst) (dn := (eL eI)) p_setAt quit_setAt (fun vfound33 r34 m35 => (s_next (s_ret (q_call (op := bTpl) (q_consT (Pur.pdP (q_varO m35 rfl)) q_nil) q_tplL) (fun _ => rfl) (s_fin rfl)))))))))))))))))))))))))))
noncomputable def frow_T_I (vloopshere : (List Int)) (vwait : Int) (T : Tp) : Rt ((List Int) × Tp) :=
 ((pick (12 : Int) T).bind fun a169 =>
 (lete ((decide (a169.1 = (0 : Int))) : Bool) fun vagain170 =>
 ((forB (rngL (0 : Int) (8 : Int)) (([], vwait, a169.2) : ((List Int) × Int × Tp)) fun x215 s214 =>
 ((rng (0 : Int) (vloopshere.length : Int)).bind fun xs218 =>
 ((lcR (fun x220 => ((idx vloopshere x220).bind fun a222 =>
 .ok ((decide (a222 ≤ s214.2.1)) && (vagain170 || (!memB x220 s214.1))))) (fun x220 => .ok x220) xs218).bind fun a223 =>
 (if ((decide ((a223.length : Int) = (0 : Int))) || (decide (s214.2.1 = (0 : Int)))) = true then
 .ok (true, (s214.1, s214.2.1, s214.2.2))
 else ((pick (a223.length : Int) s214.2.2).bind fun a226 =>
 ((idx a223 a226.1).bind fun a227 =>
 ((push (s214.1 : (List Int)) a227).bind fun vrowhere228 =>
 ((idx vrowhere228 (-(1 : Int))).bind fun a231 =>
 ((idx vloopshere a231).bind fun a232 =>
 (lete ((s214.2.1 - a232) : Int) fun vleft233 =>
 .ok (false, (vrowhere228, vleft233, a226.2)))))))))))).bind fun (s236 : ((List Int) × Int × Tp)) =>
 ((rng (0 : Int) s236.2.1).bind fun xs239 =>
 ((forS xs239 (s236.1 : ((List Int))) fun x248 s247 =>
 ((idxOf vloopshere (1 : Int)).bind fun a251 =>
 ((push (s247 : (List Int)) a251).bind fun vrowhere252 =>
 .ok vrowhere252))).bind fun (s255 : ((List Int))) =>
 .ok (s255, s236.2.2))))))
theorem t_frow_T_I (vloopshere : (List Int)) (vwait : Int) (T : Tp) : Sim ET (M__law_row [eT vloopshere, eI vwait] T) (frow_T_I vloopshere vwait T) (RT (fun x => VD.val ((eU eI) x))) :=
 t_run (fun r m => (s_seq (s_asg (i := 3) m (q_lst q_nil rfl) (fun _ => rfl) (fun r165 m166 => (s_next (s_seq (s_asg (i := 4) m166 (q_var m166 rfl) (fun _ => rfl) (fun r167 m168 => (s_next (s_seq (s_plugE (plug_asg (plug_op1 plug_id)) (h_defT (Mat.get m168 rfl) (q_cons (Pur.pv q_c) q_nil) rfl (mk := mI) (t_pick _ _) (fun _ => trivial) (fun a169 => (s_asgL (i := 5) m168 (fun vagain170 => VD.val (eB vagain170)) (q_op (op := dEq) (Pur.pd q_cst) (Pur.pd q_c) (q_eq enc_I a169.1 (0 : Int) rfl)) (fun _ _ => rfl) (fun vagain170 r171 m172 => (s_next (s_seq (s_forB (fun (s214 : ((List Int) × Int × Tp)) => [.is .tape, iv (eT vloopshere), iv (eI vwait), io ((eL eI) s214.1), iv (eI s214.2.1), iv (eB vagain170), .free, .any, .free]) (fun s214 => s214.2.2) (([], vwait, a169.2) : ((List Int) × Int × Tp)) rfl (Mat.weak (.keep (.keep (.keep (.keep (.keep (.keep (.keep (.any (.keep .nil))))))))) m172) (q_rngL (q_consT (Pur.pd q_c) q_nil) rfl (by decide)) (e := eI) (ms := (fun x => [(6, eI x)])) (fun _ => rfl) (fun x215 s214 r216 m217 => (s_seq (s_plugE (plug_asg plug_id) (s_lc1 (h_rng (q_consT (Pur.pd (q_call (op := bLenA) (q_consT (Pur.pd (q_var m217 rfl)) q_nil) rfl)) q_nil) rfl (fun xs218 => (h_lcF m217 (.f rfl .nil) q_csti (e := eI) (ms := (fun x => [(8, eI x)])) (fun _ => rfl) (e' := eI) (fun x220 r221 m219 => (s_plugE (plug_xand (plug_xb (plug_op1 plug_id))) (h_op (Pur.pd (q_var m219 rfl)) (Pur.pd (q_var m219 rfl)) (mk := fun x => VD.val (eI x)) p_idxT quit_idx (fun a222 => (t_pure (q_xand (q_xb (Pur.pv (q_op (op := dLe) (Pur.pd q_cst) (Pur.pd (q_var m219 rfl)) (dLe_ii _ _)))) (fun _ => (q_xor (q_xb (Pur.pv (q_var m219 rfl))) (fun _ => (q_xb (Pur.pv (q_op (op := dNinA) (Pur.pd (q_var m219 rfl)) (Pur.pdP (q_varO m219 rfl)) (q_ninL enc_I x220 s214.1 rfl)))))))) (s_fin rfl)))))) (fun x220 r221 m219 => (e_fin (Pur.pv (q_var m219 rfl)) rfl)) (fun a223 => (s_asg (i := 7) m217 q_cst (fun _ => rfl) (fun r224 m225 => (s_next (s_seq (s_sif (t_pure (q_xor (q_xb (Pur.pv (q_op (op := dEq) (Pur.pd (q_call (op := bLenA) (q_consT (Pur.pdP (q_varO m225 rfl)) q_nil) q_lenL)) (Pur.pd q_c) (q_eq enc_I (a223.length : Int) (0 : Int) rfl)))) (fun _ => (q_xb (Pur.pv (q_op (op := dEq) (Pur.pd (q_var m225 rfl)) (Pur.pd q_c) (q_eq enc_I s214.2.1 (0 : Int) rfl)))))) (s_ite (fun _ => (s_brk (x_bkB (Mat.weak (.keep (.keep (.keep (.keep (.keep (.keep (.fv (.any (.keep .nil))))))))) m225) rfl))) (fun _ => (s_pass (s_next (s_seq (s_dropM (s_plugE (plug_mut (i := 3) m225 rfl rfl (plug_c1 (plug_op2 (Pur.pdP (q_varO m225 rfl)) plug_id))) (h_defT (Mat.get m225 rfl) (q_cons (Pur.pv (q_call (op := bLenA) (q_consT (Pur.pdP (q_varO m225 rfl)) q_nil) q_lenL)) q_nil) rfl (mk := mI) (t_pick _ _) (fun _ => trivial) (fun a226 => (s_plugE (plug_mut (i := 3) m225 rfl rfl (plug_c1 plug_id)) (h_op (Pur.pdP (q_varO m225 rfl)) (Pur.pd q_cst) (mk := fun x => VD.val (eI x)) p_idxL quit_idx (fun a227 => (m_mut (i := 3) m225 rfl rfl (q_cons (Pur.pv q_cst) q_nil) (dn := (eL eI)) (xv := fun _ => D.non) (p_push (e := eI)) quit_push (fun vrowhere228 r229 m230 => (s_next (s_plugE (plug_asg (plug_op2 (Pur.pd (q_var m230 rfl)) (plug_op2 (Pur.pd (q_var m230 rfl)) plug_id))) (h_op (Pur.pdP (q_varO m230 rfl)) (Pur.pd (q_un (op := dNeg) (Pur.pd q_c) rfl)) (mk := fun x => VD.val (eI x)) p_idxL quit_idx (fun a231 => (s_plugE (plug_asg (plug_op2 (Pur.pd (q_var m230 rfl)) plug_id)) (h_op (Pur.pd (q_var m230 rfl)) (Pur.pd q_cst) (mk := fun x => VD.val (eI x)) p_idxT quit_idx (fun a232 => (s_asgL (i := 4) m230 (fun vleft233 => VD.val (eI vleft233)) (q_op (op := dSub) (Pur.pd (q_var m230 rfl)) (Pur.pd q_cst) rfl) (fun _ _ => rfl) (fun vleft233 r234 m235 => (x_nxB (Mat.weak (.keep (.keep (.keep (.keep (.keep (.keep (.fv (.any (.keep .nil))))))))) m235) rfl)))))))))))))))))))))))))))))))))))))) (fun s236 r237 m238 => (s_next (s_seq (s_for1 (h_rng (q_consT (Pur.pd (q_var m238 rfl)) q_nil) rfl (fun xs239 => (s_forS (fun (s247 : ((List Int))) => [.is .tape, iv (eT vloopshere), iv (eI vwait), io ((eL eI) s247), iv (eI s236.2.1), iv (eB vagain170), .free, .any, .free]) (fun _ => s236.2.2) (s236.1 : ((List Int))) rfl (Mat.weak (.keep (.keep (.keep (.keep (.keep (.keep (.keep (.keep (.keep .nil))))))))) m238) q_csti (e := eI) (ms := (fun x => [(6, eI x)])) (fun _ => rfl) (fun x248 s247 r249 m250 => (s_dropM (s_plugE (plug_mut (i := 3) m250 rfl rfl (plug_c1 plug_id)) (h_idx (Pur.pd (q_var m250 rfl)) rfl (Pur.pd q_c) (mk := mI) p_idxOfT quit_idxOf (fun a251 => (m_mut (i := 3) m250 rfl rfl (q_cons (Pur.pv q_cst) q_nil) (dn := (eL eI)) (xv := fun _ => D.non) (p_push (e := eI)) quit_push (fun vrowhere252 r253 m254 => (x_nx (Mat.weak (.keep (.keep (.keep (.keep (.keep (.keep (.fv (.keep (.keep .nil))))))))) m254) rfl)))))))) (fun s255 r256 m257 => (s_next (s_ret (q_call (op := bTuple) (q_consT (Pur.pdP (q_varO m257 rfl)) q_nil) rfl) (fun _ => rfl) (s_fin rfl)))))))))))))))))))))))))))))
noncomputable def frows_T_I (vloopshere : (List Int)) (vbound : Int) (T : Tp) : Rt ((List (List Int)) × Tp) :=
 ((rng (1 : Int) (vbound + (1 : Int))).bind fun xs261 =>
 ((mapT (fun x263 T265 => ((frow_T_I vloopshere x263 T265).bind fun a267 =>
 .ok (a267.1, a267.2))) xs261 T).bind fun a268 =>
 .ok (a268.1, a268.2)))
theorem t_frows_T_I (vloopshere : (List Int)) (vbound : Int) (T : Tp) : Sim ET (M__law_rows [eT vloopshere, eI vbound] T) (frows_T_I vloopshere vbound T) (RT (fun x => VD.val ((eU (eU eI)) x))) :=
 t_run (fun r m => (s_plugE (plug_ret (plug_call (plug_t1 plug_id))) (s_lc1 (h_rng (q_consT (Pur.pd q_c) (q_consT (Pur.pd (q_op (op := dAddA) (Pur.pd (q_var m rfl)) (Pur.pd q_c) rfl)) q_nil)) rfl (fun xs261 => (h_lcT m (.f rfl .nil) q_csti (e := eI) (ms := (fun x => [(3, eI x)])) (fun _ => rfl) (e' := (eU eI)) (fun x263 r264 T265 m262 => (e_plug plug_id (h_defT (Mat.get m262 rfl) (q_cons (Pur.pv (q_var m262 rfl)) (q_cons (Pur.pv (q_var m262 rfl)) q_nil)) rfl (mk := (fun x => VD.val ((eU eI) x))) (t_frow_T_I vloopshere x263 _) (fun _ => trivial) (fun a267 => (e_fin (Pur.pv q_cst) rfl))))) (fun a268 => (s_ret (q_call (op := bTuple) (q_consT (Pur.pdO q_cst) q_nil) rfl) (fun _ => rfl) (s_fin rfl)))))))))
noncomputable def fodd  (T : Tp) : Rt (D × Tp) :=
 ((ipow (10 : Int) (20 : Int)).bind fun a308 =>
 (lete (([eN (), eB true, eB false, eI (0 : Int), eI (1 : Int), eI (5 : Int), eI (61 : Int), eI (-(1 : Int)), eI a308, eS ("" : PySem.Str), eS ("2" : PySem.Str), (eU eN) [], (eL eN) [], (eK false eN eN) [], (e1 eI) (1 : Int), (eL eI) [(2 : Int)], (e2 eI eI) ((0 : Int), (1 : Int)), (eL eD) ([(eL eI) [(1 : Int)], eI (2 : Int)] : List D), (eK false eS eI) [(("a" : PySem.Str), (1 : Int))]] : List D) : (List D)) fun vthings309 =>
 ((repR [(0 : Int)] (401 : Int)).bind fun a312 =>
 ((repR [(1 : Int)] (9 : Int)).bind fun a313 =>
 ((cat vthings309 ([(e1 eB) true, (e2 eI eN) ((2 : Int), ()), (e2 eI eS) ((1 : Int), ("1" : PySem.Str)), (e1 (e2 eI eI)) ((1 : Int), (2 : Int)), (eU eI) a312, (eU eI) a313, (e1 eI) (41 : Int), (e2 eI eI) ((1 : Int), (0 : Int))] : List D)).bind fun a314 =>
 ((pick (a314.length : Int) T).bind fun a317 =>
 ((idx a314 a317.1).bind fun a318 =>
 .ok (a318, a317.2))))))))
theorem t_fodd  (T : Tp) : Sim ET (M__law_odd [] T) (fodd  T) (RT (fun x => VD.val (eD x))) :=
 t_run (fun r m => (s_seq (s_plugE (plug_asg (plug_lst (plug_c2 (Pur.pv q_c) (plug_c2 (Pur.pv q_c) (plug_c2 (Pur.pv q_c) (plug_c2 (Pur.pv q_c) (plug_c2 (Pur.pv q_c) (plug_c2 (Pur.pv q_c) (plug_c2 (Pur.pv q_c) (plug_c2 (Pur.pv (q_un (op := dNeg) (Pur.pd q_c) rfl)) (plug_c1 plug_id))))))))))) (h_op (Pur.pd q_c) (Pur.pd q_c) (mk := (fun x => VD.val (eI x))) p_ipow quit_ipow (fun a308 => (s_asgL (i := 1) m (fun vthings309 => VD.own ((eL eD) vthings309)) (q_lst (q_cons (Pur.pv q_c) (q_cons (Pur.pv q_c) (q_cons (Pur.pv q_c) (q_cons (Pur.pv q_c) (q_cons (Pur.pv q_c) (q_cons (Pur.pv q_c) (q_cons (Pur.pv q_c) (q_cons (Pur.pv (q_un (op := dNeg) (Pur.pd q_c) rfl)) (q_cons (Pur.pv q_cst) (q_cons (Pur.pv q_c) (q_cons (Pur.pv q_c) (q_cons (Pur.pv (q_tup q_nil rfl)) (q_cons (Pur.pvO (q_lst q_nil rfl)) (q_cons (Pur.pvO q_dct) (q_cons (Pur.pv (q_tup (q_cons (Pur.pv q_c) q_nil) rfl)) (q_cons (Pur.pvO (q_lst (q_cons (Pur.pv q_c) q_nil) rfl)) (q_cons (Pur.pv (q_tup (q_cons (Pur.pv q_c) (q_cons (Pur.pv q_c) q_nil)) rfl)) (q_cons (Pur.pvO (q_lst (q_cons (Pur.pvO (q_lst (q_cons (Pur.pv q_c) q_nil) rfl)) (q_cons (Pur.pv q_c) q_nil)) rfl)) (q_cons (Pur.pvO q_dctC) q_nil))))))))))))))))))) rfl) (fun _ _ => rfl) (fun vthings309 r310 m311 => (s_next (s_seq (s_plugE (plug_asg (plug_op2 (Pur.pdP (q_varO m311 rfl)) (plug_lst (plug_c2 (Pur.pv (q_tup (q_cons (Pur.pv q_c) q_nil) rfl)) (plug_c2 (Pur.pv (q_tup (q_cons (Pur.pv q_c) (q_cons (Pur.pv q_c) q_nil)) rfl)) (plug_c2 (Pur.pv (q_tup (q_cons (Pur.pv q_c) (q_cons (Pur.pv q_c) q_nil)) rfl)) (plug_c2 (Pur.pv (q_tup (q_cons (Pur.pv (q_tup (q_cons (Pur.pv q_c) (q_cons (Pur.pv q_c) q_nil)) rfl)) q_nil) rfl)) (plug_c1 plug_id)))))))) (h_op (Pur.pd (q_tup (q_cons (Pur.pv q_c) q_nil) rfl)) (Pur.pd q_c) (mk := (fun x => VD.val ((eU eI) x))) (p_repU (e := eI) (xs := [(0 : Int)])) quit_repR (fun a312 => (s_plugE (plug_asg (plug_op2 (Pur.pdP (q_varO m311 rfl)) (plug_lst (plug_c2 (Pur.pv (q_tup (q_cons (Pur.pv q_c) q_nil) rfl)) (plug_c2 (Pur.pv (q_tup (q_cons (Pur.pv q_c) (q_cons (Pur.pv q_c) q_nil)) rfl)) (plug_c2 (Pur.pv (q_tup (q_cons (Pur.pv q_c) (q_cons (Pur.pv q_c) q_nil)) rfl)) (plug_c2 (Pur.pv (q_tup (q_cons (Pur.pv (q_tup (q_cons (Pur.pv q_c) (q_cons (Pur.pv q_c) q_nil)) rfl)) q_nil) rfl)) (plug_c2 (Pur.pv q_cst) (plug_c1 plug_id))))))))) (h_op (Pur.pd (q_tup (q_cons (Pur.pv q_c) q_nil) rfl)) (Pur.pd q_c) (mk := (fun x => VD.val ((eU eI) x))) (p_repU (e := eI) (xs := [(1 : Int)])) quit_repR (fun a313 => (s_plugE (plug_asg plug_id) (h_op (Pur.pdP (q_varO m311 rfl)) (Pur.pdO (q_lst (q_cons (Pur.pv (q_tup (q_cons (Pur.pv q_c) q_nil) rfl)) (q_cons (Pur.pv (q_tup (q_cons (Pur.pv q_c) (q_cons (Pur.pv q_c) q_nil)) rfl)) (q_cons (Pur.pv (q_tup (q_cons (Pur.pv q_c) (q_cons (Pur.pv q_c) q_nil)) rfl)) (q_cons (Pur.pv (q_tup (q_cons (Pur.pv (q_tup (q_cons (Pur.pv q_c) (q_cons (Pur.pv q_c) q_nil)) rfl)) q_nil) rfl)) (q_cons (Pur.pv q_cst) (q_cons (Pur.pv q_cst) (q_cons (Pur.pv (q_tup (q_cons (Pur.pv q_c) q_nil) rfl)) (q_cons (Pur.pv (q_tup (q_cons (Pur.pv q_c) (q_cons (Pur.pv q_c) q_nil)) rfl)) q_nil)))))))) rfl)) (mk := (fun x => VD.own ((eL eD) x))) p_catL quit_cat (fun a314 => (s_asg (i := 1) m311 q_cst (fun _ => rfl) (fun r315 m316 => (s_next (s_plugE (plug_ret (plug_op2 (Pur.pdP (q_varO m316 rfl)) plug_id)) (h_defT (Mat.get m316 rfl) (q_cons (Pur.pv (q_call (op := bLenA) (q_consT (Pur.pdP (q_varO m316 rfl)) q_nil) q_lenL)) q_nil) rfl (mk := mI) (t_pick _ _) (fun _ => trivial) (fun a317 => (s_plugE (plug_ret plug_id) (h_op (Pur.pdP (q_varO m316 rfl)) (Pur.pd q_cst) (mk := fun x => VD.val (eD x)) (p_idxL (e := eD) (xs := a314)) quit_idx (fun a318 => (s_ret q_cst (fun _ => rfl) (s_fin rfl)))))))))))))))))))))))))))))
noncomputable def fbentD_T_D (vloopshere : (List Int)) (vrowshere : D) (T : Tp) : Rt (D × Tp) :=
 ((pick (7 : Int) T).bind fun a453 =>
 ((unO ((decU decD) vrowshere)).bind fun u456 => ((pick (u456.length : Int) a453.2).bind fun a460 =>
 (if (decide (a453.1 = (0 : Int))) = true then
 ((repR [(1 : Int)] (8 : Int)).bind fun a463 =>
 ((catT vloopshere a463).bind fun a464 =>
 ((catT vloopshere [(0 : Int)]).bind fun a465 =>
 ((catT vloopshere [(41 : Int)]).bind fun a466 =>
 ((catTD vloopshere [(eB true)]).bind fun a467 =>
 (lete (([(eL eI) vloopshere, (eU eN) [], (eU eI) a464, eT a465, eT a466, (eU eD) a467, eN (), eI (5 : Int)] : List D) : (List D)) fun vwrong468 =>
 ((fodd  a460.2).bind fun a471 =>
 ((push (vwrong468 : (List D)) a471.1).bind fun vwrong472 =>
 ((pick (9 : Int) a471.2).bind fun a475 =>
 ((idx vwrong472 a475.1).bind fun a476 =>
 .ok (((e2 eD eD) (a476, vrowshere)), a475.2)))))))))))
 else (if (decide (a453.1 = (1 : Int))) = true then
 ((unO ((decU decD) vrowshere)).bind fun u477 => ((unO ((decU decD) vrowshere)).bind fun u479 => ((repR u479 (61 : Int)).bind fun a481 =>
 ((unO ((decU decD) vrowshere)).bind fun u482 => ((idx u482 (0 : Int)).bind fun a484 =>
 ((fodd  a460.2).bind fun a485 =>
 ((unO ((decU decD) vrowshere)).bind fun u486 => ((cat u486 [(D.tup [])]).bind fun a488 =>
 (lete (([(eL eD) u477, (eU eN) [], (eU eD) a481, eN (), (eK false eN eN) [], eD a484, eD a485.1, (eU eD) a488] : List D) : (List D)) fun vwrong489 =>
 ((pick (8 : Int) a485.2).bind fun a492 =>
 ((idx vwrong489 a492.1).bind fun a493 =>
 .ok (((e2 eT eD) (vloopshere, a493)), a492.2))))))))))))
 else ((if (decide (a453.1 = (2 : Int))) = true then
 ((idx u456 a460.1).bind fun a512 =>
 ((unO ((decU decD) a512)).bind fun u515 => ((fodd  a460.2).bind fun a517 =>
 ((unO ((decU decD) a512)).bind fun u518 => ((cat u518 [(eI (vloopshere.length : Int))]).bind fun a520 =>
 ((unO ((decU decD) a512)).bind fun u521 => ((cat u521 [(eI (-(1 : Int)))]).bind fun a523 =>
 ((pick (5 : Int) a517.2).bind fun a524 =>
 ((idx [((eL eD) u515), a517.1, ((eU eD) a520), ((eU eD) a523), (eN ())] a524.1).bind fun a525 =>
 ((setAt u456 a460.1 a525).bind fun vmade526 =>
 .ok (vmade526, a524.2)))))))))))
 else .ok (u456, a460.2)).bind fun (s511 : ((List D) × Tp)) =>
 ((if (decide (a453.1 = (3 : Int))) = true then
 ((idx s511.1 a460.1).bind fun a540 =>
 ((idxOf vloopshere (1 : Int)).bind fun a541 =>
 ((unO ((decU decD) a540)).bind fun u542 => ((cat u542 [(eI a541)]).bind fun a544 =>
 ((setAt s511.1 a460.1 ((eU eD) a544)).bind fun vmade545 =>
 .ok vmade545)))))
 else .ok s511.1).bind fun (s539 : ((List D))) =>
 ((if (decide (a453.1 = (4 : Int))) = true then
 ((idx s539 a460.1).bind fun a557 =>
 ((unO ((decU decD) a557)).bind fun u558 => ((setAt s539 a460.1 ((eU eD) (cutA u558 (some (1 : Int)) none))).bind fun vmade560 =>
 .ok vmade560)))
 else .ok s539).bind fun (s556 : ((List D))) =>
 ((if (decide (a453.1 = (5 : Int))) = true then
 ((idx s556 a460.1).bind fun a578 =>
 ((unO ((decU decD) a578)).bind fun u579 => ((mapR (fun x582 => ((opBR dEq (eD x582) (eI (1 : Int))).bind fun a585 =>
 .ok a585)) u579).bind fun a586 =>
 ((setAt s556 a460.1 ((eU eB) a586)).bind fun vmade587 =>
 .ok vmade587))))
 else .ok s556).bind fun (s577 : ((List D))) =>
 ((if (decide (a453.1 = (6 : Int))) = true then
 ((pick (s577.length : Int) s511.2).bind fun a598 =>
 ((idx s577 a598.1).bind fun a599 =>
 ((insAt (s577 : (List D)) a460.1 a599).bind fun vmade600 =>
 .ok (vmade600, a598.2))))
 else .ok (s577, s511.2)).bind fun (s597 : ((List D) × Tp)) =>
 .ok (((e2 eT (eU eD)) (vloopshere, s597.1)), s597.2)))))))))))
theorem t_fbentD_T_D (vloopshere : (List Int)) (vrowshere : D) (T : Tp) : Sim ET (M__law_bent [eT vloopshere, eD vrowshere] T) (fbentD_T_D vloopshere vrowshere T) (RT (fun x => VD.val (eD x))) :=
 t_run (fun r m => (s_seq (s_plugE (plug_asg plug_id) (h_defT (Mat.get m rfl) (q_cons (Pur.pv q_c) q_nil) rfl (mk := mI) (t_pick _ _) (fun _ => trivial) (fun a453 => (s_asg (i := 3) m q_cst (fun _ => rfl) (fun r454 m455 => (s_next (s_seq (s_un (fun u456 hx457 => (s_asg (i := 4) m455 (q_call (op := bListA) (q_consT (pd_dec ((dec_U dec_D) _ _ hx457) (Pur.pd (q_var m455 rfl))) q_nil) rfl) (fun _ => rfl) (fun r458 m459 => (s_next (s_seq (s_plugE (plug_asg plug_id) (h_defT (Mat.get m459 rfl) (q_cons (Pur.pv (q_call (op := bLenA) (q_consT (Pur.pdP (q_varO m459 rfl)) q_nil) q_lenL)) q_nil) rfl (mk := mI) (t_pick _ _) (fun _ => trivial) (fun a460 => (s_asg (i := 5) m459 q_cst (fun _ => rfl) (fun r461 m462 => (s_next (s_seq (s_sif (t_pure (q_xb (Pur.pv (q_op (op := dEq) (Pur.pd (q_var m462 rfl)) (Pur.pd q_c) (q_eq enc_I a453.1 (0 : Int) rfl)))) (s_ite (fun _ => (s_seq (s_plugE (plug_asg (plug_lst (plug_c2 (Pur.pvO (q_call (op := bListA) (q_consT (Pur.pd (q_var m462 rfl)) q_nil) rfl)) (plug_c2 (Pur.pv (q_tup q_nil rfl)) (plug_c1 (plug_op2 (Pur.pd (q_var m462 rfl)) plug_id)))))) (h_op (Pur.pd (q_tup (q_cons (Pur.pv q_c) q_nil) rfl)) (Pur.pd q_c) (mk := (fun x => VD.val ((eU eI) x))) (p_repU (e := eI) (xs := [(1 : Int)])) quit_repR (fun a463 => (s_plugE (plug_asg (plug_lst (plug_c2 (Pur.pvO (q_call (op := bListA) (q_consT (Pur.pd (q_var m462 rfl)) q_nil) rfl)) (plug_c2 (Pur.pv (q_tup q_nil rfl)) (plug_c1 plug_id))))) (h_op (Pur.pd (q_var m462 rfl)) (Pur.pd q_cst) (mk := (fun x => VD.val ((eU eI) x))) p_catTU quit_catT (fun a464 => (s_plugE (plug_asg (plug_lst (plug_c2 (Pur.pvO (q_call (op := bListA) (q_consT (Pur.pd (q_var m462 rfl)) q_nil) rfl)) (plug_c2 (Pur.pv (q_tup q_nil rfl)) (plug_c2 (Pur.pv q_cst) (plug_c1 plug_id)))))) (h_op (Pur.pd (q_var m462 rfl)) (Pur.pd (q_tup (q_cons (Pur.pv q_c) q_nil) rfl)) (mk := (fun x => VD.val (eT x))) p_catTP quit_catT (fun a465 => (s_plugE (plug_asg (plug_lst (plug_c2 (Pur.pvO (q_call (op := bListA) (q_consT (Pur.pd (q_var m462 rfl)) q_nil) rfl)) (plug_c2 (Pur.pv (q_tup q_nil rfl)) (plug_c2 (Pur.pv q_cst) (plug_c2 (Pur.pv q_cst) (plug_c1 plug_id))))))) (h_op (Pur.pd (q_var m462 rfl)) (Pur.pd (q_tup (q_cons (Pur.pv q_c) q_nil) rfl)) (mk := (fun x => VD.val (eT x))) p_catTP quit_catT (fun a466 => (s_plugE (plug_asg (plug_lst (plug_c2 (Pur.pvO (q_call (op := bListA) (q_consT (Pur.pd (q_var m462 rfl)) q_nil) rfl)) (plug_c2 (Pur.pv (q_tup q_nil rfl)) (plug_c2 (Pur.pv q_cst) (plug_c2 (Pur.pv q_cst) (plug_c2 (Pur.pv q_cst) (plug_c1 plug_id)))))))) (h_op (Pur.pd (q_var m462 rfl)) (Pur.pd (q_tup (q_cons (Pur.pv q_c) q_nil) rfl)) (mk := (fun x => VD.val ((eU eD) x))) (p_catTD (xs := vloopshere) (ys := [(eB true)])) quit_catTD (fun a467 => (s_asgL (i := 6) m462 (fun vwrong468 => VD.own ((eL eD) vwrong468)) (q_lst (q_cons (Pur.pvO (q_call (op := bListA) (q_consT (Pur.pd (q_var m462 rfl)) q_nil) rfl)) (q_cons (Pur.pv (q_tup q_nil rfl)) (q_cons (Pur.pv q_cst) (q_cons (Pur.pv q_cst) (q_cons (Pur.pv q_cst) (q_cons (Pur.pv q_cst) (q_cons (Pur.pv q_c) (q_cons (Pur.pv q_c) q_nil)))))))) rfl) (fun _ _ => rfl) (fun vwrong468 r469 m470 => (s_next (s_seq (s_dropM (s_plugE (plug_mut (i := 6) m470 rfl rfl (plug_c1 plug_id)) (h_defT (Mat.get m470 rfl) q_nil rfl (mk := (fun x => VD.val (eD x))) (t_fodd  _) (fun _ => trivial) (fun a471 => (m_mut (i := 6) m470 rfl rfl (q_cons (Pur.pv q_cst) q_nil) (dn := (eL eD)) (xv := fun _ => D.non) (p_push (e := eD)) quit_push (fun vwrong472 r473 m474 => (s_next (s_plugE (plug_ret (plug_tup (plug_c1 (plug_op2 (Pur.pdP (q_varO m474 rfl)) plug_id)))) (h_defT (Mat.get m474 rfl) (q_cons (Pur.pv q_c) q_nil) rfl (mk := mI) (t_pick _ _) (fun _ => trivial) (fun a475 => (s_plugE (plug_ret (plug_tup (plug_c1 plug_id))) (h_op (Pur.pdP (q_varO m474 rfl)) (Pur.pd q_cst) (mk := fun x => VD.val (eD x)) (p_idxL (e := eD) (xs := vwrong472)) quit_idx (fun a476 => (s_ret (q_tup (q_cons (Pur.pv q_cst) (q_cons (Pur.pv (q_var m474 rfl)) q_nil)) rfl) (fun _ => rfl) (s_fin rfl)))))))))))))))))))))))))))))))))))) (fun _ => (s_pass (s_next (s_seq (s_sif (t_pure (q_xb (Pur.pv (q_op (op := dEq) (Pur.pd (q_var m462 rfl)) (Pur.pd q_c) (q_eq enc_I a453.1 (1 : Int) rfl)))) (s_ite (fun _ => (s_seq (s_un (fun u477 hx478 => (s_un (fun u479 hx480 => (s_plugE (plug_asg (plug_lst (plug_c2 (Pur.pvO (q_call (op := bListA) (q_consT (pd_dec ((dec_U dec_D) _ _ hx478) (Pur.pd (q_var m462 rfl))) q_nil) rfl)) (plug_c2 (Pur.pv (q_tup q_nil rfl)) (plug_c1 plug_id))))) (h_op (pd_dec ((dec_U dec_D) _ _ hx480) (Pur.pd (q_var m462 rfl))) (Pur.pd q_c) (mk := (fun x => VD.val ((eU eD) x))) (p_repU (e := eD) (xs := u479)) quit_repR (fun a481 => (s_un (fun u482 hx483 => (s_plugE (plug_asg (plug_lst (plug_c2 (Pur.pvO (q_call (op := bListA) (q_consT (pd_dec ((dec_U dec_D) _ _ hx478) (Pur.pd (q_var m462 rfl))) q_nil) rfl)) (plug_c2 (Pur.pv (q_tup q_nil rfl)) (plug_c2 (Pur.pv q_cst) (plug_c2 (Pur.pv q_c) (plug_c2 (Pur.pvO q_dct) (plug_c1 plug_id)))))))) (h_op (pd_dec ((dec_U dec_D) _ _ hx483) (Pur.pd (q_var m462 rfl))) (Pur.pd q_c) (mk := fun x => VD.val (eD x)) (p_idxU (e := eD) (xs := u482)) quit_idx (fun a484 => (s_plugE (plug_asg (plug_lst (plug_c2 (Pur.pvO (q_call (op := bListA) (q_consT (pd_dec ((dec_U dec_D) _ _ hx478) (Pur.pd (q_var m462 rfl))) q_nil) rfl)) (plug_c2 (Pur.pv (q_tup q_nil rfl)) (plug_c2 (Pur.pv q_cst) (plug_c2 (Pur.pv q_c) (plug_c2 (Pur.pvO q_dct) (plug_c2 (Pur.pv q_cst) (plug_c1 plug_id))))))))) (h_defT (Mat.get m462 rfl) q_nil rfl (mk := (fun x => VD.val (eD x))) (t_fodd  _) (fun _ => trivial) (fun a485 => (s_un (fun u486 hx487 => (s_plugE (plug_asg (plug_lst (plug_c2 (Pur.pvO (q_call (op := bListA) (q_consT (pd_dec ((dec_U dec_D) _ _ hx478) (Pur.pd (q_var m462 rfl))) q_nil) rfl)) (plug_c2 (Pur.pv (q_tup q_nil rfl)) (plug_c2 (Pur.pv q_cst) (plug_c2 (Pur.pv q_c) (plug_c2 (Pur.pvO q_dct) (plug_c2 (Pur.pv q_cst) (plug_c2 (Pur.pv q_cst) (plug_c1 plug_id)))))))))) (h_op (pd_dec ((dec_U dec_D) _ _ hx487) (Pur.pd (q_var m462 rfl))) (Pur.pd (q_tup (q_cons (Pur.pv (q_tup q_nil rfl)) q_nil) rfl)) (mk := (fun x => VD.val ((eU eD) x))) (p_catU (e := eD) (xs := u486) (ys := [(D.tup [])])) quit_cat (fun a488 => (s_asgL (i := 6) m462 (fun vwrong489 => VD.own ((eL eD) vwrong489)) (q_lst (q_cons (Pur.pvO (q_call (op := bListA) (q_consT (pd_dec ((dec_U dec_D) _ _ hx478) (Pur.pd (q_var m462 rfl))) q_nil) rfl)) (q_cons (Pur.pv (q_tup q_nil rfl)) (q_cons (Pur.pv q_cst) (q_cons (Pur.pv q_c) (q_cons (Pur.pvO q_dct) (q_cons (Pur.pv q_cst) (q_cons (Pur.pv q_cst) (q_cons (Pur.pv q_cst) q_nil)))))))) rfl) (fun _ _ => rfl) (fun vwrong489 r490 m491 => (s_next (s_plugE (plug_ret (plug_tup (plug_c2 (Pur.pv (q_var m491 rfl)) (plug_c1 (plug_op2 (Pur.pdP (q_varO m491 rfl)) plug_id))))) (h_defT (Mat.get m491 rfl) (q_cons (Pur.pv q_c) q_nil) rfl (mk := mI) (t_pick _ _) (fun _ => trivial) (fun a492 => (s_plugE (plug_ret (plug_tup (plug_c2 (Pur.pv (q_var m491 rfl)) (plug_c1 plug_id)))) (h_op (Pur.pdP (q_varO m491 rfl)) (Pur.pd q_cst) (mk := fun x => VD.val (eD x)) (p_idxL (e := eD) (xs := vwrong489)) quit_idx (fun a493 => (s_ret (q_tup (q_cons (Pur.pv (q_var m491 rfl)) (q_cons (Pur.pv q_cst) q_nil)) rfl) (fun _ => rfl) (s_fin rfl))))))))))))))))))))))))))))))))) (fun _ => (s_pass (s_next (s_seq (s_join (fun (s511 : ((List D) × Tp)) => [.is .tape, iv (eT vloopshere), iv (eD vrowshere), iv (eI a453.1), io ((eL eD) s511.1), iv (eI a460.1), .free, .free, .free]) (fun s511 => s511.2) (s_sif (t_pure (q_xb (Pur.pv (q_op (op := dEq) (Pur.pd (q_var m462 rfl)) (Pur.pd q_c) (q_eq enc_I a453.1 (2 : Int) rfl)))) (s_ite (fun _ => (s_seq (s_plugE (plug_asg plug_id) (h_op (Pur.pdP (q_varO m462 rfl)) (Pur.pd (q_var m462 rfl)) (mk := fun x => VD.val (eD x)) (p_idxL (e := eD) (xs := u456)) quit_idx (fun a512 => (s_asg (i := 7) m462 q_cst (fun _ => rfl) (fun r513 m514 => (s_next (s_un (fun u515 hx516 => (s_plugE (plug_setE (plug_op1 (plug_lst (plug_c2 (Pur.pvO (q_call (op := bListA) (q_consT (pd_dec ((dec_U dec_D) _ _ hx516) (Pur.pd (q_var m514 rfl))) q_nil) rfl)) (plug_c1 plug_id))))) (h_defT (Mat.get m514 rfl) q_nil rfl (mk := (fun x => VD.val (eD x))) (t_fodd  _) (fun _ => trivial) (fun a517 => (s_un (fun u518 hx519 => (s_plugE (plug_setE (plug_op1 (plug_lst (plug_c2 (Pur.pvO (q_call (op := bListA) (q_consT (pd_dec ((dec_U dec_D) _ _ hx516) (Pur.pd (q_var m514 rfl))) q_nil) rfl)) (plug_c2 (Pur.pv q_cst) (plug_c1 plug_id)))))) (h_op (pd_dec ((dec_U dec_D) _ _ hx519) (Pur.pd (q_var m514 rfl))) (Pur.pd (q_tup (q_cons (Pur.pv (q_call (op := bLenA) (q_consT (Pur.pd (q_var m514 rfl)) q_nil) rfl)) q_nil) rfl)) (mk := (fun x => VD.val ((eU eD) x))) (p_catU (e := eD) (xs := u518) (ys := [(eI (vloopshere.length : Int))])) quit_cat (fun a520 => (s_un (fun u521 hx522 => (s_plugE (plug_setE (plug_op1 (plug_lst (plug_c2 (Pur.pvO (q_call (op := bListA) (q_consT (pd_dec ((dec_U dec_D) _ _ hx516) (Pur.pd (q_var m514 rfl))) q_nil) rfl)) (plug_c2 (Pur.pv q_cst) (plug_c2 (Pur.pv q_cst) (plug_c1 plug_id))))))) (h_op (pd_dec ((dec_U dec_D) _ _ hx522) (Pur.pd (q_var m514 rfl))) (Pur.pd (q_tup (q_cons (Pur.pv (q_un (op := dNeg) (Pur.pd q_c) rfl)) q_nil) rfl)) (mk := (fun x => VD.val ((eU eD) x))) (p_catU (e := eD) (xs := u521) (ys := [(eI (-(1 : Int)))])) quit_cat (fun a523 => (s_plugE (plug_setE (plug_op2 (Pur.pdO (q_lst (q_cons (Pur.pvO (q_call (op := bListA) (q_consT (pd_dec ((dec_U dec_D) _ _ hx516) (Pur.pd (q_var m514 rfl))) q_nil) rfl)) (q_cons (Pur.pv q_cst) (q_cons (Pur.pv q_cst) (q_cons (Pur.pv q_cst) (q_cons (Pur.pv q_c) q_nil))))) rfl)) plug_id)) (h_defT (Mat.get m514 rfl) (q_cons (Pur.pv q_c) q_nil) rfl (mk := mI) (t_pick _ _) (fun _ => trivial) (fun a524 => (s_plugE (plug_setE plug_id) (h_op (Pur.pdO (q_lst (q_cons (Pur.pvO (q_call (op := bListA) (q_consT (pd_dec ((dec_U dec_D) _ _ hx516) (Pur.pd (q_var m514 rfl))) q_nil) rfl)) (q_cons (Pur.pv q_cst) (q_cons (Pur.pv q_cst) (q_cons (Pur.pv q_cst) (q_cons (Pur.pv q_c) q_nil))))) rfl)) (Pur.pd q_cst) (mk := fun x => VD.val (eD x)) (p_idxL (e := eD) (xs := [((eL eD) u515), a517.1, ((eU eD) a520), ((eU eD) a523), (eN ())])) quit_idx (fun a525 => (s_setI (i := 4) m514 rfl (Pur.pv q_cst) (Pur.pd (q_var m514 rfl)) (dn := (eL eD)) p_setAt quit_setAt (fun vmade526 r527 m528 => (x_nxL (Mat.weak (.keep (.keep (.keep (.keep (.keep (.keep (.keep (.fv (.keep .nil))))))))) m528) rfl)))))))))))))))))))))))))))))))) (fun _ => (s_pass (x_nxL (Mat.weak (.keep (.keep (.keep (.keep (.keep (.keep (.keep (.keep (.keep .nil))))))))) m462) rfl)))))) (fun s511 r529 m530 => (s_next (s_seq (s_join (fun (s539 : ((List D))) => [.is .tape, iv (eT vloopshere), iv (eD vrowshere), iv (eI a453.1), io ((eL eD) s539), iv (eI a460.1), .free, .free, .free]) (fun _ => s511.2) (s_sif (t_pure (q_xb (Pur.pv (q_op (op := dEq) (Pur.pd (q_var m530 rfl)) (Pur.pd q_c) (q_eq enc_I a453.1 (3 : Int) rfl)))) (s_ite (fun _ => (s_plugE (plug_setE (plug_op1 plug_id)) (h_op (Pur.pdP (q_varO m530 rfl)) (Pur.pd (q_var m530 rfl)) (mk := fun x => VD.val (eD x)) (p_idxL (e := eD) (xs := s511.1)) quit_idx (fun a540 => (s_plugE (plug_setE (plug_op2 (Pur.pd q_cst) (plug_tup (plug_c1 plug_id)))) (h_idx (Pur.pd (q_var m530 rfl)) rfl (Pur.pd q_c) (mk := mI) p_idxOfT quit_idxOf (fun a541 => (s_un (fun u542 hx543 => (s_plugE (plug_setE plug_id) (h_op (pd_dec ((dec_U dec_D) _ _ hx543) (Pur.pd q_cst)) (Pur.pd (q_tup (q_cons (Pur.pv q_cst) q_nil) rfl)) (mk := (fun x => VD.val ((eU eD) x))) (p_catU (e := eD) (xs := u542) (ys := [(eI a541)])) quit_cat (fun a544 => (s_setI (i := 4) m530 rfl (Pur.pv q_cst) (Pur.pd (q_var m530 rfl)) (dn := (eL eD)) p_setAt quit_setAt (fun vmade545 r546 m547 => (x_nxL (Mat.weak (.keep (.keep (.keep (.keep (.keep (.keep (.keep (.keep (.keep .nil))))))))) m547) rfl))))))))))))))) (fun _ => (s_pass (x_nxL (Mat.weak (.keep (.keep (.keep (.keep (.keep (.keep (.keep (.keep (.keep .nil))))))))) m530) rfl)))))) (fun s539 r548 m549 => (s_next (s_seq (s_join (fun (s556 : ((List D))) => [.is .tape, iv (eT vloopshere), iv (eD vrowshere), iv (eI a453.1), io ((eL eD) s556), iv (eI a460.1), .free, .free, .free]) (fun _ => s511.2) (s_sif (t_pure (q_xb (Pur.pv (q_op (op := dEq) (Pur.pd (q_var m549 rfl)) (Pur.pd q_c) (q_eq enc_I a453.1 (4 : Int) rfl)))) (s_ite (fun _ => (s_plugE (plug_setE (plug_sl1 plug_id)) (h_op (Pur.pdP (q_varO m549 rfl)) (Pur.pd (q_var m549 rfl)) (mk := fun x => VD.val (eD x)) (p_idxL (e := eD) (xs := s539)) quit_idx (fun a557 => (s_un (fun u558 hx559 => (s_setI (i := 4) m549 rfl (Pur.pv (q_sl (pd_dec ((dec_U dec_D) _ _ hx559) (Pur.pd q_cst)) (q_psome (Pur.pd q_c)) q_pnone q_cutU)) (Pur.pd (q_var m549 rfl)) (dn := (eL eD)) p_setAt quit_setAt (fun vmade560 r561 m562 => (x_nxL (Mat.weak (.keep (.keep (.keep (.keep (.keep (.keep (.keep (.keep (.keep .nil))))))))) m562) rfl))))))))) (fun _ => (s_pass (x_nxL (Mat.weak (.keep (.keep (.keep (.keep (.keep (.keep (.keep (.keep (.keep .nil))))))))) m549) rfl)))))) (fun s556 r563 m564 => (s_next (s_seq (s_join (fun (s577 : ((List D))) => [.is .tape, iv (eT vloopshere), iv (eD vrowshere), iv (eI a453.1), io ((eL eD) s577), iv (eI a460.1), .free, .free, .free]) (fun _ => s511.2) (s_sif (t_pure (q_xb (Pur.pv (q_op (op := dEq) (Pur.pd (q_var m564 rfl)) (Pur.pd q_c) (q_eq enc_I a453.1 (5 : Int) rfl)))) (s_ite (fun _ => (s_plugE (plug_setE (plug_call (plug_t1 (plug_lc (plug_seqJ plug_id))))) (h_op (Pur.pdP (q_varO m564 rfl)) (Pur.pd (q_var m564 rfl)) (mk := fun x => VD.val (eD x)) (p_idxL (e := eD) (xs := s556)) quit_idx (fun a578 => (s_un (fun u579 hx580 => (s_plugE (plug_setE (plug_call (plug_t1 plug_id))) (h_lc m564 (.f rfl .nil) (q_seqJ (pd_dec ((dec_U dec_D) _ _ hx580) (Pur.pd q_cst)) rfl) (e := eD) (ms := (fun x => [(8, eD x)])) (fun _ => rfl) (e' := eB) (fun x582 r583 m581 => (e_plug plug_id (h_op (Pur.pd (q_var m581 rfl)) (Pur.pd q_c) (mk := fun x => VD.val (eB x)) p_opBR quit_opBR (fun a585 => (e_fin (Pur.pv q_cst) rfl))))) (fun a586 => (s_setI (i := 4) m564 rfl (Pur.pv (q_call (op := bTuple) (q_consT (Pur.pdO q_cst) q_nil) rfl)) (Pur.pd (q_var m564 rfl)) (dn := (eL eD)) p_setAt quit_setAt (fun vmade587 r588 m589 => (x_nxL (Mat.weak (.keep (.keep (.keep (.keep (.keep (.keep (.keep (.keep (.keep .nil))))))))) m589) rfl)))))))))))) (fun _ => (s_pass (x_nxL (Mat.weak (.keep (.keep (.keep (.keep (.keep (.keep (.keep (.keep (.keep .nil))))))))) m564) rfl)))))) (fun s577 r590 m591 => (s_next (s_seq (s_join (fun (s597 : ((List D) × Tp)) => [.is .tape, iv (eT vloopshere), iv (eD vrowshere), iv (eI a453.1), io ((eL eD) s597.1), iv (eI a460.1), .free, .free, .free]) (fun s597 => s597.2) (s_sif (t_pure (q_xb (Pur.pv (q_op (op := dEq) (Pur.pd (q_var m591 rfl)) (Pur.pd q_c) (q_eq enc_I a453.1 (6 : Int) rfl)))) (s_ite (fun _ => (s_dropM (s_plugE (plug_mut (i := 4) m591 rfl rfl (plug_c2 (Pur.pv (q_var m591 rfl)) (plug_c1 (plug_op2 (Pur.pdP (q_varO m591 rfl)) plug_id)))) (h_defT (Mat.get m591 rfl) (q_cons (Pur.pv (q_call (op := bLenA) (q_consT (Pur.pdP (q_varO m591 rfl)) q_nil) q_lenL)) q_nil) rfl (mk := mI) (t_pick _ _) (fun _ => trivial) (fun a598 => (s_plugE (plug_mut (i := 4) m591 rfl rfl (plug_c2 (Pur.pv (q_var m591 rfl)) (plug_c1 plug_id))) (h_op (Pur.pdP (q_varO m591 rfl)) (Pur.pd q_cst) (mk := fun x => VD.val (eD x)) (p_idxL (e := eD) (xs := s577)) quit_idx (fun a599 => (m_mut (i := 4) m591 rfl rfl (q_cons (Pur.pv (q_var m591 rfl)) (q_cons (Pur.pv q_cst) q_nil)) (dn := (eL eD)) (xv := fun _ => D.non) (p_insAt (e := eD)) quit_insAt (fun vmade600 r601 m602 => (x_nxL (Mat.weak (.keep (.keep (.keep (.keep (.keep (.keep (.keep (.keep (.keep .nil))))))))) m602) rfl))))))))))) (fun _ => (s_pass (x_nxL (Mat.weak (.keep (.keep (.keep (.keep (.keep (.keep (.keep (.keep (.keep .nil))))))))) m591) rfl)))))) (fun s597 r603 m604 => (s_next (s_ret (q_tup (q_cons (Pur.pv (q_var m604 rfl)) (q_cons (Pur.pv (q_call (op := bTuple) (q_consT (Pur.pdP (q_varO m604 rfl)) q_nil) rfl)) q_nil)) rfl) (fun _ => rfl) (s_fin rfl)))))))))))))))))))))))))))))))))))))))))))))))))))))))))
noncomputable def fisint (vthing : Int) (vleast : Int) (vmost : Int) : Rt Bool :=
 .ok (true && ((!false) && ((decide (vleast ≤ vthing)) && (decide (vthing ≤ vmost)))))
theorem t_fisint (vthing : Int) (vleast : Int) (vmost : Int) : Sim ET (M__law_is_int [eI vthing, eI vleast, eI vmost] none) (fisint vthing vleast vmost) (RV (fun x => VD.val (eB x))) :=
 t_run (fun r m => (s_ret (q_and (Pur.pv (q_un (op := (dIsi [] .int)) (Pur.pd (q_var m rfl)) rfl)) (fun _ => (q_and (Pur.pv (q_not (Pur.pv (q_un (op := (dIsi [] .bool)) (Pur.pd (q_var m rfl)) rfl)))) (fun _ => (q_and (Pur.pv (q_op (op := dLe) (Pur.pd (q_var m rfl)) (Pur.pd (q_var m rfl)) (dLe_ii _ _))) (fun _ => (q_op (op := dLe) (Pur.pd (q_var m rfl)) (Pur.pd (q_var m rfl)) (dLe_ii _ _)))))))) (fun _ => rfl) (s_fin rfl)))
noncomputable def fareints_T_I_I_I (vthing : (List Int)) (vmany : Int) (vleast : Int) (vmost : Int) : Rt Bool :=
 (if ((!true) || (decide ((vthing.length : Int) > vmany))) = true then
 .ok false
 else ((lcR (fun x630 => ((fisint x630 vleast vmost).bind fun a632 =>
 .ok (!a632))) (fun x630 => .ok x630) vthing).bind fun a633 =>
 .ok (decide ((a633.length : Int) = (0 : Int)))))
theorem t_fareints_T_I_I_I (vthing : (List Int)) (vmany : Int) (vleast : Int) (vmost : Int) : Sim ET (M__law_are_ints [eT vthing, eI vmany, eI vleast, eI vmost] none) (fareints_T_I_I_I vthing vmany vleast vmost) (RV (fun x => VD.val (eB x))) :=
 t_run (fun r m => (s_seq (s_sif (t_pure (q_xor (q_xnot (q_xb (Pur.pv (q_un (op := (dIsi [] .tuple)) (Pur.pd (q_var m rfl)) rfl)))) (fun _ => (q_xb (Pur.pv (q_op (op := dGt) (Pur.pd (q_call (op := bLenA) (q_consT (Pur.pd (q_var m rfl)) q_nil) rfl)) (Pur.pd (q_var m rfl)) (dGt_ii _ _)))))) (s_ite (fun _ => (s_ret q_c (fun _ => rfl) (s_fin rfl))) (fun _ => (s_pass (s_next (s_plugE (plug_ret (plug_op1 (plug_call (plug_t1 plug_id)))) (h_lcF m (.f rfl .nil) (q_seqJ (Pur.pd (q_var m rfl)) rfl) (e := eI) (ms := (fun x => [(4, eI x)])) (fun _ => rfl) (e' := eI) (fun x630 r631 m629 => (s_plugE (plug_xnot (plug_xb plug_id)) (h_def (q_cons (Pur.pv (q_var m629 rfl)) (q_cons (Pur.pv (q_var m629 rfl)) (q_cons (Pur.pv (q_var m629 rfl)) q_nil))) rfl (mk := (fun x => VD.val (eB x))) (t_fisint x630 vleast vmost) trivial (fun a632 => (t_pure (q_xnot (q_xb (Pur.pv q_cst))) (s_fin rfl)))))) (fun x630 r631 m629 => (e_fin (Pur.pv (q_var m629 rfl)) rfl)) (fun a633 => (s_ret (q_op (op := dEq) (Pur.pd (q_call (op := bLenA) (q_consT (Pur.pdO q_cst) q_nil) q_lenL)) (Pur.pd q_c) (q_eq enc_I (a633.length : Int) (0 : Int) rfl)) (fun _ => rfl) (s_fin rfl)))))))))))))
noncomputable def fisintD (vthing : D) (vleast : Int) (vmost : Int) : Rt Bool :=
 ((isiR .int vthing).bind fun a669 =>
 (((if a669 = true then ((isiR .bool vthing).bind fun a670 =>
 (((if (!a670) = true then ((unO (decI vthing)).bind fun u671 => (((if (decide (vleast ≤ u671)) = true then ((unO (decI vthing)).bind fun u673 => .ok (decide (u673 ≤ vmost))) else .ok false)).bind fun a675 =>
 .ok a675)) else .ok false)).bind fun a676 =>
 .ok a676)) else .ok false)).bind fun a677 =>
 .ok a677))
theorem t_fisintD (vthing : D) (vleast : Int) (vmost : Int) : Sim ET (M__law_is_int [eD vthing, eI vleast, eI vmost] none) (fisintD vthing vleast vmost) (RV (fun x => VD.val (eB x))) :=
 t_run (fun r m => (s_plugE (plug_ret (plug_and plug_id)) (h_un (op := dIsi [] .int) (Pur.pd (q_var m rfl)) (mk := fun x => VD.val (eB x)) p_isiR quit_isiR (fun a669 => (s_plugE (plug_ret plug_id) (h_and (Pur.pv q_cst) (fun _ => (s_plugE (plug_and (plug_not plug_id)) (h_un (op := dIsi [] .bool) (Pur.pd (q_var m rfl)) (mk := fun x => VD.val (eB x)) p_isiR quit_isiR (fun a670 => (h_and (Pur.pv (q_not (Pur.pv q_cst))) (fun _ => (s_un (fun u671 hx672 => (h_and (Pur.pv (q_op (op := dLe) (Pur.pd (q_var m rfl)) (pd_dec (dec_I _ _ hx672) (Pur.pd (q_var m rfl))) (dLe_ii _ _))) (fun _ => (s_un (fun u673 hx674 => (t_pure (q_op (op := dLe) (pd_dec (dec_I _ _ hx674) (Pur.pd (q_var m rfl))) (Pur.pd (q_var m rfl)) (dLe_ii _ _)) (s_fin rfl))))) (fun a675 => (s_fin rfl)))))) (fun a676 => (s_fin rfl))))))) (fun a677 => (s_ret q_cst (fun _ => rfl) (s_fin rfl)))))))))
noncomputable def fareintsD (vthing : D) (vmany : Int) (vleast : Int) (vmost : Int) : Rt Bool :=
 ((isiR .tuple vthing).bind fun a680 =>
 (((if (!a680) = true then .ok true else ((unO ((decU decD) vthing)).bind fun u681 => .ok (decide ((u681.length : Int) > vmany))))).bind fun b683 =>
 (if b683 = true then
 .ok false
 else ((unO ((decU decD) vthing)).bind fun u684 => ((lcR (fun x687 => ((fisintD x687 vleast vmost).bind fun a689 =>
 .ok (!a689))) (fun x687 => .ok x687) u684).bind fun a690 =>
 .ok (decide ((a690.length : Int) = (0 : Int))))))))
theorem t_fareintsD (vthing : D) (vmany : Int) (vleast : Int) (vmost : Int) : Sim ET (M__law_are_ints [eD vthing, eI vmany, eI vleast, eI vmost] none) (fareintsD vthing vmany vleast vmost) (RV (fun x => VD.val (eB x))) :=
 t_run (fun r m => (s_seq (s_sif (s_plugE (plug_xor (plug_xnot (plug_xb plug_id))) (h_un (op := dIsi [] .tuple) (Pur.pd (q_var m rfl)) (mk := fun x => VD.val (eB x)) p_isiR quit_isiR (fun a680 => (tt_or (q_xnot (q_xb (Pur.pv q_cst))) (fun _ => (s_un (fun u681 hx682 => (t_pure (q_xb (Pur.pv (q_op (op := dGt) (Pur.pd (q_call (op := bLenA) (q_consT (pd_dec ((dec_U dec_D) _ _ hx682) (Pur.pd (q_var m rfl))) q_nil) q_lenU)) (Pur.pd (q_var m rfl)) (dGt_ii _ _)))) (s_fin rfl))))) (fun b683 => (s_ite (fun _ => (s_ret q_c (fun _ => rfl) (s_fin rfl))) (fun _ => (s_pass (s_next (s_un (fun u684 hx685 => (s_plugE (plug_ret (plug_op1 (plug_call (plug_t1 plug_id)))) (h_lcF m (.f rfl .nil) (q_seqJ (pd_dec ((dec_U dec_D) _ _ hx685) (Pur.pd (q_var m rfl))) rfl) (e := eD) (ms := (fun x => [(4, eD x)])) (fun _ => rfl) (e' := eD) (fun x687 r688 m686 => (s_plugE (plug_xnot (plug_xb plug_id)) (h_def (q_cons (Pur.pv (q_var m686 rfl)) (q_cons (Pur.pv (q_var m686 rfl)) (q_cons (Pur.pv (q_var m686 rfl)) q_nil))) rfl (mk := (fun x => VD.val (eB x))) (t_fisintD x687 vleast vmost) trivial (fun a689 => (t_pure (q_xnot (q_xb (Pur.pv q_cst))) (s_fin rfl)))))) (fun x687 r688 m686 => (e_fin (Pur.pv (q_var m686 rfl)) rfl)) (fun a690 => (s_ret (q_op (op := dEq) (Pur.pd (q_call (op := bLenA) (q_consT (Pur.pdO q_cst) q_nil) q_lenL)) (Pur.pd q_c) (q_eq enc_I (a690.length : Int) (0 : Int) rfl)) (fun _ => rfl) (s_fin rfl)))))))))))))))))))
noncomputable def ffaultD_T_D (vloopshere : (List Int)) (vrowshere : D) : Rt (Option (PySem.Str × Int)) :=
 ((fareints_T_I_I_I vloopshere (8 : Int) (1 : Int) (40 : Int)).bind fun a736 =>
 (if ((!a736) || (decide ((vloopshere.length : Int) = (0 : Int)))) = true then
 .ok (some (("loops" : PySem.Str), (-(1 : Int))))
 else ((isiR .tuple vrowshere).bind fun a737 =>
 (((if (!a737) = true then .ok true else ((unO ((decU decD) vrowshere)).bind fun u738 => (((if (decide ((u738.length : Int) < (1 : Int))) = true then .ok true else ((unO ((decU decD) vrowshere)).bind fun u740 => .ok (decide ((u740.length : Int) > (60 : Int)))))).bind fun b742 =>
 .ok b742)))).bind fun b743 =>
 (if b743 = true then
 .ok (some (("rows" : PySem.Str), (-(1 : Int))))
 else ((unO ((decU decD) vrowshere)).bind fun u744 => ((rng (0 : Int) (u744.length : Int)).bind fun xs746 =>
 ((forR (P := (PySem.Str × Int)) xs746 (() : Unit) fun x771 s770 =>
 ((unO ((decU decD) vrowshere)).bind fun u774 => ((idx u774 x771).bind fun a776 =>
 ((fareintsD a776 (60 : Int) (0 : Int) ((vloopshere.length : Int) - (1 : Int))).bind fun a777 =>
 (((if (!a777) = true then .ok true else ((unO ((decU decD) vrowshere)).bind fun u778 => ((idx u778 x771).bind fun a780 =>
 ((unO ((decU decD) a780)).bind fun u781 => ((mapR (fun x784 => ((unO (decI x784)).bind fun u789 => ((idx vloopshere u789).bind fun a791 =>
 .ok a791))) u781).bind fun a792 =>
 .ok (!decide ((a792.sum) = (x771 + (1 : Int)))))))))).bind fun b793 =>
 (if b793 = true then
 .ok (.rt (("rows" : PySem.Str), x771))
 else .ok (.nx ()))))))).bind fun o => match o with
 | .inl s794 => .ok none
 | .inr v797 => .ok (some v797)))))))))
theorem t_ffaultD_T_D (vloopshere : (List Int)) (vrowshere : D) : Sim ET (M__law_fault [eT vloopshere, eD vrowshere] none) (ffaultD_T_D vloopshere vrowshere) (RV (fun x => VD.val ((eO (e2 eS eI)) x))) :=
 t_run (fun r m => (s_seq (s_sif (s_plugE (plug_xor (plug_xnot (plug_xb plug_id))) (h_def (q_cons (Pur.pv (q_var m rfl)) (q_cons (Pur.pv q_c) (q_cons (Pur.pv q_c) (q_cons (Pur.pv q_c) q_nil)))) rfl (mk := (fun x => VD.val (eB x))) (t_fareints_T_I_I_I vloopshere (8 : Int) (1 : Int) (40 : Int)) trivial (fun a736 => (t_pure (q_xor (q_xnot (q_xb (Pur.pv q_cst))) (fun _ => (q_xb (Pur.pv (q_op (op := dEq) (Pur.pd (q_call (op := bLenA) (q_consT (Pur.pd (q_var m rfl)) q_nil) rfl)) (Pur.pd q_c) (q_eq enc_I (vloopshere.length : Int) (0 : Int) rfl)))))) (s_ite (fun _ => (s_ret (q_tup (q_cons (Pur.pv q_c) (q_cons (Pur.pv (q_un (op := dNeg) (Pur.pd q_c) rfl)) q_nil)) rfl) (fun _ => rfl) (s_fin rfl))) (fun _ => (s_pass (s_next (s_seq (s_sif (s_plugE (plug_xor (plug_xnot (plug_xb plug_id))) (h_un (op := dIsi [] .tuple) (Pur.pd (q_var m rfl)) (mk := fun x => VD.val (eB x)) p_isiR quit_isiR (fun a737 => (tt_or (q_xnot (q_xb (Pur.pv q_cst))) (fun _ => (s_un (fun u738 hx739 => (tt_or (q_xb (Pur.pv (q_op (op := dLt) (Pur.pd (q_call (op := bLenA) (q_consT (pd_dec ((dec_U dec_D) _ _ hx739) (Pur.pd (q_var m rfl))) q_nil) q_lenU)) (Pur.pd q_c) (dLt_ii _ _)))) (fun _ => (s_un (fun u740 hx741 => (t_pure (q_xb (Pur.pv (q_op (op := dGt) (Pur.pd (q_call (op := bLenA) (q_consT (pd_dec ((dec_U dec_D) _ _ hx741) (Pur.pd (q_var m rfl))) q_nil) q_lenU)) (Pur.pd q_c) (dGt_ii _ _)))) (s_fin rfl))))) (fun b742 => (s_fin rfl)))))) (fun b743 => (s_ite (fun _ => (s_ret (q_tup (q_cons (Pur.pv q_c) (q_cons (Pur.pv (q_un (op := dNeg) (Pur.pd q_c) rfl)) q_nil)) rfl) (fun _ => rfl) (s_fin rfl))) (fun _ => (s_pass (s_next (s_seq (s_un (fun u744 hx745 => (s_for1 (h_rng (q_consT (Pur.pd (q_call (op := bLenA) (q_consT (pd_dec ((dec_U dec_D) _ _ hx745) (Pur.pd (q_var m rfl))) q_nil) q_lenU)) q_nil) rfl (fun xs746 => (s_forR (fun (s770 : Unit) => [iv (eT vloopshere), iv (eD vrowshere), .free, .free]) (fun _ => (none : Tp)) (() : Unit) rfl (fun (v797 : (PySem.Str × Int)) => VD.val ((e2 eS eI) v797)) (fun _ => (none : Tp)) (Mat.weak (.keep (.keep (.keep (.keep .nil)))) m) q_csti (e := eI) (ms := (fun x => [(2, eI x)])) (fun _ => rfl) (fun x771 s770 r772 m773 => (s_sif (s_un (fun u774 hx775 => (s_plugE (plug_xor (plug_xnot (plug_xb (plug_def (plug_c1 plug_id))))) (h_op (pd_dec ((dec_U dec_D) _ _ hx775) (Pur.pd (q_var m773 rfl))) (Pur.pd (q_var m773 rfl)) (mk := fun x => VD.val (eD x)) (p_idxU (e := eD) (xs := u774)) quit_idx (fun a776 => (s_plugE (plug_xor (plug_xnot (plug_xb plug_id))) (h_def (q_cons (Pur.pv q_cst) (q_cons (Pur.pv q_c) (q_cons (Pur.pv q_c) (q_cons (Pur.pv (q_op (op := dSub) (Pur.pd (q_call (op := bLenA) (q_consT (Pur.pd (q_var m773 rfl)) q_nil) rfl)) (Pur.pd q_c) rfl)) q_nil)))) rfl (mk := (fun x => VD.val (eB x))) (t_fareintsD a776 (60 : Int) (0 : Int) ((vloopshere.length : Int) - (1 : Int))) trivial (fun a777 => (tt_or (q_xnot (q_xb (Pur.pv q_cst))) (fun _ => (s_un (fun u778 hx779 => (s_plugE (plug_xb (plug_op1 (plug_call (plug_t1 (plug_lc (plug_seqJ plug_id)))))) (h_op (pd_dec ((dec_U dec_D) _ _ hx779) (Pur.pd (q_var m773 rfl))) (Pur.pd (q_var m773 rfl)) (mk := fun x => VD.val (eD x)) (p_idxU (e := eD) (xs := u778)) quit_idx (fun a780 => (s_un (fun u781 hx782 => (s_plugE (plug_xb (plug_op1 (plug_call (plug_t1 plug_id)))) (h_lc m773 (.f rfl .nil) (q_seqJ (pd_dec ((dec_U dec_D) _ _ hx782) (Pur.pd q_cst)) rfl) (e := eD) (ms := (fun x => [(3, eD x)])) (fun _ => rfl) (e' := eI) (fun x784 r785 m783 => (s_un (fun u789 hx790 => (e_plug plug_id (h_op (Pur.pd (q_var m783 rfl)) (pd_dec (dec_I _ _ hx790) (Pur.pd (q_var m783 rfl))) (mk := fun x => VD.val (eI x)) p_idxT quit_idx (fun a791 => (e_fin (Pur.pv q_cst) rfl))))))) (fun a792 => (t_pure (q_xb (Pur.pv (q_op (op := dNe) (Pur.pd (q_call (op := bSumA) (q_consT (Pur.pdO q_cst) q_nil) q_sumL)) (Pur.pd (q_op (op := dAddA) (Pur.pd (q_var m773 rfl)) (Pur.pd q_c) rfl)) (q_ne enc_I (a792.sum) (x771 + (1 : Int)) rfl)))) (s_fin rfl))))))))))))) (fun b793 => (s_ite (fun _ => (s_ret (q_tup (q_cons (Pur.pv q_c) (q_cons (Pur.pv (q_var m773 rfl)) q_nil)) rfl) (fun _ => rfl) (x_rtR rfl rfl))) (fun _ => (s_pass (x_nxR (Mat.weak (.keep (.keep (.fv (.keep .nil)))) m773) rfl)))))))))))))))) (fun s794 r795 m796 => (s_next (s_ret q_c (fun _ => rfl) (s_fin rfl)))) (fun v797 => (s_fin rfl)))))))))))))))))))))))))))))))
noncomputable def ffaultD (vloopshere : D) (vrowshere : D) : Rt (Option (PySem.Str × Int)) :=
 ((fareintsD vloopshere (8 : Int) (1 : Int) (40 : Int)).bind fun a875 =>
 (((if (!a875) = true then .ok true else ((unO ((decU decD) vloopshere)).bind fun u876 => .ok (decide ((u876.length : Int) = (0 : Int)))))).bind fun b878 =>
 (if b878 = true then
 .ok (some (("loops" : PySem.Str), (-(1 : Int))))
 else ((isiR .tuple vrowshere).bind fun a879 =>
 (((if (!a879) = true then .ok true else ((unO ((decU decD) vrowshere)).bind fun u880 => (((if (decide ((u880.length : Int) < (1 : Int))) = true then .ok true else ((unO ((decU decD) vrowshere)).bind fun u882 => .ok (decide ((u882.length : Int) > (60 : Int)))))).bind fun b884 =>
 .ok b884)))).bind fun b885 =>
 (if b885 = true then
 .ok (some (("rows" : PySem.Str), (-(1 : Int))))
 else ((unO ((decU decD) vrowshere)).bind fun u886 => ((rng (0 : Int) (u886.length : Int)).bind fun xs888 =>
 ((forR (P := (PySem.Str × Int)) xs888 (() : Unit) fun x919 s918 =>
 ((unO ((decU decD) vrowshere)).bind fun u922 => ((idx u922 x919).bind fun a924 =>
 ((unO ((decU decD) vloopshere)).bind fun u925 => ((fareintsD a924 (60 : Int) (0 : Int) ((u925.length : Int) - (1 : Int))).bind fun a927 =>
 (((if (!a927) = true then .ok true else ((unO ((decU decD) vrowshere)).bind fun u928 => ((idx u928 x919).bind fun a930 =>
 ((unO ((decU decD) a930)).bind fun u931 => ((mapR (fun x934 => ((unO ((decU decI) vloopshere)).bind fun u941 => ((unO (decI x934)).bind fun u943 => ((idx u941 u943).bind fun a945 =>
 .ok a945)))) u931).bind fun a946 =>
 .ok (!decide ((a946.sum) = (x919 + (1 : Int)))))))))).bind fun b947 =>
 (if b947 = true then
 .ok (.rt (("rows" : PySem.Str), x919))
 else .ok (.nx ())))))))).bind fun o => match o with
 | .inl s948 => .ok none
 | .inr v951 => .ok (some v951))))))))))
theorem t_ffaultD (vloopshere : D) (vrowshere : D) : Sim ET (M__law_fault [eD vloopshere, eD vrowshere] none) (ffaultD vloopshere vrowshere) (RV (fun x => VD.val ((eO (e2 eS eI)) x))) :=
 t_run (fun r m => (s_seq (s_sif (s_plugE (plug_xor (plug_xnot (plug_xb plug_id))) (h_def (q_cons (Pur.pv (q_var m rfl)) (q_cons (Pur.pv q_c) (q_cons (Pur.pv q_c) (q_cons (Pur.pv q_c) q_nil)))) rfl (mk := (fun x => VD.val (eB x))) (t_fareintsD vloopshere (8 : Int) (1 : Int) (40 : Int)) trivial (fun a875 => (tt_or (q_xnot (q_xb (Pur.pv q_cst))) (fun _ => (s_un (fun u876 hx877 => (t_pure (q_xb (Pur.pv (q_op (op := dEq) (Pur.pd (q_call (op := bLenA) (q_consT (pd_dec ((dec_U dec_D) _ _ hx877) (Pur.pd (q_var m rfl))) q_nil) q_lenU)) (Pur.pd q_c) (q_eq enc_I (u876.length : Int) (0 : Int) rfl)))) (s_fin rfl))))) (fun b878 => (s_ite (fun _ => (s_ret (q_tup (q_cons (Pur.pv q_c) (q_cons (Pur.pv (q_un (op := dNeg) (Pur.pd q_c) rfl)) q_nil)) rfl) (fun _ => rfl) (s_fin rfl))) (fun _ => (s_pass (s_next (s_seq (s_sif (s_plugE (plug_xor (plug_xnot (plug_xb plug_id))) (h_un (op := dIsi [] .tuple) (Pur.pd (q_var m rfl)) (mk := fun x => VD.val (eB x)) p_isiR quit_isiR (fun a879 => (tt_or (q_xnot (q_xb (Pur.pv q_cst))) (fun _ => (s_un (fun u880 hx881 => (tt_or (q_xb (Pur.pv (q_op (op := dLt) (Pur.pd (q_call (op := bLenA) (q_consT (pd_dec ((dec_U dec_D) _ _ hx881) (Pur.pd (q_var m rfl))) q_nil) q_lenU)) (Pur.pd q_c) (dLt_ii _ _)))) (fun _ => (s_un (fun u882 hx883 => (t_pure (q_xb (Pur.pv (q_op (op := dGt) (Pur.pd (q_call (op := bLenA) (q_consT (pd_dec ((dec_U dec_D) _ _ hx883) (Pur.pd (q_var m rfl))) q_nil) q_lenU)) (Pur.pd q_c) (dGt_ii _ _)))) (s_fin rfl))))) (fun b884 => (s_fin rfl)))))) (fun b885 => (s_ite (fun _ => (s_ret (q_tup (q_cons (Pur.pv q_c) (q_cons (Pur.pv (q_un (op := dNeg) (Pur.pd q_c) rfl)) q_nil)) rfl) (fun _ => rfl) (s_fin rfl))) (fun _ => (s_pass (s_next (s_seq (s_un (fun u886 hx887 => (s_for1 (h_rng (q_consT (Pur.pd (q_call (op := bLenA) (q_consT (pd_dec ((dec_U dec_D) _ _ hx887) (Pur.pd (q_var m rfl))) q_nil) q_lenU)) q_nil) rfl (fun xs888 => (s_forR (fun (s918 : Unit) => [iv (eD vloopshere), iv (eD vrowshere), .free, .free]) (fun _ => (none : Tp)) (() : Unit) rfl (fun (v951 : (PySem.Str × Int)) => VD.val ((e2 eS eI) v951)) (fun _ => (none : Tp)) (Mat.weak (.keep (.keep (.keep (.keep .nil)))) m) q_csti (e := eI) (ms := (fun x => [(2, eI x)])) (fun _ => rfl) (fun x919 s918 r920 m921 => (s_sif (s_un (fun u922 hx923 => (s_plugE (plug_xor (plug_xnot (plug_xb (plug_def (plug_c1 plug_id))))) (h_op (pd_dec ((dec_U dec_D) _ _ hx923) (Pur.pd (q_var m921 rfl))) (Pur.pd (q_var m921 rfl)) (mk := fun x => VD.val (eD x)) (p_idxU (e := eD) (xs := u922)) quit_idx (fun a924 => (s_un (fun u925 hx926 => (s_plugE (plug_xor (plug_xnot (plug_xb plug_id))) (h_def (q_cons (Pur.pv q_cst) (q_cons (Pur.pv q_c) (q_cons (Pur.pv q_c) (q_cons (Pur.pv (q_op (op := dSub) (Pur.pd (q_call (op := bLenA) (q_consT (pd_dec ((dec_U dec_D) _ _ hx926) (Pur.pd (q_var m921 rfl))) q_nil) q_lenU)) (Pur.pd q_c) rfl)) q_nil)))) rfl (mk := (fun x => VD.val (eB x))) (t_fareintsD a924 (60 : Int) (0 : Int) ((u925.length : Int) - (1 : Int))) trivial (fun a927 => (tt_or (q_xnot (q_xb (Pur.pv q_cst))) (fun _ => (s_un (fun u928 hx929 => (s_plugE (plug_xb (plug_op1 (plug_call (plug_t1 (plug_lc (plug_seqJ plug_id)))))) (h_op (pd_dec ((dec_U dec_D) _ _ hx929) (Pur.pd (q_var m921 rfl))) (Pur.pd (q_var m921 rfl)) (mk := fun x => VD.val (eD x)) (p_idxU (e := eD) (xs := u928)) quit_idx (fun a930 => (s_un (fun u931 hx932 => (s_plugE (plug_xb (plug_op1 (plug_call (plug_t1 plug_id)))) (h_lc m921 (.f rfl .nil) (q_seqJ (pd_dec ((dec_U dec_D) _ _ hx932) (Pur.pd q_cst)) rfl) (e := eD) (ms := (fun x => [(3, eD x)])) (fun _ => rfl) (e' := eI) (fun x934 r935 m933 => (s_un (fun u941 hx942 => (s_un (fun u943 hx944 => (e_plug plug_id (h_op (pd_dec ((dec_U dec_I) _ _ hx942) (Pur.pd (q_var m933 rfl))) (pd_dec (dec_I _ _ hx944) (Pur.pd (q_var m933 rfl))) (mk := fun x => VD.val (eI x)) p_idxU quit_idx (fun a945 => (e_fin (Pur.pv q_cst) rfl))))))))) (fun a946 => (t_pure (q_xb (Pur.pv (q_op (op := dNe) (Pur.pd (q_call (op := bSumA) (q_consT (Pur.pdO q_cst) q_nil) q_sumL)) (Pur.pd (q_op (op := dAddA) (Pur.pd (q_var m921 rfl)) (Pur.pd q_c) rfl)) (q_ne enc_I (a946.sum) (x919 + (1 : Int)) rfl)))) (s_fin rfl))))))))))))) (fun b947 => (s_ite (fun _ => (s_ret (q_tup (q_cons (Pur.pv q_c) (q_cons (Pur.pv (q_var m921 rfl)) q_nil)) rfl) (fun _ => rfl) (x_rtR rfl rfl))) (fun _ => (s_pass (x_nxR (Mat.weak (.keep (.keep (.fv (.keep .nil)))) m921) rfl)))))))))))))))))) (fun s948 r949 m950 => (s_next (s_ret q_c (fun _ => rfl) (s_fin rfl)))) (fun v951 => (s_fin rfl))))))))))))))))))))))))))))))))
noncomputable def ffaultDX (a0 : D) (a1 : D) : Rt (Option (PySem.Str × Int)) := match a0 with
 | .tpl ns => ffaultD_T_D ns a1
 | v => ffaultD v a1
theorem t_ffaultDX (a0 : D) (a1 : D) : Sim ET (M__law_fault [eD a0, eD a1] none) (ffaultDX a0 a1) (RV (fun x => VD.val ((eO (e2 eS eI)) x))) := by
  cases a0 with
  | tpl ns => exact t_ffaultD_T_D ns a1
  | _ => exact t_ffaultD _ a1
noncomputable def pisinteger (vthing : Int) : Rt Bool :=
 .ok (true && (!false))
theorem t_pisinteger (vthing : Int) : Sim ET (M_is_integer [eI vthing] none) (pisinteger vthing) (RV (fun x => VD.val (eB x))) :=
 t_run (fun r m => (s_ret (q_and (Pur.pv (q_un (op := (dIsi [] .int)) (Pur.pd (q_var m rfl)) rfl)) (fun _ => (q_not (Pur.pv (q_un (op := (dIsi [] .bool)) (Pur.pd (q_var m rfl)) rfl))))) (fun _ => rfl) (s_fin rfl)))
noncomputable def piswithin (vthing : Int) (vleast : Int) (vmost : Int) : Rt Bool :=
 ((pisinteger vthing).bind fun a970 =>
 .ok (a970 && ((decide (vleast ≤ vthing)) && (decide (vthing ≤ vmost)))))
theorem t_piswithin (vthing : Int) (vleast : Int) (vmost : Int) : Sim ET (M_is_within [eI vthing, eI vleast, eI vmost] none) (piswithin vthing vleast vmost) (RV (fun x => VD.val (eB x))) :=
 t_run (fun r m => (s_plugE (plug_ret (plug_and plug_id)) (h_def (q_cons (Pur.pv (q_var m rfl)) q_nil) rfl (mk := (fun x => VD.val (eB x))) (t_pisinteger vthing) trivial (fun a970 => (s_ret (q_and (Pur.pv q_cst) (fun _ => (q_chain (op := dLe) (op' := dLe) (Pur.pd (q_var m rfl)) (Pur.pd (q_var m rfl)) (Pur.pd (q_var m rfl)) (dLe_ii _ _) (dLe_ii _ _)))) (fun _ => rfl) (s_fin rfl))))))
noncomputable def parewithin_T_I_I_I (vthing : (List Int)) (vmost : Int) (vleast : Int) (vgreatest : Int) : Rt Bool :=
 (if ((!true) || (decide ((vthing.length : Int) > vmost))) = true then
 .ok false
 else ((mapR (fun x975 => ((piswithin x975 vleast vgreatest).bind fun a978 =>
 .ok a978)) vthing).bind fun a979 =>
 .ok (a979.all id)))
theorem t_parewithin_T_I_I_I (vthing : (List Int)) (vmost : Int) (vleast : Int) (vgreatest : Int) : Sim ET (M_are_within [eT vthing, eI vmost, eI vleast, eI vgreatest] none) (parewithin_T_I_I_I vthing vmost vleast vgreatest) (RV (fun x => VD.val (eB x))) :=
 t_run (fun r m => (s_seq (s_sif (t_pure (q_xor (q_xnot (q_xb (Pur.pv (q_un (op := (dIsi [] .tuple)) (Pur.pd (q_var m rfl)) rfl)))) (fun _ => (q_xb (Pur.pv (q_op (op := dGt) (Pur.pd (q_call (op := bLenA) (q_consT (Pur.pd (q_var m rfl)) q_nil) rfl)) (Pur.pd (q_var m rfl)) (dGt_ii _ _)))))) (s_ite (fun _ => (s_ret q_c (fun _ => rfl) (s_fin rfl))) (fun _ => (s_pass (s_next (s_plugE (plug_ret (plug_call (plug_t1 plug_id))) (h_lc m (.f rfl .nil) (q_seqJ (Pur.pd (q_var m rfl)) rfl) (e := eI) (ms := (fun x => [(4, eI x)])) (fun _ => rfl) (e' := eB) (fun x975 r976 m974 => (e_plug plug_id (h_def (q_cons (Pur.pv (q_var m974 rfl)) (q_cons (Pur.pv (q_var m974 rfl)) (q_cons (Pur.pv (q_var m974 rfl)) q_nil))) rfl (mk := (fun x => VD.val (eB x))) (t_piswithin x975 vleast vgreatest) trivial (fun a978 => (e_fin (Pur.pv q_cst) rfl))))) (fun a979 => (s_ret (q_call (op := bAll) (q_consT (Pur.pdO q_cst) q_nil) q_allL) (fun _ => rfl) (s_fin rfl)))))))))))))
noncomputable def pisloops_T (vthing : (List Int)) : Rt Bool :=
 ((parewithin_T_I_I_I vthing (8 : Int) (1 : Int) (40 : Int)).bind fun a981 =>
 .ok (a981 && (decide ((vthing.length : Int) > (0 : Int)))))
theorem t_pisloops_T (vthing : (List Int)) : Sim ET (M_is_loops [eT vthing] none) (pisloops_T vthing) (RV (fun x => VD.val (eB x))) :=
 t_run (fun r m => (s_plugE (plug_ret (plug_and plug_id)) (h_def (q_cons (Pur.pv (q_var m rfl)) (q_cons (Pur.pv q_c) (q_cons (Pur.pv q_c) (q_cons (Pur.pv q_c) q_nil)))) rfl (mk := (fun x => VD.val (eB x))) (t_parewithin_T_I_I_I vthing (8 : Int) (1 : Int) (40 : Int)) trivial (fun a981 => (s_ret (q_and (Pur.pv q_cst) (fun _ => (q_op (op := dGt) (Pur.pd (q_call (op := bLenA) (q_consT (Pur.pd (q_var m rfl)) q_nil) rfl)) (Pur.pd q_c) (dGt_ii _ _)))) (fun _ => rfl) (s_fin rfl))))))
noncomputable def pisintegerD (vthing : D) : Rt Bool :=
 ((isiR .int vthing).bind fun a1004 =>
 (((if a1004 = true then ((isiR .bool vthing).bind fun a1005 =>
 .ok (!a1005)) else .ok false)).bind fun a1006 =>
 .ok a1006))
theorem t_pisintegerD (vthing : D) : Sim ET (M_is_integer [eD vthing] none) (pisintegerD vthing) (RV (fun x => VD.val (eB x))) :=
 t_run (fun r m => (s_plugE (plug_ret (plug_and plug_id)) (h_un (op := dIsi [] .int) (Pur.pd (q_var m rfl)) (mk := fun x => VD.val (eB x)) p_isiR quit_isiR (fun a1004 => (s_plugE (plug_ret plug_id) (h_and (Pur.pv q_cst) (fun _ => (s_plugE (plug_not plug_id) (h_un (op := dIsi [] .bool) (Pur.pd (q_var m rfl)) (mk := fun x => VD.val (eB x)) p_isiR quit_isiR (fun a1005 => (t_pure (q_not (Pur.pv q_cst)) (s_fin rfl)))))) (fun a1006 => (s_ret q_cst (fun _ => rfl) (s_fin rfl)))))))))
noncomputable def piswithinD (vthing : D) (vleast : Int) (vmost : Int) : Rt Bool :=
 ((pisintegerD vthing).bind fun a1011 =>
 (((if a1011 = true then ((unO (decI vthing)).bind fun u1012 => .ok ((decide (vleast ≤ u1012)) && (decide (u1012 ≤ vmost)))) else .ok false)).bind fun a1014 =>
 .ok a1014))
theorem t_piswithinD (vthing : D) (vleast : Int) (vmost : Int) : Sim ET (M_is_within [eD vthing, eI vleast, eI vmost] none) (piswithinD vthing vleast vmost) (RV (fun x => VD.val (eB x))) :=
 t_run (fun r m => (s_plugE (plug_ret (plug_and plug_id)) (h_def (q_cons (Pur.pv (q_var m rfl)) q_nil) rfl (mk := (fun x => VD.val (eB x))) (t_pisintegerD vthing) trivial (fun a1011 => (s_plugE (plug_ret plug_id) (h_and (Pur.pv q_cst) (fun _ => (s_un (fun u1012 hx1013 => (t_pure (q_chain (op := dLe) (op' := dLe) (Pur.pd (q_var m rfl)) (pd_dec (dec_I _ _ hx1013) (Pur.pd (q_var m rfl))) (Pur.pd (q_var m rfl)) (dLe_ii _ _) (dLe_ii _ _)) (s_fin rfl))))) (fun a1014 => (s_ret q_cst (fun _ => rfl) (s_fin rfl)))))))))
noncomputable def parewithinD (vthing : D) (vmost : Int) (vleast : Int) (vgreatest : Int) : Rt Bool :=
 ((isiR .tuple vthing).bind fun a1018 =>
 (((if (!a1018) = true then .ok true else ((unO ((decU decD) vthing)).bind fun u1019 => .ok (decide ((u1019.length : Int) > vmost))))).bind fun b1021 =>
 (if b1021 = true then
 .ok false
 else ((unO ((decU decD) vthing)).bind fun u1022 => ((mapR (fun x1025 => ((piswithinD x1025 vleast vgreatest).bind fun a1028 =>
 .ok a1028)) u1022).bind fun a1029 =>
 .ok (a1029.all id))))))
theorem t_parewithinD (vthing : D) (vmost : Int) (vleast : Int) (vgreatest : Int) : Sim ET (M_are_within [eD vthing, eI vmost, eI vleast, eI vgreatest] none) (parewithinD vthing vmost vleast vgreatest) (RV (fun x => VD.val (eB x))) :=
 t_run (fun r m => (s_seq (s_sif (s_plugE (plug_xor (plug_xnot (plug_xb plug_id))) (h_un (op := dIsi [] .tuple) (Pur.pd (q_var m rfl)) (mk := fun x => VD.val (eB x)) p_isiR quit_isiR (fun a1018 => (tt_or (q_xnot (q_xb (Pur.pv q_cst))) (fun _ => (s_un (fun u1019 hx1020 => (t_pure (q_xb (Pur.pv (q_op (op := dGt) (Pur.pd (q_call (op := bLenA) (q_consT (pd_dec ((dec_U dec_D) _ _ hx1020) (Pur.pd (q_var m rfl))) q_nil) q_lenU)) (Pur.pd (q_var m rfl)) (dGt_ii _ _)))) (s_fin rfl))))) (fun b1021 => (s_ite (fun _ => (s_ret q_c (fun _ => rfl) (s_fin rfl))) (fun _ => (s_pass (s_next (s_un (fun u1022 hx1023 => (s_plugE (plug_ret (plug_call (plug_t1 plug_id))) (h_lc m (.f rfl .nil) (q_seqJ (pd_dec ((dec_U dec_D) _ _ hx1023) (Pur.pd (q_var m rfl))) rfl) (e := eD) (ms := (fun x => [(4, eD x)])) (fun _ => rfl) (e' := eB) (fun x1025 r1026 m1024 => (e_plug plug_id (h_def (q_cons (Pur.pv (q_var m1024 rfl)) (q_cons (Pur.pv (q_var m1024 rfl)) (q_cons (Pur.pv (q_var m1024 rfl)) q_nil))) rfl (mk := (fun x => VD.val (eB x))) (t_piswithinD x1025 vleast vgreatest) trivial (fun a1028 => (e_fin (Pur.pv q_cst) rfl))))) (fun a1029 => (s_ret (q_call (op := bAll) (q_consT (Pur.pdO q_cst) q_nil) q_allL) (fun _ => rfl) (s_fin rfl)))))))))))))))))))
noncomputable def pisrowD_T_D (vloops : (List Int)) (vthing : D) : Rt Bool :=
 ((parewithinD vthing (60 : Int) (0 : Int) ((vloops.length : Int) - (1 : Int))).bind fun a1031 =>
 .ok a1031)
theorem t_pisrowD_T_D (vloops : (List Int)) (vthing : D) : Sim ET (M_is_row [eT vloops, eD vthing] none) (pisrowD_T_D vloops vthing) (RV (fun x => VD.val (eB x))) :=
 t_run (fun r m => (s_plugE (plug_ret plug_id) (h_def (q_cons (Pur.pv (q_var m rfl)) (q_cons (Pur.pv q_c) (q_cons (Pur.pv q_c) (q_cons (Pur.pv (q_op (op := dSub) (Pur.pd (q_call (op := bLenA) (q_consT (Pur.pd (q_var m rfl)) q_nil) rfl)) (Pur.pd q_c) rfl)) q_nil)))) rfl (mk := (fun x => VD.val (eB x))) (t_parewithinD vthing (60 : Int) (0 : Int) ((vloops.length : Int) - (1 : Int))) trivial (fun a1031 => (s_ret q_cst (fun _ => rfl) (s_fin rfl))))))
noncomputable def psumof_T_UI (vloops : (List Int)) (vrow : (List Int)) : Rt Int :=
 ((mapR (fun x1042 => ((idx vloops x1042).bind fun a1045 =>
 .ok a1045)) vrow).bind fun a1046 =>
 .ok (a1046.sum))
theorem t_psumof_T_UI (vloops : (List Int)) (vrow : (List Int)) : Sim ET (M_sum_of [eT vloops, (eU eI) vrow] none) (psumof_T_UI vloops vrow) (RV (fun x => VD.val (eI x))) :=
 t_run (fun r m => (s_plugE (plug_ret (plug_call (plug_t1 plug_id))) (h_lc m (.f rfl .nil) (q_seqJ (Pur.pd (q_var m rfl)) rfl) (e := eI) (ms := (fun x => [(2, eI x)])) (fun _ => rfl) (e' := eI) (fun x1042 r1043 m1041 => (e_plug plug_id (h_op (Pur.pd (q_var m1041 rfl)) (Pur.pd (q_var m1041 rfl)) (mk := fun x => VD.val (eI x)) p_idxT quit_idx (fun a1045 => (e_fin (Pur.pv q_cst) rfl))))) (fun a1046 => (s_ret (q_call (op := bSumA) (q_consT (Pur.pdO q_cst) q_nil) q_sumL) (fun _ => rfl) (s_fin rfl))))))
noncomputable def pentriesof_T_UI (vloops : (List Int)) (vrow : (List Int)) : Rt (List (Int × Int × Int)) :=
 ((psumof_T_UI vloops vrow).bind fun a1123 =>
 ((forS vrow ((a1123, (0 : Int), []) : (Int × Int × (List (Int × Int × Int)))) fun x1159 s1158 =>
 ((push (s1158.2.2 : (List (Int × Int × Int))) (x1159, s1158.2.1, s1158.1)).bind fun vfound1162 =>
 ((idx vloops x1159).bind fun a1165 =>
 (lete ((s1158.2.1 + a1165) : Int) fun vgone1166 =>
 ((idx vloops x1159).bind fun a1169 =>
 (lete ((s1158.1 - a1169) : Int) fun vleft1170 =>
 .ok (vleft1170, vgone1166, vfound1162))))))).bind fun (s1173 : (Int × Int × (List (Int × Int × Int)))) =>
 .ok s1173.2.2))
theorem t_pentriesof_T_UI (vloops : (List Int)) (vrow : (List Int)) : Sim ET (M_entries_of [eT vloops, (eU eI) vrow] none) (pentriesof_T_UI vloops vrow) (RV (fun x => VD.own ((eL (e3 eI eI eI)) x))) :=
 t_run (fun r m => (s_seq (s_plugE (plug_asg plug_id) (h_def (q_cons (Pur.pv (q_var m rfl)) (q_cons (Pur.pv (q_var m rfl)) q_nil)) rfl (mk := (fun x => VD.val (eI x))) (t_psumof_T_UI vloops vrow) trivial (fun a1123 => (s_asg (i := 2) m q_cst (fun _ => rfl) (fun r1124 m1125 => (s_next (s_seq (s_asg (i := 3) m1125 q_c (fun _ => rfl) (fun r1126 m1127 => (s_next (s_seq (s_asg (i := 4) m1127 (q_lst q_nil rfl) (fun _ => rfl) (fun r1128 m1129 => (s_next (s_seq (s_forS (fun (s1158 : (Int × Int × (List (Int × Int × Int)))) => [iv (eT vloops), iv ((eU eI) vrow), iv (eI s1158.1), iv (eI s1158.2.1), io ((eL (e3 eI eI eI)) s1158.2.2), .free]) (fun _ => (none : Tp)) ((a1123, (0 : Int), []) : (Int × Int × (List (Int × Int × Int)))) rfl (Mat.weak (.keep (.keep (.keep (.keep (.keep (.keep .nil)))))) m1129) (q_seqI (Pur.pv (q_var m1129 rfl)) rfl) (e := eI) (ms := (fun x => [(5, eI x)])) (fun _ => rfl) (fun x1159 s1158 r1160 m1161 => (s_seq (s_dropM (m_mut (i := 4) m1161 rfl rfl (q_cons (Pur.pv (q_tup (q_cons (Pur.pv (q_var m1161 rfl)) (q_cons (Pur.pv (q_var m1161 rfl)) (q_cons (Pur.pv (q_var m1161 rfl)) q_nil))) rfl)) q_nil) (dn := (eL (e3 eI eI eI))) (xv := fun _ => D.non) (p_push (e := (e3 eI eI eI))) quit_push (fun vfound1162 r1163 m1164 => (s_next (s_seq (s_plugE (plug_aug m1164 rfl plug_id) (h_op (Pur.pd (q_var m1164 rfl)) (Pur.pd (q_var m1164 rfl)) (mk := fun x => VD.val (eI x)) p_idxT quit_idx (fun a1165 => (s_augL (i := 3) (op := dAddZ) m1164 (fun vgone1166 => VD.val (eI vgone1166)) rfl (Pur.pd q_cst) rfl (fun _ _ => rfl) (fun vgone1166 r1167 m1168 => (s_next (s_plugE (plug_aug m1168 rfl plug_id) (h_op (Pur.pd (q_var m1168 rfl)) (Pur.pd (q_var m1168 rfl)) (mk := fun x => VD.val (eI x)) p_idxT quit_idx (fun a1169 => (s_augL (i := 2) (op := dSub) m1168 (fun vleft1170 => VD.val (eI vleft1170)) rfl (Pur.pd q_cst) rfl (fun _ _ => rfl) (fun vleft1170 r1171 m1172 => (x_nx (Mat.weak (.keep (.keep (.keep (.keep (.keep (.fv .nil)))))) m1172) rfl))))))))))))))))))) (fun s1173 r1174 m1175 => (s_next (s_retV m1175 rfl (fun _ => rfl) (s_fin rfl))))))))))))))))))))))
structure Table where
  vloops : (List Int)
  vrows : D
  vbound : Int
  vkeptentries : (List (List (Int × Int × Int)))
def fsTable (x : Table) : List (PySem.Str × D) := [("loops", eT x.vloops), ("rows", eD x.vrows), ("bound", eI x.vbound), ("kept_entries", (eL (eL (e3 eI eI eI))) x.vkeptentries)]
abbrev eTable (x : Table) : D := .ins "Table" (fsTable x)
theorem at_Table_vloops (x : Table) : dAt ["Table"] "loops" (eTable x) = .ok (.val (eT x.vloops)) := by rfl
theorem at_Table_vrows (x : Table) : dAt ["Table"] "rows" (eTable x) = .ok (.val (eD x.vrows)) := by rfl
theorem at_Table_vbound (x : Table) : dAt ["Table"] "bound" (eTable x) = .ok (.val (eI x.vbound)) := by rfl
noncomputable def pTableinitD_T_D (vloops : (List Int)) (vrows : D) : Rt Table :=
 ((pisloops_T vloops).bind fun a1182 =>
 (if (!a1182) = true then
 .exc "BadTable" [("at", eI (-(1 : Int))), ("part", eS ("loops" : PySem.Str))]
 else ((isiR .tuple vrows).bind fun a1183 =>
 (((if (!a1183) = true then .ok true else ((unO ((decU decD) vrows)).bind fun u1184 => .ok (!((decide ((1 : Int) ≤ (u1184.length : Int))) && (decide ((u1184.length : Int) ≤ (60 : Int)))))))).bind fun b1186 =>
 (if b1186 = true then
 .exc "BadTable" [("at", eI (-(1 : Int))), ("part", eS ("rows" : PySem.Str))]
 else ((unO ((decU decD) vrows)).bind fun u1187 => ((forS (enuL 0 u1187) (() : Unit) fun x1198 s1197 =>
 ((pisrowD_T_D vloops x1198.2).bind fun a1201 =>
 (((if (!a1201) = true then .ok true else ((unO ((decU decI) x1198.2)).bind fun u1202 => ((psumof_T_UI vloops u1202).bind fun a1204 =>
 .ok (!decide (a1204 = (x1198.1 + (1 : Int)))))))).bind fun b1205 =>
 (if b1205 = true then
 .exc "BadTable" [("at", eI x1198.1), ("part", eS ("rows" : PySem.Str))]
 else .ok ())))).bind fun (s1206 : Unit) =>
 ((unO ((decU decD) vrows)).bind fun u1209 => ((unO ((decU decD) vrows)).bind fun u1211 => ((mapR (fun x1214 => ((unO ((decU decI) x1214)).bind fun u1219 => ((pentriesof_T_UI vloops u1219).bind fun a1221 =>
 .ok a1221))) u1211).bind fun a1222 =>
 ((cat [[]] a1222).bind fun a1223 =>
 .ok (⟨vloops, vrows, (u1209.length : Int), a1223⟩ : Table))))))))))))
theorem t_pTableinitD_T_D (vloops : (List Int)) (vrows : D) : Sim ET (M_Table___init__ [eT vloops, eD vrows] (some (D.ins "Table" []))) (pTableinitD_T_D vloops vrows) (RI "Table" fsTable) :=
 t_run (fun r m => (s_seq (s_sif (s_plugE (plug_xnot (plug_xb plug_id)) (h_def (q_cons (Pur.pv (q_var m rfl)) q_nil) rfl (mk := (fun x => VD.val (eB x))) (t_pisloops_T vloops) trivial (fun a1182 => (t_pure (q_xnot (q_xb (Pur.pv q_cst))) (s_ite (fun _ => (s_raise2 (q_cons (Pur.pv q_c) (q_cons (Pur.pv (q_un (op := dNeg) (Pur.pd q_c) rfl)) q_nil)) trivial)) (fun _ => (s_pass (s_next (s_seq (s_sif (s_plugE (plug_xor (plug_xnot (plug_xb plug_id))) (h_un (op := dIsi [] .tuple) (Pur.pd (q_var m rfl)) (mk := fun x => VD.val (eB x)) p_isiR quit_isiR (fun a1183 => (tt_or (q_xnot (q_xb (Pur.pv q_cst))) (fun _ => (s_un (fun u1184 hx1185 => (t_pure (q_xnot (q_xb (Pur.pv (q_chain (op := dLe) (op' := dLe) (Pur.pd q_c) (Pur.pd (q_call (op := bLenA) (q_consT (pd_dec ((dec_U dec_D) _ _ hx1185) (Pur.pd (q_var m rfl))) q_nil) q_lenU)) (Pur.pd q_c) (dLe_ii _ _) (dLe_ii _ _))))) (s_fin rfl))))) (fun b1186 => (s_ite (fun _ => (s_raise2 (q_cons (Pur.pv q_c) (q_cons (Pur.pv (q_un (op := dNeg) (Pur.pd q_c) rfl)) q_nil)) trivial)) (fun _ => (s_pass (s_next (s_seq (s_un (fun u1187 hx1188 => (s_forS (fun (s1197 : Unit) => [.is .tape, iv (eT vloops), iv (eD vrows), .free, .free]) (fun _ => (some (D.ins "Table" []))) (() : Unit) rfl (Mat.weak (.keep (.keep (.keep (.keep (.keep .nil))))) m) (q_enI (e := eD) (pv_dec ((dec_U dec_D) _ _ hx1188) (Pur.pv (q_var m rfl))) rfl) (e := (e2 eI eD)) (ms := (fun x => [(3, eI x.1), (4, eD x.2)])) (fun _ => rfl) (fun x1198 s1197 r1199 m1200 => (s_sif (s_plugE (plug_xor (plug_xnot (plug_xb plug_id))) (h_def (q_cons (Pur.pv (q_var m1200 rfl)) (q_cons (Pur.pv (q_var m1200 rfl)) q_nil)) rfl (mk := (fun x => VD.val (eB x))) (t_pisrowD_T_D vloops x1198.2) trivial (fun a1201 => (tt_or (q_xnot (q_xb (Pur.pv q_cst))) (fun _ => (s_un (fun u1202 hx1203 => (s_plugE (plug_xb (plug_op1 plug_id)) (h_def (q_cons (Pur.pv (q_var m1200 rfl)) (q_cons (pv_dec ((dec_U dec_I) _ _ hx1203) (Pur.pv (q_var m1200 rfl))) q_nil)) rfl (mk := (fun x => VD.val (eI x))) (t_psumof_T_UI vloops u1202) trivial (fun a1204 => (t_pure (q_xb (Pur.pv (q_op (op := dNe) (Pur.pd q_cst) (Pur.pd (q_op (op := dAddA) (Pur.pd (q_var m1200 rfl)) (Pur.pd q_c) rfl)) (q_ne enc_I a1204 (x1198.1 + (1 : Int)) rfl)))) (s_fin rfl)))))))) (fun b1205 => (s_ite (fun _ => (s_raise2 (q_cons (Pur.pv q_c) (q_cons (Pur.pv (q_var m1200 rfl)) q_nil)) trivial)) (fun _ => (s_pass (x_nx (Mat.weak (.keep (.keep (.keep (.fv (.fv .nil))))) m1200) rfl))))))))))) (fun s1206 r1207 m1208 => (s_next (s_seq (s_tfld (c := "Table") (fs := []) (Mat.get m1208 rfl) (Pur.pv (q_var m1208 rfl)) (by decide) rfl (by rfl) (s_next (s_seq (s_tfld (c := "Table") (fs := [("loops", eT vloops)]) (Mat.get m1208 rfl) (Pur.pv (q_var m1208 rfl)) (by decide) rfl (by rfl) (s_next (s_seq (s_un (fun u1209 hx1210 => (s_tfld (c := "Table") (fs := [("loops", eT vloops), ("rows", eD vrows)]) (Mat.get m1208 rfl) (Pur.pv (q_call (op := bLenA) (q_consT (pd_dec ((dec_U dec_D) _ _ hx1210) (Pur.pd (q_var m1208 rfl))) q_nil) q_lenU)) (by decide) rfl (by rfl) (s_next (s_un (fun u1211 hx1212 => (s_plugE (plug_tfld (plug_op2 (Pur.pdO (q_lst (q_cons (Pur.pvO (q_lst q_nil rfl)) q_nil) rfl)) plug_id)) (h_lc m1208 (.f rfl .nil) (q_seqJ (pd_dec ((dec_U dec_D) _ _ hx1212) (Pur.pd (q_var m1208 rfl))) rfl) (e := eD) (ms := (fun x => [(4, eD x)])) (fun _ => rfl) (e' := (eL (e3 eI eI eI))) (fun x1214 r1215 m1213 => (s_un (fun u1219 hx1220 => (e_plug plug_id (h_def (q_cons (Pur.pv (q_var m1213 rfl)) (q_cons (pv_dec ((dec_U dec_I) _ _ hx1220) (Pur.pv (q_var m1213 rfl))) q_nil)) rfl (mk := (fun x => VD.own ((eL (e3 eI eI eI)) x))) (t_pentriesof_T_UI vloops u1219) trivial (fun a1221 => (e_fin (Pur.pvO q_cst) rfl))))))) (fun a1222 => (s_plugE (plug_tfld plug_id) (h_op (Pur.pdO (q_lst (q_cons (Pur.pvO (q_lst q_nil rfl)) q_nil) rfl)) (Pur.pdO q_cst) (mk := (fun x => VD.own ((eL (eL (e3 eI eI eI))) x))) p_catL quit_cat (fun a1223 => (s_tfld (c := "Table") (fs := [("loops", eT vloops), ("rows", eD vrows), ("bound", eI (u1209.length : Int))]) (Mat.get m1208 rfl) (Pur.pvO q_cst) (by decide) rfl (by rfl) (s_fin rfl)))))))))))))))))))))))))))))))))))))))))))))))))
noncomputable def ftriedD_T_D (vloopshere : (List Int)) (vrowshere : D) : Rt (List D) :=
 (lete ((("none" : PySem.Str), ()) : (PySem.Str × Unit)) fun vfound1253 =>
 ((tryE [("BadTable", true)] (((pTableinitD_T_D vloopshere vrowshere).bind fun a1272 =>
 (lete ((("told" : PySem.Str), a1272.vloops, a1272.vrows, a1272.vbound) : (PySem.Str × (List Int) × D × Int)) fun vfound1275 =>
 .ok [(eS vfound1275.1), (eT vfound1275.2.1), vfound1275.2.2.1, (eI vfound1275.2.2.2)]))) (fun cx1256 fx1257 => (if ((isx [("BadTable", true)] cx1256) && (!(isx [("BadTable", false)] cx1256))) = true then
 ((xfR fx1257 "part").bind fun a1280 =>
 ((xfR fx1257 "at").bind fun a1281 =>
 (lete ((("bad" : PySem.Str), a1280, a1281) : (PySem.Str × D × D)) fun vfound1282 =>
 .ok [(eS vfound1282.1), vfound1282.2.1, vfound1282.2.2])))
 else .ok [(eS vfound1253.1), (eN vfound1253.2)]))).bind fun (s1271 : ((List D))) =>
 .ok s1271))
theorem t_ftriedD_T_D (vloopshere : (List Int)) (vrowshere : D) : Sim ET (M__law_tried [eT vloopshere, eD vrowshere] none) (ftriedD_T_D vloopshere vrowshere) (RV (fun x => VD.val ((eU eD) x))) :=
 t_run (fun r m => (s_seq (s_asgL (i := 2) m (fun vfound1253 => VD.val ((e2 eS eN) vfound1253)) (q_tup (q_cons (Pur.pv q_c) (q_cons (Pur.pv q_c) q_nil)) rfl) (fun _ _ => rfl) (fun vfound1253 r1254 m1255 => (s_next (s_seq (s_tryE (i := 4) (fun (s1271 : ((List D))) => [iv (eT vloopshere), iv (eD vrowshere), iv ((eU eD) s1271), .any, .any]) (fun _ => (none : Tp)) m1255 rfl (fun _ => rfl) (s_seq (s_plugE (plug_asg plug_id) (h_make (q_cons (Pur.pv (q_var m1255 rfl)) (q_cons (Pur.pv (q_var m1255 rfl)) q_nil)) rfl (fs := fsTable) (t_pTableinitD_T_D vloopshere vrowshere) ⟨rfl, m1255⟩ (fun a1272 => (s_asg (i := 3) m1255 q_cst (fun _ => rfl) (fun r1273 m1274 => (s_next (s_asgL (i := 2) m1274 (fun vfound1275 => VD.val ((e4 eS eT eD eI) vfound1275)) (q_tup (q_cons (Pur.pv q_c) (q_cons (Pur.pv (q_un (op := dAt ["Table"] "loops") (Pur.pdP (q_varO m1274 rfl)) (at_Table_vloops _))) (q_cons (Pur.pv (q_un (op := dAt ["Table"] "rows") (Pur.pdP (q_varO m1274 rfl)) (at_Table_vrows _))) (q_cons (Pur.pv (q_un (op := dAt ["Table"] "bound") (Pur.pdP (q_varO m1274 rfl)) (at_Table_vbound _))) q_nil)))) rfl) (fun _ _ => rfl) (fun vfound1275 r1276 m1277 => (x_nxL (Mat.weak (.keep (.keep (.eq rfl (.any (.any .nil))))) m1277) rfl)))))))))) (fun cx1256 fx1257 r1278 m1279 => (s_sif (t_pure (q_xand (q_xb (Pur.pv (q_isE (i := 4) m1279 rfl))) (fun _ => (q_xnot (q_xb (Pur.pv (q_isE (i := 4) m1279 rfl)))))) (s_ite (fun _ => (s_plugE (plug_asg (plug_tup (plug_c2 (Pur.pv q_c) (plug_c1 plug_id)))) (h_xf (i := 4) m1279 rfl (fun a1280 => (s_plugE (plug_asg (plug_tup (plug_c2 (Pur.pv q_c) (plug_c2 (Pur.pv q_cst) (plug_c1 plug_id))))) (h_xf (i := 4) m1279 rfl (fun a1281 => (s_asgL (i := 2) m1279 (fun vfound1282 => VD.val ((e3 eS eD eD) vfound1282)) (q_tup (q_cons (Pur.pv q_c) (q_cons (Pur.pv q_cst) (q_cons (Pur.pv q_cst) q_nil))) rfl) (fun _ _ => rfl) (fun vfound1282 r1283 m1284 => (x_nxL (Mat.weak (.keep (.keep (.eq rfl (.any (.any .nil))))) m1284) rfl)))))))))) (fun _ => (s_pass (x_nxL (Mat.weak (.keep (.keep (.eq rfl (.any (.any .nil))))) m1279) rfl))))))) (fun _ _ => trivial) (fun s1271 r1285 m1286 => (s_next (s_retV m1286 rfl (fun _ => rfl) (s_fin rfl)))))))))))
noncomputable def pisloopsD (vthing : D) : Rt Bool :=
 ((parewithinD vthing (8 : Int) (1 : Int) (40 : Int)).bind fun a1296 =>
 (((if a1296 = true then ((unO ((decU decD) vthing)).bind fun u1297 => .ok (decide ((u1297.length : Int) > (0 : Int)))) else .ok false)).bind fun a1299 =>
 .ok a1299))
theorem t_pisloopsD (vthing : D) : Sim ET (M_is_loops [eD vthing] none) (pisloopsD vthing) (RV (fun x => VD.val (eB x))) :=
 t_run (fun r m => (s_plugE (plug_ret (plug_and plug_id)) (h_def (q_cons (Pur.pv (q_var m rfl)) (q_cons (Pur.pv q_c) (q_cons (Pur.pv q_c) (q_cons (Pur.pv q_c) q_nil)))) rfl (mk := (fun x => VD.val (eB x))) (t_parewithinD vthing (8 : Int) (1 : Int) (40 : Int)) trivial (fun a1296 => (s_plugE (plug_ret plug_id) (h_and (Pur.pv q_cst) (fun _ => (s_un (fun u1297 hx1298 => (t_pure (q_op (op := dGt) (Pur.pd (q_call (op := bLenA) (q_consT (pd_dec ((dec_U dec_D) _ _ hx1298) (Pur.pd (q_var m rfl))) q_nil) q_lenU)) (Pur.pd q_c) (dGt_ii _ _)) (s_fin rfl))))) (fun a1299 => (s_ret q_cst (fun _ => rfl) (s_fin rfl)))))))))
noncomputable def pisrowD_UI_D (vloops : (List Int)) (vthing : D) : Rt Bool :=
 ((parewithinD vthing (60 : Int) (0 : Int) ((vloops.length : Int) - (1 : Int))).bind fun a1313 =>
 .ok a1313)
theorem t_pisrowD_UI_D (vloops : (List Int)) (vthing : D) : Sim ET (M_is_row [(eU eI) vloops, eD vthing] none) (pisrowD_UI_D vloops vthing) (RV (fun x => VD.val (eB x))) :=
 t_run (fun r m => (s_plugE (plug_ret plug_id) (h_def (q_cons (Pur.pv (q_var m rfl)) (q_cons (Pur.pv q_c) (q_cons (Pur.pv q_c) (q_cons (Pur.pv (q_op (op := dSub) (Pur.pd (q_call (op := bLenA) (q_consT (Pur.pd (q_var m rfl)) q_nil) q_lenU)) (Pur.pd q_c) rfl)) q_nil)))) rfl (mk := (fun x => VD.val (eB x))) (t_parewithinD vthing (60 : Int) (0 : Int) ((vloops.length : Int) - (1 : Int))) trivial (fun a1313 => (s_ret q_cst (fun _ => rfl) (s_fin rfl))))))
noncomputable def psumof_UI_UI (vloops : (List Int)) (vrow : (List Int)) : Rt Int :=
 ((mapR (fun x1326 => ((idx vloops x1326).bind fun a1329 =>
 .ok a1329)) vrow).bind fun a1330 =>
 .ok (a1330.sum))
theorem t_psumof_UI_UI (vloops : (List Int)) (vrow : (List Int)) : Sim ET (M_sum_of [(eU eI) vloops, (eU eI) vrow] none) (psumof_UI_UI vloops vrow) (RV (fun x => VD.val (eI x))) :=
 t_run (fun r m => (s_plugE (plug_ret (plug_call (plug_t1 plug_id))) (h_lc m (.f rfl .nil) (q_seqJ (Pur.pd (q_var m rfl)) rfl) (e := eI) (ms := (fun x => [(2, eI x)])) (fun _ => rfl) (e' := eI) (fun x1326 r1327 m1325 => (e_plug plug_id (h_op (Pur.pd (q_var m1325 rfl)) (Pur.pd (q_var m1325 rfl)) (mk := fun x => VD.val (eI x)) p_idxU quit_idx (fun a1329 => (e_fin (Pur.pv q_cst) rfl))))) (fun a1330 => (s_ret (q_call (op := bSumA) (q_consT (Pur.pdO q_cst) q_nil) q_sumL) (fun _ => rfl) (s_fin rfl))))))
noncomputable def pentriesof_UI_UI (vloops : (List Int)) (vrow : (List Int)) : Rt (List (Int × Int × Int)) :=
 ((psumof_UI_UI vloops vrow).bind fun a1413 =>
 ((forS vrow ((a1413, (0 : Int), []) : (Int × Int × (List (Int × Int × Int)))) fun x1449 s1448 =>
 ((push (s1448.2.2 : (List (Int × Int × Int))) (x1449, s1448.2.1, s1448.1)).bind fun vfound1452 =>
 ((idx vloops x1449).bind fun a1455 =>
 (lete ((s1448.2.1 + a1455) : Int) fun vgone1456 =>
 ((idx vloops x1449).bind fun a1459 =>
 (lete ((s1448.1 - a1459) : Int) fun vleft1460 =>
 .ok (vleft1460, vgone1456, vfound1452))))))).bind fun (s1463 : (Int × Int × (List (Int × Int × Int)))) =>
 .ok s1463.2.2))
theorem t_pentriesof_UI_UI (vloops : (List Int)) (vrow : (List Int)) : Sim ET (M_entries_of [(eU eI) vloops, (eU eI) vrow] none) (pentriesof_UI_UI vloops vrow) (RV (fun x => VD.own ((eL (e3 eI eI eI)) x))) :=
 t_run (fun r m => (s_seq (s_plugE (plug_asg plug_id) (h_def (q_cons (Pur.pv (q_var m rfl)) (q_cons (Pur.pv (q_var m rfl)) q_nil)) rfl (mk := (fun x => VD.val (eI x))) (t_psumof_UI_UI vloops vrow) trivial (fun a1413 => (s_asg (i := 2) m q_cst (fun _ => rfl) (fun r1414 m1415 => (s_next (s_seq (s_asg (i := 3) m1415 q_c (fun _ => rfl) (fun r1416 m1417 => (s_next (s_seq (s_asg (i := 4) m1417 (q_lst q_nil rfl) (fun _ => rfl) (fun r1418 m1419 => (s_next (s_seq (s_forS (fun (s1448 : (Int × Int × (List (Int × Int × Int)))) => [iv ((eU eI) vloops), iv ((eU eI) vrow), iv (eI s1448.1), iv (eI s1448.2.1), io ((eL (e3 eI eI eI)) s1448.2.2), .free]) (fun _ => (none : Tp)) ((a1413, (0 : Int), []) : (Int × Int × (List (Int × Int × Int)))) rfl (Mat.weak (.keep (.keep (.keep (.keep (.keep (.keep .nil)))))) m1419) (q_seqI (Pur.pv (q_var m1419 rfl)) rfl) (e := eI) (ms := (fun x => [(5, eI x)])) (fun _ => rfl) (fun x1449 s1448 r1450 m1451 => (s_seq (s_dropM (m_mut (i := 4) m1451 rfl rfl (q_cons (Pur.pv (q_tup (q_cons (Pur.pv (q_var m1451 rfl)) (q_cons (Pur.pv (q_var m1451 rfl)) (q_cons (Pur.pv (q_var m1451 rfl)) q_nil))) rfl)) q_nil) (dn := (eL (e3 eI eI eI))) (xv := fun _ => D.non) (p_push (e := (e3 eI eI eI))) quit_push (fun vfound1452 r1453 m1454 => (s_next (s_seq (s_plugE (plug_aug m1454 rfl plug_id) (h_op (Pur.pd (q_var m1454 rfl)) (Pur.pd (q_var m1454 rfl)) (mk := fun x => VD.val (eI x)) p_idxU quit_idx (fun a1455 => (s_augL (i := 3) (op := dAddZ) m1454 (fun vgone1456 => VD.val (eI vgone1456)) rfl (Pur.pd q_cst) rfl (fun _ _ => rfl) (fun vgone1456 r1457 m1458 => (s_next (s_plugE (plug_aug m1458 rfl plug_id) (h_op (Pur.pd (q_var m1458 rfl)) (Pur.pd (q_var m1458 rfl)) (mk := fun x => VD.val (eI x)) p_idxU quit_idx (fun a1459 => (s_augL (i := 2) (op := dSub) m1458 (fun vleft1460 => VD.val (eI vleft1460)) rfl (Pur.pd q_cst) rfl (fun _ _ => rfl) (fun vleft1460 r1461 m1462 => (x_nx (Mat.weak (.keep (.keep (.keep (.keep (.keep (.fv .nil)))))) m1462) rfl))))))))))))))))))) (fun s1463 r1464 m1465 => (s_next (s_retV m1465 rfl (fun _ => rfl) (s_fin rfl))))))))))))))))))))))
structure Table2 where
  vloops : D
  vrows : D
  vbound : Int
  vkeptentries : (List (List (Int × Int × Int)))
def fsTable2 (x : Table2) : List (PySem.Str × D) := [("loops", eD x.vloops), ("rows", eD x.vrows), ("bound", eI x.vbound), ("kept_entries", (eL (eL (e3 eI eI eI))) x.vkeptentries)]
abbrev eTable2 (x : Table2) : D := .ins "Table" (fsTable2 x)
theorem at_Table2_vloops (x : Table2) : dAt ["Table"] "loops" (eTable2 x) = .ok (.val (eD x.vloops)) := by rfl
theorem at_Table2_vrows (x : Table2) : dAt ["Table"] "rows" (eTable2 x) = .ok (.val (eD x.vrows)) := by rfl
theorem at_Table2_vbound (x : Table2) : dAt ["Table"] "bound" (eTable2 x) = .ok (.val (eI x.vbound)) := by rfl
noncomputable def pTableinitD (vloops : D) (vrows : D) : Rt Table2 :=
 ((pisloopsD vloops).bind fun a1474 =>
 (if (!a1474) = true then
 .exc "BadTable" [("at", eI (-(1 : Int))), ("part", eS ("loops" : PySem.Str))]
 else ((isiR .tuple vrows).bind fun a1475 =>
 (((if (!a1475) = true then .ok true else ((unO ((decU decD) vrows)).bind fun u1476 => .ok (!((decide ((1 : Int) ≤ (u1476.length : Int))) && (decide ((u1476.length : Int) ≤ (60 : Int)))))))).bind fun b1478 =>
 (if b1478 = true then
 .exc "BadTable" [("at", eI (-(1 : Int))), ("part", eS ("rows" : PySem.Str))]
 else ((unO ((decU decD) vrows)).bind fun u1479 => ((forS (enuL 0 u1479) (() : Unit) fun x1494 s1493 =>
 ((unO ((decU decI) vloops)).bind fun u1497 => ((pisrowD_UI_D u1497 x1494.2).bind fun a1499 =>
 (((if (!a1499) = true then .ok true else ((unO ((decU decI) vloops)).bind fun u1500 => ((unO ((decU decI) x1494.2)).bind fun u1502 => ((psumof_UI_UI u1500 u1502).bind fun a1504 =>
 .ok (!decide (a1504 = (x1494.1 + (1 : Int))))))))).bind fun b1505 =>
 (if b1505 = true then
 .exc "BadTable" [("at", eI x1494.1), ("part", eS ("rows" : PySem.Str))]
 else .ok ()))))).bind fun (s1506 : Unit) =>
 ((unO ((decU decD) vrows)).bind fun u1509 => ((unO ((decU decD) vrows)).bind fun u1511 => ((mapR (fun x1514 => ((unO ((decU decI) vloops)).bind fun u1521 => ((unO ((decU decI) x1514)).bind fun u1523 => ((pentriesof_UI_UI u1521 u1523).bind fun a1525 =>
 .ok a1525)))) u1511).bind fun a1526 =>
 ((cat [[]] a1526).bind fun a1527 =>
 .ok (⟨vloops, vrows, (u1509.length : Int), a1527⟩ : Table2))))))))))))
theorem t_pTableinitD (vloops : D) (vrows : D) : Sim ET (M_Table___init__ [eD vloops, eD vrows] (some (D.ins "Table" []))) (pTableinitD vloops vrows) (RI "Table" fsTable2) :=
 t_run (fun r m => (s_seq (s_sif (s_plugE (plug_xnot (plug_xb plug_id)) (h_def (q_cons (Pur.pv (q_var m rfl)) q_nil) rfl (mk := (fun x => VD.val (eB x))) (t_pisloopsD vloops) trivial (fun a1474 => (t_pure (q_xnot (q_xb (Pur.pv q_cst))) (s_ite (fun _ => (s_raise2 (q_cons (Pur.pv q_c) (q_cons (Pur.pv (q_un (op := dNeg) (Pur.pd q_c) rfl)) q_nil)) trivial)) (fun _ => (s_pass (s_next (s_seq (s_sif (s_plugE (plug_xor (plug_xnot (plug_xb plug_id))) (h_un (op := dIsi [] .tuple) (Pur.pd (q_var m rfl)) (mk := fun x => VD.val (eB x)) p_isiR quit_isiR (fun a1475 => (tt_or (q_xnot (q_xb (Pur.pv q_cst))) (fun _ => (s_un (fun u1476 hx1477 => (t_pure (q_xnot (q_xb (Pur.pv (q_chain (op := dLe) (op' := dLe) (Pur.pd q_c) (Pur.pd (q_call (op := bLenA) (q_consT (pd_dec ((dec_U dec_D) _ _ hx1477) (Pur.pd (q_var m rfl))) q_nil) q_lenU)) (Pur.pd q_c) (dLe_ii _ _) (dLe_ii _ _))))) (s_fin rfl))))) (fun b1478 => (s_ite (fun _ => (s_raise2 (q_cons (Pur.pv q_c) (q_cons (Pur.pv (q_un (op := dNeg) (Pur.pd q_c) rfl)) q_nil)) trivial)) (fun _ => (s_pass (s_next (s_seq (s_un (fun u1479 hx1480 => (s_forS (fun (s1493 : Unit) => [.is .tape, iv (eD vloops), iv (eD vrows), .free, .free]) (fun _ => (some (D.ins "Table" []))) (() : Unit) rfl (Mat.weak (.keep (.keep (.keep (.keep (.keep .nil))))) m) (q_enI (e := eD) (pv_dec ((dec_U dec_D) _ _ hx1480) (Pur.pv (q_var m rfl))) rfl) (e := (e2 eI eD)) (ms := (fun x => [(3, eI x.1), (4, eD x.2)])) (fun _ => rfl) (fun x1494 s1493 r1495 m1496 => (s_sif (s_un (fun u1497 hx1498 => (s_plugE (plug_xor (plug_xnot (plug_xb plug_id))) (h_def (q_cons (pv_dec ((dec_U dec_I) _ _ hx1498) (Pur.pv (q_var m1496 rfl))) (q_cons (Pur.pv (q_var m1496 rfl)) q_nil)) rfl (mk := (fun x => VD.val (eB x))) (t_pisrowD_UI_D u1497 x1494.2) trivial (fun a1499 => (tt_or (q_xnot (q_xb (Pur.pv q_cst))) (fun _ => (s_un (fun u1500 hx1501 => (s_un (fun u1502 hx1503 => (s_plugE (plug_xb (plug_op1 plug_id)) (h_def (q_cons (pv_dec ((dec_U dec_I) _ _ hx1501) (Pur.pv (q_var m1496 rfl))) (q_cons (pv_dec ((dec_U dec_I) _ _ hx1503) (Pur.pv (q_var m1496 rfl))) q_nil)) rfl (mk := (fun x => VD.val (eI x))) (t_psumof_UI_UI u1500 u1502) trivial (fun a1504 => (t_pure (q_xb (Pur.pv (q_op (op := dNe) (Pur.pd q_cst) (Pur.pd (q_op (op := dAddA) (Pur.pd (q_var m1496 rfl)) (Pur.pd q_c) rfl)) (q_ne enc_I a1504 (x1494.1 + (1 : Int)) rfl)))) (s_fin rfl)))))))))) (fun b1505 => (s_ite (fun _ => (s_raise2 (q_cons (Pur.pv q_c) (q_cons (Pur.pv (q_var m1496 rfl)) q_nil)) trivial)) (fun _ => (s_pass (x_nx (Mat.weak (.keep (.keep (.keep (.fv (.fv .nil))))) m1496) rfl))))))))))))) (fun s1506 r1507 m1508 => (s_next (s_seq (s_tfld (c := "Table") (fs := []) (Mat.get m1508 rfl) (Pur.pv (q_var m1508 rfl)) (by decide) rfl (by rfl) (s_next (s_seq (s_tfld (c := "Table") (fs := [("loops", eD vloops)]) (Mat.get m1508 rfl) (Pur.pv (q_var m1508 rfl)) (by decide) rfl (by rfl) (s_next (s_seq (s_un (fun u1509 hx1510 => (s_tfld (c := "Table") (fs := [("loops", eD vloops), ("rows", eD vrows)]) (Mat.get m1508 rfl) (Pur.pv (q_call (op := bLenA) (q_consT (pd_dec ((dec_U dec_D) _ _ hx1510) (Pur.pd (q_var m1508 rfl))) q_nil) q_lenU)) (by decide) rfl (by rfl) (s_next (s_un (fun u1511 hx1512 => (s_plugE (plug_tfld (plug_op2 (Pur.pdO (q_lst (q_cons (Pur.pvO (q_lst q_nil rfl)) q_nil) rfl)) plug_id)) (h_lc m1508 (.f rfl .nil) (q_seqJ (pd_dec ((dec_U dec_D) _ _ hx1512) (Pur.pd (q_var m1508 rfl))) rfl) (e := eD) (ms := (fun x => [(4, eD x)])) (fun _ => rfl) (e' := (eL (e3 eI eI eI))) (fun x1514 r1515 m1513 => (s_un (fun u1521 hx1522 => (s_un (fun u1523 hx1524 => (e_plug plug_id (h_def (q_cons (pv_dec ((dec_U dec_I) _ _ hx1522) (Pur.pv (q_var m1513 rfl))) (q_cons (pv_dec ((dec_U dec_I) _ _ hx1524) (Pur.pv (q_var m1513 rfl))) q_nil)) rfl (mk := (fun x => VD.own ((eL (e3 eI eI eI)) x))) (t_pentriesof_UI_UI u1521 u1523) trivial (fun a1525 => (e_fin (Pur.pvO q_cst) rfl))))))))) (fun a1526 => (s_plugE (plug_tfld plug_id) (h_op (Pur.pdO (q_lst (q_cons (Pur.pvO (q_lst q_nil rfl)) q_nil) rfl)) (Pur.pdO q_cst) (mk := (fun x => VD.own ((eL (eL (e3 eI eI eI))) x))) p_catL quit_cat (fun a1527 => (s_tfld (c := "Table") (fs := [("loops", eD vloops), ("rows", eD vrows), ("bound", eI (u1509.length : Int))]) (Mat.get m1508 rfl) (Pur.pvO q_cst) (by decide) rfl (by rfl) (s_fin rfl)))))))))))))))))))))))))))))))))))))))))))))))))
noncomputable def ftriedD (vloopshere : D) (vrowshere : D) : Rt (List D) :=
 (lete ((("none" : PySem.Str), ()) : (PySem.Str × Unit)) fun vfound1557 =>
 ((tryE [("BadTable", true)] (((pTableinitD vloopshere vrowshere).bind fun a1576 =>
 (lete ((("told" : PySem.Str), a1576.vloops, a1576.vrows, a1576.vbound) : (PySem.Str × D × D × Int)) fun vfound1579 =>
 .ok [(eS vfound1579.1), vfound1579.2.1, vfound1579.2.2.1, (eI vfound1579.2.2.2)]))) (fun cx1560 fx1561 => (if ((isx [("BadTable", true)] cx1560) && (!(isx [("BadTable", false)] cx1560))) = true then
 ((xfR fx1561 "part").bind fun a1584 =>
 ((xfR fx1561 "at").bind fun a1585 =>
 (lete ((("bad" : PySem.Str), a1584, a1585) : (PySem.Str × D × D)) fun vfound1586 =>
 .ok [(eS vfound1586.1), vfound1586.2.1, vfound1586.2.2])))
 else .ok [(eS vfound1557.1), (eN vfound1557.2)]))).bind fun (s1575 : ((List D))) =>
 .ok s1575))
theorem t_ftriedD (vloopshere : D) (vrowshere : D) : Sim ET (M__law_tried [eD vloopshere, eD vrowshere] none) (ftriedD vloopshere vrowshere) (RV (fun x => VD.val ((eU eD) x))) :=
 t_run (fun r m => (s_seq (s_asgL (i := 2) m (fun vfound1557 => VD.val ((e2 eS eN) vfound1557)) (q_tup (q_cons (Pur.pv q_c) (q_cons (Pur.pv q_c) q_nil)) rfl) (fun _ _ => rfl) (fun vfound1557 r1558 m1559 => (s_next (s_seq (s_tryE (i := 4) (fun (s1575 : ((List D))) => [iv (eD vloopshere), iv (eD vrowshere), iv ((eU eD) s1575), .any, .any]) (fun _ => (none : Tp)) m1559 rfl (fun _ => rfl) (s_seq (s_plugE (plug_asg plug_id) (h_make (q_cons (Pur.pv (q_var m1559 rfl)) (q_cons (Pur.pv (q_var m1559 rfl)) q_nil)) rfl (fs := fsTable2) (t_pTableinitD vloopshere vrowshere) ⟨rfl, m1559⟩ (fun a1576 => (s_asg (i := 3) m1559 q_cst (fun _ => rfl) (fun r1577 m1578 => (s_next (s_asgL (i := 2) m1578 (fun vfound1579 => VD.val ((e4 eS eD eD eI) vfound1579)) (q_tup (q_cons (Pur.pv q_c) (q_cons (Pur.pv (q_un (op := dAt ["Table"] "loops") (Pur.pdP (q_varO m1578 rfl)) (at_Table2_vloops _))) (q_cons (Pur.pv (q_un (op := dAt ["Table"] "rows") (Pur.pdP (q_varO m1578 rfl)) (at_Table2_vrows _))) (q_cons (Pur.pv (q_un (op := dAt ["Table"] "bound") (Pur.pdP (q_varO m1578 rfl)) (at_Table2_vbound _))) q_nil)))) rfl) (fun _ _ => rfl) (fun vfound1579 r1580 m1581 => (x_nxL (Mat.weak (.keep (.keep (.eq rfl (.any (.any .nil))))) m1581) rfl)))))))))) (fun cx1560 fx1561 r1582 m1583 => (s_sif (t_pure (q_xand (q_xb (Pur.pv (q_isE (i := 4) m1583 rfl))) (fun _ => (q_xnot (q_xb (Pur.pv (q_isE (i := 4) m1583 rfl)))))) (s_ite (fun _ => (s_plugE (plug_asg (plug_tup (plug_c2 (Pur.pv q_c) (plug_c1 plug_id)))) (h_xf (i := 4) m1583 rfl (fun a1584 => (s_plugE (plug_asg (plug_tup (plug_c2 (Pur.pv q_c) (plug_c2 (Pur.pv q_cst) (plug_c1 plug_id))))) (h_xf (i := 4) m1583 rfl (fun a1585 => (s_asgL (i := 2) m1583 (fun vfound1586 => VD.val ((e3 eS eD eD) vfound1586)) (q_tup (q_cons (Pur.pv q_c) (q_cons (Pur.pv q_cst) (q_cons (Pur.pv q_cst) q_nil))) rfl) (fun _ _ => rfl) (fun vfound1586 r1587 m1588 => (x_nxL (Mat.weak (.keep (.keep (.eq rfl (.any (.any .nil))))) m1588) rfl)))))))))) (fun _ => (s_pass (x_nxL (Mat.weak (.keep (.keep (.eq rfl (.any (.any .nil))))) m1583) rfl))))))) (fun _ _ => trivial) (fun s1575 r1589 m1590 => (s_next (s_retV m1590 rfl (fun _ => rfl) (s_fin rfl)))))))))))
noncomputable def ftriedDX (a0 : D) (a1 : D) : Rt (List D) := match a0 with
 | .tpl ns => ftriedD_T_D ns a1
 | v => ftriedD v a1
theorem t_ftriedDX (a0 : D) (a1 : D) : Sim ET (M__law_tried [eD a0, eD a1] none) (ftriedDX a0 a1) (RV (fun x => VD.val ((eU eD) x))) := by
  cases a0 with
  | tpl ns => exact t_ftriedD_T_D ns a1
  | _ => exact t_ftriedD _ a1
noncomputable def gr_law : DS := (sSeq (sAsg 2 (eDefT 1 3 M__law_loops (aCons (eC (.int 8)) (aCons (eC (.int 6)) aNil))))
 (sSeq (sIf (xB (eOp dEq (eDefT 1 2 M__law_pick (aCons (eC (.int 10)) aNil)) (eC (.int 0))))
 (sAsg 2 (eOp dAddU (eOp dAddA (eTup (aCons (eC (.int 1)) aNil)) (eSlT (eVar 2) (some (eC (.int 1))) (some (eC (.int 7))))) (eTup (aCons (eC (.int 40)) aNil))))
 sPass)
 (sSeq (sAsg 3 (eOp dAddA (eC (.int 1)) (eDefT 1 2 M__law_pick (aCons (eC (.int 12)) aNil))))
 (sSeq (sIf (xB (eOp dEq (eDefT 1 2 M__law_pick (aCons (eC (.int 15)) aNil)) (eC (.int 0))))
 (sAsg 3 (eC (.int 60)))
 sPass)
 (sFrz 2 (sSeq (sAsg 4 (eDefT 1 3 M__law_rows (aCons (eVar 2) (aCons (eVar 3) aNil))))
 (sFrz 2 (sSeq (sFor (iRng (aConsT (eC (.int 4)) aNil)) (gN 5)
 (sFrz 2 (sSeq (sAsg 6 (eTup (aCons (eVar 2) (aCons (eVar 4) aNil))))
 (sSeq (sIf (xB (eOp dGt (eDefT 1 2 M__law_pick (aCons (eC (.int 4)) aNil)) (eC (.int 0))))
 (sFrz 2 (sAsg 6 (eDefT 1 3 M__law_bent (aCons (eVar 2) (aCons (eVar 4) aNil)))))
 sPass)
 (sSeq (sAsg 7 (eCall bRepr (aConsT (eVar 6) aNil)))
 (sSeq (sAsg 8 (eDef 2 M__law_fault (aCons (eOp dIxA (eVar 6) (eC (.int 0))) (aCons (eOp dIxA (eVar 6) (eC (.int 1))) aNil))))
 (sSeq (sAsg 9 (eDef 2 M__law_tried (aCons (eOp dIxA (eVar 6) (eC (.int 0))) (aCons (eOp dIxA (eVar 6) (eC (.int 1))) aNil))))
 (sSeq (sIf (xB (eOp dNe (eCall bRepr (aConsT (eVar 6) aNil)) (eVar 7)))
 (sRet (eC (.bl false)))
 sPass)
 (sSeq (sIf (xAnd (xB (eOp dIsnN (eVar 8) (eC .non))) (xOr (xB (eOp dNe (eVar 9) (eOp dAddA (eTup (aCons (eC (.str "bad")) aNil)) (eVar 8)))) (xB (eUn (dIsi [] .bool) (eOp dIxA (eVar 9) (eC (.int 2)))))))
 (sRet (eC (.bl false)))
 sPass)
 (sIf (xAnd (xB (eOp dIsN (eVar 8) (eC .non))) (xB (eOp dNe (eVar 9) (eTup (aCons (eC (.str "told")) (aCons (eOp dIxA (eVar 6) (eC (.int 0))) (aCons (eOp dIxA (eVar 6) (eC (.int 1))) (aCons (eCall bLenA (aConsT (eOp dIxA (eVar 6) (eC (.int 1))) aNil)) aNil))))))))
 (sRet (eC (.bl false)))
 sPass))))))))))
 (sRet (eC (.bl true)))))))))))
noncomputable def flaw (sc : List Int) (T : Tp) : Rt (Bool × Tp) :=
 ((floops (8 : Int) (6 : Int) T).bind fun a36 =>
 (((pick (10 : Int) a36.2).bind fun a46 =>
 (if (decide (a46.1 = (0 : Int))) = true then
 ((cutT a36.1 (some (1 : Int)) (some (7 : Int))).bind fun a47 =>
 ((cat [(1 : Int)] a47).bind fun a48 =>
 ((catT a48 [(40 : Int)]).bind fun a49 =>
 .ok (a49, a46.2))))
 else .ok (a36.1, a46.2))).bind fun (s45 : ((List Int) × Tp)) =>
 ((pick (12 : Int) s45.2).bind fun a54 =>
 (lete (((1 : Int) + a54.1) : Int) fun vbound55 =>
 (((pick (15 : Int) a54.2).bind fun a62 =>
 (if (decide (a62.1 = (0 : Int))) = true then
 .ok ((60 : Int), a62.2)
 else .ok (vbound55, a62.2))).bind fun (s61 : (Int × Tp)) =>
 ((frows_T_I s45.1 s61.1 s61.2).bind fun a269 =>
 ((forR (P := (Bool × Tp)) (rngL (0 : Int) (4 : Int)) (a269.2 : (Tp)) fun x1617 s1616 =>
 (lete ((s45.1, a269.1) : ((List Int) × (List (List Int)))) fun vone1620 =>
 (((pick (4 : Int) s1616).bind fun a1628 =>
 (if (decide (a1628.1 > (0 : Int))) = true then
 ((fbentD_T_D s45.1 ((eU (eU eI)) a269.1) a1628.2).bind fun a1629 =>
 .ok (a1629.1, a1629.2))
 else .ok (((e2 eT (eU (eU eI))) vone1620), a1628.2))).bind fun (s1627 : (D × Tp)) =>
 ((reprR (eD s1627.1)).bind fun a1634 =>
 ((unO ((decU decD) s1627.1)).bind fun u1637 => ((idx u1637 (0 : Int)).bind fun a1639 =>
 ((unO ((decU decD) s1627.1)).bind fun u1640 => ((idx u1640 (1 : Int)).bind fun a1642 =>
 ((ffaultDX a1639 a1642).bind fun a1643 =>
 ((unO ((decU decD) s1627.1)).bind fun u1646 => ((idx u1646 (0 : Int)).bind fun a1648 =>
 ((unO ((decU decD) s1627.1)).bind fun u1649 => ((idx u1649 (1 : Int)).bind fun a1651 =>
 ((ftriedDX a1648 a1651).bind fun a1652 =>
 ((reprR (eD s1627.1)).bind fun a1655 =>
 (if (!decide (a1655 = a1634)) = true then
 .ok (.rt (false, s1627.2))
 else (((if (Option.isSome a1643) = true then ((unO a1643).bind fun u1656 => ((cat [(eS ("bad" : PySem.Str))] [(eS u1656.1), (eI u1656.2)]).bind fun a1658 =>
 ((opBR dNe ((eU eD) a1652) ((eU eD) a1658)).bind fun a1659 =>
 (((if a1659 = true then .ok true else ((idx a1652 (2 : Int)).bind fun a1660 =>
 ((isiR .bool a1660).bind fun a1661 =>
 .ok a1661)))).bind fun b1662 =>
 .ok b1662)))) else .ok false)).bind fun b1663 =>
 (if b1663 = true then
 .ok (.rt (false, s1627.2))
 else (((if (Option.isNone a1643) = true then ((unO ((decU decD) s1627.1)).bind fun u1664 => ((idx u1664 (0 : Int)).bind fun a1666 =>
 ((unO ((decU decD) s1627.1)).bind fun u1667 => ((idx u1667 (1 : Int)).bind fun a1669 =>
 ((unO ((decU decD) s1627.1)).bind fun u1670 => ((idx u1670 (1 : Int)).bind fun a1672 =>
 ((unO ((decU decD) a1672)).bind fun u1673 => ((opBR dNe ((eU eD) a1652) ((e4 eS eD eD eI) (("told" : PySem.Str), a1666, a1669, (u1673.length : Int)))).bind fun a1675 =>
 .ok a1675)))))))) else .ok false)).bind fun b1676 =>
 (if b1676 = true then
 .ok (.rt (false, s1627.2))
 else .ok (.nx s1627.2))))))))))))))))))))).bind fun o => match o with
 | .inl s1677 => .ok (true, s1677)
 | .inr v1680 => .ok (v1680.1, v1680.2))))))))
theorem t_flaw (sc : List Int) (T : Tp) (r : Pu.Env) (m : Mat [iv (eScr sc), .is .tape, .free, .free, .free, .free, .free, .free, .free, .free] r) : Sim ET ((gr_law r T).bind endK) (flaw sc T) (RT (fun x => VD.val (eB x))) :=
 (s_seq (s_plugE (plug_asg plug_id) (h_defT (Mat.get m rfl) (q_cons (Pur.pv q_c) (q_cons (Pur.pv q_c) q_nil)) rfl (mk := (fun x => VD.val (eT x))) (t_floops (8 : Int) (6 : Int) _) (fun _ => trivial) (fun a36 => (s_asg (i := 2) m q_cst (fun _ => rfl) (fun r37 m38 => (s_next (s_seq (s_join (fun (s45 : ((List Int) × Tp)) => [iv (eScr sc), .is .tape, iv (eT s45.1), .free, .free, .free, .free, .free, .free, .free]) (fun s45 => s45.2) (s_sif (s_plugE (plug_xb (plug_op1 plug_id)) (h_defT (Mat.get m38 rfl) (q_cons (Pur.pv q_c) q_nil) rfl (mk := mI) (t_pick _ _) (fun _ => trivial) (fun a46 => (t_pure (q_xb (Pur.pv (q_op (op := dEq) (Pur.pd q_cst) (Pur.pd q_c) (q_eq enc_I a46.1 (0 : Int) rfl)))) (s_ite (fun _ => (s_plugE (plug_asg (plug_op1 (plug_op2 (Pur.pd (q_tup (q_cons (Pur.pv q_c) q_nil) rfl)) plug_id))) (h_slT (Pur.pd (q_var m38 rfl)) (q_psome (Pur.pd q_c)) (q_psome (Pur.pd q_c)) (fun a47 => (s_plugE (plug_asg (plug_op1 plug_id)) (h_op (Pur.pd (q_tup (q_cons (Pur.pv q_c) q_nil) rfl)) (Pur.pd q_cst) (mk := (fun x => VD.val ((eU eI) x))) p_catU quit_cat (fun a48 => (s_plugE (plug_asg plug_id) (h_op (Pur.pd q_cst) (Pur.pd (q_tup (q_cons (Pur.pv q_c) q_nil) rfl)) (mk := (fun x => VD.val (eT x))) p_catUP quit_catT (fun a49 => (s_asg (i := 2) m38 q_cst (fun _ => rfl) (fun r50 m51 => (x_nxL (Mat.weak (.keep (.keep (.keep (.keep (.keep (.keep (.keep (.keep (.keep (.keep .nil)))))))))) m51) rfl))))))))))))) (fun _ => (s_pass (x_nxL (Mat.weak (.keep (.keep (.keep (.keep (.keep (.keep (.keep (.keep (.keep (.keep .nil)))))))))) m38) rfl))))))))) (fun s45 r52 m53 => (s_next (s_seq (s_plugE (plug_asg (plug_op2 (Pur.pd q_c) plug_id)) (h_defT (Mat.get m53 rfl) (q_cons (Pur.pv q_c) q_nil) rfl (mk := mI) (t_pick _ _) (fun _ => trivial) (fun a54 => (s_asgL (i := 3) m53 (fun vbound55 => VD.val (eI vbound55)) (q_op (op := dAddA) (Pur.pd q_c) (Pur.pd q_cst) rfl) (fun _ _ => rfl) (fun vbound55 r56 m57 => (s_next (s_seq (s_join (fun (s61 : (Int × Tp)) => [iv (eScr sc), .is .tape, iv (eT s45.1), iv (eI s61.1), .free, .free, .free, .free, .free, .free]) (fun s61 => s61.2) (s_sif (s_plugE (plug_xb (plug_op1 plug_id)) (h_defT (Mat.get m57 rfl) (q_cons (Pur.pv q_c) q_nil) rfl (mk := mI) (t_pick _ _) (fun _ => trivial) (fun a62 => (t_pure (q_xb (Pur.pv (q_op (op := dEq) (Pur.pd q_cst) (Pur.pd q_c) (q_eq enc_I a62.1 (0 : Int) rfl)))) (s_ite (fun _ => (s_asg (i := 3) m57 q_c (fun _ => rfl) (fun r63 m64 => (x_nxL (Mat.weak (.keep (.keep (.keep (.keep (.keep (.keep (.keep (.keep (.keep (.keep .nil)))))))))) m64) rfl)))) (fun _ => (s_pass (x_nxL (Mat.weak (.keep (.keep (.keep (.keep (.keep (.keep (.keep (.keep (.keep (.keep .nil)))))))))) m57) rfl))))))))) (fun s61 r65 m66 => (s_next (s_frzV m66 rfl (s_seq (s_plugE (plug_asg plug_id) (h_defT (Mat.get m66 rfl) (q_cons (Pur.pv (q_var m66 rfl)) (q_cons (Pur.pv (q_var m66 rfl)) q_nil)) rfl (mk := (fun x => VD.val ((eU (eU eI)) x))) (t_frows_T_I s45.1 s61.1 _) (fun _ => trivial) (fun a269 => (s_asg (i := 4) m66 q_cst (fun _ => rfl) (fun r270 m271 => (s_next (s_frzV m271 rfl (s_seq (s_forR (fun (s1616 : (Tp)) => [iv (eScr sc), .is .tape, iv (eT s45.1), iv (eI s61.1), iv ((eU (eU eI)) a269.1), .free, .free, .free, .free, .free]) (fun s1616 => s1616) (a269.2 : (Tp)) rfl (fun (v1680 : (Bool × Tp)) => VD.val (eB v1680.1)) (fun (v1680 : (Bool × Tp)) => v1680.2) (Mat.weak (.keep (.keep (.keep (.keep (.keep (.keep (.keep (.keep (.keep (.keep .nil)))))))))) m271) (q_rngL (q_consT (Pur.pd q_c) q_nil) rfl (by decide)) (e := eI) (ms := (fun x => [(5, eI x)])) (fun _ => rfl) (fun x1617 s1616 r1618 m1619 => (s_frzV m1619 rfl (s_seq (s_asgL (i := 6) m1619 (fun vone1620 => VD.val ((e2 eT (eU (eU eI))) vone1620)) (q_tup (q_cons (Pur.pv (q_var m1619 rfl)) (q_cons (Pur.pv (q_var m1619 rfl)) q_nil)) rfl) (fun _ _ => rfl) (fun vone1620 r1621 m1622 => (s_next (s_seq (s_join (fun (s1627 : (D × Tp)) => [iv (eScr sc), .is .tape, iv (eT s45.1), iv (eI s61.1), iv ((eU (eU eI)) a269.1), iv (eI x1617), iv (eD s1627.1), .free, .free, .free]) (fun s1627 => s1627.2) (s_sif (s_plugE (plug_xb (plug_op1 plug_id)) (h_defT (Mat.get m1622 rfl) (q_cons (Pur.pv q_c) q_nil) rfl (mk := mI) (t_pick _ _) (fun _ => trivial) (fun a1628 => (t_pure (q_xb (Pur.pv (q_op (op := dGt) (Pur.pd q_cst) (Pur.pd q_c) (dGt_ii _ _)))) (s_ite (fun _ => (s_frzV m1622 rfl (s_plugE (plug_asg plug_id) (h_defT (Mat.get m1622 rfl) (q_cons (Pur.pv (q_var m1622 rfl)) (q_cons (Pur.pv (q_var m1622 rfl)) q_nil)) rfl (mk := (fun x => VD.val (eD x))) (t_fbentD_T_D s45.1 ((eU (eU eI)) a269.1) _) (fun _ => trivial) (fun a1629 => (s_asg (i := 6) m1622 q_cst (fun _ => rfl) (fun r1630 m1631 => (x_nxL (Mat.weak (.keep (.keep (.keep (.keep (.keep (.keep (.keep (.keep (.keep (.keep .nil)))))))))) m1631) rfl)))))))) (fun _ => (s_pass (x_nxL (Mat.weak (.keep (.keep (.keep (.keep (.keep (.keep (.eq rfl (.keep (.keep (.keep .nil)))))))))) m1622) rfl))))))))) (fun s1627 r1632 m1633 => (s_next (s_seq (s_plugE (plug_asg plug_id) (h_call (op := bRepr) (q_consT (Pur.pd (q_var m1633 rfl)) q_nil) (mk := fun x => VD.val (eS x)) p_repr quit_repr (fun a1634 => (s_asg (i := 7) m1633 q_cst (fun _ => rfl) (fun r1635 m1636 => (s_next (s_seq (s_un (fun u1637 hx1638 => (s_plugE (plug_asg (plug_def (plug_c1 plug_id))) (h_op (pd_dec ((dec_U dec_D) _ _ hx1638) (Pur.pd (q_var m1636 rfl))) (Pur.pd q_c) (mk := fun x => VD.val (eD x)) (p_idxU (e := eD) (xs := u1637)) quit_idx (fun a1639 => (s_un (fun u1640 hx1641 => (s_plugE (plug_asg (plug_def (plug_c2 (Pur.pv q_cst) (plug_c1 plug_id)))) (h_op (pd_dec ((dec_U dec_D) _ _ hx1641) (Pur.pd (q_var m1636 rfl))) (Pur.pd q_c) (mk := fun x => VD.val (eD x)) (p_idxU (e := eD) (xs := u1640)) quit_idx (fun a1642 => (s_plugE (plug_asg plug_id) (h_def (q_cons (Pur.pv q_cst) (q_cons (Pur.pv q_cst) q_nil)) rfl (mk := (fun x => VD.val ((eO (e2 eS eI)) x))) (t_ffaultDX a1639 a1642) trivial (fun a1643 => (s_asg (i := 8) m1636 q_cst (fun _ => rfl) (fun r1644 m1645 => (s_next (s_seq (s_un (fun u1646 hx1647 => (s_plugE (plug_asg (plug_def (plug_c1 plug_id))) (h_op (pd_dec ((dec_U dec_D) _ _ hx1647) (Pur.pd (q_var m1645 rfl))) (Pur.pd q_c) (mk := fun x => VD.val (eD x)) (p_idxU (e := eD) (xs := u1646)) quit_idx (fun a1648 => (s_un (fun u1649 hx1650 => (s_plugE (plug_asg (plug_def (plug_c2 (Pur.pv q_cst) (plug_c1 plug_id)))) (h_op (pd_dec ((dec_U dec_D) _ _ hx1650) (Pur.pd (q_var m1645 rfl))) (Pur.pd q_c) (mk := fun x => VD.val (eD x)) (p_idxU (e := eD) (xs := u1649)) quit_idx (fun a1651 => (s_plugE (plug_asg plug_id) (h_def (q_cons (Pur.pv q_cst) (q_cons (Pur.pv q_cst) q_nil)) rfl (mk := (fun x => VD.val ((eU eD) x))) (t_ftriedDX a1648 a1651) trivial (fun a1652 => (s_asg (i := 9) m1645 q_cst (fun _ => rfl) (fun r1653 m1654 => (s_next (s_seq (s_sif (s_plugE (plug_xb (plug_op1 plug_id)) (h_call (op := bRepr) (q_consT (Pur.pd (q_var m1654 rfl)) q_nil) (mk := fun x => VD.val (eS x)) p_repr quit_repr (fun a1655 => (t_pure (q_xb (Pur.pv (q_op (op := dNe) (Pur.pd q_cst) (Pur.pd (q_var m1654 rfl)) (q_ne enc_str a1655 a1634 rfl)))) (s_ite (fun _ => (s_ret q_c (fun _ => rfl) (x_rtR rfl rfl))) (fun _ => (s_pass (s_next (s_seq (s_sif (tt_and (q_xb (Pur.pv (q_op (op := dIsnN) (Pur.pd (q_var m1654 rfl)) (Pur.pd q_c) (q_isnN (e := (e2 eS eI)) (o := a1643) (fun _ h => nomatch h))))) (fun _ => (s_un (fun u1656 hx1657 => (s_plugE (plug_xor (plug_xb (plug_op2 (Pur.pd (q_var m1654 rfl)) plug_id))) (h_op (Pur.pd (q_tup (q_cons (Pur.pv q_c) q_nil) rfl)) (pd_un (e := (eO (e2 eS eI))) hx1657 (Pur.pd (q_var m1654 rfl))) (mk := (fun x => VD.val ((eU eD) x))) (p_catU (e := eD) (xs := [(eS ("bad" : PySem.Str))]) (ys := [(eS u1656.1), (eI u1656.2)])) quit_cat (fun a1658 => (s_plugE (plug_xor (plug_xb plug_id)) (h_op (Pur.pd (q_var m1654 rfl)) (Pur.pd q_cst) (mk := fun x => VD.val (eB x)) p_opBR quit_opBR (fun a1659 => (tt_or (q_xb (Pur.pv q_cst)) (fun _ => (s_plugE (plug_xb (plug_un plug_id)) (h_op (Pur.pd (q_var m1654 rfl)) (Pur.pd q_c) (mk := fun x => VD.val (eD x)) (p_idxU (e := eD) (xs := a1652)) quit_idx (fun a1660 => (s_plugE (plug_xb plug_id) (h_un (op := dIsi [] .bool) (Pur.pd q_cst) (mk := fun x => VD.val (eB x)) p_isiR quit_isiR (fun a1661 => (t_pure (q_xb (Pur.pv q_cst)) (s_fin rfl))))))))) (fun b1662 => (s_fin rfl)))))))))))) (fun b1663 => (s_ite (fun _ => (s_ret q_c (fun _ => rfl) (x_rtR rfl rfl))) (fun _ => (s_pass (s_next (s_sif (tt_and (q_xb (Pur.pv (q_op (op := dIsN) (Pur.pd (q_var m1654 rfl)) (Pur.pd q_c) (q_isN (e := (e2 eS eI)) (o := a1643) (fun _ h => nomatch h))))) (fun _ => (s_un (fun u1664 hx1665 => (s_plugE (plug_xb (plug_op2 (Pur.pd (q_var m1654 rfl)) (plug_tup (plug_c2 (Pur.pv q_c) (plug_c1 plug_id))))) (h_op (pd_dec ((dec_U dec_D) _ _ hx1665) (Pur.pd (q_var m1654 rfl))) (Pur.pd q_c) (mk := fun x => VD.val (eD x)) (p_idxU (e := eD) (xs := u1664)) quit_idx (fun a1666 => (s_un (fun u1667 hx1668 => (s_plugE (plug_xb (plug_op2 (Pur.pd (q_var m1654 rfl)) (plug_tup (plug_c2 (Pur.pv q_c) (plug_c2 (Pur.pv q_cst) (plug_c1 plug_id)))))) (h_op (pd_dec ((dec_U dec_D) _ _ hx1668) (Pur.pd (q_var m1654 rfl))) (Pur.pd q_c) (mk := fun x => VD.val (eD x)) (p_idxU (e := eD) (xs := u1667)) quit_idx (fun a1669 => (s_un (fun u1670 hx1671 => (s_plugE (plug_xb (plug_op2 (Pur.pd (q_var m1654 rfl)) (plug_tup (plug_c2 (Pur.pv q_c) (plug_c2 (Pur.pv q_cst) (plug_c2 (Pur.pv q_cst) (plug_c1 (plug_call (plug_t1 plug_id))))))))) (h_op (pd_dec ((dec_U dec_D) _ _ hx1671) (Pur.pd (q_var m1654 rfl))) (Pur.pd q_c) (mk := fun x => VD.val (eD x)) (p_idxU (e := eD) (xs := u1670)) quit_idx (fun a1672 => (s_un (fun u1673 hx1674 => (s_plugE (plug_xb plug_id) (h_op (Pur.pd (q_var m1654 rfl)) (Pur.pd (q_tup (q_cons (Pur.pv q_c) (q_cons (Pur.pv q_cst) (q_cons (Pur.pv q_cst) (q_cons (Pur.pv (q_call (op := bLenA) (q_consT (pd_dec ((dec_U dec_D) _ _ hx1674) (Pur.pd q_cst)) q_nil) q_lenU)) q_nil)))) rfl)) (mk := fun x => VD.val (eB x)) p_opBR quit_opBR (fun a1675 => (t_pure (q_xb (Pur.pv q_cst)) (s_fin rfl))))))))))))))))))))))) (fun b1676 => (s_ite (fun _ => (s_ret q_c (fun _ => rfl) (x_rtR rfl rfl))) (fun _ => (s_pass (x_nxR (Mat.weak (.keep (.keep (.keep (.keep (.keep (.fv (.fv (.fv (.fv (.fv .nil)))))))))) m1654) rfl)))))))))))))))))))))))))))))))))))))))))))))))))))))))))))))))))))))))))))) (fun s1677 r1678 m1679 => (s_next (s_ret q_c (fun _ => rfl) (s_fin rfl)))) (fun v1680 => (s_fin rfl)))))))))))))))))))))))))))))))))))
theorem law_of (h : ∀ sc T, TapeV T → wr (flaw sc T) fun b => b.1 = true) : ∀ ns : List Int, ns.length ≤ 63 → ∃ T, M_law [.scr ns] none = .ok (.val (.bl true), T) := by
  intro sc hsc
  refine wp_law (g := gr_law) (d := _) (by simp [tape_ok, env0]; exact ⟨rfl, rfl⟩) ?_
  refine law_sim (t_flaw sc _ _ (mat_of ((env0 10 false [.scr sc]).set 1 (some .tape)))) (h sc _ ⟨sc, 0, 0, 1, 0, rfl⟩)
end Gk06
namespace Gk06
open PySem L2 Pu
theorem floops_t {T : Tp} {m l : Int} (hm : 1 ≤ m ∧ m ≤ 8) (hl : 1 ≤ l ∧ l ≤ 40) (ht : TapeV T) : wr (floops m l T) fun p => LpsM m l p.1 ∧ TapeV p.2 := by
  unfold floops
  refine wr_b (pick_wr ht (by omega) (by omega)) fun ⟨v, T1⟩ ⟨hv, t1⟩ => ?_
  dsimp only at hv t1 ⊢
  rw [lete_eq, rng_ok (by omega), Rt.bind_ok]
  refine wr_b (wr_mapT_mem TapeV (fun y => 1 ≤ y ∧ y ≤ l) _ _ t1 fun x hx T2 t2 => ?_) fun ⟨ls, T2⟩ ⟨t2, hlen, hall⟩ => ?_
  · refine wr_b (pick_wr t2 (by omega) (by omega)) fun ⟨u, T3⟩ ⟨hu, t3⟩ => ?_
    exact (wr_ok _).mpr ⟨by dsimp only at hu ⊢; omega, t3⟩
  · rw [rngL_len] at hlen
    dsimp only at hlen hall t2 ⊢
    refine wr_b (pick_wr t2 (by omega) (by omega)) fun ⟨u, T3⟩ ⟨hu, t3⟩ => ?_
    dsimp only at hu t3 ⊢
    unfold setAt
    rw [ixN_some hu.1 (by omega)]
    refine (wr_ok _).mpr ⟨⟨by simp; omega, by simp; omega, fun x hx => ?_, ?_⟩, t3⟩
    · rcases List.mem_or_eq_of_mem_set hx with z | z
      · exact hall x z
      · omega
    · exact List.mem_iff_getElem.mpr ⟨u.toNat, by simp; omega, by simp⟩
theorem frow_T_I_t {T : Tp} {ns : List Int} {w : Int} (hL : Lps ns) (h1 : 1 ∈ ns) (hw : 0 ≤ w ∧ w ≤ 60) (ht : TapeV T) : wr (frow_T_I ns w T) fun p => RowW ns p.1 w ∧ TapeV p.2 := by
  obtain ⟨l1, l2, l3⟩ := id hL
  obtain ⟨j1, hj1, hj2, hj3⟩ := idx_one' h1
  unfold frow_T_I
  refine wr_b (pick_wr ht (by omega) (by omega)) fun ⟨v, T1⟩ ⟨hv, t1⟩ => ?_
  dsimp only at hv t1 ⊢
  rw [lete_eq]
  generalize decide (v = 0) = ag
  have inv : ∀ s : List Int × Int × Tp, RowOk ns s.1 → (s.1.map (vl ns)).sum + s.2.1 = w → 0 ≤ s.2.1 → s.1.length ≤ 60 := fun s a b c => by
    have := row_len hL a
    omega
  refine wr_b (wr_forB (Q := fun s => RowOk ns s.1 ∧ (s.1.map (vl ns)).sum + s.2.1 = w ∧ 0 ≤ s.2.1 ∧ TapeV s.2.2) (fun _ s => RowOk ns s.1 ∧ (s.1.map (vl ns)).sum + s.2.1 = w ∧ 0 ≤ s.2.1 ∧ TapeV s.2.2) _ 0 _ ⟨fun _ h => (nomatch h), by simp, by dsimp only; omega, t1⟩ ?_ fun s h => h) fun ⟨rs, l, T2⟩ ⟨q1, q2, q3, q4⟩ => ?_
  · rintro i x ⟨rs, l, T2⟩ hx ⟨q1, q2, q3, q4⟩
    dsimp only at q1 q2 q3 q4 ⊢
    rw [rng_ok (by omega), Rt.bind_ok]
    rw [lcR_ok (d := fun k => decide (vl ns k ≤ l) && (ag || !memB k rs)) (g := fun k => k) _ (fun k hk => ?_) (fun k _ _ => rfl)]
    · rw [Rt.bind_ok, List.map_id']
      have hfit : ∀ k ∈ (rngL 0 ↑ns.length).filter (fun k => decide (vl ns k ≤ l) && (ag || !memB k rs)), (0 ≤ k ∧ k < ns.length) ∧ vl ns k ≤ l := fun k hk => by
        obtain ⟨a, b⟩ := List.mem_filter.mp hk
        rw [Bool.and_eq_true, decide_eq_true_eq] at b
        exact ⟨rngL_mem.mp a, b.1⟩
      have flen : ((rngL 0 ↑ns.length).filter (fun k => decide (vl ns k ≤ l) && (ag || !memB k rs))).length ≤ 8 := by
        have := filter_len (g := fun k => decide (vl ns k ≤ l) && (ag || !memB k rs)) (xs := rngL 0 ↑ns.length)
        rw [rngL_len] at this
        omega
      generalize (rngL 0 ↑ns.length).filter (fun k => decide (vl ns k ≤ l) && (ag || !memB k rs)) = fit at hfit flen
      by_cases c : decide ((fit.length : Int) = 0) || decide (l = 0) = true
      · rw [if_pos (by simpa using c)]
        exact (wr_ok _).mpr (by rw [if_pos rfl]; exact ⟨q1, q2, q3, q4⟩)
      · rw [if_neg (by simpa using c)]
        simp only [Bool.or_eq_true, decide_eq_true_eq, not_or] at c
        refine wr_b (pick_wr q4 (by omega) (by omega)) fun ⟨u, T3⟩ ⟨hu, t3⟩ => ?_
        dsimp only at hu t3 ⊢
        rw [idx_some hu.1 hu.2, Rt.bind_ok]
        have hm := hfit _ (List.getElem_mem (show u.toNat < fit.length by omega))
        generalize fit[u.toNat]'(by omega) = k at hm
        have hl := inv (rs, l, T2) q1 q2 q3
        dsimp only at hl
        rw [push_ok (by omega), Rt.bind_ok]
        have hlast : idx (rs ++ [k]) (-1) = .ok k := idx_ok atI_last
        rw [hlast, Rt.bind_ok, idx_vl hm.1, Rt.bind_ok, lete_eq]
        refine (wr_ok _).mpr ?_
        rw [if_neg (by simp)]
        exact ⟨rowOk_app q1 (rowOk_one hm.1), by simp; omega, by dsimp only; omega, t3⟩
    · rw [idx_vl (rngL_mem.mp hk), Rt.bind_ok]
  · dsimp only at q1 q2 q3 q4 ⊢
    have hl := inv (rs, l, T2) q1 q2 q3
    dsimp only at hl
    have hr := row_len hL q1
    rw [rng_ok (by omega), Rt.bind_ok]
    rw [forS_pre (S := List Int) (fun p => rs ++ p.map fun _ => j1) _ (by simp) fun p x q e => ?_]
    · rw [Rt.bind_ok]
      refine (wr_ok _).mpr ⟨⟨rowOk_app q1 fun x hx => ?_, ?_⟩, q4⟩
      · obtain ⟨_, _, rfl⟩ := List.mem_map.mp hx
        exact hj2
      · dsimp only
        rw [List.map_append, List.sum_append, List.map_map]
        have : ∀ n : Nat, ∀ xs : List Int, xs.length = n → (xs.map (vl ns ∘ fun _ => j1)).sum = n := fun n => by
          induction n with
          | zero => intro xs h; rw [List.eq_nil_of_length_eq_zero h]; rfl
          | succ n ih =>
            intro xs h
            cases xs with
            | nil => cases h
            | cons y ys =>
              rw [List.map_cons, List.sum_cons, ih ys (by simpa using h)]
              simp [hj3]
              omega
        rw [this _ _ (rngL_len 0 l)]
        omega
    · rw [hj1, Rt.bind_ok, push_ok]
      · rw [Rt.bind_ok]
        simp
      · have := len_pre e
        rw [rngL_len] at this
        simp
        omega
theorem frows_T_I_t {T : Tp} {ns : List Int} {b : Int} (hL : Lps ns) (h1 : 1 ∈ ns) (hb : 1 ≤ b ∧ b ≤ 60) (ht : TapeV T) : wr (frows_T_I ns b T) fun p => (Tab ns p.1 ∧ (p.1.length : Int) = b) ∧ TapeV p.2 := by
  unfold frows_T_I
  rw [rng_ok (by omega), Rt.bind_ok]
  refine wr_b (wr_mapT_all TapeV (fun w r => RowW ns r w) _ _ ht fun w hw T2 t2 => ?_) fun ⟨rs, T2⟩ ⟨t2, hlen, hall⟩ => ?_
  · refine wr_b (frow_T_I_t hL h1 (by have := rngL_mem.mp hw; omega) t2) fun ⟨r, T3⟩ h => (wr_ok _).mpr h
  · rw [rngL_len] at hlen
    dsimp only at hlen hall t2 ⊢
    refine (wr_ok _).mpr ⟨⟨⟨hL, by dsimp only; omega, by dsimp only; omega, fun i r hr => ?_⟩, by dsimp only; omega⟩, t2⟩
    have hi := (List.getElem?_eq_some_iff.mp hr).1
    have := hall i ((rngL 1 (b + 1))[i]'(by rw [rngL_len]; dsimp only at hi; omega)) r (List.getElem?_eq_getElem _) hr
    have e := rngL_get (List.getElem?_eq_getElem (l := rngL 1 (b + 1)) (i := i) (by rw [rngL_len]; dsimp only at hi; omega))
    rw [e.1] at this
    rw [show (i : Int) + 1 = 1 + i by omega]
    exact this
theorem eU_D (l : List D) : eU eD l = .tup l := congrArg D.tup (List.map_id' _)
theorem eL_D (l : List D) : eL eD l = .lst l := congrArg D.lst (List.map_id' _)
theorem fodd_f {T : Tp} (ht : TapeV T) : wr (fodd T) fun p => Shf 20000 8 p.1 ∧ TapeV p.2 := by
  unfold fodd
  rw [show ipow (10 : Int) (20 : Int) = .ok (10 ^ 20) from rfl, Rt.bind_ok, lete_eq, show repR [(0 : Int)] (401 : Int) = .ok (List.replicate 401 0) from rfl, Rt.bind_ok, show repR [(1 : Int)] (9 : Int) = .ok (List.replicate 9 1) from rfl, Rt.bind_ok, cat_ok (by decide), Rt.bind_ok]
  refine wr_b (pick_wr ht (by decide) (by decide)) fun ⟨k, T1⟩ ⟨hk, t1⟩ => ?_
  dsimp only at hk t1 ⊢
  refine wr_b (wr_idx hk.1 hk.2) fun d hd => (wr_ok _).mpr ⟨?_, t1⟩
  have key : ∀ d ∈ ([eN (), eB true, eB false, eI (0 : Int), eI (1 : Int), eI (5 : Int), eI (61 : Int), eI (-(1 : Int)), eI (10 ^ 20), eS ("" : PySem.Str), eS ("2" : PySem.Str), (eU eN) [], (eL eN) [], (eK false eN eN) [], (e1 eI) (1 : Int), (eL eI) [(2 : Int)], (e2 eI eI) ((0 : Int), (1 : Int)), (eL eD) ([(eL eI) [(1 : Int)], eI (2 : Int)] : List D), (eK false eS eI) [(("a" : PySem.Str), (1 : Int))]] ++ [(e1 eB) true, (e2 eI eN) ((2 : Int), ()), (e2 eI eS) ((1 : Int), ("1" : PySem.Str)), (e1 (e2 eI eI)) ((1 : Int), (2 : Int)), (eU eI) (List.replicate 401 0), (eU eI) (List.replicate 9 1), (e1 eI) (41 : Int), (e2 eI eI) ((1 : Int), (0 : Int))] : List D), (shD d && (decide (fnD d ≤ 20000) && decide (dpD d ≤ 8))) = true := by
    have := List.all_eq_true (l := ([eN (), eB true, eB false, eI (0 : Int), eI (1 : Int), eI (5 : Int), eI (61 : Int), eI (-(1 : Int)), eI (10 ^ 20), eS ("" : PySem.Str), eS ("2" : PySem.Str), (eU eN) [], (eL eN) [], (eK false eN eN) [], (e1 eI) (1 : Int), (eL eI) [(2 : Int)], (e2 eI eI) ((0 : Int), (1 : Int)), (eL eD) ([(eL eI) [(1 : Int)], eI (2 : Int)] : List D), (eK false eS eI) [(("a" : PySem.Str), (1 : Int))]] ++ [(e1 eB) true, (e2 eI eN) ((2 : Int), ()), (e2 eI eS) ((1 : Int), ("1" : PySem.Str)), (e1 (e2 eI eI)) ((1 : Int), (2 : Int)), (eU eI) (List.replicate 401 0), (eU eI) (List.replicate 9 1), (e1 eI) (41 : Int), (e2 eI eI) ((1 : Int), (0 : Int))] : List D)) (p := fun d => shD d && (decide (fnD d ≤ 20000) && decide (dpD d ≤ 8)))
    exact this.mp (by decide +kernel)
  have := key d hd
  rw [Bool.and_eq_true, Bool.and_eq_true] at this
  exact ⟨this.1, of_decide_eq_true this.2.1, of_decide_eq_true this.2.2⟩
theorem repA_mem {A : Type} {xs : List A} {k : Int} {x : A} (h : x ∈ repA xs k) : x ∈ xs := by
  unfold repA at h
  obtain ⟨l, hl, hx⟩ := List.mem_flatten.mp h
  rw [List.eq_of_mem_replicate hl] at hx
  exact hx
theorem repA_len {A : Type} (xs : List A) (k : Int) : (repA xs k).length = k.toNat * xs.length := by
  unfold repA
  simp
theorem shf_bl (b : Bool) : Shf 5 0 (.bl b) := ⟨by rw [shD], by rw [fnD]; exact Nat.le_refl _, by rw [dpD] <;> first | exact Nat.le_refl _ | (intros; contradiction)⟩
theorem shf_non : Shf 4 0 .non := ⟨by rw [shD], by rw [fnD]; exact Nat.le_refl _, by rw [dpD] <;> first | exact Nat.le_refl _ | (intros; contradiction)⟩
theorem shf_nil : Shf 3 1 (.tup []) := shf_tup (ds := []) (w := 0) (k := 0) (n := 0) (fun d hd => nomatch hd) (by decide)
theorem shf_dnil : Shf 2 1 (.dct false []) := ⟨by rw [shD, shKv]; rfl, by rw [fnD, fnKv]; decide, by rw [dpD, dpKv]; decide⟩
theorem loo_of {w k : Nat} {a : D} (h : Shf w k a) (hw : w ≤ 1000000) (hk : k ≤ 10) : Loo a := .inr (h.up hw hk)
theorem shf_slots {ds : List D} (h : ∀ d ∈ ds, Shf 120000 9 d) (hl : ds.length ≤ 62) : Shf 8000000 12 (.tup ds) := (shf_tup h hl).up (by decide) (by decide)
theorem setAt_some {A : Type} {xs : List A} {i : Int} (x : A) (h0 : 0 ≤ i) (h1 : i < xs.length) : setAt xs i x = .ok (xs.set i.toNat x) := by
  unfold setAt
  rw [ixN_some h0 h1]
theorem shf_put {ds : List D} {i : Nat} {x : D} (h : ∀ d ∈ ds, Shf 183 1 d) (hx : Shf 120000 9 x) : ∀ d ∈ ds.set i x, Shf 120000 9 d := fun d hd => by
  rcases List.mem_or_eq_of_mem_set hd with z | z
  · exact (h d z).up (by decide) (by decide)
  · rw [z]; exact hx
theorem fbentD_T_D_t {T : Tp} {ns : List Int} {rs : List (List Int)} (hb : Tab ns rs) (h1 : 1 ∈ ns) (ht : TapeV T) : wr (fbentD_T_D ns (eU (eU eI) rs) T) fun p => Asked6 p.1 ∧ TapeV p.2 := by
  have hL := hb.lps
  obtain ⟨l1, l2, l3⟩ := id hL
  have hp := hb.pos
  have hl := hb.len
  have ne : ns ≠ [] := fun z => by rw [z] at l1; cases l1
  have hrow : ∀ r ∈ rs, r.length ≤ 60 ∧ ∀ x ∈ r, 0 ≤ x ∧ x ≤ 7 := fun r hr => by
    obtain ⟨w, w1, w2, hw⟩ := hb.rw hr
    have := row_len hL hw.ok
    rw [hw.sum] at this
    exact ⟨by omega, fun x hx => by have := hw.ok x hx; omega⟩
  have ed : decU decD (eU (eU eI) rs) = some (rs.map (eU eI)) := decU_D _
  have er : ∀ r : List Int, decU decD (eU eI r) = some (r.map eI) := fun r => decU_D _
  have hd : ∀ x ∈ rs.map (eU eI), Shf 183 1 x := fun x hx => by
    obtain ⟨r, hr, rfl⟩ := List.mem_map.mp hx
    exact shf_row (hrow r hr).1 fun y hy => by have := (hrow r hr).2 y hy; omega
  have hR : Shf 8000000 12 (eU (eU eI) rs) := (shf_tup (ds := rs.map (eU eI)) (n := 60) hd (by rw [List.length_map]; exact hl)).up (by decide) (by decide)
  have len : (rs.map (eU eI)).length = rs.length := List.length_map _
  have lT : Loo (eT ns) := .inl ⟨ns, rfl, by omega, fun x hx => by have := l3 x hx; omega⟩
  have fin : ∀ (ds : List D), (∀ d ∈ ds, Shf 120000 9 d) → ds.length ≤ 62 → Asked6 ((e2 eT (eU eD)) (ns, ds)) := fun ds h hn => ⟨eT ns, .tup ds, by show D.tup [_, eU eD ds] = _; rw [eU_D], lT, shf_slots h hn⟩
  have rw6 : ∀ {r : List Int} {w : Int}, r ∈ rs → (-1 ≤ w ∧ w ≤ 8) → Shf 120000 9 (eU eD (r.map eI ++ [eI w])) := fun {r w} hr hw => by
    rw [eU_D]
    refine (shf_tup (n := 61) (w := 1921) (k := 0) (fun d hd => ?_) (by rw [List.length_append, List.length_map]; have := (hrow r hr).1; exact Nat.add_le_add_right this 1)).up (by decide) (by decide)
    rcases List.mem_append.mp hd with z | z
    · obtain ⟨x, hx, rfl⟩ := List.mem_map.mp z
      have := (hrow r hr).2 x hx
      exact shf_i ⟨by omega, by omega⟩
    · rw [List.mem_singleton.mp z]
      exact shf_i ⟨by omega, by omega⟩
  obtain ⟨j1, hj1, hj2, hj3⟩ := idx_one' h1
  unfold fbentD_T_D
  refine wr_b (pick_wr ht (by omega) (by omega)) fun ⟨k, T1⟩ ⟨hk, t1⟩ => ?_
  dsimp only at hk t1 ⊢
  rw [ed, unO_some, Rt.bind_ok]
  refine wr_b (pick_wr t1 (by rw [len]; omega) (by rw [len]; omega)) fun ⟨q, T2⟩ ⟨hq, t2⟩ => ?_
  dsimp only at hq t2 ⊢
  have hq' := hq
  rw [len] at hq
  have : k = 0 ∨ k = 1 ∨ k = 2 ∨ k = 3 ∨ k = 4 ∨ k = 5 ∨ k = 6 := by omega
  rcases this with z | z | z | z | z | z | z <;> subst z
  · simp only [show decide ((0 : Int) = 0) = true from rfl, show decide ((0 : Int) = 1) = false from rfl, show decide ((0 : Int) = 2) = false from rfl, show decide ((0 : Int) = 3) = false from rfl, show decide ((0 : Int) = 4) = false from rfl, show decide ((0 : Int) = 5) = false from rfl, show decide ((0 : Int) = 6) = false from rfl, Bool.false_eq_true, if_false, if_true, Rt.bind_ok, unO_some]
    rw [show repR [(1 : Int)] (8 : Int) = .ok (List.replicate 8 1) from rfl, Rt.bind_ok,
      show catT ns (List.replicate 8 (1 : Int)) = .ok (ns ++ List.replicate 8 1) from if_pos ⟨ne, by decide, by rw [List.length_replicate]; omega⟩, Rt.bind_ok,
      show catT ns [(0 : Int)] = .ok (ns ++ [0]) from if_pos ⟨ne, by decide, by simp; omega⟩, Rt.bind_ok,
      show catT ns [(41 : Int)] = .ok (ns ++ [41]) from if_pos ⟨ne, by decide, by simp; omega⟩, Rt.bind_ok,
      show catTD ns [eB true] = .ok (ns.map D.int ++ [eB true]) from if_pos ⟨ne, by simp, by simp; omega⟩, Rt.bind_ok, lete_eq]
    refine wr_b (fodd_f t2) fun ⟨od, T3⟩ ⟨ho, t3⟩ => ?_
    dsimp only at ho t3 ⊢
    rw [push_ok (by simp), Rt.bind_ok]
    refine wr_b (pick_wr t3 (by decide) (by decide)) fun ⟨m, T4⟩ ⟨hm, t4⟩ => ?_
    dsimp only at hm t4 ⊢
    refine wr_b (wr_idx hm.1 (by simpa using hm.2)) fun d hdm => (wr_ok _).mpr ⟨⟨d, _, rfl, ?_, hR⟩, t4⟩
    have small : ∀ x ∈ ns.map D.int, Shf 1921 0 x := fun x hx => by
      obtain ⟨y, hy, rfl⟩ := List.mem_map.mp hx
      have := l3 y hy
      exact shf_i ⟨by omega, by omega⟩
    rcases List.mem_append.mp hdm with hdm | hdm
    · simp only [List.mem_cons, List.not_mem_nil, or_false] at hdm
      rcases hdm with q | q | q | q | q | q | q | q <;> subst q
      · exact loo_of (shf_lst (ds := ns.map D.int) (n := 8) small (by rw [List.length_map]; exact l2)) (by decide) (by decide)
      · exact loo_of shf_nil (by decide) (by decide)
      · refine loo_of (shf_tup (ds := (ns ++ List.replicate 8 1).map D.int) (n := 16) (w := 1921) (k := 0) (fun x hx => ?_) (by simp; omega)) (by decide) (by decide)
        rw [List.map_append] at hx
        rcases List.mem_append.mp hx with z | z
        · exact small x z
        · obtain ⟨y, hy, rfl⟩ := List.mem_map.mp z
          rw [List.eq_of_mem_replicate hy]
          exact shf_i ⟨by omega, by omega⟩
      · refine .inl ⟨_, rfl, by simp; omega, fun x hx => ?_⟩
        rcases List.mem_append.mp hx with z | z
        · have := l3 x z; omega
        · rw [List.mem_singleton.mp z]; omega
      · refine .inl ⟨_, rfl, by simp; omega, fun x hx => ?_⟩
        rcases List.mem_append.mp hx with z | z
        · have := l3 x z; omega
        · rw [List.mem_singleton.mp z]; omega
      · rw [eU_D]
        refine loo_of (shf_tup (n := 9) (w := 1921) (k := 0) (fun x hx => ?_) (by simp; omega)) (by decide) (by decide)
        rcases List.mem_append.mp hx with z | z
        · exact small x z
        · rw [List.mem_singleton.mp z]
          exact (shf_bl true).up (by decide) (by decide)
      · exact loo_of shf_non (by decide) (by decide)
      · exact loo_of (shf_i (i := 5) ⟨by omega, by omega⟩) (by decide) (by decide)
    · rw [List.mem_singleton.mp hdm]
      exact loo_of ho (by decide) (by decide)
  · simp only [show decide ((1 : Int) = 0) = false from rfl, show decide ((1 : Int) = 1) = true from rfl, show decide ((1 : Int) = 2) = false from rfl, show decide ((1 : Int) = 3) = false from rfl, show decide ((1 : Int) = 4) = false from rfl, show decide ((1 : Int) = 5) = false from rfl, show decide ((1 : Int) = 6) = false from rfl, Bool.false_eq_true, if_false, if_true, Rt.bind_ok, unO_some]
    rw [show repR (rs.map (eU eI)) (61 : Int) = .ok (repA (rs.map (eU eI)) 61) from if_pos ⟨fun z => by rw [z] at len; simp at len; omega, by omega, by decide, by decide⟩, Rt.bind_ok]
    refine wr_b (wr_idx (by decide) (by rw [len]; omega)) fun d0 hd0 => ?_
    refine wr_b (fodd_f t2) fun ⟨od, T3⟩ ⟨ho, t3⟩ => ?_
    dsimp only at ho t3 ⊢
    rw [cat_ok (by simp; omega), Rt.bind_ok, lete_eq]
    refine wr_b (pick_wr t3 (by decide) (by decide)) fun ⟨m, T4⟩ ⟨hm, t4⟩ => ?_
    dsimp only at hm t4 ⊢
    refine wr_b (wr_idx hm.1 (by simpa using hm.2)) fun d hdm => (wr_ok _).mpr ⟨⟨eT ns, d, rfl, lT, ?_⟩, t4⟩
    simp only [List.mem_cons, List.not_mem_nil, or_false] at hdm
    rcases hdm with q | q | q | q | q | q | q | q <;> subst q
    · rw [eL_D]
      exact (shf_lst (n := 60) hd (by rw [len]; exact hl)).up (by decide) (by decide)
    · exact shf_nil.up (by decide) (by decide)
    · rw [eU_D]
      exact (shf_tup (n := 3660) (fun x hx => hd x (repA_mem hx)) (by rw [repA_len, len]; show 61 * _ ≤ _; omega)).up (by decide) (by decide)
    · exact shf_non.up (by decide) (by decide)
    · exact shf_dnil.up (by decide) (by decide)
    · exact (hd _ hd0).up (by decide) (by decide)
    · exact ho.up (by decide) (by decide)
    · rw [eU_D]
      refine (shf_tup (n := 61) (w := 183) (k := 1) (fun x hx => ?_) (by simp; omega)).up (by decide) (by decide)
      rcases List.mem_append.mp hx with z | z
      · exact hd x z
      · rw [List.mem_singleton.mp z]
        exact shf_nil.up (by decide) (by decide)
  · simp only [show decide ((2 : Int) = 0) = false from rfl, show decide ((2 : Int) = 1) = false from rfl, show decide ((2 : Int) = 2) = true from rfl, show decide ((2 : Int) = 3) = false from rfl, show decide ((2 : Int) = 4) = false from rfl, show decide ((2 : Int) = 5) = false from rfl, show decide ((2 : Int) = 6) = false from rfl, Bool.false_eq_true, if_false, if_true, Rt.bind_ok, unO_some]
    refine wr_b (P := fun (s : List D × Tp) => (s.1.length ≤ 62 ∧ ∀ d ∈ s.1, Shf 120000 9 d) ∧ TapeV s.2) ?_ fun ⟨ds, T5⟩ ⟨⟨hn, hds⟩, t5⟩ => ?_
    · refine wr_b (wr_idx hq'.1 hq'.2) fun d0 hd0 => ?_
      obtain ⟨r, hr, rfl⟩ := List.mem_map.mp hd0
      simp only [er, unO_some, Rt.bind_ok]
      refine wr_b (fodd_f t2) fun ⟨od, T3⟩ ⟨ho, t3⟩ => ?_
      dsimp only at ho t3 ⊢
      have h60 := (hrow r hr).1
      rw [cat_ok (by simp; omega), Rt.bind_ok, cat_ok (by simp; omega), Rt.bind_ok]
      refine wr_b (pick_wr t3 (by decide) (by decide)) fun ⟨m, T4⟩ ⟨hm, t4⟩ => ?_
      dsimp only at hm t4 ⊢
      refine wr_b (wr_idx hm.1 (by simpa using hm.2)) fun d hdm => ?_
      rw [setAt_some _ hq'.1 hq'.2, Rt.bind_ok]
      refine (wr_ok _).mpr ⟨⟨by dsimp only; rw [List.length_set, len]; omega, ?_⟩, t4⟩
      refine shf_put hd ?_
      simp only [List.mem_cons, List.not_mem_nil, or_false] at hdm
      rcases hdm with q | q | q | q | q <;> subst q
      · rw [eL_D]
        refine (shf_lst (n := 60) (w := 1) (k := 0) (fun x hx => ?_) (by rw [List.length_map]; exact h60)).up (by decide) (by decide)
        obtain ⟨y, hy, rfl⟩ := List.mem_map.mp hx
        have := (hrow r hr).2 y hy
        exact shf_dig ⟨by omega, by omega⟩
      · exact ho.up (by decide) (by decide)
      · exact rw6 hr ⟨by omega, by omega⟩
      · exact rw6 hr ⟨by omega, by omega⟩
      · exact shf_non.up (by decide) (by decide)
    · dsimp only at hn hds t5 ⊢
      exact (wr_ok _).mpr ⟨fin ds hds hn, t5⟩
  · simp only [show decide ((3 : Int) = 0) = false from rfl, show decide ((3 : Int) = 1) = false from rfl, show decide ((3 : Int) = 2) = false from rfl, show decide ((3 : Int) = 3) = true from rfl, show decide ((3 : Int) = 4) = false from rfl, show decide ((3 : Int) = 5) = false from rfl, show decide ((3 : Int) = 6) = false from rfl, Bool.false_eq_true, if_false, if_true, Rt.bind_ok, unO_some]
    refine wr_b (P := fun (s : List D) => s.length ≤ 62 ∧ ∀ d ∈ s, Shf 120000 9 d) ?_ fun ds ⟨hn, hds⟩ => ?_
    · refine wr_b (wr_idx hq'.1 hq'.2) fun d0 hd0 => ?_
      obtain ⟨r, hr, rfl⟩ := List.mem_map.mp hd0
      have h60 := (hrow r hr).1
      rw [hj1]
      simp only [er, unO_some, Rt.bind_ok]
      rw [cat_ok (by simp; omega), Rt.bind_ok, setAt_some _ hq'.1 hq'.2, Rt.bind_ok]
      exact (wr_ok _).mpr ⟨by rw [List.length_set, len]; omega, shf_put hd (rw6 hr ⟨by omega, by omega⟩)⟩
    · exact (wr_ok _).mpr ⟨fin ds hds hn, t2⟩
  · simp only [show decide ((4 : Int) = 0) = false from rfl, show decide ((4 : Int) = 1) = false from rfl, show decide ((4 : Int) = 2) = false from rfl, show decide ((4 : Int) = 3) = false from rfl, show decide ((4 : Int) = 4) = true from rfl, show decide ((4 : Int) = 5) = false from rfl, show decide ((4 : Int) = 6) = false from rfl, Bool.false_eq_true, if_false, if_true, Rt.bind_ok, unO_some]
    refine wr_b (P := fun (s : List D) => s.length ≤ 62 ∧ ∀ d ∈ s, Shf 120000 9 d) ?_ fun ds ⟨hn, hds⟩ => ?_
    · refine wr_b (wr_idx hq'.1 hq'.2) fun d0 hd0 => ?_
      obtain ⟨r, hr, rfl⟩ := List.mem_map.mp hd0
      have h60 := (hrow r hr).1
      simp only [er, unO_some, Rt.bind_ok]
      rw [setAt_some _ hq'.1 hq'.2, Rt.bind_ok]
      refine (wr_ok _).mpr ⟨by rw [List.length_set, len]; omega, shf_put hd ?_⟩
      rw [eU_D]
      refine (shf_tup (n := 60) (w := 1) (k := 0) (fun x hx => ?_) (by have := cutA_len (r.map eI) (some (1 : Int)) none; rw [List.length_map] at this; omega)).up (by decide) (by decide)
      obtain ⟨y, hy, rfl⟩ := List.mem_map.mp (cutA_mem hx)
      have := (hrow r hr).2 y hy
      exact shf_dig ⟨by omega, by omega⟩
    · exact (wr_ok _).mpr ⟨fin ds hds hn, t2⟩
  · simp only [show decide ((5 : Int) = 0) = false from rfl, show decide ((5 : Int) = 1) = false from rfl, show decide ((5 : Int) = 2) = false from rfl, show decide ((5 : Int) = 3) = false from rfl, show decide ((5 : Int) = 4) = false from rfl, show decide ((5 : Int) = 5) = true from rfl, show decide ((5 : Int) = 6) = false from rfl, Bool.false_eq_true, if_false, if_true, Rt.bind_ok, unO_some]
    refine wr_b (P := fun (s : List D) => s.length ≤ 62 ∧ ∀ d ∈ s, Shf 120000 9 d) ?_ fun ds ⟨hn, hds⟩ => ?_
    · refine wr_b (wr_idx hq'.1 hq'.2) fun d0 hd0 => ?_
      obtain ⟨r, hr, rfl⟩ := List.mem_map.mp hd0
      have h60 := (hrow r hr).1
      simp only [er, unO_some, Rt.bind_ok]
      rw [mapR_ok (g := fun d => decide (decI d = some 1)) _ fun x hx => by
        obtain ⟨y, hy, rfl⟩ := List.mem_map.mp hx
        rw [show opBR dEq (eD (eI y)) (eI (1 : Int)) = .ok (decide (y = 1)) from opEq enc_I y 1, Rt.bind_ok]
        congr 1
        show decide (y = 1) = decide (some y = some 1)
        simp]
      rw [Rt.bind_ok, setAt_some _ hq'.1 hq'.2, Rt.bind_ok]
      refine (wr_ok _).mpr ⟨by rw [List.length_set, len]; omega, shf_put hd ?_⟩
      refine (shf_tup (n := 60) (w := 5) (k := 0) (fun x hx => ?_) (by rw [List.length_map, List.length_map, List.length_map]; exact h60)).up (by decide) (by decide)
      obtain ⟨y, hy, rfl⟩ := List.mem_map.mp hx
      exact shf_bl y
    · exact (wr_ok _).mpr ⟨fin ds hds hn, t2⟩
  · simp only [show decide ((6 : Int) = 0) = false from rfl, show decide ((6 : Int) = 1) = false from rfl, show decide ((6 : Int) = 2) = false from rfl, show decide ((6 : Int) = 3) = false from rfl, show decide ((6 : Int) = 4) = false from rfl, show decide ((6 : Int) = 5) = false from rfl, show decide ((6 : Int) = 6) = true from rfl, Bool.false_eq_true, if_false, if_true, Rt.bind_ok, unO_some]
    refine wr_b (P := fun (s : List D × Tp) => (s.1.length ≤ 62 ∧ ∀ d ∈ s.1, Shf 120000 9 d) ∧ TapeV s.2) ?_ fun ⟨ds, T5⟩ ⟨⟨hn, hds⟩, t5⟩ => ?_
    · refine wr_b (pick_wr t2 (by rw [len]; omega) (by rw [len]; omega)) fun ⟨m, T4⟩ ⟨hm, t4⟩ => ?_
      dsimp only at hm t4 ⊢
      refine wr_b (wr_idx hm.1 hm.2) fun d hdm => ?_
      rw [show insAt (rs.map (eU eI)) q d = .ok ((rs.map (eU eI)).take q.toNat ++ [d] ++ (rs.map (eU eI)).drop q.toNat) from if_pos ⟨by omega, by omega, by omega⟩, Rt.bind_ok]
      refine (wr_ok _).mpr ⟨⟨by simp; omega, fun x hx => ?_⟩, t4⟩
      dsimp only at hx
      rcases List.mem_append.mp hx with hx | hx
      · rcases List.mem_append.mp hx with hx | hx
        · exact (hd x (List.mem_of_mem_take hx)).up (by decide) (by decide)
        · rw [List.mem_singleton.mp hx]
          exact (hd d hdm).up (by decide) (by decide)
      · exact (hd x (List.mem_of_mem_drop hx)).up (by decide) (by decide)
    · exact (wr_ok _).mpr ⟨fin ds hds hn, t5⟩
theorem fisint_t (x a b : Int) : fisint x a b = .ok (decide (a ≤ x ∧ x ≤ b)) := by
  unfold fisint
  simp
theorem fareints_T_I_I_I_t (xs : List Int) (m a b : Int) : fareints_T_I_I_I xs m a b = .ok (decide ((xs.length : Int) ≤ m ∧ ∀ x ∈ xs, a ≤ x ∧ x ≤ b)) := by
  unfold fareints_T_I_I_I
  by_cases c : (xs.length : Int) > m
  · rw [if_pos (by simpa using c), decide_eq_false (by omega)]
  · rw [if_neg (by simpa using c), lcR_ok (d := fun x => !decide (a ≤ x ∧ x ≤ b)) (g := fun x => x) _ (fun x hx => by rw [fisint_t, Rt.bind_ok]) fun _ _ _ => rfl, Rt.bind_ok]
    congr 1
    rw [Bool.eq_iff_iff]
    simp [List.filter_eq_nil_iff]
    omega
theorem fisintD_t {d : D} {a b : Int} (h : shD d = true) : fisintD d a b = .ok (inI d a b) := by
  unfold fisintD
  cases d with
  | int n =>
    rw [show isiR .int (.int n) = .ok true from rfl, Rt.bind_ok, if_pos rfl, show isiR .bool (.int n) = .ok false from rfl, Rt.bind_ok, if_nf, show decI (.int n) = some n from rfl, unO_some, Rt.bind_ok]
    by_cases c : a ≤ n
    · rw [if_pos (by simpa using c)]
      simp [inI, c]
    · rw [if_neg (by simpa using c)]
      simp [inI, c]
  | bl x => rfl
  | _ => first | rfl | (rw [shD] at h; cases h)
theorem fareintsD_t {d : D} {m a b : Int} (h : shD d = true) : fareintsD d m a b = .ok (areI d m a b) := by
  unfold fareintsD
  rw [isiR_tup h, Rt.bind_ok]
  cases ht : isTup d with
  | false =>
    rw [if_nf, Rt.bind_ok, if_pos rfl]
    congr 1
    cases d <;> first | rfl | cases ht
  | true =>
    obtain ⟨ds, rfl⟩ := isTup_iff.mp ht
    have hd := shD_tup h
    rw [if_neg (by simp), decU_D, unO_some, Rt.bind_ok, Rt.bind_ok]
    by_cases c : (ds.length : Int) > m
    · rw [if_pos (by simpa using c)]
      show _ = Rt.ok (decide ((ds.length : Int) ≤ m) && _)
      rw [decide_eq_false (by omega)]
      rfl
    · rw [if_neg (by simpa using c), Rt.bind_ok, lcR_ok (d := fun x => !inI x a b) (g := fun x => x) _ (fun x hx => by rw [fisintD_t (hd x hx), Rt.bind_ok]) fun _ _ _ => rfl, Rt.bind_ok]
      show _ = Rt.ok (decide ((ds.length : Int) ≤ m) && ds.all fun x => inI x a b)
      rw [decide_eq_true (show (ds.length : Int) ≤ m by omega), Bool.true_and]
      congr 1
      rw [Bool.eq_iff_iff]
      simp [List.filter_eq_nil_iff]
theorem or_len (a : Bool) (n : Nat) : (!a || decide ((n : Int) = 0)) = !(a && decide (0 < n)) := by
  cases a
  · rfl
  · by_cases h : n = 0
    · subst h; rfl
    · rw [decide_eq_false (show ¬((n : Int) = 0) by omega), decide_eq_true (show 0 < n by omega)]; rfl
theorem lpsD_no {ns : List Int} : lpsD (eU eI ns) = (decide ((ns.length : Int) ≤ 8 ∧ ∀ x ∈ ns, 1 ≤ x ∧ x ≤ 40) && decide (0 < ns.length)) := by
  unfold lpsD
  rw [areI_U, tl_U, List.length_map]
theorem fault_loop {ns : List Int} {ds : List D} {f : Int → Unit → Rt (Lp Unit (PySem.Str × Int))} (hf : ∀ (k : Nat) (d : D), ds[k]? = some d → f k () = if (!rowD ns d k) = true then .ok (.rt (("rows" : PySem.Str), (k : Int))) else .ok (.nx ())) : ((forR (rngL 0 ds.length) () f).bind fun o => match o with
    | .inl _ => Rt.ok none
    | .inr v => .ok (some v)) = .ok ((badE ns ds).map fun i => (("rows" : PySem.Str), i)) := by
  rw [forR_first (p := fun k => !rowD ns ((ds[k.toNat]?).getD .non) k) (g := fun k => (("rows" : PySem.Str), k)) _ fun x hx => ?_, badE_rng]
  · cases badE ns ds <;> rfl
  · have := rngL_mem.mp hx
    have hk : x.toNat < ds.length := by omega
    have e := List.getElem?_eq_getElem hk
    have h := hf x.toNat _ e
    rw [show ((x.toNat : Nat) : Int) = x by omega] at h
    rw [e]
    exact h
theorem rowD_yes {ns : List Int} {d : D} {i : Int} (h : areI d 60 0 (ns.length - 1) = true) : ∃ cs, d = eU eI cs ∧ RowOk ns cs ∧ cs.length ≤ 60 ∧ rowD ns d i = decide ((cs.map (vl ns)).sum = i + 1) := by
  obtain ⟨cs, rfl, h1, h2⟩ := rowI_ex h
  refine ⟨cs, rfl, h1, h2, ?_⟩
  unfold rowD
  rw [h, ints_U, Bool.true_and]
theorem rowD_non {ns : List Int} {d : D} {i : Int} (h : areI d 60 0 (ns.length - 1) = false) : rowD ns d i = false := by
  unfold rowD
  rw [h]
  rfl
theorem fltD_loops {a b : D} (h : lpsD a = false) : fltD a b = some (("loops" : PySem.Str), -1) := by
  unfold fltD
  rw [h]
  rfl
theorem fltD_rows {a b : D} (h : lpsD a = true) (hb : (isTup b && (decide (1 ≤ (tl b).length) && decide ((tl b).length ≤ 60))) = false) : fltD a b = some (("rows" : PySem.Str), -1) := by
  unfold fltD
  rw [h, hb]
  rfl
theorem fltD_go {a : D} {ds : List D} (h : lpsD a = true) (hb : 1 ≤ ds.length ∧ ds.length ≤ 60) : fltD a (.tup ds) = (badE (intsD a) ds).map fun i => (("rows" : PySem.Str), i) := by
  unfold fltD
  rw [h, show (isTup (.tup ds) && (decide (1 ≤ (tl (.tup ds)).length) && decide ((tl (.tup ds)).length ≤ 60))) = true from by
    show (true && (decide (1 ≤ ds.length) && decide (ds.length ≤ 60))) = true
    rw [decide_eq_true hb.1, decide_eq_true hb.2]
    rfl]
  rfl
theorem ffaultD_T_D_t {ns : List Int} {b : D} (hb : shD b = true) : ffaultD_T_D ns b = .ok (fltD (eU eI ns) b) := by
  unfold ffaultD_T_D
  rw [fareints_T_I_I_I_t, Rt.bind_ok, or_len, ← lpsD_no]
  cases hl : lpsD (eU eI ns) with
  | false => rw [fltD_loops hl]; rfl
  | true =>
    rw [if_nt, isiR_tup hb, Rt.bind_ok]
    cases ht : isTup b with
    | false =>
      rw [if_nf, Rt.bind_ok, if_pos rfl, fltD_rows hl (by rw [ht]; rfl)]
      all_goals rfl
    | true =>
      obtain ⟨ds, rfl⟩ := isTup_iff.mp ht
      have hd := shD_tup hb
      rw [if_nt, decU_D, unO_some]
      simp only [Rt.bind_ok]
      by_cases c1 : (ds.length : Int) < 1
      · rw [decide_eq_true c1, if_pos rfl, Rt.bind_ok, Rt.bind_ok, if_pos rfl, fltD_rows hl (by show (true && (decide (1 ≤ ds.length) && _)) = false; rw [decide_eq_false (by omega)]; rfl)]
        all_goals rfl
      rw [decide_eq_false c1, if_neg Bool.false_ne_true, Rt.bind_ok, Rt.bind_ok]
      by_cases c2 : (ds.length : Int) > 60
      · rw [decide_eq_true c2, if_pos rfl, fltD_rows hl (by show (true && (_ && decide (ds.length ≤ 60))) = false; rw [decide_eq_false (show ¬ds.length ≤ 60 by omega), Bool.and_false]; rfl)]
        all_goals rfl
      rw [decide_eq_false c2, if_neg Bool.false_ne_true, rng_ok (by omega), Rt.bind_ok, fltD_go hl (by omega), ints_U]
      refine fault_loop fun k d hk => ?_
      have hdm := hd d (List.mem_of_getElem? hk)
      rw [idx_ok (atI_ofNat hk), Rt.bind_ok, fareintsD_t hdm, Rt.bind_ok]
      cases h : areI d 60 0 (ns.length - 1) with
      | false => rw [rowD_non h]; rfl
      | true =>
        obtain ⟨cs, rfl, r1, r2, e⟩ := rowD_yes (i := k) h
        rw [e, if_nt, Rt.bind_ok, show decU decD (eU eI cs) = some (cs.map eI) from decU_D _, unO_some, Rt.bind_ok, mapR_ok (g := fun d => vl ns ((decI d).getD 0)) _ fun x hx => by
          obtain ⟨y, hy, rfl⟩ := List.mem_map.mp hx
          rw [show decI (eI y) = some y from rfl, unO_some, Rt.bind_ok, idx_vl (r1 y hy), Rt.bind_ok]
          rfl, Rt.bind_ok, Rt.bind_ok, List.map_map]
        rfl
theorem ffaultD_t {a b : D} (ha : shD a = true) (hb : shD b = true) : ffaultD a b = .ok (fltD a b) := by
  unfold ffaultD
  rw [fareintsD_t ha, Rt.bind_ok]
  cases hr : areI a 8 1 40 with
  | false => rw [fltD_loops (by unfold lpsD; rw [hr]; rfl)]; rfl
  | true =>
    obtain ⟨ns, rfl, l1, l2⟩ := areI_ex hr
    have ed : decU decD (eU eI ns) = some (ns.map eI) := decU_D _
    have e0 : decide (((ns.map eI).length : Int) = 0) = !lpsD (eU eI ns) := by
      have := or_len true ns.length
      rw [List.length_map, lpsD_no, decide_eq_true (show (ns.length : Int) ≤ 8 ∧ ∀ x ∈ ns, 1 ≤ x ∧ x ≤ 40 from ⟨l1, l2⟩)]
      exact this
    rw [if_nt, ed, unO_some, Rt.bind_ok, Rt.bind_ok, e0]
    cases hl : lpsD (eU eI ns) with
    | false => rw [fltD_loops hl]; rfl
    | true =>
      rw [if_nt, isiR_tup hb, Rt.bind_ok]
      cases ht : isTup b with
      | false =>
        rw [if_nf, Rt.bind_ok, if_pos rfl, fltD_rows hl (by rw [ht]; rfl)]
        all_goals rfl
      | true =>
        obtain ⟨ds, rfl⟩ := isTup_iff.mp ht
        have hd := shD_tup hb
        rw [if_nt, decU_D, unO_some]
        simp only [Rt.bind_ok]
        by_cases c1 : (ds.length : Int) < 1
        · rw [decide_eq_true c1, if_pos rfl, Rt.bind_ok, Rt.bind_ok, if_pos rfl, fltD_rows hl (by show (true && (decide (1 ≤ ds.length) && _)) = false; rw [decide_eq_false (by omega)]; rfl)]
          all_goals rfl
        rw [decide_eq_false c1, if_neg Bool.false_ne_true, Rt.bind_ok, Rt.bind_ok]
        by_cases c2 : (ds.length : Int) > 60
        · rw [decide_eq_true c2, if_pos rfl, fltD_rows hl (by show (true && (_ && decide (ds.length ≤ 60))) = false; rw [decide_eq_false (show ¬ds.length ≤ 60 by omega), Bool.and_false]; rfl)]
          all_goals rfl
        rw [decide_eq_false c2, if_neg Bool.false_ne_true, rng_ok (by omega), Rt.bind_ok, fltD_go hl (by omega), ints_U]
        refine fault_loop fun k d hk => ?_
        have hdm := hd d (List.mem_of_getElem? hk)
        rw [idx_ok (atI_ofNat hk), Rt.bind_ok, List.length_map, fareintsD_t hdm, Rt.bind_ok]
        cases h : areI d 60 0 (ns.length - 1) with
        | false => rw [rowD_non h]; rfl
        | true =>
          obtain ⟨cs, rfl, r1, r2, e⟩ := rowD_yes (i := k) h
          rw [e, if_nt, Rt.bind_ok, show decU decD (eU eI cs) = some (cs.map eI) from decU_D _, unO_some, Rt.bind_ok, mapR_ok (g := fun d => vl ns ((decI d).getD 0)) _ fun x hx => by
            obtain ⟨y, hy, rfl⟩ := List.mem_map.mp hx
            rw [decU_I, unO_some, Rt.bind_ok, show decI (eI y) = some y from rfl, unO_some, Rt.bind_ok, idx_vl (r1 y hy), Rt.bind_ok]
            rfl, Rt.bind_ok, Rt.bind_ok, List.map_map]
          rfl
theorem ffaultDX_t {a b : D} (ha : Loo a) (hb : shD b = true) : ffaultDX a b = .ok (fltD (unT a) b) := by
  rcases ha with ⟨ns, rfl, _, _⟩ | ⟨h, _, _⟩
  · exact ffaultD_T_D_t hb
  · have e : unT a = a := by
      unfold unT
      cases a <;> first | rfl | (rw [shD] at h; cases h)
    rw [e]
    refine Eq.trans ?_ (ffaultD_t h hb)
    unfold ffaultDX
    cases a <;> first | rfl | (rw [shD] at h; cases h)
theorem pisinteger_t (i : Int) : pisinteger i = .ok true := rfl
theorem piswithin_t (x a b : Int) : piswithin x a b = .ok (decide (a ≤ x ∧ x ≤ b)) := by
  unfold piswithin
  rw [pisinteger_t, Rt.bind_ok]
  simp
theorem parewithin_T_I_I_I_t (xs : List Int) (m a b : Int) : parewithin_T_I_I_I xs m a b = .ok (decide ((xs.length : Int) ≤ m ∧ ∀ x ∈ xs, a ≤ x ∧ x ≤ b)) := by
  unfold parewithin_T_I_I_I
  by_cases c : (xs.length : Int) > m
  · rw [if_pos (by simpa using c), decide_eq_false (by omega)]
  · rw [if_neg (by simpa using c), mapR_ok (g := fun x => decide (a ≤ x ∧ x ≤ b)) _ fun x _ => by rw [piswithin_t, Rt.bind_ok]]
    rw [Rt.bind_ok]
    congr 1
    rw [Bool.eq_iff_iff]
    simp
    omega
theorem pisintegerD_t {d : D} (h : shD d = true) : pisintegerD d = .ok (match d with | .int _ => true | _ => false) := by
  cases d <;> first | rfl | (rw [shD] at h; cases h)
theorem piswithinD_t {d : D} {a b : Int} (h : shD d = true) : piswithinD d a b = .ok (inI d a b) := by
  unfold piswithinD
  rw [pisintegerD_t h, Rt.bind_ok]
  cases d with
  | int n =>
    show Rt.ok (decide (a ≤ n) && decide (n ≤ b)) = .ok (decide (a ≤ n ∧ n ≤ b))
    congr 1
    simp
  | _ => rfl
theorem parewithinD_d {d : D} {m a b : Int} (h : shD d = true) : parewithinD d m a b = .ok (areI d m a b) := by
  unfold parewithinD
  rw [isiR_tup h, Rt.bind_ok]
  cases ht : isTup d with
  | false =>
    rw [if_nf, Rt.bind_ok, if_pos rfl]
    congr 1
    cases d <;> first | rfl | cases ht
  | true =>
    obtain ⟨ds, rfl⟩ := isTup_iff.mp ht
    have hd := shD_tup h
    rw [if_neg (by simp), decU_D, unO_some, Rt.bind_ok, Rt.bind_ok]
    by_cases c : (ds.length : Int) > m
    · rw [if_pos (by simpa using c)]
      show _ = Rt.ok (decide ((ds.length : Int) ≤ m) && _)
      rw [decide_eq_false (by omega)]
      rfl
    · rw [if_neg (by simpa using c), Rt.bind_ok, mapR_ok (g := fun x => inI x a b) _ fun x hx => by rw [piswithinD_t (hd x hx), Rt.bind_ok], Rt.bind_ok]
      show _ = Rt.ok (decide ((ds.length : Int) ≤ m) && ds.all fun x => inI x a b)
      rw [decide_eq_true (show (ds.length : Int) ≤ m by omega), Bool.true_and, List.all_map]
      rfl
theorem pisrowD_T_D_t {ns : List Int} {d : D} (h : shD d = true) : pisrowD_T_D ns d = .ok (areI d 60 0 (ns.length - 1)) := by
  unfold pisrowD_T_D
  rw [parewithinD_d h, Rt.bind_ok]
theorem psumof_T_UI_t {ns r : List Int} (h : RowOk ns r) : psumof_T_UI ns r = .ok (r.map (vl ns)).sum := by
  unfold psumof_T_UI
  rw [mapR_ok (g := vl ns) _ fun x hx => by rw [idx_vl (h x hx), Rt.bind_ok], Rt.bind_ok]
theorem pentriesof_T_UI_t {ns r : List Int} (h : RowOk ns r) (hl : r.length ≤ 60) : pentriesof_T_UI ns r = .ok (entR ns r) := by
  unfold pentriesof_T_UI
  rw [psumof_T_UI_t h, Rt.bind_ok]
  have := forS_pre (f := fun x396 (s395 : Int × Int × List (Int × Int × Int)) =>
    (push (s395.2.2 : (List (Int × Int × Int))) (x396, s395.2.1, s395.1)).bind fun vfound399 => (idx ns x396).bind fun a402 => lete ((s395.2.1 + a402) : Int) fun vgone403 => (idx ns x396).bind fun a406 => lete ((s395.1 - a406) : Int) fun vleft407 => .ok (vleft407, vgone403, vfound399))
    (fun p => ((r.map (vl ns)).sum - (p.map (vl ns)).sum, 0 + (p.map (vl ns)).sum, entL (vl ns) 0 (r.map (vl ns)).sum p)) r (s0 := ((r.map (vl ns)).sum, 0, [])) (by simp [entL]) fun p x q e => ?_
  · refine (congrArg (fun y => Rt.bind y _) this).trans ?_
    rfl
  · have hp := len_pre e
    have hx := h x (mem_pre e)
    rw [push_ok (by rw [entL_len]; omega), Rt.bind_ok, idx_vl hx, Rt.bind_ok, lete_eq, Rt.bind_ok, lete_eq, entL_snoc]
    simp only [List.map_append, List.sum_append, List.map_cons, List.map_nil, List.sum_cons, List.sum_nil]
    congr 2
    · omega
    · congr 1
      omega
theorem badE_none {ns : List Int} {ds : List D} (h : badE ns ds = none) : ∀ d ∈ ds, ∃ cs, d = eU eI cs ∧ RowOk ns cs ∧ cs.length ≤ 60 := fun d hd => by
  unfold badE at h
  rw [Option.map_eq_none_iff, List.find?_eq_none] at h
  obtain ⟨k, hk⟩ := List.getElem?_of_mem hd
  have := h ((k : Int), d) (List.mem_of_getElem? (i := k) (by rw [enuL_get, hk]; simp))
  have hr : rowD ns d k = true := by simpa using this
  cases e : areI d 60 0 (ns.length - 1) with
  | false => rw [rowD_non e] at hr; cases hr
  | true =>
    obtain ⟨cs, rfl, h1, h2⟩ := rowI_ex e
    exact ⟨cs, rfl, h1, h2⟩
theorem loops_T {ns : List Int} : pisloops_T ns = .ok (lpsD (eU eI ns)) := by
  unfold pisloops_T
  rw [parewithin_T_I_I_I_t, Rt.bind_ok, lpsD_no]
  congr 2
  simp
theorem enuL_in {A : Type} {ds : List A} {x : Int × A} (h : x ∈ enuL 0 ds) : x.2 ∈ ds := by
  obtain ⟨i, hi⟩ := List.getElem?_of_mem h
  rw [enuL_get] at hi
  cases e : ds[i]? with
  | none => rw [e] at hi; cases hi
  | some d =>
    rw [e] at hi
    cases hi
    exact List.mem_of_getElem? e
theorem pTableinitD_T_D_t {ns : List Int} {b : D} (hb : shD b = true) : match fltD (eU eI ns) b with
    | none => ∃ es, pTableinitD_T_D ns b = .ok ⟨ns, b, ((tl b).length : Int), es⟩
    | some p => pTableinitD_T_D ns b = .exc "BadTable" [("at", eI p.2), ("part", eS p.1)] := by
  unfold pTableinitD_T_D
  rw [loops_T, Rt.bind_ok]
  cases hl : lpsD (eU eI ns) with
  | false => rw [fltD_loops hl]; rfl
  | true =>
    rw [if_nt, isiR_tup hb, Rt.bind_ok]
    cases ht : isTup b with
    | false =>
      rw [if_nf, Rt.bind_ok, if_pos rfl, fltD_rows hl (by rw [ht]; rfl)]
      all_goals rfl
    | true =>
      obtain ⟨ds, rfl⟩ := isTup_iff.mp ht
      have hd := shD_tup hb
      rw [if_nt, decU_D, unO_some]
      simp only [Rt.bind_ok]
      cases hc : (decide ((1 : Int) ≤ (ds.length : Int)) && decide ((ds.length : Int) ≤ (60 : Int))) with
      | false =>
        rw [fltD_rows hl (by
          show (true && (decide (1 ≤ ds.length) && decide (ds.length ≤ 60))) = false
          rw [← hc, Bool.true_and]
          congr 1 <;> exact decide_eq_decide.mpr (by omega))]
        rfl
      | true =>
        have c : 1 ≤ ds.length ∧ ds.length ≤ 60 := by
          rw [Bool.and_eq_true] at hc
          have := of_decide_eq_true hc.1
          have := of_decide_eq_true hc.2
          omega
        have eb : badE ns ds = ((enuL 0 ds).find? fun x => !rowD ns x.2 x.1).map (·.1) := rfl
        rw [if_nt, fltD_go hl c, ints_U, forS_first (p := fun x : Int × D => !rowD ns x.2 x.1) (c := "BadTable") (g := fun x => [("at", eI x.1), ("part", eS ("rows" : PySem.Str))]) _ fun x hx => ?_, eb]
        · cases hf : (enuL 0 ds).find? fun x => !rowD ns x.2 x.1 with
          | some x => rfl
          | none =>
            have hn : badE ns ds = none := by rw [eb, hf]; rfl
            have hr := badE_none hn
            show ∃ es, _
            simp only [Rt.bind_ok]
            rw [mapR_ok (g := fun d => entR ns (intsD d)) _ fun d hd => by
              obtain ⟨cs, rfl, h1, h2⟩ := hr d hd
              rw [decU_I, unO_some, Rt.bind_ok, pentriesof_T_UI_t h1 h2, Rt.bind_ok, ints_U]]
            rw [Rt.bind_ok, cat_ok (by simp; omega), Rt.bind_ok]
            exact ⟨_, rfl⟩
        · have hdm := hd x.2 (enuL_in hx)
          rw [pisrowD_T_D_t hdm, Rt.bind_ok]
          cases h : areI x.2 60 0 (ns.length - 1) with
          | false => rw [rowD_non h]; rfl
          | true =>
            obtain ⟨cs, e1, r1, r2, e⟩ := rowD_yes (i := x.1) h
            rw [e, e1, if_nt, decU_I, unO_some, Rt.bind_ok, psumof_T_UI_t r1, Rt.bind_ok, Rt.bind_ok]
theorem ftriedD_T_D_t {ns : List Int} {b : D} (hb : shD b = true) : ftriedD_T_D ns b = .ok (match fltD (eU eI ns) b with
    | none => [eS "told", eT ns, b, eI ((tl b).length : Int)]
    | some p => [eS "bad", eS p.1, eI p.2]) := by
  have h := pTableinitD_T_D_t (ns := ns) hb
  unfold ftriedD_T_D
  rw [lete_eq]
  cases e : fltD (eU eI ns) b with
  | none =>
    rw [e] at h
    obtain ⟨es, h⟩ := h
    rw [h]
    rfl
  | some p =>
    rw [e] at h
    rw [show pTableinitD_T_D ns b = _ from h]
    rfl
theorem pisrowD_UI_D_t {ns : List Int} {d : D} (h : shD d = true) : pisrowD_UI_D ns d = .ok (areI d 60 0 (ns.length - 1)) := by
  unfold pisrowD_UI_D
  rw [parewithinD_d h, Rt.bind_ok]
theorem psumof_UI_UI_t {ns r : List Int} (h : RowOk ns r) : psumof_UI_UI ns r = .ok (r.map (vl ns)).sum := by
  unfold psumof_UI_UI
  rw [mapR_ok (g := vl ns) _ fun x hx => by rw [idx_vl (h x hx), Rt.bind_ok], Rt.bind_ok]
theorem pentriesof_UI_UI_t {ns r : List Int} (h : RowOk ns r) (hl : r.length ≤ 60) : pentriesof_UI_UI ns r = .ok (entR ns r) := by
  unfold pentriesof_UI_UI
  rw [psumof_UI_UI_t h, Rt.bind_ok]
  have := forS_pre (f := fun x396 (s395 : Int × Int × List (Int × Int × Int)) =>
    (push (s395.2.2 : (List (Int × Int × Int))) (x396, s395.2.1, s395.1)).bind fun vfound399 => (idx ns x396).bind fun a402 => lete ((s395.2.1 + a402) : Int) fun vgone403 => (idx ns x396).bind fun a406 => lete ((s395.1 - a406) : Int) fun vleft407 => .ok (vleft407, vgone403, vfound399))
    (fun p => ((r.map (vl ns)).sum - (p.map (vl ns)).sum, 0 + (p.map (vl ns)).sum, entL (vl ns) 0 (r.map (vl ns)).sum p)) r (s0 := ((r.map (vl ns)).sum, 0, [])) (by simp [entL]) fun p x q e => ?_
  · refine (congrArg (fun y => Rt.bind y _) this).trans ?_
    rfl
  · have hp := len_pre e
    have hx := h x (mem_pre e)
    rw [push_ok (by rw [entL_len]; omega), Rt.bind_ok, idx_vl hx, Rt.bind_ok, lete_eq, Rt.bind_ok, lete_eq, entL_snoc]
    simp only [List.map_append, List.sum_append, List.map_cons, List.map_nil, List.sum_cons, List.sum_nil]
    congr 2
    · omega
    · congr 1
      omega
theorem loops_D {d : D} (h : shD d = true) : pisloopsD d = .ok (lpsD d) := by
  unfold pisloopsD lpsD
  rw [parewithinD_d h, Rt.bind_ok]
  cases ha : areI d 8 1 40 with
  | false => rfl
  | true =>
    obtain ⟨ns, rfl, _, _⟩ := areI_ex ha
    rw [show decU decD (eU eI ns) = some (ns.map eI) from decU_D _, unO_some, if_pos rfl]
    simp [Rt.bind_ok, tl_U, Rt.bind]
theorem pTableinitD_t {a b : D} (ha : shD a = true) (hb : shD b = true) : match fltD a b with
    | none => ∃ es, pTableinitD a b = .ok ⟨a, b, ((tl b).length : Int), es⟩
    | some p => pTableinitD a b = .exc "BadTable" [("at", eI p.2), ("part", eS p.1)] := by
  unfold pTableinitD
  rw [loops_D ha, Rt.bind_ok]
  cases hl : lpsD a with
  | false => rw [fltD_loops hl]; rfl
  | true =>
    obtain ⟨ns, rfl, hns⟩ := lpsD_ex hl
    rw [if_nt, isiR_tup hb, Rt.bind_ok]
    cases ht : isTup b with
    | false =>
      rw [if_nf, Rt.bind_ok, if_pos rfl, fltD_rows hl (by rw [ht]; rfl)]
      all_goals rfl
    | true =>
      obtain ⟨ds, rfl⟩ := isTup_iff.mp ht
      have hd := shD_tup hb
      rw [if_nt, decU_D, unO_some]
      simp only [Rt.bind_ok]
      cases hc : (decide ((1 : Int) ≤ (ds.length : Int)) && decide ((ds.length : Int) ≤ (60 : Int))) with
      | false =>
        rw [fltD_rows hl (by
          show (true && (decide (1 ≤ ds.length) && decide (ds.length ≤ 60))) = false
          rw [← hc, Bool.true_and]
          congr 1 <;> exact decide_eq_decide.mpr (by omega))]
        rfl
      | true =>
        have c : 1 ≤ ds.length ∧ ds.length ≤ 60 := by
          rw [Bool.and_eq_true] at hc
          have := of_decide_eq_true hc.1
          have := of_decide_eq_true hc.2
          omega
        have eb : badE ns ds = ((enuL 0 ds).find? fun x => !rowD ns x.2 x.1).map (·.1) := rfl
        rw [if_nt, fltD_go hl c, ints_U, forS_first (p := fun x : Int × D => !rowD ns x.2 x.1) (c := "BadTable") (g := fun x => [("at", eI x.1), ("part", eS ("rows" : PySem.Str))]) _ fun x hx => ?_, eb]
        · cases hf : (enuL 0 ds).find? fun x => !rowD ns x.2 x.1 with
          | some x => rfl
          | none =>
            have hn : badE ns ds = none := by rw [eb, hf]; rfl
            have hr := badE_none hn
            show ∃ es, _
            simp only [Rt.bind_ok]
            rw [mapR_ok (g := fun d => entR ns (intsD d)) _ fun d hd => by
              obtain ⟨cs, rfl, h1, h2⟩ := hr d hd
              rw [decU_I, unO_some, Rt.bind_ok, decU_I, unO_some, Rt.bind_ok, pentriesof_UI_UI_t h1 h2, Rt.bind_ok, ints_U]]
            rw [Rt.bind_ok, cat_ok (by simp; omega), Rt.bind_ok]
            exact ⟨_, rfl⟩
        · have hdm := hd x.2 (enuL_in hx)
          rw [decU_I, unO_some, Rt.bind_ok, pisrowD_UI_D_t hdm, Rt.bind_ok]
          cases h : areI x.2 60 0 (ns.length - 1) with
          | false => rw [rowD_non h]; rfl
          | true =>
            obtain ⟨cs, e1, r1, r2, e⟩ := rowD_yes (i := x.1) h
            rw [e, e1, if_nt, Rt.bind_ok, decU_I, unO_some, Rt.bind_ok, psumof_UI_UI_t r1, Rt.bind_ok, Rt.bind_ok]
theorem ftriedD_t {a b : D} (ha : shD a = true) (hb : shD b = true) : ftriedD a b = .ok (match fltD a b with
    | none => [eS "told", a, b, eI ((tl b).length : Int)]
    | some p => [eS "bad", eS p.1, eI p.2]) := by
  have h := pTableinitD_t ha hb
  unfold ftriedD
  rw [lete_eq]
  cases e : fltD a b with
  | none =>
    rw [e] at h
    obtain ⟨es, h⟩ := h
    rw [h]
    rfl
  | some p =>
    rw [e] at h
    rw [show pTableinitD a b = _ from h]
    rfl
theorem unT_sh {a : D} (h : shD a = true) : unT a = a := by
  unfold unT
  cases a <;> first | rfl | (rw [shD] at h; cases h)
theorem ftriedDX_t {a b : D} (ha : Loo a) (hb : shD b = true) : ftriedDX a b = .ok (match fltD (unT a) b with
    | none => [eS "told", a, b, eI ((tl b).length : Int)]
    | some p => [eS "bad", eS p.1, eI p.2]) := by
  rcases ha with ⟨ns, rfl, _, _⟩ | ⟨h, _, _⟩
  · exact ftriedD_T_D_t hb
  · rw [unT_sh h]
    refine Eq.trans ?_ (ftriedD_t h hb)
    unfold ftriedDX
    cases a <;> first | rfl | (rw [shD] at h; cases h)
theorem flt_none {a b : D} (h : fltD a b = none) : lpsD a = true ∧ ∃ ds, b = .tup ds ∧ ∀ d ∈ ds, ∃ cs, d = eU eI cs := by
  cases hl : lpsD a with
  | false => rw [fltD_loops hl] at h; cases h
  | true =>
    refine ⟨rfl, ?_⟩
    cases hb : (isTup b && (decide (1 ≤ (tl b).length) && decide ((tl b).length ≤ 60))) with
    | false => rw [fltD_rows hl hb] at h; cases h
    | true =>
      have hb2 := hb
      rw [Bool.and_eq_true] at hb2
      obtain ⟨ds, rfl⟩ := isTup_iff.mp hb2.1
      unfold fltD at h
      rw [hl, hb, if_pos rfl, if_pos rfl, show tl (.tup ds) = ds from rfl] at h
      have hn : badE (intsD a) ds = none := Option.map_eq_none_iff.mp h
      exact ⟨ds, rfl, fun d hd => by
        obtain ⟨cs, e, _⟩ := badE_none hn d hd
        exact ⟨cs, e⟩⟩
theorem pl_ints {n : Nat} (cs : List Int) : Pl (n + 1) (eU eI cs) := by
  show Pl (n + 1) (.tup (cs.map eI))
  rw [pl_tup]
  intro d hd
  obtain ⟨x, _, rfl⟩ := List.mem_map.mp hd
  show Pl n (.int x)
  rw [pl_int]
  trivial
theorem told_pl {a b : D} {n : Int} (ha : Loo a) (h : fltD (unT a) b = none) : Pl 40 (.tup [eS "told", a, b, eI n]) := by
  obtain ⟨hl, ds, rfl, hd⟩ := flt_none h
  rw [pl_tup]
  intro x hx
  simp only [List.mem_cons, List.not_mem_nil, or_false] at hx
  rcases hx with q | q | q | q <;> subst q
  · show Pl 39 (.str _); rw [pl_str]; trivial
  · rcases ha with ⟨ns, rfl, _⟩ | ⟨hs, _⟩
    · rw [pl_tpl]; trivial
    · rw [unT_sh hs] at hl
      obtain ⟨ns, rfl, _⟩ := lpsD_ex hl
      exact pl_ints ns
  · rw [pl_tup]
    intro d hdd
    obtain ⟨cs, rfl⟩ := hd d hdd
    exact pl_ints cs
  · show Pl 39 (.int _); rw [pl_int]; trivial
theorem bad_pl {s : PySem.Str} {n : Int} : Pl 40 (.tup [eS "bad", eS s, eI n]) := by
  rw [pl_tup]
  intro x hx
  simp only [List.mem_cons, List.not_mem_nil, or_false] at hx
  rcases hx with q | q | q <;> subst q
  · show Pl 39 (.str _); rw [pl_str]; trivial
  · show Pl 39 (.str _); rw [pl_str]; trivial
  · show Pl 39 (.int _); rw [pl_int]; trivial
theorem law_ok (sc : List Int) (T : Tp) (ht : TapeV T) : wr (flaw sc T) fun b => b.1 = true := by
  unfold flaw
  refine wr_b (floops_t (by omega) (by omega) ht) fun ⟨ns0, T1⟩ ⟨hL, t1⟩ => ?_
  dsimp only at hL t1 ⊢
  refine wr_b (P := fun s : List Int × Tp => (Lps s.1 ∧ 1 ∈ s.1) ∧ TapeV s.2) ?_ fun ⟨ns, T2⟩ ⟨⟨hl, h1⟩, t2⟩ => ?_
  · refine wr_b (pick_wr t1 (by omega) (by omega)) fun ⟨k, T2⟩ ⟨hk, t2⟩ => ?_
    dsimp only at hk t2 ⊢
    split
    · obtain ⟨z1, z2, z3, z4⟩ := hL
      have ex : HT.sIx ns0.length 0 (some (1 : Int)) = min 1 ns0.length := HT.sIx_nat ns0.length 0 1
      have ec : cutT ns0 (some 1) (some 7) = .ok (cutA ns0 (some 1) (some 7)) := by
        unfold cutT
        rw [if_neg fun z => by rw [ex] at z; omega]
      have hc : (cutA ns0 (some (1 : Int)) (some (7 : Int))).length ≤ 6 := by
        unfold cutA
        rw [List.length_take, ex, show HT.sIx ns0.length ns0.length (some (7 : Int)) = min 7 ns0.length from HT.sIx_nat ns0.length ns0.length 7]
        omega
      have hm : ∀ x ∈ cutA ns0 (some (1 : Int)) (some (7 : Int)), 1 ≤ x ∧ x ≤ 6 := fun x hx => z3 x (cutA_mem hx)
      generalize cutA ns0 (some (1 : Int)) (some (7 : Int)) = cs at ec hc hm
      rw [ec, Rt.bind_ok, cat_ok (by simp; omega), Rt.bind_ok, show catT ([(1 : Int)] ++ cs) [(40 : Int)] = .ok ([1] ++ cs ++ [40]) from if_pos ⟨by simp, by simp, by simp; omega⟩, Rt.bind_ok]
      refine (wr_ok _).mpr ⟨⟨⟨by simp, by simp; omega, fun x hx => ?_⟩, by simp⟩, t2⟩
      simp only [List.mem_append, List.mem_singleton] at hx
      rcases hx with (q | q) | q
      · omega
      · have := hm x q; omega
      · omega
    · exact (wr_ok _).mpr ⟨⟨hL.lps (by omega) (by omega), hL.2.2.2⟩, t2⟩
  dsimp only at hl h1 t2 ⊢
  refine wr_b (pick_wr t2 (by omega) (by omega)) fun ⟨b0, T3⟩ ⟨hb0, t3⟩ => ?_
  dsimp only at hb0 t3 ⊢
  rw [lete_eq]
  refine wr_b (P := fun s : Int × Tp => (1 ≤ s.1 ∧ s.1 ≤ 60) ∧ TapeV s.2) ?_ fun ⟨b, T4⟩ ⟨hb, t4⟩ => ?_
  · refine wr_b (pick_wr t3 (by omega) (by omega)) fun ⟨k, T2⟩ ⟨hk, t2⟩ => ?_
    dsimp only at hk t2 ⊢
    split
    · exact (wr_ok _).mpr ⟨⟨by dsimp only; omega, by dsimp only; omega⟩, t2⟩
    · exact (wr_ok _).mpr ⟨⟨by dsimp only; omega, by dsimp only; omega⟩, t2⟩
  dsimp only at hb t4 ⊢
  refine wr_b (frows_T_I_t hl h1 hb t4) fun ⟨rows, T5⟩ ⟨⟨h, hlen⟩, t5⟩ => ?_
  dsimp only at h hlen t5 ⊢
  refine wr_b (wr_forR (Q := fun o => match o with | .inl s => TapeV s | .inr _ => False) (fun _ s => TapeV s) _ 0 _ t5 (fun i x s _ ts => ?_) fun s ts => ts) fun o ho => ?_
  · rw [lete_eq]
    refine wr_b (P := fun q : D × Tp => Asked6 q.1 ∧ TapeV q.2) ?_ fun ⟨d, T6⟩ ⟨hd, t6⟩ => ?_
    · refine wr_b (pick_wr ts (by omega) (by omega)) fun ⟨k2, T7⟩ ⟨hk2, t7⟩ => ?_
      dsimp only at hk2 t7 ⊢
      split
      · exact wr_b (fbentD_T_D_t h h1 t7) fun ⟨d, T3⟩ ⟨hd, t3⟩ => (wr_ok _).mpr ⟨hd, t3⟩
      · refine (wr_ok _).mpr ⟨⟨eT ns, eU (eU eI) rows, rfl, .inl ⟨ns, rfl, by have := hl.2.1; omega, fun x hx => by have := hl.2.2 x hx; omega⟩, ?_⟩, t7⟩
        refine (shf_tup (ds := rows.map (eU eI)) (n := 60) (w := 183) (k := 1) (fun x hx => ?_) (by rw [List.length_map]; exact h.len)).up (by decide) (by decide)
        obtain ⟨r, hr, rfl⟩ := List.mem_map.mp hx
        obtain ⟨w, w1, w2, hw⟩ := h.rw hr
        have := row_len hl hw.ok
        rw [hw.sum] at this
        exact shf_row (by omega) fun y hy => by have := hw.ok y hy; have := hl.2.1; omega
    dsimp only at hd t6 ⊢
    have er := hd.repr
    obtain ⟨a, b, rfl, ha, hb⟩ := hd
    have ed : decU decD (.tup [a, b]) = some [a, b] := decU_D _
    rw [show eD (.tup [a, b]) = .tup [a, b] from rfl, er]
    simp only [ed, unO_some, Rt.bind_ok, show idx [a, b] (0 : Int) = .ok a from rfl, show idx [a, b] (1 : Int) = .ok b from rfl]
    rw [ffaultDX_t ha hb.1, Rt.bind_ok, ftriedDX_t ha hb.1, Rt.bind_ok, if_neg (by simp)]
    cases e : fltD (unT a) b with
    | some p =>
      dsimp only
      rw [show Option.isSome (some p) = true from rfl, if_pos rfl, unO_some, Rt.bind_ok, cat_ok (by simp), Rt.bind_ok,
        show opBR dNe (eU eD [eS ("bad" : PySem.Str), eS p.1, eI p.2]) (eU eD ([eS ("bad" : PySem.Str)] ++ [eS p.1, eI p.2])) = .ok false from opNe_self bad_pl, Rt.bind_ok, if_neg Bool.false_ne_true,
        show idx [eS ("bad" : PySem.Str), eS p.1, eI p.2] (2 : Int) = .ok (eI p.2) from rfl, Rt.bind_ok, show isiR .bool (eI p.2) = .ok false from rfl, Rt.bind_ok, Rt.bind_ok, Rt.bind_ok, if_neg Bool.false_ne_true,
        show Option.isNone (some p) = false from rfl, if_neg Bool.false_ne_true, Rt.bind_ok, if_neg Bool.false_ne_true]
      exact (wr_ok _).mpr t6
    | none =>
      obtain ⟨_, ds, rfl, _⟩ := flt_none e
      dsimp only
      rw [show Option.isSome (none : Option (PySem.Str × Int)) = false from rfl, if_neg Bool.false_ne_true, Rt.bind_ok, if_neg Bool.false_ne_true, show Option.isNone (none : Option (PySem.Str × Int)) = true from rfl, if_pos rfl]
      simp only [decU_D, unO_some, Rt.bind_ok]
      rw [show opBR dNe (eU eD [eS ("told" : PySem.Str), a, .tup ds, eI ((tl (.tup ds)).length : Int)]) (e4 eS eD eD eI (("told" : PySem.Str), a, .tup ds, (ds.length : Int))) = .ok false from opNe_self (told_pl ha e), Rt.bind_ok, Rt.bind_ok, if_neg Bool.false_ne_true]
      exact (wr_ok _).mpr t6
  · cases o with
    | inr v => exact ho.elim
    | inl s => exact (wr_ok _).mpr rfl
theorem law_true : ∀ ns : List Int, ns.length ≤ 63 → ∃ T, M_law [.scr ns] none = .ok (.val (.bl true), T) := law_of law_ok
end Gk06
open PySem PySem.W PySem.Calls PyProof.Rows
theorem PySem.Challenge.cw_loopstore_k06_tables_judged_holds : PySem.Challenge.rw_loopstore_k06_tables_judged.Holds := by
  w_on; o_law
  refine HandSHeadRun.head_any (r := OpenLaw.row PySem.Challenge.rw_loopstore_k06_tables_judged) (q := view (OpenLaw.row PySem.Challenge.rw_loopstore_k06_tables_judged).prog [32]) (H := Gk06.hk) (ob := Gk06.ob) (M := 4000) (loose := Gk06.loose) (d := HandSHeadRun.topDef (OpenLaw.row PySem.Challenge.rw_loopstore_k06_tables_judged).prog 32) (kwd := []) Gk06.ob_eq
    (by kernel_rfl) (fun s => by kernel_rfl) Gk06.run (by kernel_rfl) (by kernel_rfl) (by kernel_rfl) (by rfl) (by first | assumption | decide +kernel) (by decide +kernel) ⟨rfl, rfl, rfl, rfl, rfl, by decide +kernel⟩ ?hw ?hc
  case hw => w_witness2
  case hc =>
    exact Pu.walkG (l := PySem.Challenge.rw_loopstore_k06_tables_judged) (k := 8) (x := "_law_script") (M := Gk06.M_law) rfl (by kernel_rfl) ⟨rfl, by decide, by decide⟩ (by kernel_rfl) Gk06.law_true fun K c => Gk06.fd_law c
