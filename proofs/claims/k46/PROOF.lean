import PyProof.Rows.All
import Wide.All
import OpenK.AllK
import Wide.FinOn
import HandS.ForMost
import HandS.ForExc
import HandS.SortOrd
import HandS.Deep
import HandS.IsInst
import HandS.Defaults
import KE.KDictKeyed
import HandS.TupAny
import HandS.TupMul
import HandS.Style
import HandS.Wide
import HandS.WordsExc
import KE.SortData
import KE.DataEq
import KE.DataCmp
import HandS.NoneIn
import KE.DataMinMax
import KE.KTupSum
import KE.GoesEnum
import HandS.Head0
import HandS.Head1
import HandS.Head2
import HandS.HeadEnd
import HandS.HeadHook1
import HandS.HeadHook2
import HandS.More
import HandS.DictTup
import HandS.WordsDict
import HandS.Small
import HandS.TupLen
import HandS.TupLe
import HandS.Zip
import HandS.Conv
import HandS.Strs
import HandS.WideBits
import HandS.Text
import HandS.ExcInit
import HandS.ExcField
import KE.KExcIs
import HandS.OwnEq
import HandS.Codes
import PyProof.InstEq
import HandS.TryOnly
import HandS.SetFor
import HandS.DictComp
import PyProof.ReprRoads
import HandS.TryMany
import KE.KDictWalk
import KE.KDictDisplayH
import KE.GoesZip
import KE.GoesMore
import HandS.DictEq
import KE.KDictCopyH
import KE.KDictSum
import HandS.ExcOwn
import HandS.ExcValue
import KE.KEqDict
import HandS.Finally
import HandS.SortKw
import KE.KDictOf
import KE.KDictPairs
import HandS.ListItems
import PySem.Challenge.RW_loopstore_k46_whole_layings_out_by_own_t
set_option Elab.async false
set_option linter.all false
set_option maxRecDepth 100000
set_option maxHeartbeats 4000000
set_option autoImplicit false
namespace Pu
open PySem L2
/-! ## plain data -/
inductive D where
  | non | bl (b : Bool) | int (i : Int) | str (x : Str) | tup (xs : List D) | lst (xs : List D) | dct (t : Bool) (kvs : List (D × D)) | ins (c : Str) (fs : List (Str × D)) | scr (ns : List Int) | tpl (ns : List Int) | exn (x : Addr × Option Addr) (fs : List (Str × D)) | lrf (q : Addr) | cel (q : Addr) (d : D) | dcn (kvs : List (D × D)) | ktp (ds : List D)
/-- which parts of a thing are one's own: none; all alike, it too; each as told, it too -/
inductive Sh where
  | leaf | hom (s : Sh) | het (ss : List Sh)
inductive VD where
  | val (d : D) | own (d : D) | peek (d : D) | tape | tree (s : Sh) (d : D) | look (d : D)
abbrev Env := List (Option VD)
abbrev Tp := Option D
inductive Rs (A : Type) where
  | ok (a : A) | exc (c : Str) (fs : List (Str × D)) (t : Tp) (r : Env) | stuck
namespace Rs
def bind {A B : Type} (x : Rs A) (f : A → Rs B) : Rs B := match x with
  | .ok a => f a
  | .exc c fs t r => .exc c fs t r
  | .stuck => .stuck
@[simp] theorem bind_ok {A B : Type} (a : A) (f : A → Rs B) : (Rs.ok a).bind f = f a := rfl
@[simp] theorem bind_exc {A B : Type} (c : Str) (fs : List (Str × D)) (t : Tp) (r : Env) (f : A → Rs B) : (Rs.exc c fs t r).bind f = .exc c fs t r := rfl
@[simp] theorem bind_stuck {A B : Type} (f : A → Rs B) : (Rs.stuck : Rs A).bind f = .stuck := rfl
end Rs
abbrev DE := Env → Tp → Rs (VD × Tp)
def kD : Key → D
  | .inl i => .int i
  | .inr x => .str x
/-! ## keys that are tuples of tuples of whole numbers -/
abbrev N2 := List (List Int)
def nk (k : N2) : NestedKey := .tup (k.map fun r => .tup (r.map .num))
def nkD (k : N2) : D := .tup (k.map fun r => .tup (r.map .int))
/-- a dict with such keys, as its one object tells -/
def NDict (a : Addr) (xs : List (N2 × Addr × V)) (h : Heap) : Prop := (a == sysModules) = false ∧ ∃ (w : World) (ys : List (N2 × Addr × Value)),
  Paired (fun (x : N2 × Addr × V) (y : N2 × Addr × Value) => x.1 = y.1 ∧ x.2.1 = y.2.1 ∧ RelV x.2.2 y.2.2) xs ys ∧
  ∃ o es ep, h.get? a = some o ∧ o.ExactDict ∧ o.data = .dict es ep ∧ es.toList = ys.map (fun y => (⟨(nk y.1).hash w, .ref y.2.1, y.2.2⟩ : DictEntry)) ∧ (ys.map (·.1)).Nodup
/-! ## data in the heap -/
section
variable (K : PySem.W.Frag) (mg : Str → Option Value) (S : Addr → Prop) (H : Hp)
mutual
inductive Rep : V → D → Prop
  | non : Rep .non .non
  | bl (b : Bool) : Rep (.bl b) (.bl b)
  | int (i : Int) : Rep (.int i) (.int i)
  | str (x : Str) : Rep (.str x) (.str x)
  | tup {a : Addr} {vs : List V} {ds : List D} : ¬ S a → H a = some (.tup vs) → vs.length ≤ sizeLine → Reps vs ds → Rep (.ref a) (.tup ds)
  | lst {a : Addr} {vs : List V} {ds : List D} : ¬ S a → H a = some (.lst vs) → vs.length ≤ sizeLine → Reps vs ds → Rep (.ref a) (.lst ds)
  | dK {a : Addr} {kvs : List (Key × V)} {ds : List (D × D)} : ¬ S a → H a = some (.dK kvs) → kvs.length ≤ sizeLine → ds.map (·.1) = kvs.map (fun p => kD p.1) → Reps (kvs.map (·.2)) (ds.map (·.2)) → Rep (.ref a) (.dct false ds)
  | dT {a : Addr} {kvs : List (List Key × V)} {ds : List (D × D)} : ¬ S a → H a = some (.dT kvs) → kvs.length ≤ sizeLine → ds.map (·.1) = kvs.map (fun p => D.tup (p.1.map kD)) → Reps (kvs.map (·.2)) (ds.map (·.2)) → Rep (.ref a) (.dct true ds)
  | dKz {a : Addr} {o : Obj} {kvs : List (Key × V)} {ds : List (D × D)} : ¬ S a → H a = some (.frz o (.dK kvs)) → kvs.length ≤ sizeLine → ds.map (·.1) = kvs.map (fun p => kD p.1) → Reps (kvs.map (·.2)) (ds.map (·.2)) → Rep (.ref a) (.dct false ds)
  | dTz {a : Addr} {o : Obj} {kvs : List (List Key × V)} {ds : List (D × D)} : ¬ S a → H a = some (.frz o (.dT kvs)) → kvs.length ≤ sizeLine → ds.map (·.1) = kvs.map (fun p => D.tup (p.1.map kD)) → Reps (kvs.map (·.2)) (ds.map (·.2)) → Rep (.ref a) (.dct true ds)
  | ins {a C dx : Addr} {fs : List (Str × V)} {ds : List (Str × D)} {c : Str} : ¬ S a → H a = some (.ins C dx fs) → mg c = some (.ref C) → ds.map (·.1) = fs.map (·.1) → Reps (fs.map (·.2)) (ds.map (·.2)) → Rep (.ref a) (.ins c ds)
  | scr {a : Addr} {u : HO} {ns : List Int} : ¬ S a → H a = some u → (∀ H', H' a = some u → SqL K H' a (ns.map V.int)) → ns.length ≤ sizeLine → Rep (.ref a) (.scr ns)
  | scrK {a : Addr} {ns : List Int} : (∀ H', SqL K H' a (ns.map V.int)) → ns.length ≤ sizeLine → Rep (.ref a) (.scr ns)
  | tpl {a : Addr} {o : Obj} {ns : List Int} : ¬ S a → H a = some (.frz o (.tup (ns.map V.int))) → o.cls = .type "tuple" → o.dict = none → ns.length ≤ sizeLine → Rep (.ref a) (.tpl ns)
  | ktp {a : Addr} {o : Obj} {vs : List V} {ds : List D} : ¬ S a → H a = some (.frz o (.tup vs)) → o.cls = .type "tuple" → o.dict = none → vs.length ≤ sizeLine → Reps vs ds → Rep (.ref a) (.ktp ds)
  | lrf (q : Addr) : Rep (.ref q) (.lrf q)
  | dcn {a : Addr} {xs : List (N2 × Addr × V)} {ds : List (D × D)} : ¬ S a → H a = some (.ext (NDict a xs)) → xs.length ≤ sizeLine → ds.map (·.1) = xs.map (fun x => nkD x.1) → Reps (xs.map fun x => V.ref x.2.1) (ds.map (·.1)) → Reps (xs.map (·.2.2)) (ds.map (·.2)) → Rep (.ref a) (.dcn ds)
  | exn0 {a : Addr} : Rep (.ref a) (.exn (a, none) [])
  | exn {a dd : Addr} {fs : List (Str × V)} {ds : List (Str × D)} : ¬ S dd → H dd = some (.xd fs) → ds.map (·.1) = fs.map (·.1) → Reps (fs.map (·.2)) (ds.map (·.2)) → Rep (.ref a) (.exn (a, some dd) ds)
inductive Reps : List V → List D → Prop
  | nil : Reps [] []
  | cons {v : V} {vs : List V} {d : D} {ds : List D} : Rep v d → Reps vs ds → Reps (v :: vs) (d :: ds)
end
/-- what stands at an owned address -/
inductive OwnAt : Addr → D → Prop
  | lst {p : Addr} {vs : List V} {ds : List D} : H p = some (.lst vs) → vs.length ≤ sizeLine → Reps K mg S H vs ds → OwnAt p (.lst ds)
  | dK {p : Addr} {kvs : List (Key × V)} {ds : List (D × D)} : H p = some (.dK kvs) → kvs.length ≤ sizeLine → ds.map (·.1) = kvs.map (fun q => kD q.1) → Reps K mg S H (kvs.map (·.2)) (ds.map (·.2)) → OwnAt p (.dct false ds)
  | dT {p : Addr} {kvs : List (List Key × V)} {ds : List (D × D)} : H p = some (.dT kvs) → kvs.length ≤ sizeLine → ds.map (·.1) = kvs.map (fun q => D.tup (q.1.map kD)) → Reps K mg S H (kvs.map (·.2)) (ds.map (·.2)) → OwnAt p (.dct true ds)
  | ins {p C dx : Addr} {fs : List (Str × V)} {ds : List (Str × D)} {c : Str} : H p = some (.ins C dx fs) → mg c = some (.ref C) → ds.map (·.1) = fs.map (·.1) → Reps K mg S H (fs.map (·.2)) (ds.map (·.2)) → OwnAt p (.ins c ds)
  | dcn {p : Addr} {xs : List (N2 × Addr × V)} {ds : List (D × D)} : H p = some (.ext (NDict p xs)) → xs.length ≤ sizeLine → ds.map (·.1) = xs.map (fun x => nkD x.1) → Reps K mg S H (xs.map fun x => V.ref x.2.1) (ds.map (·.1)) → Reps K mg S H (xs.map (·.2.2)) (ds.map (·.2)) → OwnAt p (.dcn ds)
end
section
variable (K : PySem.W.Frag) (mg : Str → Option Value) (S : Addr → Prop) (H : Hp)
mutual
/-- a thing whose parts of one's own stand at the addresses F -/
inductive TreeAt : List Addr → Sh → V → D → Prop
  | leaf {v : V} {d : D} : Rep K mg S H v d → TreeAt [] .leaf v d
  | lst {p : Addr} {F : List Addr} {s : Sh} {vs : List V} {ds : List D} : H p = some (.lst vs) → vs.length ≤ sizeLine → TreesAt F (ds.map fun _ => s) vs ds → TreeAt (p :: F) (.hom s) (.ref p) (.lst ds)
  | dK {p : Addr} {F : List Addr} {s : Sh} {kvs : List (Key × V)} {ds : List (D × D)} : H p = some (.dK kvs) → kvs.length ≤ sizeLine → ds.map (·.1) = kvs.map (fun q => kD q.1) → TreesAt F (ds.map fun _ => s) (kvs.map (·.2)) (ds.map (·.2)) → TreeAt (p :: F) (.hom s) (.ref p) (.dct false ds)
  | dT {p : Addr} {F : List Addr} {s : Sh} {kvs : List (List Key × V)} {ds : List (D × D)} : H p = some (.dT kvs) → kvs.length ≤ sizeLine → ds.map (·.1) = kvs.map (fun q => D.tup (q.1.map kD)) → TreesAt F (ds.map fun _ => s) (kvs.map (·.2)) (ds.map (·.2)) → TreeAt (p :: F) (.hom s) (.ref p) (.dct true ds)
  | dcn {p : Addr} {xs : List (N2 × Addr × V)} {ds : List (D × D)} : H p = some (.ext (NDict p xs)) → xs.length ≤ sizeLine → ds.map (·.1) = xs.map (fun x => nkD x.1) → Reps K mg S H (xs.map fun x => V.ref x.2.1) (ds.map (·.1)) → Reps K mg S H (xs.map (·.2.2)) (ds.map (·.2)) → TreeAt [p] (.hom .leaf) (.ref p) (.dcn ds)
  | tup {a : Addr} {F : List Addr} {ss : List Sh} {vs : List V} {ds : List D} : ¬ S a → H a = some (.tup vs) → vs.length ≤ sizeLine → TreesAt F ss vs ds → TreeAt F (.het ss) (.ref a) (.tup ds)
  | ins {p C dx : Addr} {F : List Addr} {ss : List Sh} {fs : List (Str × V)} {ds : List (Str × D)} {c : Str} : H p = some (.ins C dx fs) → mg c = some (.ref C) → ds.map (·.1) = fs.map (·.1) → TreesAt F ss (fs.map (·.2)) (ds.map (·.2)) → TreeAt (p :: F) (.het ss) (.ref p) (.ins c ds)
inductive TreesAt : List Addr → List Sh → List V → List D → Prop
  | nil : TreesAt [] [] [] []
  | cons {F G : List Addr} {s : Sh} {ss : List Sh} {v : V} {vs : List V} {d : D} {ds : List D} : TreeAt F s v d → TreesAt G ss vs ds → TreesAt (F ++ G) (s :: ss) (v :: vs) (d :: ds)
end
end
section
variable {K : PySem.W.Frag} {mg : Str → Option Value} {S S' : Addr → Prop} {H H' : Hp}
/-! the rule of change: what is not in S stays; no address that is read comes into S' -/
mutual
theorem Rep.go (k : ∀ a o, H a = some o → ¬ S a → H' a = some o) (n : ∀ a o, H a = some o → ¬ S a → ¬ S' a) : ∀ {v : V} {d : D}, Rep K mg S H v d → Rep K mg S' H' v d
  | _, _, .non => .non
  | _, _, .bl b => .bl b
  | _, _, .int i => .int i
  | _, _, .str x => .str x
  | _, _, .tup h r z q => .tup (n _ _ r h) (k _ _ r h) z (Reps.go k n q)
  | _, _, .lst h r z q => .lst (n _ _ r h) (k _ _ r h) z (Reps.go k n q)
  | _, _, .dK h r z e q => .dK (n _ _ r h) (k _ _ r h) z e (Reps.go k n q)
  | _, _, .dT h r z e q => .dT (n _ _ r h) (k _ _ r h) z e (Reps.go k n q)
  | _, _, .dKz h r z e q => .dKz (n _ _ r h) (k _ _ r h) z e (Reps.go k n q)
  | _, _, .dTz h r z e q => .dTz (n _ _ r h) (k _ _ r h) z e (Reps.go k n q)
  | _, _, .scr h r q z => .scr (n _ _ r h) (k _ _ r h) q z
  | _, _, .scrK q z => .scrK q z
  | _, _, .tpl h r c d z => .tpl (n _ _ r h) (k _ _ r h) c d z
  | _, _, .ktp h r c d z q => .ktp (n _ _ r h) (k _ _ r h) c d z (Reps.go k n q)
  | _, _, .lrf q => .lrf q
  | _, _, .dcn h r z e q q2 => .dcn (n _ _ r h) (k _ _ r h) z e (Reps.go k n q) (Reps.go k n q2)
  | _, _, .exn0 => .exn0
  | _, _, .exn h r e q => .exn (n _ _ r h) (k _ _ r h) e (Reps.go k n q)
  | _, _, .ins h r m e q => .ins (n _ _ r h) (k _ _ r h) m e (Reps.go k n q)
theorem Reps.go (k : ∀ a o, H a = some o → ¬ S a → H' a = some o) (n : ∀ a o, H a = some o → ¬ S a → ¬ S' a) : ∀ {vs : List V} {ds : List D}, Reps K mg S H vs ds → Reps K mg S' H' vs ds
  | _, _, .nil => .nil
  | _, _, .cons h t => .cons (Rep.go k n h) (Reps.go k n t)
end
theorem Reps.ints : ∀ ns : List Int, Reps K mg S H (ns.map V.int) (ns.map D.int)
  | [] => .nil
  | n :: ns => .cons (.int n) (Reps.ints ns)
theorem Reps.len : ∀ {vs : List V} {ds : List D}, Reps K mg S H vs ds → vs.length = ds.length
  | _, _, .nil => rfl
  | _, _, .cons _ t => congrArg (· + 1) t.len
theorem Reps.app : ∀ {vs ws : List V} {ds es : List D}, Reps K mg S H vs ds → Reps K mg S H ws es → Reps K mg S H (vs ++ ws) (ds ++ es)
  | _, _, _, _, .nil, s => s
  | _, _, _, _, .cons h t, s => .cons h (t.app s)
theorem Reps.get : ∀ {vs : List V} {ds : List D} {i : Nat} {v : V}, Reps K mg S H vs ds → vs[i]? = some v → ∃ d, ds[i]? = some d ∧ Rep K mg S H v d
  | _, _, 0, _, .cons h _, e => by
    cases e
    exact ⟨_, rfl, h⟩
  | _, _, i + 1, _, .cons _ t, e => by
    obtain ⟨d, e1, r⟩ := Reps.get (i := i) t (by simpa using e)
    exact ⟨d, by simpa using e1, r⟩
theorem Reps.getD : ∀ {vs : List V} {ds : List D} {i : Nat} {d : D}, Reps K mg S H vs ds → ds[i]? = some d → ∃ v, vs[i]? = some v ∧ Rep K mg S H v d
  | _, _, 0, _, .cons h _, e => by
    cases e
    exact ⟨_, rfl, h⟩
  | _, _, i + 1, _, .cons _ t, e => by
    obtain ⟨d, e1, r⟩ := Reps.getD (i := i) t (by simpa using e)
    exact ⟨d, by simpa using e1, r⟩
theorem Reps.take : ∀ {vs : List V} {ds : List D} (n : Nat), Reps K mg S H vs ds → Reps K mg S H (vs.take n) (ds.take n)
  | _, _, 0, _ => .nil
  | _, _, _ + 1, .nil => .nil
  | _, _, n + 1, .cons h t => .cons h (t.take n)
theorem Reps.drop : ∀ {vs : List V} {ds : List D} (n : Nat), Reps K mg S H vs ds → Reps K mg S H (vs.drop n) (ds.drop n)
  | _, _, 0, h => h
  | _, _, _ + 1, .nil => .nil
  | _, _, n + 1, .cons _ t => Reps.drop n t
theorem Reps.set {v : V} {d : D} (h : Rep K mg S H v d) : ∀ {vs : List V} {ds : List D} (n : Nat), Reps K mg S H vs ds → Reps K mg S H (vs.set n v) (ds.set n d)
  | _, _, _, .nil => .nil
  | _, _, 0, .cons _ t => .cons h t
  | _, _, n + 1, .cons g t => .cons g (t.set h n)
theorem Reps.reverse : ∀ {vs : List V} {ds : List D}, Reps K mg S H vs ds → Reps K mg S H vs.reverse ds.reverse
  | _, _, .nil => .nil
  | _, _, .cons h t => by
    rw [List.reverse_cons, List.reverse_cons]
    exact t.reverse.app (.cons h .nil)
theorem Reps.erase : ∀ {vs : List V} {ds : List D} (n : Nat), Reps K mg S H vs ds → Reps K mg S H (vs.eraseIdx n) (ds.eraseIdx n)
  | _, _, _, .nil => .nil
  | _, _, 0, .cons _ t => t
  | _, _, n + 1, .cons g t => .cons g (t.erase n)
theorem OwnAt.go {p : Addr} {d : D} (hp : ∀ o, H p = some o → H' p = some o) (k : ∀ a o, H a = some o → ¬ S a → H' a = some o) (n : ∀ a o, H a = some o → ¬ S a → ¬ S' a) (h : OwnAt K mg S H p d) : OwnAt K mg S' H' p d := by
  cases h with
  | lst e z q => exact .lst (hp _ e) z (q.go k n)
  | dK e z g q => exact .dK (hp _ e) z g (q.go k n)
  | dT e z g q => exact .dT (hp _ e) z g (q.go k n)
  | ins e m g q => exact .ins (hp _ e) m g (q.go k n)
  | dcn e z g q q2 => exact .dcn (hp _ e) z g (q.go k n) (q2.go k n)
theorem OwnAt.there {p : Addr} {d : D} (h : OwnAt K mg S H p d) : ∃ o, H p = some o ∧ Mut (some o) := by
  cases h with
  | lst e z q => exact ⟨_, e, trivial⟩
  | dK e z g q => exact ⟨_, e, trivial⟩
  | dT e z g q => exact ⟨_, e, trivial⟩
  | ins e m g q => exact ⟨_, e, trivial⟩
  | dcn e z g q q2 => exact ⟨_, e, trivial⟩
/-- a value that an operation may look into: data, or an owned thing -/
def Top (K : PySem.W.Frag) (mg : Str → Option Value) (S : Addr → Prop) (H : Hp) (v : V) (d : D) : Prop := Rep K mg S H v d ∨ ∃ p, v = .ref p ∧ OwnAt K mg S H p d
/-- an owned thing is given up: it is data from now on -/
theorem OwnAt.frozen {p : Addr} {d : D} (h : OwnAt K mg S H p d) (np : ¬ S' p) (n : ∀ a o, H a = some o → ¬ S a → ¬ S' a) : Rep K mg S' H (.ref p) d := by
  cases h with
  | lst e z q => exact .lst np e z (q.go (fun _ _ e _ => e) n)
  | dK e z g q => exact .dK np e z g (q.go (fun _ _ e _ => e) n)
  | dT e z g q => exact .dT np e z g (q.go (fun _ _ e _ => e) n)
  | ins e m g q => exact .ins np e m g (q.go (fun _ _ e _ => e) n)
  | dcn e z g q q2 => exact .dcn np e z g (q.go (fun _ _ e _ => e) n) (q2.go (fun _ _ e _ => e) n)
/-! trees -/
mutual
theorem TreeAt.go (k : ∀ a o, H a = some o → ¬ S a → H' a = some o) (n : ∀ a o, H a = some o → ¬ S a → ¬ S' a) : ∀ {F : List Addr} {s : Sh} {v : V} {d : D}, (∀ p ∈ F, ∀ o, H p = some o → H' p = some o) → TreeAt K mg S H F s v d → TreeAt K mg S' H' F s v d
  | _, _, _, _, _, .leaf r => .leaf (r.go k n)
  | _, _, _, _, f, .lst h z t => .lst (f _ List.mem_cons_self _ h) z (TreesAt.go k n (fun p hp => f p (List.mem_cons_of_mem _ hp)) t)
  | _, _, _, _, f, .dK h z g t => .dK (f _ List.mem_cons_self _ h) z g (TreesAt.go k n (fun p hp => f p (List.mem_cons_of_mem _ hp)) t)
  | _, _, _, _, f, .dT h z g t => .dT (f _ List.mem_cons_self _ h) z g (TreesAt.go k n (fun p hp => f p (List.mem_cons_of_mem _ hp)) t)
  | _, _, _, _, f, .dcn h z g q q2 => .dcn (f _ List.mem_cons_self _ h) z g (q.go k n) (q2.go k n)
  | _, _, _, _, f, .tup r h z t => .tup (n _ _ h r) (k _ _ h r) z (TreesAt.go k n f t)
  | _, _, _, _, f, .ins h m g t => .ins (f _ List.mem_cons_self _ h) m g (TreesAt.go k n (fun p hp => f p (List.mem_cons_of_mem _ hp)) t)
theorem TreesAt.go (k : ∀ a o, H a = some o → ¬ S a → H' a = some o) (n : ∀ a o, H a = some o → ¬ S a → ¬ S' a) : ∀ {F : List Addr} {ss : List Sh} {vs : List V} {ds : List D}, (∀ p ∈ F, ∀ o, H p = some o → H' p = some o) → TreesAt K mg S H F ss vs ds → TreesAt K mg S' H' F ss vs ds
  | _, _, _, _, _, .nil => .nil
  | _, _, _, _, f, .cons t u => .cons (TreeAt.go k n (fun p hp => f p (List.mem_append_left _ hp)) t) (TreesAt.go k n (fun p hp => f p (List.mem_append_right _ hp)) u)
end
mutual
/-- given up: data from now on -/
theorem TreeAt.frozen (n : ∀ a o, H a = some o → ¬ S a → ¬ S' a) : ∀ {F : List Addr} {s : Sh} {v : V} {d : D}, (∀ p ∈ F, ¬ S' p) → TreeAt K mg S H F s v d → Rep K mg S' H v d
  | _, _, _, _, _, .leaf r => r.go (fun _ _ e _ => e) n
  | _, _, _, _, f, .lst h z t => .lst (f _ List.mem_cons_self) h z (TreesAt.frozen n (fun p hp => f p (List.mem_cons_of_mem _ hp)) t)
  | _, _, _, _, f, .dK h z g t => .dK (f _ List.mem_cons_self) h z g (TreesAt.frozen n (fun p hp => f p (List.mem_cons_of_mem _ hp)) t)
  | _, _, _, _, f, .dT h z g t => .dT (f _ List.mem_cons_self) h z g (TreesAt.frozen n (fun p hp => f p (List.mem_cons_of_mem _ hp)) t)
  | _, _, _, _, f, .dcn h z g q q2 => .dcn (f _ List.mem_cons_self) h z g (q.go (fun _ _ e _ => e) n) (q2.go (fun _ _ e _ => e) n)
  | _, _, _, _, f, .tup r h z t => .tup (n _ _ h r) h z (TreesAt.frozen n f t)
  | _, _, _, _, f, .ins h m g t => .ins (f _ List.mem_cons_self) h m g (TreesAt.frozen n (fun p hp => f p (List.mem_cons_of_mem _ hp)) t)
theorem TreesAt.frozen (n : ∀ a o, H a = some o → ¬ S a → ¬ S' a) : ∀ {F : List Addr} {ss : List Sh} {vs : List V} {ds : List D}, (∀ p ∈ F, ¬ S' p) → TreesAt K mg S H F ss vs ds → Reps K mg S' H vs ds
  | _, _, _, _, _, .nil => .nil
  | _, _, _, _, f, .cons t u => .cons (TreeAt.frozen n (fun p hp => f p (List.mem_append_left _ hp)) t) (TreesAt.frozen n (fun p hp => f p (List.mem_append_right _ hp)) u)
end
mutual
theorem TreeAt.there : ∀ {F : List Addr} {s : Sh} {v : V} {d : D}, TreeAt K mg S H F s v d → ∀ p ∈ F, ∃ o, H p = some o ∧ Mut (some o)
  | _, _, _, _, .leaf _, p, hp => by cases hp
  | _, _, _, _, .lst h _ t, p, hp => by
    rcases List.mem_cons.mp hp with z | z
    · rw [z]
      exact ⟨_, h, trivial⟩
    · exact TreesAt.there t p z
  | _, _, _, _, .dK h _ _ t, p, hp => by
    rcases List.mem_cons.mp hp with z | z
    · rw [z]
      exact ⟨_, h, trivial⟩
    · exact TreesAt.there t p z
  | _, _, _, _, .dT h _ _ t, p, hp => by
    rcases List.mem_cons.mp hp with z | z
    · rw [z]
      exact ⟨_, h, trivial⟩
    · exact TreesAt.there t p z
  | _, _, _, _, .dcn h _ _ _ _, p, hp => by
    rcases List.mem_cons.mp hp with z | z
    · rw [z]
      exact ⟨_, h, trivial⟩
    · cases z
  | _, _, _, _, .tup _ _ _ t, p, hp => TreesAt.there t p hp
  | _, _, _, _, .ins h _ _ t, p, hp => by
    rcases List.mem_cons.mp hp with z | z
    · rw [z]
      exact ⟨_, h, trivial⟩
    · exact TreesAt.there t p z
theorem TreesAt.there : ∀ {F : List Addr} {ss : List Sh} {vs : List V} {ds : List D}, TreesAt K mg S H F ss vs ds → ∀ p ∈ F, ∃ o, H p = some o ∧ Mut (some o)
  | _, _, _, _, .nil, p, hp => by cases hp
  | _, _, _, _, .cons t u, p, hp => by
    rcases List.mem_append.mp hp with z | z
    · exact TreeAt.there t p z
    · exact TreesAt.there u p z
end
/-- what is owned, as a tree -/
theorem Reps.trees : ∀ {vs : List V} {ds : List D}, Reps K mg S H vs ds → TreesAt K mg S H [] (ds.map fun _ => Sh.leaf) vs ds
  | _, _, .nil => .nil
  | _, _, .cons h t => .cons (F := []) (.leaf h) t.trees
theorem OwnAt.tree {p : Addr} {d : D} (h : OwnAt K mg S H p d) (hi : ∀ c fs, d ≠ .ins c fs) : TreeAt K mg S H [p] (.hom .leaf) (.ref p) d := by
  cases h with
  | lst e z q => exact .lst e z q.trees
  | dK e z g q => exact .dK e z g (by have := q.trees; rwa [List.map_map] at this)
  | dT e z g q => exact .dT e z g (by have := q.trees; rwa [List.map_map] at this)
  | ins e m g q => exact absurd rfl (hi _ _)
  | dcn e z g q q2 => exact .dcn e z g q q2
/-- what stands at the tape's place: the tape, or a thing that is lent -/
def CelAt (K : PySem.W.Frag) (mg : Str → Option Value) (S : Addr → Prop) (H : Hp) (p : Addr) (t : D) : Prop := OwnAt K mg S H p t ∨ ∃ d, t = .cel p d ∧ OwnAt K mg S H p d
theorem CelAt.go {p : Addr} {d : D} (hp : ∀ o, H p = some o → H' p = some o) (k : ∀ a o, H a = some o → ¬ S a → H' a = some o) (n : ∀ a o, H a = some o → ¬ S a → ¬ S' a) (h : CelAt K mg S H p d) : CelAt K mg S' H' p d := by
  rcases h with h | ⟨e, ed, h⟩
  · exact .inl (h.go hp k n)
  · exact .inr ⟨e, ed, h.go hp k n⟩
theorem CelAt.there {p : Addr} {d : D} (h : CelAt K mg S H p d) : ∃ o, H p = some o ∧ Mut (some o) := by
  rcases h with h | ⟨_, _, h⟩ <;> exact h.there
theorem CelAt.own {p : Addr} {d : D} (h : CelAt K mg S H p d) (hc : ∀ q e, d ≠ .cel q e) : OwnAt K mg S H p d := by
  rcases h with h | ⟨e, ed, h⟩
  · exact h
  · exact absurd ed (hc p e)
end
end Pu
namespace Pu
open PySem L2
/-! ## a def's frame -/
structure FC where
  H0 : Hp
  S0 : Addr → Prop
  tp : Option Addr
  W : WX
  pin : List (V × D)
  Y : Addr → Prop
def isOwn (r : Env) (σ : L2.St) (p : Addr) : Prop := ∃ (i : Nat) (d : D), r[i]? = some (some (.own d)) ∧ σ[i]? = some (some (.ref p))
def SS (C : FC) (Z : Addr → Prop) (r : Env) (σ : L2.St) : Addr → Prop := fun p => C.S0 p ∨ C.tp = some p ∨ isOwn r σ p ∨ Z p
abbrev Z0 : Addr → Prop := fun _ => False
def Ext (C : FC) (H H' : Hp) : Prop := ∀ a o, H a = some o → C.tp ≠ some a → H' a = some o
theorem Ext.refl {C : FC} {H : Hp} : Ext C H H := fun _ _ e _ => e
theorem Ext.trans {C : FC} {H H1 H2 : Hp} (a : Ext C H H1) (b : Ext C H1 H2) : Ext C H H2 := fun x o e n => b x o (a x o e n) n
theorem Ext.same {C : FC} {H H' : Hp} (s : Same H H') : Ext C H H' := fun a o e _ => s a o e
def TapeOk (K : PySem.W.Frag) (mg : Str → Option Value) (S : Addr → Prop) (tp : Option Addr) (T : Tp) (H : Hp) : Prop :=
  match tp with
  | none => T = none
  | some p => ∃ t, T = some t ∧ CelAt K mg S H p t
/-- the trees that slots own -/
def Trees (K : PySem.W.Frag) (mg : Str → Option Value) (C : FC) (S : Addr → Prop) (r : Env) (σ : L2.St) (H : Hp) : Prop := ∃ φ : Nat → List Addr, (∀ (i : Nat) (s : Sh) (d : D), r[i]? = some (some (.tree s d)) → ∃ v, σ[i]? = some (some v) ∧ TreeAt K mg S H (φ i) s v d) ∧ (∀ i, (φ i).Nodup) ∧
  (∀ i, ∀ p ∈ φ i, (C.S0 p ∧ C.Y p) ∧ C.H0 p = none ∧ C.tp ≠ some p) ∧ ∀ i j p, p ∈ φ i → p ∈ φ j → i = j
theorem Trees.mk' {K : PySem.W.Frag} {mg : Str → Option Value} {C C' : FC} {S S' : Addr → Prop} {r r' : Env} {σ σ' : L2.St} {H H' : Hp} (h : Trees K mg C S r σ H) (k : ∀ a o, H a = some o → ¬ S a → H' a = some o) (n : ∀ a o, H a = some o → ¬ S a → ¬ S' a)
    (f : ∀ p, C.S0 p ∧ C.Y p → C.H0 p = none → C.tp ≠ some p → ∀ o, H p = some o → H' p = some o) (hr : ∀ (i : Nat) (s : Sh) (d : D), r'[i]? = some (some (.tree s d)) → r[i]? = some (some (.tree s d)) ∧ σ'[i]? = σ[i]?)
    (hC : ∀ p, C.S0 p ∧ C.Y p → C.H0 p = none → C.tp ≠ some p → (C'.S0 p ∧ C'.Y p) ∧ C'.H0 p = none ∧ C'.tp ≠ some p) : Trees K mg C' S' r' σ' H' := by
  obtain ⟨φ, h1, h2, h3, h4⟩ := h
  refine ⟨φ, fun i s d e => ?_, h2, fun i p hp => ?_, h4⟩
  · obtain ⟨e1, e2⟩ := hr i s d e
    obtain ⟨v, e3, t⟩ := h1 i s d e1
    exact ⟨v, by rw [e2]; exact e3, t.go k n fun p hp => (fun ⟨a, b, c⟩ => f p a b c) (h3 i p hp)⟩
  · obtain ⟨a, b, c⟩ := h3 i p hp
    exact hC p a b c
theorem Trees.less {K : PySem.W.Frag} {mg : Str → Option Value} {C : FC} {S S' : Addr → Prop} {r : Env} {σ : L2.St} {H : Hp} (h : Trees K mg C S r σ H) (n : ∀ a o, H a = some o → ¬ S a → ¬ S' a) : Trees K mg C S' r σ H :=
  h.mk' (fun _ _ e _ => e) n (fun _ _ _ _ _ e => e) (fun _ _ _ e => ⟨e, rfl⟩) fun _ a b c => ⟨a, b, c⟩
theorem Trees.nil {K : PySem.W.Frag} {mg : Str → Option Value} {C : FC} {S : Addr → Prop} {r : Env} {σ : L2.St} {H : Hp} (h : ∀ (i : Nat) (s : Sh) (d : D), r[i]? ≠ some (some (.tree s d))) : Trees K mg C S r σ H :=
  ⟨fun _ => [], fun i s d e => absurd e (h i s d), fun _ => List.nodup_nil, fun _ _ h => absurd h (by simp), fun _ _ _ h => absurd h (by simp)⟩
structure Holds (K : PySem.W.Frag) (mg : Str → Option Value) (C : FC) (Z : Addr → Prop) (r : Env) (T : Tp) (σ : L2.St) (H : Hp) : Prop where
  len : r.length = σ.length
  frame : Ext C C.H0 H
  val : ∀ (i : Nat) (d : D), r[i]? = some (some (.val d)) → ∃ v, σ[i]? = some (some v) ∧ Rep K mg (SS C Z r σ) H v d
  own : ∀ (i : Nat) (d : D), r[i]? = some (some (.own d)) → ∃ p, σ[i]? = some (some (.ref p)) ∧ OwnAt K mg (SS C Z r σ) H p d ∧ C.H0 p = none ∧ C.tp ≠ some p ∧ ¬ Z p ∧ ¬ C.S0 p
  inj : ∀ (i j : Nat) (p : Addr) (d e : D), r[i]? = some (some (.own d)) → r[j]? = some (some (.own e)) → σ[i]? = some (some (.ref p)) → σ[j]? = some (some (.ref p)) → i = j
  tape : TapeOk K mg (SS C Z r σ) C.tp T H
  tslot : ∀ i : Nat, r[i]? = some (some .tape) → ∃ p, C.tp = some p ∧ σ[i]? = some (some (.ref p))
  st : ∀ p, C.S0 p → ∃ o, H p = some o ∧ Mut (some o)
  zt : ∀ p, Z p → ∃ o, H p = some o ∧ Mut (some o)
  pin : ∀ p ∈ C.pin, Rep K mg (SS C Z r σ) H p.1 p.2
  tree : Trees K mg C (SS C Z r σ) r σ H
section
variable {K : PySem.W.Frag} {mg : Str → Option Value} {C : FC} {Z Z' : Addr → Prop} {r : Env} {T T' : Tp} {σ : L2.St} {H H' : Hp}
theorem Holds.tr (h : Holds K mg C Z r T σ H) {p : Addr} (s : SS C Z r σ p) : ∃ o, H p = some o ∧ Mut (some o) := by
  rcases s with s | s | ⟨i, d, e1, e2⟩ | s
  · exact h.st p s
  · have t := h.tape
    unfold TapeOk at t
    rw [s] at t
    obtain ⟨t, _, o⟩ := t
    exact o.there
  · obtain ⟨q, e3, o, _⟩ := h.own i d e1
    rw [e2] at e3
    cases e3
    exact o.there
  · exact h.zt p s
theorem Holds.fresh (h : Holds K mg C Z r T σ H) {p : Addr} (e : H p = none) : ¬ SS C Z r σ p := fun s => by
  obtain ⟨o, q, _⟩ := h.tr s
  rw [e] at q
  cases q
/-- the heap goes on; nothing of what is excluded changes but the tape, which is told anew; the excluded become others -/
theorem Holds.move (h : Holds K mg C Z r T σ H) (e : Ext C H H') (n : ∀ a o, H a = some o → ¬ SS C Z r σ a → ¬ SS C Z' r σ a) (hz : ∀ (i : Nat) (p : Addr) (d : D), r[i]? = some (some (.own d)) → σ[i]? = some (some (.ref p)) → ¬ Z' p)
    (t : TapeOk K mg (SS C Z' r σ) C.tp T' H') (zt : ∀ p, Z' p → ∃ o, H' p = some o ∧ Mut (some o)) : Holds K mg C Z' r T' σ H' := by
  have k : ∀ a o, H a = some o → ¬ SS C Z r σ a → H' a = some o := fun a o q s => e a o q fun z => s (.inr (.inl z))
  refine ⟨h.len, h.frame.trans e, fun i d q => ?_, fun i d q => ?_, h.inj, t, h.tslot, fun p s => ?_, zt, fun p hp => (h.pin p hp).go k n, h.tree.mk' k n (fun p _ _ nt o q => e p o q nt) (fun _ _ _ e => ⟨e, rfl⟩) fun _ a b c => ⟨a, b, c⟩⟩
  · obtain ⟨v, e1, p⟩ := h.val i d q
    exact ⟨v, e1, p.go k n⟩
  · obtain ⟨p, e1, o, f, g, g2, g3⟩ := h.own i d q
    exact ⟨p, e1, o.go (fun o q => e _ o q g) k n, f, g, hz i p d q e1, g3⟩
  · obtain ⟨o, q, m⟩ := h.st p s
    by_cases z : C.tp = some p
    · unfold TapeOk at t
      rw [z] at t
      obtain ⟨t, _, w⟩ := t
      exact w.there
    · exact ⟨o, e p o q z, m⟩
theorem ss_same {Z : Addr → Prop} : ∀ (a : Addr) (o : HO), H a = some o → ¬ SS C Z r σ a → ¬ SS C Z r σ a := fun _ _ _ s => s
/-- nothing changes but that there is more -/
theorem Holds.more (h : Holds K mg C Z r T σ H) (s : Same H H') : Holds K mg C Z r T σ H' := by
  refine h.move (.same s) ss_same (fun i p d e1 e2 z => ?_) ?_ fun p z => ?_
  · obtain ⟨q, e3, _, _, _, nz, _⟩ := h.own i d e1
    rw [e2] at e3
    cases e3
    exact nz z
  · have t := h.tape
    unfold TapeOk at t ⊢
    cases hp : C.tp with
    | none =>
      rw [hp] at t
      exact t
    | some p =>
      rw [hp] at t
      obtain ⟨t, e, o⟩ := t
      exact ⟨t, e, o.go (fun o q => s _ o q) (fun a o q _ => s a o q) ss_same⟩
  · obtain ⟨o, q, m⟩ := h.zt p z
    exact ⟨o, s p o q, m⟩
/-- a new object is set apart -/
theorem Holds.apart (h : Holds K mg C Z0 r T σ H) (s : Same H H') {p : Addr} (hp : H p = none) (hq : ∃ o, H' p = some o ∧ Mut (some o)) : Holds K mg C (fun a => a = p) r T σ H' := by
  have n : ∀ a o, H a = some o → ¬ SS C Z0 r σ a → ¬ SS C (fun a => a = p) r σ a := fun a o e q z => by
    rcases z with z | z | z | z
    · exact q (.inl z)
    · exact q (.inr (.inl z))
    · exact q (.inr (.inr (.inl z)))
    · rw [z, hp] at e
      cases e
  refine h.move (.same s) n (fun i q d e1 e2 z => ?_) ?_ fun q z => ?_
  · obtain ⟨u, e3, o, _⟩ := h.own i d e1
    rw [e2] at e3
    cases e3
    obtain ⟨o, e, _⟩ := o.there
    rw [z, hp] at e
    cases e
  · have t := h.tape
    unfold TapeOk at t ⊢
    cases hc : C.tp with
    | none =>
      rw [hc] at t
      exact t
    | some u =>
      rw [hc] at t
      obtain ⟨t, e, o⟩ := t
      exact ⟨t, e, o.go (fun o q => s _ o q) (fun a o q _ => s a o q) n⟩
  · rw [z]
    exact hq
/-- new objects are set apart -/
theorem Holds.aparts (h : Holds K mg C Z0 r T σ H) (s : Same H H') {F : List Addr} (hp : ∀ p ∈ F, H p = none) (hq : ∀ p ∈ F, ∃ o, H' p = some o ∧ Mut (some o)) : Holds K mg C (fun a => a ∈ F) r T σ H' := by
  have n : ∀ a o, H a = some o → ¬ SS C Z0 r σ a → ¬ SS C (fun a => a ∈ F) r σ a := fun a o e q z => by
    rcases z with z | z | z | z
    · exact q (.inl z)
    · exact q (.inr (.inl z))
    · exact q (.inr (.inr (.inl z)))
    · rw [hp a z] at e
      cases e
  refine h.move (.same s) n (fun i q d e1 e2 z => ?_) ?_ fun q z => hq q z
  · obtain ⟨u, e3, o, _⟩ := h.own i d e1
    rw [e2] at e3
    cases e3
    obtain ⟨o, e, _⟩ := o.there
    rw [hp q z] at e
    cases e
  · have t := h.tape
    unfold TapeOk at t ⊢
    cases hc : C.tp with
    | none =>
      rw [hc] at t
      exact t
    | some u =>
      rw [hc] at t
      obtain ⟨t, e, o⟩ := t
      exact ⟨t, e, o.go (fun o q => s _ o q) (fun a o q _ => s a o q) n⟩
theorem ss_less {Z : Addr → Prop} (a : Addr) (s : SS C Z0 r σ a) : SS C Z r σ a := by
  rcases s with s | s | s | s
  · exact .inl s
  · exact .inr (.inl s)
  · exact .inr (.inr (.inl s))
  · exact s.elim
/-- .. and given up -/
theorem Holds.join (h : Holds K mg C Z r T σ H) : Holds K mg C Z0 r T σ H := by
  have n : ∀ a o, H a = some o → ¬ SS C Z r σ a → ¬ SS C Z0 r σ a := fun a _ _ s z => s (ss_less a z)
  refine h.move Ext.refl n (fun _ _ _ _ _ z => z) ?_ fun _ z => z.elim
  have t := h.tape
  unfold TapeOk at t ⊢
  cases hc : C.tp with
  | none =>
    rw [hc] at t
    exact t
  | some u =>
    rw [hc] at t
    obtain ⟨t, e, o⟩ := t
    exact ⟨t, e, o.go (fun o q => q) (fun a o q _ => q) n⟩
end
/-- more is excluded -/
abbrev FC.plus (C : FC) (Y : Addr → Prop) : FC := { C with S0 := fun a => C.S0 a ∨ Y a, Y := Y }
/-- what holds between statements: some addresses are those of trees -/
def HoldsY (K : PySem.W.Frag) (mg : Str → Option Value) (C : FC) (r : Env) (T : Tp) (σ : L2.St) (H : Hp) : Prop := ∃ Y, Holds K mg (C.plus Y) Z0 r T σ H ∧ ∀ p, Y p → ¬ C.S0 p
/-! ## what an expression is worth -/
/-- an exception as it lies -/
def ExcAt (K : PySem.W.Frag) (mg : Str → Option Value) (S : Addr → Prop) (H : Hp) (c : Str) (fs : List (Str × D)) (cls : Value) (d : Option Addr) : Prop :=
  ∃ Ca : Addr, mg c = some (.ref Ca) ∧ cls = .ref Ca ∧ ((fs = [] ∧ d = none) ∨ ∃ (dd : Addr) (xs : List (Str × V)), d = some dd ∧ H dd = some (.xd xs) ∧ fs.map (·.1) = xs.map (·.1) ∧ Reps K mg S H (xs.map (·.2)) (fs.map (·.2)))
/-- what is asked of a run: of its worth G, of an exception that it is taken -/
def PostG {B : Type} (K : PySem.W.Frag) (mg : Str → Option Value) (C : FC) (σ : L2.St) (G : B → Prop) : Rs B → Prop
  | .ok b => G b
  | .exc c fs T r => ∀ cls d H', Holds K mg C Z0 r T σ H' → ExcAt K mg (SS C Z0 r σ) H' c fs cls d → C.W cls d σ H'
  | .stuck => False
section
variable {K : PySem.W.Frag} {mg : Str → Option Value} {C : FC} {σ : L2.St} {A B : Type} {G G2 : B → Prop}
theorem PostG.bind {x : Rs A} {g : A → Rs B} (h : PostG K mg C σ G (x.bind g)) : PostG K mg C σ (fun a => PostG K mg C σ G (g a)) x := by
  cases x <;> exact h
theorem PostG.imp {x : Rs B} (h : PostG K mg C σ G x) (i : ∀ b, G b → G2 b) : PostG K mg C σ G2 x := by
  cases x with
  | ok b => exact i b h
  | exc c fs T r => exact h
  | stuck => exact h
end
def TopC (K : PySem.W.Frag) (mg : Str → Option Value) (C : FC) (r : Env) (σ : L2.St) (H : Hp) (v : V) (d : D) : Prop := Rep K mg (SS C Z0 r σ) H v d ∨ ∃ p, v = .ref p ∧ C.tp ≠ some p ∧ OwnAt K mg (SS C Z0 r σ) H p d
def GV (K : PySem.W.Frag) (mg : Str → Option Value) (C : FC) (r : Env) (σ : L2.St) (H : Hp) (Q : VK) : VD × Tp → Prop
  | (.val d, T) => ∀ v H', Holds K mg C Z0 r T σ H' → Ext C H H' → Rep K mg (SS C Z0 r σ) H' v d → Q v H'
  | (.own d, T) => ∀ p H', H p = none → Holds K mg C (fun a => a = p) r T σ H' → Ext C H H' → OwnAt K mg (SS C (fun a => a = p) r σ) H' p d → Q (.ref p) H'
  | (.peek d, T) => ∀ v H', Holds K mg C Z0 r T σ H' → Ext C H H' → TopC K mg C r σ H' v d → Q v H'
  | (.tape, _) => False
  | (.tree s d, T) => ∀ v F H', (∀ p ∈ F, H p = none) → F.Nodup → Holds K mg C (fun a => a ∈ F) r T σ H' → Ext C H H' → TreeAt K mg (SS C (fun a => a ∈ F) r σ) H' F s v d → Q v H'
  | (.look d, T) => ∀ v H', Holds K mg C Z0 r T σ H' → Ext C H H' → Rep K mg (fun a => C.tp = some a) H' v d → Q v H'
abbrev Post (K : PySem.W.Frag) (mg : Str → Option Value) (C : FC) (r : Env) (σ : L2.St) (H : Hp) (Q : VK) : Rs (VD × Tp) → Prop := PostG K mg C σ (GV K mg C r σ H Q)
def tE (K : PySem.W.Frag) (mg : Str → Option Value) (C : FC) (f : DE) : TE := fun σ H Q => ∃ r T, Holds K mg C Z0 r T σ H ∧ Post K mg C r σ H Q (f r T)
abbrev SE (X : Cx) (C : FC) (e : Expr) (f : DE) : Prop := PE X e (tE X.K X.mg C f)
/-- weaken a reading -/
theorem pe_imp {X : Cx} {e : Expr} {t t' : TE} (h : PE X e t) (i : ∀ σ H Q, t' σ H Q → t σ H Q) : PE X e t' := ⟨fun pins s σ H Q I q => h.run pins s σ H Q I (i σ H Q q)⟩
theorem pt_imp {X : Cx} {e : Expr} {t t' : TT} (h : PT X e t) (i : ∀ σ H Q, t' σ H Q → t σ H Q) : PT X e t' := ⟨fun pins s σ H Q I q => h.run pins s σ H Q I (i σ H Q q)⟩
theorem ps_imp {X : Cx} {e : Stmt} {t t' : TS} (h : PS X e t) (i : ∀ D σ H, t' D σ H → t D σ H) : PS X e t' := ⟨fun pins s σ H D I q => h.run pins s σ H D I (i D σ H q)⟩
theorem pss_imp {X : Cx} {e : List Stmt} {t t' : TS} (h : PSs X e t) (i : ∀ D σ H, t' D σ H → t D σ H) : PSs X e t' := ⟨fun pins s σ H D I q => h.run pins s σ H D I (i D σ H q)⟩
theorem pa_imp {X : Cx} {e : List Expr} {t t' : TA} (h : PA X e t) (i : ∀ σ H Q, t' σ H Q → t σ H Q) : PA X e t' := ⟨fun pos pins s σ H Q I q => h.run pos pins s σ H Q I (i σ H Q q)⟩
/-- the worth as plain data; as what an operation may look into -/
def dv1 : VD × Tp → Rs (D × Tp)
  | (.val d, T) => .ok (d, T)
  | (.own d, T) => .ok (d, T)
  | _ => .stuck
def dt1 : VD × Tp → Rs (D × Tp)
  | (.val d, T) => .ok (d, T)
  | (.own d, T) => .ok (d, T)
  | (.peek d, T) => .ok (d, T)
  | _ => .stuck
def dv (x : Rs (VD × Tp)) : Rs (D × Tp) := x.bind dv1
def dt (x : Rs (VD × Tp)) : Rs (D × Tp) := x.bind dt1
@[simp] theorem dv_val (d : D) (T : Tp) : dv (.ok (.val d, T)) = .ok (d, T) := rfl
@[simp] theorem dv_own (d : D) (T : Tp) : dv (.ok (.own d, T)) = .ok (d, T) := rfl
@[simp] theorem dv_exc (c : Str) (fs : List (Str × D)) (T : Tp) (r : Env) : dv (.exc c fs T r) = .exc c fs T r := rfl
@[simp] theorem dt_val (d : D) (T : Tp) : dt (.ok (.val d, T)) = .ok (d, T) := rfl
@[simp] theorem dt_own (d : D) (T : Tp) : dt (.ok (.own d, T)) = .ok (d, T) := rfl
@[simp] theorem dt_peek (d : D) (T : Tp) : dt (.ok (.peek d, T)) = .ok (d, T) := rfl
@[simp] theorem dt_exc (c : Str) (fs : List (Str × D)) (T : Tp) (r : Env) : dt (.exc c fs T r) = .exc c fs T r := rfl
section
variable {K : PySem.W.Frag} {mg : Str → Option Value} {C : FC} {r : Env} {T : Tp} {σ : L2.St} {H H1 : Hp}
/-- its value is used as data: what is asked of the run of x, then of what follows, g -/
theorem gv_dv {B : Type} {G : B → Prop} {Q : VK} {x : Rs (VD × Tp)} {g : D × Tp → Rs B} (h0 : Holds K mg C Z0 r T σ H) (P : PostG K mg C σ G ((dv x).bind g))
    (k : ∀ d T' v H', Holds K mg C Z0 r T' σ H' → Ext C H H' → Rep K mg (SS C Z0 r σ) H' v d → PostG K mg C σ G (g (d, T')) → Q v H') : Post K mg C r σ H Q x := by
  refine (PostG.bind (PostG.bind P)).imp fun p P => ?_
  obtain ⟨v, T'⟩ := p
  cases v with
  | val d => exact fun v H' h1 e1 p => k d T' v H' h1 e1 p P
  | own d => exact fun p H' hp h1 e1 o => k d T' (.ref p) H' h1.join e1 (o.frozen (h0.fresh hp) (fun a o e s z => s (ss_less a z))) P
  | peek d => exact (show False from P).elim
  | tape => exact (show False from P)
  | tree s d => exact (show False from P).elim
  | look d => exact (show False from P).elim
theorem gv_dt {B : Type} {G : B → Prop} {Q : VK} {x : Rs (VD × Tp)} {g : D × Tp → Rs B} (h0 : Holds K mg C Z0 r T σ H) (P : PostG K mg C σ G ((dt x).bind g))
    (k : ∀ d T' v H', Holds K mg C Z0 r T' σ H' → Ext C H H' → TopC K mg C r σ H' v d → PostG K mg C σ G (g (d, T')) → Q v H') : Post K mg C r σ H Q x := by
  refine (PostG.bind (PostG.bind P)).imp fun p P => ?_
  obtain ⟨v, T'⟩ := p
  cases v with
  | val d => exact fun v H' h1 e1 p => k d T' v H' h1 e1 (.inl p) P
  | own d => exact fun p H' hp h1 e1 o => k d T' (.ref p) H' h1.join e1 (.inl (o.frozen (h0.fresh hp) (fun a o e s z => s (ss_less a z)))) P
  | peek d => exact fun v H' h1 e1 p => k d T' v H' h1 e1 p P
  | tape => exact (show False from P)
  | tree s d => exact (show False from P).elim
  | look d => exact (show False from P).elim
theorem back (h0 : Holds K mg C Z0 r T σ H1) (e : Ext C H H1) {p : Addr} (hp : H1 p = none) : H p = none := by
  cases q : H p with
  | none => rfl
  | some o =>
    by_cases z : C.tp = some p
    · exact absurd (.inr (.inl z)) (h0.fresh hp)
    · rw [e p o q z] at hp
      cases hp
/-- an end, reached through a heap between -/
theorem gv_from {Q : VK} {p : VD × Tp} (h0 : Holds K mg C Z0 r T σ H1) (e : Ext C H H1) (h : GV K mg C r σ H Q p) : GV K mg C r σ H1 Q p := by
  obtain ⟨v, T'⟩ := p
  cases v with
  | val d => exact fun v H' h1 e1 p => h v H' h1 (e.trans e1) p
  | own d => exact fun p H' hp h1 e1 o => h p H' (back h0 e hp) h1 (e.trans e1) o
  | peek d => exact fun v H' h1 e1 p => h v H' h1 (e.trans e1) p
  | tape => exact h
  | tree s d => exact fun v F H' hp hn h1 e1 o => h v F H' (fun p q => back h0 e (hp p q)) hn h1 (e.trans e1) o
  | look d => exact fun v H' h1 e1 p => h v H' h1 (e.trans e1) p
theorem post_from {Q : VK} {x : Rs (VD × Tp)} (h0 : Holds K mg C Z0 r T σ H1) (e : Ext C H H1) (h : Post K mg C r σ H Q x) : Post K mg C r σ H1 Q x := h.imp fun _ q => gv_from h0 e q
theorem Reps.ext {Z : Addr → Prop} {vs : List V} {ds : List D} (e : Ext C H H1) (p : Reps K mg (SS C Z r σ) H vs ds) : Reps K mg (SS C Z r σ) H1 vs ds := p.go (fun a o q s => e a o q fun z => s (.inr (.inl z))) ss_same
theorem Rep.ext {Z : Addr → Prop} {v : V} {d : D} (e : Ext C H H1) (p : Rep K mg (SS C Z r σ) H v d) : Rep K mg (SS C Z r σ) H1 v d := p.go (fun a o q s => e a o q fun z => s (.inr (.inl z))) ss_same
theorem TopC.ext {v : V} {d : D} (e : Ext C H H1) (p : TopC K mg C r σ H v d) : TopC K mg C r σ H1 v d := by
  rcases p with p | ⟨q, ev, nt, o⟩
  · exact .inl (p.ext e)
  · exact .inr ⟨q, ev, nt, o.go (fun o z => e _ o z nt) (fun a o q s => e a o q fun z => s (.inr (.inl z))) ss_same⟩
theorem TopC.top {v : V} {d : D} (p : TopC K mg C r σ H v d) : Top K mg (SS C Z0 r σ) H v d := by
  rcases p with p | ⟨q, ev, nt, o⟩
  · exact .inl p
  · exact .inr ⟨q, ev, o⟩
end
end Pu
namespace Pu
open PySem L2
/-! ## operations on data -/
/-- what is asked behind an operation that changes nothing that stands -/
def Res1 (K : PySem.W.Frag) (mg : Str → Option Value) (S : Addr → Prop) (H : Hp) (z : VD) (Q : VK) : Prop := match z with
  | .val d => ∀ v H', Same H H' → Rep K mg S H' v d → Q v H'
  | .own d => ∀ p H', H p = none → Same H H' → OwnAt K mg (fun a => S a ∨ a = p) H' p d → Q (.ref p) H'
  | _ => False
/-- all that is excluded is there -/
def Trk (S : Addr → Prop) (H : Hp) : Prop := ∀ p, S p → ∃ o, H p = some o ∧ Mut (some o)
theorem Trk.fresh {S : Addr → Prop} {H : Hp} (t : Trk S H) {p : Addr} (h : H p = none) : ¬ S p := fun s => by
  obtain ⟨o, e, _⟩ := t p s
  rw [h] at e
  cases e
/-- arguments that a built-in function may look into -/
inductive Tops (K : PySem.W.Frag) (mg : Str → Option Value) (S : Addr → Prop) (H : Hp) : List V → List D → Prop
  | nil : Tops K mg S H [] []
  | cons {v : V} {vs : List V} {d : D} {ds : List D} : Top K mg S H v d → Tops K mg S H vs ds → Tops K mg S H (v :: vs) (d :: ds)
def R2D (K : PySem.W.Frag) (mg : Str → Option Value) (r : R2) (op : D → D → Rs VD) : Prop :=
  ∀ (S : Addr → Prop) (H : Hp) (x y : V) (dx dy : D) (Q : VK) (z : VD), Trk S H → Top K mg S H x dx → Top K mg S H y dy → op dx dy = .ok z → Res1 K mg S H z Q → r x y H Q
def RnD (K : PySem.W.Frag) (mg : Str → Option Value) (r : List V → Hp → VK → Prop) (op : List D → Rs VD) : Prop :=
  ∀ (S : Addr → Prop) (H : Hp) (xs : List V) (ds : List D) (Q : VK) (z : VD), Trk S H → Tops K mg S H xs ds → op ds = .ok z → Res1 K mg S H z Q → r xs H Q
section
variable {K : PySem.W.Frag} {mg : Str → Option Value} {S : Addr → Prop} {H : Hp} {Q : VK}
theorem Res1.pure {d : D} {v : V} (h : Res1 K mg S H (.val d) Q) (r : Rep K mg S H v d) : Q v H := h v H (Same.refl H) r
/-- a new object -/
theorem same_new {p : Addr} {o : HO} (hp : H p = none) : Same H (upd H p o) := fun a u e => by
  rw [upd_ne (ne_of_none e hp)]
  exact e
theorem Reps.new {vs : List V} {ds : List D} {p : Addr} {o : HO} (hp : H p = none) (r : Reps K mg S H vs ds) : Reps K mg (fun a => S a ∨ a = p) (upd H p o) vs ds :=
  r.go (fun a u e _ => same_new hp a u e) fun a u e s z => by
    rcases z with z | z
    · exact s z
    · rw [z, hp] at e
      cases e
theorem Res1.newL {vs : List V} {ds : List D} {p : Addr} (h : Res1 K mg S H (.own (.lst ds)) Q) (hp : H p = none) (z : vs.length ≤ sizeLine) (r : Reps K mg S H vs ds) : Q (.ref p) (upd H p (.lst vs)) :=
  h p _ hp (same_new hp) (.lst upd_same z (r.new hp))
theorem Res1.newT {vs : List V} {ds : List D} {p : Addr} (t : Trk S H) (h : Res1 K mg S H (.val (.tup ds)) Q) (hp : H p = none) (z : vs.length ≤ sizeLine) (r : Reps K mg S H vs ds) : Q (.ref p) (upd H p (.tup vs)) :=
  h (.ref p) _ (same_new hp) (.tup (t.fresh hp) upd_same z (r.go (fun a u e _ => same_new hp a u e) fun _ _ _ s => s))
theorem Top.sqT {v : V} {ds : List D} (h : Top K mg S H v (.tup ds)) : ∃ a vs, v = .ref a ∧ SqT K H a vs ∧ vs.length ≤ sizeLine ∧ Reps K mg S H vs ds := by
  rcases h with h | ⟨p, rfl, h⟩
  · cases h with
    | tup s e z q => exact ⟨_, _, rfl, .of e, z, q⟩
  · cases h
theorem Top.tpl {v : V} {ns : List Int} (h : Top K mg S H v (.tpl ns)) : ∃ a o, v = .ref a ∧ H a = some (.frz o (.tup (ns.map V.int))) ∧ o.cls = .type "tuple" ∧ o.dict = none ∧ ns.length ≤ sizeLine := by
  rcases h with h | ⟨p, rfl, h⟩
  · cases h with
    | tpl s e c d z => exact ⟨_, _, rfl, e, c, d, z⟩
  · cases h
theorem Top.tplT {v : V} {ns : List Int} (h : Top K mg S H v (.tpl ns)) : ∃ a, v = .ref a ∧ SqT K H a (ns.map V.int) ∧ ns.length ≤ sizeLine := by
  obtain ⟨a, o, e, h1, _, _, z⟩ := h.tpl
  exact ⟨a, e, .inl (.inr ⟨o, h1⟩), z⟩
theorem Top.ktp {v : V} {ds : List D} (h : Top K mg S H v (.ktp ds)) : ∃ a o vs, v = .ref a ∧ H a = some (.frz o (.tup vs)) ∧ o.cls = .type "tuple" ∧ o.dict = none ∧ vs.length ≤ sizeLine ∧ Reps K mg S H vs ds := by
  rcases h with h | ⟨p, rfl, h⟩
  · cases h with
    | ktp s e c d z q => exact ⟨_, _, _, rfl, e, c, d, z, q⟩
  · cases h
theorem Top.ktpT {v : V} {ds : List D} (h : Top K mg S H v (.ktp ds)) : ∃ a vs, v = .ref a ∧ SqT K H a vs ∧ vs.length ≤ sizeLine ∧ Reps K mg S H vs ds := by
  obtain ⟨a, o, vs, e, h1, _, _, z, q⟩ := h.ktp
  exact ⟨a, vs, e, .inl (.inr ⟨o, h1⟩), z, q⟩
theorem Top.rep {v : V} {ds : List D} (h : Top K mg S H v (.tup ds)) : Rep K mg S H v (.tup ds) := by
  rcases h with h | ⟨p, rfl, h⟩
  · exact h
  · cases h
theorem Top.sqL {v : V} {ds : List D} (h : Top K mg S H v (.lst ds)) : ∃ a vs, v = .ref a ∧ H a = some (.lst vs) ∧ vs.length ≤ sizeLine ∧ Reps K mg S H vs ds := by
  rcases h with h | ⟨p, rfl, h⟩
  · cases h with
    | lst s e z q => exact ⟨_, _, rfl, e, z, q⟩
  · cases h with
    | lst e z q => exact ⟨_, _, rfl, e, z, q⟩
theorem Top.int {v : V} {i : Int} (h : Top K mg S H v (.int i)) : v = .int i := by
  rcases h with h | ⟨p, rfl, h⟩ <;> cases h
  rfl
theorem Top.bl {v : V} {b : Bool} (h : Top K mg S H v (.bl b)) : v = .bl b := by
  rcases h with h | ⟨p, rfl, h⟩ <;> cases h
  rfl
theorem Top.str {v : V} {b : Str} (h : Top K mg S H v (.str b)) : v = .str b := by
  rcases h with h | ⟨p, rfl, h⟩ <;> cases h
  rfl
theorem Top.non {v : V} (h : Top K mg S H v .non) : v = .non := by
  rcases h with h | ⟨p, rfl, h⟩ <;> cases h
  rfl
theorem Rep.tupRef {v : V} {ds : List D} (h : Rep K mg S H v (.tup ds)) : ∃ a, v = .ref a := by
  cases h <;> exact ⟨_, rfl⟩
theorem Rep.lstRef {v : V} {ds : List D} (h : Rep K mg S H v (.lst ds)) : ∃ a, v = .ref a := by
  cases h <;> exact ⟨_, rfl⟩
end
section
variable {K : PySem.W.Frag} {mg : Str → Option Value} {C : FC} {r : Env} {T : Tp} {σ : L2.St} {H H1 : Hp} {Q : VK}
theorem Holds.trk {Z : Addr → Prop} (h : Holds K mg C Z r T σ H) : Trk (SS C Z r σ) H := fun _ s => h.tr s
theorem gv_res {z : VD} (h0 : Holds K mg C Z0 r T σ H) (h : GV K mg C r σ H Q (z, T)) (hz : ∀ d, z ≠ .peek d ∧ z ≠ .look d ∧ ∀ s, z ≠ .tree s d) : Res1 K mg (SS C Z0 r σ) H z Q := by
  cases z with
  | val d => exact fun v H' s p => h v H' (h0.more s) (.same s) p
  | own d =>
    refine fun p H' hp s o => ?_
    have e2 : ∀ a, (SS C Z0 r σ a ∨ a = p) ↔ SS C (fun a => a = p) r σ a := fun a => by
      unfold SS
      constructor
      · rintro ((z | z | z | z) | z)
        · exact .inl z
        · exact .inr (.inl z)
        · exact .inr (.inr (.inl z))
        · exact z.elim
        · exact .inr (.inr (.inr z))
      · rintro (z | z | z | z)
        · exact .inl (.inl z)
        · exact .inl (.inr (.inl z))
        · exact .inl (.inr (.inr (.inl z)))
        · exact .inr z
    exact h p H' hp (h0.apart s hp o.there) (.same s) (o.go (fun _ q => q) (fun _ _ q _ => q) fun a _ _ n z => n ((e2 a).mpr z))
  | peek d => exact absurd rfl (hz d).1
  | tape => exact h
  | tree s d => exact absurd rfl ((hz d).2.2 s)
  | look d => exact absurd rfl (hz d).2.1
end
/-- a worth, with the tape as it is -/
def lift (z : Rs VD) (T : Tp) : Rs (VD × Tp) := z.bind fun v => .ok (v, T)
@[simp] theorem lift_ok (z : VD) (T : Tp) : lift (.ok z) T = .ok (z, T) := rfl
@[simp] theorem lift_stuck (T : Tp) : lift .stuck T = .stuck := rfl
def eOp (op : D → D → Rs VD) (f g : DE) : DE := fun r T => (dt (f r T)).bind fun p => (dt (g r p.2)).bind fun q => lift (op p.1 q.1) q.2
def eUn (op : D → Rs VD) (f : DE) : DE := fun r T => (dt (f r T)).bind fun p => lift (op p.1) p.2
/-- an operation that raises nothing -/
def Quiet (x : Rs VD) : Prop := x = .stuck ∨ (∃ d, x = .ok (.val d)) ∨ ∃ d, x = .ok (.own d)
theorem lift_ex {K : PySem.W.Frag} {mg : Str → Option Value} {C : FC} {r : Env} {T : Tp} {σ : L2.St} {H : Hp} {Q : VK} {x : Rs VD} (hx : Quiet x) (h0 : Holds K mg C Z0 r T σ H) (h : Post K mg C r σ H Q (lift x T)) : ∃ z, x = .ok z ∧ Res1 K mg (SS C Z0 r σ) H z Q := by
  rcases hx with e | ⟨d, e⟩ | ⟨d, e⟩
  · rw [e] at h
    exact (show False from h).elim
  · rw [e] at h
    exact ⟨_, e, gv_res h0 h fun _ => ⟨nofun, nofun, nofun⟩⟩
  · rw [e] at h
    exact ⟨_, e, gv_res h0 h fun _ => ⟨nofun, nofun, nofun⟩⟩
def Quiet1 (op : D → Rs VD) : Prop := ∀ d, Quiet (op d)
def Quiet2 (op : D → D → Rs VD) : Prop := ∀ d e, Quiet (op d e)
section
variable {X : Cx} {C : FC} {a b : Expr} {f g : DE} {pos : Pos} {r : R2} {op : D → D → Rs VD}
theorem t_op (hd : R2D X.K X.mg r op) (hq : Quiet2 op) : ∀ (σ : L2.St) (H : Hp) (Q : VK), tE X.K X.mg C (eOp op f g) σ H Q → tOp r (tE X.K X.mg C f) (tE X.K X.mg C g) σ H Q := by
  rintro σ H Q ⟨ρ, T, h, P⟩
  refine ⟨ρ, T, h, gv_dt h P fun d T' v H1 h1 e1 p P1 => ⟨ρ, T', h1, gv_dt h1 P1 fun d2 T2 v2 H2 h2 e2 p2 P2 => ?_⟩⟩
  obtain ⟨z, ez, P3⟩ := lift_ex (hq d d2) h2 (post_from h2 (e1.trans e2) P2)
  exact hd _ H2 v v2 d d2 Q z h2.trk (p.ext e2).top p2.top ez P3
theorem se_op {o : Operator} (ho : OpR X (binaryOp o) r) (hd : R2D X.K X.mg r op) (hq : Quiet2 op) (ha : SE X C a f) (hb : SE X C b g) : SE X C (.BinOp a o b pos) (eOp op f g) :=
  pe_imp (pe_op ho ha hb) (t_op hd hq)
theorem se_cmp {o : CmpOp} (ho : OpR X (compareOp o) r) (hd : R2D X.K X.mg r op) (hq : Quiet2 op) (ha : SE X C a f) (hb : SE X C b g) (hm : behindInMarks o b = false) : SE X C (.Compare a [o] [b] pos) (eOp op f g) :=
  pe_imp (pe_cmpR ho ha hb hm) (t_op hd hq)
theorem se_ix (hr : IxR X r) (hd : R2D X.K X.mg r op) (hq : Quiet2 op) (ha : SE X C a f) (hb : SE X C b g) (hs : PlainIx b) : SE X C (.Subscript a b pos) (eOp op f g) :=
  pe_imp (pe_ix hr ha hb hs) (t_op hd hq)
end
/-! ## names and constants -/
/-- a name -/
def eVar (i : Nat) : DE := fun r T => match r[i]? with
  | some (some (.val d)) => .ok (.val d, T)
  | some (some (.own d)) => .ok (.peek d, T)
  | _ => .stuck
def eC (d : D) : DE := fun _ T => .ok (.val d, T)
section
variable {X : Cx} {C : FC}
theorem se_var (i : Nat) {x : Str} {pos : Pos} (hN : X.N[i]? = some x := by rfl) (hv : Vis X.env.scope x := by first | exact Or.inl rfl | exact Or.inr (Or.inl rfl) | exact Or.inr (Or.inr rfl))
    (hd : (x == ("__debug__" : Str)) = false := by decide) (hcd : (x == ("__classdict__" : Str)) = false := by decide) : SE X C (.Name x pos) (eVar i) := by
  refine pe_imp (pe_var hN hv hd hcd) ?_
  rintro σ H Q ⟨ρ, T, h, P⟩
  unfold eVar at P
  cases e : ρ[i]? with
  | none => rw [e] at P; exact P.elim
  | some o =>
    rw [e] at P
    cases o with
    | none => exact P.elim
    | some w =>
      cases w with
      | val d =>
        obtain ⟨v, e1, p⟩ := h.val i d e
        exact ⟨v, e1, P v H h Ext.refl p⟩
      | own d =>
        obtain ⟨p, e1, o, _, nt, _⟩ := h.own i d e
        exact ⟨_, e1, P _ H h Ext.refl (.inr ⟨p, rfl, nt, o⟩)⟩
      | peek d => exact P.elim
      | tape => exact P.elim
      | tree s d => exact P.elim
      | look d => exact P.elim
theorem t_c {d : D} {v : V} (hr : ∀ K mg S H, Rep K mg S H v d) : ∀ (σ : L2.St) (H : Hp) (Q : VK), tE X.K X.mg C (eC d) σ H Q → tC v σ H Q := by
  rintro σ H Q ⟨ρ, T, h, P⟩
  exact P v H h Ext.refl (hr _ _ _ _)
theorem se_int {i : Int} {j : Nat} {pos : Pos} : SE X C (.Constant (.int i) j pos) (eC (.int i)) := pe_imp pe_int (t_c fun _ _ _ _ => .int i)
theorem se_bl {b : Bool} {j : Nat} {pos : Pos} : SE X C (.Constant (.bool b) j pos) (eC (.bl b)) := pe_imp pe_bl (t_c fun _ _ _ _ => .bl b)
theorem se_non {j : Nat} {pos : Pos} : SE X C (.Constant .none j pos) (eC .non) := pe_imp pe_non (t_c fun _ _ _ _ => .non)
/-- a module's constant -/
theorem se_globI {x : Str} {i : Int} {pos : Pos} (hm : ∃ t, X.mg x = some (.int i t)) (hg : Gl X x := by rfl) (hd : (x == ("__debug__" : Str)) = false := by decide) : SE X C (.Name x pos) (eC (.int i)) := by
  obtain ⟨t, hm⟩ := hm
  exact pe_imp (pe_glob hg hm (v := .int i) ⟨t, rfl⟩ hd) (t_c fun _ _ _ _ => .int i)
/-- what is not served -/
def eNo : DE := fun _ _ => .stuck
end
/-! ## tests -/
/-- a test's worth -/
abbrev DT := Env → Tp → Rs (Bool × Tp)
def GT (K : PySem.W.Frag) (mg : Str → Option Value) (C : FC) (r : Env) (σ : L2.St) (H : Hp) (Q : Bool → Hp → Prop) : Bool × Tp → Prop := fun p => ∀ H', Holds K mg C Z0 r p.2 σ H' → Ext C H H' → Q p.1 H'
abbrev PostT (K : PySem.W.Frag) (mg : Str → Option Value) (C : FC) (r : Env) (σ : L2.St) (H : Hp) (Q : Bool → Hp → Prop) : Rs (Bool × Tp) → Prop := PostG K mg C σ (GT K mg C r σ H Q)
def tT (K : PySem.W.Frag) (mg : Str → Option Value) (C : FC) (f : DT) : TT := fun σ H Q => ∃ r T, Holds K mg C Z0 r T σ H ∧ PostT K mg C r σ H Q (f r T)
abbrev ST (X : Cx) (C : FC) (e : Expr) (f : DT) : Prop := PT X e (tT X.K X.mg C f)
abbrev SW (X : Cx) (C : FC) (e : Expr) (f : DT) : Prop := PW X e (tT X.K X.mg C f)
section
variable {K : PySem.W.Frag} {mg : Str → Option Value} {C : FC} {r : Env} {T : Tp} {σ : L2.St} {H H1 : Hp}
theorem gt_bind {B : Type} {G : B → Prop} {Q : Bool → Hp → Prop} {x : Rs (Bool × Tp)} {g : Bool × Tp → Rs B} (P : PostG K mg C σ G (x.bind g))
    (k : ∀ b T' H', Holds K mg C Z0 r T' σ H' → Ext C H H' → PostG K mg C σ G (g (b, T')) → Q b H') : PostT K mg C r σ H Q x :=
  P.bind.imp fun p P H' h1 e1 => k p.1 p.2 H' h1 e1 P
theorem gt_from {Q : Bool → Hp → Prop} {x : Rs (Bool × Tp)} (e : Ext C H H1) (h : PostT K mg C r σ H Q x) : PostT K mg C r σ H1 Q x := h.imp fun _ q H' h1 e1 => q H' h1 (e.trans e1)
end
/-- a bool -/
def dBl : D → Rs Bool
  | .bl b => .ok b
  | _ => .stuck
@[simp] theorem dBl_bl (b : Bool) : dBl (.bl b) = .ok b := rfl
def xB (f : DE) : DT := fun r T => (dv (f r T)).bind fun p => (dBl p.1).bind fun b => .ok (b, p.2)
def xAnd (f g : DT) : DT := fun r T => (f r T).bind fun p => if p.1 = true then g r p.2 else .ok (false, p.2)
def xOr (f g : DT) : DT := fun r T => (f r T).bind fun p => if p.1 = true then .ok (true, p.2) else g r p.2
def xNot (f : DT) : DT := fun r T => (f r T).bind fun p => .ok (!p.1, p.2)
def eIf (c : DT) (f g : DE) : DE := fun r T => (c r T).bind fun p => if p.1 = true then f r p.2 else g r p.2
def eAnd (f g : DE) : DE := fun r T => (dv (f r T)).bind fun p => (dBl p.1).bind fun b => if b = true then g r p.2 else .ok (.val (.bl false), p.2)
def eOr (f g : DE) : DE := fun r T => (dv (f r T)).bind fun p => (dBl p.1).bind fun b => if b = true then .ok (.val (.bl true), p.2) else g r p.2
def eNot (f : DE) : DE := fun r T => (dv (f r T)).bind fun p => (dBl p.1).bind fun b => .ok (.val (.bl !b), p.2)
section
variable {K : PySem.W.Frag} {mg : Str → Option Value} {C : FC} {r : Env} {T : Tp} {σ : L2.St} {H : Hp} {B : Type} {G : B → Prop}
theorem dbl_ex {d : D} {v : V} {g : Bool → Rs B} (p : Rep K mg (SS C Z0 r σ) H v d) (P : PostG K mg C σ G ((dBl d).bind g)) : ∃ b, v = .bl b ∧ d = .bl b ∧ PostG K mg C σ G (g b) := by
  cases d with
  | bl b =>
    cases p
    exact ⟨b, rfl, rfl, P⟩
  | _ => exact (show False from P).elim
end
section
variable {X : Cx} {C : FC} {a b c : Expr} {f g : DE} {u w : DT} {pos : Pos} {rest : List Expr}
theorem t_B : ∀ (σ : L2.St) (H : Hp) (Q : Bool → Hp → Prop), tT X.K X.mg C (xB f) σ H Q → tB (tE X.K X.mg C f) σ H Q := by
  rintro σ H Q ⟨ρ, T, h, P⟩
  refine ⟨ρ, T, h, gv_dv h P fun d T' v H1 h1 e1 p P1 => ?_⟩
  obtain ⟨b, rfl, rfl, P2⟩ := dbl_ex p P1
  exact ⟨b, rfl, P2 H1 h1 e1⟩
theorem st_val (h : SE X C a f) (he : ∀ whole, isTrue a X.env whole = (do let v ← whole; standAt a.pos; holding [v] (truthy v)) := by intro _; rfl) : ST X C a (xB f) := pt_imp (pt_val h he) t_B
theorem st_cmp {op : D → D → Rs VD} {r : R2} {o : CmpOp} (ho : OpR X (compareOp o) r) (hd : R2D X.K X.mg r op) (hq : Quiet2 op) (ha : SE X C a f) (hb : SE X C b g) (hm : behindInMarks o b = false) : ST X C (.Compare a [o] [b] pos) (xB (eOp op f g)) := by
  refine pt_imp (pt_cmpR ho ha hb hm) ?_
  intro σ H Q hh
  exact t_op hd hq σ H _ (t_B (X := X) (C := C) (f := eOp op f g) σ H Q hh)
theorem st_not (h : ST X C a u) : ST X C (.UnaryOp .Not a pos) (xNot u) := by
  refine pt_imp (pt_not h) ?_
  rintro σ H Q ⟨ρ, T, h, P⟩
  exact ⟨ρ, T, h, gt_bind P fun b T' H1 h1 e1 P1 => P1 H1 h1 e1⟩
theorem t_and : ∀ (σ : L2.St) (H : Hp) (Q : Bool → Hp → Prop), tT X.K X.mg C (xAnd u w) σ H Q → tAnd (tT X.K X.mg C u) (tT X.K X.mg C w) σ H Q := by
  rintro σ H Q ⟨ρ, T, h, P⟩
  refine ⟨ρ, T, h, gt_bind P fun b T' H1 h1 e1 P1 => ?_⟩
  cases b with
  | true => exact ⟨ρ, T', h1, gt_from e1 P1⟩
  | false => exact P1 H1 h1 e1
theorem t_or : ∀ (σ : L2.St) (H : Hp) (Q : Bool → Hp → Prop), tT X.K X.mg C (xOr u w) σ H Q → tOr (tT X.K X.mg C u) (tT X.K X.mg C w) σ H Q := by
  rintro σ H Q ⟨ρ, T, h, P⟩
  refine ⟨ρ, T, h, gt_bind P fun b T' H1 h1 e1 P1 => ?_⟩
  cases b with
  | true => exact P1 H1 h1 e1
  | false => exact ⟨ρ, T', h1, gt_from e1 P1⟩
theorem pw_imp {e : Expr} {t t' : TT} (h : PW X e t) (i : ∀ σ H Q, t' σ H Q → t σ H Q) : PW X e t' := ⟨fun wh pins s σ H Q I q => h.run wh pins s σ H Q I (i σ H Q q)⟩
theorem sw_and1 (h : ST X C a u) : SW X C (.BoolOp .And [a] pos) u := pw_and1 h
theorem sw_or1 (h : ST X C a u) : SW X C (.BoolOp .Or [a] pos) u := pw_or1 h
theorem sw_and (h : ST X C a u) (k : SW X C (.BoolOp .And (b :: rest) pos) w) : SW X C (.BoolOp .And (a :: b :: rest) pos) (xAnd u w) := pw_imp (pw_and h k) t_and
theorem sw_or (h : ST X C a u) (k : SW X C (.BoolOp .Or (b :: rest) pos) w) : SW X C (.BoolOp .Or (a :: b :: rest) pos) (xOr u w) := pw_imp (pw_or h k) t_or
theorem st_of (h : SW X C a u) : ST X C a u := h.pt
theorem se_and1 (h : SE X C a f) : SE X C (.BoolOp .And [a] pos) f := pe_one h
theorem se_and (h : SE X C a f) (k : SE X C (.BoolOp .And (b :: rest) pos) g) : SE X C (.BoolOp .And (a :: b :: rest) pos) (eAnd f g) := by
  refine pe_imp (pe_and h k) ?_
  rintro σ H Q ⟨ρ, T, h, P⟩
  refine ⟨ρ, T, h, gv_dv h P fun d T' v H1 h1 e1 p P1 => ?_⟩
  obtain ⟨b, rfl, rfl, P2⟩ := dbl_ex p P1
  refine ⟨b, rfl, ?_⟩
  cases b with
  | true => exact ⟨ρ, T', h1, post_from h1 e1 P2⟩
  | false => exact P2 _ H1 h1 e1 (.bl false)
theorem se_not (h : SE X C a f) : SE X C (.UnaryOp .Not a pos) (eNot f) := by
  refine pe_imp (pe_not h) ?_
  rintro σ H Q ⟨ρ, T, h, P⟩
  refine ⟨ρ, T, h, gv_dv h P fun d T' v H1 h1 e1 p P1 => ?_⟩
  obtain ⟨b, rfl, rfl, P2⟩ := dbl_ex p P1
  exact ⟨b, rfl, P2 _ H1 h1 e1 (.bl !b)⟩
end
/-! ## argument lists, displays -/
abbrev DA := Env → Tp → Rs (List D × Tp)
def GA (K : PySem.W.Frag) (mg : Str → Option Value) (C : FC) (r : Env) (σ : L2.St) (H : Hp) (Q : List V → Hp → Prop) : List D × Tp → Prop := fun p => ∀ vs H', Holds K mg C Z0 r p.2 σ H' → Ext C H H' → Reps K mg (SS C Z0 r σ) H' vs p.1 → Q vs H'
inductive TopCs (K : PySem.W.Frag) (mg : Str → Option Value) (C : FC) (r : Env) (σ : L2.St) (H : Hp) : List V → List D → Prop
  | nil : TopCs K mg C r σ H [] []
  | cons {v : V} {vs : List V} {d : D} {ds : List D} : TopC K mg C r σ H v d → TopCs K mg C r σ H vs ds → TopCs K mg C r σ H (v :: vs) (d :: ds)
theorem TopCs.tops {K : PySem.W.Frag} {mg : Str → Option Value} {C : FC} {r : Env} {σ : L2.St} {H : Hp} : ∀ {vs : List V} {ds : List D}, TopCs K mg C r σ H vs ds → Tops K mg (SS C Z0 r σ) H vs ds
  | _, _, .nil => .nil
  | _, _, .cons h t => .cons h.top t.tops
def GB (K : PySem.W.Frag) (mg : Str → Option Value) (C : FC) (r : Env) (σ : L2.St) (H : Hp) (Q : List V → Hp → Prop) : List D × Tp → Prop := fun p => ∀ vs H', Holds K mg C Z0 r p.2 σ H' → Ext C H H' → TopCs K mg C r σ H' vs p.1 → Q vs H'
def tA (K : PySem.W.Frag) (mg : Str → Option Value) (C : FC) (f : DA) : TA := fun σ H Q => ∃ r T, Holds K mg C Z0 r T σ H ∧ PostG K mg C σ (GA K mg C r σ H Q) (f r T)
/-- .. that are only looked into -/
def tAt (K : PySem.W.Frag) (mg : Str → Option Value) (C : FC) (f : DA) : TA := fun σ H Q => ∃ r T, Holds K mg C Z0 r T σ H ∧ PostG K mg C σ (GB K mg C r σ H Q) (f r T)
abbrev SA (X : Cx) (C : FC) (es : List Expr) (f : DA) : Prop := PA X es (tA X.K X.mg C f)
abbrev SAt (X : Cx) (C : FC) (es : List Expr) (f : DA) : Prop := PA X es (tAt X.K X.mg C f)
def aNil : DA := fun _ T => .ok ([], T)
def aCons (f : DE) (g : DA) : DA := fun r T => (dv (f r T)).bind fun p => (g r p.2).bind fun q => .ok (p.1 :: q.1, q.2)
def aConsT (f : DE) (g : DA) : DA := fun r T => (dt (f r T)).bind fun p => (g r p.2).bind fun q => .ok (p.1 :: q.1, q.2)
def eTup (g : DA) : DE := fun r T => (g r T).bind fun p => if p.1.length ≤ 1000 then .ok (.val (.tup p.1), p.2) else .stuck
def eLst (g : DA) : DE := fun r T => (g r T).bind fun p => if p.1.length ≤ 1000 then .ok (.own (.lst p.1), p.2) else .stuck
section
variable {K : PySem.W.Frag} {mg : Str → Option Value} {C : FC} {r : Env} {T : Tp} {σ : L2.St} {H H1 : Hp}
theorem ga_bind {B : Type} {G : B → Prop} {Q : List V → Hp → Prop} {x : Rs (List D × Tp)} {g : List D × Tp → Rs B} (P : PostG K mg C σ G (x.bind g))
    (k : ∀ ds T' vs H', Holds K mg C Z0 r T' σ H' → Ext C H H' → Reps K mg (SS C Z0 r σ) H' vs ds → PostG K mg C σ G (g (ds, T')) → Q vs H') : PostG K mg C σ (GA K mg C r σ H Q) x :=
  P.bind.imp fun p P vs H' h1 e1 q => k p.1 p.2 vs H' h1 e1 q P
theorem gb_bind {B : Type} {G : B → Prop} {Q : List V → Hp → Prop} {x : Rs (List D × Tp)} {g : List D × Tp → Rs B} (P : PostG K mg C σ G (x.bind g))
    (k : ∀ ds T' vs H', Holds K mg C Z0 r T' σ H' → Ext C H H' → TopCs K mg C r σ H' vs ds → PostG K mg C σ G (g (ds, T')) → Q vs H') : PostG K mg C σ (GB K mg C r σ H Q) x :=
  P.bind.imp fun p P vs H' h1 e1 q => k p.1 p.2 vs H' h1 e1 q P
end
theorem k1000 {n : Nat} (h : n ≤ 1000) : n ≤ sizeLine := by rw [sizeLine_eq]; omega
theorem postG_if {K : PySem.W.Frag} {mg : Str → Option Value} {C : FC} {σ : L2.St} {B : Type} {G : B → Prop} {p : Prop} [Decidable p] {x : Rs B} (h : PostG K mg C σ G (if p then x else .stuck)) : p ∧ PostG K mg C σ G x := by
  by_cases c : p
  · rw [if_pos c] at h
    exact ⟨c, h⟩
  · rw [if_neg c] at h
    exact h.elim
section
variable {X : Cx} {C : FC} {e : Expr} {es : List Expr} {f : DE} {g : DA} {pos : Pos}
theorem sa_nil : SA X C [] aNil := by
  refine pa_imp pa_nil ?_
  rintro σ H Q ⟨ρ, T, h, P⟩
  exact P [] H h Ext.refl .nil
theorem sat_nil : SAt X C [] aNil := by
  refine pa_imp pa_nil ?_
  rintro σ H Q ⟨ρ, T, h, P⟩
  exact P [] H h Ext.refl .nil
theorem sa_cons (ha : SE X C e f) (hr : SA X C es g) (hs : starEach (e :: es) X.env = (false, eval e X.env) :: starEach es X.env := by rfl) : SA X C (e :: es) (aCons f g) := by
  refine pa_imp (pa_cons ha hr hs) ?_
  rintro σ H Q ⟨ρ, T, h, P⟩
  refine ⟨ρ, T, h, gv_dv h P fun d T' v H1 h1 e1 p P1 => ⟨ρ, T', h1, ga_bind P1 fun ds T2 vs H2 h2 e2 p2 P2 => ?_⟩⟩
  exact P2 _ H2 h2 (e1.trans e2) (.cons (p.ext e2) p2)
theorem sat_cons (ha : SE X C e f) (hr : SAt X C es g) (hs : starEach (e :: es) X.env = (false, eval e X.env) :: starEach es X.env := by rfl) : SAt X C (e :: es) (aConsT f g) := by
  refine pa_imp (pa_cons ha hr hs) ?_
  rintro σ H Q ⟨ρ, T, h, P⟩
  refine ⟨ρ, T, h, gv_dt h P fun d T' v H1 h1 e1 p P1 => ⟨ρ, T', h1, gb_bind P1 fun ds T2 vs H2 h2 e2 p2 P2 => ?_⟩⟩
  exact P2 _ H2 h2 (e1.trans e2) (.cons (p.ext e2) p2)
theorem se_tup {x1 : Nat} (h : SA X C es g) : SE X C (.Tuple es x1 pos) (eTup g) := by
  refine pe_imp (pe_tup h) ?_
  rintro σ H Q ⟨ρ, T, h, P⟩
  refine ⟨ρ, T, h, ga_bind P fun ds T' vs H1 h1 e1 p P1 => ?_⟩
  obtain ⟨z, P2⟩ := postG_if P1
  have z2 : vs.length ≤ sizeLine := k1000 (by rw [p.len]; exact z)
  exact ⟨z2, fun q hq => (gv_res h1 (gv_from h1 e1 (show GV X.K X.mg C ρ σ H Q (.val (.tup ds), T') from P2)) fun _ => ⟨nofun, nofun, nofun⟩).newT h1.trk hq z2 p⟩
theorem se_lst (h : SA X C es g) : SE X C (.List es pos) (eLst g) := by
  refine pe_imp (pe_lst h) ?_
  rintro σ H Q ⟨ρ, T, h, P⟩
  refine ⟨ρ, T, h, ga_bind P fun ds T' vs H1 h1 e1 p P1 => ?_⟩
  obtain ⟨z, P2⟩ := postG_if P1
  have z2 : vs.length ≤ sizeLine := k1000 (by rw [p.len]; exact z)
  exact ⟨z2, fun q hq => (gv_res h1 (gv_from h1 e1 (show GV X.K X.mg C ρ σ H Q (.own (.lst ds), T') from P2)) fun _ => ⟨nofun, nofun, nofun⟩).newL hq z2 p⟩
end
/-! ## calls of built-in functions -/
def eCall (op : List D → Rs VD) (g : DA) : DE := fun r T => (g r T).bind fun p => lift (op p.1) p.2
def QuietN (op : List D → Rs VD) : Prop := ∀ d, Quiet (op d)
section
variable {X : Cx} {C : FC} {e : Expr} {es : List Expr} {g : DA} {pos p : Pos} {x : Str} {r : List V → Hp → VK → Prop} {op : List D → Rs VD}
theorem t_call (hd : RnD X.K X.mg r op) (hq : QuietN op) : ∀ (σ : L2.St) (H : Hp) (Q : VK), tE X.K X.mg C (eCall op g) σ H Q → tCB r (tAt X.K X.mg C g) σ H Q := by
  rintro σ H Q ⟨ρ, T, h, P⟩
  refine ⟨ρ, T, h, gb_bind P fun ds T' vs H1 h1 e1 p P1 => ?_⟩
  obtain ⟨z, ez, P3⟩ := lift_ex (hq ds) h1 (post_from h1 e1 P1)
  exact hd _ H1 vs ds Q z h1.trk p.tops ez P3
theorem se_callB {id : String} (hc : CallR X (.builtin id) r) (hd : RnD X.K X.mg r op) (hq : QuietN op) (hm : X.mg x = none) (hv : bootBuiltins x = some (.builtin id)) (ha : SAt X C (e :: es) g) (hg : Gl X x := by rfl) (hn : x ≠ "__name__" := by decide) (hdb : (x == ("__debug__" : Str)) = false := by decide)
    (he : starEach (e :: es) X.env = (false, eval e X.env) :: starEach es X.env := by rfl) (hpl : (backTo pos (starEach es X.env)).any (·.1) = false := by rfl) : SE X C (.Call (.Name x p) (e :: es) [] pos) (eCall op g) :=
  pe_imp (pe_callB hc hg hm hv ha hn hdb he hpl) (t_call hd hq)
theorem se_callTy {T : String} (hc : CallR X (.type T) r) (hd : RnD X.K X.mg r op) (hq : QuietN op) (hm : X.mg x = none) (hv : bootBuiltins x = some (.type T)) (ha : SAt X C (e :: es) g) (hg : Gl X x := by rfl) (hn : x ≠ "__name__" := by decide) (hdb : (x == ("__debug__" : Str)) = false := by decide)
    (he : starEach (e :: es) X.env = (false, eval e X.env) :: starEach es X.env := by rfl) (hpl : (backTo pos (starEach es X.env)).any (·.1) = false := by rfl) : SE X C (.Call (.Name x p) (e :: es) [] pos) (eCall op g) :=
  pe_imp (pe_callTy hc hg hm hv ha hn hdb he hpl) (t_call hd hq)
end
end Pu
namespace Pu
open PySem L2
/-! ## statements -/
inductive Fl where
  | nx (r : Env) | rt (v : VD) | bk (r : Env) | ct (r : Env)
abbrev DS := Env → Tp → Rs (Fl × Tp)
def S1 (C : FC) : Addr → Prop := fun p => C.S0 p ∨ C.tp = some p
def Ret (K : PySem.W.Frag) (mg : Str → Option Value) (C : FC) (T : Tp) (H : Hp) (u : V) : VD → Prop
  | .val d => Rep K mg (S1 C) H u d ∧ TapeOk K mg (S1 C) C.tp T H
  | .own d => ∃ p, u = .ref p ∧ C.H0 p = none ∧ C.tp ≠ some p ∧ OwnAt K mg (fun a => S1 C a ∨ a = p) H p d ∧ TapeOk K mg (fun a => S1 C a ∨ a = p) C.tp T H
  | .tree s d => ∃ F : List Addr, (∀ p ∈ F, C.H0 p = none ∧ C.tp ≠ some p) ∧ F.Nodup ∧ TreeAt K mg (fun a => S1 C a ∨ a ∈ F) H F s u d ∧ TapeOk K mg (fun a => S1 C a ∨ a ∈ F) C.tp T H
  | _ => False
def GS (K : PySem.W.Frag) (mg : Str → Option Value) (C : FC) (E : Ends) : Fl × Tp → Prop
  | (.nx r, T) => ∀ σ H, HoldsY K mg C r T σ H → E.nx σ H
  | (.bk r, T) => ∀ σ H, HoldsY K mg C r T σ H → E.bk σ H
  | (.ct r, T) => ∀ σ H, HoldsY K mg C r T σ H → E.ct σ H
  | (.rt v, T) => ∀ u H, Ext C C.H0 H → Ret K mg C T H u v → E.rt u H
/-- what is asked of a run, at whatever slots -/
def PostS {B : Type} (K : PySem.W.Frag) (mg : Str → Option Value) (C : FC) (G : B → Prop) : Rs B → Prop
  | .ok b => G b
  | .exc c fs T r => ∀ σ cls d H' (Y : Addr → Prop), (∀ p, Y p → ¬ C.S0 p) → Holds K mg (C.plus Y) Z0 r T σ H' → ExcAt K mg (SS (C.plus Y) Z0 r σ) H' c fs cls d → C.W cls d σ H'
  | .stuck => False
def tS (K : PySem.W.Frag) (mg : Str → Option Value) (C : FC) (g : DS) : TS := fun E σ H => ∃ r T, HoldsY K mg C r T σ H ∧ PostS K mg C (GS K mg C E) (g r T)
abbrev SSt (X : Cx) (C : FC) (st : Stmt) (g : DS) : Prop := PS X st (tS X.K X.mg C g)
abbrev SSs (X : Cx) (C : FC) (st : List Stmt) (g : DS) : Prop := PSs X st (tS X.K X.mg C g)
section
variable {K : PySem.W.Frag} {mg : Str → Option Value} {C : FC} {σ : L2.St} {A B : Type} {G G2 : B → Prop}
theorem PostS.bind {x : Rs A} {g : A → Rs B} (h : PostS K mg C G (x.bind g)) : PostS K mg C (fun a => PostS K mg C G (g a)) x := by
  cases x <;> exact h
theorem PostS.imp {x : Rs B} (h : PostS K mg C G x) (i : ∀ b, G b → G2 b) : PostS K mg C G2 x := by
  cases x with
  | ok b => exact i b h
  | exc c fs T r => exact h
  | stuck => exact h
theorem PostS.at {Y : Addr → Prop} {x : Rs B} (hY : ∀ p, Y p → ¬ C.S0 p) (h : PostS K mg C G x) : PostG K mg (C.plus Y) σ G x := by
  cases x with
  | ok b => exact h
  | exc c fs T r => exact fun cls d H' a b => h σ cls d H' Y hY a b
  | stuck => exact h
theorem pe_ex {X : Cx} {e : Expr} {t : (Addr → Prop) → TE} (h : ∀ Y, PE X e (t Y)) : PE X e (fun σ H Q => ∃ Y, t Y σ H Q) := ⟨fun pins s σ H Q I ⟨Y, q⟩ => (h Y).run pins s σ H Q I q⟩
theorem ps_ex {X : Cx} {st : Stmt} {t : (Addr → Prop) → TS} (h : ∀ Y, PS X st (t Y)) : PS X st (fun D σ H => ∃ Y, t Y D σ H) := ⟨fun pins s σ H D I ⟨Y, q⟩ => (h Y).run pins s σ H D I q⟩
theorem pt_ex {X : Cx} {e : Expr} {t : (Addr → Prop) → TT} (h : ∀ Y, PT X e (t Y)) : PT X e (fun σ H Q => ∃ Y, t Y σ H Q) := ⟨fun pins s σ H Q I ⟨Y, q⟩ => (h Y).run pins s σ H Q I q⟩
theorem postS_if {p : Prop} [Decidable p] {x : Rs B} (h : PostS K mg C G (if p then x else .stuck)) : p ∧ PostS K mg C G x := by
  by_cases c : p
  · rw [if_pos c] at h
    exact ⟨c, h⟩
  · rw [if_neg c] at h
    exact h.elim
variable {r : Env} {T : Tp} {H H1 : Hp}
theorem gs_dv {Q : VK} {x : Rs (VD × Tp)} {R : D × Tp → Prop} (h0 : Holds K mg C Z0 r T σ H) (P : PostG K mg C σ R (dv x))
    (k : ∀ d T' v H', Holds K mg C Z0 r T' σ H' → Ext C H H' → Rep K mg (SS C Z0 r σ) H' v d → R (d, T') → Q v H') : Post K mg C r σ H Q x := by
  refine (PostG.bind P).imp fun p P => ?_
  obtain ⟨v, T'⟩ := p
  cases v with
  | val d => exact fun v H' h1 e1 p => k d T' v H' h1 e1 p P
  | own d => exact fun p H' hp h1 e1 o => k d T' (.ref p) H' h1.join e1 (o.frozen (h0.fresh hp) (fun a o e s z => s (ss_less a z))) P
  | peek d => exact (show False from P).elim
  | tape => exact (show False from P)
  | tree s d => exact (show False from P).elim
  | look d => exact (show False from P).elim
theorem gs_dt {Q : VK} {x : Rs (VD × Tp)} {R : D × Tp → Prop} (h0 : Holds K mg C Z0 r T σ H) (P : PostG K mg C σ R (dt x))
    (k : ∀ d T' v H', Holds K mg C Z0 r T' σ H' → Ext C H H' → TopC K mg C r σ H' v d → R (d, T') → Q v H') : Post K mg C r σ H Q x := by
  refine (PostG.bind P).imp fun p P => ?_
  obtain ⟨v, T'⟩ := p
  cases v with
  | val d => exact fun v H' h1 e1 p => k d T' v H' h1 e1 (.inl p) P
  | own d => exact fun p H' hp h1 e1 o => k d T' (.ref p) H' h1.join e1 (.inl (o.frozen (h0.fresh hp) (fun a o e s z => s (ss_less a z)))) P
  | peek d => exact fun v H' h1 e1 p => k d T' v H' h1 e1 p P
  | tape => exact (show False from P)
  | tree s d => exact (show False from P).elim
  | look d => exact (show False from P).elim
end
/-! ## slots -/
section
variable {K : PySem.W.Frag} {mg : Str → Option Value} {C : FC} {Z : Addr → Prop} {r : Env} {T : Tp} {σ : L2.St} {H H1 : Hp} {i : Nat}
theorem set_at {α : Type} {l : List α} {i j : Nat} {x y : α} (h : (l.set i x)[j]? = some y) : (j = i ∧ y = x) ∨ (j ≠ i ∧ l[j]? = some y) := by
  by_cases e : j = i
  · subst e
    rw [List.getElem?_set_self'] at h
    cases q : l[j]? with
    | none =>
      rw [q] at h
      cases h
    | some z =>
      rw [q] at h
      cases h
      exact .inl ⟨rfl, rfl⟩
  · rw [List.getElem?_set_ne (Ne.symm e)] at h
    exact .inr ⟨e, h⟩
theorem lt_of_get {α : Type} {l : List α} {i : Nat} {x : α} (h : l[i]? = some x) : i < l.length := (List.getElem?_eq_some_iff.mp h).1
theorem tree_set {w : VD} {x : Option V} (hw : ∀ s d, w ≠ .tree s d) (j : Nat) (s : Sh) (d : D) (h : (r.set i (some w))[j]? = some (some (.tree s d))) : r[j]? = some (some (.tree s d)) ∧ (σ.set i x)[j]? = σ[j]? := by
  rcases set_at h with ⟨_, q⟩ | ⟨ne, q⟩
  · injection q with q
    exact absurd q.symm (hw s d)
  · exact ⟨q, List.getElem?_set_ne (Ne.symm ne)⟩
/-- a slot gets data (or nothing that is known) -/
theorem Holds.setVal (h : Holds K mg C Z r T σ H) {v : V} {d : D} (p : Rep K mg (SS C Z r σ) H v d) : Holds K mg C Z (r.set i (some (.val d))) T (σ.set i (some v)) H := by
  have less : ∀ a, SS C Z (r.set i (some (.val d))) (σ.set i (some v)) a → SS C Z r σ a := fun a z => by
    rcases z with z | z | ⟨j, e, z1, z2⟩ | z
    · exact .inl z
    · exact .inr (.inl z)
    · rcases set_at z1 with ⟨_, q⟩ | ⟨ne, q⟩
      · cases q
      · rw [List.getElem?_set_ne (Ne.symm ne)] at z2
        exact .inr (.inr (.inl ⟨j, e, q, z2⟩))
    · exact .inr (.inr (.inr z))
  have n : ∀ a o, H a = some o → ¬ SS C Z r σ a → ¬ SS C Z (r.set i (some (.val d))) (σ.set i (some v)) a := fun a _ _ s z => s (less a z)
  refine ⟨by rw [List.length_set, List.length_set]; exact h.len, h.frame, fun j e q => ?_, fun j e q => ?_, fun j k p d e q1 q2 q3 q4 => ?_, ?_, fun j q => ?_, h.st, h.zt, fun p hp => (h.pin p hp).go (fun _ _ e _ => e) n, h.tree.mk' (fun _ _ e _ => e) n (fun _ _ _ _ _ e => e) (tree_set nofun) fun _ a b c => ⟨a, b, c⟩⟩
  · rcases set_at q with ⟨ej, q⟩ | ⟨ne, q⟩
    · cases q
      subst ej
      refine ⟨v, ?_, p.go (fun _ _ e _ => e) n⟩
      have hj := lt_of_get ‹_›
      rw [List.length_set, h.len] at hj
      rw [List.getElem?_set_self hj]
    · obtain ⟨u, e1, p1⟩ := h.val j e q
      refine ⟨u, ?_, p1.go (fun _ _ e _ => e) n⟩
      rw [List.getElem?_set_ne (Ne.symm ne)]
      exact e1
  · rcases set_at q with ⟨ej, q⟩ | ⟨ne, q⟩
    · cases q
    · obtain ⟨u, e1, o, g⟩ := h.own j e q
      refine ⟨u, ?_, o.go (fun _ e => e) (fun _ _ e _ => e) n, g⟩
      rw [List.getElem?_set_ne (Ne.symm ne)]
      exact e1
  · rcases set_at q1 with ⟨ej, q⟩ | ⟨ne, q1⟩
    · cases q
    · rcases set_at q2 with ⟨ej, q⟩ | ⟨ne2, q2⟩
      · cases q
      · rw [List.getElem?_set_ne (Ne.symm ne)] at q3
        rw [List.getElem?_set_ne (Ne.symm ne2)] at q4
        exact h.inj j k p _ _ q1 q2 q3 q4
  · have t := h.tape
    unfold TapeOk at t ⊢
    cases hc : C.tp with
    | none =>
      rw [hc] at t
      exact t
    | some u =>
      rw [hc] at t
      obtain ⟨t, e, o⟩ := t
      exact ⟨t, e, o.go (fun o q => q) (fun a o q _ => q) n⟩
  · rcases set_at q with ⟨ej, q⟩ | ⟨ne, q⟩
    · cases q
    · rw [List.getElem?_set_ne (Ne.symm ne)]
      exact h.tslot j q
/-- a slot gets the thing that was set apart -/
theorem Holds.setOwn {p : Addr} (h : Holds K mg C (fun a => a = p) r T σ H) {d : D} (hp : C.H0 p = none) (o : OwnAt K mg (SS C (fun a => a = p) r σ) H p d) (nt : C.tp ≠ some p) (ns : ¬ C.S0 p) : Holds K mg C Z0 (r.set i (some (.own d))) T (σ.set i (some (.ref p))) H := by
  have less : ∀ a, SS C Z0 (r.set i (some (.own d))) (σ.set i (some (.ref p))) a → SS C (fun a => a = p) r σ a := fun a z => by
    rcases z with z | z | ⟨j, e, z1, z2⟩ | z
    · exact .inl z
    · exact .inr (.inl z)
    · rcases set_at z1 with ⟨ej, q⟩ | ⟨ne, q⟩
      · subst ej
        have hj := lt_of_get z1
        rw [List.length_set, h.len] at hj
        rw [List.getElem?_set_self hj] at z2
        cases z2
        exact .inr (.inr (.inr rfl))
      · rw [List.getElem?_set_ne (Ne.symm ne)] at z2
        exact .inr (.inr (.inl ⟨j, e, q, z2⟩))
    · exact z.elim
  have n : ∀ a o, H a = some o → ¬ SS C (fun a => a = p) r σ a → ¬ SS C Z0 (r.set i (some (.own d))) (σ.set i (some (.ref p))) a := fun a _ _ s z => s (less a z)
  have no : ∀ (j : Nat) (e : D), r[j]? = some (some (.own e)) → σ[j]? ≠ some (some (.ref p)) := fun j e q z => by
    obtain ⟨u, e1, _, _, _, nz, _⟩ := h.own j e q
    rw [z] at e1
    cases e1
    exact nz rfl
  refine ⟨by rw [List.length_set, List.length_set]; exact h.len, h.frame, fun j e q => ?_, fun j e q => ?_, fun j k p' d e q1 q2 q3 q4 => ?_, ?_, fun j q => ?_, h.st, fun _ z => z.elim, fun p hp => (h.pin p hp).go (fun _ _ e _ => e) n, h.tree.mk' (fun _ _ e _ => e) n (fun _ _ _ _ _ e => e) (tree_set nofun) fun _ a b c => ⟨a, b, c⟩⟩
  · rcases set_at q with ⟨ej, q⟩ | ⟨ne, q⟩
    · cases q
    · obtain ⟨u, e1, p1⟩ := h.val j e q
      refine ⟨u, ?_, p1.go (fun _ _ e _ => e) n⟩
      rw [List.getElem?_set_ne (Ne.symm ne)]
      exact e1
  · rcases set_at q with ⟨ej, q⟩ | ⟨ne, q⟩
    · cases q
      subst ej
      refine ⟨p, ?_, o.go (fun _ e => e) (fun _ _ e _ => e) n, hp, nt, fun z => z, ns⟩
      have hj := lt_of_get ‹_›
      rw [List.length_set, h.len] at hj
      rw [List.getElem?_set_self hj]
    · obtain ⟨u, e1, o, g1, g2, _, g4⟩ := h.own j e q
      refine ⟨u, ?_, o.go (fun _ e => e) (fun _ _ e _ => e) n, g1, g2, fun z => z, g4⟩
      rw [List.getElem?_set_ne (Ne.symm ne)]
      exact e1
  · rcases set_at q1 with ⟨ej, q⟩ | ⟨ne, q1'⟩
    · subst ej
      rcases set_at q2 with ⟨ek, q⟩ | ⟨ne2, q2'⟩
      · exact ek.symm
      · have hj := lt_of_get q1
        rw [List.length_set, h.len] at hj
        rw [List.getElem?_set_self hj] at q3
        cases q3
        rw [List.getElem?_set_ne (Ne.symm ne2)] at q4
        exact absurd q4 (no k _ q2')
    · rcases set_at q2 with ⟨ek, q⟩ | ⟨ne2, q2'⟩
      · subst ek
        have hj := lt_of_get q2
        rw [List.length_set, h.len] at hj
        rw [List.getElem?_set_self hj] at q4
        cases q4
        rw [List.getElem?_set_ne (Ne.symm ne)] at q3
        exact absurd q3 (no j _ q1')
      · rw [List.getElem?_set_ne (Ne.symm ne)] at q3
        rw [List.getElem?_set_ne (Ne.symm ne2)] at q4
        exact h.inj j k p' _ _ q1' q2' q3 q4
  · have t := h.tape
    unfold TapeOk at t ⊢
    cases hc : C.tp with
    | none =>
      rw [hc] at t
      exact t
    | some u =>
      rw [hc] at t
      obtain ⟨t, e, o⟩ := t
      exact ⟨t, e, o.go (fun o q => q) (fun a o q _ => q) n⟩
  · rcases set_at q with ⟨ej, q⟩ | ⟨ne, q⟩
    · cases q
    · rw [List.getElem?_set_ne (Ne.symm ne)]
      exact h.tslot j q
end
end Pu
namespace Pu
open PySem L2
/-! ## statement rules -/
def sPass : DS := fun r T => .ok (.nx r, T)
def sNo : DS := fun _ _ => .stuck
def sSeq (f g : DS) : DS := fun r T => (f r T).bind fun p => match p.1 with
  | .nx r' => g r' p.2
  | .rt v => .ok (.rt v, p.2)
  | .bk r' => .ok (.bk r', p.2)
  | .ct r' => .ok (.ct r', p.2)
def sIf (c : DT) (f g : DS) : DS := fun r T => (c r T).bind fun p => if p.1 = true then f r p.2 else g r p.2
def sDrop (f : DE) : DS := fun r T => (dt (f r T)).bind fun p => .ok (.nx r, p.2)
/-- a worth into a slot -/
def put (r : Env) (i : Nat) : VD → Rs Env
  | .val d => .ok (r.set i (some (.val d)))
  | .own d => .ok (r.set i (some (.own d)))
  | .tree s d => .ok (r.set i (some (.tree s d)))
  | _ => .stuck
@[simp] theorem put_tree (r : Env) (i : Nat) (s : Sh) (d : D) : put r i (.tree s d) = .ok (r.set i (some (.tree s d))) := rfl
@[simp] theorem put_val (r : Env) (i : Nat) (d : D) : put r i (.val d) = .ok (r.set i (some (.val d))) := rfl
@[simp] theorem put_own (r : Env) (i : Nat) (d : D) : put r i (.own d) = .ok (r.set i (some (.own d))) := rfl
def sAsg (i : Nat) (f : DE) : DS := fun r T => (f r T).bind fun p => (put r i p.1).bind fun r' => .ok (.nx r', p.2)
def sRet (f : DE) : DS := fun r T => (f r T).bind fun p => match p.1 with
  | .val d => .ok (.rt (.val d), p.2)
  | .own d => .ok (.rt (.own d), p.2)
  | .tree s d => .ok (.rt (.tree s d), p.2)
  | _ => .stuck
/-- return of a name: what is owned is given away -/
def sRetV (i : Nat) : DS := fun r T => match r[i]? with
  | some (some (.val d)) => .ok (.rt (.val d), T)
  | some (some (.own d)) => .ok (.rt (.own d), T)
  | some (some (.tree s d)) => .ok (.rt (.tree s d), T)
  | _ => .stuck
def sRetN : DS := fun _ T => .ok (.rt (.val .non), T)
def sBrk : DS := fun r T => .ok (.bk r, T)
def sCt : DS := fun r T => .ok (.ct r, T)
/-- a name op= e -/
def sAug (op : D → D → Rs VD) (i : Nat) (f : DE) : DS := fun r T => match r[i]? with
  | some (some (.val d)) => (dt (f r T)).bind fun p => (op d p.1).bind fun v => (put r i v).bind fun r' => .ok (.nx r', p.2)
  | _ => .stuck
/-- what a slot owns is given up -/
def frz (r : Env) (i : Nat) : Env := match r[i]? with
  | some (some (.own d)) => r.set i (some (.val d))
  | some (some (.tree _ d)) => r.set i (some (.val d))
  | _ => r
def sFrz (i : Nat) (g : DS) : DS := fun r T => g (frz r i) T
section
variable {K : PySem.W.Frag} {mg : Str → Option Value} {C : FC} {r : Env} {T : Tp} {σ : L2.St} {H H1 : Hp} {i : Nat}
def phi (φ : Nat → List Addr) (i : Nat) (F : List Addr) (j : Nat) : List Addr := if j = i then F else φ j
theorem phi_eq {φ : Nat → List Addr} {F : List Addr} {i j : Nat} (h : j = i) : phi φ i F j = F := if_pos h
theorem phi_ne {φ : Nat → List Addr} {F : List Addr} {i j : Nat} (h : j ≠ i) : phi φ i F j = φ j := if_neg h
theorem TapeOk.less {S S' : Addr → Prop} {tp : Option Addr} (t : TapeOk K mg S tp T H) (n : ∀ a o, H a = some o → ¬ S a → ¬ S' a) : TapeOk K mg S' tp T H := by
  unfold TapeOk at t ⊢
  cases tp with
  | none => exact t
  | some p =>
    obtain ⟨t, e, o⟩ := t
    exact ⟨t, e, o.go (fun _ q => q) (fun _ _ q _ => q) n⟩
theorem Holds.unown {d : D} (h : Holds K mg C Z0 r T σ H) (e : r[i]? = some (some (.own d))) : Holds K mg C Z0 (r.set i (some (.val d))) T σ H := by
  obtain ⟨p, e1, o, g1, g2, g3, g4⟩ := h.own i d e
  have less : ∀ a, SS C Z0 (r.set i (some (.val d))) σ a → SS C Z0 r σ a := fun a z => by
    rcases z with z | z | ⟨j, e, z1, z2⟩ | z
    · exact .inl z
    · exact .inr (.inl z)
    · rcases set_at z1 with ⟨_, q⟩ | ⟨ne, q⟩
      · cases q
      · exact .inr (.inr (.inl ⟨j, e, q, z2⟩))
    · exact z.elim
  have n : ∀ a o, H a = some o → ¬ SS C Z0 r σ a → ¬ SS C Z0 (r.set i (some (.val d))) σ a := fun a _ _ s z => s (less a z)
  have np : ¬ SS C Z0 (r.set i (some (.val d))) σ p := fun z => by
    rcases z with z | z | ⟨j, u, z1, z2⟩ | z
    · exact g4 z
    · exact g2 z
    · rcases set_at z1 with ⟨_, q⟩ | ⟨ne, q⟩
      · cases q
      · exact ne (h.inj j i p _ _ q e z2 e1)
    · exact z
  refine ⟨by rw [List.length_set]; exact h.len, h.frame, fun j u q => ?_, fun j u q => ?_, fun j k p' u w q1 q2 q3 q4 => ?_, ?_, fun j q => ?_, h.st, fun _ z => z.elim, fun p hp => (h.pin p hp).go (fun _ _ e _ => e) n, h.tree.mk' (fun _ _ e _ => e) n (fun _ _ _ _ _ e => e) (fun j s d q => by
    rcases set_at q with ⟨_, q⟩ | ⟨ne, q⟩
    · cases q
    · exact ⟨q, rfl⟩) fun _ a b c => ⟨a, b, c⟩⟩
  · rcases set_at q with ⟨ej, q⟩ | ⟨ne, q⟩
    · cases q
      subst ej
      exact ⟨_, e1, o.frozen np n⟩
    · obtain ⟨u, e2, p1⟩ := h.val j u q
      exact ⟨u, e2, p1.go (fun _ _ e _ => e) n⟩
  · rcases set_at q with ⟨ej, q⟩ | ⟨ne, q⟩
    · cases q
    · obtain ⟨u, e2, o2, g⟩ := h.own j u q
      exact ⟨u, e2, o2.go (fun _ e => e) (fun _ _ e _ => e) n, g⟩
  · rcases set_at q1 with ⟨ej, q⟩ | ⟨ne, q1⟩
    · cases q
    · rcases set_at q2 with ⟨ej, q⟩ | ⟨ne2, q2⟩
      · cases q
      · exact h.inj j k p' _ _ q1 q2 q3 q4
  · have t := h.tape
    unfold TapeOk at t ⊢
    cases hc : C.tp with
    | none =>
      rw [hc] at t
      exact t
    | some u =>
      rw [hc] at t
      obtain ⟨t, e, o⟩ := t
      exact ⟨t, e, o.go (fun o q => q) (fun a o q _ => q) n⟩
  · rcases set_at q with ⟨ej, q⟩ | ⟨ne, q⟩
    · cases q
    · exact h.tslot j q
/-- a tree is given up -/
theorem Holds.untree {Y : Addr → Prop} {s : Sh} {d : D} (h : Holds K mg (C.plus Y) Z0 r T σ H) (hY : ∀ p, Y p → ¬ C.S0 p) (e : r[i]? = some (some (.tree s d))) : HoldsY K mg C (r.set i (some (.val d))) T σ H := by
  obtain ⟨φ, h1, h2, h3, h4⟩ := h.tree
  have less : ∀ a, SS (C.plus fun p => Y p ∧ p ∉ φ i) Z0 (r.set i (some (.val d))) σ a → SS (C.plus Y) Z0 r σ a := fun a z => by
    rcases z with (z | z) | z | ⟨j, u, z1, z2⟩ | z
    · exact .inl (.inl z)
    · exact .inl (.inr z.1)
    · exact .inr (.inl z)
    · rcases set_at z1 with ⟨_, q⟩ | ⟨ne, q⟩
      · cases q
      · exact .inr (.inr (.inl ⟨j, u, q, z2⟩))
    · exact z.elim
  have n : ∀ a o, H a = some o → ¬ SS (C.plus Y) Z0 r σ a → ¬ SS (C.plus fun p => Y p ∧ p ∉ φ i) Z0 (r.set i (some (.val d))) σ a := fun a _ _ s z => s (less a z)
  have nf : ∀ p ∈ φ i, ¬ SS (C.plus fun p => Y p ∧ p ∉ φ i) Z0 (r.set i (some (.val d))) σ p := fun p hp z => by
    obtain ⟨⟨a1, a2⟩, a3, a4⟩ := h3 i p hp
    rcases z with (z | z) | z | ⟨j, u, z1, z2⟩ | z
    · exact hY p a2 z
    · exact z.2 hp
    · exact a4 z
    · rcases set_at z1 with ⟨_, q⟩ | ⟨ne, q⟩
      · cases q
      · obtain ⟨p', e1, _, _, _, _, g4⟩ := h.own j u q
        rw [z2] at e1
        cases e1
        exact g4 a1
    · exact z
  refine ⟨fun p => Y p ∧ p ∉ φ i, ⟨by rw [List.length_set]; exact h.len, h.frame, fun j u q => ?_, fun j u q => ?_, fun j k p' u w q1 q2 q3 q4 => ?_, ?_, fun j q => ?_, fun p z => ?_, fun _ z => z.elim, fun p hp => (h.pin p hp).go (fun _ _ e _ => e) n, ?_⟩, fun p z => hY p z.1⟩
  · rcases set_at q with ⟨ej, q⟩ | ⟨ne, q⟩
    · cases q
      subst ej
      obtain ⟨v, e1, t⟩ := h1 _ _ _ e
      exact ⟨v, e1, t.frozen n nf⟩
    · obtain ⟨u, e2, p1⟩ := h.val j u q
      exact ⟨u, e2, p1.go (fun _ _ e _ => e) n⟩
  · rcases set_at q with ⟨ej, q⟩ | ⟨ne, q⟩
    · cases q
    · obtain ⟨u, e2, o2, g1, g2, g3, g4⟩ := h.own j u q
      exact ⟨u, e2, o2.go (fun _ e => e) (fun _ _ e _ => e) n, g1, g2, g3, fun z => g4 (z.imp (fun z => z) fun z => z.1)⟩
  · rcases set_at q1 with ⟨ej, q⟩ | ⟨ne, q1⟩
    · cases q
    · rcases set_at q2 with ⟨ej, q⟩ | ⟨ne2, q2⟩
      · cases q
      · exact h.inj j k p' _ _ q1 q2 q3 q4
  · exact (show TapeOk K mg (SS (C.plus Y) Z0 r σ) C.tp T H from h.tape).less n
  · rcases set_at q with ⟨ej, q⟩ | ⟨ne, q⟩
    · cases q
    · exact h.tslot j q
  · exact h.st p (z.imp (fun z => z) fun z => z.1)
  · refine ⟨phi φ i [], fun j s d q => ?_, fun j => ?_, fun j p hp => ?_, fun j k p hj hk => ?_⟩
    · rcases set_at q with ⟨ej, q⟩ | ⟨ne, q⟩
      · cases q
      · obtain ⟨v, e1, t⟩ := h1 j s d q
        refine ⟨v, e1, ?_⟩
        rw [phi_ne ne]
        exact t.go (fun _ _ e _ => e) n fun _ _ _ e => e
    · by_cases c : j = i
      · rw [phi_eq c]; exact List.nodup_nil
      · rw [phi_ne c]; exact h2 j
    · by_cases c : j = i
      · rw [phi_eq c] at hp; cases hp
      · rw [phi_ne c] at hp
        obtain ⟨⟨a1, a2⟩, a3, a4⟩ := h3 j p hp
        have np : p ∉ φ i := fun z => c (h4 j i p hp z)
        exact ⟨⟨.inr ⟨a2, np⟩, a2, np⟩, a3, a4⟩
    · by_cases c : j = i
      · rw [phi_eq c] at hj; cases hj
      · by_cases c2 : k = i
        · rw [phi_eq c2] at hk; cases hk
        · rw [phi_ne c] at hj
          rw [phi_ne c2] at hk
          exact h4 j k p hj hk
theorem HoldsY.unown (h : HoldsY K mg C r T σ H) : HoldsY K mg C (frz r i) T σ H := by
  unfold frz
  obtain ⟨Y, h, hY⟩ := h
  cases e : r[i]? with
  | none => exact ⟨Y, h, hY⟩
  | some o =>
    cases o with
    | none => exact ⟨Y, h, hY⟩
    | some w =>
      cases w with
      | own d => exact ⟨Y, h.unown e, hY⟩
      | tree s d => exact h.untree hY e
      | _ => exact ⟨Y, h, hY⟩
/-- a slot gets a new tree -/
theorem Holds.setTree {Y : Addr → Prop} {F : List Addr} {s : Sh} {d : D} {v : V} (h : Holds K mg (C.plus Y) (fun a => a ∈ F) r T σ H) (hY : ∀ p, Y p → ¬ C.S0 p) (o : TreeAt K mg (SS (C.plus Y) (fun a => a ∈ F) r σ) H F s v d) (hn : F.Nodup) (hF : ∀ p ∈ F, ¬ (C.plus Y).S0 p ∧ C.H0 p = none ∧ C.tp ≠ some p) : HoldsY K mg C (r.set i (some (.tree s d))) T (σ.set i (some v)) H := by
  obtain ⟨φ, h1, h2, h3, h4⟩ := h.tree
  have less : ∀ a, SS (C.plus fun p => Y p ∨ p ∈ F) Z0 (r.set i (some (.tree s d))) (σ.set i (some v)) a → SS (C.plus Y) (fun a => a ∈ F) r σ a := fun a z => by
    rcases z with (z | z | z) | z | ⟨j, u, z1, z2⟩ | z
    · exact .inl (.inl z)
    · exact .inl (.inr z)
    · exact .inr (.inr (.inr z))
    · exact .inr (.inl z)
    · rcases set_at z1 with ⟨_, q⟩ | ⟨ne, q⟩
      · cases q
      · rw [List.getElem?_set_ne (Ne.symm ne)] at z2
        exact .inr (.inr (.inl ⟨j, u, q, z2⟩))
    · exact z.elim
  have n : ∀ a o, H a = some o → ¬ SS (C.plus Y) (fun a => a ∈ F) r σ a → ¬ SS (C.plus fun p => Y p ∨ p ∈ F) Z0 (r.set i (some (.tree s d))) (σ.set i (some v)) a := fun a _ _ s z => s (less a z)
  refine ⟨fun p => Y p ∨ p ∈ F, ⟨by rw [List.length_set, List.length_set]; exact h.len, h.frame, fun j u q => ?_, fun j u q => ?_, fun j k p' u w q1 q2 q3 q4 => ?_, ?_, fun j q => ?_, fun p z => ?_, fun _ z => z.elim, fun p hp => (h.pin p hp).go (fun _ _ e _ => e) n, ?_⟩, fun p z => z.elim (hY p) fun z w => (hF p z).1 (.inl w)⟩
  · rcases set_at q with ⟨ej, q⟩ | ⟨ne, q⟩
    · cases q
    · obtain ⟨u, e2, p1⟩ := h.val j u q
      exact ⟨u, by rw [List.getElem?_set_ne (Ne.symm ne)]; exact e2, p1.go (fun _ _ e _ => e) n⟩
  · rcases set_at q with ⟨ej, q⟩ | ⟨ne, q⟩
    · cases q
    · obtain ⟨u, e2, o2, g1, g2, g3, g4⟩ := h.own j u q
      exact ⟨u, by rw [List.getElem?_set_ne (Ne.symm ne)]; exact e2, o2.go (fun _ e => e) (fun _ _ e _ => e) n, g1, g2, fun z => z, fun z => z.elim (fun z => g4 (.inl z)) fun z => z.elim (fun z => g4 (.inr z)) g3⟩
  · rcases set_at q1 with ⟨ej, q⟩ | ⟨ne, q1⟩
    · cases q
    · rcases set_at q2 with ⟨ej, q⟩ | ⟨ne2, q2⟩
      · cases q
      · rw [List.getElem?_set_ne (Ne.symm ne)] at q3
        rw [List.getElem?_set_ne (Ne.symm ne2)] at q4
        exact h.inj j k p' _ _ q1 q2 q3 q4
  · exact (show TapeOk K mg (SS (C.plus Y) (fun a => a ∈ F) r σ) C.tp T H from h.tape).less n
  · rcases set_at q with ⟨ej, q⟩ | ⟨ne, q⟩
    · cases q
    · rw [List.getElem?_set_ne (Ne.symm ne)]
      exact h.tslot j q
  · rcases z with z | z | z
    · exact h.st p (.inl z)
    · exact h.st p (.inr z)
    · exact h.zt p z
  · refine ⟨phi φ i F, fun j s' d' q => ?_, fun j => ?_, fun j p hp => ?_, fun j k p hj hk => ?_⟩
    · rcases set_at q with ⟨ej, q⟩ | ⟨ne, q⟩
      · cases q
        subst ej
        refine ⟨v, ?_, ?_⟩
        · have hj := lt_of_get ‹_›
          rw [List.length_set, h.len] at hj
          rw [List.getElem?_set_self hj]
        · rw [phi_eq rfl]
          exact o.go (fun _ _ e _ => e) n fun _ _ _ e => e
      · obtain ⟨u, e1, t⟩ := h1 j s' d' q
        refine ⟨u, by rw [List.getElem?_set_ne (Ne.symm ne)]; exact e1, ?_⟩
        rw [phi_ne ne]
        exact t.go (fun _ _ e _ => e) n fun _ _ _ e => e
    · by_cases c : j = i
      · rw [phi_eq c]; exact hn
      · rw [phi_ne c]; exact h2 j
    · by_cases c : j = i
      · rw [phi_eq c] at hp
        exact ⟨⟨.inr (.inr hp), .inr hp⟩, (hF p hp).2⟩
      · rw [phi_ne c] at hp
        obtain ⟨⟨a1, a2⟩, a3⟩ := h3 j p hp
        exact ⟨⟨.inr (.inl a2), .inl a2⟩, a3⟩
    · by_cases c : j = i
      · by_cases c2 : k = i
        · rw [c, c2]
        · rw [phi_eq c] at hj
          rw [phi_ne c2] at hk
          exact absurd (h3 k p hk).1.1 (hF p hj).1
      · rw [phi_ne c] at hj
        by_cases c2 : k = i
        · rw [phi_eq c2] at hk
          exact absurd (h3 j p hj).1.1 (hF p hk).1
        · rw [phi_ne c2] at hk
          exact h4 j k p hj hk
theorem s1_less {Z Y : Addr → Prop} (a : Addr) (s : S1 C a) : SS (C.plus Y) Z r σ a := by
  rcases s with s | s
  · exact .inl (.inl s)
  · exact .inr (.inl s)
theorem ret_val {Y : Addr → Prop} (h : Holds K mg (C.plus Y) Z0 r T σ H) {u : V} {d : D} (p : Rep K mg (SS (C.plus Y) Z0 r σ) H u d) : Ret K mg C T H u (.val d) :=
  ⟨p.go (fun _ _ e _ => e) fun a _ _ s z => s (s1_less a z), (show TapeOk K mg (SS (C.plus Y) Z0 r σ) C.tp T H from h.tape).less fun a _ _ s z => s (s1_less a z)⟩
end
theorem put_slot {K : PySem.W.Frag} {mg : Str → Option Value} {C : FC} {Y : Addr → Prop} {r : Env} {T : Tp} {σ : L2.St} {H : Hp} {i : Nat} {G : Fl × Tp → Prop} {Q : L2.St → Hp → Prop} (h : Holds K mg (C.plus Y) Z0 r T σ H) (hY : ∀ p, Y p → ¬ C.S0 p) {x : Rs (VD × Tp)}
    (P : PostS K mg C G (x.bind fun p => (put r i p.1).bind fun r' => .ok (.nx r', p.2))) (hG : ∀ r' T', G (.nx r', T') → ∀ σ H, HoldsY K mg C r' T' σ H → Q σ H) : Post K mg (C.plus Y) r σ H (fun v H1 => Q (σ.set i (some v)) H1) x := by
  refine (PostS.at hY P.bind).imp fun p P => ?_
  obtain ⟨v, T'⟩ := p
  cases v with
  | val d => exact fun v H' h1 e1 p => hG _ _ P _ _ ⟨Y, h1.setVal p, hY⟩
  | own d =>
    refine fun p H' hp h1 e1 o => hG _ _ P _ _ ⟨Y, h1.setOwn (back h h.frame hp) o (fun z => h.fresh hp (.inr (.inl z))) (fun z => h.fresh hp (.inl z)), hY⟩
  | peek d => exact (show False from P).elim
  | tape => exact (show False from P).elim
  | look d => exact (show False from P).elim
  | tree s d =>
    refine fun v F H' hp hn h1 e1 o => hG _ _ P _ _ (h1.setTree hY o hn fun p z => ⟨fun w => h.fresh (hp p z) (.inl w), back h h.frame (hp p z), fun w => h.fresh (hp p z) (.inr (.inl w))⟩)
section
variable {X : Cx} {C : FC} {st : Stmt} {a b rest : List Stmt} {e : Expr} {c : Expr} {f : DE} {u : DT} {g w : DS} {pos : Pos}
theorem ss_no : SSt X C st sNo := ⟨fun pins s σ H D I ⟨ρ, T, h, P⟩ => P.elim⟩
theorem ss_break : SSt X C (.Break pos) sBrk := ps_imp ps_break fun D σ H ⟨ρ, T, h, P⟩ => P σ H h
theorem ss_continue : SSt X C (.Continue pos) sCt := ps_imp ps_continue fun D σ H ⟨ρ, T, h, P⟩ => P σ H h
theorem sss_nil : SSs X C [] sPass := pss_imp pss_nil fun D σ H ⟨ρ, T, h, P⟩ => P σ H h
theorem sss_one (h : SSt X C st g) : SSs X C [st] g := pss_one h
theorem sss_cons (h : SSt X C st g) (k : SSs X C rest w) : SSs X C (st :: rest) (sSeq g w) := by
  refine pss_imp (pss_cons h k) ?_
  rintro D σ H ⟨ρ, T, h, P⟩
  refine ⟨ρ, T, h, P.bind.imp fun p P => ?_⟩
  obtain ⟨fl, T'⟩ := p
  cases fl with
  | nx r' => exact fun σ' H' h' => ⟨r', T', h', P⟩
  | rt v => exact P
  | bk r' => exact P
  | ct r' => exact P
theorem ss_expr (he : ∀ Y, SE X (C.plus Y) e f) (hs : swapsWith e none pos.line X.env = pure false := by rfl) : SSt X C (.Expr e pos) (sDrop f) := by
  refine ps_imp (ps_expr (pe_ex he) hs) ?_
  rintro D σ H ⟨ρ, T, ⟨Y, h, hY⟩, P⟩
  exact ⟨Y, ρ, T, h, gs_dt h (PostS.at hY P.bind) fun d T' v H1 h1 e1 p P1 => P1 σ H1 ⟨Y, h1, hY⟩⟩
theorem ss_ret (he : ∀ Y, SE X (C.plus Y) e f) : SSt X C (.Return (some e) pos) (sRet f) := by
  refine ps_imp (ps_ret (pe_ex he)) ?_
  rintro D σ H ⟨ρ, T, ⟨Y, h, hY⟩, P⟩
  refine ⟨Y, ρ, T, h, (PostS.at hY P.bind).imp fun p P => ?_⟩
  obtain ⟨v, T'⟩ := p
  cases v with
  | val d => exact fun v H' h1 e1 p => P v H' h1.frame (ret_val h1 p)
  | own d =>
    have n : ∀ p : Addr, ∀ a, ¬ SS (C.plus Y) (fun a => a = p) ρ σ a → ¬ (S1 C a ∨ a = p) := fun p a s z => by
      rcases z with z | z
      · exact s (s1_less a z)
      · exact s (.inr (.inr (.inr z)))
    refine fun p H' hp h1 e1 o => P (.ref p) H' h1.frame ⟨p, rfl, back h h.frame hp, fun z => h.fresh hp (.inr (.inl z)), o.go (fun _ e => e) (fun _ _ e _ => e) fun a _ _ s => n p a s, (show TapeOk X.K X.mg (SS (C.plus Y) (fun a => a = p) ρ σ) C.tp T' H' from h1.tape).less fun a _ _ s => n p a s⟩
  | peek d => exact (show False from P).elim
  | tape => exact (show False from P).elim
  | look d => exact (show False from P).elim
  | tree s d =>
    have n : ∀ F : List Addr, ∀ a, ¬ SS (C.plus Y) (fun a => a ∈ F) ρ σ a → ¬ (S1 C a ∨ a ∈ F) := fun F a s z => by
      rcases z with z | z
      · exact s (s1_less a z)
      · exact s (.inr (.inr (.inr z)))
    refine fun v F H' hp hn h1 e1 o => P v H' h1.frame ⟨F, fun p z => ⟨back h h.frame (hp p z), fun w => h.fresh (hp p z) (.inr (.inl w))⟩, hn, o.go (fun _ _ e _ => e) (fun a _ _ s => n F a s) fun _ _ _ e => e, (show TapeOk X.K X.mg (SS (C.plus Y) (fun a => a ∈ F) ρ σ) C.tp T' H' from h1.tape).less fun a _ _ s => n F a s⟩
theorem ss_retV (i : Nat) {x : Str} (hN : X.N[i]? = some x := by rfl) (hv : Vis X.env.scope x := by first | exact Or.inl rfl | exact Or.inr (Or.inl rfl) | exact Or.inr (Or.inr rfl)) {pos' : Pos}
    (hd : (x == ("__debug__" : Str)) = false := by decide) (hcd : (x == ("__classdict__" : Str)) = false := by decide) : SSt X C (.Return (some (.Name x pos')) pos) (sRetV i) := by
  refine ps_imp (ps_ret (pe_var hN hv hd hcd)) ?_
  rintro D σ H ⟨ρ, T, ⟨Y, h, hY⟩, P⟩
  unfold sRetV at P
  cases e : ρ[i]? with
  | none => rw [e] at P; exact P.elim
  | some o =>
    rw [e] at P
    cases o with
    | none => exact P.elim
    | some w =>
      cases w with
      | val d =>
        obtain ⟨v, e1, p⟩ := h.val i d e
        exact ⟨v, e1, P v H h.frame (ret_val h p)⟩
      | own d =>
        obtain ⟨p, e1, o, g1, g2, g3, g4⟩ := h.own i d e
        have n : ∀ a o, H a = some o → ¬ SS (C.plus Y) Z0 ρ σ a → ¬ (S1 C a ∨ a = p) := fun a _ _ s z => by
          rcases z with z | z
          · exact s (s1_less a z)
          · rw [z] at s
            exact s (.inr (.inr (.inl ⟨i, d, e, e1⟩)))
        exact ⟨_, e1, P _ H h.frame ⟨p, rfl, g1, g2, o.go (fun _ e => e) (fun _ _ e _ => e) n, (show TapeOk X.K X.mg (SS (C.plus Y) Z0 ρ σ) C.tp T H from h.tape).less n⟩⟩
      | peek d => exact P.elim
      | tape => exact P.elim
      | look d => exact P.elim
      | tree s d =>
        obtain ⟨φ, h1, h2, h3, h4⟩ := h.tree
        obtain ⟨v, e1, t⟩ := h1 i s d e
        have n : ∀ a o, H a = some o → ¬ SS (C.plus Y) Z0 ρ σ a → ¬ (S1 C a ∨ a ∈ φ i) := fun a _ _ s z => by
          rcases z with z | z
          · exact s (s1_less a z)
          · exact s (.inl (h3 i a z).1.1)
        exact ⟨_, e1, P _ H h.frame ⟨φ i, fun p z => (h3 i p z).2, h2 i, t.go (fun _ _ e _ => e) n fun _ _ _ e => e, (show TapeOk X.K X.mg (SS (C.plus Y) Z0 ρ σ) C.tp T H from h.tape).less n⟩⟩
theorem ss_if (hc : ∀ Y, ST X (C.plus Y) c u) (ha : SSs X C a g) (hb : SSs X C b w) : SSt X C (.If c a b pos) (sIf u g w) := by
  refine ps_imp (ps_if (pt_ex hc) ha hb) ?_
  rintro D σ H ⟨ρ, T, ⟨Y, h, hY⟩, P⟩
  refine ⟨Y, ρ, T, h, (PostS.at hY P.bind).imp fun p P => ?_⟩
  obtain ⟨b, T'⟩ := p
  intro H' h1 e1
  cases b with
  | true => exact ⟨ρ, T', ⟨Y, h1, hY⟩, P⟩
  | false => exact ⟨ρ, T', ⟨Y, h1, hY⟩, P⟩
theorem sss_frz (i : Nat) (h : SSs X C a g) : SSs X C a (sFrz i g) := pss_imp h fun D σ H ⟨ρ, T, h, P⟩ => ⟨frz ρ i, T, h.unown, P⟩
theorem ss_set (i : Nat) {x : Str} {pos' : Pos} (hN : X.N.Nodup) (he : ∀ Y, SE X (C.plus Y) e f) (hi : X.N[i]? = some x := by rfl) (hx : Loc X.env.scope x := by first | exact Or.inl rfl | exact Or.inr rfl) (hs : swapsWith e (some (.Name x pos')) pos.line X.env = pure false := by rfl) (hf : X.fn x = true ∨ X.env.scope.names.lookup x = some .local := by first | exact .inl rfl | exact .inr rfl) :
    SSt X C (.Assign [.Name x pos'] e pos) (sAsg i f) := by
  refine ps_imp (ps_set hN hi hx (pe_ex he) hs hf) ?_
  rintro D σ H ⟨ρ, T, ⟨Y, h, hY⟩, P⟩
  exact ⟨Y, ρ, T, h, put_slot (Q := D.nx) h hY P fun r' T' q σ' H' h' => q σ' H' h'⟩
end
/-! ## defs -/
def env0 (n : Nat) (io : Bool) (ds : List D) : Env := (if io then [some .tape] else []) ++ ds.map (fun d => some (.val d)) ++ List.replicate (n - (if io then 1 else 0) - ds.length) none
abbrev DM := List D → Tp → Rs (VD × Tp)
def runD (n : Nat) (io : Bool) (g : DS) : DM := fun ds T => (g (env0 n io ds) T).bind fun p => match p.1 with
  | .nx _ => .ok (.val .non, p.2)
  | .rt v => .ok (v, p.2)
  | _ => .stuck
def GF (K : PySem.W.Frag) (mg : Str → Option Value) (C : FC) (Q : VK) : VD × Tp → Prop := fun p => ∀ u H', Ext C C.H0 H' → Ret K mg C p.2 H' u p.1 → Q u H'
def PostF (K : PySem.W.Frag) (mg : Str → Option Value) (C : FC) (Q : VK) (E : XK) : Rs (VD × Tp) → Prop
  | .ok p => GF K mg C Q p
  | .exc c fs T _ => ∀ cls d H', Ext C C.H0 H' → TapeOk K mg (S1 C) C.tp T H' → ExcAt K mg (S1 C) H' c fs cls d → E cls d H'
  | .stuck => False
def Args (C : FC) (io : Bool) (vs vs1 : List V) : Prop := match C.tp with
  | none => io = false ∧ vs = vs1
  | some p => (io = true ∧ vs = .ref p :: vs1 ∨ io = false ∧ vs = vs1) ∧ ¬ C.S0 p
/-- a def's promise: it does what M says -/
def SpD (K : PySem.W.Frag) (mg : Str → Option Value) (n : Nat) (io : Bool) (M : DM) : Sp := fun vs H Q E => ∃ (C : FC) (vs1 : List V) (ds : List D) (T : Tp),
  C.H0 = H ∧ vs.length = n ∧ (∀ p, C.S0 p → ∃ o, H p = some o ∧ Mut (some o)) ∧ Args C io vs vs1 ∧ TapeOk K mg (S1 C) C.tp T H ∧ Reps K mg (S1 C) H vs1 ds ∧ PostF K mg C Q E (M ds T)
theorem ExcAt.less {K : PySem.W.Frag} {mg : Str → Option Value} {S S' : Addr → Prop} {H : Hp} {c : Str} {fs : List (Str × D)} {cls : Value} {d : Option Addr} (x : ExcAt K mg S H c fs cls d) (n : ∀ a o, H a = some o → ¬ S a → ¬ S' a) : ExcAt K mg S' H c fs cls d := by
  obtain ⟨Ca, h1, h2, h3⟩ := x
  refine ⟨Ca, h1, h2, ?_⟩
  rcases h3 with h3 | ⟨dd, xs, e1, e2, e3, q⟩
  · exact .inl h3
  · exact .inr ⟨dd, xs, e1, e2, e3, q.go (fun _ _ e _ => e) n⟩
theorem env0_get {n : Nat} {io : Bool} {ds : List D} {i : Nat} {w : VD} (h : (env0 n io ds)[i]? = some (some w)) : (io = true ∧ i = 0 ∧ w = .tape) ∨ ∃ d, w = .val d ∧ ds[i - (if io then 1 else 0)]? = some d ∧ (if io then 1 else 0) ≤ i := by
  unfold env0 at h
  have core : ∀ (l : List D) (k j : Nat), (l.map (fun d => some (VD.val d)) ++ List.replicate k none)[j]? = some (some w) → ∃ d, w = .val d ∧ l[j]? = some d := fun l k j q => by
    by_cases hj : j < l.length
    · rw [List.getElem?_append_left (by simpa using hj), List.getElem?_map] at q
      cases e : l[j]? with
      | none =>
        rw [e] at q
        cases q
      | some d =>
        rw [e] at q
        cases q
        exact ⟨d, rfl, rfl⟩
    · rw [List.getElem?_append_right (by simpa using hj), List.getElem?_replicate] at q
      split at q <;> cases q
  cases io with
  | false =>
    obtain ⟨d, e1, e2⟩ := core ds _ i h
    exact .inr ⟨d, e1, e2, Nat.zero_le _⟩
  | true =>
    cases i with
    | zero =>
      cases h
      exact .inl ⟨rfl, rfl, rfl⟩
    | succ i =>
      obtain ⟨d, e1, e2⟩ := core ds _ i h
      exact .inr ⟨d, e1, e2, Nat.succ_le_succ (Nat.zero_le _)⟩
theorem start_get {N : List Str} {vs : List V} {i : Nat} {v : V} (h : vs[i]? = some v) : (L2.start N vs)[i]? = some (some v) := by
  unfold L2.start
  have hi := lt_of_get h
  rw [List.getElem?_append_left (by simpa using hi), List.getElem?_map, h]
  rfl
section
variable {P : Program} {w : World} {K : PySem.W.Frag} {mg : Str → Option Value} {base : Heap}
theorem holds_start {C : FC} {N : List Str} {io : Bool} {vs vs1 : List V} {ds : List D} {T : Tp} (hn : vs.length ≤ N.length) (st : ∀ p, C.S0 p → ∃ o, C.H0 p = some o ∧ Mut (some o)) (a : Args C io vs vs1) (t : TapeOk K mg (S1 C) C.tp T C.H0) (r : Reps K mg (S1 C) C.H0 vs1 ds) (hp : C.pin = []) :
    Holds K mg C Z0 (env0 N.length io ds) T (L2.start N vs) C.H0 := by
  have nown : ∀ (i : Nat) (d : D), (env0 N.length io ds)[i]? ≠ some (some (.own d)) := fun i d q => by
    rcases env0_get q with ⟨_, _, z⟩ | ⟨_, z, _⟩ <;> cases z
  have ntree : ∀ (i : Nat) (s : Sh) (d : D), (env0 N.length io ds)[i]? ≠ some (some (.tree s d)) := fun i s d q => by
    rcases env0_get q with ⟨_, _, z⟩ | ⟨_, z, _⟩ <;> cases z
  have n : ∀ a o, C.H0 a = some o → ¬ S1 C a → ¬ SS C Z0 (env0 N.length io ds) (L2.start N vs) a := fun a _ _ s z => by
    rcases z with z | z | ⟨i, d, z, _⟩ | z
    · exact s (.inl z)
    · exact s (.inr z)
    · exact nown i d z
    · exact z
  have hl := r.len
  refine ⟨?_, Ext.refl, fun i d q => ?_, fun i d q => absurd q (nown i d), fun i j p d e q => absurd q (nown i d), t.less n, fun i q => ?_, st, fun _ z => z.elim, fun p z => absurd z (by rw [hp]; simp), .nil ntree⟩
  · unfold Args at a
    unfold env0 L2.start
    cases hc : C.tp with
    | none =>
      rw [hc] at a
      obtain ⟨rfl, rfl⟩ := a
      simp only [Bool.false_eq_true, if_false, List.nil_append, List.length_append, List.length_map, List.length_replicate]
      omega
    | some p =>
      rw [hc] at a
      rcases a with ⟨⟨rfl, rfl⟩ | ⟨rfl, rfl⟩, _⟩
      · simp only [if_true, List.length_append, List.length_map, List.length_replicate, List.length_cons, List.length_nil] at hn ⊢
        omega
      · simp only [Bool.false_eq_true, if_false, List.nil_append, List.length_append, List.length_map, List.length_replicate]
        omega
  · rcases env0_get q with ⟨_, _, z⟩ | ⟨d', z, e, le⟩
    · cases z
    · cases z
      obtain ⟨v, e1, p⟩ := r.getD e
      refine ⟨v, ?_, p.go (fun _ _ e _ => e) n⟩
      apply start_get
      unfold Args at a
      cases hc : C.tp with
      | none =>
        rw [hc] at a
        obtain ⟨rfl, rfl⟩ := a
        simpa using e1
      | some p =>
        rw [hc] at a
        rcases a with ⟨⟨rfl, rfl⟩ | ⟨rfl, rfl⟩, _⟩
        · cases i with
          | zero => exact absurd le (by simp)
          | succ i => simpa using e1
        · simpa using e1
  · rcases env0_get q with ⟨hio, hi, _⟩ | ⟨_, z, _⟩
    · subst hio hi
      unfold Args at a
      cases hc : C.tp with
      | none =>
        rw [hc] at a
        exact absurd a.1 (by simp)
      | some p =>
        rw [hc] at a
        rcases a with ⟨⟨_, rfl⟩ | ⟨z, _⟩, _⟩
        · exact ⟨p, rfl, start_get rfl⟩
        · cases z
    · cases z
theorem Holds.plus0 {C : FC} {r : Env} {T : Tp} {σ : L2.St} {H : Hp} (h : Holds K mg C Z0 r T σ H) (ht : ∀ (i : Nat) (s : Sh) (d : D), r[i]? ≠ some (some (.tree s d))) : HoldsY K mg C r T σ H := by
  have n : ∀ a o, H a = some o → ¬ SS C Z0 r σ a → ¬ SS (C.plus fun _ => False) Z0 r σ a := fun a _ _ s z => s (by
    rcases z with (z | z) | z
    · exact .inl z
    · exact z.elim
    · exact .inr z)
  refine ⟨fun _ => False, ⟨h.len, h.frame, fun i d q => ?_, fun i d q => ?_, h.inj, h.tape.less n, h.tslot, fun p z => h.st p (z.elim (fun z => z) fun z => z.elim), h.zt, fun p z => (h.pin p z).go (fun _ _ e _ => e) n, .nil ht⟩, fun _ z => z.elim⟩
  · obtain ⟨v, e1, p⟩ := h.val i d q
    exact ⟨v, e1, p.go (fun _ _ e _ => e) n⟩
  · obtain ⟨p, e1, o, g1, g2, g3, g4⟩ := h.own i d q
    exact ⟨p, e1, o.go (fun _ e => e) (fun _ _ e _ => e) n, g1, g2, g3, fun z => z.elim g4 fun z => z.elim⟩
end
end Pu
namespace Pu
open PySem L2
/-! ## calls of defs -/
def eDef (n : Nat) (M : DM) (g : DA) : DE := fun r T => (g r T).bind fun p => if p.1.length = n then (match M p.1 none with
  | .ok q => .ok (q.1, p.2)
  | .exc c fs _ _ => .exc c fs p.2 r
  | .stuck => .stuck) else .stuck
/-- .. with the tape ahead -/
def eDefT (i n : Nat) (M : DM) (g : DA) : DE := fun r T => match r[i]? with
  | some (some .tape) => (g r T).bind fun p => if p.1.length + 1 = n then (match M p.1 p.2 with
    | .ok q => .ok q
    | .exc c fs T' _ => .exc c fs T' r
    | .stuck => .stuck) else .stuck
  | _ => .stuck
section
variable {K : PySem.W.Frag} {mg : Str → Option Value} {C : FC} {r : Env} {T : Tp} {σ : L2.St} {H H1 : Hp}
/-- what a def gave, as what an operation gives -/
theorem ret_res {C1 : FC} {T1 : Tp} {Q : VK} {z : VD} (hS : ∀ a, S1 C1 a ↔ SS C Z0 r σ a) (ht : C1.tp = none) (hH : C1.H0 = H) {u : V} {H' : Hp} (e : Ext C1 C1.H0 H') (q : Ret K mg C1 T1 H' u z) (h : Res1 K mg (SS C Z0 r σ) H z Q) : Q u H' := by
  have s : Same H H' := fun a o x => e a o (by rw [hH]; exact x) (by rw [ht]; intro z; cases z)
  cases z with
  | val d => exact h u H' s (q.1.go (fun _ _ e _ => e) fun a _ _ n z => n ((hS a).mpr z))
  | own d =>
    obtain ⟨p, rfl, hp, _, o, _⟩ := q
    refine h p H' (by rw [← hH]; exact hp) s (o.go (fun _ e => e) (fun _ _ e _ => e) fun a _ _ n z => n ?_)
    rcases z with z | z
    · exact .inl ((hS a).mpr z)
    · exact .inr z
  | peek d => exact q.elim
  | tape => exact q.elim
  | look d => exact q.elim
  | tree s d => exact h.elim
end
section
variable {X : Cx} {C : FC} {e : Expr} {es : List Expr} {g : DA} {pos p : Pos} {x : Str} {k : Nat} {f : Addr} {fd : FuncData} {ps : List Str} {n : Nat} {M : DM}
theorem t_def : ∀ (σ : L2.St) (H : Hp) (Q : VK), tE X.K X.mg C (eDef n M g) σ H Q → tCallS (SpD X.K X.mg n false M) (WE C.W) (tA X.K X.mg C g) σ H Q := by
  rintro σ H Q ⟨ρ, T, h, P⟩
  refine ⟨ρ, T, h, ga_bind P fun ds T' vs H1 h1 e1 p P1 => ?_⟩
  obtain ⟨hn, P2⟩ := postG_if P1
  have hS : ∀ a, S1 (⟨H1, SS C Z0 ρ σ, none, C.W, [], fun _ => False⟩ : FC) a ↔ SS C Z0 ρ σ a := fun a => by
    constructor
    · intro z
      rcases z with z | z
      · exact z
      · cases z
    · exact fun z => .inl z
  refine ⟨⟨H1, SS C Z0 ρ σ, none, C.W, [], fun _ => False⟩, vs, ds, none, rfl, by rw [p.len]; exact hn, h1.trk, ⟨rfl, rfl⟩, rfl, p.go (fun _ _ e _ => e) fun a _ _ n z => n ((hS a).mp z), ?_⟩
  cases q : M ds none with
  | stuck =>
    simp only [q] at P2
    exact P2.elim
  | exc c fs T2 r2 =>
    simp only [q] at P2
    exact fun cls d H' e2 _ x => P2 cls d H' (h1.more fun a o z => e2 a o z (by intro z; cases z)) (x.less fun a _ _ n z => n ((hS a).mpr z))
  | ok z =>
    simp only [q] at P2
    have P3 : GV X.K X.mg C ρ σ H Q (z.1, T') := P2
    intro u H' e2 rt
    obtain ⟨z1, z2⟩ := z
    cases z1 with
    | val d => exact ret_res hS rfl rfl e2 rt (gv_res h1 (gv_from h1 e1 P3) fun _ => ⟨nofun, nofun, nofun⟩)
    | own d => exact ret_res hS rfl rfl e2 rt (gv_res h1 (gv_from h1 e1 P3) fun _ => ⟨nofun, nofun, nofun⟩)
    | peek d => exact rt.elim
    | tape => exact rt.elim
    | look d => exact rt.elim
    | tree s d =>
      obtain ⟨F, hF, hn, o, t⟩ := rt
      have sm : Same H1 H' := fun a o z => e2 a o z (by intro z; cases z)
      refine P3 u F H' (fun p z => back h1 e1 (hF p z).1) hn (h1.aparts sm (fun p z => (hF p z).1) o.there) (e1.trans (.same sm)) (o.go (fun _ _ e _ => e) (fun a _ _ n z => n ?_) fun _ _ _ e => e)
      rcases z with z | z | z | z
      · exact .inl ((hS a).mpr (.inl z))
      · exact .inl ((hS a).mpr (.inr (.inl z)))
      · exact .inl ((hS a).mpr (.inr (.inr (.inl z))))
      · exact .inr z
theorem se_def (F : FnOk X.prog X.w X.K X.mg X.base (L2.CX X.prog X.w) k f fd ps (SpD X.K X.mg n false M)) (hm : X.mg x = some (.ref f)) (hk : PySem.W.keepIn X.K (.ref f) = true) (hb : Binds X.K fd ps []) (hr : Room k X.A) (tk : Takes X C.W) (ha : SA X C (e :: es) g)
    (hg : Gl X x := by rfl) (hdb : (x == ("__debug__" : Str)) = false := by decide) (he : starEach (e :: es) X.env = (false, eval e X.env) :: starEach es X.env := by rfl) (hpl : (backTo pos (starEach es X.env)).any (·.1) = false := by rfl) :
    SE X C (.Call (.Name x p) (e :: es) [] pos) (eDef n M g) := pe_imp (pe_callS F hr hg hm hk hb (passAt tk) ha hdb he hpl) t_def
/-- the tape's name, then the others -/
theorem t_defT (i : Nat) : ∀ (σ : L2.St) (H : Hp) (Q : VK), tE X.K X.mg C (eDefT i n M g) σ H Q → tCallS (SpD X.K X.mg n true M) (WE C.W) (tCons (tVar i) (tA X.K X.mg C g)) σ H Q := by
  rintro σ H Q ⟨ρ, T, h, P⟩
  unfold eDefT at P
  cases ei : ρ[i]? with
  | none => rw [ei] at P; exact P.elim
  | some o =>
    rw [ei] at P
    cases o with
    | none => exact P.elim
    | some w =>
      cases w with
      | tape =>
        obtain ⟨p0, hc, es⟩ := h.tslot i ei
        refine ⟨_, es, ρ, T, h, ga_bind P fun ds T' vs H1 h1 e1 p P1 => ?_⟩
        obtain ⟨hn, P2⟩ := postG_if P1
        have hS : ∀ a, S1 (⟨H1, fun a => SS C Z0 ρ σ a ∧ C.tp ≠ some a, C.tp, C.W, [], fun _ => False⟩ : FC) a ↔ SS C Z0 ρ σ a := fun a => by
          constructor
          · intro z
            rcases z with z | z
            · exact z.1
            · exact .inr (.inl z)
          · intro z
            by_cases q : C.tp = some a
            · exact .inr q
            · exact .inl ⟨z, q⟩
        refine ⟨⟨H1, fun a => SS C Z0 ρ σ a ∧ C.tp ≠ some a, C.tp, C.W, [], fun _ => False⟩, vs, ds, T', rfl, by rw [List.length_cons, p.len]; exact hn, fun q z => h1.tr z.1, ?_, h1.tape.less fun a _ _ n z => n ((hS a).mp z), p.go (fun _ _ e _ => e) fun a _ _ n z => n ((hS a).mp z), ?_⟩
        · unfold Args
          rw [hc]
          exact ⟨.inl ⟨rfl, rfl⟩, fun z => z.2 rfl⟩
        cases q : M ds T' with
        | stuck =>
          simp only [q] at P2
          exact P2.elim
        | exc c fs T2 r2 =>
          simp only [q] at P2
          exact fun cls d H' e2 t x => P2 cls d H' (h1.move e2 ss_same (fun _ _ _ _ _ z => z) (t.less fun a _ _ n z => n ((hS a).mpr z)) fun _ z => z.elim) (x.less fun a _ _ n z => n ((hS a).mpr z))
        | ok z =>
          simp only [q] at P2
          obtain ⟨z, T2⟩ := z
          have P3 : GV X.K X.mg C ρ σ H Q (z, T2) := P2
          intro u H' e2 rt
          have e2' : Ext C H1 H' := e2
          cases z with
          | val d =>
            obtain ⟨r1, t⟩ := rt
            exact P3 u H' (h1.move e2' ss_same (fun _ _ _ _ _ z => z) (t.less fun a _ _ n z => n ((hS a).mpr z)) fun _ z => z.elim) (e1.trans e2') (r1.go (fun _ _ e _ => e) fun a _ _ n z => n ((hS a).mpr z))
          | own d =>
            obtain ⟨q, rfl, hp, nt, o, t⟩ := rt
            have hp : H1 q = none := hp
            have n2 : ∀ a o, H1 a = some o → ¬ SS C Z0 ρ σ a → ¬ SS C (fun a => a = q) ρ σ a := fun a o e s z => by
              rcases z with z | z | z | z
              · exact s (.inl z)
              · exact s (.inr (.inl z))
              · exact s (.inr (.inr (.inl z)))
              · rw [z, hp] at e
                cases e
            have n3 : ∀ a o, H' a = some o → ¬ (S1 (⟨H1, fun a => SS C Z0 ρ σ a ∧ C.tp ≠ some a, C.tp, C.W, [], fun _ => False⟩ : FC) a ∨ a = q) → ¬ SS C (fun a => a = q) ρ σ a := fun a _ _ n z => n (by
              rcases z with z | z | z | z
              · exact .inl ((hS a).mpr (.inl z))
              · exact .inl ((hS a).mpr (.inr (.inl z)))
              · exact .inl ((hS a).mpr (.inr (.inr (.inl z))))
              · exact .inr z)
            have om := o.there
            refine P3 q H' (back h1 e1 hp) (h1.move e2' n2 (fun j u d z1 z2 z3 => ?_) (t.less n3) fun a z => by rw [z]; exact om) (e1.trans e2') (o.go (fun _ e => e) (fun _ _ e _ => e) n3)
            obtain ⟨y, y1, y2, _⟩ := h1.own j d z1
            rw [z2] at y1
            cases y1
            obtain ⟨o2, e3, _⟩ := y2.there
            rw [z3, hp] at e3
            cases e3
          | peek d => exact rt.elim
          | tape => exact rt.elim
          | look d => exact rt.elim
          | tree s d =>
            obtain ⟨F, hF, hn, o, t⟩ := rt
            have hF : ∀ p ∈ F, H1 p = none ∧ C.tp ≠ some p := hF
            have n2 : ∀ a o, H1 a = some o → ¬ SS C Z0 ρ σ a → ¬ SS C (fun a => a ∈ F) ρ σ a := fun a o e s z => by
              rcases z with z | z | z | z
              · exact s (.inl z)
              · exact s (.inr (.inl z))
              · exact s (.inr (.inr (.inl z)))
              · rw [(hF a z).1] at e
                cases e
            have n3 : ∀ a o, H' a = some o → ¬ (S1 (⟨H1, fun a => SS C Z0 ρ σ a ∧ C.tp ≠ some a, C.tp, C.W, [], fun _ => False⟩ : FC) a ∨ a ∈ F) → ¬ SS C (fun a => a ∈ F) ρ σ a := fun a _ _ n z => n (by
              rcases z with z | z | z | z
              · exact .inl ((hS a).mpr (.inl z))
              · exact .inl ((hS a).mpr (.inr (.inl z)))
              · exact .inl ((hS a).mpr (.inr (.inr (.inl z))))
              · exact .inr z)
            refine P3 u F H' (fun p z => back h1 e1 (hF p z).1) hn (h1.move e2' n2 (fun j u d z1 z2 z3 => ?_) (t.less n3) o.there) (e1.trans e2') (o.go (fun _ _ e _ => e) n3 fun _ _ _ e => e)
            obtain ⟨y, y1, y2, _⟩ := h1.own j d z1
            rw [z2] at y1
            cases y1
            obtain ⟨o2, e3, _⟩ := y2.there
            rw [(hF u z3).1] at e3
            cases e3
      | _ => exact P.elim
theorem se_defT (i : Nat) {y : Str} {p2 : Pos} (F : FnOk X.prog X.w X.K X.mg X.base (L2.CX X.prog X.w) k f fd ps (SpD X.K X.mg n true M)) (hm : X.mg x = some (.ref f)) (hk : PySem.W.keepIn X.K (.ref f) = true) (hb : Binds X.K fd ps []) (hr : Room k X.A) (tk : Takes X C.W) (ha : SA X C es g)
    (hN : X.N[i]? = some y := by rfl) (hv : Vis X.env.scope y := by first | exact Or.inl rfl | exact Or.inr (Or.inl rfl) | exact Or.inr (Or.inr rfl)) (hd : (y == ("__debug__" : Str)) = false := by decide) (hcd : (y == ("__classdict__" : Str)) = false := by decide)
    (hg : Gl X x := by rfl) (hdb : (x == ("__debug__" : Str)) = false := by decide) (he : starEach (.Name y p2 :: es) X.env = (false, eval (.Name y p2) X.env) :: starEach es X.env := by rfl) (hpl : (backTo pos (starEach es X.env)).any (·.1) = false := by rfl) :
    SE X C (.Call (.Name x p) (.Name y p2 :: es) [] pos) (eDefT i n M g) := pe_imp (pe_callS F hr hg hm hk hb (passAt tk) (pa_cons (pe_var hN hv hd hcd) ha he) hdb he hpl) (t_defT i)
end
/-! ## what a loop or a comprehension walks -/
abbrev DI := Env → Tp → Rs (List D × Tp)
/-- the iterator J gives the data ds, as long as the pinned values stand -/
def PinOk (K : PySem.W.Frag) (mg : Str → Option Value) (J : It) (ds : List D) (pins : List (V × D)) : Prop :=
  ds.length ≤ sizeLine ∧ ∀ (S : Addr → Prop) (H : Hp), Trk S H → (∀ p ∈ pins, Top K mg S H p.1 p.2) → ∀ i : Nat, (∀ d, ds[i]? = some d → J.go i H ∧ ∀ x H3, J.yld i H x H3 → Same H H3 ∧ Rep K mg S H3 x d) ∧ (ds.length ≤ i → J.stop i H)
def GI (K : PySem.W.Frag) (mg : Str → Option Value) (C : FC) (r : Env) (σ : L2.St) (H : Hp) (R : It → Hp → Prop) : List D × Tp → Prop := fun q =>
  ∀ J (pins : List (V × D)) H', Holds K mg C Z0 r q.2 σ H' → Ext C H H' → (∀ p ∈ pins, Rep K mg (SS C Z0 r σ) H' p.1 p.2) → PinOk K mg J q.1 pins → R J H'
def GJ (K : PySem.W.Frag) (mg : Str → Option Value) (C : FC) (r : Env) (σ : L2.St) (H : Hp) (R : It → Hp → Prop) : List D × Tp → Prop := fun q =>
  ∀ J (pins : List (V × D)) H', Holds K mg C Z0 r q.2 σ H' → Ext C H H' → (∀ p ∈ pins, TopC K mg C r σ H' p.1 p.2) → PinOk K mg J q.1 pins → R J H'
/-- the same, at heaps that hold what H1 holds -/
def PinAt (K : PySem.W.Frag) (mg : Str → Option Value) (C : FC) (H1 : Hp) (J : It) (ds : List D) (pins : List (V × D)) : Prop :=
  ds.length ≤ sizeLine ∧ ∀ (S : Addr → Prop) (H : Hp), Trk S H → Ext C H1 H → (∀ p ∈ pins, Top K mg S H p.1 p.2) → ∀ i : Nat, (∀ d, ds[i]? = some d → J.go i H ∧ ∀ x H3, J.yld i H x H3 → Same H H3 ∧ Rep K mg S H3 x d) ∧ (ds.length ≤ i → J.stop i H)
theorem PinOk.at_ {K : PySem.W.Frag} {mg : Str → Option Value} {C : FC} {H1 : Hp} {J : It} {ds : List D} {pins : List (V × D)} (h : PinOk K mg J ds pins) : PinAt K mg C H1 J ds pins := ⟨h.1, fun S H t _ hp => h.2 S H t hp⟩
def GIA (K : PySem.W.Frag) (mg : Str → Option Value) (C : FC) (r : Env) (σ : L2.St) (H : Hp) (R : It → Hp → Prop) : List D × Tp → Prop := fun q =>
  ∀ J (pins : List (V × D)) H', Holds K mg C Z0 r q.2 σ H' → Ext C H H' → (∀ p ∈ pins, Rep K mg (SS C Z0 r σ) H' p.1 p.2) → PinAt K mg C C.H0 J q.1 pins → R J H'
def GJA (K : PySem.W.Frag) (mg : Str → Option Value) (C : FC) (r : Env) (σ : L2.St) (H : Hp) (R : It → Hp → Prop) : List D × Tp → Prop := fun q =>
  ∀ J (pins : List (V × D)) H', Holds K mg C Z0 r q.2 σ H' → Ext C H H' → (∀ p ∈ pins, TopC K mg C r σ H' p.1 p.2) → PinAt K mg C H' J q.1 pins → R J H'
theorem GIA.gi {K : PySem.W.Frag} {mg : Str → Option Value} {C : FC} {r : Env} {σ : L2.St} {H : Hp} {R : It → Hp → Prop} {q : List D × Tp} (h : GIA K mg C r σ H R q) : GI K mg C r σ H R q := fun J pins H' a b c d => h J pins H' a b c d.at_
theorem GJA.gj {K : PySem.W.Frag} {mg : Str → Option Value} {C : FC} {r : Env} {σ : L2.St} {H : Hp} {R : It → Hp → Prop} {q : List D × Tp} (h : GJA K mg C r σ H R q) : GJ K mg C r σ H R q := fun J pins H' a b c d => h J pins H' a b c d.at_
/-- for a loop: what is walked is data; for a comprehension: it is looked into -/
def tI (K : PySem.W.Frag) (mg : Str → Option Value) (C : FC) (f : DI) : TI := fun σ H R => ∃ r T, Holds K mg C Z0 r T σ H ∧ PostG K mg C σ (GI K mg C r σ H R) (f r T)
def tJ (K : PySem.W.Frag) (mg : Str → Option Value) (C : FC) (f : DI) : TI := fun σ H R => ∃ r T, Holds K mg C Z0 r T σ H ∧ PostG K mg C σ (GJ K mg C r σ H R) (f r T)
abbrev SI (X : Cx) (C : FC) (tg e : Expr) (f : DI) : Prop := PI X tg e (tI X.K X.mg C f)
abbrev SJ (X : Cx) (C : FC) (tg e : Expr) (f : DI) : Prop := PI X tg e (tJ X.K X.mg C f)
theorem pi_ex {X : Cx} {tg e : Expr} {t : (Addr → Prop) → TI} (h : ∀ Y, PI X tg e (t Y)) : PI X tg e (fun σ H R => ∃ Y, t Y σ H R) := ⟨fun pins s σ H R I ⟨Y, q⟩ => (h Y).run pins s σ H R I q⟩
theorem pi_imp {X : Cx} {tg e : Expr} {t t' : TI} (h : PI X tg e t) (i : ∀ σ H R, t' σ H R → t σ H R) : PI X tg e t' := ⟨fun pins s σ H R I q => h.run pins s σ H R I (i σ H R q)⟩
def seqD : D → Rs (List D)
  | .tup ds => .ok ds
  | .lst ds => .ok ds
  | .tpl ns => .ok (ns.map D.int)
  | .ktp ds => .ok ds
  | _ => .stuck
@[simp] theorem seqD_tpl (ns : List Int) : seqD (.tpl ns) = .ok (ns.map D.int) := rfl
@[simp] theorem seqD_ktp (ds : List D) : seqD (.ktp ds) = .ok ds := rfl
@[simp] theorem seqD_tup (ds : List D) : seqD (.tup ds) = .ok ds := rfl
@[simp] theorem seqD_lst (ds : List D) : seqD (.lst ds) = .ok ds := rfl
def iSeq (f : DE) : DI := fun r T => (dv (f r T)).bind fun p => (seqD p.1).bind fun ds => .ok (ds, p.2)
def jSeq (f : DE) : DI := fun r T => (dt (f r T)).bind fun p => (seqD p.1).bind fun ds => .ok (ds, p.2)
theorem pi_or {X : Cx} {tg l : Expr} {t u : TI} (h1 : PI X tg l t) (h2 : PI X tg l u) : PI X tg l (fun σ H R => t σ H R ∨ u σ H R) :=
  ⟨fun pins s σ H R I q => q.elim (fun q => h1.run pins s σ H R I q) fun q => h2.run pins s σ H R I q⟩
section
variable {K : PySem.W.Frag} {mg : Str → Option Value}
theorem pin_list {a : Addr} {ds : List D} (hz : ds.length ≤ sizeLine) : PinOk K mg (Itl K a) ds [(.ref a, .lst ds)] := ⟨hz, fun S H t h i => by
  obtain ⟨b, vs, e, h1, z, q⟩ := (h _ List.mem_cons_self).sqL
  cases e
  refine ⟨fun d e => ?_, fun hi => ⟨vs, .of h1, by rw [q.len]; exact hi⟩⟩
  obtain ⟨v, ev, p⟩ := q.getD e
  refine ⟨⟨vs, v, .of h1, ev⟩, fun x H3 ⟨e3, y⟩ => ?_⟩
  subst e3
  have := y vs (.of h1)
  rw [ev] at this
  cases this
  exact ⟨Same.refl _, p⟩⟩
theorem pin_tup {a : Addr} {ds : List D} (hz : ds.length ≤ sizeLine) : PinOk K mg (Itt K a) ds [(.ref a, .tup ds)] := ⟨hz, fun S H t h i => by
  obtain ⟨b, vs, e, h1, z, q⟩ := (h _ List.mem_cons_self).sqT
  cases e
  refine ⟨fun d e => ?_, fun hi => ⟨vs, h1, by rw [q.len]; exact hi⟩⟩
  obtain ⟨v, ev, p⟩ := q.getD e
  refine ⟨⟨vs, v, h1, ev⟩, fun x H3 ⟨e3, y⟩ => ?_⟩
  subst e3
  have := y vs h1
  rw [ev] at this
  cases this
  exact ⟨Same.refl _, p⟩⟩
theorem pin_ktp {a : Addr} {ds : List D} (hz : ds.length ≤ sizeLine) : PinOk K mg (Itt K a) ds [(.ref a, .ktp ds)] := ⟨hz, fun S H t h i => by
  obtain ⟨b, vs, e, h1, z, q⟩ := (h _ List.mem_cons_self).ktpT
  cases e
  refine ⟨fun d e => ?_, fun hi => ⟨vs, h1, by rw [q.len]; exact hi⟩⟩
  obtain ⟨v, ev, p⟩ := q.getD e
  refine ⟨⟨vs, v, h1, ev⟩, fun x H3 ⟨e3, y⟩ => ?_⟩
  subst e3
  have := y vs h1
  rw [ev] at this
  cases this
  exact ⟨Same.refl _, p⟩⟩
theorem pin_tpl {a : Addr} {ns : List Int} (hz : ns.length ≤ sizeLine) : PinOk K mg (Itt K a) (ns.map D.int) [(.ref a, .tpl ns)] := ⟨by rw [List.length_map]; exact hz, fun S H t h i => by
  obtain ⟨b, e, h1, z⟩ := (h _ List.mem_cons_self).tplT
  cases e
  refine ⟨fun d e => ?_, fun hi => ⟨_, h1, by rw [List.length_map] at hi ⊢; exact hi⟩⟩
  obtain ⟨v, ev, p⟩ := (Reps.ints (K := K) (mg := mg) (S := S) (H := H) ns).getD e
  refine ⟨⟨_, v, h1, ev⟩, fun x H3 ⟨e3, y⟩ => ?_⟩
  subst e3
  have := y _ h1
  rw [ev] at this
  cases this
  exact ⟨Same.refl _, p⟩⟩
theorem pin_range {lo : Int} {n : Nat} (hz : n ≤ sizeLine) : PinOk K mg (Itr lo n) ((List.range n).map fun (i : Nat) => .int (lo + i)) [] := ⟨by rw [List.length_map, List.length_range]; exact hz, fun S H t h i => by
  refine ⟨fun d e => ?_, fun hi => by simpa [Itr] using hi⟩
  rw [List.getElem?_map] at e
  cases q : (List.range n)[i]? with
  | none =>
    rw [q] at e
    cases e
  | some j =>
    rw [q] at e
    cases e
    obtain ⟨h1, h2⟩ := List.getElem?_eq_some_iff.mp q
    rw [List.getElem_range] at h2
    subst h2
    rw [List.length_range] at h1
    refine ⟨h1, fun x H3 ⟨e3, y⟩ => ?_⟩
    subst e3 y
    exact ⟨Same.refl _, .int _⟩⟩
end
section
variable {X : Cx} {C : FC} {tg l : Expr} {f : DE}
theorem dt_seq {C : FC} {K : PySem.W.Frag} {mg : Str → Option Value} {σ : L2.St} {B : Type} {G : B → Prop} {d : D} {g : List D → Rs B} (h : PostG K mg C σ G ((seqD d).bind g)) : (∃ ds, d = .lst ds ∧ PostG K mg C σ G (g ds)) ∨ (∃ ds, d = .tup ds ∧ PostG K mg C σ G (g ds)) ∨ (∃ ns, d = .tpl ns ∧ PostG K mg C σ G (g (ns.map D.int))) ∨ ∃ ds, d = .ktp ds ∧ PostG K mg C σ G (g ds) := by
  cases d with
  | lst ds => exact .inl ⟨ds, rfl, h⟩
  | tup ds => exact .inr (.inl ⟨ds, rfl, h⟩)
  | tpl ns => exact .inr (.inr (.inl ⟨ns, rfl, h⟩))
  | ktp ds => exact .inr (.inr (.inr ⟨ds, rfl, h⟩))
  | _ => exact (show False from h).elim
theorem gv_dvE {K : PySem.W.Frag} {mg : Str → Option Value} {C : FC} {r : Env} {T : Tp} {σ : L2.St} {H : Hp} {B : Type} {G : B → Prop} {Q : VK} {x : Rs (VD × Tp)} {g : D × Tp → Rs B} (h0 : Holds K mg C Z0 r T σ H) (P : PostG K mg C σ G ((dv x).bind g))
    (k : ∀ d T' v H', dv x = .ok (d, T') → Holds K mg C Z0 r T' σ H' → Ext C H H' → Rep K mg (SS C Z0 r σ) H' v d → PostG K mg C σ G (g (d, T')) → Q v H') : Post K mg C r σ H Q x := by
  cases x with
  | ok p =>
    obtain ⟨v, T⟩ := p
    cases v with
    | val d => exact fun v H' h1 e1 p => k d T v H' rfl h1 e1 p P
    | own d => exact fun p H' hp h1 e1 o => k d T (.ref p) H' rfl h1.join e1 (o.frozen (h0.fresh hp) (fun a o e s z => s (ss_less a z))) P
    | peek d => exact (show False from P).elim
    | tape => exact (show False from P).elim
    | tree s d => exact (show False from P).elim
    | look d => exact (show False from P).elim
  | exc c fs t r => exact P
  | stuck => exact (show False from P).elim
theorem gv_dtE {K : PySem.W.Frag} {mg : Str → Option Value} {C : FC} {r : Env} {T : Tp} {σ : L2.St} {H : Hp} {B : Type} {G : B → Prop} {Q : VK} {x : Rs (VD × Tp)} {g : D × Tp → Rs B} (h0 : Holds K mg C Z0 r T σ H) (P : PostG K mg C σ G ((dt x).bind g))
    (k : ∀ d T' v H', dt x = .ok (d, T') → Holds K mg C Z0 r T' σ H' → Ext C H H' → TopC K mg C r σ H' v d → PostG K mg C σ G (g (d, T')) → Q v H') : Post K mg C r σ H Q x := by
  cases x with
  | ok p =>
    obtain ⟨v, T⟩ := p
    cases v with
    | val d => exact fun v H' h1 e1 p => k d T v H' rfl h1 e1 (.inl p) P
    | own d => exact fun p H' hp h1 e1 o => k d T (.ref p) H' rfl h1.join e1 (.inl (o.frozen (h0.fresh hp) (fun a o e s z => s (ss_less a z)))) P
    | peek d => exact fun v H' h1 e1 p => k d T v H' rfl h1 e1 p P
    | tape => exact (show False from P).elim
    | tree s d => exact (show False from P).elim
    | look d => exact (show False from P).elim
  | exc c fs t r => exact P
  | stuck => exact (show False from P).elim
theorem runs_dv {K : PySem.W.Frag} {mg : Str → Option Value} {C : FC} {σ : L2.St} {B : Type} {G : B → Prop} {x : Rs (VD × Tp)} {g : D × Tp → Rs B} (P : PostG K mg C σ G ((dv x).bind g)) :
    (∃ d T, dv x = .ok (d, T) ∧ PostG K mg C σ G (g (d, T))) ∨ ∃ c fs t r, x = .exc c fs t r := by
  cases x with
  | ok p =>
    obtain ⟨v, T⟩ := p
    cases v with
    | val d => exact .inl ⟨d, T, rfl, P⟩
    | own d => exact .inl ⟨d, T, rfl, P⟩
    | peek d => exact (show False from P).elim
    | tape => exact (show False from P).elim
    | tree s d => exact (show False from P).elim
    | look d => exact (show False from P).elim
  | exc c fs t r => exact .inr ⟨c, fs, t, r, rfl⟩
  | stuck => exact (show False from P).elim
theorem runs_dt {K : PySem.W.Frag} {mg : Str → Option Value} {C : FC} {σ : L2.St} {B : Type} {G : B → Prop} {x : Rs (VD × Tp)} {g : D × Tp → Rs B} (P : PostG K mg C σ G ((dt x).bind g)) :
    (∃ d T, dt x = .ok (d, T) ∧ PostG K mg C σ G (g (d, T))) ∨ ∃ c fs t r, x = .exc c fs t r := by
  cases x with
  | ok p =>
    obtain ⟨v, T⟩ := p
    cases v with
    | val d => exact .inl ⟨d, T, rfl, P⟩
    | own d => exact .inl ⟨d, T, rfl, P⟩
    | peek d => exact .inl ⟨d, T, rfl, P⟩
    | tape => exact (show False from P).elim
    | tree s d => exact (show False from P).elim
    | look d => exact (show False from P).elim
  | exc c fs t r => exact .inr ⟨c, fs, t, r, rfl⟩
  | stuck => exact (show False from P).elim
theorem ok_eq {d d' : D} {T T' : Tp} {x : Rs (D × Tp)} (h1 : x = .ok (d, T)) (h2 : x = .ok (d', T')) : d = d' := by
  rw [h1] at h2
  cases h2
  rfl
theorem si_seq (h : SE X C l f) : SI X C tg l (iSeq f) := by
  refine pi_imp (pi_or (pi_list (tg := tg) h) (pi_tup h)) ?_
  rintro σ H R ⟨ρ, T, h, P⟩
  rcases runs_dv P with ⟨d, T', ed, P1⟩ | ⟨c, fs, t, r2, ex⟩
  · rcases dt_seq P1 with ⟨ds, rfl, _⟩ | ⟨ds, rfl, _⟩ | ⟨ns, rfl, _⟩ | ⟨ds, rfl, _⟩
    · refine .inl ⟨ρ, T, h, gv_dvE h P fun d2 T2 v H1 ed2 h1 e1 p P3 => ?_⟩
      obtain rfl := ok_eq ed ed2
      obtain ⟨a, rfl⟩ := p.lstRef
      obtain ⟨b, vs, e, h2, z, q⟩ := (show Top X.K X.mg _ H1 _ _ from .inl p).sqL
      cases e
      exact ⟨a, rfl, ⟨vs, .of h2⟩, P3 (Itl X.K a) [(.ref a, .lst ds)] H1 h1 e1 (fun w hw => by rw [List.mem_singleton.mp hw]; exact p) (pin_list (by rw [← q.len]; exact z))⟩
    · refine .inr ⟨ρ, T, h, gv_dvE h P fun d2 T2 v H1 ed2 h1 e1 p P3 => ?_⟩
      obtain rfl := ok_eq ed ed2
      obtain ⟨a, rfl⟩ := p.tupRef
      obtain ⟨b, vs, e, h2, z, q⟩ := (show Top X.K X.mg _ H1 _ _ from .inl p).sqT
      cases e
      exact ⟨a, rfl, ⟨vs, h2⟩, P3 (Itt X.K a) [(.ref a, .tup ds)] H1 h1 e1 (fun w hw => by rw [List.mem_singleton.mp hw]; exact p) (pin_tup (by rw [← q.len]; exact z))⟩
    · refine .inr ⟨ρ, T, h, gv_dvE h P fun d2 T2 v H1 ed2 h1 e1 p P3 => ?_⟩
      obtain rfl := ok_eq ed ed2
      obtain ⟨b, rfl, h2, z⟩ := (show Top X.K X.mg _ H1 _ _ from .inl p).tplT
      exact ⟨b, rfl, ⟨_, h2⟩, P3 (Itt X.K b) [(.ref b, .tpl ns)] H1 h1 e1 (fun w hw => by rw [List.mem_singleton.mp hw]; exact p) (pin_tpl z)⟩
    · refine .inr ⟨ρ, T, h, gv_dvE h P fun d2 T2 v H1 ed2 h1 e1 p P3 => ?_⟩
      obtain rfl := ok_eq ed ed2
      obtain ⟨b, vs, rfl, h2, z, q⟩ := (show Top X.K X.mg _ H1 _ _ from .inl p).ktpT
      exact ⟨b, rfl, ⟨vs, h2⟩, P3 (Itt X.K b) [(.ref b, .ktp ds)] H1 h1 e1 (fun w hw => by rw [List.mem_singleton.mp hw]; exact p) (pin_ktp (by rw [← q.len]; exact z))⟩
  · refine .inl ⟨ρ, T, h, ?_⟩
    unfold iSeq at P
    rw [ex] at P ⊢
    exact P
theorem sj_seq (h : SE X C l f) : SJ X C tg l (jSeq f) := by
  refine pi_imp (pi_or (pi_list (tg := tg) h) (pi_tup h)) ?_
  rintro σ H R ⟨ρ, T, h, P⟩
  rcases runs_dt P with ⟨d, T', ed, P1⟩ | ⟨c, fs, t, r2, ex⟩
  · rcases dt_seq P1 with ⟨ds, rfl, _⟩ | ⟨ds, rfl, _⟩ | ⟨ns, rfl, _⟩ | ⟨ds, rfl, _⟩
    · refine .inl ⟨ρ, T, h, gv_dtE h P fun d2 T2 v H1 ed2 h1 e1 p P3 => ?_⟩
      obtain rfl := ok_eq ed ed2
      obtain ⟨b, vs, rfl, h2, z, q⟩ := p.top.sqL
      exact ⟨b, rfl, ⟨vs, .of h2⟩, P3 (Itl X.K b) [(.ref b, .lst ds)] H1 h1 e1 (fun w hw => by rw [List.mem_singleton.mp hw]; exact p) (pin_list (by rw [← q.len]; exact z))⟩
    · refine .inr ⟨ρ, T, h, gv_dtE h P fun d2 T2 v H1 ed2 h1 e1 p P3 => ?_⟩
      obtain rfl := ok_eq ed ed2
      obtain ⟨b, vs, rfl, h2, z, q⟩ := p.top.sqT
      exact ⟨b, rfl, ⟨vs, h2⟩, P3 (Itt X.K b) [(.ref b, .tup ds)] H1 h1 e1 (fun w hw => by rw [List.mem_singleton.mp hw]; exact p) (pin_tup (by rw [← q.len]; exact z))⟩
    · refine .inr ⟨ρ, T, h, gv_dtE h P fun d2 T2 v H1 ed2 h1 e1 p P3 => ?_⟩
      obtain rfl := ok_eq ed ed2
      obtain ⟨b, rfl, h2, z⟩ := p.top.tplT
      exact ⟨b, rfl, ⟨_, h2⟩, P3 (Itt X.K b) [(.ref b, .tpl ns)] H1 h1 e1 (fun w hw => by rw [List.mem_singleton.mp hw]; exact p) (pin_tpl z)⟩
    · refine .inr ⟨ρ, T, h, gv_dtE h P fun d2 T2 v H1 ed2 h1 e1 p P3 => ?_⟩
      obtain rfl := ok_eq ed ed2
      obtain ⟨b, vs, rfl, h2, z, q⟩ := p.top.ktpT
      exact ⟨b, rfl, ⟨vs, h2⟩, P3 (Itt X.K b) [(.ref b, .ktp ds)] H1 h1 e1 (fun w hw => by rw [List.mem_singleton.mp hw]; exact p) (pin_ktp (by rw [← q.len]; exact z))⟩
  · refine .inl ⟨ρ, T, h, ?_⟩
    unfold jSeq at P
    rw [ex] at P ⊢
    exact P
/-- range(n), range(a, b) -/
def dI : D → Rs Int
  | .int i => .ok i
  | _ => .stuck
@[simp] theorem dI_int (i : Int) : dI (.int i) = .ok i := rfl
def rngD (lo : Int) (n : Nat) : List D := (List.range n).map fun (i : Nat) => .int (lo + i)
def argR : List D → Rs (Int × Int)
  | [.int j] => .ok (0, j)
  | [.int i, .int j] => .ok (i, j)
  | _ => .stuck
@[simp] theorem argR_one (j : Int) : argR [.int j] = .ok (0, j) := rfl
@[simp] theorem argR_two (i j : Int) : argR [.int i, .int j] = .ok (i, j) := rfl
def iRng (g : DA) : DI := fun r T => (g r T).bind fun p => (argR p.1).bind fun q => if -8000000 ≤ q.1 ∧ q.1 ≤ 8000000 ∧ -8000000 ≤ q.2 ∧ q.2 ≤ 8000000 then .ok (rngD q.1 (q.2 - q.1).toNat, p.2) else .stuck
theorem rng_len {n : Nat} (h : n ≤ 16000000) : n ≤ sizeLine := by rw [sizeLine_eq]; omega
theorem tops1 {K : PySem.W.Frag} {mg : Str → Option Value} {C : FC} {r : Env} {σ : L2.St} {H : Hp} {vs : List V} {i : Int} (h : TopCs K mg C r σ H vs [.int i]) : vs = [.int i] := by
  cases h with
  | cons a t =>
    cases t
    rw [a.top.int]
theorem tops2 {K : PySem.W.Frag} {mg : Str → Option Value} {C : FC} {r : Env} {σ : L2.St} {H : Hp} {vs : List V} {i j : Int} (h : TopCs K mg C r σ H vs [.int i, .int j]) : vs = [.int i, .int j] := by
  cases h with
  | cons a t =>
    cases t with
    | cons b t =>
      cases t
      rw [a.top.int, b.top.int]
section
variable {K : PySem.W.Frag} {mg : Str → Option Value} {r : Env} {T : Tp} {σ : L2.St} {H : Hp} {R : It → Hp → Prop}
theorem rng_run {g : DA} {Q2 : It → Hp → Prop} {G : List D × Tp → Prop} (one : Bool) (P : PostG K mg C σ G (iRng g r T))
    (k : ∀ H' T' lo n, n ≤ sizeLine → Holds K mg C Z0 r T' σ H' → Ext C H H' → G (rngD lo n, T') → Q2 (Itr lo n) H')
    (G1 : List V → Hp → Prop) (h1 : ∀ vs H', (∃ j : Int, vs = [.int j] ∧ -(2 ^ 62) ≤ j ∧ j < 2 ^ 62 ∧ Q2 (Itr 0 j.toNat) H') → one = true → G1 vs H')
    (h2 : ∀ vs H', (∃ i j : Int, vs = [.int i, .int j] ∧ (-(2 ^ 62) ≤ i ∧ i < 2 ^ 62 ∧ -(2 ^ 62) ≤ j ∧ j < 2 ^ 62) ∧ Q2 (Itr i (j - i).toNat) H') → one = false → G1 vs H')
    (ho : ∀ ds T', g r T = .ok (ds, T') → (ds.length = 1 ↔ one = true)) : PostG K mg C σ (GB K mg C r σ H G1) (g r T) := by
  unfold iRng at P
  cases hg : g r T with
  | stuck =>
    rw [hg] at P
    exact P
  | exc c fs t r2 =>
    rw [hg] at P
    exact P
  | ok p =>
    obtain ⟨ds, T'⟩ := p
    rw [hg] at P
    have hl := ho ds T' hg
    intro vs H' hh e1 tp
    have P : PostG K mg C σ G ((argR ds).bind fun q => if -8000000 ≤ q.1 ∧ q.1 ≤ 8000000 ∧ -8000000 ≤ q.2 ∧ q.2 ≤ 8000000 then .ok (rngD q.1 (q.2 - q.1).toNat, T') else .stuck) := P
    match ds, P, hl, tp with
    | [.int j], P, hl, tp =>
      obtain ⟨b, P2⟩ := postG_if P
      refine h1 vs H' ⟨j, tops1 tp, by have := b.2.2.1; simp only at this; omega, by have := b.2.2.2; simp only at this; omega, ?_⟩ (hl.mp rfl)
      have e : (j - 0).toNat = j.toNat := by rw [Int.sub_zero]
      have P3 : G (rngD 0 (j - 0).toNat, T') := P2
      rw [e] at P3
      exact k H' T' 0 j.toNat (rng_len (by have := b.2.2.2; simp only at this; omega)) hh e1 P3
    | [.int i, .int j], P, hl, tp =>
      obtain ⟨b, P2⟩ := postG_if P
      refine h2 vs H' ⟨i, j, tops2 tp, ⟨by have := b.1; simp only at this; omega, by have := b.2.1; simp only at this; omega, by have := b.2.2.1; simp only at this; omega, by have := b.2.2.2; simp only at this; omega⟩, k H' T' i _ (rng_len (by have := b.1; have := b.2.2.2; simp only at *; omega)) hh e1 P2⟩ ?_
      cases one with
      | false => rfl
      | true =>
        have q := hl.mpr rfl
        simp at q
end
end
/-- one argument, two arguments -/
def Many (n : Nat) (g : DA) : Prop := ∀ r T ds T', g r T = .ok (ds, T') → ds.length = n
theorem many_nil : Many 0 aNil := fun r T ds T' h => by
  cases h
  rfl
theorem many_consT {n : Nat} {f : DE} {g : DA} (h : Many n g) : Many (n + 1) (aConsT f g) := fun r T ds T' e => by
  unfold aConsT at e
  cases q : dt (f r T) with
  | stuck => rw [q] at e; cases e
  | exc c fs t r2 => rw [q] at e; cases e
  | ok p =>
    rw [q] at e
    have e : ((g r p.2).bind fun q => .ok (p.1 :: q.1, q.2)) = Rs.ok (ds, T') := e
    cases q2 : g r p.2 with
    | stuck => rw [q2] at e; cases e
    | exc c fs t r2 => rw [q2] at e; cases e
    | ok w =>
      rw [q2] at e
      cases e
      rw [List.length_cons, h _ _ _ _ q2]
section
variable {X : Cx} {C : FC} {tg a b : Expr} {g : DA} {p pos : Pos}
theorem si_range1 (hm : X.mg "range" = none) (ha : SAt X C [a] g) (hn : Many 1 g) (hg : Gl X "range" := by rfl) (hs : starEach [a] X.env = [(false, eval a X.env)] := by rfl) : SI X C tg (.Call (.Name "range" p) [a] [] pos) (iRng g) := by
  refine pi_imp (pi_range1 hg hm ha hs) ?_
  rintro σ H R ⟨ρ, T, h, P⟩
  refine ⟨ρ, T, h, rng_run (Q2 := R) true P (fun H' T' lo n hz hh e q => q (Itr lo n) [] H' hh e (fun _ z => nomatch z) (pin_range hz)) _ (fun vs H' q _ => q) (fun vs H' q z => nomatch z) fun ds T' e => by simp [hn _ _ _ _ e]⟩
theorem sj_range1 (hm : X.mg "range" = none) (ha : SAt X C [a] g) (hn : Many 1 g) (hg : Gl X "range" := by rfl) (hs : starEach [a] X.env = [(false, eval a X.env)] := by rfl) : SJ X C tg (.Call (.Name "range" p) [a] [] pos) (iRng g) := by
  refine pi_imp (pi_range1 hg hm ha hs) ?_
  rintro σ H R ⟨ρ, T, h, P⟩
  refine ⟨ρ, T, h, rng_run (Q2 := R) true P (fun H' T' lo n hz hh e q => q (Itr lo n) [] H' hh e (fun _ z => nomatch z) (pin_range hz)) _ (fun vs H' q _ => q) (fun vs H' q z => nomatch z) fun ds T' e => by simp [hn _ _ _ _ e]⟩
theorem si_range2 (hm : X.mg "range" = none) (ha : SAt X C [a, b] g) (hn : Many 2 g) (hg : Gl X "range" := by rfl) (hs : starEach [a, b] X.env = [(false, eval a X.env), (false, eval b X.env)] := by rfl) (hs2 : starEach [b] X.env = [(false, eval b X.env)] := by rfl) : SI X C tg (.Call (.Name "range" p) [a, b] [] pos) (iRng g) := by
  refine pi_imp (pi_range2 hg hm ha hs hs2) ?_
  rintro σ H R ⟨ρ, T, h, P⟩
  refine ⟨ρ, T, h, rng_run (Q2 := R) false P (fun H' T' lo n hz hh e q => q (Itr lo n) [] H' hh e (fun _ z => nomatch z) (pin_range hz)) _ (fun vs H' q z => nomatch z) (fun vs H' q _ => q) fun ds T' e => by simp [hn _ _ _ _ e]⟩
theorem sj_range2 (hm : X.mg "range" = none) (ha : SAt X C [a, b] g) (hn : Many 2 g) (hg : Gl X "range" := by rfl) (hs : starEach [a, b] X.env = [(false, eval a X.env), (false, eval b X.env)] := by rfl) (hs2 : starEach [b] X.env = [(false, eval b X.env)] := by rfl) : SJ X C tg (.Call (.Name "range" p) [a, b] [] pos) (iRng g) := by
  refine pi_imp (pi_range2 hg hm ha hs hs2) ?_
  rintro σ H R ⟨ρ, T, h, P⟩
  refine ⟨ρ, T, h, rng_run (Q2 := R) false P (fun H' T' lo n hz hh e q => q (Itr lo n) [] H' hh e (fun _ z => nomatch z) (pin_range hz)) _ (fun vs H' q z => nomatch z) (fun vs H' q _ => q) fun ds T' e => by simp [hn _ _ _ _ e]⟩
end
end Pu
namespace Pu
open PySem L2
/-! ## targets -/
/-- what a target takes of a thing: slots and their data -/
abbrev DG := D → Option (List (Nat × D))
def rO {A : Type} : Option A → Rs A
  | some a => .ok a
  | none => .stuck
@[simp] theorem rO_some {A : Type} (a : A) : rO (some a) = .ok a := rfl
@[simp] theorem rO_none {A : Type} : rO (none : Option A) = .stuck := rfl
def setE (r : Env) : List (Nat × D) → Env
  | [] => r
  | p :: l => setE (r.set p.1 (some (.val p.2))) l
def setV (σ : L2.St) : List (Nat × V) → L2.St
  | [] => σ
  | p :: l => setV (σ.set p.1 (some p.2)) l
def gN (i : Nat) : DG := fun d => some [(i, d)]
def gsN : List DG → List D → Option (List (Nat × D))
  | [], [] => some []
  | g :: gs, d :: ds => (g d).bind fun l => (gsN gs ds).bind fun l2 => some (l ++ l2)
  | _, _ => none
def gT (n : Nat) (gs : List DG) : DG := fun d => match d with
  | .tup ds => if ds.length = n then gsN gs ds else none
  | _ => none
section
variable (K : PySem.W.Frag) (mg : Str → Option Value) (S : Addr → Prop) (H : Hp)
inductive RepP : List (Nat × V) → List (Nat × D) → Prop
  | nil : RepP [] []
  | cons {i : Nat} {v : V} {d : D} {l : List (Nat × V)} {m : List (Nat × D)} : Rep K mg S H v d → RepP l m → RepP ((i, v) :: l) ((i, d) :: m)
end
theorem RepP.app {K : PySem.W.Frag} {mg : Str → Option Value} {S : Addr → Prop} {H : Hp} : ∀ {l l2 : List (Nat × V)} {m m2 : List (Nat × D)}, RepP K mg S H l m → RepP K mg S H l2 m2 → RepP K mg S H (l ++ l2) (m ++ m2)
  | _, _, _, _, .nil, h => h
  | _, _, _, _, .cons p t, h => .cons p (t.app h)
/-- a target's reading: whatever is excluded, the slots are set -/
def tG (K : PySem.W.Frag) (mg : Str → Option Value) (g : DG) : TG := fun v σ H Q => ∃ (S : Addr → Prop) (d : D) (m : List (Nat × D)), Rep K mg S H v d ∧ g d = some m ∧ ∀ l, RepP K mg S H l m → Q (setV σ l) H
def tGs (K : PySem.W.Frag) (mg : Str → Option Value) (gs : List DG) : TGs := fun vs σ H Q => ∃ (S : Addr → Prop) (ds : List D) (m : List (Nat × D)), Reps K mg S H vs ds ∧ gsN gs ds = some m ∧ ∀ l, RepP K mg S H l m → Q (setV σ l) H
abbrev SG (X : Cx) (tg : Expr) (g : DG) : Prop := PG X tg (tG X.K X.mg g)
abbrev SGs (X : Cx) (tgs : List Expr) (gs : List DG) : Prop := PGs X tgs (tGs X.K X.mg gs)
theorem pg_imp {X : Cx} {tg : Expr} {t t' : TG} (h : PG X tg t) (i : ∀ v σ H Q, t' v σ H Q → t v σ H Q) : PG X tg t' := ⟨fun pins s σ H v u Q I r q => h.run pins s σ H v u Q I r (i v σ H Q q)⟩
theorem pgs_imp {X : Cx} {tg : List Expr} {t t' : TGs} (h : PGs X tg t) (i : ∀ v σ H Q, t' v σ H Q → t v σ H Q) : PGs X tg t' := ⟨fun pins s σ H v u Q I r q => h.run pins s σ H v u Q I r (i v σ H Q q)⟩
theorem setV_app (l2 : List (Nat × V)) : ∀ (l : List (Nat × V)) (σ : L2.St), setV σ (l ++ l2) = setV (setV σ l) l2
  | [], _ => rfl
  | _ :: l, σ => setV_app l2 l _
section
variable {X : Cx} {e : Expr} {es : List Expr} {g : DG} {gs : List DG} {pos : Pos}
theorem sg_name (i : Nat) {x : Str} (hN : X.N.Nodup) (hi : X.N[i]? = some x := by rfl) (hx : Loc X.env.scope x := by first | exact Or.inl rfl | exact Or.inr rfl) (hf : X.fn x = true ∨ X.env.scope.names.lookup x = some .local := by first | exact .inl rfl | exact .inr rfl) : SG X (.Name x pos) (gN i) := by
  refine pg_imp (pg_name hN hi hx hf) ?_
  rintro v σ H Q ⟨S, d, m, p, e, k⟩
  cases e
  exact k _ (.cons p .nil)
theorem sgs_nil : SGs X [] [] := by
  refine pgs_imp pgs_nil ?_
  rintro v σ H Q ⟨S, ds, m, p, e, k⟩
  cases ds with
  | nil =>
    cases e
    cases p
    exact ⟨rfl, k [] .nil⟩
  | cons d ds => exact nomatch e
theorem sgs_cons (h1 : SG X e g) (h2 : SGs X es gs) (hs : (assignEach (e :: es) X.env).map (·.2) = assign e X.env :: (assignEach es X.env).map (·.2) := by rfl) : SGs X (e :: es) (g :: gs) := by
  refine pgs_imp (pgs_cons h1 h2 hs) ?_
  rintro vs σ H Q ⟨S, ds, m, p, e, k⟩
  cases p with
  | nil => exact nomatch e
  | cons p t =>
    rename_i v vs d ds
    have e : ((g d).bind fun l => (gsN gs ds).bind fun l2 => some (l ++ l2)) = some m := e
    cases q1 : g d with
    | none => rw [q1] at e; cases e
    | some m1 =>
      rw [q1] at e
      have e : ((gsN gs ds).bind fun l2 => some (m1 ++ l2)) = some m := e
      cases q2 : gsN gs ds with
      | none => rw [q2] at e; cases e
      | some m2 =>
        rw [q2] at e
        cases e
        refine ⟨v, vs, rfl, S, d, m1, p, q1, fun l hl => ⟨S, ds, m2, t, q2, fun l2 hl2 => ?_⟩⟩
        rw [← setV_app]
        exact k _ (hl.app hl2)
theorem sg_tup {k : Nat} {n : Nat} (hc : X.calm = true) (h : SGs X es gs) (hn : (assignEach es X.env).length = n := by rfl) (hst : (assignEach es X.env).findIdx? (·.1) = none := by rfl) : SG X (.Tuple es k pos) (gT n gs) := by
  refine pg_imp (pg_tup hc h hn hst) ?_
  rintro v σ H Q ⟨S, d, m, p, e, k⟩
  cases d with
  | tup ds =>
    have e : (if ds.length = n then gsN gs ds else none) = some m := e
    by_cases z : ds.length = n
    · rw [if_pos z] at e
      obtain ⟨a, vs, rfl, h2, z2, q⟩ := (show Top X.K X.mg S H _ _ from .inl p).sqT
      exact ⟨a, vs, rfl, h2, by rw [q.len]; exact z, S, ds, m, q, e, k⟩
    · rw [if_neg z] at e
      cases e
  | _ => exact nomatch e
end
section
variable {K : PySem.W.Frag} {mg : Str → Option Value} {C : FC} {Z : Addr → Prop} {T : Tp} {H : Hp}
theorem Holds.setAll {l : List (Nat × V)} {m : List (Nat × D)} {S : Addr → Prop} (q : RepP K mg S H l m) : ∀ {r : Env} {σ : L2.St}, Holds K mg C Z r T σ H → (∀ a o, H a = some o → ¬ S a → ¬ SS C Z r σ a) → Holds K mg C Z (setE r m) T (setV σ l) H := by
  induction q with
  | nil => exact fun h _ => h
  | cons p t ih =>
    intro r σ h n
    refine ih (h.setVal (p.go (fun _ _ e _ => e) n)) fun a o e s z => n a o e s ?_
    rcases z with z | z | ⟨j, u, z1, z2⟩ | z
    · exact .inl z
    · exact .inr (.inl z)
    · rcases set_at z1 with ⟨_, q⟩ | ⟨ne, q⟩
      · cases q
      · rw [List.getElem?_set_ne (Ne.symm ne)] at z2
        exact .inr (.inr (.inl ⟨j, u, q, z2⟩))
    · exact .inr (.inr (.inr z))
end
/-! ## loops -/
def forD (g : DG) (w : DS) : List D → DS
  | [], r, T => .ok (.nx r, T)
  | d :: ds, r, T => (rO (g d)).bind fun m => (w (setE r m) T).bind fun p => match p.1 with
    | .nx r' => forD g w ds r' p.2
    | .ct r' => forD g w ds r' p.2
    | .bk r' => .ok (.nx r', p.2)
    | .rt v => .ok (.rt v, p.2)
def sFor (f : DI) (g : DG) (w : DS) : DS := fun r T => (f r T).bind fun p => forD g w p.1 r p.2
abbrev FC.pinned (C : FC) (pins : List (V × D)) : FC := { C with pin := pins ++ C.pin }
section
variable {K : PySem.W.Frag} {mg : Str → Option Value} {C : FC} {r : Env} {T : Tp} {σ : L2.St} {H : Hp} {pins : List (V × D)}
theorem Holds.pinUp (h : Holds K mg C Z0 r T σ H) (hp : ∀ p ∈ pins, Rep K mg (SS C Z0 r σ) H p.1 p.2) : Holds K mg (C.pinned pins) Z0 r T σ H :=
  ⟨h.len, h.frame, h.val, h.own, h.inj, h.tape, h.tslot, h.st, h.zt, fun p z => by
    rcases List.mem_append.mp z with z | z
    · exact hp p z
    · exact h.pin p z, h.tree⟩
theorem Holds.pinDown (h : Holds K mg (C.pinned pins) Z0 r T σ H) : Holds K mg C Z0 r T σ H :=
  ⟨h.len, h.frame, h.val, h.own, h.inj, h.tape, h.tslot, h.st, h.zt, fun p z => h.pin p (List.mem_append_right _ z), h.tree⟩
theorem HoldsY.pinDown (h : HoldsY K mg (C.pinned pins) r T σ H) : HoldsY K mg C r T σ H := by
  obtain ⟨Y, h, hY⟩ := h
  exact ⟨Y, Holds.pinDown (C := C.plus Y) (pins := pins) h, hY⟩
theorem postS_pin {B : Type} {G G2 : B → Prop} {x : Rs B} (h : PostS K mg C G x) (i : ∀ b, G b → G2 b) : PostS K mg (C.pinned pins) G2 x := by
  cases x with
  | ok b => exact i b h
  | exc c fs t r => exact fun σ cls d H' Y hY a b => h σ cls d H' Y hY (Holds.pinDown (C := C.plus Y) (pins := pins) a) b
  | stuck => exact h
end
theorem for_core {X : Cx} {C : FC} {Y : Addr → Prop} {g : DG} {w : DS} {E : Ends} {ρ : Env} {T1 : Tp} {σ : L2.St} {H : Hp} {ds : List D} (hY : ∀ p, Y p → ¬ C.S0 p) (P : PostS X.K X.mg C (GS X.K X.mg C E) (forD g w ds ρ T1)) : GIA X.K X.mg (C.plus Y) ρ σ H (fun J H1 => ∃ W : Nat → Nat → L2.St → Hp → Prop, (∃ m, W 0 m σ H1) ∧ ∀ i m σ H, W i m σ H →
  (J.stop i H ∧ E.nx σ H) ∨ (J.go i H ∧ ∃ N : L2.St → Hp → Prop, (∀ σ' H', N σ' H' → ∃ m', m' < m ∧ W (i + 1) m' σ' H') ∧ ∀ x H', J.yld i H x H' → tG X.K X.mg g x σ H' fun σ2 H2 => (∃ pins, tS X.K X.mg (C.pinned pins) w { E with nx := N, ct := N, bk := E.nx } σ2 H2))) (ds, T1) := by
  intro J pins H1 h1 e1 hpin ok
  refine ⟨fun i m σ H => ∃ r T, HoldsY X.K X.mg (C.pinned pins) r T σ H ∧ i ≤ ds.length ∧ m = ds.length - i ∧ PostS X.K X.mg C (GS X.K X.mg C E) (forD g w (ds.drop i) r T), ⟨_, ρ, T1, ⟨Y, h1.pinUp hpin, hY⟩, Nat.zero_le _, rfl, P⟩, ?_⟩
  rintro i m σ2 H2 ⟨r2, T2, ⟨Y2, h2, hY2⟩, hi, rfl, P2⟩
  obtain ⟨ok1, ok2⟩ := ok.2 _ H2 h2.trk h2.frame (fun p z => .inl (h2.pin p (List.mem_append_left _ z))) i
  by_cases hlt : i < ds.length
  · refine .inr ?_
    have ed : ds[i]? = some ds[i] := List.getElem?_eq_getElem hlt
    obtain ⟨go, yl⟩ := ok1 _ ed
    rw [List.drop_eq_getElem_cons hlt] at P2
    have P2 : PostS X.K X.mg C (GS X.K X.mg C E) ((rO (g ds[i])).bind fun m => (w (setE r2 m) T2).bind fun p => match p.1 with
      | .nx r' => forD g w (ds.drop (i + 1)) r' p.2
      | .ct r' => forD g w (ds.drop (i + 1)) r' p.2
      | .bk r' => .ok (.nx r', p.2)
      | .rt v => .ok (.rt v, p.2)) := P2
    refine ⟨go, fun σ' H' => ∃ r T, HoldsY X.K X.mg (C.pinned pins) r T σ' H' ∧ PostS X.K X.mg C (GS X.K X.mg C E) (forD g w (ds.drop (i + 1)) r T), fun σ' H' ⟨r, T, h', P'⟩ => ⟨ds.length - (i + 1), by omega, r, T, h', hlt, rfl, P'⟩, fun x H3 y => ?_⟩
    obtain ⟨s3, p3⟩ := yl x H3 y
    have h3 := h2.more s3
    cases q : g ds[i] with
    | none => rw [q] at P2; exact P2.elim
    | some mm =>
      rw [q] at P2
      refine ⟨_, ds[i], mm, p3, q, fun l hl => ⟨pins, setE r2 mm, T2, ⟨Y2, h3.setAll hl fun _ _ _ s => s, hY2⟩, ?_⟩⟩
      refine postS_pin (PostS.bind P2) fun p P3 => ?_
      obtain ⟨fl, T3⟩ := p
      cases fl with
      | nx r' => exact fun σ' H' h' => ⟨r', T3, h', P3⟩
      | ct r' => exact fun σ' H' h' => ⟨r', T3, h', P3⟩
      | bk r' => exact fun σ' H' h' => P3 σ' H' h'.pinDown
      | rt v => exact P3
  · have e : i = ds.length := by omega
    subst e
    rw [List.drop_length] at P2
    exact .inl ⟨ok2 (Nat.le_refl _), P2 σ2 H2 (HoldsY.pinDown (pins := pins) ⟨Y2, h2, hY2⟩)⟩
theorem ss_for {X : Cx} {C : FC} {tg iter : Expr} {body : List Stmt} {f : DI} {g : DG} {w : DS} {pos : Pos} (hp : PassesOwn (model X.prog X.w) X.A X.env X.xe) (hc : X.calm = true) (hi : ∀ Y, SI X (C.plus Y) tg iter f) (hg : SG X tg g) (hb : ∀ pins, SSs X (C.pinned pins) body w)
    (hs : ∀ x, foldedSetIterable iter X.env x = pure x := by intro _; rfl) : SSt X C (.For tg iter body [] pos) (sFor f g w) := by
  have hb' : PSs X body (fun E σ H => ∃ pins, tS X.K X.mg (C.pinned pins) w E σ H) := ⟨fun ps s σ H E I ⟨pins, q⟩ => (hb pins).run ps s σ H E I q⟩
  refine ps_imp (ps_for hp hc (pi_ex hi) hg hb' hs) ?_
  rintro E σ H ⟨ρ, T, ⟨Y, h, hY⟩, P⟩
  refine ⟨Y, ρ, T, h, (PostS.at hY P.bind).imp fun q P => ?_⟩
  obtain ⟨ds, T1⟩ := q
  exact (for_core (H := H) hY P).gi
/-! ## comprehensions -/
/-- the block's own slots forgotten; what is owned is not -/
def wipeE (r : Env) : List Nat → Option Env
  | [] => some r
  | v :: vs => (wipeE r vs).bind fun r' => match r'[v]? with
    | some (some (.own _)) => none
    | some (some .tape) => none
    | some (some (.tree _ _)) => none
    | _ => some (r'.set v none)
/-- no exception leaves a comprehension -/
def noX {A : Type} : Rs A → Rs A
  | .ok a => .ok a
  | _ => .stuck
@[simp] theorem noX_ok {A : Type} (a : A) : noX (.ok a) = .ok a := rfl
def lcD (g : DG) (c : DT) (f : DE) : List D → Env → Tp → Rs (List D × Tp)
  | [], _, T => .ok ([], T)
  | d :: ds, r, T => (rO (g d)).bind fun m => (noX (c (setE r m) T)).bind fun b => if b.1 = true then (noX (dv (f (setE r m) b.2))).bind fun v => (lcD g c f ds r v.2).bind fun q => .ok (v.1 :: q.1, q.2) else lcD g c f ds r b.2
def eLc (vs : List Nat) (fi : DI) (g : DG) (c : DT) (f : DE) : DE := fun r T => (fi r T).bind fun p => (rO (wipeE r vs)).bind fun r0 => (lcD g c f p.1 r0 p.2).bind fun q => .ok (.own (.lst q.1), q.2)
def xYes : DT := fun _ T => .ok (true, T)
/-- the frame of a block, the new list at L -/
abbrev FC.blk (C : FC) (L : Addr) : FC := { C with S0 := fun a => C.S0 a ∨ a = L, W := fun _ _ _ _ => False, Y := fun a => C.Y a ∧ a ≠ L }
abbrev STs (X : Cx) (C : FC) (ifs : List Expr) (f : DT) : Prop := PTs X ifs (tT X.K X.mg C f)
theorem sts_nil {X : Cx} {C : FC} : STs X C [] xYes := ⟨fun pins s σ H Q I ⟨ρ, T, h, P⟩ => (pts_nil (X := X)).run pins s σ H Q I (P H h Ext.refl)⟩
theorem sts_one {X : Cx} {C : FC} {e : Expr} {f : DT} (h : ST X C e f) : STs X C [e] f := pts_one h
theorem wipeE_get : ∀ {vs : List Nat} {r r' : Env}, wipeE r vs = some r' → r'.length = r.length ∧ (∀ (i : Nat) (w : VD), r'[i]? = some (some w) → r[i]? = some (some w) ∧ i ∉ vs) ∧ (∀ (i : Nat) (d : D), r[i]? = some (some (.own d)) → r'[i]? = some (some (.own d))) ∧ ∀ i : Nat, r[i]? = some (some .tape) → r'[i]? = some (some .tape)
  | [], r, r', h => by
    cases h
    exact ⟨rfl, fun i w e => ⟨e, by simp⟩, fun i d e => e, fun i e => e⟩
  | v :: vs, r, r', h => by
    unfold wipeE at h
    cases q : wipeE r vs with
    | none => rw [q] at h; cases h
    | some r1 =>
      rw [q] at h
      obtain ⟨h1, h2, h3, h4⟩ := wipeE_get q
      have key : r' = r1.set v none ∧ (∀ d, r1[v]? ≠ some (some (.own d))) ∧ r1[v]? ≠ some (some .tape) := by
        have h : (match r1[v]? with
          | some (some (.own _)) => none
          | some (some .tape) => none
          | some (some (.tree _ _)) => none
          | _ => some (r1.set v none)) = some r' := h
        split at h
        · cases h
        · cases h
        · cases h
        · rename_i n1 n2 n3
          cases h
          exact ⟨rfl, fun d e => n1 d e, fun e => n2 e⟩
      obtain ⟨rfl, k1, k2⟩ := key
      refine ⟨by rw [List.length_set, h1], fun i w e => ?_, fun i d e => ?_, fun i e => ?_⟩
      · rcases set_at e with ⟨_, q⟩ | ⟨ne, q⟩
        · cases q
        · obtain ⟨a, b⟩ := h2 i w q
          exact ⟨a, by simp only [List.mem_cons, not_or]; exact ⟨ne, b⟩⟩
      · have e1 := h3 i d e
        by_cases z : v = i
        · subst z
          exact absurd e1 (k1 d)
        · rw [List.getElem?_set_ne z]
          exact e1
      · have e1 := h4 i e
        by_cases z : v = i
        · subst z
          exact absurd e1 k2
        · rw [List.getElem?_set_ne z]
          exact e1
theorem wipe_set {σ : L2.St} {i : Nat} {x : Option V} : ∀ {vs : List Nat}, i ∈ vs → wipe (σ.set i x) vs = wipe σ vs
  | v :: vs, h => by
    unfold wipe
    by_cases e : i ∈ vs
    · rw [wipe_set e]
    · have e2 : i = v := by
        rcases List.mem_cons.mp h with z | z
        · exact z
        · exact absurd z e
      subst e2
      have comm : ∀ (ws : List Nat), i ∉ ws → wipe (σ.set i x) ws = (wipe σ ws).set i x := by
        intro ws
        induction ws with
        | nil => exact fun _ => rfl
        | cons w ws ih =>
          intro hw
          simp only [List.mem_cons, not_or] at hw
          unfold wipe
          rw [ih hw.2, List.set_comm _ _ hw.1]
      rw [comm vs e, List.set_set]
theorem wipe_wipe (σ : L2.St) : ∀ (ws vs : List Nat), (∀ i ∈ ws, i ∈ vs) → wipe (wipe σ ws) vs = wipe σ vs
  | [], vs, _ => rfl
  | w :: ws, vs, h => by
    show wipe ((wipe σ ws).set w none) vs = wipe σ vs
    rw [wipe_set (h w List.mem_cons_self), wipe_wipe σ ws vs fun i z => h i (List.mem_cons_of_mem _ z)]
theorem wipe_setV {vs : List Nat} : ∀ (l : List (Nat × V)) (σ : L2.St), (∀ p ∈ l, p.1 ∈ vs) → wipe (setV σ l) vs = wipe σ vs
  | [], σ, _ => rfl
  | p :: l, σ, h => by
    show wipe (setV (σ.set p.1 (some p.2)) l) vs = _
    rw [wipe_setV l _ fun q z => h q (List.mem_cons_of_mem _ z), wipe_set (h p List.mem_cons_self)]
/-- the slots that a target sets -/
def Within (g : DG) (vs : List Nat) : Prop := ∀ d m, g d = some m → ∀ p ∈ m, p.1 ∈ vs
def Withins (gs : List DG) (vs : List Nat) : Prop := ∀ ds m, gsN gs ds = some m → ∀ p ∈ m, p.1 ∈ vs
theorem within_name {i : Nat} {vs : List Nat} (h : i ∈ vs) : Within (gN i) vs := fun d m e p hp => by
  cases e
  rw [List.mem_singleton.mp hp]
  exact h
theorem withins_nil {vs : List Nat} : Withins [] vs := fun ds m e p hp => by
  cases ds with
  | nil =>
    cases e
    cases hp
  | cons d ds => exact nomatch e
theorem withins_cons {g : DG} {gs : List DG} {vs : List Nat} (h1 : Within g vs) (h2 : Withins gs vs) : Withins (g :: gs) vs := fun ds m e p hp => by
  cases ds with
  | nil => exact nomatch e
  | cons d ds =>
    have e : ((g d).bind fun l => (gsN gs ds).bind fun l2 => some (l ++ l2)) = some m := e
    cases q1 : g d with
    | none => rw [q1] at e; cases e
    | some m1 =>
      rw [q1] at e
      have e : ((gsN gs ds).bind fun l2 => some (m1 ++ l2)) = some m := e
      cases q2 : gsN gs ds with
      | none => rw [q2] at e; cases e
      | some m2 =>
        rw [q2] at e
        cases e
        rcases List.mem_append.mp hp with z | z
        · exact h1 d m1 q1 p z
        · exact h2 ds m2 q2 p z
theorem within_tup {n : Nat} {gs : List DG} {vs : List Nat} (h : Withins gs vs) : Within (gT n gs) vs := fun d m e p hp => by
  cases d with
  | tup ds =>
    have e : (if ds.length = n then gsN gs ds else none) = some m := e
    by_cases z : ds.length = n
    · rw [if_pos z] at e
      exact h ds m e p hp
    · rw [if_neg z] at e
      cases e
  | _ => exact nomatch e
theorem RepP.idx {K : PySem.W.Frag} {mg : Str → Option Value} {S : Addr → Prop} {H : Hp} {l : List (Nat × V)} {m : List (Nat × D)} (h : RepP K mg S H l m) : ∀ p ∈ l, ∃ q ∈ m, q.1 = p.1 := by
  induction h with
  | nil => intro p z; cases z
  | cons r t ih =>
    intro p z
    rcases List.mem_cons.mp z with z | z
    · exact ⟨_, List.mem_cons_self, by rw [z]⟩
    · obtain ⟨q, h1, h2⟩ := ih p z
      exact ⟨q, List.mem_cons_of_mem _ h1, h2⟩
section
variable {K : PySem.W.Frag} {mg : Str → Option Value} {C : FC} {r r0 : Env} {T : Tp} {σ : L2.St} {H : Hp} {vs : List Nat} {L : Addr}
/-- the same is excluded -/
theorem ss_blk (h : Holds K mg C Z0 r T σ H) (hw : wipeE r vs = some r0) (a : Addr) : SS (C.blk L) Z0 r0 (wipe σ vs) a ↔ SS C (fun a => a = L) r σ a := by
  obtain ⟨w1, w2, w3, w4⟩ := wipeE_get hw
  constructor
  · rintro ((z | z) | z | ⟨i, d, z1, z2⟩ | z)
    · exact .inl z
    · exact .inr (.inr (.inr z))
    · exact .inr (.inl z)
    · obtain ⟨a1, a2⟩ := w2 i _ z1
      rw [wipe_out a2] at z2
      exact .inr (.inr (.inl ⟨i, d, a1, z2⟩))
    · exact z.elim
  · rintro (z | z | ⟨i, d, z1, z2⟩ | z)
    · exact .inl (.inl z)
    · exact .inr (.inl z)
    · have q := w3 i d z1
      obtain ⟨_, a2⟩ := w2 i _ q
      refine .inr (.inr (.inl ⟨i, d, q, ?_⟩))
      rw [wipe_out a2]
      exact z2
    · exact .inl (.inr z)
theorem Holds.toBlk (h : Holds K mg C Z0 r T σ H) (hw : wipeE r vs = some r0) (hL : H L = none) : Holds K mg (C.blk L) Z0 r0 T (wipe σ vs) (upd H L (.lst [])) := by
  obtain ⟨w1, w2, w3, w4⟩ := wipeE_get hw
  have s : Same H (upd H L (.lst [])) := same_new hL
  have k : ∀ a o, H a = some o → ¬ SS C Z0 r σ a → upd H L (.lst []) a = some o := fun a o e _ => s a o e
  have n : ∀ a o, H a = some o → ¬ SS C Z0 r σ a → ¬ SS (C.blk L) Z0 r0 (wipe σ vs) a := fun a o e q z => by
    rcases (ss_blk h hw a).mp z with z | z | z | z
    · exact q (.inl z)
    · exact q (.inr (.inl z))
    · exact q (.inr (.inr (.inl z)))
    · rw [z, hL] at e
      cases e
  refine ⟨by rw [w1, wipe_length, h.len], h.frame.trans (.same s), fun i d q => ?_, fun i d q => ?_, fun i j p d e q1 q2 q3 q4 => ?_, ?_, fun i q => ?_, fun p z => ?_, fun _ z => z.elim, fun p z => (h.pin p z).go k n, h.tree.mk' k n (fun p _ _ _ o e => s p o e) (fun i s d q => (fun ⟨a1, a2⟩ => ⟨a1, by rw [wipe_out a2]⟩) (w2 i _ q)) fun p a b c => ⟨⟨.inl a.1, a.2, fun z => by
    obtain ⟨o, e, _⟩ := h.st p a.1
    rw [z, hL] at e
    cases e⟩, b, c⟩⟩
  · obtain ⟨a1, a2⟩ := w2 i _ q
    obtain ⟨v, e1, p⟩ := h.val i d a1
    exact ⟨v, by rw [wipe_out a2]; exact e1, p.go k n⟩
  · obtain ⟨a1, a2⟩ := w2 i _ q
    obtain ⟨p, e1, o, g1, g2, g3, g4⟩ := h.own i d a1
    refine ⟨p, by rw [wipe_out a2]; exact e1, o.go (fun o z => s _ o z) k n, g1, g2, fun z => z, fun z => ?_⟩
    rcases z with z | z
    · exact g4 z
    · obtain ⟨ob, eo, _⟩ := o.there
      rw [z, hL] at eo
      cases eo
  · obtain ⟨a1, a2⟩ := w2 i _ q1
    obtain ⟨b1, b2⟩ := w2 j _ q2
    rw [wipe_out a2] at q3
    rw [wipe_out b2] at q4
    exact h.inj i j p d e a1 b1 q3 q4
  · have t := h.tape
    unfold TapeOk at t ⊢
    show match C.tp with
      | none => T = none
      | some p => ∃ t, T = some t ∧ CelAt K mg (SS (C.blk L) Z0 r0 (wipe σ vs)) (upd H L (.lst [])) p t
    cases hc : C.tp with
    | none =>
      rw [hc] at t
      exact t
    | some u =>
      rw [hc] at t
      obtain ⟨t, e, o⟩ := t
      exact ⟨t, e, o.go (fun o q => s _ o q) k n⟩
  · obtain ⟨a1, a2⟩ := w2 i _ q
    obtain ⟨p, e1, e2⟩ := h.tslot i a1
    exact ⟨p, e1, by rw [wipe_out a2]; exact e2⟩
  · rcases z with z | z
    · obtain ⟨o, e, m⟩ := h.st p z
      exact ⟨o, s p o e, m⟩
    · rw [z]
      exact ⟨_, upd_same, trivial⟩
/-- the new list grows -/
theorem Holds.grow (h : Holds K mg (C.blk L) Z0 r T σ H) {xs ys : List V} (hL : H L = some (.lst xs)) (nL : C.H0 L = none) (nt : C.tp ≠ some L) (no : ∀ (i : Nat) (d : D), r[i]? = some (some (.own d)) → σ[i]? ≠ some (some (.ref L))) : Holds K mg (C.blk L) Z0 r T σ (upd H L (.lst ys)) := by
  have ex : SS (C.blk L) Z0 r σ L := .inl (.inr rfl)
  have k : ∀ a o, H a = some o → ¬ SS (C.blk L) Z0 r σ a → upd H L (.lst ys) a = some o := fun a o e q => by
    rw [upd_ne (fun z => q (by rw [z]; exact ex))]
    exact e
  have kn : ∀ a o, a ≠ L → H a = some o → upd H L (.lst ys) a = some o := fun a o z e => by
    rw [upd_ne z]
    exact e
  have ke : ∀ a o, H a = some o → Mut (some o) → ∃ o', upd H L (.lst ys) a = some o' ∧ Mut (some o') := fun a o e m => by
    by_cases z : a = L
    · rw [z]
      exact ⟨_, upd_same, trivial⟩
    · exact ⟨o, kn a o z e, m⟩
  refine ⟨h.len, fun a o e q => ?_, fun i d q => ?_, fun i d q => ?_, h.inj, ?_, h.tslot, fun p z => ?_, fun _ z => z.elim, fun p z => (h.pin p z).go k ss_same, h.tree.mk' k ss_same (fun p a _ _ o e => kn p o a.2.2 e) (fun _ _ _ e => ⟨e, rfl⟩) fun _ a b c => ⟨a, b, c⟩⟩
  · refine kn a o (fun z => ?_) (h.frame a o e q)
    have e : C.H0 a = some o := e
    rw [z, nL] at e
    cases e
  · obtain ⟨v, e1, p⟩ := h.val i d q
    exact ⟨v, e1, p.go k ss_same⟩
  · obtain ⟨p, e1, o, g⟩ := h.own i d q
    exact ⟨p, e1, o.go (fun u z => kn p u (fun z2 => no i d q (by rw [← z2]; exact e1)) z) k ss_same, g⟩
  · have t := h.tape
    unfold TapeOk at t ⊢
    cases hc : (C.blk L).tp with
    | none =>
      rw [hc] at t
      exact t
    | some u =>
      rw [hc] at t
      obtain ⟨t, e, o⟩ := t
      exact ⟨t, e, o.go (fun o q => kn u o (fun z => nt (by rw [← z]; exact hc)) q) k ss_same⟩
  · obtain ⟨o, e, m⟩ := h.st p z
    exact ke p o e m
end
theorem noX_ex {A B : Type} {K : PySem.W.Frag} {mg : Str → Option Value} {C : FC} {σ : L2.St} {G : B → Prop} {x : Rs A} {g : A → Rs B} (h : PostG K mg C σ G ((noX x).bind g)) : ∃ a, x = .ok a ∧ PostG K mg C σ G (g a) := by
  cases x with
  | ok b => exact ⟨b, rfl, h⟩
  | exc c fs t r => exact (show False from h).elim
  | stuck => exact (show False from h).elim
theorem gv_known {K : PySem.W.Frag} {mg : Str → Option Value} {C : FC} {r : Env} {T T' : Tp} {σ : L2.St} {H : Hp} {Q : VK} {x : Rs (VD × Tp)} {d : D} (h0 : Holds K mg C Z0 r T σ H) (e : dv x = .ok (d, T'))
    (k : ∀ v H', Holds K mg C Z0 r T' σ H' → Ext C H H' → Rep K mg (SS C Z0 r σ) H' v d → Q v H') : Post K mg C r σ H Q x := by
  cases x with
  | ok p =>
    obtain ⟨v, T⟩ := p
    cases v with
    | val d =>
      cases e
      exact fun v H' h1 e1 p => k v H' h1 e1 p
    | own d =>
      cases e
      exact fun p H' hp h1 e1 o => k (.ref p) H' h1.join e1 (o.frozen (h0.fresh hp) (fun a o e s z => s (ss_less a z)))
    | peek d => exact nomatch e
    | tape => exact nomatch e
    | tree s d => exact nomatch e
    | look d => exact nomatch e
  | exc c fs t r => exact nomatch e
  | stuck => exact nomatch e
theorem setE_get {i : Nat} : ∀ (m : List (Nat × D)) (r : Env), (∀ p ∈ m, p.1 ≠ i) → (setE r m)[i]? = r[i]?
  | [], _, _ => rfl
  | p :: m, r, h => by
    show (setE (r.set p.1 _) m)[i]? = _
    rw [setE_get m _ fun q z => h q (List.mem_cons_of_mem _ z), List.getElem?_set_ne (h p List.mem_cons_self)]
theorem setV_get {i : Nat} : ∀ (m : List (Nat × V)) (r : L2.St), (∀ p ∈ m, p.1 ≠ i) → (setV r m)[i]? = r[i]?
  | [], _, _ => rfl
  | p :: m, r, h => by
    show (setV (r.set p.1 _) m)[i]? = _
    rw [setV_get m _ fun q z => h q (List.mem_cons_of_mem _ z), List.getElem?_set_ne (h p List.mem_cons_self)]
section
variable {K : PySem.W.Frag} {mg : Str → Option Value} {C : FC} {r : Env} {T T' : Tp} {σ : L2.St} {H H' : Hp} {vs : List Nat}
/-- behind an element: the block's own slots are forgotten again -/
theorem Holds.unset (h : Holds K mg C Z0 r T σ H) {m : List (Nat × D)} {l : List (Nat × V)} (hr : ∀ (i : Nat) (w : VD), r[i]? = some (some w) → i ∉ vs) (hm : ∀ p ∈ m, p.1 ∈ vs) (hl : ∀ p ∈ l, p.1 ∈ vs)
    (e : Ext C H H') (h2 : Holds K mg C Z0 (setE r m) T' (setV σ l) H') : Holds K mg C Z0 r T' σ H' := by
  refine h.move e ss_same (fun _ _ _ _ _ z => z) (h2.tape.less fun a _ _ s z => s ?_) fun _ z => z.elim
  rcases z with z | z | ⟨i, d, z1, z2⟩ | z
  · exact .inl z
  · exact .inr (.inl z)
  · have hi := hr i _ z1
    refine .inr (.inr (.inl ⟨i, d, ?_, ?_⟩))
    · rw [setE_get m r fun p z q => hi (by rw [← q]; exact hm p z)]
      exact z1
    · rw [setV_get l σ fun p z q => hi (by rw [← q]; exact hl p z)]
      exact z2
  · exact z.elim
end
theorem lc_coreA {X : Cx} {C : FC} {own : List (Str × Nat)} {g : DG} {c : DT} {f : DE} (hw : Within g (own.map (·.2))) {ρ : Env} {T1 : Tp} {σ : L2.St} {H : Hp} {Q : VK} {ds : List D} (P : PostG X.K X.mg C σ (GV X.K X.mg C ρ σ H Q) ((rO (wipeE ρ (own.map (·.2)))).bind fun r0 => (lcD g c f ds r0 T1).bind fun q => .ok (.own (.lst q.1), q.2))) :
    GJA X.K X.mg C ρ σ H (fun J H1 => ∀ D, H1 D = none → ∃ W : Nat → Nat → Hp → Prop, (∃ m, W 0 m (L2.upd H1 D (.lst []))) ∧ ∀ i m H, W i m H →
  (J.stop i H ∧ Q (.ref D) H) ∨ (J.go i H ∧ ∃ Nx : Hp → Prop, (∀ H', Nx H' → ∃ m', m' < m ∧ W (i + 1) m' H') ∧ ∀ x H', J.yld i H x H' → tG X.K X.mg g x (wipe σ (own.map (·.2))) H' fun σ2 H2 => wipe σ2 (own.map (·.2)) = wipe σ (own.map (·.2)) ∧ (∃ L, tT X.K X.mg (C.blk L) c σ2 H2 fun b H3 =>
    if b = true then (∃ L, tE X.K X.mg (C.blk L) f σ2 H3 fun y H4 => ∃ acc, H4 D = some (.lst acc) ∧ acc.length < sizeLine ∧ Nx (L2.upd H4 D (.lst (acc ++ [y])))) else Nx H3))) (ds, T1) := by
  intro J pins H1 h1 e1 hpin ⟨hz, ok⟩
  have hz : ds.length ≤ 16777216 := by rw [← sizeLine_eq]; exact hz
  intro L hL
  cases hw0 : wipeE ρ (own.map (·.2)) with
  | none =>
    rw [hw0] at P
    exact P.elim
  | some r0 =>
    rw [hw0] at P
    have P : PostG X.K X.mg C σ (fun q => GV X.K X.mg C ρ σ H Q (.own (.lst q.1), q.2)) (lcD g c f ds r0 T1) := PostG.bind (x := lcD g c f ds r0 T1) P
    obtain ⟨w1, w2, w3, w4⟩ := wipeE_get hw0
    have hb0 := h1.toBlk hw0 hL
    have H0L : C.H0 L = none := back h1 h1.frame hL
    have ntL : C.tp ≠ some L := fun z => h1.fresh hL (.inr (.inl z))
    have noL : ∀ (i : Nat) (d : D), r0[i]? = some (some (.own d)) → (wipe σ (own.map (·.2)))[i]? ≠ some (some (.ref L)) := fun i d q z => by
      obtain ⟨p, e2, o, _⟩ := hb0.own i d q
      rw [z] at e2
      cases e2
      obtain ⟨a1, a2⟩ := w2 i _ q
      obtain ⟨p, e3, o3, _⟩ := h1.own i d a1
      rw [wipe_out a2, e3] at z
      cases z
      obtain ⟨u, eu, _⟩ := o3.there
      rw [hL] at eu
      cases eu
    have nn : ∀ a o, H1 a = some o → ¬ SS C Z0 ρ σ a → ¬ SS (C.blk L) Z0 r0 (wipe σ (own.map (·.2))) a := fun a o e q z => by
      rcases (ss_blk h1 hw0 a).mp z with z | z | z | z
      · exact q (.inl z)
      · exact q (.inr (.inl z))
      · exact q (.inr (.inr (.inl z)))
      · rw [z, hL] at e
        cases e
    refine ⟨fun i m H2 => ∃ (acc : List D) (accV : List V) (T2 : Tp), Holds X.K X.mg (C.blk L) Z0 r0 T2 (wipe σ (own.map (·.2))) H2 ∧ Ext C H1 H2 ∧ H2 L = some (.lst accV) ∧ accV.length ≤ i ∧ Reps X.K X.mg (SS (C.blk L) Z0 r0 (wipe σ (own.map (·.2)))) H2 accV acc ∧ i ≤ ds.length ∧ m = ds.length - i ∧
      PostG X.K X.mg C σ (fun q => GV X.K X.mg C ρ σ H Q (.own (.lst (acc ++ q.1)), q.2)) (lcD g c f (ds.drop i) r0 T2), ⟨_, [], [], T1, hb0, .same (same_new hL), upd_same, Nat.zero_le _, .nil, Nat.zero_le _, rfl, by simpa using P⟩, ?_⟩
    rintro i m H2 ⟨acc, accV, T2, h2, e2, hL2, hal, racc, hi, rfl, P2⟩
    have pinT : ∀ p ∈ pins, Top X.K X.mg (SS (C.blk L) Z0 r0 (wipe σ (own.map (·.2)))) H2 p.1 p.2 := fun p z => by
      rcases hpin p z with q | ⟨a, ea, nt, o⟩
      · exact .inl (q.go (fun a o x s => e2 a o x fun z => s (.inr (.inl z))) nn)
      · exact .inr ⟨a, ea, o.go (fun o x => e2 _ o x nt) (fun a o x s => e2 a o x fun z => s (.inr (.inl z))) nn⟩
    obtain ⟨ok1, ok2⟩ := ok _ H2 h2.trk e2 pinT i
    by_cases hlt : i < ds.length
    · refine .inr ?_
      have ed : ds[i]? = some ds[i] := List.getElem?_eq_getElem hlt
      obtain ⟨go, yl⟩ := ok1 _ ed
      rw [List.drop_eq_getElem_cons hlt] at P2
      have P2 : PostG X.K X.mg C σ (fun q => GV X.K X.mg C ρ σ H Q (.own (.lst (acc ++ q.1)), q.2)) ((rO (g ds[i])).bind fun m => (noX (c (setE r0 m) T2)).bind fun b => if b.1 = true then (noX (dv (f (setE r0 m) b.2))).bind fun v => (lcD g c f (ds.drop (i + 1)) r0 v.2).bind fun q => .ok (v.1 :: q.1, q.2) else lcD g c f (ds.drop (i + 1)) r0 b.2) := P2
      refine ⟨go, fun H' => ∃ (acc : List D) (accV : List V) (T2 : Tp), Holds X.K X.mg (C.blk L) Z0 r0 T2 (wipe σ (own.map (·.2))) H' ∧ Ext C H1 H' ∧ H' L = some (.lst accV) ∧ accV.length ≤ i + 1 ∧ Reps X.K X.mg (SS (C.blk L) Z0 r0 (wipe σ (own.map (·.2)))) H' accV acc ∧
        PostG X.K X.mg C σ (fun q => GV X.K X.mg C ρ σ H Q (.own (.lst (acc ++ q.1)), q.2)) (lcD g c f (ds.drop (i + 1)) r0 T2), fun H' ⟨acc, accV, T2, a1, a2, a3, a4, a5, a6⟩ => ⟨ds.length - (i + 1), by omega, acc, accV, T2, a1, a2, a3, a4, a5, hlt, rfl, a6⟩, fun x H3 y => ?_⟩
      obtain ⟨s3, p3⟩ := yl x H3 y
      have h3 := h2.more s3
      cases q : g ds[i] with
      | none => rw [q] at P2; exact P2.elim
      | some mm =>
        rw [q] at P2
        obtain ⟨⟨b, T3⟩, eb, P3⟩ := noX_ex P2
        have hmm := hw _ _ q
        refine ⟨_, ds[i], mm, p3, q, fun l hl => ?_⟩
        have hll : ∀ p ∈ l, p.1 ∈ own.map (·.2) := fun p z => by
          obtain ⟨u, u1, u2⟩ := hl.idx p z
          rw [← u2]
          exact hmm u u1
        refine ⟨by rw [wipe_setV l _ hll, wipe_wipe σ _ _ fun _ z => z], L, setE r0 mm, T2, Holds.setAll hl h3 fun _ _ _ s => s, ?_⟩
        rw [eb]
        intro H4 h4 e4
        have e4' : Ext C H3 H4 := e4
        have hb4 : Holds X.K X.mg (C.blk L) Z0 r0 T3 (wipe σ (own.map (·.2))) H4 := h3.unset (fun i w z => (w2 i w z).2) hmm hll e4 h4
        have e14 : Ext C H1 H4 := (e2.trans (.same s3)).trans e4'
        have hL4 : H4 L = some (.lst accV) := e4 L _ (s3 L _ hL2) ntL
        have r4 : Reps X.K X.mg (SS (C.blk L) Z0 r0 (wipe σ (own.map (·.2)))) H4 accV acc := racc.go (fun a o x s => e4 a o (s3 a o x) fun z => s (.inr (.inl z))) ss_same
        cases b with
        | false => exact ⟨acc, accV, T3, hb4, e14, hL4, by omega, r4, P3⟩
        | true =>
          obtain ⟨⟨v, T4⟩, ev, P4⟩ := noX_ex P3
          have P4 : PostG X.K X.mg C σ (fun q => GV X.K X.mg C ρ σ H Q (.own (.lst (acc ++ q.1)), q.2)) ((lcD g c f (ds.drop (i + 1)) r0 T4).bind fun q => .ok (v :: q.1, q.2)) := P4
          refine ⟨L, setE r0 mm, T3, h4, gv_known h4 ev fun y H5 h5 e5 p5 => ?_⟩
          have hb5 : Holds X.K X.mg (C.blk L) Z0 r0 T4 (wipe σ (own.map (·.2))) H5 := hb4.unset (fun i w z => (w2 i w z).2) hmm hll e5 h5
          have hL5 : H5 L = some (.lst accV) := e5 L _ hL4 ntL
          have r5 : Reps X.K X.mg (SS (C.blk L) Z0 r0 (wipe σ (own.map (·.2)))) H5 accV acc := r4.go (fun a o x s => e5 a o x fun z => s (.inr (.inl z))) ss_same
          have p5' : Rep X.K X.mg (SS (C.blk L) Z0 r0 (wipe σ (own.map (·.2)))) H5 y v := p5.go (fun _ _ e _ => e) fun a _ _ s z => s (by
            rcases z with z | z | ⟨j, d, z1, z2⟩ | z
            · exact .inl z
            · exact .inr (.inl z)
            · have hj := (w2 j _ z1).2
              refine .inr (.inr (.inl ⟨j, d, ?_, ?_⟩))
              · rw [setE_get mm r0 fun p z q => hj (by rw [← q]; exact hmm p z)]
                exact z1
              · rw [setV_get l _ fun p z q => hj (by rw [← q]; exact hll p z)]
                exact z2
            · exact z.elim)
          have kL : ∀ a o, H5 a = some o → ¬ SS (C.blk L) Z0 r0 (wipe σ (own.map (·.2))) a → upd H5 L (.lst (accV ++ [y])) a = some o := fun a o e s => by
            rw [upd_ne (fun z => s (.inl (.inr z)))]
            exact e
          refine ⟨accV, hL5, by rw [sizeLine_eq]; omega, acc ++ [v], accV ++ [y], T4, hb5.grow hL5 H0L ntL noL, fun a o x nt => ?_, upd_same, by rw [List.length_append, List.length_singleton]; omega, (r5.app (.cons p5' .nil)).go kL ss_same, ?_⟩
          · rw [upd_ne (fun z => by rw [z, hL] at x; cases x)]
            exact e5 a o (e14 a o x nt) nt
          · refine P4.bind.imp fun q P5 => ?_
            have P5 : GV X.K X.mg C ρ σ H Q (.own (.lst (acc ++ (v :: q.1))), q.2) := P5
            rw [List.append_assoc]
            exact P5
    · have e : i = ds.length := by omega
      subst e
      rw [List.drop_length] at P2
      refine .inl ⟨ok2 (Nat.le_refl _), ?_⟩
      have P3 : GV X.K X.mg C ρ σ H Q (.own (.lst (acc ++ [])), T2) := P2
      rw [List.append_nil] at P3
      have n2 : ∀ a o, H2 a = some o → ¬ SS (C.blk L) Z0 r0 (wipe σ (own.map (·.2))) a → ¬ SS C (fun a => a = L) ρ σ a := fun a _ _ s z => s ((ss_blk h1 hw0 a).mpr z)
      refine P3 L H2 (back h1 e1 hL) (h1.move e2 (fun a o e s z => ?_) (fun j p d z1 z2 z3 => ?_) (h2.tape.less n2) fun p z => by rw [z]; exact ⟨_, hL2, trivial⟩) (e1.trans e2) (.lst hL2 (by rw [sizeLine_eq]; omega) (racc.go (fun _ _ e _ => e) n2))
      · rcases z with z | z | z | z
        · exact s (.inl z)
        · exact s (.inr (.inl z))
        · exact s (.inr (.inr (.inl z)))
        · rw [z, hL] at e
          cases e
      · obtain ⟨p, e3, o3, _⟩ := h1.own j d z1
        rw [z2] at e3
        cases e3
        obtain ⟨u, eu, _⟩ := o3.there
        rw [z3, hL] at eu
        cases eu
theorem t_lc {X : Cx} {C : FC} {own : List (Str × Nat)} {fi : DI} {g : DG} {c : DT} {f : DE} (hw : Within g (own.map (·.2))) : ∀ (σ : L2.St) (H : Hp) (Q : VK), tE X.K X.mg C (eLc (own.map (·.2)) fi g c f) σ H Q →
    tLc (tJ X.K X.mg C fi) (tG X.K X.mg g) (fun σ H Q => ∃ L, tT X.K X.mg (C.blk L) c σ H Q) (fun σ H Q => ∃ L, tE X.K X.mg (C.blk L) f σ H Q) (own.map (·.2)) σ H Q := by
  rintro σ H Q ⟨ρ, T, h, P⟩
  refine ⟨ρ, T, h, P.bind.imp fun p P => ?_⟩
  obtain ⟨ds, T1⟩ := p
  exact (lc_coreA hw P).gj
theorem se_lc {X : Cx} {C : FC} {elt tg iter : Expr} {ifs : List Expr} {scope : Scope} {own : List (Str × Nat)} {pos : Pos} {fi : DI} {g : DG} {c : DT} {f : DE} (hc : X.calm = true) (hN : X.N.Nodup) (hi : SJ X C tg iter fi) (ok : BlkOk X.N X.env.scope scope own) (hw : Within g (own.map (·.2)))
    (hg : ∀ (s : Shared) (H : Hp) (Ca : Addr) (cl : List (Str × Addr)) (fp : List Addr), SG (X.blk s H scope (compEnvC scope cl Ca X.env) fp) tg g)
    (ht : ∀ (s : Shared) (H : Hp) (Ca : Addr) (cl : List (Str × Addr)) (fp : List Addr) (L : Addr), Takes (X.blk s H scope (compEnvC scope cl Ca X.env) fp) (C.blk L).W → STs (X.blk s H scope (compEnvC scope cl Ca X.env) fp) (C.blk L) ifs c)
    (he : ∀ (s : Shared) (H : Hp) (Ca : Addr) (cl : List (Str × Addr)) (fp : List Addr) (L : Addr), Takes (X.blk s H scope (compEnvC scope cl Ca X.env) fp) (C.blk L).W → SE (X.blk s H scope (compEnvC scope cl Ca X.env) fp) (C.blk L) elt f)
    (hs : ∀ x, foldedSetIterable iter X.env x = pure x := by intro _; rfl) : SE X C (.ListComp elt [⟨tg, iter, ifs, 0⟩] scope pos) (eLc (own.map (·.2)) fi g c f) := by
  exact pe_imp (pe_lc (g := tG X.K X.mg g) (tt := fun σ H Q => ∃ L, tT X.K X.mg (C.blk L) c σ H Q) (te := fun σ H Q => ∃ L, tE X.K X.mg (C.blk L) f σ H Q) hc hN hi ok hg
    (fun s H Ca cl fp => ⟨fun ps s2 σ H2 Q I ⟨L, q⟩ => (ht s H Ca cl fp L takes0).run ps s2 σ H2 Q I q⟩) (fun s H Ca cl fp => ⟨fun ps s2 σ H2 Q I ⟨L, q⟩ => (he s H Ca cl fp L takes0).run ps s2 σ H2 Q I q⟩) hs) (t_lc hw)
end Pu
namespace Pu
open PySem L2
/-! ## whole numbers -/
def dAddI : D → D → Rs VD
  | .int i, .int j => .ok (.val (.int (i + j)))
  | .tup a, .tup b => if a.length + b.length ≤ 16000000 then .ok (.val (.tup (a ++ b))) else .stuck
  | .lst a, .lst b => if a.length + b.length ≤ 16000000 then .ok (.own (.lst (a ++ b))) else .stuck
  | _, _ => .stuck
def dSub : D → D → Rs VD
  | .int i, .int j => .ok (.val (.int (i - j)))
  | _, _ => .stuck
/-- a product: one factor below 2 ^ 64 -/
def dMul : D → D → Rs VD
  | .int i, .int j => if (-(2 ^ 64) < i ∧ i < 2 ^ 64) ∨ (-(2 ^ 64) < j ∧ j < 2 ^ 64) then .ok (.val (.int (i * j))) else .stuck
  | _, _ => .stuck
def dDiv : D → D → Rs VD
  | .int i, .int j => if 0 < j ∧ j < 1073741824 then .ok (.val (.int (i / j))) else .stuck
  | _, _ => .stuck
def dMod : D → D → Rs VD
  | .int i, .int j => if 0 < j then .ok (.val (.int (i % j))) else .stuck
  | _, _ => .stuck
def dPow : D → D → Rs VD
  | .int i, .int j => if 0 ≤ j ∧ j ≤ 1000000 ∧ i.natAbs < 2 ^ 64 then .ok (.val (.int (i ^ j.toNat))) else .stuck
  | _, _ => .stuck
def dNeg : D → Rs VD
  | .int i => .ok (.val (.int (-i)))
  | _ => .stuck
section
variable {K : PySem.W.Frag} {mg : Str → Option Value}
theorem quiet_v {d : D} : Quiet (.ok (.val d)) := .inr (.inl ⟨d, rfl⟩)
theorem quiet_o {d : D} : Quiet (.ok (.own d)) := .inr (.inr ⟨d, rfl⟩)
theorem quiet_s : Quiet .stuck := .inl rfl
theorem quiet_if {p : Prop} [Decidable p] {x y : Rs VD} (h : Quiet x) (k : Quiet y) : Quiet (if p then x else y) := by
  by_cases c : p
  · rw [if_pos c]; exact h
  · rw [if_neg c]; exact k
theorem if_ok {p : Prop} [Decidable p] {x z : VD} (h : (if p then Rs.ok x else .stuck) = Rs.ok z) : p ∧ x = z := by
  by_cases c : p
  · rw [if_pos c] at h
    cases h
    exact ⟨c, rfl⟩
  · rw [if_neg c] at h
    cases h
def rAddU (K : PySem.W.Frag) : R2 := fun x y H Q => (rI0 fun i j => .int (i + j)) x y H Q ∨ rCatA K x y H Q ∨ rCat x y H Q
theorem op_addU {X : Cx} : OpR X (binaryOp .Add) (rAddU X.K) := op_add.or (op_catA.or op_cat)
theorem q_add : Quiet2 dAddI := fun d e => by
  unfold dAddI
  split <;> first | exact quiet_v | exact quiet_s | exact quiet_if quiet_v quiet_s | exact quiet_if quiet_o quiet_s
theorem d_add : R2D K mg (rAddU K) dAddI := fun S H x y dx dy Q z t p q e k => by
  unfold dAddI at e
  split at e
  · cases e
    exact .inl ⟨_, _, p.int, q.int, k.pure (.int _)⟩
  · rename_i a b
    obtain ⟨c, rfl⟩ := if_ok e
    obtain ⟨a1, vs, rfl, h1, z1, r1⟩ := p.sqT
    obtain ⟨b1, ws, rfl, h2, z2, r2⟩ := q.sqT
    refine .inr (.inl ?_)
    have l1 := r1.len
    have l2 := r2.len
    refine ⟨a1, b1, vs, ws, rfl, rfl, h1, h2, by rw [sizeLine_eq]; omega, ?_⟩
    refine ⟨fun e0 => ?_, fun _ e0 => ?_, fun _ _ p hp => k.newT t hp (by rw [List.length_append, sizeLine_eq]; omega) (r1.app r2)⟩
    · subst e0
      cases r1
      exact k.pure q.rep
    · subst e0
      cases r2
      rw [List.append_nil] at k
      exact k.pure p.rep
  · rename_i a b
    obtain ⟨c, rfl⟩ := if_ok e
    obtain ⟨a1, vs, rfl, h1, z1, r1⟩ := p.sqL
    obtain ⟨b1, ws, rfl, h2, z2, r2⟩ := q.sqL
    have l1 := r1.len
    have l2 := r2.len
    exact .inr (.inr ⟨a1, b1, vs, ws, rfl, rfl, h1, h2, by rw [sizeLine_eq]; omega, fun p hp => k.newL hp (by rw [List.length_append, sizeLine_eq]; omega) (r1.app r2)⟩)
  · cases e
theorem q_sub : Quiet2 dSub := fun d e => by
  unfold dSub
  split <;> first | exact quiet_v | exact quiet_s
theorem q_mul : Quiet2 dMul := fun d e => by
  unfold dMul
  split <;> first | exact quiet_if quiet_v quiet_s | exact quiet_s
theorem q_div : Quiet2 dDiv := fun d e => by
  unfold dDiv
  split <;> first | exact quiet_if quiet_v quiet_s | exact quiet_s
theorem q_mod : Quiet2 dMod := fun d e => by
  unfold dMod
  split <;> first | exact quiet_if quiet_v quiet_s | exact quiet_s
theorem q_pow : Quiet2 dPow := fun d e => by
  unfold dPow
  split <;> first | exact quiet_if quiet_v quiet_s | exact quiet_s
theorem d_sub : R2D K mg (rI0 fun i j => .int (i - j)) dSub := fun S H x y dx dy Q z t p q e k => by
  unfold dSub at e
  split at e <;> cases e
  exact ⟨_, _, p.int, q.int, k.pure (.int _)⟩
theorem d_mul : R2D K mg (rI CMul fun i j => .int (i * j)) dMul := fun S H x y dx dy Q z t p q e k => by
  unfold dMul at e
  split at e
  · obtain ⟨c, rfl⟩ := if_ok e
    exact ⟨_, _, p.int, q.int, c, k.pure (.int _)⟩
  · cases e
theorem d_div : R2D K mg (rI CDiv fun i j => .int (i / j)) dDiv := fun S H x y dx dy Q z t p q e k => by
  unfold dDiv at e
  split at e
  · obtain ⟨c, rfl⟩ := if_ok e
    exact ⟨_, _, p.int, q.int, c, k.pure (.int _)⟩
  · cases e
theorem d_mod : R2D K mg (rI (fun _ j => 0 < j) fun i j => .int (i % j)) dMod := fun S H x y dx dy Q z t p q e k => by
  unfold dMod at e
  split at e
  · obtain ⟨c, rfl⟩ := if_ok e
    exact ⟨_, _, p.int, q.int, c, k.pure (.int _)⟩
  · cases e
theorem d_pow : R2D K mg (rI CPow fun i j => .int (i ^ j.toNat)) dPow := fun S H x y dx dy Q z t p q e k => by
  unfold dPow at e
  split at e
  · obtain ⟨c, rfl⟩ := if_ok e
    exact ⟨_, _, p.int, q.int, c, k.pure (.int _)⟩
  · cases e
end
/-! ## plain data -/
mutual
def py : D → PyData
  | .non => .none
  | .bl b => .bool b
  | .int i => .int i
  | .str x => .str x
  | .tup ds => .tuple (pys ds)
  | .lst ds => .list (pys ds)
  | .dct _ _ => .dict []
  | .ins _ _ => .dict []
  | .scr _ => .dict []
  | .tpl ns => .tuple (ns.map PyData.int)
  | .ktp ds => .tuple (pys ds)
  | .exn _ _ => .dict []
  | .lrf _ => .dict []
  | .cel _ _ => .dict []
  | .dcn _ => .dict []
def pys : List D → List PyData
  | [] => []
  | d :: ds => py d :: pys ds
end
theorem pys_map : ∀ ds : List D, pys ds = ds.map py
  | [] => by rw [pys]; rfl
  | d :: ds => by rw [pys, pys_map ds]; rfl
/-- texts, whole numbers, bools, None, lists and tuples of such, so deep -/
def Pl : Nat → D → Prop
  | _, .non => True
  | _, .bl _ => True
  | _, .int _ => True
  | _, .str _ => True
  | n + 1, .tup ds => ∀ d ∈ ds, Pl n d
  | n + 1, .lst ds => ∀ d ∈ ds, Pl n d
  | _ + 1, .tpl _ => True
  | n + 1, .ktp ds => ∀ d ∈ ds, Pl n d
  | _, _ => False
@[simp] theorem pl_non (n : Nat) : Pl n .non = True := by cases n <;> rfl
@[simp] theorem pl_bl (n : Nat) (b : Bool) : Pl n (.bl b) = True := by cases n <;> rfl
@[simp] theorem pl_int (n : Nat) (i : Int) : Pl n (.int i) = True := by cases n <;> rfl
@[simp] theorem pl_str (n : Nat) (x : Str) : Pl n (.str x) = True := by cases n <;> rfl
@[simp] theorem pl_tup (n : Nat) (ds : List D) : Pl (n + 1) (.tup ds) = ∀ d ∈ ds, Pl n d := rfl
@[simp] theorem pl_tpl (n : Nat) (ns : List Int) : Pl (n + 1) (.tpl ns) = True := rfl
@[simp] theorem pl_ktp (n : Nat) (ds : List D) : Pl (n + 1) (.ktp ds) = ∀ d ∈ ds, Pl n d := rfl
@[simp] theorem pl_lst (n : Nat) (ds : List D) : Pl (n + 1) (.lst ds) = ∀ d ∈ ds, Pl n d := rfl
theorem plainAll_of {l : List PyData} (h : ∀ d ∈ l, d.plain = true) : PyData.plainAll l = true := by
  induction l with
  | nil => rw [PyData.plainAll]
  | cons d l ih =>
    rw [PyData.plainAll, h d List.mem_cons_self, ih fun e z => h e (List.mem_cons_of_mem _ z)]
    rfl
theorem depthAll_of {n : Nat} {l : List PyData} (h : ∀ d ∈ l, d.depth ≤ n) : PyData.depthAll l ≤ n := by
  induction l with
  | nil => rw [PyData.depthAll]; exact Nat.zero_le _
  | cons d l ih =>
    rw [PyData.depthAll]
    exact Nat.max_le.mpr ⟨h d List.mem_cons_self, ih fun e z => h e (List.mem_cons_of_mem _ z)⟩
theorem pl_py : ∀ (n : Nat) (d : D), Pl n d → (py d).plain = true ∧ (py d).depth ≤ n
  | n, .non, _ => by rw [py, PyData.plain, PyData.depth]; exact ⟨rfl, Nat.zero_le _⟩
  | n, .bl _, _ => by rw [py, PyData.plain, PyData.depth]; exact ⟨rfl, Nat.zero_le _⟩
  | n, .int _, _ => by rw [py, PyData.plain, PyData.depth]; exact ⟨rfl, Nat.zero_le _⟩
  | n, .str _, _ => by rw [py, PyData.plain, PyData.depth]; exact ⟨rfl, Nat.zero_le _⟩
  | 0, .tup _, h => h.elim
  | 0, .lst _, h => h.elim
  | n + 1, .tup ds, h => by
    have q := fun e (z : e ∈ ds) => pl_py n e (h e z)
    rw [py, PyData.plain, PyData.depth, pys_map]
    refine ⟨plainAll_of fun d z => ?_, ?_⟩
    · obtain ⟨e, z1, rfl⟩ := List.mem_map.mp z
      exact (q e z1).1
    · have := depthAll_of (n := n) (l := ds.map py) fun d z => by
        obtain ⟨e, z1, rfl⟩ := List.mem_map.mp z
        exact (q e z1).2
      omega
  | n + 1, .lst ds, h => by
    have q := fun e (z : e ∈ ds) => pl_py n e (h e z)
    rw [py, PyData.plain, PyData.depth, pys_map]
    refine ⟨plainAll_of fun d z => ?_, ?_⟩
    · obtain ⟨e, z1, rfl⟩ := List.mem_map.mp z
      exact (q e z1).1
    · have := depthAll_of (n := n) (l := ds.map py) fun d z => by
        obtain ⟨e, z1, rfl⟩ := List.mem_map.mp z
        exact (q e z1).2
      omega
  | 0, .ktp _, h => h.elim
  | n + 1, .ktp ds, h => by
    have q := fun e (z : e ∈ ds) => pl_py n e (h e z)
    rw [py, PyData.plain, PyData.depth, pys_map]
    refine ⟨plainAll_of fun d z => ?_, ?_⟩
    · obtain ⟨e, z1, rfl⟩ := List.mem_map.mp z
      exact (q e z1).1
    · have := depthAll_of (n := n) (l := ds.map py) fun d z => by
        obtain ⟨e, z1, rfl⟩ := List.mem_map.mp z
        exact (q e z1).2
      omega
  | n, .dct _ _, h => by cases n <;> exact h.elim
  | n, .ins _ _, h => by cases n <;> exact h.elim
  | n, .scr _, h => by cases n <;> exact h.elim
  | n, .exn _ _, h => by cases n <;> exact h.elim
  | n, .lrf _, h => by cases n <;> exact h.elim
  | n, .cel _ _, h => by cases n <;> exact h.elim
  | n, .dcn _, h => by cases n <;> exact h.elim
  | 0, .tpl _, h => h.elim
  | n + 1, .tpl ns, _ => by
    rw [py, PyData.plain, PyData.depth]
    refine ⟨plainAll_of fun d z => ?_, ?_⟩
    · obtain ⟨e, _, rfl⟩ := List.mem_map.mp z
      rw [PyData.plain]
    · have := depthAll_of (n := n) (l := ns.map PyData.int) fun d z => by
        obtain ⟨e, _, rfl⟩ := List.mem_map.mp z
        rw [PyData.depth]
        exact Nat.zero_le _
      omega
theorem readsInts {h : Heap} : ∀ {ns : List Int} {us : List Value}, Vals (ns.map V.int) us → ∃ as, PySem.ReadsAll h us (ns.map PyData.int) as
  | [], _, r => by cases r; exact ⟨_, .nil⟩
  | n :: ns, _, r => by
    cases r with
    | cons r1 r2 =>
      obtain ⟨t, rfl⟩ := r1
      obtain ⟨as, hr⟩ := readsInts r2
      exact ⟨_, .cons (.int n t) hr⟩
section
variable {X : Cx} {ps : List (Addr × Obj)} {σ : L2.St} {H : Hp} {s : Shared} {mg : Str → Option Value} {S : Addr → Prop}
mutual
theorem Rep.reads (I : Inv X ps σ H s) : ∀ {v : V} {d : D} (n : Nat) (u : Value), Rep X.K mg S H v d → Pl n d → RelV v u → ∃ as, PySem.Reads s.heap u (py d) as
  | _, _, _, _, .non, _, r => by cases r; rw [py]; exact ⟨_, .none⟩
  | _, _, _, _, .bl b, _, r => by cases r; rw [py]; exact ⟨_, .bool b⟩
  | _, _, _, _, .int i, _, r => by obtain ⟨t, rfl⟩ := r; rw [py]; exact ⟨_, .int i t⟩
  | _, _, _, _, .str x, _, r => by obtain ⟨t, rfl⟩ := r; rw [py]; exact ⟨_, .str x t⟩
  | _, _, 0, _, .tup _ _ _ _, h, _ => h.elim
  | _, _, 0, _, .lst _ _ _ _, h, _ => h.elim
  | _, _, n + 1, _, .tup _ e _ q, h, r => by
    cases r
    obtain ⟨its, rv, ⟨o, ho, hc, k, hd⟩, _⟩ := I.tuple (.of e)
    obtain ⟨as, hr⟩ := Reps.reads I n _ q h rv
    rw [py]
    exact ⟨_, .tuple ho hc hd hr⟩
  | _, _, n + 1, _, .lst _ e _ q, h, r => by
    cases r
    obtain ⟨its, rv, ⟨o, k, ho, hc, _, hd⟩, _⟩ := I.list (.of e)
    obtain ⟨as, hr⟩ := Reps.reads I n _ q h rv
    rw [py]
    exact ⟨_, .list ho hc hd hr⟩
  | _, _, n, _, .dK _ _ _ _ _, h, _ => by cases n <;> exact h.elim
  | _, _, n, _, .dT _ _ _ _ _, h, _ => by cases n <;> exact h.elim
  | _, _, n, _, .dKz _ _ _ _ _, h, _ => by cases n <;> exact h.elim
  | _, _, n, _, .dTz _ _ _ _ _, h, _ => by cases n <;> exact h.elim
  | _, _, n, _, .ins _ _ _ _ _, h, _ => by cases n <;> exact h.elim
  | _, _, n, _, .scr _ _ _ _, h, _ => by cases n <;> exact h.elim
  | _, _, n, _, .scrK _ _, h, _ => by cases n <;> exact h.elim
  | _, _, n, _, .exn0, h, _ => by cases n <;> exact h.elim
  | _, _, n, _, .lrf _, h, _ => by cases n <;> exact h.elim
  | _, _, n, _, .dcn _ _ _ _ _ _, h, _ => by cases n <;> exact h.elim
  | _, _, n, _, .exn _ _ _ _, h, _ => by cases n <;> exact h.elim
  | _, _, 0, _, .ktp _ _ _ _ _ _, h, _ => h.elim
  | _, _, n + 1, _, .ktp _ e _ _ _ q, h, r => by
    cases r
    obtain ⟨its, rv, ⟨o, ho, hc, k, hd⟩, _⟩ := I.tuple (.inl (.inr ⟨_, e⟩))
    obtain ⟨as, hr⟩ := Reps.reads I n _ q h rv
    rw [py]
    exact ⟨_, .tuple ho hc hd hr⟩
  | _, _, 0, _, .tpl _ _ _ _ _, h, _ => h.elim
  | _, _, n + 1, _, .tpl _ e _ _ _, _, r => by
    cases r
    obtain ⟨its, rv, ⟨o, ho, hc, k, hd⟩, _⟩ := I.tuple (.inl (.inr ⟨_, e⟩))
    obtain ⟨as, hr⟩ := readsInts rv
    rw [py]
    exact ⟨_, .tuple ho hc hd hr⟩
theorem Reps.reads (I : Inv X ps σ H s) : ∀ {vs : List V} {ds : List D} (n : Nat) (us : List Value), Reps X.K mg S H vs ds → (∀ d ∈ ds, Pl n d) → Vals vs us → ∃ as, PySem.ReadsAll s.heap us (pys ds) as
  | _, _, _, _, .nil, _, r => by cases r; rw [pys]; exact ⟨_, .nil⟩
  | _, _, n, _, .cons p t, h, r => by
    cases r with
    | cons r1 r2 =>
      obtain ⟨as, h1⟩ := Rep.reads I n _ p (h _ List.mem_cons_self) r1
      obtain ⟨bs, h2⟩ := Reps.reads I n _ t (fun d z => h d (List.mem_cons_of_mem _ z)) r2
      rw [pys]
      exact ⟨_, .cons h1 h2⟩
end
theorem Top.reads (I : Inv X ps σ H s) {v : V} {d : D} (n : Nat) {u : Value} (h : Top X.K mg S H v d) (pl : Pl n d) (r : RelV v u) : ∃ as, PySem.Reads s.heap u (py d) as := by
  rcases h with h | ⟨p, rfl, h⟩
  · exact h.reads I n u pl r
  · cases h with
    | lst e z q =>
      cases n with
      | zero => exact pl.elim
      | succ n =>
        cases r
        obtain ⟨its, rv, ⟨o, k, ho, hc, _, hd⟩, _⟩ := I.list (.of e)
        obtain ⟨as, hr⟩ := Reps.reads I n _ q pl rv
        rw [py]
        exact ⟨_, .list ho hc hd hr⟩
    | dK e z g q => cases n <;> exact pl.elim
    | dT e z g q => cases n <;> exact pl.elim
    | ins e m g q => cases n <;> exact pl.elim
    | dcn e z g q q2 => cases n <;> exact pl.elim
end
end Pu
namespace Pu
open PySem L2
open Classical
/-! ## comparisons of plain data -/
def rPl (K : PySem.W.Frag) (mg : Str → Option Value) (c : D → D → Prop) (f : D → D → Bool) : R2 := fun x y H Q => ∃ (S : Addr → Prop) (d e : D), Top K mg S H x d ∧ Top K mg S H y e ∧ Pl 40 d ∧ Pl 40 e ∧ c d e ∧ Q (.bl (f d e)) H
noncomputable def dPl (c : D → D → Prop) (f : D → D → Bool) : D → D → Rs VD := fun d e => if Pl 40 d ∧ Pl 40 e ∧ c d e then .ok (.val (.bl (f d e))) else .stuck
theorem q_pl {c : D → D → Prop} {f : D → D → Bool} : Quiet2 (dPl c f) := fun _ _ => quiet_if quiet_v quiet_s
theorem d_pl {K : PySem.W.Frag} {mg : Str → Option Value} {c : D → D → Prop} {f : D → D → Bool} : R2D K mg (rPl K mg c f) (dPl c f) := fun S H x y dx dy Q z t p q e k => by
  obtain ⟨⟨h1, h2, h3⟩, rfl⟩ := if_ok e
  exact ⟨S, dx, dy, p, q, h1, h2, h3, k.pure (.bl _)⟩
/-- the two can be ordered -/
def Ord2 (d e : D) : Prop := W.alike (py d) (py e) = true ∧ py d ≠ .none
noncomputable def dEq : D → D → Rs VD := dPl (fun _ _ => True) fun d e => PyData.eqv (py d) (py e)
noncomputable def dNe : D → D → Rs VD := dPl (fun _ _ => True) fun d e => !PyData.eqv (py d) (py e)
noncomputable def dLt : D → D → Rs VD := dPl Ord2 fun d e => W.dataLt (py d) (py e)
noncomputable def dGt : D → D → Rs VD := dPl Ord2 fun d e => W.dataLt (py e) (py d)
noncomputable def dLe : D → D → Rs VD := dPl Ord2 fun d e => !W.dataLt (py e) (py d)
noncomputable def dGe : D → D → Rs VD := dPl Ord2 fun d e => !W.dataLt (py d) (py e)
def isSeq (e : D) : Prop := (∃ ds, e = .lst ds) ∨ (∃ ds, e = .tup ds) ∨ (∃ ns, e = .tpl ns) ∨ ∃ ds, e = .ktp ds
def itemsD : D → List D
  | .lst ds => ds
  | .tup ds => ds
  | .tpl ns => ns.map D.int
  | .ktp ds => ds
  | _ => []
noncomputable def dInS : D → D → Rs VD := dPl (fun _ e => isSeq e) fun d e => (itemsD e).any fun y => PyData.eqv (py y) (py d)
noncomputable def dNinS : D → D → Rs VD := dPl (fun _ e => isSeq e) fun d e => !(itemsD e).any fun y => PyData.eqv (py y) (py d)
section
variable {X : Cx}
theorem room40 {n m u : Nat} (hu : u + 64 < cLine) (h1 : n ≤ 40) : u + min n m < cLine := Nat.lt_of_le_of_lt (Nat.add_le_add_left (Nat.le_trans (Nat.min_le_left _ _) (Nat.le_trans h1 (by decide))) u) hu
theorem op_eqP (hu : X.A.units + 64 < cLine) : OpR X (compareOp .Eq) (rPl X.K X.mg (fun _ _ => True) fun d e => PyData.eqv (py d) (py e)) := by
  rintro ps s σ H x y v u Q I rx ry ⟨S, d, e, p, q, h1, h2, _, k⟩
  obtain ⟨as, r1⟩ := p.reads I 40 h1 rx
  obtain ⟨bs, r2⟩ := q.reads I 40 h2 ry
  exact SeqAt.eq_plain r1 r2 (pl_py 40 d h1).1 (pl_py 40 e h2).1 (room40 hu (pl_py 40 d h1).2) ⟨.bl _, H, I, rfl, k⟩
theorem op_neP (hu : X.A.units + 64 < cLine) : OpR X (compareOp .NotEq) (rPl X.K X.mg (fun _ _ => True) fun d e => !PyData.eqv (py d) (py e)) := by
  rintro ps s σ H x y v u Q I rx ry ⟨S, d, e, p, q, h1, h2, _, k⟩
  obtain ⟨as, r1⟩ := p.reads I 40 h1 rx
  obtain ⟨bs, r2⟩ := q.reads I 40 h2 ry
  exact SeqAt.ne_plain r1 r2 (pl_py 40 d h1).1 (pl_py 40 e h2).1 (room40 hu (pl_py 40 d h1).2) ⟨.bl _, H, I, rfl, k⟩
theorem op_ltP (hu : X.A.units + 64 < cLine) : OpR X (compareOp .Lt) (rPl X.K X.mg Ord2 fun d e => W.dataLt (py d) (py e)) := by
  rintro ps s σ H x y v u Q I rx ry ⟨S, d, e, p, q, h1, h2, ⟨h3, h4⟩, k⟩
  obtain ⟨as, r1⟩ := p.reads I 40 h1 rx
  obtain ⟨bs, r2⟩ := q.reads I 40 h2 ry
  exact W.lt_data r1 r2 h3 h4 (room40 hu (pl_py 40 d h1).2) ⟨.bl _, H, I, rfl, k⟩
theorem op_gtP (hu : X.A.units + 64 < cLine) : OpR X (compareOp .Gt) (rPl X.K X.mg Ord2 fun d e => W.dataLt (py e) (py d)) := by
  rintro ps s σ H x y v u Q I rx ry ⟨S, d, e, p, q, h1, h2, ⟨h3, h4⟩, k⟩
  obtain ⟨as, r1⟩ := p.reads I 40 h1 rx
  obtain ⟨bs, r2⟩ := q.reads I 40 h2 ry
  exact W.gt_data r1 r2 h3 h4 (room40 hu (pl_py 40 d h1).2) ⟨.bl _, H, I, rfl, k⟩
theorem op_leP (hu : X.A.units + 64 < cLine) : OpR X (compareOp .LtE) (rPl X.K X.mg Ord2 fun d e => !W.dataLt (py e) (py d)) := by
  rintro ps s σ H x y v u Q I rx ry ⟨S, d, e, p, q, h1, h2, ⟨h3, h4⟩, k⟩
  obtain ⟨as, r1⟩ := p.reads I 40 h1 rx
  obtain ⟨bs, r2⟩ := q.reads I 40 h2 ry
  exact W.le_data r1 r2 h3 h4 (room40 hu (pl_py 40 d h1).2) ⟨.bl _, H, I, rfl, k⟩
theorem op_geP (hu : X.A.units + 64 < cLine) : OpR X (compareOp .GtE) (rPl X.K X.mg Ord2 fun d e => !W.dataLt (py d) (py e)) := by
  rintro ps s σ H x y v u Q I rx ry ⟨S, d, e, p, q, h1, h2, ⟨h3, h4⟩, k⟩
  obtain ⟨as, r1⟩ := p.reads I 40 h1 rx
  obtain ⟨bs, r2⟩ := q.reads I 40 h2 ry
  exact W.ge_data r1 r2 h3 h4 (room40 hu (pl_py 40 d h1).2) ⟨.bl _, H, I, rfl, k⟩
theorem any_pys (d : D) (ds : List D) : (pys ds).any (fun y => PyData.eqv y (py d)) = ds.any fun y => PyData.eqv (py y) (py d) := by
  rw [pys_map, List.any_map]
  rfl
theorem plain_all {n : Nat} {ds : List D} (h : ∀ d ∈ ds, Pl n d) : PyData.plainAll (pys ds) = true := by
  rw [pys_map]
  exact plainAll_of fun d z => by
    obtain ⟨e, z1, rfl⟩ := List.mem_map.mp z
    exact (pl_py n e (h e z1)).1
theorem room41 {n m u : Nat} (hu : u + 64 < cLine) (h1 : m ≤ 40) : u + 1 + min n m < cLine := by
  have := Nat.min_le_right n m
  omega
theorem op_inP (hu : X.A.units + 64 < cLine) : OpR X (compareOp .In) (rPl X.K X.mg (fun _ e => isSeq e) fun d e => (itemsD e).any fun y => PyData.eqv (py y) (py d)) := by
  rintro ps s σ H x y v u Q I rx ry ⟨S, d, e, p, q, h1, h2, h3, k⟩
  obtain ⟨as, r1⟩ := p.reads I 40 h1 rx
  obtain ⟨bs, r2⟩ := q.reads I 40 h2 ry
  rcases h3 with ⟨ds, rfl⟩ | ⟨ds, rfl⟩ | ⟨ns, rfl⟩ | ⟨ds, rfl⟩
  · rw [py] at r2
    refine SeqAt.in_list_data r2 r1 (plain_all (n := 39) h2) (pl_py 40 d h1).1 (room41 hu (pl_py 40 d h1).2) ⟨.bl _, H, I, rfl, ?_⟩
    rw [any_pys]
    exact k
  · rw [py] at r2
    refine SeqAt.in_tuple_data r2 r1 (plain_all (n := 39) h2) (pl_py 40 d h1).1 (room41 hu (pl_py 40 d h1).2) ⟨.bl _, H, I, rfl, ?_⟩
    rw [any_pys]
    exact k
  · have e : PyData.tuple (ns.map PyData.int) = .tuple (pys (ns.map D.int)) := by rw [pys_map, List.map_map]; exact congrArg _ (List.map_congr_left fun _ _ => by show _ = py (.int _); rw [py])
    rw [py, e] at r2
    refine SeqAt.in_tuple_data r2 r1 (plain_all (n := 39) fun z hz => by obtain ⟨i, _, rfl⟩ := List.mem_map.mp hz; trivial) (pl_py 40 d h1).1 (room41 hu (pl_py 40 d h1).2) ⟨.bl _, H, I, rfl, ?_⟩
    rw [any_pys]
    exact k
  · rw [py] at r2
    refine SeqAt.in_tuple_data r2 r1 (plain_all (n := 39) h2) (pl_py 40 d h1).1 (room41 hu (pl_py 40 d h1).2) ⟨.bl _, H, I, rfl, ?_⟩
    rw [any_pys]
    exact k
theorem op_ninP (hu : X.A.units + 64 < cLine) : OpR X (compareOp .NotIn) (rPl X.K X.mg (fun _ e => isSeq e) fun d e => !(itemsD e).any fun y => PyData.eqv (py y) (py d)) := by
  rintro ps s σ H x y v u Q I rx ry ⟨S, d, e, p, q, h1, h2, h3, k⟩
  obtain ⟨as, r1⟩ := p.reads I 40 h1 rx
  obtain ⟨bs, r2⟩ := q.reads I 40 h2 ry
  rcases h3 with ⟨ds, rfl⟩ | ⟨ds, rfl⟩ | ⟨ns, rfl⟩ | ⟨ds, rfl⟩
  · rw [py] at r2
    refine SeqAt.notIn_list_data r2 r1 (plain_all (n := 39) h2) (pl_py 40 d h1).1 (room41 hu (pl_py 40 d h1).2) ⟨.bl _, H, I, rfl, ?_⟩
    rw [any_pys]
    exact k
  · rw [py] at r2
    refine SeqAt.notIn_tuple_data r2 r1 (plain_all (n := 39) h2) (pl_py 40 d h1).1 (room41 hu (pl_py 40 d h1).2) ⟨.bl _, H, I, rfl, ?_⟩
    rw [any_pys]
    exact k
  · have e : PyData.tuple (ns.map PyData.int) = .tuple (pys (ns.map D.int)) := by rw [pys_map, List.map_map]; exact congrArg _ (List.map_congr_left fun _ _ => by show _ = py (.int _); rw [py])
    rw [py, e] at r2
    refine SeqAt.notIn_tuple_data r2 r1 (plain_all (n := 39) fun z hz => by obtain ⟨i, _, rfl⟩ := List.mem_map.mp hz; trivial) (pl_py 40 d h1).1 (room41 hu (pl_py 40 d h1).2) ⟨.bl _, H, I, rfl, ?_⟩
    rw [any_pys]
    exact k
  · rw [py] at r2
    refine SeqAt.notIn_tuple_data r2 r1 (plain_all (n := 39) h2) (pl_py 40 d h1).1 (room41 hu (pl_py 40 d h1).2) ⟨.bl _, H, I, rfl, ?_⟩
    rw [any_pys]
    exact k
end
/-! ## items and slices -/
def dIx : D → D → Rs VD
  | .lst ds, .int i => (rO (atI ds i)).bind fun d => .ok (.val d)
  | .tup ds, .int i => (rO (atI ds i)).bind fun d => .ok (.val d)
  | .str x, .int i => if x.length ≤ 16000000 then (rO (atI x.cps.toList i)).bind fun c => .ok (.val (.str ⟨#[c]⟩)) else .stuck
  | _, _ => .stuck
theorem quiet_o2 {A : Type} {o : Option A} {f : A → VD} (h : ∀ a, Quiet (.ok (f a))) : Quiet ((rO o).bind fun d => .ok (f d)) := by
  cases o with
  | none => exact quiet_s
  | some a => exact h a
theorem q_ix : Quiet2 dIx := fun d e => by
  unfold dIx
  split
  · exact quiet_o2 fun _ => quiet_v
  · exact quiet_o2 fun _ => quiet_v
  · exact quiet_if (quiet_o2 fun _ => quiet_v) quiet_s
  · exact quiet_s
section
variable {K : PySem.W.Frag} {mg : Str → Option Value} {S : Addr → Prop} {H : Hp}
theorem Reps.atI {vs : List V} {ds : List D} (r : Reps K mg S H vs ds) {i : Int} {d : D} (e : L2.atI ds i = some d) : ∃ v, L2.atI vs i = some v ∧ Rep K mg S H v d := by
  unfold L2.atI at e ⊢
  rw [r.len]
  cases q : ixN ds.length i with
  | none => rw [q] at e; cases e
  | some j =>
    rw [q] at e
    exact r.getD (show ds[j]? = some d from e)
theorem o2_ok {A : Type} {o : Option A} {f : A → VD} {z : VD} (h : ((rO o).bind fun d => Rs.ok (f d)) = Rs.ok z) : ∃ a, o = some a ∧ f a = z := by
  cases o with
  | none => cases h
  | some a =>
    cases h
    exact ⟨a, rfl, rfl⟩
theorem d_ix : R2D K mg (rIx K) dIx := fun S H x y dx dy Q z t p q e k => by
  unfold dIx at e
  split at e
  · obtain ⟨d, e1, rfl⟩ := o2_ok e
    obtain ⟨a, vs, rfl, h1, z1, r⟩ := p.sqL
    obtain ⟨v, e2, p2⟩ := r.atI e1
    exact .inl ⟨a, vs, _, v, rfl, q.int, .of h1, e2, k.pure p2⟩
  · obtain ⟨d, e1, rfl⟩ := o2_ok e
    obtain ⟨a, vs, rfl, h1, z1, r⟩ := p.sqT
    obtain ⟨v, e2, p2⟩ := r.atI e1
    exact .inr (.inl ⟨a, vs, _, v, rfl, q.int, h1, e2, k.pure p2⟩)
  · rename_i w i
    by_cases c : w.length ≤ 16000000
    · rw [if_pos c] at e
      obtain ⟨ch, e1, rfl⟩ := o2_ok e
      exact .inr (.inr ⟨w, i, ch, p.str, q.int, by rw [sizeLine_eq]; omega, e1, k.pure (.str _)⟩)
    · rw [if_neg c] at e
      cases e
  · cases e
end
/-- xs[lo:hi] -/
def cutA {A : Type} (xs : List A) (lo hi : Option Int) : List A := (xs.drop (HT.sIx xs.length 0 lo)).take (HT.sIx xs.length xs.length hi - HT.sIx xs.length 0 lo)
def dSl : D → Option Int → Option Int → Rs VD
  | .lst ds, lo, hi => .ok (.own (.lst (cutA ds lo hi)))
  | .tup ds, lo, hi => .ok (.val (.tup (cutA ds lo hi)))
  | _, _, _ => .stuck
def partE (f : Option DE) : Env → Tp → Rs (Option Int × Tp) := fun r T => match f with
  | none => .ok (none, T)
  | some f => (dt (f r T)).bind fun p => (dI p.1).bind fun i => .ok (some i, p.2)
def eSl (f : DE) (lo hi : Option DE) : DE := fun r T => (dt (f r T)).bind fun p => (partE lo r p.2).bind fun a => (partE hi r a.2).bind fun b => lift (dSl p.1 a.1 b.1) b.2
end Pu
namespace Pu
open PySem L2
open Classical
/-! ## calls of built-in functions -/
theorem topv1 {K : PySem.W.Frag} {mg : Str → Option Value} {S : Addr → Prop} {H : Hp} {xs : List V} {d : D} (h : Tops K mg S H xs [d]) : ∃ x, xs = [x] ∧ Top K mg S H x d := by
  cases h with
  | cons p t =>
    cases t
    exact ⟨_, rfl, p⟩
theorem topv2 {K : PySem.W.Frag} {mg : Str → Option Value} {S : Addr → Prop} {H : Hp} {xs : List V} {d e : D} (h : Tops K mg S H xs [d, e]) : ∃ x y, xs = [x, y] ∧ Top K mg S H x d ∧ Top K mg S H y e := by
  cases h with
  | cons p t =>
    cases t with
    | cons q t =>
      cases t
      exact ⟨_, _, rfl, p, q⟩
/-- whole numbers alone -/
def nums : List D → Option (List Int)
  | [] => some []
  | .int i :: ds => (nums ds).map (i :: ·)
  | _ => none
@[simp] theorem ints_nil : nums [] = some [] := rfl
@[simp] theorem ints_cons (i : Int) (ds : List D) : nums (.int i :: ds) = (nums ds).map (i :: ·) := rfl
@[simp] theorem ints_map : ∀ ns : List Int, nums (ns.map D.int) = some ns
  | [] => rfl
  | n :: ns => by rw [List.map_cons, ints_cons, ints_map ns]; rfl
theorem ints_eq : ∀ {ds : List D} {ns : List Int}, nums ds = some ns → ds = ns.map D.int
  | [], ns, h => by cases h; rfl
  | .int i :: ds, ns, h => by
    rw [ints_cons] at h
    cases q : nums ds with
    | none => rw [q] at h; cases h
    | some l =>
      rw [q] at h
      cases h
      rw [List.map_cons, ints_eq q]
  | .non :: _, _, h => nomatch h
  | .bl _ :: _, _, h => nomatch h
  | .str _ :: _, _, h => nomatch h
  | .tup _ :: _, _, h => nomatch h
  | .lst _ :: _, _, h => nomatch h
  | .dct _ _ :: _, _, h => nomatch h
  | .ins _ _ :: _, _, h => nomatch h
  | .scr _ :: _, _, h => nomatch h
  | .tpl _ :: _, _, h => nomatch h
def bls : List D → Option (List Bool)
  | [] => some []
  | .bl i :: ds => (bls ds).map (i :: ·)
  | _ => none
@[simp] theorem bools_nil : bls [] = some [] := rfl
@[simp] theorem bools_cons (i : Bool) (ds : List D) : bls (.bl i :: ds) = (bls ds).map (i :: ·) := rfl
@[simp] theorem bools_map : ∀ ns : List Bool, bls (ns.map D.bl) = some ns
  | [] => rfl
  | n :: ns => by rw [List.map_cons, bools_cons, bools_map ns]; rfl
theorem bools_eq : ∀ {ds : List D} {ns : List Bool}, bls ds = some ns → ds = ns.map D.bl
  | [], ns, h => by cases h; rfl
  | .bl i :: ds, ns, h => by
    rw [bools_cons] at h
    cases q : bls ds with
    | none => rw [q] at h; cases h
    | some l =>
      rw [q] at h
      cases h
      rw [List.map_cons, bools_eq q]
  | .non :: _, _, h => nomatch h
  | .int _ :: _, _, h => nomatch h
  | .str _ :: _, _, h => nomatch h
  | .tup _ :: _, _, h => nomatch h
  | .lst _ :: _, _, h => nomatch h
  | .dct _ _ :: _, _, h => nomatch h
  | .ins _ _ :: _, _, h => nomatch h
  | .scr _ :: _, _, h => nomatch h
  | .tpl _ :: _, _, h => nomatch h
section
variable {K : PySem.W.Frag} {mg : Str → Option Value} {S : Addr → Prop} {H : Hp}
theorem Reps.ofInts : ∀ {ns : List Int} {vs : List V}, Reps K mg S H vs (ns.map D.int) → vs = ns.map V.int
  | [], vs, h => by cases h; rfl
  | n :: ns, vs, h => by
    cases h with
    | cons p t =>
      cases p
      rw [Reps.ofInts t]
      rfl
theorem Reps.ofBools : ∀ {ns : List Bool} {vs : List V}, Reps K mg S H vs (ns.map D.bl) → vs = ns.map V.bl
  | [], vs, h => by cases h; rfl
  | n :: ns, vs, h => by
    cases h with
    | cons p t =>
      cases p
      rw [Reps.ofBools t]
      rfl
theorem reps_ints : ∀ ns : List Int, Reps K mg S H (ns.map V.int) (ns.map D.int)
  | [] => .nil
  | n :: ns => .cons (.int n) (reps_ints ns)
theorem Top.scr {v : V} {ns : List Int} (h : Top K mg S H v (.scr ns)) : ∃ a, v = .ref a ∧ SqL K H a (ns.map V.int) ∧ ns.length ≤ sizeLine := by
  rcases h with h | ⟨p, rfl, h⟩
  · cases h with
    | scr s e q z => exact ⟨_, rfl, q _ e, z⟩
    | scrK q z => exact ⟨_, rfl, q _, z⟩
  · cases h
theorem o_ok {A : Type} {o : Option A} {f : A → Rs VD} {z : VD} (h : (rO o).bind f = Rs.ok z) : ∃ a, o = some a ∧ f a = .ok z := by
  cases o with
  | none => cases h
  | some a => exact ⟨a, rfl, h⟩
theorem quiet_r {A : Type} {o : Option A} {f : A → Rs VD} (h : ∀ a, Quiet (f a)) : Quiet ((rO o).bind f) := by
  cases o with
  | none => exact quiet_s
  | some a => exact h a
end
/-! len -/
def bLen : List D → Rs VD
  | [.lst ds] => .ok (.val (.int ds.length))
  | [.tup ds] => .ok (.val (.int ds.length))
  | [.str x] => if x.length ≤ 16000000 then .ok (.val (.int x.length)) else .stuck
  | [.scr ns] => .ok (.val (.int ns.length))
  | _ => .stuck
theorem q_len : QuietN bLen := fun ds => by
  unfold bLen
  split <;> first | exact quiet_v | exact quiet_s | exact quiet_if quiet_v quiet_s
def rLen (K : PySem.W.Frag) : List V → Hp → VK → Prop := fun xs H Q => ∃ x n, xs = [x] ∧ LenV K x H n ∧ Q (.int n) H
theorem d_len {K : PySem.W.Frag} {mg : Str → Option Value} : RnD K mg (rLen K) bLen := fun S H xs ds Q z t hp e k => by
  unfold bLen at e
  split at e
  · cases e
    obtain ⟨x, rfl, p⟩ := topv1 hp
    obtain ⟨a, vs, rfl, h1, z1, r⟩ := p.sqL
    exact ⟨_, _, rfl, .inl ⟨vs, .inl (.inl h1), r.len.symm⟩, k.pure (.int _)⟩
  · cases e
    obtain ⟨x, rfl, p⟩ := topv1 hp
    obtain ⟨a, vs, rfl, h1, z1, r⟩ := p.sqT
    exact ⟨_, _, rfl, .inr ⟨vs, h1, r.len.symm⟩, k.pure (.int _)⟩
  · obtain ⟨c, rfl⟩ := if_ok e
    obtain ⟨x, rfl, p⟩ := topv1 hp
    exact ⟨_, _, rfl, by rw [p.str]; exact ⟨by rw [sizeLine_eq]; omega, rfl⟩, k.pure (.int _)⟩
  · cases e
    obtain ⟨x, rfl, p⟩ := topv1 hp
    obtain ⟨a, rfl, h1, z1⟩ := p.scr
    exact ⟨_, _, rfl, .inl ⟨_, h1, by rw [List.length_map]⟩, k.pure (.int _)⟩
  · cases e
/-! list, tuple, int -/
def bList : List D → Rs VD
  | [.lst ds] => .ok (.own (.lst ds))
  | [.tup ds] => .ok (.own (.lst ds))
  | [.scr ns] => .ok (.own (.lst (ns.map D.int)))
  | _ => .stuck
theorem q_list : QuietN bList := fun ds => by
  unfold bList
  split <;> first | exact quiet_o | exact quiet_s
def rList (K : PySem.W.Frag) : List V → Hp → VK → Prop := fun xs H Q => ∃ p ys, xs = [.ref p] ∧ (SqL K H p ys ∨ SqT K H p ys) ∧ ∀ l, H l = none → Q (.ref l) (upd H l (.lst ys))
theorem d_list {K : PySem.W.Frag} {mg : Str → Option Value} : RnD K mg (rList K) bList := fun S H xs ds Q z t hp e k => by
  unfold bList at e
  split at e
  · cases e
    obtain ⟨x, rfl, p⟩ := topv1 hp
    obtain ⟨a, vs, rfl, h1, z1, r⟩ := p.sqL
    exact ⟨_, _, rfl, .inl (.inl (.inl h1)), fun l hl => k.newL hl z1 r⟩
  · cases e
    obtain ⟨x, rfl, p⟩ := topv1 hp
    obtain ⟨a, vs, rfl, h1, z1, r⟩ := p.sqT
    exact ⟨_, _, rfl, .inr h1, fun l hl => k.newL hl z1 r⟩
  · cases e
    obtain ⟨x, rfl, p⟩ := topv1 hp
    obtain ⟨a, rfl, h1, z1⟩ := p.scr
    exact ⟨_, _, rfl, .inl h1, fun l hl => k.newL hl (by rw [List.length_map]; exact z1) (reps_ints _)⟩
  · cases e
def bTuple : List D → Rs VD
  | [.lst ds] => .ok (.val (.tup ds))
  | [.tup ds] => .ok (.val (.tup ds))
  | _ => .stuck
theorem q_tuple : QuietN bTuple := fun ds => by
  unfold bTuple
  split <;> first | exact quiet_v | exact quiet_s
def rTuple (K : PySem.W.Frag) : List V → Hp → VK → Prop := fun xs H Q => ∃ p ys, xs = [.ref p] ∧ ((SqL K H p ys ∧ ∀ l, H l = none → Q (.ref l) (upd H l (.tup ys))) ∨ (SqT K H p ys ∧ Q (.ref p) H))
theorem d_tuple {K : PySem.W.Frag} {mg : Str → Option Value} : RnD K mg (rTuple K) bTuple := fun S H xs ds Q z t hp e k => by
  unfold bTuple at e
  split at e
  · cases e
    obtain ⟨x, rfl, p⟩ := topv1 hp
    obtain ⟨a, vs, rfl, h1, z1, r⟩ := p.sqL
    exact ⟨_, _, rfl, .inl ⟨.inl (.inl h1), fun l hl => k.newT t hl z1 r⟩⟩
  · cases e
    obtain ⟨x, rfl, p⟩ := topv1 hp
    have p2 := p.rep
    obtain ⟨a, vs, rfl, h1, z1, r⟩ := p.sqT
    exact ⟨_, _, rfl, .inr ⟨h1, k.pure p2⟩⟩
  · cases e
def bInt : List D → Rs VD
  | [.int i] => .ok (.val (.int i))
  | [.bl b] => .ok (.val (.int (if b then 1 else 0)))
  | _ => .stuck
theorem q_int : QuietN bInt := fun ds => by
  unfold bInt
  split <;> first | exact quiet_v | exact quiet_s
theorem d_int {K : PySem.W.Frag} {mg : Str → Option Value} : RnD K mg (fun xs H Q => (∃ i, xs = [.int i] ∧ Q (.int i) H) ∨ ∃ k, xs = [.bl k] ∧ Q (.int (if k then 1 else 0)) H) bInt := fun S H xs ds Q z t hp e k => by
  unfold bInt at e
  split at e
  · cases e
    obtain ⟨x, rfl, p⟩ := topv1 hp
    rw [p.int]
    exact .inl ⟨_, rfl, k.pure (.int _)⟩
  · cases e
    obtain ⟨x, rfl, p⟩ := topv1 hp
    rw [p.bl]
    exact .inr ⟨_, rfl, k.pure (.int _)⟩
  · cases e
/-! sum, all, any, min, max -/
def bSum : List D → Rs VD
  | [.lst ds] => (rO (nums ds)).bind fun ns => .ok (.val (.int ns.sum))
  | [.tup ds] => (rO (nums ds)).bind fun ns => .ok (.val (.int ns.sum))
  | _ => .stuck
def bAll : List D → Rs VD
  | [.lst ds] => (rO (bls ds)).bind fun ns => .ok (.val (.bl (ns.all id)))
  | _ => .stuck
def bAny : List D → Rs VD
  | [.lst ds] => (rO (bls ds)).bind fun ns => .ok (.val (.bl (ns.any id)))
  | _ => .stuck
theorem q_all : QuietN bAll := fun ds => by
  unfold bAll
  split <;> first | exact quiet_s | exact quiet_r fun _ => quiet_v
theorem d_all {K : PySem.W.Frag} {mg : Str → Option Value} : RnD K mg (rAll K) bAll := fun S H xs ds Q z t hp e k => by
  unfold bAll at e
  split at e
  · obtain ⟨ns, e1, e⟩ := o_ok e
    cases e
    have := bools_eq e1
    subst this
    obtain ⟨x, rfl, p⟩ := topv1 hp
    obtain ⟨a, vs, rfl, h1, z1, r⟩ := p.sqL
    rw [r.ofBools] at h1
    exact ⟨a, ns, rfl, .inl (.inl h1), k.pure (.bl _)⟩
  · cases e
def bMax : List D → Rs VD
  | [.int i, .int j] => .ok (.val (.int (if j > i then j else i)))
  | [.lst ds] => (rO (nums ds)).bind fun ns => (rO ns.max?).bind fun m => .ok (.val (.int m))
  | [.tup ds] => (rO (nums ds)).bind fun ns => (rO ns.max?).bind fun m => .ok (.val (.int m))
  | _ => .stuck
def bMin : List D → Rs VD
  | [.int i, .int j] => .ok (.val (.int (if j < i then j else i)))
  | [.lst ds] => (rO (nums ds)).bind fun ns => (rO ns.min?).bind fun m => .ok (.val (.int m))
  | [.tup ds] => (rO (nums ds)).bind fun ns => (rO ns.min?).bind fun m => .ok (.val (.int m))
  | _ => .stuck
theorem q_max : QuietN bMax := fun ds => by
  unfold bMax
  split <;> first | exact quiet_s | exact quiet_v | exact quiet_r fun _ => quiet_r fun _ => quiet_v
theorem q_min : QuietN bMin := fun ds => by
  unfold bMin
  split <;> first | exact quiet_s | exact quiet_v | exact quiet_r fun _ => quiet_r fun _ => quiet_v
def rMax2 : List V → Hp → VK → Prop := fun xs H Q => ∃ i j, xs = [.int i, .int j] ∧ Q (.int (if j > i then j else i)) H
def rMin2 : List V → Hp → VK → Prop := fun xs H Q => ∃ i j, xs = [.int i, .int j] ∧ Q (.int (if j < i then j else i)) H
def rMaxT (K : PySem.W.Frag) : List V → Hp → VK → Prop := fun vs H Q => ∃ (a : Addr) (ns : List Int) (m : Int), vs = [V.ref a] ∧ SqT K H a (ns.map V.int) ∧ ns.max? = some m ∧ Q (.int m) H
def rMinT (K : PySem.W.Frag) : List V → Hp → VK → Prop := fun vs H Q => ∃ (a : Addr) (ns : List Int) (m : Int), vs = [V.ref a] ∧ SqT K H a (ns.map V.int) ∧ ns.min? = some m ∧ Q (.int m) H
theorem reads_ints {h : Heap} : ∀ {ns : List Int} {us : List Value}, Vals (ns.map V.int) us → PySem.ReadsAll h us (ns.map PyData.int) []
  | [], us, r => by cases r; exact .nil
  | n :: ns, us, r => by
    cases r with
    | cons r1 r2 =>
      obtain ⟨t, rfl⟩ := r1
      exact .cons (.int n t) (reads_ints r2)
theorem alike_intsD {ns : List Int} : PySem.W.AlikeAll (ns.map PyData.int) := ⟨fun x hx y hy => by
  obtain ⟨i, _, rfl⟩ := List.mem_map.mp hx
  obtain ⟨j, _, rfl⟩ := List.mem_map.mp hy
  rw [PySem.W.alike], fun x hx z => by
  obtain ⟨i, _, rfl⟩ := List.mem_map.mp hx
  cases z⟩
theorem max?_fold {n : Int} {ns : List Int} : (n :: ns).max? = some (ns.foldl max n) := rfl
theorem min?_fold {n : Int} {ns : List Int} : (n :: ns).min? = some (ns.foldl min n) := rfl
theorem reads_int_inv {h : Heap} {v : Value} {i : Int} {as : List Addr} (r : PySem.Reads h v (.int i) as) : ∃ t, v = .int i t := by
  cases r
  exact ⟨_, rfl⟩
theorem cr_maxT {X : Cx} (hc : X.calm = true) (hu : X.A.units + 64 < cLine) : CallR X (.builtin "max") (rMaxT X.K) := by
  intro pins s σ H vs us Q I r h
  obtain ⟨a, ns, m, rfl, hs, hm, q⟩ := h
  obtain ⟨its, rv, hl, _⟩ := I.tuple hs
  rw [Vals.ref1 r]
  cases ns with
  | nil => cases hm
  | cons n ns =>
    rw [max?_fold] at hm
    cases hm
    refine PySem.W.max_tuple_data (x := .int n) (xs := ns.map PyData.int) (I.ok.hd hc) hl (reads_ints rv) (alike_intsD (ns := n :: ns)) ?_ fun i v h' tk bs _ rd hk => ?_
    · rw [show PyData.int n :: ns.map PyData.int = (n :: ns).map PyData.int from rfl, PySem.W.depth_ints]
      omega
    · rw [PySem.W.maxD_ints] at rd
      obtain ⟨t, rfl⟩ := reads_int_inv rd
      exact ⟨.int _, H, I.kept hk, ⟨_, rfl⟩, q⟩
theorem cr_minT {X : Cx} (hc : X.calm = true) (hu : X.A.units + 64 < cLine) : CallR X (.builtin "min") (rMinT X.K) := by
  intro pins s σ H vs us Q I r h
  obtain ⟨a, ns, m, rfl, hs, hm, q⟩ := h
  obtain ⟨its, rv, hl, _⟩ := I.tuple hs
  rw [Vals.ref1 r]
  cases ns with
  | nil => cases hm
  | cons n ns =>
    rw [min?_fold] at hm
    cases hm
    refine PySem.W.min_tuple_data (x := .int n) (xs := ns.map PyData.int) (I.ok.hd hc) hl (reads_ints rv) (alike_intsD (ns := n :: ns)) ?_ fun i v h' tk bs _ rd hk => ?_
    · rw [show PyData.int n :: ns.map PyData.int = (n :: ns).map PyData.int from rfl, PySem.W.depth_ints]
      omega
    · rw [PySem.W.minD_ints] at rd
      obtain ⟨t, rfl⟩ := reads_int_inv rd
      exact ⟨.int _, H, I.kept hk, ⟨_, rfl⟩, q⟩
def rMaxA (K : PySem.W.Frag) : List V → Hp → VK → Prop := fun xs H Q => rMax2 xs H Q ∨ L2.rMax K xs H Q ∨ rMaxT K xs H Q
def rMinA (K : PySem.W.Frag) : List V → Hp → VK → Prop := fun xs H Q => rMin2 xs H Q ∨ L2.rMin K xs H Q ∨ rMinT K xs H Q
theorem cr_maxA {X : Cx} (hc : X.calm = true) (hu : X.A.units + 64 < cLine) : CallR X (.builtin "max") (rMaxA X.K) := CallR.or (call_max2 hc) (CallR.or (cr_max hc) (cr_maxT hc hu))
theorem cr_minA {X : Cx} (hc : X.calm = true) (hu : X.A.units + 64 < cLine) : CallR X (.builtin "min") (rMinA X.K) := CallR.or (call_min2 hc) (CallR.or (cr_min hc) (cr_minT hc hu))
theorem max?_of {ns : List Int} {m y : Int} (e : ns.max? = some m) (h1 : y ∈ ns) (h2 : ∀ z ∈ ns, z ≤ y) : y = m := by
  obtain ⟨a, b⟩ := List.max?_eq_some_iff.mp e
  exact Int.le_antisymm (b y h1) (h2 m a)
theorem min?_of {ns : List Int} {m y : Int} (e : ns.min? = some m) (h1 : y ∈ ns) (h2 : ∀ z ∈ ns, y ≤ z) : y = m := by
  obtain ⟨a, b⟩ := List.min?_eq_some_iff.mp e
  exact Int.le_antisymm (h2 m a) (b y h1)
theorem d_max {K : PySem.W.Frag} {mg : Str → Option Value} : RnD K mg (rMaxA K) bMax := fun S H xs ds Q z t hp e k => by
  unfold bMax at e
  split at e
  · cases e
    obtain ⟨x, y, rfl, p, q⟩ := topv2 hp
    rw [p.int, q.int]
    exact .inl ⟨_, _, rfl, k.pure (.int _)⟩
  · obtain ⟨ns, e1, e⟩ := o_ok e
    obtain ⟨m, e2, e⟩ := o_ok e
    cases e
    have := ints_eq e1
    subst this
    obtain ⟨x, rfl, p⟩ := topv1 hp
    obtain ⟨a, vs, rfl, h1, z1, r⟩ := p.sqL
    rw [r.ofInts] at h1
    refine .inr (.inl ⟨a, ns, rfl, .inl (.inl h1), ?_, fun y y1 y2 => ?_⟩)
    · cases ns with
      | nil => cases e2
      | cons n ns => exact Nat.succ_pos _
    · rw [max?_of e2 y1 y2]
      exact k.pure (.int _)
  · obtain ⟨ns, e1, e⟩ := o_ok e
    obtain ⟨m, e2, e⟩ := o_ok e
    cases e
    have := ints_eq e1
    subst this
    obtain ⟨x, rfl, p⟩ := topv1 hp
    obtain ⟨a, vs, rfl, h1, z1, r⟩ := p.sqT
    rw [r.ofInts] at h1
    exact .inr (.inr ⟨a, ns, m, rfl, h1, e2, k.pure (.int _)⟩)
  · cases e
theorem d_min {K : PySem.W.Frag} {mg : Str → Option Value} : RnD K mg (rMinA K) bMin := fun S H xs ds Q z t hp e k => by
  unfold bMin at e
  split at e
  · cases e
    obtain ⟨x, y, rfl, p, q⟩ := topv2 hp
    rw [p.int, q.int]
    exact .inl ⟨_, _, rfl, k.pure (.int _)⟩
  · obtain ⟨ns, e1, e⟩ := o_ok e
    obtain ⟨m, e2, e⟩ := o_ok e
    cases e
    have := ints_eq e1
    subst this
    obtain ⟨x, rfl, p⟩ := topv1 hp
    obtain ⟨a, vs, rfl, h1, z1, r⟩ := p.sqL
    rw [r.ofInts] at h1
    refine .inr (.inl ⟨a, ns, rfl, .inl (.inl h1), ?_, fun y y1 y2 => ?_⟩)
    · cases ns with
      | nil => cases e2
      | cons n ns => exact Nat.succ_pos _
    · rw [min?_of e2 y1 y2]
      exact k.pure (.int _)
  · obtain ⟨ns, e1, e⟩ := o_ok e
    obtain ⟨m, e2, e⟩ := o_ok e
    cases e
    have := ints_eq e1
    subst this
    obtain ⟨x, rfl, p⟩ := topv1 hp
    obtain ⟨a, vs, rfl, h1, z1, r⟩ := p.sqT
    rw [r.ofInts] at h1
    exact .inr (.inr ⟨a, ns, m, rfl, h1, e2, k.pure (.int _)⟩)
  · cases e
end Pu
namespace Pu
open PySem L2
open Classical
/-! ## isinstance -/
inductive Ty where
  | int | bool | str | tuple | list | dict
def Ty.nm : Ty → String
  | .int => "int" | .bool => "bool" | .str => "str" | .tuple => "tuple" | .list => "list" | .dict => "dict"
/-- is it of that type? own things: those of the classes cs alone -/
def isT (cs : List Str) : Ty → D → Option Bool
  | t, .ins c _ => if cs.contains c then some false else none
  | _, .exn _ _ => none
  | _, .lrf _ => none
  | _, .cel _ _ => none
  | _, .dcn _ => none
  | .int, .int _ => some true
  | .int, .bl _ => some true
  | .bool, .bl _ => some true
  | .str, .str _ => some true
  | .tuple, .tup _ => some true
  | .tuple, .tpl _ => some true
  | .tuple, .ktp _ => some true
  | .list, .lst _ => some true
  | .list, .scr _ => some true
  | .dict, .dct _ _ => some true
  | _, _ => some false
def dIsi (cs : List Str) (t : Ty) (d : D) : Rs VD := (rO (isT cs t d)).bind fun b => .ok (.val (.bl b))
/-- a value's type; of a dict that is locked, too -/
inductive TyZ (K : PySem.W.Frag) (H : Hp) : V → Value → Prop where
  | x {v : V} {t : Value} (h : TyX K H v t) : TyZ K H v t
  | fT {a : Addr} {o : Obj} {kvs : List (List Key × V)} (e : H a = some (.frz o (.dT kvs))) : TyZ K H (.ref a) (.type "dict")
namespace TyZ
variable {K : PySem.W.Frag} {H : Hp}
theorem base {v : V} {t : Value} (h : TyOf K H v t) : TyZ K H v t := .x (.base h)
theorem kList {a : Addr} {o : Obj} (e : K.lookup a = some o) (c : o.cls = .type "list") : TyZ K H (.ref a) (.type "list") := .x (.kList e c)
theorem kTuple {a : Addr} {o : Obj} (e : K.lookup a = some o) (c : o.cls = .type "tuple") : TyZ K H (.ref a) (.type "tuple") := .x (.kTuple e c)
theorem fTuple {a : Addr} {o : Obj} {xs : List V} (e : H a = some (.frz o (.tup xs))) : TyZ K H (.ref a) (.type "tuple") := .x (.fTuple e)
theorem fDict {a : Addr} {o : Obj} {kvs : List (Key × V)} (e : H a = some (.frz o (.dK kvs))) : TyZ K H (.ref a) (.type "dict") := .x (.fDict e)
theorem dK {a : Addr} {kvs : List (Key × V)} (e : Rd H a (.dK kvs)) : TyZ K H (.ref a) (.type "dict") := e.elim (fun e => .base (.dK e)) fun ⟨_, e⟩ => .fDict e
theorem dT {a : Addr} {kvs : List (List Key × V)} (e : Rd H a (.dT kvs)) : TyZ K H (.ref a) (.type "dict") := e.elim (fun e => .base (.dT e)) fun ⟨_, e⟩ => .fT e
end TyZ
theorem kit_ofZ {X : Cx} {pins : List (Addr × Obj)} {σ : L2.St} {H : Hp} {s : Shared} {x : V} {u t : Value} (I : Inv X pins σ H s) (rx : RelV x u) (ty : TyZ X.K H x t) : ∃ P : Heap → Prop, PySem.W.KitX X.K u t P ∧ P s.heap ∧ u ≠ .builtin "__main__.__loader__#opaque" := by
  cases ty with
  | x h => exact kit_of I rx h
  | @fT a ob kvs ea =>
    cases (show u = Value.ref a from rx)
    obtain ⟨_, _, _, xs, _, o, es, ep, h1, h2, _⟩ := (show ObjOk X.prog X.w H s.heap a (.frz ob (.dT kvs)) from I.hok a _ ea)
    exact ⟨_, PySem.W.kitx_dict, ⟨o, h1, h2.1⟩, fun z => nomatch z⟩
def rIsiZ (K : PySem.W.Frag) : List V → Hp → VK → Prop := fun xs H Q => ∃ (x c : V) (t u : Value) (b : Bool), xs = [x, c] ∧ ClsV c u ∧ TyZ K H x t ∧ PySem.W.kitOne K t u = some b ∧ Q (.bl b) H
def rIsiTZ (K : PySem.W.Frag) : List V → Hp → VK → Prop := fun xs H Q => ∃ (x : V) (tp : Addr) (cs : List V) (t : Value) (us : List Value) (b : Bool), xs = [x, .ref tp] ∧ H tp = some (.tup cs) ∧ Paired ClsV cs us ∧ TyZ K H x t ∧ PySem.W.kitAny K t us = some b ∧ Q (.bl b) H
theorem call_isiZ {X : Cx} : CallR X (.builtin "isinstance") (rIsiZ X.K) := fun pins s σ H xs us Q I r ⟨x, c, t, u, b, ex, k, ty, e, q⟩ => by
  subst ex
  obtain ⟨u1, u2, rfl, r1, r2⟩ := vals2 r
  cases k.eq r2
  obtain ⟨P, Z, p, hx⟩ := kit_ofZ I r1 ty
  exact PySem.W.kia_one Z I.kIn p e hx fun tk => ⟨.bl b, H, I.tok tk, rfl, q⟩
theorem call_isiTZ {X : Cx} : CallR X (.builtin "isinstance") (rIsiTZ X.K) := fun pins s σ H xs us Q I r ⟨x, tp, cs, t, ws, b, ex, hT, k, ty, e, q⟩ => by
  subst ex
  obtain ⟨u1, u2, rfl, r1, r2⟩ := vals2 r
  cases r2
  obtain ⟨P, Z, p, hx⟩ := kit_ofZ I r1 ty
  obtain ⟨_, its, rv, ⟨oc, od, dt, sl⟩, h1, h2, n, h3⟩ := I.hok tp _ hT
  cases ClsV.all k rv
  dsimp only at h2 h3
  cases h2
  cases h3
  exact PySem.W.kia_tup Z I.kIn p h1 e hx fun tk => ⟨.bl b, H, I.tok tk, rfl, q⟩
/-- what a class of its own must be -/
def OwnCls (K : PySem.W.Frag) (C : Addr) : Prop := Cls K C ∧ PySem.W.findIn K (.ref C) "__class__" = some (some (.builtin "object.__class__")) ∧ PySem.W.specialIn K (.builtin "object.__class__") "__get__" = some (some (.builtin "getset_descriptor.__get__")) ∧
  PySem.W.takesIn K (.builtin "object.__class__") = some true ∧ PySem.W.mroIn K C (.type "object") = some true
def OwnOk (K : PySem.W.Frag) (mg : Str → Option Value) (cs : List Str) : Prop := ∀ c ∈ cs, ∀ C, mg c = some (.ref C) → OwnCls K C ∧ ∀ t : Ty, PySem.W.kitOne K (.ref C) (.type t.nm) = some false
theorem ownOk_nil {K : PySem.W.Frag} {mg : Str → Option Value} : OwnOk K mg [] := fun _ h => nomatch h
section
variable {K : PySem.W.Frag} {mg : Str → Option Value} {S : Addr → Prop} {H : Hp}
theorem Top.dctTy {v : V} {tt : Bool} {kvs : List (D × D)} (h : Top K mg S H v (.dct tt kvs)) : TyZ K H v (.type "dict") := by
  rcases h with h | ⟨p, rfl, h⟩
  · cases h with
    | dK s h0 z g q => exact .dK (.inl h0)
    | dT s h0 z g q => exact .dT (.inl h0)
    | dKz s h0 z g q => exact .dK (.inr ⟨_, h0⟩)
    | dTz s h0 z g q => exact .dT (.inr ⟨_, h0⟩)
  · cases h with
    | dK h0 z g q => exact .dK (.inl h0)
    | dT h0 z g q => exact .dT (.inl h0)
theorem isT_ok {cs : List Str} (ho : OwnOk K mg cs) {v : V} {d : D} {t : Ty} {b : Bool} (h : Top K mg S H v d) (e : isT cs t d = some b) (nk : ∀ ds, d = .tup ds → ∃ a, v = V.ref a ∧ (TyZ K H (.ref a) (.type "tuple"))) : ∃ tv, TyZ K H v tv ∧ PySem.W.kitOne K tv (.type t.nm) = some b := by
  cases d with
  | non =>
    rw [h.non]
    refine ⟨_, .base .non, ?_⟩
    cases t <;> cases e <;> exact kit_ty (by decide +kernel)
  | bl x =>
    rw [h.bl]
    refine ⟨_, .base (.bl x), ?_⟩
    cases t <;> cases e <;> exact kit_ty (by decide +kernel)
  | int x =>
    rw [h.int]
    refine ⟨_, .base (.int x), ?_⟩
    cases t <;> cases e <;> exact kit_ty (by decide +kernel)
  | str x =>
    rw [h.str]
    refine ⟨_, .base (.str x), ?_⟩
    cases t <;> cases e <;> exact kit_ty (by decide +kernel)
  | tup ds =>
    obtain ⟨a, rfl, ty⟩ := nk ds rfl
    refine ⟨_, ty, ?_⟩
    cases t <;> cases e <;> exact kit_ty (by decide +kernel)
  | lst ds =>
    obtain ⟨a, vs, rfl, h1, z1, r⟩ := h.sqL
    refine ⟨_, .base (.lst h1), ?_⟩
    cases t <;> cases e <;> exact kit_ty (by decide +kernel)
  | exn a b => cases t <;> cases e
  | lrf a => cases t <;> cases e
  | cel a b => cases t <;> cases e
  | dcn a => cases t <;> cases e
  | ktp ns =>
    obtain ⟨a, o, vs, rfl, h1, _⟩ := h.ktp
    refine ⟨_, .fTuple h1, ?_⟩
    cases t <;> cases e <;> exact kit_ty (by decide +kernel)
  | tpl ns =>
    obtain ⟨a, o, rfl, h1, _⟩ := h.tpl
    refine ⟨_, .fTuple h1, ?_⟩
    cases t <;> cases e <;> exact kit_ty (by decide +kernel)
  | scr ns =>
    obtain ⟨a, rfl, h1, z1⟩ := h.scr
    have ty : TyZ K H (.ref a) (.type "list") := by
      rcases h1 with (h1 | ⟨o, h1⟩) | ⟨o, its, n, h1, h2, _⟩
      · exact .base (.lst h1)
      · exact .base (.frz h1)
      · exact .kList h1 h2
    refine ⟨_, ty, ?_⟩
    cases t <;> cases e <;> exact kit_ty (by decide +kernel)
  | dct tt kvs =>
    have h1 := h.dctTy
    refine ⟨_, h1, ?_⟩
    cases t <;> cases e <;> exact kit_ty (by decide +kernel)
  | ins c fs =>
    have h1 : ∃ a C dx l, v = .ref a ∧ H a = some (.ins C dx l) ∧ mg c = some (.ref C) := by
      rcases h with h | ⟨p, rfl, h⟩
      · cases h with
        | ins s e m g q => exact ⟨_, _, _, _, rfl, e, m⟩
      · cases h with
        | ins e m g q => exact ⟨_, _, _, _, rfl, e, m⟩
    obtain ⟨a, C, dx, l, rfl, h1, hm⟩ := h1
    have e' : (if cs.contains c then some false else none) = some b := by cases t <;> exact e
    by_cases hc : cs.contains c = true
    · rw [if_pos hc] at e'
      cases e'
      obtain ⟨⟨h2, h3, h4, h5, h6⟩, h7⟩ := ho c (by simpa using hc) C hm
      exact ⟨_, .base (.ins h1 h2 h3 h4 h5 h6), h7 t⟩
    · rw [if_neg hc] at e'
      cases e'
/-- a tuple's type -/
theorem sqT_ty {a : Addr} {xs : List V} (h : SqT K H a xs) : TyZ K H (.ref a) (.type "tuple") := by
  rcases h with (h | ⟨o, h⟩) | ⟨o, its, n, h1, h2, _⟩
  · exact .base (.tup h)
  · exact .fTuple h
  · exact .kTuple h1 h2
theorem isT_ok2 {cs : List Str} (ho : OwnOk K mg cs) {v : V} {d : D} {t : Ty} {b : Bool} (h : Top K mg S H v d) (e : isT cs t d = some b) : ∃ tv, TyZ K H v tv ∧ PySem.W.kitOne K tv (.type t.nm) = some b :=
  isT_ok ho h e fun ds z => by
    subst z
    obtain ⟨a, vs, rfl, h1, _⟩ := h.sqT
    exact ⟨a, rfl, sqT_ty h1⟩
end
theorem q_isi {cs : List Str} {t : Ty} : Quiet1 (dIsi cs t) := fun d => quiet_r fun _ => quiet_v
theorem se_isi {X : Cx} {C : FC} {e : Expr} {f : DE} {x : Str} {t : Ty} {cs : List Str} {pos p p2 : Pos} (ho : OwnOk X.K X.mg cs) (he : SE X C e f) (hm1 : X.mg "isinstance" = none) (hv1 : bootBuiltins "isinstance" = some (.builtin "isinstance")) (hm : X.mg x = none) (hv : bootBuiltins x = some (.type t.nm))
    (hg1 : Gl X "isinstance" := by rfl) (hg : Gl X x := by rfl) (hn : x ≠ "__name__" := by decide) (hdb : (x == ("__debug__" : Str)) = false := by decide)
    (hs : starEach [e, .Name x p2] X.env = (false, eval e X.env) :: starEach [.Name x p2] X.env := by rfl) (hs2 : starEach [.Name x p2] X.env = (false, eval (.Name x p2) X.env) :: starEach [] X.env := by rfl) (hpl : (backTo pos (starEach [.Name x p2] X.env)).any (·.1) = false := by rfl) :
    SE X C (.Call (.Name "isinstance" p) [e, .Name x p2] [] pos) (eUn (dIsi cs t) f) := by
  refine pe_imp (pe_callB call_isiZ hg1 hm1 hv1 (pa_cons he (pa_cons (pe_bltn (v := .ty t.nm) hg hm hv rfl hn hdb) pa_nil hs2) hs) (by decide) (by decide) hs hpl) ?_
  rintro σ H Q ⟨ρ, T, h, P⟩
  refine ⟨ρ, T, h, gv_dt h P fun d T' v H1 h1 e1 p P1 => ?_⟩
  obtain ⟨z, ez, P3⟩ := lift_ex (q_isi d) h1 (post_from h1 e1 P1)
  obtain ⟨b, eb, ez⟩ := o_ok ez
  cases ez
  obtain ⟨tv, ty, kt⟩ := isT_ok2 ho p.top eb
  exact ⟨v, .ty t.nm, tv, .type t.nm, b, rfl, .ty _, ty, kt, P3.pure (.bl b)⟩
/-! ## sorted -/
theorem eachIs_of {R : Value → V × D → Prop} : ∀ {us : List Value} {vs : List V} {ds : List D}, Vals vs us → vs.length = ds.length → (∀ (i : Nat) (u : Value) (v : V) (d : D), us[i]? = some u → vs[i]? = some v → ds[i]? = some d → RelV v u → R u (v, d)) → PySem.W.EachIs R us (vs.zip ds)
  | _, _, [], .nil, _, _ => .nil
  | _, _, [], .cons _ _, e, _ => by cases e
  | _, _, d :: ds, .nil, e, _ => by cases e
  | _, _, d :: ds, .cons r t, e, h => .cons (h 0 _ _ _ rfl rfl rfl r) (eachIs_of t (by simpa using e) fun i u v d e1 e2 e3 => h (i + 1) u v d (by simpa using e1) (by simpa using e2) (by simpa using e3))
theorem each_vals {R : Value → V × D → Prop} (hR : ∀ u p, R u p → RelV p.1 u) : ∀ {us : List Value} {l : List (V × D)}, PySem.W.EachIs R us l → Vals (l.map (·.1)) us
  | _, _, .nil => .nil
  | _, _, .cons h t => .cons (hR _ _ h) (each_vals hR t)
section
variable {K : PySem.W.Frag} {mg : Str → Option Value} {S : Addr → Prop} {H : Hp}
theorem reps_zip {l : List (V × D)} (h : ∀ p ∈ l, Rep K mg S H p.1 p.2) : Reps K mg S H (l.map (·.1)) (l.map (·.2)) := by
  induction l with
  | nil => exact .nil
  | cons p l ih => exact .cons (h p List.mem_cons_self) (ih fun q z => h q (List.mem_cons_of_mem _ z))
theorem Reps.zip : ∀ {vs : List V} {ds : List D}, Reps K mg S H vs ds → ∀ p ∈ vs.zip ds, Rep K mg S H p.1 p.2
  | _, _, .nil, p, h => nomatch h
  | _, _, .cons a t, p, h => by
    rcases List.mem_cons.mp h with e | h
    · rw [e]; exact a
    · exact t.zip p h
end
def srtd (ds : List D) : List D := ds.mergeSort (PySem.W.dataLe false py)
def SrtOk (ds : List D) : Prop := (∀ d ∈ ds, Pl 30 d) ∧ PySem.W.AllAlike (ds.map py) ∧ PySem.W.Sortable (ds.map py)
def rSortedD (K : PySem.W.Frag) (mg : Str → Option Value) : List V → Hp → VK → Prop := fun xs H Q => ∃ (S : Addr → Prop) (a : Addr) (vs : List V) (ds : List D), xs = [.ref a] ∧ H a = some (.lst vs) ∧ vs.length ≤ sizeLine ∧ Reps K mg S H vs ds ∧ SrtOk ds ∧ ∀ l ws, H l = none → ws.length ≤ sizeLine → Reps K mg S H ws (srtd ds) → Q (.ref l) (upd H l (.lst ws))
theorem zip_snd {A B : Type} : ∀ {xs : List A} {ys : List B}, xs.length = ys.length → (xs.zip ys).map (·.2) = ys
  | [], [], _ => rfl
  | x :: xs, y :: ys, h => by rw [List.zip_cons_cons, List.map_cons, zip_snd (by simpa using h)]
theorem merge_zip {l : List (V × D)} : (l.mergeSort (PySem.W.dataLe false fun p => py p.2)).map (·.2) = srtd (l.map (·.2)) := by
  unfold srtd
  exact List.map_mergeSort fun a _ b _ => rfl
theorem cr_sortedD {X : Cx} (hu : X.A.units + 64 < cLine) : CallR X (.builtin "sorted") (rSortedD X.K X.mg) := by
  intro pins s σ H xs us Q I r h
  obtain ⟨S, a, vs, ds, rfl, hs, hz, rp, ⟨hp, h1, h2⟩, q⟩ := h
  obtain ⟨its, rv, hl, _⟩ := I.list (.of hs)
  rw [Vals.ref1 r]
  have hlen := rp.len
  have hlv := rv.length
  have hzs : (vs.zip ds).map (·.2) = ds := zip_snd hlen
  have henc : (vs.zip ds).map (fun p => py p.2) = ds.map py := by
    conv => rhs; rw [← hzs]
    rw [List.map_map]
    rfl
  refine PySem.W.sorted_data (R := fun u (p : V × D) => RelV p.1 u ∧ p ∈ vs.zip ds) (enc := fun p => py p.2) (bs := vs.zip ds) hl.isList ?_ ?_ (by rw [henc]; exact h1) (by rw [henc]; exact h2) ?_ ?_ ?_
  · refine eachIs_of rv hlen fun i u v d e1 e2 e3 rr => ⟨rr, ?_⟩
    exact List.mem_of_getElem? (i := i) (List.getElem?_zip_eq_some.mpr ⟨e2, e3⟩)
  · refine eachIs_of rv hlen fun i u v d e1 e2 e3 rr => ?_
    obtain ⟨d', e4, p⟩ := rp.get e2
    rw [e3] at e4
    cases e4
    exact p.reads I 30 u (hp d (List.mem_of_getElem? e3)) rr
  · rw [List.length_zip, ← hlen, Nat.min_self]
    exact hz
  · intro b hb
    have := (pl_py 30 b.2 (hp b.2 (by rw [← hzs]; exact List.mem_map_of_mem hb))).2
    show X.A.units + 2 + (py b.2).depth < cLine
    omega
  · intro out ho he
    obtain ⟨ep, he'⟩ := PyProof.Rows.sortedAll_at s.heap its out.toArray
    have hz2 : ((vs.zip ds).mergeSort (PySem.W.dataLe false fun p => py p.2)).length = vs.length := by
      rw [List.length_mergeSort, List.length_zip, ← hlen, Nat.min_self]
    have hval := each_vals (fun u p z => z.1) he
    have hlen2 : (((vs.zip ds).mergeSort (PySem.W.dataLe false fun p => py p.2)).map (·.1)).length ≤ sizeLine := by
      rw [List.length_map, hz2]
      exact hz
    refine ⟨.ref _, upd H (s.heap.objs.size + 1) (.lst (((vs.zip ds).mergeSort (PySem.W.dataLe false fun p => py p.2)).map (·.1))), I.laid (t' := s.toks) (fun _ _ => PyProof.Rows.sortedAll_old) (Nat.le_succ _) ⟨hlen2, out, ep, hval, he'⟩, rfl, q _ _ (I.hok.fresh (Nat.le_succ _)) hlen2 ?_⟩
    have hr := reps_zip (K := X.K) (mg := X.mg) (S := S) (H := H) (l := (vs.zip ds).mergeSort (PySem.W.dataLe false fun p => py p.2)) fun p hpm => rp.zip p ((List.mergeSort_perm _ _).mem_iff.mp hpm)
    rw [merge_zip, hzs] at hr
    exact hr
noncomputable def bSorted : List D → Rs VD
  | [.lst ds] => if SrtOk ds then .ok (.own (.lst (srtd ds))) else .stuck
  | _ => .stuck
end Pu
namespace Pu
open PySem L2
open Classical
/-! ## what a slot owns is changed -/
section
variable {K : PySem.W.Frag} {mg : Str → Option Value} {C : FC} {r : Env} {T : Tp} {σ : L2.St} {H H' : Hp} {i : Nat} {p : Addr} {d d' : D}
theorem ss_own (e : r[i]? = some (some (.own d))) (a : Addr) : SS C Z0 (r.set i (some (.own d'))) σ a ↔ SS C Z0 r σ a := by
  constructor
  · rintro (z | z | ⟨j, u, z1, z2⟩ | z)
    · exact .inl z
    · exact .inr (.inl z)
    · rcases set_at z1 with ⟨ej, q⟩ | ⟨ne, q⟩
      · subst ej
        exact .inr (.inr (.inl ⟨_, _, e, z2⟩))
      · exact .inr (.inr (.inl ⟨j, u, q, z2⟩))
    · exact z.elim
  · rintro (z | z | ⟨j, u, z1, z2⟩ | z)
    · exact .inl z
    · exact .inr (.inl z)
    · by_cases ej : j = i
      · subst ej
        exact .inr (.inr (.inl ⟨_, d', by rw [List.getElem?_set_self (lt_of_get z1)], z2⟩))
      · exact .inr (.inr (.inl ⟨j, u, by rw [List.getElem?_set_ne (Ne.symm ej)]; exact z1, z2⟩))
    · exact z.elim
theorem Holds.upd (h : Holds K mg C Z0 r T σ H) (e : r[i]? = some (some (.own d))) (es : σ[i]? = some (some (.ref p))) (k : ∀ a o, a ≠ p → H a = some o → H' a = some o) (o : OwnAt K mg (SS C Z0 r σ) H' p d') : Holds K mg C Z0 (r.set i (some (.own d'))) T σ H' := by
  obtain ⟨p', ep, _, g1, g2, _, g4⟩ := h.own i d e
  rw [es] at ep
  cases ep
  have sp : SS C Z0 r σ p := .inr (.inr (.inl ⟨i, d, e, es⟩))
  have kk : ∀ a o, H a = some o → ¬ SS C Z0 r σ a → H' a = some o := fun a o q s => k a o (fun z => s (by rw [z]; exact sp)) q
  have n1 : ∀ (H : Hp) a o, H a = some o → ¬ SS C Z0 r σ a → ¬ SS C Z0 (r.set i (some (.own d'))) σ a := fun _ a _ _ s z => s ((ss_own e a).mp z)
  have om := o.there
  have ke : ∀ a o, H a = some o → Mut (some o) → ∃ o', H' a = some o' ∧ Mut (some o') := fun a o q m => by
    by_cases z : a = p
    · rw [z]
      exact om
    · exact ⟨o, k a o z q, m⟩
  refine ⟨by rw [List.length_set]; exact h.len, fun a o q z => ?_, fun j u q => ?_, fun j u q => ?_, fun j l a u w q1 q2 q3 q4 => ?_, ?_, fun j q => ?_, fun a s => ?_, fun _ z => z.elim, fun q hq => (h.pin q hq).go kk (n1 H), h.tree.mk' kk (n1 H) (fun q a _ _ o e => k q o (fun z => g4 (by rw [← z]; exact a.1)) e) (fun j s d q => by
    rcases set_at q with ⟨_, q⟩ | ⟨ne, q⟩
    · cases q
    · exact ⟨q, rfl⟩) fun _ a b c => ⟨a, b, c⟩⟩
  · refine k a o (fun w => ?_) (h.frame a o q z)
    rw [w, g1] at q
    cases q
  · rcases set_at q with ⟨_, q⟩ | ⟨ne, q⟩
    · cases q
    · obtain ⟨v, e1, q1⟩ := h.val j u q
      exact ⟨v, e1, q1.go kk (n1 H)⟩
  · rcases set_at q with ⟨ej, q⟩ | ⟨ne, q⟩
    · cases q
      subst ej
      exact ⟨p, es, o.go (fun _ e => e) (fun _ _ e _ => e) (n1 H'), g1, g2, fun z => z, g4⟩
    · obtain ⟨v, e1, o2, w⟩ := h.own j u q
      refine ⟨v, e1, o2.go (fun o z => k v o (fun z2 => ?_) z) kk (n1 H), w⟩
      subst z2
      exact ne (h.inj j i v u d q e e1 es)
  · have q1' : ∃ u, r[j]? = some (some (.own u)) := by
      rcases set_at q1 with ⟨ej, q⟩ | ⟨ne, q⟩
      · subst ej
        exact ⟨_, e⟩
      · exact ⟨_, q⟩
    have q2' : ∃ u, r[l]? = some (some (.own u)) := by
      rcases set_at q2 with ⟨ej, q⟩ | ⟨ne, q⟩
      · subst ej
        exact ⟨_, e⟩
      · exact ⟨_, q⟩
    obtain ⟨_, q1'⟩ := q1'
    obtain ⟨_, q2'⟩ := q2'
    exact h.inj j l a _ _ q1' q2' q3 q4
  · have t := h.tape
    unfold TapeOk at t ⊢
    cases hc : C.tp with
    | none =>
      rw [hc] at t
      exact t
    | some u =>
      rw [hc] at t
      obtain ⟨t, e1, o2⟩ := t
      exact ⟨t, e1, o2.go (fun o z => k u o (fun z2 => g2 (by rw [← z2]; exact hc)) z) kk (n1 H)⟩
  · rcases set_at q with ⟨ej, q⟩ | ⟨ne, q⟩
    · cases q
    · exact h.tslot j q
  · obtain ⟨o1, q, m⟩ := h.st a s
    exact ke a o1 q m
end
/-! ## expressions that change what slots own -/
abbrev DEm := Env → Tp → Rs (D × Env × Tp)
def GM (K : PySem.W.Frag) (mg : Str → Option Value) (C : FC) (σ : L2.St) (Q : VK) : D × Env × Tp → Prop := fun q => ∀ v H', Holds K mg C Z0 q.2.1 q.2.2 σ H' → Rep K mg (SS C Z0 q.2.1 σ) H' v q.1 → Q v H'
def tM (K : PySem.W.Frag) (mg : Str → Option Value) (C : FC) (f : DEm) : TE := fun σ H Q => ∃ r T, Holds K mg C Z0 r T σ H ∧ PostG K mg C σ (GM K mg C σ Q) (f r T)
abbrev SM (X : Cx) (C : FC) (e : Expr) (f : DEm) : Prop := PE X e (tM X.K X.mg C f)
/-- a method that changes: by values -/
def MtD (K : PySem.W.Frag) (mg : Str → Option Value) (r : V → List V → Hp → VK → Prop) (mo : D → List D → Option (D × D)) : Prop :=
  ∀ (S : Addr → Prop) (H : Hp) (p : Addr) (d : D) (vs : List V) (ds : List D) (Q : VK) (d' z : D), S p → OwnAt K mg S H p d → Reps K mg S H vs ds → mo d ds = some (d', z) →
    (∀ v H', (∀ a o, a ≠ p → H a = some o → H' a = some o) → OwnAt K mg S H' p d' → Rep K mg S H' v z → Q v H') → r (.ref p) vs H Q
/-- what kind of thing -/
def isLst : D → Bool
  | .lst _ => true
  | _ => false
def isDct : D → Bool
  | .dct _ _ => true
  | _ => false
@[simp] theorem isLst_lst (ds : List D) : isLst (.lst ds) = true := rfl
@[simp] theorem isDct_dct (t : Bool) (ds : List (D × D)) : isDct (.dct t ds) = true := rfl
def KindOk (K : PySem.W.Frag) (mg : Str → Option Value) (T : String) (is : D → Bool) : Prop := ∀ S H p d, OwnAt K mg S H p d → is d = true → tyV K T (.ref p) H
theorem kind_lst {K : PySem.W.Frag} {mg : Str → Option Value} : KindOk K mg "list" isLst := fun S H p d o e => by
  cases o with
  | lst h z q => exact .inl ⟨rfl, _, .inl (.of h)⟩
  | dK h z g q => cases e
  | dT h z g q => cases e
  | ins h m g q => cases e
  | dcn => cases e
def eMut (i : Nat) (is : D → Bool) (mo : D → List D → Option (D × D)) (g : DA) : DEm := fun r T => match r[i]? with
  | some (some (.own d)) => if is d = true then (g r T).bind fun p => (rO (mo d p.1)).bind fun q => .ok (q.2, r.set i (some (.own q.1)), p.2) else .stuck
  | _ => .stuck
/-- .. of one argument that changes too -/
def eMutM (i : Nat) (is : D → Bool) (mo : D → List D → Option (D × D)) (f : DEm) : DEm := fun r T => match r[i]? with
  | some (some (.own d)) => if is d = true then (f r T).bind fun p => (match p.2.1[i]? with
    | some (some (.own d2)) => (rO (mo d2 [p.1])).bind fun q => .ok (q.2, p.2.1.set i (some (.own q.1)), p.2.2)
    | _ => .stuck) else .stuck
  | _ => .stuck
theorem rO_ex {A B : Type} {K : PySem.W.Frag} {mg : Str → Option Value} {C : FC} {σ : L2.St} {G : B → Prop} {o : Option A} {g : A → Rs B} (h : PostG K mg C σ G ((rO o).bind g)) : ∃ a, o = some a ∧ PostG K mg C σ G (g a) := by
  cases o with
  | none => exact (show False from h).elim
  | some a => exact ⟨a, rfl, h⟩
theorem own_ex {B : Type} {K : PySem.W.Frag} {mg : Str → Option Value} {C : FC} {σ : L2.St} {G : B → Prop} {o : Option (Option VD)} {g : D → Rs B} (h : PostG K mg C σ G (match o with
    | some (some (.own d)) => g d
    | _ => .stuck)) : ∃ d, o = some (some (.own d)) ∧ PostG K mg C σ G (g d) := by
  cases o with
  | none => exact (show False from h).elim
  | some w =>
    cases w with
    | none => exact (show False from h).elim
    | some w =>
      cases w with
      | own d => exact ⟨d, rfl, h⟩
      | _ => exact (show False from h).elim
section
variable {X : Cx} {C : FC} {e : Expr} {es : List Expr} {x : Str} {g : DA} {is : D → Bool} {mo : D → List D → Option (D × D)} {r : V → List V → Hp → VK → Prop} {T id : String} {name : Str} {apos cpos p : Pos} {f : DEm}
theorem mut_end {K : PySem.W.Frag} {mg : Str → Option Value} {C : FC} {ρ : Env} {T : Tp} {σ : L2.St} {H : Hp} {i : Nat} {q : Addr} {d : D} {vs : List V} {Q : VK} (h1 : Holds K mg C Z0 ρ T σ H) (ei : ρ[i]? = some (some (.own d))) (es : σ[i]? = some (some (.ref q)))
    {d' z : D} (P3 : GM K mg C σ Q (z, ρ.set i (some (.own d')), T)) : ∀ v H', (∀ a o, a ≠ q → H a = some o → H' a = some o) → OwnAt K mg (SS C Z0 ρ σ) H' q d' → Rep K mg (SS C Z0 ρ σ) H' v z → Q v H' := fun v H' k o p =>
  P3 v H' (h1.upd ei es k o) (p.go (fun _ _ e _ => e) fun a _ _ s w => s ((ss_own ei a).mp w))
theorem se_mut (i : Nat) (hk : KindOk X.K X.mg T is) (hd : MtD X.K X.mg r mo) (pa : PlainAttrs T) (slot : Slot T name id) (hty : typeOf (.builtin id) = pure (.type "method_descriptor")) (hm : MtR X id r) (ha : SA X C (e :: es) g)
    (hN : X.N[i]? = some x := by rfl) (hv : Vis X.env.scope x := by first | exact Or.inl rfl | exact Or.inr (Or.inl rfl) | exact Or.inr (Or.inr rfl)) (hdb : (x == ("__debug__" : Str)) = false := by decide) (hcd : (x == ("__classdict__" : Str)) = false := by decide)
    (hbase : attributeBase (.Name x p) name X.env (eval (.Name x p) X.env) = eval (.Name x p) X.env := by rfl)
    (hfew : ((backTo cpos (starEach (e :: es) X.env)).all (fun x => !x.1) && (backToKw cpos (keywordEach [] X.env)).all (fun x => x.1.isSome)
      && decide ((e :: es).length + ([] : List Keyword).length + (if ([] : List Keyword).isEmpty then 0 else 1) < 30)) = true := by rfl)
    (hline : (apos.endLine == cpos.line) = true := by rfl) (hs : starEach (e :: es) X.env = (false, eval e X.env) :: starEach es X.env := by rfl) (hplain : (backTo cpos (starEach es X.env)).any (·.1) = false := by rfl) :
    SM X C (.Call (.Attribute (.Name x p) name apos) (e :: es) [] cpos) (eMut i is mo g) := by
  refine pe_imp (pe_bm pa slot hty hm (pe_var hN hv hdb hcd) ha hbase hfew hline hs hplain) ?_
  rintro σ H Q ⟨ρ, T, h, P⟩
  unfold eMut at P
  obtain ⟨d, ei, P⟩ := own_ex P
  obtain ⟨hi, P⟩ := postG_if P
  obtain ⟨q, es, o, _⟩ := h.own i d ei
  refine ⟨_, es, hk _ _ _ _ o hi, ρ, T, h, ga_bind P fun ds T' vs H1 h1 e1 p1 P1 => ?_⟩
  obtain ⟨⟨d', z⟩, em, P2⟩ := rO_ex P1
  obtain ⟨q', es', o1, _⟩ := h1.own i d ei
  rw [es] at es'
  cases es'
  exact hd _ H1 q d vs ds Q d' z (.inr (.inr (.inl ⟨i, d, ei, es⟩))) o1 p1 em (mut_end (vs := vs) h1 ei es P2)
end
/-! ## statements of such -/
def sDropM (f : DEm) : DS := fun r T => (f r T).bind fun p => .ok (.nx p.2.1, p.2.2)
def sAsgM (i : Nat) (f : DEm) : DS := fun r T => (f r T).bind fun p => .ok (.nx (p.2.1.set i (some (.val p.1))), p.2.2)
def sAsgMG (g : DG) (f : DEm) : DS := fun r T => (f r T).bind fun p => (rO (g p.1)).bind fun m => .ok (.nx (setE p.2.1 m), p.2.2)
def sRetM (f : DEm) : DS := fun r T => (f r T).bind fun p => .ok (.rt (.val p.1), p.2.2)
/-- a, b = e -/
def sAsgG (g : DG) (f : DE) : DS := fun r T => (dv (f r T)).bind fun p => (rO (g p.1)).bind fun m => .ok (.nx (setE r m), p.2)
section
variable {X : Cx} {C : FC} {e tg : Expr} {f : DEm} {fe : DE} {g : DG} {pos : Pos}
theorem ss_exprM (he : ∀ Y, SM X (C.plus Y) e f) (hs : swapsWith e none pos.line X.env = pure false := by rfl) : SSt X C (.Expr e pos) (sDropM f) := by
  refine ps_imp (ps_expr (pe_ex he) hs) ?_
  rintro D σ H ⟨ρ, T, ⟨Y, h, hY⟩, P⟩
  exact ⟨Y, ρ, T, h, (PostS.at hY P.bind).imp fun p P v H' h' _ => P σ H' ⟨Y, h', hY⟩⟩
theorem ss_setG (he : ∀ Y, SE X (C.plus Y) e fe) (hg : SG X tg g) (hs : swapsWithSole [tg] e pos.line X.env = pure false := by rfl) (hw : swappedStores [tg] e X.env = pure none := by rfl)
    (h1 : (assignEach [tg] X.env).map (·.2) = [assign tg X.env] := by rfl) : SSt X C (.Assign [tg] e pos) (sAsgG g fe) := by
  refine ps_imp (ps_asg (pe_ex he) hg hs hw h1) ?_
  rintro D σ H ⟨ρ, T, ⟨Y, h, hY⟩, P⟩
  refine ⟨Y, ρ, T, h, gs_dv h (PostS.at (σ := σ) hY P.bind) fun d T' v H' h' e1 q P => ?_⟩
  cases em : g d with
  | none => rw [em] at P; exact P.elim
  | some m =>
    rw [em] at P
    exact ⟨_, d, m, q, em, fun l hl => P _ H' ⟨Y, Holds.setAll hl h' fun _ _ _ s => s, hY⟩⟩
end
/-! ## x[i] = e -/
def PStD (K : PySem.W.Frag) (mg : Str → Option Value) (t : TSet) (so : D → D → D → Option D) : Prop :=
  ∀ (S : Addr → Prop) (H : Hp) (p : Addr) (d : D) (i v : V) (di dx : D) (Q : Hp → Prop) (d' : D), S p → OwnAt K mg S H p d → Top K mg S H i di → Rep K mg S H v dx → so d di dx = some d' →
    (∀ H', (∀ a o, a ≠ p → H a = some o → H' a = some o) → OwnAt K mg S H' p d' → Q H') → t (.ref p) i v H Q
def sSetI (i : Nat) (so : D → D → D → Option D) (fi fe : DE) : DS := fun r T => (dv (fe r T)).bind fun p => match r[i]? with
  | some (some (.own d)) => (dt (fi r p.2)).bind fun q => (rO (so d q.1 p.1)).bind fun d' => .ok (.nx (r.set i (some (.own d'))), q.2)
  | _ => .stuck
section
variable {X : Cx} {C : FC} {e ei : Expr} {fi fe : DE} {pos p1 p2 : Pos} {x : Str} {t : TSet} {so : D → D → D → Option D}
theorem ss_setI (i : Nat) (ht : PSet X t) (hd : PStD X.K X.mg t so) (he : ∀ Y, SE X (C.plus Y) e fe) (hi : ∀ Y, SE X (C.plus Y) ei fi)
    (hN : X.N[i]? = some x := by rfl) (hv : Vis X.env.scope x := by first | exact Or.inl rfl | exact Or.inr (Or.inl rfl) | exact Or.inr (Or.inr rfl)) (hdb : (x == ("__debug__" : Str)) = false := by decide) (hcd : (x == ("__classdict__" : Str)) = false := by decide)
    (ha : ∀ v, assign (.Subscript (.Name x p1) ei p2) X.env v = (do
      let ov ← holding [v] (eval (.Name x p1) X.env)
      let iv ← holding [v, ov] (eval ei X.env)
      standAt p2
      holding [v, ov, iv] (setItem ov iv v)
      release [v, ov, iv] []) := by intro _; rfl)
    (hs : swapsWithSole [.Subscript (.Name x p1) ei p2] e pos.line X.env = pure false := by rfl) (hw : swappedStores [.Subscript (.Name x p1) ei p2] e X.env = pure none := by rfl)
    (h1 : (assignEach [.Subscript (.Name x p1) ei p2] X.env).map (·.2) = [assign (.Subscript (.Name x p1) ei p2) X.env] := by rfl) : SSt X C (.Assign [.Subscript (.Name x p1) ei p2] e pos) (sSetI i so fi fe) := by
  refine ps_imp (ps_asg (pe_ex he) (pg_sub (pe_var hN hv hdb hcd) (pe_ex hi) ht ha) hs hw h1) ?_
  rintro D σ H ⟨ρ, T, ⟨Y, h, hY⟩, P⟩
  refine ⟨Y, ρ, T, h, gs_dv h (PostS.at (σ := σ) hY P.bind) fun d T' v H' h' e1 q P => ?_⟩
  have P := PostS.at (σ := σ) hY P
  obtain ⟨d0, ei, P⟩ := own_ex P
  obtain ⟨p, es, o, _⟩ := h'.own i d0 ei
  refine ⟨_, es, Y, ρ, T', h', gv_dt h' P fun di T2 vi H2 h2 e2 qi P2 => ?_⟩
  obtain ⟨d', em, P3⟩ := rO_ex P2
  obtain ⟨p', es', o2, _⟩ := h2.own i d0 ei
  rw [es] at es'
  cases es'
  exact hd _ H2 p d0 vi v di d _ d' (.inr (.inr (.inl ⟨i, d0, ei, es⟩))) o2 qi.top (q.ext e2) em fun H3 k o3 => (show ∀ σ' H', HoldsY X.K X.mg C (ρ.set i (some (.own d'))) T2 σ' H' → D.nx σ' H' from P3) σ H3 ⟨Y, h2.upd ei es k o3, hY⟩
end
/-- xs[i] = v of a list -/
def setL : D → D → D → Option D
  | .lst ds, .int k, v => (ixN ds.length k).map fun j => .lst (ds.set j v)
  | _, _, _ => none
theorem OwnAt.lstInv {K : PySem.W.Frag} {mg : Str → Option Value} {S : Addr → Prop} {H : Hp} {p : Addr} {ds : List D} (h : OwnAt K mg S H p (.lst ds)) : ∃ vs, H p = some (.lst vs) ∧ vs.length ≤ sizeLine ∧ Reps K mg S H vs ds := by
  cases h with
  | lst e z q => exact ⟨_, e, z, q⟩
theorem Reps.upd {K : PySem.W.Frag} {mg : Str → Option Value} {S : Addr → Prop} {H : Hp} {p : Addr} {u : HO} {vs : List V} {ds : List D} (hp : S p) (q : Reps K mg S H vs ds) : Reps K mg S (upd H p u) vs ds :=
  q.go (fun a o e s => by rw [upd_ne (fun z => s (by rw [z]; exact hp))]; exact e) fun _ _ _ s => s
theorem Rep.upd {K : PySem.W.Frag} {mg : Str → Option Value} {S : Addr → Prop} {H : Hp} {p : Addr} {u : HO} {v : V} {d : D} (hp : S p) (q : Rep K mg S H v d) : Rep K mg S (upd H p u) v d :=
  q.go (fun a o e s => by rw [upd_ne (fun z => s (by rw [z]; exact hp))]; exact e) fun _ _ _ s => s
theorem upd_else {H : Hp} {p : Addr} {u : HO} : ∀ a o, a ≠ p → H a = some o → upd H p u a = some o := fun a o n e => by
  rw [upd_ne n]
  exact e
theorem d_setL {K : PySem.W.Frag} {mg : Str → Option Value} : PStD K mg rSetL setL := fun S H p d i v di dx Q d' hp o ti rv e k => by
  unfold setL at e
  split at e
  · rename_i ds j
    cases ej : ixN ds.length j with
    | none => rw [ej] at e; cases e
    | some n =>
      rw [ej] at e
      cases e
      obtain ⟨vs, h1, z, q⟩ := o.lstInv
      refine ⟨p, vs, j, n, rfl, ti.int, h1, by rw [q.len]; exact ej, k _ upd_else (.lst upd_same (by rw [List.length_set]; exact z) ?_)⟩
      exact (q.upd hp).set (rv.upd hp) n
  · cases e
/-! ## methods of lists -/
def mAppend : D → List D → Option (D × D)
  | .lst ds, [x] => if ds.length < 16000000 then some (.lst (ds ++ [x]), .non) else none
  | _, _ => none
theorem ifo {A : Type} {p : Prop} [Decidable p] {x z : A} (h : (if p then some x else none) = some z) : p ∧ x = z := by
  by_cases c : p
  · rw [if_pos c] at h
    cases h
    exact ⟨c, rfl⟩
  · rw [if_neg c] at h
    cases h
theorem m_append {K : PySem.W.Frag} {mg : Str → Option Value} : MtD K mg rAppend mAppend := fun S H p d vs ds Q d' z hp o ra e k => by
  unfold mAppend at e
  split at e
  · obtain ⟨c, e⟩ := ifo e
    cases e
    obtain ⟨ws, h1, z1, q⟩ := o.lstInv
    cases ra with
    | cons r1 r2 =>
      cases r2
      have hl := q.len
      refine ⟨p, ws, _, rfl, rfl, h1, by rw [sizeLine_eq]; omega, k _ _ upd_else (.lst upd_same ?_ ?_) .non⟩
      · rw [List.length_append, List.length_singleton, sizeLine_eq]
        omega
      · exact (q.upd hp).app (.cons (r1.upd hp) .nil)
  · cases e
def mExtend : D → List D → Option (D × D)
  | .lst ds, [.lst xs] => if ds.length + xs.length ≤ 16000000 then some (.lst (ds ++ xs), .non) else none
  | _, _ => none
def mPop : D → List D → Option (D × D)
  | .lst ds, [] => (ds[ds.length - 1]?).map fun x => (.lst ds.dropLast, x)
  | .lst ds, [.int i] => (ixN ds.length i).bind fun j => (ds[j]?).map fun x => (.lst (ds.eraseIdx j), x)
  | _, _ => none
theorem Reps.dropLast {K : PySem.W.Frag} {mg : Str → Option Value} {S : Addr → Prop} {H : Hp} {vs : List V} {ds : List D} (q : Reps K mg S H vs ds) : Reps K mg S H vs.dropLast ds.dropLast := by
  rw [List.dropLast_eq_take, List.dropLast_eq_take, q.len]
  exact q.take _
def mInsert : D → List D → Option (D × D)
  | .lst ds, [.int i, x] => if ds.length < 16000000 ∧ 0 ≤ i ∧ i < 2 ^ 63 then some (.lst (ds.take i.toNat ++ [x] ++ ds.drop i.toNat), .non) else none
  | _, _ => none
def rInsert : V → List V → Hp → VK → Prop := fun x vs H Q => ∃ (l : Addr) (xs : List V) (i : Int) (y : V), x = .ref l ∧ vs = [.int i, y] ∧ H l = some (.lst xs) ∧ xs.length < sizeLine ∧ 0 ≤ i ∧ i < 2 ^ 63 ∧
    Q .non (upd H l (.lst (xs.take i.toNat ++ [y] ++ xs.drop i.toNat)))
theorem m_insert {K : PySem.W.Frag} {mg : Str → Option Value} : MtD K mg rInsert mInsert := fun S H p d vs ds Q d' z hp o ra e k => by
  unfold mInsert at e
  split at e
  · obtain ⟨⟨c1, c2, c3⟩, e⟩ := ifo e
    cases e
    obtain ⟨ws, h1, z1, q⟩ := o.lstInv
    cases ra with
    | cons r1 r2 =>
      cases r1
      cases r2 with
      | cons r2 r3 =>
        cases r3
        have hl := q.len
        refine ⟨p, ws, _, _, rfl, rfl, h1, by rw [sizeLine_eq]; omega, c2, c3, k _ _ upd_else (.lst upd_same ?_ ?_) .non⟩
        · rw [List.length_append, List.length_append, List.length_take, List.length_drop, List.length_singleton, sizeLine_eq]
          omega
        · exact (((q.take _).upd hp).app (.cons (r2.upd hp) .nil)).app ((q.drop _).upd hp)
  · cases e
def mReverse : D → List D → Option (D × D)
  | .lst ds, [] => some (.lst ds.reverse, .non)
  | _, _ => none
end Pu
namespace Pu
open PySem L2
open Classical
/-! ## the tape, where it is read -/
/-- tape[k], k known -/
def eTix (i k : Nat) : DE := fun r T => match r[i]? with
  | some (some .tape) => (match T with
    | some (.lst ds) => (rO ds[k]?).bind fun d => .ok (.val d, T)
    | _ => .stuck)
  | _ => .stuck
/-- tape[k] = e -/
def sTset (i k : Nat) (f : DE) : DS := fun r T => match r[i]? with
  | some (some .tape) => (dv (f r T)).bind fun p => (match p.2 with
    | some (.lst ds) => if k < ds.length then .ok (.nx r, some (.lst (ds.set k p.1))) else .stuck
    | _ => .stuck)
  | _ => .stuck
theorem tape_ex {B : Type} {K : PySem.W.Frag} {mg : Str → Option Value} {C : FC} {σ : L2.St} {G : B → Prop} {o : Option (Option VD)} {g : Rs B} (h : PostG K mg C σ G (match o with
    | some (some .tape) => g
    | _ => .stuck)) : o = some (some .tape) ∧ PostG K mg C σ G g := by
  cases o with
  | none => exact (show False from h).elim
  | some w =>
    cases w with
    | none => exact (show False from h).elim
    | some w =>
      cases w with
      | tape => exact ⟨rfl, h⟩
      | _ => exact (show False from h).elim
theorem lst_ex {B : Type} {K : PySem.W.Frag} {mg : Str → Option Value} {C : FC} {σ : L2.St} {G : B → Prop} {T : Tp} {g : List D → Rs B} (h : PostG K mg C σ G (match T with
    | some (.lst ds) => g ds
    | _ => .stuck)) : ∃ ds, T = some (.lst ds) ∧ PostG K mg C σ G (g ds) := by
  cases T with
  | none => exact (show False from h).elim
  | some d =>
    cases d with
    | lst ds => exact ⟨ds, rfl, h⟩
    | _ => exact (show False from h).elim
theorem atI_nat {A : Type} {xs : List A} {k : Nat} {x : A} (h : xs[k]? = some x) : L2.atI xs (k : Int) = some x := by
  have hk := lt_of_get h
  unfold L2.atI
  have e : ixN xs.length (k : Int) = some k := by
    unfold ixN
    rw [if_pos (by omega), if_pos (by omega)]
    rfl
  rw [e]
  exact h
theorem ixN_nat {n k : Nat} (h : k < n) : ixN n (k : Int) = some k := by
  unfold ixN
  rw [if_pos (by omega), if_pos (by omega)]
  rfl
section
variable {X : Cx} {C : FC} {x : Str} {f : DE} {e : Expr} {p p1 p2 pos : Pos} {j : Nat}
theorem tape_at {K : PySem.W.Frag} {mg : Str → Option Value} {ρ : Env} {T : Tp} {σ : L2.St} {H : Hp} {i : Nat} (h : Holds K mg C Z0 ρ T σ H) (e : ρ[i]? = some (some .tape)) : ∃ q t, C.tp = some q ∧ σ[i]? = some (some (.ref q)) ∧ T = some t ∧ CelAt K mg (SS C Z0 ρ σ) H q t := by
  obtain ⟨q, hc, es⟩ := h.tslot i e
  have t := h.tape
  unfold TapeOk at t
  rw [hc] at t
  obtain ⟨t, e1, o⟩ := t
  exact ⟨q, t, hc, es, e1, o⟩
theorem se_tix (i k : Nat) {ki : Int} (hk : ki = (k : Int) := by rfl) (hN : X.N[i]? = some x := by rfl) (hv : Vis X.env.scope x := by first | exact Or.inl rfl | exact Or.inr (Or.inl rfl) | exact Or.inr (Or.inr rfl)) (hdb : (x == ("__debug__" : Str)) = false := by decide) (hcd : (x == ("__classdict__" : Str)) = false := by decide)
    (hs : PlainIx (.Constant (.int ki) j p1) := by intro _ _; rfl) : SE X C (.Subscript (.Name x p) (.Constant (.int ki) j p1) pos) (eTix i k) := by
  subst hk
  refine pe_imp (pe_ix ix_seq (pe_var hN hv hdb hcd) pe_int hs) ?_
  rintro σ H Q ⟨ρ, T, h, P⟩
  unfold eTix at P
  obtain ⟨ei, P⟩ := tape_ex P
  obtain ⟨q, t, hc, es, eT, o⟩ := tape_at h ei
  obtain ⟨ds, eT2, P⟩ := lst_ex P
  obtain ⟨d, ed, P⟩ := rO_ex P
  rw [eT] at eT2
  cases eT2
  obtain ⟨vs, h1, z, rp⟩ := (o.own nofun).lstInv
  obtain ⟨v, ev, pv⟩ := rp.getD ed
  exact ⟨_, es, .inl ⟨q, vs, k, v, rfl, rfl, .inl (.of h1), atI_nat ev, P v H h Ext.refl pv⟩⟩
theorem ss_tset (i k : Nat) {ki : Int} (he : ∀ Y, SE X (C.plus Y) e f) (hk : ki = (k : Int) := by rfl) (hN : X.N[i]? = some x := by rfl) (hv : Vis X.env.scope x := by first | exact Or.inl rfl | exact Or.inr (Or.inl rfl) | exact Or.inr (Or.inr rfl)) (hdb : (x == ("__debug__" : Str)) = false := by decide) (hcd : (x == ("__classdict__" : Str)) = false := by decide)
    (ha : ∀ v, assign (.Subscript (.Name x p1) (.Constant (.int ki) j p) p2) X.env v = (do
      let ov ← holding [v] (eval (.Name x p1) X.env)
      let iv ← holding [v, ov] (eval (.Constant (.int ki) j p) X.env)
      standAt p2
      holding [v, ov, iv] (setItem ov iv v)
      release [v, ov, iv] []) := by intro _; rfl)
    (hs : swapsWithSole [.Subscript (.Name x p1) (.Constant (.int ki) j p) p2] e pos.line X.env = pure false := by rfl) (hw : swappedStores [.Subscript (.Name x p1) (.Constant (.int ki) j p) p2] e X.env = pure none := by rfl)
    (h1 : (assignEach [.Subscript (.Name x p1) (.Constant (.int ki) j p) p2] X.env).map (·.2) = [assign (.Subscript (.Name x p1) (.Constant (.int ki) j p) p2) X.env] := by rfl) : SSt X C (.Assign [.Subscript (.Name x p1) (.Constant (.int ki) j p) p2] e pos) (sTset i k f) := by
  subst hk
  refine ps_imp (ps_asg (pe_ex he) (pg_sub (pe_var hN hv hdb hcd) pe_int set_list ha) hs hw h1) ?_
  rintro D σ H ⟨ρ, T, ⟨Y, h, hY⟩, P⟩
  have P := PostS.at (σ := σ) hY P
  unfold sTset at P
  obtain ⟨ei, P⟩ := tape_ex P
  refine ⟨Y, ρ, T, h, gv_dv h P fun d T' v H' h' e1 q P => ?_⟩
  obtain ⟨ds, eT2, P⟩ := lst_ex P
  obtain ⟨hk, P⟩ := postG_if P
  obtain ⟨a, t, hc, es, eT, o⟩ := tape_at h' ei
  rw [eT] at eT2
  cases eT2
  obtain ⟨vs, h2, z, rp⟩ := (o.own nofun).lstInv
  have hc : C.tp = some a := hc
  have hp : SS (C.plus Y) Z0 ρ σ a := .inr (.inl hc)
  refine ⟨_, es, a, vs, (k : Int), k, rfl, rfl, h2, by rw [rp.len]; exact ixN_nat hk, ?_⟩
  refine (show ∀ σ' H', HoldsY X.K X.mg C ρ (some (.lst (ds.set k d))) σ' H' → D.nx σ' H' from P) σ _ ⟨Y, h'.move (fun b o e n => ?_) ss_same (fun _ _ _ _ _ z => z) ?_ (fun _ z => z.elim), hY⟩
  · rw [upd_ne (fun z => n (by rw [z]; exact hc))]
    exact e
  · show TapeOk X.K X.mg _ C.tp _ _
    unfold TapeOk
    rw [hc]
    exact ⟨_, rfl, .inl <| .lst upd_same (by rw [List.length_set]; exact z) ((rp.upd hp).set (q.upd hp) k)⟩
end
end Pu
namespace PySem
open Sem (wp)
set_option maxHeartbeats 1000000 in
theorem pu_enum_new {v : Value} {o : Obj} {H : Heap → Prop} (B : Begins v o H) :
    Meets (Builtin.«enumerate.__new__» ⟨[.type "enumerate", v], []⟩) (fun _ R s => H s.heap ∧
      R (.ok (.ret (.ref (s.heap.push o).objs.size))) { s with heap := (s.heap.push o).push { cls := .type "enumerate", data := .fields #[.none, .bool false, .ref s.heap.objs.size, rawInt 0, .none, .none] } }) :=
  .of_wp fun prog w A R s h => by
    obtain ⟨hp, g, d, tk, os⟩ := s; obtain ⟨h1, h⟩ := h
    have hsub := sub_enumerate
    have q1 : ∀ {A' : Around} {E : Value → Shared → Prop} {Q : Value → Shared → Prop}, Q (.ref hp.objs.size) ⟨hp.push o, g, d, tk, os⟩ → wpAny (model prog w) A' (pyIter v) Q E ⟨hp, g, d, tk, os⟩ :=
      fun q => B.iter prog w _ _ ⟨hp, g, d, tk, os⟩ _ h1 q
    wp_walk using q1
    refine wpAny_stack_any fun st => wpAny_pure ?_
    split
    · rename_i c _ _ _ _ _
      cases (c == Value.type "enumerate")
      · wp_walk using q1
        exact ⟨_, rfl, h⟩
      · wp_walk using q1
        exact ⟨_, rfl, h⟩
    · wp_walk using q1
      exact ⟨_, rfl, h⟩
theorem pu_enum {prog : Program} {w : World} {A : Around} {E : Value → Shared → Prop} {s : Shared} {v : Value} {o : Obj} {H : Heap → Prop} {Q : Value → Shared → Prop} (B : Begins v o H) (h1 : H s.heap)
    (h : ∀ h', IsEnum h' (s.heap.objs.size + 1) s.heap.objs.size 0 .none → h'.get? s.heap.objs.size = some o → h'.objs.size = s.heap.objs.size + 2 →
      (∀ b o, s.heap.get? b = some o → h'.get? b = some o) → Q (.ref (s.heap.objs.size + 1)) { s with heap := h' }) :
    wpAny (model prog w) A (call (.type "enumerate") [v]) Q E s := by
  refine callType_new F.called_enumerate (by decide) (F.typeCall_enumerate_1 _) (F.newCall_enumerate_1 _) (fun obj => F.args_object_init_2 obj _) F.entry_enumerate_new (pu_enum_new B) ⟨h1, ?_⟩
  have hz : (s.heap.push o).objs.size = s.heap.objs.size + 1 := Heap.size_push ..
  show _ ∧ _
  rw [hz]
  have he : IsEnum ((s.heap.push o).push { cls := .type "enumerate", data := .fields #[.none, .bool false, .ref s.heap.objs.size, rawInt 0, .none, .none] }) (s.heap.objs.size + 1) s.heap.objs.size 0 .none := by
    have := Heap.get?_push_size (s.heap.push o) (o := { cls := .type "enumerate", data := .fields #[.none, .bool false, .ref s.heap.objs.size, rawInt 0, .none, .none] }) rfl
    rw [hz] at this; exact this
  refine ⟨⟨_, he, rfl⟩, h _ he (Heap.get?_push_of_some _ (Heap.get?_push_size _ B.free)) (by rw [Heap.size_push, hz]) fun b o x => Heap.get?_push_of_some _ (Heap.get?_push_of_some _ x)⟩
end PySem
namespace Pu
open PySem L2
open Classical
def IteT (K : PySem.W.Frag) (a : Addr) : It :=
  ⟨fun i H => ∃ (xs : List V) (x : V), SqT K H a xs ∧ xs[i]? = some x, fun i H v H' => ∃ T x, v = .ref T ∧ H T = none ∧ H' = upd H T (.tup [.int (i : Nat), x]) ∧ ∀ xs, SqT K H a xs → xs[i]? = some x, fun i H => ∃ xs : List V, SqT K H a xs ∧ xs.length ≤ i⟩
theorem turn_enumT {P : Program} {w : World} {K : PySem.W.Frag} {elts : List Expr} {kk : Nat} {tpos : Pos} (a e it : Addr) (hne : a ≠ it) :
    Turn P w K (.Tuple elts kk tpos) (IteT K a) [e, it] e (fun i h => (∃ old, IsEnum h e it ((i : Nat) : Int) old) ∧ h.IsTupleIter it a i ∧ e ≠ it ∧ e ≠ a) where
  mem := by simp
  obj := fun i h st b hb => by
    obtain ⟨⟨old, he⟩, ⟨o, ho, hc, hd⟩, _⟩ := st
    have e' : b = e ∨ b = it := by simpa using hb
    rcases e' with z | z
    · rw [z]; exact ⟨_, he, fun v q => nomatch q⟩
    · rw [z]; exact ⟨o, ho, fun v q => by rw [hd] at q; cases q⟩
  keep := fun i h h' st k => let ⟨⟨old, he⟩, hi, hn⟩ := st; ⟨⟨old, k e (by simp) _ he⟩, hi.at fun o q => k it (by simp) o q, hn⟩
  item := by
    intro X hP hw hK hc i pins s σ H E I hf st hg
    subst hP hw hK
    obtain ⟨⟨old, he⟩, hit, hn, hea⟩ := st
    obtain ⟨xs, x, hq, hx⟩ := hg
    obtain ⟨its, rv, p, hz⟩ := I.tuple hq
    obtain ⟨u, hu, ru⟩ := rv.get hx
    have hel : e < s.heap.objs.size := Heap.lt_size he
    have hil : it < s.heap.objs.size := by obtain ⟨_, q, _⟩ := hit; exact Heap.lt_size q
    have hlt : i < its.toArray.size := by
      have := lt_of_get hu
      simpa using this
    refine wpAny_pyNext_enum_itemD (Draws.tuple (A := X.A.in1) (I.ok.hd hc) it a hne its.toArray) he ⟨hit, p⟩ hlt hn (by simp [hn, hea]) fun y h' tk hy ho hst' hT hsz hk => ?_
    obtain ⟨hit', _⟩ := hst'
    have hy' : its[i]? = some y := by simpa using hy
    rw [hu] at hy'
    cases hy'
    refine ⟨_, rfl, wpAny_letOwnedTupleGo_enum (s := { s with heap := h', toks := tk + 1 }) ho fun h'' he' sb => ?_⟩
    have hT2 : h''.get? s.heap.objs.size = some { cls := .type "tuple", data := .seq #[.int i tk, u] } := (sb.2 _ (Nat.ne_of_gt hel)).trans hT
    have new : ObjOk X.prog X.w (upd H s.heap.objs.size (.tup [.int (i : Nat), x])) h'' s.heap.objs.size (.tup [.int (i : Nat), x]) :=
      ⟨by show 2 ≤ sizeLine; decide, [.int i tk, u], .cons ⟨_, rfl⟩ (.cons ru .nil), ⟨_, hT2, rfl, _, rfl⟩⟩
    have I1 : Inv X pins σ (upd H s.heap.objs.size (.tup [.int (i : Nat), x])) { s with heap := h'', toks := tk + 1 } :=
      I.turnedNew (ch := [e, it]) (fun b ob hb q => (sb.2 b (fun z => hb (by simp [z]))).trans (hk b ob (fun z => hb (by simp [z])) (fun z => hb (by simp [z])) q)) hf (Nat.le_refl _) new
    refine ⟨.ref s.heap.objs.size, _, I1, rfl, ⟨_, x, rfl, I.hok.fresh (Nat.le_refl _), rfl, fun ys hy => by rw [I.tuple_inj hy hq]; exact hx⟩, ⟨⟨u, ?_⟩, hit'.at fun o q => (sb.2 it (Ne.symm hn)).trans q, hn, hea⟩, fun b hb => ?_⟩
    · have e1 : ((i + 1 : Nat) : Int) = (i : Int) + 1 := by omega
      rw [e1]; exact he'
    · have hb' : b < s.heap.objs.size := by
        have e' : b = e ∨ b = it := by simpa using hb
        rcases e' with z | z
        · rw [z]; exact hel
        · rw [z]; exact hil
      rw [upd_ne (Nat.ne_of_lt hb')]
      exact (hf b hb).1
  done := by
    intro X hP hw hK hc i pins s σ H E I hf st hg
    subst hP hw hK
    obtain ⟨⟨old, he⟩, hit, hn, hea⟩ := st
    obtain ⟨xs, hq, hx⟩ := hg
    obtain ⟨its, rv, p, hz⟩ := I.tuple hq
    obtain ⟨f0, f1, f2, f3, f4, f5⟩ := hf it (by simp)
    have hl := rv.length
    refine wpAny_pyNext_enum_endD (n := i) (St := fun j h => j = i ∧ h.IsTupleIter it a j ∧ h.IsTuple a its.toArray) (fp := [it, a]) (P := fun i v => its.toArray[i]? = some v) ?_ he ⟨rfl, hit, p⟩ fun h' eb => ⟨rfl, I.turned (t' := s.toks) (fun b o hb q => eb b o hb q) f0 f1 f3 f4 f5⟩
    have D := Draws.tuple (prog := X.prog) (w := X.w) (A := X.A.in1) (I.ok.hd hc) it a hne its.toArray
    refine ⟨fun j h st => D.live j h st.2, fun j h h' st k => ⟨st.1, D.frame j h h' st.2 k⟩, fun j s Q E hj st hQ => absurd hj (by rw [st.1]; exact Nat.lt_irrefl _), fun s Q E st hE => wpAny_nextOf_tuple_end (I.ok.hd hc) st.2.1 st.2.2 (by simp; omega) hE⟩
  self := fun A i s Q E st h => let ⟨⟨_, he⟩, _⟩ := st; wpAny_pyIter_enum he h
def iEnumT (K : PySem.W.Frag) (ta : TA) : TI := fun σ H R => ta σ H fun vs H1 => ∃ a xs, vs = [.ref a] ∧ SqT K H1 a xs ∧ R (IteT K a) H1
theorem pi_enumT {X : Cx} {e : Expr} {ta : TA} {p pos tpos : Pos} {elts : List Expr} {kk : Nat} (hg : Gl X "enumerate") (hm : X.mg "enumerate" = none) (ha : PA X [e] ta) (hs : starEach [e] X.env = [(false, eval e X.env)] := by rfl) :
    PI X (.Tuple elts kk tpos) (.Call (.Name "enumerate" p) [e] [] pos) (iEnumT X.K ta) := by
  refine ⟨fun pins s σ H R I h => ?_⟩
  refine PyProof.Rows.Call_ (ld_blt I hg hm PyProof.Rows.boot_enumerate (PyProof.Rows.callWith_type1 (thn (ha.run pos pins s σ H _ I h) fun us s1 ⟨vs, H1, I1, r1, q1⟩ => ?_) hs rfl))
  obtain ⟨a, xs, ex, hq, q⟩ := q1
  subst ex
  cases r1 with
  | cons r rr =>
    cases rr
    cases r
    obtain ⟨its, rv, p', hz⟩ := I1.tuple hq
    refine pu_enum (begins_tuple a its.toArray) p' fun h' he hit hsz hk => wpAny_pyIter_enum he ?_
    have I2 : Inv X pins σ H1 { s1 with heap := h' } := I1.kept (t' := s1.toks) hk
    have hal : a < s1.heap.objs.size := by obtain ⟨_, q, _⟩ := p'; exact Heap.lt_size q
    refine ⟨s1.heap.objs.size + 1, [s1.heap.objs.size + 1, s1.heap.objs.size], _, _, H1, rfl, I2, turn_enumT a (s1.heap.objs.size + 1) s1.heap.objs.size (Nat.ne_of_lt hal), ⟨⟨.none, he⟩, ⟨_, hit, rfl, rfl⟩, Nat.succ_ne_self _, fun z => absurd hal (by rw [← z]; exact Nat.not_lt.mpr (Nat.le_succ _))⟩, fun b hb => ?_, q⟩
    have e' : b = s1.heap.objs.size + 1 ∨ b = s1.heap.objs.size := by simpa using hb
    have hle : s1.heap.objs.size ≤ b := by
      rcases e' with z | z
      · rw [z]; exact Nat.le_add_right _ _
      · rw [z]; exact Nat.le_refl _
    exact I1.fpOk hle (I1.hok.fresh hle)
/-! ## enumerate(xs) -/
def enumD : Nat → List D → List D
  | _, [] => []
  | k, d :: ds => .tup [.int k, d] :: enumD (k + 1) ds
theorem enumD_get : ∀ (ds : List D) (k i : Nat), (enumD k ds)[i]? = (ds[i]?).map fun d => .tup [.int ((k + i : Nat) : Int), d]
  | [], _, _ => rfl
  | d :: ds, k, 0 => rfl
  | d :: ds, k, i + 1 => by
    have := enumD_get ds (k + 1) i
    rw [show k + 1 + i = k + (i + 1) from by omega] at this
    simpa [enumD] using this
theorem enumD_len : ∀ (ds : List D) (k : Nat), (enumD k ds).length = ds.length
  | [], _ => rfl
  | d :: ds, k => congrArg (· + 1) (enumD_len ds (k + 1))
section
variable {K : PySem.W.Frag} {mg : Str → Option Value}
theorem rep_pair {S : Addr → Prop} {H : Hp} {T : Addr} {x y : V} {dx dy : D} (t : Trk S H) (h : H T = none) (px : Rep K mg S H x dx) (py : Rep K mg S H y dy) : Rep K mg S (upd H T (.tup [x, y])) (.ref T) (.tup [dx, dy]) :=
  .tup (t.fresh h) upd_same (by show 2 ≤ sizeLine; decide) ((Reps.cons px (.cons py .nil)).go (fun a o e _ => same_new h a o e) fun _ _ _ s => s)
theorem pin_enumL {a : Addr} {ds : List D} (hz : ds.length ≤ sizeLine) : PinOk K mg (Ite K a) (enumD 0 ds) [(.ref a, .lst ds)] := ⟨by rw [enumD_len]; exact hz, fun S H t h i => by
  obtain ⟨b, vs, e, h1, z, q⟩ := (h _ List.mem_cons_self).sqL
  cases e
  refine ⟨fun d e => ?_, fun hi => ⟨vs, .inl (.of h1), by rw [q.len]; rw [enumD_len] at hi; exact hi⟩⟩
  rw [enumD_get] at e
  cases ed : ds[i]? with
  | none => rw [ed] at e; cases e
  | some d0 =>
    rw [ed] at e
    cases e
    obtain ⟨v, ev, p⟩ := q.getD ed
    refine ⟨⟨vs, v, .inl (.of h1), ev⟩, fun x H3 ⟨T, y, e1, e2, e3, e4⟩ => ?_⟩
    subst e1 e3
    have := e4 vs (.inl (.of h1))
    rw [ev] at this
    cases this
    refine ⟨same_new e2, ?_⟩
    rw [Nat.zero_add]
    exact rep_pair t e2 (.int _) p⟩
theorem pin_enumP {a : Addr} {ns : List Int} (hz : ns.length ≤ sizeLine) : PinOk K mg (IteT K a) (enumD 0 (ns.map D.int)) [(.ref a, .tpl ns)] := ⟨by rw [enumD_len, List.length_map]; exact hz, fun S H t h i => by
  obtain ⟨b, e, h1, z⟩ := (h _ List.mem_cons_self).tplT
  cases e
  refine ⟨fun d e => ?_, fun hi => ⟨_, h1, by rw [enumD_len, List.length_map] at hi; rw [List.length_map]; exact hi⟩⟩
  rw [enumD_get] at e
  cases ed : (ns.map D.int)[i]? with
  | none => rw [ed] at e; cases e
  | some d0 =>
    rw [ed] at e
    cases e
    obtain ⟨v, ev, p⟩ := (Reps.ints (K := K) (mg := mg) (S := S) (H := H) ns).getD ed
    refine ⟨⟨_, v, h1, ev⟩, fun x H3 ⟨T, y, e1, e2, e3, e4⟩ => ?_⟩
    subst e1 e3
    have := e4 _ h1
    rw [ev] at this
    cases this
    refine ⟨same_new e2, ?_⟩
    rw [Nat.zero_add]
    exact rep_pair t e2 (.int _) p⟩
theorem pin_enumT {a : Addr} {ds : List D} (hz : ds.length ≤ sizeLine) : PinOk K mg (IteT K a) (enumD 0 ds) [(.ref a, .tup ds)] := ⟨by rw [enumD_len]; exact hz, fun S H t h i => by
  obtain ⟨b, vs, e, h1, z, q⟩ := (h _ List.mem_cons_self).sqT
  cases e
  refine ⟨fun d e => ?_, fun hi => ⟨vs, h1, by rw [q.len]; rw [enumD_len] at hi; exact hi⟩⟩
  rw [enumD_get] at e
  cases ed : ds[i]? with
  | none => rw [ed] at e; cases e
  | some d0 =>
    rw [ed] at e
    cases e
    obtain ⟨v, ev, p⟩ := q.getD ed
    refine ⟨⟨vs, v, h1, ev⟩, fun x H3 ⟨T, y, e1, e2, e3, e4⟩ => ?_⟩
    subst e1 e3
    have := e4 vs h1
    rw [ev] at this
    cases this
    refine ⟨same_new e2, ?_⟩
    rw [Nat.zero_add]
    exact rep_pair t e2 (.int _) p⟩
theorem pin_enumK {a : Addr} {ds : List D} (hz : ds.length ≤ sizeLine) : PinOk K mg (IteT K a) (enumD 0 ds) [(.ref a, .ktp ds)] := ⟨by rw [enumD_len]; exact hz, fun S H t h i => by
  obtain ⟨b, vs, e, h1, z, q⟩ := (h _ List.mem_cons_self).ktpT
  cases e
  refine ⟨fun d e => ?_, fun hi => ⟨vs, h1, by rw [q.len]; rw [enumD_len] at hi; exact hi⟩⟩
  rw [enumD_get] at e
  cases ed : ds[i]? with
  | none => rw [ed] at e; cases e
  | some d0 =>
    rw [ed] at e
    cases e
    obtain ⟨v, ev, p⟩ := q.getD ed
    refine ⟨⟨vs, v, h1, ev⟩, fun x H3 ⟨T, y, e1, e2, e3, e4⟩ => ?_⟩
    subst e1 e3
    have := e4 vs h1
    rw [ev] at this
    cases this
    refine ⟨same_new e2, ?_⟩
    rw [Nat.zero_add]
    exact rep_pair t e2 (.int _) p⟩
end
def iEnu (f : DE) : DI := fun r T => (dv (f r T)).bind fun p => (seqD p.1).bind fun ds => .ok (enumD 0 ds, p.2)
def jEnu (f : DE) : DI := fun r T => (dt (f r T)).bind fun p => (seqD p.1).bind fun ds => .ok (enumD 0 ds, p.2)
section
variable {X : Cx} {C : FC} {l : Expr} {elts : List Expr} {kk : Nat} {f : DE} {p pos tpos : Pos}
theorem si_enum (h : SE X C l f) (hm : X.mg "enumerate" = none) (hg : Gl X "enumerate" := by rfl) (hs : starEach [l] X.env = [(false, eval l X.env)] := by rfl) : SI X C (.Tuple elts kk tpos) (.Call (.Name "enumerate" p) [l] [] pos) (iEnu f) := by
  refine pi_imp (pi_or (pi_enum hg hm (pa_cons h pa_nil hs) hs) (pi_enumT hg hm (pa_cons h pa_nil hs) hs)) ?_
  rintro σ H R ⟨ρ, T, h, P⟩
  rcases runs_dv P with ⟨d, T', ed, P1⟩ | ⟨c, fs, t, r2, ex⟩
  · rcases dt_seq P1 with ⟨ds, rfl, _⟩ | ⟨ds, rfl, _⟩ | ⟨ns, rfl, _⟩ | ⟨ds, rfl, _⟩
    · refine .inl ⟨ρ, T, h, gv_dvE h P fun d2 T2 v H1 ed2 h1 e1 p P3 => ?_⟩
      obtain rfl := ok_eq ed ed2
      obtain ⟨a, rfl⟩ := p.lstRef
      obtain ⟨b, vs, e, h2, z, q⟩ := (show Top X.K X.mg _ H1 _ _ from .inl p).sqL
      cases e
      exact ⟨a, vs, rfl, .inl (.of h2), P3 (Ite X.K a) [(.ref a, .lst ds)] H1 h1 e1 (fun w hw => by rw [List.mem_singleton.mp hw]; exact p) (pin_enumL (by rw [← q.len]; exact z))⟩
    · refine .inr ⟨ρ, T, h, gv_dvE h P fun d2 T2 v H1 ed2 h1 e1 p P3 => ?_⟩
      obtain rfl := ok_eq ed ed2
      obtain ⟨a, rfl⟩ := p.tupRef
      obtain ⟨b, vs, e, h2, z, q⟩ := (show Top X.K X.mg _ H1 _ _ from .inl p).sqT
      cases e
      exact ⟨a, vs, rfl, h2, P3 (IteT X.K a) [(.ref a, .tup ds)] H1 h1 e1 (fun w hw => by rw [List.mem_singleton.mp hw]; exact p) (pin_enumT (by rw [← q.len]; exact z))⟩
    · refine .inr ⟨ρ, T, h, gv_dvE h P fun d2 T2 v H1 ed2 h1 e1 p P3 => ?_⟩
      obtain rfl := ok_eq ed ed2
      obtain ⟨b, rfl, h2, z⟩ := (show Top X.K X.mg _ H1 _ _ from .inl p).tplT
      exact ⟨b, _, rfl, h2, P3 (IteT X.K b) [(.ref b, .tpl ns)] H1 h1 e1 (fun w hw => by rw [List.mem_singleton.mp hw]; exact p) (pin_enumP z)⟩
    · refine .inr ⟨ρ, T, h, gv_dvE h P fun d2 T2 v H1 ed2 h1 e1 p P3 => ?_⟩
      obtain rfl := ok_eq ed ed2
      obtain ⟨b, vs, rfl, h2, z, q⟩ := (show Top X.K X.mg _ H1 _ _ from .inl p).ktpT
      exact ⟨b, vs, rfl, h2, P3 (IteT X.K b) [(.ref b, .ktp ds)] H1 h1 e1 (fun w hw => by rw [List.mem_singleton.mp hw]; exact p) (pin_enumK (by rw [← q.len]; exact z))⟩
  · refine .inl ⟨ρ, T, h, ?_⟩
    unfold iEnu at P
    rw [ex] at P ⊢
    exact P
theorem sj_enum (h : SE X C l f) (hm : X.mg "enumerate" = none) (hg : Gl X "enumerate" := by rfl) (hs : starEach [l] X.env = [(false, eval l X.env)] := by rfl) : SJ X C (.Tuple elts kk tpos) (.Call (.Name "enumerate" p) [l] [] pos) (jEnu f) := by
  refine pi_imp (pi_or (pi_enum hg hm (pa_cons h pa_nil hs) hs) (pi_enumT hg hm (pa_cons h pa_nil hs) hs)) ?_
  rintro σ H R ⟨ρ, T, h, P⟩
  rcases runs_dt P with ⟨d, T', ed, P1⟩ | ⟨c, fs, t, r2, ex⟩
  · rcases dt_seq P1 with ⟨ds, rfl, _⟩ | ⟨ds, rfl, _⟩ | ⟨ns, rfl, _⟩ | ⟨ds, rfl, _⟩
    · refine .inl ⟨ρ, T, h, gv_dtE h P fun d2 T2 v H1 ed2 h1 e1 p P3 => ?_⟩
      obtain rfl := ok_eq ed ed2
      obtain ⟨b, vs, rfl, h2, z, q⟩ := p.top.sqL
      exact ⟨b, vs, rfl, .inl (.of h2), P3 (Ite X.K b) [(.ref b, .lst ds)] H1 h1 e1 (fun w hw => by rw [List.mem_singleton.mp hw]; exact p) (pin_enumL (by rw [← q.len]; exact z))⟩
    · refine .inr ⟨ρ, T, h, gv_dtE h P fun d2 T2 v H1 ed2 h1 e1 p P3 => ?_⟩
      obtain rfl := ok_eq ed ed2
      obtain ⟨b, vs, rfl, h2, z, q⟩ := p.top.sqT
      exact ⟨b, vs, rfl, h2, P3 (IteT X.K b) [(.ref b, .tup ds)] H1 h1 e1 (fun w hw => by rw [List.mem_singleton.mp hw]; exact p) (pin_enumT (by rw [← q.len]; exact z))⟩
    · refine .inr ⟨ρ, T, h, gv_dtE h P fun d2 T2 v H1 ed2 h1 e1 p P3 => ?_⟩
      obtain rfl := ok_eq ed ed2
      obtain ⟨b, rfl, h2, z⟩ := p.top.tplT
      exact ⟨b, _, rfl, h2, P3 (IteT X.K b) [(.ref b, .tpl ns)] H1 h1 e1 (fun w hw => by rw [List.mem_singleton.mp hw]; exact p) (pin_enumP z)⟩
    · refine .inr ⟨ρ, T, h, gv_dtE h P fun d2 T2 v H1 ed2 h1 e1 p P3 => ?_⟩
      obtain rfl := ok_eq ed ed2
      obtain ⟨b, vs, rfl, h2, z, q⟩ := p.top.ktpT
      exact ⟨b, vs, rfl, h2, P3 (IteT X.K b) [(.ref b, .ktp ds)] H1 h1 e1 (fun w hw => by rw [List.mem_singleton.mp hw]; exact p) (pin_enumK (by rw [← q.len]; exact z))⟩
  · refine .inl ⟨ρ, T, h, ?_⟩
    unfold jEnu at P
    rw [ex] at P ⊢
    exact P
end
end Pu
namespace Pu
open PySem L2 PyProof.Rows
/-- xs[::-1] of a list or a tuple -/
def dRv : D → Rs VD
  | .lst ds => .ok (.own (.lst ds.reverse))
  | .tup ds => .ok (.val (.tup ds.reverse))
  | _ => .stuck
end Pu
namespace Pu
open PySem L2
/-! ## a def, as the head tells it -/
def OkD (P : Program) (w : World) (K : PySem.W.Frag) (mg : Str → Option Value) (base : Heap) (k : Nat) (x : Str) (n : Nat) (io : Bool) (M : DM) : Prop :=
  ∃ (fd : FuncData) (ps : List Str), FnOk P w K mg base (L2.CX P w) k (He.ga K x) fd ps (SpD K mg n io M) ∧ Binds K fd ps [] ∧ PySem.W.keepIn K (.ref (He.ga K x)) = true ∧ mg x = some (.ref (He.ga K x))
section
variable {P : Program} {w : World} {K : PySem.W.Frag} {mg : Str → Option Value} {base : Heap}
theorem okF_of {x qual : Str} {params : Arguments} {body : List Stmt} {scope : Scope} {N ps : List Str} {k : Nat} {io : Bool} {g : DS} {fd : FuncData} (F : FunD K x qual params body scope [] [] (He.ga K x) fd) (S : FnScope N ps scope)
    (hbody : ∀ (cdv : Value) (A : Around) (outer : List PySem.Env) (s : Shared) (H : Hp) (E : XK) (C : FC), Room k (A.deeper (PyProof.Rows.envOfC qual scope s.heap.objs.size (He.ga K x) cdv)) → Takes (cxOf (L2.CX P w) P w K mg base N qual scope (He.ga K x) cdv A outer s H E) C.W →
      SSs (cxOf (L2.CX P w) P w K mg base N qual scope (He.ga K x) cdv A outer s H E) C body g) : FnOk P w K mg base (L2.CX P w) (k + 1) (He.ga K x) fd ps (SpD K mg ps.length io (runD N.length io g)) := by
  refine F.ok (CX := L2.CX P w) S (fun vs H Q E ⟨C, vs1, ds, T, _, hl, _⟩ => hl) fun cdv A outer s H vs Q E hr hsp => ?_
  obtain ⟨C0, vs1, ds, T, rfl, hl, st, a, t, r, P⟩ := hsp
  let C : FC := { C0 with W := fun cls d _ H => E cls d H, pin := [] }
  refine ⟨_, hbody cdv A outer s C0.H0 E C hr (takes_of rfl rfl rfl rfl), ?_⟩
  have hpl : ps.length ≤ N.length := by
    have := congrArg List.length S.pre
    rw [List.length_take] at this
    omega
  have ntree : ∀ (i : Nat) (s : Sh) (d : D), (env0 N.length io ds)[i]? ≠ some (some (.tree s d)) := fun i s d q => by
    rcases env0_get q with ⟨_, _, z⟩ | ⟨_, z, _⟩ <;> cases z
  refine ⟨env0 N.length io ds, T, (holds_start (C := C) (by rw [hl]; exact hpl) st a t r rfl).plus0 ntree, ?_⟩
  unfold runD at P
  cases q : g (env0 N.length io ds) T with
  | stuck =>
    rw [q] at P
    exact P.elim
  | exc c fs T' r' =>
    rw [q] at P
    exact fun σ cls d H' Y hY h1 x => P cls d H' h1.frame ((show TapeOk K mg (SS (C.plus Y) Z0 r' σ) C.tp T' H' from h1.tape).less fun a _ _ s z => s (s1_less a z)) (x.less fun a _ _ s z => s (s1_less a z))
  | ok p =>
    rw [q] at P
    obtain ⟨fl, T'⟩ := p
    cases fl with
    | nx r' => exact fun σ H ⟨Y, h1, hY⟩ => P .non H h1.frame (ret_val (C := C) h1 .non)
    | rt v => exact fun u H e1 q => P u H e1 q
    | bk r' => exact P.elim
    | ct r' => exact P.elim
theorem okD_of {x qual : Str} {params : Arguments} {body : List Stmt} {scope : Scope} {N ps : List Str} {k : Nat} {io : Bool} {g : DS} (F : ∃ fd, FunD K x qual params body scope [] [] (He.ga K x) fd) (hm : mg x = some (.ref (He.ga K x))) (S : FnScope N ps scope)
    (hb : ∀ (kV doc pm : Value) (an : Option Addr) (cdv ct : Value) (us : List Value), us.length = ps.length → bindArgs (PySem.W.fnOf x qual params body scope .none kV doc pm an cdv ct) ⟨us, []⟩ = pure (ps.zip us))
    (hbody : ∀ (cdv : Value) (A : Around) (outer : List PySem.Env) (s : Shared) (H : Hp) (E : XK) (C : FC), Room k (A.deeper (PyProof.Rows.envOfC qual scope s.heap.objs.size (He.ga K x) cdv)) → Takes (cxOf (L2.CX P w) P w K mg base N qual scope (He.ga K x) cdv A outer s H E) C.W →
      SSs (cxOf (L2.CX P w) P w K mg base N qual scope (He.ga K x) cdv A outer s H E) C body g) : OkD P w K mg base (k + 1) x ps.length io (runD N.length io g) := by
  obtain ⟨fd, F⟩ := F
  exact ⟨fd, ps, okF_of F S hbody, F.bindsN hb, F.kp, hm⟩
theorem OkD.mono {k j : Nat} {x : Str} {n : Nat} {io : Bool} {M N : DM} (h : OkD P w K mg base k x n io M) (e : M = N) : OkD P w K mg base k x n io N := e ▸ h
end
section
variable {X : Cx} {C : FC} {e : Expr} {es : List Expr} {g : DA} {pos p p2 : Pos} {x y : Str} {k j n : Nat} {M : DM}
theorem se_defO (F : OkD X.prog X.w X.K X.mg X.base j x n false M) (hr : Room k X.A) (tk : Takes X C.W) (ha : SA X C (e :: es) g) (hk : j ≤ k := by decide)
    (hg : Gl X x := by rfl) (hdb : (x == ("__debug__" : Str)) = false := by decide) (he : starEach (e :: es) X.env = (false, eval e X.env) :: starEach es X.env := by rfl) (hpl : (backTo pos (starEach es X.env)).any (·.1) = false := by rfl) :
    SE X C (.Call (.Name x p) (e :: es) [] pos) (eDef n M g) := by
  obtain ⟨fd, ps, F, b, kp, hm⟩ := F
  exact se_def F hm kp b (hr.mono hk) tk ha hg hdb he hpl
theorem se_defTO (i : Nat) (F : OkD X.prog X.w X.K X.mg X.base j x n true M) (hr : Room k X.A) (tk : Takes X C.W) (ha : SA X C es g) (hk : j ≤ k := by decide)
    (hN : X.N[i]? = some y := by rfl) (hv : Vis X.env.scope y := by first | exact Or.inl rfl | exact Or.inr (Or.inl rfl) | exact Or.inr (Or.inr rfl)) (hd : (y == ("__debug__" : Str)) = false := by decide) (hcd : (y == ("__classdict__" : Str)) = false := by decide)
    (hg : Gl X x := by rfl) (hdb : (x == ("__debug__" : Str)) = false := by decide) (he : starEach (.Name y p2 :: es) X.env = (false, eval (.Name y p2) X.env) :: starEach es X.env := by rfl) (hpl : (backTo pos (starEach es X.env)).any (·.1) = false := by rfl) :
    SE X C (.Call (.Name x p) (.Name y p2 :: es) [] pos) (eDefT i n M g) := by
  obtain ⟨fd, ps, F, b, kp, hm⟩ := F
  exact se_defT i F hm kp b (hr.mono hk) tk ha hN hv hd hcd hg hdb he hpl
end
/-! ## the law: its tape is made, the rest goes with it -/
def sTape (i : Nat) (f : DE) (g : DS) : DS := fun r T => (f r T).bind fun p => match p.1 with
  | .own d => (match g (r.set i (some .tape)) (some d) with
    | .ok (.rt v, _) => .ok (.rt v, none)
    | _ => .stuck)
  | _ => .stuck
theorem sss_tape {X : Cx} {C : FC} {e : Expr} {f : DE} {g : DS} {rest : List Stmt} {pos : Pos} (i : Nat) {x : Str} {pos' : Pos} (hN : X.N.Nodup) (he : ∀ Y, SE X (C.plus Y) e f) (hrest : ∀ p, SSs X { C with tp := some p } rest g) 
    (hi : X.N[i]? = some x := by rfl) (hx : Loc X.env.scope x := by first | exact Or.inl rfl | exact Or.inr rfl) (hs : swapsWith e (some (.Name x pos')) pos.line X.env = pure false := by rfl) (hf : X.fn x = true ∨ X.env.scope.names.lookup x = some .local := by first | exact .inl rfl | exact .inr rfl) :
    SSs X C (.Assign [.Name x pos'] e pos :: rest) (fun r T => if T.isNone then sTape i f g r T else .stuck) := by
  have hrest' : PSs X rest (fun E σ H => ∃ p, tS X.K X.mg { C with tp := some p } g E σ H) := ⟨fun ps s σ H E I ⟨p, q⟩ => (hrest p).run ps s σ H E I q⟩
  refine pss_imp (pss_cons (ps_set hN hi hx (pe_ex he) hs hf) hrest') ?_
  rintro D σ H ⟨ρ, T, ⟨Y, h, hY⟩, P⟩
  obtain ⟨hT, P⟩ := postS_if P
  have hc : C.tp = none := by
    have t : TapeOk X.K X.mg _ C.tp T H := h.tape
    unfold TapeOk at t
    cases q : C.tp with
    | none => rfl
    | some p =>
      rw [q] at t
      obtain ⟨t, e, _⟩ := t
      rw [e] at hT
      cases hT
  unfold sTape at P
  refine ⟨Y, ρ, T, h, (PostS.at hY P.bind).imp fun p P => ?_⟩
  obtain ⟨v, T'⟩ := p
  cases v with
  | own d =>
    intro p H' hp h1 e1 o
    have P : PostS X.K X.mg C (GS X.K X.mg C D) (match g (ρ.set i (some .tape)) (some d) with
      | .ok (.rt v, _) => .ok (.rt v, none)
      | _ => .stuck) := P
    cases q : g (ρ.set i (some .tape)) (some d) with
    | stuck => rw [q] at P; exact P.elim
    | exc c fs T r => rw [q] at P; exact P.elim
    | ok z =>
      rw [q] at P
      obtain ⟨fl, T2⟩ := z
      cases fl with
      | rt v =>
        have P : GS X.K X.mg C D (.rt v, none) := P
        have H0p : C.H0 p = none := back h h.frame hp
        have less : ∀ a, SS (({ C with tp := some p } : FC).plus Y) Z0 (ρ.set i (some .tape)) (σ.set i (some (.ref p))) a → SS (C.plus Y) (fun a => a = p) ρ σ a := fun a z => by
          rcases z with z | z | ⟨j, e, z1, z2⟩ | z
          · exact .inl z
          · cases z
            exact .inr (.inr (.inr rfl))
          · rcases set_at z1 with ⟨ej, q⟩ | ⟨ne, q⟩
            · cases q
            · rw [List.getElem?_set_ne (Ne.symm ne)] at z2
              exact .inr (.inr (.inl ⟨j, e, q, z2⟩))
          · exact z.elim
        have n : ∀ a o, H' a = some o → ¬ SS (C.plus Y) (fun a => a = p) ρ σ a → ¬ SS (({ C with tp := some p } : FC).plus Y) Z0 (ρ.set i (some .tape)) (σ.set i (some (.ref p))) a := fun a _ _ s z => s (less a z)
        refine ⟨p, ρ.set i (some .tape), some d, ⟨Y, ⟨by rw [List.length_set, List.length_set]; exact h1.len, fun a o e nt => h1.frame a o e (show C.tp ≠ some a by rw [hc]; intro z; cases z), fun j u z => ?_, fun j u z => ?_, fun j l a u w z1 z2 z3 z4 => ?_, ⟨d, rfl, .inl (o.go (fun _ e => e) (fun _ _ e _ => e) n)⟩, fun j z => ?_, h1.st, fun _ z => z.elim, fun a z => (h1.pin a z).go (fun _ _ e _ => e) n, h1.tree.mk' (fun _ _ e _ => e) n (fun _ _ _ _ _ e => e) (tree_set nofun) fun q a b c => ⟨a, b, fun z => by
          cases z
          obtain ⟨o, e, _⟩ := h.st p a.1
          rw [hp] at e
          cases e⟩⟩, hY⟩, ?_⟩
        · rcases set_at z with ⟨_, z⟩ | ⟨ne, z⟩
          · cases z
          · obtain ⟨v, e1, p1⟩ := h1.val j u z
            refine ⟨v, ?_, p1.go (fun _ _ e _ => e) n⟩
            rw [List.getElem?_set_ne (Ne.symm ne)]
            exact e1
        · rcases set_at z with ⟨_, z⟩ | ⟨ne, z⟩
          · cases z
          · obtain ⟨v, e1, o1, g1, g2, g3, g4⟩ := h1.own j u z
            refine ⟨v, ?_, o1.go (fun _ e => e) (fun _ _ e _ => e) n, g1, ?_, fun z => z, g4⟩
            · rw [List.getElem?_set_ne (Ne.symm ne)]
              exact e1
            · intro z
              cases z
              exact g3 rfl
        · rcases set_at z1 with ⟨_, z⟩ | ⟨ne, z1⟩
          · cases z
          · rcases set_at z2 with ⟨_, z⟩ | ⟨ne2, z2⟩
            · cases z
            · rw [List.getElem?_set_ne (Ne.symm ne)] at z3
              rw [List.getElem?_set_ne (Ne.symm ne2)] at z4
              exact h1.inj j l a _ _ z1 z2 z3 z4
        · rcases set_at z with ⟨ej, _⟩ | ⟨ne, z⟩
          · subst ej
            have hj := lt_of_get z
            rw [List.length_set, h1.len] at hj
            exact ⟨p, rfl, List.getElem?_set_self hj⟩
          · obtain ⟨q, e1, _⟩ := h1.tslot j z
            have e1 : C.tp = some q := e1
            rw [hc] at e1
            cases e1
        · rw [q]
          intro u H2 e2 r2
          have e3 : Ext C C.H0 H2 := fun a o e _ => e2 a o e (fun z => by
            cases z
            have e : C.H0 p = some o := e
            rw [H0p] at e
            cases e)
          refine P u H2 e3 ?_
          have n1 : ∀ a, S1 C a → S1 { C with tp := some p } a := fun a z => by
            rcases z with z | z
            · exact .inl z
            · rw [hc] at z
              cases z
          have tn : ∀ S, TapeOk X.K X.mg S C.tp none H2 := fun S => by
            unfold TapeOk
            rw [hc]
          cases v with
          | val d => exact ⟨r2.1.go (fun _ _ e _ => e) fun a _ _ s z => s (n1 a z), tn _⟩
          | own d =>
            obtain ⟨p', eu, g1, g2, g3, g4⟩ := r2
            refine ⟨p', eu, g1, (fun z => by rw [hc] at z; cases z), g3.go (fun _ e => e) (fun _ _ e _ => e) (fun a _ _ s z => s ?_), tn _⟩
            rcases z with z | z
            · exact .inl (n1 a z)
            · exact .inr z
          | peek d => exact r2.elim
          | tape => exact r2.elim
          | look d => exact r2.elim
          | tree s d =>
            obtain ⟨F, hF, hn, o, t⟩ := r2
            refine ⟨F, fun p z => ⟨(hF p z).1, fun w => by rw [hc] at w; cases w⟩, hn, o.go (fun _ _ e _ => e) (fun a _ _ s z => s ?_) (fun _ _ _ e => e), tn _⟩
            rcases z with z | z
            · exact .inl (n1 a z)
            · exact .inr z
      | _ => exact P.elim
  | _ => exact (show False from P).elim
/-- the law holds, if its mirror says True of every script -/
theorem law_sp {K : PySem.W.Frag} {mg : Str → Option Value} {M : DM} (hM : ∀ ns : List Int, ns.length ≤ 63 → ∃ T, M [.scr ns] none = .ok (.val (.bl true), T)) (H : Hp) (a : Addr) (ns : List Int) (hl : ns.length ≤ 63) (hs : SqL K H a (ns.map V.int)) :
    SpD K mg 1 false M [.ref a] H (fun v _ => v = .bl true) (fun _ _ _ => False) := by
  obtain ⟨T, e⟩ := hM ns hl
  have z : ns.length ≤ sizeLine := by rw [sizeLine_eq]; omega
  have r : Rep K mg (S1 (⟨H, fun _ => False, none, fun _ _ _ _ => False, [], fun _ => False⟩ : FC)) H (.ref a) (.scr ns) := by
    have ns1 : ¬ S1 (⟨H, fun _ => False, none, fun _ _ _ _ => False, [], fun _ => False⟩ : FC) a := fun z => by
      rcases z with z | z
      · exact z
      · cases z
    rcases hs with (hs | ⟨o, hs⟩) | hs
    · exact .scr ns1 hs (fun H' e => .inl (.inl e)) z
    · exact .scr ns1 hs (fun H' e => .inl (.inr ⟨o, e⟩)) z
    · exact .scrK (fun H' => .inr hs) z
  refine ⟨⟨H, fun _ => False, none, fun _ _ _ _ => False, [], fun _ => False⟩, [.ref a], [.scr ns], none, rfl, rfl, fun _ z => z.elim, ⟨rfl, rfl⟩, rfl, .cons r .nil, ?_⟩
  rw [e]
  intro u H' _ r
  have r : Rep K mg (S1 (⟨H, fun _ => False, none, fun _ _ _ _ => False, [], fun _ => False⟩ : FC)) H' u (.bl true) := r.1
  cases r
  rfl
end Pu
namespace Pu
open PySem L2
open Classical
/-! ## a op b op c -/
def eChain (op op' : D → D → Rs VD) (f g h : DE) : DE := fun r T => (dt (f r T)).bind fun p => (dt (g r p.2)).bind fun q => (op p.1 q.1).bind fun z => match z with
  | .val (.bl k) => if k = true then (dt (h r q.2)).bind fun w => lift (op' q.1 w.1) w.2 else .ok (.val (.bl false), q.2)
  | _ => .stuck
section
variable {X : Cx} {C : FC} {a b c : Expr} {f g h : DE} {pos : Pos} {r r' : R2} {op op' : D → D → Rs VD} {o o' : CmpOp}
theorem quiet_ex {B : Type} {K : PySem.W.Frag} {mg : Str → Option Value} {C : FC} {σ : L2.St} {G : B → Prop} {x : Rs VD} {k : VD → Rs B} (hx : Quiet x) (P : PostG K mg C σ G (x.bind k)) : ∃ z, x = .ok z ∧ PostG K mg C σ G (k z) := by
  rcases hx with e | ⟨d, e⟩ | ⟨d, e⟩ <;> rw [e] at P
  · exact P.elim
  · exact ⟨_, e, P⟩
  · exact ⟨_, e, P⟩
theorem t_chain (hd : R2D X.K X.mg r op) (hq : Quiet2 op) (hd' : R2D X.K X.mg r' op') (hq' : Quiet2 op') : ∀ (σ : L2.St) (H : Hp) (Q : VK), tE X.K X.mg C (eChain op op' f g h) σ H Q → tChain r r' (tE X.K X.mg C f) (tE X.K X.mg C g) (tE X.K X.mg C h) σ H Q := by
  rintro σ H Q ⟨ρ, T, h0, P⟩
  refine ⟨ρ, T, h0, gv_dt h0 P fun d T' v H1 h1 e1 p P1 => ⟨ρ, T', h1, gv_dt h1 P1 fun d2 T2 v2 H2 h2 e2 p2 P2 => ?_⟩⟩
  obtain ⟨z, ez, P3⟩ := quiet_ex (hq d d2) P2
  have en : ∀ k, z = .val (.bl k) → r v v2 H2 (fun z H3 => ∃ k, z = .bl k ∧ (if k = true then tE X.K X.mg C h σ H3 fun w' H4 => r' v2 w' H4 Q else Q (.bl false) H3)) := fun k hk => by
    subst hk
    refine hd _ H2 v v2 d d2 _ _ h2.trk (p.ext e2).top p2.top ez fun y H3 s3 py => ?_
    cases py
    have h3 := h2.more s3
    have e03 := (e1.trans e2).trans (.same s3)
    refine ⟨k, rfl, ?_⟩
    cases k with
    | false => exact (show GV X.K X.mg C ρ σ H Q (.val (.bl false), T2) from P3) _ H3 h3 e03 (.bl false)
    | true =>
      have P4 : PostG X.K X.mg C σ (GV X.K X.mg C ρ σ H Q) ((dt (h ρ T2)).bind fun w => lift (op' d2 w.1) w.2) := P3
      refine ⟨ρ, T2, h3, gv_dt h3 P4 fun d3 T3 v3 H4 h4 e4 p4 P5 => ?_⟩
      obtain ⟨u, eu, P6⟩ := lift_ex (hq' d2 d3) h4 (post_from h4 (e03.trans e4) P5)
      exact hd' _ H4 v2 v3 d2 d3 Q u h4.trk ((p2.ext (.same s3)).ext e4).top p4.top eu P6
  cases z with
  | val dz =>
    cases dz with
    | bl k => exact en k rfl
    | _ => exact (show False from P3).elim
  | _ => exact (show False from P3).elim
theorem se_chain (ho : OpR X (compareOp o) r) (hd : R2D X.K X.mg r op) (hq : Quiet2 op) (ho' : OpR X (compareOp o') r') (hd' : R2D X.K X.mg r' op') (hq' : Quiet2 op') (ha : SE X C a f) (hb : SE X C b g) (hc : SE X C c h)
    (hm : lastMarks [o, o'] [b, c] = false := by with_unfolding_all rfl) : SE X C (.Compare a [o, o'] [b, c] pos) (eChain op op' f g h) :=
  pe_imp (pe_chain ho ho' ha hb hc hm) (t_chain hd hq hd' hq')
end
/-! ## whole numbers compared -/
@[simp] theorem py_non : py .non = .none := by rw [py]
@[simp] theorem py_bl (b : Bool) : py (.bl b) = .bool b := by rw [py]
@[simp] theorem py_int (i : Int) : py (.int i) = .int i := by rw [py]
@[simp] theorem py_str (x : Str) : py (.str x) = .str x := by rw [py]
@[simp] theorem py_tup (ds : List D) : py (.tup ds) = .tuple (ds.map py) := by rw [py, pys_map]
@[simp] theorem py_lst (ds : List D) : py (.lst ds) = .list (ds.map py) := by rw [py, pys_map]
@[simp] theorem dataLt_i (i j : Int) : PySem.W.dataLt (.int i) (.int j) = decide (i < j) := PySem.W.dataLt_int i j
theorem ord_ii (i j : Int) : Ord2 (.int i) (.int j) := ⟨by simp [PySem.W.alike], by simp⟩
@[simp] theorem dLt_ii (i j : Int) : dLt (.int i) (.int j) = .ok (.val (.bl (decide (i < j)))) := by
  unfold dLt dPl
  rw [if_pos ⟨by simp, by simp, ord_ii i j⟩]
  simp only [py_int, dataLt_i]
@[simp] theorem dGt_ii (i j : Int) : dGt (.int i) (.int j) = .ok (.val (.bl (decide (i > j)))) := by
  unfold dGt dPl
  rw [if_pos ⟨by simp, by simp, ord_ii i j⟩]
  simp only [py_int, dataLt_i]
@[simp] theorem dLe_ii (i j : Int) : dLe (.int i) (.int j) = .ok (.val (.bl (decide (i ≤ j)))) := by
  unfold dLe dPl
  rw [if_pos ⟨by simp, by simp, ord_ii i j⟩]
  simp only [py_int, dataLt_i]
  congr 3
  by_cases h : i ≤ j
  · rw [decide_eq_true h, decide_eq_false (by omega)]; rfl
  · rw [decide_eq_false h, decide_eq_true (by omega)]; rfl
@[simp] theorem dGe_ii (i j : Int) : dGe (.int i) (.int j) = .ok (.val (.bl (decide (i ≥ j)))) := by
  unfold dGe dPl
  rw [if_pos ⟨by simp, by simp, ord_ii i j⟩]
  simp only [py_int, dataLt_i]
  congr 3
  by_cases h : i ≥ j
  · rw [decide_eq_true h, decide_eq_false (by omega)]; rfl
  · rw [decide_eq_false h, decide_eq_true (by omega)]; rfl
@[simp] theorem dEq_ii (i j : Int) : dEq (.int i) (.int j) = .ok (.val (.bl (decide (i = j)))) := by
  unfold dEq dPl
  rw [if_pos ⟨by simp, by simp, trivial⟩]
  simp only [py_int, py_bl, py_str, PyData.eqv]
  congr 3
@[simp] theorem dNe_ii (i j : Int) : dNe (.int i) (.int j) = .ok (.val (.bl (!decide (i = j)))) := by
  unfold dNe dPl
  rw [if_pos ⟨by simp, by simp, trivial⟩]
  simp only [py_int, py_bl, py_str, PyData.eqv]
  congr 3
@[simp] theorem dEq_bb (i j : Bool) : dEq (.bl i) (.bl j) = .ok (.val (.bl (i == j))) := by
  unfold dEq dPl
  rw [if_pos ⟨by simp, by simp, trivial⟩]
  simp only [py_int, py_bl, py_str, PyData.eqv]
@[simp] theorem dNe_bb (i j : Bool) : dNe (.bl i) (.bl j) = .ok (.val (.bl (!(i == j)))) := by
  unfold dNe dPl
  rw [if_pos ⟨by simp, by simp, trivial⟩]
  simp only [py_int, py_bl, py_str, PyData.eqv]
@[simp] theorem dEq_ss (i j : Str) : dEq (.str i) (.str j) = .ok (.val (.bl (i == j))) := by
  unfold dEq dPl
  rw [if_pos ⟨by simp, by simp, trivial⟩]
  simp only [py_int, py_bl, py_str, PyData.eqv]
@[simp] theorem dNe_ss (i j : Str) : dNe (.str i) (.str j) = .ok (.val (.bl (!(i == j)))) := by
  unfold dNe dPl
  rw [if_pos ⟨by simp, by simp, trivial⟩]
  simp only [py_int, py_bl, py_str, PyData.eqv]
/-! ## names of built-in things -/
theorem bo_len : bootBuiltins "len" = some (.builtin "len") := by decide +kernel
theorem bo_isinstance : bootBuiltins "isinstance" = some (.builtin "isinstance") := by decide +kernel
theorem bo_list : bootBuiltins "list" = some (.type "list") := by decide +kernel
theorem bo_tuple : bootBuiltins "tuple" = some (.type "tuple") := by decide +kernel
theorem bo_int : bootBuiltins "int" = some (.type "int") := by decide +kernel
theorem bo_bool : bootBuiltins "bool" = some (.type "bool") := by decide +kernel
theorem bo_dict : bootBuiltins "dict" = some (.type "dict") := by decide +kernel
theorem bo_max : bootBuiltins "max" = some (.builtin "max") := by decide +kernel
theorem bo_min : bootBuiltins "min" = some (.builtin "min") := by decide +kernel
theorem bo_all : bootBuiltins "all" = some (.builtin "all") := by decide +kernel
theorem bo_sorted : bootBuiltins "sorted" = some (.builtin "sorted") := by decide +kernel
theorem u64 {k : Nat} {A : Around} (r : Room k A) : A.units + 64 < cLine := by
  have := r.un
  omega
/-- a block's names, told by a test -/
def blkB (N : List Str) (sc scope : Scope) (own : List (Str × Nat)) : Bool :=
  decide (scope.kind = .function) && scope.names.all (fun y => decide (scope.names.lookup y.1 = some y.2)) && own.all (fun p => decide (N[p.2]? = some p.1)) &&
  scope.names.all (fun y => !decide (y.2 = .free) || decide (sc.names.lookup y.1 = some .cell) || decide (sc.names.lookup y.1 = some .free)) &&
  scope.names.all (fun y => !(decide (y.2 = .local) || decide (y.2 = .cell)) || decide (y.1 ∈ own.map (·.1)) || !decide (y.1 ∈ N))
theorem blk_ok {N : List Str} {sc scope : Scope} {own : List (Str × Nat)} (h : blkB N sc scope own = true) : BlkOk N sc scope own := by
  unfold blkB at h
  simp only [Bool.and_eq_true, decide_eq_true_eq, List.all_eq_true, Bool.or_eq_true, Bool.not_eq_true', decide_eq_false_iff_not] at h
  obtain ⟨⟨⟨⟨h1, h2⟩, h3⟩, h4⟩, h5⟩ := h
  refine ⟨h1, h2, h3, fun y hy e => ?_, fun y hy e => ?_⟩
  · rcases h4 y hy with (h | h) | h
    · exact absurd e h
    · exact .inl h
    · exact .inr h
  · rcases h5 y hy with (h | h) | h
    · simp only [Bool.or_eq_false_iff, decide_eq_false_iff_not] at h
      exact absurd e (fun z => z.elim h.1 h.2)
    · exact .inl h
    · exact .inr h
end Pu
namespace Pu
open PySem L2
open Classical
/-! ## a name gets a comprehension; a name += a number -/
theorem ss_setLc {X : Cx} {C : FC} {elt tg iter : Expr} {ifs : List Expr} {scope : Scope} {own : List (Str × Nat)} {pos spos py : Pos} {y : Str} {fi : DI} {g : DG} {c : DT} {f : DE} (i : Nat) (hc : X.calm = true) (hN : X.N.Nodup) (hi : ∀ Y, SJ X (C.plus Y) tg iter fi) (ok : BlkOk X.N X.env.scope scope own) (hw : Within g (own.map (·.2)))
    (hg : ∀ (s : Shared) (H : Hp) (Ca : Addr) (cl : List (Str × Addr)) (fp : List Addr), SG (X.blk s H scope (compEnvC scope cl Ca X.env) fp) tg g)
    (ht : ∀ (Y : Addr → Prop) (s : Shared) (H : Hp) (Ca : Addr) (cl : List (Str × Addr)) (fp : List Addr) (L : Addr), Takes (X.blk s H scope (compEnvC scope cl Ca X.env) fp) ((C.plus Y).blk L).W → STs (X.blk s H scope (compEnvC scope cl Ca X.env) fp) ((C.plus Y).blk L) ifs c)
    (he : ∀ (Y : Addr → Prop) (s : Shared) (H : Hp) (Ca : Addr) (cl : List (Str × Addr)) (fp : List Addr) (L : Addr), Takes (X.blk s H scope (compEnvC scope cl Ca X.env) fp) ((C.plus Y).blk L).W → SE (X.blk s H scope (compEnvC scope cl Ca X.env) fp) ((C.plus Y).blk L) elt f)
    (hy : X.N[i]? = some y := by rfl) (hyl : X.env.scope.names.lookup y = some .local := by rfl) (hsw : swapsWith (.ListComp elt [⟨tg, iter, ifs, 0⟩] scope pos) (some (.Name y py)) spos.line X.env = pure true := by exact sw_true rfl rfl rfl (by rfl))
    (hs : ∀ x, foldedSetIterable iter X.env x = pure x := by intro _; rfl) : SSt X C (.Assign [.Name y py] (.ListComp elt [⟨tg, iter, ifs, 0⟩] scope pos) spos) (sAsg i (eLc (own.map (·.2)) fi g c f)) := by
  refine ps_imp (ps_ex fun Y => ps_setLc (g := tG X.K X.mg g) (tt := fun σ H Q => ∃ L, tT X.K X.mg ((C.plus Y).blk L) c σ H Q) (te := fun σ H Q => ∃ L, tE X.K X.mg ((C.plus Y).blk L) f σ H Q) hc hN hy hyl hsw (hi Y) ok hg
    (fun s H Ca cl fp => ⟨fun ps s2 σ H2 Q I ⟨L, q⟩ => (ht Y s H Ca cl fp L takes0).run ps s2 σ H2 Q I q⟩) (fun s H Ca cl fp => ⟨fun ps s2 σ H2 Q I ⟨L, q⟩ => (he Y s H Ca cl fp L takes0).run ps s2 σ H2 Q I q⟩) hs) ?_
  rintro D σ H ⟨ρ, T, ⟨Y, h, hY⟩, P⟩
  exact ⟨Y, t_lc hw σ H _ ⟨ρ, T, h, put_slot (Q := D.nx) h hY P fun r' T' q σ' H' h' => q σ' H' h'⟩⟩
def dAddZ : D → D → Rs VD
  | .int i, .int j => .ok (.val (.int (i + j)))
  | _, _ => .stuck
end Pu
namespace Pu
open PySem L2
/-- the end of a law: the head's facts give its def, whose mirror says True -/
theorem walkX {l : PySem.W.OpenLaw} {k : Nat} {q : Program} {loose : List PySem.Str} {XP : (PySem.Str → Option Value) → Heap → Prop} {fa : List He.Fa} {fn : List He.DefD} {d : DefRec} {x : PySem.Str} {M : DM}
    (hn : l.most = some 63) (hdf : d.params.defaults = []) (hr : Room k callerA) (hd1 : d.name = "law")
    (hM : ∀ ns : List Int, ns.length ≤ 63 → ∃ T, M [.scr ns] none = .ok (.val (.bl true), T))
    (hb : ∀ (K : PySem.W.Frag), He.SaysD fa fn K → ∃ fd : FuncData, (∀ (s : Shared) (u : Value), BindsTo s fd ⟨[u], []⟩ [(x, u)]) ∧
      ∀ (w : World) (mg : PySem.Str → Option Value) (h base : Heap), K.In h → h.Ns mainGlobals mg → FnOk l.prog w K mg base (L2.CX l.prog w) k (He.ga K "law") fd [x] (SpD K mg 1 false M) ∧ mg "law" = some (.ref (He.ga K "law"))) :
    PySem.W.WalkO q loose XP (fun _ h => ∃ K : PySem.W.Frag, K.In h ∧ He.SaysD fa fn K) l.row.toRowW d [] (fun f vs => PySem.call f vs) := by
  refine Att.attach_call hn hdf ?_
  intro w s0 s1 mg mb fa' o pm cd doc a vs ns G Y ho hd hcd hmg hobj hints hlen hg
  obtain ⟨K, KX, c⟩ := Y
  obtain ⟨fd, bt, F⟩ := hb K c
  obtain ⟨_, el⟩ := F w mg _ s0.heap KX G.T.g
  rw [hd1, el] at hmg
  cases hmg
  exact law_call KX G.T.g G.T.b G.T.builtins G.T.nolimit hg hobj hints (Nat.le_trans hlen (by decide)) hr
    (fun base _ _ => (F w mg _ base KX G.T.g).1) bt (fun H _ hS => law_sp hM H a ns hlen hS) fun H e s' z => by
      obtain ⟨_, _, _, _, _, _, _, _, _, _, _, _, f⟩ := z
      exact f
end Pu
namespace Pu
open PySem L2
open Classical
/-! # the plain side: what a run gives -/
def wp {A : Type} (x : Rs A) (Q : A → Prop) : Prop := ∃ a, x = .ok a ∧ Q a
section
variable {A B : Type} {Q R : A → Prop}
@[simp] theorem wp_ok (a : A) : wp (.ok a) Q ↔ Q a := ⟨fun ⟨b, e, q⟩ => by cases e; exact q, fun q => ⟨a, rfl, q⟩⟩
@[simp] theorem wp_stuck : wp (.stuck : Rs A) Q ↔ False := ⟨fun ⟨b, e, q⟩ => (nomatch e), fun q => q.elim⟩
@[simp] theorem wp_exc (c : PySem.Str) (fs : List (PySem.Str × D)) (t : Tp) (r : Env) : wp (.exc c fs t r : Rs A) Q ↔ False := ⟨fun ⟨b, e, q⟩ => (nomatch e), fun q => q.elim⟩
@[simp] theorem wp_bind (x : Rs B) (f : B → Rs A) : wp (x.bind f) Q ↔ wp x fun b => wp (f b) Q := by
  cases x with
  | ok b => simp
  | exc c fs t r => simp
  | stuck => simp
theorem wp_imp {x : Rs A} (h : wp x Q) (i : ∀ a, Q a → R a) : wp x R := by
  obtain ⟨a, e, q⟩ := h
  exact ⟨a, e, i a q⟩
@[simp] theorem wp_ite {p : Prop} [Decidable p] (x y : Rs A) : wp (if p then x else y) Q ↔ (p → wp x Q) ∧ (¬ p → wp y Q) := by
  by_cases c : p <;> simp [c]
@[simp] theorem wp_noX (x : Rs A) : wp (noX x) Q ↔ wp x Q := by cases x <;> simp [noX]
end
/-! ## the forms, opened -/
def seqK (g : DS) : Fl × Tp → Rs (Fl × Tp)
  | (.nx r, T) => g r T
  | (.rt v, T) => .ok (.rt v, T)
  | (.bk r, T) => .ok (.bk r, T)
  | (.ct r, T) => .ok (.ct r, T)
@[simp] theorem seqK_nx (g : DS) (r : Env) (T : Tp) : seqK g (.nx r, T) = g r T := rfl
@[simp] theorem seqK_rt (g : DS) (v : VD) (T : Tp) : seqK g (.rt v, T) = .ok (.rt v, T) := rfl
@[simp] theorem seqK_bk (g : DS) (r : Env) (T : Tp) : seqK g (.bk r, T) = .ok (.bk r, T) := rfl
@[simp] theorem seqK_ct (g : DS) (r : Env) (T : Tp) : seqK g (.ct r, T) = .ok (.ct r, T) := rfl
@[simp] theorem sSeq_ap (f g : DS) (r : Env) (T : Tp) : sSeq f g r T = (f r T).bind (seqK g) := by
  unfold sSeq
  congr 1
  funext p
  obtain ⟨fl, T⟩ := p
  cases fl <;> rfl
@[simp] theorem sPass_ap (r : Env) (T : Tp) : sPass r T = .ok (.nx r, T) := rfl
@[simp] theorem sNo_ap (r : Env) (T : Tp) : sNo r T = .stuck := rfl
@[simp] theorem sBrk_ap (r : Env) (T : Tp) : sBrk r T = .ok (.bk r, T) := rfl
@[simp] theorem sCt_ap (r : Env) (T : Tp) : sCt r T = .ok (.ct r, T) := rfl
@[simp] theorem sIf_ap (c : DT) (f g : DS) (r : Env) (T : Tp) : sIf c f g r T = (c r T).bind fun p => if p.1 = true then f r p.2 else g r p.2 := rfl
@[simp] theorem sDrop_ap (f : DE) (r : Env) (T : Tp) : sDrop f r T = (dt (f r T)).bind fun p => .ok (.nx r, p.2) := rfl
@[simp] theorem sAsg_ap (i : Nat) (f : DE) (r : Env) (T : Tp) : sAsg i f r T = (f r T).bind fun p => (put r i p.1).bind fun r' => .ok (.nx r', p.2) := rfl
def retK : VD × Tp → Rs (Fl × Tp)
  | (.val d, T) => .ok (.rt (.val d), T)
  | (.own d, T) => .ok (.rt (.own d), T)
  | (.tree s d, T) => .ok (.rt (.tree s d), T)
  | _ => .stuck
@[simp] theorem retK_tree (s : Sh) (d : D) (T : Tp) : retK (.tree s d, T) = .ok (.rt (.tree s d), T) := rfl
@[simp] theorem retK_val (d : D) (T : Tp) : retK (.val d, T) = .ok (.rt (.val d), T) := rfl
@[simp] theorem retK_own (d : D) (T : Tp) : retK (.own d, T) = .ok (.rt (.own d), T) := rfl
@[simp] theorem sRet_ap (f : DE) (r : Env) (T : Tp) : sRet f r T = (f r T).bind retK := by
  unfold sRet
  congr 1
  funext p
  obtain ⟨v, T⟩ := p
  cases v <;> rfl
def retVK (T : Tp) : Option (Option VD) → Rs (Fl × Tp)
  | some (some (.val d)) => .ok (.rt (.val d), T)
  | some (some (.own d)) => .ok (.rt (.own d), T)
  | some (some (.tree s d)) => .ok (.rt (.tree s d), T)
  | _ => .stuck
@[simp] theorem retVK_tree (s : Sh) (d : D) (T : Tp) : retVK T (some (some (.tree s d))) = .ok (.rt (.tree s d), T) := rfl
@[simp] theorem retVK_val (d : D) (T : Tp) : retVK T (some (some (.val d))) = .ok (.rt (.val d), T) := rfl
@[simp] theorem retVK_own (d : D) (T : Tp) : retVK T (some (some (.own d))) = .ok (.rt (.own d), T) := rfl
@[simp] theorem sRetV_ap (i : Nat) (r : Env) (T : Tp) : sRetV i r T = retVK T r[i]? := by
  unfold sRetV retVK
  cases r[i]? with
  | none => rfl
  | some o =>
    cases o with
    | none => rfl
    | some w => cases w <;> rfl
@[simp] theorem sRetN_ap (r : Env) (T : Tp) : sRetN r T = .ok (.rt (.val .non), T) := rfl
def augK (op : D → D → Rs VD) (i : Nat) (f : DE) (r : Env) (T : Tp) : Option (Option VD) → Rs (Fl × Tp)
  | some (some (.val d)) => (dt (f r T)).bind fun p => (op d p.1).bind fun v => (put r i v).bind fun r' => .ok (.nx r', p.2)
  | _ => .stuck
@[simp] theorem augK_val (op : D → D → Rs VD) (i : Nat) (f : DE) (r : Env) (T : Tp) (d : D) : augK op i f r T (some (some (.val d))) = (dt (f r T)).bind fun p => (op d p.1).bind fun v => (put r i v).bind fun r' => .ok (.nx r', p.2) := rfl
@[simp] theorem sAug_ap (op : D → D → Rs VD) (i : Nat) (f : DE) (r : Env) (T : Tp) : sAug op i f r T = augK op i f r T r[i]? := by
  unfold sAug augK
  cases r[i]? with
  | none => rfl
  | some o =>
    cases o with
    | none => rfl
    | some w => cases w <;> rfl
def frzK (r : Env) (i : Nat) : Option (Option VD) → Env
  | some (some (.own d)) => r.set i (some (.val d))
  | some (some (.tree _ d)) => r.set i (some (.val d))
  | _ => r
@[simp] theorem frzK_tree (r : Env) (i : Nat) (s : Sh) (d : D) : frzK r i (some (some (.tree s d))) = r.set i (some (.val d)) := rfl
@[simp] theorem frzK_own (r : Env) (i : Nat) (d : D) : frzK r i (some (some (.own d))) = r.set i (some (.val d)) := rfl
@[simp] theorem frzK_val (r : Env) (i : Nat) (d : D) : frzK r i (some (some (.val d))) = r := rfl
@[simp] theorem frzK_none (r : Env) (i : Nat) : frzK r i (some none) = r := rfl
@[simp] theorem sFrz_ap (i : Nat) (g : DS) (r : Env) (T : Tp) : sFrz i g r T = g (frzK r i r[i]?) T := by
  unfold sFrz frz frzK
  cases r[i]? with
  | none => rfl
  | some o =>
    cases o with
    | none => rfl
    | some w => cases w <;> rfl
def varK (T : Tp) : Option (Option VD) → Rs (VD × Tp)
  | some (some (.val d)) => .ok (.val d, T)
  | some (some (.own d)) => .ok (.peek d, T)
  | _ => .stuck
@[simp] theorem varK_val (d : D) (T : Tp) : varK T (some (some (.val d))) = .ok (.val d, T) := rfl
@[simp] theorem varK_own (d : D) (T : Tp) : varK T (some (some (.own d))) = .ok (.peek d, T) := rfl
@[simp] theorem eVar_ap (i : Nat) (r : Env) (T : Tp) : eVar i r T = varK T r[i]? := by
  unfold eVar varK
  cases r[i]? with
  | none => rfl
  | some o =>
    cases o with
    | none => rfl
    | some w => cases w <;> rfl
@[simp] theorem eC_ap (d : D) (r : Env) (T : Tp) : eC d r T = .ok (.val d, T) := rfl
@[simp] theorem eNo_ap (r : Env) (T : Tp) : eNo r T = .stuck := rfl
@[simp] theorem eOp_ap (op : D → D → Rs VD) (f g : DE) (r : Env) (T : Tp) : eOp op f g r T = (dt (f r T)).bind fun p => (dt (g r p.2)).bind fun q => lift (op p.1 q.1) q.2 := rfl
@[simp] theorem eUn_ap (op : D → Rs VD) (f : DE) (r : Env) (T : Tp) : eUn op f r T = (dt (f r T)).bind fun p => lift (op p.1) p.2 := rfl
def chK (op' : D → D → Rs VD) (h : DE) (r : Env) (q : D × Tp) : VD → Rs (VD × Tp)
  | .val (.bl k) => if k = true then (dt (h r q.2)).bind fun w => lift (op' q.1 w.1) w.2 else .ok (.val (.bl false), q.2)
  | _ => .stuck
@[simp] theorem chK_bl (op' : D → D → Rs VD) (h : DE) (r : Env) (q : D × Tp) (k : Bool) : chK op' h r q (.val (.bl k)) = if k = true then (dt (h r q.2)).bind fun w => lift (op' q.1 w.1) w.2 else .ok (.val (.bl false), q.2) := rfl
@[simp] theorem eChain_ap (op op' : D → D → Rs VD) (f g h : DE) (r : Env) (T : Tp) : eChain op op' f g h r T = (dt (f r T)).bind fun p => (dt (g r p.2)).bind fun q => (op p.1 q.1).bind (chK op' h r q) := by
  unfold eChain
  congr 1
@[simp] theorem xB_ap (f : DE) (r : Env) (T : Tp) : xB f r T = (dv (f r T)).bind fun p => (dBl p.1).bind fun b => .ok (b, p.2) := rfl
@[simp] theorem xAnd_ap (f g : DT) (r : Env) (T : Tp) : xAnd f g r T = (f r T).bind fun p => if p.1 = true then g r p.2 else .ok (false, p.2) := rfl
@[simp] theorem xOr_ap (f g : DT) (r : Env) (T : Tp) : xOr f g r T = (f r T).bind fun p => if p.1 = true then .ok (true, p.2) else g r p.2 := rfl
@[simp] theorem xNot_ap (f : DT) (r : Env) (T : Tp) : xNot f r T = (f r T).bind fun p => .ok (!p.1, p.2) := rfl
@[simp] theorem xYes_ap (r : Env) (T : Tp) : xYes r T = .ok (true, T) := rfl
@[simp] theorem eIf_ap (c : DT) (f g : DE) (r : Env) (T : Tp) : eIf c f g r T = (c r T).bind fun p => if p.1 = true then f r p.2 else g r p.2 := rfl
@[simp] theorem eAnd_ap (f g : DE) (r : Env) (T : Tp) : eAnd f g r T = (dv (f r T)).bind fun p => (dBl p.1).bind fun b => if b = true then g r p.2 else .ok (.val (.bl false), p.2) := rfl
@[simp] theorem eOr_ap (f g : DE) (r : Env) (T : Tp) : eOr f g r T = (dv (f r T)).bind fun p => (dBl p.1).bind fun b => if b = true then .ok (.val (.bl true), p.2) else g r p.2 := rfl
@[simp] theorem eNot_ap (f : DE) (r : Env) (T : Tp) : eNot f r T = (dv (f r T)).bind fun p => (dBl p.1).bind fun b => .ok (.val (.bl !b), p.2) := rfl
@[simp] theorem aNil_ap (r : Env) (T : Tp) : aNil r T = .ok ([], T) := rfl
@[simp] theorem aCons_ap (f : DE) (g : DA) (r : Env) (T : Tp) : aCons f g r T = (dv (f r T)).bind fun p => (g r p.2).bind fun q => .ok (p.1 :: q.1, q.2) := rfl
@[simp] theorem aConsT_ap (f : DE) (g : DA) (r : Env) (T : Tp) : aConsT f g r T = (dt (f r T)).bind fun p => (g r p.2).bind fun q => .ok (p.1 :: q.1, q.2) := rfl
@[simp] theorem eTup_ap (g : DA) (r : Env) (T : Tp) : eTup g r T = (g r T).bind fun p => if p.1.length ≤ 1000 then .ok (.val (.tup p.1), p.2) else .stuck := rfl
@[simp] theorem eLst_ap (g : DA) (r : Env) (T : Tp) : eLst g r T = (g r T).bind fun p => if p.1.length ≤ 1000 then .ok (.own (.lst p.1), p.2) else .stuck := rfl
@[simp] theorem eCall_ap (op : List D → Rs VD) (g : DA) (r : Env) (T : Tp) : eCall op g r T = (g r T).bind fun p => lift (op p.1) p.2 := rfl
def defK (T : Tp) (r : Env) : Rs (VD × Tp) → Rs (VD × Tp)
  | .ok q => .ok (q.1, T)
  | .exc c fs _ _ => .exc c fs T r
  | .stuck => .stuck
@[simp] theorem defK_ok (T : Tp) (r : Env) (q : VD × Tp) : defK T r (.ok q) = .ok (q.1, T) := rfl
@[simp] theorem defK_exc (T T2 : Tp) (r r2 : Env) (c : PySem.Str) (fs : List (PySem.Str × D)) : defK T r (.exc c fs T2 r2) = .exc c fs T r := rfl
@[simp] theorem wp_defK {Q : VD × Tp → Prop} (T : Tp) (r : Env) (x : Rs (VD × Tp)) : wp (defK T r x) Q ↔ wp x fun q => Q (q.1, T) := by cases x <;> simp [defK]
@[simp] theorem eDef_ap (n : Nat) (M : DM) (g : DA) (r : Env) (T : Tp) : eDef n M g r T = (g r T).bind fun p => if p.1.length = n then defK p.2 r (M p.1 none) else .stuck := by
  unfold eDef
  congr 1
def defTK (r : Env) : Rs (VD × Tp) → Rs (VD × Tp)
  | .ok q => .ok q
  | .exc c fs T' _ => .exc c fs T' r
  | .stuck => .stuck
@[simp] theorem defTK_ok (r : Env) (q : VD × Tp) : defTK r (.ok q) = .ok q := rfl
@[simp] theorem wp_defTK {Q : VD × Tp → Prop} (r : Env) (x : Rs (VD × Tp)) : wp (defTK r x) Q ↔ wp x Q := by cases x <;> simp [defTK]
def tpK {A : Type} (x : Rs A) : Option (Option VD) → Rs A
  | some (some .tape) => x
  | _ => .stuck
@[simp] theorem tpK_tape {A : Type} (x : Rs A) : tpK x (some (some .tape)) = x := rfl
@[simp] theorem eDefT_ap (i n : Nat) (M : DM) (g : DA) (r : Env) (T : Tp) : eDefT i n M g r T = tpK ((g r T).bind fun p => if p.1.length + 1 = n then defTK r (M p.1 p.2) else .stuck) r[i]? := by
  unfold eDefT tpK
  cases r[i]? with
  | none => rfl
  | some o =>
    cases o with
    | none => rfl
    | some w => cases w <;> rfl
def lsK (f : List D → Rs (VD × Tp)) : Tp → Rs (VD × Tp)
  | some (.lst ds) => f ds
  | _ => .stuck
@[simp] theorem lsK_lst (f : List D → Rs (VD × Tp)) (ds : List D) : lsK f (some (.lst ds)) = f ds := rfl
@[simp] theorem eTix_ap (i k : Nat) (r : Env) (T : Tp) : eTix i k r T = tpK (lsK (fun ds => (rO ds[k]?).bind fun d => .ok (.val d, T)) T) r[i]? := by
  unfold eTix tpK lsK
  cases r[i]? with
  | none => rfl
  | some o =>
    cases o with
    | none => rfl
    | some w =>
      cases w <;> rfl
def lsS (f : List D → Rs (Fl × Tp)) : Tp → Rs (Fl × Tp)
  | some (.lst ds) => f ds
  | _ => .stuck
@[simp] theorem lsS_lst (f : List D → Rs (Fl × Tp)) (ds : List D) : lsS f (some (.lst ds)) = f ds := rfl
@[simp] theorem sTset_ap (i k : Nat) (f : DE) (r : Env) (T : Tp) : sTset i k f r T = tpK ((dv (f r T)).bind fun p => lsS (fun ds => if k < ds.length then .ok (.nx r, some (.lst (ds.set k p.1))) else .stuck) p.2) r[i]? := by
  unfold sTset tpK lsS
  cases r[i]? with
  | none => rfl
  | some o =>
    cases o with
    | none => rfl
    | some w =>
      cases w <;> rfl
def endK : Fl × Tp → Rs (VD × Tp)
  | (.nx _, T) => .ok (.val .non, T)
  | (.rt v, T) => .ok (v, T)
  | _ => .stuck
@[simp] theorem endK_nx (r : Env) (T : Tp) : endK (.nx r, T) = .ok (.val .non, T) := rfl
@[simp] theorem endK_rt (v : VD) (T : Tp) : endK (.rt v, T) = .ok (v, T) := rfl
theorem runD_ap (n : Nat) (io : Bool) (g : DS) (ds : List D) (T : Tp) : runD n io g ds T = (g (env0 n io ds) T).bind endK := by
  unfold runD
  congr 1
  funext p
  obtain ⟨fl, T⟩ := p
  cases fl <;> rfl
def ownK {A : Type} (f : D → Rs A) : Option (Option VD) → Rs A
  | some (some (.own d)) => f d
  | _ => .stuck
@[simp] theorem ownK_own {A : Type} (f : D → Rs A) (d : D) : ownK f (some (some (.own d))) = f d := rfl
@[simp] theorem eMut_ap (i : Nat) (is : D → Bool) (mo : D → List D → Option (D × D)) (g : DA) (r : Env) (T : Tp) : eMut i is mo g r T = ownK (fun d => if is d = true then (g r T).bind fun p => (rO (mo d p.1)).bind fun q => .ok (q.2, r.set i (some (.own q.1)), p.2) else .stuck) r[i]? := by
  unfold eMut ownK
  cases r[i]? with
  | none => rfl
  | some o =>
    cases o with
    | none => rfl
    | some w => cases w <;> rfl
@[simp] theorem eMutM_ap (i : Nat) (is : D → Bool) (mo : D → List D → Option (D × D)) (f : DEm) (r : Env) (T : Tp) : eMutM i is mo f r T = ownK (fun d => if is d = true then (f r T).bind fun p => ownK (fun d2 => (rO (mo d2 [p.1])).bind fun q => .ok (q.2, p.2.1.set i (some (.own q.1)), p.2.2)) p.2.1[i]? else .stuck) r[i]? := by
  unfold eMutM ownK
  cases r[i]? with
  | none => rfl
  | some o =>
    cases o with
    | none => rfl
    | some w =>
      cases w with
      | own d =>
        congr 1
      | _ => rfl
@[simp] theorem sDropM_ap (f : DEm) (r : Env) (T : Tp) : sDropM f r T = (f r T).bind fun p => .ok (.nx p.2.1, p.2.2) := rfl
@[simp] theorem sAsgM_ap (i : Nat) (f : DEm) (r : Env) (T : Tp) : sAsgM i f r T = (f r T).bind fun p => .ok (.nx (p.2.1.set i (some (.val p.1))), p.2.2) := rfl
@[simp] theorem sAsgMG_ap (g : DG) (f : DEm) (r : Env) (T : Tp) : sAsgMG g f r T = (f r T).bind fun p => (rO (g p.1)).bind fun m => .ok (.nx (setE p.2.1 m), p.2.2) := rfl
@[simp] theorem sAsgG_ap (g : DG) (f : DE) (r : Env) (T : Tp) : sAsgG g f r T = (dv (f r T)).bind fun p => (rO (g p.1)).bind fun m => .ok (.nx (setE r m), p.2) := rfl
@[simp] theorem sRetM_ap (f : DEm) (r : Env) (T : Tp) : sRetM f r T = (f r T).bind fun p => .ok (.rt (.val p.1), p.2.2) := rfl
@[simp] theorem sSetI_ap (i : Nat) (so : D → D → D → Option D) (fi fe : DE) (r : Env) (T : Tp) : sSetI i so fi fe r T = (dv (fe r T)).bind fun p => ownK (fun d => (dt (fi r p.2)).bind fun q => (rO (so d q.1 p.1)).bind fun d' => .ok (.nx (r.set i (some (.own d'))), q.2)) r[i]? := by
  unfold sSetI ownK
  congr 1
@[simp] theorem sTape_ap (i : Nat) (f : DE) (g : DS) (r : Env) (T : Tp) (d : D) (T2 : Tp) (h : f r T = .ok (.own d, T2)) {Q : Fl × Tp → Prop} : wp (sTape i f g r T) Q ↔ wp (g (r.set i (some .tape)) (some d)) fun p => ∃ v, p.1 = .rt v ∧ Q (.rt v, none) := by
  unfold sTape
  rw [h]
  simp only [Rs.bind_ok]
  cases e : g (r.set i (some .tape)) (some d) with
  | stuck => simp
  | exc c fs t r => simp
  | ok z =>
    obtain ⟨fl, T3⟩ := z
    cases fl <;> simp
@[simp] theorem sFor_ap (f : DI) (g : DG) (w : DS) (r : Env) (T : Tp) : sFor f g w r T = (f r T).bind fun p => forD g w p.1 r p.2 := rfl
@[simp] theorem iSeq_ap (f : DE) (r : Env) (T : Tp) : iSeq f r T = (dv (f r T)).bind fun p => (seqD p.1).bind fun ds => .ok (ds, p.2) := rfl
@[simp] theorem jSeq_ap (f : DE) (r : Env) (T : Tp) : jSeq f r T = (dt (f r T)).bind fun p => (seqD p.1).bind fun ds => .ok (ds, p.2) := rfl
@[simp] theorem iEnu_ap (f : DE) (r : Env) (T : Tp) : iEnu f r T = (dv (f r T)).bind fun p => (seqD p.1).bind fun ds => .ok (enumD 0 ds, p.2) := rfl
@[simp] theorem jEnu_ap (f : DE) (r : Env) (T : Tp) : jEnu f r T = (dt (f r T)).bind fun p => (seqD p.1).bind fun ds => .ok (enumD 0 ds, p.2) := rfl
@[simp] theorem eLc_ap (vs : List Nat) (fi : DI) (g : DG) (c : DT) (f : DE) (r : Env) (T : Tp) : eLc vs fi g c f r T = (fi r T).bind fun p => (rO (wipeE r vs)).bind fun r0 => (lcD g c f p.1 r0 p.2).bind fun q => .ok (.own (.lst q.1), q.2) := rfl
@[simp] theorem setE_nil (r : Env) : setE r [] = r := rfl
@[simp] theorem setE_cons (r : Env) (p : Nat × D) (l : List (Nat × D)) : setE r (p :: l) = setE (r.set p.1 (some (.val p.2))) l := rfl
@[simp] theorem wp_lift {Q : VD × Tp → Prop} (z : Rs VD) (T : Tp) : wp (lift z T) Q ↔ wp z fun v => Q (v, T) := by cases z <;> simp [lift]
@[simp] theorem wp_rO {A : Type} {Q : A → Prop} (o : Option A) : wp (rO o) Q ↔ ∃ a, o = some a ∧ Q a := by cases o <;> simp
@[simp] theorem wp_dv {Q : D × Tp → Prop} (x : Rs (VD × Tp)) : wp (dv x) Q ↔ wp x fun p => wp (dv1 p) Q := by unfold dv; simp
@[simp] theorem wp_dt {Q : D × Tp → Prop} (x : Rs (VD × Tp)) : wp (dt x) Q ↔ wp x fun p => wp (dt1 p) Q := by unfold dt; simp
@[simp] theorem dv1_val (d : D) (T : Tp) : dv1 (.val d, T) = .ok (d, T) := rfl
@[simp] theorem dv1_own (d : D) (T : Tp) : dv1 (.own d, T) = .ok (d, T) := rfl
@[simp] theorem dt1_val (d : D) (T : Tp) : dt1 (.val d, T) = .ok (d, T) := rfl
@[simp] theorem dt1_own (d : D) (T : Tp) : dt1 (.own d, T) = .ok (d, T) := rfl
@[simp] theorem dt1_peek (d : D) (T : Tp) : dt1 (.peek d, T) = .ok (d, T) := rfl
/-! ## loops -/
def loopK (I : Env → Tp → Prop) (Q : Fl × Tp → Prop) : Fl × Tp → Prop
  | (.nx r, T) => I r T
  | (.ct r, T) => I r T
  | (.bk r, T) => Q (.nx r, T)
  | (.rt v, T) => Q (.rt v, T)
@[simp] theorem loopK_nx (I : Env → Tp → Prop) (Q : Fl × Tp → Prop) (r : Env) (T : Tp) : loopK I Q (.nx r, T) ↔ I r T := Iff.rfl
@[simp] theorem loopK_ct (I : Env → Tp → Prop) (Q : Fl × Tp → Prop) (r : Env) (T : Tp) : loopK I Q (.ct r, T) ↔ I r T := Iff.rfl
@[simp] theorem loopK_bk (I : Env → Tp → Prop) (Q : Fl × Tp → Prop) (r : Env) (T : Tp) : loopK I Q (.bk r, T) ↔ Q (.nx r, T) := Iff.rfl
@[simp] theorem loopK_rt (I : Env → Tp → Prop) (Q : Fl × Tp → Prop) (v : VD) (T : Tp) : loopK I Q (.rt v, T) ↔ Q (.rt v, T) := Iff.rfl
/-! ## operations, opened -/
@[simp] theorem dAddI_ii (i j : Int) : dAddI (.int i) (.int j) = .ok (.val (.int (i + j))) := rfl
@[simp] theorem dAddI_tt (a b : List D) : dAddI (.tup a) (.tup b) = if a.length + b.length ≤ 16000000 then .ok (.val (.tup (a ++ b))) else .stuck := rfl
@[simp] theorem dAddI_ll (a b : List D) : dAddI (.lst a) (.lst b) = if a.length + b.length ≤ 16000000 then .ok (.own (.lst (a ++ b))) else .stuck := rfl
@[simp] theorem dAddZ_ii (i j : Int) : dAddZ (.int i) (.int j) = .ok (.val (.int (i + j))) := rfl
@[simp] theorem dSub_ii (i j : Int) : dSub (.int i) (.int j) = .ok (.val (.int (i - j))) := rfl
@[simp] theorem dMul_ii (i j : Int) : dMul (.int i) (.int j) = if (-(2 ^ 64) < i ∧ i < 2 ^ 64) ∨ (-(2 ^ 64) < j ∧ j < 2 ^ 64) then .ok (.val (.int (i * j))) else .stuck := rfl
@[simp] theorem dDiv_ii (i j : Int) : dDiv (.int i) (.int j) = if 0 < j ∧ j < 1073741824 then .ok (.val (.int (i / j))) else .stuck := rfl
@[simp] theorem dMod_ii (i j : Int) : dMod (.int i) (.int j) = if 0 < j then .ok (.val (.int (i % j))) else .stuck := rfl
@[simp] theorem dPow_ii (i j : Int) : dPow (.int i) (.int j) = if 0 ≤ j ∧ j ≤ 1000000 ∧ i.natAbs < 2 ^ 64 then .ok (.val (.int (i ^ j.toNat))) else .stuck := rfl
@[simp] theorem dNeg_i (i : Int) : dNeg (.int i) = .ok (.val (.int (-i))) := rfl
@[simp] theorem bInt_i (i : Int) : bInt [.int i] = .ok (.val (.int i)) := rfl
@[simp] theorem bInt_b (b : Bool) : bInt [.bl b] = .ok (.val (.int (if b then 1 else 0))) := rfl
@[simp] theorem bLen_l (ds : List D) : bLen [.lst ds] = .ok (.val (.int ds.length)) := rfl
@[simp] theorem bLen_t (ds : List D) : bLen [.tup ds] = .ok (.val (.int ds.length)) := rfl
@[simp] theorem bLen_c (ns : List Int) : bLen [.scr ns] = .ok (.val (.int ns.length)) := rfl
@[simp] theorem bList_l (ds : List D) : bList [.lst ds] = .ok (.own (.lst ds)) := rfl
@[simp] theorem bList_t (ds : List D) : bList [.tup ds] = .ok (.own (.lst ds)) := rfl
@[simp] theorem bList_c (ns : List Int) : bList [.scr ns] = .ok (.own (.lst (ns.map D.int))) := rfl
@[simp] theorem bTuple_l (ds : List D) : bTuple [.lst ds] = .ok (.val (.tup ds)) := rfl
@[simp] theorem bTuple_t (ds : List D) : bTuple [.tup ds] = .ok (.val (.tup ds)) := rfl
@[simp] theorem bSum_l (ds : List D) : bSum [.lst ds] = (rO (nums ds)).bind fun ns => .ok (.val (.int ns.sum)) := rfl
@[simp] theorem bSum_t (ds : List D) : bSum [.tup ds] = (rO (nums ds)).bind fun ns => .ok (.val (.int ns.sum)) := rfl
@[simp] theorem bAll_l (ds : List D) : bAll [.lst ds] = (rO (bls ds)).bind fun ns => .ok (.val (.bl (ns.all id))) := rfl
@[simp] theorem bAny_l (ds : List D) : bAny [.lst ds] = (rO (bls ds)).bind fun ns => .ok (.val (.bl (ns.any id))) := rfl
@[simp] theorem bMax_2 (i j : Int) : bMax [.int i, .int j] = .ok (.val (.int (if j > i then j else i))) := rfl
@[simp] theorem bMin_2 (i j : Int) : bMin [.int i, .int j] = .ok (.val (.int (if j < i then j else i))) := rfl
@[simp] theorem bMax_l (ds : List D) : bMax [.lst ds] = (rO (nums ds)).bind fun ns => (rO ns.max?).bind fun m => .ok (.val (.int m)) := rfl
@[simp] theorem bMax_t (ds : List D) : bMax [.tup ds] = (rO (nums ds)).bind fun ns => (rO ns.max?).bind fun m => .ok (.val (.int m)) := rfl
@[simp] theorem bMin_l (ds : List D) : bMin [.lst ds] = (rO (nums ds)).bind fun ns => (rO ns.min?).bind fun m => .ok (.val (.int m)) := rfl
@[simp] theorem bMin_t (ds : List D) : bMin [.tup ds] = (rO (nums ds)).bind fun ns => (rO ns.min?).bind fun m => .ok (.val (.int m)) := rfl
@[simp] theorem bSorted_l (ds : List D) : bSorted [.lst ds] = if SrtOk ds then .ok (.own (.lst (srtd ds))) else .stuck := rfl
@[simp] theorem dIx_l (ds : List D) (i : Int) : dIx (.lst ds) (.int i) = (rO (atI ds i)).bind fun d => .ok (.val d) := rfl
@[simp] theorem dIx_t (ds : List D) (i : Int) : dIx (.tup ds) (.int i) = (rO (atI ds i)).bind fun d => .ok (.val d) := rfl
@[simp] theorem dRv_l (ds : List D) : dRv (.lst ds) = .ok (.own (.lst ds.reverse)) := rfl
@[simp] theorem dRv_t (ds : List D) : dRv (.tup ds) = .ok (.val (.tup ds.reverse)) := rfl
@[simp] theorem isT_non (cs : List PySem.Str) (t : Ty) : isT cs t .non = some false := by cases t <;> rfl
@[simp] theorem isT_int (cs : List PySem.Str) (t : Ty) (i : Int) : isT cs t (.int i) = some (match t with | .int => true | _ => false) := by cases t <;> rfl
@[simp] theorem isT_bl (cs : List PySem.Str) (t : Ty) (i : Bool) : isT cs t (.bl i) = some (match t with | .int => true | .bool => true | _ => false) := by cases t <;> rfl
@[simp] theorem isT_str (cs : List PySem.Str) (t : Ty) (i : PySem.Str) : isT cs t (.str i) = some (match t with | .str => true | _ => false) := by cases t <;> rfl
@[simp] theorem isT_tup (cs : List PySem.Str) (t : Ty) (i : List D) : isT cs t (.tup i) = some (match t with | .tuple => true | _ => false) := by cases t <;> rfl
@[simp] theorem isT_lst (cs : List PySem.Str) (t : Ty) (i : List D) : isT cs t (.lst i) = some (match t with | .list => true | _ => false) := by cases t <;> rfl
@[simp] theorem isT_dct (cs : List PySem.Str) (t : Ty) (q : Bool) (i : List (D × D)) : isT cs t (.dct q i) = some (match t with | .dict => true | _ => false) := by cases t <;> rfl
@[simp] theorem dIsi_ap (cs : List PySem.Str) (t : Ty) (d : D) : dIsi cs t d = (rO (isT cs t d)).bind fun b => .ok (.val (.bl b)) := rfl
@[simp] theorem mAppend_l (ds : List D) (x : D) : mAppend (.lst ds) [x] = if ds.length < 16000000 then some (.lst (ds ++ [x]), .non) else none := rfl
@[simp] theorem mExtend_l (ds xs : List D) : mExtend (.lst ds) [.lst xs] = if ds.length + xs.length ≤ 16000000 then some (.lst (ds ++ xs), .non) else none := rfl
@[simp] theorem mPop_l (ds : List D) : mPop (.lst ds) [] = (ds[ds.length - 1]?).map fun x => (.lst ds.dropLast, x) := rfl
@[simp] theorem mPop_i (ds : List D) (i : Int) : mPop (.lst ds) [.int i] = (ixN ds.length i).bind fun j => (ds[j]?).map fun x => (.lst (ds.eraseIdx j), x) := rfl
@[simp] theorem mInsert_l (ds : List D) (i : Int) (x : D) : mInsert (.lst ds) [.int i, x] = if ds.length < 16000000 ∧ 0 ≤ i ∧ i < 2 ^ 63 then some (.lst (ds.take i.toNat ++ [x] ++ ds.drop i.toNat), .non) else none := rfl
@[simp] theorem mReverse_l (ds : List D) : mReverse (.lst ds) [] = some (.lst ds.reverse, .non) := rfl
@[simp] theorem setL_l (ds : List D) (k : Int) (v : D) : setL (.lst ds) (.int k) v = (ixN ds.length k).map fun j => .lst (ds.set j v) := rfl
theorem atI_num {ns : List Int} {p : Nat} (h : p < ns.length) : atI (ns.map D.int) (p : Int) = some (.int ns[p]) := atI_nat (by rw [List.getElem?_map, List.getElem?_eq_getElem h]; rfl)
/-- a tape as it stands -/
def TapeV (t : Tp) : Prop := ∃ (ns : List Int) (p : Nat) (a b c : Int), t = some (.lst [.lst (ns.map D.int), .int p, .int a, .int b, .int c])
end Pu
namespace Pu
open PySem L2
open Classical
/-! # plain helpers -/
@[simp] theorem nums_mapE {A : Type} (h : A → Int) (xs : List A) : nums (xs.map fun x => D.int (h x)) = some (xs.map h) := by
  have := ints_map (xs.map h)
  rwa [List.map_map] at this
@[simp] theorem bls_mapE {A : Type} (h : A → Bool) (xs : List A) : bls (xs.map fun x => D.bl (h x)) = some (xs.map h) := by
  have := bools_map (xs.map h)
  rwa [List.map_map] at this
@[simp] theorem iRng_ap (g : DA) (r : Env) (T : Tp) : iRng g r T = (g r T).bind fun p => (argR p.1).bind fun q => if -8000000 ≤ q.1 ∧ q.1 ≤ 8000000 ∧ -8000000 ≤ q.2 ∧ q.2 ≤ 8000000 then .ok (rngD q.1 (q.2 - q.1).toNat, p.2) else .stuck := rfl
@[simp] theorem rngD_len (lo : Int) (n : Nat) : (rngD lo n).length = n := by simp [rngD]
/-! sorting -/
theorem srt_uniq {xs ys : List Int} (p : xs.Perm ys) (h1 : xs.Pairwise (· ≤ ·)) (h2 : ys.Pairwise (· ≤ ·)) : xs = ys := List.Perm.eq_of_pairwise (fun a b _ _ h k => Int.le_antisymm h k) h1 h2 p
theorem allAlike_map {A : Type} (e : A → D) (h : ∀ a b, PySem.W.alike (py (e a)) (py (e b)) = true) (xs : List A) : PySem.W.AllAlike ((xs.map e).map py) := by
  intro d hd d' hd'
  rw [List.map_map] at hd hd'
  obtain ⟨a, _, rfl⟩ := List.mem_map.mp hd
  obtain ⟨b, _, rfl⟩ := List.mem_map.mp hd'
  exact h a b
def dPr (p : Int × Int) : D := .tup [.int p.1, .int p.2]
theorem ixN_some {n : Nat} {i : Int} (h0 : 0 ≤ i) (h1 : i < n) : ixN n i = some i.toNat := by
  obtain ⟨k, rfl⟩ := Int.eq_ofNat_of_zero_le h0
  exact ixN_nat (by omega)
theorem atI_some {A : Type} {xs : List A} {i : Int} (h0 : 0 ≤ i) (h1 : i < xs.length) : atI xs i = some (xs[i.toNat]'(by omega)) := by
  obtain ⟨k, rfl⟩ := Int.eq_ofNat_of_zero_le h0
  refine atI_nat (List.getElem?_eq_getElem (by omega))
/-- the item at i, 0 beyond -/
def nth (s : List Int) (i : Nat) : Int := s.getD i 0
theorem nth_get {s : List Int} {i : Nat} (h : i < s.length) : nth s i = s[i] := by
  unfold nth
  rw [List.getD_eq_getElem?_getD, List.getElem?_eq_getElem h]
  rfl
theorem nth_mem {s : List Int} {i : Nat} (h : i < s.length) : nth s i ∈ s := by
  rw [nth_get h]
  exact List.getElem_mem h
/-- loops as they should be -/
def Lps (ns : List Int) : Prop := 0 < ns.length ∧ ns.length ≤ 8 ∧ ∀ i ∈ ns, 1 ≤ i ∧ i ≤ 40
theorem max_of {ns : List Int} (h : 0 < ns.length) (hm : ∀ j ∈ ns, 1 ≤ j ∧ j ≤ 40) : ∃ m, ns.max? = some m ∧ 1 ≤ m ∧ m ≤ 40 := by
  cases e : ns.max? with
  | none =>
    rw [List.max?_eq_none_iff] at e
    subst e
    cases h
  | some m => exact ⟨m, rfl, hm m (List.max?_eq_some_iff.mp e).1⟩
@[simp] theorem erase_map : ∀ (xs : List Int) (j : Nat), (xs.map D.int).eraseIdx j = (xs.eraseIdx j).map D.int
  | [], _ => rfl
  | _ :: _, 0 => rfl
  | x :: xs, j + 1 => by simp [erase_map xs j]
/-! one statement behind another, with what holds between -/
def nxP (P : Env → Tp → Prop) : Fl × Tp → Prop
  | (.nx r, T) => P r T
  | _ => False
@[simp] theorem nxP_nx (P : Env → Tp → Prop) (r : Env) (T : Tp) : nxP P (.nx r, T) ↔ P r T := Iff.rfl
/-- the law, once its tape is made -/
theorem wp_law {i n : Nat} {f : DE} {g : DS} {ds : List D} {d : D} {T2 : Tp} (h : f (env0 n false ds) none = .ok (.own d, T2)) (k : wp (g ((env0 n false ds).set i (some .tape)) (some d)) fun p => p.1 = .rt (.val (.bl true))) :
    ∃ T, runD n false (fun r T => if T.isNone then sTape i f g r T else .stuck) ds none = .ok (.val (.bl true), T) := by
  have q : wp (sTape i f g (env0 n false ds) none) fun p => p = (.rt (.val (.bl true)), none) := by
    refine (sTape_ap i f g _ none d T2 h).mpr (wp_imp k fun p e => ⟨_, e, rfl⟩)
  obtain ⟨p, e, rfl⟩ := q
  refine ⟨none, ?_⟩
  rw [runD_ap]
  show (sTape i f g (env0 n false ds) none).bind endK = _
  rw [e]
  rfl
end Pu
namespace Pu
open PySem L2
open Classical
/-! ## while: by fuel that is enough -/
/-! ## slices opened; rows compared -/
@[simp] theorem partE_none (r : Env) (T : Tp) : partE none r T = .ok (none, T) := rfl
@[simp] theorem partE_some (f : DE) (r : Env) (T : Tp) : partE (some f) r T = (dt (f r T)).bind fun p => (dI p.1).bind fun i => .ok (some i, p.2) := rfl
@[simp] theorem eSl_ap (f : DE) (lo hi : Option DE) (r : Env) (T : Tp) : eSl f lo hi r T = (dt (f r T)).bind fun p => (partE lo r p.2).bind fun a => (partE hi r a.2).bind fun b => lift (dSl p.1 a.1 b.1) b.2 := rfl
@[simp] theorem dSl_l (ds : List D) (lo hi : Option Int) : dSl (.lst ds) lo hi = .ok (.own (.lst (cutA ds lo hi))) := rfl
@[simp] theorem dSl_t (ds : List D) (lo hi : Option Int) : dSl (.tup ds) lo hi = .ok (.val (.tup (cutA ds lo hi))) := rfl
theorem eqvAll_int : ∀ (ns ms : List Int), PyData.eqvAll (ns.map PyData.int) (ms.map PyData.int) = decide (ns = ms)
  | [], [] => by simp [PyData.eqvAll]
  | [], _ :: _ => by simp [PyData.eqvAll]
  | _ :: _, [] => by simp [PyData.eqvAll]
  | n :: ns, m :: ms => by
    rw [List.map_cons, List.map_cons, PyData.eqvAll, eqvAll_int ns ms, PyData.eqv]
    by_cases h : n = m <;> by_cases k : ns = ms <;> simp [h, k]
theorem pl_ints (ns : List Int) : ∀ d ∈ ns.map D.int, Pl 39 d := fun d hd => by
  obtain ⟨a, _, rfl⟩ := List.mem_map.mp hd
  simp
theorem py_ints (ns : List Int) : (ns.map D.int).map py = ns.map PyData.int := by
  rw [List.map_map]
  apply List.map_congr_left
  intro a _
  simp
theorem eqv_tt (ns ms : List Int) : PyData.eqv (py (.tup (ns.map D.int))) (py (.tup (ms.map D.int))) = decide (ns = ms) := by
  rw [py_tup, py_tup, py_ints, py_ints, PyData.eqv, eqvAll_int]
theorem eqv_ll (ns ms : List Int) : PyData.eqv (py (.lst (ns.map D.int))) (py (.lst (ms.map D.int))) = decide (ns = ms) := by
  rw [py_lst, py_lst, py_ints, py_ints, PyData.eqv, eqvAll_int]
@[simp] theorem dEq_tt (ns ms : List Int) : dEq (.tup (ns.map D.int)) (.tup (ms.map D.int)) = .ok (.val (.bl (decide (ns = ms)))) := by
  unfold dEq dPl
  rw [if_pos ⟨pl_ints ns, pl_ints ms, trivial⟩]
  simp only [eqv_tt]
@[simp] theorem dNe_tt (ns ms : List Int) : dNe (.tup (ns.map D.int)) (.tup (ms.map D.int)) = .ok (.val (.bl (!decide (ns = ms)))) := by
  unfold dNe dPl
  rw [if_pos ⟨pl_ints ns, pl_ints ms, trivial⟩]
  simp only [eqv_tt]
@[simp] theorem dEq_ll (ns ms : List Int) : dEq (.lst (ns.map D.int)) (.lst (ms.map D.int)) = .ok (.val (.bl (decide (ns = ms)))) := by
  unfold dEq dPl
  rw [if_pos ⟨pl_ints ns, pl_ints ms, trivial⟩]
  simp only [eqv_ll]
@[simp] theorem dNe_ll (ns ms : List Int) : dNe (.lst (ns.map D.int)) (.lst (ms.map D.int)) = .ok (.val (.bl (!decide (ns = ms)))) := by
  unfold dNe dPl
  rw [if_pos ⟨pl_ints ns, pl_ints ms, trivial⟩]
  simp only [eqv_ll]
/-! 1, 2, 4 and so on -/
def pw (m : Nat) : List Int := (List.range m).map fun (i : Nat) => (2 : Int) ^ i
@[simp] theorem pw_len (m : Nat) : (pw m).length = m := by simp [pw]
end Pu
namespace Pu
open PySem L2
open Classical
/-! ## dicts -/
noncomputable def lookD (kvs : List (D × D)) (k : D) : Option D := (kvs.find? fun p => decide (p.1 = k)).map (·.2)
noncomputable def putD (kvs : List (D × D)) (k v : D) : List (D × D) := if (kvs.any fun p => decide (p.1 = k)) = true then kvs.map (fun p => if p.1 = k then (p.1, v) else p) else kvs ++ [(k, v)]
def keyT (ks : List Key) : D := .tup (ks.map kD)
/-- a key of that kind of dict -/
def KeyOk : Bool → D → Prop
  | false, k => ∃ q : Key, k = kD q
  | true, k => ∃ q : List Key, k = keyT q
theorem kD_inj {p q : Key} (h : kD p = kD q) : p = q := by
  cases p <;> cases q <;> cases h <;> rfl
theorem kDs_inj : ∀ {p q : List Key}, p.map kD = q.map kD → p = q
  | [], [], _ => rfl
  | [], _ :: _, h => by cases h
  | _ :: _, [], h => by cases h
  | a :: p, b :: q, h => by
    rw [List.map_cons, List.map_cons] at h
    injection h with h1 h2
    rw [kD_inj h1, kDs_inj h2]
theorem keyT_inj {p q : List Key} (h : keyT p = keyT q) : p = q := by
  unfold keyT at h
  injection h with h
  exact kDs_inj h
section
variable {K : PySem.W.Frag} {mg : PySem.Str → Option Value} {S : Addr → Prop} {H : Hp}
theorem Top.key {v : V} {k : Key} (h : Top K mg S H v (kD k)) : v = kV k := by
  cases k with
  | inl i => exact h.int
  | inr x => exact h.str
theorem Reps.keys : ∀ {ks : List Key} {vs : List V}, Reps K mg S H vs (ks.map kD) → vs = ks.map kV
  | [], vs, h => by cases h; rfl
  | k :: ks, vs, h => by
    cases h with
    | cons p t =>
      rw [Reps.keys t, (show Top K mg S H _ (kD k) from .inl p).key]
      rfl
theorem Top.tupH {v : V} {ds : List D} (h : Top K mg S H v (.tup ds)) : ∃ a vs, v = .ref a ∧ H a = some (.tup vs) ∧ Reps K mg S H vs ds := by
  rcases h with h | ⟨p, rfl, h⟩
  · cases h with
    | tup s e z q => exact ⟨_, _, rfl, e, q⟩
  · cases h
theorem Top.keyT {v : V} {ks : List Key} (h : Top K mg S H v (keyT ks)) : ∃ b, v = .ref b ∧ H b = some (.tup (ks.map kV)) := by
  obtain ⟨a, vs, rfl, e, q⟩ := h.tupH
  rw [q.keys] at e
  exact ⟨a, rfl, e⟩
theorem look_rel {κ : Type} [DecidableEq κ] {e : κ → D} (inj : ∀ p q, e p = e q → p = q) (k : κ) : ∀ {kvs : List (κ × V)} {ds : List (D × D)}, ds.map (·.1) = kvs.map (fun p => e p.1) → Reps K mg S H (kvs.map (·.2)) (ds.map (·.2)) →
    (valV kvs k = none ∧ lookD ds (e k) = none) ∨ ∃ v d, valV kvs k = some v ∧ lookD ds (e k) = some d ∧ Rep K mg S H v d
  | [], [], _, _ => .inl ⟨rfl, rfl⟩
  | [], _ :: _, h, _ => by cases h
  | _ :: _, [], h, _ => by cases h
  | p :: kvs, q :: ds, h, r => by
    rw [List.map_cons, List.map_cons] at h
    injection h with h1 h2
    rw [List.map_cons, List.map_cons] at r
    cases r with
    | cons r1 r2 =>
      by_cases c : p.1 = k
      · refine .inr ⟨p.2, q.2, valV_pos c, ?_, r1⟩
        unfold lookD
        rw [List.find?_cons_of_pos (by rw [h1, c]; exact decide_eq_true rfl)]
        rfl
      · have c2 : ¬ q.1 = e k := fun z => c (inj _ _ (h1.symm.trans z))
        have e2 : lookD (q :: ds) (e k) = lookD ds (e k) := by
          unfold lookD
          rw [List.find?_cons_of_neg (by rw [decide_eq_false c2]; exact Bool.false_ne_true)]
        rw [valV_neg c, e2]
        exact look_rel inj k h2 r2
theorem any_rel {κ : Type} [DecidableEq κ] {e : κ → D} (inj : ∀ p q, e p = e q → p = q) (k : κ) : ∀ {kvs : List (κ × V)} {ds : List (D × D)}, ds.map (·.1) = kvs.map (fun p => e p.1) → (ds.any fun p => decide (p.1 = e k)) = kvs.any fun p => decide (p.1 = k)
  | [], [], _ => rfl
  | [], _ :: _, h => by cases h
  | _ :: _, [], h => by cases h
  | p :: kvs, q :: ds, h => by
    rw [List.map_cons, List.map_cons] at h
    injection h with h1 h2
    rw [List.any_cons, List.any_cons, any_rel inj k h2, h1]
    congr 1
    by_cases c : p.1 = k
    · rw [c, decide_eq_true rfl, decide_eq_true rfl]
    · rw [decide_eq_false c, decide_eq_false fun z => c (inj _ _ z)]
theorem put_rel {κ : Type} [DecidableEq κ] {e : κ → D} (inj : ∀ p q, e p = e q → p = q) (k : κ) {v : V} {d : D} (rv : Rep K mg S H v d) {kvs : List (κ × V)} {ds : List (D × D)} (h : ds.map (·.1) = kvs.map (fun p => e p.1)) (r : Reps K mg S H (kvs.map (·.2)) (ds.map (·.2))) :
    (putD ds (e k) d).map (·.1) = (putK kvs k v).map (fun p => e p.1) ∧ Reps K mg S H ((putK kvs k v).map (·.2)) ((putD ds (e k) d).map (·.2)) := by
  unfold putD putK
  rw [any_rel inj k h]
  by_cases c : (kvs.any fun p => decide (p.1 = k)) = true
  · rw [if_pos c, if_pos c]
    clear c
    induction kvs generalizing ds with
    | nil =>
      cases ds with
      | nil => exact ⟨rfl, .nil⟩
      | cons => cases h
    | cons p kvs ih =>
      cases ds with
      | nil => cases h
      | cons q ds =>
        rw [List.map_cons, List.map_cons] at h
        injection h with h1 h2
        rw [List.map_cons, List.map_cons] at r
        cases r with
        | cons r1 r2 =>
          obtain ⟨i1, i2⟩ := ih h2 r2
          by_cases c : p.1 = k
          · have c2 : q.1 = e k := by rw [h1, c]
            simp only [List.map_cons, if_pos c, if_pos c2]
            exact ⟨by rw [i1, h1], .cons rv i2⟩
          · have c2 : ¬ q.1 = e k := fun z => c (inj _ _ (h1.symm.trans z))
            simp only [List.map_cons, if_neg c, if_neg c2]
            exact ⟨by rw [i1, h1], .cons r1 i2⟩
  · rw [if_neg c, if_neg c, List.map_append, List.map_append, List.map_append, List.map_append]
    exact ⟨by rw [h]; rfl, r.app (.cons rv .nil)⟩
/-- a dict that is looked into -/
theorem Top.dct {v : V} {t : Bool} {ds : List (D × D)} (h : Top K mg S H v (.dct t ds)) :
    (t = false ∧ ∃ a kvs, v = .ref a ∧ Rd H a (.dK kvs) ∧ kvs.length ≤ sizeLine ∧ ds.map (·.1) = kvs.map (fun p => kD p.1) ∧ Reps K mg S H (kvs.map (·.2)) (ds.map (·.2))) ∨
    (t = true ∧ ∃ a kvs, v = .ref a ∧ Rd H a (.dT kvs) ∧ kvs.length ≤ sizeLine ∧ ds.map (·.1) = kvs.map (fun p => Pu.keyT p.1) ∧ Reps K mg S H (kvs.map (·.2)) (ds.map (·.2))) := by
  rcases h with h | ⟨p, rfl, h⟩
  · cases h with
    | dK s e z g q => exact .inl ⟨rfl, _, _, rfl, .inl e, z, g, q⟩
    | dT s e z g q => exact .inr ⟨rfl, _, _, rfl, .inl e, z, g, q⟩
    | dKz s e z g q => exact .inl ⟨rfl, _, _, rfl, .inr ⟨_, e⟩, z, g, q⟩
    | dTz s e z g q => exact .inr ⟨rfl, _, _, rfl, .inr ⟨_, e⟩, z, g, q⟩
  · cases h with
    | dK e z g q => exact .inl ⟨rfl, _, _, rfl, .inl e, z, g, q⟩
    | dT e z g q => exact .inr ⟨rfl, _, _, rfl, .inl e, z, g, q⟩
theorem OwnAt.dct {p : Addr} {t : Bool} {ds : List (D × D)} (h : OwnAt K mg S H p (.dct t ds)) :
    (t = false ∧ ∃ kvs, H p = some (.dK kvs) ∧ kvs.length ≤ sizeLine ∧ ds.map (·.1) = kvs.map (fun p => kD p.1) ∧ Reps K mg S H (kvs.map (·.2)) (ds.map (·.2))) ∨
    (t = true ∧ ∃ kvs, H p = some (.dT kvs) ∧ kvs.length ≤ sizeLine ∧ ds.map (·.1) = kvs.map (fun p => Pu.keyT p.1) ∧ Reps K mg S H (kvs.map (·.2)) (ds.map (·.2))) := by
  cases h with
  | dK e z g q => exact .inl ⟨rfl, _, e, z, g, q⟩
  | dT e z g q => exact .inr ⟨rfl, _, e, z, g, q⟩
/-- what a look gives -/
theorem dget_of {x y : V} {t : Bool} {ds : List (D × D)} {k : D} (p : Top K mg S H x (.dct t ds)) (q : Top K mg S H y k) (hk : KeyOk t k) : ∃ a o, x = .ref a ∧ IsD H a ∧ DGet H a y o ∧ ((o = none ∧ lookD ds k = none) ∨ ∃ v d, o = some v ∧ lookD ds k = some d ∧ Rep K mg S H v d) := by
  rcases p.dct with ⟨rfl, a, kvs, rfl, e, z, g, r⟩ | ⟨rfl, a, kvs, rfl, e, z, g, r⟩
  · obtain ⟨u, rfl⟩ := hk
    rw [q.key]
    exact ⟨a, valV kvs u, rfl, .inl ⟨kvs, e⟩, .inl ⟨kvs, u, e, rfl, rfl⟩, look_rel (fun _ _ => kD_inj) u g r⟩
  · obtain ⟨u, rfl⟩ := hk
    obtain ⟨b, rfl, eb⟩ := q.keyT
    exact ⟨a, valV kvs u, rfl, .inr ⟨kvs, e⟩, .inr ⟨kvs, u, b, e, rfl, eb, rfl⟩, look_rel (fun _ _ => keyT_inj) u g r⟩
end
/-! d[k], k in d -/
noncomputable def dGet : D → D → Rs VD
  | .dct t ds, k => if KeyOk t k then (rO (lookD ds k)).bind fun d => .ok (.val d) else .stuck
  | _, _ => .stuck
noncomputable def dInD : D → D → Rs VD
  | k, .dct t ds => if KeyOk t k then .ok (.val (.bl (lookD ds k).isSome)) else .stuck
  | _, _ => .stuck
noncomputable def dNinD : D → D → Rs VD
  | k, .dct t ds => if KeyOk t k then .ok (.val (.bl (!(lookD ds k).isSome))) else .stuck
  | _, _ => .stuck
theorem q_get : Quiet2 dGet := fun d e => by
  unfold dGet
  split <;> first | exact quiet_s | exact quiet_if (quiet_r fun _ => quiet_v) quiet_s
theorem q_ind : Quiet2 dInD := fun d e => by
  unfold dInD
  split <;> first | exact quiet_s | exact quiet_if quiet_v quiet_s
theorem q_nind : Quiet2 dNinD := fun d e => by
  unfold dNinD
  split <;> first | exact quiet_s | exact quiet_if quiet_v quiet_s
def rDGet : R2 := fun x y H Q => ∃ a v, x = .ref a ∧ DGet H a y (some v) ∧ Q v H
def rDIn : R2 := fun y x H Q => ∃ a o, x = .ref a ∧ DGet H a y o ∧ Q (.bl o.isSome) H
def rDNin : R2 := fun y x H Q => ∃ a o, x = .ref a ∧ DGet H a y o ∧ Q (.bl (!o.isSome)) H
theorem ifs_ok {p : Prop} [Decidable p] {x : Rs VD} {z : VD} (h : (if p then x else .stuck) = Rs.ok z) : p ∧ x = .ok z := by
  by_cases c : p
  · rw [if_pos c] at h
    exact ⟨c, h⟩
  · rw [if_neg c] at h
    cases h
section
variable {K : PySem.W.Frag} {mg : PySem.Str → Option Value}
theorem d_get : R2D K mg rDGet dGet := fun S H x y dx dy Q z t p q e k => by
  unfold dGet at e
  split at e
  · obtain ⟨hk, e⟩ := ifs_ok e
    obtain ⟨d, ed, e⟩ := o_ok e
    cases e
    obtain ⟨a, o, rfl, _, g, h⟩ := dget_of p q hk
    rcases h with ⟨_, h⟩ | ⟨v, d2, rfl, h, r⟩
    · rw [h] at ed
      cases ed
    · rw [h] at ed
      cases ed
      exact ⟨a, v, rfl, g, k.pure r⟩
  · cases e
theorem d_ind : R2D K mg rDIn dInD := fun S H x y dx dy Q z t p q e k => by
  unfold dInD at e
  split at e
  · obtain ⟨hk, e⟩ := ifs_ok e
    cases e
    obtain ⟨a, o, rfl, _, g, h⟩ := dget_of q p hk
    refine ⟨a, o, rfl, g, ?_⟩
    rcases h with ⟨rfl, h⟩ | ⟨v, d2, rfl, h, r⟩
    · rw [h] at k
      exact k.pure (.bl _)
    · rw [h] at k
      exact k.pure (.bl _)
  · cases e
theorem d_nind : R2D K mg rDNin dNinD := fun S H x y dx dy Q z t p q e k => by
  unfold dNinD at e
  split at e
  · obtain ⟨hk, e⟩ := ifs_ok e
    cases e
    obtain ⟨a, o, rfl, _, g, h⟩ := dget_of q p hk
    refine ⟨a, o, rfl, g, ?_⟩
    rcases h with ⟨rfl, h⟩ | ⟨v, d2, rfl, h, r⟩
    · rw [h] at k
      exact k.pure (.bl _)
    · rw [h] at k
      exact k.pure (.bl _)
  · cases e
end
section
variable {X : Cx} {C : FC} {a b : Expr} {f g h : DE} {pos : Pos}
theorem op_din (hu : X.A.units + 1 < cLine) : OpR X (compareOp .In) rDIn := by
  rintro ps s σ H y x iv u Q I ry rx ⟨a, o, rfl, gt, q⟩
  obtain rfl : u = Value.ref a := rx
  exact d_in hu I gt ry fun s' I' => ⟨.bl o.isSome, H, I', rfl, q⟩
theorem op_dnin (hu : X.A.units + 1 < cLine) : OpR X (compareOp .NotIn) rDNin := by
  rintro ps s σ H y x iv u Q I ry rx ⟨a, o, rfl, gt, q⟩
  obtain rfl : u = Value.ref a := rx
  exact d_notIn hu I gt ry fun s' I' => ⟨.bl (!o.isSome), H, I', rfl, q⟩
theorem u1 {k : Nat} {A : Around} (r : Room k A) : A.units + 1 < cLine := by
  have := r.un
  omega
/-! d.get(k), d.get(k, x) -/
noncomputable def getK (k e : D) : D → Rs D
  | .dct t ds => if KeyOk t k then .ok ((lookD ds k).getD e) else .stuck
  | _ => .stuck
def isDctR : D → Rs Unit
  | .dct _ _ => .ok ()
  | _ => .stuck
noncomputable def eGet2 (f g h : DE) : DE := fun r T => (dt (f r T)).bind fun p => (isDctR p.1).bind fun _ => (dt (g r p.2)).bind fun q => (dv (h r q.2)).bind fun w => (getK q.1 w.1 p.1).bind fun d => .ok (.val d, w.2)
noncomputable def eGet1 (f g : DE) : DE := fun r T => (dt (f r T)).bind fun p => (isDctR p.1).bind fun _ => (dt (g r p.2)).bind fun q => (getK q.1 .non p.1).bind fun d => .ok (.val d, q.2)
/-! {} -/
def eDct (t : Bool) : DE := fun _ T => .ok (.own (.dct t []), T)
end
/-! d[k] = v -/
noncomputable def setD : D → D → D → Option D
  | .dct t ds, k, v => if KeyOk t k ∧ ds.length < 16000000 then some (.dct t (putD ds k v)) else none
  | _, _, _ => none
theorem putK_len {κ : Type} [DecidableEq κ] (kvs : List (κ × V)) (k : κ) (v : V) : (putK kvs k v).length ≤ kvs.length + 1 := by
  unfold putK
  split
  · rw [List.length_map]
    omega
  · rw [List.length_append, List.length_singleton]
    omega
theorem d_setD {K : PySem.W.Frag} {mg : PySem.Str → Option Value} : PStD K mg rSetD setD := fun S H p d i v di dx Q d' hp o ti rv e k => by
  unfold setD at e
  split at e
  · obtain ⟨⟨hk, hl⟩, rfl⟩ := ifo e
    rcases o.dct with ⟨rfl, kvs, h1, z, g, r⟩ | ⟨rfl, kvs, h1, z, g, r⟩
    · obtain ⟨u, rfl⟩ := hk
      rw [ti.key]
      have hlen : kvs.length < sizeLine := by
        have := congrArg List.length g
        rw [List.length_map, List.length_map] at this
        rw [sizeLine_eq]
        omega
      obtain ⟨q1, q2⟩ := put_rel (fun _ _ => kD_inj) u (rv.upd (u := .dK (putK kvs u v)) hp) g (r.upd hp)
      have hz : (putK kvs u v).length ≤ sizeLine := Nat.le_trans (putK_len kvs u v) hlen
      exact ⟨p, _, rfl, .k h1 hlen, k _ upd_else (.dK upd_same hz q1 q2)⟩
    · obtain ⟨u, rfl⟩ := hk
      obtain ⟨b, rfl, eb⟩ := ti.keyT
      have hlen : kvs.length < sizeLine := by
        have := congrArg List.length g
        rw [List.length_map, List.length_map] at this
        rw [sizeLine_eq]
        omega
      obtain ⟨q1, q2⟩ := put_rel (fun _ _ => keyT_inj) u (rv.upd (u := .dT (putK kvs u v)) hp) g (r.upd hp)
      have hz : (putK kvs u v).length ≤ sizeLine := Nat.le_trans (putK_len kvs u v) hlen
      exact ⟨p, _, rfl, .t h1 eb hlen, k _ upd_else (.dT upd_same hz q1 q2)⟩
  · cases e
end Pu
namespace Pu
open PySem L2
open Classical
/-! ## a[b], b in a, a[b] = c of a sequence or a dict, by what it is -/
theorem ix_dict {X : Cx} (hu : X.A.units + 1 < cLine) : IxR X rDGet := by
  intro value slice pins s σ H x y v u Q I rx ry h hs
  obtain ⟨a, w, rfl, g, q⟩ := h
  obtain rfl : v = Value.ref a := rx
  exact PyProof.Rows.tail_any (dict_typeIs I g) PySem.F.slot_dict_getitem.lookup (d_getItem hu I g ry fun w' s3 I3 rw' => ⟨w, H, I3, rw', q⟩) hs
def rIxA (K : PySem.W.Frag) : R2 := fun x y H Q => L2.rIx K x y H Q ∨ rDGet x y H Q
theorem ix_any {X : Cx} (hu : X.A.units + 1 < cLine) : IxR X (rIxA X.K) := ix_seq.or (ix_dict hu)
noncomputable def dIxA : D → D → Rs VD
  | .dct t ds, k => dGet (.dct t ds) k
  | .tpl ns, .int i => (rO (atI ns i)).bind fun n => .ok (.val (.int n))
  | .ktp ds, .int i => (rO (atI ds i)).bind fun d => .ok (.val d)
  | d, k => dIx d k
theorem q_ixa : Quiet2 dIxA := fun d e => by
  unfold dIxA
  split
  · exact q_get _ _
  · exact quiet_r fun _ => quiet_v
  · exact quiet_r fun _ => quiet_v
  · exact q_ix _ _
theorem d_ixa {K : PySem.W.Frag} {mg : PySem.Str → Option Value} : R2D K mg (rIxA K) dIxA := fun S H x y dx dy Q z t p q e k => by
  unfold dIxA at e
  split at e
  · exact .inr (d_get S H x y _ dy Q z t p q e k)
  · obtain ⟨n, en, e⟩ := o_ok e
    cases e
    obtain ⟨a, rfl, h1, z1⟩ := p.tplT
    rw [q.int]
    refine .inl (.inr (.inl ⟨a, _, _, .int n, rfl, rfl, h1, ?_, k.pure (.int n)⟩))
    unfold atI at en ⊢
    rw [List.length_map]
    obtain ⟨j, ej, en⟩ := Option.bind_eq_some_iff.mp en
    rw [ej]
    simp [en]
  · obtain ⟨d, en, e⟩ := o_ok e
    cases e
    obtain ⟨a, vs, rfl, h1, z1, r1⟩ := p.ktpT
    rw [q.int]
    unfold atI at en
    obtain ⟨j, ej, en⟩ := Option.bind_eq_some_iff.mp en
    obtain ⟨w, ew, pw⟩ := r1.getD en
    refine .inl (.inr (.inl ⟨a, _, _, w, rfl, rfl, h1, ?_, k.pure pw⟩))
    unfold atI
    rw [r1.len, ej]
    exact ew
  · exact .inl (d_ix S H x y dx dy Q z t p q e k)
@[simp] theorem dIxA_l (ds : List D) (i : Int) : dIxA (.lst ds) (.int i) = (rO (atI ds i)).bind fun d => .ok (.val d) := rfl
@[simp] theorem dIxA_t (ds : List D) (i : Int) : dIxA (.tup ds) (.int i) = (rO (atI ds i)).bind fun d => .ok (.val d) := rfl
@[simp] theorem dIxA_kt (ds : List D) (i : Int) : dIxA (.ktp ds) (.int i) = (rO (atI ds i)).bind fun d => .ok (.val d) := rfl
@[simp] theorem dIxA_p (ns : List Int) (i : Int) : dIxA (.tpl ns) (.int i) = (rO (atI ns i)).bind fun n => .ok (.val (.int n)) := rfl
@[simp] theorem dIxA_d (t : Bool) (ds : List (D × D)) (k : D) : dIxA (.dct t ds) k = if KeyOk t k then (rO (lookD ds k)).bind fun d => .ok (.val d) else .stuck := rfl
noncomputable def dInA : D → D → Rs VD
  | k, .dct t ds => dInD k (.dct t ds)
  | k, d => dInS k d
noncomputable def dNinA : D → D → Rs VD
  | k, .dct t ds => dNinD k (.dct t ds)
  | k, d => dNinS k d
def rInA (K : PySem.W.Frag) (mg : PySem.Str → Option Value) : R2 := fun x y H Q => rPl K mg (fun _ e => isSeq e) (fun d e => (itemsD e).any fun y => PyData.eqv (py y) (py d)) x y H Q ∨ rDIn x y H Q
def rNinA (K : PySem.W.Frag) (mg : PySem.Str → Option Value) : R2 := fun x y H Q => rPl K mg (fun _ e => isSeq e) (fun d e => !(itemsD e).any fun y => PyData.eqv (py y) (py d)) x y H Q ∨ rDNin x y H Q
theorem op_inA {X : Cx} (hu : X.A.units + 64 < cLine) : OpR X (compareOp .In) (rInA X.K X.mg) := (op_inP hu).or (op_din (by omega))
theorem op_ninA {X : Cx} (hu : X.A.units + 64 < cLine) : OpR X (compareOp .NotIn) (rNinA X.K X.mg) := (op_ninP hu).or (op_dnin (by omega))
theorem q_ina : Quiet2 dInA := fun d e => by
  unfold dInA
  split
  · exact q_ind _ _
  · exact q_pl _ _
theorem q_nina : Quiet2 dNinA := fun d e => by
  unfold dNinA
  split
  · exact q_nind _ _
  · exact q_pl _ _
theorem d_ina {K : PySem.W.Frag} {mg : PySem.Str → Option Value} : R2D K mg (rInA K mg) dInA := fun S H x y dx dy Q z t p q e k => by
  unfold dInA at e
  split at e
  · exact .inr (d_ind S H x y dx _ Q z t p q e k)
  · exact .inl (d_pl S H x y dx dy Q z t p q e k)
theorem d_nina {K : PySem.W.Frag} {mg : PySem.Str → Option Value} : R2D K mg (rNinA K mg) dNinA := fun S H x y dx dy Q z t p q e k => by
  unfold dNinA at e
  split at e
  · exact .inr (d_nind S H x y dx _ Q z t p q e k)
  · exact .inl (d_pl S H x y dx dy Q z t p q e k)
@[simp] theorem dInA_d (k : D) (t : Bool) (ds : List (D × D)) : dInA k (.dct t ds) = if KeyOk t k then .ok (.val (.bl (lookD ds k).isSome)) else .stuck := rfl
@[simp] theorem dNinA_d (k : D) (t : Bool) (ds : List (D × D)) : dNinA k (.dct t ds) = if KeyOk t k then .ok (.val (.bl (!(lookD ds k).isSome))) else .stuck := rfl
@[simp] theorem dInA_l (k : D) (ds : List D) : dInA k (.lst ds) = dInS k (.lst ds) := rfl
@[simp] theorem dInA_t (k : D) (ds : List D) : dInA k (.tup ds) = dInS k (.tup ds) := rfl
@[simp] theorem dNinA_l (k : D) (ds : List D) : dNinA k (.lst ds) = dNinS k (.lst ds) := rfl
@[simp] theorem dNinA_t (k : D) (ds : List D) : dNinA k (.tup ds) = dNinS k (.tup ds) := rfl
def rSetA : TSet := fun o i v H Q => L2.rSetL o i v H Q ∨ L2.rSetD o i v H Q
theorem set_any {X : Cx} (hu : X.A.units + 1 < cLine) : PSet X rSetA := by
  intro pins s σ H o i v ov iv u Q I ro ri rv h
  rcases h with h | h
  · exact set_list pins s σ H o i v ov iv u Q I ro ri rv h
  · exact set_dict hu pins s σ H o i v ov iv u Q I ro ri rv h
noncomputable def setA : D → D → D → Option D
  | .dct t ds, k, v => setD (.dct t ds) k v
  | d, k, v => setL d k v
theorem d_setA {K : PySem.W.Frag} {mg : PySem.Str → Option Value} : PStD K mg rSetA setA := fun S H p d i v di dx Q d' hp o ti rv e k => by
  unfold setA at e
  split at e
  · exact .inr (d_setD S H p _ i v di dx Q d' hp o ti rv e k)
  · exact .inl (d_setL S H p d i v di dx Q d' hp o ti rv e k)
@[simp] theorem setA_l (ds : List D) (k : Int) (v : D) : setA (.lst ds) (.int k) v = (ixN ds.length k).map fun j => .lst (ds.set j v) := rfl
@[simp] theorem setA_d (t : Bool) (ds : List (D × D)) (k v : D) : setA (.dct t ds) k v = if KeyOk t k ∧ ds.length < 16000000 then some (.dct t (putD ds k v)) else none := rfl
@[simp] theorem keyOk_i (i : Int) : KeyOk false (.int i) := ⟨.inl i, rfl⟩
@[simp] theorem keyOk_s (x : PySem.Str) : KeyOk false (.str x) := ⟨.inr x, rfl⟩
@[simp] theorem eDct_ap (t : Bool) (r : Env) (T : Tp) : eDct t r T = .ok (.own (.dct t []), T) := rfl
@[simp] theorem eGet2_ap (f g h : DE) (r : Env) (T : Tp) : eGet2 f g h r T = (dt (f r T)).bind fun p => (isDctR p.1).bind fun _ => (dt (g r p.2)).bind fun q => (dv (h r q.2)).bind fun w => (getK q.1 w.1 p.1).bind fun d => .ok (.val d, w.2) := rfl
@[simp] theorem eGet1_ap (f g : DE) (r : Env) (T : Tp) : eGet1 f g r T = (dt (f r T)).bind fun p => (isDctR p.1).bind fun _ => (dt (g r p.2)).bind fun q => (getK q.1 .non p.1).bind fun d => .ok (.val d, q.2) := rfl
@[simp] theorem isDctR_d (t : Bool) (ds : List (D × D)) : isDctR (.dct t ds) = .ok () := rfl
@[simp] theorem getK_d (k e : D) (t : Bool) (ds : List (D × D)) : getK k e (.dct t ds) = if KeyOk t k then .ok ((lookD ds k).getD e) else .stuck := rfl
/-! len of a dict too -/
def bLenA : List D → Rs VD
  | [.dct _ ds] => .ok (.val (.int ds.length))
  | [.tpl ns] => .ok (.val (.int ns.length))
  | [.ktp ds] => .ok (.val (.int ds.length))
  | ds => bLen ds
theorem q_lena : QuietN bLenA := fun ds => by
  unfold bLenA
  split
  · exact quiet_v
  · exact quiet_v
  · exact quiet_v
  · exact q_len _
/-- the length of a dict, also of one that is locked -/
def rLenZ : List V → Hp → VK → Prop := fun xs H Q => ∃ a, xs = [V.ref a] ∧ ((∃ kvs, Rd H a (.dK kvs) ∧ Q (.int kvs.length) H) ∨ ∃ kvs, Rd H a (.dT kvs) ∧ Q (.int kvs.length) H)
theorem call_lenZ {X : Cx} : CallR X (.builtin "len") rLenZ := fun pins s σ H xs us Q I r ⟨a, ex, hq⟩ => by
  subst ex
  obtain ⟨u, rfl, rx⟩ := vals1 r
  cases rx
  rcases hq with ⟨kvs, ha, q⟩ | ⟨kvs, ha, q⟩
  · exact L2.d_len I ha fun t s' J => ⟨.int kvs.length, H, J, ⟨t, rfl⟩, q⟩
  · obtain ⟨z1, z2, ys, z3, z4⟩ := dt_rd I.hok ha
    have el := Paired.length z3
    rw [el] at z1 q
    exact call_len_dictH z2 z4 (by rw [sizeLine_eq] at z1; omega) ⟨.int ys.length, H, I.tok _, ⟨_, rfl⟩, q⟩
def rLenA (K : PySem.W.Frag) : List V → Hp → VK → Prop := fun xs H Q => rLen K xs H Q ∨ rLenZ xs H Q
theorem call_lenA {X : Cx} : CallR X (.builtin "len") (rLenA X.K) := CallR.or call_len call_lenZ
theorem d_lena {K : PySem.W.Frag} {mg : PySem.Str → Option Value} : RnD K mg (rLenA K) bLenA := fun S H xs ds Q z t hp e k => by
  unfold bLenA at e
  split at e
  · cases e
    obtain ⟨x, rfl, p⟩ := topv1 hp
    rcases p.dct with ⟨rfl, a, kvs, rfl, h1, z1, g, r⟩ | ⟨rfl, a, kvs, rfl, h1, z1, g, r⟩
    · have := congrArg List.length g
      rw [List.length_map, List.length_map] at this
      rw [this] at k
      exact .inr ⟨a, rfl, .inl ⟨kvs, h1, k.pure (.int _)⟩⟩
    · have := congrArg List.length g
      rw [List.length_map, List.length_map] at this
      rw [this] at k
      exact .inr ⟨a, rfl, .inr ⟨kvs, h1, k.pure (.int _)⟩⟩
  · cases e
    obtain ⟨x, rfl, p⟩ := topv1 hp
    obtain ⟨a, rfl, h1, z1⟩ := p.tplT
    exact .inl ⟨.ref a, _, rfl, .inr ⟨_, h1, by rw [List.length_map]⟩, k.pure (.int _)⟩
  · cases e
    obtain ⟨x, rfl, p⟩ := topv1 hp
    obtain ⟨a, vs, rfl, h1, z1, r1⟩ := p.ktpT
    exact .inl ⟨.ref a, _, rfl, .inr ⟨_, h1, by rw [r1.len]⟩, k.pure (.int _)⟩
  · exact .inl (d_len S H xs ds Q z t hp e k)
@[simp] theorem bLenA_d (t : Bool) (ds : List (D × D)) : bLenA [.dct t ds] = .ok (.val (.int ds.length)) := rfl
@[simp] theorem bLenA_l (ds : List D) : bLenA [.lst ds] = .ok (.val (.int ds.length)) := rfl
@[simp] theorem bLenA_t (ds : List D) : bLenA [.tup ds] = .ok (.val (.int ds.length)) := rfl
@[simp] theorem bLenA_k (ds : List D) : bLenA [.ktp ds] = .ok (.val (.int ds.length)) := rfl
@[simp] theorem bLenA_p (ns : List Int) : bLenA [.tpl ns] = .ok (.val (.int ns.length)) := rfl
@[simp] theorem bLenA_c (ns : List Int) : bLenA [.scr ns] = .ok (.val (.int ns.length)) := rfl
end Pu
namespace Pu
open PySem L2
/-! # loops in order, greedy rows -/
/-! the greedy row of a doubling list is exact -/
def sm (ps : List (Int × Int)) : Int := (ps.map (·.1)).sum
@[simp] theorem sm_nil : sm [] = 0 := rfl
@[simp] theorem sm_cons (p : Int × Int) (ps : List (Int × Int)) : sm (p :: ps) = p.1 + sm ps := by simp [sm]
theorem any_int (k : Int) : ∀ ns : List Int, ((ns.map D.int).any fun y => PyData.eqv (py y) (py (.int k))) = decide (k ∈ ns)
  | [] => rfl
  | n :: ns => by
    rw [List.map_cons, List.any_cons, any_int k ns, py_int, py_int, PyData.eqv]
    by_cases h : n = k
    · subst h
      simp
    · have h2 : ¬ k = n := fun z => h z.symm
      by_cases c : k ∈ ns <;> simp [h, h2, c]
theorem pl_in (ns : List Int) : Pl 40 (.tup (ns.map D.int)) ∧ Pl 40 (.lst (ns.map D.int)) := ⟨pl_ints ns, pl_ints ns⟩
@[simp] theorem dInS_t (k : Int) (ns : List Int) : dInS (.int k) (.tup (ns.map D.int)) = .ok (.val (.bl (decide (k ∈ ns)))) := by
  unfold dInS dPl
  rw [if_pos ⟨by simp, (pl_in ns).1, .inr (.inl ⟨_, rfl⟩)⟩]
  simp only [itemsD, any_int]
@[simp] theorem dInS_l (k : Int) (ns : List Int) : dInS (.int k) (.lst (ns.map D.int)) = .ok (.val (.bl (decide (k ∈ ns)))) := by
  unfold dInS dPl
  rw [if_pos ⟨by simp, (pl_in ns).2, .inl ⟨_, rfl⟩⟩]
  simp only [itemsD, any_int]
@[simp] theorem dNinS_t (k : Int) (ns : List Int) : dNinS (.int k) (.tup (ns.map D.int)) = .ok (.val (.bl (!decide (k ∈ ns)))) := by
  unfold dNinS dPl
  rw [if_pos ⟨by simp, (pl_in ns).1, .inr (.inl ⟨_, rfl⟩)⟩]
  simp only [itemsD, any_int]
@[simp] theorem dNinS_l (k : Int) (ns : List Int) : dNinS (.int k) (.lst (ns.map D.int)) = .ok (.val (.bl (!decide (k ∈ ns)))) := by
  unfold dNinS dPl
  rw [if_pos ⟨by simp, (pl_in ns).2, .inl ⟨_, rfl⟩⟩]
  simp only [itemsD, any_int]
end Pu
namespace HT
open PySem PySem.Spec PyProof.Rows
theorem pu_mul1 (l : Addr) (items : Array Value) (n : Nat) (dd : Option Addr) (sl : Array (Option Value)) (u : Tok) :
    Meets (Builtin.«tuple.__mul__» ⟨[.ref l, .int 1 u], []⟩) (fun _ R s => s.heap.get? l = some { cls := .type "tuple", dict := dd, data := .seq items n, slots := sl } ∧ R (.ok (.ret (Value.ref l))) s) :=
  .of_wp fun prog w A R s h => by
    obtain ⟨hp, g, d, tk, os⟩ := s
    obtain ⟨hl, h⟩ := h
    have f1 := AutoSeq1.idx_int
    wp_walk using wpAny_loadPart' hl
    exact ⟨_, rfl, h⟩
theorem pu_mul0 (l : Addr) (items : Array Value) (n : Nat) (dd : Option Addr) (sl : Array (Option Value)) (x : Int) (u : Tok) (c0 : (decide (x < -(2 ^ 63)) || decide (x ≥ 2 ^ 63)) = false) (c1 : (items.isEmpty || x == 1) = false) (c2 : (decide (x ≤ 0) || items.isEmpty) = true) :
    Meets (Builtin.«tuple.__mul__» ⟨[.ref l, .int x u], []⟩) (fun _ R s => s.heap.get? l = some { cls := .type "tuple", dict := dd, data := .seq items n, slots := sl } ∧
      R (.ok (.ret (Value.ref s.heap.objs.size))) { s with heap := s.heap.push { cls := Value.type "tuple", data := Data.seq #[] }, toks := s.toks }) :=
  .of_wp fun prog w A R s h => by
    obtain ⟨hp, g, d, tk, os⟩ := s
    obtain ⟨hl, h⟩ := h
    have f1 := AutoSeq1.idx_int
    wp_walk using wpAny_loadPart' hl
    repeat (first
      | (refine wpAny_ite_false (decide_eq_false (by rw [c0]; exact Bool.false_ne_true)) ?_; wp_walk using wpAny_loadPart' hl)
      | (refine wpAny_ite_false (decide_eq_false (by rw [c1]; exact Bool.false_ne_true)) ?_; wp_walk using wpAny_loadPart' hl)
      | (refine wpAny_ite_true (decide_eq_true c2) ?_; wp_walk using wpAny_loadPart' hl))
    exact ⟨_, rfl, h⟩
end HT
namespace Pu
open PySem L2 PySem.Spec PyProof.Rows
/-! ## rows repeated -/
def rRepA (K : PySem.W.Frag) : R2 := fun x y H Q => ∃ l k xs, x = .ref l ∧ y = .int k ∧ SqT K H l xs ∧ xs ≠ [] ∧ xs.length ≤ 1000 ∧ ((k = 1 ∧ Q (.ref l) H) ∨ (k ≤ 0 ∧ -(2 ^ 62) < k ∧ ∀ p, H p = none → Q (.ref p) (upd H p (.tup []))))
theorem op_repA {X : Cx} : OpR X (binaryOp .Mult) (rRepA X.K) := by
  intro pins s σ H x y v u Q I rx ry h
  obtain ⟨l, k, xs, rfl, rfl, hT, hne, hz, h⟩ := h
  cases rx
  obtain ⟨t, rfl⟩ := ry
  obtain ⟨its, r, ⟨⟨cls, dd, data, sl⟩, ho, hc, n, hd⟩, hs⟩ := I.tuple hT
  simp only at hc hd
  subst hc hd
  have hle : its.length = xs.length := r.length.symm
  have hi : its.toArray.isEmpty = false := by
    cases its with
    | nil => exact absurd (List.eq_nil_of_length_eq_zero hle.symm) hne
    | cons a b => rfl
  rcases h with ⟨rfl, q⟩ | ⟨k0, k1, q⟩
  · refine wpAny_binaryOp_repeat_ref (T := "tuple") (U := "int") (by decide) ⟨_, ho, rfl⟩ (fun s' => typeIs_int s' 1 t) noFill_tuple_mul F.fills_int_mul F.slot_int_rmul repeat_tuple F.slot_int_index.lookup ?_
    refine call_meets F.slot_int_rmul (typeIs_int s 1 t) F.entry_int_rmul (F.args_int_rmul_2 _ _) (int_rmul_tuple 1 t l its.toArray n dd sl) ⟨ho, rfl, ⟨_, ho, rfl⟩, ?_⟩
    exact call_meets F.slot_tuple_mul ⟨_, ho, rfl⟩ F.entry_tuple_mul (F.args_tuple_mul_2 _ _) (HT.pu_mul1 l its.toArray n dd sl t) ⟨ho, ⟨.ref l, H, I, rfl, q⟩⟩
  · have c0 : (decide (k < -(2 ^ 63)) || decide (k ≥ 2 ^ 63)) = false := by
      rw [decide_eq_false (by omega), decide_eq_false (by omega)]
      rfl
    have c1 : (its.toArray.isEmpty || k == 1) = false := by
      rw [hi, Bool.false_or]
      exact beq_eq_false_iff_ne.mpr (by omega)
    have c2 : (decide (k ≤ 0) || its.toArray.isEmpty) = true := by
      rw [decide_eq_true k0]
      rfl
    refine wpAny_binaryOp_repeat_ref (T := "tuple") (U := "int") (by decide) ⟨_, ho, rfl⟩ (fun s' => typeIs_int s' k t) noFill_tuple_mul F.fills_int_mul F.slot_int_rmul repeat_tuple F.slot_int_index.lookup ?_
    refine call_meets F.slot_int_rmul (typeIs_int s k t) F.entry_int_rmul (F.args_int_rmul_2 _ _) (int_rmul_tuple k t l its.toArray n dd sl) ⟨ho, rfl, ⟨_, ho, rfl⟩, ?_⟩
    refine call_meets F.slot_tuple_mul ⟨_, ho, rfl⟩ F.entry_tuple_mul (F.args_tuple_mul_2 _ _) (HT.pu_mul0 l its.toArray n dd sl k t c0 c1 c2) ⟨ho, ?_⟩
    refine ⟨.ref s.heap.objs.size, _, I.laid (t' := s.toks) (o := .tup []) (fun b ob q => Heap.get?_push_of_some _ q) (Nat.le_refl _) ?_, rfl, q _ (I.hok.fresh (Nat.le_refl _))⟩
    exact ⟨Nat.zero_le _, [], .nil, IsTup.new _ _⟩
def rMulA (K : PySem.W.Frag) : R2 := fun x y H Q => rI CMul (fun i j => .int (i * j)) x y H Q ∨ rRepA K x y H Q ∨ L2.rRepT K x y H Q ∨ L2.rRep x y H Q
theorem op_mulA {X : Cx} : OpR X (binaryOp .Mult) (rMulA X.K) := op_mul.or (op_repA.or (op_repT.or op_rep))
def repA {A : Type} (xs : List A) (k : Int) : List A := (List.replicate k.toNat xs).flatten
def dMulA : D → D → Rs VD
  | .tup ds, .int k => if ds ≠ [] ∧ ds.length ≤ 1000 ∧ -(2 ^ 62) < k ∧ k ≤ 1000 then .ok (.val (.tup (repA ds k))) else .stuck
  | .lst ds, .int k => if -(2 ^ 62) < k ∧ k ≤ 16000 ∧ ds.length ≤ 1000 then .ok (.own (.lst (repA ds k))) else .stuck
  | d, e => dMul d e
theorem q_mula : Quiet2 dMulA := fun d e => by
  unfold dMulA
  split <;> first | exact quiet_if quiet_v quiet_s | exact quiet_if quiet_o quiet_s | exact q_mul _ _
theorem Reps.rep {K : PySem.W.Frag} {mg : PySem.Str → Option Value} {S : Addr → Prop} {H : Hp} {vs : List V} {ds : List D} (r : Reps K mg S H vs ds) : ∀ n : Nat, Reps K mg S H (List.replicate n vs).flatten (List.replicate n ds).flatten
  | 0 => .nil
  | n + 1 => by
    rw [List.replicate_succ, List.replicate_succ, List.flatten_cons, List.flatten_cons]
    exact r.app (Reps.rep r n)
theorem d_mula {K : PySem.W.Frag} {mg : PySem.Str → Option Value} : R2D K mg (rMulA K) dMulA := fun S H x y dx dy Q z t p q e k => by
  unfold dMulA at e
  split at e
  · rename_i ds i
    obtain ⟨⟨c1, c2, c3, c4⟩, rfl⟩ := if_ok e
    have pr := p.rep
    obtain ⟨a, vs, rfl, h1, z1, r⟩ := p.sqT
    have hl := r.len
    have hne : vs ≠ [] := fun w => c1 (List.eq_nil_of_length_eq_zero (by rw [← hl, w]; rfl))
    rw [q.int]
    by_cases k1 : i = 1
    · subst k1
      refine .inr (.inl ⟨a, 1, vs, rfl, rfl, h1, hne, by omega, .inl ⟨rfl, ?_⟩⟩)
      have e1 : repA ds 1 = ds := by unfold repA; simp
      rw [e1] at k
      exact k.pure pr
    · by_cases k0 : i ≤ 0
      · refine .inr (.inl ⟨a, i, vs, rfl, rfl, h1, hne, by omega, .inr ⟨k0, c3, fun u hu => ?_⟩⟩)
        have e1 : repA ds i = [] := by unfold repA; rw [show i.toNat = 0 by omega]; rfl
        rw [e1] at k
        exact k.newT t hu (Nat.zero_le _) .nil
      · refine .inr (.inr (.inl ⟨a, i, vs, rfl, rfl, h1, hne, by omega, c4, by omega, fun u hu => k.newT t hu ?_ (r.rep i.toNat)⟩))
        rw [PyProof.Rows.lm_len_rep_flat, sizeLine_eq]
        have a1 : i.toNat * vs.length ≤ 1000 * 1000 := Nat.mul_le_mul (by omega) (by omega)
        omega
  · rename_i ds i
    obtain ⟨⟨c3, c4, c5⟩, rfl⟩ := if_ok e
    obtain ⟨a, vs, rfl, h1, z1, r⟩ := p.sqL
    have hl := r.len
    have a1 : vs.length * i.toNat ≤ 1000 * 16000 := Nat.mul_le_mul (by omega) (by omega)
    rw [q.int]
    refine .inr (.inr (.inr ⟨a, i, vs, rfl, rfl, h1, by omega, by omega, by rw [sizeLine_eq]; omega, fun u hu => k.newL hu ?_ (r.rep i.toNat)⟩))
    rw [PyProof.Rows.lm_len_rep_flat, sizeLine_eq]
    rw [Nat.mul_comm] at a1
    omega
  · exact .inl (d_mul S H x y dx dy Q z t p q e k)
@[simp] theorem dMulA_ii (i j : Int) : dMulA (.int i) (.int j) = if (-(2 ^ 64) < i ∧ i < 2 ^ 64) ∨ (-(2 ^ 64) < j ∧ j < 2 ^ 64) then .ok (.val (.int (i * j))) else .stuck := rfl
@[simp] theorem dMulA_t (ds : List D) (k : Int) : dMulA (.tup ds) (.int k) = if ds ≠ [] ∧ ds.length ≤ 1000 ∧ -(2 ^ 62) < k ∧ k ≤ 1000 then .ok (.val (.tup (repA ds k))) else .stuck := rfl
@[simp] theorem dMulA_l (ds : List D) (k : Int) : dMulA (.lst ds) (.int k) = if -(2 ^ 62) < k ∧ k ≤ 16000 ∧ ds.length ≤ 1000 then .ok (.own (.lst (repA ds k))) else .stuck := rfl
end Pu
namespace Pu
open PySem L2
/-! ## a def that calls itself: so deep -/
def noM : DM := fun _ _ => .stuck
/-- nothing is promised -/
theorem okD_no {P : Program} {w : World} {K : PySem.W.Frag} {mg : PySem.Str → Option Value} {base : Heap} {x qual : PySem.Str} {params : Arguments} {body : List Stmt} {scope : Scope} {ps : List PySem.Str} {k : Nat} {io : Bool} (F : ∃ fd, FunD K x qual params body scope [] [] (He.ga K x) fd) (hm : mg x = some (.ref (He.ga K x)))
    (hb : ∀ (kV doc pm : Value) (an : Option Addr) (cdv ct : Value) (us : List Value), us.length = ps.length → bindArgs (PySem.W.fnOf x qual params body scope .none kV doc pm an cdv ct) ⟨us, []⟩ = pure (ps.zip us)) : OkD P w K mg base k x ps.length io noM := by
  obtain ⟨fd, F⟩ := F
  refine ⟨fd, ps, ⟨fun vs H Q E ⟨C, vs1, ds, T, _, hl, _, _, _, _, p⟩ => p.elim, fun A outer s H args us vs Q E _ _ _ _ hsp => ?_⟩, F.bindsN hb, F.kp, hm⟩
  obtain ⟨C, vs1, ds, T, _, hl, _, _, _, _, p⟩ := hsp
  exact p.elim
end Pu
namespace Pu
open PySem L2
/-! # entries of rows -/
def dE3 (e : Int × Int × Int) : D := .tup [.int e.1, .int e.2.1, .int e.2.2]
/-- the entries of a row: the loop, the time gone, the time left -/
def entL (f : Int → Int) : Int → Int → List Int → List (Int × Int × Int)
  | _, _, [] => []
  | g, l, k :: r => (k, g, l) :: entL f (g + f k) (l - f k) r
/-- a row of loops that are there -/
def RowOk (ns row : List Int) : Prop := ∀ k ∈ row, 0 ≤ k ∧ k < ns.length
def vl (ns : List Int) (k : Int) : Int := nth ns k.toNat
def entR (ns row : List Int) : List (Int × Int × Int) := entL (vl ns) 0 (row.map (vl ns)).sum row
/-- two entries clash -/
def cl (c : Int) (a b : Int × Int × Int) : Bool := decide (0 ≤ a.2.1 - b.2.1) && decide (0 < b.2.2 - a.2.2 ∧ b.2.2 - a.2.2 ≤ c * (a.2.1 - b.2.1) + c - 1)
def clS (c : Int) (a b : Int × Int × Int) : Bool := if b.2.2 < a.2.2 then cl c b a else cl c a b
@[simp] theorem at3_0 (a b c : D) : atI [a, b, c] 0 = some a := rfl
@[simp] theorem at3_1 (a b c : D) : atI [a, b, c] 1 = some b := rfl
@[simp] theorem at3_2 (a b c : D) : atI [a, b, c] 2 = some c := rfl
@[simp] theorem at2_0 (a b : D) : atI [a, b] 0 = some a := rfl
@[simp] theorem at2_1 (a b : D) : atI [a, b] 1 = some b := rfl
def hit (c : Int) (a b : Int × Int × Int) : Bool := decide (a.1 = b.1) && cl c a b
theorem hit_iff {c : Int} {a b : Int × Int × Int} : hit c a b = true ↔ a.1 = b.1 ∧ b.2.1 ≤ a.2.1 ∧ a.2.2 < b.2.2 ∧ b.2.2 - a.2.2 ≤ c * (a.2.1 - b.2.1) + c - 1 := by
  unfold hit cl
  simp only [Bool.and_eq_true, decide_eq_true_eq]
  constructor
  · rintro ⟨h1, h2, h3, h4⟩
    exact ⟨h1, by omega, by omega, h4⟩
  · rintro ⟨h1, h2, h3, h4⟩
    exact ⟨h1, by omega, by omega, h4⟩
theorem ent_of {f : Int → Int} : ∀ {r : List Int} {g l : Int} {e : Int × Int × Int}, e ∈ entL f g l r → (∀ k ∈ r, 1 ≤ f k) → e.1 ∈ r ∧ g ≤ e.2.1 ∧ e.2.1 + e.2.2 = g + l
  | k :: r, g, l, e, h, hf => by
    rw [entL] at h
    have hk := hf k List.mem_cons_self
    rcases List.mem_cons.mp h with z | z
    · subst z
      exact ⟨List.mem_cons_self, Int.le_refl _, rfl⟩
    · obtain ⟨a, b, c⟩ := ent_of z fun q w => hf q (List.mem_cons_of_mem _ w)
      exact ⟨List.mem_cons_of_mem _ a, by omega, by omega⟩
end Pu
namespace Pu
open PySem L2
/-! # data of a kind -/
@[simp] abbrev vI (k : Int) : Option VD := some (.val (.int k))
@[simp] abbrev vD (d : D) : Option VD := some (.val d)
@[simp] abbrev vO (d : D) : Option VD := some (.own d)
abbrev dT (ns : List Int) : D := .tup (ns.map D.int)
/-- a kind of data: it is plain, and two are equal exactly if they are the same -/
structure Enc {A : Type} [DecidableEq A] (n : Nat) (e : A → D) : Prop where
  pl : ∀ a, Pl n (e a)
  eq : ∀ a b, PyData.eqv (py (e a)) (py (e b)) = decide (a = b)
theorem pl_up : ∀ {n m : Nat} {d : D}, n ≤ m → Pl n d → Pl m d
  | n, m, .non, _, _ => by simp
  | n, m, .bl _, _, _ => by simp
  | n, m, .int _, _, _ => by simp
  | n, m, .str _, _, _ => by simp
  | n + 1, m + 1, .tup ds, h, p => by
    rw [pl_tup] at p ⊢
    exact fun d hd => pl_up (Nat.le_of_succ_le_succ h) (p d hd)
  | n + 1, m + 1, .lst ds, h, p => by
    rw [pl_lst] at p ⊢
    exact fun d hd => pl_up (Nat.le_of_succ_le_succ h) (p d hd)
  | 0, m, .tup ds, h, p => (show False from p).elim
  | 0, m, .lst ds, h, p => (show False from p).elim
  | n + 1, 0, .tup ds, h, p => absurd h (Nat.not_succ_le_zero n)
  | n + 1, 0, .lst ds, h, p => absurd h (Nat.not_succ_le_zero n)
  | 0, m, .dct _ _, _, p => (show False from p).elim
  | n + 1, m, .dct _ _, _, p => (show False from p).elim
  | 0, m, .ins _ _, _, p => (show False from p).elim
  | n + 1, m, .ins _ _, _, p => (show False from p).elim
  | 0, m, .scr _, _, p => (show False from p).elim
  | n + 1, m, .scr _, _, p => (show False from p).elim
  | 0, m, .exn _ _, _, p => (show False from p).elim
  | 0, m, .lrf _, _, p => (show False from p).elim
  | 0, m, .cel _ _, _, p => (show False from p).elim
  | 0, m, .dcn _, _, p => (show False from p).elim
  | n + 1, m, .exn _ _, _, p => (show False from p).elim
  | n + 1, m, .lrf _, _, p => (show False from p).elim
  | n + 1, m, .cel _ _, _, p => (show False from p).elim
  | n + 1, m, .dcn _, _, p => (show False from p).elim
  | 0, m, .ktp _, _, p => (show False from p).elim
  | n + 1, 0, .ktp _, h, p => absurd h (Nat.not_succ_le_zero n)
  | n + 1, m + 1, .ktp ds, h, p => fun d z => pl_up (Nat.le_of_succ_le_succ h) (p d z)
  | 0, m, .tpl _, _, p => (show False from p).elim
  | n + 1, 0, .tpl _, h, p => absurd h (Nat.not_succ_le_zero n)
  | n + 1, m + 1, .tpl ns, h, p => by simp
theorem eqvAll_enc {A : Type} [DecidableEq A] {n : Nat} {e : A → D} (h : Enc n e) : ∀ xs ys : List A, PyData.eqvAll ((xs.map e).map py) ((ys.map e).map py) = decide (xs = ys)
  | [], [] => by simp [PyData.eqvAll]
  | [], _ :: _ => by simp [PyData.eqvAll]
  | _ :: _, [] => by simp [PyData.eqvAll]
  | x :: xs, y :: ys => by
    rw [List.map_cons, List.map_cons, List.map_cons, List.map_cons, PyData.eqvAll, eqvAll_enc h xs ys, h.eq]
    by_cases c : x = y <;> by_cases k : xs = ys <;> simp [c, k]
theorem enc_int : Enc 0 D.int := ⟨fun a => by simp, fun a b => by rw [py_int, py_int, PyData.eqv]; by_cases h : a = b <;> simp [h]⟩
theorem enc_bl : Enc 0 D.bl := ⟨fun a => by simp, fun a b => by cases a <;> cases b <;> rfl⟩
theorem enc_tup {A : Type} [DecidableEq A] {n : Nat} {e : A → D} (h : Enc n e) : Enc (n + 1) fun xs : List A => .tup (xs.map e) := ⟨fun a => by
    rw [pl_tup]
    intro d hd
    obtain ⟨x, _, rfl⟩ := List.mem_map.mp hd
    exact h.pl x, fun a b => by rw [py_tup, py_tup, PyData.eqv, eqvAll_enc h]⟩
theorem enc_lst {A : Type} [DecidableEq A] {n : Nat} {e : A → D} (h : Enc n e) : Enc (n + 1) fun xs : List A => .lst (xs.map e) := ⟨fun a => by
    rw [pl_lst]
    intro d hd
    obtain ⟨x, _, rfl⟩ := List.mem_map.mp hd
    exact h.pl x, fun a b => by rw [py_lst, py_lst, PyData.eqv, eqvAll_enc h]⟩
theorem enc_pair {A B : Type} [DecidableEq A] [DecidableEq B] {n : Nat} {e : A → D} {f : B → D} (h : Enc n e) (k : Enc n f) : Enc (n + 1) fun p : A × B => .tup [e p.1, f p.2] := ⟨fun p => by
    rw [pl_tup]
    intro d hd
    rcases List.mem_cons.mp hd with rfl | hd
    · exact h.pl _
    · rw [List.mem_singleton.mp hd]; exact k.pl _, fun p q => by
    rw [py_tup, py_tup]
    simp only [List.map_cons, List.map_nil, PyData.eqv, PyData.eqvAll, h.eq, k.eq]
    obtain ⟨a, b⟩ := p
    obtain ⟨c, d⟩ := q
    by_cases h1 : a = c <;> by_cases h2 : b = d <;> simp [h1, h2]⟩
theorem enc_trip {A B C : Type} [DecidableEq A] [DecidableEq B] [DecidableEq C] {n : Nat} {e : A → D} {f : B → D} {g : C → D} (h : Enc n e) (k : Enc n f) (l : Enc n g) : Enc (n + 1) fun p : A × B × C => .tup [e p.1, f p.2.1, g p.2.2] := ⟨fun p => by
    rw [pl_tup]
    intro d hd
    rcases List.mem_cons.mp hd with rfl | hd
    · exact h.pl _
    rcases List.mem_cons.mp hd with rfl | hd
    · exact k.pl _
    · rw [List.mem_singleton.mp hd]; exact l.pl _, fun p q => by
    rw [py_tup, py_tup]
    simp only [List.map_cons, List.map_nil, PyData.eqv, PyData.eqvAll, h.eq, k.eq, l.eq]
    obtain ⟨a, b, c⟩ := p
    obtain ⟨x, y, z⟩ := q
    by_cases h1 : a = x <;> by_cases h2 : b = y <;> by_cases h3 : c = z <;> simp [h1, h2, h3]⟩
/-- a whole number or None -/
def dO : Option Int → D
  | none => .non
  | some i => .int i
@[simp] theorem dO_none : dO none = .non := rfl
@[simp] theorem dO_some (i : Int) : dO (some i) = .int i := rfl
theorem enc_opt : Enc 0 dO := ⟨fun a => by cases a <;> simp, fun a b => by
  cases a with
  | none => cases b with
    | none => rfl
    | some j => rfl
  | some i => cases b with
    | none => rfl
    | some j =>
      rw [dO_some, dO_some, py_int, py_int, PyData.eqv]
      by_cases h : i = j <;> simp [h]⟩
theorem enc_dT : Enc 1 dT := enc_tup enc_int
theorem enc_dPr : Enc 1 dPr := enc_pair enc_int enc_int
theorem enc_dE3 : Enc 1 dE3 := enc_trip enc_int enc_int enc_int
section
variable {A : Type} [DecidableEq A] {n : Nat} {e : A → D}
theorem dEq_enc (h : Enc n e) (a b : A) (hn : n ≤ 40 := by decide) : dEq (e a) (e b) = .ok (.val (.bl (decide (a = b)))) := by
  unfold dEq dPl
  rw [if_pos ⟨pl_up hn (h.pl a), pl_up hn (h.pl b), trivial⟩]
  simp only [h.eq]
theorem dNe_enc (h : Enc n e) (a b : A) (hn : n ≤ 40 := by decide) : dNe (e a) (e b) = .ok (.val (.bl (!decide (a = b)))) := by
  unfold dNe dPl
  rw [if_pos ⟨pl_up hn (h.pl a), pl_up hn (h.pl b), trivial⟩]
  simp only [h.eq]
theorem any_enc (h : Enc n e) (a : A) : ∀ xs : List A, ((xs.map e).any fun y => PyData.eqv (py y) (py (e a))) = decide (a ∈ xs)
  | [] => by simp
  | x :: xs => by
    rw [List.map_cons, List.any_cons, any_enc h a xs, h.eq]
    by_cases c : x = a
    · subst c
      simp
    · have h2 : ¬ a = x := fun z => c z.symm
      by_cases k : a ∈ xs <;> simp [c, h2, k]
theorem dNinS_encL (h : Enc n e) (a : A) (xs : List A) (hn : n ≤ 39 := by decide) : dNinS (e a) (.lst (xs.map e)) = .ok (.val (.bl (!decide (a ∈ xs)))) := by
  unfold dNinS dPl
  rw [if_pos ⟨pl_up (by omega) (h.pl a), pl_up (by omega) ((enc_lst h).pl xs), .inl ⟨_, rfl⟩⟩]
  simp only [itemsD, any_enc h]
end
@[simp] theorem dInA_l' (d : D) (xs : List D) : dInA d (.lst xs) = dInS d (.lst xs) := rfl
@[simp] theorem dInA_t' (d : D) (xs : List D) : dInA d (.tup xs) = dInS d (.tup xs) := rfl
@[simp] theorem dNinA_l' (d : D) (xs : List D) : dNinA d (.lst xs) = dNinS d (.lst xs) := rfl
@[simp] theorem dNinA_t' (d : D) (xs : List D) : dNinA d (.tup xs) = dNinS d (.tup xs) := rfl
/-! rows in order -/
def leL (a b : List Int) : Bool := decide (a ≤ b)
def srtL (rs : List (List Int)) : List (List Int) := rs.mergeSort leL
theorem srtL_perm (rs : List (List Int)) : (srtL rs).Perm rs := List.mergeSort_perm _ _
@[simp] theorem srtL_len (rs : List (List Int)) : (srtL rs).length = rs.length := (srtL_perm rs).length_eq
end Pu
namespace Pu
open PySem L2
/-! # the last of a row -/
def lst (r : List Int) : Int := nth r (r.length - 1)
theorem lst_mem {r : List Int} (h : r ≠ []) : lst r ∈ r := nth_mem (by have := List.length_pos_iff.mpr h; omega)
theorem mem_le_sum {r : List Int} (h : ∀ x ∈ r, 0 ≤ x) : ∀ x ∈ r, x ≤ r.sum := by
  induction r with
  | nil => simp
  | cons y r ih =>
    have hp : 0 ≤ r.sum := by
      clear ih
      have h2 : ∀ x ∈ r, 0 ≤ x := fun x hx => h x (List.mem_cons_of_mem _ hx)
      clear h
      induction r with
      | nil => simp
      | cons z r ih => simp; have := h2 z List.mem_cons_self; have := ih fun x hx => h2 x (List.mem_cons_of_mem _ hx); omega
    intro x hx
    have hy := h y List.mem_cons_self
    simp
    rcases List.mem_cons.mp hx with rfl | hx
    · omega
    · have := ih (fun z hz => h z (List.mem_cons_of_mem _ hz)) x hx
      omega
end Pu
namespace Pu
open PySem L2
/-! # comparisons of rows, pairs, triples, as rules -/
@[simp] theorem dEq_rl (a b : List (List Int)) : dEq (.lst (a.map dT)) (.lst (b.map dT)) = .ok (.val (.bl (decide (a = b)))) := dEq_enc (enc_lst enc_dT) a b
@[simp] theorem dNe_rl (a b : List (List Int)) : dNe (.lst (a.map dT)) (.lst (b.map dT)) = .ok (.val (.bl (!decide (a = b)))) := dNe_enc (enc_lst enc_dT) a b
@[simp] theorem dEq_rt (a b : List (List Int)) : dEq (.tup (a.map dT)) (.tup (b.map dT)) = .ok (.val (.bl (decide (a = b)))) := dEq_enc (enc_tup enc_dT) a b
@[simp] theorem dNe_rt (a b : List (List Int)) : dNe (.tup (a.map dT)) (.tup (b.map dT)) = .ok (.val (.bl (!decide (a = b)))) := dNe_enc (enc_tup enc_dT) a b
@[simp] theorem dEq_pl (a b : List (Int × Int)) : dEq (.lst (a.map dPr)) (.lst (b.map dPr)) = .ok (.val (.bl (decide (a = b)))) := dEq_enc (enc_lst enc_dPr) a b
@[simp] theorem dNe_pl (a b : List (Int × Int)) : dNe (.lst (a.map dPr)) (.lst (b.map dPr)) = .ok (.val (.bl (!decide (a = b)))) := dNe_enc (enc_lst enc_dPr) a b
@[simp] theorem dEq_el (a b : List (Int × Int × Int)) : dEq (.lst (a.map dE3)) (.lst (b.map dE3)) = .ok (.val (.bl (decide (a = b)))) := dEq_enc (enc_lst enc_dE3) a b
@[simp] theorem dNe_el (a b : List (Int × Int × Int)) : dNe (.lst (a.map dE3)) (.lst (b.map dE3)) = .ok (.val (.bl (!decide (a = b)))) := dNe_enc (enc_lst enc_dE3) a b
@[simp] theorem dEq_ol (a b : List (Option Int)) : dEq (.lst (a.map dO)) (.lst (b.map dO)) = .ok (.val (.bl (decide (a = b)))) := dEq_enc (enc_lst enc_opt) a b
@[simp] theorem dNe_ol (a b : List (Option Int)) : dNe (.lst (a.map dO)) (.lst (b.map dO)) = .ok (.val (.bl (!decide (a = b)))) := dNe_enc (enc_lst enc_opt) a b
end Pu
namespace Pu
open PySem L2 PySem.Spec PyProof.Rows
/-! # own things -/
section
variable {K : PySem.W.Frag} {mg : PySem.Str → Option Value} {S : Addr → Prop} {H : Hp}
theorem Top.ins {v : V} {c : PySem.Str} {ds : List (PySem.Str × D)} (h : Top K mg S H v (.ins c ds)) : ∃ a C dx fs, v = .ref a ∧ H a = some (.ins C dx fs) ∧ mg c = some (.ref C) ∧ ds.map (·.1) = fs.map (·.1) ∧ Reps K mg S H (fs.map (·.2)) (ds.map (·.2)) := by
  rcases h with h | ⟨p, rfl, h⟩
  · cases h with
    | ins s e m g q => exact ⟨_, _, _, _, rfl, e, m, g, q⟩
  · cases h with
    | ins e m g q => exact ⟨_, _, _, _, rfl, e, m, g, q⟩
end
/-! o.f -/
/-! self.f = e -/
/-! self.f, self.f = e where self is the tape -/
/-! C(..) -/
def mkK (T : Tp) (r : Env) : Rs (VD × Tp) → Rs (VD × Tp)
  | .ok (.val .non, some (.ins c fs)) => .ok (.own (.ins c fs), T)
  | .exc c fs _ _ => .exc c fs T r
  | _ => .stuck
@[simp] theorem mkK_ok (T : Tp) (r : Env) (c : PySem.Str) (fs : List (PySem.Str × D)) : mkK T r (.ok (.val .non, some (.ins c fs))) = .ok (.own (.ins c fs), T) := rfl
/-! o.m(..) of data -/
/-- the thing is of the class c and has no field m -/
def insD (c m : PySem.Str) : D → Rs D
  | .ins c' fs => if c' = c ∧ fs.lookup m = none then .ok (.ins c' fs) else .stuck
  | _ => .stuck
@[simp] theorem insD_ins (c m : PySem.Str) (fs : List (PySem.Str × D)) : insD c m (.ins c fs) = if fs.lookup m = none then .ok (.ins c fs) else .stuck := by
  unfold insD
  by_cases h : fs.lookup m = none <;> simp [h]
end Pu
namespace Pu
open PySem L2 PySem.Spec PyProof.Rows
/-! # more operations -/
def dShl : D → D → Rs VD
  | .int i, .int j => if 0 ≤ j ∧ j ≤ 1000000 ∧ i.natAbs < 2 ^ 64 then .ok (.val (.int (i * 2 ^ j.toNat))) else .stuck
  | _, _ => .stuck
def dOr : D → D → Rs VD
  | .int i, .int j => .ok (.val (.int (Builtin.bitOr i j)))
  | _, _ => .stuck
/-- by a great number -/
def dDivW : D → D → Rs VD
  | .int i, .int j => if 0 < j ∧ j.natAbs.log2 < 9000 then .ok (.val (.int (i / j))) else .stuck
  | _, _ => .stuck
def dMulW : D → D → Rs VD
  | .int i, .int j => if i.natAbs.log2 + j.natAbs.log2 < 1000000 then .ok (.val (.int (i * j))) else .stuck
  | _, _ => .stuck
/-- x is True -/
def dIsB : D → D → Rs VD
  | .bl a, .bl b => .ok (.val (.bl (decide (a = b))))
  | _, _ => .stuck
def dIsnB : D → D → Rs VD
  | .bl a, .bl b => .ok (.val (.bl (!decide (a = b))))
  | _, _ => .stuck
@[simp] theorem dShl_ii (i j : Int) : dShl (.int i) (.int j) = if 0 ≤ j ∧ j ≤ 1000000 ∧ i.natAbs < 2 ^ 64 then .ok (.val (.int (i * 2 ^ j.toNat))) else .stuck := rfl
@[simp] theorem dOr_ii (i j : Int) : dOr (.int i) (.int j) = .ok (.val (.int (Builtin.bitOr i j))) := rfl
@[simp] theorem dDivW_ii (i j : Int) : dDivW (.int i) (.int j) = if 0 < j ∧ j.natAbs.log2 < 9000 then .ok (.val (.int (i / j))) else .stuck := rfl
@[simp] theorem dMulW_ii (i j : Int) : dMulW (.int i) (.int j) = if i.natAbs.log2 + j.natAbs.log2 < 1000000 then .ok (.val (.int (i * j))) else .stuck := rfl
@[simp] theorem dIsB_bb (a b : Bool) : dIsB (.bl a) (.bl b) = .ok (.val (.bl (decide (a = b)))) := rfl
@[simp] theorem dIsnB_bb (a b : Bool) : dIsnB (.bl a) (.bl b) = .ok (.val (.bl (!decide (a = b)))) := rfl
/-- one type for all that is asked of it -/
theorem isT_all {K : PySem.W.Frag} {mg : PySem.Str → Option Value} {S : Addr → Prop} {H : Hp} {cs : List PySem.Str} (ho : OwnOk K mg cs) {v : V} {d : D} {t0 : Ty} {b0 : Bool} (h : Top K mg S H v d) (e0 : isT cs t0 d = some b0) : ∃ tv, TyZ K H v tv ∧ ∀ (t : Ty) (b : Bool), isT cs t d = some b → PySem.W.kitOne K tv (.type t.nm) = some b := by
  have go : ∀ tv : Value, TyZ K H v tv → (∀ (t : Ty) (b : Bool), isT cs t d = some b → PySem.W.kitOne K tv (.type t.nm) = some b) → ∃ tv, TyZ K H v tv ∧ ∀ (t : Ty) (b : Bool), isT cs t d = some b → PySem.W.kitOne K tv (.type t.nm) = some b := fun tv a b => ⟨tv, a, b⟩
  cases d with
  | non =>
    rw [h.non] at go ⊢
    exact go _ (.base .non) fun t b e => by cases t <;> cases e <;> exact kit_ty (by decide +kernel)
  | bl x =>
    rw [h.bl] at go ⊢
    exact go _ (.base (.bl x)) fun t b e => by cases t <;> cases e <;> exact kit_ty (by decide +kernel)
  | int x =>
    rw [h.int] at go ⊢
    exact go _ (.base (.int x)) fun t b e => by cases t <;> cases e <;> exact kit_ty (by decide +kernel)
  | str x =>
    rw [h.str] at go ⊢
    exact go _ (.base (.str x)) fun t b e => by cases t <;> cases e <;> exact kit_ty (by decide +kernel)
  | tup ds =>
    obtain ⟨a, vs, rfl, h1, _⟩ := h.sqT
    exact go _ (sqT_ty h1) fun t b e => by cases t <;> cases e <;> exact kit_ty (by decide +kernel)
  | lst ds =>
    obtain ⟨a, vs, rfl, h1, z1, r⟩ := h.sqL
    exact go _ (.base (.lst h1)) fun t b e => by cases t <;> cases e <;> exact kit_ty (by decide +kernel)
  | exn a b => cases t0 <;> cases e0
  | lrf a => cases t0 <;> cases e0
  | cel a b => cases t0 <;> cases e0
  | dcn a => cases t0 <;> cases e0
  | tpl ns =>
    obtain ⟨a, o, rfl, h1, _⟩ := h.tpl
    exact go _ (.fTuple h1) fun t b e => by cases t <;> cases e <;> exact kit_ty (by decide +kernel)
  | ktp ns =>
    obtain ⟨a, o, vs, rfl, h1, _⟩ := h.ktp
    exact go _ (.fTuple h1) fun t b e => by cases t <;> cases e <;> exact kit_ty (by decide +kernel)
  | scr ns =>
    obtain ⟨a, rfl, h1, z1⟩ := h.scr
    have ty : TyZ K H (.ref a) (.type "list") := by
      rcases h1 with (h1 | ⟨o, h1⟩) | ⟨o, its, n, h1, h2, _⟩
      · exact .base (.lst h1)
      · exact .base (.frz h1)
      · exact .kList h1 h2
    exact go _ ty fun t b e => by cases t <;> cases e <;> exact kit_ty (by decide +kernel)
  | dct tt kvs =>
    rcases h.dct with ⟨_, a, l, rfl, h1, _⟩ | ⟨_, a, l, rfl, h1, _⟩
    · exact go _ (.dK h1) fun t b e => by cases t <;> cases e <;> exact kit_ty (by decide +kernel)
    · exact go _ (.dT h1) fun t b e => by cases t <;> cases e <;> exact kit_ty (by decide +kernel)
  | ins c fs =>
    obtain ⟨a, C, dx, l, rfl, h1, hm, _⟩ := h.ins
    have ei : ∀ (t : Ty) (b : Bool), isT cs t (.ins c fs) = some b → cs.contains c = true ∧ b = false := fun t b e => by
      have e' : (if cs.contains c then some false else none) = some b := by cases t <;> exact e
      by_cases hc : cs.contains c = true
      · rw [if_pos hc] at e'
        cases e'
        exact ⟨hc, rfl⟩
      · rw [if_neg hc] at e'
        cases e'
    obtain ⟨hc, _⟩ := ei t0 b0 e0
    obtain ⟨⟨h2, h3, h4, h5, h6⟩, h7⟩ := ho c (by simpa using hc) C hm
    exact go _ (.base (.ins h1 h2 h3 h4 h5 h6)) fun t b e => by rw [(ei t b e).2]; exact h7 t
/-! isinstance(x, (T1, T2)) -/
def dIsi2 (cs : List PySem.Str) (t u : Ty) (d : D) : Rs VD := (rO (isT cs t d)).bind fun b => (rO (isT cs u d)).bind fun c => .ok (.val (.bl (b || c)))
@[simp] theorem dIsi2_ap (cs : List PySem.Str) (t u : Ty) (d : D) : dIsi2 cs t u d = (rO (isT cs t d)).bind fun b => (rO (isT cs u d)).bind fun c => .ok (.val (.bl (b || c))) := rfl
theorem q_isi2 {cs : List PySem.Str} {t u : Ty} : Quiet1 (dIsi2 cs t u) := fun d => quiet_r fun _ => quiet_r fun _ => quiet_v
theorem se_isi2 {X : Cx} {C : FC} {e : Expr} {f : DE} {x y : PySem.Str} {t u : Ty} {cs : List PySem.Str} {pos p p2 p3 pt : Pos} {kt : Nat} (ho : OwnOk X.K X.mg cs) (he : SE X C e f) (hm1 : X.mg "isinstance" = none) (hv1 : bootBuiltins "isinstance" = some (.builtin "isinstance")) (hm : X.mg x = none) (hv : bootBuiltins x = some (.type t.nm)) (hm2 : X.mg y = none) (hv2 : bootBuiltins y = some (.type u.nm))
    (hg1 : Gl X "isinstance" := by rfl) (hg : Gl X x := by rfl) (hn : x ≠ "__name__" := by decide) (hdb : (x == ("__debug__" : PySem.Str)) = false := by decide) (hg2 : Gl X y := by rfl) (hn2 : y ≠ "__name__" := by decide) (hdb2 : (y == ("__debug__" : PySem.Str)) = false := by decide)
    (hs : starEach [e, .Tuple [.Name x p2, .Name y p3] kt pt] X.env = (false, eval e X.env) :: starEach [.Tuple [.Name x p2, .Name y p3] kt pt] X.env := by rfl) (hs2 : starEach [.Tuple [.Name x p2, .Name y p3] kt pt] X.env = (false, eval (.Tuple [.Name x p2, .Name y p3] kt pt) X.env) :: starEach [] X.env := by rfl)
    (hs3 : starEach [.Name x p2, .Name y p3] X.env = (false, eval (.Name x p2) X.env) :: starEach [.Name y p3] X.env := by rfl) (hs4 : starEach [.Name y p3] X.env = (false, eval (.Name y p3) X.env) :: starEach [] X.env := by rfl) (hpl : (backTo pos (starEach [.Tuple [.Name x p2, .Name y p3] kt pt] X.env)).any (·.1) = false := by rfl) :
    SE X C (.Call (.Name "isinstance" p) [e, .Tuple [.Name x p2, .Name y p3] kt pt] [] pos) (eUn (dIsi2 cs t u) f) := by
  refine pe_imp (pe_callB call_isiTZ hg1 hm1 hv1 (pa_cons he (pa_cons (pe_tup (pa_cons (pe_bltn (v := .ty t.nm) hg hm hv rfl hn hdb) (pa_cons (pe_bltn (v := .ty u.nm) hg2 hm2 hv2 rfl hn2 hdb2) pa_nil hs4) hs3)) pa_nil hs2) hs) (by decide) (by decide) hs hpl) ?_
  rintro σ H Q ⟨ρ, T, h, P⟩
  refine ⟨ρ, T, h, gv_dt h P fun d T' v H1 h1 e1 p P1 => ?_⟩
  obtain ⟨z, ez, P3⟩ := lift_ex (q_isi2 d) h1 (post_from h1 e1 P1)
  obtain ⟨b, eb, ez⟩ := o_ok ez
  obtain ⟨c, ec, ez⟩ := o_ok ez
  cases ez
  refine ⟨by show 2 ≤ sizeLine; decide, fun q hq => ?_⟩
  have sm : Same H1 (L2.upd H1 q (.tup [.ty t.nm, .ty u.nm])) := same_new hq
  have p2 : Top X.K X.mg (SS C Z0 ρ σ) (L2.upd H1 q (.tup [.ty t.nm, .ty u.nm])) v d := by
    rcases p with p | ⟨r, er, _, o⟩
    · exact .inl (p.go (fun a o e _ => sm a o e) fun _ _ _ s => s)
    · exact .inr ⟨r, er, o.go (fun o e => sm _ o e) (fun a o e _ => sm a o e) fun _ _ _ s => s⟩
  obtain ⟨tv, ty, kk⟩ := isT_all ho p2 eb
  have k1 := kk _ _ eb
  have k2 := kk _ _ ec
  refine ⟨v, q, _, tv, [.type t.nm, .type u.nm], b || c, rfl, upd_same, .cons (.ty _) (.cons (.ty _) .nil), ty, ?_, P3 (.bl (b || c)) _ sm (.bl _)⟩
  refine kitAny_cons k1 (fun hb => ?_) (fun hb => by rw [hb]; rfl)
  rw [hb]
  refine kitAny_cons k2 (fun hc => ?_) (fun hc => by rw [hc]; rfl)
  rw [hc]
  rfl
/-! zip(a, b) -/
def zipD : List D → List D → List D
  | a :: as, b :: bs => .tup [a, b] :: zipD as bs
  | _, _ => []
theorem zipD_get : ∀ (as bs : List D) (i : Nat), (zipD as bs)[i]? = as[i]?.bind fun a => bs[i]?.map fun b => .tup [a, b]
  | [], _, _ => by simp [zipD]
  | a :: as, [], 0 => by simp [zipD]
  | a :: as, [], i + 1 => by
    show (none : Option D) = _
    cases (a :: as)[i + 1]? <;> rfl
  | a :: as, b :: bs, 0 => rfl
  | a :: as, b :: bs, i + 1 => by
    have := zipD_get as bs i
    simpa [zipD] using this
theorem zipD_len : ∀ as bs : List D, (zipD as bs).length = min as.length bs.length
  | [], _ => by simp [zipD]
  | _ :: _, [] => by simp [zipD]
  | a :: as, b :: bs => by simp [zipD, zipD_len as bs]
def zipR : D → D → Rs (List D)
  | .lst a, .lst b => .ok (zipD a b)
  | .tup a, .tup b => .ok (zipD a b)
  | _, _ => .stuck
@[simp] theorem zipR_l (a b : List D) : zipR (.lst a) (.lst b) = .ok (zipD a b) := rfl
@[simp] theorem zipR_t (a b : List D) : zipR (.tup a) (.tup b) = .ok (zipD a b) := rfl
def iZp (f g : DE) : DI := fun r T => (dv (f r T)).bind fun p => (dv (g r p.2)).bind fun q => (zipR p.1 q.1).bind fun ds => .ok (ds, q.2)
def jZp (f g : DE) : DI := fun r T => (dt (f r T)).bind fun p => (dt (g r p.2)).bind fun q => (zipR p.1 q.1).bind fun ds => .ok (ds, q.2)
@[simp] theorem iZp_ap (f g : DE) (r : Env) (T : Tp) : iZp f g r T = (dv (f r T)).bind fun p => (dv (g r p.2)).bind fun q => (zipR p.1 q.1).bind fun ds => .ok (ds, q.2) := rfl
@[simp] theorem jZp_ap (f g : DE) (r : Env) (T : Tp) : jZp f g r T = (dt (f r T)).bind fun p => (dt (g r p.2)).bind fun q => (zipR p.1 q.1).bind fun ds => .ok (ds, q.2) := rfl
section
variable {K : PySem.W.Frag} {mg : PySem.Str → Option Value}
theorem zipD_ex {as bs : List D} {i : Nat} {d : D} (e : (zipD as bs)[i]? = some d) : ∃ a b, as[i]? = some a ∧ bs[i]? = some b ∧ d = .tup [a, b] := by
  rw [zipD_get] at e
  cases q1 : as[i]? with
  | none => rw [q1] at e; cases e
  | some a =>
    cases q2 : bs[i]? with
    | none => rw [q1, q2] at e; cases e
    | some b =>
      rw [q1, q2] at e
      cases e
      exact ⟨a, b, rfl, rfl, rfl⟩
end
end Pu
namespace Pu
open PySem L2 PySem.Spec PyProof.Rows
/-! # xs.index(k) -/
def idxI (k : Int) : List Int → Option Nat
  | [] => none
  | n :: ns => if n = k then some 0 else (idxI k ns).map (· + 1)
def dIdx : D → D → Rs VD
  | .lst ds, .int k => (rO (nums ds)).bind fun ns => (rO (idxI k ns)).bind fun j => .ok (.val (.int (j : Nat)))
  | .tpl ns, .int k => (rO (idxI k ns)).bind fun j => .ok (.val (.int (j : Nat)))
  | _, _ => .stuck
@[simp] theorem dIdx_l (ds : List D) (k : Int) : dIdx (.lst ds) (.int k) = (rO (nums ds)).bind fun ns => (rO (idxI k ns)).bind fun j => .ok (.val (.int (j : Nat))) := rfl
@[simp] theorem dIdx_p (ns : List Int) (k : Int) : dIdx (.tpl ns) (.int k) = (rO (idxI k ns)).bind fun j => .ok (.val (.int (j : Nat))) := rfl
/-! a tuple of whole numbers that its maker knows -/
def bTpl : List D → Rs VD
  | [.lst ds] => (rO (nums ds)).bind fun ns => .ok (.val (.tpl ns))
  | _ => .stuck
@[simp] theorem bTpl_l (ds : List D) : bTpl [.lst ds] = (rO (nums ds)).bind fun ns => .ok (.val (.tpl ns)) := rfl
/-! x.index(k): of a list, of a tuple that is known -/
def idxR : D → Rs Unit
  | .lst _ => .ok ()
  | .tpl _ => .ok ()
  | _ => .stuck
@[simp] theorem idxR_l (ds : List D) : idxR (.lst ds) = .ok () := rfl
@[simp] theorem idxR_p (ns : List Int) : idxR (.tpl ns) = .ok () := rfl
def eIdx (f g : DE) : DE := fun r T => (dt (f r T)).bind fun p => (idxR p.1).bind fun _ => (dt (g r p.2)).bind fun q => lift (dIdx p.1 q.1) q.2
@[simp] theorem eIdx_ap (f g : DE) (r : Env) (T : Tp) : eIdx f g r T = (dt (f r T)).bind fun p => (idxR p.1).bind fun _ => (dt (g r p.2)).bind fun q => lift (dIdx p.1 q.1) q.2 := rfl
end Pu
namespace Pu
open PySem L2 PySem.Spec PyProof.Rows
/-! # range(a, b, -1) -/
def dwnD (a : Int) (n : Nat) : List D := (List.range n).map fun (i : Nat) => .int (a - i)
@[simp] theorem dwnD_len (a : Int) (n : Nat) : (dwnD a n).length = n := by simp [dwnD]
def iDwn (f g : DE) : DI := fun r T => (dt (f r T)).bind fun p => (dt (g r p.2)).bind fun q => (dI p.1).bind fun i => (dI q.1).bind fun j => if -8000000 ≤ i ∧ i ≤ 8000000 ∧ -8000000 ≤ j ∧ j ≤ 8000000 then .ok (dwnD i (i - j).toNat, q.2) else .stuck
@[simp] theorem iDwn_ap (f g : DE) (r : Env) (T : Tp) : iDwn f g r T = (dt (f r T)).bind fun p => (dt (g r p.2)).bind fun q => (dI p.1).bind fun i => (dI q.1).bind fun j => if -8000000 ≤ i ∧ i ≤ 8000000 ∧ -8000000 ≤ j ∧ j ≤ 8000000 then .ok (dwnD i (i - j).toNat, q.2) else .stuck := rfl
/-! xs[k] += e -/
def sAugK (i : Nat) (fi fe : DE) (r : Env) (T : Tp) : Option (Option VD) → Rs (Fl × Tp)
  | some (some (.own (.lst ds))) => (dt (fi r T)).bind fun p => (dI p.1).bind fun k => (rO (ixN ds.length k)).bind fun j => (rO ds[j]?).bind fun x => (dI x).bind fun x => (dt (fe r p.2)).bind fun q => (dI q.1).bind fun y => .ok (.nx (r.set i (some (.own (.lst (ds.set j (.int (x + y))))))), q.2)
  | _ => .stuck
@[simp] theorem sAugK_own (i : Nat) (fi fe : DE) (r : Env) (T : Tp) (ds : List D) : sAugK i fi fe r T (some (some (.own (.lst ds)))) = (dt (fi r T)).bind fun p => (dI p.1).bind fun k => (rO (ixN ds.length k)).bind fun j => (rO ds[j]?).bind fun x => (dI x).bind fun x => (dt (fe r p.2)).bind fun q => (dI q.1).bind fun y => .ok (.nx (r.set i (some (.own (.lst (ds.set j (.int (x + y))))))), q.2) := rfl
def sAugI (i : Nat) (fi fe : DE) : DS := fun r T => sAugK i fi fe r T r[i]?
@[simp] theorem sAugI_ap (i : Nat) (fi fe : DE) (r : Env) (T : Tp) : sAugI i fi fe r T = sAugK i fi fe r T r[i]? := rfl
/-! list(d): its keys -/
def kSmall : D → Bool
  | .tup xs => decide (xs.length ≤ 1000)
  | _ => false
def bListA : List D → Rs VD
  | [.dct false ds] => .ok (.own (.lst (ds.map (·.1))))
  | [.dct true ds] => if ∀ p ∈ ds, kSmall p.1 = true then .ok (.own (.lst (ds.map (·.1)))) else .stuck
  | [.tpl ns] => .ok (.own (.lst (ns.map D.int)))
  | ds => bList ds
@[simp] theorem bListA_d (ds : List (D × D)) : bListA [.dct false ds] = .ok (.own (.lst (ds.map (·.1)))) := rfl
@[simp] theorem bListA_p (ns : List Int) : bListA [.tpl ns] = .ok (.own (.lst (ns.map D.int))) := rfl
@[simp] theorem bListA_l (ds : List D) : bListA [.lst ds] = .ok (.own (.lst ds)) := rfl
@[simp] theorem bListA_t (ds : List D) : bListA [.tup ds] = .ok (.own (.lst ds)) := rfl
@[simp] theorem bListA_c (ns : List Int) : bListA [.scr ns] = .ok (.own (.lst (ns.map D.int))) := rfl
theorem q_listA : QuietN bListA := fun ds => by
  unfold bListA
  split <;> first | exact quiet_o | exact quiet_if quiet_o quiet_s | exact q_list _
/-- list(d), the keys whole numbers or texts; d may be locked -/
def rListDZ : List V → Hp → VK → Prop := fun xs H Q => ∃ d kvs, xs = [V.ref d] ∧ Rd H d (.dK kvs) ∧ ∀ q, H q = none → Q (.ref q) (L2.upd H q (.lst (kvs.map fun p => kV p.1)))
theorem call_listDZ {X : Cx} (hc : X.calm = true) : CallR X (.type "list") rListDZ := fun pins s σ H xs us Q I r ⟨d, kvs, ex, hd, q⟩ => by
  subst ex
  obtain ⟨u, rfl, rx⟩ := vals1 r
  cases rx
  obtain ⟨z1, z2, ws, kr, od⟩ := rd_of I.hok hd
  obtain ⟨n, at0⟩ := od.dictAt
  have el : kvs.length = ws.length := Paired.length kr
  rw [el] at z1
  refine PySem.W.kdl_call (PySem.W.kdl_dict (knd := mixKind X.prog X.w) (kvs := ws) (ep := n) z2) (I.ok.hd hc) at0 z1 fun h1 t1 out c hkp hnew hout => ?_
  refine ⟨.ref s.heap.objs.size, _, I.laid hkp (Nat.le_refl _) (o := .lst (kvs.map fun p => kV p.1)) ⟨by rw [List.length_map, el]; exact z1, out.toList, c, ?_, by rw [Array.toArray_toList]; exact hnew⟩, rfl, q _ (I.hok.fresh (Nat.le_refl _))⟩
  refine vals_of_at (by rw [List.length_map, el]; simpa using hout.1.symm) fun i x y ex ey => ?_
  obtain ⟨k, v, ek, hk⟩ := hout.2 i y (by rw [← Array.getElem?_toList]; exact ey)
  have ek2 : (ws.map (·.1))[i]? = some k := by rw [List.getElem?_map, ek]; rfl
  rw [← KV.keys kr, List.getElem?_map] at ek2
  obtain ⟨p, ep, rfl⟩ := Option.map_eq_some_iff.mp ek2
  rw [List.getElem?_map, ep] at ex
  cases ex
  exact keyIs_rel hk
def rListA (K : PySem.W.Frag) : List V → Hp → VK → Prop := fun xs H Q => rList K xs H Q ∨ rListDZ xs H Q ∨ ∃ d kvs, xs = [V.ref d] ∧ Rd H d (.dT kvs) ∧ ∀ p bs, H p = none → IsKeys H kvs bs → Q (.ref p) (L2.upd H p (.lst (bs.map V.ref)))
theorem call_listA {X : Cx} (hc : X.calm = true) : CallR X (.type "list") (rListA X.K) := CallR.or call_list_of (CallR.or (call_listDZ hc) (call_list_dT hc))
theorem keys_rep {K : PySem.W.Frag} {mg : PySem.Str → Option Value} {S : Addr → Prop} {H : Hp} : ∀ (ks : List Key), Reps K mg S H (ks.map kV) (ks.map kD)
  | [] => .nil
  | .inl i :: ks => .cons (.int i) (keys_rep ks)
  | .inr x :: ks => .cons (.str x) (keys_rep ks)
theorem d_listA {K : PySem.W.Frag} {mg : PySem.Str → Option Value} : RnD K mg (rListA K) bListA := fun S H xs ds Q z t hp e k => by
  unfold bListA at e
  split at e
  · cases e
    obtain ⟨x, rfl, p⟩ := topv1 hp
    rcases p.dct with ⟨_, a, kvs, rfl, h1, z1, g, r⟩ | ⟨w, _⟩
    · refine .inr (.inl ⟨a, kvs, rfl, h1, fun q hq => ?_⟩)
      have kr := keys_rep (K := K) (mg := mg) (S := S) (H := H) (kvs.map (·.1))
      rw [List.map_map, List.map_map] at kr
      have e1 : (kvs.map (kV ∘ fun x => x.1)) = kvs.map fun kv => kV kv.1 := rfl
      have e2 : (kvs.map (kD ∘ fun x => x.1)) = kvs.map fun p => kD p.1 := rfl
      rw [e1, e2, ← g] at kr
      exact k.newL hq (by rw [List.length_map]; exact z1) kr
    · cases w
  · obtain ⟨hks, rfl⟩ := if_ok e
    obtain ⟨x, rfl, p⟩ := topv1 hp
    rcases p.dct with ⟨w, _⟩ | ⟨_, a, kvs, rfl, h1, z1, g, r⟩
    · cases w
    · refine .inr (.inr ⟨a, kvs, rfl, h1, fun q bs hq ik => ?_⟩)
      have go : ∀ {kvs : List (List Key × V)} {bs : List Addr}, IsKeys H kvs bs → (∀ p ∈ kvs, p.1.length ≤ sizeLine) → Reps K mg S H (bs.map V.ref) (kvs.map fun p => keyT p.1) ∧ bs.length = kvs.length := by
        intro kvs bs ik
        unfold IsKeys at ik
        induction ik with
        | nil => exact fun _ => ⟨.nil, rfl⟩
        | @cons x y xs ys h t2 ih =>
          intro hk
          obtain ⟨i1, i2⟩ := ih fun p hp => hk p (List.mem_cons_of_mem _ hp)
          refine ⟨.cons (.tup (fun s => ?_) h (by rw [List.length_map]; exact hk x List.mem_cons_self) (keys_rep x.1)) i1, congrArg (· + 1) i2⟩
          obtain ⟨o, eo, m⟩ := t y s
          rw [h] at eo
          cases eo
          exact m
      obtain ⟨g1, g2⟩ := go ik fun p hp => by
        have : keyT p.1 ∈ kvs.map fun p => keyT p.1 := List.mem_map_of_mem hp
        rw [← g] at this
        obtain ⟨q, hq, eq⟩ := List.mem_map.mp this
        have := hks q hq
        rw [eq] at this
        have := of_decide_eq_true (show decide ((p.1.map kD).length ≤ 1000) = true from this)
        rw [List.length_map] at this
        exact k1000 this
      rw [← g] at g1
      exact k.newL hq (by rw [List.length_map, g2]; exact z1) g1
  · cases e
    obtain ⟨x, rfl, p⟩ := topv1 hp
    obtain ⟨a, rfl, h1, z1⟩ := p.tplT
    exact .inl ⟨_, _, rfl, .inr h1, fun l hl => k.newL hl (by rw [List.length_map]; exact z1) (Reps.ints _)⟩
  · exact .inl (d_list S H xs ds Q z t hp e k)
end Pu
namespace Pu
open PySem L2 PySem.Spec PyProof.Rows
/-! # a call that is lent what slots own; it gives a flat thing -/
def flatD : VD → Bool
  | .val .non => true
  | .val (.bl _) => true
  | .val (.int _) => true
  | .val (.str _) => true
  | .val (.tup ds) => ds.all fun d => match d with
    | .int _ => true
    | _ => false
  | _ => false
theorem ints_reps {K : PySem.W.Frag} {mg : PySem.Str → Option Value} {S S' : Addr → Prop} {H : Hp} : ∀ {vs : List V} {ds : List D}, Reps K mg S H vs ds → (ds.all fun d => match d with
    | .int _ => true
    | _ => false) = true → Reps K mg S' H vs ds
  | _, _, .nil, _ => .nil
  | _, _, .cons p t, h => by
    rw [List.all_cons, Bool.and_eq_true] at h
    refine .cons ?_ (ints_reps t h.2)
    cases p with
    | int i => exact .int i
    | _ => exact nomatch h.1
@[simp] theorem flatD_non : flatD (.val .non) = true := rfl
@[simp] theorem flatD_bl (b : Bool) : flatD (.val (.bl b)) = true := rfl
@[simp] theorem flatD_int (i : Int) : flatD (.val (.int i)) = true := rfl
@[simp] theorem flatD_str (x : PySem.Str) : flatD (.val (.str x)) = true := rfl
def lendK (T : Tp) (r : Env) : Rs (VD × Tp) → Rs (VD × Tp)
  | .ok q => if flatD q.1 = true then .ok (q.1, T) else .stuck
  | .exc c [] _ _ => .exc c [] T r
  | _ => .stuck
@[simp] theorem lendK_ok (T : Tp) (r : Env) (q : VD × Tp) : lendK T r (.ok q) = if flatD q.1 = true then .ok (q.1, T) else .stuck := rfl
@[simp] theorem wp_lendK {Q : VD × Tp → Prop} (T : Tp) (r : Env) (x : Rs (VD × Tp)) : wp (lendK T r x) Q ↔ wp x fun q => flatD q.1 = true ∧ Q (q.1, T) := by
  cases x with
  | ok q =>
    by_cases h : flatD q.1 = true <;> simp [lendK, h]
  | stuck => simp [lendK]
  | exc c fs t r2 => cases fs <;> simp [lendK]
def eDefB (n : Nat) (M : DM) (g : DA) : DE := fun r T => (g r T).bind fun p => if p.1.length = n then lendK p.2 r (M p.1 none) else .stuck
@[simp] theorem eDefB_ap (n : Nat) (M : DM) (g : DA) (r : Env) (T : Tp) : eDefB n M g r T = (g r T).bind fun p => if p.1.length = n then lendK p.2 r (M p.1 none) else .stuck := rfl
section
variable {X : Cx} {C : FC} {e : Expr} {es : List Expr} {g : DA} {pos p : Pos} {x : PySem.Str} {k j n : Nat} {M : DM}
theorem lent_reps {K : PySem.W.Frag} {mg : PySem.Str → Option Value} {C : FC} {r : Env} {σ : L2.St} {H : Hp} {B : Addr → Prop} : ∀ {vs : List V} {ds : List D}, TopCs K mg C r σ H vs ds → (∀ a, V.ref a ∈ vs → C.tp ≠ some a → B a) → Reps K mg (fun a => SS C Z0 r σ a ∧ ¬ B a) H vs ds
  | _, _, .nil, _ => .nil
  | _, _, .cons p t, hb => by
    refine .cons ?_ (lent_reps t fun a ha => hb a (List.mem_cons_of_mem _ ha))
    rcases p with p | ⟨q, eq, nt, o⟩
    · exact p.go (fun _ _ e _ => e) fun a _ _ s z => s z.1
    · subst eq
      exact o.frozen (fun z => z.2 (hb q List.mem_cons_self nt)) fun a _ _ s z => s z.1
theorem se_defB (F : OkD X.prog X.w X.K X.mg X.base j x n false M) (hr : Room k X.A) (tk : Takes X C.W) (ha : SAt X C (e :: es) g) (hk : j ≤ k := by decide)
    (hg : Gl X x := by rfl) (hdb : (x == ("__debug__" : PySem.Str)) = false := by decide) (he : starEach (e :: es) X.env = (false, eval e X.env) :: starEach es X.env := by rfl) (hpl : (backTo pos (starEach es X.env)).any (·.1) = false := by rfl) :
    SE X C (.Call (.Name x p) (e :: es) [] pos) (eDefB n M g) := by
  obtain ⟨fd, ps, F, b, kp, hm⟩ := F
  refine pe_imp (pe_callS F (hr.mono hk) hg hm kp b (fun σ => passAt tk σ) ha hdb he hpl) ?_
  rintro σ H Q ⟨ρ, T, h, P⟩
  refine ⟨ρ, T, h, gb_bind P fun ds T' vs H1 h1 e1 p P1 => ?_⟩
  obtain ⟨hn, P2⟩ := postG_if P1
  have hlen : vs.length = ds.length := by
    clear hn P2 P1
    induction p with
    | nil => rfl
    | cons _ _ ih => exact congrArg (· + 1) ih
  let B : Addr → Prop := fun a => V.ref a ∈ vs ∧ C.tp ≠ some a
  have rp := lent_reps (B := B) p fun a m nt => ⟨m, nt⟩
  have hS : ∀ a, S1 (⟨H1, fun a => SS C Z0 ρ σ a ∧ ¬ B a, none, C.W, [], fun _ => False⟩ : FC) a → SS C Z0 ρ σ a ∧ ¬ B a := fun a z => by
    rcases z with z | z
    · exact z
    · cases z
  refine ⟨⟨H1, fun a => SS C Z0 ρ σ a ∧ ¬ B a, none, C.W, [], fun _ => False⟩, vs, ds, none, rfl, by rw [hlen]; exact hn, fun a z => h1.trk a z.1, ⟨rfl, rfl⟩, rfl, rp.go (fun _ _ e _ => e) fun a _ _ s z => s (hS a z), ?_⟩
  have sm : ∀ {H' : Hp}, Ext (⟨H1, fun a => SS C Z0 ρ σ a ∧ ¬ B a, none, C.W, [], fun _ => False⟩ : FC) H1 H' → Same H1 H' := fun e2 a o z => e2 a o z (by intro z; cases z)
  cases q : M ds none with
  | stuck =>
    rw [q] at P2
    exact P2.elim
  | exc c fs T2 r2 =>
    rw [q] at P2
    cases fs with
    | nil =>
      intro cls d H' e2 _ y
      obtain ⟨Ca, y1, y2, y3⟩ := y
      refine P2 cls d H' (h1.more (sm e2)) ⟨Ca, y1, y2, ?_⟩
      rcases y3 with y3 | ⟨dd, xs, e3, e4, e5, e6⟩
      · exact .inl y3
      · cases xs with
        | nil => exact .inr ⟨dd, [], e3, e4, rfl, .nil⟩
        | cons _ _ => cases e5
    | cons f fs => exact (show False from P2).elim
  | ok z =>
    rw [q] at P2
    obtain ⟨z, T2⟩ := z
    obtain ⟨hf, P3⟩ := postG_if (show PostG X.K X.mg C σ (GV X.K X.mg C ρ σ H Q) (if flatD z = true then .ok (z, T') else .stuck) from P2)
    intro u H' e2 rt
    have fin : ∀ d : D, z = .val d → Rep X.K X.mg (SS C Z0 ρ σ) H' u d → Q u H' := fun d ed pr => by
      subst ed
      exact P3 u H' (h1.more (sm e2)) (e1.trans (.same (sm e2))) pr
    cases z with
    | val d =>
      cases d with
      | non => exact fin _ rfl (by have r1 := rt.1; cases r1; exact .non)
      | bl b => exact fin _ rfl (by have r1 := rt.1; cases r1; exact .bl b)
      | int i => exact fin _ rfl (by have r1 := rt.1; cases r1; exact .int i)
      | str y => exact fin _ rfl (by have r1 := rt.1; cases r1; exact .str y)
      | tup ds =>
        have r1 := rt.1
        refine fin _ rfl ?_
        cases r1 with
        | tup ns hh z q =>
          refine .tup (fun w => ?_) hh z (ints_reps q hf)
          obtain ⟨o, ho, mo⟩ := (h1.more (sm e2)).tr w
          rw [hh] at ho
          cases ho
          exact mo
      | _ => exact nomatch hf
    | _ => exact nomatch hf
end
end Pu
namespace Pu
open PySem L2
/-! # plain helpers, more -/
/-- a tuple of whole numbers, known or not -/
def lpD (b : Bool) (ns : List Int) : D := match b with
  | true => .tpl ns
  | false => .tup (ns.map D.int)
theorem atI_map {A B : Type} (f : A → B) (xs : List A) (i : Int) : atI (xs.map f) i = (atI xs i).map f := by
  unfold L2.atI
  rw [List.length_map]
  cases ixN xs.length i with
  | none => rfl
  | some j => simp
@[simp] theorem isT_lp (cs : List PySem.Str) (t : Ty) (b : Bool) (ns : List Int) : isT cs t (lpD b ns) = some (match t with | .tuple => true | _ => false) := by cases b <;> cases t <;> rfl
@[simp] theorem dIxA_lp (b : Bool) (ns : List Int) (i : Int) : dIxA (lpD b ns) (.int i) = (rO (atI ns i)).bind fun n => .ok (.val (.int n)) := by
  cases b with
  | true => rfl
  | false =>
    show (rO (atI (ns.map D.int) i)).bind _ = _
    rw [atI_map]
    cases atI ns i <;> rfl
@[simp] theorem bLenA_lp (b : Bool) (ns : List Int) : bLenA [lpD b ns] = .ok (.val (.int ns.length)) := by
  cases b
  · show Rs.ok (VD.val (D.int ((ns.map D.int).length : Nat))) = _
    rw [List.length_map]
  · rfl
@[simp] theorem seqD_lp (b : Bool) (ns : List Int) : seqD (lpD b ns) = .ok (ns.map D.int) := by cases b <;> rfl
@[simp] theorem bTpl_map (ns : List Int) : bTpl [.lst (ns.map D.int)] = .ok (.val (.tpl ns)) := by
  show (rO (nums (ns.map D.int))).bind _ = _
  rw [ints_map]
  rfl
theorem atI_vl {ns : List Int} {k : Int} (h : 0 ≤ k ∧ k < ns.length) : atI ns k = some (vl ns k) := by
  obtain ⟨h0, h1⟩ := h
  rw [atI_some h0 h1]
  unfold vl
  rw [nth_get (by omega)]
end Pu
namespace Pu
open PySem L2 PySem.Spec PyProof.Rows
/-! # a op b op c op d -/
/-! # tuples of whole numbers that are known: joined, turned, summed -/
def dAddA : D → D → Rs VD
  | .tpl a, .tup b => if a ≠ [] ∧ b ≠ [] ∧ a.length + b.length ≤ 16000000 then .ok (.val (.tup (a.map D.int ++ b))) else .stuck
  | .tup a, .tpl b => if a ≠ [] ∧ b ≠ [] ∧ a.length + b.length ≤ 16000000 then .ok (.val (.tup (a ++ b.map D.int))) else .stuck
  | .tpl a, .tpl b => if a ≠ [] ∧ b ≠ [] ∧ a.length + b.length ≤ 16000000 then .ok (.val (.tup (a.map D.int ++ b.map D.int))) else .stuck
  | d, e => dAddI d e
theorem q_adda : Quiet2 dAddA := fun d e => by
  unfold dAddA
  split <;> first | exact quiet_if quiet_v quiet_s | exact q_add _ _
theorem d_adda {K : PySem.W.Frag} {mg : PySem.Str → Option Value} : R2D K mg (rAddU K) dAddA := fun S H x y dx dy Q z t p q e k => by
  have key : ∀ {a1 b1 : Addr} {vs ws : List V} {ds es : List D}, x = .ref a1 → y = .ref b1 → SqT K H a1 vs → SqT K H b1 ws → Reps K mg S H vs ds → Reps K mg S H ws es → ds ≠ [] → es ≠ [] → ds.length + es.length ≤ 16000000 → Res1 K mg S H (.val (.tup (ds ++ es))) Q → rAddU K x y H Q := fun {a1 b1 vs ws ds es} ex ey h1 h2 r1 r2 n1 n2 hl k => by
    have l1 := r1.len
    have l2 := r2.len
    refine .inr (.inl ⟨a1, b1, vs, ws, ex, ey, h1, h2, by rw [sizeLine_eq]; omega, fun e0 => ?_, fun _ e0 => ?_, fun _ _ p hp => k.newT t hp (by rw [List.length_append, sizeLine_eq]; omega) (r1.app r2)⟩)
    · subst e0
      exact absurd (List.eq_nil_of_length_eq_zero l1.symm) n1
    · subst e0
      exact absurd (List.eq_nil_of_length_eq_zero l2.symm) n2
  unfold dAddA at e
  split at e
  · obtain ⟨⟨c1, c2, c3⟩, rfl⟩ := if_ok e
    obtain ⟨a1, rfl, h1, _⟩ := p.tplT
    obtain ⟨b1, ws, rfl, h2, z2, r2⟩ := q.sqT
    exact key rfl rfl h1 h2 (Reps.ints _) r2 (fun w => c1 (List.map_eq_nil_iff.mp w)) c2 (by simpa using c3) k
  · obtain ⟨⟨c1, c2, c3⟩, rfl⟩ := if_ok e
    obtain ⟨a1, ws, rfl, h1, z2, r1⟩ := p.sqT
    obtain ⟨b1, rfl, h2, _⟩ := q.tplT
    exact key rfl rfl h1 h2 r1 (Reps.ints _) c1 (fun w => c2 (List.map_eq_nil_iff.mp w)) (by simpa using c3) k
  · obtain ⟨⟨c1, c2, c3⟩, rfl⟩ := if_ok e
    obtain ⟨a1, rfl, h1, _⟩ := p.tplT
    obtain ⟨b1, rfl, h2, _⟩ := q.tplT
    exact key rfl rfl h1 h2 (Reps.ints _) (Reps.ints _) (fun w => c1 (List.map_eq_nil_iff.mp w)) (fun w => c2 (List.map_eq_nil_iff.mp w)) (by simpa using c3) k
  · exact d_add S H x y dx dy Q z t p q e k
@[simp] theorem dAddA_ii (i j : Int) : dAddA (.int i) (.int j) = .ok (.val (.int (i + j))) := rfl
end Pu
namespace Pu
open PySem L2 PySem.Spec PyProof.Rows
/-! # a tuple of whole numbers that is known, and some more: known again -/
def rCatP (K : PySem.W.Frag) : R2 := fun x y H Q => ∃ (a b : Addr) (xs ys : List V), x = .ref a ∧ y = .ref b ∧ SqT K H a xs ∧ SqT K H b ys ∧ xs ≠ [] ∧ ys ≠ [] ∧ xs.length + ys.length ≤ sizeLine ∧ ∀ p o, H p = none → o.cls = .type "tuple" → o.dict = none → Q (.ref p) (L2.upd H p (.frz o (.tup (xs ++ ys))))
theorem op_catP {X : Cx} : OpR X (binaryOp .Add) (rCatP X.K) := by
  intro pins s σ H x y v u Q I rx ry h
  obtain ⟨a, b, xs, ys, rfl, rfl, ha, hb, hx, hy, hz, q⟩ := h
  cases rx
  cases ry
  obtain ⟨its, r1, p1, _⟩ := I.tuple ha
  obtain ⟨its2, r2, p2, _⟩ := I.tuple hb
  refine HT.cat_tup p1 p2 (fun z => hx (r1.nil_iff.mp z)) (fun z => absurd (r2.nil_iff.mp z) hy) (fun z => ?_) (by rw [← r1.length, ← r2.length]; exact hz)
  refine ⟨.ref s.heap.objs.size, _, I.laid (t' := s.toks) (o := .frz { cls := Value.type "tuple", data := Data.seq (its ++ its2).toArray } (.tup (xs ++ ys))) (fun b ob q => Heap.get?_push_of_some _ q) (Nat.le_refl _) ?_, rfl, q _ _ (I.hok.fresh (Nat.le_refl _)) ?_ ?_⟩
  · exact ⟨Heap.get?_push_size s.heap rfl, by rw [List.length_append]; exact hz, _, r1.append r2, IsTup.new _ _⟩
  · rfl
  · rfl
end Pu
namespace Pu
open PySem L2
/-! # list(range(n)) -/
end Pu
namespace Pu
open PySem L2 PySem.Spec PyProof.Rows
/-! # a written tuple of whole numbers, known -/
def tTupF (t : TA) : TE := fun σ H Q => t σ H fun xs H1 => xs.length ≤ sizeLine ∧ ∀ p o, H1 p = none → o.cls = .type "tuple" → o.dict = none → Q (.ref p) (L2.upd H1 p (.frz o (.tup xs)))
theorem pe_tupF {X : Cx} {es : List Expr} {t : TA} {pos : Pos} {x1 : Nat} (h : PA X es t) : PE X (.Tuple es x1 pos) (tTupF t) := by
  refine ⟨fun pins s σ H Q I hq => ?_⟩
  refine wpAny_Tuple_spliced (thn (h.run pos pins s σ H _ I hq) fun us s1 ⟨xs, H1, I1, r, z, q⟩ => ⟨by rw [← r.length]; exact z, ?_⟩)
  have hf : H1 s1.heap.objs.size = none := I1.hok.fresh (Nat.le_refl _)
  refine ⟨.ref s1.heap.objs.size, L2.upd H1 s1.heap.objs.size (.frz { cls := Value.type "tuple", data := Data.seq us.toArray } (.tup xs)), I1.laid (t' := s1.toks) (fun b u e => Heap.get?_push_of_some _ e) (Nat.le_refl _) ?_, rfl, q _ _ hf rfl rfl⟩
  exact ⟨Heap.get?_push_size _ rfl, z, us, r, IsTup.new _ _⟩
end Pu
namespace Pu
open PySem L2
/-! # for x in a list of one's own: if test: return e; the list stays one's own -/
end Pu
namespace Pu
open PySem L2 PySem.Spec PyProof.Rows
/-! # a head with facts of one's own -/
abbrev AlX : Type := He.AlD × Bool
def obsX (fa : List He.Fa) (fn : List He.DefD) (fx : List (PySem.W.Frag → Bool)) (K : PySem.W.Frag) : AlX := (He.obsD fa fn K, fx.all fun f => f K)
def valX (fn : List He.DefD) : AlX := (He.valD fn, true)
def SaysX (fa : List He.Fa) (fn : List He.DefD) (fx : List (PySem.W.Frag → Bool)) (K : PySem.W.Frag) : Prop := obsX fa fn fx K = valX fn
section
variable {fa : List He.Fa} {fn : List He.DefD} {fx : List (PySem.W.Frag → Bool)} {K : PySem.W.Frag}
theorem SaysX.d (c : SaysX fa fn fx K) : He.SaysD fa fn K := congrArg (fun z : AlX => z.1) c
theorem SaysX.fact (c : SaysX fa fn fx K) (i : Nat) {f : He.Fa} (h : fa[i]? = some f := by rfl) : f.ok K = true := c.d.fact i h
theorem SaysX.def_ (c : SaysX fa fn fx K) (i : Nat) {d : He.DefD} (h : fn[i]? = some d := by rfl) : ∃ fd, FunD K d.name d.qual d.params d.body d.scope (d.dvs K) (d.kws K) (He.fAd K d.at_) fd := c.d.def_ i h
theorem SaysX.own (c : SaysX fa fn fx K) (i : Nat) {f : PySem.W.Frag → Bool} (h : fx[i]? = some f := by rfl) : f K = true := by
  have c1 : (fx.all fun f => f K) = true := congrArg (fun z : AlX => z.2) c
  exact List.all_eq_true.mp c1 f (List.mem_of_getElem? h)
end
end Pu
namespace Pu
open PySem L2 PySem.Spec PyProof.Rows
/-! # exceptions with fields -/
/-! ## its __init__: two fields -/
/-! ## raise -/
end Pu
namespace Pu
open PySem L2 PySem.Spec PyProof.Rows
/-! # try: f; except C as e: y = (e.f1, e.f2) -/
section
variable {K : PySem.W.Frag} {mg : PySem.Str → Option Value} {C : FC} {Z : Addr → Prop} {r : Env} {T : Tp} {σ : L2.St} {H : Hp}
theorem Holds.same {W : WX} (h : Holds K mg { C with W := W } Z r T σ H) : Holds K mg C Z r T σ H := ⟨h.len, h.frame, h.val, h.own, h.inj, h.tape, h.tslot, h.st, h.zt, h.pin, h.tree⟩
theorem HoldsY.same {W : WX} (h : HoldsY K mg { C with W := W } r T σ H) : HoldsY K mg C r T σ H := by
  obtain ⟨Y, h, hY⟩ := h
  exact ⟨Y, Holds.same (C := C.plus Y) h, hY⟩
end
end Pu
namespace Pu
open PySem L2 PySem.Spec PyProof.Rows
/-! # min of a list of pairs -/
end Pu
namespace Pu
open PySem L2 PySem.Spec PyProof.Rows
/-! # isinstance(C(a, b), D), C an exception's class of one's own -/
end Pu
namespace Pu
open PySem L2 PySem.Spec PyProof.Rows PySem.W
/-! # x != y of instances with an __eq__ of one's own -/
/-! ## isinstance(x, C), C a class of one's own -/
end Pu
namespace Pu
open PySem L2 PySem.Spec PyProof.Rows
/-! # raise C(), C a plain exception's class of one's own -/
/-! # try: f; except C: g -/
/-- which classes are caught by cn, which are not -/
def Hits (K : PySem.W.Frag) (mg : PySem.Str → Option Value) (cn : PySem.Str) : List (PySem.Str × Bool) → Prop
  | [] => True
  | p :: l => (PySem.W.exmOne K (.ref (He.ga K p.1)) (.ref (He.ga K cn)) = some p.2 ∧ mg p.1 = some (.ref (He.ga K p.1))) ∧ Hits K mg cn l
theorem Hits.look {K : PySem.W.Frag} {mg : PySem.Str → Option Value} {cn : PySem.Str} : ∀ {l : List (PySem.Str × Bool)} {c : PySem.Str} {b : Bool}, Hits K mg cn l → l.lookup c = some b → PySem.W.exmOne K (.ref (He.ga K c)) (.ref (He.ga K cn)) = some b ∧ mg c = some (.ref (He.ga K c))
  | [], _, _, _, h => nomatch h
  | (x, b') :: l, c, b, h, e => by
    rw [List.lookup_cons] at e
    cases q : c == x with
    | true =>
      rw [q] at e
      cases e
      rw [eq_of_beq q]
      exact h.1
    | false =>
      rw [q] at e
      exact Hits.look h.2 e
end Pu
namespace Pu
open PySem L2
/-! # [xs.pop(e) for ..]: a comprehension whose item changes an owned list -/
/-! tuple(..) of it -/
end Pu
namespace Pu
open PySem L2
/-! # trees: things whose parts are one's own -/
/-! ## more set apart while the rest is run -/
section
variable {K : PySem.W.Frag} {mg : Str → Option Value} {C : FC} {Z F : Addr → Prop} {r : Env} {T : Tp} {σ : L2.St} {H H' : Hp}
theorem TreesAt.leaves {S : Addr → Prop} : ∀ {F : List Addr} {ss : List Sh} {vs : List V} {ds : List D}, TreesAt K mg S H F ss vs ds → (∀ s ∈ ss, s = Sh.leaf) → F = [] ∧ Reps K mg S H vs ds
  | _, _, _, _, .nil, _ => ⟨rfl, .nil⟩
  | _, _, _, _, .cons t u, hs => by
    have e := hs _ List.mem_cons_self
    subst e
    cases t with
    | leaf p =>
      obtain ⟨e2, q⟩ := u.leaves fun s z => hs s (List.mem_cons_of_mem _ z)
      rw [e2]
      exact ⟨rfl, .cons p q⟩
theorem TreeAt.own {S : Addr → Prop} {F : List Addr} {v : V} {d : D} (t : TreeAt K mg S H F (.hom .leaf) v d) : ∃ p, v = .ref p ∧ F = [p] ∧ OwnAt K mg S H p d := by
  have hl : ∀ {A : Type} (l : List A), ∀ s ∈ l.map (fun _ => Sh.leaf), s = Sh.leaf := fun l s z => by
    obtain ⟨_, _, e⟩ := List.mem_map.mp z
    exact e.symm
  cases t with
  | lst h z t =>
    obtain ⟨e, q⟩ := t.leaves (hl _)
    exact ⟨_, rfl, by rw [e], .lst h z q⟩
  | dK h z g t =>
    obtain ⟨e, q⟩ := t.leaves (hl _)
    exact ⟨_, rfl, by rw [e], .dK h z g q⟩
  | dT h z g t =>
    obtain ⟨e, q⟩ := t.leaves (hl _)
    exact ⟨_, rfl, by rw [e], .dT h z g q⟩
  | dcn h z g q q2 => exact ⟨_, rfl, rfl, .dcn h z g q q2⟩
/-- one part of one's own, and the whole behind a change of it -/
theorem TreesAt.at {S : Addr → Prop} : ∀ {F : List Addr} {ss : List Sh} {vs : List V} {ds : List D} (j : Nat) {d : D}, TreesAt K mg S H F ss vs ds → ss[j]? = some (.hom .leaf) → ds[j]? = some d → F.Nodup →
    ∃ p, vs[j]? = some (.ref p) ∧ p ∈ F ∧ OwnAt K mg S H p d ∧ ∀ (S' : Addr → Prop) (H' : Hp) (d' : D), (∀ a o, H a = some o → ¬ S a → H' a = some o) → (∀ a o, H a = some o → ¬ S a → ¬ S' a) → (∀ q ∈ F, q ≠ p → ∀ o, H q = some o → H' q = some o) → (∀ c fs, d' ≠ .ins c fs) → OwnAt K mg S' H' p d' → TreesAt K mg S' H' F ss vs (ds.set j d')
  | _, _, _, _, _, _, .nil, e, _, _ => by simp at e
  | _, _, _, _, 0, d, .cons t u, e1, e2, hn => by
    simp only [List.getElem?_cons_zero, Option.some.injEq] at e1 e2
    subst e1 e2
    obtain ⟨p, rfl, eF, o⟩ := t.own
    subst eF
    refine ⟨p, rfl, by simp, o, fun S' H' d' k n f hi o' => ?_⟩
    have hp := (List.nodup_cons.mp hn).1
    exact .cons (o'.tree hi) (u.go k n fun q hq => f q (by simp [hq]) fun z => hp (by rw [← z]; exact hq))
  | _, _, _, _, j + 1, d, .cons t u, e1, e2, hn => by
    obtain ⟨n1, n2, n3⟩ := List.nodup_append.mp hn
    obtain ⟨p, ep, hp, o, k2⟩ := TreesAt.at j u (by simpa using e1) (by simpa using e2) n2
    refine ⟨p, by simpa using ep, List.mem_append_right _ hp, o, fun S' H' d' k n f hi o' => ?_⟩
    rw [List.set_cons_succ]
    exact .cons (t.go k n fun q hq => f q (List.mem_append_left _ hq) fun z => n3 q hq p hp z) (k2 S' H' d' k n (fun q hq => f q (List.mem_append_right _ hq)) hi o')
theorem TreesAt.len {S : Addr → Prop} : ∀ {F : List Addr} {ss : List Sh} {vs : List V} {ds : List D}, TreesAt K mg S H F ss vs ds → vs.length = ds.length
  | _, _, _, _, .nil => rfl
  | _, _, _, _, .cons _ u => congrArg (· + 1) u.len
end
/-! ## displays -/
abbrev DAo := Env → Tp → Rs (List (Sh × D) × Tp)
/-! ## looks -/
def dl1 : VD × Tp → Rs (D × Tp)
  | (.val d, T) => .ok (d, T)
  | (.own d, T) => .ok (d, T)
  | (.peek d, T) => .ok (d, T)
  | (.look d, T) => .ok (d, T)
  | _ => .stuck
def dl (x : Rs (VD × Tp)) : Rs (D × Tp) := x.bind dl1
end Pu
namespace Pu
open PySem L2
/-! # x[k].append(e): a part of a tree changes -/
section
variable {K : PySem.W.Frag} {mg : Str → Option Value} {C : FC} {r : Env} {T : Tp} {σ : L2.St} {H : Hp} {i : Nat}
theorem map_set {A B : Type} (x : B) (l : List A) (j : Nat) (a : A) : (l.set j a).map (fun _ => x) = l.map fun _ => x := by
  rw [List.map_const', List.map_const', List.length_set]
end
end Pu
namespace Pu
open PySem L2
/-! # a tree looked into as a thing that is let be -/
/-! # a tree taken out of its slot -/
section
variable {K : PySem.W.Frag} {mg : Str → Option Value} {C : FC} {Y Z : Addr → Prop} {r : Env} {T : Tp} {σ : L2.St} {H H' : Hp} {i j : Nat} {d : D} {s : Sh}
theorem TreesAt.app {S : Addr → Prop} : ∀ {F G : List Addr} {ss ts : List Sh} {vs ws : List V} {ds es : List D}, TreesAt K mg S H F ss vs ds → TreesAt K mg S H G ts ws es → TreesAt K mg S H (F ++ G) (ss ++ ts) (vs ++ ws) (ds ++ es)
  | _, _, _, _, _, _, _, _, .nil, u => u
  | _, _, _, _, _, _, _, _, .cons (F := F1) (G := G1) t q, u => by
    rw [List.append_assoc]
    exact .cons t (q.app u)
end
end Pu
/-! # for v in x: v.append(..): all parts of a tree change alike -/
namespace Pu
open PySem L2
end Pu
/-! # return (a, b) of two things of one's own; f(..)[k] of such a pair -/
namespace Pu
open PySem L2
end Pu
/-! # () * k, too -/
namespace Pu
open PySem L2 PySem.Spec PyProof.Rows
end Pu
namespace Pu
open PySem L2
/-! # [e for x in xs], each part one's own -/
end Pu
namespace Pu
open PySem L2
/-! # xs.count(k) -/
/-! # range(0, n, c) -/
/-! # y = x[k]; y.append(e): a part of a tree under another name, which is known no more behind -/
end Pu
namespace Pu
open PySem L2 PySem.Spec PyProof.Rows PySem.W
/-! # == and != by an __eq__ of one's own, and isinstance(x, C), against any kind of thing -/
/-! ## isinstance(x, C) -/
/-! ## x == y, x != y -/
end Pu
namespace Pu
open PySem L2
/-! # x, y = a, b: two plain names at once -/
/-! # x.bit_length() -/
end Pu
namespace Pu
open PySem L2
open Classical
/-! # {k: v for x in xs if ..}, keys whole numbers or texts -/
end Pu
namespace Pu
open PySem L2
open Classical
/-! # a name gets a dict comprehension -/
end Pu
namespace Pu
open PySem L2 PySem.Spec PyProof.Rows
/-! # repr -/
/-! ## the same, without known tuples -/
end Pu
namespace Pu
open PySem L2 PySem.Spec PyProof.Rows
/-! # a promise of the def law alone, called where nothing is being shown -/
/-! ## a head that also tells where the modules' dict stands -/
end Pu
namespace Pu
open PySem L2 PySem.Spec PyProof.Rows
/-! # xs.count(k), xs.index(k) of flat things -/
end Pu
namespace Pu
open PySem L2 PySem.Spec PyProof.Rows
/-! # try .. except C as e: a suite that asks of e -/
abbrev XA := Addr × Option Addr
/-- where no address is known -/
abbrev x0 : XA := (0, none)
/-- isinstance(e, C), known -/
def eIsE (i : Nat) (x : XA) (b : Bool) : DE := fun r T => match r[i]? with
  | some (some (.val (.exn y _))) => if y = x then .ok (.val (.bl b), T) else .stuck
  | _ => .stuck
/-! ## the same wherever e stands -/
abbrev Xe (r : Env) (i : Nat) (x : XA) (fs : List (PySem.Str × D)) : Env := r.set i (some (.val (.exn x fs)))
def BE (i : Nat) (f : XA → DE) : Prop := ∀ (r : Env) (T : Tp) (x : XA) (fs : List (PySem.Str × D)) (z : VD × Tp), f x0 (Xe r i x0 fs) T = .ok z → f x (Xe r i x fs) T = .ok z
def BA (i : Nat) (f : XA → DA) : Prop := ∀ (r : Env) (T : Tp) (x : XA) (fs : List (PySem.Str × D)) (z : List D × Tp), f x0 (Xe r i x0 fs) T = .ok z → f x (Xe r i x fs) T = .ok z
def BT (i : Nat) (f : XA → DT) : Prop := ∀ (r : Env) (T : Tp) (x : XA) (fs : List (PySem.Str × D)) (z : Bool × Tp), f x0 (Xe r i x0 fs) T = .ok z → f x (Xe r i x fs) T = .ok z
def BS (i : Nat) (f : XA → DS) : Prop := ∀ (r : Env) (T : Tp) (x : XA) (fs : List (PySem.Str × D)) (r2 : Env) (T2 : Tp), f x0 (Xe r i x0 fs) T = .ok (.nx r2, T2) → ∃ r3 : Env, r3.length = r.length ∧ r2 = Xe r3 i x0 fs ∧ f x (Xe r i x fs) T = .ok (.nx (Xe r3 i x fs), T2)
section
variable {i j : Nat} {f g h : XA → DE} {ga : XA → DA} {c c' : XA → DT} {s t : XA → DS}
theorem rs_ok {A B : Type} {x : Rs A} {k : A → Rs B} {z : B} (h : x.bind k = .ok z) : ∃ y, x = .ok y ∧ k y = .ok z := by
  cases x with
  | ok y => exact ⟨y, rfl, h⟩
  | exc c fs t r => cases h
  | stuck => cases h
theorem BE.k {d : D} : BE i fun _ => eC d := fun r T x fs z e => e
theorem BE.isE {b : Bool} : BE i fun x => eIsE i x b := fun r T x fs z e => by
  unfold eIsE at e ⊢
  try dsimp only at e ⊢
  by_cases hl : i < r.length
  · rw [List.getElem?_set_self hl] at e ⊢
    dsimp only at e ⊢
    rw [if_pos rfl] at e ⊢
    exact e
  · rw [List.getElem?_eq_none (by rw [List.length_set]; omega)] at e
    cases e
theorem BE.dv (hf : BE i f) {r : Env} {T : Tp} {x : XA} {fs : List (PySem.Str × D)} {z : D × Tp} (e : dv (f x0 (Xe r i x0 fs) T) = .ok z) : Pu.dv (f x (Xe r i x fs) T) = .ok z := by
  obtain ⟨y, e1, e2⟩ := rs_ok e
  rw [hf r T x fs y e1]
  exact e2
theorem BE.call {o : List D → Rs VD} (hg : BA i ga) : BE i fun x => eCall o (ga x) := fun r T x fs z e => by
  unfold eCall at e ⊢
  try dsimp only at e ⊢
  obtain ⟨p, e1, e⟩ := rs_ok e
  rw [hg r T x fs p e1, Rs.bind_ok]
  exact e
theorem BE.lst (hg : BA i ga) : BE i fun x => eLst (ga x) := fun r T x fs z e => by
  unfold eLst at e ⊢
  try dsimp only at e ⊢
  obtain ⟨p, e1, e⟩ := rs_ok e
  rw [hg r T x fs p e1, Rs.bind_ok]
  exact e
theorem BE.tup (hg : BA i ga) : BE i fun x => eTup (ga x) := fun r T x fs z e => by
  unfold eTup at e ⊢
  try dsimp only at e ⊢
  obtain ⟨p, e1, e⟩ := rs_ok e
  rw [hg r T x fs p e1, Rs.bind_ok]
  exact e
theorem BA.nil : BA i fun _ => aNil := fun r T x fs z e => e
theorem BA.cons (hf : BE i f) (hg : BA i ga) : BA i fun x => aCons (f x) (ga x) := fun r T x fs z e => by
  unfold aCons at e ⊢
  try dsimp only at e ⊢
  obtain ⟨p, e1, e⟩ := rs_ok e
  obtain ⟨q, e2, e⟩ := rs_ok e
  rw [hf.dv e1, Rs.bind_ok, hg r p.2 x fs q e2, Rs.bind_ok]
  exact e
theorem BT.b (hf : BE i f) : BT i fun x => xB (f x) := fun r T x fs z e => by
  unfold xB at e ⊢
  try dsimp only at e ⊢
  obtain ⟨p, e1, e⟩ := rs_ok e
  rw [hf.dv e1, Rs.bind_ok]
  exact e
theorem BT.or (hc : BT i c) (hd : BT i c') : BT i fun x => xOr (c x) (c' x) := fun r T x fs z e => by
  unfold xOr at e ⊢
  try dsimp only at e ⊢
  obtain ⟨p, e1, e⟩ := rs_ok e
  rw [hc r T x fs p e1, Rs.bind_ok]
  by_cases hp : p.1 = true
  · rw [if_pos hp] at e ⊢
    exact e
  · rw [if_neg hp] at e ⊢
    exact hd r p.2 x fs z e
theorem BS.no : BS i fun _ => sNo := fun r T x fs r2 T2 e => by cases e
theorem BS.seq (hs : BS i s) (ht : BS i t) : BS i fun x => sSeq (s x) (t x) := fun r T x fs r2 T2 e => by
  unfold sSeq at e ⊢
  try dsimp only at e ⊢
  obtain ⟨⟨fl, T1⟩, e1, e⟩ := rs_ok e
  cases fl with
  | nx r1 =>
    obtain ⟨r3, l3, rfl, e3⟩ := hs r T x fs r1 T1 e1
    obtain ⟨r4, l4, rfl, e4⟩ := ht r3 T1 x fs r2 T2 e
    exact ⟨r4, by omega, rfl, by rw [e3, Rs.bind_ok]; exact e4⟩
  | rt v => cases e
  | bk r1 => cases e
  | ct r1 => cases e
theorem frz_xe {r : Env} {x : XA} {fs : List (PySem.Str × D)} (hj : i ≠ j) : frz (Xe r i x fs) j = Xe (frz r j) i x fs := by
  unfold frz
  rw [List.getElem?_set_ne hj]
  rcases e : r[j]? with _ | _ | v
  · rfl
  · rfl
  · cases v <;> first | rfl | exact List.set_comm _ _ hj
theorem BS.frz (hs : BS i s) (hj : i ≠ j) : BS i fun x => sFrz j (s x) := fun r T x fs r2 T2 e => by
  unfold sFrz at e ⊢
  try dsimp only at e ⊢
  rw [frz_xe hj] at e ⊢
  obtain ⟨r3, l3, e3, e4⟩ := hs (Pu.frz r j) T x fs r2 T2 e
  refine ⟨r3, ?_, e3, e4⟩
  rw [l3]
  unfold Pu.frz
  split <;> simp
end
/-! ## what must be known of the classes -/
/-! # [f, g, ..][k](args) -/
inductive FnL (X : Cx) (n j : Nat) : List Expr → List V → List DM → Prop
  | nil : FnL X n j [] [] []
  | cons {x : PySem.Str} {p : Pos} {M : DM} {es : List Expr} {vs : List V} {Ms : List DM} : OkD X.prog X.w X.K X.mg X.base j x n false M → Gl X x → (x == ("__debug__" : PySem.Str)) = false → (starEach (.Name x p :: es) X.env = (false, eval (.Name x p) X.env) :: starEach es X.env) → FnL X n j es vs Ms → FnL X n j (.Name x p :: es) (.ref (He.ga X.K x) :: vs) (M :: Ms)
theorem FnL.at {X : Cx} {n j : Nat} : ∀ {es : List Expr} {vs : List V} {Ms : List DM} {i : Nat} {M : DM}, FnL X n j es vs Ms → Ms[i]? = some M → ∃ x, vs[i]? = some (.ref (He.ga X.K x)) ∧ OkD X.prog X.w X.K X.mg X.base j x n false M
  | _, _, _, _, _, .nil, h => by simp at h
  | _, _, _, 0, _, .cons F _ _ _ _, h => by cases h; exact ⟨_, rfl, F⟩
  | _, _, _, i + 1, _, .cons _ _ _ _ t, h => by
    obtain ⟨x, e, F⟩ := t.at (by simpa using h)
    exact ⟨x, by simpa using e, F⟩
theorem FnL.len {X : Cx} {n j : Nat} : ∀ {es : List Expr} {vs : List V} {Ms : List DM}, FnL X n j es vs Ms → vs.length = Ms.length
  | _, _, _, .nil => rfl
  | _, _, _, .cons _ _ _ _ t => congrArg (· + 1) t.len
end Pu
namespace Pu
open PySem L2 PySem.Spec PyProof.Rows
/-! # try with several clauses, each `except C as e` -/
abbrev Cl := Value × (Addr → Value → Option Addr → TS)
inductive ClOk (X : Cx) (n : PySem.Str) : List ExceptHandler → List Cl → Prop
  | nil : ClOk X n [] []
  | cons {x : PySem.Str} {q : Cl} {b : Stmt} {bs : List Stmt} {p p' : Pos} {hs : List ExceptHandler} {l : List Cl} (nm : Names X x q.1)
      (su : ∀ (a : Addr) (oe : Obj) (cls : Value) (d : Option Addr) (pn : List (Addr × Obj)), Zc cls d oe → (∃ vs, oe.data = .fields vs) → PSs (X.suite a ((a, oe) :: pn)) (b :: bs) (q.2 a cls d)) (r : ClOk X n hs l) :
      ClOk X n (.ExceptHandler (some (.Name x p)) (some n) (b :: bs) p' :: hs) (q :: l)
end Pu
namespace Pu
open PySem L2 PySem.Spec PyProof.Rows
/-- a clause: the class's name, which classes it catches, its suite -/
structure Clz where
  cn : PySem.Str
  l : List (PySem.Str × Bool)
  g : PySem.Str → XA → DS
/-- the kit's form of a clause -/
def cl1 (X : Cx) (C : FC) (h : Clz) : Cl := (.ref (He.ga X.K h.cn), fun a cls d D σ H => ∃ x, (∃ b, h.l.lookup x = some b) ∧ cls = .ref (He.ga X.K x) ∧ tS X.K X.mg C (h.g x (a, d)) D σ H)
inductive ClE (X : Cx) (C : FC) (i : Nat) (n : PySem.Str) : List ExceptHandler → List Clz → Prop
  | nil : ClE X C i n [] []
  | cons {h : Clz} {b : Stmt} {bs : List Stmt} {p p' : Pos} {hs : List ExceptHandler} {l : List Clz} (hm : X.mg h.cn = some (.ref (He.ga X.K h.cn))) (hl : Hits X.K X.mg h.cn h.l)
      (hsu : ∀ (a : Addr) (oe : Obj) (d : Option Addr) (pn : List (Addr × Obj)) (x : PySem.Str), (∃ b, h.l.lookup x = some b) → Zc (.ref (He.ga X.K x)) d oe → (∃ vs, oe.data = .fields vs) → SSs (X.suite a ((a, oe) :: pn)) C (b :: bs) (h.g x (a, d)))
      (hB : ∀ x, BS i (h.g x)) (r : ClE X C i n hs l) (hg : Gl X h.cn := by rfl) (hdb : (h.cn == ("__debug__" : PySem.Str)) = false := by decide) : ClE X C i n (.ExceptHandler (some (.Name h.cn p)) (some n) (b :: bs) p' :: hs) (h :: l)
section
variable {X : Cx} {C : FC} {i : Nat} {n : PySem.Str}
theorem ClE.ok {hs : List ExceptHandler} {l : List Clz} (k : ClE X C i n hs l) : ClOk X n hs (l.map (cl1 X C)) := by
  induction k with
  | nil => exact .nil
  | cons hm hl hsu hB r hg hdb ih => exact .cons (q := cl1 X C _) ⟨hg, hdb, .inl hm⟩ (fun a oe cls d pn hz hv => ⟨fun pins s σ H D I ⟨x, hx, ec, h⟩ => by
      subst ec
      exact (hsu a oe d pn x hx hz hv).run pins s σ H D I h⟩) ih
end
end Pu
namespace Pu
open PySem L2 PySem.Spec PyProof.Rows
/-! # exceptions with one field -/
end Pu
namespace Pu
open PySem L2 PySem.Spec PyProof.Rows
/-! # {k: v}, both constants -/
end Pu
namespace Pu
open PySem L2 PySem.Spec PyProof.Rows
/-! # x[a], x[b] = e, f: two items of one list at once -/
end Pu
namespace PySem.W
open PySem PySem.Calls PyProof.Rows
section
variable {prog : Program} {w : World} {A : Around} {E : Value → Shared → Prop} {s : Shared}
/-- the items of a tuple, gathered -/
theorem gather_tup {t : Addr} {vs : List Value} {Q : List Value → Shared → Prop} (ht : IsTup s.heap t vs.toArray) (hz : vs.length ≤ sizeLine)
    (h : Q vs { s with heap := (s.heap.push (seqObj "list" #[] 0)).update s.heap.objs.size (Obj.mapSeq (· ++ vs.toArray)) }) : wpAny (model prog w) A (collect (.ref t)) Q E s := by
  obtain ⟨o, ho, hc, n, hd⟩ := ht
  have hn : (s.heap.push (seqObj "list" #[] 0)).get? s.heap.objs.size = some (seqObj "list" #[] 0) := Heap.get?_push_size _ rfl
  have ho' := Heap.get?_push_of_some (seqObj "list" #[] 0) ho
  unfold collect
  refine wpAny_bind (wpAny_runValue (codeAny_builtin entry_proto_collect' ?_))
  refine wpAny_bind (wpAny_newList (wpAny_pure ⟨Code.quiet_builtin _ (by decide +kernel), codeAny_builtin entry_list_iadd' ?_⟩))
  show wpAny _ _ (Builtin.List.listExtendWith (.ref s.heap.objs.size) (.ref t) (.ref s.heap.objs.size)) _ _ { s with heap := s.heap.push (seqObj "list" #[] 0) }
  unfold Builtin.List.listExtendWith
  refine wpAny_bind (wpAny_typeOf (T := "tuple") ⟨o, ho', hc⟩ ?_)
  rw [if_pos (by rw [show (Value.type "tuple" == Value.type "tuple") = true from by rfl]; simp)]
  refine wpAny_bind (listItems_at ho' hd (wpAny_bind (listItems_at (xs := #[]) (n := 0) hn rfl ?_)))
  rw [if_neg (by simp)]
  refine wpAny_bind (listUpdate_at (xs := #[]) (n := 0) hn rfl (wpAny_pure (wpAny_bind (wpAny_load (get?_update_seq hn _) ?_))) (Nat.zero_le _) (by show (#[] ++ vs.toArray).size ≤ sizeLine + 1; simp; omega))
  show wpAny _ _ (pure ((#[] : Array Value) ++ vs.toArray).toList) Q E _
  rw [show ((#[] : Array Value) ++ vs.toArray).toList = vs by simp]
  exact wpAny_pure h
/-- sorted of a tuple is list.sort of the list of its items -/
theorem sorted_tup {β : Type} {t : Addr} {vs : List Value} {bs : List β} {R : Value → β → Prop} {enc : β → PyData} {Q : Value → Shared → Prop} (ht : IsTup s.heap t vs.toArray) (e : EachIs R vs bs) (er : EachIs (fun v b => ∃ as, Reads s.heap v (enc b) as) vs bs) (hal : AllAlike (bs.map enc)) (hk : Sortable (bs.map enc)) (hL : bs.length ≤ sizeLine)
    (hu : ∀ b, b ∈ bs → A.units + 2 + (enc b).depth < cLine) (h : ∀ out, out.length = bs.length → EachIs R out (bs.mergeSort (dataLe false enc)) → Q (.ref (s.heap.objs.size + 1)) { s with heap := sortedAll s.heap vs (List.toArray out) }) :
    wpAny (model prog w) A (call (.builtin "sorted") [.ref t]) Q E s := by
  have hv : vs.length ≤ sizeLine := by rw [e.length]; exact hL
  have hs : ((s.heap.push (seqObj "list" #[] 0)).update s.heap.objs.size (Obj.mapSeq (· ++ vs.toArray))).objs.size = s.heap.objs.size + 1 := by rw [Heap.size_update, size_push']
  refine call_function_entry_kw kind_sorted plain_sorted entry_sorted (args_sorted1 _) ?_
  unfold Builtin.«sorted»
  refine wpAny_bind (m := checkCount "sorted" 1 1 _) (wpAny_pure (wpAny_bind (gather_tup ht hv (wpAny_bind (wpAny_newList ?_ hv)))))
  show wpAny _ _ _ _ _ { s with heap := copyHeap s.heap vs }
  rw [hs]
  refine wpAny_bind (wpAny_holding (wpAny_call_entry_kw slot_list_sort ⟨_, copyHeap_at s.heap vs, rfl⟩ entry_list_sort ?_ (args_list_sort _)))
  have er2 : EachIs (fun v b => ∃ as, Reads (sortingHeap (copyHeap s.heap vs) (s.heap.objs.size + 1) vs) v (enc b) as) vs bs := er.mono fun _ _ ⟨as, r⟩ => ⟨as, PyProof.Rows.Reads.keeps (fun _ _ => sorting_copy_old) r⟩
  have S := SortsAt.data (prog := prog) (w := w) (A := A.in1.in1) (s := { s with heap := sortingHeap (copyHeap s.heap vs) (s.heap.objs.size + 1) vs }) (each_map (R := fun v d => ∃ as, Reads (sortingHeap (copyHeap s.heap vs) (s.heap.objs.size + 1) vs) v d as) enc er2) hal hk (bound_map hu)
  refine wpAny_mono (list_sort_vals (s := { s with heap := copyHeap s.heap vs }) (P := fun f s' => f = .done (.ret .none) ∧ Q (.ref (s.heap.objs.size + 1)) s') (copyHeap_at s.heap vs) S hv ⟨rfl, h _ (by rw [sortVals_length false rfl]; exact e.length) (sortVals_data false e er2 hal)⟩) (fun f s' hf => ?_) fun _ _ z => z
  obtain ⟨rfl, hq⟩ := hf
  exact ⟨_, rfl, wpAny_pure ⟨_, rfl, hq⟩⟩
end
end PySem.W
namespace Pu
open PySem L2 PySem.Spec PyProof.Rows
/-! # sorted of a tuple, too -/
open Classical
def rSortT (K : PySem.W.Frag) (mg : PySem.Str → Option Value) : List V → Hp → VK → Prop := fun xs H Q => ∃ (S : Addr → Prop) (a : Addr) (vs : List V) (ds : List D), xs = [.ref a] ∧ SqT K H a vs ∧ vs.length ≤ sizeLine ∧ Reps K mg S H vs ds ∧ SrtOk ds ∧ ∀ l ws, H l = none → ws.length ≤ sizeLine → Reps K mg S H ws (srtd ds) → Q (.ref l) (upd H l (.lst ws))
theorem cr_sortT {X : Cx} (hu : X.A.units + 64 < cLine) : CallR X (.builtin "sorted") (rSortT X.K X.mg) := by
  intro pins s σ H xs us Q I r h
  obtain ⟨S, a, vs, ds, rfl, hs, hz, rp, ⟨hp, h1, h2⟩, q⟩ := h
  obtain ⟨its, rv, hl, _⟩ := I.tuple hs
  rw [Vals.ref1 r]
  have hlen := rp.len
  have hzs : (vs.zip ds).map (·.2) = ds := zip_snd hlen
  have henc : (vs.zip ds).map (fun p => py p.2) = ds.map py := by
    conv => rhs; rw [← hzs]
    rw [List.map_map]
    rfl
  refine PySem.W.sorted_tup (R := fun u (p : V × D) => RelV p.1 u ∧ p ∈ vs.zip ds) (enc := fun p => py p.2) (bs := vs.zip ds) hl (eachIs_of rv hlen fun i u v d e1 e2 e3 rr => ⟨rr, List.mem_of_getElem? (i := i) (List.getElem?_zip_eq_some.mpr ⟨e2, e3⟩)⟩) (eachIs_of rv hlen fun i u v d e1 e2 e3 rr => ?_) (by rw [henc]; exact h1) (by rw [henc]; exact h2) ?_ (fun b hb => ?_) fun out ho he => ?_
  · obtain ⟨d', e4, p⟩ := rp.get e2
    rw [e3] at e4
    cases e4
    exact p.reads I 30 u (hp d (List.mem_of_getElem? e3)) rr
  · rw [List.length_zip, ← hlen, Nat.min_self]
    exact hz
  · have := (pl_py 30 b.2 (hp b.2 (by rw [← hzs]; exact List.mem_map_of_mem hb))).2
    show X.A.units + 2 + (py b.2).depth < cLine
    omega
  · obtain ⟨ep, he'⟩ := PyProof.Rows.sortedAll_at s.heap its out.toArray
    have hz2 : (((vs.zip ds).mergeSort (PySem.W.dataLe false fun p => py p.2)).map (·.1)).length ≤ sizeLine := by
      rw [List.length_map, List.length_mergeSort, List.length_zip, ← hlen, Nat.min_self]
      exact hz
    have hr := reps_zip (K := X.K) (mg := X.mg) (S := S) (H := H) (l := (vs.zip ds).mergeSort (PySem.W.dataLe false fun p => py p.2)) fun p hpm => rp.zip p ((List.mergeSort_perm _ _).mem_iff.mp hpm)
    rw [merge_zip, hzs] at hr
    exact ⟨.ref _, upd H (s.heap.objs.size + 1) (.lst (((vs.zip ds).mergeSort (PySem.W.dataLe false fun p => py p.2)).map (·.1))), I.laid (t' := s.toks) (fun _ _ => PyProof.Rows.sortedAll_old) (Nat.le_succ _) ⟨hz2, out, ep, each_vals (fun u p z => z.1) he, he'⟩, rfl, q _ _ (I.hok.fresh (Nat.le_succ _)) hz2 hr⟩
noncomputable def bSortA : List D → Rs VD
  | [.lst ds] => if SrtOk ds then .ok (.own (.lst (srtd ds))) else .stuck
  | [.tup ds] => if SrtOk ds then .ok (.own (.lst (srtd ds))) else .stuck
  | _ => .stuck
theorem q_sortA : QuietN bSortA := fun ds => by
  unfold bSortA
  split <;> first | exact quiet_s | exact quiet_if quiet_o quiet_s
def rSortA (K : PySem.W.Frag) (mg : PySem.Str → Option Value) : List V → Hp → VK → Prop := fun xs H Q => rSortedD K mg xs H Q ∨ rSortT K mg xs H Q
theorem cr_sortA {X : Cx} (hu : X.A.units + 64 < cLine) : CallR X (.builtin "sorted") (rSortA X.K X.mg) := fun pins s σ H xs us Q I r h => by
  rcases h with h | h
  · exact cr_sortedD hu pins s σ H xs us Q I r h
  · exact cr_sortT hu pins s σ H xs us Q I r h
theorem d_sortA {K : PySem.W.Frag} {mg : PySem.Str → Option Value} : RnD K mg (rSortA K mg) bSortA := fun S H xs ds Q z t hp e k => by
  unfold bSortA at e
  split at e
  · obtain ⟨c, rfl⟩ := if_ok e
    obtain ⟨x, rfl, p⟩ := topv1 hp
    obtain ⟨a, vs, rfl, h1, z1, r⟩ := p.sqL
    exact .inl ⟨S, a, vs, _, rfl, h1, z1, r, c, fun l ws hl hw rw => k.newL hl hw rw⟩
  · obtain ⟨c, rfl⟩ := if_ok e
    obtain ⟨x, rfl, p⟩ := topv1 hp
    obtain ⟨a, vs, rfl, h1, z1, r⟩ := p.sqT
    exact .inr ⟨S, a, vs, _, rfl, h1, z1, r, c, fun l ws hl hw rw => k.newL hl hw rw⟩
  · cases e
end Pu
namespace Pu
open PySem L2 PySem.Spec PyProof.Rows
/-! # sorted of a list with at most one item: whatever it is -/
def rSort1 (K : PySem.W.Frag) (mg : PySem.Str → Option Value) : List V → Hp → VK → Prop := fun xs H Q => ∃ (a : Addr) (vs : List V), xs = [.ref a] ∧ H a = some (.lst vs) ∧ vs.length ≤ 1 ∧ ∀ l, H l = none → Q (.ref l) (upd H l (.lst vs))
theorem cr_sort1 {X : Cx} : CallR X (.builtin "sorted") (rSort1 X.K X.mg) := by
  intro pins s σ H xs us Q I r h
  obtain ⟨a, vs, rfl, hs, h1, q⟩ := h
  obtain ⟨its, rv, hl, _⟩ := I.list (.of hs)
  rw [Vals.ref1 r]
  have hlv := rv.length
  have h1' : its.length ≤ 1 := by omega
  have hz : its.length ≤ sizeLine := Nat.le_trans h1' (by decide)
  refine PySem.W.sorted_of_sort hl.isList hz (args_sorted1 _) (fun _ => args_list_sort _) fun E' => Srt.list_sort_any (s := { s with heap := PySem.W.copyHeap s.heap its }) (PySem.W.copyHeap_at s.heap its) hz (fun h2 => absurd h2 (by omega)) fun out hp => ⟨rfl, ?_⟩
  have ho : out = its := by
    match its, h1', hp with
    | [], _, hp => exact hp.eq_nil
    | [v], _, hp => exact hp.eq_singleton
    | _ :: _ :: _, h, _ => exact absurd h (by simp)
  subst ho
  obtain ⟨ep, he'⟩ := PyProof.Rows.sortedAll_at s.heap out out.toArray
  have hz2 : vs.length ≤ sizeLine := Nat.le_trans h1 (by decide)
  exact ⟨.ref _, upd H (s.heap.objs.size + 1) (.lst vs), I.laid (t' := s.toks) (fun _ _ => PyProof.Rows.sortedAll_old) (Nat.le_succ _) ⟨hz2, out, ep, rv, he'⟩, rfl, q _ (I.hok.fresh (Nat.le_succ _))⟩
noncomputable def bSortB : List D → Rs VD
  | [.lst []] => .ok (.own (.lst []))
  | [.lst [d]] => .ok (.own (.lst [d]))
  | ds => bSortA ds
theorem q_sortB : QuietN bSortB := fun ds => by
  unfold bSortB
  split <;> first | exact quiet_o | exact q_sortA _
def rSortB (K : PySem.W.Frag) (mg : PySem.Str → Option Value) : List V → Hp → VK → Prop := fun xs H Q => rSort1 K mg xs H Q ∨ rSortA K mg xs H Q
theorem cr_sortB {X : Cx} (hu : X.A.units + 64 < cLine) : CallR X (.builtin "sorted") (rSortB X.K X.mg) := fun pins s σ H xs us Q I r h => by
  rcases h with h | h
  · exact cr_sort1 pins s σ H xs us Q I r h
  · exact cr_sortA hu pins s σ H xs us Q I r h
theorem d_sortB {K : PySem.W.Frag} {mg : PySem.Str → Option Value} : RnD K mg (rSortB K mg) bSortB := fun S H xs ds Q z t hp e k => by
  unfold bSortB at e
  split at e
  · cases e
    obtain ⟨x, rfl, p⟩ := topv1 hp
    obtain ⟨a, vs, rfl, h1, z1, r⟩ := p.sqL
    have hl := r.len
    exact .inl ⟨a, vs, rfl, h1, by rw [hl]; simp, fun l hl => k.newL hl z1 r⟩
  · cases e
    obtain ⟨x, rfl, p⟩ := topv1 hp
    obtain ⟨a, vs, rfl, h1, z1, r⟩ := p.sqL
    have hl := r.len
    exact .inl ⟨a, vs, rfl, h1, by rw [hl]; simp, fun l hl => k.newL hl z1 r⟩
  · exact .inr (d_sortA S H xs ds Q z t hp e k)
end Pu
namespace Pu
open PySem L2 PySem.Spec PyProof.Rows
/-! # a dict is locked, or let go: what is told of all things stays -/
structure Swp (d : Addr) (H H' : Hp) : Prop where
  off : ∀ a, a ≠ d → H' a = H a
  at_ : ∃ o u, ((∃ k, u = HO.dK k) ∨ ∃ k, u = HO.dT k) ∧ ((H d = some u ∧ H' d = some (.frz o u)) ∨ (H d = some (.frz o u) ∧ H' d = some u))
section
variable {K : PySem.W.Frag} {mg : PySem.Str → Option Value} {S : Addr → Prop} {H H' : Hp} {d : Addr}
theorem Swp.keep (s : Swp d H H') {a : Addr} {c : HO} (r : H a = some c) (h1 : ∀ k, c ≠ .dK k) (h2 : ∀ k, c ≠ .dT k) (h3 : ∀ o k, c ≠ .frz o (.dK k)) (h4 : ∀ o k, c ≠ .frz o (.dT k)) : H' a = some c := by
  by_cases e : a = d
  · subst e
    obtain ⟨o, u, hu, q⟩ := s.at_
    rcases q with ⟨q, _⟩ | ⟨q, _⟩ <;> rw [r] at q <;> cases q <;> rcases hu with ⟨k, rfl⟩ | ⟨k, rfl⟩
    · exact absurd rfl (h1 k)
    · exact absurd rfl (h2 k)
    · exact absurd rfl (h3 o k)
    · exact absurd rfl (h4 o k)
  · rw [s.off a e]
    exact r
theorem Swp.dK (s : Swp d H H') {a : Addr} {k : List (Key × V)} (r : H a = some (.dK k)) : H' a = some (.dK k) ∨ ∃ o, H' a = some (.frz o (.dK k)) := by
  by_cases e : a = d
  · subst e
    obtain ⟨o, u, hu, q⟩ := s.at_
    rcases q with ⟨q, q2⟩ | ⟨q, _⟩ <;> rw [r] at q <;> cases q
    exact .inr ⟨o, q2⟩
  · rw [s.off a e]
    exact .inl r
theorem Swp.dT (s : Swp d H H') {a : Addr} {k : List (List Key × V)} (r : H a = some (.dT k)) : H' a = some (.dT k) ∨ ∃ o, H' a = some (.frz o (.dT k)) := by
  by_cases e : a = d
  · subst e
    obtain ⟨o, u, hu, q⟩ := s.at_
    rcases q with ⟨q, q2⟩ | ⟨q, _⟩ <;> rw [r] at q <;> cases q
    exact .inr ⟨o, q2⟩
  · rw [s.off a e]
    exact .inl r
theorem Swp.fK (s : Swp d H H') {a : Addr} {o : Obj} {k : List (Key × V)} (r : H a = some (.frz o (.dK k))) : H' a = some (.dK k) ∨ ∃ o, H' a = some (.frz o (.dK k)) := by
  by_cases e : a = d
  · subst e
    obtain ⟨o, u, hu, q⟩ := s.at_
    rcases q with ⟨q, _⟩ | ⟨q, q2⟩ <;> rw [r] at q <;> cases q
    · rcases hu with ⟨k, z⟩ | ⟨k, z⟩ <;> cases z
    · exact .inl q2
  · rw [s.off a e]
    exact .inr ⟨_, r⟩
theorem Swp.fT (s : Swp d H H') {a : Addr} {o : Obj} {k : List (List Key × V)} (r : H a = some (.frz o (.dT k))) : H' a = some (.dT k) ∨ ∃ o, H' a = some (.frz o (.dT k)) := by
  by_cases e : a = d
  · subst e
    obtain ⟨o, u, hu, q⟩ := s.at_
    rcases q with ⟨q, _⟩ | ⟨q, q2⟩ <;> rw [r] at q <;> cases q
    · rcases hu with ⟨k, z⟩ | ⟨k, z⟩ <;> cases z
    · exact .inl q2
  · rw [s.off a e]
    exact .inr ⟨_, r⟩
theorem Swp.there (s : Swp d H H') {a : Addr} {c : HO} (r : H a = some c) : ∃ c', H' a = some c' := by
  by_cases e : a = d
  · subst e
    obtain ⟨o, u, hu, q⟩ := s.at_
    rcases q with ⟨_, q⟩ | ⟨_, q⟩ <;> exact ⟨_, q⟩
  · rw [s.off a e]
    exact ⟨_, r⟩
theorem Swp.scr (s : Swp d H H') {a : Addr} {u : HO} {ns : List Int} (r : H a = some u) (f : ∀ H', H' a = some u → SqL K H' a (ns.map V.int)) : ∃ u', H' a = some u' ∧ ∀ H', H' a = some u' → SqL K H' a (ns.map V.int) := by
  by_cases e : a = d
  · obtain ⟨u', hu'⟩ := s.there r
    refine ⟨u', hu', fun H2 _ => ?_⟩
    rcases f H r with (q | ⟨o, q⟩) | q
    · subst e
      obtain ⟨o, u, hu, q2⟩ := s.at_
      rcases q2 with ⟨q2, _⟩ | ⟨q2, _⟩ <;> rw [q] at q2 <;> cases q2
      rcases hu with ⟨k, z⟩ | ⟨k, z⟩ <;> cases z
    · subst e
      obtain ⟨o, u, hu, q2⟩ := s.at_
      rcases q2 with ⟨q2, _⟩ | ⟨q2, _⟩ <;> rw [q] at q2 <;> cases q2 <;> rcases hu with ⟨k, z⟩ | ⟨k, z⟩ <;> cases z
    · exact .inr q
  · exact ⟨u, by rw [s.off a e]; exact r, f⟩
theorem Swp.kTup (s : Swp d H H') {a : Addr} {vs : List V} (r : H a = some (.tup vs)) : H' a = some (.tup vs) := s.keep r (fun _ z => nomatch z) (fun _ z => nomatch z) (fun _ _ z => nomatch z) (fun _ _ z => nomatch z)
theorem Swp.kLst (s : Swp d H H') {a : Addr} {vs : List V} (r : H a = some (.lst vs)) : H' a = some (.lst vs) := s.keep r (fun _ z => nomatch z) (fun _ z => nomatch z) (fun _ _ z => nomatch z) (fun _ _ z => nomatch z)
theorem Swp.kXd (s : Swp d H H') {a : Addr} {fs : List (PySem.Str × V)} (r : H a = some (.xd fs)) : H' a = some (.xd fs) := s.keep r (fun _ z => nomatch z) (fun _ z => nomatch z) (fun _ _ z => nomatch z) (fun _ _ z => nomatch z)
theorem Swp.kExt (s : Swp d H H') {a : Addr} {φ : Heap → Prop} (r : H a = some (.ext φ)) : H' a = some (.ext φ) := s.keep r (fun _ z => nomatch z) (fun _ z => nomatch z) (fun _ _ z => nomatch z) (fun _ _ z => nomatch z)
theorem Swp.kIns (s : Swp d H H') {a : Addr} {C dx : Addr} {fs : List (PySem.Str × V)} (r : H a = some (.ins C dx fs)) : H' a = some (.ins C dx fs) := s.keep r (fun _ z => nomatch z) (fun _ z => nomatch z) (fun _ _ z => nomatch z) (fun _ _ z => nomatch z)
theorem Swp.kTpl (s : Swp d H H') {a : Addr} {o : Obj} {vs : List V} (r : H a = some (.frz o (.tup vs))) : H' a = some (.frz o (.tup vs)) := s.keep r (fun _ z => nomatch z) (fun _ z => nomatch z) (fun _ _ z => by cases z) (fun _ _ z => by cases z)
theorem rep_dK {a : Addr} {kvs : List (Key × V)} {ds : List (D × D)} (r : H a = some (.dK kvs) ∨ ∃ o, H a = some (.frz o (.dK kvs))) (h : ¬ S a) (z : kvs.length ≤ sizeLine) (e : ds.map (·.1) = kvs.map fun p => kD p.1) (q : Reps K mg S H (kvs.map (·.2)) (ds.map (·.2))) : Rep K mg S H (.ref a) (.dct false ds) := r.elim (fun r => .dK h r z e q) fun ⟨_, r⟩ => .dKz h r z e q
theorem rep_dT {a : Addr} {kvs : List (List Key × V)} {ds : List (D × D)} (r : H a = some (.dT kvs) ∨ ∃ o, H a = some (.frz o (.dT kvs))) (h : ¬ S a) (z : kvs.length ≤ sizeLine) (e : ds.map (·.1) = kvs.map fun p => D.tup (p.1.map kD)) (q : Reps K mg S H (kvs.map (·.2)) (ds.map (·.2))) : Rep K mg S H (.ref a) (.dct true ds) := r.elim (fun r => .dT h r z e q) fun ⟨_, r⟩ => .dTz h r z e q
theorem rep_scr {a : Addr} {ns : List Int} (r : ∃ u', H a = some u' ∧ ∀ H', H' a = some u' → SqL K H' a (ns.map V.int)) (h : ¬ S a) (z : ns.length ≤ sizeLine) : Rep K mg S H (.ref a) (.scr ns) := let ⟨_, r2, q2⟩ := r; .scr h r2 q2 z
mutual
theorem Rep.swap (s : Swp d H H') : ∀ {v : V} {x : D}, Rep K mg S H v x → Rep K mg S H' v x
  | _, _, .non => .non
  | _, _, .bl b => .bl b
  | _, _, .int i => .int i
  | _, _, .str x => .str x
  | _, _, .tup h r z q => .tup h (s.kTup r) z (Reps.swap s q)
  | _, _, .lst h r z q => .lst h (s.kLst r) z (Reps.swap s q)
  | _, _, .dK h r z e q => rep_dK (s.dK r) h z e (Reps.swap s q)
  | _, _, .dT h r z e q => rep_dT (s.dT r) h z e (Reps.swap s q)
  | _, _, .dKz h r z e q => rep_dK (s.fK r) h z e (Reps.swap s q)
  | _, _, .dTz h r z e q => rep_dT (s.fT r) h z e (Reps.swap s q)
  | _, _, .scr h r q z => rep_scr (s.scr r q) h z
  | _, _, .scrK q z => .scrK q z
  | _, _, .tpl h r c e z => .tpl h (s.kTpl r) c e z
  | _, _, .ktp h r c e z q => .ktp h (s.kTpl r) c e z (Reps.swap s q)
  | _, _, .exn0 => .exn0
  | _, _, .lrf q => .lrf q
  | _, _, .dcn h r z e q q2 => .dcn h (s.kExt r) z e (Reps.swap s q) (Reps.swap s q2)
  | _, _, .exn h r e q => .exn h (s.kXd r) e (Reps.swap s q)
  | _, _, .ins h r m e q => .ins h (s.kIns r) m e (Reps.swap s q)
theorem Reps.swap (s : Swp d H H') : ∀ {vs : List V} {ds : List D}, Reps K mg S H vs ds → Reps K mg S H' vs ds
  | _, _, .nil => .nil
  | _, _, .cons p t => .cons (Rep.swap s p) (Reps.swap s t)
end
theorem OwnAt.swap (s : Swp d H H') {p : Addr} {x : D} (hp : p ≠ d) (h : OwnAt K mg S H p x) : OwnAt K mg S H' p x := by
  have k : ∀ {c : HO}, H p = some c → H' p = some c := fun r => by rw [s.off p hp]; exact r
  cases h with
  | lst e z g => exact .lst (k e) z (g.swap s)
  | dK e z g q => exact .dK (k e) z g (q.swap s)
  | dT e z g q => exact .dT (k e) z g (q.swap s)
  | ins e m g q => exact .ins (k e) m g (q.swap s)
  | dcn e z g q q2 => exact .dcn (k e) z g (q.swap s) (q2.swap s)
theorem CelAt.swap (s : Swp d H H') {p : Addr} {x : D} (hp : p ≠ d) (h : CelAt K mg S H p x) : CelAt K mg S H' p x := h.elim (fun h => .inl (h.swap s hp)) fun ⟨e, ed, h⟩ => .inr ⟨e, ed, h.swap s hp⟩
mutual
theorem TreeAt.swap (s : Swp d H H') : ∀ {F : List Addr} {sh : Sh} {v : V} {x : D}, (∀ p ∈ F, p ≠ d) → TreeAt K mg S H F sh v x → TreeAt K mg S H' F sh v x
  | _, _, _, _, _, .leaf r => .leaf (r.swap s)
  | _, _, _, _, f, .lst h z t => .lst (by rw [s.off _ (f _ List.mem_cons_self)]; exact h) z (TreesAt.swap s (fun p hp => f p (List.mem_cons_of_mem _ hp)) t)
  | _, _, _, _, f, .dK h z g t => .dK (by rw [s.off _ (f _ List.mem_cons_self)]; exact h) z g (TreesAt.swap s (fun p hp => f p (List.mem_cons_of_mem _ hp)) t)
  | _, _, _, _, f, .dT h z g t => .dT (by rw [s.off _ (f _ List.mem_cons_self)]; exact h) z g (TreesAt.swap s (fun p hp => f p (List.mem_cons_of_mem _ hp)) t)
  | _, _, _, _, f, .dcn h z g q q2 => .dcn (by rw [s.off _ (f _ List.mem_cons_self)]; exact h) z g (q.swap s) (q2.swap s)
  | _, _, _, _, f, .tup n h z t => .tup n (s.kTup h) z (TreesAt.swap s f t)
  | _, _, _, _, f, .ins h m g t => .ins (by rw [s.off _ (f _ List.mem_cons_self)]; exact h) m g (TreesAt.swap s (fun p hp => f p (List.mem_cons_of_mem _ hp)) t)
theorem TreesAt.swap (s : Swp d H H') : ∀ {F : List Addr} {ss : List Sh} {vs : List V} {xs : List D}, (∀ p ∈ F, p ≠ d) → TreesAt K mg S H F ss vs xs → TreesAt K mg S H' F ss vs xs
  | _, _, _, _, _, .nil => .nil
  | _, _, _, _, f, .cons a b => .cons (TreeAt.swap s (fun p hp => f p (List.mem_append_left _ hp)) a) (TreesAt.swap s (fun p hp => f p (List.mem_append_right _ hp)) b)
end
theorem TapeOk.swap (s : Swp d H H') {tp : Option Addr} {T : Tp} (hp : tp ≠ some d) (h : TapeOk K mg S tp T H) : TapeOk K mg S tp T H' := by
  unfold TapeOk at h ⊢
  cases tp with
  | none => exact h
  | some p =>
    obtain ⟨t, e, o⟩ := h
    exact ⟨t, e, CelAt.swap s (fun z => hp (by rw [z])) o⟩
/-- the frame's heap changed at d -/
theorem Holds.swapTo {C : FC} {G : Hp} {Z : Addr → Prop} {r : Env} {T : Tp} {σ : L2.St} (h : Holds K mg C Z r T σ H) (s : Swp d H H') (nd : ¬ SS C Z r σ d) (fr : Ext { C with H0 := G } G H') (hG : ∀ p, p ≠ d → C.H0 p = none → G p = none) : Holds K mg { C with H0 := G } Z r T σ H' := by
  have ne : ∀ p, SS C Z r σ p → p ≠ d := fun p hp z => nd (by rw [← z]; exact hp)
  refine ⟨h.len, fr, fun i x e => ?_, fun i x e => ?_, h.inj, h.tape.swap s fun z => nd (.inr (.inl z)), h.tslot, fun p hp => ?_, fun p hp => ?_, fun p hp => (h.pin p hp).swap s, ?_⟩
  · obtain ⟨v, e1, p⟩ := h.val i x e
    exact ⟨v, e1, p.swap s⟩
  · obtain ⟨p, e1, o, g1, g2, g3, g4⟩ := h.own i x e
    have hp := ne p (.inr (.inr (.inl ⟨i, x, e, e1⟩)))
    exact ⟨p, e1, o.swap s hp, hG p hp g1, g2, g3, g4⟩
  · obtain ⟨o, e, m⟩ := h.st p hp
    exact ⟨o, by rw [s.off p (ne p (.inl hp))]; exact e, m⟩
  · obtain ⟨o, e, m⟩ := h.zt p hp
    exact ⟨o, by rw [s.off p (ne p (.inr (.inr (.inr hp))))]; exact e, m⟩
  · obtain ⟨φ, h1, h2, h3, h4⟩ := h.tree
    have hn : ∀ i, ∀ p ∈ φ i, p ≠ d := fun i p hp => ne p (.inl (h3 i p hp).1.1)
    refine ⟨φ, fun i sh x e => ?_, h2, fun i p hp => ?_, h4⟩
    · obtain ⟨v, e1, t⟩ := h1 i sh x e
      exact ⟨v, e1, t.swap s (hn i)⟩
    · obtain ⟨a, b, c⟩ := h3 i p hp
      exact ⟨a, hG p (hn i p hp) b, c⟩
/-- what is locked is nobody's own -/
theorem Holds.notSS {C : FC} {Z : Addr → Prop} {r : Env} {T : Tp} {σ : L2.St} (h : Holds K mg C Z r T σ H) {o : Obj} {u : HO} (e : H d = some (.frz o u)) : ¬ SS C Z r σ d := fun z => by
  obtain ⟨c, e2, m⟩ := h.tr z
  rw [e] at e2
  cases e2
  exact m
theorem swp_free {o : Obj} {u : HO} (hu : (∃ k, u = HO.dK k) ∨ ∃ k, u = HO.dT k) (e : H d = some (.frz o u)) : Swp d H (L2.upd H d u) := ⟨fun a n => upd_ne n, o, u, hu, .inr ⟨e, upd_same⟩⟩
end
/-- the frame while d is locked -/
abbrev FC.lk (C : FC) (d : Addr) (c : HO) : FC := { C with H0 := L2.upd C.H0 d c }
section
variable {K : PySem.W.Frag} {mg : PySem.Str → Option Value} {C : FC} {Z : Addr → Prop} {r : Env} {T : Tp} {σ : L2.St} {H : Hp} {d : Addr} {o : Obj} {u : HO}
theorem Holds.lkAt (h : Holds K mg (C.lk d u) Z r T σ H) (nt : C.tp ≠ some d) : H d = some u := h.frame d u upd_same nt
theorem Holds.free (hu : (∃ k, u = HO.dK k) ∨ ∃ k, u = HO.dT k) (h : Holds K mg (C.lk d (.frz o u)) Z r T σ H) (nt : C.tp ≠ some d) (h0 : ∀ c, C.H0 d = some c → c = u) : Holds K mg C Z r T σ (L2.upd H d u) := by
  have e := h.lkAt nt
  refine h.swapTo (G := C.H0) (swp_free hu e) (h.notSS e) (fun a c q n => ?_) fun p hp z => by
    have z : L2.upd C.H0 d (.frz o u) p = none := z
    rw [upd_ne hp] at z
    exact z
  by_cases ea : a = d
  · subst ea
    rw [upd_same, h0 c q]
  · rw [upd_ne ea]
    exact h.frame a c (show L2.upd C.H0 d (.frz o u) a = some c by rw [upd_ne ea]; exact q) n
end
end Pu
namespace L2
open PySem PySem.Spec PyProof.Rows
/-! # .items() of a dict whose keys are tuples -/
end L2
namespace Pu
open PySem L2 PySem.Spec PyProof.Rows
/-! # for k in d, for k, v in d.items(): d a name, walked while it is locked -/
section
variable {K : PySem.W.Frag} {mg : PySem.Str → Option Value} {C : FC} {d : Addr} {o : Obj} {u : HO} {E : Ends} {b : Fl × Tp}
theorem HoldsY.free {r : Env} {T : Tp} {σ : L2.St} {H : Hp} (hu : (∃ k, u = HO.dK k) ∨ ∃ k, u = HO.dT k) (nt : C.tp ≠ some d) (h0 : ∀ c, C.H0 d = some c → c = u) (h : HoldsY K mg (C.lk d (.frz o u)) r T σ H) : H d = some (.frz o u) ∧ HoldsY K mg C r T σ (L2.upd H d u) := by
  obtain ⟨Y, h, hY⟩ := h
  exact ⟨Holds.lkAt (C := C.plus Y) h nt, Y, Holds.free (C := C.plus Y) hu h nt h0, hY⟩
end
end Pu
namespace Pu
open PySem L2 PySem.Spec PyProof.Rows
/-! # keys and items of a dict -/
end Pu
namespace Pu
open PySem L2 PySem.Spec PyProof.Rows
/-! # [.. for k in d], [.. for k, v in d.items()] -/
end Pu
namespace L2
open PySem PySem.Spec PyProof.Rows
/-! # {k: v}, k a tuple that is written, v a constant -/
end L2
namespace Pu
open PySem L2 PySem.Spec PyProof.Rows
end Pu
namespace Pu
open PySem L2 PySem.Spec PyProof.Rows
/-! # return (x, e): x a list of one's own, e a new one -/
end Pu
namespace Pu
open PySem L2 PySem.Spec PyProof.Rows
/-! # two tuples of whole numbers, put behind one another: known -/
end Pu
namespace Pu
open PySem L2 PySem.Spec PyProof.Rows
/-! # an expression is run while one's own thing is let be -/
/-! # a part of a pair of which some parts are one's own -/
/-! # return (x, e), return (e, x): x one's own, e not -/
end Pu
namespace Pu
open PySem L2 PySem.Spec PyProof.Rows
/-! # zip of two rows, each a list or a tuple -/
def SqB (t : Bool) (K : PySem.W.Frag) (H : Hp) (a : Addr) (xs : List V) : Prop := match t with
  | true => SqT K H a xs
  | false => SqL K H a xs
def IterB (t : Bool) (h : Heap) (it a : Addr) (i : Nat) : Prop := match t with
  | true => h.IsTupleIter it a i
  | false => h.IsListIter it a i
def SeqB (t : Bool) (h : Heap) (a : Addr) (its : Array Value) : Prop := match t with
  | true => h.IsTuple a its
  | false => h.IsList a its
def itO (t : Bool) (a : Addr) : Obj := match t with
  | true => { cls := .type "tuple_iterator", data := .fields #[.ref a, .int 0 0] }
  | false => { cls := .type "list_iterator", data := .fields #[.ref a, .int 0 0] }
theorem IterB.there {t : Bool} {h : Heap} {it a : Addr} {i : Nat} (x : IterB t h it a i) : ∃ o, h.get? it = some o ∧ ∀ v, o.data ≠ .cell v := by
  cases t with
  | true => obtain ⟨o, e, _, d⟩ := x; exact ⟨o, e, fun v q => by rw [d] at q; cases q⟩
  | false => obtain ⟨o, e, _, d⟩ := x; exact ⟨o, e, fun v q => by rw [d] at q; cases q⟩
theorem IterB.at {t : Bool} {h h' : Heap} {it a : Addr} {i : Nat} (x : IterB t h it a i) (k : ∀ o, h.get? it = some o → h'.get? it = some o) : IterB t h' it a i := by
  cases t with
  | true => exact Heap.IsTupleIter.at x k
  | false => exact Heap.IsListIter.at x k
theorem SeqB.at {t : Bool} {h h' : Heap} {a : Addr} {its : Array Value} (x : SeqB t h a its) (k : ∀ o, h.get? a = some o → h'.get? a = some o) : SeqB t h' a its := by
  cases t with
  | true => exact Heap.IsTuple.at x k
  | false => exact Heap.IsList.at x k
theorem beginsB (t : Bool) (a : Addr) (its : Array Value) : Begins (.ref a) (itO t a) fun h => SeqB t h a its := by
  cases t with
  | true => exact begins_tuple a its
  | false => exact begins_list a its
theorem drawsB (t : Bool) {P : Program} {w : World} {A : Around} (hh : A.handled = none) (it a : Addr) (ne : a ≠ it) (its : Array Value) : Draws P w A it [it, a] its.size (fun i v => its[i]? = some v) (fun i h => IterB t h it a i ∧ SeqB t h a its) := by
  cases t with
  | true => exact Draws.tuple hh it a ne its
  | false => exact Draws.list hh it a ne its
/-- at its end -/
theorem drawsE (t : Bool) {P : Program} {w : World} {A : Around} (hh : A.handled = none) (it a : Addr) (ne : a ≠ it) (its : Array Value) (i : Nat) (hi : its.size ≤ i) : Draws P w A it [it, a] i (fun i v => its[i]? = some v) (fun j h => j = i ∧ IterB t h it a j ∧ SeqB t h a its) := by
  have D := drawsB t (P := P) (w := w) hh it a ne its
  refine ⟨fun j h st => D.live j h st.2, fun j h h' st k => ⟨st.1, D.frame j h h' st.2 k⟩, fun j s Q E hj st hQ => absurd hj (by rw [st.1]; exact Nat.lt_irrefl _), fun s Q E st hE => ?_⟩
  cases t with
  | true => exact wpAny_nextOf_tuple_end hh st.2.1 st.2.2 (by simpa using hi) hE
  | false => exact wpAny_nextOf_list_end hh st.2.1 st.2.2 (by simpa using hi) hE
def ItzB (s t : Bool) (K : PySem.W.Frag) (a b : Addr) : It :=
  ⟨fun i H => ∃ (xs ys : List V) (x y : V), SqB s K H a xs ∧ SqB t K H b ys ∧ xs[i]? = some x ∧ ys[i]? = some y,
   fun i H v H' => ∃ T x y, v = .ref T ∧ H T = none ∧ H' = upd H T (.tup [x, y]) ∧ (∀ xs, SqB s K H a xs → xs[i]? = some x) ∧ ∀ ys, SqB t K H b ys → ys[i]? = some y,
   fun i H => ∃ xs ys : List V, SqB s K H a xs ∧ SqB t K H b ys ∧ (xs.length ≤ i ∨ ys.length ≤ i)⟩
section
variable {X : Cx} {pins : List (Addr × Obj)} {σ : L2.St} {H : Hp} {s : Shared} {a : Addr} {xs ys : List V} {t : Bool}
theorem Inv.seqB (I : Inv X pins σ H s) (h : SqB t X.K H a xs) : ∃ its : List Value, Vals xs its ∧ SeqB t s.heap a its.toArray ∧ a < s.heap.objs.size := by
  cases t with
  | true =>
    obtain ⟨its, rv, p, _⟩ := I.tuple h
    exact ⟨its, rv, p, by obtain ⟨o, e, _⟩ := id p; exact Heap.lt_size e⟩
  | false =>
    obtain ⟨its, rv, p, _⟩ := I.list h
    exact ⟨its, rv, p.isList, p.lt⟩
theorem Inv.seqB_inj (I : Inv X pins σ H s) (h : SqB t X.K H a xs) (k : SqB t X.K H a ys) : xs = ys := by
  cases t with
  | true => exact I.tuple_inj h k
  | false => exact I.list_inj h k
end
/-- the cells of a zip lie apart -/
theorem zipSepN (n : Nat) {a b : Nat} (ha : a < n) (hb : b < n) : ZipSep2 (n + 4) (n + 2) (n + 3) n (n + 1) [n, a] [n + 1, b] := by
  have ne : ∀ x y : Nat, x ≠ y → (show Addr from x) ≠ (show Addr from y) := fun _ _ h => h
  have no : ∀ x y z : Nat, x ≠ y → x ≠ z → (show Addr from x) ∉ ([y, z] : List Addr) := fun x y z h k q => by
    rcases List.mem_cons.mp q with q | q
    · exact h q
    · exact k (List.mem_singleton.mp q)
  exact ⟨ne _ _ (by omega), ne _ _ (by omega), ne _ _ (by omega), ne _ _ (by omega), List.mem_cons_self, no _ _ _ (by omega) (by omega), no _ _ _ (by omega) (by omega), ne _ _ (by omega), List.mem_cons_self, no _ _ _ (by omega) (by omega), no _ _ _ (by omega) (by omega), no _ _ _ (by omega) (by omega), no _ _ _ (by omega) (by omega)⟩
structure SepN (z TI TO i1 i2 a b : Addr) : Prop where
  sep : ZipSep2 z TI TO i1 i2 [i1, a] [i2, b]
  n1 : a ≠ i1
  n2 : b ≠ i2
  n3 : TI ≠ TO
theorem turn_zipB (u t : Bool) {P : Program} {w : World} {K : PySem.W.Frag} {elts : List Expr} {kk : Nat} {tpos : Pos} {a b z TI TO i1 i2 : Addr} (D : SepN z TI TO i1 i2 a b) :
    Turn P w K (.Tuple elts kk tpos) (ItzB u t K a b) [z, TI, TO, i1, i2] z (fun i h => IsZip h z TI TO .none ∧ IsTupOf2 h TI (.ref i1) (.ref i2) ∧ (∃ x y, IsTupOf2 h TO x y) ∧ IterB u h i1 a i ∧ IterB t h i2 b i) where
  mem := by simp
  obj := fun i h st c hc => by
    obtain ⟨hz, hTI, ⟨x, y, hTO⟩, h1, h2⟩ := st
    have e' : c = z ∨ c = TI ∨ c = TO ∨ c = i1 ∨ c = i2 := by simpa using hc
    rcases e' with q | q | q | q | q <;> subst q
    · exact ⟨_, hz, nofun⟩
    · exact ⟨_, hTI, nofun⟩
    · exact ⟨_, hTO, nofun⟩
    · exact h1.there
    · exact h2.there
  keep := fun i h h' st k => by
    obtain ⟨hz, hTI, ⟨x, y, hTO⟩, h1, h2⟩ := st
    exact ⟨k z (by simp) _ hz, k TI (by simp) _ hTI, ⟨x, y, k TO (by simp) _ hTO⟩, h1.at fun o q => k i1 (by simp) o q, h2.at fun o q => k i2 (by simp) o q⟩
  item := by
    rintro X rfl rfl rfl hc i pins s σ H E I hf ⟨hz, hTI, ⟨x0, y0, hTO⟩, h1, h2⟩ ⟨xs, ys, x, y, hqx, hqy, hx, hy⟩
    obtain ⟨its, rv, p, _⟩ := Inv.seqB I hqx
    obtain ⟨its2, rv2, p2, _⟩ := Inv.seqB I hqy
    obtain ⟨v, hv, ru⟩ := rv.get hx
    obtain ⟨v2, hv2, ru2⟩ := rv2.get hy
    have hzl : z < s.heap.objs.size := Heap.lt_size hz
    have l1 : i < its.toArray.size := by simpa using lt_of_get hv
    have l2 : i < its2.toArray.size := by simpa using lt_of_get hv2
    refine wpAny_pyNext_zipD2_item D.sep (drawsB (A := X.A.in1) u (I.ok.hd hc) i1 a D.n1 its.toArray) (drawsB (A := X.A.in1) t (I.ok.hd hc) i2 b D.n2 its2.toArray) hz hTI hTO ⟨h1, p⟩ ⟨h2, p2⟩ l1 l2 fun w1 w2 h' tk y1 y2 z' TO' s1 s2 hT hsz hk => ?_
    have y1 : its[i]? = some w1 := by simpa using y1
    have y2 : its2[i]? = some w2 := by simpa using y2
    rw [hv] at y1
    rw [hv2] at y2
    cases y1
    cases y2
    refine ⟨_, rfl, wpAny_letOwnedTupleGo_zip (s := { s with heap := h', toks := tk }) z' fun h'' z'' sb => ?_⟩
    have hT2 : h''.get? s.heap.objs.size = some { cls := .type "tuple", data := .seq #[v, v2] } := (sb.2 _ (Nat.ne_of_gt hzl)).trans hT
    have nw : ObjOk X.prog X.w (upd H s.heap.objs.size (.tup [x, y])) h'' s.heap.objs.size (.tup [x, y]) := ⟨k1000 (by show 2 ≤ 1000; omega), [v, v2], .cons ru (.cons ru2 .nil), ⟨_, hT2, rfl, _, rfl⟩⟩
    have kp : ∀ c, c ∉ [z, TI, TO, i1, i2] → ∀ o, s.heap.get? c = some o → h''.get? c = some o := fun c hb o q => (sb.2 c fun q' => hb (by simp [q'])).trans (hk c o (fun q' => hb (by simp [q'])) (fun q' => hb (by simp [q'])) (fun q' => hb (by simp [q'])) (fun q' => hb (by simp [q'])) q)
    have I1 : Inv X pins σ (upd H s.heap.objs.size (.tup [x, y])) { s with heap := h'', toks := tk } := I.turnedNew (ch := [z, TI, TO, i1, i2]) (fun c o hb q => kp c hb o q) hf (Nat.le_refl _) nw
    refine ⟨.ref s.heap.objs.size, _, I1, rfl, ⟨_, x, y, rfl, I.hok.fresh (Nat.le_refl _), rfl, fun l hl => by rw [Inv.seqB_inj I hl hqx]; exact hx, fun l hl => by rw [Inv.seqB_inj I hl hqy]; exact hy⟩, ⟨z'', ?_, ⟨v, v2, ?_⟩, ?_, ?_⟩, fun c hcm => ?_⟩
    · exact (sb.2 _ D.sep.TIz).trans (hk _ _ D.sep.TIz D.n3 D.sep.TIi1 D.sep.TIi2 hTI)
    · exact (sb.2 _ D.sep.TOz).trans TO'
    · exact s1.1.at fun o q => (sb.2 _ (Ne.symm D.sep.zi1)).trans q
    · exact s2.1.at fun o q => (sb.2 _ (Ne.symm D.sep.zi2)).trans q
    · have hlt : c < s.heap.objs.size := by
        have e' : c = z ∨ c = TI ∨ c = TO ∨ c = i1 ∨ c = i2 := by simpa using hcm
        rcases e' with q | q | q | q | q <;> subst q
        · exact hzl
        · exact Heap.lt_size hTI
        · exact Heap.lt_size hTO
        · obtain ⟨_, e1, _⟩ := h1.there; exact Heap.lt_size e1
        · obtain ⟨_, e2, _⟩ := h2.there; exact Heap.lt_size e2
      rw [upd_ne (Nat.ne_of_lt hlt)]
      exact (hf c hcm).1
  done := by
    rintro X rfl rfl rfl hc i pins s σ H E I hf ⟨hz, hTI, ⟨x0, y0, hTO⟩, h1, h2⟩ ⟨xs, ys, hqx, hqy, hend⟩
    obtain ⟨its, rv, p, _⟩ := Inv.seqB I hqx
    obtain ⟨its2, rv2, p2, _⟩ := Inv.seqB I hqy
    have e1 : its.toArray.size = xs.length := by simpa using rv.length.symm
    have e2 : its2.toArray.size = ys.length := by simpa using rv2.length.symm
    have fin : ∀ h' tk, (∀ c o, c ≠ z → c ≠ TO → c ≠ i1 → c ≠ i2 → s.heap.get? c = some o → h'.get? c = some o) → (none : Option Value) = none ∧ Inv X pins σ H { s with heap := h', toks := tk } := fun h' tk hk => ⟨rfl, I.turnedL (ch := [z, TI, TO, i1, i2]) (fun c o hb q => hk c o (fun q' => hb (by simp [q'])) (fun q' => hb (by simp [q'])) (fun q' => hb (by simp [q'])) (fun q' => hb (by simp [q'])) q) hf⟩
    by_cases c1 : xs.length ≤ i
    · by_cases c2 : ys.length ≤ i
      · exact wpAny_pyNext_zipD2_end D.sep (drawsE (A := X.A.in1) u (I.ok.hd hc) i1 a D.n1 its.toArray i (by omega)) (drawsE (A := X.A.in1) t (I.ok.hd hc) i2 b D.n2 its2.toArray i (by omega)) hz hTI hTO ⟨rfl, h1, p⟩ ⟨rfl, h2, p2⟩ (Nat.le_refl _) (Nat.le_refl _) (.inl rfl) fin
      · exact wpAny_pyNext_zipD2_end D.sep (drawsE (A := X.A.in1) u (I.ok.hd hc) i1 a D.n1 its.toArray i (by omega)) (drawsB (A := X.A.in1) t (I.ok.hd hc) i2 b D.n2 its2.toArray) hz hTI hTO ⟨rfl, h1, p⟩ ⟨h2, p2⟩ (Nat.le_refl _) (by omega) (.inl rfl) fin
    · have c2 : ys.length ≤ i := by omega
      exact wpAny_pyNext_zipD2_end D.sep (drawsB (A := X.A.in1) u (I.ok.hd hc) i1 a D.n1 its.toArray) (drawsE (A := X.A.in1) t (I.ok.hd hc) i2 b D.n2 its2.toArray i (by omega)) hz hTI hTO ⟨h1, p⟩ ⟨rfl, h2, p2⟩ (by omega) (Nat.le_refl _) (.inr rfl) fin
  self := fun A i s Q E st h => wpAny_pyIter_zip st.1 h
def iZipB (K : PySem.W.Frag) (ta : TA) : TI := fun σ H R => ta σ H fun vs H1 => ∃ a b u t xs ys, vs = [.ref a, .ref b] ∧ SqB u K H1 a xs ∧ SqB t K H1 b ys ∧ R (ItzB u t K a b) H1
theorem pi_zipB {X : Cx} {e e2 : Expr} {ta : TA} {p pos tpos : Pos} {elts : List Expr} {kk : Nat} (hg : Gl X "zip") (hm : X.mg "zip" = none) (ha : PA X [e, e2] ta)
    (hs : starEach [e, e2] X.env = (false, eval e X.env) :: starEach [e2] X.env := by rfl) (hpl : (backTo pos (starEach [e2] X.env)).any (·.1) = false := by rfl) : PI X (.Tuple elts kk tpos) (.Call (.Name "zip" p) [e, e2] [] pos) (iZipB X.K ta) := by
  refine ⟨fun pins s σ H R I h => Call_ (ld_blt I hg hm PyProof.Rows.boot_zip (PyProof.Rows.callWith_type1 (thn (ha.run pos pins s σ H _ I h) fun us s1 ⟨vs, H1, I1, r1, q1⟩ => ?_) hs hpl))⟩
  obtain ⟨a, b, u, t, xs, ys, rfl, hqx, hqy, q⟩ := q1
  cases r1 with
  | cons r rr =>
    cases rr with
    | cons r' rr =>
      cases rr
      cases r
      cases r'
      obtain ⟨its, rv, p1, la⟩ := Inv.seqB I1 hqx
      obtain ⟨its2, rv2, p2, lb⟩ := Inv.seqB I1 hqy
      refine zip_begins2 (beginsB u a its.toArray) (beginsB t b its2.toArray) p1 p2 fun h' hz hTI hTO h1 h2 hsz hk => wpAny_pyIter_zip hz ?_
      have I2 : Inv X pins σ H1 { s1 with heap := h' } := I1.kept (t' := s1.toks) hk
      have S : SepN (s1.heap.objs.size + 4) (s1.heap.objs.size + 2) (s1.heap.objs.size + 3) s1.heap.objs.size (s1.heap.objs.size + 1) a b := ⟨zipSepN _ la lb, Nat.ne_of_lt la, Nat.ne_of_lt (Nat.lt_succ_of_lt lb), Nat.ne_of_lt (Nat.lt_succ_self _)⟩
      have itb : ∀ (v : Bool) (it c : Addr), h'.get? it = some (itO v c) → IterB v h' it c 0 := fun v it c e => by
        cases v with
        | true => exact ⟨_, e, rfl, rfl⟩
        | false => exact ⟨_, e, rfl, rfl⟩
      refine ⟨s1.heap.objs.size + 4, [s1.heap.objs.size + 4, s1.heap.objs.size + 2, s1.heap.objs.size + 3, s1.heap.objs.size, s1.heap.objs.size + 1], _, _, H1, rfl, I2, turn_zipB u t S, ⟨hz, hTI, ⟨_, _, hTO⟩, itb u _ _ h1, itb t _ _ h2⟩, fun c hcm => ?_, q⟩
      have hle : s1.heap.objs.size ≤ c := by
        have e' : c = s1.heap.objs.size + 4 ∨ c = s1.heap.objs.size + 2 ∨ c = s1.heap.objs.size + 3 ∨ c = s1.heap.objs.size ∨ c = s1.heap.objs.size + 1 := by simpa using hcm
        rcases e' with q | q | q | q | q <;> subst q
        · exact Nat.le_add_right _ _
        · exact Nat.le_add_right _ _
        · exact Nat.le_add_right _ _
        · exact Nat.le_refl _
        · exact Nat.le_add_right _ _
      exact I1.fpOk hle (I1.hok.fresh hle)
/-! ## the rows as data -/
def rowB : D → Option (Bool × List D)
  | .lst xs => some (false, xs)
  | .tup xs => some (true, xs)
  | .tpl ns => some (true, ns.map D.int)
  | .ktp xs => some (true, xs)
  | _ => none
def zipRB (a b : D) : Rs (List D) := match rowB a, rowB b with
  | some x, some y => .ok (zipD x.2 y.2)
  | _, _ => .stuck
def jZpB (f g : DE) : DI := fun r T => (dt (f r T)).bind fun p => (dt (g r p.2)).bind fun q => (zipRB p.1 q.1).bind fun ds => .ok (ds, q.2)
section
variable {K : PySem.W.Frag} {mg : PySem.Str → Option Value}
theorem Top.rowB {S : Addr → Prop} {H : Hp} {v : V} {d : D} {t : Bool} {as : List D} (h : Top K mg S H v d) (e : Pu.rowB d = some (t, as)) : ∃ a vs, v = .ref a ∧ SqB t K H a vs ∧ vs.length ≤ sizeLine ∧ Reps K mg S H vs as := by
  cases d with
  | lst xs =>
    cases e
    obtain ⟨a, vs, rfl, h1, z, q⟩ := h.sqL
    exact ⟨a, vs, rfl, .inl (.of h1), z, q⟩
  | tup xs =>
    cases e
    obtain ⟨a, vs, rfl, h1, z, q⟩ := h.sqT
    exact ⟨a, vs, rfl, h1, z, q⟩
  | ktp xs =>
    cases e
    obtain ⟨a, vs, rfl, h1, z, q⟩ := h.ktpT
    exact ⟨a, vs, rfl, h1, z, q⟩
  | tpl ns =>
    cases e
    obtain ⟨a, rfl, h1, z⟩ := h.tplT
    exact ⟨a, _, rfl, h1, by rw [List.length_map]; exact z, Reps.ints ns⟩
  | _ => cases e
theorem pin_zipB {a b : Addr} {u t : Bool} {da db : D} {as bs : List D} (ea : Pu.rowB da = some (u, as)) (eb : Pu.rowB db = some (t, bs)) (hz : as.length ≤ sizeLine) : PinOk K mg (ItzB u t K a b) (zipD as bs) [(.ref a, da), (.ref b, db)] := ⟨by rw [zipD_len]; omega, fun S H t h i => by
  obtain ⟨x, vs, e, h1, z, q⟩ := (h _ List.mem_cons_self).rowB ea
  obtain ⟨y, ws, e', h2, z2, q2⟩ := (h _ (List.mem_cons_of_mem _ List.mem_cons_self)).rowB eb
  cases e
  cases e'
  refine ⟨fun d e => ?_, fun hi => ⟨vs, ws, h1, h2, ?_⟩⟩
  · obtain ⟨dx, dy, ex, ey, rfl⟩ := zipD_ex e
    obtain ⟨v, ev, pv⟩ := q.getD ex
    obtain ⟨w, ew, pw⟩ := q2.getD ey
    refine ⟨⟨vs, ws, v, w, h1, h2, ev, ew⟩, fun x H3 ⟨T, y1, y2, e1, e2, e3, f1, f2⟩ => ?_⟩
    subst e1 e3
    have g1 := f1 vs h1
    have g2 := f2 ws h2
    rw [ev] at g1
    rw [ew] at g2
    cases g1
    cases g2
    exact ⟨same_new e2, rep_pair t e2 pv pw⟩
  · rw [zipD_len] at hi
    rw [q.len, q2.len]
    omega⟩
theorem zipRB_ex {C : FC} {σ : L2.St} {B : Type} {G : B → Prop} {d e : D} {h : List D → Rs B} (P : PostG K mg C σ G ((zipRB d e).bind h)) : ∃ u as t bs, rowB d = some (u, as) ∧ rowB e = some (t, bs) ∧ PostG K mg C σ G (h (zipD as bs)) := by
  unfold zipRB at P
  split at P
  · rename_i x y e1 e2
    exact ⟨x.1, x.2, y.1, y.2, e1, e2, P⟩
  · exact (show False from P).elim
end
section
variable {X : Cx} {C : FC} {a b : Expr} {elts : List Expr} {kk : Nat} {f g : DE} {p pos tpos : Pos}
theorem sj_zipB (hm : X.mg "zip" = none) (ha : SE X C a f) (hb : SE X C b g) (hg : Gl X "zip" := by rfl) (hs : starEach [a, b] X.env = (false, eval a X.env) :: starEach [b] X.env := by rfl) (hs2 : starEach [b] X.env = (false, eval b X.env) :: starEach [] X.env := by rfl) (hpl : (backTo pos (starEach [b] X.env)).any (·.1) = false := by rfl) :
    SJ X C (.Tuple elts kk tpos) (.Call (.Name "zip" p) [a, b] [] pos) (jZpB f g) := by
  refine pi_imp (pi_zipB hg hm (pa_cons ha (pa_cons hb pa_nil hs2) hs) hs hpl) ?_
  rintro σ H R ⟨ρ, T, h, P⟩
  refine ⟨ρ, T, h, gv_dt h P fun d T1 v H1 h1 e1 p1 P1 => ⟨ρ, T1, h1, gv_dt h1 P1 fun e T2 w H2 h2 e2 p2 P2 => ?_⟩⟩
  have q1 := p1.ext e2
  obtain ⟨u, as, t, bs, ea, eb, P3⟩ := zipRB_ex P2
  obtain ⟨x, vs, rfl, g1, z1, r1⟩ := q1.top.rowB ea
  obtain ⟨y, ws, rfl, g2, z2, r2⟩ := p2.top.rowB eb
  exact ⟨x, y, u, t, vs, ws, rfl, g1, g2, P3 (ItzB u t X.K x y) [(.ref x, d), (.ref y, e)] H2 h2 (e1.trans e2) (fun q hq => by
    rcases List.mem_cons.mp hq with rfl | hq
    · exact q1
    · rw [List.mem_singleton.mp hq]; exact p2) (pin_zipB ea eb (by rw [← r1.len]; exact z1))⟩
end
/-! # for over what is a dict or a row -/
end Pu
namespace Pu
open PySem L2 PySem.Spec PyProof.Rows PySem.W
/-! # == of two dicts whose keys are tuples -/
end Pu
namespace Pu
open PySem L2 PySem.Spec PyProof.Rows PySem.W
/-! # dicts whose keys are tuples of tuples of whole numbers -/
theorem dp_row : ∀ r : List Int, NestedKey.depthAll (r.map .num) = 0
  | [] => rfl
  | a :: r => by rw [List.map_cons, NestedKey.depthAll, dp_row r, NestedKey.depth]; rfl
theorem dp_all : ∀ k : N2, NestedKey.depthAll (k.map fun r => .tup (r.map .num)) ≤ 1
  | [] => Nat.zero_le _
  | r :: k => by
    have := dp_all k
    rw [List.map_cons, NestedKey.depthAll, NestedKey.depth, dp_row r]
    omega
theorem nk_depth (k : N2) : (nk k).depth ≤ 8 := by
  have := dp_all k
  unfold nk
  rw [NestedKey.depth]
  omega
/-- the key k stands at b -/
def KeyAt (H : Hp) (k : N2) (b : Addr) : Prop := ∃ vs, H b = some (.tup vs) ∧ Paired (fun (r : List Int) (v : V) => ∃ c, v = V.ref c ∧ H c = some (.tup (r.map V.int))) k vs
section
variable {P : Program} {w : World} {H : Hp} {h : Heap}
theorem na_row : ∀ {r : List Int} {us : List Value}, Vals (r.map V.int) us → NestedAll h (r.map .num) us
  | [], _, x => by cases x; exact .nil
  | a :: r, _, x => by
    cases x with
    | cons x1 x2 =>
      obtain ⟨t, rfl⟩ := x1
      exact .cons (.int a t) (na_row x2)
theorem na_all (ok : HOk P w H h) : ∀ {k : N2} {vs : List V} {us : List Value}, Paired (fun (r : List Int) (v : V) => ∃ c, v = V.ref c ∧ H c = some (.tup (r.map V.int))) k vs → Vals vs us → NestedAll h (k.map fun r => .tup (r.map .num)) us
  | _, _, _, .nil, x => by cases x; exact .nil
  | _, _, _, .cons p t, x => by
    cases x with
    | cons x1 x2 =>
      obtain ⟨c, rfl, hc⟩ := p
      cases x1
      obtain ⟨_, its, r, o, h1, h2, n, h3⟩ := (show ObjOk P w H h c (.tup _) from ok c _ hc)
      exact .cons (.tup h1 h2 h3 (na_row r)) (na_all ok t x2)
theorem KeyAt.is {k : N2} {b : Addr} (x : KeyAt H k b) (ok : HOk P w H h) : (nestedKind P w).is h (nk k) b := by
  obtain ⟨vs, hb, p⟩ := x
  obtain ⟨_, its, r, o, h1, h2, n, h3⟩ := (show ObjOk P w H h b (.tup vs) from ok b _ hb)
  exact ⟨.tup h1 h2 h3 (na_all ok p r), nk_depth k⟩
end
/-! ## as expressions and statements -/
end Pu
namespace Pu
open PySem L2 PySem.Spec PyProof.Rows PySem.W
open Classical
/-! # a thing that is lent: looked into, changed -/
/-- where it stands -/
def lrfA : D → Rs Addr
  | .lrf q => .ok q
  | _ => .stuck
@[simp] theorem lrfA_lrf (q : Addr) : lrfA (.lrf q) = .ok q := rfl
end Pu
namespace Pu
open PySem L2 PySem.Spec PyProof.Rows PySem.W
/-! # calls that are lent what the caller was lent -/
/-! ## a dict of one's own that will be lent: from here on it is told apart -/
end Pu
namespace Pu
open PySem L2 PySem.Spec PyProof.Rows PySem.W
/-! ## what is apart may have changed -/
/-! ## o.m(..), o a thing that was just made, with one part of its own behind -/
end Pu
namespace Pu
open PySem L2 PySem.Spec PyProof.Rows PySem.W
/-! # C(..) whose __init__ ends with self.f = {} -/
/-! the thing that is made: its own dict is a part of it -/
end Pu
namespace Pu
open PySem L2 PySem.Spec PyProof.Rows
/-! # {k: v for x in d} -/
/-! # for x in o.f, o.f a dict -/
end Pu
namespace PySem.W
open PySem PySem.Calls PyProof.Rows
end PySem.W
namespace Pu
open PySem L2 PySem.Spec PyProof.Rows
open Classical
/-! # sorted(d), dict(d) -/
/-! a method that calls itself: so deep -/
end Pu
namespace Pu
open PySem L2 PySem.Spec PyProof.Rows PySem.W
/-! # f(.., thing just made, ..): the thing's dict is lent -/
section
variable {K : PySem.W.Frag} {mg : PySem.Str → Option Value} {C : FC} {r : Env} {σ : L2.St} {H H1 H2 : Hp}
/-- a thing made at F, with the lent dict q in it -/
structure LntAt (K : PySem.W.Frag) (mg : PySem.Str → Option Value) (C : FC) (r : Env) (σ : L2.St) (H : Hp) (F : List Addr) (q : Addr) (d : D) (v : V) (mk : D) : Prop where
  mem : q ∈ F
  own : OwnAt K mg (SS C (fun a => a ∈ F) r σ) H q d
  rep : Rep K mg (fun a => SS C Z0 r σ a ∨ a = q) H v mk
theorem LntAt.ext {F : List Addr} {q : Addr} {d mk : D} {v : V} (l : LntAt K mg C r σ H1 F q d v mk) (e : Ext C H1 H2) (hq : C.tp ≠ some q) : LntAt K mg C r σ H2 F q d v mk :=
  ⟨l.mem, l.own.go (fun o z => e q o z hq) (fun a o z s => e a o z fun w => s (.inr (.inl w))) (fun _ _ _ s => s), l.rep.go (fun a o z s => e a o z fun w => s (.inl (.inr (.inl w)))) (fun _ _ _ s => s)⟩
end
end Pu
namespace Pu
open PySem L2 PySem.Spec PyProof.Rows PySem.W
/-! # == and != of two dicts that are alike -/
open Classical
/-! # d.clear(), d.pop(k, x) -/
end Pu
namespace Pu
open PySem L2
/-! # return (None, x), return (x, None) of a thing of one's own -/
/-! # what is one's own, handed on as a value -/
/-! # list(range(a, b)), tuple(range(..)) -/
/-! # {k: v, ..} with keys that are constants -/
end Pu
namespace Pu
open PySem L2 PySem.Spec PyProof.Rows
open Classical
/-! # sorted of a known tuple, too -/
end Pu
namespace Pu
open PySem L2 PySem.Spec PyProof.Rows
/-! # a known tuple and some more, perhaps none: known again -/
/-! # max(xs, default = 0) -/
end Pu
namespace PySem
end PySem
namespace Pu
open PySem L2 PySem.Spec PyProof.Rows
open Classical
end Pu
namespace Pu
open PySem L2 PySem.Spec PyProof.Rows
/-! # a part of a known tuple, known again -/
end Pu
namespace Pu
open PySem L2 PySem.Spec PyProof.Rows
/-! # known tuples of anything: written, joined, made into dicts -/
def eKtp (g : DA) : DE := fun r T => (g r T).bind fun p => if p.1.length ≤ 1000 then .ok (.val (.ktp p.1), p.2) else .stuck
theorem se_ktp {X : Cx} {C : FC} {es : List Expr} {g : DA} {pos : Pos} {x1 : Nat} (h : SA X C es g) : SE X C (.Tuple es x1 pos) (eKtp g) := by
  refine pe_imp (pe_tupF h) ?_
  rintro σ H Q ⟨ρ, T, h, P⟩
  refine ⟨ρ, T, h, ga_bind P fun ds T' vs H1 h1 e1 p P1 => ?_⟩
  obtain ⟨z, P2⟩ := postG_if (x := Rs.ok (VD.val (.ktp ds), T')) P1
  have z2 : vs.length ≤ sizeLine := by rw [p.len]; exact k1000 z
  exact ⟨z2, fun l o hl c1 c2 => (gv_res h1 (gv_from h1 e1 (show GV X.K X.mg C ρ σ H Q (.val (.ktp ds), T') from P2)) fun _ => ⟨nofun, nofun, nofun⟩) _ _ (same_new hl) (.ktp (h1.trk.fresh hl) upd_same c1 c2 z2 (p.go (fun a u e _ => same_new hl a u e) fun _ _ _ s => s))⟩
/-- a known tuple, perhaps empty, and some more -/
def rCatK (K : PySem.W.Frag) : R2 := fun x y H Q => ∃ (a b : Addr) (xs ys : List V), x = .ref a ∧ y = .ref b ∧ SqT K H a xs ∧ SqT K H b ys ∧ ys ≠ [] ∧ xs.length + ys.length ≤ sizeLine ∧ (xs = [] → Q (.ref b) H) ∧ ∀ p o, H p = none → o.cls = .type "tuple" → o.dict = none → Q (.ref p) (L2.upd H p (.frz o (.tup (xs ++ ys))))
theorem op_catK {X : Cx} : OpR X (binaryOp .Add) (rCatK X.K) := by
  intro pins s σ H x y v u Q I rx ry h
  obtain ⟨a, b, xs, ys, rfl, rfl, ha, hb, hy, hz, q0, q⟩ := h
  by_cases hx : xs = []
  · cases rx
    cases ry
    subst hx
    obtain ⟨its, r1, p1, _⟩ := I.tuple ha
    obtain ⟨its2, r2, p2, _⟩ := I.tuple hb
    have e : its = [] := r1.nil_iff.mpr rfl
    subst e
    exact L2.cat_tup0 p1 p2 ⟨.ref b, H, I, rfl, q0 rfl⟩
  · exact op_catP pins s σ H _ _ v u Q I rx ry ⟨a, b, xs, ys, rfl, rfl, ha, hb, hx, hy, hz, q⟩
def dAddK : D → D → Rs VD
  | .ktp a, .ktp b => if b ≠ [] ∧ a.length + b.length ≤ 16000000 then .ok (.val (.ktp (a ++ b))) else .stuck
  | _, _ => .stuck
theorem q_addk : Quiet2 dAddK := fun d e => by
  unfold dAddK
  split <;> first | exact quiet_if quiet_v quiet_s | exact quiet_s
theorem d_addk {K : PySem.W.Frag} {mg : PySem.Str → Option Value} : R2D K mg (rCatK K) dAddK := fun S H x y dx dy Q z t p q e k => by
  unfold dAddK at e
  split at e
  · rename_i as bs
    obtain ⟨⟨c1, c3⟩, rfl⟩ := if_ok e
    obtain ⟨a1, us, rfl, h1, z1, r1⟩ := p.ktpT
    obtain ⟨b1, ws, rfl, h2, z2, r2⟩ := q.ktpT
    have hz : us.length + ws.length ≤ sizeLine := by rw [r1.len, r2.len, sizeLine_eq]; omega
    refine ⟨a1, b1, us, ws, rfl, rfl, h1, h2, fun w => c1 (List.length_eq_zero_iff.mp (by rw [← r2.len, w]; rfl)), hz, fun w => ?_, fun p o hl o1 o2 => ?_⟩
    · have e1 : as = [] := List.length_eq_zero_iff.mp (by rw [← r1.len, w]; rfl)
      rw [e1, List.nil_append] at k
      rcases q with q | ⟨_, _, q⟩
      · exact k.pure q
      · cases q
    · exact k _ _ (same_new hl) (.ktp (t.fresh hl) upd_same o1 o2 (by rw [List.length_append]; exact hz) ((r1.app r2).go (fun a u e _ => same_new hl a u e) fun _ _ _ s => s))
  · cases e
/-! ## dict(x), x a known tuple of pairs with unlike numbers ahead -/
inductive PrV (K : PySem.W.Frag) (H : Hp) : List V → List (Key × V) → Prop where
  | nil : PrV K H [] []
  | cons {b : Addr} {k : Key} {w : V} {vs : List V} {kvs : List (Key × V)} : SqT K H b [kV k, w] → PrV K H vs kvs → PrV K H (.ref b :: vs) ((k, w) :: kvs)
theorem PrV.len {K : PySem.W.Frag} {H : Hp} : ∀ {vs : List V} {kvs : List (Key × V)}, PrV K H vs kvs → vs.length = kvs.length
  | _, _, .nil => rfl
  | _, _, .cons _ t => by rw [List.length_cons, List.length_cons, t.len]
theorem pairs_val {X : Cx} {pins : List (Addr × Obj)} {σ : L2.St} {H : Hp} {s : Shared} (I : Inv X pins σ H s) : ∀ {vs : List V} {kvs : List (Key × V)} {its : List Value}, PrV X.K H vs kvs → Vals vs its →
    ∃ (bs : List Addr) (prs : List (Value × Value)) (vals : List (Key × Value)), its = bs.map Value.ref ∧ bs.length = prs.length ∧ (∀ (j : Nat) (k v : Value), prs[j]? = some (k, v) → PairAt s.heap (bs.getD j 0) k v) ∧ KV kvs vals ∧ vals.length = prs.length ∧
      ∀ (j : Nat) (key v : Value), prs[j]? = some (key, v) → ∃ k, vals[j]? = some (k, v) ∧ (mixKind X.prog X.w).is k key = true
  | _, _, _, .nil, .nil => ⟨[], [], [], rfl, rfl, fun j k v h => by simp at h, .nil, rfl, fun j k v h => by simp at h⟩
  | _, _, _, .cons (b := b) (k := k) (w := w) q t, .cons r rs => by
    obtain ⟨bs, prs, vals, e1, e2, e3, e4, e5, e6⟩ := pairs_val I t rs
    cases r
    obtain ⟨ys, rv, ht, hlen0⟩ := I.tuple q
    clear hlen0
    cases rv with
    | cons r1 r2 =>
      cases r2 with
      | cons r2 r3 =>
        cases r3
        rename_i key w'
        refine ⟨b :: bs, (key, w') :: prs, (k, w') :: vals, by rw [e1]; rfl, by rw [List.length_cons, List.length_cons, e2], fun j k v h => ?_, .cons ⟨rfl, r2⟩ e4, by rw [List.length_cons, List.length_cons, e5], fun j key v h => ?_⟩
        · cases j with
          | zero =>
            cases h
            exact .inl ht
          | succ j => exact e3 j k v h
        · cases j with
          | zero =>
            cases h
            exact ⟨k, rfl, kV_is r1⟩
          | succ j => exact e6 j key v h
def rDictP (K : PySem.W.Frag) : List V → Hp → VK → Prop := fun xs H Q => ∃ (a : Addr) (o : Obj) (vs : List V) (kvs : List (Key × V)), xs = [.ref a] ∧ H a = some (.frz o (.tup vs)) ∧ o.cls = .type "tuple" ∧ o.dict = none ∧ vs.length ≤ sizeLine ∧ PrV K H vs kvs ∧ (kvs.map (·.1)).Nodup ∧ ∀ p, H p = none → Q (.ref p) (L2.upd H p (.dK kvs))
theorem call_dictP {X : Cx} (hc : X.calm = true) : CallR X (.type "dict") (rDictP X.K) := by
  intro pins s σ H xs us Q I r h
  obtain ⟨a, o, vs, kvs, rfl, ha, c1, c2, hz, hp, hn, q⟩ := h
  obtain ⟨u, rfl, rx⟩ := vals1 r
  cases rx
  obtain ⟨ho, _, its, rv, o', ho', hc', n, hd'⟩ := I.hok _ _ ha
  have eo : o' = o := by
    rw [ho] at ho'
    injection ho' with z
    exact z.symm
  subst eo
  obtain ⟨bs, prs, vals, e1, e2, e3, e4, e5, e6⟩ := pairs_val I hp rv
  have hsz : prs.length ≤ sizeLine := by rw [← e5, ← e4.length, ← hp.len]; exact hz
  have hlen : its.length = prs.length := by rw [e1, List.length_map, e2]
  refine PySem.call_dict_pairs (knd := mixKind X.prog X.w) (kvs := vals) (PairArg.tuple a its.toArray (fun j => bs.getD j 0) prs) (I.ok.hd hc) ⟨⟨o', n, ho, c1, c2, hd'⟩, by rw [List.size_toArray]; exact hlen, fun j k v hj => ⟨?_, e3 j k v hj⟩⟩ ⟨e5, e6⟩ hsz fun h' tk hd hk => ?_
  · have hjl : j < bs.length := by rw [e2]; exact (List.getElem?_eq_some_iff.mp hj).1
    rw [e1]
    simp [hjl]
  · have hm : (s.heap.objs.size == sysModules) = false := beq_eq_false_iff_ne.mpr (Nat.ne_of_gt I.big)
    have hf := I.hok.fresh (Nat.le_refl _)
    rw [merged_nil_of_nodup _ (by rw [← e4.keys]; exact hn)] at hd
    exact ⟨.ref s.heap.objs.size, L2.upd H s.heap.objs.size (.dK kvs), I.laid (t' := tk) (fun b u e => hk b u (fun w => nomatch w) e) (Nat.le_refl _)
      (show ObjOk X.prog X.w _ _ _ (.dK kvs) from ⟨by rw [← hp.len]; exact hz, hm, vals, e4, hd⟩), rfl, q _ hf⟩
def prK : D → Option (Int × D)
  | .tup [.int k, v] => some (k, v)
  | _ => none
def prsK : List D → Option (List (Int × D))
  | [] => some []
  | d :: ds => (prK d).bind fun p => (prsK ds).map fun ps => p :: ps
def bDictP : List D → Rs VD
  | [.ktp ds] => (rO (prsK ds)).bind fun ps => if (ps.map (·.1)).Nodup ∧ ps.length ≤ 1000 then .ok (.own (.dct false (ps.map fun p => (.int p.1, p.2)))) else .stuck
  | _ => .stuck
theorem q_dictP : QuietN bDictP := fun ds => by
  unfold bDictP
  split <;> first | exact quiet_r fun _ => quiet_if quiet_o quiet_s | exact quiet_s
theorem prsK_rep {K : PySem.W.Frag} {mg : PySem.Str → Option Value} {S : Addr → Prop} {H : Hp} : ∀ {vs : List V} {ds : List D} {ps : List (Int × D)}, Reps K mg S H vs ds → prsK ds = some ps → ∃ kvs : List (Key × V), PrV K H vs kvs ∧ kvs.map (·.1) = ps.map (fun p => Sum.inl p.1) ∧ Reps K mg S H (kvs.map (·.2)) (ps.map (·.2))
  | _, _, _, .nil, e => by cases e; exact ⟨[], .nil, rfl, .nil⟩
  | _, _, _, .cons p t, e => by
    rename_i v vs d ds ps
    unfold prsK at e
    obtain ⟨q, eq, e⟩ := Option.bind_eq_some_iff.mp e
    obtain ⟨qs, eqs, e⟩ := Option.map_eq_some_iff.mp e
    subst e
    obtain ⟨kvs, h1, h2, h3⟩ := prsK_rep t eqs
    unfold prK at eq
    split at eq
    · cases eq
      obtain ⟨b, ws, rfl, g1, _, r⟩ := (show Top K mg S H _ _ from .inl p).sqT
      cases r with
      | cons r1 r2 =>
        cases r2 with
        | cons r2 r3 =>
          cases r3
          cases r1
          exact ⟨_, .cons (k := .inl _) g1 h1, by rw [List.map_cons, List.map_cons, h2], .cons r2 h3⟩
    · cases eq
theorem d_dictP {K : PySem.W.Frag} {mg : PySem.Str → Option Value} : RnD K mg (rDictP K) bDictP := fun S H xs ds Q z t hp e k => by
  unfold bDictP at e
  split at e
  · obtain ⟨ps, ep, e⟩ := o_ok e
    obtain ⟨⟨c1, c2⟩, rfl⟩ := if_ok e
    obtain ⟨x, rfl, p⟩ := topv1 hp
    obtain ⟨a, o, vs, rfl, h1, o1, o2, z1, r⟩ := p.ktp
    obtain ⟨kvs, g1, g2, g3⟩ := prsK_rep r ep
    refine ⟨a, o, vs, kvs, rfl, h1, o1, o2, z1, g1, ?_, fun l hl => k l _ hl (same_new hl) (.dK upd_same (by rw [← g1.len]; exact z1) ?_ ?_)⟩
    · rw [g2, show (ps.map fun p => (Sum.inl p.1 : Key)) = (ps.map (·.1)).map Sum.inl from by rw [List.map_map]; rfl]
      exact c1.map _ fun x y h z => h (Sum.inl.inj z)
    · rw [List.map_map]
      have := congrArg (List.map kD) g2
      rw [List.map_map, List.map_map] at this
      exact this.symm
    · rw [List.map_map]
      exact g3.new hl
  · cases e
end Pu
namespace Pu
open PySem L2 PySem.Spec PyProof.Rows
/-! # d.setdefault(k, x), the keys of d are tuples -/
/-! # list(d.items()), d of one's own -/
/-! # if x.m(..) == y: where x changes -/
end Pu
namespace Pu
open PySem L2
/-! # typed runs -/
inductive Rt (A : Type) where
  | ok (a : A) | exc (c : PySem.Str) (fs : List (PySem.Str × D)) | stuck
namespace Rt
variable {A B : Type}
def bind (x : Rt A) (f : A → Rt B) : Rt B := match x with
  | .ok a => f a
  | .exc c fs => .exc c fs
  | .stuck => .stuck
@[simp] theorem bind_ok (a : A) (f : A → Rt B) : (Rt.ok a).bind f = f a := rfl
@[simp] theorem bind_exc (c : PySem.Str) (fs : List (PySem.Str × D)) (f : A → Rt B) : (Rt.exc c fs).bind f = .exc c fs := rfl
@[simp] theorem bind_stuck (f : A → Rt B) : (Rt.stuck : Rt A).bind f = .stuck := rfl
end Rt
/-- what a typed run gives -/
def wr {A : Type} (x : Rt A) (Q : A → Prop) : Prop := ∃ a, x = .ok a ∧ Q a
section
variable {A B : Type} {Q R : A → Prop}
@[simp] theorem wr_ok (a : A) : wr (.ok a) Q ↔ Q a := ⟨fun ⟨b, e, q⟩ => by cases e; exact q, fun q => ⟨a, rfl, q⟩⟩
@[simp] theorem wr_stuck : wr (.stuck : Rt A) Q ↔ False := ⟨fun ⟨b, e, q⟩ => (nomatch e), fun q => q.elim⟩
@[simp] theorem wr_exc (c : PySem.Str) (fs : List (PySem.Str × D)) : wr (.exc c fs : Rt A) Q ↔ False := ⟨fun ⟨b, e, q⟩ => (nomatch e), fun q => q.elim⟩
@[simp] theorem wr_bind (x : Rt B) (f : B → Rt A) : wr (x.bind f) Q ↔ wr x fun b => wr (f b) Q := by
  cases x with
  | ok b => simp
  | exc c fs => simp
  | stuck => simp
theorem wr_imp {x : Rt A} (h : wr x Q) (i : ∀ a, Q a → R a) : wr x R := by
  obtain ⟨a, e, q⟩ := h
  exact ⟨a, e, i a q⟩
@[simp] theorem wr_ite {p : Prop} [Decidable p] (x y : Rt A) : wr (if p then x else y) Q ↔ (p → wr x Q) ∧ (¬ p → wr y Q) := by
  by_cases c : p <;> simp [c]
end
/-- the run x does what the typed run y tells -/
abbrev EX := Tp → Env → Prop
def Sim {A B : Type} (E : EX) (x : Rs A) (y : Rt B) (R : A → B → Prop) : Prop := match y with
  | .ok b => ∃ a, x = .ok a ∧ R a b
  | .exc c fs => ∃ t r, x = .exc c fs t r ∧ E t r
  | .stuck => True
abbrev ET : EX := fun _ _ => True
section
variable {A A' B B' : Type} {E E' : EX} {x : Rs A'} {y : Rt B'} {K : A' → Rs A} {z : B' → Rt B} {R : A → B → Prop} {R1 : A' → B' → Prop}
theorem Sim.bind (h : Sim E' x y R1) (he : ∀ t r, E' t r → E t r) (k : ∀ p b, R1 p b → Sim E (K p) (z b) R) : Sim E (x.bind K) (y.bind z) R := by
  cases y with
  | ok b =>
    obtain ⟨a, e, q⟩ := h
    rw [e]
    exact k a b q
  | exc c fs =>
    obtain ⟨t, r, e, q⟩ := h
    rw [e]
    exact ⟨t, r, rfl, he t r q⟩
  | stuck => trivial
theorem bind_id {A : Type} (x : Rs A) : x.bind Rs.ok = x := by cases x <;> rfl
theorem s_fin {a : A} {b : B} (h : R a b) : Sim E (.ok a) (.ok b) R := ⟨a, rfl, h⟩
end
/-! ## slots -/
inductive PE where
  | any | free | is (v : VD)
abbrev Pat := List PE
abbrev iv (d : D) : PE := .is (.val d)
abbrev io (d : D) : PE := .is (.own d)
def PE.at : PE → Option VD → Prop
  | .any, _ => True
  | .free, x => (∀ d, x ≠ some (.own d)) ∧ x ≠ some .tape ∧ ∀ s d, x ≠ some (.tree s d)
  | .is v, x => x = some v
def Mat : Pat → Env → Prop
  | [], [] => True
  | p :: ps, x :: xs => p.at x ∧ Mat ps xs
  | _, _ => False
def patOf (r : Env) : Pat := r.map fun x => match x with
  | some v => .is v
  | none => .free
theorem mat_of : ∀ r : Env, Mat (patOf r) r
  | [] => trivial
  | none :: r => ⟨⟨nofun, nofun, nofun⟩, mat_of r⟩
  | some v :: r => ⟨rfl, mat_of r⟩
section
variable {p q : Pat} {r : Env} {v : VD} {d : D} {i : Nat}
theorem Mat.at' : ∀ {p : Pat} {r : Env} {i : Nat} {x : PE}, Mat p r → p[i]? = some x → ∃ y, r[i]? = some y ∧ x.at y
  | [], _, _, _, _, h => nomatch h
  | _ :: _, [], _, _, m, _ => m.elim
  | a :: p, b :: r, 0, x, m, h => by
    cases h
    exact ⟨b, rfl, m.1⟩
  | a :: p, b :: r, i + 1, x, m, h => by
    have := Mat.at' (i := i) m.2 (by simpa using h)
    simpa using this
theorem Mat.get (m : Mat p r) (h : p[i]? = some (.is v)) : r[i]? = some (some v) := by
  obtain ⟨y, e, q⟩ := m.at' h
  rw [e]
  exact congrArg some q
theorem Mat.setA : ∀ {p : Pat} {r : Env} (i : Nat) {x : PE} {y : Option VD}, Mat p r → x.at y → Mat (p.set i x) (r.set i y)
  | [], [], _, _, _, _, _ => trivial
  | [], _ :: _, _, _, _, m, _ => m.elim
  | _ :: _, [], _, _, _, m, _ => m.elim
  | a :: p, b :: r, 0, x, y, m, h => ⟨h, m.2⟩
  | a :: p, b :: r, i + 1, x, y, m, h => ⟨m.1, Mat.setA i m.2 h⟩
theorem Mat.set (m : Mat p r) (i : Nat) (v : VD) : Mat (p.set i (.is v)) (r.set i (some v)) := m.setA i rfl
inductive Wk : Pat → Pat → Prop
  | nil : Wk [] []
  | any {x : PE} {p q : Pat} : Wk p q → Wk (.any :: p) (x :: q)
  | keep {x : PE} {p q : Pat} : Wk p q → Wk (x :: p) (x :: q)
  | fv {d : D} {p q : Pat} : Wk p q → Wk (.free :: p) (.is (.val d) :: q)
  | eq {x y : PE} {p q : Pat} : x = y → Wk p q → Wk (x :: p) (y :: q)
theorem Mat.weak : ∀ {p q : Pat} {r : Env}, Wk p q → Mat q r → Mat p r
  | _, _, [], .nil, _ => trivial
  | _, _, _ :: _, .nil, m => m.elim
  | _, _, [], .any w, m => m.elim
  | _, _, [], .keep w, m => m.elim
  | _, _, [], .fv w, m => m.elim
  | _, _, [], .eq _ w, m => m.elim
  | _, _, _ :: _, .any w, m => ⟨trivial, Mat.weak w m.2⟩
  | _, _, _ :: _, .keep w, m => ⟨m.1, Mat.weak w m.2⟩
  | _, _, _ :: _, .eq e w, m => ⟨e ▸ m.1, Mat.weak w m.2⟩
  | _, _, _ :: _, .fv w, m => ⟨by
      have h := m.1
      unfold PE.at at h ⊢
      rw [h]
      exact ⟨nofun, nofun, nofun⟩, Mat.weak w m.2⟩
def setP (p : Pat) : List (Nat × D) → Pat
  | [] => p
  | (i, d) :: l => setP (p.set i (.is (.val d))) l
theorem Mat.setP : ∀ {l : List (Nat × D)} {p : Pat} {r : Env}, Mat p r → Mat (Pu.setP p l) (setE r l)
  | [], _, _, m => m
  | (i, d) :: l, _, _, m => Mat.setP (l := l) (m.set i (.val d))
def wipeP (p : Pat) : List Nat → Pat
  | [] => p
  | v :: vs => (wipeP p vs).set v .free
inductive Wips (p : Pat) : List Nat → Prop
  | nil : Wips p []
  | f {v : Nat} {vs : List Nat} : (wipeP p vs)[v]? = some .free → Wips p vs → Wips p (v :: vs)
  | v {v : Nat} {vs : List Nat} {d : D} : (wipeP p vs)[v]? = some (.is (.val d)) → Wips p vs → Wips p (v :: vs)
theorem wipe_ok (m : Mat p r) : ∀ {vs : List Nat}, Wips p vs → ∃ r0, wipeE r vs = some r0 ∧ Mat (wipeP p vs) r0
  | [], _ => ⟨r, rfl, m⟩
  | v :: vs, w => by
    have key : ∀ r0 : Env, wipeE r vs = some r0 → Mat (wipeP p vs) r0 → (∀ y, r0[v]? = some y → (∀ d, y ≠ some (.own d)) ∧ y ≠ some .tape ∧ ∀ s d, y ≠ some (.tree s d)) → ∃ r1, wipeE r (v :: vs) = some r1 ∧ Mat (wipeP p (v :: vs)) r1 := fun r0 e m0 h => by
      refine ⟨r0.set v none, ?_, m0.setA v ⟨nofun, nofun, nofun⟩⟩
      show ((wipeE r vs).bind fun r' => _) = _
      rw [e]
      show (match r0[v]? with
        | some (some (.own _)) => none
        | some (some .tape) => none
        | some (some (.tree _ _)) => none
        | _ => some (r0.set v none)) = _
      split
      · rename_i q
        exact absurd rfl ((h _ q).1 _)
      · rename_i q
        exact absurd rfl (h _ q).2.1
      · rename_i q
        exact absurd rfl ((h _ q).2.2 _ _)
      · rfl
    cases w with
    | f h w =>
      obtain ⟨r0, e, m0⟩ := wipe_ok m w
      obtain ⟨y, e1, a⟩ := m0.at' h
      refine key r0 e m0 fun y2 e2 => ?_
      rw [e1] at e2
      cases e2
      exact a
    | v h w =>
      obtain ⟨r0, e, m0⟩ := wipe_ok m w
      have e1 := m0.get h
      refine key r0 e m0 fun y2 e2 => ?_
      rw [e1] at e2
      cases e2
      exact ⟨nofun, nofun, nofun⟩
end
/-! ## what is worth something, and changes nothing -/
def Pur {B : Type} (f : Env → Tp → Rs (B × Tp)) (r : Env) (v : B) : Prop := ∀ T, f r T = .ok (v, T)
def Pd (f : DE) (r : Env) (d : D) : Prop := ∀ T, dt (f r T) = .ok (d, T)
def Pv (f : DE) (r : Env) (d : D) : Prop := ∀ T, dv (f r T) = .ok (d, T)
def cst (v : VD) : DE := fun _ T => .ok (v, T)
section
variable {f g h : DE} {c c' : DT} {ga : DA} {r : Env} {p : Pat} {d a b e : D} {v : VD} {i : Nat} {ds : List D}
theorem Pur.pd (h : Pur f r (.val d)) : Pd f r d := fun T => by rw [h T]; rfl
theorem Pur.pdO (h : Pur f r (.own d)) : Pd f r d := fun T => by rw [h T]; rfl
theorem Pur.pdP (h : Pur f r (.peek d)) : Pd f r d := fun T => by rw [h T]; rfl
theorem Pur.pv (h : Pur f r (.val d)) : Pv f r d := fun T => by rw [h T]; rfl
theorem Pur.pvO (h : Pur f r (.own d)) : Pv f r d := fun T => by rw [h T]; rfl
theorem q_cst : Pur (cst v) r v := fun _ => rfl
theorem q_var (m : Mat p r) (h : p[i]? = some (.is (.val d))) : Pur (eVar i) r (.val d) := fun T => by rw [eVar_ap, m.get h]; rfl
theorem q_varO (m : Mat p r) (h : p[i]? = some (.is (.own d))) : Pur (eVar i) r (.peek d) := fun T => by rw [eVar_ap, m.get h]; rfl
theorem q_c : Pur (eC d) r (.val d) := fun _ => rfl
theorem q_op {op : D → D → Rs VD} (hf : Pd f r a) (hg : Pd g r b) (ho : op a b = .ok v) : Pur (eOp op f g) r v := fun T => by
  rw [eOp_ap, hf T, Rs.bind_ok, hg T, Rs.bind_ok]
  show lift (op a b) T = _
  rw [ho]; rfl
theorem q_un {op : D → Rs VD} (hf : Pd f r a) (ho : op a = .ok v) : Pur (eUn op f) r v := fun T => by
  rw [eUn_ap, hf T, Rs.bind_ok]
  show lift (op a) T = _
  rw [ho]; rfl
theorem q_chain {op op' : D → D → Rs VD} {x y : Bool} (hf : Pd f r a) (hg : Pd g r b) (hh : Pd h r e) (ho : op a b = .ok (.val (.bl x))) (ho' : op' b e = .ok (.val (.bl y))) : Pur (eChain op op' f g h) r (.val (.bl (x && y))) := fun T => by
  rw [eChain_ap, hf T, Rs.bind_ok, hg T, Rs.bind_ok]
  show (op a b).bind _ = _
  rw [ho, Rs.bind_ok, chK_bl]
  cases x with
  | false => rfl
  | true =>
    rw [if_pos rfl, hh T, Rs.bind_ok]
    show lift (op' b e) T = _
    rw [ho']; rfl
theorem q_and {x y : Bool} (hf : Pv f r (.bl x)) (hg : x = true → Pur g r (.val (.bl y))) : Pur (eAnd f g) r (.val (.bl (x && y))) := fun T => by
  rw [eAnd_ap, hf T]
  cases x with
  | false => rfl
  | true => exact hg rfl T
theorem q_not {x : Bool} (hf : Pv f r (.bl x)) : Pur (eNot f) r (.val (.bl !x)) := fun T => by rw [eNot_ap, hf T]; rfl
theorem q_xb {x : Bool} (hf : Pv f r (.bl x)) : Pur (xB f) r x := fun T => by rw [xB_ap, hf T]; rfl
theorem q_xand {x y : Bool} (hf : Pur c r x) (hg : x = true → Pur c' r y) : Pur (xAnd c c') r (x && y) := fun T => by
  rw [xAnd_ap, hf T]
  cases x with
  | false => rfl
  | true => exact hg rfl T
theorem q_xor {x y : Bool} (hf : Pur c r x) (hg : x = false → Pur c' r y) : Pur (xOr c c') r (x || y) := fun T => by
  rw [xOr_ap, hf T]
  cases x with
  | true => rfl
  | false => exact hg rfl T
theorem q_xnot {x : Bool} (hf : Pur c r x) : Pur (xNot c) r (!x) := fun T => by rw [xNot_ap, hf T]; rfl
theorem q_yes : Pur xYes r true := fun _ => rfl
theorem q_nil : Pur aNil r [] := fun _ => rfl
theorem q_cons (hf : Pv f r d) (hg : Pur ga r ds) : Pur (aCons f ga) r (d :: ds) := fun T => by rw [aCons_ap, hf T, Rs.bind_ok, hg T]; rfl
theorem q_consT (hf : Pd f r d) (hg : Pur ga r ds) : Pur (aConsT f ga) r (d :: ds) := fun T => by rw [aConsT_ap, hf T, Rs.bind_ok, hg T]; rfl
theorem q_tup (hg : Pur ga r ds) (hl : Nat.ble ds.length 1000 = true) : Pur (eTup ga) r (.val (.tup ds)) := fun T => by
  rw [eTup_ap, hg T, Rs.bind_ok]
  show (if ds.length ≤ 1000 then _ else _) = _
  rw [if_pos (Nat.le_of_ble_eq_true hl)]
theorem q_lst (hg : Pur ga r ds) (hl : Nat.ble ds.length 1000 = true) : Pur (eLst ga) r (.own (.lst ds)) := fun T => by
  rw [eLst_ap, hg T, Rs.bind_ok]
  show (if ds.length ≤ 1000 then _ else _) = _
  rw [if_pos (Nat.le_of_ble_eq_true hl)]
theorem q_call {op : List D → Rs VD} (hg : Pur ga r ds) (ho : op ds = .ok v) : Pur (eCall op ga) r v := fun T => by
  rw [eCall_ap, hg T, Rs.bind_ok]
  show lift (op ds) T = _
  rw [ho]; rfl
theorem q_seqI (hf : Pv f r d) (hs : seqD d = .ok ds) : Pur (iSeq f) r ds := fun T => by
  rw [iSeq_ap, hf T, Rs.bind_ok]
  show ((seqD d).bind _) = _
  rw [hs]; rfl
theorem q_seqJ (hf : Pd f r d) (hs : seqD d = .ok ds) : Pur (jSeq f) r ds := fun T => by
  rw [jSeq_ap, hf T, Rs.bind_ok]
  show ((seqD d).bind _) = _
  rw [hs]; rfl
theorem q_enuI (hf : Pv f r d) (hs : seqD d = .ok ds) : Pur (iEnu f) r (enumD 0 ds) := fun T => by
  rw [iEnu_ap, hf T, Rs.bind_ok]
  show ((seqD d).bind _) = _
  rw [hs]; rfl
theorem q_enuJ (hf : Pd f r d) (hs : seqD d = .ok ds) : Pur (jEnu f) r (enumD 0 ds) := fun T => by
  rw [jEnu_ap, hf T, Rs.bind_ok]
  show ((seqD d).bind _) = _
  rw [hs]; rfl
theorem q_rng {a b : D} {lo hi : Int} {ds : List D} (hg : Pur ga r ds) (h : argR ds = .ok (lo, hi)) (hb : -8000000 ≤ lo ∧ lo ≤ 8000000 ∧ -8000000 ≤ hi ∧ hi ≤ 8000000) : Pur (iRng ga) r (rngD lo (hi - lo).toNat) := fun T => by
  unfold iRng
  rw [hg T, Rs.bind_ok]
  show ((argR ds).bind _) = _
  rw [h, Rs.bind_ok, if_pos hb]
end
/-! ## one part taken out, ahead of the rest -/
structure Plug {B : Type} (x : Env → Tp → Rs B) (f : DE) (x' : VD → Env → Tp → Rs B) (r : Env) : Prop where
  eq : ∀ {A : Type} (T : Tp) (K : B → Rs A), (x r T).bind K = (f r T).bind fun p => (x' p.1 r p.2).bind K
theorem Rs.assoc {A B C : Type} (x : Rs A) (f : A → Rs B) (g : B → Rs C) : (x.bind f).bind g = x.bind fun a => (f a).bind g := by cases x <;> rfl
section
variable {f g h k : DE} {c c' : DT} {ga gb : DA} {r : Env} {d a b e : D} {v : VD} {i : Nat} {ds : List D} {f' : VD → DE} {c2 : VD → DT} {ga' : VD → DA}
theorem plug_id : Plug f f cst r := .mk fun T K => rfl
theorem plug_dv (h : Plug f k f' r) {B A : Type} (T : Tp) (K : D × Tp → Rs B) (K2 : B → Rs A) : ((dv (f r T)).bind K).bind K2 = (k r T).bind fun p => ((dv (f' p.1 r p.2)).bind K).bind K2 := by
  unfold dv
  rw [Rs.assoc, Rs.assoc, h.eq T]
  congr 1
  funext p
  rw [Rs.assoc, Rs.assoc]
theorem plug_dt (h : Plug f k f' r) {B A : Type} (T : Tp) (K : D × Tp → Rs B) (K2 : B → Rs A) : ((dt (f r T)).bind K).bind K2 = (k r T).bind fun p => ((dt (f' p.1 r p.2)).bind K).bind K2 := by
  unfold dt
  rw [Rs.assoc, Rs.assoc, h.eq T]
  congr 1
  funext p
  rw [Rs.assoc, Rs.assoc]
theorem plug_op1 {op : D → D → Rs VD} (h : Plug f k f' r) : Plug (eOp op f g) k (fun v => eOp op (f' v) g) r := .mk fun T K => plug_dt h T _ K
theorem plug_op2 {op : D → D → Rs VD} (hf : Pd f r a) (h : Plug g k f' r) : Plug (eOp op f g) k (fun v => eOp op f (f' v)) r := .mk fun T K => by
  rw [eOp_ap, hf T, Rs.bind_ok, plug_dt h T]
  congr 1
  funext p
  show _ = Rs.bind (eOp op f (f' p.1) r p.2) K
  rw [eOp_ap, hf p.2, Rs.bind_ok]
theorem plug_and (h : Plug f k f' r) : Plug (eAnd f g) k (fun v => eAnd (f' v) g) r := .mk fun T K => plug_dv h T _ K
theorem plug_xb (h : Plug f k f' r) : Plug (xB f) k (fun v => xB (f' v)) r := .mk fun T K => plug_dv h T _ K
theorem plug_xnot (h : Plug c k c2 r) : Plug (xNot c) k (fun v => xNot (c2 v)) r := .mk fun T K => by
  rw [xNot_ap, Rs.assoc, h.eq T]
  congr 1
  funext p
  show _ = Rs.bind (xNot (c2 p.1) r p.2) K
  rw [xNot_ap, Rs.assoc]
theorem plug_xand (h : Plug c k c2 r) : Plug (xAnd c c') k (fun v => xAnd (c2 v) c') r := .mk fun T K => by
  rw [xAnd_ap, Rs.assoc, h.eq T]
  congr 1
  funext p
  show _ = Rs.bind (xAnd (c2 p.1) c' r p.2) K
  rw [xAnd_ap, Rs.assoc]
theorem plug_c1 (h : Plug f k f' r) : Plug (aCons f ga) k (fun v => aCons (f' v) ga) r := .mk fun T K => plug_dv h T _ K
theorem plug_t1 (h : Plug f k f' r) : Plug (aConsT f ga) k (fun v => aConsT (f' v) ga) r := .mk fun T K => plug_dt h T _ K
theorem plug_c2 (hf : Pv f r d) (h : Plug ga k ga' r) : Plug (aCons f ga) k (fun v => aCons f (ga' v)) r := .mk fun T K => by
  rw [aCons_ap, hf T, Rs.bind_ok, Rs.assoc, h.eq T]
  congr 1
  funext p
  show _ = Rs.bind (aCons f (ga' p.1) r p.2) K
  rw [aCons_ap, hf p.2, Rs.bind_ok, Rs.assoc]
theorem plug_t2 (hf : Pd f r d) (h : Plug ga k ga' r) : Plug (aConsT f ga) k (fun v => aConsT f (ga' v)) r := .mk fun T K => by
  rw [aConsT_ap, hf T, Rs.bind_ok, Rs.assoc, h.eq T]
  congr 1
  funext p
  show _ = Rs.bind (aConsT f (ga' p.1) r p.2) K
  rw [aConsT_ap, hf p.2, Rs.bind_ok, Rs.assoc]
theorem plug_ga {B : Type} {F : List D × Tp → Rs B} (h : Plug ga k ga' r) : Plug (fun r T => (ga r T).bind F) k (fun v r T => (ga' v r T).bind F) r := .mk fun T K => by
  rw [Rs.assoc, h.eq T]
  congr 1
  funext p
  show _ = Rs.bind ((ga' p.1 r p.2).bind F) K
  rw [Rs.assoc]
theorem plug_tup (h : Plug ga k ga' r) : Plug (eTup ga) k (fun v => eTup (ga' v)) r := plug_ga h
theorem plug_lst (h : Plug ga k ga' r) : Plug (eLst ga) k (fun v => eLst (ga' v)) r := plug_ga h
theorem plug_call {op : List D → Rs VD} (h : Plug ga k ga' r) : Plug (eCall op ga) k (fun v => eCall op (ga' v)) r := plug_ga h
theorem plug_def {n : Nat} {M : DM} (h : Plug ga k ga' r) : Plug (eDef n M ga) k (fun v => eDef n M (ga' v)) r := .mk fun T K => by
  simp only [eDef_ap]
  exact (plug_ga h).eq T K
theorem plug_defT {n : Nat} {M : DM} (ht : r[i]? = some (some .tape)) (h : Plug ga k ga' r) : Plug (eDefT i n M ga) k (fun v => eDefT i n M (ga' v)) r := .mk fun T K => by
  simp only [eDefT_ap, ht, tpK_tape]
  exact (plug_ga h).eq T K
theorem plug_seqI (h : Plug f k f' r) : Plug (iSeq f) k (fun v => iSeq (f' v)) r := .mk fun T K => plug_dv h T _ K
theorem plug_rng (h : Plug ga k ga' r) : Plug (iRng ga) k (fun v => iRng (ga' v)) r := plug_ga h
theorem plug_lc {vs : List Nat} {it : DI} {it' : VD → DI} {gg : DG} (h : Plug it k it' r) : Plug (eLc vs it gg c f) k (fun v => eLc vs (it' v) gg c f) r := .mk fun T K => by
  rw [eLc_ap, Rs.assoc, h.eq T]
  congr 1
  funext p
  show _ = Rs.bind (eLc vs (it' p.1) gg c f r p.2) K
  rw [eLc_ap, Rs.assoc]
end
end Pu
namespace Pu
open PySem L2
open Classical
/-! # typed forms -/
section
variable {A B S P : Type}
def noE (x : Rt A) : Rt A := match x with
  | .ok a => .ok a
  | _ => .stuck
@[simp] theorem noE_ok (a : A) : noE (.ok a) = .ok a := rfl
def forS : List A → S → (A → S → Rt S) → Rt S
  | [], s, _ => .ok s
  | x :: xs, s, f => (f x s).bind fun s => forS xs s f
/-- a pass that tells true is the last one -/
def forB : List A → S → (A → S → Rt (Bool × S)) → Rt S
  | [], s, _ => .ok s
  | x :: xs, s, f => (f x s).bind fun p => if p.1 = true then .ok p.2 else forB xs p.2 f
inductive Lp (S P : Type) where
  | nx (s : S) | bk (s : S) | rt (v : P)
def forR : List A → S → (A → S → Rt (Lp S P)) → Rt (S ⊕ P)
  | [], s, _ => .ok (.inl s)
  | x :: xs, s, f => (f x s).bind fun p => match p with
    | .nx s => forR xs s f
    | .bk s => .ok (.inl s)
    | .rt v => .ok (.inr v)
def mapR (f : A → Rt B) : List A → Rt (List B)
  | [] => .ok []
  | x :: xs => (noE (f x)).bind fun y => (mapR f xs).bind fun ys => .ok (y :: ys)
def lcR (c : A → Rt Bool) (f : A → Rt B) : List A → Rt (List B)
  | [] => .ok []
  | x :: xs => (noE (c x)).bind fun b => if b = true then (noE (f x)).bind fun y => (lcR c f xs).bind fun ys => .ok (y :: ys) else lcR c f xs
def mapT (f : A → Tp → Rt (B × Tp)) : List A → Tp → Rt (List B × Tp)
  | [], T => .ok ([], T)
  | x :: xs, T => (noE (f x T)).bind fun y => (mapT f xs y.2).bind fun ys => .ok (y.1 :: ys.1, ys.2)
end
/-! ## whiles by a measure -/
/-! ## for by what holds behind each pass -/
section
variable {A B S P : Type}
theorem wr_forS {Q : S → Prop} {f : A → S → Rt S} (I : Nat → S → Prop) : ∀ (xs : List A) (k : Nat) (s : S), I k s → (∀ i x s, xs[i]? = some x → I (k + i) s → wr (f x s) fun s' => I (k + i + 1) s') → (∀ s, I (k + xs.length) s → Q s) → wr (forS xs s f) Q
  | [], k, s, h, _, hq => (wr_ok _).mpr (hq s h)
  | x :: xs, k, s, h, hs, hq => by
    unfold forS
    rw [wr_bind]
    refine wr_imp (hs 0 x s rfl h) fun s' h' => wr_forS I xs (k + 1) s' h' (fun i y s2 hi h2 => ?_) fun s2 h2 => hq s2 ?_
    · have := hs (i + 1) y s2 (by simpa using hi) (by rw [show k + (i + 1) = k + 1 + i by omega]; exact h2)
      rw [show k + 1 + i + 1 = k + (i + 1) + 1 by omega]
      exact this
    · rw [List.length_cons, show k + (xs.length + 1) = k + 1 + xs.length by omega]
      exact h2
theorem wr_forB {Q : S → Prop} {f : A → S → Rt (Bool × S)} (I : Nat → S → Prop) : ∀ (xs : List A) (k : Nat) (s : S), I k s → (∀ i x s, xs[i]? = some x → I (k + i) s → wr (f x s) fun p => if p.1 = true then Q p.2 else I (k + i + 1) p.2) → (∀ s, I (k + xs.length) s → Q s) → wr (forB xs s f) Q
  | [], k, s, h, _, hq => (wr_ok _).mpr (hq s h)
  | x :: xs, k, s, h, hs, hq => by
    unfold forB
    rw [wr_bind]
    refine wr_imp (hs 0 x s rfl h) fun p h' => ?_
    by_cases hp : p.1 = true
    · rw [if_pos hp] at h' ⊢
      exact (wr_ok _).mpr h'
    · rw [if_neg hp] at h' ⊢
      refine wr_forB I xs (k + 1) p.2 h' (fun i y s2 hi h2 => ?_) fun s2 h2 => hq s2 ?_
      · have := hs (i + 1) y s2 (by simpa using hi) (by rw [show k + (i + 1) = k + 1 + i by omega]; exact h2)
        rw [show k + 1 + i + 1 = k + (i + 1) + 1 by omega]
        exact this
      · rw [List.length_cons, show k + (xs.length + 1) = k + 1 + xs.length by omega]
        exact h2
def lpQ (I : S → Prop) (Q : S ⊕ P → Prop) : Lp S P → Prop
  | .nx s => I s
  | .bk s => Q (.inl s)
  | .rt v => Q (.inr v)
@[simp] theorem lpQ_nx (I : S → Prop) (Q : S ⊕ P → Prop) (s : S) : lpQ I Q (.nx s) = I s := rfl
@[simp] theorem lpQ_bk (I : S → Prop) (Q : S ⊕ P → Prop) (s : S) : lpQ I Q (.bk s) = Q (.inl s) := rfl
@[simp] theorem lpQ_rt (I : S → Prop) (Q : S ⊕ P → Prop) (v : P) : lpQ I Q (.rt v) = Q (.inr v) := rfl
theorem wr_forR {Q : S ⊕ P → Prop} {f : A → S → Rt (Lp S P)} (I : Nat → S → Prop) : ∀ (xs : List A) (k : Nat) (s : S), I k s → (∀ i x s, xs[i]? = some x → I (k + i) s → wr (f x s) (lpQ (I (k + i + 1)) Q)) → (∀ s, I (k + xs.length) s → Q (.inl s)) → wr (forR xs s f) Q
  | [], k, s, h, _, hq => (wr_ok _).mpr (hq s h)
  | x :: xs, k, s, h, hs, hq => by
    unfold forR
    rw [wr_bind]
    refine wr_imp (hs 0 x s rfl h) fun p h' => ?_
    cases p with
    | bk s' => exact (wr_ok _).mpr h'
    | rt v => exact (wr_ok _).mpr h'
    | nx s' =>
      refine wr_forR I xs (k + 1) s' h' (fun i y s2 hi h2 => ?_) fun s2 h2 => hq s2 ?_
      · have := hs (i + 1) y s2 (by simpa using hi) (by rw [show k + (i + 1) = k + 1 + i by omega]; exact h2)
        rw [show k + 1 + i + 1 = k + (i + 1) + 1 by omega]
        exact this
      · rw [List.length_cons, show k + (xs.length + 1) = k + 1 + xs.length by omega]
        exact h2
theorem mapR_ok {f : A → Rt B} {g : A → B} : ∀ (xs : List A), (∀ x ∈ xs, f x = .ok (g x)) → mapR f xs = .ok (xs.map g)
  | [], _ => rfl
  | x :: xs, h => by
    unfold mapR
    rw [h x List.mem_cons_self, noE_ok, Rt.bind_ok, mapR_ok xs fun y hy => h y (List.mem_cons_of_mem _ hy)]
    rfl
theorem lcR_ok {c : A → Rt Bool} {d : A → Bool} {f : A → Rt B} {g : A → B} : ∀ (xs : List A), (∀ x ∈ xs, c x = .ok (d x)) → (∀ x ∈ xs, d x = true → f x = .ok (g x)) → lcR c f xs = .ok ((xs.filter d).map g)
  | [], _, _ => rfl
  | x :: xs, hc, hf => by
    unfold lcR
    rw [hc x List.mem_cons_self, noE_ok, Rt.bind_ok, lcR_ok xs (fun y hy => hc y (List.mem_cons_of_mem _ hy)) fun y hy => hf y (List.mem_cons_of_mem _ hy)]
    cases h : d x with
    | true => rw [if_pos rfl, hf x List.mem_cons_self h, noE_ok, Rt.bind_ok, Rt.bind_ok, List.filter_cons_of_pos h]; rfl
    | false => rw [if_neg (by decide), List.filter_cons_of_neg (by simp [h])]
theorem wr_noE {Q : A → Prop} {x : Rt A} : wr (noE x) Q ↔ wr x Q := by cases x <;> simp [noE]
/-- each item has what P tells; mapT gives as many -/
theorem wr_mapT_all {f : A → Tp → Rt (B × Tp)} (It : Tp → Prop) (P : A → B → Prop) : ∀ (xs : List A) (T : Tp), It T → (∀ x ∈ xs, ∀ T, It T → wr (f x T) fun y => P x y.1 ∧ It y.2) → wr (mapT f xs T) fun (p : List B × Tp) => It p.2 ∧ p.1.length = xs.length ∧ ∀ (i : Nat) (x : A) (y : B), xs[i]? = some x → p.1[i]? = some y → P x y
  | [], T, h, _ => (wr_ok _).mpr ⟨h, rfl, fun i x y e => by simp at e⟩
  | x :: xs, T, h, hs => by
    unfold mapT
    rw [wr_bind, wr_noE]
    refine wr_imp (hs x List.mem_cons_self T h) fun y ⟨hp, h'⟩ => ?_
    rw [wr_bind]
    refine wr_imp (wr_mapT_all It P xs y.2 h' fun z hz => hs z (List.mem_cons_of_mem _ hz)) fun p ⟨q1, q2, q3⟩ => (wr_ok _).mpr ⟨q1, by simp [q2], fun i a b ha hb => ?_⟩
    cases i with
    | zero =>
      simp at ha hb
      subst ha hb
      exact hp
    | succ i => exact q3 i a b (by simpa using ha) (by simpa using hb)
end
/-! # the rules -/
def RL {S : Type} (P : S → Pat) (τ : S → Tp) : Fl × Tp → S → Prop := fun p s => ∃ r, p = (.nx r, τ s) ∧ Mat (P s) r
def RC {S : Type} (P : S → Pat) (τ : S → Tp) : Fl × Tp → S → Prop := fun p s => ∃ r, (p = (.nx r, τ s) ∨ p = (.ct r, τ s)) ∧ Mat (P s) r
def RB {S : Type} (P : S → Pat) (τ : S → Tp) : Fl × Tp → Bool × S → Prop := fun p s => ∃ r, ((s.1 = false ∧ (p = (.nx r, τ s.2) ∨ p = (.ct r, τ s.2))) ∨ (s.1 = true ∧ p = (.bk r, τ s.2))) ∧ Mat (P s.2) r
def RR {S V : Type} (P : S → Pat) (τ : S → Tp) (mk : V → VD) (tv : V → Tp) : Fl × Tp → Lp S V → Prop := fun p s => match s with
  | .nx s => ∃ r, (p = (.nx r, τ s) ∨ p = (.ct r, τ s)) ∧ Mat (P s) r
  | .bk s => ∃ r, p = (.bk r, τ s) ∧ Mat (P s) r
  | .rt v => p = (.rt (mk v), tv v)
def RV {V : Type} (mk : V → VD) : VD × Tp → V → Prop := fun p v => p.1 = mk v
def RT {V : Type} (mk : V → VD) : VD × Tp → V × Tp → Prop := fun p v => p = (mk v.1, v.2)
def kSeq {A : Type} (g : DS) (K : Fl × Tp → Rs A) : Fl × Tp → Rs A := fun p => (seqK g p).bind K
section
variable {A B V W S : Type} {E : EX} {K : Fl × Tp → Rs A} {y : Rt B} {R : A → B → Prop} {r : Env} {T : Tp} {p : Pat} {f g : DS} {e e' : DE} {i : Nat} {v : VD} {d : D}
theorem s_seq (h : Sim E ((f r T).bind (kSeq g K)) y R) : Sim E ((sSeq f g r T).bind K) y R := by
  rw [sSeq_ap, Rs.assoc]
  exact h
theorem s_next (h : Sim E ((g r T).bind K) y R) : Sim E (kSeq g K (.nx r, T)) y R := h
theorem s_pass (h : Sim E (K (.nx r, T)) y R) : Sim E ((sPass r T).bind K) y R := h
theorem s_brk (h : Sim E (K (.bk r, T)) y R) : Sim E ((sBrk r T).bind K) y R := h
theorem s_ct (h : Sim E (K (.ct r, T)) y R) : Sim E ((sCt r T).bind K) y R := h
theorem s_plugE {C : Type} {K : C → Rs A} {x : Env → Tp → Rs C} {k : DE} {x' : VD → Env → Tp → Rs C} (hp : Plug x k x' r) (h : Sim E ((k r T).bind fun p => (x' p.1 r p.2).bind K) y R) : Sim E ((x r T).bind K) y R := by
  rw [hp.eq T K]
  exact h
theorem s_asg (m : Mat p r) (hf : Pur e r v) (hv : ∀ r : Env, put r i v = .ok (r.set i (some v))) (k : ∀ r', Mat (p.set i (.is v)) r' → Sim E (K (.nx r', T)) y R) : Sim E ((sAsg i e r T).bind K) y R := by
  rw [sAsg_ap, hf T, Rs.bind_ok]
  show Sim E (((put r i v).bind _).bind K) y R
  rw [hv, Rs.bind_ok]
  exact k _ (m.set i v)
theorem s_asgG {tg : DG} {l : List (Nat × D)} (m : Mat p r) (hf : Pv e r d) (hg : tg d = some l) (k : ∀ r', Mat (setP p l) r' → Sim E (K (.nx r', T)) y R) : Sim E ((sAsgG tg e r T).bind K) y R := by
  rw [sAsgG_ap, hf T, Rs.bind_ok]
  show Sim E (((rO (tg d)).bind _).bind K) y R
  rw [hg]
  exact k _ m.setP
theorem s_drop (hf : Pd e r d) (k : Sim E (K (.nx r, T)) y R) : Sim E ((sDrop e r T).bind K) y R := by
  rw [sDrop_ap, hf T, Rs.bind_ok]
  exact k
theorem s_ret (hf : Pur e r v) (hv : ∀ T, retK (v, T) = .ok (.rt v, T)) (k : Sim E (K (.rt v, T)) y R) : Sim E ((sRet e r T).bind K) y R := by
  rw [sRet_ap, hf T, Rs.bind_ok, hv]
  exact k
theorem s_retV (m : Mat p r) (hi : p[i]? = some (.is v)) (hv : ∀ T, retVK T (some (some v)) = .ok (.rt v, T)) (k : Sim E (K (.rt v, T)) y R) : Sim E ((sRetV i r T).bind K) y R := by
  rw [sRetV_ap, m.get hi, hv]
  exact k
theorem s_frzO (m : Mat p r) (hi : p[i]? = some (.is (.own d))) (k : ∀ r', Mat (p.set i (.is (.val d))) r' → Sim E ((g r' T).bind K) y R) : Sim E ((sFrz i g r T).bind K) y R := by
  rw [sFrz_ap, m.get hi, frzK_own]
  exact k _ (m.set i _)
theorem s_frzV (m : Mat p r) (hi : p[i]? = some (.is (.val d))) (k : Sim E ((g r T).bind K) y R) : Sim E ((sFrz i g r T).bind K) y R := by
  rw [sFrz_ap, m.get hi, frzK_val]
  exact k
def Prim {A : Type} (x : Rs VD) (w : Rt A) (mk : A → VD) : Prop := ∀ a, w = .ok a → x = .ok (mk a)
def PrimO {A C : Type} (x : Option C) (w : Rt A) (mk : A → C) : Prop := ∀ a, w = .ok a → x = some (mk a)
def Quit {A : Type} (w : Rt A) : Prop := ∀ c fs, w ≠ .exc c fs
theorem Prim.go {K : VD → Rs A} {w : Rt V} {z : V → Rt B} {mk : V → VD} {x : Rs VD} (h : Prim x w mk) (q : Quit w) (k : ∀ a, w = .ok a → Sim E (K (mk a)) (z a) R) : Sim E (x.bind K) (w.bind z) R := by
  cases e : w with
  | ok a =>
    rw [h a e]
    exact k a e
  | exc c fs => exact absurd e (q c fs)
  | stuck => trivial
theorem PrimO.go {C : Type} {K : C → Rs A} {w : Rt V} {z : V → Rt B} {mk : V → C} {x : Option C} (h : PrimO x w mk) (q : Quit w) (k : ∀ a, w = .ok a → Sim E (K (mk a)) (z a) R) : Sim E ((rO x).bind K) (w.bind z) R := by
  cases e : w with
  | ok a =>
    rw [h a e]
    exact k a e
  | exc c fs => exact absurd e (q c fs)
  | stuck => trivial
/-- x : Option, by what it is -/
def optR {A B : Type} (o : Option A) (y1 : Rt B) (y2 : A → Rt B) : Rt B := match o with
  | none => y1
  | some a => y2 a
@[simp] theorem optR_none {A B : Type} (y1 : Rt B) (y2 : A → Rt B) : optR none y1 y2 = y1 := rfl
@[simp] theorem optR_some {A B : Type} (a : A) (y1 : Rt B) (y2 : A → Rt B) : optR (some a) y1 y2 = y2 a := rfl
/-- x : Option, needed -/
def unO {A : Type} : Option A → Rt A
  | some a => .ok a
  | none => .stuck
@[simp] theorem unO_some {A : Type} (a : A) : unO (some a) = .ok a := rfl
@[simp] theorem unO_none {A : Type} : unO (none : Option A) = .stuck := rfl
end
section
variable {A B V W : Type} {E : EX} {K : VD × Tp → Rs A} {R : A → B → Prop} {r : Env} {T : Tp} {p : Pat} {f g h : DE} {ga : DA} {i : Nat} {v : VD} {d a b : D} {ds : List D} {w : Rt V} {z : V → Rt B} {mk : V → VD}
/-- a call of a def -/
theorem h_def {n : Nat} {M : DM} (hg : Pur ga r ds) (hn : ds.length = n) (hM : Sim ET (M ds none) w (RV mk)) (hE : E T r) (k : ∀ x, Sim E (K (mk x, T)) (z x) R) : Sim E ((eDef n M ga r T).bind K) (w.bind z) R := by
  rw [eDef_ap, hg T, Rs.bind_ok]
  show Sim E ((if ds.length = n then defK T r (M ds none) else Rs.stuck).bind K) _ R
  rw [if_pos hn]
  cases w with
  | ok x =>
    obtain ⟨q, e, hq⟩ := hM
    rw [e]
    show Sim E (K (q.1, T)) _ R
    rw [show q.1 = mk x from hq]
    exact k x
  | exc c fs =>
    obtain ⟨t, r', e, _⟩ := hM
    rw [e]
    exact ⟨T, r, rfl, hE⟩
  | stuck => trivial
theorem h_defT {n : Nat} {M : DM} {w : Rt (V × Tp)} {z : V × Tp → Rt B} (ht : r[i]? = some (some .tape)) (hg : Pur ga r ds) (hn : ds.length + 1 = n) (hM : Sim ET (M ds T) w (RT mk)) (hE : ∀ T, E T r) (k : ∀ x : V × Tp, Sim E (K (mk x.1, x.2)) (z x) R) : Sim E ((eDefT i n M ga r T).bind K) (w.bind z) R := by
  rw [eDefT_ap, ht, tpK_tape, hg T, Rs.bind_ok]
  show Sim E ((if ds.length + 1 = n then defTK r (M ds T) else Rs.stuck).bind K) _ R
  rw [if_pos hn]
  cases w with
  | ok x =>
    obtain ⟨q, e, hq⟩ := hM
    rw [e]
    show Sim E (K q) _ R
    rw [show q = (mk x.1, x.2) from hq]
    exact k x
  | exc c fs =>
    obtain ⟨t, r', e, _⟩ := hM
    rw [e]
    exact ⟨t, r, rfl, hE t⟩
  | stuck => trivial
/-- an operation that may fail -/
theorem h_op {op : D → D → Rs VD} (hf : Pd f r a) (hg : Pd g r b) (ho : Prim (op a b) w mk) (hq : Quit w) (k : ∀ x, Sim E (K (mk x, T)) (z x) R) : Sim E ((eOp op f g r T).bind K) (w.bind z) R := by
  rw [eOp_ap, hf T, Rs.bind_ok, hg T, Rs.bind_ok]
  show Sim E ((lift (op a b) T).bind K) _ R
  unfold lift
  rw [Rs.assoc]
  exact ho.go hq fun x _ => k x
theorem h_call {op : List D → Rs VD} (hg : Pur ga r ds) (ho : Prim (op ds) w mk) (hq : Quit w) (k : ∀ x, Sim E (K (mk x, T)) (z x) R) : Sim E ((eCall op ga r T).bind K) (w.bind z) R := by
  rw [eCall_ap, hg T, Rs.bind_ok]
  show Sim E ((lift (op ds) T).bind K) _ R
  unfold lift
  rw [Rs.assoc]
  exact ho.go hq fun x _ => k x
def mB : Bool → VD := fun b => .val (.bl b)
theorem h_and {x : Bool} {w : Rt Bool} {z : Bool → Rt B} (hf : Pv f r (.bl x)) (h1 : x = true → Sim E ((g r T).bind Rs.ok) w (fun q b => q = (mB b, T))) (k : ∀ b, Sim E (K (mB b, T)) (z b) R) : Sim E ((eAnd f g r T).bind K) ((if x = true then w else .ok false).bind z) R := by
  rw [eAnd_ap, hf T]
  cases x with
  | true =>
    refine Sim.bind (bind_id (g r T) ▸ h1 rfl) (fun _ _ h => h) fun q b hq => ?_
    rw [hq]
    exact k b
  | false => exact k false
end
/-! tests with parts that may fail -/
section
variable {A B V : Type} {E : EX} {R : A → B → Prop} {r : Env} {T : Tp} {c c' : DT} {K : Bool × Tp → Rs A}
def RBo (T : Tp) : Bool × Tp → Bool → Prop := fun q b => q = (b, T)
def RBT : Bool × Tp → Bool × Tp → Prop := fun q b => q = b
theorem t_pure {C : Type} {K : C × Tp → Rs A} {f : Env → Tp → Rs (C × Tp)} {b : C} {y : Rt B} (hc : Pur f r b) (k : Sim E (K (b, T)) y R) : Sim E ((f r T).bind K) y R := by
  rw [hc T]
  exact k
theorem tt_or {x : Bool} {w : Rt Bool} {z : Bool → Rt B} (hc : Pur c r x) (h1 : x = false → Sim E ((c' r T).bind Rs.ok) w (RBo T)) (k : ∀ b, Sim E (K (b, T)) (z b) R) : Sim E ((xOr c c' r T).bind K) ((if x = true then .ok true else w).bind z) R := by
  rw [xOr_ap, hc T, Rs.bind_ok]
  cases x with
  | false =>
    refine Sim.bind (bind_id (c' r T) ▸ h1 rfl) (fun _ _ h => h) fun q b hq => ?_
    rw [show q = _ from hq]
    exact k b
  | true => exact k true
theorem tt_andT {x : Bool} {w : Rt (Bool × Tp)} {z : Bool × Tp → Rt B} (hc : Pur c r x) (h1 : x = true → Sim E ((c' r T).bind Rs.ok) w RBT) (k : ∀ b : Bool × Tp, Sim E (K b) (z b) R) : Sim E ((xAnd c c' r T).bind K) ((if x = true then w else .ok (false, T)).bind z) R := by
  rw [xAnd_ap, hc T, Rs.bind_ok]
  cases x with
  | true =>
    refine Sim.bind (bind_id (c' r T) ▸ h1 rfl) (fun _ _ h => h) fun q b hq => ?_
    rw [show q = _ from hq]
    exact k b
  | false => exact k (false, T)
theorem s_test {C : Type} {K : C → Rs A} {f g : Env → Tp → Rs C} {y : Rt B} (h : Sim E ((c r T).bind fun q => (if q.1 = true then f r q.2 else g r q.2).bind K) y R) : Sim E (((c r T).bind fun q => if q.1 = true then f r q.2 else g r q.2).bind K) y R := by
  rw [Rs.assoc]
  exact h
theorem s_sif {f g : DS} {K : Fl × Tp → Rs A} {y : Rt B} (h : Sim E ((c r T).bind fun q => (if q.1 = true then f r q.2 else g r q.2).bind K) y R) : Sim E ((sIf c f g r T).bind K) y R := s_test h
theorem s_ite {C : Type} {K : C → Rs A} {x1 x2 : Rs C} {b : Bool} {y1 y2 : Rt B} (h1 : b = true → Sim E (x1.bind K) y1 R) (h2 : b = false → Sim E (x2.bind K) y2 R) : Sim E ((if b = true then x1 else x2).bind K) (if b = true then y1 else y2) R := by
  cases b with
  | true => exact h1 rfl
  | false => exact h2 rfl
end
/-! comprehensions -/
section
variable {A A1 B V W : Type} {E : EX} {R : A1 → B → Prop} {K : VD × Tp → Rs A1} {r : Env} {T : Tp} {p : Pat} {it : DI} {gg : DG} {c : DT} {f : DE} {vs : List Nat} {xs : List A} {e : A → D} {ms : A → List (Nat × D)} {e' : V → D}
theorem Sim.noX {A B : Type} {x : Rs A} {y : Rt B} {R : A → B → Prop} {E E' : EX} (h : Sim E x y R) : Sim E' (Pu.noX x) (noE y) R := by
  cases y with
  | ok b =>
    obtain ⟨a, ea, q⟩ := h
    rw [ea]
    exact ⟨a, rfl, q⟩
  | exc c fs => trivial
  | stuck => trivial
theorem lc_pure {cond : A → Bool} {elt : A → V} {p' : Pat} (hg : ∀ x, gg (e x) = some (ms x)) (hc : ∀ x r, Mat (setP p' (ms x)) r → Pur c r (cond x)) (hf : ∀ x r, Mat (setP p' (ms x)) r → cond x = true → Pv f r (e' (elt x))) (m : Mat p' r) : ∀ xs : List A, lcD gg c f (xs.map e) r T = .ok (((xs.filter cond).map elt).map e', T)
  | [] => rfl
  | x :: xs => by
    have ih := lc_pure hg hc hf m xs
    rw [List.map_cons]
    unfold lcD
    rw [hg x]
    show ((Pu.noX (c (setE r (ms x)) T)).bind _) = _
    rw [hc x _ m.setP T, noX_ok, Rs.bind_ok]
    cases h : cond x with
    | true =>
      rw [if_pos rfl]
      show ((Pu.noX (dv (f (setE r (ms x)) T))).bind _) = _
      rw [hf x _ m.setP h T, noX_ok, Rs.bind_ok]
      show ((lcD gg c f (xs.map e) r T).bind _) = _
      rw [ih, List.filter_cons_of_pos h]
      rfl
    | false =>
      rw [if_neg (fun h => Bool.false_ne_true h), List.filter_cons_of_neg (by simp [h])]
      exact ih
theorem q_lcF {cond : A → Bool} {elt : A → V} (m : Mat p r) (hw : Wips p vs) (hi : Pur it r (xs.map e)) (hg : ∀ x, gg (e x) = some (ms x)) (hc : ∀ x r, Mat (setP (wipeP p vs) (ms x)) r → Pur c r (cond x)) (hf : ∀ x r, Mat (setP (wipeP p vs) (ms x)) r → cond x = true → Pv f r (e' (elt x))) : Pur (eLc vs it gg c f) r (.own (.lst (((xs.filter cond).map elt).map e'))) := fun T => by
  rw [eLc_ap, hi T, Rs.bind_ok]
  obtain ⟨r0, e0, m0⟩ := wipe_ok m hw
  rw [e0]
  show ((lcD gg c f (xs.map e) r0 T).bind _) = _
  rw [lc_pure hg hc hf m0]
  rfl
theorem filter_yes {A : Type} : ∀ xs : List A, xs.filter (fun _ => true) = xs
  | [] => rfl
  | x :: xs => by rw [List.filter_cons_of_pos rfl, filter_yes xs]
theorem q_lc {elt : A → V} (m : Mat p r) (hw : Wips p vs) (hi : Pur it r (xs.map e)) (hg : ∀ x, gg (e x) = some (ms x)) (hf : ∀ x r, Mat (setP (wipeP p vs) (ms x)) r → Pv f r (e' (elt x))) : Pur (eLc vs it gg xYes f) r (.own (.lst ((xs.map elt).map e'))) := by
  have := q_lcF (cond := fun _ => true) m hw hi hg (fun x r m => q_yes) (fun x r m _ => hf x r m)
  rwa [filter_yes] at this
theorem lc_sim {cond : A → Rt Bool} {elt : A → Rt V} {p' : Pat} (hg : ∀ x, gg (e x) = some (ms x)) (hc : ∀ x r, Mat (setP p' (ms x)) r → Sim ET ((c r T).bind Rs.ok) (cond x) (RBo T)) (hf : ∀ x r, Mat (setP p' (ms x)) r → Sim ET ((dv (f r T)).bind Rs.ok) (elt x) (fun q v => q = (e' v, T))) (m : Mat p' r) : ∀ xs : List A, Sim ET (lcD gg c f (xs.map e) r T) (lcR cond elt xs) (fun q l => q = (l.map e', T))
  | [] => ⟨_, rfl, rfl⟩
  | x :: xs => by
    have ih := lc_sim hg hc hf m xs
    rw [List.map_cons]
    unfold lcD lcR
    rw [hg x]
    show Sim ET ((Pu.noX (c (setE r (ms x)) T)).bind _) _ _
    have h1 := hc x _ m.setP
    rw [bind_id] at h1
    refine Sim.bind (Sim.noX (E' := ET) h1) (fun _ _ h => h) fun q b hq => ?_
    rw [show q = (b, T) from hq]
    cases b with
    | true =>
      rw [if_pos rfl, if_pos rfl]
      have h2 := hf x _ m.setP
      rw [bind_id] at h2
      refine Sim.bind (Sim.noX (E' := ET) h2) (fun _ _ h => h) fun q v hq => ?_
      rw [show q = _ from hq]
      refine Sim.bind ih (fun _ _ h => h) fun q l hq => ?_
      rw [show q = _ from hq]
      exact ⟨_, rfl, rfl⟩
    | false =>
      rw [if_neg (fun h => Bool.false_ne_true h), if_neg (fun h => Bool.false_ne_true h)]
      exact ih
theorem Sim.soft {A B : Type} {x : Rs A} {y : Rt B} {R : A → B → Prop} {E : EX} (h : Sim ET x y R) (q : Quit y) : Sim E x y R := by
  cases y with
  | ok b => exact h
  | exc c fs => exact absurd rfl (q c fs)
  | stuck => trivial
theorem quit_ok {A : Type} {a : A} : Quit (.ok a : Rt A) := fun c fs h => nomatch h
theorem quit_stuck {A : Type} : Quit (.stuck : Rt A) := fun c fs h => nomatch h
theorem quit_noE {A : Type} (x : Rt A) : Quit (noE x) := by
  cases x <;> intro c fs h <;> cases h
theorem quit_bind {A B : Type} {x : Rt A} {f : A → Rt B} (h : Quit x) (k : ∀ a, Quit (f a)) : Quit (x.bind f) := by
  cases x with
  | ok a => exact k a
  | exc c fs => exact absurd rfl (h c fs)
  | stuck => exact quit_stuck
theorem quit_if {A : Type} {p : Prop} [Decidable p] {x y : Rt A} (h : Quit x) (k : Quit y) : Quit (if p then x else y) := by
  by_cases c : p
  · rw [if_pos c]; exact h
  · rw [if_neg c]; exact k
theorem quit_lcR (cond : A → Rt Bool) (elt : A → Rt V) : ∀ xs, Quit (lcR cond elt xs)
  | [] => quit_ok
  | x :: xs => quit_bind (quit_noE _) fun b => quit_if (quit_bind (quit_noE _) fun y => quit_bind (quit_lcR cond elt xs) fun _ => quit_ok) (quit_lcR cond elt xs)
theorem quit_mapT (elt : A → Tp → Rt (V × Tp)) : ∀ xs T, Quit (mapT elt xs T)
  | [], T => quit_ok
  | x :: xs, T => quit_bind (quit_noE _) fun y => quit_bind (quit_mapT elt xs _) fun _ => quit_ok
theorem h_lcF {cond : A → Rt Bool} {elt : A → Rt V} {z : List V → Rt B} (m : Mat p r) (hw : Wips p vs) (hi : Pur it r (xs.map e)) (hg : ∀ x, gg (e x) = some (ms x)) (hc : ∀ x r, Mat (setP (wipeP p vs) (ms x)) r → Sim ET ((c r T).bind Rs.ok) (cond x) (RBo T)) (hf : ∀ x r, Mat (setP (wipeP p vs) (ms x)) r → Sim ET ((dv (f r T)).bind Rs.ok) (elt x) (fun q v => q = (e' v, T))) (k : ∀ l, Sim E (K (.own (.lst (l.map e')), T)) (z l) R) : Sim E ((eLc vs it gg c f r T).bind K) ((lcR cond elt xs).bind z) R := by
  rw [eLc_ap, hi T, Rs.bind_ok]
  obtain ⟨r0, e0, m0⟩ := wipe_ok m hw
  rw [e0]
  show Sim E (((lcD gg c f (xs.map e) r0 T).bind _).bind K) _ R
  rw [Rs.assoc]
  refine Sim.bind (Sim.soft (E := E) (lc_sim hg hc hf m0 xs) (quit_lcR _ _ _)) (fun _ _ h => h) fun q l hq => ?_
  rw [show q = _ from hq]
  exact k l
theorem lcR_yes (elt : A → Rt V) : ∀ xs, lcR (fun _ => .ok true) elt xs = mapR elt xs
  | [] => rfl
  | x :: xs => by
    unfold lcR mapR
    rw [noE_ok, Rt.bind_ok, if_pos rfl, lcR_yes elt xs]
theorem h_lc {elt : A → Rt V} {z : List V → Rt B} (m : Mat p r) (hw : Wips p vs) (hi : Pur it r (xs.map e)) (hg : ∀ x, gg (e x) = some (ms x)) (hf : ∀ x r, Mat (setP (wipeP p vs) (ms x)) r → Sim ET ((dv (f r T)).bind Rs.ok) (elt x) (fun q v => q = (e' v, T))) (k : ∀ l, Sim E (K (.own (.lst (l.map e')), T)) (z l) R) : Sim E ((eLc vs it gg xYes f r T).bind K) ((mapR elt xs).bind z) R := by
  rw [← lcR_yes]
  exact h_lcF m hw hi hg (fun x r m => ⟨_, rfl, rfl⟩) hf k
theorem lcT_sim {elt : A → Tp → Rt (V × Tp)} {p' : Pat} (hg : ∀ x, gg (e x) = some (ms x)) (hf : ∀ x r T, Mat (setP p' (ms x)) r → Sim ET ((dv (f r T)).bind Rs.ok) (elt x T) (fun q v => q = (e' v.1, v.2))) (m : Mat p' r) : ∀ (xs : List A) (T : Tp), Sim ET (lcD gg xYes f (xs.map e) r T) (mapT elt xs T) (fun q l => q = (l.1.map e', l.2))
  | [], T => ⟨_, rfl, rfl⟩
  | x :: xs, T => by
    rw [List.map_cons]
    unfold lcD mapT
    rw [hg x]
    show Sim ET ((Pu.noX (dv (f (setE r (ms x)) T))).bind _) _ _
    have h2 := hf x _ T m.setP
    rw [bind_id] at h2
    refine Sim.bind (Sim.noX (E' := ET) h2) (fun _ _ h => h) fun q v hq => ?_
    rw [show q = _ from hq]
    refine Sim.bind (lcT_sim hg hf m xs v.2) (fun _ _ h => h) fun q l hq => ?_
    rw [show q = _ from hq]
    exact ⟨_, rfl, rfl⟩
theorem h_lcT {elt : A → Tp → Rt (V × Tp)} {z : List V × Tp → Rt B} (m : Mat p r) (hw : Wips p vs) (hi : Pur it r (xs.map e)) (hg : ∀ x, gg (e x) = some (ms x)) (hf : ∀ x r T, Mat (setP (wipeP p vs) (ms x)) r → Sim ET ((dv (f r T)).bind Rs.ok) (elt x T) (fun q v => q = (e' v.1, v.2))) (k : ∀ l : List V × Tp, Sim E (K (.own (.lst (l.1.map e')), l.2)) (z l) R) : Sim E ((eLc vs it gg xYes f r T).bind K) ((mapT elt xs T).bind z) R := by
  rw [eLc_ap, hi T, Rs.bind_ok]
  obtain ⟨r0, e0, m0⟩ := wipe_ok m hw
  rw [e0]
  show Sim E (((lcD gg xYes f (xs.map e) r0 T).bind _).bind K) _ R
  rw [Rs.assoc]
  refine Sim.bind (Sim.soft (E := E) (lcT_sim hg hf m0 xs T) (quit_mapT _ _ _)) (fun _ _ h => h) fun q l hq => ?_
  rw [show q = _ from hq]
  exact k l
/-- the end of an item -/
theorem e_fin {v : D} (hf : Pv f r v) {y : B} {R : D × Tp → B → Prop} (h : R (v, T) y) : Sim E ((dv (f r T)).bind Rs.ok) (.ok y) R := by
  rw [hf T]
  exact ⟨_, rfl, h⟩
theorem e_plug {k : DE} {f' : VD → DE} {y : Rt B} {R : D × Tp → B → Prop} (hp : Plug f k f' r) (h : Sim E ((k r T).bind fun q => (dv (f' q.1 r q.2)).bind Rs.ok) y R) : Sim E ((dv (f r T)).bind Rs.ok) y R := by
  have e := plug_dv hp T (Rs.ok (A := D × Tp)) (Rs.ok (A := D × Tp))
  simp only [bind_id] at e h ⊢
  rw [e]
  exact h
end
/-! loops -/
section
variable {A A1 B V S : Type} {E : EX} {R : A1 → B → Prop} {K : Fl × Tp → Rs A1} {r : Env} {T : Tp} {it : DI} {gg : DG} {w : DS} {xs : List A} {e : A → D} {ms : A → List (Nat × D)} {s0 : S} {P : S → Pat} {τ : S → Tp}
theorem forS_sim {yb : A → S → Rt S} (hg : ∀ x, gg (e x) = some (ms x)) (hb : ∀ x s r, Mat (setP (P s) (ms x)) r → Sim E ((w r (τ s)).bind Rs.ok) (yb x s) (RC P τ)) : ∀ (xs : List A) (s : S) (r : Env), Mat (P s) r → Sim E (forD gg w (xs.map e) r (τ s)) (forS xs s yb) (RL P τ)
  | [], s, r, m => ⟨_, rfl, r, rfl, m⟩
  | x :: xs, s, r, m => by
    rw [List.map_cons]
    unfold forD forS
    rw [hg x]
    show Sim E ((w (setE r (ms x)) (τ s)).bind _) _ _
    have h := hb x s _ m.setP
    rw [bind_id] at h
    refine Sim.bind h (fun _ _ h => h) fun q s' ⟨r', hq, m'⟩ => ?_
    rcases hq with rfl | rfl <;> exact forS_sim hg hb xs s' r' m'
theorem s_forS {yb : A → S → Rt S} {z : S → Rt B} (P : S → Pat) (τ : S → Tp) (s0 : S) (hT : τ s0 = T) (m : Mat (P s0) r) (hi : Pur it r (xs.map e)) (hg : ∀ x, gg (e x) = some (ms x)) (hb : ∀ x s r, Mat (setP (P s) (ms x)) r → Sim E ((w r (τ s)).bind Rs.ok) (yb x s) (RC P τ)) (k : ∀ s r, Mat (P s) r → Sim E (K (.nx r, τ s)) (z s) R) : Sim E ((sFor it gg w r T).bind K) ((forS xs s0 yb).bind z) R := by
  subst hT
  rw [sFor_ap, hi, Rs.bind_ok]
  refine Sim.bind (forS_sim hg hb xs s0 r m) (fun _ _ h => h) fun q s ⟨r', hq, m'⟩ => ?_
  rw [hq]
  exact k s r' m'
theorem forB_sim {yb : A → S → Rt (Bool × S)} (hg : ∀ x, gg (e x) = some (ms x)) (hb : ∀ x s r, Mat (setP (P s) (ms x)) r → Sim E ((w r (τ s)).bind Rs.ok) (yb x s) (RB P τ)) : ∀ (xs : List A) (s : S) (r : Env), Mat (P s) r → Sim E (forD gg w (xs.map e) r (τ s)) (forB xs s yb) (RL P τ)
  | [], s, r, m => ⟨_, rfl, r, rfl, m⟩
  | x :: xs, s, r, m => by
    rw [List.map_cons]
    unfold forD forB
    rw [hg x]
    show Sim E ((w (setE r (ms x)) (τ s)).bind _) _ _
    have h := hb x s _ m.setP
    rw [bind_id] at h
    refine Sim.bind h (fun _ _ h => h) fun q s' ⟨r', hq, m'⟩ => ?_
    rcases hq with ⟨hs, hq⟩ | ⟨hs, rfl⟩
    · rw [hs, if_neg (by decide)]
      rcases hq with rfl | rfl <;> exact forB_sim hg hb xs s'.2 r' m'
    · rw [hs, if_pos rfl]
      exact ⟨_, rfl, r', rfl, m'⟩
theorem s_forB {yb : A → S → Rt (Bool × S)} {z : S → Rt B} (P : S → Pat) (τ : S → Tp) (s0 : S) (hT : τ s0 = T) (m : Mat (P s0) r) (hi : Pur it r (xs.map e)) (hg : ∀ x, gg (e x) = some (ms x)) (hb : ∀ x s r, Mat (setP (P s) (ms x)) r → Sim E ((w r (τ s)).bind Rs.ok) (yb x s) (RB P τ)) (k : ∀ s r, Mat (P s) r → Sim E (K (.nx r, τ s)) (z s) R) : Sim E ((sFor it gg w r T).bind K) ((forB xs s0 yb).bind z) R := by
  subst hT
  rw [sFor_ap, hi, Rs.bind_ok]
  refine Sim.bind (forB_sim hg hb xs s0 r m) (fun _ _ h => h) fun q s ⟨r', hq, m'⟩ => ?_
  rw [hq]
  exact k s r' m'
def RS' (P : S → Pat) (τ : S → Tp) (mk : V → VD) (tv : V → Tp) : Fl × Tp → S ⊕ V → Prop := fun p s => match s with
  | .inl s => ∃ r, p = (.nx r, τ s) ∧ Mat (P s) r
  | .inr v => p = (.rt (mk v), tv v)
variable {mk : V → VD} {tv : V → Tp}
theorem forR_sim {yb : A → S → Rt (Lp S V)} (hg : ∀ x, gg (e x) = some (ms x)) (hb : ∀ x s r, Mat (setP (P s) (ms x)) r → Sim E ((w r (τ s)).bind Rs.ok) (yb x s) (RR P τ mk tv)) : ∀ (xs : List A) (s : S) (r : Env), Mat (P s) r → Sim E (forD gg w (xs.map e) r (τ s)) (forR xs s yb) (RS' P τ mk tv)
  | [], s, r, m => ⟨_, rfl, r, rfl, m⟩
  | x :: xs, s, r, m => by
    rw [List.map_cons]
    unfold forD forR
    rw [hg x]
    show Sim E ((w (setE r (ms x)) (τ s)).bind _) _ _
    have h := hb x s _ m.setP
    rw [bind_id] at h
    refine Sim.bind h (fun _ _ h => h) fun q s' hq => ?_
    cases s' with
    | nx s' =>
      obtain ⟨r', hq, m'⟩ := hq
      rcases hq with rfl | rfl <;> exact forR_sim hg hb xs s' r' m'
    | bk s' =>
      obtain ⟨r', rfl, m'⟩ := hq
      exact ⟨_, rfl, r', rfl, m'⟩
    | rt v =>
      have hq : q = _ := hq
      subst hq
      exact ⟨_, rfl, rfl⟩
theorem s_forR {yb : A → S → Rt (Lp S V)} {z : S ⊕ V → Rt B} (P : S → Pat) (τ : S → Tp) (s0 : S) (hT : τ s0 = T) (mk : V → VD) (tv : V → Tp) (m : Mat (P s0) r) (hi : Pur it r (xs.map e)) (hg : ∀ x, gg (e x) = some (ms x)) (hb : ∀ x s r, Mat (setP (P s) (ms x)) r → Sim E ((w r (τ s)).bind Rs.ok) (yb x s) (RR P τ mk tv)) (k : ∀ s r, Mat (P s) r → Sim E (K (.nx r, τ s)) (z (.inl s)) R) (kr : ∀ v, Sim E (K (.rt (mk v), tv v)) (z (.inr v)) R) : Sim E ((sFor it gg w r T).bind K) ((forR xs s0 yb).bind z) R := by
  subst hT
  rw [sFor_ap, hi, Rs.bind_ok]
  refine Sim.bind (forR_sim hg hb xs s0 r m) (fun _ _ h => h) fun q s hq => ?_
  cases s with
  | inl s =>
    obtain ⟨r', rfl, m'⟩ := hq
    exact k s r' m'
  | inr v =>
    rw [show q = _ from hq]
    exact kr v
/-- the ends of a body -/
theorem x_nx {s : S} (m : Mat (P s) r) (hT : τ s = T) : Sim E (Rs.ok (Fl.nx r, T)) (.ok s) (RC P τ) := ⟨_, rfl, r, .inl (by rw [hT]), m⟩
theorem x_nxL {s : S} (m : Mat (P s) r) (hT : τ s = T) : Sim E (Rs.ok (Fl.nx r, T)) (.ok s) (RL P τ) := ⟨_, rfl, r, by rw [hT], m⟩
theorem x_nxB {s : S} (m : Mat (P s) r) (hT : τ s = T) : Sim E (Rs.ok (Fl.nx r, T)) (.ok (false, s)) (RB P τ) := ⟨_, rfl, r, .inl ⟨rfl, .inl (by rw [hT])⟩, m⟩
theorem x_bkB {s : S} (m : Mat (P s) r) (hT : τ s = T) : Sim E (Rs.ok (Fl.bk r, T)) (.ok (true, s)) (RB P τ) := ⟨_, rfl, r, .inr ⟨rfl, by rw [hT]⟩, m⟩
theorem x_nxR {s : S} (m : Mat (P s) r) (hT : τ s = T) : Sim E (Rs.ok (Fl.nx r, T)) (.ok (.nx s)) (RR P τ mk tv) := ⟨_, rfl, r, .inl (by rw [hT]), m⟩
theorem x_ctR {s : S} (m : Mat (P s) r) (hT : τ s = T) : Sim E (Rs.ok (Fl.ct r, T)) (.ok (.nx s)) (RR P τ mk tv) := ⟨_, rfl, r, .inr (by rw [hT]), m⟩
theorem x_rtR {v : V} {w : VD} (hw : mk v = w) (hT : tv v = T) : Sim E (Rs.ok (Fl.rt w, T)) (.ok (.rt v)) (RR P τ mk tv) := ⟨_, rfl, by rw [← hw, ← hT]; rfl⟩
/-- two ways that come together -/
theorem s_join {w : DS} {y : Rt S} {z : S → Rt B} (P : S → Pat) (τ : S → Tp) (h : Sim E ((w r T).bind Rs.ok) y (RL P τ)) (k : ∀ s r, Mat (P s) r → Sim E (K (.nx r, τ s)) (z s) R) : Sim E ((w r T).bind K) (y.bind z) R := by
  rw [bind_id] at h
  refine Sim.bind h (fun _ _ h => h) fun q s ⟨r', hq, m'⟩ => ?_
  rw [hq]
  exact k s r' m'
end
/-! things that change -/
section
variable {A A1 B V : Type} {E : EX} {R : A1 → B → Prop} {K : D × Env × Tp → Rs A1} {KS : Fl × Tp → Rs A1} {r : Env} {T : Tp} {p : Pat} {i j : Nat} {is : D → Bool} {mo : D → List D → Option (D × D)} {ga : DA} {f : DEm} {d x : D} {ds : List D} {w : Rt V} {z : V → Rt B} {dn xv : V → D} {y : Rt B}
theorem m_mut (m : Mat p r) (hi : p[i]? = some (.is (.own d))) (hs : is d = true) (hg : Pur ga r ds) (ho : PrimO (mo d ds) w (fun a => (dn a, xv a))) (hq : Quit w) (k : ∀ a r', Mat (p.set i (.is (.own (dn a)))) r' → Sim E (K (xv a, r', T)) (z a) R) : Sim E ((eMut i is mo ga r T).bind K) (w.bind z) R := by
  rw [eMut_ap, m.get hi, ownK_own, if_pos hs, hg T, Rs.bind_ok, Rs.assoc]
  refine ho.go hq fun a _ => ?_
  exact k a _ (m.set i _)
theorem plug_mut {k : DE} {ga' : VD → DA} (m : Mat p r) (hi : p[i]? = some (.is (.own d))) (hs : is d = true) (h : Plug ga k ga' r) : Plug (eMut i is mo ga) k (fun v => eMut i is mo (ga' v)) r := .mk fun T K => by
  simp only [eMut_ap, m.get hi, ownK_own, if_pos hs]
  exact (plug_ga h).eq T K
theorem s_dropM (h : Sim E ((f r T).bind fun q => KS (.nx q.2.1, q.2.2)) y R) : Sim E ((sDropM f r T).bind KS) y R := by
  rw [sDropM_ap, Rs.assoc]
  exact h
theorem s_setI {so : D → D → D → Option D} {fi fe : DE} {kk : D} (m : Mat p r) (hi : p[i]? = some (.is (.own d))) (he : Pv fe r x) (hk : Pd fi r kk) (ho : PrimO (so d kk x) w dn) (hq : Quit w) (k : ∀ a r', Mat (p.set i (.is (.own (dn a)))) r' → Sim E (KS (.nx r', T)) (z a) R) : Sim E ((sSetI i so fi fe r T).bind KS) (w.bind z) R := by
  rw [sSetI_ap, he T, Rs.bind_ok]
  show Sim E ((ownK _ r[i]?).bind KS) _ R
  rw [m.get hi, ownK_own]
  show Sim E (((dt (fi r T)).bind _).bind KS) _ R
  rw [hk T, Rs.bind_ok]
  show Sim E (((rO (so d kk x)).bind _).bind KS) _ R
  rw [Rs.assoc]
  refine ho.go hq fun a _ => ?_
  exact k a _ (m.set i _)
theorem plug_setE {so : D → D → D → Option D} {fi fe k : DE} {f' : VD → DE} (h : Plug fe k f' r) : Plug (sSetI i so fi fe) k (fun v => sSetI i so fi (f' v)) r := .mk fun T K => plug_dv h T _ K
/-- one part of a statement -/
theorem plug_asg {e k : DE} {f' : VD → DE} (h : Plug e k f' r) : Plug (sAsg i e) k (fun v => sAsg i (f' v)) r := .mk fun T K => by
  rw [sAsg_ap, Rs.assoc, h.eq T]
  congr 1
  funext q
  show _ = Rs.bind (sAsg i (f' q.1) r q.2) K
  rw [sAsg_ap, Rs.assoc]
theorem plug_asgG {g : DG} {e k : DE} {f' : VD → DE} (h : Plug e k f' r) : Plug (sAsgG g e) k (fun v => sAsgG g (f' v)) r := .mk fun T K => plug_dv h T _ K
theorem plug_ret {e k : DE} {f' : VD → DE} (h : Plug e k f' r) : Plug (sRet e) k (fun v => sRet (f' v)) r := .mk fun T K => by
  rw [sRet_ap, Rs.assoc, h.eq T]
  congr 1
  funext q
  show _ = Rs.bind (sRet (f' q.1) r q.2) K
  rw [sRet_ap, Rs.assoc]
theorem plug_drop {e k : DE} {f' : VD → DE} (h : Plug e k f' r) : Plug (sDrop e) k (fun v => sDrop (f' v)) r := .mk fun T K => plug_dt h T _ K
theorem plug_for {it : DI} {gg : DG} {w : DS} {k : DE} {it' : VD → DI} (h : Plug it k it' r) : Plug (sFor it gg w) k (fun v => sFor (it' v) gg w) r := .mk fun T K => by
  rw [sFor_ap, Rs.assoc, h.eq T]
  congr 1
  funext q
  show _ = Rs.bind (sFor (it' q.1) gg w r q.2) K
  rw [sFor_ap, Rs.assoc]
end
section
variable {A B : Type} {E : EX} {r : Env} {T : Tp} {it : DI} {gg : DG} {w : DS} {R : A → B → Prop} {K : Fl × Tp → Rs A} {ga : DA} {ds : List D} {lo hi : Int}
/-- a range, its ends in bounds -/
noncomputable def rng (lo hi : Int) : Rt (List Int) := @ite _ (-8000000 ≤ lo ∧ lo ≤ 8000000 ∧ -8000000 ≤ hi ∧ hi ≤ 8000000) (Classical.propDecidable _) (.ok ((List.range (hi - lo).toNat).map fun (i : Nat) => lo + i)) .stuck
def rngL (lo hi : Int) : List Int := (List.range (hi - lo).toNat).map fun (i : Nat) => lo + i
theorem rngD_rngL : rngD lo (hi - lo).toNat = (rngL lo hi).map D.int := by
  unfold rngD rngL
  rw [List.map_map]
  rfl
def csti (ds : List D) : DI := fun _ T => .ok (ds, T)
theorem q_csti {ds : List D} : Pur (csti ds) r ds := fun _ => rfl
theorem h_rng {K : List D × Tp → Rs A} {z : List Int → Rt B} (hg : Pur ga r ds) (h : argR ds = .ok (lo, hi)) (k : ∀ xs, Sim E (K (xs.map D.int, T)) (z xs) R) : Sim E ((iRng ga r T).bind K) ((rng lo hi).bind z) R := by
  unfold rng
  by_cases hb : -8000000 ≤ lo ∧ lo ≤ 8000000 ∧ -8000000 ≤ hi ∧ hi ≤ 8000000
  · rw [if_pos hb, q_rng (a := .non) (b := .non) hg h hb T, rngD_rngL]
    exact k _
  · rw [if_neg hb]
    trivial
/-- a for over what it gives -/
theorem s_for1 {y : Rt B} (h : Sim E ((it r T).bind fun q => (sFor (csti q.1) gg w r q.2).bind K) y R) : Sim E ((sFor it gg w r T).bind K) y R := by
  rw [sFor_ap, Rs.assoc]
  exact h
theorem s_lc1 {K : VD × Tp → Rs A} {vs : List Nat} {c : DT} {f : DE} {y : Rt B} (h : Sim E ((it r T).bind fun q => (eLc vs (csti q.1) gg c f r q.2).bind K) y R) : Sim E ((eLc vs it gg c f r T).bind K) y R := by
  rw [eLc_ap, Rs.assoc]
  exact h
end
/-- a def -/
theorem t_run {n : Nat} {io : Bool} {g : DS} {ds : List D} {T : Tp} {B : Type} {y : Rt B} {R : VD × Tp → B → Prop} (h : ∀ r, Mat (patOf (env0 n io ds)) r → Sim ET ((g r T).bind endK) y R) : Sim ET (runD n io g ds T) y R := by
  rw [runD_ap]
  exact h _ (mat_of _)
end Pu
namespace Pu
open PySem L2
/-! # kinds of data, typed -/
abbrev eI : Int → D := D.int
abbrev eB : Bool → D := D.bl
abbrev eN : Unit → D := fun _ => .non
def eO {A : Type} (e : A → D) : Option A → D
  | none => .non
  | some a => e a
@[simp] theorem eO_none {A : Type} (e : A → D) : eO e none = .non := rfl
@[simp] theorem eO_some {A : Type} (e : A → D) (a : A) : eO e (some a) = e a := rfl
abbrev eL {A : Type} (e : A → D) (xs : List A) : D := .lst (xs.map e)
abbrev eU {A : Type} (e : A → D) (xs : List A) : D := .tup (xs.map e)
abbrev eT (xs : List Int) : D := .tpl xs
abbrev eScr (xs : List Int) : D := .scr xs
abbrev e1 {A : Type} (a : A → D) (p : A) : D := .tup [a p]
abbrev e2 {A B : Type} (a : A → D) (b : B → D) (p : A × B) : D := .tup [a p.1, b p.2]
abbrev e3 {A B C : Type} (a : A → D) (b : B → D) (c : C → D) (p : A × B × C) : D := .tup [a p.1, b p.2.1, c p.2.2]
abbrev e4 {A B C X : Type} (a : A → D) (b : B → D) (c : C → D) (d : X → D) (p : A × B × C × X) : D := .tup [a p.1, b p.2.1, c p.2.2.1, d p.2.2.2]
abbrev e5 {A B C X Y : Type} (a : A → D) (b : B → D) (c : C → D) (d : X → D) (f : Y → D) (p : A × B × C × X × Y) : D := .tup [a p.1, b p.2.1, c p.2.2.1, d p.2.2.2.1, f p.2.2.2.2]
abbrev eK {A B : Type} (t : Bool) (e : A → D) (f : B → D) (kvs : List (A × B)) : D := .dct t (kvs.map fun p => (e p.1, f p.2))
/-! ## equal -/
def memB {A : Type} [DecidableEq A] (a : A) (xs : List A) : Bool := decide (a ∈ xs)
@[simp] theorem memB_iff {A : Type} [DecidableEq A] {a : A} {xs : List A} : memB a xs = true ↔ a ∈ xs := by simp [memB]
@[simp] theorem memB_no {A : Type} [DecidableEq A] {a : A} {xs : List A} : memB a xs = false ↔ a ∉ xs := by simp [memB]
section
variable {A B C X : Type} [DecidableEq A] [DecidableEq B] [DecidableEq C] [DecidableEq X] {n m : Nat} {e : A → D} {f : B → D} {g : C → D} {h : X → D}
theorem enc_I : Enc 0 eI := enc_int
theorem enc_B : Enc 0 eB := enc_bl
theorem enc_L (h : Enc n e) : Enc (n + 1) (eL e) := enc_lst h
theorem enc_U (h : Enc n e) : Enc (n + 1) (eU e) := enc_tup h
theorem enc_2 (k : Enc n e) (l : Enc n f) : Enc (n + 1) (e2 e f) := enc_pair k l
theorem q_eq (k : Enc n e) (a b : A) (hn : Nat.ble n 40 = true) : dEq (e a) (e b) = .ok (.val (.bl (decide (a = b)))) := dEq_enc k a b (Nat.le_of_ble_eq_true hn)
theorem q_ne (k : Enc n e) (a b : A) (hn : Nat.ble n 40 = true) : dNe (e a) (e b) = .ok (.val (.bl (!decide (a = b)))) := dNe_enc k a b (Nat.le_of_ble_eq_true hn)
theorem q_ninL' (k : Enc n e) (a : A) (xs : List A) (hn : Nat.ble n 39 = true) : dNinA (e a) (eL e xs) = .ok (.val (.bl (!decide (a ∈ xs)))) := dNinS_encL k a xs (Nat.le_of_ble_eq_true hn)
theorem q_ninL (k : Enc n e) (a : A) (xs : List A) (hn : Nat.ble n 39 = true) : dNinA (e a) (eL e xs) = .ok (.val (.bl (!memB a xs))) := q_ninL' k a xs hn
end
/-! ## less -/
structure Ord {A : Type} [DecidableEq A] (n : Nat) (e : A → D) (lt : A → A → Bool) : Prop where
  enc : Enc n e
  lt : ∀ a b, PySem.W.dataLt (py (e a)) (py (e b)) = lt a b
  al : ∀ a b, PySem.W.alike (py (e a)) (py (e b)) = true
/-- an order in which of two unlike ones just one is the less -/
structure Lin {A : Type} (lt : A → A → Bool) : Prop where
  irr : ∀ a, lt a a = false
  tr : ∀ a b c, lt a b = true → lt b c = true → lt a c = true
  tot : ∀ a b, a ≠ b → lt a b = true ∨ lt b a = true
def ltI (a b : Int) : Bool := decide (a < b)
def ltP {A B : Type} [DecidableEq A] (f : A → A → Bool) (g : B → B → Bool) (p q : A × B) : Bool := if p.1 = q.1 then g p.2 q.2 else f p.1 q.1
def ltL {A : Type} [DecidableEq A] (f : A → A → Bool) : List A → List A → Bool
  | [], [] => false
  | [], _ :: _ => true
  | _ :: _, [] => false
  | x :: xs, y :: ys => if x = y then ltL f xs ys else f x y
theorem lin_I : Lin ltI := ⟨fun a => by simp [ltI], fun a b c => by simp [ltI]; omega, fun a b h => by simp [ltI]; omega⟩
theorem lin_P {A B : Type} [DecidableEq A] {f : A → A → Bool} {g : B → B → Bool} (h : Lin f) (k : Lin g) : Lin (ltP f g) := ⟨fun a => by simp [ltP, k.irr], fun a b c u v => by
  unfold ltP at *
  by_cases h1 : a.1 = b.1 <;> by_cases h2 : b.1 = c.1
  · rw [if_pos h1] at u
    rw [if_pos h2] at v
    rw [if_pos (h1.trans h2)]
    exact k.tr _ _ _ u v
  · rw [if_neg h2] at v
    rw [if_neg (fun z => h2 (h1.symm.trans z)), h1]
    exact v
  · rw [if_neg h1] at u
    rw [if_neg (fun z => h1 (z.trans h2.symm)), ← h2]
    exact u
  · rw [if_neg h1] at u
    rw [if_neg h2] at v
    have w := h.tr _ _ _ u v
    rw [if_neg fun z => by rw [z, h.irr] at w; cases w]
    exact w, fun a b n => by
  unfold ltP
  by_cases h1 : a.1 = b.1
  · rw [if_pos h1, if_pos h1.symm]
    exact k.tot _ _ fun z => n (Prod.ext h1 z)
  · rw [if_neg h1, if_neg fun z => h1 z.symm]
    exact h.tot _ _ h1⟩
theorem ltL_irr {A : Type} [DecidableEq A] {f : A → A → Bool} : ∀ a : List A, ltL f a a = false
  | [] => rfl
  | x :: xs => by rw [ltL, if_pos rfl, ltL_irr xs]
theorem ltL_tr {A : Type} [DecidableEq A] {f : A → A → Bool} (h : Lin f) : ∀ a b c : List A, ltL f a b = true → ltL f b c = true → ltL f a c = true
  | [], [], _, u, _ => by simp [ltL] at u
  | [], _ :: _, [], _, v => by simp [ltL] at v
  | [], _ :: _, _ :: _, _, _ => rfl
  | _ :: _, [], _, u, _ => by simp [ltL] at u
  | _ :: _, _ :: _, [], _, v => by simp [ltL] at v
  | x :: a, y :: b, z :: c, u, v => by
    rw [ltL] at *
    by_cases h1 : x = y <;> by_cases h2 : y = z
    · rw [if_pos h1] at u
      rw [if_pos h2] at v
      rw [if_pos (h1.trans h2)]
      exact ltL_tr h _ _ _ u v
    · rw [if_neg h2] at v
      rw [if_neg (fun w => h2 (h1.symm.trans w)), h1]
      exact v
    · rw [if_neg h1] at u
      rw [if_neg (fun w => h1 (w.trans h2.symm)), ← h2]
      exact u
    · rw [if_neg h1] at u
      rw [if_neg h2] at v
      have w := h.tr _ _ _ u v
      rw [if_neg fun q => by rw [q, h.irr] at w; cases w]
      exact w
theorem ltL_tot {A : Type} [DecidableEq A] {f : A → A → Bool} (h : Lin f) : ∀ a b : List A, a ≠ b → ltL f a b = true ∨ ltL f b a = true
  | [], [], n => absurd rfl n
  | [], _ :: _, _ => .inl rfl
  | _ :: _, [], _ => .inr rfl
  | x :: a, y :: b, n => by
    rw [ltL, ltL]
    by_cases h1 : x = y
    · rw [if_pos h1, if_pos h1.symm]
      exact ltL_tot h a b fun z => n (by rw [h1, z])
    · rw [if_neg h1, if_neg fun z => h1 z.symm]
      exact h.tot _ _ h1
theorem lin_L {A : Type} [DecidableEq A] {f : A → A → Bool} (h : Lin f) : Lin (ltL f) := ⟨ltL_irr, ltL_tr h, ltL_tot h⟩
/-- in order -/
def srt {A : Type} (lt : A → A → Bool) (xs : List A) : List A := xs.mergeSort fun a b => !lt b a
section
variable {A : Type} {lt : A → A → Bool}
theorem Lin.le_tr (h : Lin lt) (a b c : A) (u : (!lt b a) = true) (v : (!lt c b) = true) : (!lt c a) = true := by
  rw [Bool.not_eq_true'] at *
  cases q : lt c a with
  | false => rfl
  | true =>
    by_cases e : a = b
    · subst e
      rw [q] at v
      cases v
    · rcases h.tot a b e with z | z
      · rw [h.tr _ _ _ q z] at v
        cases v
      · rw [z] at u
        cases u
theorem Lin.le_tot (h : Lin lt) (a b : A) : (!lt b a || !lt a b) = true := by
  cases q : lt b a with
  | false => rfl
  | true =>
    cases w : lt a b with
    | false => rfl
    | true =>
      have := h.tr _ _ _ q w
      rw [h.irr] at this
      cases this
theorem Lin.le_anti (h : Lin lt) {a b : A} (u : (!lt b a) = true) (v : (!lt a b) = true) : a = b := by
  by_cases e : a = b
  · exact e
  · rw [Bool.not_eq_true'] at u v
    rcases h.tot a b e with z | z
    · rw [z] at v; cases v
    · rw [z] at u; cases u
theorem srt_perm (xs : List A) : (srt lt xs).Perm xs := List.mergeSort_perm _ _
theorem srt_mem {xs : List A} {x : A} : x ∈ srt lt xs ↔ x ∈ xs := (srt_perm xs).mem_iff
@[simp] theorem srt_length (xs : List A) : (srt lt xs).length = xs.length := (srt_perm xs).length_eq
theorem srt_sorted (h : Lin lt) (xs : List A) : (srt lt xs).Pairwise fun a b => (!lt b a) = true := List.pairwise_mergeSort h.le_tr h.le_tot xs
theorem srt_unq (h : Lin lt) {xs ys : List A} (p : xs.Perm ys) (h1 : xs.Pairwise fun a b => (!lt b a) = true) (h2 : ys.Pairwise fun a b => (!lt b a) = true) : xs = ys := List.Perm.eq_of_pairwise (fun a b _ _ u k => h.le_anti u k) h1 h2 p
theorem srt_congr (h : Lin lt) {xs ys : List A} (p : xs.Perm ys) : srt lt xs = srt lt ys := srt_unq h ((srt_perm xs).trans (p.trans (srt_perm ys).symm)) (srt_sorted h _) (srt_sorted h _)
end
section
variable {A B C X : Type} [DecidableEq A] [DecidableEq B] [DecidableEq C] [DecidableEq X] {n : Nat} {e : A → D} {f : B → D} {g : C → D} {lt : A → A → Bool} {lu : B → B → Bool} {lv : C → C → Bool}
open PySem.W in
theorem ord_I : Ord 0 eI ltI := ⟨enc_I, fun a b => by rw [py_int, py_int, dataLt_int]; rfl, fun a b => by simp [alike]⟩
open PySem.W in
theorem rowLt_nil : PyProof.Rows.lexLt PyProof.Rows.itemOrd (keyToksAll []) (keyToksAll []) = false := PyProof.Rows.lex_irrefl _
open PySem.W in
theorem rowLt_cons (k : Ord n e lt) (a b : A) (xs ys : List PyData) : PyProof.Rows.lexLt PyProof.Rows.itemOrd (keyToksAll (py (e a) :: xs)) (keyToksAll (py (e b) :: ys)) = if a = b then PyProof.Rows.lexLt PyProof.Rows.itemOrd (keyToksAll xs) (keyToksAll ys) else lt a b := by
  rw [dataLt_cons (k.al a b), k.enc.eq, k.lt]
  by_cases q : a = b <;> simp [q]
open PySem.W in
theorem ord_2 (k : Ord n e lt) (l : Ord n f lu) (hu : Lin lu) : Ord (n + 1) (e2 e f) (ltP lt lu) := ⟨enc_2 k.enc l.enc, fun p q => by
  rw [py_tup, py_tup, dataLt_tuple]
  simp only [List.map_cons, List.map_nil]
  rw [rowLt_cons k, rowLt_cons l, rowLt_nil]
  unfold ltP
  by_cases h1 : p.1 = q.1
  · rw [if_pos h1, if_pos h1]
    by_cases h2 : p.2 = q.2
    · rw [if_pos h2, h2, hu.irr]
    · rw [if_neg h2]
  · rw [if_neg h1, if_neg h1], fun p q => by
  rw [py_tup, py_tup]
  simp [alike, alikeAll, k.al, l.al]⟩
open PySem.W in
theorem rowLt_all (k : Ord n e lt) : ∀ xs ys : List A, PyProof.Rows.lexLt PyProof.Rows.itemOrd (keyToksAll ((xs.map e).map py)) (keyToksAll ((ys.map e).map py)) = ltL lt xs ys
  | [], [] => rowLt_nil
  | [], y :: ys => by
    rw [List.map_cons, List.map_cons, toks_all_cons]
    simp only [keyToksAll, List.map_nil]
    rw [PyProof.Rows.lex_diff (O := PyProof.Rows.itemOrd) (by simp)]
    rfl
  | x :: xs, [] => by
    rw [List.map_cons, List.map_cons, toks_all_cons]
    simp only [keyToksAll, List.map_nil]
    rw [PyProof.Rows.lex_diff (O := PyProof.Rows.itemOrd) (by simp)]
    rfl
  | x :: xs, y :: ys => by
    rw [List.map_cons, List.map_cons, List.map_cons, List.map_cons, rowLt_cons k, rowLt_all k xs ys]
    rfl
open PySem.W in
theorem alike_all (k : Ord n e lt) : ∀ xs ys : List A, alikeAll ((xs.map e).map py) ((ys.map e).map py) = true
  | [], _ => by simp [alikeAll]
  | _ :: _, [] => by simp [alikeAll]
  | x :: xs, y :: ys => by
    rw [List.map_cons, List.map_cons, List.map_cons, List.map_cons, alikeAll, k.al, alike_all k xs ys]
    rfl
open PySem.W in
theorem ord_U (k : Ord n e lt) : Ord (n + 1) (eU e) (ltL lt) := ⟨enc_U k.enc, fun p q => by
  rw [py_tup, py_tup, dataLt_tuple, rowLt_all k], fun p q => by
  rw [py_tup, py_tup, alike, alike_all k]⟩
/-! sorted -/
theorem srtd_ord (k : Ord n e lt) (xs : List A) : srtd (xs.map e) = (srt lt xs).map e := by
  unfold srtd srt
  refine (List.map_mergeSort (r := fun a b => !lt b a) fun a _ b _ => ?_).symm
  show (!lt b a) = !PySem.W.dataLt (py (e b)) (py (e a))
  rw [k.lt]
/-- sorted, of tuples of any length: none of them empty -/
def srtG (lt : A → A → Bool) (xs : List (List A)) : Rt (List (List A)) := if ∀ x ∈ xs, x ≠ [] then .ok (srt (ltL lt) xs) else .stuck
theorem p_srtU (k : Ord n e lt) (xs : List (List A)) (hn : Nat.ble (n + 1) 30 = true) : Prim (bSorted [eL (eU e) xs]) (srtG lt xs) (fun ys => .own (eL (eU e) ys)) := by
  intro ys h
  unfold srtG at h
  by_cases c : ∀ x ∈ xs, x ≠ []
  · rw [if_pos c] at h
    cases h
    show bSorted [.lst (xs.map (eU e))] = _
    have ok : SrtOk (xs.map (eU e)) := by
      refine ⟨fun d hd => ?_, allAlike_map _ (ord_U k).al xs, .inl fun d hd => ?_⟩
      · obtain ⟨a, _, rfl⟩ := List.mem_map.mp hd
        exact pl_up (Nat.le_of_ble_eq_true hn) ((ord_U k).enc.pl a)
      · rw [List.map_map] at hd
        obtain ⟨a, ha, rfl⟩ := List.mem_map.mp hd
        cases a with
        | nil => exact absurd rfl (c _ ha)
        | cons x xs => exact ⟨_, _, by show py (eU e _) = _; rw [py_tup]; rfl⟩
    rw [bSorted_l, if_pos ok, srtd_ord (ord_U k)]
  · rw [if_neg c] at h
    cases h
end
/-! ## operations that may fail -/
section
variable {A B : Type} {e : A → D} {f : B → D}
def idx (xs : List A) (i : Int) : Rt A := match atI xs i with
  | some a => .ok a
  | none => .stuck
theorem quit_idx {xs : List A} {i : Int} : Quit (idx xs i) := by
  unfold idx
  split
  · exact quit_ok
  · exact quit_stuck
theorem idx_ok {xs : List A} {i : Int} {a : A} (h : atI xs i = some a) : idx xs i = .ok a := by unfold idx; rw [h]
theorem idx_inv {xs : List A} {i : Int} {a : A} (h : idx xs i = .ok a) : atI xs i = some a := by
  unfold idx at h
  split at h
  · cases h; assumption
  · cases h
theorem p_idxL {xs : List A} {i : Int} : Prim (dIxA (eL e xs) (.int i)) (idx xs i) (fun a => .val (e a)) := fun a h => by
  show dIxA (.lst (xs.map e)) (.int i) = _
  rw [dIxA_l, atI_map, idx_inv h]
  rfl
theorem p_idxU {xs : List A} {i : Int} : Prim (dIxA (eU e xs) (.int i)) (idx xs i) (fun a => .val (e a)) := fun a h => by
  show dIxA (.tup (xs.map e)) (.int i) = _
  rw [dIxA_t, atI_map, idx_inv h]
  rfl
theorem q_fix {ds : List D} {i : Int} {d : D} (h : atI ds i = some d) : dIxA (.tup ds) (.int i) = .ok (.val d) := by
  rw [dIxA_t, h]
  rfl
def cat (xs ys : List A) : Rt (List A) := if xs.length + ys.length ≤ 16000000 then .ok (xs ++ ys) else .stuck
theorem quit_cat {xs ys : List A} : Quit (cat xs ys) := quit_if quit_ok quit_stuck
theorem cat_ok {xs ys : List A} (h : xs.length + ys.length ≤ 16000000) : cat xs ys = .ok (xs ++ ys) := if_pos h
theorem p_catL {xs ys : List A} : Prim (dAddA (eL e xs) (eL e ys)) (cat xs ys) (fun a => .own (eL e a)) := fun a h => by
  unfold cat at h
  split at h
  · rename_i c
    cases h
    show dAddI (.lst _) (.lst _) = _
    rw [dAddI_ll, if_pos (by simpa using c), ← List.map_append]
  · cases h
theorem p_catU {xs ys : List A} : Prim (dAddA (eU e xs) (eU e ys)) (cat xs ys) (fun a => .val (eU e a)) := fun a h => by
  unfold cat at h
  split at h
  · rename_i c
    cases h
    show dAddI (.tup _) (.tup _) = _
    rw [dAddI_tt, if_pos (by simpa using c), ← List.map_append]
  · cases h
def push (xs : List A) (x : A) : Rt (List A) := if xs.length < 16000000 then .ok (xs ++ [x]) else .stuck
theorem quit_push {xs : List A} {x : A} : Quit (push xs x) := quit_if quit_ok quit_stuck
theorem push_ok {xs : List A} {x : A} (h : xs.length < 16000000) : push xs x = .ok (xs ++ [x]) := if_pos h
theorem p_push {xs : List A} {x : A} : PrimO (mAppend (eL e xs) [e x]) (push xs x) (fun l => (eL e l, .non)) := fun l h => by
  unfold push at h
  split at h
  · rename_i c
    cases h
    show mAppend (.lst _) _ = _
    rw [mAppend_l, if_pos (by simpa using c)]
    show _ = some (D.lst ((xs ++ [x]).map e), D.non)
    rw [List.map_append]
    rfl
  · cases h
def ext (xs ys : List A) : Rt (List A) := if xs.length + ys.length ≤ 16000000 then .ok (xs ++ ys) else .stuck
def setAt (xs : List A) (i : Int) (x : A) : Rt (List A) := match ixN xs.length i with
  | some j => .ok (xs.set j x)
  | none => .stuck
theorem quit_setAt {xs : List A} {i : Int} {x : A} : Quit (setAt xs i x) := by
  unfold setAt
  split
  · exact quit_ok
  · exact quit_stuck
theorem p_setAt {xs : List A} {i : Int} {x : A} : PrimO (setA (eL e xs) (.int i) (e x)) (setAt xs i x) (fun l => eL e l) := fun l h => by
  unfold setAt at h
  split at h
  · rename_i j c
    cases h
    show setA (.lst _) _ _ = _
    rw [setA_l, List.length_map, c]
    show some (D.lst ((xs.map e).set j (e x))) = some (D.lst ((xs.set j x).map e))
    rw [List.map_set]
  · cases h
def insAt (xs : List A) (i : Int) (x : A) : Rt (List A) := if xs.length < 16000000 ∧ 0 ≤ i ∧ i < 2 ^ 63 then .ok (xs.take i.toNat ++ [x] ++ xs.drop i.toNat) else .stuck
theorem quit_insAt {xs : List A} {i : Int} {x : A} : Quit (insAt xs i x) := quit_if quit_ok quit_stuck
theorem p_insAt {xs : List A} {i : Int} {x : A} : PrimO (mInsert (eL e xs) [.int i, e x]) (insAt xs i x) (fun l => (eL e l, .non)) := fun l h => by
  unfold insAt at h
  split at h
  · rename_i c
    cases h
    show (if (xs.map e).length < 16000000 ∧ 0 ≤ i ∧ i < 2 ^ 63 then some (D.lst ((xs.map e).take i.toNat ++ [e x] ++ (xs.map e).drop i.toNat), D.non) else none) = _
    rw [if_pos (by simpa using c)]
    simp [List.map_take, List.map_drop]
  · cases h
def imul (i j : Int) : Rt Int := if (-(2 ^ 64) < i ∧ i < 2 ^ 64) ∨ (-(2 ^ 64) < j ∧ j < 2 ^ 64) then .ok (i * j) else .stuck
abbrev mI : Int → VD := fun a => .val (.int a)
theorem quit_imul {i j : Int} : Quit (imul i j) := quit_if quit_ok quit_stuck
theorem prim_if {V : Type} {p : Prop} [Decidable p] {x : VD} {a : V} {mk : V → VD} (h : x = mk a) : Prim (if p then Rs.ok x else .stuck) (if p then .ok a else .stuck) mk := fun b q => by
  by_cases c : p
  · rw [if_pos c] at q ⊢
    cases q
    rw [h]
  · rw [if_neg c] at q
    cases q
theorem p_imul {i j : Int} : Prim (dMulA (.int i) (.int j)) (imul i j) mI := prim_if rfl
theorem q_divL {i j : Int} (h : decide (0 < j ∧ j < 1073741824) = true) : dDiv (.int i) (.int j) = .ok (.val (.int (i / j))) := if_pos (of_decide_eq_true h)
def maxG (xs : List Int) : Rt Int := match xs.max? with
  | some m => .ok m
  | none => .stuck
theorem quit_maxG {xs : List Int} : Quit (maxG xs) := by
  unfold maxG
  split
  · exact quit_ok
  · exact quit_stuck
theorem p_maxL {xs : List Int} : Prim (bMax [eL eI xs]) (maxG xs) mI := fun a h => by
  unfold maxG at h
  split at h
  · rename_i m c
    cases h
    show bMax [.lst _] = _
    rw [bMax_l, ints_map]
    show ((rO xs.max?).bind _) = _
    rw [c]
    rfl
  · cases h
theorem q_max2 {i j : Int} : bMax [.int i, .int j] = .ok (.val (.int (max i j))) := by
  rw [bMax_2]
  congr 3
  rw [Int.max_def]
  split <;> split <;> omega
theorem q_min2 {i j : Int} : bMin [.int i, .int j] = .ok (.val (.int (min i j))) := by
  rw [bMin_2]
  congr 3
  rw [Int.min_def]
  split <;> split <;> omega
/-! that never fail -/
theorem q_lenL {xs : List A} : bLenA [eL e xs] = .ok (.val (.int xs.length)) := by
  show bLenA [.lst _] = _
  rw [bLenA_l, List.length_map]
theorem q_lenU {xs : List A} : bLenA [eU e xs] = .ok (.val (.int xs.length)) := by
  show bLenA [.tup _] = _
  rw [bLenA_t, List.length_map]
theorem bls_map : ∀ xs : List Bool, bls (xs.map D.bl) = some xs
  | [] => rfl
  | x :: xs => by rw [List.map_cons, bools_cons, bls_map xs]; rfl
theorem q_allL {xs : List Bool} : bAll [eL eB xs] = .ok (.val (.bl (xs.all id))) := by
  show bAll [.lst _] = _
  rw [bAll_l, bls_map]
  rfl
/-! index -/
/-! enumerate, zip -/
def enuL : Nat → List A → List (Int × A)
  | _, [] => []
  | k, x :: xs => ((k : Int), x) :: enuL (k + 1) xs
theorem enuD_map : ∀ (k : Nat) (xs : List A), enumD k (xs.map e) = (enuL k xs).map (e2 eI e)
  | _, [] => rfl
  | k, x :: xs => by
    show D.tup [.int k, e x] :: enumD (k + 1) (xs.map e) = _
    rw [enuD_map (k + 1) xs]
    rfl
theorem enuL_len : ∀ (k : Nat) (xs : List A), (enuL k xs).length = xs.length
  | _, [] => rfl
  | k, x :: xs => by simp [enuL, enuL_len (k + 1) xs]
theorem enuL_get : ∀ (k i : Nat) (xs : List A), (enuL k xs)[i]? = xs[i]?.map fun x => (((k + i : Nat) : Int), x)
  | _, _, [] => rfl
  | k, 0, x :: xs => rfl
  | k, i + 1, x :: xs => by
    have := enuL_get (k + 1) i xs
    rw [show k + 1 + i = k + (i + 1) by omega] at this
    simpa [enuL] using this
theorem zipD_map : ∀ (xs : List A) (ys : List B), zipD (xs.map e) (ys.map f) = (xs.zip ys).map (e2 e f)
  | [], _ => by simp [zipD]
  | _ :: _, [] => by simp [zipD]
  | x :: xs, y :: ys => by
    show D.tup [e x, f y] :: zipD (xs.map e) (ys.map f) = _
    rw [zipD_map xs ys]
    rfl
theorem q_enI {g : DE} {r : Env} {d : D} {xs : List A} (hf : Pv g r d) (hs : seqD d = .ok (xs.map e)) : Pur (iEnu g) r ((enuL 0 xs).map (e2 eI e)) := by
  rw [← enuD_map]
  exact q_enuI hf hs
theorem q_enJ {g : DE} {r : Env} {d : D} {xs : List A} (hf : Pd g r d) (hs : seqD d = .ok (xs.map e)) : Pur (jEnu g) r ((enuL 0 xs).map (e2 eI e)) := by
  rw [← enuD_map]
  exact q_enuJ hf hs
theorem zipR_L {xs : List A} {ys : List B} : zipR (eL e xs) (eL f ys) = .ok ((xs.zip ys).map (e2 e f)) := by
  rw [← zipD_map]
  rfl
theorem q_rngL {ga : DA} {r : Env} {ds : List D} {lo hi : Int} (hg : Pur ga r ds) (h : argR ds = .ok (lo, hi)) (hb : decide (-8000000 ≤ lo ∧ lo ≤ 8000000 ∧ -8000000 ≤ hi ∧ hi ≤ 8000000) = true) : Pur (iRng ga) r ((rngL lo hi).map D.int) := by
  rw [← rngD_rngL]
  exact q_rng (a := .non) (b := .non) hg h (of_decide_eq_true hb)
/-! dicts, as rows of pairs -/
def aget [DecidableEq A] (kvs : List (A × B)) (k : A) : Option B := (kvs.find? fun p => decide (p.1 = k)).map (·.2)
def ahas [DecidableEq A] (kvs : List (A × B)) (k : A) : Bool := kvs.any fun p => decide (p.1 = k)
def akeys (kvs : List (A × B)) : List A := kvs.map (·.1)
/-- keys of a kind -/
structure KeyE [DecidableEq A] (t : Bool) (e : A → D) : Prop where
  inj : ∀ a b, e a = e b → a = b
  ok : ∀ a, KeyOk t (e a)
theorem key_I : KeyE false eI := ⟨fun a b h => by cases h; rfl, fun a => keyOk_i a⟩
variable [DecidableEq A] {t : Bool}
theorem look_map (h : KeyE t e) (k : A) : ∀ kvs : List (A × B), lookD (kvs.map fun p => (e p.1, f p.2)) (e k) = (aget kvs k).map f
  | [] => rfl
  | p :: kvs => by
    have ih := look_map h k kvs
    unfold lookD aget at *
    rw [List.map_cons, List.find?_cons, List.find?_cons]
    by_cases q : p.1 = k
    · simp [q]
    · have q2 : ¬ e p.1 = e k := fun z => q (h.inj _ _ z)
      simp only [q, q2, decide_false]
      exact ih
theorem any_map (h : KeyE t e) (k : A) : ∀ kvs : List (A × B), ((kvs.map fun p => (e p.1, f p.2)).any fun p => @decide (p.1 = e k) (Classical.propDecidable _)) = ahas kvs k
  | [] => rfl
  | p :: kvs => by
    have ih := any_map h k kvs
    unfold ahas at *
    rw [List.map_cons, List.any_cons, List.any_cons, ih]
    by_cases q : p.1 = k
    · simp [q]
    · have q2 : ¬ e p.1 = e k := fun z => q (h.inj _ _ z)
      simp [q, q2]
def dgetR (kvs : List (A × B)) (k : A) : Rt B := match aget kvs k with
  | some v => .ok v
  | none => .stuck
theorem quit_dgetR {kvs : List (A × B)} {k : A} : Quit (dgetR kvs k) := by
  unfold dgetR
  split
  · exact quit_ok
  · exact quit_stuck
theorem p_dget (h : KeyE t e) {kvs : List (A × B)} {k : A} : Prim (dIxA (eK t e f kvs) (e k)) (dgetR kvs k) (fun v => .val (f v)) := fun v q => by
  unfold dgetR at q
  split at q
  · rename_i w c
    cases q
    show dIxA (.dct _ _) _ = _
    rw [dIxA_d, if_pos (h.ok k), look_map h, c]
    rfl
  · cases q
theorem ahas_get {kvs : List (A × B)} {k : A} : ahas kvs k = (aget kvs k).isSome := by
  unfold ahas aget
  induction kvs with
  | nil => rfl
  | cons p kvs ih =>
    rw [List.any_cons, List.find?_cons]
    by_cases q : p.1 = k
    · simp [q]
    · simp only [q, decide_false]
      simpa using ih
theorem q_dIn (h : KeyE t e) {kvs : List (A × B)} {k : A} : dInA (e k) (eK t e f kvs) = .ok (.val (.bl (ahas kvs k))) := by
  show dInD (e k) (.dct _ _) = _
  unfold dInD
  dsimp only
  rw [if_pos (h.ok k), look_map h, ahas_get]
  simp
end
end Pu
namespace Pu
open PySem L2
/-! # more rules for what the printer writes -/
def lete {A B : Type} (a : A) (f : A → Rt B) : Rt B := f a
@[simp] theorem lete_eq {A B : Type} (a : A) (f : A → Rt B) : lete a f = f a := rfl
section
variable {A B V W : Type} {E : EX} {K : Fl × Tp → Rs A} {y : Rt B} {R : A → B → Prop} {r : Env} {T : Tp} {p : Pat} {f g : DS} {e : DE} {i : Nat} {d : D} {a : V} {z : V → Rt B}
theorem s_asgL (m : Mat p r) (mk : V → VD) (hf : Pur e r (mk a)) (hv : ∀ x (r : Env), put r i (mk x) = .ok (r.set i (some (mk x)))) (k : ∀ x r', Mat (p.set i (.is (mk x))) r' → Sim E (K (.nx r', T)) (z x) R) : Sim E ((sAsg i e r T).bind K) (lete a z) R := s_asg m hf (hv a) (k a)
theorem Mat.castO {d' : D} (m : Mat p r) (h : p[i]? = some (.is (.own d))) (e : d' = d) : Mat (p.set i (.is (.own d'))) r := by
  subst e
  have hi := (List.getElem?_eq_some_iff.mp h)
  obtain ⟨hl, e⟩ := hi
  rw [← e, List.set_getElem_self]
  exact m
end
theorem law_sim {g : DS} {r : Env} {T : Tp} {y : Rt (Bool × Tp)} (h : Sim ET ((g r T).bind endK) y (RT (fun x => VD.val (eB x)))) (k : wr y fun b => b.1 = true) : wp (g r T) fun p => p.1 = .rt (.val (.bl true)) := by
  obtain ⟨b, rfl, hb⟩ := k
  obtain ⟨a, e, q⟩ := h
  cases hg : g r T with
  | stuck => rw [hg] at e; cases e
  | exc c fs t r => rw [hg] at e; cases e
  | ok p =>
    rw [hg] at e
    refine ⟨p, rfl, ?_⟩
    obtain ⟨fl, T'⟩ := p
    have q : a = _ := q
    cases fl with
    | nx r =>
      have e : Rs.ok (VD.val D.non, T') = Rs.ok a := e
      cases e
      cases q
    | rt v =>
      have e : Rs.ok (v, T') = Rs.ok a := e
      cases e
      cases q
      show Fl.rt _ = _
      rw [hb]
    | bk r => cases e
    | ct r => cases e
theorem pick_sim {M : DM} (n : Int) (T : Tp) (p : Int → Tp → Rt (Int × Tp)) (h : p n T = match M [.int n] T with
  | .ok (.val (.int i), T) => .ok (i, T)
  | _ => .stuck) : Sim ET (M [eI n] T) (p n T) (RT (fun x => VD.val (eI x))) := by
  rw [h]
  show Sim ET (M [.int n] T) _ _
  split
  · rename_i i T' e
    rw [e]
    exact ⟨_, rfl, rfl⟩
  · trivial
/-! kinds -/
section
variable {A B C X : Type} {e : A → D} {f : B → D} {g : C → D} {h : X → D}
theorem coe_L {A' : Type} {e' : A' → D} {c : A → A'} (h : ∀ x, e' (c x) = e x) (xs : List A) : eL e' (xs.map c) = eL e xs := by
  show D.lst ((xs.map c).map e') = D.lst (xs.map e)
  rw [List.map_map]
  congr 1
  exact List.map_congr_left fun x _ => h x
end
end Pu
namespace Pu
open PySem L2
/-! # plain: loops by what is done so far -/
section
variable {A B S : Type}
theorem forS_ind {f : A → S → Rt S} (F : List A → S) : ∀ (xs pre : List A), (∀ p x q, pre ++ xs = p ++ x :: q → pre.length ≤ p.length → f x (F p) = .ok (F (p ++ [x]))) → forS xs (F pre) f = .ok (F (pre ++ xs))
  | [], pre, _ => by rw [List.append_nil]; rfl
  | x :: xs, pre, h => by
    unfold forS
    rw [h pre x xs rfl (Nat.le_refl _), Rt.bind_ok]
    have := forS_ind F xs (pre ++ [x]) fun p y q e hl => h p y q (by rw [← e]; simp) (by simp at hl; omega)
    rw [this]
    simp
/-- a for whose state is told by the items so far -/
theorem forS_pre {f : A → S → Rt S} (F : List A → S) (xs : List A) {s0 : S} (h0 : F [] = s0) (h : ∀ p x q, xs = p ++ x :: q → f x (F p) = .ok (F (p ++ [x]))) : forS xs s0 f = .ok (F xs) := by
  subst h0
  have := forS_ind F xs [] fun p x q e _ => h p x q (by simpa using e)
  simpa using this
theorem rng_ok {a b : Int} (h : -8000000 ≤ a ∧ a ≤ 8000000 ∧ -8000000 ≤ b ∧ b ≤ 8000000) : rng a b = .ok (rngL a b) := by
  unfold rng
  rw [if_pos h]
  rfl
@[simp] theorem rngL_len (a b : Int) : (rngL a b).length = (b - a).toNat := by simp [rngL]
theorem rngL_get {a b : Int} {i : Nat} {x : Int} (h : (rngL a b)[i]? = some x) : x = a + i ∧ a ≤ x ∧ x < b := by
  unfold rngL at h
  rw [List.getElem?_map] at h
  obtain ⟨j, hj, rfl⟩ := Option.map_eq_some_iff.mp h
  obtain ⟨hl, e⟩ := List.getElem?_eq_some_iff.mp hj
  rw [List.getElem_range] at e
  subst e
  rw [List.length_range] at hl
  omega
theorem rngL_mem {a b x : Int} : x ∈ rngL a b ↔ a ≤ x ∧ x < b := by
  unfold rngL
  rw [List.mem_map]
  constructor
  · rintro ⟨i, hi, rfl⟩
    rw [List.mem_range] at hi
    omega
  · rintro ⟨h1, h2⟩
    exact ⟨(x - a).toNat, List.mem_range.mpr (by omega), by omega⟩
theorem idx_some {xs : List A} {i : Int} (h0 : 0 ≤ i) (h1 : i < xs.length) : idx xs i = .ok (xs[i.toNat]'(by omega)) := idx_ok (atI_some h0 h1)
theorem idx_vl {ns : List Int} {k : Int} (h : 0 ≤ k ∧ k < ns.length) : idx ns k = .ok (vl ns k) := idx_ok (atI_vl h)
theorem imul_ok {i j : Int} (h : -(2 ^ 64) < i ∧ i < 2 ^ 64) : imul i j = .ok (i * j) := if_pos (.inl h)
/-- each once, as it first comes -/
def dd [DecidableEq A] (xs : List A) : List A := xs.foldl (fun acc x => if x ∈ acc then acc else acc ++ [x]) []
theorem dd_snoc [DecidableEq A] (xs : List A) (x : A) : dd (xs ++ [x]) = if x ∈ dd xs then dd xs else dd xs ++ [x] := by
  unfold dd
  rw [List.foldl_append]
  rfl
theorem snoc_ind' {P : List A → Prop} (h0 : P []) (hs : ∀ xs x, P xs → P (xs ++ [x])) (xs : List A) : P xs := by
  have : ∀ n (xs : List A), xs.length = n → P xs := fun n => by
    induction n with
    | zero => intro xs h; rw [List.eq_nil_of_length_eq_zero h]; exact h0
    | succ n ih =>
      intro xs h
      have hne : xs ≠ [] := fun e => by rw [e] at h; cases h
      rw [← List.dropLast_concat_getLast hne]
      exact hs _ _ (ih _ (by rw [List.length_dropLast]; omega))
  exact this _ xs rfl
theorem dd_spec [DecidableEq A] (xs : List A) : (dd xs).Nodup ∧ (∀ x, x ∈ dd xs ↔ x ∈ xs) ∧ (dd xs).length ≤ xs.length := by
  refine snoc_ind' (P := fun xs : List A => (dd xs).Nodup ∧ (∀ x, x ∈ dd xs ↔ x ∈ xs) ∧ (dd xs).length ≤ xs.length) ?_ ?_ xs
  · exact ⟨List.nodup_nil, fun x => Iff.rfl, Nat.le_refl _⟩
  · rintro xs x ⟨h1, h2, h3⟩
    rw [dd_snoc]
    by_cases c : x ∈ dd xs
    · rw [if_pos c]
      refine ⟨h1, fun y => ?_, by simp; omega⟩
      rw [h2, List.mem_append, List.mem_singleton]
      constructor
      · exact .inl
      · rintro (z | rfl)
        · exact z
        · exact (h2 y).mp c
    · rw [if_neg c]
      refine ⟨List.nodup_append.mpr ⟨h1, by simp, fun a ha b hb e => ?_⟩, fun y => ?_, by simp; omega⟩
      · rw [List.mem_singleton.mp hb] at e
        subst e
        exact c ha
      · rw [List.mem_append, List.mem_append, h2]
end
theorem wr_b {A B : Type} {x : Rt B} {f : B → Rt A} {P : B → Prop} {Q : A → Prop} (h : wr x P) (k : ∀ b, P b → wr (f b) Q) : wr (x.bind f) Q := (wr_bind x f).mpr (wr_imp h k)
theorem wr_mapT_mem {A B : Type} {f : A → Tp → Rt (B × Tp)} (It : Tp → Prop) (P : B → Prop) (xs : List A) (T : Tp) (ht : It T) (h : ∀ x ∈ xs, ∀ T, It T → wr (f x T) fun y => P y.1 ∧ It y.2) : wr (mapT f xs T) fun p => It p.2 ∧ p.1.length = xs.length ∧ ∀ y ∈ p.1, P y := by
  refine wr_imp (wr_mapT_all It (fun _ y => P y) xs T ht h) fun p ⟨q1, q2, q3⟩ => ⟨q1, q2, fun y hy => ?_⟩
  obtain ⟨i, hi⟩ := List.getElem?_of_mem hy
  have hl := (List.getElem?_eq_some_iff.mp hi).1
  exact q3 i _ y (List.getElem?_eq_getElem (by omega)) hi
/-! ## loops drawn -/
def LpsM (m l : Int) (ns : List Int) : Prop := 0 < ns.length ∧ (ns.length : Int) ≤ m ∧ (∀ x ∈ ns, 1 ≤ x ∧ x ≤ l) ∧ 1 ∈ ns
theorem LpsM.lps {m l : Int} {ns : List Int} (h : LpsM m l ns) (hm : m ≤ 8) (hl : l ≤ 40) : Lps ns := ⟨h.1, by have := h.2.1; omega, fun x hx => by have := h.2.2.1 x hx; omega⟩
/-! ## rows -/
structure RowW (ns row : List Int) (w : Int) : Prop where
  ok : RowOk ns row
  sum : (row.map (vl ns)).sum = w
theorem vl_pos {ns : List Int} (h : Lps ns) {k : Int} (hk : 0 ≤ k ∧ k < ns.length) : 1 ≤ vl ns k ∧ vl ns k ≤ 40 := by
  unfold vl
  exact h.2.2 _ (nth_mem (by omega))
/-- a table's loops and rows -/
structure Tab (ns : List Int) (rows : List (List Int)) : Prop where
  lps : Lps ns
  pos : 1 ≤ rows.length
  len : rows.length ≤ 60
  row : ∀ (i : Nat) (r : List Int), rows[i]? = some r → RowW ns r (i + 1)
theorem Tab.rw {ns : List Int} {rows : List (List Int)} (h : Tab ns rows) {r : List Int} (hr : r ∈ rows) : ∃ w : Int, 1 ≤ w ∧ w ≤ 60 ∧ RowW ns r w := by
  obtain ⟨i, hi⟩ := List.getElem?_of_mem hr
  have hl := (List.getElem?_eq_some_iff.mp hi).1
  have := h.len
  exact ⟨i + 1, by omega, by omega, h.row i r hi⟩
theorem Tab.take {ns : List Int} {rows : List (List Int)} (h : Tab ns rows) {n : Nat} (h1 : 1 ≤ n) : Tab ns (rows.take n) := by
  have a := h.pos
  have b := h.len
  refine ⟨h.lps, by rw [List.length_take]; omega, by rw [List.length_take]; omega, fun i r hr => h.row i r ?_⟩
  rw [List.getElem?_take] at hr
  split at hr
  · exact hr
  · cases hr
/-! ## entries -/
abbrev Ent := Int × Int × Int
def ents (ns : List Int) (rows : List (List Int)) : List Ent := rows.flatMap (entR ns)
abbrev ltE : Ent → Ent → Bool := ltP ltI (ltP ltI ltI)
abbrev ltEE : Ent × Ent → Ent × Ent → Bool := ltP ltE ltE
/-- the entries of a table, in order, each once -/
def entS (ns : List Int) (rows : List (List Int)) : List Ent := srt ltE (dd (ents ns rows))
theorem entS_mem {ns : List Int} {rows : List (List Int)} {e : Ent} : e ∈ entS ns rows ↔ e ∈ ents ns rows := by
  unfold entS
  rw [srt_mem]
  exact (dd_spec _).2.1 e
/-- the pairs that clash -/
def isC (c : Int) (a b : Ent) : Bool := decide (a.1 = b.1) && decide (a.2.2 < b.2.2) && cl c a b
theorem isC_hit {c : Int} {a b : Ent} : isC c a b = hit c a b := by
  unfold isC hit cl
  rw [Bool.eq_iff_iff]
  simp only [Bool.and_eq_true, decide_eq_true_eq]
  constructor
  · rintro ⟨⟨h1, _⟩, h3⟩
    exact ⟨h1, h3⟩
  · rintro ⟨h1, h2, h3, h4⟩
    exact ⟨⟨h1, by omega⟩, h2, h3, h4⟩
def prC (c : Int) (es : List Ent) : List (Ent × Ent) := es.flatMap fun a => (es.filter (isC c a)).map fun b => (a, b)
theorem prC_mem {c : Int} {es : List Ent} {p : Ent × Ent} : p ∈ prC c es ↔ p.1 ∈ es ∧ p.2 ∈ es ∧ hit c p.1 p.2 = true := by
  unfold prC
  rw [List.mem_flatMap]
  constructor
  · rintro ⟨a, ha, h⟩
    obtain ⟨b, hb, rfl⟩ := List.mem_map.mp h
    obtain ⟨hb, hc⟩ := List.mem_filter.mp hb
    exact ⟨ha, hb, by rw [← isC_hit]; exact hc⟩
  · rintro ⟨h1, h2, h3⟩
    exact ⟨p.1, h1, List.mem_map.mpr ⟨p.2, List.mem_filter.mpr ⟨h2, by rw [isC_hit]; exact h3⟩, rfl⟩⟩
def clsT (c : Int) (ns : List Int) (rows : List (List Int)) : List (Ent × Ent) := srt ltEE (prC c (entS ns rows))
theorem clsT_mem {c : Int} {ns : List Int} {rows : List (List Int)} {p : Ent × Ent} : p ∈ clsT c ns rows ↔ p.1 ∈ ents ns rows ∧ p.2 ∈ ents ns rows ∧ hit c p.1 p.2 = true := by
  unfold clsT
  rw [srt_mem, prC_mem, entS_mem, entS_mem]
theorem hit_mono {c d : Int} (h : c ≤ d) {a b : Ent} (k : hit c a b = true) : hit d a b = true := by
  rw [hit_iff] at k ⊢
  obtain ⟨k1, k2, k3, k4⟩ := k
  refine ⟨k1, k2, k3, ?_⟩
  have := Int.mul_le_mul_of_nonneg_right h (show 0 ≤ a.2.1 - b.2.1 by omega)
  omega
end Pu
namespace Pu
open PySem L2
/-! # doubling lists, the line of letters, what plays at a tick (plain) -/
theorem snoc_ind'' {A : Type} {P : List A → Prop} (nil : P []) (snoc : ∀ xs x, P xs → P (xs ++ [x])) (xs : List A) : P xs := by
  have : ∀ ys : List A, P ys.reverse := fun ys => by
    induction ys with
    | nil => exact nil
    | cons y ys ih => rw [List.reverse_cons]; exact snoc _ y ih
  have := this xs.reverse
  rwa [List.reverse_reverse] at this
def rowE (b tk L : Int) (n : Nat) : List (Int × Int × Option Int) := (List.range n).map fun (j : Nat) => (tk, (j : Int) + 1, if L + j ≤ b then some (L + j) else none)
@[simp] theorem rowE_zero (b tk L : Int) : rowE b tk L 0 = [] := rfl
def up (b L : Int) (n : Nat) : Int := if L + n ≤ b + 1 then L + n else b + 1
theorem up_zero {b L : Int} (h : L ≤ b + 1) : up b L 0 = L := by unfold up; rw [if_pos (by omega)]; omega
def dn (L : Int) : Int := if L - 1 > 0 then L - 1 else 0
def stepE (b : Int) (s : List (Int × Int × Option Int) × Int × Int) (n : Int) : List (Int × Int × Option Int) × Int × Int := (s.1 ++ rowE b s.2.2 s.2.1 n.toNat, dn (up b s.2.1 n.toNat), s.2.2 + 1)
def ledS (b : Int) (ns : List Int) : List (Int × Int × Option Int) × Int × Int := ns.foldl (stepE b) ([], 0, 0)
theorem ledS_snoc (b : Int) (ns : List Int) (n : Int) : ledS b (ns ++ [n]) = stepE b (ledS b ns) n := by
  unfold ledS
  rw [List.foldl_append]
  rfl
theorem ledS_in {b : Int} (hb : 0 ≤ b) (ns : List Int) : (0 ≤ (ledS b ns).2.1 ∧ (ledS b ns).2.1 ≤ b) ∧ (ledS b ns).2.2 = ns.length := by
  induction ns using snoc_ind'' with
  | nil => exact ⟨⟨Int.le_refl _, hb⟩, rfl⟩
  | snoc ns n ih =>
    rw [ledS_snoc]
    unfold stepE
    refine ⟨?_, by rw [ih.2]; simp⟩
    unfold dn up
    dsimp only
    split <;> split <;> omega
theorem rowE_len (b tk L : Int) (n : Nat) : (rowE b tk L n).length = n := by simp [rowE]
/-! what plays -/
abbrev Let := Int × Int × Option Int
def wh (f : Int → Int) : List Int → Int → Option (Int × Int)
  | [], _ => none
  | k :: r, a => if a < f k then some (k, f k - a) else wh f r (a - f k)
/-! how many play -/
end Pu
namespace Pu
open PySem L2
/-! # typed layer, further rules -/
end Pu
namespace Pu
open PySem L2
/-! # meetings: letters that meet, and clashes -/
/-! ## two letters of the line -/
/-! ## no clash, no meeting -/
theorem ent_in {ns : List Int} {rows : List (List Int)} (h : Tab ns rows) {w : Int} (h0 : 1 ≤ w) (h1 : w ≤ rows.length) : ∃ r, (([] : List Ent) :: rows.map (entR ns)).getD w.toNat [] = entR ns r ∧ r ∈ rows ∧ RowW ns r w := by
  have hi : (w - 1).toNat < rows.length := by omega
  have hr : rows[(w - 1).toNat]? = some rows[(w - 1).toNat] := List.getElem?_eq_getElem hi
  have q := h.row _ _ hr
  have e1 : w.toNat = (w - 1).toNat + 1 := by omega
  refine ⟨rows[(w - 1).toNat], ?_, List.getElem_mem hi, ?_⟩
  · rw [e1, List.getD_cons_succ, List.getD_eq_getElem?_getD, List.getElem?_map, hr]
    rfl
  · have : (((w - 1).toNat : Int) + 1) = w := by omega
    rwa [this] at q
theorem entR_sum {ns : List Int} (hL : Lps ns) {r : List Int} {w : Int} (q : RowW ns r w) {e : Ent} (he : e ∈ entR ns r) : e.1 ∈ r ∧ 0 ≤ e.2.1 ∧ e.2.1 + e.2.2 = w := by
  unfold entR at he
  obtain ⟨a, b, c⟩ := ent_of he fun k hk => (vl_pos hL (q.ok k hk)).1
  rw [q.sum] at c
  exact ⟨a, b, by omega⟩
theorem entL_gone {f : Int → Int} : ∀ (r : List Int) (g l : Int), (∀ k ∈ r, 1 ≤ f k) → (entL f g l r).Pairwise fun a b => a.2.1 < b.2.1
  | [], _, _, _ => List.Pairwise.nil
  | k :: r, g, l, hp => by
    have h1 := hp k List.mem_cons_self
    have hr : ∀ k ∈ r, 1 ≤ f k := fun k hk => hp k (List.mem_cons_of_mem _ hk)
    rw [entL]
    refine List.pairwise_cons.mpr ⟨fun e he => ?_, entL_gone r _ _ hr⟩
    have := (ent_of he hr).2.1
    dsimp only
    omega
theorem entR_gone {ns : List Int} (hL : Lps ns) {r : List Int} (q : RowOk ns r) : (entR ns r).Pairwise fun a b => a.2.1 < b.2.1 := entL_gone r _ _ fun k hk => (vl_pos hL (q k hk)).1
/-- when and where something is laid -/
def plT (y : Ent) : Int × Int := (y.1, y.2.2)
/-! ## a clash, a meeting -/
structure Meets (ns : List Int) (rows : List (List Int)) (c : Int) (cs : List Int) (i j : Int) : Prop where
  ok : (cs.length : Int) ≤ 400 ∧ ∀ x ∈ cs, 0 ≤ x ∧ x ≤ c
  lt : 0 ≤ i ∧ i < j ∧ j < ((ledS rows.length cs).1.length : Int)
  ex : ∃ e e' w w' r r' x x', (ledS rows.length cs).1[i.toNat]? = some e ∧ (ledS rows.length cs).1[j.toNat]? = some e' ∧ e.2.2 = some w ∧ e'.2.2 = some w' ∧ (1 ≤ w ∧ w ≤ rows.length) ∧ (1 ≤ w' ∧ w' ≤ rows.length) ∧ rows[(w - 1).toNat]? = some r ∧ rows[(w' - 1).toNat]? = some r' ∧ x ∈ entR ns r ∧ x' ∈ entR ns r' ∧ e.1 + x.2.1 = e'.1 + x'.2.1 ∧ x.1 = x'.1
/-! ## the same thing twice -/
end Pu
namespace Pu
open PySem L2
/-! # tables changed, keys, when two letters meet -/
theorem ents_sub {ns : List Int} {rows rows' : List (List Int)} (h : ∀ r ∈ rows, r ∈ rows') {e : Ent} (he : e ∈ ents ns rows) : e ∈ ents ns rows' := by
  unfold ents at he ⊢
  obtain ⟨r, hr, he⟩ := List.mem_flatMap.mp he
  exact List.mem_flatMap.mpr ⟨r, h r hr, he⟩
theorem cls_sub {c d : Int} (hcd : c ≤ d) {ns : List Int} {rows rows' : List (List Int)} (h : ∀ r ∈ rows, r ∈ rows') {p : Ent × Ent} (hp : p ∈ clsT c ns rows) : p ∈ clsT d ns rows' := by
  rw [clsT_mem] at hp ⊢
  exact ⟨ents_sub h hp.1, ents_sub h hp.2.1, hit_mono hcd hp.2.2⟩
theorem nil_of_no {A : Type} {xs : List A} (h : ∀ x, x ∉ xs) : xs = [] := List.eq_nil_iff_forall_not_mem.mpr h
theorem cls_nil {c d : Int} (hcd : c ≤ d) {ns : List Int} {rows rows' : List (List Int)} (h : ∀ r ∈ rows, r ∈ rows') (hn : clsT d ns rows' = []) : clsT c ns rows = [] := nil_of_no fun p hp => by
  have := cls_sub hcd h hp
  rw [hn] at this
  exact (nomatch this)
theorem ahas_keys {A B : Type} [DecidableEq A] (kvs : List (A × B)) (k : A) : ahas kvs k = decide (k ∈ akeys kvs) := by
  unfold ahas akeys
  rw [Bool.eq_iff_iff, List.any_eq_true, decide_eq_true_eq, List.mem_map]
  constructor
  · rintro ⟨p, hp, e⟩
    exact ⟨p, hp, by simpa using e⟩
  · rintro ⟨p, hp, e⟩
    exact ⟨p, hp, by simpa using e⟩
theorem akeys_len {A B : Type} (kvs : List (A × B)) : kvs.length = (akeys kvs).length := by simp [akeys]
end Pu
namespace Pu
open PySem L2
/-! # all rows of waits that can stand in the line -/
/-! ## there are few of them -/
theorem nodup_le {A : Type} [DecidableEq A] : ∀ {xs ys : List A}, xs.Nodup → (∀ x ∈ xs, x ∈ ys) → xs.length ≤ ys.length
  | [], _, _, _ => Nat.zero_le _
  | x :: xs, ys, hn, h => by
    obtain ⟨n1, n2⟩ := List.nodup_cons.mp hn
    have hx := h x List.mem_cons_self
    have := nodup_le (xs := xs) (ys := ys.erase x) n2 fun y hy => (List.mem_erase_of_ne fun e => n1 (by rw [← e]; exact hy)).mpr (h y (List.mem_cons_of_mem _ hy))
    rw [List.length_erase_of_mem hx] at this
    have := List.length_pos_of_mem hx
    simp
    omega
/-! ## who enters what -/
/-! ## closed under all comings -/
end Pu
namespace Pu
open PySem L2
/-! # walks of spots -/
/-! ## a walk of the letters between two that meet -/
end Pu
namespace Pu
open PySem L2
/-! # a known tuple and some more -/
end Pu
namespace Pu
open PySem L2
/-! # list(range(n)) -/
end Pu
namespace Pu
open PySem L2
/-! # loops under other numbers -/
section
variable {ns ns' m : List Int} {rows : List (List Int)} {c : Int}
theorem nodup_map_on {A B : Type} {f : A → B} {xs : List A} (n : xs.Nodup) (h : ∀ a ∈ xs, ∀ b ∈ xs, f a = f b → a = b) : (xs.map f).Nodup := by
  refine List.pairwise_map.mpr ?_
  exact List.Pairwise.imp_of_mem (fun {a b} ha hb hab z => hab (h a ha b hb z)) n
end
end Pu
namespace Pu
open PySem L2
/-! # a written tuple of whole numbers, known -/
end Pu
namespace Pu
open PySem L2
end Pu
namespace Pu
open PySem L2
/-! # raise, try, min of pairs -/
end Pu
namespace Pu
open PySem L2
/-! # the first meeting of layings -/
theorem ahas_mem {A B : Type} [DecidableEq A] (kvs : List (A × B)) (k : A) : ahas kvs k = true ↔ k ∈ akeys kvs := by
  rw [ahas_keys]
  exact decide_eq_true_iff
end Pu
namespace Pu
open PySem L2
/-! # != by an __eq__ of one's own -/
section
variable {A B V : Type} {E : EX} {K : VD × Tp → Rs A} {R : A → B → Prop} {r : Pu.Env} {T : Tp} {f g : DE} {k : DE} {f' : VD → DE}
def neR (w : Rt Bool) : Rt Bool := match w with
  | .ok b => .ok (!b)
  | _ => .stuck
@[simp] theorem neR_ok (b : Bool) : neR (.ok b) = .ok (!b) := rfl
end
end Pu
namespace Pu
open PySem L2
/-! # digits of doubling loops never clash for two comers -/
/-- from the longest on: each at most twice the next one -/
def ChD : List (Int × Int) → Prop
  | [] => True
  | [p] => 1 ≤ p.1
  | p :: q :: r => 1 ≤ p.1 ∧ p.1 ≤ 2 * q.1 ∧ ChD (q :: r)
theorem ChD.hd {p : Int × Int} {r : List (Int × Int)} (h : ChD (p :: r)) : 1 ≤ p.1 ∧ ChD r := by
  cases r with
  | nil => exact ⟨h, trivial⟩
  | cons q r => exact ⟨h.1, h.2.2⟩
theorem ChD.pre : ∀ {a b : List (Int × Int)}, ChD (a ++ b) → ChD a
  | [], _, _ => trivial
  | [p], b, h => (ChD.hd (r := b) h).1
  | p :: q :: r, b, h => ⟨h.1, h.2.1, ChD.pre (a := q :: r) (b := b) h.2.2⟩
end Pu
namespace Pu
open PySem L2
/-! # raise of a plain class; try .. except C -/
end Pu
namespace Pu
open PySem L2
/-! # tuple([xs.pop(..) for ..]) -/
end Pu
namespace Pu
open PySem L2
/-! # rows of lengths that reach, and their greedy rows -/
def Rch (r : List Int) : Prop := ∀ a x b, r = a ++ x :: b → 1 ≤ x ∧ x ≤ a.sum + 1
theorem Rch.pre {a b : List Int} (h : Rch (a ++ b)) : Rch a := fun c x d e => h c x (d ++ b) (by rw [e]; simp)
end Pu
namespace Pu
open PySem L2
/-! # typed rules for trees -/
def Plk (f : DE) (r : Pu.Env) (d : D) : Prop := ∀ T, dl (f r T) = .ok (d, T)
section
variable {f g : DE} {ga : DAo} {r : Pu.Env} {p : Pat} {d a b : D} {v : VD} {i : Nat} {s : Sh} {sd : Sh × D} {l : List (Sh × D)}
theorem Pur.pl (h : Pur f r (.val d)) : Plk f r d := fun T => by rw [h T]; rfl
end
/-! # a call that is lent lists of one's own -/
theorem h_defB {A1 B V : Type} {E : EX} {R : A1 → B → Prop} {K : VD × Tp → Rs A1} {r : Pu.Env} {T : Tp} {n : Nat} {M : DM} {ga : DA} {ds : List D} {y : Rt V} {z : V → Rt B} {mk : V → VD} (hg : Pur ga r ds) (hn : ds.length = n) (h : Sim ET (M ds none) y (RV mk)) (hf : ∀ b, flatD (mk b) = true) (k : ∀ b, Sim E (K (mk b, T)) (z b) R) : Sim E ((eDefB n M ga r T).bind K) ((noE y).bind z) R := by
  rw [eDefB_ap, hg T, Rs.bind_ok]
  show Sim E ((if ds.length = n then lendK T r (M ds none) else .stuck).bind K) _ R
  rw [if_pos hn]
  cases y with
  | stuck => trivial
  | exc c fs => trivial
  | ok b =>
    obtain ⟨q, e, hq⟩ := h
    rw [e, lendK_ok, show q.1 = mk b from hq, if_pos (hf b)]
    exact k b
end Pu
namespace Pu
open PySem L2
/-! # typed rules: a tree let be, x = x + (parts,), for v in x: v.append -/
/-! # () * k, too -/
end Pu
namespace Pu
open PySem L2
/-! # typed rules: rows of one's own, count, range with a step -/
end Pu
namespace Pu
open PySem L2
/-! # days judged: the plain law -/
/-- what a letter is laid into, in the order of L -/
def rowI (L : List Ent) (i : Int) : List (Int × Int) := (L.filter fun x => decide (x.2.1 = i)).map fun x => (x.1, x.2.2)
/-! ## the part of one letter -/
/-! ## ascending -/
/-! ## led through -/
/-! ## where the layings lie -/
/-! ## no loop holds more than its length -/
end Pu
namespace Pu
open PySem L2
/-! # typed rules: own == against any kind of thing -/
def cmpR (neg : Bool) (w : Rt Bool) : Rt Bool := match w with
  | .ok b => .ok (if neg = true then !b else b)
  | _ => .stuck
@[simp] theorem cmpR_ok (neg b : Bool) : cmpR neg (.ok b) = .ok (if neg = true then !b else b) := rfl
end Pu
namespace Pu
open PySem L2
/-! # typed: x, y = a, b -/
end Pu
namespace Pu
open PySem L2
open Classical
/-! # typed: {k: v for x in xs if ..}, all of it pure -/
end Pu
namespace Pu
open PySem L2
/-! # typed: repr -/
/-! ## how long the text is -/
/-! ## count, index of flat things -/
end Pu
namespace Pu
open PySem L2
/-! # long comings: the plain law -/
/-- the line, how many went out, how many were turned away -/
abbrev R3 := Int × Int × Int
/-- the line behind those that come at one tick, ahead of its going out -/
def tkn (b l n : Int) : Int := if l + n ≤ b + 1 then l + n else b + 1
def r1 (b : Int) (s : R3) (n : Int) : R3 := (if tkn b s.1 n > 0 then tkn b s.1 n - 1 else tkn b s.1 n, if tkn b s.1 n > 0 then s.2.1 + 1 else s.2.1, s.2.2 + (n - (tkn b s.1 n - s.1)))
/-- the comings once, from a line on -/
def rD (b : Int) (cs : List Int) (l : Int) : R3 := cs.foldl (r1 b) (l, 0, 0)
/-- one behind another -/
def r2 (s t : R3) : R3 := (t.1, s.2.1 + t.2.1, s.2.2 + t.2.2)
/-- the comings n times -/
def rN (b : Int) (cs : List Int) : Nat → Int → R3
  | 0, l => (l, 0, 0)
  | n + 1, l => r2 (rD b cs l) (rN b cs n (rD b cs l).1)
/-! ## the line of before -/
/-! ## tables of all lines -/
theorem mem_rngL {a b x : Int} (h : x ∈ rngL a b) : a ≤ x ∧ x < b := by
  obtain ⟨i, hi⟩ := List.getElem?_of_mem h
  exact (rngL_get hi).2
/-- rows of comings and times, one behind another: the line, who came, went out, was turned away -/
def l1 (b : Int) (s : Int × Int × Int × Int) (x : List Int × Int) : Int × Int × Int × Int := ((rN b x.1 x.2.toNat s.1).1, s.2.1 + x.2 * x.1.sum, s.2.2.1 + (rN b x.1 x.2.toNat s.1).2.1, s.2.2.2 + (rN b x.1 x.2.toNat s.1).2.2)
end Pu
namespace Pu
open PySem L2
/-! # things of any kind, taken as of one kind -/
/-! ## isinstance, ==, of any kind -/
end Pu
namespace Pu
open PySem L2
/-! # where the line settles -/
/-! ## fractions -/
/-! ## things that are no numbers within bounds -/
end Pu
namespace Pu
open PySem L2
/-! # try with several clauses; raise with one field; e.f -/
end Pu
namespace Pu
open PySem L2
/-! ## == and != of things of any kind that are of one kind -/
/-! # the lists of doubling loops -/
structure RwD (tot : Int) (r : List Int) : Prop where
  ne : r ≠ []
  len : r.length ≤ 8
  pos : ∀ x ∈ r, 1 ≤ x
  sum : r.sum ≤ tot
  one : nth r 0 = 1
  chn : ∀ i, i + 1 < r.length → nth r i ≤ nth r (i + 1) ∧ nth r (i + 1) ≤ 2 * nth r i
theorem RwD.lst {tot : Int} {r : List Int} (h : RwD tot r) : 1 ≤ lst r ∧ lst r ≤ r.sum := ⟨h.pos _ (lst_mem h.ne), mem_le_sum (fun x hx => by have := h.pos x hx; omega) _ (lst_mem h.ne)⟩
end Pu
namespace Pu
open PySem L2
end Pu
namespace Pu
open PySem L2
/-! # things of any kind: tuples of whole numbers within bounds -/
theorem wr_idx {A : Type} {xs : List A} {i : Int} (h0 : 0 ≤ i) (h1 : i < xs.length) : wr (idx xs i) fun a => a ∈ xs := by
  rw [idx_some h0 h1]
  exact (wr_ok _).mpr (List.getElem_mem _)
end Pu
namespace Pu
open PySem L2
/-! ## triples decoded -/
end Pu
namespace Pu
open PySem L2
/-! # days of any kind judged -/
/-- where one comes who goes on from s by a row, if one can -/
def goB (f : Int → Int) : Int → List (Int × Int) → Option Int
  | s, [] => some s
  | s, x :: r => if x.1 = s then goB f (s + f x.2) r else none
/-- whether a row leads a letter -/
def rowOk (f : Int → Int) (row : List (Int × Int)) (e : Let) : Bool := match e.2.2 with
  | none => row.isEmpty
  | some w => decide (goB f e.1 row = some (e.1 + w))
/-! ## how long their text is -/
end Pu
namespace Pu
open PySem L2
/-! # typed: sorted of lists and tuples, also where the one item is an empty tuple -/
section
variable {A : Type} [DecidableEq A] {n : Nat} {e : A → D} {lt : A → A → Bool}
theorem srt_short {xs : List A} (h : xs.length ≤ 1) : srt lt xs = xs := by
  unfold srt
  match xs, h with
  | [], _ => exact List.mergeSort_nil
  | [x], _ => exact List.mergeSort_singleton x
  | _ :: _ :: _, h => exact absurd h (by simp)
theorem sortB_A {xs : List D} (h : 2 ≤ xs.length) : bSortB [.lst xs] = bSortA [.lst xs] := by
  match xs, h with
  | [], h => exact absurd h (by simp)
  | [_], h => exact absurd h (by simp)
  | _ :: _ :: _, _ => rfl
theorem sortB_1 {xs : List D} (h : xs.length ≤ 1) : bSortB [.lst xs] = .ok (.own (.lst xs)) := by
  match xs, h with
  | [], _ => rfl
  | [_], _ => rfl
  | _ :: _ :: _, h => exact absurd h (by simp)
/-- sorted, of tuples of any length: none of them empty, or at most one there -/
def srtH (lt : A → A → Bool) (xs : List (List A)) : Rt (List (List A)) := if xs.length ≤ 1 ∨ ∀ x ∈ xs, x ≠ [] then .ok (srt (ltL lt) xs) else .stuck
theorem quit_srtH {xs : List (List A)} : Quit (srtH lt xs) := quit_if quit_ok quit_stuck
theorem p_srtH (k : Ord n e lt) (xs : List (List A)) (hn : Nat.ble (n + 1) 30 = true) : Prim (bSortB [eL (eU e) xs]) (srtH lt xs) (fun ys => .own (eL (eU e) ys)) := by
  intro ys h
  unfold srtH at h
  by_cases h1 : xs.length ≤ 1
  · rw [if_pos (.inl h1), srt_short h1] at h
    cases h
    show bSortB [.lst (xs.map (eU e))] = _
    rw [sortB_1 (by rw [List.length_map]; exact h1)]
  · by_cases c : ∀ x ∈ xs, x ≠ []
    · rw [if_pos (.inr c)] at h
      cases h
      show bSortB [.lst (xs.map (eU e))] = _
      rw [sortB_A (by rw [List.length_map]; omega)]
      refine p_srtU k xs hn _ ?_
      unfold srtG
      exact if_pos c
    · rw [if_neg (fun z => z.elim h1 c)] at h
      cases h
end
end Pu
namespace Pu
open PySem L2
/-! # rows of stands are days -/
theorem go_snoc {f : Int → Int} : ∀ (r : List (Int × Int)) (s : Int) (x : Int × Int), goB f s (r ++ [x]) = (goB f s r).bind fun s' => if x.1 = s' then some (s' + f x.2) else none
  | [], s, x => rfl
  | y :: r, s, x => by
    show (if y.1 = s then goB f (s + f y.2) (r ++ [x]) else none) = (if y.1 = s then goB f (s + f y.2) r else none).bind _
    split
    · exact go_snoc r _ x
    · rfl
theorem rowI_app (A B : List Ent) (i : Int) : rowI (A ++ B) i = rowI A i ++ rowI B i := by
  unfold rowI
  rw [List.filter_append, List.map_append]
theorem rowI_none {A : List Ent} {i : Int} (h : ∀ x ∈ A, x.2.1 ≠ i) : rowI A i = [] := by
  unfold rowI
  rw [List.filter_eq_nil_iff.mpr fun x hx => by simpa using h x hx]
  rfl
theorem rngL_at2 {a b : Int} {j : Nat} (h : a + j < b) : (rngL a b)[j]? = some (a + j) := by
  unfold rngL
  rw [List.getElem?_map, List.getElem?_range (by omega)]
  rfl
theorem nd_inj {A : Type} {l : List A} (h : l.Nodup) {i j : Nat} {hi : i < l.length} {hj : j < l.length} (e : l[i] = l[j]) : i = j := by
  have hp := List.pairwise_iff_getElem.mp h
  rcases Nat.lt_trichotomy i j with c | c | c
  · exact absurd e (hp i j hi hj c)
  · exact c
  · exact absurd e.symm (hp j i hj hi c)
theorem nd_map {A B : Type} {g : A → B} (hg : ∀ a b, g a = g b → a = b) {l : List A} (h : l.Nodup) : (l.map g).Nodup := List.Pairwise.map g (fun a b q z => q (hg a b z)) h
/-- who stands in the line, when each comes back, and what was laid: at the tick t -/
structure PlS (f : Int → Int) (m t : Int) (E : List Let) (ln st : List Int) (A : List Ent) : Prop where
  len : st.length = ln.length
  inl : ∀ (p : Nat) (i v : Int), ln[p]? = some i → st[p]? = some v → (0 ≤ v ∧ v ≤ p) ∧ 0 ≤ i ∧ ∃ e w, E[i.toNat]? = some e ∧ e.2.2 = some w ∧ e.1 + w = t + p ∧ goB f e.1 (rowI A i) = some (t + v)
  out : ∀ (i : Nat) (e : Let), E[i]? = some e → (i : Int) ∉ ln → rowOk f (rowI A i) e = true
  nd : ln.Nodup
  lay : (A.map plT).Nodup
  lin : ∀ x ∈ A, x.1 < t ∧ (0 ≤ x.2.1 ∧ x.2.1 < E.length) ∧ 0 ≤ x.2.2 ∧ x.2.2 < m
section
variable {f : Int → Int} {m t b : Int} {E : List Let} {ln st st' : List Int} {A : List Ent}
theorem PlS.inE (h : PlS f m t E ln st A) {i : Int} (hi : i ∈ ln) : 0 ≤ i ∧ i < E.length := by
  obtain ⟨p, hp, rfl⟩ := List.getElem_of_mem hi
  have h2 : p < st.length := by rw [h.len]; exact hp
  obtain ⟨_, h0, e, w, he, _⟩ := h.inl p _ _ (List.getElem?_eq_getElem hp) (List.getElem?_eq_getElem h2)
  have := (List.getElem?_eq_some_iff.mp he).1
  omega
theorem key_one {w : List (Int × Int)} (h : (w.map (·.1)).Nodup) {p l : Int} (hm : (p, l) ∈ w) : w.filter (fun q => decide (q.1 = p)) = [(p, l)] := by
  induction w with
  | nil => cases hm
  | cons q w ih =>
    rw [List.map_cons, List.nodup_cons] at h
    rcases List.mem_cons.mp hm with c | c
    · subst c
      rw [List.filter_cons_of_pos (by simp), List.filter_eq_nil_iff.mpr fun x hx => by
        have : x.1 ≠ p := fun z => h.1 (by rw [← z]; exact List.mem_map_of_mem (f := (·.1)) hx)
        simpa using this]
    · have : q.1 ≠ p := fun z => h.1 (by rw [z]; exact List.mem_map_of_mem (f := (·.1)) c)
      rw [List.filter_cons_of_neg (by simpa using this)]
      exact ih h.2 c
/-- what a laying-out adds -/
def layW (t : Int) (ln : List Int) (w : List (Int × Int)) : List Ent := w.map fun q => (t, vl ln q.1, q.2)
theorem vl_get {ln : List Int} {p : Nat} {i : Int} (h : ln[p]? = some i) : vl ln (p : Int) = i := by
  obtain ⟨h1, h2⟩ := List.getElem?_eq_some_iff.mp h
  have := atI_vl (ns := ln) (k := (p : Int)) (by omega)
  rw [atI_some (by omega) (by omega)] at this
  simpa [h2] using this.symm
theorem rowW_at {w : List (Int × Int)} (hn : ln.Nodup) (hp : ∀ q ∈ w, 0 < q.1 ∧ q.1 < ln.length) {p : Nat} {i : Int} (hi : ln[p]? = some i) : rowI (layW t ln w) i = (w.filter fun q => decide (q.1 = (p : Int))).map fun q => (t, q.2) := by
  unfold rowI layW
  rw [List.filter_map, List.map_map]
  have : (w.filter fun q => decide (q.1 = (p : Int))) = w.filter ((fun x : Ent => decide (x.2.1 = i)) ∘ fun q => (t, vl ln q.1, q.2)) := List.filter_congr fun q hq => by
    obtain ⟨h1, h2⟩ := hp q hq
    have hq' : q.1.toNat < ln.length := by omega
    have hv := vl_get (List.getElem?_eq_getElem hq')
    rw [show ((q.1.toNat : Nat) : Int) = q.1 by omega] at hv
    show decide (q.1 = (p : Int)) = decide (vl ln q.1 = i)
    rw [hv]
    obtain ⟨i1, i2⟩ := List.getElem?_eq_some_iff.mp hi
    refine decide_eq_decide.mpr ⟨fun z => ?_, fun z => ?_⟩
    · have : q.1.toNat = p := by omega
      subst this
      exact i2
    · rw [← i2] at z
      have := nd_inj hn z
      omega
  rw [← this]
  rfl
/-- a laying-out is laid -/
theorem PlS.laid (h : PlS f m t E ln st A) {w : List (Int × Int)} (hp : ∀ q ∈ w, (0 < q.1 ∧ q.1 < ln.length) ∧ (0 ≤ q.2 ∧ q.2 < m) ∧ (1 ≤ f q.2 ∧ f q.2 ≤ q.1) ∧ st[q.1.toNat]? = some 0) (h1 : (w.map (·.1)).Nodup) (h2 : (w.map (·.2)).Nodup) (hall : ∀ p : Nat, p + 1 < ln.length → st[p + 1]? = some 0 → ((p + 1 : Nat) : Int) ∈ w.map (·.1))
    (hs : st'.length = ln.length - 1) (hs1 : ∀ (p : Nat) (l : Int), (((p + 1 : Nat) : Int), l) ∈ w → st'[p]? = some (f l - 1)) (hs2 : ∀ (p : Nat) (v : Int), ((p + 1 : Nat) : Int) ∉ w.map (·.1) → st[p + 1]? = some v → st'[p]? = some (v - 1)) : PlS f m (t + 1) E (ln.drop 1) st' (A ++ layW t ln w) := by
  have hpp : ∀ q ∈ w, 0 < q.1 ∧ q.1 < ln.length := fun q hq => (hp q hq).1
  have hno : ∀ {p : Nat}, ((p : Nat) : Int) ∉ w.map (·.1) → (w.filter fun q => decide (q.1 = (p : Int))) = [] := fun {p} hq => List.filter_eq_nil_iff.mpr fun x hx => by
    have : x.1 ≠ (p : Int) := fun z => hq (by rw [← z]; exact List.mem_map_of_mem hx)
    simpa using this
  have hvl : ∀ q ∈ w, vl ln q.1 ∈ ln := fun q hq => by
    have := hpp q hq
    have hq' : q.1.toNat < ln.length := by omega
    have hv := vl_get (List.getElem?_eq_getElem hq')
    rw [show ((q.1.toNat : Nat) : Int) = q.1 by omega] at hv
    rw [hv]
    exact List.getElem_mem hq'
  refine ⟨by rw [hs, List.length_drop], fun p i v e1 e2 => ?_, fun i e he hn => ?_, ?_, ?_, fun x hx => ?_⟩
  · rw [List.getElem?_drop] at e1
    rw [show 1 + p = p + 1 by omega] at e1
    have hpl := (List.getElem?_eq_some_iff.mp e1).1
    have hst : p + 1 < st.length := by rw [h.len]; exact hpl
    obtain ⟨g1, g2, e, w', g3, g4, g5, g6⟩ := h.inl (p + 1) i _ e1 (List.getElem?_eq_getElem hst)
    rw [rowI_app, rowW_at h.nd hpp e1]
    by_cases c : ((p + 1 : Nat) : Int) ∈ w.map (·.1)
    · obtain ⟨⟨q1, q2⟩, hq, hq1⟩ := List.mem_map.mp c
      dsimp only at hq1
      subst hq1
      obtain ⟨_, r2, r3, r4⟩ := hp _ hq
      dsimp only at r2 r3 r4
      have hv := hs1 p q2 hq
      rw [hv] at e2
      cases e2
      rw [show ((p + 1 : Nat) : Int).toNat = p + 1 by omega, List.getElem?_eq_getElem hst] at r4
      have r4 := Option.some.inj r4
      rw [r4] at g6
      refine ⟨by omega, g2, e, w', g3, g4, by omega, ?_⟩
      rw [key_one h1 hq]
      show goB f e.1 (rowI A i ++ [(t, q2)]) = _
      rw [go_snoc, g6]
      show (if t = t + 0 then some (t + 0 + f q2) else none) = _
      rw [if_pos (by omega)]
      congr 1
      omega
    · have hv := hs2 p _ c (List.getElem?_eq_getElem hst)
      rw [hv] at e2
      cases e2
      have hne : st[p + 1] ≠ 0 := fun z => c (hall p hpl (by rw [List.getElem?_eq_getElem hst, z]))
      refine ⟨by omega, g2, e, w', g3, g4, by omega, ?_⟩
      rw [hno c]
      show goB f e.1 (rowI A i ++ []) = _
      rw [List.append_nil, g6]
      congr 1
      omega
  · by_cases c : (i : Int) ∈ ln
    · obtain ⟨p, hpl, hpi⟩ := List.getElem_of_mem c
      have h0 : p = 0 := by
        match p, hpl, hpi with
        | 0, _, _ => rfl
        | p + 1, hpl, hpi => exact absurd (List.mem_iff_getElem.mpr ⟨p, by rw [List.length_drop]; omega, by rw [List.getElem_drop]; simpa [Nat.add_comm] using hpi⟩) hn
      subst h0
      have hi : ln[0]? = some (i : Int) := by rw [List.getElem?_eq_getElem hpl, hpi]
      have hst : 0 < st.length := by rw [h.len]; exact hpl
      obtain ⟨g1, g2, e', w', g3, g4, g5, g6⟩ := h.inl 0 i _ hi (List.getElem?_eq_getElem hst)
      rw [Int.toNat_natCast, he] at g3
      cases g3
      rw [rowI_app, rowW_at h.nd hpp hi, hno fun z => by
        obtain ⟨q, hq, e⟩ := List.mem_map.mp z
        have := (hpp q hq).1
        omega]
      show rowOk f (rowI A i ++ []) e = true
      rw [List.append_nil]
      unfold rowOk
      rw [g4]
      refine decide_eq_true ?_
      rw [g6]
      congr 1
      omega
    · have := h.out i e he c
      rw [rowI_app, rowI_none (A := layW t ln w) fun x hx => ?_, List.append_nil]
      · exact this
      · obtain ⟨q, hq, rfl⟩ := List.mem_map.mp hx
        exact fun z => c (by rw [← z]; exact hvl q hq)
  · exact h.nd.sublist (List.drop_sublist _ _)
  · rw [List.map_append]
    refine List.nodup_append.mpr ⟨h.lay, ?_, fun x hx y hy q => ?_⟩
    · unfold layW
      rw [List.map_map]
      have : (w.map (plT ∘ fun q => ((t, vl ln q.1, q.2) : Ent))) = (w.map (·.2)).map fun l => (t, l) := by
        rw [List.map_map]
        rfl
      rw [this]
      exact nd_map (fun a b z => (Prod.mk.inj z).2) h2
    · subst q
      obtain ⟨y2, hy2, e2⟩ := List.mem_map.mp hy
      obtain ⟨q, _, rfl⟩ := List.mem_map.mp hy2
      obtain ⟨z, hz, e⟩ := List.mem_map.mp hx
      rw [← e2] at e
      have := (h.lin z hz).1
      have := congrArg (·.1) e
      dsimp only [plT] at this
      omega
  · rcases List.mem_append.mp hx with c | c
    · have := h.lin x c
      omega
    · obtain ⟨q, hq, rfl⟩ := List.mem_map.mp c
      have := h.inE (hvl q hq)
      have := (hp q hq).2.1
      dsimp only
      omega
end
/-! ## the places at the switch -/
theorem enuL_fst {A : Type} : ∀ (k : Nat) (xs : List A), (enuL k xs).map (·.1) = rngL k (k + xs.length : Nat)
  | k, xs => by
    refine List.ext_getElem? fun i => ?_
    rw [List.getElem?_map, enuL_get]
    by_cases c : i < xs.length
    · rw [List.getElem?_eq_getElem c, rngL_at2 (by omega)]
      simp
    · rw [List.getElem?_eq_none (by omega), List.getElem?_eq_none (by rw [rngL_len]; omega)]
      rfl
theorem rngL_nd (a b : Int) : (rngL a b).Nodup := by
  unfold rngL
  exact nd_map (fun a b z => by omega) List.nodup_range
def sprL (st : List Int) (u : Int) : List Int := (((enuL 0 st).filter fun x => ((decide (x.1 > (0 : Int))) && (decide (x.2 = (0 : Int))))).map fun x => x.1) ++ (((rngL st.length u).filter fun x => (decide (x > (0 : Int)))).map fun x => x)
theorem sprL_mem {st : List Int} {u p : Int} : p ∈ sprL st u ↔ 0 < p ∧ ((p < st.length ∧ st[p.toNat]? = some 0) ∨ ((st.length : Int) ≤ p ∧ p < u)) := by
  unfold sprL
  rw [List.mem_append, List.mem_map, List.mem_map]
  constructor
  · rintro (⟨x, hx, rfl⟩ | ⟨x, hx, rfl⟩)
    · rw [List.mem_filter] at hx
      obtain ⟨hx, h2⟩ := hx
      simp only [Bool.and_eq_true, decide_eq_true_eq] at h2
      obtain ⟨i, hi⟩ := List.mem_iff_getElem?.mp hx
      rw [enuL_get] at hi
      obtain ⟨y, hy, rfl⟩ := Option.map_eq_some_iff.mp hi
      dsimp only at h2 ⊢
      have := (List.getElem?_eq_some_iff.mp hy).1
      refine ⟨h2.1, .inl ⟨by omega, ?_⟩⟩
      rw [show ((0 + i : Nat) : Int).toNat = i by omega, hy, h2.2]
    · rw [List.mem_filter] at hx
      obtain ⟨hx, h2⟩ := hx
      have hx := mem_rngL hx
      exact ⟨of_decide_eq_true h2, .inr hx⟩
  · rintro ⟨h0, (⟨h1, h2⟩ | ⟨h1, h2⟩)⟩
    · refine .inl ⟨(p, 0), List.mem_filter.mpr ⟨List.mem_iff_getElem?.mpr ⟨p.toNat, ?_⟩, ?_⟩, rfl⟩
      · rw [enuL_get, h2, Option.map_some]
        congr 2
        omega
      · simp [h0]
    · exact .inr ⟨p, List.mem_filter.mpr ⟨rngL_mem.mpr ⟨h1, h2⟩, decide_eq_true h0⟩, rfl⟩
theorem sprL_nd (st : List Int) (u : Int) : (sprL st u).Nodup := by
  unfold sprL
  refine List.nodup_append.mpr ⟨?_, ?_, fun x hx y hy q => ?_⟩
  · have h := (List.filter_sublist (l := enuL 0 st) (p := fun x => ((decide (x.1 > (0 : Int))) && (decide (x.2 = (0 : Int)))))).map (·.1)
    rw [enuL_fst] at h
    exact (rngL_nd _ _).sublist h
  · rw [List.map_id']
    exact (rngL_nd _ _).sublist List.filter_sublist
  · subst q
    obtain ⟨a, ha, rfl⟩ := List.mem_map.mp hx
    obtain ⟨b, hb, e⟩ := List.mem_map.mp hy
    have h1 : a.1 ∈ (enuL 0 st).map (·.1) := List.mem_map_of_mem (List.mem_filter.mp ha).1
    rw [enuL_fst] at h1
    have h1 := mem_rngL h1
    have h2 := mem_rngL (List.mem_filter.mp hb).1
    omega
theorem sprL_len {st : List Int} {u : Int} {b : Nat} (h1 : st.length ≤ b) (h2 : u ≤ b + 1) : (sprL st u).length ≤ b := by
  have := nodup_le (sprL_nd st u) (ys := rngL 1 (b + 1)) fun p hp => by
    have := sprL_mem.mp hp
    rw [rngL_mem]
    omega
  rw [rngL_len] at this
  omega
/-! ## dicts that are written so -/
theorem ahas_map {X A B : Type} [DecidableEq A] {k : X → A} {v : X → B} (xs : List X) (a : A) : ahas (xs.map fun x => (k x, v x)) a = decide (a ∈ xs.map k) := by
  rw [ahas_keys]
  unfold akeys
  rw [List.map_map]
  rfl
theorem aget_map {X A B : Type} [DecidableEq A] {k : X → A} {v : X → B} : ∀ {xs : List X}, (xs.map k).Nodup → ∀ x ∈ xs, aget (xs.map fun x => (k x, v x)) (k x) = some (v x)
  | [], _, x, h => by cases h
  | y :: xs, n, x, h => by
    rw [List.map_cons, List.nodup_cons] at n
    unfold aget
    rw [List.map_cons]
    rcases List.mem_cons.mp h with q | q
    · subst q
      rw [List.find?_cons_of_pos (by simp)]
      rfl
    · have : k y ≠ k x := fun z => n.1 (by rw [z]; exact List.mem_map_of_mem q)
      rw [List.find?_cons_of_neg (by simpa using this)]
      exact aget_map n.2 x q
end Pu
namespace Pu
open PySem L2
/-! # typed: for k in d, for k, v in d.items() -/
/-! return (x, e) -/
end Pu
namespace Pu
open PySem L2
/-! # the game: stands, and how deep they are lost -/
/-- a stand for a bound -/
def StdOk (b : Int) (st : List Int) : Prop := (st.length : Int) ≤ b ∧ ∀ (p : Nat) (v : Int), st[p]? = some v → 0 ≤ v ∧ v ≤ p
/-- the places of a laying-out, its loops, and how they fit -/
def LayOk (ns sp : List Int) (w : List (Int × Int)) : Prop := w.map (·.1) = sp ∧ (w.map (·.2)).Nodup ∧ ∀ q ∈ w, (0 ≤ q.2 ∧ q.2 < (ns.length : Int)) ∧ vl ns q.2 ≤ q.1
theorem LayOk.len {ns sp : List Int} {w : List (Int × Int)} (h : LayOk ns sp w) : w.length = sp.length := by rw [← h.1, List.length_map]
/-- the stand to which a laying-out leads -/
def aftS (ns st : List Int) (u : Int) (w : List (Int × Int)) : List Int := (rngL 1 u).map fun p => (match aget (w.map fun x => (x.1, vl ns x.2)) p with
  | some v => v
  | none => vl st p) - 1
theorem aftS_len (ns st : List Int) (u : Int) (w : List (Int × Int)) : (aftS ns st u w).length = (u - 1).toNat := by
  unfold aftS
  rw [List.length_map, rngL_len]
theorem aftS_get {ns st : List Int} {u : Int} {w : List (Int × Int)} {p : Nat} (h : ((p + 1 : Nat) : Int) < u) : (aftS ns st u w)[p]? = some ((match aget (w.map fun x => (x.1, vl ns x.2)) ((p + 1 : Nat) : Int) with
  | some v => v
  | none => vl st ((p + 1 : Nat) : Int)) - 1) := by
  unfold aftS
  rw [List.getElem?_map, rngL_at2 (by omega), Option.map_some, show (1 : Int) + (p : Int) = ((p + 1 : Nat) : Int) by omega]
/-- what tells it -/
structure IsAft (ns st : List Int) (u : Int) (w : List (Int × Int)) (st' : List Int) : Prop where
  len : st'.length = (u - 1).toNat
  laid : ∀ (p : Nat) (l : Int), (((p + 1 : Nat) : Int), l) ∈ w → st'[p]? = some (vl ns l - 1)
  rest : ∀ (p : Nat) (v : Int), ((p + 1 : Nat) : Int) ∉ w.map (·.1) → st[p + 1]? = some v → st'[p]? = some (v - 1)
section
variable {ns st : List Int} {u : Int} {w : List (Int × Int)}
theorem lay_in_u (hw : LayOk ns (sprL st u) w) (hu : (st.length : Int) ≤ u) {p l : Int} (h : (p, l) ∈ w) : 0 < p ∧ p < u := by
  have := sprL_mem.mp (show p ∈ sprL st u by rw [← hw.1]; exact List.mem_map_of_mem (f := (·.1)) h)
  omega
theorem isAft_aftS (hw : LayOk ns (sprL st u) w) (hu : (st.length : Int) ≤ u) : IsAft ns st u w (aftS ns st u w) := by
  have nd : (w.map (·.1)).Nodup := by rw [hw.1]; exact sprL_nd _ _
  refine ⟨aftS_len .., fun p l h => ?_, fun p v h hv => ?_⟩
  · have := lay_in_u hw hu h
    rw [aftS_get this.2, aget_map (k := fun x : Int × Int => x.1) (v := fun x => vl ns x.2) nd _ h]
  · have hp := (List.getElem?_eq_some_iff.mp hv).1
    rw [aftS_get (by omega)]
    have hn : aget (w.map fun x => (x.1, vl ns x.2)) ((p + 1 : Nat) : Int) = none := by
      have e := ahas_map (k := fun x : Int × Int => x.1) (v := fun x => vl ns x.2) w ((p + 1 : Nat) : Int)
      rw [decide_eq_false h, ahas_get] at e
      exact Option.isSome_eq_false_iff.mp e |> Option.isNone_iff_eq_none.mp
    rw [hn]
    dsimp only
    rw [vl_get hv]
theorem isAft_eq (hw : LayOk ns (sprL st u) w) (hu : (st.length : Int) ≤ u) {st' : List Int} (h : IsAft ns st u w st') : st' = aftS ns st u w := by
  have h2 := isAft_aftS hw hu
  refine List.ext_getElem? fun p => ?_
  by_cases c : p < (u - 1).toNat
  · by_cases hm : ((p + 1 : Nat) : Int) ∈ w.map (·.1)
    · obtain ⟨⟨q1, q2⟩, hq, e⟩ := List.mem_map.mp hm
      dsimp only at e
      subst e
      rw [h.laid p q2 hq, h2.laid p q2 hq]
    · have hl : p + 1 < st.length := Classical.byContradiction fun z => hm (by rw [hw.1]; exact sprL_mem.mpr ⟨by omega, .inr ⟨by omega, by omega⟩⟩)
      rw [h.rest p _ hm (List.getElem?_eq_getElem hl), h2.rest p _ hm (List.getElem?_eq_getElem hl)]
  · rw [List.getElem?_eq_none (by rw [h.len]; omega), List.getElem?_eq_none (by rw [h2.len]; omega)]
theorem up_in {b L : Int} {k : Nat} (h : L ≤ b) : L ≤ up b L k ∧ up b L k ≤ b + 1 := by unfold up; split <;> omega
/-- and it is a stand again -/
theorem aft_std {b : Int} {k : Nat} (hn : ∀ x ∈ ns, 1 ≤ x) (hs : StdOk b st) (hw : LayOk ns (sprL st (up b st.length k)) w) : StdOk b (aftS ns st (up b st.length k) w) := by
  have hs1 := hs.1
  have hu := up_in (k := k) hs1
  have h := isAft_aftS hw hu.1
  refine ⟨by rw [h.len]; omega, fun p v hv => ?_⟩
  have hp := (List.getElem?_eq_some_iff.mp hv).1
  rw [h.len] at hp
  by_cases hm : ((p + 1 : Nat) : Int) ∈ w.map (·.1)
  · obtain ⟨⟨q1, q2⟩, hq, e⟩ := List.mem_map.mp hm
    dsimp only at e
    subst e
    rw [h.laid p q2 hq] at hv
    cases hv
    have h3 := hw.2.2 _ hq
    dsimp only at h3
    have : 1 ≤ vl ns q2 := hn _ (nth_mem (by omega))
    omega
  · have hl : p + 1 < st.length := Classical.byContradiction fun z => hm (by rw [hw.1]; exact sprL_mem.mpr ⟨by omega, .inr ⟨by omega, by omega⟩⟩)
    rw [h.rest p _ hm (List.getElem?_eq_getElem hl)] at hv
    cases hv
    have h3 := hs.2 (p + 1) _ (List.getElem?_eq_getElem hl)
    have : st[p + 1] ≠ 0 := fun z => hm (by rw [hw.1]; exact sprL_mem.mpr ⟨by omega, .inl ⟨by omega, by rw [Int.toNat_natCast, List.getElem?_eq_getElem hl, z]⟩⟩)
    omega
end
/-! ## ascending lists -/
theorem asc_ext {xs ys : List Int} (h1 : xs.Pairwise (· < ·)) (h2 : ys.Pairwise (· < ·)) (h : ∀ x, x ∈ xs ↔ x ∈ ys) : xs = ys := by
  have n1 : xs.Nodup := h1.imp fun z => by omega
  have n2 : ys.Nodup := h2.imp fun z => by omega
  exact srt_uniq ((List.perm_ext_iff_of_nodup n1 n2).mpr h) (h1.imp fun z => by omega) (h2.imp fun z => by omega)
theorem rngL_asc (a b : Int) : (rngL a b).Pairwise (· < ·) := by
  unfold rngL
  rw [List.pairwise_map]
  exact List.pairwise_lt_range.imp fun z => by omega
theorem sprL_asc (st : List Int) (u : Int) : (sprL st u).Pairwise (· < ·) := by
  unfold sprL
  refine List.pairwise_append.mpr ⟨?_, ?_, fun x hx y hy => ?_⟩
  · have h := (List.filter_sublist (l := enuL 0 st) (p := fun x => ((decide (x.1 > (0 : Int))) && (decide (x.2 = (0 : Int)))))).map (·.1)
    rw [enuL_fst] at h
    exact (rngL_asc _ _).sublist h
  · rw [List.map_id']
    exact (rngL_asc _ _).sublist List.filter_sublist
  · obtain ⟨a, ha, rfl⟩ := List.mem_map.mp hx
    obtain ⟨b, hb, rfl⟩ := List.mem_map.mp hy
    have h1 : a.1 ∈ (enuL 0 st).map (·.1) := List.mem_map_of_mem (f := (·.1)) (List.mem_filter.mp ha).1
    rw [enuL_fst] at h1
    have h1 := mem_rngL h1
    have h2 := mem_rngL (List.mem_filter.mp hb).1
    omega
/-! ## lost, by so many rounds -/
def FlS (ns : List Int) (c b : Int) : Nat → List Int → Prop
  | 0, _ => False
  | d + 1, st => FlS ns c b d st ∨ ∃ k : Nat, (k : Int) ≤ c ∧ ∀ w, LayOk ns (sprL st (up b st.length k)) w → FlS ns c b d (aftS ns st (up b st.length k) w)
section
variable {ns : List Int} {c b : Int}
theorem FlS.mono {d e : Nat} {st : List Int} (h : FlS ns c b d st) (hd : d ≤ e) : FlS ns c b e st := by
  induction e with
  | zero =>
    have : d = 0 := by omega
    subst this
    exact h
  | succ e ih =>
    by_cases q : d = e + 1
    · subst q; exact h
    · exact .inl (ih (by omega))
/-- a set of stands that is never left -/
def ClS (ns : List Int) (c b : Int) (X : List Int → Prop) : Prop := ∀ st, X st → ∀ (k : Nat), (k : Int) ≤ c → ∀ w, LayOk ns (sprL st (up b st.length k)) w → X (aftS ns st (up b st.length k) w)
end
/-! ## dicts that grow -/
theorem mem_keys {A B : Type} [DecidableEq A] {kvs : List (A × B)} {k : A} : k ∈ akeys kvs ↔ ∃ v, aget kvs k = some v := by
  have := ahas_get (kvs := kvs) (k := k)
  rw [ahas_keys] at this
  constructor
  · intro h
    rw [decide_eq_true h] at this
    exact Option.isSome_iff_exists.mp this.symm
  · rintro ⟨v, hv⟩
    rw [hv] at this
    exact of_decide_eq_true this
/-- the lost stands found in so many rounds -/
structure LostI (ns : List Int) (c b : Int) (X : List Int → Prop) (d : Nat) (f : List (List Int × Int × Int)) : Prop where
  nd : (akeys f).Nodup
  mem : ∀ st, st ∈ akeys f ↔ X st ∧ FlS ns c b d st
  val : ∀ st n e, aget f st = some (n, e) → (0 ≤ n ∧ n ≤ c) ∧ ∃ j : Nat, e = j ∧ j < d ∧ ¬ FlS ns c b j st ∧ ∀ w, LayOk ns (sprL st (up b st.length n.toNat)) w → FlS ns c b j (aftS ns st (up b st.length n.toNat) w)
theorem LostI.deep {ns : List Int} {c b : Int} {X : List Int → Prop} {d : Nat} {f : List (List Int × Int × Int)} (h : LostI ns c b X d f) {st : List Int} {n e : Int} (z : aget f st = some (n, e)) : ∃ j : Nat, e = j ∧ ¬ FlS ns c b j st ∧ FlS ns c b (j + 1) st := by
  obtain ⟨⟨a1, a2⟩, j, b1, b2, b3, b4⟩ := h.val st n e z
  exact ⟨j, b1, b3, .inr ⟨n.toNat, by omega, b4⟩⟩
/-! ## all stands of a bound -/
def layS : Nat → List (List Int)
  | 0 => [[]]
  | n + 1 => (layS n).flatMap fun st => (rngL 0 ((n : Int) + 1)).map fun l => st ++ [l]
theorem layS_mem : ∀ (n : Nat) (st : List Int), st ∈ layS n ↔ st.length = n ∧ ∀ (p : Nat) (v : Int), st[p]? = some v → 0 ≤ v ∧ v ≤ p
  | 0, st => by
    unfold layS
    rw [List.mem_singleton]
    constructor
    · rintro rfl
      exact ⟨rfl, fun p v h => by simp at h⟩
    · rintro ⟨h, _⟩
      exact List.eq_nil_of_length_eq_zero h
  | n + 1, st => by
    unfold layS
    rw [List.mem_flatMap]
    constructor
    · rintro ⟨s, hs, hm⟩
      obtain ⟨l, hl, rfl⟩ := List.mem_map.mp hm
      obtain ⟨h1, h2⟩ := (layS_mem n s).mp hs
      have hl := mem_rngL hl
      refine ⟨by simp [h1], fun p v hv => ?_⟩
      by_cases c : p < s.length
      · rw [List.getElem?_append_left c] at hv
        exact h2 p v hv
      · have hp := (List.getElem?_eq_some_iff.mp hv).1
        rw [List.length_append, List.length_singleton] at hp
        have : p = s.length := by omega
        subst this
        rw [List.getElem?_append_right (Nat.le_refl _), Nat.sub_self] at hv
        cases hv
        omega
    · rintro ⟨h1, h2⟩
      have hne : st ≠ [] := fun z => by rw [z] at h1; cases h1
      refine ⟨st.dropLast, (layS_mem n _).mpr ⟨by rw [List.length_dropLast, h1]; omega, fun p v hv => ?_⟩, ?_⟩
      · have hp := (List.getElem?_eq_some_iff.mp hv).1
        rw [List.length_dropLast] at hp
        rw [List.dropLast_eq_take, List.getElem?_take_of_lt (by omega)] at hv
        exact h2 p v hv
      · refine List.mem_map.mpr ⟨st.getLast hne, ?_, List.dropLast_concat_getLast hne⟩
        have hl : st[n]? = some (st.getLast hne) := by
          rw [List.getLast_eq_getElem, List.getElem?_eq_getElem (by omega)]
          congr 2
          omega
        have := h2 n _ hl
        exact rngL_mem.mpr ⟨by omega, by omega⟩
theorem layS_len (n : Nat) : (layS (n + 1)).length = (layS n).length * (n + 1) := by
  have e : layS (n + 1) = (layS n).flatMap fun st => (rngL 0 ((n : Int) + 1)).map fun l => st ++ [l] := rfl
  rw [e]
  generalize layS n = xs
  induction xs with
  | nil => simp
  | cons x xs ih =>
    rw [List.flatMap_cons, List.length_append, ih, List.length_map, rngL_len, List.length_cons, Nat.add_mul, Nat.one_mul, show ((n : Int) + 1 - 0).toNat = n + 1 by omega]
    omega
def allS (b : Nat) : List (List Int) := (List.range (b + 1)).flatMap layS
theorem allS_mem {b : Nat} {st : List Int} : st ∈ allS b ↔ StdOk b st := by
  unfold allS
  rw [List.mem_flatMap]
  constructor
  · rintro ⟨n, hn, h⟩
    obtain ⟨h1, h2⟩ := (layS_mem n st).mp h
    have := List.mem_range.mp hn
    exact ⟨by omega, h2⟩
  · rintro ⟨h1, h2⟩
    exact ⟨st.length, List.mem_range.mpr (by omega), (layS_mem _ _).mpr ⟨rfl, h2⟩⟩
theorem allS_succ (b : Nat) : allS (b + 1) = allS b ++ layS (b + 1) := by
  unfold allS
  rw [List.range_succ, List.flatMap_append]
  congr 1
  exact List.flatMap_singleton ..
theorem allS_few {b : Nat} (h : b ≤ 6) : (allS b).length ≤ 874 ∧ (b ≤ 5 → (allS b).length ≤ 154) := by
  have h0 : (layS 0).length = 1 := rfl
  have h1 : (layS 1).length = (layS 0).length * 1 := layS_len 0
  have h2 : (layS 2).length = (layS 1).length * 2 := layS_len 1
  have h3 : (layS 3).length = (layS 2).length * 3 := layS_len 2
  have h4 : (layS 4).length = (layS 3).length * 4 := layS_len 3
  have h5 : (layS 5).length = (layS 4).length * 5 := layS_len 4
  have h6 : (layS 6).length = (layS 5).length * 6 := layS_len 5
  have a0 : (allS 0).length = 1 := rfl
  have as : ∀ b, (allS (b + 1)).length = (allS b).length + (layS (b + 1)).length := fun b => by rw [allS_succ, List.length_append]
  have a1 : (allS 1).length = (allS 0).length + (layS 1).length := as 0
  have a2 : (allS 2).length = (allS 1).length + (layS 2).length := as 1
  have a3 : (allS 3).length = (allS 2).length + (layS 3).length := as 2
  have a4 : (allS 4).length = (allS 3).length + (layS 4).length := as 3
  have a5 : (allS 5).length = (allS 4).length + (layS 5).length := as 4
  have a6 : (allS 6).length = (allS 5).length + (layS 6).length := as 5
  have : b = 0 ∨ b = 1 ∨ b = 2 ∨ b = 3 ∨ b = 4 ∨ b = 5 ∨ b = 6 := by omega
  rcases this with z | z | z | z | z | z | z <;> subst z <;> omega
/-- no more stands than there are -/
theorem std_few {b : Nat} {ks : List (List Int)} (h : ks.Nodup) (hs : ∀ st ∈ ks, StdOk b st) : ks.length ≤ (allS b).length := nodup_le h fun st hst => allS_mem.mpr (hs st hst)
end Pu
namespace Pu
open PySem L2
/-! # all layings-out, place by place -/
theorem lay_snoc {ns sp : List Int} {pl : Int} {w : List (Int × Int)} : LayOk ns (sp ++ [pl]) w ↔ ∃ w0 l, LayOk ns sp w0 ∧ (0 ≤ l ∧ l < (ns.length : Int)) ∧ vl ns l ≤ pl ∧ l ∉ w0.map (·.2) ∧ w = w0 ++ [(pl, l)] := by
  constructor
  · rintro ⟨h1, h2, h3⟩
    have hne : w ≠ [] := fun z => by
      rw [z] at h1
      have := congrArg List.length h1
      simp at this
    have e := List.dropLast_concat_getLast hne
    generalize w.dropLast = w0 at e
    generalize w.getLast hne = q at e
    subst e
    rw [List.map_append] at h1 h2
    obtain ⟨e1, e2⟩ := List.append_inj' h1 rfl
    obtain ⟨q1, q2⟩ := q
    have e2 : q1 = pl := by simpa using e2
    subst e2
    have hq := h3 (q1, q2) (by simp)
    obtain ⟨n1, _, n3⟩ := List.nodup_append.mp h2
    exact ⟨w0, q2, ⟨e1, n1, fun q hq => h3 q (List.mem_append_left _ hq)⟩, hq.1, hq.2, fun z => n3 q2 z q2 (by simp) rfl, rfl⟩
  · rintro ⟨w0, l, ⟨h1, h2, h3⟩, hl, hv, hn, rfl⟩
    refine ⟨by rw [List.map_append, h1]; rfl, ?_, fun q hq => ?_⟩
    · rw [List.map_append]
      exact List.nodup_append.mpr ⟨h2, by simp, fun a ha b hb e => hn (by rw [← (List.mem_singleton.mp hb : b = l), ← e]; exact ha)⟩
    · rcases List.mem_append.mp hq with z | z
      · exact h3 q z
      · rw [List.mem_singleton.mp z]
        exact ⟨hl, hv⟩
end Pu
namespace Pu
open PySem L2
/-! # known and waiting -/
structure KW (b : Int) (F : List Int → Prop) (known : List (List Int × Bool)) (waiting : List (List Int)) : Prop where
  nk : (akeys known).Nodup
  nw : waiting.Nodup
  iff : ∀ st, st ∈ akeys known ↔ F st ∨ st ∈ waiting
  dis : ∀ st, F st → st ∉ waiting
  std : ∀ st ∈ akeys known, StdOk b st
theorem KW.few {b : Int} {F : List Int → Prop} {known : List (List Int × Bool)} {waiting : List (List Int)} (h : KW b F known waiting) (h0 : 0 ≤ b) (hb : b ≤ 6) : known.length ≤ 874 ∧ waiting.length ≤ 874 := by
  have hk := std_few (b := b.toNat) h.nk fun st hst => by rw [show ((b.toNat : Nat) : Int) = b by omega]; exact h.std st hst
  have hw := std_few (b := b.toNat) h.nw fun st hst => by rw [show ((b.toNat : Nat) : Int) = b by omega]; exact h.std st ((h.iff st).mpr (.inr hst))
  have := (allS_few (b := b.toNat) (by omega)).1
  rw [← akeys_len] at hk
  omega
/-- the waiting one goes over to the found ones -/
theorem KW.take {b : Int} {F : List Int → Prop} {known : List (List Int × Bool)} {waiting rest : List (List Int)} {a : List Int} (h : KW b F known waiting) (e : waiting = rest ++ [a]) : KW b (fun st => F st ∨ st = a) known rest ∧ ¬ F a ∧ StdOk b a := by
  subst e
  obtain ⟨n1, _, n3⟩ := List.nodup_append.mp h.nw
  have ha : a ∉ rest := fun z => n3 a z a (by simp) rfl
  have hFa : ¬ F a := fun z => h.dis a z (by simp)
  refine ⟨⟨h.nk, n1, fun st => ?_, fun st z z2 => ?_, h.std⟩, hFa, h.std a ((h.iff a).mpr (.inr (by simp)))⟩
  · rw [h.iff, List.mem_append, List.mem_singleton]
    constructor
    · rintro (z | z | z)
      · exact .inl (.inl z)
      · exact .inr z
      · exact .inl (.inr z)
    · rintro ((z | z) | z)
      · exact .inl z
      · exact .inr (.inr z)
      · exact .inr (.inl z)
  · rcases z with z | z
    · exact h.dis st z (List.mem_append_left _ z2)
    · rw [z] at z2
      exact ha z2
/-! # what a round finds -/
structure Frs (ns : List Int) (c b : Int) (X : List Int → Prop) (d : Nat) (done : List (List Int)) (L : List (List Int × Int)) : Prop where
  ok : ∀ q ∈ L, X q.1 ∧ ¬ FlS ns c b d q.1 ∧ (0 ≤ q.2 ∧ q.2 ≤ c) ∧ ∀ w, LayOk ns (sprL q.1 (up b q.1.length q.2.toNat)) w → FlS ns c b d (aftS ns q.1 (up b q.1.length q.2.toNat) w)
  all : ∀ st ∈ done, ¬ FlS ns c b d st → FlS ns c b (d + 1) st → ∃ n, (st, n) ∈ L
  few : L.length ≤ done.length
section
variable {ns : List Int} {c b : Int} {X : List Int → Prop} {d : Nat} {done : List (List Int)} {L : List (List Int × Int)}
theorem Frs.nil : Frs ns c b X d [] [] := ⟨fun q h => (nomatch h), fun q h => (nomatch h), Nat.le_refl _⟩
theorem Frs.no (h : Frs ns c b X d done L) {st : List Int} (hs : FlS ns c b (d + 1) st → FlS ns c b d st) : Frs ns c b X d (done ++ [st]) L := by
  refine ⟨h.ok, fun s z a1 a2 => ?_, by have := h.few; simp; omega⟩
  rcases List.mem_append.mp z with z | z
  · exact h.all s z a1 a2
  · rw [List.mem_singleton.mp z] at a1 a2
    exact absurd (hs a2) a1
end
/-! # both lists -/
structure KeptP (ns : List Int) (c b : Int) (Y : List Int → Prop) (K : List (List Int × List (Option (List (Int × Int))))) : Prop where
  nd : (akeys K).Nodup
  iff : ∀ st, st ∈ akeys K ↔ Y st
  val : ∀ st vs, aget K st = some vs → (vs.length : Int) = c + 1 ∧ ∀ (k : Nat) v, vs[k]? = some v → ∃ w, v = some w ∧ LayOk ns (sprL st (up b st.length k)) w ∧ Y (aftS ns st (up b st.length k) w)
end Pu
namespace Pu
open PySem L2
/-! # families of stands that can be kept -/
def KeepS (ns : List Int) (c b : Int) (X : List Int → Prop) : Prop := ∀ st, X st → ∀ k : Nat, (k : Int) ≤ c → ∃ w, LayOk ns (sprL st (up b st.length k)) w ∧ X (aftS ns st (up b st.length k) w)
section
variable {ns : List Int} {c b : Int} {X : List Int → Prop}
theorem KeepS.no (h : KeepS ns c b X) : ∀ (d : Nat) (st : List Int), X st → ¬ FlS ns c b d st
  | 0, st, _, z => z
  | d + 1, st, hx, z => by
    rcases z with z | ⟨k, hk, z⟩
    · exact h.no d st hx z
    · obtain ⟨w, hw, hx2⟩ := h st hx k hk
      exact h.no d _ hx2 (z w hw)
/-- what is kept with a greater bound -/
theorem KeepS.less (h : KeepS ns c b X) {b' : Int} (hb : b' ≤ b) : KeepS ns c b' fun st => X st ∧ (st.length : Int) ≤ b' := fun st ⟨hx, hl⟩ k hk => by
  have hu := up_in (b := b') (k := k) hl
  have hk2 : up b' st.length k - st.length ≤ k := by unfold up; split <;> omega
  obtain ⟨w, hw, hx2⟩ := h st hx (up b' st.length k - st.length).toNat (by omega)
  have e : up b st.length (up b' st.length k - st.length).toNat = up b' st.length k := by
    generalize up b' st.length k = u at hu
    unfold up
    rw [if_pos (by omega)]
    omega
  rw [e] at hw hx2
  exact ⟨w, hw, hx2, by rw [aftS_len]; omega⟩
theorem KeepS.std (h : KeepS ns c b X) (hp : ∀ x ∈ ns, 1 ≤ x) : KeepS ns c b fun st => X st ∧ StdOk b st := fun st ⟨hx, hs⟩ k hk => by
  obtain ⟨w, hw, hx2⟩ := h st hx k hk
  exact ⟨w, hw, hx2, aft_std hp hs hw⟩
/-! ## how many a loop holds -/
/-- the loop of a place, and when the letter comes back -/
def hP (ns st : List Int) (g : Nat → Int) (w : List (Int × Int)) (p : Nat) : Int × Int := match w.find? fun q => decide (q.1 = (p : Int)) with
  | some q => (q.2, vl ns q.2)
  | none => (g p, vl st p)
/-! ## the reach -/
end
end Pu
namespace Pu
open PySem L2
/-! # a safe table keeps its stands -/
/-- the entries of a wait -/
def entW (ns : List Int) (rows : List (List Int)) (w : Int) : List Ent := (([] : List Ent) :: rows.map (entR ns)).getD w.toNat []
theorem entL_next {f : Int → Int} : ∀ (r : List Int) (g l : Int), (∀ k ∈ r, 1 ≤ f k) → (r.map f).sum = l → ∀ e ∈ entL f g l r, (0 ≤ e.2.2 - f e.1 ∧ (e.2.2 - f e.1 = 0 ∨ ∃ e' ∈ entL f g l r, e'.2.2 = e.2.2 - f e.1)) ∧ e.2.2 ≤ l ∧ 1 ≤ e.2.2 ∧ ∀ e' ∈ entL f g l r, e'.2.2 < e.2.2 → e'.2.2 ≤ e.2.2 - f e.1
  | [], _, _, _, _, e, he => by cases he
  | k :: r, g, l, h, hs, e, he => by
    have hk := h k List.mem_cons_self
    have hr : ∀ k ∈ r, 1 ≤ f k := fun x hx => h x (List.mem_cons_of_mem _ hx)
    rw [List.map_cons, List.sum_cons] at hs
    have ih := entL_next r (g + f k) (l - f k) hr (by omega)
    have hpos : ∀ xs : List Int, (∀ k ∈ xs, 1 ≤ f k) → 0 ≤ (xs.map f).sum := fun xs => by
      induction xs with
      | nil => intro _; simp
      | cons x xs ih =>
        intro h
        have := ih fun k hk => h k (List.mem_cons_of_mem _ hk)
        have := h x List.mem_cons_self
        rw [List.map_cons, List.sum_cons]
        omega
    have h0 := hpos r hr
    rw [entL] at he ⊢
    rcases List.mem_cons.mp he with rfl | he
    · dsimp only
      refine ⟨⟨by omega, ?_⟩, Int.le_refl _, by omega, fun e' he' hlt => ?_⟩
      · cases r with
        | nil =>
          simp only [List.map_nil, List.sum_nil] at hs
          exact .inl (by omega)
        | cons k2 r =>
          exact .inr ⟨(k2, g + f k, l - f k), List.mem_cons_of_mem _ (by rw [entL]; exact List.mem_cons_self), rfl⟩
      · rcases List.mem_cons.mp he' with rfl | he'
        · dsimp only at hlt
          omega
        · exact (ih e' he').2.1
    · obtain ⟨⟨a1, a2⟩, a3, a4, a5⟩ := ih e he
      refine ⟨⟨a1, ?_⟩, by omega, a4, fun e' he' hlt => ?_⟩
      · rcases a2 with z | ⟨e', he', z⟩
        · exact .inl z
        · exact .inr ⟨e', List.mem_cons_of_mem _ he', z⟩
      · rcases List.mem_cons.mp he' with rfl | he'
        · dsimp only at hlt
          omega
        · exact a5 e' he' hlt
structure EW (ns : List Int) (rows : List (List Int)) (w : Int) (E : List Ent) : Prop where
  ok : ∀ e ∈ E, (0 ≤ e.1 ∧ e.1 < (ns.length : Int)) ∧ 1 ≤ vl ns e.1 ∧ (0 ≤ e.2.1 ∧ e.2.1 + e.2.2 = w) ∧ 1 ≤ e.2.2 ∧ e ∈ ents ns rows
  nxt : ∀ e ∈ E, 0 ≤ e.2.2 - vl ns e.1 ∧ (e.2.2 - vl ns e.1 = 0 ∨ ∃ e' ∈ E, e'.2.2 = e.2.2 - vl ns e.1)
  les : ∀ e ∈ E, ∀ e' ∈ E, e'.2.2 < e.2.2 → e'.2.2 ≤ e.2.2 - vl ns e.1
  asc : E.Pairwise fun a b => b.2.2 < a.2.2
  fst : 1 ≤ w → ∃ e ∈ E, e.2.2 = w
theorem entW_ok {ns : List Int} {rows : List (List Int)} (h : Tab ns rows) {w : Int} (h0 : 0 ≤ w) (h1 : w ≤ rows.length) : EW ns rows w (entW ns rows w) := by
  by_cases c : w = 0
  · subst c
    exact ⟨fun e he => (nomatch he), fun e he => (nomatch he), fun e he => (nomatch he), .nil, fun z => by omega⟩
  · obtain ⟨r, e1, e2, e3⟩ := ent_in h (w := w) (by omega) h1
    unfold entW
    rw [e1]
    have hpos : ∀ k ∈ r, 1 ≤ vl ns k := fun k hk => (vl_pos h.lps (e3.ok k hk)).1
    have hn := entL_next (f := vl ns) r 0 (r.map (vl ns)).sum hpos rfl
    have hE : entR ns r = entL (vl ns) 0 (r.map (vl ns)).sum r := rfl
    have hs := fun e he => entR_sum h.lps e3 (e := e) he
    refine ⟨fun e he => ?_, fun e he => ?_, fun e he e' he' => ?_, ?_, fun _ => ?_⟩
    · have := hs e he
      exact ⟨e3.ok _ this.1, hpos _ this.1, this.2, (hn e (by rw [← hE]; exact he)).2.2.1, List.mem_flatMap.mpr ⟨r, e2, he⟩⟩
    · have := (hn e (by rw [← hE]; exact he)).1
      rw [hE]
      exact this
    · exact (hn e (by rw [← hE]; exact he)).2.2.2 e' (by rw [← hE]; exact he')
    · refine (entR_gone h.lps e3.ok).imp_of_mem fun {a b} ha hb hab => ?_
      have := (hs a ha).2
      have := (hs b hb).2
      omega
    · cases r with
      | nil =>
        have := e3.sum
        simp at this
        omega
      | cons k r =>
        refine ⟨(k, 0, ((k :: r).map (vl ns)).sum), ?_, e3.sum⟩
        rw [hE, entL]
        exact List.mem_cons_self
/-- the next place at the switch -/
def nxE (E : List Ent) (p : Int) : Int := ((E.map (·.2.2)).filter fun l => decide (l ≤ p)).foldl max 0
structure IsNx (E : List Ent) (p m : Int) : Prop where
  nn : 0 ≤ m
  le : m ≤ p
  isE : m = 0 ∨ ∃ e ∈ E, e.2.2 = m
  most : ∀ e ∈ E, e.2.2 ≤ p → e.2.2 ≤ m
theorem mx_spec : ∀ (xs : List Int) (a : Int), a ≤ xs.foldl max a ∧ (∀ x ∈ xs, x ≤ xs.foldl max a) ∧ (xs.foldl max a = a ∨ xs.foldl max a ∈ xs)
  | [], a => ⟨Int.le_refl _, fun x h => (nomatch h), .inl rfl⟩
  | x :: xs, a => by
    obtain ⟨h1, h2, h3⟩ := mx_spec xs (max a x)
    rw [List.foldl_cons]
    refine ⟨by omega, fun y hy => ?_, ?_⟩
    · rcases List.mem_cons.mp hy with rfl | hy
      · omega
      · exact h2 y hy
    · rcases h3 with z | z
      · rw [z]
        by_cases q : x ≤ a
        · exact .inl (by omega)
        · exact .inr (by rw [show max a x = x by omega]; exact List.mem_cons_self)
      · exact .inr (List.mem_cons_of_mem _ z)
theorem isNx_nxE (E : List Ent) {p : Int} (h : 0 ≤ p) : IsNx E p (nxE E p) := by
  obtain ⟨h1, h2, h3⟩ := mx_spec ((E.map (·.2.2)).filter fun l => decide (l ≤ p)) 0
  have hm : ∀ l, l ∈ ((E.map (·.2.2)).filter fun l => decide (l ≤ p)) ↔ (∃ e ∈ E, e.2.2 = l) ∧ l ≤ p := fun l => by
    rw [List.mem_filter, List.mem_map, decide_eq_true_eq]
  unfold nxE
  refine ⟨h1, ?_, ?_, fun e he hle => h2 _ ((hm _).mpr ⟨⟨e, he, rfl⟩, hle⟩)⟩
  · rcases h3 with z | z
    · omega
    · exact ((hm _).mp z).2
  · rcases h3 with z | z
    · exact .inl z
    · exact .inr ((hm _).mp z).1
theorem IsNx.uniq {E : List Ent} {p m m' : Int} (h : IsNx E p m) (h' : IsNx E p m') : m = m' := by
  have a := h.nn
  have a' := h'.nn
  have b : m ≤ m' := by
    rcases h.isE with z | ⟨e, he, z⟩
    · omega
    · rw [← z]
      exact h'.most e he (by rw [z]; exact h.le)
  have b' : m' ≤ m := by
    rcases h'.isE with z | ⟨e, he, z⟩
    · omega
    · rw [← z]
      exact h.most e he (by rw [z]; exact h'.le)
  omega
/-- the waits of the letters in a line -/
structure WaitS (c b : Int) (row : List Int) : Prop where
  len : (row.length : Int) ≤ b
  at' : ∀ (p : Nat) (w : Int), row[p]? = some w → (p : Int) < w ∧ w ≤ b
  tail : ∀ (p : Nat) (w : Int), row[p]? = some w → (row.length : Int) - p ≤ c * (w - p)
  two : ∀ (p q : Nat) (w v : Int), p < q → row[p]? = some w → row[q]? = some v → v - q ≤ w - p ∧ (q : Int) - p + 1 ≤ c * ((w - p) - (v - q) + 1)
/-- with those that came -/
structure LonS (c b : Int) (row : List Int) : Prop where
  len : (row.length : Int) ≤ b + 1
  at' : ∀ (p : Nat) (w : Int), row[p]? = some w → (p : Int) ≤ w ∧ w ≤ b
  two : ∀ (p q : Nat) (w v : Int), p < q → row[p]? = some w → row[q]? = some v → v - q ≤ w - p ∧ (q : Int) - p + 1 ≤ c * ((w - p) - (v - q) + 1)
def lonW (row : List Int) (u : Int) : List Int := row ++ rngL row.length u
theorem lonW_len {row : List Int} {u : Int} (h : (row.length : Int) ≤ u) : ((lonW row u).length : Int) = u := by
  unfold lonW
  rw [List.length_append, rngL_len]
  omega
theorem lonW_get {row : List Int} {u : Int} {p : Nat} {w : Int} (h : (lonW row u)[p]? = some w) : (p < row.length ∧ row[p]? = some w) ∨ ((row.length : Int) ≤ p ∧ (p : Int) < u ∧ w = p) := by
  unfold lonW at h
  by_cases c : p < row.length
  · rw [List.getElem?_append_left c] at h
    exact .inl ⟨c, h⟩
  · rw [List.getElem?_append_right (by omega)] at h
    have := rngL_get h
    exact .inr ⟨by omega, by omega, by omega⟩
theorem WaitS.nil {c b : Int} (hb : 0 ≤ b) : WaitS c b [] := ⟨hb, fun p w h => by simp at h, fun p w h => by simp at h, fun p q w v _ h => by simp at h⟩
theorem WaitS.lon {c b : Int} {row : List Int} (h : WaitS c b row) {k : Nat} (hk : (k : Int) ≤ c) : LonS c b (lonW row (up b row.length k)) ∧ WaitS c b ((lonW row (up b row.length k)).drop 1) := by
  have hu := up_in (k := k) h.len
  have huk : up b row.length k - row.length ≤ k := by unfold up; split <;> omega
  generalize up b row.length k = u at hu huk
  have hl := lonW_len hu.1
  have hlon : LonS c b (lonW row u) := by
    refine ⟨by omega, fun p w hw => ?_, fun p q w v hpq hw hv => ?_⟩
    · rcases lonW_get hw with ⟨_, z⟩ | ⟨z1, z2, z3⟩
      · have := h.at' p w z
        omega
      · omega
    · rcases lonW_get hw with ⟨z0, z⟩ | ⟨z1, z2, z3⟩
      · rcases lonW_get hv with ⟨_, y⟩ | ⟨y1, y2, y3⟩
        · exact h.two p q w v hpq z y
        · have a := h.at' p w z
          have t := h.tail p w z
          rw [y3, show w - p - ((q : Int) - q) + 1 = (w - p) + 1 by omega, Int.mul_add, Int.mul_one]
          omega
      · rcases lonW_get hv with ⟨y0, y⟩ | ⟨y1, y2, y3⟩
        · omega
        · rw [z3, y3, show (p : Int) - p - ((q : Int) - q) + 1 = 1 by omega, Int.mul_one]
          omega
  refine ⟨hlon, ?_⟩
  have hd : ((lonW row u).drop 1).length = (lonW row u).length - 1 := List.length_drop
  have hg : ∀ p : Nat, ((lonW row u).drop 1)[p]? = (lonW row u)[p + 1]? := fun p => by rw [List.getElem?_drop, Nat.add_comm]
  have hlen := h.len
  refine ⟨by omega, fun p w hw => ?_, fun p w hw => ?_, fun p q w v hpq hw hv => ?_⟩
  · rw [hg] at hw
    have := hlon.at' _ w hw
    omega
  · rw [hg] at hw
    have hp := (List.getElem?_eq_some_iff.mp hw).1
    rcases lonW_get hw with ⟨_, z⟩ | ⟨z1, z2, z3⟩
    · have t := h.tail _ w z
      rw [show w - (p : Int) = (w - ((p + 1 : Nat) : Int)) + 1 by omega, Int.mul_add, Int.mul_one]
      omega
    · rw [show w - (p : Int) = 1 by omega, Int.mul_one]
      omega
  · rw [hg] at hw hv
    have := hlon.two (p + 1) (q + 1) w v (by omega) hw hv
    rw [show w - (p : Int) - (v - q) + 1 = w - ((p + 1 : Nat) : Int) - (v - ((q + 1 : Nat) : Int)) + 1 by omega]
    omega
/-- the stand of the waits -/
def stW (ns : List Int) (rows : List (List Int)) (row : List Int) : List Int := (enuL 0 row).map fun x => x.1 - nxE (entW ns rows x.2) x.1
theorem stW_len (ns : List Int) (rows : List (List Int)) (row : List Int) : (stW ns rows row).length = row.length := by
  unfold stW
  rw [List.length_map, enuL_len]
theorem stW_get {ns : List Int} {rows : List (List Int)} {row : List Int} {p : Nat} : (stW ns rows row)[p]? = row[p]?.map fun w => (p : Int) - nxE (entW ns rows w) p := by
  unfold stW
  rw [List.getElem?_map, enuL_get, Option.map_map, Nat.zero_add]
  rfl
/-- what the table lays -/
def laysW (ns : List Int) (rows : List (List Int)) (row : List Int) : List (Int × Int) := (enuL 0 row).flatMap fun x => ((entW ns rows x.2).filter fun e => decide (e.2.2 = x.1)).map fun e => (x.1, e.1)
theorem laysW_mem {ns : List Int} {rows : List (List Int)} {row : List Int} {q : Int × Int} : q ∈ laysW ns rows row ↔ ∃ (p : Nat) (w : Int) (e : Ent), row[p]? = some w ∧ e ∈ entW ns rows w ∧ e.2.2 = (p : Int) ∧ q = ((p : Int), e.1) := by
  unfold laysW
  rw [List.mem_flatMap]
  constructor
  · rintro ⟨x, hx, hq⟩
    obtain ⟨p, hp⟩ := List.mem_iff_getElem?.mp hx
    rw [enuL_get, Nat.zero_add] at hp
    obtain ⟨w, hw, rfl⟩ := Option.map_eq_some_iff.mp hp
    obtain ⟨e, he, rfl⟩ := List.mem_map.mp hq
    obtain ⟨he, h2⟩ := List.mem_filter.mp he
    exact ⟨p, w, e, hw, he, of_decide_eq_true h2, rfl⟩
  · rintro ⟨p, w, e, hw, he, h2, rfl⟩
    exact ⟨((p : Int), w), List.mem_iff_getElem?.mpr ⟨p, by rw [enuL_get, hw, Nat.zero_add]; rfl⟩, List.mem_map.mpr ⟨e, List.mem_filter.mpr ⟨he, decide_eq_true h2⟩, rfl⟩⟩
theorem enuL_asc {A : Type} : ∀ (k : Nat) (xs : List A), (enuL k xs).Pairwise fun a b => a.1 < b.1
  | k, xs => by
    have h := rngL_asc (k : Int) ((k + xs.length : Nat) : Int)
    rw [← enuL_fst, List.pairwise_map] at h
    exact h
section
variable {ns : List Int} {rows : List (List Int)} {c b : Int} {row : List Int}
theorem laysW_asc (h : Tab ns rows) (hb : b ≤ rows.length) (hl : LonS c b row) : (laysW ns rows row).Pairwise fun a b => a.1 < b.1 := by
  unfold laysW
  rw [List.pairwise_flatMap]
  refine ⟨fun x hx => ?_, (enuL_asc 0 row).imp fun {x y} hxy a ha b hb => ?_⟩
  · obtain ⟨p, hp⟩ := List.mem_iff_getElem?.mp hx
    rw [enuL_get, Nat.zero_add] at hp
    obtain ⟨w, hw, rfl⟩ := Option.map_eq_some_iff.mp hp
    have ha := hl.at' p w hw
    have hE := entW_ok h (w := w) (by omega) (by omega)
    rw [List.pairwise_map]
    refine (hE.asc.filter _).imp_of_mem fun {a b} ha hb hab => ?_
    have h1 := of_decide_eq_true (List.mem_filter.mp ha).2
    have h2 := of_decide_eq_true (List.mem_filter.mp hb).2
    omega
  · obtain ⟨_, _, rfl⟩ := List.mem_map.mp ha
    obtain ⟨_, _, rfl⟩ := List.mem_map.mp hb
    exact hxy
theorem laysW_two (h : Tab ns rows) (hb : b ≤ rows.length) (hl : LonS c b row) (hc : 0 ≤ c) (hn : clsT c ns rows = []) : ((laysW ns rows row).map (·.2)).Nodup := by
  rw [List.Nodup, List.pairwise_map]
  refine (laysW_asc h hb hl).imp_of_mem fun {x y} hx hy hxy e => ?_
  obtain ⟨p, w, e1, hw, he1, hp, rfl⟩ := laysW_mem.mp hx
  obtain ⟨q, v, e2, hv, he2, hq, rfl⟩ := laysW_mem.mp hy
  dsimp only at hxy e
  have t := hl.two p q w v (by omega) hw hv
  have a1 := hl.at' p w hw
  have a2 := hl.at' q v hv
  have E1 := (entW_ok h (w := w) (by omega) (by omega)).ok e1 he1
  have E2 := (entW_ok h (w := v) (by omega) (by omega)).ok e2 he2
  have ht : hit c e1 e2 = true := by
    rw [hit_iff]
    have e3 : c * (e1.2.1 - e2.2.1) + c = c * (w - p - (v - q) + 1) := by
      rw [show w - (p : Int) - (v - q) + 1 = (e1.2.1 - e2.2.1) + 1 by omega, Int.mul_add, Int.mul_one]
    refine ⟨e, by omega, by omega, by omega⟩
  have : (e1, e2) ∈ clsT c ns rows := clsT_mem.mpr ⟨E1.2.2.2.2, E2.2.2.2.2, ht⟩
  rw [hn] at this
  cases this
theorem laysW_ok (h : Tab ns rows) (hb : b ≤ rows.length) (hw : WaitS c b row) (hc : 0 ≤ c) (hn : clsT c ns rows = []) {k : Nat} (hk : (k : Int) ≤ c) : LayOk ns (sprL (stW ns rows row) (up b row.length k)) (laysW ns rows (lonW row (up b row.length k))) := by
  obtain ⟨hl, hd⟩ := hw.lon hk
  have hu := up_in (k := k) hw.len
  generalize up b row.length k = u at hl hd hu
  refine ⟨asc_ext (List.pairwise_map.mpr (laysW_asc h hb hl)) (sprL_asc _ _) fun x => ?_, laysW_two h hb hl hc hn, fun q hq => ?_⟩
  · rw [List.mem_map, sprL_mem, stW_len]
    constructor
    · rintro ⟨q, hq, rfl⟩
      obtain ⟨p, w, e, hpw, he, hp, rfl⟩ := laysW_mem.mp hq
      have a := hl.at' p w hpw
      have E := entW_ok h (w := w) (by omega) (by omega)
      have e1 := (E.ok e he).2.2.2.1
      refine ⟨by dsimp only; omega, ?_⟩
      rcases lonW_get hpw with ⟨z0, z⟩ | ⟨z1, z2, z3⟩
      · refine .inl ⟨by dsimp only; omega, ?_⟩
        dsimp only
        rw [Int.toNat_natCast, stW_get, z, Option.map_some]
        have n := isNx_nxE (entW ns rows w) (p := (p : Int)) (by omega)
        have n1 := n.le
        have n2 := n.most e he (by omega)
        congr 1
        omega
      · exact .inr ⟨z1, z2⟩
    · rintro ⟨h0, ⟨h1, h2⟩ | ⟨h1, h2⟩⟩
      · rw [stW_get] at h2
        obtain ⟨w, hpw, e0⟩ := Option.map_eq_some_iff.mp h2
        rw [show ((x.toNat : Nat) : Int) = x by omega] at e0
        have n := isNx_nxE (entW ns rows w) (p := x) (by omega)
        rcases n.isE with z | ⟨e, he, z⟩
        · omega
        · have hlx : (lonW row u)[x.toNat]? = some w := by
            unfold lonW
            rw [List.getElem?_append_left (by omega), hpw]
          exact ⟨(x, e.1), laysW_mem.mpr ⟨x.toNat, w, e, hlx, he, by omega, by rw [show ((x.toNat : Nat) : Int) = x by omega]⟩, rfl⟩
      · have hlx : (lonW row u)[x.toNat]? = some x := by
          unfold lonW
          rw [List.getElem?_append_right (by omega), rngL_at2 (by omega)]
          congr 1
          omega
        have a := hl.at' _ _ hlx
        obtain ⟨e, he, z⟩ := (entW_ok h (w := x) (by omega) (by omega)).fst (by omega)
        exact ⟨(x, e.1), laysW_mem.mpr ⟨x.toNat, x, e, hlx, he, by omega, by rw [show ((x.toNat : Nat) : Int) = x by omega]⟩, rfl⟩
  · obtain ⟨p, w, e, hpw, he, hp, rfl⟩ := laysW_mem.mp hq
    have a := hl.at' p w hpw
    have E := entW_ok h (w := w) (by omega) (by omega)
    have n := (E.nxt e he).1
    exact ⟨(E.ok e he).1, by dsimp only; omega⟩
theorem laysW_aft (h : Tab ns rows) (hb : b ≤ rows.length) (hw : WaitS c b row) (hc : 0 ≤ c) (hn : clsT c ns rows = []) {k : Nat} (hk : (k : Int) ≤ c) : aftS ns (stW ns rows row) (up b row.length k) (laysW ns rows (lonW row (up b row.length k))) = stW ns rows ((lonW row (up b row.length k)).drop 1) := by
  have hly := laysW_ok h hb hw hc hn hk
  obtain ⟨hl, hd⟩ := hw.lon hk
  have hu := up_in (k := k) hw.len
  generalize up b row.length k = u at hl hd hu hly
  have hlen := lonW_len hu.1
  have hg : ∀ p : Nat, ((lonW row u).drop 1)[p]? = (lonW row u)[p + 1]? := fun p => by rw [List.getElem?_drop, Nat.add_comm]
  refine (isAft_eq hly (by rw [stW_len]; exact hu.1) ⟨by rw [stW_len, List.length_drop]; omega, fun p l hm => ?_, fun p v hnm hv => ?_⟩).symm
  · obtain ⟨p', w, e, hpw, he, hp, z⟩ := laysW_mem.mp hm
    simp only [Prod.mk.injEq] at z
    have : p' = p + 1 := by omega
    subst this
    have a := hl.at' _ w hpw
    have E := entW_ok h (w := w) (by omega) (by omega)
    have n := E.nxt e he
    have ev := (E.ok e he).2.1
    rw [stW_get, hg, hpw, Option.map_some, z.2]
    have hx : IsNx (entW ns rows w) p (e.2.2 - vl ns e.1) := ⟨n.1, by omega, n.2, fun e' he' hle => E.les e he e' he' (by omega)⟩
    have := (isNx_nxE (entW ns rows w) (p := (p : Int)) (by omega)).uniq hx
    congr 1
    omega
  · rw [stW_get] at hv
    obtain ⟨w, hpw, rfl⟩ := Option.map_eq_some_iff.mp hv
    have hlx : (lonW row u)[p + 1]? = some w := by
      unfold lonW
      rw [List.getElem?_append_left (List.getElem?_eq_some_iff.mp hpw).1, hpw]
    rw [stW_get, hg, hlx, Option.map_some]
    have n := isNx_nxE (entW ns rows w) (p := ((p + 1 : Nat) : Int)) (by omega)
    have hno : ∀ e ∈ entW ns rows w, e.2.2 ≠ ((p + 1 : Nat) : Int) := fun e he z => hnm (List.mem_map.mpr ⟨(((p + 1 : Nat) : Int), e.1), laysW_mem.mpr ⟨p + 1, w, e, hlx, he, z, rfl⟩, rfl⟩)
    have hx : IsNx (entW ns rows w) p (nxE (entW ns rows w) ((p + 1 : Nat) : Int)) := by
      refine ⟨n.nn, ?_, n.isE, fun e he hle => n.most e he (by omega)⟩
      have := n.le
      rcases n.isE with z | ⟨e, he, z⟩
      · omega
      · have := hno e he
        omega
    have := (isNx_nxE (entW ns rows w) (p := (p : Int)) (by omega)).uniq hx
    congr 1
    omega
end
end Pu
namespace Pu
open PySem L2
/-! # few enough stands -/
/-! # known and waiting, any family -/
structure KZ (Z F : List Int → Prop) (known : List (List Int × Bool)) (waiting : List (List Int)) : Prop where
  nk : (akeys known).Nodup
  nw : waiting.Nodup
  iff : ∀ st, st ∈ akeys known ↔ F st ∨ st ∈ waiting
  dis : ∀ st, F st → st ∉ waiting
  std : ∀ st ∈ akeys known, Z st
section
variable {Z F : List Int → Prop} {known : List (List Int × Bool)} {waiting : List (List Int)}
theorem KZ.few (h : KZ Z F known waiting) (hf : ∀ ks : List (List Int), ks.Nodup → (∀ st ∈ ks, Z st) → ks.length ≤ 2000) : known.length ≤ 2000 ∧ waiting.length ≤ 2000 := by
  have hk := hf _ h.nk h.std
  have hw := hf _ h.nw fun st hst => h.std st ((h.iff st).mpr (.inr hst))
  rw [← akeys_len] at hk
  exact ⟨hk, hw⟩
theorem KZ.take {rest : List (List Int)} {a : List Int} (h : KZ Z F known waiting) (e : waiting = rest ++ [a]) : KZ Z (fun st => F st ∨ st = a) known rest ∧ ¬ F a ∧ Z a := by
  subst e
  obtain ⟨n1, _, n3⟩ := List.nodup_append.mp h.nw
  have ha : a ∉ rest := fun z => n3 a z a (by simp) rfl
  have hFa : ¬ F a := fun z => h.dis a z (by simp)
  refine ⟨⟨h.nk, n1, fun st => ?_, fun st z z2 => ?_, h.std⟩, hFa, h.std a ((h.iff a).mpr (.inr (by simp)))⟩
  · rw [h.iff, List.mem_append, List.mem_singleton]
    constructor
    · rintro (z | z | z)
      · exact .inl (.inl z)
      · exact .inr z
      · exact .inl (.inr z)
    · rintro ((z | z) | z)
      · exact .inl z
      · exact .inr (.inr z)
      · exact .inr (.inl z)
  · rcases z with z | z
    · exact h.dis st z (List.mem_append_left _ z2)
    · rw [z] at z2
      exact ha z2
end
/-! # the reach, and doubling loops -/
/-! # kept or not -/
def Kp (ns : List Int) (c b : Int) : Prop := ∃ X, KeepS ns c b X ∧ X []
theorem Kp.less {ns : List Int} {c b b' : Int} (h : Kp ns c b) (h0 : 0 ≤ b') (hb : b' ≤ b) : Kp ns c b' := by
  obtain ⟨X, hX, x0⟩ := h
  exact ⟨_, hX.less hb, x0, h0⟩
theorem Kp.no {ns : List Int} {c b : Int} (h : Kp ns c b) (d : Nat) : ¬ FlS ns c b d [] := by
  obtain ⟨X, hX, x0⟩ := h
  exact hX.no d [] x0
end Pu
namespace Pu
open PySem L2
end Pu
namespace Pu
open PySem L2
/-! # tables judged: the plain law -/
end Pu
namespace Pu
open PySem L2
/-! # typed: zip of two rows of any sort -/
section
variable {A B : Type} {e : A → D} {f : B → D} {r : Pu.Env} {a b d : D} {fx gx k : DE} {f' : VD → DE}
theorem zipRB_of {u t : Bool} {xs : List A} {ys : List B} (ha : rowB a = some (u, xs.map e)) (hb : rowB b = some (t, ys.map f)) : zipRB a b = .ok ((xs.zip ys).map (e2 e f)) := by
  unfold zipRB
  rw [ha, hb]
  have := zipR_L (e := e) (f := f) (xs := xs) (ys := ys)
  exact this
theorem q_zipJB {ds' : List D} (hf : Pd fx r a) (hg : Pd gx r b) (hs : zipRB a b = .ok ds') : Pur (jZpB fx gx) r ds' := fun T => by
  show ((dt (fx r T)).bind fun p => (dt (gx r p.2)).bind fun q => (zipRB p.1 q.1).bind fun ds => .ok (ds, q.2)) = _
  rw [hf T, Rs.bind_ok]
  show ((dt (gx r T)).bind _) = _
  rw [hg T, Rs.bind_ok]
  show ((zipRB a b).bind _) = _
  rw [hs]; rfl
end
/-! # a slot that is one of two things -/
/-! # list(d), keys of any length -/
end Pu
namespace Pu
open PySem L2
/-! # days as somebody leads them: tick by tick -/
theorem rngL_push {a b : Int} (h : a ≤ b) : rngL a (b + 1) = rngL a b ++ [b] := by
  unfold rngL
  rw [show (b + 1 - a).toNat = (b - a).toNat + 1 by omega, List.range_succ, List.map_append]
  congr 1
  show [a + ((b - a).toNat : Int)] = [b]
  congr 1
  omega
theorem rngL_self (a : Int) : rngL a a = [] := by
  unfold rngL
  rw [Int.sub_self]
  rfl
theorem dn_nn (x : Int) : dn x = ((x - 1).toNat : Int) := by unfold dn; split <;> omega
theorem LayOk.few {ns sp : List Int} {w : List (Int × Int)} (h : LayOk ns sp w) : w.length ≤ ns.length := by
  have := nodup_le (ys := rngL 0 ns.length) h.2.1 fun x hx => by
    obtain ⟨q, hq, rfl⟩ := List.mem_map.mp hx
    exact rngL_mem.mpr (h.2.2 q hq).1
  rw [List.length_map, rngL_len] at this
  omega
/-- what stands behind so many ticks -/
structure StQ (ns : List Int) (b : Int) (st ln cs : List Int) (A : List Ent) (come : Int) : Prop where
  pl : PlS (vl ns) ns.length cs.length (ledS b cs).1 ln st A
  ll : (ln.length : Int) = (ledS b cs).2.1
  co : come = (ledS b cs).1.length
  al : A.length ≤ ns.length * cs.length
theorem StQ.std {ns : List Int} {b : Int} {st ln cs : List Int} {A : List Ent} {come : Int} (hb : 0 ≤ b) (h : StQ ns b st ln cs A come) : StdOk b st := ⟨by
  have := h.pl.len
  have := h.ll
  have := (ledS_in hb cs).1
  omega, fun p v hv => by
  have hp := (List.getElem?_eq_some_iff.mp hv).1
  have hq : p < ln.length := by rw [← h.pl.len]; exact hp
  exact (h.pl.inl p _ v (List.getElem?_eq_getElem hq) hv).1⟩
/-- the letters in the line when so many more have come -/
def rowQ (b : Int) (ln : List Int) (come : Int) (k : Nat) : List Int := ln ++ rngL come (come + (up b ln.length k - ln.length))
theorem rowQ_len {b : Int} {ln : List Int} {come : Int} {k : Nat} (h : (ln.length : Int) ≤ b) : ((rowQ b ln come k).length : Int) = up b ln.length k := by
  have := up_in (k := k) h
  unfold rowQ
  rw [List.length_append, rngL_len]
  omega
/-! ## the comings, and nobody behind them -/
def cmN (cs : List Int) (t : Nat) : Nat := (cs.getD t 0).toNat
def cmP (cs : List Int) (t : Nat) : List Int := (List.range t).map fun i => (cmN cs i : Int)
theorem cmP_succ (cs : List Int) (t : Nat) : cmP cs (t + 1) = cmP cs t ++ [(cmN cs t : Int)] := by
  unfold cmP
  rw [List.range_succ, List.map_append]
  rfl
/-- the line and how many have come, ahead of a tick -/
def lnQ (b : Int) (cs : List Int) : Nat → List Int × Int
  | 0 => ([], 0)
  | t + 1 => ((rowQ b (lnQ b cs t).1 (lnQ b cs t).2 (cmN cs t)).drop 1, (lnQ b cs t).2 + cmN cs t)
def rwQ (b : Int) (cs : List Int) (t : Nat) : List Int := rowQ b (lnQ b cs t).1 (lnQ b cs t).2 (cmN cs t)
theorem lnQ_led {b : Int} (hb : 0 ≤ b) (cs : List Int) : ∀ t, ((lnQ b cs t).1.length : Int) = (ledS b (cmP cs t)).2.1 ∧ (lnQ b cs t).2 = (ledS b (cmP cs t)).1.length
  | 0 => ⟨rfl, rfl⟩
  | t + 1 => by
    obtain ⟨h1, h2⟩ := lnQ_led hb cs t
    have hin := ledS_in (b := b) hb (cmP cs t)
    have hl := rowQ_len (b := b) (ln := (lnQ b cs t).1) (come := (lnQ b cs t).2) (k := cmN cs t) (by omega)
    rw [cmP_succ, ledS_snoc]
    unfold stepE
    refine ⟨?_, ?_⟩
    · show (((rowQ b (lnQ b cs t).1 (lnQ b cs t).2 (cmN cs t)).drop 1).length : Int) = dn (up b (ledS b (cmP cs t)).2.1 (cmN cs t : Int).toNat)
      rw [List.length_drop, ← h1, dn_nn, Int.toNat_natCast]
      omega
    · show (lnQ b cs t).2 + cmN cs t = (((ledS b (cmP cs t)).1 ++ rowE b _ _ (cmN cs t : Int).toNat).length : Int)
      rw [List.length_append, rowE_len, h2]
      omega
theorem lnQ_le {b : Int} (hb : 0 ≤ b) (cs : List Int) (t : Nat) : ((lnQ b cs t).1.length : Int) ≤ b := by
  have := (lnQ_led hb cs t).1
  have := (ledS_in (b := b) hb (cmP cs t)).1
  omega
theorem rwQ_len {b : Int} (hb : 0 ≤ b) (cs : List Int) (t : Nat) : ((rwQ b cs t).length : Int) = up b (lnQ b cs t).1.length (cmN cs t) := rowQ_len (lnQ_le hb cs t)
/-! ## steps from a stand to a stand -/
/-- the stands to which one can come -/
def RcS (ns : List Int) (b : Int) (cs : List Int) : Nat → List Int → Prop
  | 0, st => st = []
  | t + 1, st' => ∃ st, RcS ns b cs t st ∧ ∃ w, LayOk ns (sprL st (up b st.length (cmN cs t))) w ∧ st' = aftS ns st (up b st.length (cmN cs t)) w
theorem RcS.std {ns : List Int} {b : Int} {cs : List Int} (hb : 0 ≤ b) (hn : ∀ x ∈ ns, 1 ≤ x) : ∀ {t : Nat} {st : List Int}, RcS ns b cs t st → StdOk b st ∧ st.length = (lnQ b cs t).1.length
  | 0, st, h => by
    have h : st = [] := h
    subst h
    exact ⟨⟨hb, fun p v h => by simp at h⟩, rfl⟩
  | t + 1, st', ⟨st, h, w, hw, e⟩ => by
    obtain ⟨h1, h2⟩ := h.std hb hn
    subst e
    refine ⟨aft_std hn h1 hw, ?_⟩
    rw [aftS_len]
    show _ = ((rowQ b (lnQ b cs t).1 (lnQ b cs t).2 (cmN cs t)).drop 1).length
    have := rwQ_len hb cs t
    unfold rwQ at this
    rw [List.length_drop, h2]
    omega
theorem RcS.less {ns : List Int} {b : Int} {cs : List Int} {t : Nat} (h : ∃ st, RcS ns b cs (t + 1) st) : ∃ st, RcS ns b cs t st := by
  obtain ⟨_, st, h, _⟩ := h
  exact ⟨st, h⟩
end Pu
namespace Pu
open PySem L2
/-! # who knows all ahead: the ways to deal -/
def DlOk (ns pl d : List Int) : Prop := ∃ w, LayOk ns pl w ∧ d = w.map (·.2)
theorem zip_unzip : ∀ w : List (Int × Int), (w.map (·.1)).zip (w.map (·.2)) = w
  | [] => rfl
  | (a, b) :: w => by
    rw [List.map_cons, List.map_cons, List.zip_cons_cons, zip_unzip w]
theorem LayOk.zip {ns sp : List Int} {w : List (Int × Int)} (h : LayOk ns sp w) : sp.zip (w.map (·.2)) = w := by
  rw [← h.1, zip_unzip]
theorem dl_snoc {ns pl d : List Int} {p : Int} : DlOk ns (pl ++ [p]) d ↔ ∃ d0 l, DlOk ns pl d0 ∧ (0 ≤ l ∧ l < (ns.length : Int)) ∧ vl ns l ≤ p ∧ l ∉ d0 ∧ d = d0 ++ [l] := by
  constructor
  · rintro ⟨w, hw, rfl⟩
    obtain ⟨w0, l, h1, h2, h3, h4, rfl⟩ := lay_snoc.mp hw
    exact ⟨w0.map (·.2), l, ⟨w0, h1, rfl⟩, h2, h3, h4, by simp⟩
  · rintro ⟨d0, l, ⟨w0, h1, rfl⟩, h2, h3, h4, rfl⟩
    exact ⟨w0 ++ [(p, l)], lay_snoc.mpr ⟨w0, l, h1, h2, h3, h4, rfl⟩, by simp⟩
def fitQ (ns : List Int) (p : Int) (row : List Int) : List Int := (rngL 0 ns.length).filter fun k => decide (vl ns k ≤ p) && !memB k row
def dealsQ (ns : List Int) (pl : List Int) : List (List Int) := pl.foldl (fun L p => L.flatMap fun row => (fitQ ns p row).map fun k => row ++ [k]) [[]]
theorem dealsQ_snoc (ns pl : List Int) (p : Int) : dealsQ ns (pl ++ [p]) = (dealsQ ns pl).flatMap fun row => (fitQ ns p row).map fun k => row ++ [k] := by
  unfold dealsQ
  rw [List.foldl_append]
  rfl
theorem fitQ_mem {ns row : List Int} {p l : Int} : l ∈ fitQ ns p row ↔ (0 ≤ l ∧ l < (ns.length : Int)) ∧ vl ns l ≤ p ∧ l ∉ row := by
  unfold fitQ
  rw [List.mem_filter, rngL_mem]
  simp
theorem dealsQ_mem {ns : List Int} (pl : List Int) : ∀ d, d ∈ dealsQ ns pl ↔ DlOk ns pl d := by
  refine snoc_ind' (P := fun pl => ∀ d, d ∈ dealsQ ns pl ↔ DlOk ns pl d) (fun d => ?_) (fun pl p ih d => ?_) pl
  · show d ∈ [[]] ↔ _
    rw [List.mem_singleton]
    constructor
    · rintro rfl
      exact ⟨[], ⟨rfl, List.nodup_nil, fun q h => nomatch h⟩, rfl⟩
    · rintro ⟨w, hw, rfl⟩
      rw [List.map_eq_nil_iff.mp hw.1]
      rfl
  · rw [dealsQ_snoc, dl_snoc, List.mem_flatMap]
    constructor
    · rintro ⟨row, h1, h2⟩
      obtain ⟨l, h3, rfl⟩ := List.mem_map.mp h2
      obtain ⟨a, b, c⟩ := fitQ_mem.mp h3
      exact ⟨row, l, (ih row).mp h1, a, b, c, rfl⟩
    · rintro ⟨d0, l, h1, h2, h3, h4, rfl⟩
      exact ⟨d0, (ih d0).mpr h1, List.mem_map_of_mem (fitQ_mem.mpr ⟨h2, h3, h4⟩)⟩
theorem DlOk.len {ns pl d : List Int} (h : DlOk ns pl d) : d.length = pl.length ∧ pl.length ≤ ns.length := by
  obtain ⟨w, hw, rfl⟩ := h
  have := hw.len
  have := hw.few
  rw [List.length_map]
  omega
/-! ## the places at the switch -/
/-! ## the next stand -/
/-! ## one tick of all that is known -/
abbrev Way := List Int × List Int × List Int
structure LedP (ns : List Int) (ks : List (List Int)) (u : Int) (D : List (List Int × Way)) : Prop where
  nd : (akeys D).Nodup
  iff : ∀ st', st' ∈ akeys D ↔ ∃ st ∈ ks, ∃ w, LayOk ns (sprL st u) w ∧ st' = aftS ns st u w
  val : ∀ st' v, aget D st' = some v → v.1 ∈ ks ∧ ∃ w, LayOk ns (sprL v.1 u) w ∧ st' = aftS ns v.1 u w ∧ v.2.1 = w.map (·.1) ∧ v.2.2 = w.map (·.2)
/-- on the way: all of the first ones, of the next one the first deals -/
structure LedI (ns : List Int) (ks : List (List Int)) (u : Int) (st0 : List Int) (ds : List (List Int)) (D : List (List Int × Way)) : Prop where
  nd : (akeys D).Nodup
  iff : ∀ st', st' ∈ akeys D ↔ (∃ st ∈ ks, ∃ w, LayOk ns (sprL st u) w ∧ st' = aftS ns st u w) ∨ ∃ w, LayOk ns (sprL st0 u) w ∧ w.map (·.2) ∈ ds ∧ st' = aftS ns st0 u w
  val : ∀ st' v, aget D st' = some v → (v.1 ∈ ks ∨ v.1 = st0) ∧ ∃ w, LayOk ns (sprL v.1 u) w ∧ st' = aftS ns v.1 u w ∧ v.2.1 = w.map (·.1) ∧ v.2.2 = w.map (·.2)
theorem LedP.nil (ns : List Int) (u : Int) : LedP ns [] u [] := ⟨List.nodup_nil, fun st' => ⟨fun h => (nomatch h), fun ⟨_, h, _⟩ => (nomatch h)⟩, fun st' v h => (nomatch h)⟩
theorem LedP.go {ns : List Int} {ks : List (List Int)} {u : Int} {D : List (List Int × Way)} (h : LedP ns ks u D) (st0 : List Int) : LedI ns ks u st0 [] D :=
  ⟨h.nd, fun st' => (h.iff st').trans ⟨.inl, fun z => z.elim id fun ⟨_, _, h, _⟩ => (nomatch h)⟩, fun st' v e => ⟨.inl (h.val st' v e).1, (h.val st' v e).2⟩⟩
theorem LedI.all {ns : List Int} {ks : List (List Int)} {u : Int} {st0 : List Int} {D : List (List Int × Way)} (h : LedI ns ks u st0 (dealsQ ns (sprL st0 u)) D) : LedP ns (ks ++ [st0]) u D := by
  refine ⟨h.nd, fun st' => (h.iff st').trans ⟨?_, ?_⟩, fun st' v e => ⟨?_, (h.val st' v e).2⟩⟩
  · rintro (⟨st, hs, z⟩ | ⟨w, hw, _, e⟩)
    · exact ⟨st, List.mem_append_left _ hs, z⟩
    · exact ⟨st0, by simp, w, hw, e⟩
  · rintro ⟨st, hs, w, hw, e⟩
    rcases List.mem_append.mp hs with z | z
    · exact .inl ⟨st, z, w, hw, e⟩
    · rw [List.mem_singleton.mp z] at hw e
      exact .inr ⟨w, hw, (dealsQ_mem _ _).mpr ⟨w, hw, rfl⟩, e⟩
  · rcases (h.val st' v e).1 with z | z
    · exact List.mem_append_left _ z
    · rw [z]; simp
/-! ## ticks one behind another -/
/-! ## the way back -/
theorem enuL_rng (ns : List Int) : enuL 0 ns = (rngL 0 ns.length).map fun k => (k, vl ns k) := by
  refine List.ext_getElem? fun i => ?_
  rw [enuL_get, List.getElem?_map]
  by_cases c : i < ns.length
  · have e := List.getElem?_eq_getElem c
    rw [rngL_at2 (by omega), e]
    simp [vl_get e]
  · rw [List.getElem?_eq_none (by omega), List.getElem?_eq_none (by rw [rngL_len]; omega)]
    rfl
theorem LedI.len {ns : List Int} {ks : List (List Int)} {u : Int} {st0 : List Int} {ds : List (List Int)} {D : List (List Int × Way)} (h : LedI ns ks u st0 ds D) {ks2 : List (List Int)} (h1 : ∀ x ∈ ks, x ∈ ks2) (h2 : st0 ∈ ks2) {N : Nat} (hf : ∀ xs : List (List Int), xs.Nodup → (∀ x ∈ xs, ∃ st ∈ ks2, ∃ w, LayOk ns (sprL st u) w ∧ x = aftS ns st u w) → xs.length ≤ N) : D.length ≤ N := by
  rw [akeys_len]
  refine hf _ h.nd fun x hx => ?_
  rcases (h.iff x).mp hx with ⟨st, a, b⟩ | ⟨w, a, _, b⟩
  · exact ⟨st, h1 st a, b⟩
  · exact ⟨st0, h2, w, a, b⟩
/-! ## until nobody is left -/
/-! ## the flood -/
end Pu
namespace Pu
open PySem L2
/-! # typed: things that are lent -/
theorem s_stk {A B : Type} {E : EX} {x : Rs A} {R : A → B → Prop} : Sim E x .stuck R := trivial
/-! [f(x) for x in xs if c(x)], what is lent going along -/
/-! at whatever place -/
/-! an __init__ that ends so -/
/-! dict(d), sorted(d) -/
end Pu
namespace Pu
open PySem L2
/-! # all rows of loops that make a wait -/
theorem nodup_flat {A B : Type} {f : A → List B} {xs : List A} (h : xs.Nodup) (h1 : ∀ x ∈ xs, (f x).Nodup) (h2 : ∀ x ∈ xs, ∀ y ∈ xs, ∀ b, b ∈ f x → b ∈ f y → x = y) : (xs.flatMap f).Nodup := by
  induction xs with
  | nil => exact List.Pairwise.nil
  | cons x xs ih =>
    rw [List.flatMap_cons]
    obtain ⟨a1, a2⟩ := List.nodup_cons.mp h
    refine List.nodup_append.mpr ⟨h1 x List.mem_cons_self, ih a2 (fun y z => h1 y (List.mem_cons_of_mem _ z)) (fun y hy z hz => h2 y (List.mem_cons_of_mem _ hy) z (List.mem_cons_of_mem _ hz)), fun b hb c hc e => ?_⟩
    subst e
    obtain ⟨y, hy, hb2⟩ := List.mem_flatMap.mp hc
    have := h2 x List.mem_cons_self y (List.mem_cons_of_mem _ hy) b hb hb2
    subst this
    exact a1 hy
theorem nodup_map {A B : Type} {f : A → B} {xs : List A} (h : xs.Nodup) (h2 : ∀ x ∈ xs, ∀ y ∈ xs, f x = f y → x = y) : (xs.map f).Nodup := by
  have := nodup_flat (f := fun x => [f x]) h (fun x _ => by simp) (fun x hx y hy b hb hc => by
    rw [List.mem_singleton] at hb hc
    exact h2 x hx y hy (hb.symm.trans hc))
  have e : xs.flatMap (fun x => [f x]) = xs.map f := by
    clear this h h2
    induction xs with
    | nil => rfl
    | cons x xs ih => rw [List.flatMap_cons, ih]; rfl
  rwa [e] at this
theorem nodup_of_map {A B : Type} {f : A → B} {xs : List A} (h : (xs.map f).Nodup) : xs.Nodup := by
  unfold List.Nodup at *
  rw [List.pairwise_map] at h
  exact h.imp fun z e => z (by rw [e])
/-! orders of a lot -/
def insA (x : Int) (s : List Int) : List (List Int) := (List.range (s.length + 1)).map fun i => s.take i ++ [x] ++ s.drop i
def ordsA (xs : List Int) : List (List Int) := xs.foldl (fun acc x => acc.flatMap (insA x)) [[]]
/-! the lots -/
def smL (ls r : List Int) : Int := (r.map (vl ls)).sum
def lotsA (ls : List Int) (w : Int) : Nat → List (List Int)
  | 0 => [[]]
  | j + 1 => lotsA ls w j ++ ((lotsA ls w j).filter fun l => decide (smL ls l + vl ls j ≤ w)).map fun l => l ++ [(j : Int)]
def allRw (ls : List Int) (w : Int) : List (List Int) := ((lotsA ls w ls.length).filter fun l => decide (smL ls l = w)).flatMap ordsA
/-! the layers -/
/-! other orders of the loops; one loop more -/
end Pu
namespace Pu
open PySem L2
/-! # a dict that is lent and keeps what was found -/
/-! # rows that are friends -/
/-- no entry of the two clashes with another -/
def frB (c : Int) (x y : List Ent) : Bool := !((x ++ y).any fun a => (x ++ y).any fun b => decide (a.1 = b.1) && clS c a b)
/-! ## the search, as a plain function: tr tells whether two places (wait, number of the row) are friends, N how many rows a wait has -/
end Pu
namespace Pu
open PySem L2
/-! # loops that hand a lent thing on -/
/-! # what the search finds -/
end Pu
namespace Pu
open PySem L2
/-! # how many rows there are -/
/-! # the lists of a search -/
def rwR (ns : List Int) (w : Int) : List (List Int) := srtL (allRw ns w)
end Pu
namespace Pu
open PySem L2
/-! # friends and clashes -/
theorem frB_iff {c : Int} {x y : List Ent} : frB c x y = true ↔ ∀ a ∈ x ++ y, ∀ b ∈ x ++ y, hit c a b = false := by
  unfold frB
  rw [Bool.not_eq_true', Bool.eq_false_iff]
  constructor
  · intro h a ha b hb
    rw [Bool.eq_false_iff]
    intro z
    obtain ⟨z1, z2, z3, z4⟩ := hit_iff.mp z
    refine h (List.any_eq_true.mpr ⟨a, ha, List.any_eq_true.mpr ⟨b, hb, ?_⟩⟩)
    unfold clS
    rw [if_neg (by omega)]
    exact z
  · intro h z
    obtain ⟨a, ha, z⟩ := List.any_eq_true.mp z
    obtain ⟨b, hb, z⟩ := List.any_eq_true.mp z
    rw [Bool.and_eq_true, decide_eq_true_eq] at z
    unfold clS at z
    split at z
    · have := h b hb a ha
      unfold hit at this
      rw [z.2, z.1] at this
      simp at this
    · have := h a ha b hb
      unfold hit at this
      rw [z.2, z.1] at this
      simp at this
theorem clsT_fr {c : Int} {ns : List Int} {rows : List (List Int)} : clsT c ns rows = [] ↔ ∀ x ∈ rows, ∀ y ∈ rows, frB c (entR ns x) (entR ns y) = true := by
  constructor
  · intro h x hx y hy
    have e : ∀ a, a ∈ entR ns x ++ entR ns y → a ∈ ents ns rows := fun a ha => by
      rcases List.mem_append.mp ha with z | z
      · exact List.mem_flatMap.mpr ⟨x, hx, z⟩
      · exact List.mem_flatMap.mpr ⟨y, hy, z⟩
    refine frB_iff.mpr fun a ha b hb => ?_
    rw [Bool.eq_false_iff]
    intro z
    have : (a, b) ∈ clsT c ns rows := clsT_mem.mpr ⟨e a ha, e b hb, z⟩
    rw [h] at this
    cases this
  · intro h
    refine nil_of_no fun p hp => ?_
    obtain ⟨m1, m2, m3⟩ := clsT_mem.mp hp
    obtain ⟨x, hx, a1⟩ := List.mem_flatMap.mp m1
    obtain ⟨y, hy, b1⟩ := List.mem_flatMap.mp m2
    have := frB_iff.mp (h x hx y hy) p.1 (List.mem_append_left _ a1) p.2 (List.mem_append_right _ b1)
    rw [this] at m3
    cases m3
/-! # tables, as lists of rows of the waits 1, 2, .. -/
structure TbR (ns : List Int) (c : Int) (rows : List (List Int)) : Prop where
  at_ : ∀ (i : Nat) (r : List Int), rows[i]? = some r → r ∈ rwR ns ((i : Int) + 1)
  fr : ∀ x ∈ rows, ∀ y ∈ rows, frB c (entR ns x) (entR ns y) = true
end Pu
namespace Pu
open PySem L2
/-! # the same loops in another order: tables go along -/
/-- there is a safe table -/
def HasT (ns : List Int) (c b : Int) : Prop := ∃ rows, TbR ns c rows ∧ rows.length = b.toNat
theorem tbR_take {ns : List Int} {c : Int} {rows : List (List Int)} (h : TbR ns c rows) (n : Nat) : TbR ns c (rows.take n) := by
  refine ⟨fun i r hr => ?_, fun x hx y hy => h.fr x (List.mem_of_mem_take hx) y (List.mem_of_mem_take hy)⟩
  have hi := (List.getElem?_eq_some_iff.mp hr).1
  rw [List.length_take] at hi
  rw [List.getElem?_take_of_lt (by omega)] at hr
  exact h.at_ i r hr
theorem HasT.less {ns : List Int} {c b d : Int} (h : HasT ns c b) (hd : d ≤ b) : HasT ns c d := by
  obtain ⟨rows, h1, h2⟩ := h
  exact ⟨rows.take d.toNat, tbR_take h1 _, by rw [List.length_take]; omega⟩
/-- the greatest bound with a safe table -/
structure GrT (ns : List Int) (c g : Int) : Prop where
  pos : 0 ≤ g
  lt : g ≤ 60
  has : HasT ns c g
  no : g < 60 → ¬ HasT ns c (g + 1)
theorem GrT.uniq {ns : List Int} {c g g' : Int} (h : GrT ns c g) (h' : GrT ns c g') : g = g' := by
  rcases Int.lt_trichotomy g g' with z | z | z
  · exact absurd (h'.has.less (by omega)) (h.no (by have := h'.lt; omega))
  · exact z
  · exact absurd (h.has.less (by omega)) (h'.no (by have := h.lt; omega))
end Pu
namespace Pu
open PySem L2
/-! # how many tables there are -/
/-- a list of just all tables -/
structure AllT (ns : List Int) (c b : Int) (l : List (List (List Int))) : Prop where
  nd : l.Nodup
  mem : ∀ t, t ∈ l ↔ t.length = b.toNat ∧ TbR ns c t
theorem AllT.len {ns : List Int} {c b : Int} {l l' : List (List (List Int))} (h : AllT ns c b l) (h' : AllT ns c b l') : l.length = l'.length :=
  Nat.le_antisymm (h.nd.length_le_of_subset fun t ht => (h'.mem t).mpr ((h.mem t).mp ht)) (h'.nd.length_le_of_subset fun t ht => (h.mem t).mpr ((h'.mem t).mp ht))
theorem AllT.has {ns : List Int} {c b : Int} {l : List (List (List Int))} (h : AllT ns c b l) : l ≠ [] ↔ HasT ns c b := by
  constructor
  · intro z
    obtain ⟨t, ht⟩ := List.exists_mem_of_ne_nil _ z
    obtain ⟨h1, h2⟩ := (h.mem t).mp ht
    exact ⟨t, h2, h1⟩
  · rintro ⟨t, h1, h2⟩ z
    have := (h.mem t).mpr ⟨h2, h1⟩
    rw [z] at this
    cases this
theorem AllT.more {ns : List Int} {c d b : Int} {l l' : List (List (List Int))} (h : AllT ns c b l) (h' : AllT ns d b l') (hcd : c ≤ d) : l'.length ≤ l.length :=
  h'.nd.length_le_of_subset fun t ht => by
    obtain ⟨h1, h2⟩ := (h'.mem t).mp ht
    exact (h.mem t).mpr ⟨h1, h2.at_, clsT_fr.mp (cls_nil (ns := ns) hcd (fun r hr => hr) (clsT_fr.mpr h2.fr))⟩
/-! ## tables that go on from choices -/
/-! ## helpers of the specs -/
end Pu
namespace Pu
open PySem L2
/-! # f(.., thing just made, ..) -/
end Pu
namespace Pu
open PySem L2
end Pu
namespace Pu
open PySem L2
/-! # searches with lists of one's own: L tells the rows of each wait -/
def numG (L : Int → List (List Int)) (w : Int) : Nat := (L w).length
def plcG (L : Int → List (List Int)) (b : Int) : List (Int × Int) := (rngL 1 (b + 1)).flatMap fun w => (List.range (numG L w)).map fun (i : Nat) => (w, (i : Int))
structure LOk (L : Int → List (List Int)) (ns : List Int) (c b : Int) : Prop where
  row : ∀ w, 1 ≤ w → w ≤ b → ∀ r ∈ L w, RowOk ns r ∧ r.length ≤ 60 ∧ (r.map (vl ns)).sum = w
  self : ∀ w, 1 ≤ w → w ≤ b → ∀ r ∈ L w, frB c (entR ns r) (entR ns r) = true
  len : (plcG L b).length ≤ 3000
theorem plcG_mem {L : Int → List (List Int)} {b : Int} {p : Int × Int} : p ∈ plcG L b ↔ (1 ≤ p.1 ∧ p.1 ≤ b) ∧ 0 ≤ p.2 ∧ p.2 < (numG L p.1 : Int) := by
  unfold plcG
  rw [List.mem_flatMap]
  constructor
  · rintro ⟨w, hw, h⟩
    obtain ⟨i, hi, rfl⟩ := List.mem_map.mp h
    rw [List.mem_range] at hi
    have := mem_rngL hw
    dsimp only
    omega
  · rintro ⟨h1, h2, h3⟩
    refine ⟨p.1, rngL_mem.mpr (by omega), List.mem_map.mpr ⟨p.2.toNat, List.mem_range.mpr (by omega), ?_⟩⟩
    rw [Int.toNat_of_nonneg h2]
theorem LOk.num {L : Int → List (List Int)} {ns : List Int} {c b w : Int} (h : LOk L ns c b) (hw : 1 ≤ w ∧ w ≤ b) : numG L w ≤ 3000 := by
  have : ((List.range (numG L w)).map fun (i : Nat) => (w, (i : Int))).length ≤ (plcG L b).length := List.Nodup.length_le_of_subset (by
    refine nodup_map List.nodup_range fun x _ y _ e => ?_
    injection e with _ e
    exact Int.ofNat.inj e) fun p hp2 => by
    obtain ⟨i, hi, rfl⟩ := List.mem_map.mp hp2
    rw [List.mem_range] at hi
    exact plcG_mem.mpr ⟨hw, by dsimp only; omega, by dsimp only; omega⟩
  rw [List.length_map, List.length_range] at this
  have := h.len
  omega
/-! ## tables of such rows -/
end Pu
namespace Pu
open PySem L2
/-! # letters in the line, tick by tick, with their waits -/
/-! ## all letters, seen at a tick -/
/-! ## when a letter comes back -/
theorem stW_std {ns : List Int} {rows : List (List Int)} {c b : Int} {row : List Int} (h : WaitS c b row) : StdOk b (stW ns rows row) := by
  refine ⟨by rw [stW_len]; exact h.len, fun p v hv => ?_⟩
  rw [stW_get] at hv
  obtain ⟨w, hw, rfl⟩ := Option.map_eq_some_iff.mp hv
  have n := isNx_nxE (entW ns rows w) (p := (p : Int)) (by omega)
  have := n.nn
  have := n.le
  omega
end Pu
namespace Pu
open PySem L2
/-! # dicts that are compared, cleared, popped from -/
/-! # what is None or of one's own -/
/-! # list(range(a, b)), tuple(range(..)) -/
end Pu
namespace Pu
open PySem L2
/-! # dicts read in another order; lost lists with other depths -/
/-- a dict that tells of the first keys what another one tells, turned by f -/
structure TurnI {A B C : Type} [DecidableEq A] (K : List (A × B)) (f : B → C) (ks : List A) (s : List (A × C)) : Prop where
  nd : (akeys s).Nodup
  get : ∀ k, aget s k = if k ∈ ks then (aget K k).map f else none
theorem TurnI.nil {A B C : Type} [DecidableEq A] {K : List (A × B)} {f : B → C} : TurnI K f [] [] := ⟨.nil, fun k => by simp [aget]⟩
theorem TurnI.keys {A B C : Type} [DecidableEq A] {K : List (A × B)} {f : B → C} {ks : List A} {s : List (A × C)} (h : TurnI K f ks s) : ∀ k ∈ akeys s, k ∈ akeys K := fun k z => by
  obtain ⟨v, e⟩ := mem_keys.mp z
  rw [h.get] at e
  split at e
  · obtain ⟨w, e, _⟩ := Option.map_eq_some_iff.mp e
    exact mem_keys.mpr ⟨w, e⟩
  · cases e
theorem TurnI.done {A B C : Type} [DecidableEq A] {K : List (A × B)} {f : B → C} {ks : List A} {s : List (A × C)} (h : TurnI K f ks s) (hk : ∀ k ∈ akeys K, k ∈ ks) (k : A) : aget s k = (aget K k).map f := by
  rw [h.get]
  split
  · rfl
  · rename_i c
    cases e : aget K k with
    | none => rfl
    | some v => exact absurd (hk k (mem_keys.mpr ⟨v, e⟩)) c
theorem KeptP.same {ns : List Int} {c b : Int} {Y : List Int → Prop} {K K' : List (List Int × List (Option (List (Int × Int))))} (h : KeptP ns c b Y K) (n : (akeys K').Nodup) (e : ∀ k, aget K' k = aget K k) : KeptP ns c b Y K' := ⟨n, fun st => by
  rw [← h.iff, mem_keys, mem_keys, e], fun st vs z => h.val st vs (by rw [← e]; exact z)⟩
/-- a lost list, of any depths -/
structure LostG (ns : List Int) (c b : Int) (F : List (List Int × Int × Int)) : Prop where
  nd : (akeys F).Nodup
  h0 : [] ∈ akeys F
  std : ∀ st ∈ akeys F, StdOk b st
  val : ∀ st n e, aget F st = some (n, e) → (0 ≤ n ∧ n ≤ c) ∧ 0 ≤ e ∧ ∀ w, LayOk ns (sprL st (up b st.length n.toNat)) w → ∃ n' e', aget F (aftS ns st (up b st.length n.toNat) w) = some (n', e') ∧ e' < e
theorem LostI.g {ns : List Int} {c b : Int} {X : List Int → Prop} {d : Nat} {F : List (List Int × Int × Int)} (hF : LostI ns c b X d F) (hX : ClS ns c b X) (hXs : ∀ st, X st → StdOk b st) (hk0 : [] ∈ akeys F) (hc : 0 ≤ c) : LostG ns c b F := ⟨hF.nd, hk0, fun st z => hXs st ((hF.mem _).mp z).1, fun st n e ev => by
  obtain ⟨a1, j, a2, a3, a4, a5⟩ := hF.val st n e ev
  have hx := ((hF.mem st).mp (mem_keys.mpr ⟨_, ev⟩)).1
  refine ⟨a1, by omega, fun w hw => ?_⟩
  have hfl := a5 w hw
  have hxa := hX st hx n.toNat (by omega) w hw
  obtain ⟨⟨n', e'⟩, ev'⟩ := mem_keys.mp ((hF.mem _).mpr ⟨hxa, hfl.mono (by omega)⟩)
  obtain ⟨j', b1, b2, b3⟩ := hF.deep ev'
  have hlt : j' < j := Classical.byContradiction fun z => b2 (hfl.mono (by omega))
  exact ⟨n', e', ev', by omega⟩⟩
theorem LostG.same {ns : List Int} {c b : Int} {F F' : List (List Int × Int × Int)} (h : LostG ns c b F) (n : (akeys F').Nodup) (f : Int → Int) (hf : ∀ x, 0 ≤ x → 0 ≤ f x) (hl : ∀ x y, x < y → f x < f y) (e : ∀ k, aget F' k = (aget F k).map fun v => (v.1, f v.2)) : LostG ns c b F' := by
  have hk : ∀ st, st ∈ akeys F' → st ∈ akeys F := fun st z => by
    obtain ⟨v, q⟩ := mem_keys.mp z
    rw [e] at q
    obtain ⟨w, q, _⟩ := Option.map_eq_some_iff.mp q
    exact mem_keys.mpr ⟨w, q⟩
  refine ⟨n, ?_, fun st z => h.std st (hk st z), fun st m x ev => ?_⟩
  · obtain ⟨v, q⟩ := mem_keys.mp h.h0
    exact mem_keys.mpr ⟨_, by rw [e, q]; rfl⟩
  · rw [e] at ev
    obtain ⟨⟨m0, x0⟩, q, q2⟩ := Option.map_eq_some_iff.mp ev
    obtain ⟨rfl, rfl⟩ := Prod.mk.inj q2
    obtain ⟨h1, h2, h3⟩ := h.val st m0 x0 q
    refine ⟨h1, hf _ h2, fun w hw => ?_⟩
    obtain ⟨n', e', g1, g2⟩ := h3 w hw
    exact ⟨n', f e', by rw [e, g1]; rfl, hl _ _ g2⟩
end Pu
namespace Pu
open PySem L2
/-! # whether a thing of any kind is a bar -/
/-! # how big a bar is -/
end Pu
namespace Pu
open PySem L2
/-! # typed: sorted of a known tuple -/
end Pu
namespace Pu
open PySem L2
end Pu
namespace Pu
open PySem L2
end Pu
namespace Pu
open PySem L2
end Pu
namespace Pu
open PySem L2
/-! # typed: a known tuple and perhaps nothing more; max with default 0 -/
end Pu
namespace Pu
open PySem L2
/-! # closed lists of tables -/
/-- the row of waits a tick later, when so many come -/
def nextW (b : Int) (row : List Int) (k : Nat) : List Int := (lonW row (up b row.length k)).drop 1
inductive ReW (c b : Int) : List Int → Prop
  | nil : ReW c b []
  | step {row : List Int} {k : Nat} : ReW c b row → (k : Int) ≤ c → ReW c b (nextW b row k)
theorem ReW.wait {c b : Int} (hb : 0 ≤ b) {row : List Int} (h : ReW c b row) : WaitS c b row := by
  induction h with
  | nil => exact WaitS.nil hb
  | step _ hk ih => exact (ih.lon hk).2
/-! ## there are few of them -/
/-! ## entries -/
/-- the laying-outs of a row of waits, one for each number -/
def laysT (ns : List Int) (rows : List (List Int)) (c b : Int) (row : List Int) : List (List (Int × Int)) := (rngL 0 (c + 1)).map fun k => laysW ns rows (lonW row (up b row.length k.toNat))
structure KeptW (ns : List Int) (c b : Int) (Y : List Int → Prop) (K : List (List Int × List (List (Int × Int)))) : Prop where
  nd : (akeys K).Nodup
  iff : ∀ st, st ∈ akeys K ↔ Y st
  val : ∀ st vs, aget K st = some vs → (vs.length : Int) = c + 1 ∧ ∀ (k : Nat) w, vs[k]? = some w → LayOk ns (sprL st (up b st.length k)) w ∧ Y (aftS ns st (up b st.length k) w)
def YW (ns : List Int) (rows : List (List Int)) (R : List Int → Prop) (st : List Int) : Prop := ∃ row, R row ∧ st = stW ns rows row
/-- what closed_of tells of a safe table -/
structure ClW (ns : List Int) (rows : List (List Int)) (c b : Int) (R : List Int → Prop) (K : List (List Int × List (List (Int × Int)))) : Prop where
  re : ∀ r, R r → ReW c b r
  nil : R []
  kept : KeptW ns c b (YW ns rows R) K
theorem ClW.of {ns : List Int} {rows : List (List Int)} {c b : Int} {R : List Int → Prop} {K : List (List Int × List (List (Int × Int)))} (h : Tab ns rows) (hb : 0 ≤ b ∧ b ≤ rows.length) (hc : 0 ≤ c) (hn : clsT c ns rows = []) (re : ∀ r, R r → ReW c b r) (nil : R []) (cl : ∀ r, R r → ∀ k : Nat, (k : Int) ≤ c → R (nextW b r k))
    (nd : (akeys K).Nodup) (iff : ∀ st, st ∈ akeys K ↔ YW ns rows R st) (val : ∀ st vs, aget K st = some vs → ∃ row, R row ∧ st = stW ns rows row ∧ vs = laysT ns rows c b row) : ClW ns rows c b R K :=
  ⟨re, nil, nd, iff, fun st vs e => by
    obtain ⟨row, hr, rfl, rfl⟩ := val st vs e
    have hw := (re row hr).wait hb.1
    refine ⟨by unfold laysT; rw [List.length_map, rngL_len]; omega, fun k w hk => ?_⟩
    unfold laysT at hk
    rw [List.getElem?_map] at hk
    obtain ⟨x, hx, rfl⟩ := Option.map_eq_some_iff.mp hk
    have hx := rngL_get hx
    have ex : x.toNat = k := by omega
    rw [ex, stW_len]
    refine ⟨laysW_ok h hb.2 hw hc hn (by omega), nextW b row k, cl row hr k (by omega), ?_⟩
    exact laysW_aft h hb.2 hw hc hn (by omega)⟩
theorem ClW.std {ns : List Int} {rows : List (List Int)} {c b : Int} {R : List Int → Prop} {K : List (List Int × List (List (Int × Int)))} (h : ClW ns rows c b R K) (hb : 0 ≤ b) : ∀ st, YW ns rows R st → StdOk b st := fun st ⟨row, hr, e⟩ => by
  rw [e]
  exact stW_std ((h.re row hr).wait hb)
/-! ## hashes of stands -/
/-! ## the line of a row of waits, letter by letter -/
end Pu
namespace Pu
open PySem L2
/-! # texts of many digits -/
/-! # tables judged: what is handed in -/
end Pu
namespace Pu
open PySem L2
/-! # typed: known tuples of anything -/
abbrev eKp {A : Type} (e : A → D) (xs : List A) : D := .ktp (xs.map e)
theorem py_kt (ds : List D) : py (.ktp ds) = .tuple (ds.map py) := by rw [py, pys_map]
/-- the same data -/
def SamePy {A : Type} (e f : A → D) : Prop := ∀ a, py (f a) = py (e a)
theorem samePy_UW {A : Type} {e : A → D} : SamePy (eU e) (eKp e) := fun a => by rw [py_kt, py_tup]
theorem samePy_L {A : Type} {e f : A → D} (h : SamePy e f) : SamePy (eL e) (eL f) := fun a => by
  rw [py_lst, py_lst, List.map_map, List.map_map]
  congr 1
  exact List.map_congr_left fun x _ => h x
section
variable {A : Type} {n : Nat} {e : A → D} {lt : A → A → Bool}
theorem q_lenW {xs : List A} : bLenA [eKp e xs] = .ok (.val (.int xs.length)) := by
  show bLenA [.ktp _] = _
  rw [bLenA_k, List.length_map]
def catW (xs ys : List A) : Rt (List A) := if ys ≠ [] ∧ xs.length + ys.length ≤ 16000000 then .ok (xs ++ ys) else .stuck
theorem quit_catW {xs ys : List A} : Quit (catW xs ys) := quit_if quit_ok quit_stuck
theorem p_catW {xs ys : List A} : Prim (dAddK (eKp e xs) (eKp e ys)) (catW xs ys) (fun l => .val (eKp e l)) := fun l h => by
  unfold catW at h
  split at h
  · rename_i c
    cases h
    show (if ys.map e ≠ [] ∧ (xs.map e).length + (ys.map e).length ≤ 16000000 then Rs.ok (VD.val (.ktp (xs.map e ++ ys.map e))) else .stuck) = _
    rw [if_pos ⟨fun z => c.1 (List.map_eq_nil_iff.mp z), by simpa using c.2⟩, ← List.map_append]
  · cases h
theorem q_ktp {r : Env} {ga : DA} {ds : List D} (hg : Pur ga r ds) (hl : Nat.ble ds.length 1000 = true) : Pur (eKtp ga) r (.val (.ktp ds)) := fun T => by
  show (ga r T).bind _ = _
  rw [hg T]
  show (if ds.length ≤ 1000 then Rs.ok (VD.val (.ktp ds), T) else .stuck) = _
  rw [if_pos (Nat.le_of_ble_eq_true hl)]
def dctP (xs : List (Int × A)) : Rt (List (Int × A)) := if (xs.map (·.1)).Nodup ∧ xs.length ≤ 1000 then .ok xs else .stuck
theorem quit_dctP {xs : List (Int × A)} : Quit (dctP xs) := quit_if quit_ok quit_stuck
theorem prsK_map (xs : List (Int × A)) : prsK (xs.map (e2 eI e)) = some (xs.map fun p => (p.1, e p.2)) := by
  induction xs with
  | nil => rfl
  | cons x xs ih =>
    rw [List.map_cons]
    unfold prsK
    rw [ih]
    rfl
theorem p_dctP {xs : List (Int × A)} : Prim (bDictP [eKp (e2 eI e) xs]) (dctP xs) (fun x => VD.own (eK false eI e x)) := fun x h => by
  unfold dctP at h
  split at h
  · rename_i c
    cases h
    show (rO (prsK (xs.map (e2 eI e)))).bind _ = _
    rw [prsK_map]
    show (if ((xs.map fun p => (p.1, e p.2)).map (·.1)).Nodup ∧ (xs.map fun p => (p.1, e p.2)).length ≤ 1000 then Rs.ok (VD.own (.dct false ((xs.map fun p => (p.1, e p.2)).map fun p => (.int p.1, p.2)))) else .stuck) = _
    rw [if_pos ⟨by rw [List.map_map]; exact c.1, by rw [List.length_map]; exact c.2⟩, List.map_map]
    rfl
  · cases h
end
section
variable {A : Type} [DecidableEq A] {n : Nat} {e : A → D} {lt : A → A → Bool}
theorem enc_W (h : Enc n e) : Enc (n + 1) (eKp e) := ⟨fun a => by
    show Pl (n + 1) (.ktp (a.map e))
    rw [pl_ktp]
    intro d hd
    obtain ⟨x, _, rfl⟩ := List.mem_map.mp hd
    exact h.pl x, fun a b => by rw [py_kt, py_kt, PyData.eqv, eqvAll_enc h]⟩
theorem ord_W (k : Ord n e lt) : Ord (n + 1) (eKp e) (ltL lt) := ⟨enc_W k.enc, fun p q => by
  rw [samePy_UW p, samePy_UW q]
  exact (ord_U k).lt p q, fun p q => by
  rw [samePy_UW p, samePy_UW q]
  exact (ord_U k).al p q⟩
theorem p_srtW (k : Ord n e lt) (xs : List (List A)) (hn : Nat.ble (n + 1) 30 = true) : Prim (bSorted [eL (eKp e) xs]) (srtG lt xs) (fun ys => .own (eL (eKp e) ys)) := by
  intro ys h
  unfold srtG at h
  by_cases c : ∀ x ∈ xs, x ≠ []
  · rw [if_pos c] at h
    cases h
    show bSorted [.lst (xs.map (eKp e))] = _
    have ok : SrtOk (xs.map (eKp e)) := by
      refine ⟨fun d hd => ?_, allAlike_map _ (ord_W k).al xs, .inl fun d hd => ?_⟩
      · obtain ⟨a, _, rfl⟩ := List.mem_map.mp hd
        exact pl_up (Nat.le_of_ble_eq_true hn) ((ord_W k).enc.pl a)
      · rw [List.map_map] at hd
        obtain ⟨a, ha, rfl⟩ := List.mem_map.mp hd
        cases a with
        | nil => exact absurd rfl (c _ ha)
        | cons x r => exact ⟨_, _, by show py (.ktp ((x :: r).map e)) = _; rw [py_kt]; rfl⟩
    rw [bSorted_l, if_pos ok, srtd_ord (ord_W k)]
  · rw [if_neg c] at h
    cases h
theorem p_srtWH (k : Ord n e lt) (xs : List (List A)) (hn : Nat.ble (n + 1) 30 = true) : Prim (bSortB [eL (eKp e) xs]) (srtH lt xs) (fun ys => .own (eL (eKp e) ys)) := by
  intro ys h
  unfold srtH at h
  by_cases h1 : xs.length ≤ 1
  · rw [if_pos (.inl h1), srt_short h1] at h
    cases h
    show bSortB [.lst (xs.map (eKp e))] = _
    rw [sortB_1 (by rw [List.length_map]; exact h1)]
  · by_cases c : ∀ x ∈ xs, x ≠ []
    · rw [if_pos (.inr c)] at h
      cases h
      show bSortB [.lst (xs.map (eKp e))] = _
      rw [sortB_A (by rw [List.length_map]; omega)]
      refine p_srtW k xs hn _ ?_
      unfold srtG
      exact if_pos c
    · rw [if_neg (fun z => z.elim h1 c)] at h
      cases h
end
theorem q_eqS {A : Type} [DecidableEq A] {n m : Nat} {e f : A → D} (k : Enc n e) (k' : Enc m f) (h : SamePy e f) (a b : A) (hn : Nat.ble n 40 = true) (hm : Nat.ble m 40 = true) : dEq (e a) (f b) = .ok (.val (.bl (decide (a = b)))) := by
  unfold dEq dPl
  rw [if_pos ⟨pl_up (Nat.le_of_ble_eq_true hn) (k.pl a), pl_up (Nat.le_of_ble_eq_true hm) (k'.pl b), trivial⟩]
  simp only [h b, k.eq]
end Pu
namespace Pu
open PySem L2
/-! # all layings-out of a stand, by trying -/
theorem forS_grow {A B : Type} {f : A → List B → Rt (List B)} {g : A → List B} {N : Nat} : ∀ (xs : List A) (s : List B), (∀ x ∈ xs, ∀ s, s.length ≤ N → f x s = .ok (s ++ g x)) → s.length + (xs.flatMap g).length ≤ N → forS xs s f = .ok (s ++ xs.flatMap g)
  | [], s, _, _ => by rw [List.flatMap_nil, List.append_nil]; rfl
  | x :: xs, s, h, hl => by
    rw [List.flatMap_cons, List.length_append] at hl
    unfold forS
    rw [h x List.mem_cons_self s (by omega), Rt.bind_ok, forS_grow xs (s ++ g x) (fun y hy => h y (List.mem_cons_of_mem _ hy)) (by rw [List.length_append]; omega), List.flatMap_cons, List.append_assoc]
theorem flatMap_if {A B : Type} {c : A → Prop} [DecidablePred c] {g : A → B} : ∀ xs : List A, (xs.flatMap fun x => if c x then [g x] else []) = (xs.filter fun x => decide (c x)).map g
  | [] => rfl
  | x :: xs => by
    rw [List.flatMap_cons, flatMap_if xs, List.filter_cons]
    by_cases h : c x
    · rw [if_pos h, decide_eq_true h, if_pos rfl]; rfl
    · rw [if_neg h, decide_eq_false h, if_neg Bool.false_ne_true]; rfl
/-- one place more: all loops that fit and that are not laid yet -/
def extW (ns : List Int) (pl : Int) (w : List (Int × Int)) : List (List (Int × Int)) := (rngL 0 ns.length).flatMap fun l => if vl ns l ≤ pl ∧ l ∉ w.map (·.2) then [w ++ [(pl, l)]] else []
def layL (ns sp : List Int) : List (List (Int × Int)) := sp.foldl (fun W pl => W.flatMap (extW ns pl)) [[]]
theorem layL_snoc (ns sp : List Int) (pl : Int) : layL ns (sp ++ [pl]) = (layL ns sp).flatMap (extW ns pl) := by
  unfold layL
  rw [List.foldl_append]
  rfl
theorem extW_eq (ns : List Int) (pl : Int) (w : List (Int × Int)) : extW ns pl w = ((rngL 0 ns.length).filter fun l => decide (vl ns l ≤ pl ∧ l ∉ w.map (·.2))).map fun l => w ++ [(pl, l)] := flatMap_if _
theorem mem_extW {ns : List Int} {pl : Int} {w w' : List (Int × Int)} : w' ∈ extW ns pl w ↔ ∃ l : Int, (0 ≤ l ∧ l < (ns.length : Int)) ∧ (vl ns l ≤ pl ∧ l ∉ w.map (·.2)) ∧ w ++ [(pl, l)] = w' := by
  rw [extW_eq, List.mem_map]
  constructor
  · rintro ⟨l, h, e⟩
    rw [List.mem_filter, rngL_mem, decide_eq_true_eq] at h
    exact ⟨l, h.1, h.2, e⟩
  · rintro ⟨l, h1, h2, e⟩
    exact ⟨l, by rw [List.mem_filter, rngL_mem, decide_eq_true_eq]; exact ⟨h1, h2⟩, e⟩
theorem layOk_snoc {ns sp : List Int} {pl : Int} {w : List (Int × Int)} {l : Int} : LayOk ns (sp ++ [pl]) (w ++ [(pl, l)]) ↔ LayOk ns sp w ∧ (0 ≤ l ∧ l < (ns.length : Int)) ∧ vl ns l ≤ pl ∧ l ∉ w.map (·.2) := by
  unfold LayOk
  rw [List.map_append, List.map_append, List.map_singleton, List.map_singleton, List.nodup_append]
  constructor
  · rintro ⟨h1, ⟨h2, _, h3⟩, h4⟩
    have e := List.append_inj_left' h1 rfl
    refine ⟨⟨e, h2, fun q hq => h4 q (List.mem_append_left _ hq)⟩, (h4 _ (List.mem_append_right _ List.mem_cons_self)).1, (h4 _ (List.mem_append_right _ List.mem_cons_self)).2, fun hm => h3 l hm l List.mem_cons_self rfl⟩
  · rintro ⟨⟨h1, h2, h3⟩, h4, h5, h6⟩
    refine ⟨by rw [h1], ⟨h2, by simp, fun a ha b hb e => ?_⟩, fun q hq => ?_⟩
    · rw [List.mem_singleton.mp hb] at e
      dsimp only at e
      rw [e] at ha
      exact h6 ha
    · rcases List.mem_append.mp hq with q1 | q1
      · exact h3 q q1
      · rw [List.mem_singleton.mp q1]
        exact ⟨h4, h5⟩
theorem layOk_split {ns sp : List Int} {pl : Int} {w : List (Int × Int)} (h : LayOk ns (sp ++ [pl]) w) : ∃ w0 l, w = w0 ++ [(pl, l)] := by
  rcases List.eq_nil_or_concat w with rfl | ⟨w0, q, rfl⟩
  · have := h.1
    cases sp <;> cases this
  · have := h.1
    rw [List.concat_eq_append, List.map_append] at this
    have e := List.append_inj_right' this rfl
    obtain ⟨a, l⟩ := q
    cases e
    exact ⟨w0, l, List.concat_eq_append⟩
theorem layL_mem {ns : List Int} (sp : List Int) : ∀ w, w ∈ layL ns sp ↔ LayOk ns sp w := snoc_ind' (P := fun sp => ∀ w, w ∈ layL ns sp ↔ LayOk ns sp w) (fun w => by
    show w ∈ [[]] ↔ _
    rw [List.mem_singleton]
    constructor
    · rintro rfl
      exact ⟨rfl, .nil, fun q hq => by cases hq⟩
    · intro h
      exact List.map_eq_nil_iff.mp h.1) (fun sp pl ih w => by
    rw [layL_snoc, List.mem_flatMap]
    constructor
    · rintro ⟨w0, h1, h2⟩
      obtain ⟨l, h3, ⟨h4, h5⟩, rfl⟩ := mem_extW.mp h2
      exact layOk_snoc.mpr ⟨(ih w0).mp h1, h3, h4, h5⟩
    · intro h
      obtain ⟨w0, l, rfl⟩ := layOk_split h
      obtain ⟨h1, h3, h4, h5⟩ := layOk_snoc.mp h
      exact ⟨w0, (ih w0).mpr h1, mem_extW.mpr ⟨l, h3, ⟨h4, h5⟩, rfl⟩⟩) sp
theorem extW_nd (ns : List Int) (pl : Int) (w : List (Int × Int)) : (extW ns pl w).Nodup := by
  rw [extW_eq]
  refine nd_map (fun a b e => ?_) ((rngL_nd _ _).sublist List.filter_sublist)
  have := List.append_inj_right' e rfl
  injection this with h _
  injection h
theorem layL_nd {ns : List Int} (sp : List Int) : (layL ns sp).Nodup := snoc_ind' (P := fun sp => (layL ns sp).Nodup) (by
    show ([[]] : List (List (Int × Int))).Nodup
    simp) (fun sp pl ih => by
    rw [layL_snoc, List.Nodup, List.pairwise_flatMap]
    refine ⟨fun w _ => extW_nd ns pl w, List.Pairwise.imp (fun {a b} hab => ?_) ih⟩
    intro x hx y hy e
    obtain ⟨l, _, _, e1⟩ := mem_extW.mp hx
    obtain ⟨l2, _, _, e2⟩ := mem_extW.mp hy
    exact hab (List.append_inj_left' (e1.trans (e.trans e2.symm)) rfl)) sp
/-- how many there are at most -/
def bndW (n : Nat) : Nat → Nat
  | 0 => 1
  | i + 1 => (n - i) * bndW n i
theorem bndW_le {n : Nat} (h : n ≤ 8) (i : Nat) : bndW n i ≤ 40320 := by
  by_cases c : i ≤ 9
  · have : ∀ n, n < 9 → ∀ i, i < 10 → bndW n i ≤ 40320 := by decide
    exact this n (by omega) i (by omega)
  · have z : ∀ j, bndW n (9 + j) = 0 := fun j => by
      induction j with
      | zero =>
        show (n - 8) * _ = 0
        rw [show n - 8 = 0 by omega, Nat.zero_mul]
      | succ j ih =>
        show (n - (9 + j)) * bndW n (9 + j) = 0
        rw [ih, Nat.mul_zero]
    rw [show i = 9 + (i - 9) by omega, z]
    omega
theorem extW_len {ns sp : List Int} {pl : Int} {w : List (Int × Int)} (h : LayOk ns sp w) : (extW ns pl w).length ≤ ns.length - sp.length := by
  rw [extW_eq, List.length_map]
  have hl := h.len
  obtain ⟨h1, h2, h3⟩ := h
  have := nodup_le (xs := ((rngL 0 ns.length).filter fun l => decide (vl ns l ≤ pl ∧ l ∉ w.map (·.2))) ++ w.map (·.2)) (ys := rngL 0 ns.length) ?_ fun x hx => ?_
  · rw [List.length_append, rngL_len, List.length_map] at this
    omega
  · refine List.nodup_append.mpr ⟨(rngL_nd _ _).sublist List.filter_sublist, h2, fun a ha b hb e => ?_⟩
    rw [List.mem_filter, decide_eq_true_eq] at ha
    exact ha.2.2 (e ▸ hb)
  · rcases List.mem_append.mp hx with q | q
    · exact (List.mem_filter.mp q).1
    · obtain ⟨y, hy, rfl⟩ := List.mem_map.mp q
      rw [rngL_mem]
      exact (h3 y hy).1
theorem flatMap_len {A B : Type} {g : A → List B} {m : Nat} : ∀ xs : List A, (∀ x ∈ xs, (g x).length ≤ m) → (xs.flatMap g).length ≤ m * xs.length
  | [], _ => by simp
  | x :: xs, h => by
    have := flatMap_len xs fun y hy => h y (List.mem_cons_of_mem _ hy)
    have := h x List.mem_cons_self
    rw [List.flatMap_cons, List.length_append, List.length_cons, Nat.mul_succ]
    omega
theorem layL_bnd {ns : List Int} (sp : List Int) : (layL ns sp).length ≤ bndW ns.length sp.length := snoc_ind' (P := fun sp => (layL ns sp).length ≤ bndW ns.length sp.length) (Nat.le_refl 1) (fun sp pl ih => by
    rw [layL_snoc, List.length_append, List.length_singleton]
    refine Nat.le_trans (flatMap_len (m := ns.length - sp.length) _ fun w hw => extW_len ((layL_mem sp w).mp hw)) ?_
    exact Nat.mul_le_mul_left _ ih) sp
theorem layL_len {ns : List Int} (h : ns.length ≤ 8) (sp : List Int) : (layL ns sp).length ≤ 40320 := Nat.le_trans (layL_bnd sp) (bndW_le h _)
/-- the loops over the places and over what is found -/
theorem lay_loop {ns sp : List Int} (hn : ns.length ≤ 8) {f : Int → List (List (Int × Int)) → Rt (List (List (Int × Int)))} {g : Int → List (Int × Int) → List (List (Int × Int)) → Rt (List (List (Int × Int)))}
    (hf : ∀ pl W, f pl W = forS W [] (g pl)) (hg : ∀ pl w s, w.length ≤ 100 → s.length ≤ 15000000 → g pl w s = .ok (s ++ extW ns pl w)) (hs : sp.length ≤ 100) : forS sp [[]] f = .ok (layL ns sp) := by
  refine forS_pre (fun p => layL ns p) sp rfl fun p x q e => ?_
  have hp : p.length ≤ 100 := by
    have := congrArg List.length e
    rw [List.length_append] at this
    omega
  have hlen := layL_len hn (p ++ [x])
  rw [hf, layL_snoc]
  rw [layL_snoc] at hlen
  have := forS_grow (N := 15000000) (f := g x) (g := extW ns x) (layL ns p) [] (fun w hw s hl => hg x w s (by rw [((layL_mem p w).mp hw).len]; exact hp) hl) (by rw [List.length_nil]; omega)
  rw [this, List.nil_append]
theorem layL_srt {ns sp : List Int} : srtH (ltP ltI ltI) (layL ns sp) = .ok (srt (ltL (ltP ltI ltI)) (layL ns sp)) := by
  unfold srtH
  rw [if_pos]
  cases sp with
  | nil => exact .inl (Nat.le_refl 1)
  | cons x r =>
    refine .inr fun w hw e => ?_
    have := ((layL_mem _ w).mp hw).len
    rw [e] at this
    cases this
/-- all layings-out, ascending -/
def layZ (ns sp : List Int) : List (List (Int × Int)) := srt (ltL (ltP ltI ltI)) (layL ns sp)
theorem layZ_mem {ns sp : List Int} {w : List (Int × Int)} : w ∈ layZ ns sp ↔ LayOk ns sp w := by
  unfold layZ
  rw [srt_mem]
  exact layL_mem sp w
theorem layZ_len {ns : List Int} (h : ns.length ≤ 8) (sp : List Int) : (layZ ns sp).length ≤ 40320 := by
  unfold layZ
  rw [srt_length]
  exact layL_len h sp
/-- the loops in another order -/
theorem layZ_turn {ns od sp : List Int} (hp : od.Perm (rngL 0 ns.length)) : srt (ltL (ltP ltI ltI)) ((layZ (od.map (vl ns)) sp).map fun w => w.map fun q => (q.1, vl od q.2)) = layZ ns sp := by
  have hl : od.length = ns.length := by rw [hp.length_eq, rngL_len]; omega
  have hnd : od.Nodup := hp.nodup_iff.mpr (rngL_nd _ _)
  have hin : ∀ l : Int, 0 ≤ l ∧ l < ns.length → (0 ≤ vl od l ∧ vl od l < ns.length) ∧ vl (od.map (vl ns)) l = vl ns (vl od l) := fun l h => by
    have hlt : l.toNat < od.length := by omega
    have e := List.getElem?_eq_getElem hlt
    have ev : vl od l = od[l.toNat] := by
      have := vl_get e
      rw [show ((l.toNat : Nat) : Int) = l by omega] at this
      exact this
    have hm : vl od l ∈ rngL 0 ns.length := hp.mem_iff.mp (by rw [ev]; exact List.getElem_mem hlt)
    rw [rngL_mem] at hm
    refine ⟨hm, ?_⟩
    have := vl_get (ln := od.map (vl ns)) (p := l.toNat) (i := vl ns od[l.toNat]) (by rw [List.getElem?_map, e]; rfl)
    rw [show ((l.toNat : Nat) : Int) = l by omega] at this
    rw [this, ev]
  have inj : ∀ a b : Int, (0 ≤ a ∧ a < ns.length) → (0 ≤ b ∧ b < ns.length) → vl od a = vl od b → a = b := fun a b ha hb e => by
    have h1 : a.toNat < od.length := by omega
    have h2 : b.toNat < od.length := by omega
    have e1 := vl_get (List.getElem?_eq_getElem h1)
    have e2 := vl_get (List.getElem?_eq_getElem h2)
    rw [show ((a.toNat : Nat) : Int) = a by omega] at e1
    rw [show ((b.toNat : Nat) : Int) = b by omega] at e2
    rw [e1, e2] at e
    have := (List.getElem_inj hnd).mp e
    omega
  have sur : ∀ l : Int, 0 ≤ l ∧ l < ns.length → ∃ a : Int, (0 ≤ a ∧ a < (ns.length : Int)) ∧ vl od a = l := fun l h => by
    have hm : l ∈ od := hp.mem_iff.mpr (rngL_mem.mpr h)
    obtain ⟨i, hi⟩ := List.getElem?_of_mem hm
    have := (List.getElem?_eq_some_iff.mp hi).1
    exact ⟨i, by omega, vl_get hi⟩
  have hll : (od.map (vl ns)).length = ns.length := by rw [List.length_map]; exact hl
  unfold layZ
  refine srt_congr (lin_L (lin_P lin_I lin_I)) (((srt_perm _).map _).trans ?_)
  refine (List.perm_ext_iff_of_nodup ?_ (layL_nd sp)).mpr fun w => ?_
  · refine nodup_map_on (layL_nd sp) (fun a ha b hb e => ?_)
    have ha := (layL_mem sp a).mp ha
    have hb := (layL_mem sp b).mp hb
    refine List.ext_getElem? fun i => ?_
    have ei := congrArg (fun l => l[i]?) e
    simp only [List.getElem?_map] at ei
    cases ea : a[i]? with
    | none =>
      rw [ea] at ei
      cases eb : b[i]? with
      | none => rfl
      | some y => rw [eb] at ei; cases ei
    | some x =>
      rw [ea] at ei
      cases eb : b[i]? with
      | none => rw [eb] at ei; cases ei
      | some y =>
        rw [eb] at ei
        injection ei with ei
        injection ei with e1 e2
        have k1 := (ha.2.2 x (List.mem_of_getElem? ea)).1
        have k2 := (hb.2.2 y (List.mem_of_getElem? eb)).1
        rw [hll] at k1 k2
        have := inj _ _ k1 k2 e2
        rw [show x = y from Prod.ext e1 this]
  · rw [List.mem_map, layL_mem]
    constructor
    · rintro ⟨w', hw', rfl⟩
      obtain ⟨h1, h2, h3⟩ := (layL_mem sp w').mp hw'
      refine ⟨by rw [List.map_map]; exact h1, ?_, fun q hq => ?_⟩
      · rw [List.map_map, show (fun x : Int × Int => x.2) ∘ (fun q : Int × Int => (q.1, vl od q.2)) = (vl od) ∘ (fun x : Int × Int => x.2) from rfl, ← List.map_map]
        refine nodup_map_on h2 (fun a ha b hb e => ?_)
        obtain ⟨x, hx, rfl⟩ := List.mem_map.mp ha
        obtain ⟨y, hy, rfl⟩ := List.mem_map.mp hb
        have k1 := (h3 x hx).1
        have k2 := (h3 y hy).1
        rw [hll] at k1 k2
        exact inj _ _ k1 k2 e
      · obtain ⟨x, hx, rfl⟩ := List.mem_map.mp hq
        have k1 := h3 x hx
        rw [hll] at k1
        have := hin x.2 k1.1
        exact ⟨this.1, by rw [← this.2]; exact k1.2⟩
    · intro hw
      obtain ⟨h1, h2, h3⟩ := hw
      have : ∃ w' : List (Int × Int), (w'.map fun q => (q.1, vl od q.2)) = w ∧ ∀ q ∈ w', 0 ≤ q.2 ∧ q.2 < ns.length := by
        clear h1 h2
        induction w with
        | nil => exact ⟨[], rfl, fun q hq => by cases hq⟩
        | cons x w ih =>
          obtain ⟨w', e, hw'⟩ := ih fun q hq => h3 q (List.mem_cons_of_mem _ hq)
          obtain ⟨a, ha, ea⟩ := sur x.2 (h3 x List.mem_cons_self).1
          refine ⟨(x.1, a) :: w', by rw [List.map_cons, e, ea], fun q hq => ?_⟩
          rcases List.mem_cons.mp hq with rfl | hq
          · exact ha
          · exact hw' q hq
      obtain ⟨w', rfl, hw'⟩ := this
      refine ⟨w', (layL_mem sp w').mpr ⟨by rw [← h1, List.map_map]; rfl, ?_, fun q hq => ?_⟩, rfl⟩
      · rw [List.map_map, show (fun x : Int × Int => x.2) ∘ (fun q : Int × Int => (q.1, vl od q.2)) = (vl od) ∘ (fun x : Int × Int => x.2) from rfl, ← List.map_map] at h2
        exact nodup_of_map h2
      · have k := hw' q hq
        have := hin q.2 k
        have k3 := (h3 _ (List.mem_map_of_mem (f := fun q : Int × Int => (q.1, vl od q.2)) hq)).2
        rw [hll]
        exact ⟨k, by rw [this.2]; exact k3⟩
end Pu
namespace Pu
open PySem L2
/-! # typed: d.setdefault(k, x) in a test, list(x.items()) -/
end Pu
namespace Gk46
open PySem L2 Pu
def top (i : Nat) : Stmt := PySem.Challenge.pw_loopstore_k46_whole_layings_out_by_own_t.main.body.getD i (.Pass ⟨0, 0, 0, 0⟩)
abbrev s__law_tape : Stmt := top 30
def d__law_tape : He.DefD := ⟨("_law_tape", none), "_law_tape", "_law_tape", defArgs s__law_tape, defBody s__law_tape, defScope s__law_tape, [], []⟩
abbrev s__law_pick : Stmt := top 31
def d__law_pick : He.DefD := ⟨("_law_pick", none), "_law_pick", "_law_pick", defArgs s__law_pick, defBody s__law_pick, defScope s__law_pick, [], []⟩
abbrev s__law_few_loops : Stmt := top 33
def d__law_few_loops : He.DefD := ⟨("_law_few_loops", none), "_law_few_loops", "_law_few_loops", defArgs s__law_few_loops, defBody s__law_few_loops, defScope s__law_few_loops, [], []⟩
abbrev s__law_game : Stmt := top 35
def d__law_game : He.DefD := ⟨("_law_game", none), "_law_game", "_law_game", defArgs s__law_game, defBody s__law_game, defScope s__law_game, [], []⟩
abbrev s__law_at_switch : Stmt := top 36
def d__law_at_switch : He.DefD := ⟨("_law_at_switch", none), "_law_at_switch", "_law_at_switch", defArgs s__law_at_switch, defBody s__law_at_switch, defScope s__law_at_switch, [], []⟩
abbrev s__law_all_layings : Stmt := top 37
def d__law_all_layings : He.DefD := ⟨("_law_all_layings", none), "_law_all_layings", "_law_all_layings", defArgs s__law_all_layings, defBody s__law_all_layings, defScope s__law_all_layings, [], []⟩
abbrev s__law_led_to : Stmt := top 38
def d__law_led_to : He.DefD := ⟨("_law_led_to", none), "_law_led_to", "_law_led_to", defArgs s__law_led_to, defBody s__law_led_to, defScope s__law_led_to, [], []⟩
abbrev s__law_stand : Stmt := top 39
def d__law_stand : He.DefD := ⟨("_law_stand", none), "_law_stand", "_law_stand", defArgs s__law_stand, defBody s__law_stand, defScope s__law_stand, [], []⟩
abbrev s_is_integer : Stmt := top 13
def d_is_integer : He.DefD := ⟨("is_integer", none), "is_integer", "is_integer", defArgs s_is_integer, defBody s_is_integer, defScope s_is_integer, [], []⟩
abbrev s_is_within : Stmt := top 14
def d_is_within : He.DefD := ⟨("is_within", none), "is_within", "is_within", defArgs s_is_within, defBody s_is_within, defScope s_is_within, [], []⟩
abbrev s_are_within : Stmt := top 15
def d_are_within : He.DefD := ⟨("are_within", none), "are_within", "are_within", defArgs s_are_within, defBody s_are_within, defScope s_are_within, [], []⟩
abbrev s_is_loops : Stmt := top 16
def d_is_loops : He.DefD := ⟨("is_loops", none), "is_loops", "is_loops", defArgs s_is_loops, defBody s_is_loops, defScope s_is_loops, [], []⟩
abbrev s_check_loops : Stmt := top 19
def d_check_loops : He.DefD := ⟨("check_loops", none), "check_loops", "check_loops", defArgs s_check_loops, defBody s_check_loops, defScope s_check_loops, [], []⟩
abbrev s_check_comers : Stmt := top 17
def d_check_comers : He.DefD := ⟨("check_comers", none), "check_comers", "check_comers", defArgs s_check_comers, defBody s_check_comers, defScope s_check_comers, [], []⟩
abbrev s_check_bound : Stmt := top 18
def d_check_bound : He.DefD := ⟨("check_bound", none), "check_bound", "check_bound", defArgs s_check_bound, defBody s_check_bound, defScope s_check_bound, [], []⟩
abbrev s_check_game : Stmt := top 21
def d_check_game : He.DefD := ⟨("check_game", none), "check_game", "check_game", defArgs s_check_game, defBody s_check_game, defScope s_check_game, [], []⟩
abbrev s_is_stand : Stmt := top 23
def d_is_stand : He.DefD := ⟨("is_stand", none), "is_stand", "is_stand", defArgs s_is_stand, defBody s_is_stand, defScope s_is_stand, [], []⟩
abbrev s_check_number : Stmt := top 20
def d_check_number : He.DefD := ⟨("check_number", none), "check_number", "check_number", defArgs s_check_number, defBody s_check_number, defScope s_check_number, [], []⟩
abbrev s_check_stand : Stmt := top 27
def d_check_stand : He.DefD := ⟨("check_stand", none), "check_stand", "check_stand", defArgs s_check_stand, defBody s_check_stand, defScope s_check_stand, [], []⟩
abbrev s_line_of : Stmt := top 24
def d_line_of : He.DefD := ⟨("line_of", none), "line_of", "line_of", defArgs s_line_of, defBody s_line_of, defScope s_line_of, [], []⟩
abbrev s_spread : Stmt := top 25
def d_spread : He.DefD := ⟨("spread", none), "spread", "spread", defArgs s_spread, defBody s_spread, defScope s_spread, [], []⟩
abbrev s_layings_of_stand : Stmt := top 26
def d_layings_of_stand : He.DefD := ⟨("layings_of_stand", none), "layings_of_stand", "layings_of_stand", defArgs s_layings_of_stand, defBody s_layings_of_stand, defScope s_layings_of_stand, [], []⟩
abbrev s_layings_out : Stmt := top 28
def d_layings_out : He.DefD := ⟨("layings_out", none), "layings_out", "layings_out", defArgs s_layings_out, defBody s_layings_out, defScope s_layings_out, [], []⟩
abbrev s__law_is : Stmt := top 32
def d__law_is : He.DefD := ⟨("_law_is", none), "_law_is", "_law_is", defArgs s__law_is, defBody s__law_is, defScope s__law_is, [], []⟩
abbrev s__law_shuffled : Stmt := top 34
def d__law_shuffled : He.DefD := ⟨("_law_shuffled", none), "_law_shuffled", "_law_shuffled", defArgs s__law_shuffled, defBody s__law_shuffled, defScope s__law_shuffled, [], []⟩
abbrev s__law_turned : Stmt := top 40
def d__law_turned : He.DefD := ⟨("_law_turned", none), "_law_turned", "_law_turned", defArgs s__law_turned, defBody s__law_turned, defScope s__law_turned, [], []⟩
abbrev s_law : Stmt := top 41
def d_law : He.DefD := ⟨("law", none), "law", "law", defArgs s_law, defBody s_law, defScope s_law, [], []⟩
def fa : List He.Fa := [.free "list", .free "range", .free "int", .free "len", .free "max", .free "min", .free "tuple", .free "sorted", .free "dict", .free "isinstance", .free "bool", .free "all", .int "MOST_LENGTH" 40, .int "MOST_LOOPS" 8, .int "MOST_COMERS" 4, .int "LEAST_COMERS" 2, .int "MOST_BOUND" 60, .free "enumerate", .free "zip", .glo "_law_tape", .glo "_law_pick", .glo "_law_few_loops", .glo "_law_game", .glo "_law_at_switch", .glo "_law_all_layings", .glo "_law_led_to", .glo "_law_stand", .glo "is_integer", .glo "is_within", .glo "are_within", .glo "is_loops", .glo "check_loops", .glo "check_comers", .glo "check_bound", .glo "check_game", .glo "is_stand", .glo "check_number", .glo "check_stand", .glo "line_of", .glo "spread", .glo "layings_of_stand", .glo "layings_out", .glo "_law_is", .glo "_law_shuffled", .glo "_law_turned", .glo "law"]
def fn : List He.DefD := [d__law_tape, d__law_pick, d__law_few_loops, d__law_game, d__law_at_switch, d__law_all_layings, d__law_led_to, d__law_stand, d_is_integer, d_is_within, d_are_within, d_is_loops, d_check_loops, d_check_comers, d_check_bound, d_check_game, d_is_stand, d_check_number, d_check_stand, d_line_of, d_spread, d_layings_of_stand, d_layings_out, d__law_is, d__law_shuffled, d__law_turned, d_law]
section
variable {P : Program} {w : World} {K : PySem.W.Frag} {mg : Str → Option Value} {base h : Heap}
theorem sc__law_tape : FnScope ["_law_script"] ["_law_script"] (defScope s__law_tape) := ⟨rfl, rfl, rfl, by decide +kernel, rfl, by decide +kernel, by decide +kernel⟩
noncomputable def g__law_tape : DS := (sRet (eLst (aCons (eCall bListA (aConsT (eVar 0) aNil)) (aCons (eC (.int 0)) (aCons (eC (.int 0)) (aCons (eC (.int 1)) (aCons (eC (.int 0)) aNil)))))))
noncomputable def M__law_tape : DM := runD 1 false g__law_tape
theorem ok__law_tape (X : K.In h) (G : h.Ns mainGlobals mg) (c : He.SaysD fa fn K) : OkD P w K mg base 1 "_law_tape" 1 false M__law_tape := by
  refine okD_of (c.def_ 0 (d := d__law_tape) rfl) (He.glo_ok X G (c.fact 19)) sc__law_tape (fun _ _ _ _ _ _ us hl => match us, hl with | [_], _ => rfl) (fun cdv A outer s H E C hr tk => ?_)
  exact (sss_one (ss_ret (fun _ => (se_lst (sa_cons (se_callTy (call_listA rfl) d_listA q_listA (He.free_ok X G (c.fact 0)) bo_list (sat_cons (se_var 0) sat_nil)) (sa_cons se_int (sa_cons se_int (sa_cons se_int (sa_cons se_int sa_nil)))))))))
theorem sc__law_pick : FnScope ["_law_tape_here", "_law_size", "_law_digit", "_law_cell", "_law_mixed"] ["_law_tape_here", "_law_size"] (defScope s__law_pick) := ⟨rfl, rfl, rfl, by decide +kernel, rfl, by decide +kernel, by decide +kernel⟩
noncomputable def g__law_pick : DS := (sSeq (sIf (xB (eOp dGt (eTix 0 2) (eC (.int 1))))
 (sSeq (sAsg 2 (eOp dMod (eCall bInt (aConsT (eTix 0 2) aNil)) (eVar 1)))
 (sSeq (sTset 0 2 (eOp dDiv (eTix 0 2) (eVar 1)))
 (sRetV 2)))
 sPass)
 (sSeq (sTset 0 4 (eOp dAddA (eTix 0 4) (eC (.int 1))))
 (sSeq (sAsg 3 (eC (.int 0)))
 (sSeq (sIf (xB (eOp dLt (eTix 0 1) (eCall bLenA (aConsT (eTix 0 0) aNil))))
 (sSeq (sAsg 3 (eOp dIxA (eTix 0 0) (eTix 0 1)))
 (sTset 0 1 (eOp dAddA (eTix 0 1) (eC (.int 1)))))
 sPass)
 (sSeq (sIf (xB (eOp dGe (eVar 3) (eOp dPow (eC (.int 10)) (eC (.int 18)))))
 (sSeq (sTset 0 2 (eOp dDiv (eVar 3) (eVar 1)))
 (sRet (eOp dMod (eCall bInt (aConsT (eVar 3) aNil)) (eVar 1))))
 sPass)
 (sSeq (sAsg 4 (eOp dMod (eCall bInt (aConsT (eOp dAddA (eOp dAddA (eOp dMulA (eTix 0 3) (eC (.int 48271))) (eOp dMod (eCall bInt (aConsT (eVar 3) aNil)) (eC (.int 2147483629)))) (eOp dMulA (eTix 0 4) (eC (.int 69621)))) aNil)) (eC (.int 2147483647))))
 (sSeq (sAsg 4 (eOp dMod (eCall bInt (aConsT (eOp dMulA (eVar 4) (eOp dAddA (eOp dDiv (eVar 4) (eC (.int 1009))) (eC (.int 40692)))) aNil)) (eC (.int 2147483399))))
 (sSeq (sTset 0 3 (eVar 4))
 (sRet (eOp dMod (eCall bInt (aConsT (eOp dDiv (eVar 4) (eC (.int 16))) aNil)) (eVar 1)))))))))))
noncomputable def M__law_pick : DM := runD 5 true g__law_pick
theorem ok__law_pick (X : K.In h) (G : h.Ns mainGlobals mg) (c : He.SaysD fa fn K) : OkD P w K mg base 1 "_law_pick" 2 true M__law_pick := by
  refine okD_of (c.def_ 1 (d := d__law_pick) rfl) (He.glo_ok X G (c.fact 20)) sc__law_pick (fun _ _ _ _ _ _ us hl => match us, hl with | [_, _], _ => rfl) (fun cdv A outer s H E C hr tk => ?_)
  exact (sss_cons (ss_if (fun _ => (st_cmp (op_gtP (u64 hr)) d_pl q_pl (se_tix 0 2) se_int (nomark _)))
 (sss_cons (ss_set 2 sc__law_pick.nd (fun _ => (se_op op_mod d_mod q_mod (se_callTy call_int1 d_int q_int (He.free_ok X G (c.fact 2)) bo_int (sat_cons (se_tix 0 2) sat_nil)) (se_var 1))))
 (sss_cons (ss_tset 0 2 (fun _ => (se_op op_fdiv d_div q_div (se_tix 0 2) (se_var 1))))
 (sss_one (ss_retV 2))))
 sss_nil)
 (sss_cons (ss_tset 0 4 (fun _ => (se_op op_addU d_adda q_adda (se_tix 0 4) se_int)))
 (sss_cons (ss_set 3 sc__law_pick.nd (fun _ => se_int))
 (sss_cons (ss_if (fun _ => (st_cmp (op_ltP (u64 hr)) d_pl q_pl (se_tix 0 1) (se_callB call_lenA d_lena q_lena (He.free_ok X G (c.fact 3)) bo_len (sat_cons (se_tix 0 0) sat_nil)) (nomark _)))
 (sss_cons (ss_set 3 sc__law_pick.nd (fun _ => (se_ix (ix_any (u1 hr)) d_ixa q_ixa (se_tix 0 0) (se_tix 0 1) (by intro _ _; rfl))))
 (sss_one (ss_tset 0 1 (fun _ => (se_op op_addU d_adda q_adda (se_tix 0 1) se_int)))))
 sss_nil)
 (sss_cons (ss_if (fun _ => (st_cmp (op_geP (u64 hr)) d_pl q_pl (se_var 3) (se_op op_pow d_pow q_pow se_int se_int) (nomark _)))
 (sss_cons (ss_tset 0 2 (fun _ => (se_op op_fdiv d_div q_div (se_var 3) (se_var 1))))
 (sss_one (ss_ret (fun _ => (se_op op_mod d_mod q_mod (se_callTy call_int1 d_int q_int (He.free_ok X G (c.fact 2)) bo_int (sat_cons (se_var 3) sat_nil)) (se_var 1))))))
 sss_nil)
 (sss_cons (ss_set 4 sc__law_pick.nd (fun _ => (se_op op_mod d_mod q_mod (se_callTy call_int1 d_int q_int (He.free_ok X G (c.fact 2)) bo_int (sat_cons (se_op op_addU d_adda q_adda (se_op op_addU d_adda q_adda (se_op op_mulA d_mula q_mula (se_tix 0 3) se_int) (se_op op_mod d_mod q_mod (se_callTy call_int1 d_int q_int (He.free_ok X G (c.fact 2)) bo_int (sat_cons (se_var 3) sat_nil)) se_int)) (se_op op_mulA d_mula q_mula (se_tix 0 4) se_int)) sat_nil)) se_int)))
 (sss_cons (ss_set 4 sc__law_pick.nd (fun _ => (se_op op_mod d_mod q_mod (se_callTy call_int1 d_int q_int (He.free_ok X G (c.fact 2)) bo_int (sat_cons (se_op op_mulA d_mula q_mula (se_var 4) (se_op op_addU d_adda q_adda (se_op op_fdiv d_div q_div (se_var 4) se_int) se_int)) sat_nil)) se_int)))
 (sss_cons (ss_tset 0 3 (fun _ => (se_var 4)))
 (sss_one (ss_ret (fun _ => (se_op op_mod d_mod q_mod (se_callTy call_int1 d_int q_int (He.free_ok X G (c.fact 2)) bo_int (sat_cons (se_op op_fdiv d_div q_div (se_var 4) se_int) sat_nil)) (se_var 1)))))))))))))
theorem sc__law_few_loops : FnScope ["_law_tape_here", "_law_most", "_law_longest", "_law_many", "_law_found", "_law_k", "_law_way", "_law_order"] ["_law_tape_here", "_law_most", "_law_longest"] (defScope s__law_few_loops) := ⟨rfl, rfl, rfl, by decide +kernel, rfl, by decide +kernel, by decide +kernel⟩
noncomputable def g__law_few_loops : DS := (sSeq (sAsg 3 (eCall bMax (aConsT (eC (.int 1)) (aConsT (eOp dSub (eVar 1) (eOp dIxA (eLst (aCons (eC (.int 0)) (aCons (eC (.int 0)) (aCons (eC (.int 0)) (aCons (eC (.int 1)) (aCons (eC (.int 1)) (aCons (eC (.int 2)) (aCons (eC (.int 3)) aNil)))))))) (eDefT 0 2 M__law_pick (aCons (eC (.int 7)) aNil)))) aNil))))
 (sSeq (sAsg 4 (eLst (aCons (eC (.int 1)) aNil)))
 (sSeq (sFor (iRng (aConsT (eOp dSub (eVar 3) (eC (.int 1))) aNil)) (gN 5)
 (sSeq (sAsg 6 (eDefT 0 2 M__law_pick (aCons (eC (.int 6)) aNil)))
 (sIf (xB (eOp dLt (eVar 6) (eC (.int 4))))
 (sDropM (eMut 4 isLst mAppend (aCons (eCall bMin (aConsT (eVar 2) (aConsT (eCall bMax (aConsT (eC (.int 1)) (aConsT (eOp dSub (eOp dMulA (eOp dIxA (eLst (aCons (eC (.int 2)) (aCons (eC (.int 2)) (aCons (eC (.int 2)) (aCons (eC (.int 1)) aNil))))) (eVar 6)) (eCall bMax (aConsT (eVar 4) aNil))) (eDefT 0 2 M__law_pick (aCons (eC (.int 2)) aNil))) aNil))) aNil))) aNil)))
 (sDropM (eMut 4 isLst mAppend (aCons (eOp dAddA (eC (.int 1)) (eDefT 0 2 M__law_pick (aCons (eOp dIxA (eLst (aCons (eVar 2) (aCons (eC (.int 3)) aNil))) (eOp dSub (eVar 6) (eC (.int 4)))) aNil))) aNil))))))
 (sSeq (sIf (xB (eOp dEq (eDefT 0 2 M__law_pick (aCons (eC (.int 12)) aNil)) (eC (.int 0))))
 (sSetI 4 setA (eC (.int 0)) (eOp dAddA (eC (.int 1)) (eDefT 0 2 M__law_pick (aCons (eC (.int 3)) aNil))))
 sPass)
 (sSeq (sAsg 7 (eLst aNil))
 (sSeq (sFor (iRng (aConsT (eVar 3) aNil)) (gN 5)
 (sDropM (eMut 7 isLst mInsert (aCons (eDefT 0 2 M__law_pick (aCons (eOp dAddA (eCall bLenA (aConsT (eVar 7) aNil)) (eC (.int 1))) aNil)) (aCons (eOp dIxA (eVar 4) (eVar 5)) aNil)))))
 (sRet (eCall bTuple (aConsT (eVar 7) aNil)))))))))
noncomputable def M__law_few_loops : DM := runD 8 true g__law_few_loops
theorem ok__law_few_loops (X : K.In h) (G : h.Ns mainGlobals mg) (c : He.SaysD fa fn K) : OkD P w K mg base 2 "_law_few_loops" 3 true M__law_few_loops := by
  refine okD_of (c.def_ 2 (d := d__law_few_loops) rfl) (He.glo_ok X G (c.fact 21)) sc__law_few_loops (fun _ _ _ _ _ _ us hl => match us, hl with | [_, _, _], _ => rfl) (fun cdv A outer s H E C hr tk => ?_)
  exact (sss_cons (ss_set 3 sc__law_few_loops.nd (fun _ => (se_callB (cr_maxA rfl (u64 hr)) d_max q_max (He.free_ok X G (c.fact 4)) bo_max (sat_cons se_int (sat_cons (se_op op_sub d_sub q_sub (se_var 1) (se_ix (ix_any (u1 hr)) d_ixa q_ixa (se_lst (sa_cons se_int (sa_cons se_int (sa_cons se_int (sa_cons se_int (sa_cons se_int (sa_cons se_int (sa_cons se_int sa_nil)))))))) (se_defTO 0 (ok__law_pick X G c) hr tk (sa_cons se_int sa_nil)) (by intro _ _; rfl))) sat_nil)))))
 (sss_cons (ss_set 4 sc__law_few_loops.nd (fun _ => (se_lst (sa_cons se_int sa_nil))))
 (sss_cons (ss_for (passes_of rfl) rfl (fun _ => (si_range1 (He.free_ok X G (c.fact 1)) (sat_cons (se_op op_sub d_sub q_sub (se_var 3) se_int) sat_nil) (many_consT many_nil))) (sg_name 5 sc__law_few_loops.nd) (fun pins =>
 (sss_cons (ss_set 6 sc__law_few_loops.nd (fun _ => (se_defTO 0 (ok__law_pick X G c) hr tk (sa_cons se_int sa_nil))))
 (sss_one (ss_if (fun _ => (st_cmp (op_ltP (u64 hr)) d_pl q_pl (se_var 6) se_int (nomark _)))
 (sss_one (ss_exprM (fun _ => (se_mut 4 kind_lst m_append PySem.F.plainAttrs_list PySem.F.slot_list_append PySem.F.type_list_append mt_append (sa_cons (se_callB (cr_minA rfl (u64 hr)) d_min q_min (He.free_ok X G (c.fact 5)) bo_min (sat_cons (se_var 2) (sat_cons (se_callB (cr_maxA rfl (u64 hr)) d_max q_max (He.free_ok X G (c.fact 4)) bo_max (sat_cons se_int (sat_cons (se_op op_sub d_sub q_sub (se_op op_mulA d_mula q_mula (se_ix (ix_any (u1 hr)) d_ixa q_ixa (se_lst (sa_cons se_int (sa_cons se_int (sa_cons se_int (sa_cons se_int sa_nil))))) (se_var 6) (by intro _ _; rfl)) (se_callB (cr_maxA rfl (u64 hr)) d_max q_max (He.free_ok X G (c.fact 4)) bo_max (sat_cons (se_var 4) sat_nil))) (se_defTO 0 (ok__law_pick X G c) hr tk (sa_cons se_int sa_nil))) sat_nil))) sat_nil))) sa_nil)))))
 (sss_one (ss_exprM (fun _ => (se_mut 4 kind_lst m_append PySem.F.plainAttrs_list PySem.F.slot_list_append PySem.F.type_list_append mt_append (sa_cons (se_op op_addU d_adda q_adda se_int (se_defTO 0 (ok__law_pick X G c) hr tk (sa_cons (se_ix (ix_any (u1 hr)) d_ixa q_ixa (se_lst (sa_cons (se_var 2) (sa_cons se_int sa_nil))) (se_op op_sub d_sub q_sub (se_var 6) se_int) (by intro _ _; rfl)) sa_nil))) sa_nil))))))))))
 (sss_cons (ss_if (fun _ => (st_cmp (op_eqP (u64 hr)) d_pl q_pl (se_defTO 0 (ok__law_pick X G c) hr tk (sa_cons se_int sa_nil)) se_int (nomark _)))
 (sss_one (ss_setI 4 (set_any (u1 hr)) d_setA (fun _ => (se_op op_addU d_adda q_adda se_int (se_defTO 0 (ok__law_pick X G c) hr tk (sa_cons se_int sa_nil)))) (fun _ => se_int)))
 sss_nil)
 (sss_cons (ss_set 7 sc__law_few_loops.nd (fun _ => (se_lst sa_nil)))
 (sss_cons (ss_for (passes_of rfl) rfl (fun _ => (si_range1 (He.free_ok X G (c.fact 1)) (sat_cons (se_var 3) sat_nil) (many_consT many_nil))) (sg_name 5 sc__law_few_loops.nd) (fun pins =>
 (sss_one (ss_exprM (fun _ => (se_mut 7 kind_lst m_insert PySem.F.plainAttrs_list PySem.F.slot_list_insert PySem.F.type_list_insert mt_insert (sa_cons (se_defTO 0 (ok__law_pick X G c) hr tk (sa_cons (se_op op_addU d_adda q_adda (se_callB call_lenA d_lena q_lena (He.free_ok X G (c.fact 3)) bo_len (sat_cons (se_var 7) sat_nil)) se_int) sa_nil)) (sa_cons (se_ix (ix_any (u1 hr)) d_ixa q_ixa (se_var 4) (se_var 5) (by intro _ _; rfl)) sa_nil))))))))
 (sss_one (ss_ret (fun _ => (se_callTy call_tuple_of d_tuple q_tuple (He.free_ok X G (c.fact 6)) bo_tuple (sat_cons (se_var 7) sat_nil)))))))))))
theorem sc__law_game : FnScope ["_law_tape_here", "_law_many", "_law_longest", "_law_loops", "_law_bound", "_law_k"] ["_law_tape_here"] (defScope s__law_game) := ⟨rfl, rfl, rfl, by decide +kernel, rfl, by decide +kernel, by decide +kernel⟩
noncomputable def g__law_game : DS := (sSeq (sAsg 1 (eOp dIxA (eLst (aCons (eC (.int 1)) (aCons (eC (.int 2)) (aCons (eC (.int 3)) (aCons (eC (.int 3)) (aCons (eC (.int 4)) (aCons (eC (.int 8)) aNil))))))) (eDefT 0 2 M__law_pick (aCons (eC (.int 6)) aNil))))
 (sSeq (sAsg 2 (eOp dIxA (eLst (aCons (eC (.int 8)) (aCons (eC (.int 8)) (aCons (eC (.int 40)) aNil)))) (eDefT 0 2 M__law_pick (aCons (eC (.int 3)) aNil))))
 (sSeq (sAsg 3 (eLc [5] (iRng (aConsT (eVar 1) aNil)) (gN 5) xYes (eOp dAddA (eC (.int 1)) (eDefT 0 2 M__law_pick (aCons (eVar 2) aNil)))))
 (sSeq (sIf (xB (eOp dGt (eDefT 0 2 M__law_pick (aCons (eC (.int 4)) aNil)) (eC (.int 0))))
 (sAsg 3 (eCall bListA (aConsT (eDefT 0 3 M__law_few_loops (aCons (eCall bMin (aConsT (eVar 1) (aConsT (eC (.int 5)) aNil))) (aCons (eC (.int 8)) aNil))) aNil)))
 sPass)
 (sSeq (sAsg 4 (eOp dIxA (eLst (aCons (eOp dAddA (eC (.int 1)) (eDefT 0 2 M__law_pick (aCons (eC (.int 6)) aNil))) (aCons (eOp dAddA (eC (.int 1)) (eDefT 0 2 M__law_pick (aCons (eC (.int 12)) aNil))) (aCons (eC (.int 60)) aNil)))) (eOp dDiv (eDefT 0 2 M__law_pick (aCons (eC (.int 16)) aNil)) (eC (.int 7)))))
 (sRet (eTup (aCons (eCall bTuple (aConsT (eVar 3) aNil)) (aCons (eOp dAddA (eC (.int 2)) (eDefT 0 2 M__law_pick (aCons (eC (.int 3)) aNil))) (aCons (eVar 4) aNil))))))))))
noncomputable def M__law_game : DM := runD 6 true g__law_game
theorem ok__law_game (X : K.In h) (G : h.Ns mainGlobals mg) (c : He.SaysD fa fn K) : OkD P w K mg base 3 "_law_game" 1 true M__law_game := by
  refine okD_of (c.def_ 3 (d := d__law_game) rfl) (He.glo_ok X G (c.fact 22)) sc__law_game (fun _ _ _ _ _ _ us hl => match us, hl with | [_], _ => rfl) (fun cdv A outer s H E C hr tk => ?_)
  exact (sss_cons (ss_set 1 sc__law_game.nd (fun _ => (se_ix (ix_any (u1 hr)) d_ixa q_ixa (se_lst (sa_cons se_int (sa_cons se_int (sa_cons se_int (sa_cons se_int (sa_cons se_int (sa_cons se_int sa_nil))))))) (se_defTO 0 (ok__law_pick X G c) hr tk (sa_cons se_int sa_nil)) (by intro _ _; rfl))))
 (sss_cons (ss_set 2 sc__law_game.nd (fun _ => (se_ix (ix_any (u1 hr)) d_ixa q_ixa (se_lst (sa_cons se_int (sa_cons se_int (sa_cons se_int sa_nil)))) (se_defTO 0 (ok__law_pick X G c) hr tk (sa_cons se_int sa_nil)) (by intro _ _; rfl))))
 (sss_cons (ss_setLc 3 (own := [("_law_k", 5)]) rfl sc__law_game.nd (fun _ => (sj_range1 (He.free_ok X G (c.fact 1)) (sat_cons (se_var 1) sat_nil) (many_consT many_nil))) (blk_ok (by kernel_rfl)) (within_name (by decide)) (fun s H Ca cl fp => (sg_name 5 sc__law_game.nd)) (fun _ s H Ca cl fp L tk => sts_nil) (fun _ s H Ca cl fp L tk => (se_op op_addU d_adda q_adda se_int (se_defTO 0 (ok__law_pick X G c) hr tk (sa_cons (se_var 2) sa_nil)))))
 (sss_cons (ss_if (fun _ => (st_cmp (op_gtP (u64 hr)) d_pl q_pl (se_defTO 0 (ok__law_pick X G c) hr tk (sa_cons se_int sa_nil)) se_int (nomark _)))
 (sss_one (ss_set 3 sc__law_game.nd (fun _ => (se_callTy (call_listA rfl) d_listA q_listA (He.free_ok X G (c.fact 0)) bo_list (sat_cons (se_defTO 0 (ok__law_few_loops X G c) hr tk (sa_cons (se_callB (cr_minA rfl (u64 hr)) d_min q_min (He.free_ok X G (c.fact 5)) bo_min (sat_cons (se_var 1) (sat_cons se_int sat_nil))) (sa_cons se_int sa_nil))) sat_nil)))))
 sss_nil)
 (sss_cons (ss_set 4 sc__law_game.nd (fun _ => (se_ix (ix_any (u1 hr)) d_ixa q_ixa (se_lst (sa_cons (se_op op_addU d_adda q_adda se_int (se_defTO 0 (ok__law_pick X G c) hr tk (sa_cons se_int sa_nil))) (sa_cons (se_op op_addU d_adda q_adda se_int (se_defTO 0 (ok__law_pick X G c) hr tk (sa_cons se_int sa_nil))) (sa_cons se_int sa_nil)))) (se_op op_fdiv d_div q_div (se_defTO 0 (ok__law_pick X G c) hr tk (sa_cons se_int sa_nil)) se_int) (by intro _ _; rfl))))
 (sss_one (ss_ret (fun _ => (se_tup (sa_cons (se_callTy call_tuple_of d_tuple q_tuple (He.free_ok X G (c.fact 6)) bo_tuple (sat_cons (se_var 3) sat_nil)) (sa_cons (se_op op_addU d_adda q_adda se_int (se_defTO 0 (ok__law_pick X G c) hr tk (sa_cons se_int sa_nil))) (sa_cons (se_var 4) sa_nil))))))))))))
theorem sc__law_at_switch : FnScope ["_law_bound", "_law_stand_here", "_law_number", "_law_line", "_law_k", "_law_place"] ["_law_bound", "_law_stand_here", "_law_number"] (defScope s__law_at_switch) := ⟨rfl, rfl, rfl, by decide +kernel, rfl, by decide +kernel, by decide +kernel⟩
noncomputable def g__law_at_switch : DS := (sSeq (sAsg 3 (eCall bLenA (aConsT (eVar 1) aNil)))
 (sSeq (sFor (iRng (aConsT (eVar 2) aNil)) (gN 4)
 (sIf (xB (eOp dLe (eVar 3) (eVar 0)))
 (sAsg 3 (eOp dAddA (eVar 3) (eC (.int 1))))
 sPass))
 (sRet (eLc [5] (iRng (aConsT (eC (.int 1)) (aConsT (eVar 3) aNil))) (gN 5) (xOr (xB (eOp dGe (eVar 5) (eCall bLenA (aConsT (eVar 1) aNil)))) (xB (eOp dEq (eOp dIxA (eVar 1) (eVar 5)) (eC (.int 0))))) (eVar 5)))))
noncomputable def M__law_at_switch : DM := runD 6 false g__law_at_switch
theorem ok__law_at_switch (X : K.In h) (G : h.Ns mainGlobals mg) (c : He.SaysD fa fn K) : OkD P w K mg base 1 "_law_at_switch" 3 false M__law_at_switch := by
  refine okD_of (c.def_ 4 (d := d__law_at_switch) rfl) (He.glo_ok X G (c.fact 23)) sc__law_at_switch (fun _ _ _ _ _ _ us hl => match us, hl with | [_, _, _], _ => rfl) (fun cdv A outer s H E C hr tk => ?_)
  exact (sss_cons (ss_set 3 sc__law_at_switch.nd (fun _ => (se_callB call_lenA d_lena q_lena (He.free_ok X G (c.fact 3)) bo_len (sat_cons (se_var 1) sat_nil))))
 (sss_cons (ss_for (passes_of rfl) rfl (fun _ => (si_range1 (He.free_ok X G (c.fact 1)) (sat_cons (se_var 2) sat_nil) (many_consT many_nil))) (sg_name 4 sc__law_at_switch.nd) (fun pins =>
 (sss_one (ss_if (fun _ => (st_cmp (op_leP (u64 hr)) d_pl q_pl (se_var 3) (se_var 0) (nomark _)))
 (sss_one (ss_set 3 sc__law_at_switch.nd (fun _ => (se_op op_addU d_adda q_adda (se_var 3) se_int))))
 sss_nil))))
 (sss_one (ss_ret (fun _ => (se_lc (own := [("_law_place", 5)]) rfl sc__law_at_switch.nd (sj_range2 (He.free_ok X G (c.fact 1)) (sat_cons se_int (sat_cons (se_var 3) sat_nil)) (many_consT (many_consT many_nil))) (blk_ok (by kernel_rfl)) (within_name (by decide)) (fun s H Ca cl fp => (sg_name 5 sc__law_at_switch.nd)) (fun s H Ca cl fp L tk => (sts_one (st_of (sw_or (st_cmp (op_geP (u64 hr)) d_pl q_pl (se_var 5) (se_callB call_lenA d_lena q_lena (He.free_ok X G (c.fact 3)) bo_len (sat_cons (se_var 1) sat_nil)) (nomark _)) (sw_or1 (st_cmp (op_eqP (u64 hr)) d_pl q_pl (se_ix (ix_any (u1 hr)) d_ixa q_ixa (se_var 1) (se_var 5) (by intro _ _; rfl)) se_int (nomark _))))))) (fun s H Ca cl fp L tk => (se_var 5))))))))
theorem sc__law_all_layings : FnScope ["_law_loops", "_law_bound", "_law_stand_here", "_law_number", "_law_found", "_law_place", "_law_longer", "_law_laying", "_law_loop", "_law_pair"] ["_law_loops", "_law_bound", "_law_stand_here", "_law_number"] (defScope s__law_all_layings) := ⟨rfl, rfl, rfl, by decide +kernel, rfl, by decide +kernel, by decide +kernel⟩
noncomputable def g__law_all_layings : DS := (sSeq (sAsg 4 (eLst (aCons (eKtp aNil) aNil)))
 (sFrz 4 (sSeq (sFor (iSeq (eDef 3 M__law_at_switch (aCons (eVar 1) (aCons (eVar 2) (aCons (eVar 3) aNil))))) (gN 5)
 (sSeq (sAsg 6 (eLst aNil))
 (sFrz 4 (sSeq (sFor (iSeq (eVar 4)) (gN 7)
 (sFor (iRng (aConsT (eCall bLenA (aConsT (eVar 0) aNil)) aNil)) (gN 8)
 (sIf (xAnd (xB (eOp dLe (eOp dIxA (eVar 0) (eVar 8)) (eVar 5))) (xB (eOp dNinA (eVar 8) (eLc [9] (jSeq (eVar 7)) (gN 9) xYes (eOp dIxA (eVar 9) (eC (.int 1)))))))
 (sDropM (eMut 6 isLst mAppend (aCons (eOp dAddK (eVar 7) (eKtp (aCons (eTup (aCons (eVar 5) (aCons (eVar 8) aNil))) aNil))) aNil)))
 sPass)))
 (sFrz 6 (sAsg 4 (eVar 6)))))))
 (sRet (eCall bSortB (aConsT (eVar 4) aNil))))))
noncomputable def M__law_all_layings : DM := runD 10 false g__law_all_layings
theorem ok__law_all_layings (X : K.In h) (G : h.Ns mainGlobals mg) (c : He.SaysD fa fn K) : OkD P w K mg base 2 "_law_all_layings" 4 false M__law_all_layings := by
  refine okD_of (c.def_ 5 (d := d__law_all_layings) rfl) (He.glo_ok X G (c.fact 24)) sc__law_all_layings (fun _ _ _ _ _ _ us hl => match us, hl with | [_, _, _, _], _ => rfl) (fun cdv A outer s H E C hr tk => ?_)
  exact (sss_cons (ss_set 4 sc__law_all_layings.nd (fun _ => (se_lst (sa_cons (se_ktp sa_nil) sa_nil))))
 (sss_frz 4 (sss_cons (ss_for (passes_of rfl) rfl (fun _ => (si_seq (se_defO (ok__law_at_switch X G c) hr tk (sa_cons (se_var 1) (sa_cons (se_var 2) (sa_cons (se_var 3) sa_nil)))))) (sg_name 5 sc__law_all_layings.nd) (fun pins =>
 (sss_cons (ss_set 6 sc__law_all_layings.nd (fun _ => (se_lst sa_nil)))
 (sss_frz 4 (sss_cons (ss_for (passes_of rfl) rfl (fun _ => (si_seq (se_var 4))) (sg_name 7 sc__law_all_layings.nd) (fun pins =>
 (sss_one (ss_for (passes_of rfl) rfl (fun _ => (si_range1 (He.free_ok X G (c.fact 1)) (sat_cons (se_callB call_lenA d_lena q_lena (He.free_ok X G (c.fact 3)) bo_len (sat_cons (se_var 0) sat_nil)) sat_nil) (many_consT many_nil))) (sg_name 8 sc__law_all_layings.nd) (fun pins =>
 (sss_one (ss_if (fun _ => (st_of (sw_and (st_cmp (op_leP (u64 hr)) d_pl q_pl (se_ix (ix_any (u1 hr)) d_ixa q_ixa (se_var 0) (se_var 8) (by intro _ _; rfl)) (se_var 5) (nomark _)) (sw_and1 (st_cmp (op_ninA (u64 hr)) d_nina q_nina (se_var 8) (se_lc (own := [("_law_pair", 9)]) rfl sc__law_all_layings.nd (sj_seq (se_var 7)) (blk_ok (by kernel_rfl)) (within_name (by decide)) (fun s H Ca cl fp => (sg_name 9 sc__law_all_layings.nd)) (fun s H Ca cl fp L tk => sts_nil) (fun s H Ca cl fp L tk => (se_ix (ix_any (u1 hr)) d_ixa q_ixa (se_var 9) se_int (by intro _ _; rfl)))) (by with_unfolding_all rfl))))))
 (sss_one (ss_exprM (fun _ => (se_mut 6 kind_lst m_append PySem.F.plainAttrs_list PySem.F.slot_list_append PySem.F.type_list_append mt_append (sa_cons (se_op op_catK d_addk q_addk (se_var 7) (se_ktp (sa_cons (se_tup (sa_cons (se_var 5) (sa_cons (se_var 8) sa_nil))) sa_nil))) sa_nil)))))
 sss_nil)))))))
 (sss_frz 6 (sss_one (ss_set 4 sc__law_all_layings.nd (fun _ => (se_var 6))))))))))
 (sss_one (ss_ret (fun _ => (se_callB (cr_sortB (u64 hr)) d_sortB q_sortB (He.free_ok X G (c.fact 7)) bo_sorted (sat_cons (se_var 4) sat_nil))))))))
theorem sc__law_led_to : FnScope ["_law_loops", "_law_bound", "_law_stand_here", "_law_number", "_law_laying", "_law_laid", "_law_line", "_law_k", "_law_found", "_law_place"] ["_law_loops", "_law_bound", "_law_stand_here", "_law_number", "_law_laying"] (defScope s__law_led_to) := ⟨rfl, rfl, rfl, by decide +kernel, rfl, by decide +kernel, by decide +kernel⟩
noncomputable def g__law_led_to : DS := (sSeq (sAsg 5 (eCall bDictP (aConsT (eVar 4) aNil)))
 (sSeq (sAsg 6 (eCall bLenA (aConsT (eVar 2) aNil)))
 (sSeq (sFor (iRng (aConsT (eVar 3) aNil)) (gN 7)
 (sIf (xB (eOp dLe (eVar 6) (eVar 1)))
 (sAsg 6 (eOp dAddA (eVar 6) (eC (.int 1))))
 sPass))
 (sSeq (sAsg 8 (eLst aNil))
 (sSeq (sFor (iRng (aConsT (eC (.int 1)) (aConsT (eVar 6) aNil))) (gN 9)
 (sIf (xB (eOp dInA (eVar 9) (eVar 5)))
 (sDropM (eMut 8 isLst mAppend (aCons (eOp dSub (eOp dIxA (eVar 0) (eOp dIxA (eVar 5) (eVar 9))) (eC (.int 1))) aNil)))
 (sDropM (eMut 8 isLst mAppend (aCons (eOp dSub (eOp dIxA (eVar 2) (eVar 9)) (eC (.int 1))) aNil)))))
 (sRet (eCall bTuple (aConsT (eVar 8) aNil))))))))
noncomputable def M__law_led_to : DM := runD 10 false g__law_led_to
theorem ok__law_led_to (X : K.In h) (G : h.Ns mainGlobals mg) (c : He.SaysD fa fn K) : OkD P w K mg base 1 "_law_led_to" 5 false M__law_led_to := by
  refine okD_of (c.def_ 6 (d := d__law_led_to) rfl) (He.glo_ok X G (c.fact 25)) sc__law_led_to (fun _ _ _ _ _ _ us hl => match us, hl with | [_, _, _, _, _], _ => rfl) (fun cdv A outer s H E C hr tk => ?_)
  exact (sss_cons (ss_set 5 sc__law_led_to.nd (fun _ => (se_callTy (Pu.call_dictP rfl) d_dictP q_dictP (He.free_ok X G (c.fact 8)) bo_dict (sat_cons (se_var 4) sat_nil))))
 (sss_cons (ss_set 6 sc__law_led_to.nd (fun _ => (se_callB call_lenA d_lena q_lena (He.free_ok X G (c.fact 3)) bo_len (sat_cons (se_var 2) sat_nil))))
 (sss_cons (ss_for (passes_of rfl) rfl (fun _ => (si_range1 (He.free_ok X G (c.fact 1)) (sat_cons (se_var 3) sat_nil) (many_consT many_nil))) (sg_name 7 sc__law_led_to.nd) (fun pins =>
 (sss_one (ss_if (fun _ => (st_cmp (op_leP (u64 hr)) d_pl q_pl (se_var 6) (se_var 1) (nomark _)))
 (sss_one (ss_set 6 sc__law_led_to.nd (fun _ => (se_op op_addU d_adda q_adda (se_var 6) se_int))))
 sss_nil))))
 (sss_cons (ss_set 8 sc__law_led_to.nd (fun _ => (se_lst sa_nil)))
 (sss_cons (ss_for (passes_of rfl) rfl (fun _ => (si_range2 (He.free_ok X G (c.fact 1)) (sat_cons se_int (sat_cons (se_var 6) sat_nil)) (many_consT (many_consT many_nil)))) (sg_name 9 sc__law_led_to.nd) (fun pins =>
 (sss_one (ss_if (fun _ => (st_cmp (op_inA (u64 hr)) d_ina q_ina (se_var 9) (se_var 5) (by with_unfolding_all rfl)))
 (sss_one (ss_exprM (fun _ => (se_mut 8 kind_lst m_append PySem.F.plainAttrs_list PySem.F.slot_list_append PySem.F.type_list_append mt_append (sa_cons (se_op op_sub d_sub q_sub (se_ix (ix_any (u1 hr)) d_ixa q_ixa (se_var 0) (se_ix (ix_any (u1 hr)) d_ixa q_ixa (se_var 5) (se_var 9) (by intro _ _; rfl)) (by intro _ _; rfl)) se_int) sa_nil)))))
 (sss_one (ss_exprM (fun _ => (se_mut 8 kind_lst m_append PySem.F.plainAttrs_list PySem.F.slot_list_append PySem.F.type_list_append mt_append (sa_cons (se_op op_sub d_sub q_sub (se_ix (ix_any (u1 hr)) d_ixa q_ixa (se_var 2) (se_var 9) (by intro _ _; rfl)) se_int) sa_nil)))))))))
 (sss_one (ss_ret (fun _ => (se_callTy call_tuple_of d_tuple q_tuple (He.free_ok X G (c.fact 6)) bo_tuple (sat_cons (se_var 8) sat_nil))))))))))
theorem sc__law_stand : FnScope ["_law_tape_here", "_law_loops", "_law_bound", "_law_stand_here", "_law_many", "_law_lazy", "_law_found", "_law_place", "_law_left", "_law_turn", "_law_number", "_law_ways"] ["_law_tape_here", "_law_loops", "_law_bound"] (defScope s__law_stand) := ⟨rfl, rfl, rfl, by decide +kernel, rfl, by decide +kernel, by decide +kernel⟩
noncomputable def g__law_stand : DS := (sSeq (sAsg 3 (eTup aNil))
 (sSeq (sIf (xB (eOp dEq (eDefT 0 2 M__law_pick (aCons (eC (.int 3)) aNil)) (eC (.int 0))))
 (sSeq (sAsg 4 (eDefT 0 2 M__law_pick (aCons (eOp dAddA (eCall bMin (aConsT (eVar 2) (aConsT (eC (.int 14)) aNil))) (eC (.int 1))) aNil)))
 (sSeq (sAsg 5 (eOp dAddA (eC (.int 1)) (eDefT 0 2 M__law_pick (aCons (eC (.int 3)) aNil))))
 (sSeq (sAsg 6 (eLst aNil))
 (sSeq (sFor (iRng (aConsT (eVar 4) aNil)) (gN 7)
 (sSeq (sAsg 8 (eDefT 0 2 M__law_pick (aCons (eOp dAddA (eVar 7) (eC (.int 1))) aNil)))
 (sSeq (sIf (xAnd (xB (eOp dEq (eVar 8) (eC (.int 0)))) (xAnd (xB (eOp dGt (eVar 7) (eC (.int 0)))) (xB (eOp dGt (eDefT 0 2 M__law_pick (aCons (eVar 5) aNil)) (eC (.int 0))))))
 (sAsg 8 (eVar 7))
 sPass)
 (sDropM (eMut 6 isLst mAppend (aCons (eVar 8) aNil))))))
 (sRet (eCall bTuple (aConsT (eVar 6) aNil)))))))
 sPass)
 (sSeq (sFor (iRng (aConsT (eDefT 0 2 M__law_pick (aCons (eC (.int 24)) aNil)) aNil)) (gN 9)
 (sSeq (sAsg 10 (eOp dIxA (eLst (aCons (eC (.int 2)) (aCons (eC (.int 1)) (aCons (eC (.int 1)) (aCons (eC (.int 0)) (aCons (eC (.int 3)) aNil)))))) (eDefT 0 2 M__law_pick (aCons (eC (.int 5)) aNil))))
 (sSeq (sIf (xAnd (xB (eOp dGt (eCall bLenA (aConsT (eDef 3 M__law_at_switch (aCons (eVar 2) (aCons (eVar 3) (aCons (eVar 10) aNil)))) aNil)) (eC (.int 4)))) (xB (eOp dGt (eCall bLenA (aConsT (eVar 1) aNil)) (eC (.int 5)))))
 sBrk
 sPass)
 (sSeq (sAsg 11 (eDef 4 M__law_all_layings (aCons (eVar 1) (aCons (eVar 2) (aCons (eVar 3) (aCons (eVar 10) aNil))))))
 (sSeq (sIf (xB (eOp dEq (eCall bLenA (aConsT (eVar 11) aNil)) (eC (.int 0))))
 (sSeq (sAsg 11 (eDef 4 M__law_all_layings (aCons (eVar 1) (aCons (eVar 2) (aCons (eVar 3) (aCons (eC (.int 0)) aNil))))))
 (sAsg 10 (eC (.int 0))))
 sPass)
 (sIf (xB (eOp dGt (eCall bLenA (aConsT (eVar 11) aNil)) (eC (.int 0))))
 (sAsg 3 (eDef 5 M__law_led_to (aCons (eVar 1) (aCons (eVar 2) (aCons (eVar 3) (aCons (eVar 10) (aCons (eOp dIxA (eVar 11) (eDefT 0 2 M__law_pick (aCons (eCall bLenA (aConsT (eVar 11) aNil)) aNil))) aNil)))))))
 sPass))))))
 (sRetV 3))))
noncomputable def M__law_stand : DM := runD 12 true g__law_stand
theorem ok__law_stand (X : K.In h) (G : h.Ns mainGlobals mg) (c : He.SaysD fa fn K) : OkD P w K mg base 3 "_law_stand" 3 true M__law_stand := by
  refine okD_of (c.def_ 7 (d := d__law_stand) rfl) (He.glo_ok X G (c.fact 26)) sc__law_stand (fun _ _ _ _ _ _ us hl => match us, hl with | [_, _, _], _ => rfl) (fun cdv A outer s H E C hr tk => ?_)
  exact (sss_cons (ss_set 3 sc__law_stand.nd (fun _ => (se_tup sa_nil)))
 (sss_cons (ss_if (fun _ => (st_cmp (op_eqP (u64 hr)) d_pl q_pl (se_defTO 0 (ok__law_pick X G c) hr tk (sa_cons se_int sa_nil)) se_int (nomark _)))
 (sss_cons (ss_set 4 sc__law_stand.nd (fun _ => (se_defTO 0 (ok__law_pick X G c) hr tk (sa_cons (se_op op_addU d_adda q_adda (se_callB (cr_minA rfl (u64 hr)) d_min q_min (He.free_ok X G (c.fact 5)) bo_min (sat_cons (se_var 2) (sat_cons se_int sat_nil))) se_int) sa_nil))))
 (sss_cons (ss_set 5 sc__law_stand.nd (fun _ => (se_op op_addU d_adda q_adda se_int (se_defTO 0 (ok__law_pick X G c) hr tk (sa_cons se_int sa_nil)))))
 (sss_cons (ss_set 6 sc__law_stand.nd (fun _ => (se_lst sa_nil)))
 (sss_cons (ss_for (passes_of rfl) rfl (fun _ => (si_range1 (He.free_ok X G (c.fact 1)) (sat_cons (se_var 4) sat_nil) (many_consT many_nil))) (sg_name 7 sc__law_stand.nd) (fun pins =>
 (sss_cons (ss_set 8 sc__law_stand.nd (fun _ => (se_defTO 0 (ok__law_pick X G c) hr tk (sa_cons (se_op op_addU d_adda q_adda (se_var 7) se_int) sa_nil))))
 (sss_cons (ss_if (fun _ => (st_of (sw_and (st_cmp (op_eqP (u64 hr)) d_pl q_pl (se_var 8) se_int (nomark _)) (sw_and (st_cmp (op_gtP (u64 hr)) d_pl q_pl (se_var 7) se_int (nomark _)) (sw_and1 (st_cmp (op_gtP (u64 hr)) d_pl q_pl (se_defTO 0 (ok__law_pick X G c) hr tk (sa_cons (se_var 5) sa_nil)) se_int (nomark _)))))))
 (sss_one (ss_set 8 sc__law_stand.nd (fun _ => (se_var 7))))
 sss_nil)
 (sss_one (ss_exprM (fun _ => (se_mut 6 kind_lst m_append PySem.F.plainAttrs_list PySem.F.slot_list_append PySem.F.type_list_append mt_append (sa_cons (se_var 8) sa_nil)))))))))
 (sss_one (ss_ret (fun _ => (se_callTy call_tuple_of d_tuple q_tuple (He.free_ok X G (c.fact 6)) bo_tuple (sat_cons (se_var 6) sat_nil)))))))))
 sss_nil)
 (sss_cons (ss_for (passes_of rfl) rfl (fun _ => (si_range1 (He.free_ok X G (c.fact 1)) (sat_cons (se_defTO 0 (ok__law_pick X G c) hr tk (sa_cons se_int sa_nil)) sat_nil) (many_consT many_nil))) (sg_name 9 sc__law_stand.nd) (fun pins =>
 (sss_cons (ss_set 10 sc__law_stand.nd (fun _ => (se_ix (ix_any (u1 hr)) d_ixa q_ixa (se_lst (sa_cons se_int (sa_cons se_int (sa_cons se_int (sa_cons se_int (sa_cons se_int sa_nil)))))) (se_defTO 0 (ok__law_pick X G c) hr tk (sa_cons se_int sa_nil)) (by intro _ _; rfl))))
 (sss_cons (ss_if (fun _ => (st_of (sw_and (st_cmp (op_gtP (u64 hr)) d_pl q_pl (se_callB call_lenA d_lena q_lena (He.free_ok X G (c.fact 3)) bo_len (sat_cons (se_defO (ok__law_at_switch X G c) hr tk (sa_cons (se_var 2) (sa_cons (se_var 3) (sa_cons (se_var 10) sa_nil)))) sat_nil)) se_int (nomark _)) (sw_and1 (st_cmp (op_gtP (u64 hr)) d_pl q_pl (se_callB call_lenA d_lena q_lena (He.free_ok X G (c.fact 3)) bo_len (sat_cons (se_var 1) sat_nil)) se_int (nomark _))))))
 (sss_one ss_break)
 sss_nil)
 (sss_cons (ss_set 11 sc__law_stand.nd (fun _ => (se_defO (ok__law_all_layings X G c) hr tk (sa_cons (se_var 1) (sa_cons (se_var 2) (sa_cons (se_var 3) (sa_cons (se_var 10) sa_nil)))))))
 (sss_cons (ss_if (fun _ => (st_cmp (op_eqP (u64 hr)) d_pl q_pl (se_callB call_lenA d_lena q_lena (He.free_ok X G (c.fact 3)) bo_len (sat_cons (se_var 11) sat_nil)) se_int (nomark _)))
 (sss_cons (ss_set 11 sc__law_stand.nd (fun _ => (se_defO (ok__law_all_layings X G c) hr tk (sa_cons (se_var 1) (sa_cons (se_var 2) (sa_cons (se_var 3) (sa_cons se_int sa_nil)))))))
 (sss_one (ss_set 10 sc__law_stand.nd (fun _ => se_int))))
 sss_nil)
 (sss_one (ss_if (fun _ => (st_cmp (op_gtP (u64 hr)) d_pl q_pl (se_callB call_lenA d_lena q_lena (He.free_ok X G (c.fact 3)) bo_len (sat_cons (se_var 11) sat_nil)) se_int (nomark _)))
 (sss_one (ss_set 3 sc__law_stand.nd (fun _ => (se_defO (ok__law_led_to X G c) hr tk (sa_cons (se_var 1) (sa_cons (se_var 2) (sa_cons (se_var 3) (sa_cons (se_var 10) (sa_cons (se_ix (ix_any (u1 hr)) d_ixa q_ixa (se_var 11) (se_defTO 0 (ok__law_pick X G c) hr tk (sa_cons (se_callB call_lenA d_lena q_lena (He.free_ok X G (c.fact 3)) bo_len (sat_cons (se_var 11) sat_nil)) sa_nil)) (by intro _ _; rfl)) sa_nil)))))))))
 sss_nil))))))))
 (sss_one (ss_retV 3)))))
theorem sc_is_integer : FnScope ["thing"] ["thing"] (defScope s_is_integer) := ⟨rfl, rfl, rfl, by decide +kernel, rfl, by decide +kernel, by decide +kernel⟩
noncomputable def g_is_integer : DS := (sRet (eAnd (eUn (dIsi [] .int) (eVar 0)) (eNot (eUn (dIsi [] .bool) (eVar 0)))))
noncomputable def M_is_integer : DM := runD 1 false g_is_integer
theorem ok_is_integer (X : K.In h) (G : h.Ns mainGlobals mg) (c : He.SaysD fa fn K) : OkD P w K mg base 1 "is_integer" 1 false M_is_integer := by
  refine okD_of (c.def_ 8 (d := d_is_integer) rfl) (He.glo_ok X G (c.fact 27)) sc_is_integer (fun _ _ _ _ _ _ us hl => match us, hl with | [_], _ => rfl) (fun cdv A outer s H E C hr tk => ?_)
  exact (sss_one (ss_ret (fun _ => (se_and (se_isi ownOk_nil (se_var 0) (He.free_ok X G (c.fact 9)) bo_isinstance (He.free_ok X G (c.fact 2)) bo_int) (se_and1 (se_not (se_isi ownOk_nil (se_var 0) (He.free_ok X G (c.fact 9)) bo_isinstance (He.free_ok X G (c.fact 10)) bo_bool)))))))
theorem sc_is_within : FnScope ["thing", "least", "most"] ["thing", "least", "most"] (defScope s_is_within) := ⟨rfl, rfl, rfl, by decide +kernel, rfl, by decide +kernel, by decide +kernel⟩
noncomputable def g_is_within : DS := (sRet (eAnd (eDef 1 M_is_integer (aCons (eVar 0) aNil)) (eChain dLe dLe (eVar 1) (eVar 0) (eVar 2))))
noncomputable def M_is_within : DM := runD 3 false g_is_within
theorem ok_is_within (X : K.In h) (G : h.Ns mainGlobals mg) (c : He.SaysD fa fn K) : OkD P w K mg base 2 "is_within" 3 false M_is_within := by
  refine okD_of (c.def_ 9 (d := d_is_within) rfl) (He.glo_ok X G (c.fact 28)) sc_is_within (fun _ _ _ _ _ _ us hl => match us, hl with | [_, _, _], _ => rfl) (fun cdv A outer s H E C hr tk => ?_)
  exact (sss_one (ss_ret (fun _ => (se_and (se_defO (ok_is_integer X G c) hr tk (sa_cons (se_var 0) sa_nil)) (se_and1 (se_chain (op_leP (u64 hr)) d_pl q_pl (op_leP (u64 hr)) d_pl q_pl (se_var 1) (se_var 0) (se_var 2)))))))
theorem sc_are_within : FnScope ["thing", "most", "least", "greatest", "item"] ["thing", "most", "least", "greatest"] (defScope s_are_within) := ⟨rfl, rfl, rfl, by decide +kernel, rfl, by decide +kernel, by decide +kernel⟩
noncomputable def g_are_within : DS := (sSeq (sIf (xOr (xNot (xB (eUn (dIsi [] .tuple) (eVar 0)))) (xB (eOp dGt (eCall bLenA (aConsT (eVar 0) aNil)) (eVar 1))))
 (sRet (eC (.bl false)))
 sPass)
 (sRet (eCall bAll (aConsT (eLc [4] (jSeq (eVar 0)) (gN 4) xYes (eDef 3 M_is_within (aCons (eVar 4) (aCons (eVar 2) (aCons (eVar 3) aNil))))) aNil))))
noncomputable def M_are_within : DM := runD 5 false g_are_within
theorem ok_are_within (X : K.In h) (G : h.Ns mainGlobals mg) (c : He.SaysD fa fn K) : OkD P w K mg base 3 "are_within" 4 false M_are_within := by
  refine okD_of (c.def_ 10 (d := d_are_within) rfl) (He.glo_ok X G (c.fact 29)) sc_are_within (fun _ _ _ _ _ _ us hl => match us, hl with | [_, _, _, _], _ => rfl) (fun cdv A outer s H E C hr tk => ?_)
  exact (sss_cons (ss_if (fun _ => (st_of (sw_or (st_not (st_val (se_isi ownOk_nil (se_var 0) (He.free_ok X G (c.fact 9)) bo_isinstance (He.free_ok X G (c.fact 6)) bo_tuple))) (sw_or1 (st_cmp (op_gtP (u64 hr)) d_pl q_pl (se_callB call_lenA d_lena q_lena (He.free_ok X G (c.fact 3)) bo_len (sat_cons (se_var 0) sat_nil)) (se_var 1) (nomark _))))))
 (sss_one (ss_ret (fun _ => se_bl)))
 sss_nil)
 (sss_one (ss_ret (fun _ => (se_callB (cr_all rfl) d_all q_all (He.free_ok X G (c.fact 11)) bo_all (sat_cons (se_lc (own := [("item", 4)]) rfl sc_are_within.nd (sj_seq (se_var 0)) (blk_ok (by kernel_rfl)) (within_name (by decide)) (fun s H Ca cl fp => (sg_name 4 sc_are_within.nd)) (fun s H Ca cl fp L tk => sts_nil) (fun s H Ca cl fp L tk => (se_defO (ok_is_within X G c) hr tk (sa_cons (se_var 4) (sa_cons (se_var 2) (sa_cons (se_var 3) sa_nil)))))) sat_nil))))))
theorem sc_is_loops : FnScope ["thing"] ["thing"] (defScope s_is_loops) := ⟨rfl, rfl, rfl, by decide +kernel, rfl, by decide +kernel, by decide +kernel⟩
noncomputable def g_is_loops : DS := (sRet (eAnd (eDef 4 M_are_within (aCons (eVar 0) (aCons (eC (.int 8)) (aCons (eC (.int 1)) (aCons (eC (.int 40)) aNil))))) (eOp dGt (eCall bLenA (aConsT (eVar 0) aNil)) (eC (.int 0)))))
noncomputable def M_is_loops : DM := runD 1 false g_is_loops
theorem ok_is_loops (X : K.In h) (G : h.Ns mainGlobals mg) (c : He.SaysD fa fn K) : OkD P w K mg base 4 "is_loops" 1 false M_is_loops := by
  refine okD_of (c.def_ 11 (d := d_is_loops) rfl) (He.glo_ok X G (c.fact 30)) sc_is_loops (fun _ _ _ _ _ _ us hl => match us, hl with | [_], _ => rfl) (fun cdv A outer s H E C hr tk => ?_)
  exact (sss_one (ss_ret (fun _ => (se_and (se_defO (ok_are_within X G c) hr tk (sa_cons (se_var 0) (sa_cons (se_globI (He.int_ok X G (c.fact 13))) (sa_cons se_int (sa_cons (se_globI (He.int_ok X G (c.fact 12))) sa_nil))))) (se_and1 (se_cmp (op_gtP (u64 hr)) d_pl q_pl (se_callB call_lenA d_lena q_lena (He.free_ok X G (c.fact 3)) bo_len (sat_cons (se_var 0) sat_nil)) se_int (nomark _)))))))
theorem sc_check_loops : FnScope ["thing"] ["thing"] (defScope s_check_loops) := ⟨rfl, rfl, rfl, by decide +kernel, rfl, by decide +kernel, by decide +kernel⟩
noncomputable def g_check_loops : DS := (sIf (xNot (xB (eDef 1 M_is_loops (aCons (eVar 0) aNil))))
 sNo
 sPass)
noncomputable def M_check_loops : DM := runD 1 false g_check_loops
theorem ok_check_loops (X : K.In h) (G : h.Ns mainGlobals mg) (c : He.SaysD fa fn K) : OkD P w K mg base 5 "check_loops" 1 false M_check_loops := by
  refine okD_of (c.def_ 12 (d := d_check_loops) rfl) (He.glo_ok X G (c.fact 31)) sc_check_loops (fun _ _ _ _ _ _ us hl => match us, hl with | [_], _ => rfl) (fun cdv A outer s H E C hr tk => ?_)
  exact (sss_one (ss_if (fun _ => (st_not (st_val (se_defO (ok_is_loops X G c) hr tk (sa_cons (se_var 0) sa_nil)))))
 (sss_one ss_no)
 sss_nil))
theorem sc_check_comers : FnScope ["thing"] ["thing"] (defScope s_check_comers) := ⟨rfl, rfl, rfl, by decide +kernel, rfl, by decide +kernel, by decide +kernel⟩
noncomputable def g_check_comers : DS := (sIf (xNot (xB (eDef 3 M_is_within (aCons (eVar 0) (aCons (eC (.int 2)) (aCons (eC (.int 4)) aNil))))))
 sNo
 sPass)
noncomputable def M_check_comers : DM := runD 1 false g_check_comers
theorem ok_check_comers (X : K.In h) (G : h.Ns mainGlobals mg) (c : He.SaysD fa fn K) : OkD P w K mg base 3 "check_comers" 1 false M_check_comers := by
  refine okD_of (c.def_ 13 (d := d_check_comers) rfl) (He.glo_ok X G (c.fact 32)) sc_check_comers (fun _ _ _ _ _ _ us hl => match us, hl with | [_], _ => rfl) (fun cdv A outer s H E C hr tk => ?_)
  exact (sss_one (ss_if (fun _ => (st_not (st_val (se_defO (ok_is_within X G c) hr tk (sa_cons (se_var 0) (sa_cons (se_globI (He.int_ok X G (c.fact 15))) (sa_cons (se_globI (He.int_ok X G (c.fact 14))) sa_nil)))))))
 (sss_one ss_no)
 sss_nil))
theorem sc_check_bound : FnScope ["thing"] ["thing"] (defScope s_check_bound) := ⟨rfl, rfl, rfl, by decide +kernel, rfl, by decide +kernel, by decide +kernel⟩
noncomputable def g_check_bound : DS := (sIf (xNot (xB (eDef 3 M_is_within (aCons (eVar 0) (aCons (eC (.int 1)) (aCons (eC (.int 60)) aNil))))))
 sNo
 sPass)
noncomputable def M_check_bound : DM := runD 1 false g_check_bound
theorem ok_check_bound (X : K.In h) (G : h.Ns mainGlobals mg) (c : He.SaysD fa fn K) : OkD P w K mg base 3 "check_bound" 1 false M_check_bound := by
  refine okD_of (c.def_ 14 (d := d_check_bound) rfl) (He.glo_ok X G (c.fact 33)) sc_check_bound (fun _ _ _ _ _ _ us hl => match us, hl with | [_], _ => rfl) (fun cdv A outer s H E C hr tk => ?_)
  exact (sss_one (ss_if (fun _ => (st_not (st_val (se_defO (ok_is_within X G c) hr tk (sa_cons (se_var 0) (sa_cons se_int (sa_cons (se_globI (He.int_ok X G (c.fact 16))) sa_nil)))))))
 (sss_one ss_no)
 sss_nil))
theorem sc_check_game : FnScope ["loops", "comers", "bound"] ["loops", "comers", "bound"] (defScope s_check_game) := ⟨rfl, rfl, rfl, by decide +kernel, rfl, by decide +kernel, by decide +kernel⟩
noncomputable def g_check_game : DS := (sSeq (sDrop (eDef 1 M_check_loops (aCons (eVar 0) aNil)))
 (sSeq (sDrop (eDef 1 M_check_comers (aCons (eVar 1) aNil)))
 (sDrop (eDef 1 M_check_bound (aCons (eVar 2) aNil)))))
noncomputable def M_check_game : DM := runD 3 false g_check_game
theorem ok_check_game (X : K.In h) (G : h.Ns mainGlobals mg) (c : He.SaysD fa fn K) : OkD P w K mg base 6 "check_game" 3 false M_check_game := by
  refine okD_of (c.def_ 15 (d := d_check_game) rfl) (He.glo_ok X G (c.fact 34)) sc_check_game (fun _ _ _ _ _ _ us hl => match us, hl with | [_, _, _], _ => rfl) (fun cdv A outer s H E C hr tk => ?_)
  exact (sss_cons (ss_expr (fun _ => (se_defO (ok_check_loops X G c) hr tk (sa_cons (se_var 0) sa_nil))))
 (sss_cons (ss_expr (fun _ => (se_defO (ok_check_comers X G c) hr tk (sa_cons (se_var 1) sa_nil))))
 (sss_one (ss_expr (fun _ => (se_defO (ok_check_bound X G c) hr tk (sa_cons (se_var 2) sa_nil)))))))
theorem sc_is_stand : FnScope ["bound", "thing", "place", "left"] ["bound", "thing"] (defScope s_is_stand) := ⟨rfl, rfl, rfl, by decide +kernel, rfl, by decide +kernel, by decide +kernel⟩
noncomputable def g_is_stand : DS := (sSeq (sIf (xOr (xNot (xB (eUn (dIsi [] .tuple) (eVar 1)))) (xB (eOp dGt (eCall bLenA (aConsT (eVar 1) aNil)) (eVar 0))))
 (sRet (eC (.bl false)))
 sPass)
 (sRet (eCall bAll (aConsT (eLc [2, 3] (jEnu (eVar 1)) (gT 2 [(gN 2), (gN 3)]) xYes (eDef 3 M_is_within (aCons (eVar 3) (aCons (eC (.int 0)) (aCons (eVar 2) aNil))))) aNil))))
noncomputable def M_is_stand : DM := runD 4 false g_is_stand
theorem ok_is_stand (X : K.In h) (G : h.Ns mainGlobals mg) (c : He.SaysD fa fn K) : OkD P w K mg base 3 "is_stand" 2 false M_is_stand := by
  refine okD_of (c.def_ 16 (d := d_is_stand) rfl) (He.glo_ok X G (c.fact 35)) sc_is_stand (fun _ _ _ _ _ _ us hl => match us, hl with | [_, _], _ => rfl) (fun cdv A outer s H E C hr tk => ?_)
  exact (sss_cons (ss_if (fun _ => (st_of (sw_or (st_not (st_val (se_isi ownOk_nil (se_var 1) (He.free_ok X G (c.fact 9)) bo_isinstance (He.free_ok X G (c.fact 6)) bo_tuple))) (sw_or1 (st_cmp (op_gtP (u64 hr)) d_pl q_pl (se_callB call_lenA d_lena q_lena (He.free_ok X G (c.fact 3)) bo_len (sat_cons (se_var 1) sat_nil)) (se_var 0) (nomark _))))))
 (sss_one (ss_ret (fun _ => se_bl)))
 sss_nil)
 (sss_one (ss_ret (fun _ => (se_callB (cr_all rfl) d_all q_all (He.free_ok X G (c.fact 11)) bo_all (sat_cons (se_lc (own := [("place", 2), ("left", 3)]) rfl sc_is_stand.nd (sj_enum (se_var 1) (He.free_ok X G (c.fact 17))) (blk_ok (by kernel_rfl)) (within_tup (withins_cons (within_name (by decide)) (withins_cons (within_name (by decide)) withins_nil))) (fun s H Ca cl fp => (sg_tup rfl (sgs_cons (sg_name 2 sc_is_stand.nd) (sgs_cons (sg_name 3 sc_is_stand.nd) sgs_nil)))) (fun s H Ca cl fp L tk => sts_nil) (fun s H Ca cl fp L tk => (se_defO (ok_is_within X G c) hr tk (sa_cons (se_var 3) (sa_cons se_int (sa_cons (se_var 2) sa_nil)))))) sat_nil))))))
theorem sc_check_number : FnScope ["comers", "thing"] ["comers", "thing"] (defScope s_check_number) := ⟨rfl, rfl, rfl, by decide +kernel, rfl, by decide +kernel, by decide +kernel⟩
noncomputable def g_check_number : DS := (sIf (xNot (xB (eDef 3 M_is_within (aCons (eVar 1) (aCons (eC (.int 0)) (aCons (eVar 0) aNil))))))
 sNo
 sPass)
noncomputable def M_check_number : DM := runD 2 false g_check_number
theorem ok_check_number (X : K.In h) (G : h.Ns mainGlobals mg) (c : He.SaysD fa fn K) : OkD P w K mg base 3 "check_number" 2 false M_check_number := by
  refine okD_of (c.def_ 17 (d := d_check_number) rfl) (He.glo_ok X G (c.fact 36)) sc_check_number (fun _ _ _ _ _ _ us hl => match us, hl with | [_, _], _ => rfl) (fun cdv A outer s H E C hr tk => ?_)
  exact (sss_one (ss_if (fun _ => (st_not (st_val (se_defO (ok_is_within X G c) hr tk (sa_cons (se_var 1) (sa_cons se_int (sa_cons (se_var 0) sa_nil)))))))
 (sss_one ss_no)
 sss_nil))
theorem sc_check_stand : FnScope ["loops", "comers", "bound", "stand", "number"] ["loops", "comers", "bound", "stand", "number"] (defScope s_check_stand) := ⟨rfl, rfl, rfl, by decide +kernel, rfl, by decide +kernel, by decide +kernel⟩
noncomputable def g_check_stand : DS := (sSeq (sDrop (eDef 3 M_check_game (aCons (eVar 0) (aCons (eVar 1) (aCons (eVar 2) aNil)))))
 (sSeq (sIf (xNot (xB (eDef 2 M_is_stand (aCons (eVar 2) (aCons (eVar 3) aNil)))))
 sNo
 sPass)
 (sDrop (eDef 2 M_check_number (aCons (eVar 1) (aCons (eVar 4) aNil))))))
noncomputable def M_check_stand : DM := runD 5 false g_check_stand
theorem ok_check_stand (X : K.In h) (G : h.Ns mainGlobals mg) (c : He.SaysD fa fn K) : OkD P w K mg base 7 "check_stand" 5 false M_check_stand := by
  refine okD_of (c.def_ 18 (d := d_check_stand) rfl) (He.glo_ok X G (c.fact 37)) sc_check_stand (fun _ _ _ _ _ _ us hl => match us, hl with | [_, _, _, _, _], _ => rfl) (fun cdv A outer s H E C hr tk => ?_)
  exact (sss_cons (ss_expr (fun _ => (se_defO (ok_check_game X G c) hr tk (sa_cons (se_var 0) (sa_cons (se_var 1) (sa_cons (se_var 2) sa_nil))))))
 (sss_cons (ss_if (fun _ => (st_not (st_val (se_defO (ok_is_stand X G c) hr tk (sa_cons (se_var 2) (sa_cons (se_var 3) sa_nil))))))
 (sss_one ss_no)
 sss_nil)
 (sss_one (ss_expr (fun _ => (se_defO (ok_check_number X G c) hr tk (sa_cons (se_var 1) (sa_cons (se_var 4) sa_nil))))))))
theorem sc_line_of : FnScope ["bound", "stand", "number"] ["bound", "stand", "number"] (defScope s_line_of) := ⟨rfl, rfl, rfl, by decide +kernel, rfl, by decide +kernel, by decide +kernel⟩
noncomputable def g_line_of : DS := (sRet (eOp dAddA (eCall bLenA (aConsT (eVar 1) aNil)) (eCall bMin (aConsT (eVar 2) (aConsT (eOp dSub (eOp dAddA (eVar 0) (eC (.int 1))) (eCall bLenA (aConsT (eVar 1) aNil))) aNil)))))
noncomputable def M_line_of : DM := runD 3 false g_line_of
theorem ok_line_of (X : K.In h) (G : h.Ns mainGlobals mg) (c : He.SaysD fa fn K) : OkD P w K mg base 1 "line_of" 3 false M_line_of := by
  refine okD_of (c.def_ 19 (d := d_line_of) rfl) (He.glo_ok X G (c.fact 38)) sc_line_of (fun _ _ _ _ _ _ us hl => match us, hl with | [_, _, _], _ => rfl) (fun cdv A outer s H E C hr tk => ?_)
  exact (sss_one (ss_ret (fun _ => (se_op op_addU d_adda q_adda (se_callB call_lenA d_lena q_lena (He.free_ok X G (c.fact 3)) bo_len (sat_cons (se_var 1) sat_nil)) (se_callB (cr_minA rfl (u64 hr)) d_min q_min (He.free_ok X G (c.fact 5)) bo_min (sat_cons (se_var 2) (sat_cons (se_op op_sub d_sub q_sub (se_op op_addU d_adda q_adda (se_var 0) se_int) (se_callB call_lenA d_lena q_lena (He.free_ok X G (c.fact 3)) bo_len (sat_cons (se_var 1) sat_nil))) sat_nil)))))))
theorem sc_spread : FnScope ["bound", "stand", "number", "back", "place", "left"] ["bound", "stand", "number"] (defScope s_spread) := ⟨rfl, rfl, rfl, by decide +kernel, rfl, by decide +kernel, by decide +kernel⟩
noncomputable def g_spread : DS := (sSeq (sAsg 3 (eLc [4, 5] (jEnu (eVar 1)) (gT 2 [(gN 4), (gN 5)]) (xAnd (xB (eOp dGt (eVar 4) (eC (.int 0)))) (xB (eOp dEq (eVar 5) (eC (.int 0))))) (eVar 4)))
 (sRet (eOp dAddA (eVar 3) (eLc [4] (iRng (aConsT (eCall bLenA (aConsT (eVar 1) aNil)) (aConsT (eDef 3 M_line_of (aCons (eVar 0) (aCons (eVar 1) (aCons (eVar 2) aNil)))) aNil))) (gN 4) (xB (eOp dGt (eVar 4) (eC (.int 0)))) (eVar 4)))))
noncomputable def M_spread : DM := runD 6 false g_spread
theorem ok_spread (X : K.In h) (G : h.Ns mainGlobals mg) (c : He.SaysD fa fn K) : OkD P w K mg base 2 "spread" 3 false M_spread := by
  refine okD_of (c.def_ 20 (d := d_spread) rfl) (He.glo_ok X G (c.fact 39)) sc_spread (fun _ _ _ _ _ _ us hl => match us, hl with | [_, _, _], _ => rfl) (fun cdv A outer s H E C hr tk => ?_)
  exact (sss_cons (ss_setLc 3 (own := [("place", 4), ("left", 5)]) rfl sc_spread.nd (fun _ => (sj_enum (se_var 1) (He.free_ok X G (c.fact 17)))) (blk_ok (by kernel_rfl)) (within_tup (withins_cons (within_name (by decide)) (withins_cons (within_name (by decide)) withins_nil))) (fun s H Ca cl fp => (sg_tup rfl (sgs_cons (sg_name 4 sc_spread.nd) (sgs_cons (sg_name 5 sc_spread.nd) sgs_nil)))) (fun _ s H Ca cl fp L tk => (sts_one (st_of (sw_and (st_cmp (op_gtP (u64 hr)) d_pl q_pl (se_var 4) se_int (nomark _)) (sw_and1 (st_cmp (op_eqP (u64 hr)) d_pl q_pl (se_var 5) se_int (nomark _))))))) (fun _ s H Ca cl fp L tk => (se_var 4)))
 (sss_one (ss_ret (fun _ => (se_op op_addU d_adda q_adda (se_var 3) (se_lc (own := [("place", 4)]) rfl sc_spread.nd (sj_range2 (He.free_ok X G (c.fact 1)) (sat_cons (se_callB call_lenA d_lena q_lena (He.free_ok X G (c.fact 3)) bo_len (sat_cons (se_var 1) sat_nil)) (sat_cons (se_defO (ok_line_of X G c) hr tk (sa_cons (se_var 0) (sa_cons (se_var 1) (sa_cons (se_var 2) sa_nil)))) sat_nil)) (many_consT (many_consT many_nil))) (blk_ok (by kernel_rfl)) (within_name (by decide)) (fun s H Ca cl fp => (sg_name 4 sc_spread.nd)) (fun s H Ca cl fp L tk => (sts_one (st_cmp (op_gtP (u64 hr)) d_pl q_pl (se_var 4) se_int (nomark _)))) (fun s H Ca cl fp L tk => (se_var 4))))))))
theorem sc_layings_of_stand : FnScope ["loops", "bound", "stand", "number", "found", "place", "longer", "laying", "used", "loop", "length", "other"] ["loops", "bound", "stand", "number"] (defScope s_layings_of_stand) := ⟨rfl, rfl, rfl, by decide +kernel, rfl, by decide +kernel, by decide +kernel⟩
noncomputable def g_layings_of_stand : DS := (sSeq (sAsg 4 (eLst (aCons (eTup aNil) aNil)))
 (sFrz 4 (sSeq (sFor (iSeq (eDef 3 M_spread (aCons (eVar 1) (aCons (eVar 2) (aCons (eVar 3) aNil))))) (gN 5)
 (sSeq (sAsg 6 (eLst aNil))
 (sFrz 4 (sSeq (sFor (iSeq (eVar 4)) (gN 7)
 (sSeq (sAsg 8 (eLc [11, 9] (jSeq (eVar 7)) (gT 2 [(gN 11), (gN 9)]) xYes (eVar 9)))
 (sFor (iEnu (eVar 0)) (gT 2 [(gN 9), (gN 10)])
 (sIf (xAnd (xB (eOp dLe (eVar 10) (eVar 5))) (xB (eOp dNinA (eVar 9) (eVar 8))))
 (sDropM (eMut 6 isLst mAppend (aCons (eOp dAddA (eVar 7) (eTup (aCons (eTup (aCons (eVar 5) (aCons (eVar 9) aNil))) aNil))) aNil)))
 sPass))))
 (sFrz 6 (sAsg 4 (eVar 6)))))))
 (sRet (eCall bSortB (aConsT (eVar 4) aNil))))))
noncomputable def M_layings_of_stand : DM := runD 12 false g_layings_of_stand
theorem ok_layings_of_stand (X : K.In h) (G : h.Ns mainGlobals mg) (c : He.SaysD fa fn K) : OkD P w K mg base 3 "layings_of_stand" 4 false M_layings_of_stand := by
  refine okD_of (c.def_ 21 (d := d_layings_of_stand) rfl) (He.glo_ok X G (c.fact 40)) sc_layings_of_stand (fun _ _ _ _ _ _ us hl => match us, hl with | [_, _, _, _], _ => rfl) (fun cdv A outer s H E C hr tk => ?_)
  exact (sss_cons (ss_set 4 sc_layings_of_stand.nd (fun _ => (se_lst (sa_cons (se_tup sa_nil) sa_nil))))
 (sss_frz 4 (sss_cons (ss_for (passes_of rfl) rfl (fun _ => (si_seq (se_defO (ok_spread X G c) hr tk (sa_cons (se_var 1) (sa_cons (se_var 2) (sa_cons (se_var 3) sa_nil)))))) (sg_name 5 sc_layings_of_stand.nd) (fun pins =>
 (sss_cons (ss_set 6 sc_layings_of_stand.nd (fun _ => (se_lst sa_nil)))
 (sss_frz 4 (sss_cons (ss_for (passes_of rfl) rfl (fun _ => (si_seq (se_var 4))) (sg_name 7 sc_layings_of_stand.nd) (fun pins =>
 (sss_cons (ss_setLc 8 (own := [("other", 11), ("loop", 9)]) rfl sc_layings_of_stand.nd (fun _ => (sj_seq (se_var 7))) (blk_ok (by kernel_rfl)) (within_tup (withins_cons (within_name (by decide)) (withins_cons (within_name (by decide)) withins_nil))) (fun s H Ca cl fp => (sg_tup rfl (sgs_cons (sg_name 11 sc_layings_of_stand.nd) (sgs_cons (sg_name 9 sc_layings_of_stand.nd) sgs_nil)))) (fun _ s H Ca cl fp L tk => sts_nil) (fun _ s H Ca cl fp L tk => (se_var 9)))
 (sss_one (ss_for (passes_of rfl) rfl (fun _ => (si_enum (se_var 0) (He.free_ok X G (c.fact 17)))) (sg_tup rfl (sgs_cons (sg_name 9 sc_layings_of_stand.nd) (sgs_cons (sg_name 10 sc_layings_of_stand.nd) sgs_nil))) (fun pins =>
 (sss_one (ss_if (fun _ => (st_of (sw_and (st_cmp (op_leP (u64 hr)) d_pl q_pl (se_var 10) (se_var 5) (nomark _)) (sw_and1 (st_cmp (op_ninA (u64 hr)) d_nina q_nina (se_var 9) (se_var 8) (by with_unfolding_all rfl))))))
 (sss_one (ss_exprM (fun _ => (se_mut 6 kind_lst m_append PySem.F.plainAttrs_list PySem.F.slot_list_append PySem.F.type_list_append mt_append (sa_cons (se_op op_addU d_adda q_adda (se_var 7) (se_tup (sa_cons (se_tup (sa_cons (se_var 5) (sa_cons (se_var 9) sa_nil))) sa_nil))) sa_nil)))))
 sss_nil))))))))
 (sss_frz 6 (sss_one (ss_set 4 sc_layings_of_stand.nd (fun _ => (se_var 6))))))))))
 (sss_one (ss_ret (fun _ => (se_callB (cr_sortB (u64 hr)) d_sortB q_sortB (He.free_ok X G (c.fact 7)) bo_sorted (sat_cons (se_var 4) sat_nil))))))))
theorem sc_layings_out : FnScope ["loops", "comers", "bound", "stand", "number"] ["loops", "comers", "bound", "stand", "number"] (defScope s_layings_out) := ⟨rfl, rfl, rfl, by decide +kernel, rfl, by decide +kernel, by decide +kernel⟩
noncomputable def g_layings_out : DS := (sSeq (sDrop (eDef 5 M_check_stand (aCons (eVar 0) (aCons (eVar 1) (aCons (eVar 2) (aCons (eVar 3) (aCons (eVar 4) aNil)))))))
 (sRet (eDef 4 M_layings_of_stand (aCons (eVar 0) (aCons (eVar 2) (aCons (eVar 3) (aCons (eVar 4) aNil)))))))
noncomputable def M_layings_out : DM := runD 5 false g_layings_out
theorem ok_layings_out (X : K.In h) (G : h.Ns mainGlobals mg) (c : He.SaysD fa fn K) : OkD P w K mg base 8 "layings_out" 5 false M_layings_out := by
  refine okD_of (c.def_ 22 (d := d_layings_out) rfl) (He.glo_ok X G (c.fact 41)) sc_layings_out (fun _ _ _ _ _ _ us hl => match us, hl with | [_, _, _, _, _], _ => rfl) (fun cdv A outer s H E C hr tk => ?_)
  exact (sss_cons (ss_expr (fun _ => (se_defO (ok_check_stand X G c) hr tk (sa_cons (se_var 0) (sa_cons (se_var 1) (sa_cons (se_var 2) (sa_cons (se_var 3) (sa_cons (se_var 4) sa_nil))))))))
 (sss_one (ss_ret (fun _ => (se_defO (ok_layings_of_stand X G c) hr tk (sa_cons (se_var 0) (sa_cons (se_var 2) (sa_cons (se_var 3) (sa_cons (se_var 4) sa_nil)))))))))
theorem sc__law_is : FnScope ["_law_told", "_law_due", "_law_one", "_law_two"] ["_law_told", "_law_due"] (defScope s__law_is) := ⟨rfl, rfl, rfl, by decide +kernel, rfl, by decide +kernel, by decide +kernel⟩
noncomputable def g__law_is (MF : DM) : DS := (sSeq (sIf (xB (eUn (dIsi2 [] .tuple .list) (eVar 1)))
 (sSeq (sIf (xOr (xB (eOp dNe (eUn (dIsi [] .tuple) (eVar 0)) (eUn (dIsi [] .tuple) (eVar 1)))) (xNot (xB (eUn (dIsi2 [] .tuple .list) (eVar 0)))))
 (sRet (eC (.bl false)))
 sPass)
 (sRet (eAnd (eOp dEq (eCall bLenA (aConsT (eVar 0) aNil)) (eCall bLenA (aConsT (eVar 1) aNil))) (eCall bAll (aConsT (eLc [2, 3] (jZpB (eVar 0) (eVar 1)) (gT 2 [(gN 2), (gN 3)]) xYes (eDef 2 MF (aCons (eVar 2) (aCons (eVar 3) aNil)))) aNil)))))
 sPass)
 (sRet (eAnd (eOp dEq (eUn (dIsi [] .bool) (eVar 0)) (eUn (dIsi [] .bool) (eVar 1))) (eOp dEq (eVar 0) (eVar 1)))))
noncomputable def M__law_is : Nat → DM
  | 0 => noM
  | q + 1 => runD 4 false (g__law_is (M__law_is q))
theorem ok__law_is (q : Nat) (X : K.In h) (G : h.Ns mainGlobals mg) (c : He.SaysD fa fn K) : OkD P w K mg base (1 + q) "_law_is" 2 false (M__law_is q) := by
  induction q with
  | zero => exact okD_no (ps := ["_law_told", "_law_due"]) (c.def_ 23 (d := d__law_is) rfl) (He.glo_ok X G (c.fact 42)) (fun _ _ _ _ _ _ us hl => match us, hl with | [_, _], _ => rfl)
  | succ q okF =>
  refine okD_of (k := 1 + q) (c.def_ 23 (d := d__law_is) rfl) (He.glo_ok X G (c.fact 42)) sc__law_is (fun _ _ _ _ _ _ us hl => match us, hl with | [_, _], _ => rfl) (fun cdv A outer s H E C hr tk => ?_)
  exact (sss_cons (ss_if (fun _ => (st_val (se_isi2 ownOk_nil (se_var 1) (He.free_ok X G (c.fact 9)) bo_isinstance (He.free_ok X G (c.fact 6)) bo_tuple (He.free_ok X G (c.fact 0)) bo_list)))
 (sss_cons (ss_if (fun _ => (st_of (sw_or (st_cmp (op_neP (u64 hr)) d_pl q_pl (se_isi ownOk_nil (se_var 0) (He.free_ok X G (c.fact 9)) bo_isinstance (He.free_ok X G (c.fact 6)) bo_tuple) (se_isi ownOk_nil (se_var 1) (He.free_ok X G (c.fact 9)) bo_isinstance (He.free_ok X G (c.fact 6)) bo_tuple) (nomark _)) (sw_or1 (st_not (st_val (se_isi2 ownOk_nil (se_var 0) (He.free_ok X G (c.fact 9)) bo_isinstance (He.free_ok X G (c.fact 6)) bo_tuple (He.free_ok X G (c.fact 0)) bo_list)))))))
 (sss_one (ss_ret (fun _ => se_bl)))
 sss_nil)
 (sss_one (ss_ret (fun _ => (se_and (se_cmp (op_eqP (u64 hr)) d_pl q_pl (se_callB call_lenA d_lena q_lena (He.free_ok X G (c.fact 3)) bo_len (sat_cons (se_var 0) sat_nil)) (se_callB call_lenA d_lena q_lena (He.free_ok X G (c.fact 3)) bo_len (sat_cons (se_var 1) sat_nil)) (nomark _)) (se_and1 (se_callB (cr_all rfl) d_all q_all (He.free_ok X G (c.fact 11)) bo_all (sat_cons (se_lc (own := [("_law_one", 2), ("_law_two", 3)]) rfl sc__law_is.nd (sj_zipB (He.free_ok X G (c.fact 18)) (se_var 0) (se_var 1)) (blk_ok (by kernel_rfl)) (within_tup (withins_cons (within_name (by decide)) (withins_cons (within_name (by decide)) withins_nil))) (fun s H Ca cl fp => (sg_tup rfl (sgs_cons (sg_name 2 sc__law_is.nd) (sgs_cons (sg_name 3 sc__law_is.nd) sgs_nil)))) (fun s H Ca cl fp L tk => sts_nil) (fun s H Ca cl fp L tk => (se_defO okF hr tk (sa_cons (se_var 2) (sa_cons (se_var 3) sa_nil)) (Nat.le_refl _)))) sat_nil))))))))
 sss_nil)
 (sss_one (ss_ret (fun _ => (se_and (se_cmp (op_eqP (u64 hr)) d_pl q_pl (se_isi ownOk_nil (se_var 0) (He.free_ok X G (c.fact 9)) bo_isinstance (He.free_ok X G (c.fact 10)) bo_bool) (se_isi ownOk_nil (se_var 1) (He.free_ok X G (c.fact 9)) bo_isinstance (He.free_ok X G (c.fact 10)) bo_bool) (nomark _)) (se_and1 (se_cmp (op_eqP (u64 hr)) d_pl q_pl (se_var 0) (se_var 1) (nomark _))))))))
theorem sc__law_shuffled : FnScope ["_law_tape_here", "_law_many", "_law_found", "_law_k"] ["_law_tape_here", "_law_many"] (defScope s__law_shuffled) := ⟨rfl, rfl, rfl, by decide +kernel, rfl, by decide +kernel, by decide +kernel⟩
noncomputable def g__law_shuffled : DS := (sSeq (sAsg 2 (eLst aNil))
 (sSeq (sFor (iRng (aConsT (eVar 1) aNil)) (gN 3)
 (sDropM (eMut 2 isLst mInsert (aCons (eDefT 0 2 M__law_pick (aCons (eOp dAddA (eCall bLenA (aConsT (eVar 2) aNil)) (eC (.int 1))) aNil)) (aCons (eVar 3) aNil)))))
 (sRetV 2)))
noncomputable def M__law_shuffled : DM := runD 4 true g__law_shuffled
theorem ok__law_shuffled (X : K.In h) (G : h.Ns mainGlobals mg) (c : He.SaysD fa fn K) : OkD P w K mg base 2 "_law_shuffled" 2 true M__law_shuffled := by
  refine okD_of (c.def_ 24 (d := d__law_shuffled) rfl) (He.glo_ok X G (c.fact 43)) sc__law_shuffled (fun _ _ _ _ _ _ us hl => match us, hl with | [_, _], _ => rfl) (fun cdv A outer s H E C hr tk => ?_)
  exact (sss_cons (ss_set 2 sc__law_shuffled.nd (fun _ => (se_lst sa_nil)))
 (sss_cons (ss_for (passes_of rfl) rfl (fun _ => (si_range1 (He.free_ok X G (c.fact 1)) (sat_cons (se_var 1) sat_nil) (many_consT many_nil))) (sg_name 3 sc__law_shuffled.nd) (fun pins =>
 (sss_one (ss_exprM (fun _ => (se_mut 2 kind_lst m_insert PySem.F.plainAttrs_list PySem.F.slot_list_insert PySem.F.type_list_insert mt_insert (sa_cons (se_defTO 0 (ok__law_pick X G c) hr tk (sa_cons (se_op op_addU d_adda q_adda (se_callB call_lenA d_lena q_lena (He.free_ok X G (c.fact 3)) bo_len (sat_cons (se_var 2) sat_nil)) se_int) sa_nil)) (sa_cons (se_var 3) sa_nil))))))))
 (sss_one (ss_retV 2))))
theorem sc__law_turned : FnScope ["_law_loops", "_law_comers", "_law_bound", "_law_stand_here", "_law_number", "_law_due", "_law_order", "_law_other", "_law_found", "_law_laying", "_law_k", "_law_place", "_law_loop"] ["_law_loops", "_law_comers", "_law_bound", "_law_stand_here", "_law_number", "_law_due", "_law_order"] (defScope s__law_turned) := ⟨rfl, rfl, rfl, by decide +kernel, rfl, by decide +kernel, by decide +kernel⟩
noncomputable def g__law_turned : DS := (sSeq (sAsg 7 (eCall bTuple (aConsT (eLc [10] (jSeq (eVar 6)) (gN 10) xYes (eOp dIxA (eVar 0) (eVar 10))) aNil)))
 (sSeq (sAsg 8 (eLst aNil))
 (sSeq (sFor (iSeq (eDef 5 M_layings_out (aCons (eVar 7) (aCons (eVar 1) (aCons (eVar 2) (aCons (eVar 3) (aCons (eVar 4) aNil))))))) (gN 9)
 (sDropM (eMut 8 isLst mAppend (aCons (eCall bTuple (aConsT (eLc [11, 12] (jSeq (eVar 9)) (gT 2 [(gN 11), (gN 12)]) xYes (eTup (aCons (eVar 11) (aCons (eOp dIxA (eVar 6) (eVar 12)) aNil)))) aNil)) aNil))))
 (sRet (eOp dEq (eCall bSortB (aConsT (eVar 8) aNil)) (eVar 5))))))
noncomputable def M__law_turned : DM := runD 13 false g__law_turned
theorem ok__law_turned (X : K.In h) (G : h.Ns mainGlobals mg) (c : He.SaysD fa fn K) : OkD P w K mg base 9 "_law_turned" 7 false M__law_turned := by
  refine okD_of (c.def_ 25 (d := d__law_turned) rfl) (He.glo_ok X G (c.fact 44)) sc__law_turned (fun _ _ _ _ _ _ us hl => match us, hl with | [_, _, _, _, _, _, _], _ => rfl) (fun cdv A outer s H E C hr tk => ?_)
  exact (sss_cons (ss_set 7 sc__law_turned.nd (fun _ => (se_callTy call_tuple_of d_tuple q_tuple (He.free_ok X G (c.fact 6)) bo_tuple (sat_cons (se_lc (own := [("_law_k", 10)]) rfl sc__law_turned.nd (sj_seq (se_var 6)) (blk_ok (by kernel_rfl)) (within_name (by decide)) (fun s H Ca cl fp => (sg_name 10 sc__law_turned.nd)) (fun s H Ca cl fp L tk => sts_nil) (fun s H Ca cl fp L tk => (se_ix (ix_any (u1 hr)) d_ixa q_ixa (se_var 0) (se_var 10) (by intro _ _; rfl)))) sat_nil))))
 (sss_cons (ss_set 8 sc__law_turned.nd (fun _ => (se_lst sa_nil)))
 (sss_cons (ss_for (passes_of rfl) rfl (fun _ => (si_seq (se_defO (ok_layings_out X G c) hr tk (sa_cons (se_var 7) (sa_cons (se_var 1) (sa_cons (se_var 2) (sa_cons (se_var 3) (sa_cons (se_var 4) sa_nil)))))))) (sg_name 9 sc__law_turned.nd) (fun pins =>
 (sss_one (ss_exprM (fun _ => (se_mut 8 kind_lst m_append PySem.F.plainAttrs_list PySem.F.slot_list_append PySem.F.type_list_append mt_append (sa_cons (se_callTy call_tuple_of d_tuple q_tuple (He.free_ok X G (c.fact 6)) bo_tuple (sat_cons (se_lc (own := [("_law_place", 11), ("_law_loop", 12)]) rfl sc__law_turned.nd (sj_seq (se_var 9)) (blk_ok (by kernel_rfl)) (within_tup (withins_cons (within_name (by decide)) (withins_cons (within_name (by decide)) withins_nil))) (fun s H Ca cl fp => (sg_tup rfl (sgs_cons (sg_name 11 sc__law_turned.nd) (sgs_cons (sg_name 12 sc__law_turned.nd) sgs_nil)))) (fun s H Ca cl fp L tk => sts_nil) (fun s H Ca cl fp L tk => (se_tup (sa_cons (se_var 11) (sa_cons (se_ix (ix_any (u1 hr)) d_ixa q_ixa (se_var 6) (se_var 12) (by intro _ _; rfl)) sa_nil))))) sat_nil)) sa_nil)))))))
 (sss_one (ss_ret (fun _ => (se_cmp (op_eqP (u64 hr)) d_pl q_pl (se_callB (cr_sortB (u64 hr)) d_sortB q_sortB (He.free_ok X G (c.fact 7)) bo_sorted (sat_cons (se_var 8) sat_nil)) (se_var 5) (nomark _))))))))
theorem sc_law : FnScope ["_law_script", "_law_tape_here", "_law_turn", "_law_loops", "_law_comers", "_law_bound", "_law_stand_here", "_law_number", "_law_due", "_law_told", "_law_order"] ["_law_script"] (defScope s_law) := ⟨rfl, rfl, rfl, by decide +kernel, rfl, by decide +kernel, by decide +kernel⟩
noncomputable def g_law : DS := (fun r T => if T.isNone then sTape 1 (eDef 1 M__law_tape (aCons (eVar 0) aNil))
 (sSeq (sFor (iRng (aConsT (eC (.int 4)) aNil)) (gN 2)
 (sSeq (sAsgG (gT 3 [(gN 3), (gN 4), (gN 5)]) (eDefT 1 1 M__law_game aNil))
 (sSeq (sAsg 6 (eDefT 1 3 M__law_stand (aCons (eVar 3) (aCons (eVar 5) aNil))))
 (sFor (iRng (aConsT (eOp dAddA (eVar 4) (eC (.int 1))) aNil)) (gN 7)
 (sSeq (sIf (xAnd (xB (eOp dGt (eCall bLenA (aConsT (eDef 3 M__law_at_switch (aCons (eVar 5) (aCons (eVar 6) (aCons (eVar 7) aNil)))) aNil)) (eC (.int 4)))) (xB (eOp dGt (eCall bLenA (aConsT (eVar 3) aNil)) (eC (.int 5)))))
 sCt
 sPass)
 (sSeq (sAsg 8 (eDef 4 M__law_all_layings (aCons (eVar 3) (aCons (eVar 5) (aCons (eVar 6) (aCons (eVar 7) aNil))))))
 (sSeq (sAsg 9 (eDef 5 M_layings_out (aCons (eVar 3) (aCons (eVar 4) (aCons (eVar 5) (aCons (eVar 6) (aCons (eVar 7) aNil)))))))
 (sSeq (sIf (xOr (xNot (xB (eUn (dIsi [] .list) (eVar 9)))) (xNot (xB (eDefB 2 (M__law_is 40) (aConsT (eVar 9) (aConsT (eVar 8) aNil))))))
 (sRet (eC (.bl false)))
 sPass)
 (sSeq (sDropM (eMut 9 isLst mAppend (aCons (eC .non) aNil)))
 (sFrz 8 (sSeq (sIf (xNot (xB (eDef 2 (M__law_is 40) (aCons (eDef 5 M_layings_out (aCons (eVar 3) (aCons (eVar 4) (aCons (eVar 5) (aCons (eVar 6) (aCons (eVar 7) aNil)))))) (aCons (eVar 8) aNil)))))
 (sRet (eC (.bl false)))
 sPass)
 (sSeq (sAsg 10 (eDefT 1 2 M__law_shuffled (aCons (eCall bLenA (aConsT (eVar 3) aNil)) aNil)))
 (sFrz 10 (sFrz 8 (sIf (xNot (xB (eDef 7 M__law_turned (aCons (eVar 3) (aCons (eVar 4) (aCons (eVar 5) (aCons (eVar 6) (aCons (eVar 7) (aCons (eVar 8) (aCons (eVar 10) aNil))))))))))
 (sRet (eC (.bl false)))
 sPass)))))))))))))))
 (sRet (eC (.bl true)))) r T else .stuck)
noncomputable def M_law : DM := runD 11 false g_law
theorem ok_law {fd : FuncData} (X : K.In h) (G : h.Ns mainGlobals mg) (c : He.SaysD fa fn K) (F : FunD K d_law.name d_law.qual d_law.params d_law.body d_law.scope [] [] (He.ga K d_law.name) fd) : FnOk P w K mg base (L2.CX P w) 42 (He.ga K d_law.name) fd ["_law_script"] (SpD K mg 1 false M_law) := by
  refine okF_of F sc_law (fun cdv A outer s H E C hr tk => ?_)
  exact (sss_tape 1 sc_law.nd (fun _ => (se_defO (ok__law_tape X G c) hr tk (sa_cons (se_var 0) sa_nil))) (fun p =>
 (sss_cons (ss_for (passes_of rfl) rfl (fun _ => (si_range1 (He.free_ok X G (c.fact 1)) (sat_cons se_int sat_nil) (many_consT many_nil))) (sg_name 2 sc_law.nd) (fun pins =>
 (sss_cons (ss_setG (fun _ => (se_defTO 1 (ok__law_game X G c) hr tk sa_nil)) (sg_tup rfl (sgs_cons (sg_name 3 sc_law.nd) (sgs_cons (sg_name 4 sc_law.nd) (sgs_cons (sg_name 5 sc_law.nd) sgs_nil)))))
 (sss_cons (ss_set 6 sc_law.nd (fun _ => (se_defTO 1 (ok__law_stand X G c) hr tk (sa_cons (se_var 3) (sa_cons (se_var 5) sa_nil)))))
 (sss_one (ss_for (passes_of rfl) rfl (fun _ => (si_range1 (He.free_ok X G (c.fact 1)) (sat_cons (se_op op_addU d_adda q_adda (se_var 4) se_int) sat_nil) (many_consT many_nil))) (sg_name 7 sc_law.nd) (fun pins =>
 (sss_cons (ss_if (fun _ => (st_of (sw_and (st_cmp (op_gtP (u64 hr)) d_pl q_pl (se_callB call_lenA d_lena q_lena (He.free_ok X G (c.fact 3)) bo_len (sat_cons (se_defO (ok__law_at_switch X G c) hr tk (sa_cons (se_var 5) (sa_cons (se_var 6) (sa_cons (se_var 7) sa_nil)))) sat_nil)) se_int (nomark _)) (sw_and1 (st_cmp (op_gtP (u64 hr)) d_pl q_pl (se_callB call_lenA d_lena q_lena (He.free_ok X G (c.fact 3)) bo_len (sat_cons (se_var 3) sat_nil)) se_int (nomark _))))))
 (sss_one ss_continue)
 sss_nil)
 (sss_cons (ss_set 8 sc_law.nd (fun _ => (se_defO (ok__law_all_layings X G c) hr tk (sa_cons (se_var 3) (sa_cons (se_var 5) (sa_cons (se_var 6) (sa_cons (se_var 7) sa_nil)))))))
 (sss_cons (ss_set 9 sc_law.nd (fun _ => (se_defO (ok_layings_out X G c) hr tk (sa_cons (se_var 3) (sa_cons (se_var 4) (sa_cons (se_var 5) (sa_cons (se_var 6) (sa_cons (se_var 7) sa_nil))))))))
 (sss_cons (ss_if (fun _ => (st_of (sw_or (st_not (st_val (se_isi ownOk_nil (se_var 9) (He.free_ok X G (c.fact 9)) bo_isinstance (He.free_ok X G (c.fact 0)) bo_list))) (sw_or1 (st_not (st_val (se_defB (ok__law_is 40 X G c) hr tk (sat_cons (se_var 9) (sat_cons (se_var 8) sat_nil)))))))))
 (sss_one (ss_ret (fun _ => se_bl)))
 sss_nil)
 (sss_cons (ss_exprM (fun _ => (se_mut 9 kind_lst m_append PySem.F.plainAttrs_list PySem.F.slot_list_append PySem.F.type_list_append mt_append (sa_cons se_non sa_nil))))
 (sss_frz 8 (sss_cons (ss_if (fun _ => (st_not (st_val (se_defO (ok__law_is 40 X G c) hr tk (sa_cons (se_defO (ok_layings_out X G c) hr tk (sa_cons (se_var 3) (sa_cons (se_var 4) (sa_cons (se_var 5) (sa_cons (se_var 6) (sa_cons (se_var 7) sa_nil)))))) (sa_cons (se_var 8) sa_nil))))))
 (sss_one (ss_ret (fun _ => se_bl)))
 sss_nil)
 (sss_cons (ss_set 10 sc_law.nd (fun _ => (se_defTO 1 (ok__law_shuffled X G c) hr tk (sa_cons (se_callB call_lenA d_lena q_lena (He.free_ok X G (c.fact 3)) bo_len (sat_cons (se_var 3) sat_nil)) sa_nil))))
 (sss_frz 10 (sss_frz 8 (sss_one (ss_if (fun _ => (st_not (st_val (se_defO (ok__law_turned X G c) hr tk (sa_cons (se_var 3) (sa_cons (se_var 4) (sa_cons (se_var 5) (sa_cons (se_var 6) (sa_cons (se_var 7) (sa_cons (se_var 8) (sa_cons (se_var 10) sa_nil)))))))))))
 (sss_one (ss_ret (fun _ => se_bl)))
 sss_nil)))))))))))))))))))
 (sss_one (ss_ret (fun _ => se_bl))))))
theorem fd_law (c : He.SaysD fa fn K) : ∃ fd : FuncData, (∀ (s : Shared) (u : Value), BindsTo s fd ⟨[u], []⟩ [("_law_script", u)]) ∧ ∀ (w : World) (mg : PySem.Str → Option Value) (h base : Heap), K.In h → h.Ns mainGlobals mg → FnOk P w K mg base (L2.CX P w) 42 (He.ga K "law") fd ["_law_script"] (SpD K mg 1 false M_law) ∧ mg "law" = some (.ref (He.ga K "law")) := by
  obtain ⟨fd, F⟩ := c.def_ 26 (d := d_law) rfl
  have b := FunD.bindsA (ps := ["_law_script"]) F fun _ _ _ _ _ _ us hl => match us, hl with | [_], _ => rfl
  exact ⟨fd, fun s u => b s [u] rfl, fun w mg h base X G => ⟨ok_law X G c F, (He.glo_ok X G (c.fact 45))⟩⟩
end
def loose0 : List PySem.Str := ["LoopError", "NoComers", "NoBound", "NoLoops", "NoStand", "NoNumber", "LEAST_COMERS", "MOST_COMERS", "MOST_BOUND", "MOST_LOOPS", "MOST_LENGTH", "is_integer", "is_within", "are_within", "is_loops", "check_comers", "check_bound", "check_loops", "check_number", "check_game", "is_stand", "line_of", "spread", "layings_of_stand", "check_stand", "layings_out", "_law_tape", "_law_pick", "_law_is", "_law_few_loops"]
def loose1 : List PySem.Str := ["_law_shuffled", "_law_game", "_law_at_switch", "_law_all_layings", "_law_led_to", "_law_stand", "_law_turned"]
def loose : List PySem.Str := loose0 ++ loose1
abbrev Rw : PySem.W.OpenRow := PySem.W.OpenLaw.row PySem.Challenge.rw_loopstore_k46_whole_layings_out_by_own_t
abbrev hk : PySem.W.Hook := He.hookD 4 fa fn
def ob (s : PySem.W.SharedT) : He.AlD := He.obsDG 4 fa fn (HandSHeadRun.getT s)
theorem ob_eq (s : PySem.W.SharedT) : ob s = hk.obs s.abs := He.obsDG_eq (HandSHeadRun.getT_eq s)
theorem run (w : World) : HandSHeadRun.RunEq Rw (PySem.W.view Rw.prog [41]) hk ob 4000 loose w := by
  intro os
  kernel_rfl
end Gk46
namespace Gk46
open PySem L2 Pu
theorem tape_ok (ns : List Int) : M__law_tape [.scr ns] none = .ok (.own (.lst [.lst (ns.map D.int), .int 0, .int 0, .int 1, .int 0]), none) := by
  simp [M__law_tape, runD_ap, g__law_tape, env0, bList]
theorem pick_wp {T : Tp} {n : Int} {Q : VD × Tp → Prop} (ht : TapeV T) (h0 : 0 < n) (h1 : n < 1073741824) (k : ∀ r T', 0 ≤ r → r < n → TapeV T' → Q (.val (.int r), T')) : wp (M__law_pick [.int n] T) Q := by
  obtain ⟨ns, p, a, b, c, rfl⟩ := ht
  have m1 : ∀ x : Int, 0 ≤ x % n := fun x => Int.emod_nonneg _ (by omega)
  have m2 : ∀ x : Int, x % n < n := fun x => Int.emod_lt_of_pos _ h0
  have m3 : ∀ x : Int, -18446744073709551616 < x % 2147483647 ∧ x % 2147483647 < 18446744073709551616 := fun x => by omega
  by_cases hp : p < ns.length
  · have e := atI_num hp
    simp [M__law_pick, runD_ap, g__law_pick, env0, e, hp, h0, h1, m3]
    exact ⟨fun _ => k _ _ (m1 _) (m2 _) ⟨ns, p, _, _, _, rfl⟩, fun _ => ⟨fun _ => k _ _ (m1 _) (m2 _) ⟨ns, p + 1, _, _, _, rfl⟩, fun _ => k _ _ (m1 _) (m2 _) ⟨ns, p + 1, _, _, _, rfl⟩⟩⟩
  · simp [M__law_pick, runD_ap, g__law_pick, env0, hp, h0, h1, m3]
    exact ⟨fun _ => k _ _ (m1 _) (m2 _) ⟨ns, p, _, _, _, rfl⟩, fun _ => k _ _ (m1 _) (m2 _) ⟨ns, p, _, _, _, rfl⟩⟩
noncomputable def pick (n : Int) (T : Tp) : Rt (Int × Tp) := match M__law_pick [.int n] T with
  | .ok (.val (.int i), T) => .ok (i, T)
  | _ => .stuck
theorem t_pick (n : Int) (T : Tp) : Sim ET (M__law_pick [eI n] T) (pick n T) (RT (fun x => VD.val (eI x))) := pick_sim _ _ _ rfl
theorem pick_wr {n : Int} {T : Tp} (ht : TapeV T) (h0 : 0 < n) (h1 : n < 1073741824) : wr (pick n T) fun p => (0 ≤ p.1 ∧ p.1 < n) ∧ TapeV p.2 := by
  obtain ⟨a, e, r, T', rfl, r0, r1, t⟩ := pick_wp (Q := fun p => ∃ (r : Int) (T' : Tp), p = (.val (.int r), T') ∧ 0 ≤ r ∧ r < n ∧ TapeV T') ht h0 h1 fun r T' a b c => ⟨r, T', rfl, a, b, c⟩
  unfold pick
  rw [e]
  exact ⟨_, rfl, ⟨r0, r1⟩, t⟩
noncomputable def ffewloops (vmost : Int) (vlongest : Int) (T : Tp) : Rt ((List Int) × Tp) :=
 ((pick (7 : Int) T).bind fun a115 =>
 ((idx [(0 : Int), (0 : Int), (0 : Int), (1 : Int), (1 : Int), (2 : Int), (3 : Int)] a115.1).bind fun a116 =>
 (lete ((max (1 : Int) (vmost - a116)) : Int) fun vmany117 =>
 (lete ([(1 : Int)] : (List Int)) fun vfound120 =>
 ((rng (0 : Int) (vmany117 - (1 : Int))).bind fun xs123 =>
 ((forS xs123 ((vfound120, a115.2) : ((List Int) × Tp)) fun x143 s142 =>
 ((pick (6 : Int) s142.2).bind fun a146 =>
 (if (decide (a146.1 < (4 : Int))) = true then
 ((idx [(2 : Int), (2 : Int), (2 : Int), (1 : Int)] a146.1).bind fun a149 =>
 ((maxG s142.1).bind fun a150 =>
 ((imul a149 a150).bind fun a151 =>
 ((pick (2 : Int) a146.2).bind fun a152 =>
 ((push (s142.1 : (List Int)) (min vlongest (max (1 : Int) (a151 - a152.1)))).bind fun vfound153 =>
 .ok (vfound153, a152.2))))))
 else ((idx [vlongest, (3 : Int)] (a146.1 - (4 : Int))).bind fun a156 =>
 ((pick a156 a146.2).bind fun a157 =>
 ((push (s142.1 : (List Int)) ((1 : Int) + a157.1)).bind fun vfound158 =>
 .ok (vfound158, a157.2))))))).bind fun (s161 : ((List Int) × Tp)) =>
 (((pick (12 : Int) s161.2).bind fun a170 =>
 (if (decide (a170.1 = (0 : Int))) = true then
 ((pick (3 : Int) a170.2).bind fun a171 =>
 ((setAt s161.1 (0 : Int) ((1 : Int) + a171.1)).bind fun vfound172 =>
 .ok (vfound172, a171.2)))
 else .ok (s161.1, a170.2))).bind fun (s169 : ((List Int) × Tp)) =>
 ((rng (0 : Int) vmany117).bind fun xs179 =>
 ((forS xs179 (([], s169.2) : ((List Int) × Tp)) fun x197 s196 =>
 ((pick ((s196.1.length : Int) + (1 : Int)) s196.2).bind fun a200 =>
 ((idx s169.1 x197).bind fun a201 =>
 ((insAt (s196.1 : (List Int)) a200.1 a201).bind fun vorder202 =>
 .ok (vorder202, a200.2))))).bind fun (s205 : ((List Int) × Tp)) =>
 .ok (s205.1, s205.2))))))))))
theorem t_ffewloops (vmost : Int) (vlongest : Int) (T : Tp) : Sim ET (M__law_few_loops [eI vmost, eI vlongest] T) (ffewloops vmost vlongest T) (RT (fun x => VD.val ((eU eI) x))) :=
 t_run (fun r m => (s_seq (s_plugE (plug_asg (plug_call (plug_t2 (Pur.pd q_c) (plug_t1 (plug_op2 (Pur.pd (q_var m rfl)) (plug_op2 (Pur.pdO (q_lst (q_cons (Pur.pv q_c) (q_cons (Pur.pv q_c) (q_cons (Pur.pv q_c) (q_cons (Pur.pv q_c) (q_cons (Pur.pv q_c) (q_cons (Pur.pv q_c) (q_cons (Pur.pv q_c) q_nil))))))) rfl)) plug_id)))))) (h_defT (Mat.get m rfl) (q_cons (Pur.pv q_c) q_nil) rfl (mk := mI) (t_pick _ _) (fun _ => trivial) (fun a115 => (s_plugE (plug_asg (plug_call (plug_t2 (Pur.pd q_c) (plug_t1 (plug_op2 (Pur.pd (q_var m rfl)) plug_id))))) (h_op (Pur.pdO (q_lst (q_cons (Pur.pv q_c) (q_cons (Pur.pv q_c) (q_cons (Pur.pv q_c) (q_cons (Pur.pv q_c) (q_cons (Pur.pv q_c) (q_cons (Pur.pv q_c) (q_cons (Pur.pv q_c) q_nil))))))) rfl)) (Pur.pd q_cst) (mk := fun x => VD.val (eI x)) p_idxL quit_idx (fun a116 => (s_asgL (i := 3) m (fun vmany117 => VD.val (eI vmany117)) (q_call (op := bMax) (q_consT (Pur.pd q_c) (q_consT (Pur.pd (q_op (op := dSub) (Pur.pd (q_var m rfl)) (Pur.pd q_cst) rfl)) q_nil)) q_max2) (fun _ _ => rfl) (fun vmany117 r118 m119 => (s_next (s_seq (s_asgL (i := 4) m119 (fun vfound120 => VD.own ((eL eI) vfound120)) (q_lst (q_cons (Pur.pv q_c) q_nil) rfl) (fun _ _ => rfl) (fun vfound120 r121 m122 => (s_next (s_seq (s_for1 (h_rng (q_consT (Pur.pd (q_op (op := dSub) (Pur.pd (q_var m122 rfl)) (Pur.pd q_c) rfl)) q_nil) rfl (fun xs123 => (s_forS (fun (s142 : ((List Int) × Tp)) => [.is .tape, iv (eI vmost), iv (eI vlongest), iv (eI vmany117), io ((eL eI) s142.1), .free, .free, .free]) (fun s142 => s142.2) ((vfound120, a115.2) : ((List Int) × Tp)) rfl (Mat.weak (.keep (.keep (.keep (.keep (.keep (.keep (.keep (.keep .nil)))))))) m122) q_csti (e := eI) (ms := (fun x => [(5, eI x)])) (fun _ => rfl) (fun x143 s142 r144 m145 => (s_seq (s_plugE (plug_asg plug_id) (h_defT (Mat.get m145 rfl) (q_cons (Pur.pv q_c) q_nil) rfl (mk := mI) (t_pick _ _) (fun _ => trivial) (fun a146 => (s_asg (i := 6) m145 q_cst (fun _ => rfl) (fun r147 m148 => (s_next (s_sif (t_pure (q_xb (Pur.pv (q_op (op := dLt) (Pur.pd (q_var m148 rfl)) (Pur.pd q_c) (dLt_ii _ _)))) (s_ite (fun _ => (s_dropM (s_plugE (plug_mut (i := 4) m148 rfl rfl (plug_c1 (plug_call (plug_t2 (Pur.pd (q_var m148 rfl)) (plug_t1 (plug_call (plug_t2 (Pur.pd q_c) (plug_t1 (plug_op1 (plug_op1 plug_id)))))))))) (h_op (Pur.pdO (q_lst (q_cons (Pur.pv q_c) (q_cons (Pur.pv q_c) (q_cons (Pur.pv q_c) (q_cons (Pur.pv q_c) q_nil)))) rfl)) (Pur.pd (q_var m148 rfl)) (mk := fun x => VD.val (eI x)) p_idxL quit_idx (fun a149 => (s_plugE (plug_mut (i := 4) m148 rfl rfl (plug_c1 (plug_call (plug_t2 (Pur.pd (q_var m148 rfl)) (plug_t1 (plug_call (plug_t2 (Pur.pd q_c) (plug_t1 (plug_op1 (plug_op2 (Pur.pd q_cst) plug_id)))))))))) (h_call (op := bMax) (q_consT (Pur.pdP (q_varO m148 rfl)) q_nil) (mk := fun x => VD.val (eI x)) p_maxL quit_maxG (fun a150 => (s_plugE (plug_mut (i := 4) m148 rfl rfl (plug_c1 (plug_call (plug_t2 (Pur.pd (q_var m148 rfl)) (plug_t1 (plug_call (plug_t2 (Pur.pd q_c) (plug_t1 (plug_op1 plug_id))))))))) (h_op (Pur.pd q_cst) (Pur.pd q_cst) (mk := (fun x => VD.val (eI x))) p_imul quit_imul (fun a151 => (s_plugE (plug_mut (i := 4) m148 rfl rfl (plug_c1 (plug_call (plug_t2 (Pur.pd (q_var m148 rfl)) (plug_t1 (plug_call (plug_t2 (Pur.pd q_c) (plug_t1 (plug_op2 (Pur.pd q_cst) plug_id))))))))) (h_defT (Mat.get m148 rfl) (q_cons (Pur.pv q_c) q_nil) rfl (mk := mI) (t_pick _ _) (fun _ => trivial) (fun a152 => (m_mut (i := 4) m148 rfl rfl (q_cons (Pur.pv (q_call (op := bMin) (q_consT (Pur.pd (q_var m148 rfl)) (q_consT (Pur.pd (q_call (op := bMax) (q_consT (Pur.pd q_c) (q_consT (Pur.pd (q_op (op := dSub) (Pur.pd q_cst) (Pur.pd q_cst) rfl)) q_nil)) q_max2)) q_nil)) q_min2)) q_nil) (dn := (eL eI)) (xv := fun _ => D.non) (p_push (e := eI)) quit_push (fun vfound153 r154 m155 => (x_nx (Mat.weak (.keep (.keep (.keep (.keep (.keep (.fv (.fv (.keep .nil)))))))) m155) rfl))))))))))))))))) (fun _ => (s_dropM (s_plugE (plug_mut (i := 4) m148 rfl rfl (plug_c1 (plug_op2 (Pur.pd q_c) (plug_defT (Mat.get m148 rfl) (plug_c1 plug_id))))) (h_op (Pur.pdO (q_lst (q_cons (Pur.pv (q_var m148 rfl)) (q_cons (Pur.pv q_c) q_nil)) rfl)) (Pur.pd (q_op (op := dSub) (Pur.pd (q_var m148 rfl)) (Pur.pd q_c) rfl)) (mk := fun x => VD.val (eI x)) p_idxL quit_idx (fun a156 => (s_plugE (plug_mut (i := 4) m148 rfl rfl (plug_c1 (plug_op2 (Pur.pd q_c) plug_id))) (h_defT (Mat.get m148 rfl) (q_cons (Pur.pv q_cst) q_nil) rfl (mk := mI) (t_pick _ _) (fun _ => trivial) (fun a157 => (m_mut (i := 4) m148 rfl rfl (q_cons (Pur.pv (q_op (op := dAddA) (Pur.pd q_c) (Pur.pd q_cst) rfl)) q_nil) (dn := (eL eI)) (xv := fun _ => D.non) (p_push (e := eI)) quit_push (fun vfound158 r159 m160 => (x_nx (Mat.weak (.keep (.keep (.keep (.keep (.keep (.fv (.fv (.keep .nil)))))))) m160) rfl)))))))))))))))))))))) (fun s161 r162 m163 => (s_next (s_seq (s_join (fun (s169 : ((List Int) × Tp)) => [.is .tape, iv (eI vmost), iv (eI vlongest), iv (eI vmany117), io ((eL eI) s169.1), .free, .free, .free]) (fun s169 => s169.2) (s_sif (s_plugE (plug_xb (plug_op1 plug_id)) (h_defT (Mat.get m163 rfl) (q_cons (Pur.pv q_c) q_nil) rfl (mk := mI) (t_pick _ _) (fun _ => trivial) (fun a170 => (t_pure (q_xb (Pur.pv (q_op (op := dEq) (Pur.pd q_cst) (Pur.pd q_c) (q_eq enc_I a170.1 (0 : Int) rfl)))) (s_ite (fun _ => (s_plugE (plug_setE (plug_op2 (Pur.pd q_c) plug_id)) (h_defT (Mat.get m163 rfl) (q_cons (Pur.pv q_c) q_nil) rfl (mk := mI) (t_pick _ _) (fun _ => trivial) (fun a171 => (s_setI (i := 4) m163 rfl (Pur.pv (q_op (op := dAddA) (Pur.pd q_c) (Pur.pd q_cst) rfl)) (Pur.pd q_c) (dn := (eL eI)) p_setAt quit_setAt (fun vfound172 r173 m174 => (x_nxL (Mat.weak (.keep (.keep (.keep (.keep (.keep (.keep (.keep (.keep .nil)))))))) m174) rfl))))))) (fun _ => (s_pass (x_nxL (Mat.weak (.keep (.keep (.keep (.keep (.keep (.keep (.keep (.keep .nil)))))))) m163) rfl))))))))) (fun s169 r175 m176 => (s_next (s_seq (s_asg (i := 7) m176 (q_lst q_nil rfl) (fun _ => rfl) (fun r177 m178 => (s_next (s_seq (s_for1 (h_rng (q_consT (Pur.pd (q_var m178 rfl)) q_nil) rfl (fun xs179 => (s_forS (fun (s196 : ((List Int) × Tp)) => [.is .tape, iv (eI vmost), iv (eI vlongest), iv (eI vmany117), io ((eL eI) s169.1), .free, .free, io ((eL eI) s196.1)]) (fun s196 => s196.2) (([], s169.2) : ((List Int) × Tp)) rfl (Mat.weak (.keep (.keep (.keep (.keep (.keep (.keep (.keep (.keep .nil)))))))) m178) q_csti (e := eI) (ms := (fun x => [(5, eI x)])) (fun _ => rfl) (fun x197 s196 r198 m199 => (s_dropM (s_plugE (plug_mut (i := 7) m199 rfl rfl (plug_c1 plug_id)) (h_defT (Mat.get m199 rfl) (q_cons (Pur.pv (q_op (op := dAddA) (Pur.pd (q_call (op := bLenA) (q_consT (Pur.pdP (q_varO m199 rfl)) q_nil) q_lenL)) (Pur.pd q_c) rfl)) q_nil) rfl (mk := mI) (t_pick _ _) (fun _ => trivial) (fun a200 => (s_plugE (plug_mut (i := 7) m199 rfl rfl (plug_c2 (Pur.pv q_cst) (plug_c1 plug_id))) (h_op (Pur.pdP (q_varO m199 rfl)) (Pur.pd (q_var m199 rfl)) (mk := fun x => VD.val (eI x)) p_idxL quit_idx (fun a201 => (m_mut (i := 7) m199 rfl rfl (q_cons (Pur.pv q_cst) (q_cons (Pur.pv q_cst) q_nil)) (dn := (eL eI)) (xv := fun _ => D.non) (p_insAt (e := eI)) quit_insAt (fun vorder202 r203 m204 => (x_nx (Mat.weak (.keep (.keep (.keep (.keep (.keep (.fv (.keep (.keep .nil)))))))) m204) rfl))))))))))) (fun s205 r206 m207 => (s_next (s_ret (q_call (op := bTuple) (q_consT (Pur.pdP (q_varO m207 rfl)) q_nil) rfl) (fun _ => rfl) (s_fin rfl)))))))))))))))))))))))))))))))))))))))
noncomputable def fgame  (T : Tp) : Rt (((List Int) × Int × Int) × Tp) :=
 ((pick (6 : Int) T).bind fun a225 =>
 ((idx [(1 : Int), (2 : Int), (3 : Int), (3 : Int), (4 : Int), (8 : Int)] a225.1).bind fun a226 =>
 ((pick (3 : Int) a225.2).bind fun a229 =>
 ((idx [(8 : Int), (8 : Int), (40 : Int)] a229.1).bind fun a230 =>
 ((rng (0 : Int) a226).bind fun xs233 =>
 ((mapT (fun x235 T237 => ((pick a230 T237).bind fun a239 =>
 .ok (((1 : Int) + a239.1), a239.2))) xs233 a229.2).bind fun a240 =>
 (((pick (4 : Int) a240.2).bind fun a248 =>
 (if (decide (a248.1 > (0 : Int))) = true then
 ((ffewloops (min a226 (5 : Int)) (8 : Int) a248.2).bind fun a249 =>
 .ok (a249.1, a249.2))
 else .ok (a240.1, a248.2))).bind fun (s247 : ((List Int) × Tp)) =>
 ((pick (6 : Int) s247.2).bind fun a254 =>
 ((pick (12 : Int) a254.2).bind fun a255 =>
 ((pick (16 : Int) a255.2).bind fun a256 =>
 ((idx [((1 : Int) + a254.1), ((1 : Int) + a255.1), (60 : Int)] (a256.1 / (7 : Int))).bind fun a257 =>
 ((pick (3 : Int) a256.2).bind fun a260 =>
 .ok ((s247.1, ((2 : Int) + a260.1), a257), a260.2)))))))))))))
theorem t_fgame  (T : Tp) : Sim ET (M__law_game [] T) (fgame  T) (RT (fun x => VD.val ((e3 (eU eI) eI eI) x))) :=
 t_run (fun r m => (s_seq (s_plugE (plug_asg (plug_op2 (Pur.pdO (q_lst (q_cons (Pur.pv q_c) (q_cons (Pur.pv q_c) (q_cons (Pur.pv q_c) (q_cons (Pur.pv q_c) (q_cons (Pur.pv q_c) (q_cons (Pur.pv q_c) q_nil)))))) rfl)) plug_id)) (h_defT (Mat.get m rfl) (q_cons (Pur.pv q_c) q_nil) rfl (mk := mI) (t_pick _ _) (fun _ => trivial) (fun a225 => (s_plugE (plug_asg plug_id) (h_op (Pur.pdO (q_lst (q_cons (Pur.pv q_c) (q_cons (Pur.pv q_c) (q_cons (Pur.pv q_c) (q_cons (Pur.pv q_c) (q_cons (Pur.pv q_c) (q_cons (Pur.pv q_c) q_nil)))))) rfl)) (Pur.pd q_cst) (mk := fun x => VD.val (eI x)) p_idxL quit_idx (fun a226 => (s_asg (i := 1) m q_cst (fun _ => rfl) (fun r227 m228 => (s_next (s_seq (s_plugE (plug_asg (plug_op2 (Pur.pdO (q_lst (q_cons (Pur.pv q_c) (q_cons (Pur.pv q_c) (q_cons (Pur.pv q_c) q_nil))) rfl)) plug_id)) (h_defT (Mat.get m228 rfl) (q_cons (Pur.pv q_c) q_nil) rfl (mk := mI) (t_pick _ _) (fun _ => trivial) (fun a229 => (s_plugE (plug_asg plug_id) (h_op (Pur.pdO (q_lst (q_cons (Pur.pv q_c) (q_cons (Pur.pv q_c) (q_cons (Pur.pv q_c) q_nil))) rfl)) (Pur.pd q_cst) (mk := fun x => VD.val (eI x)) p_idxL quit_idx (fun a230 => (s_asg (i := 2) m228 q_cst (fun _ => rfl) (fun r231 m232 => (s_next (s_seq (s_plugE (plug_asg plug_id) (s_lc1 (h_rng (q_consT (Pur.pd (q_var m232 rfl)) q_nil) rfl (fun xs233 => (h_lcT m232 (.f rfl .nil) q_csti (e := eI) (ms := (fun x => [(5, eI x)])) (fun _ => rfl) (e' := eI) (fun x235 r236 T237 m234 => (e_plug (plug_op2 (Pur.pd q_c) plug_id) (h_defT (Mat.get m234 rfl) (q_cons (Pur.pv (q_var m234 rfl)) q_nil) rfl (mk := mI) (t_pick _ _) (fun _ => trivial) (fun a239 => (e_fin (Pur.pv (q_op (op := dAddA) (Pur.pd q_c) (Pur.pd q_cst) rfl)) rfl))))) (fun a240 => (s_asg (i := 3) m232 q_cst (fun _ => rfl) (fun r241 m242 => (s_next (s_seq (s_join (fun (s247 : ((List Int) × Tp)) => [.is .tape, iv (eI a226), iv (eI a230), io ((eL eI) s247.1), .free, .free]) (fun s247 => s247.2) (s_sif (s_plugE (plug_xb (plug_op1 plug_id)) (h_defT (Mat.get m242 rfl) (q_cons (Pur.pv q_c) q_nil) rfl (mk := mI) (t_pick _ _) (fun _ => trivial) (fun a248 => (t_pure (q_xb (Pur.pv (q_op (op := dGt) (Pur.pd q_cst) (Pur.pd q_c) (dGt_ii _ _)))) (s_ite (fun _ => (s_plugE (plug_asg (plug_call (plug_t1 plug_id))) (h_defT (Mat.get m242 rfl) (q_cons (Pur.pv (q_call (op := bMin) (q_consT (Pur.pd (q_var m242 rfl)) (q_consT (Pur.pd q_c) q_nil)) q_min2)) (q_cons (Pur.pv q_c) q_nil)) rfl (mk := (fun x => VD.val ((eU eI) x))) (t_ffewloops (min a226 (5 : Int)) (8 : Int) _) (fun _ => trivial) (fun a249 => (s_asg (i := 3) m242 (q_call (op := bListA) (q_consT (Pur.pd q_cst) q_nil) rfl) (fun _ => rfl) (fun r250 m251 => (x_nxL (Mat.weak (.keep (.keep (.keep (.keep (.keep (.keep .nil)))))) m251) rfl))))))) (fun _ => (s_pass (x_nxL (Mat.weak (.keep (.keep (.keep (.keep (.keep (.keep .nil)))))) m242) rfl))))))))) (fun s247 r252 m253 => (s_next (s_seq (s_plugE (plug_asg (plug_op1 (plug_lst (plug_c1 (plug_op2 (Pur.pd q_c) plug_id))))) (h_defT (Mat.get m253 rfl) (q_cons (Pur.pv q_c) q_nil) rfl (mk := mI) (t_pick _ _) (fun _ => trivial) (fun a254 => (s_plugE (plug_asg (plug_op1 (plug_lst (plug_c2 (Pur.pv (q_op (op := dAddA) (Pur.pd q_c) (Pur.pd q_cst) rfl)) (plug_c1 (plug_op2 (Pur.pd q_c) plug_id)))))) (h_defT (Mat.get m253 rfl) (q_cons (Pur.pv q_c) q_nil) rfl (mk := mI) (t_pick _ _) (fun _ => trivial) (fun a255 => (s_plugE (plug_asg (plug_op2 (Pur.pdO (q_lst (q_cons (Pur.pv (q_op (op := dAddA) (Pur.pd q_c) (Pur.pd q_cst) rfl)) (q_cons (Pur.pv (q_op (op := dAddA) (Pur.pd q_c) (Pur.pd q_cst) rfl)) (q_cons (Pur.pv q_c) q_nil))) rfl)) (plug_op1 plug_id))) (h_defT (Mat.get m253 rfl) (q_cons (Pur.pv q_c) q_nil) rfl (mk := mI) (t_pick _ _) (fun _ => trivial) (fun a256 => (s_plugE (plug_asg plug_id) (h_op (Pur.pdO (q_lst (q_cons (Pur.pv (q_op (op := dAddA) (Pur.pd q_c) (Pur.pd q_cst) rfl)) (q_cons (Pur.pv (q_op (op := dAddA) (Pur.pd q_c) (Pur.pd q_cst) rfl)) (q_cons (Pur.pv q_c) q_nil))) rfl)) (Pur.pd (q_op (op := dDiv) (Pur.pd q_cst) (Pur.pd q_c) (q_divL (by decide)))) (mk := fun x => VD.val (eI x)) p_idxL quit_idx (fun a257 => (s_asg (i := 4) m253 q_cst (fun _ => rfl) (fun r258 m259 => (s_next (s_plugE (plug_ret (plug_tup (plug_c2 (Pur.pv (q_call (op := bTuple) (q_consT (Pur.pdP (q_varO m259 rfl)) q_nil) rfl)) (plug_c1 (plug_op2 (Pur.pd q_c) plug_id))))) (h_defT (Mat.get m259 rfl) (q_cons (Pur.pv q_c) q_nil) rfl (mk := mI) (t_pick _ _) (fun _ => trivial) (fun a260 => (s_ret (q_tup (q_cons (Pur.pv (q_call (op := bTuple) (q_consT (Pur.pdP (q_varO m259 rfl)) q_nil) rfl)) (q_cons (Pur.pv (q_op (op := dAddA) (Pur.pd q_c) (Pur.pd q_cst) rfl)) (q_cons (Pur.pv (q_var m259 rfl)) q_nil))) rfl) (fun _ => rfl) (s_fin rfl))))))))))))))))))))))))))))))))))))))))))))))))))))))))
noncomputable def fatswitch_I_UI_I (vbound : Int) (vstandhere : (List Int)) (vnumber : Int) : Rt (List Int) :=
 (lete ((vstandhere.length : Int) : Int) fun vline390 =>
 ((rng (0 : Int) vnumber).bind fun xs393 =>
 ((forS xs393 (vline390 : (Int)) fun x401 s400 =>
 (if (decide (s400 ≤ vbound)) = true then
 (lete ((s400 + (1 : Int)) : Int) fun vline404 =>
 .ok vline404)
 else .ok s400)).bind fun (s407 : (Int)) =>
 ((rng (1 : Int) s407).bind fun xs410 =>
 ((lcR (fun x412 => (((if (decide (x412 ≥ (vstandhere.length : Int))) = true then .ok true else ((idx vstandhere x412).bind fun a415 =>
 .ok (decide (a415 = (0 : Int)))))).bind fun b416 =>
 .ok b416)) (fun x412 => .ok x412) xs410).bind fun a417 =>
 .ok a417)))))
theorem t_fatswitch_I_UI_I (vbound : Int) (vstandhere : (List Int)) (vnumber : Int) : Sim ET (M__law_at_switch [eI vbound, (eU eI) vstandhere, eI vnumber] none) (fatswitch_I_UI_I vbound vstandhere vnumber) (RV (fun x => VD.own ((eL eI) x))) :=
 t_run (fun r m => (s_seq (s_asgL (i := 3) m (fun vline390 => VD.val (eI vline390)) (q_call (op := bLenA) (q_consT (Pur.pd (q_var m rfl)) q_nil) q_lenU) (fun _ _ => rfl) (fun vline390 r391 m392 => (s_next (s_seq (s_for1 (h_rng (q_consT (Pur.pd (q_var m392 rfl)) q_nil) rfl (fun xs393 => (s_forS (fun (s400 : (Int)) => [iv (eI vbound), iv ((eU eI) vstandhere), iv (eI vnumber), iv (eI s400), .free, .free]) (fun _ => (none : Tp)) (vline390 : (Int)) rfl (Mat.weak (.keep (.keep (.keep (.keep (.keep (.keep .nil)))))) m392) q_csti (e := eI) (ms := (fun x => [(4, eI x)])) (fun _ => rfl) (fun x401 s400 r402 m403 => (s_sif (t_pure (q_xb (Pur.pv (q_op (op := dLe) (Pur.pd (q_var m403 rfl)) (Pur.pd (q_var m403 rfl)) (dLe_ii _ _)))) (s_ite (fun _ => (s_asgL (i := 3) m403 (fun vline404 => VD.val (eI vline404)) (q_op (op := dAddA) (Pur.pd (q_var m403 rfl)) (Pur.pd q_c) rfl) (fun _ _ => rfl) (fun vline404 r405 m406 => (x_nx (Mat.weak (.keep (.keep (.keep (.keep (.fv (.keep .nil)))))) m406) rfl)))) (fun _ => (s_pass (x_nx (Mat.weak (.keep (.keep (.keep (.keep (.fv (.keep .nil)))))) m403) rfl))))))) (fun s407 r408 m409 => (s_next (s_plugE (plug_ret plug_id) (s_lc1 (h_rng (q_consT (Pur.pd q_c) (q_consT (Pur.pd (q_var m409 rfl)) q_nil)) rfl (fun xs410 => (h_lcF m409 (.f rfl .nil) q_csti (e := eI) (ms := (fun x => [(5, eI x)])) (fun _ => rfl) (e' := eI) (fun x412 r413 m411 => (tt_or (q_xb (Pur.pv (q_op (op := dGe) (Pur.pd (q_var m411 rfl)) (Pur.pd (q_call (op := bLenA) (q_consT (Pur.pd (q_var m411 rfl)) q_nil) q_lenU)) (dGe_ii _ _)))) (fun _ => (s_plugE (plug_xb (plug_op1 plug_id)) (h_op (Pur.pd (q_var m411 rfl)) (Pur.pd (q_var m411 rfl)) (mk := fun x => VD.val (eI x)) p_idxU quit_idx (fun a415 => (t_pure (q_xb (Pur.pv (q_op (op := dEq) (Pur.pd q_cst) (Pur.pd q_c) (q_eq enc_I a415 (0 : Int) rfl)))) (s_fin rfl)))))) (fun b416 => (s_fin rfl)))) (fun x412 r413 m411 => (e_fin (Pur.pv (q_var m411 rfl)) rfl)) (fun a417 => (s_ret q_cst (fun _ => rfl) (s_fin rfl))))))))))))))))))))
noncomputable def falllayings_UI_I_UI_I (vloops : (List Int)) (vbound : Int) (vstandhere : (List Int)) (vnumber : Int) : Rt (List (List (Int × Int))) :=
 ((fatswitch_I_UI_I vbound vstandhere vnumber).bind fun a775 =>
 ((forS a775 ([[]] : ((List (List (Int × Int))))) fun x1005 s1004 =>
 ((forS s1004 ([] : ((List (List (Int × Int))))) fun x1082 s1081 =>
 ((rng (0 : Int) (vloops.length : Int)).bind fun xs1085 =>
 ((forS xs1085 (s1081 : ((List (List (Int × Int))))) fun x1098 s1097 =>
 ((idx vloops x1098).bind fun a1101 =>
 (if ((decide (a1101 ≤ x1005)) && (!memB x1098 (x1082.map fun x1103 => x1103.2))) = true then
 ((catW x1082 [(x1005, x1098)]).bind fun a1105 =>
 ((push (s1097 : (List (List (Int × Int)))) a1105).bind fun vlonger1106 =>
 .ok vlonger1106))
 else .ok s1097))).bind fun (s1109 : ((List (List (Int × Int))))) =>
 .ok s1109))).bind fun (s1112 : ((List (List (Int × Int))))) =>
 .ok s1112)).bind fun (s1119 : ((List (List (Int × Int))))) =>
 ((srtH (ltP ltI ltI) s1119).bind fun a1122 =>
 .ok a1122)))
theorem t_falllayings_UI_I_UI_I (vloops : (List Int)) (vbound : Int) (vstandhere : (List Int)) (vnumber : Int) : Sim ET (M__law_all_layings [(eU eI) vloops, eI vbound, (eU eI) vstandhere, eI vnumber] none) (falllayings_UI_I_UI_I vloops vbound vstandhere vnumber) (RV (fun x => VD.own ((eL (eKp (e2 eI eI))) x))) :=
 t_run (fun r m => (s_seq (s_asg (i := 4) m (q_lst (q_cons (Pur.pv (q_ktp q_nil rfl)) q_nil) rfl) (fun _ => rfl) (fun r771 m772 => (s_next (s_frzO m772 rfl (fun r773 m774 => (s_seq (s_plugE (plug_for (plug_seqI plug_id)) (h_def (q_cons (Pur.pv (q_var m774 rfl)) (q_cons (Pur.pv (q_var m774 rfl)) (q_cons (Pur.pv (q_var m774 rfl)) q_nil))) rfl (mk := (fun x => VD.own ((eL eI) x))) (t_fatswitch_I_UI_I vbound vstandhere vnumber) trivial (fun a775 => (s_forS (fun (s1004 : ((List (List (Int × Int))))) => [iv ((eU eI) vloops), iv (eI vbound), iv ((eU eI) vstandhere), iv (eI vnumber), iv ((eL (eKp (e2 eI eI))) s1004), .free, .free, .free, .free, .free]) (fun _ => (none : Tp)) ([[]] : ((List (List (Int × Int))))) rfl (Mat.weak (.keep (.keep (.keep (.keep (.keep (.keep (.keep (.keep (.keep (.keep .nil)))))))))) m774) (q_seqI (Pur.pvO q_cst) rfl) (e := eI) (ms := (fun x => [(5, eI x)])) (fun _ => rfl) (fun x1005 s1004 r1006 m1007 => (s_seq (s_asg (i := 6) m1007 (q_lst q_nil rfl) (fun _ => rfl) (fun r1008 m1009 => (s_next (s_frzV m1009 rfl (s_seq (s_forS (fun (s1081 : ((List (List (Int × Int))))) => [iv ((eU eI) vloops), iv (eI vbound), iv ((eU eI) vstandhere), iv (eI vnumber), iv ((eL (eKp (e2 eI eI))) s1004), iv (eI x1005), io ((eL (eKp (e2 eI eI))) s1081), .free, .free, .free]) (fun _ => (none : Tp)) ([] : ((List (List (Int × Int))))) rfl (Mat.weak (.keep (.keep (.keep (.keep (.keep (.keep (.keep (.keep (.keep (.keep .nil)))))))))) m1009) (q_seqI (Pur.pv (q_var m1009 rfl)) rfl) (e := (eKp (e2 eI eI))) (ms := (fun x => [(7, (eKp (e2 eI eI)) x)])) (fun _ => rfl) (fun x1082 s1081 r1083 m1084 => (s_for1 (h_rng (q_consT (Pur.pd (q_call (op := bLenA) (q_consT (Pur.pd (q_var m1084 rfl)) q_nil) q_lenU)) q_nil) rfl (fun xs1085 => (s_forS (fun (s1097 : ((List (List (Int × Int))))) => [iv ((eU eI) vloops), iv (eI vbound), iv ((eU eI) vstandhere), iv (eI vnumber), iv ((eL (eKp (e2 eI eI))) s1004), iv (eI x1005), io ((eL (eKp (e2 eI eI))) s1097), iv ((eKp (e2 eI eI)) x1082), .free, .free]) (fun _ => (none : Tp)) (s1081 : ((List (List (Int × Int))))) rfl (Mat.weak (.keep (.keep (.keep (.keep (.keep (.keep (.keep (.keep (.keep (.keep .nil)))))))))) m1084) q_csti (e := eI) (ms := (fun x => [(8, eI x)])) (fun _ => rfl) (fun x1098 s1097 r1099 m1100 => (s_sif (s_plugE (plug_xand (plug_xb (plug_op1 plug_id))) (h_op (Pur.pd (q_var m1100 rfl)) (Pur.pd (q_var m1100 rfl)) (mk := fun x => VD.val (eI x)) p_idxU quit_idx (fun a1101 => (t_pure (q_xand (q_xb (Pur.pv (q_op (op := dLe) (Pur.pd q_cst) (Pur.pd (q_var m1100 rfl)) (dLe_ii _ _)))) (fun _ => (q_xb (Pur.pv (q_op (op := dNinA) (Pur.pd (q_var m1100 rfl)) (Pur.pdO (q_lc m1100 (.f rfl .nil) (q_seqJ (Pur.pd (q_var m1100 rfl)) rfl) (e := (e2 eI eI)) (ms := (fun x => [(9, (e2 eI eI) x)])) (fun _ => rfl) (elt := (fun x1103 => x1103.2)) (e' := eI) (fun x1103 r1104 m1102 => (Pur.pv (q_op (op := dIxA) (Pur.pd (q_var m1102 rfl)) (Pur.pd q_c) (q_fix rfl)))))) (q_ninL enc_I x1098 (x1082.map fun x1103 => x1103.2) rfl)))))) (s_ite (fun _ => (s_dropM (s_plugE (plug_mut (i := 6) m1100 rfl rfl (plug_c1 plug_id)) (h_op (Pur.pd (q_var m1100 rfl)) (Pur.pd (q_ktp (q_cons (Pur.pv (q_tup (q_cons (Pur.pv (q_var m1100 rfl)) (q_cons (Pur.pv (q_var m1100 rfl)) q_nil)) rfl)) q_nil) rfl)) (mk := (fun x => VD.val ((eKp (e2 eI eI)) x))) (p_catW (e := (e2 eI eI)) (xs := x1082) (ys := [(x1005, x1098)])) quit_catW (fun a1105 => (m_mut (i := 6) m1100 rfl rfl (q_cons (Pur.pv q_cst) q_nil) (dn := (eL (eKp (e2 eI eI)))) (xv := fun _ => D.non) (p_push (e := (eKp (e2 eI eI)))) quit_push (fun vlonger1106 r1107 m1108 => (x_nx (Mat.weak (.keep (.keep (.keep (.keep (.keep (.keep (.keep (.keep (.fv (.keep .nil)))))))))) m1108) rfl)))))))) (fun _ => (s_pass (x_nx (Mat.weak (.keep (.keep (.keep (.keep (.keep (.keep (.keep (.keep (.fv (.keep .nil)))))))))) m1100) rfl)))))))))) (fun s1109 r1110 m1111 => (x_nx (Mat.weak (.keep (.keep (.keep (.keep (.keep (.keep (.keep (.fv (.keep (.keep .nil)))))))))) m1111) rfl))))))) (fun s1112 r1113 m1114 => (s_next (s_frzO m1114 rfl (fun r1115 m1116 => (s_asg (i := 4) m1116 (q_var m1116 rfl) (fun _ => rfl) (fun r1117 m1118 => (x_nx (Mat.weak (.keep (.keep (.keep (.keep (.keep (.fv (.fv (.keep (.keep (.keep .nil)))))))))) m1118) rfl))))))))))))))) (fun s1119 r1120 m1121 => (s_next (s_plugE (plug_ret plug_id) (h_call (op := bSortB) (q_consT (Pur.pd (q_var m1121 rfl)) q_nil) (mk := fun x => VD.own ((eL (eKp (e2 eI eI))) x)) (p_srtWH (ord_2 ord_I ord_I lin_I) _ rfl) quit_srtH (fun a1122 => (s_ret q_cst (fun _ => rfl) (s_fin rfl)))))))))))))))))))
noncomputable def fledto_UI_I_UI_I_WPIIe (vloops : (List Int)) (vbound : Int) (vstandhere : (List Int)) (vnumber : Int) (vlaying : (List (Int × Int))) : Rt (List Int) :=
 ((dctP vlaying).bind fun a1207 =>
 (lete ((vstandhere.length : Int) : Int) fun vline1210 =>
 ((rng (0 : Int) vnumber).bind fun xs1213 =>
 ((forS xs1213 (vline1210 : (Int)) fun x1221 s1220 =>
 (if (decide (s1220 ≤ vbound)) = true then
 (lete ((s1220 + (1 : Int)) : Int) fun vline1224 =>
 .ok vline1224)
 else .ok s1220)).bind fun (s1227 : (Int)) =>
 ((rng (1 : Int) s1227).bind fun xs1232 =>
 ((forS xs1232 ([] : ((List Int))) fun x1258 s1257 =>
 (if (ahas a1207 x1258) = true then
 ((dgetR a1207 x1258).bind fun a1261 =>
 ((idx vloops a1261).bind fun a1262 =>
 ((push (s1257 : (List Int)) (a1262 - (1 : Int))).bind fun vfound1263 =>
 .ok vfound1263)))
 else ((idx vstandhere x1258).bind fun a1266 =>
 ((push (s1257 : (List Int)) (a1266 - (1 : Int))).bind fun vfound1267 =>
 .ok vfound1267)))).bind fun (s1270 : ((List Int))) =>
 .ok s1270))))))
theorem t_fledto_UI_I_UI_I_WPIIe (vloops : (List Int)) (vbound : Int) (vstandhere : (List Int)) (vnumber : Int) (vlaying : (List (Int × Int))) : Sim ET (M__law_led_to [(eU eI) vloops, eI vbound, (eU eI) vstandhere, eI vnumber, (eKp (e2 eI eI)) vlaying] none) (fledto_UI_I_UI_I_WPIIe vloops vbound vstandhere vnumber vlaying) (RV (fun x => VD.val ((eU eI) x))) :=
 t_run (fun r m => (s_seq (s_plugE (plug_asg plug_id) (h_call (op := bDictP) (q_consT (Pur.pd (q_var m rfl)) q_nil) (mk := fun x => VD.own ((eK false eI eI) x)) (p_dctP (e := eI) (xs := vlaying)) quit_dctP (fun a1207 => (s_asg (i := 5) m q_cst (fun _ => rfl) (fun r1208 m1209 => (s_next (s_seq (s_asgL (i := 6) m1209 (fun vline1210 => VD.val (eI vline1210)) (q_call (op := bLenA) (q_consT (Pur.pd (q_var m1209 rfl)) q_nil) q_lenU) (fun _ _ => rfl) (fun vline1210 r1211 m1212 => (s_next (s_seq (s_for1 (h_rng (q_consT (Pur.pd (q_var m1212 rfl)) q_nil) rfl (fun xs1213 => (s_forS (fun (s1220 : (Int)) => [iv ((eU eI) vloops), iv (eI vbound), iv ((eU eI) vstandhere), iv (eI vnumber), iv ((eKp (e2 eI eI)) vlaying), io ((eK false eI eI) a1207), iv (eI s1220), .free, .free, .free]) (fun _ => (none : Tp)) (vline1210 : (Int)) rfl (Mat.weak (.keep (.keep (.keep (.keep (.keep (.keep (.keep (.keep (.keep (.keep .nil)))))))))) m1212) q_csti (e := eI) (ms := (fun x => [(7, eI x)])) (fun _ => rfl) (fun x1221 s1220 r1222 m1223 => (s_sif (t_pure (q_xb (Pur.pv (q_op (op := dLe) (Pur.pd (q_var m1223 rfl)) (Pur.pd (q_var m1223 rfl)) (dLe_ii _ _)))) (s_ite (fun _ => (s_asgL (i := 6) m1223 (fun vline1224 => VD.val (eI vline1224)) (q_op (op := dAddA) (Pur.pd (q_var m1223 rfl)) (Pur.pd q_c) rfl) (fun _ _ => rfl) (fun vline1224 r1225 m1226 => (x_nx (Mat.weak (.keep (.keep (.keep (.keep (.keep (.keep (.keep (.fv (.keep (.keep .nil)))))))))) m1226) rfl)))) (fun _ => (s_pass (x_nx (Mat.weak (.keep (.keep (.keep (.keep (.keep (.keep (.keep (.fv (.keep (.keep .nil)))))))))) m1223) rfl))))))) (fun s1227 r1228 m1229 => (s_next (s_seq (s_asg (i := 8) m1229 (q_lst q_nil rfl) (fun _ => rfl) (fun r1230 m1231 => (s_next (s_seq (s_for1 (h_rng (q_consT (Pur.pd q_c) (q_consT (Pur.pd (q_var m1231 rfl)) q_nil)) rfl (fun xs1232 => (s_forS (fun (s1257 : ((List Int))) => [iv ((eU eI) vloops), iv (eI vbound), iv ((eU eI) vstandhere), iv (eI vnumber), iv ((eKp (e2 eI eI)) vlaying), io ((eK false eI eI) a1207), iv (eI s1227), .free, io ((eL eI) s1257), .free]) (fun _ => (none : Tp)) ([] : ((List Int))) rfl (Mat.weak (.keep (.keep (.keep (.keep (.keep (.keep (.keep (.keep (.keep (.keep .nil)))))))))) m1231) q_csti (e := eI) (ms := (fun x => [(9, eI x)])) (fun _ => rfl) (fun x1258 s1257 r1259 m1260 => (s_sif (t_pure (q_xb (Pur.pv (q_op (op := dInA) (Pur.pd (q_var m1260 rfl)) (Pur.pdP (q_varO m1260 rfl)) (q_dIn (kvs := a1207) (k := x1258) key_I)))) (s_ite (fun _ => (s_dropM (s_plugE (plug_mut (i := 8) m1260 rfl rfl (plug_c1 (plug_op1 (plug_op2 (Pur.pd (q_var m1260 rfl)) plug_id)))) (h_op (Pur.pdP (q_varO m1260 rfl)) (Pur.pd (q_var m1260 rfl)) (mk := fun x => VD.val (eI x)) (p_dget key_I) quit_dgetR (fun a1261 => (s_plugE (plug_mut (i := 8) m1260 rfl rfl (plug_c1 (plug_op1 plug_id))) (h_op (Pur.pd (q_var m1260 rfl)) (Pur.pd q_cst) (mk := fun x => VD.val (eI x)) p_idxU quit_idx (fun a1262 => (m_mut (i := 8) m1260 rfl rfl (q_cons (Pur.pv (q_op (op := dSub) (Pur.pd q_cst) (Pur.pd q_c) rfl)) q_nil) (dn := (eL eI)) (xv := fun _ => D.non) (p_push (e := eI)) quit_push (fun vfound1263 r1264 m1265 => (x_nx (Mat.weak (.keep (.keep (.keep (.keep (.keep (.keep (.keep (.keep (.keep (.fv .nil)))))))))) m1265) rfl))))))))))) (fun _ => (s_dropM (s_plugE (plug_mut (i := 8) m1260 rfl rfl (plug_c1 (plug_op1 plug_id))) (h_op (Pur.pd (q_var m1260 rfl)) (Pur.pd (q_var m1260 rfl)) (mk := fun x => VD.val (eI x)) p_idxU quit_idx (fun a1266 => (m_mut (i := 8) m1260 rfl rfl (q_cons (Pur.pv (q_op (op := dSub) (Pur.pd q_cst) (Pur.pd q_c) rfl)) q_nil) (dn := (eL eI)) (xv := fun _ => D.non) (p_push (e := eI)) quit_push (fun vfound1267 r1268 m1269 => (x_nx (Mat.weak (.keep (.keep (.keep (.keep (.keep (.keep (.keep (.keep (.keep (.fv .nil)))))))))) m1269) rfl)))))))))))) (fun s1270 r1271 m1272 => (s_next (s_ret (q_call (op := bTuple) (q_consT (Pur.pdP (q_varO m1272 rfl)) q_nil) rfl) (fun _ => rfl) (s_fin rfl))))))))))))))))))))))))))))))))
noncomputable def fstand_UI_I (vloops : (List Int)) (vbound : Int) (T : Tp) : Rt ((List Int) × Tp) :=
 ((pick (3 : Int) T).bind fun a1339 =>
 (if (decide (a1339.1 = (0 : Int))) = true then
 ((pick ((min vbound (14 : Int)) + (1 : Int)) a1339.2).bind fun a1340 =>
 ((pick (3 : Int) a1340.2).bind fun a1343 =>
 (lete (((1 : Int) + a1343.1) : Int) fun vlazy1344 =>
 ((rng (0 : Int) a1340.1).bind fun xs1349 =>
 ((forS xs1349 (([], a1343.2) : ((List Int) × Tp)) fun x1399 s1398 =>
 ((pick (x1399 + (1 : Int)) s1398.2).bind fun a1402 =>
 ((((if (decide (a1402.1 = (0 : Int))) = true then (((if (decide (x1399 > (0 : Int))) = true then ((pick vlazy1344 a1402.2).bind fun a1413 =>
 .ok ((decide (a1413.1 > (0 : Int))), a1413.2)) else .ok (false, a1402.2))).bind fun b1414 =>
 .ok (b1414.1, b1414.2)) else .ok (false, a1402.2))).bind fun b1415 =>
 (if b1415.1 = true then
 .ok (x1399, b1415.2)
 else .ok (a1402.1, b1415.2))).bind fun (s1411 : (Int × Tp)) =>
 ((push (s1398.1 : (List Int)) s1411.1).bind fun vfound1420 =>
 .ok (vfound1420, s1411.2))))).bind fun (s1423 : ((List Int) × Tp)) =>
 .ok (s1423.1, s1423.2))))))
 else ((pick (24 : Int) a1339.2).bind fun a1426 =>
 ((rng (0 : Int) a1426.1).bind fun xs1427 =>
 ((forB xs1427 (([], a1426.2) : ((List Int) × Tp)) fun x1486 s1485 =>
 ((pick (5 : Int) s1485.2).bind fun a1489 =>
 ((idx [(2 : Int), (1 : Int), (1 : Int), (0 : Int), (3 : Int)] a1489.1).bind fun a1490 =>
 ((fatswitch_I_UI_I vbound s1485.1 a1490).bind fun a1493 =>
 (if ((decide ((a1493.length : Int) > (4 : Int))) && (decide ((vloops.length : Int) > (5 : Int)))) = true then
 .ok (true, (s1485.1, a1489.2))
 else ((falllayings_UI_I_UI_I vloops vbound s1485.1 a1490).bind fun a1494 =>
 ((if (decide ((a1494.length : Int) = (0 : Int))) = true then
 ((falllayings_UI_I_UI_I vloops vbound s1485.1 (0 : Int)).bind fun a1503 =>
 .ok ((0 : Int), a1503))
 else .ok (a1490, a1494)).bind fun (s1502 : (Int × (List (List (Int × Int))))) =>
 (if (decide ((s1502.2.length : Int) > (0 : Int))) = true then
 ((pick (s1502.2.length : Int) a1489.2).bind fun a1510 =>
 ((idx s1502.2 a1510.1).bind fun a1511 =>
 ((fledto_UI_I_UI_I_WPIIe vloops vbound s1485.1 s1502.1 a1511).bind fun a1512 =>
 .ok (false, (a1512, a1510.2)))))
 else .ok (false, (s1485.1, a1489.2)))))))))).bind fun (s1515 : ((List Int) × Tp)) =>
 .ok (s1515.1, s1515.2))))))
theorem t_fstand_UI_I (vloops : (List Int)) (vbound : Int) (T : Tp) : Sim ET (M__law_stand [(eU eI) vloops, eI vbound] T) (fstand_UI_I vloops vbound T) (RT (fun x => VD.val ((eU eI) x))) :=
 t_run (fun r m => (s_seq (s_asg (i := 3) m (q_tup q_nil rfl) (fun _ => rfl) (fun r1337 m1338 => (s_next (s_seq (s_sif (s_plugE (plug_xb (plug_op1 plug_id)) (h_defT (Mat.get m1338 rfl) (q_cons (Pur.pv q_c) q_nil) rfl (mk := mI) (t_pick _ _) (fun _ => trivial) (fun a1339 => (t_pure (q_xb (Pur.pv (q_op (op := dEq) (Pur.pd q_cst) (Pur.pd q_c) (q_eq enc_I a1339.1 (0 : Int) rfl)))) (s_ite (fun _ => (s_seq (s_plugE (plug_asg plug_id) (h_defT (Mat.get m1338 rfl) (q_cons (Pur.pv (q_op (op := dAddA) (Pur.pd (q_call (op := bMin) (q_consT (Pur.pd (q_var m1338 rfl)) (q_consT (Pur.pd q_c) q_nil)) q_min2)) (Pur.pd q_c) rfl)) q_nil) rfl (mk := mI) (t_pick _ _) (fun _ => trivial) (fun a1340 => (s_asg (i := 4) m1338 q_cst (fun _ => rfl) (fun r1341 m1342 => (s_next (s_seq (s_plugE (plug_asg (plug_op2 (Pur.pd q_c) plug_id)) (h_defT (Mat.get m1342 rfl) (q_cons (Pur.pv q_c) q_nil) rfl (mk := mI) (t_pick _ _) (fun _ => trivial) (fun a1343 => (s_asgL (i := 5) m1342 (fun vlazy1344 => VD.val (eI vlazy1344)) (q_op (op := dAddA) (Pur.pd q_c) (Pur.pd q_cst) rfl) (fun _ _ => rfl) (fun vlazy1344 r1345 m1346 => (s_next (s_seq (s_asg (i := 6) m1346 (q_lst q_nil rfl) (fun _ => rfl) (fun r1347 m1348 => (s_next (s_seq (s_for1 (h_rng (q_consT (Pur.pd (q_var m1348 rfl)) q_nil) rfl (fun xs1349 => (s_forS (fun (s1398 : ((List Int) × Tp)) => [.is .tape, iv ((eU eI) vloops), iv (eI vbound), iv ((eU eN) []), iv (eI a1340.1), iv (eI vlazy1344), io ((eL eI) s1398.1), .free, .free, .free, .free, .free]) (fun s1398 => s1398.2) (([], a1343.2) : ((List Int) × Tp)) rfl (Mat.weak (.keep (.keep (.keep (.keep (.keep (.keep (.keep (.keep (.keep (.keep (.keep (.keep .nil)))))))))))) m1348) q_csti (e := eI) (ms := (fun x => [(7, eI x)])) (fun _ => rfl) (fun x1399 s1398 r1400 m1401 => (s_seq (s_plugE (plug_asg plug_id) (h_defT (Mat.get m1401 rfl) (q_cons (Pur.pv (q_op (op := dAddA) (Pur.pd (q_var m1401 rfl)) (Pur.pd q_c) rfl)) q_nil) rfl (mk := mI) (t_pick _ _) (fun _ => trivial) (fun a1402 => (s_asg (i := 8) m1401 q_cst (fun _ => rfl) (fun r1403 m1404 => (s_next (s_seq (s_join (fun (s1411 : (Int × Tp)) => [.is .tape, iv ((eU eI) vloops), iv (eI vbound), iv ((eU eN) []), iv (eI a1340.1), iv (eI vlazy1344), io ((eL eI) s1398.1), iv (eI x1399), iv (eI s1411.1), .free, .free, .free]) (fun s1411 => s1411.2) (s_sif (tt_andT (q_xb (Pur.pv (q_op (op := dEq) (Pur.pd (q_var m1404 rfl)) (Pur.pd q_c) (q_eq enc_I a1402.1 (0 : Int) rfl)))) (fun _ => (tt_andT (q_xb (Pur.pv (q_op (op := dGt) (Pur.pd (q_var m1404 rfl)) (Pur.pd q_c) (dGt_ii _ _)))) (fun _ => (s_plugE (plug_xb (plug_op1 plug_id)) (h_defT (Mat.get m1404 rfl) (q_cons (Pur.pv (q_var m1404 rfl)) q_nil) rfl (mk := mI) (t_pick _ _) (fun _ => trivial) (fun a1413 => (t_pure (q_xb (Pur.pv (q_op (op := dGt) (Pur.pd q_cst) (Pur.pd q_c) (dGt_ii _ _)))) (s_fin rfl)))))) (fun b1414 => (s_fin rfl)))) (fun b1415 => (s_ite (fun _ => (s_asg (i := 8) m1404 (q_var m1404 rfl) (fun _ => rfl) (fun r1416 m1417 => (x_nxL (Mat.weak (.keep (.keep (.keep (.keep (.keep (.keep (.keep (.keep (.keep (.keep (.keep (.keep .nil)))))))))))) m1417) rfl)))) (fun _ => (s_pass (x_nxL (Mat.weak (.keep (.keep (.keep (.keep (.keep (.keep (.keep (.keep (.keep (.keep (.keep (.keep .nil)))))))))))) m1404) rfl))))))) (fun s1411 r1418 m1419 => (s_next (s_dropM (m_mut (i := 6) m1419 rfl rfl (q_cons (Pur.pv (q_var m1419 rfl)) q_nil) (dn := (eL eI)) (xv := fun _ => D.non) (p_push (e := eI)) quit_push (fun vfound1420 r1421 m1422 => (x_nx (Mat.weak (.keep (.keep (.keep (.keep (.keep (.keep (.keep (.fv (.fv (.keep (.keep (.keep .nil)))))))))))) m1422) rfl)))))))))))))))) (fun s1423 r1424 m1425 => (s_next (s_ret (q_call (op := bTuple) (q_consT (Pur.pdP (q_varO m1425 rfl)) q_nil) rfl) (fun _ => rfl) (s_fin rfl)))))))))))))))))))))))))))) (fun _ => (s_pass (s_next (s_seq (s_plugE (plug_for (plug_rng (plug_t1 plug_id))) (h_defT (Mat.get m1338 rfl) (q_cons (Pur.pv q_c) q_nil) rfl (mk := mI) (t_pick _ _) (fun _ => trivial) (fun a1426 => (s_for1 (h_rng (q_consT (Pur.pd q_cst) q_nil) rfl (fun xs1427 => (s_forB (fun (s1485 : ((List Int) × Tp)) => [.is .tape, iv ((eU eI) vloops), iv (eI vbound), iv ((eU eI) s1485.1), .free, .free, .free, .free, .free, .free, .free, .any]) (fun s1485 => s1485.2) (([], a1426.2) : ((List Int) × Tp)) rfl (Mat.weak (.keep (.keep (.keep (.keep (.keep (.keep (.keep (.keep (.keep (.keep (.keep (.any .nil)))))))))))) m1338) q_csti (e := eI) (ms := (fun x => [(9, eI x)])) (fun _ => rfl) (fun x1486 s1485 r1487 m1488 => (s_seq (s_plugE (plug_asg (plug_op2 (Pur.pdO (q_lst (q_cons (Pur.pv q_c) (q_cons (Pur.pv q_c) (q_cons (Pur.pv q_c) (q_cons (Pur.pv q_c) (q_cons (Pur.pv q_c) q_nil))))) rfl)) plug_id)) (h_defT (Mat.get m1488 rfl) (q_cons (Pur.pv q_c) q_nil) rfl (mk := mI) (t_pick _ _) (fun _ => trivial) (fun a1489 => (s_plugE (plug_asg plug_id) (h_op (Pur.pdO (q_lst (q_cons (Pur.pv q_c) (q_cons (Pur.pv q_c) (q_cons (Pur.pv q_c) (q_cons (Pur.pv q_c) (q_cons (Pur.pv q_c) q_nil))))) rfl)) (Pur.pd q_cst) (mk := fun x => VD.val (eI x)) p_idxL quit_idx (fun a1490 => (s_asg (i := 10) m1488 q_cst (fun _ => rfl) (fun r1491 m1492 => (s_next (s_seq (s_sif (s_plugE (plug_xand (plug_xb (plug_op1 (plug_call (plug_t1 plug_id))))) (h_def (q_cons (Pur.pv (q_var m1492 rfl)) (q_cons (Pur.pv (q_var m1492 rfl)) (q_cons (Pur.pv (q_var m1492 rfl)) q_nil))) rfl (mk := (fun x => VD.own ((eL eI) x))) (t_fatswitch_I_UI_I vbound s1485.1 a1490) trivial (fun a1493 => (t_pure (q_xand (q_xb (Pur.pv (q_op (op := dGt) (Pur.pd (q_call (op := bLenA) (q_consT (Pur.pdO q_cst) q_nil) q_lenL)) (Pur.pd q_c) (dGt_ii _ _)))) (fun _ => (q_xb (Pur.pv (q_op (op := dGt) (Pur.pd (q_call (op := bLenA) (q_consT (Pur.pd (q_var m1492 rfl)) q_nil) q_lenU)) (Pur.pd q_c) (dGt_ii _ _)))))) (s_ite (fun _ => (s_brk (x_bkB (Mat.weak (.keep (.keep (.keep (.keep (.keep (.keep (.keep (.keep (.keep (.fv (.fv (.any .nil)))))))))))) m1492) rfl))) (fun _ => (s_pass (s_next (s_seq (s_plugE (plug_asg plug_id) (h_def (q_cons (Pur.pv (q_var m1492 rfl)) (q_cons (Pur.pv (q_var m1492 rfl)) (q_cons (Pur.pv (q_var m1492 rfl)) (q_cons (Pur.pv (q_var m1492 rfl)) q_nil)))) rfl (mk := (fun x => VD.own ((eL (eKp (e2 eI eI))) x))) (t_falllayings_UI_I_UI_I vloops vbound s1485.1 a1490) trivial (fun a1494 => (s_asg (i := 11) m1492 q_cst (fun _ => rfl) (fun r1495 m1496 => (s_next (s_seq (s_join (fun (s1502 : (Int × (List (List (Int × Int))))) => [.is .tape, iv ((eU eI) vloops), iv (eI vbound), iv ((eU eI) s1485.1), .free, .free, .free, .free, .free, iv (eI x1486), iv (eI s1502.1), io ((eL (eKp (e2 eI eI))) s1502.2)]) (fun _ => a1489.2) (s_sif (t_pure (q_xb (Pur.pv (q_op (op := dEq) (Pur.pd (q_call (op := bLenA) (q_consT (Pur.pdP (q_varO m1496 rfl)) q_nil) q_lenL)) (Pur.pd q_c) (q_eq enc_I (a1494.length : Int) (0 : Int) rfl)))) (s_ite (fun _ => (s_seq (s_plugE (plug_asg plug_id) (h_def (q_cons (Pur.pv (q_var m1496 rfl)) (q_cons (Pur.pv (q_var m1496 rfl)) (q_cons (Pur.pv (q_var m1496 rfl)) (q_cons (Pur.pv q_c) q_nil)))) rfl (mk := (fun x => VD.own ((eL (eKp (e2 eI eI))) x))) (t_falllayings_UI_I_UI_I vloops vbound s1485.1 (0 : Int)) trivial (fun a1503 => (s_asg (i := 11) m1496 q_cst (fun _ => rfl) (fun r1504 m1505 => (s_next (s_asg (i := 10) m1505 q_c (fun _ => rfl) (fun r1506 m1507 => (x_nxL (Mat.weak (.keep (.keep (.keep (.keep (.keep (.keep (.keep (.keep (.keep (.keep (.keep (.keep .nil)))))))))))) m1507) rfl))))))))))) (fun _ => (s_pass (x_nxL (Mat.weak (.keep (.keep (.keep (.keep (.keep (.keep (.keep (.keep (.keep (.keep (.keep (.keep .nil)))))))))))) m1496) rfl)))))) (fun s1502 r1508 m1509 => (s_next (s_sif (t_pure (q_xb (Pur.pv (q_op (op := dGt) (Pur.pd (q_call (op := bLenA) (q_consT (Pur.pdP (q_varO m1509 rfl)) q_nil) q_lenL)) (Pur.pd q_c) (dGt_ii _ _)))) (s_ite (fun _ => (s_plugE (plug_asg (plug_def (plug_c2 (Pur.pv (q_var m1509 rfl)) (plug_c2 (Pur.pv (q_var m1509 rfl)) (plug_c2 (Pur.pv (q_var m1509 rfl)) (plug_c2 (Pur.pv (q_var m1509 rfl)) (plug_c1 (plug_op2 (Pur.pdP (q_varO m1509 rfl)) plug_id)))))))) (h_defT (Mat.get m1509 rfl) (q_cons (Pur.pv (q_call (op := bLenA) (q_consT (Pur.pdP (q_varO m1509 rfl)) q_nil) q_lenL)) q_nil) rfl (mk := mI) (t_pick _ _) (fun _ => trivial) (fun a1510 => (s_plugE (plug_asg (plug_def (plug_c2 (Pur.pv (q_var m1509 rfl)) (plug_c2 (Pur.pv (q_var m1509 rfl)) (plug_c2 (Pur.pv (q_var m1509 rfl)) (plug_c2 (Pur.pv (q_var m1509 rfl)) (plug_c1 plug_id))))))) (h_op (Pur.pdP (q_varO m1509 rfl)) (Pur.pd q_cst) (mk := fun x => VD.val ((eKp (e2 eI eI)) x)) p_idxL quit_idx (fun a1511 => (s_plugE (plug_asg plug_id) (h_def (q_cons (Pur.pv (q_var m1509 rfl)) (q_cons (Pur.pv (q_var m1509 rfl)) (q_cons (Pur.pv (q_var m1509 rfl)) (q_cons (Pur.pv (q_var m1509 rfl)) (q_cons (Pur.pv q_cst) q_nil))))) rfl (mk := (fun x => VD.val ((eU eI) x))) (t_fledto_UI_I_UI_I_WPIIe vloops vbound s1485.1 s1502.1 a1511) trivial (fun a1512 => (s_asg (i := 3) m1509 q_cst (fun _ => rfl) (fun r1513 m1514 => (x_nxB (Mat.weak (.keep (.keep (.keep (.keep (.keep (.keep (.keep (.keep (.keep (.fv (.fv (.any .nil)))))))))))) m1514) rfl))))))))))))) (fun _ => (s_pass (x_nxB (Mat.weak (.keep (.keep (.keep (.keep (.keep (.keep (.keep (.keep (.keep (.fv (.fv (.any .nil)))))))))))) m1509) rfl)))))))))))))))))))))))))))))))))))))) (fun s1515 r1516 m1517 => (s_next (s_retV m1517 rfl (fun _ => rfl) (s_fin rfl)))))))))))))))))))))))))))
noncomputable def pisinteger (vthing : Int) : Rt Bool :=
 .ok (true && (!false))
theorem t_pisinteger (vthing : Int) : Sim ET (M_is_integer [eI vthing] none) (pisinteger vthing) (RV (fun x => VD.val (eB x))) :=
 t_run (fun r m => (s_ret (q_and (Pur.pv (q_un (op := (dIsi [] .int)) (Pur.pd (q_var m rfl)) rfl)) (fun _ => (q_not (Pur.pv (q_un (op := (dIsi [] .bool)) (Pur.pd (q_var m rfl)) rfl))))) (fun _ => rfl) (s_fin rfl)))
noncomputable def piswithin (vthing : Int) (vleast : Int) (vmost : Int) : Rt Bool :=
 ((pisinteger vthing).bind fun a1533 =>
 .ok (a1533 && ((decide (vleast ≤ vthing)) && (decide (vthing ≤ vmost)))))
theorem t_piswithin (vthing : Int) (vleast : Int) (vmost : Int) : Sim ET (M_is_within [eI vthing, eI vleast, eI vmost] none) (piswithin vthing vleast vmost) (RV (fun x => VD.val (eB x))) :=
 t_run (fun r m => (s_plugE (plug_ret (plug_and plug_id)) (h_def (q_cons (Pur.pv (q_var m rfl)) q_nil) rfl (mk := (fun x => VD.val (eB x))) (t_pisinteger vthing) trivial (fun a1533 => (s_ret (q_and (Pur.pv q_cst) (fun _ => (q_chain (op := dLe) (op' := dLe) (Pur.pd (q_var m rfl)) (Pur.pd (q_var m rfl)) (Pur.pd (q_var m rfl)) (dLe_ii _ _) (dLe_ii _ _)))) (fun _ => rfl) (s_fin rfl))))))
noncomputable def parewithin_UI_I_I_I (vthing : (List Int)) (vmost : Int) (vleast : Int) (vgreatest : Int) : Rt Bool :=
 (if ((!true) || (decide ((vthing.length : Int) > vmost))) = true then
 .ok false
 else ((mapR (fun x1538 => ((piswithin x1538 vleast vgreatest).bind fun a1541 =>
 .ok a1541)) vthing).bind fun a1542 =>
 .ok (a1542.all id)))
theorem t_parewithin_UI_I_I_I (vthing : (List Int)) (vmost : Int) (vleast : Int) (vgreatest : Int) : Sim ET (M_are_within [(eU eI) vthing, eI vmost, eI vleast, eI vgreatest] none) (parewithin_UI_I_I_I vthing vmost vleast vgreatest) (RV (fun x => VD.val (eB x))) :=
 t_run (fun r m => (s_seq (s_sif (t_pure (q_xor (q_xnot (q_xb (Pur.pv (q_un (op := (dIsi [] .tuple)) (Pur.pd (q_var m rfl)) rfl)))) (fun _ => (q_xb (Pur.pv (q_op (op := dGt) (Pur.pd (q_call (op := bLenA) (q_consT (Pur.pd (q_var m rfl)) q_nil) q_lenU)) (Pur.pd (q_var m rfl)) (dGt_ii _ _)))))) (s_ite (fun _ => (s_ret q_c (fun _ => rfl) (s_fin rfl))) (fun _ => (s_pass (s_next (s_plugE (plug_ret (plug_call (plug_t1 plug_id))) (h_lc m (.f rfl .nil) (q_seqJ (Pur.pd (q_var m rfl)) rfl) (e := eI) (ms := (fun x => [(4, eI x)])) (fun _ => rfl) (e' := eB) (fun x1538 r1539 m1537 => (e_plug plug_id (h_def (q_cons (Pur.pv (q_var m1537 rfl)) (q_cons (Pur.pv (q_var m1537 rfl)) (q_cons (Pur.pv (q_var m1537 rfl)) q_nil))) rfl (mk := (fun x => VD.val (eB x))) (t_piswithin x1538 vleast vgreatest) trivial (fun a1541 => (e_fin (Pur.pv q_cst) rfl))))) (fun a1542 => (s_ret (q_call (op := bAll) (q_consT (Pur.pdO q_cst) q_nil) q_allL) (fun _ => rfl) (s_fin rfl)))))))))))))
noncomputable def pisloops_UI (vthing : (List Int)) : Rt Bool :=
 ((parewithin_UI_I_I_I vthing (8 : Int) (1 : Int) (40 : Int)).bind fun a1544 =>
 .ok (a1544 && (decide ((vthing.length : Int) > (0 : Int)))))
theorem t_pisloops_UI (vthing : (List Int)) : Sim ET (M_is_loops [(eU eI) vthing] none) (pisloops_UI vthing) (RV (fun x => VD.val (eB x))) :=
 t_run (fun r m => (s_plugE (plug_ret (plug_and plug_id)) (h_def (q_cons (Pur.pv (q_var m rfl)) (q_cons (Pur.pv q_c) (q_cons (Pur.pv q_c) (q_cons (Pur.pv q_c) q_nil)))) rfl (mk := (fun x => VD.val (eB x))) (t_parewithin_UI_I_I_I vthing (8 : Int) (1 : Int) (40 : Int)) trivial (fun a1544 => (s_ret (q_and (Pur.pv q_cst) (fun _ => (q_op (op := dGt) (Pur.pd (q_call (op := bLenA) (q_consT (Pur.pd (q_var m rfl)) q_nil) q_lenU)) (Pur.pd q_c) (dGt_ii _ _)))) (fun _ => rfl) (s_fin rfl))))))
noncomputable def pcheckloops_UI (vthing : (List Int)) : Rt Unit :=
 ((pisloops_UI vthing).bind fun a1546 =>
 (if (!a1546) = true then
 .stuck
 else .ok ()))
theorem t_pcheckloops_UI (vthing : (List Int)) : Sim ET (M_check_loops [(eU eI) vthing] none) (pcheckloops_UI vthing) (RV (fun x => VD.val (eN x))) :=
 t_run (fun r m => (s_sif (s_plugE (plug_xnot (plug_xb plug_id)) (h_def (q_cons (Pur.pv (q_var m rfl)) q_nil) rfl (mk := (fun x => VD.val (eB x))) (t_pisloops_UI vthing) trivial (fun a1546 => (t_pure (q_xnot (q_xb (Pur.pv q_cst))) (s_ite (fun _ => trivial) (fun _ => (s_pass (s_fin rfl))))))))))
noncomputable def pcheckcomers (vthing : Int) : Rt Unit :=
 ((piswithin vthing (2 : Int) (4 : Int)).bind fun a1549 =>
 (if (!a1549) = true then
 .stuck
 else .ok ()))
theorem t_pcheckcomers (vthing : Int) : Sim ET (M_check_comers [eI vthing] none) (pcheckcomers vthing) (RV (fun x => VD.val (eN x))) :=
 t_run (fun r m => (s_sif (s_plugE (plug_xnot (plug_xb plug_id)) (h_def (q_cons (Pur.pv (q_var m rfl)) (q_cons (Pur.pv q_c) (q_cons (Pur.pv q_c) q_nil))) rfl (mk := (fun x => VD.val (eB x))) (t_piswithin vthing (2 : Int) (4 : Int)) trivial (fun a1549 => (t_pure (q_xnot (q_xb (Pur.pv q_cst))) (s_ite (fun _ => trivial) (fun _ => (s_pass (s_fin rfl))))))))))
noncomputable def pcheckbound (vthing : Int) : Rt Unit :=
 ((piswithin vthing (1 : Int) (60 : Int)).bind fun a1552 =>
 (if (!a1552) = true then
 .stuck
 else .ok ()))
theorem t_pcheckbound (vthing : Int) : Sim ET (M_check_bound [eI vthing] none) (pcheckbound vthing) (RV (fun x => VD.val (eN x))) :=
 t_run (fun r m => (s_sif (s_plugE (plug_xnot (plug_xb plug_id)) (h_def (q_cons (Pur.pv (q_var m rfl)) (q_cons (Pur.pv q_c) (q_cons (Pur.pv q_c) q_nil))) rfl (mk := (fun x => VD.val (eB x))) (t_piswithin vthing (1 : Int) (60 : Int)) trivial (fun a1552 => (t_pure (q_xnot (q_xb (Pur.pv q_cst))) (s_ite (fun _ => trivial) (fun _ => (s_pass (s_fin rfl))))))))))
noncomputable def pcheckgame_UI_I_I (vloops : (List Int)) (vcomers : Int) (vbound : Int) : Rt Unit :=
 ((pcheckloops_UI vloops).bind fun a1554 =>
 ((pcheckcomers vcomers).bind fun a1555 =>
 ((pcheckbound vbound).bind fun a1556 =>
 .ok ())))
theorem t_pcheckgame_UI_I_I (vloops : (List Int)) (vcomers : Int) (vbound : Int) : Sim ET (M_check_game [(eU eI) vloops, eI vcomers, eI vbound] none) (pcheckgame_UI_I_I vloops vcomers vbound) (RV (fun x => VD.val (eN x))) :=
 t_run (fun r m => (s_seq (s_plugE (plug_drop plug_id) (h_def (q_cons (Pur.pv (q_var m rfl)) q_nil) rfl (mk := (fun x => VD.val (eN x))) (t_pcheckloops_UI vloops) trivial (fun a1554 => (s_drop (Pur.pd q_cst) (s_next (s_seq (s_plugE (plug_drop plug_id) (h_def (q_cons (Pur.pv (q_var m rfl)) q_nil) rfl (mk := (fun x => VD.val (eN x))) (t_pcheckcomers vcomers) trivial (fun a1555 => (s_drop (Pur.pd q_cst) (s_next (s_plugE (plug_drop plug_id) (h_def (q_cons (Pur.pv (q_var m rfl)) q_nil) rfl (mk := (fun x => VD.val (eN x))) (t_pcheckbound vbound) trivial (fun a1556 => (s_drop (Pur.pd q_cst) (s_fin rfl))))))))))))))))))
noncomputable def pisstand_I_UI (vbound : Int) (vthing : (List Int)) : Rt Bool :=
 (if ((!true) || (decide ((vthing.length : Int) > vbound))) = true then
 .ok false
 else ((mapR (fun x1565 => ((piswithin x1565.2 (0 : Int) x1565.1).bind fun a1568 =>
 .ok a1568)) (enuL 0 vthing)).bind fun a1569 =>
 .ok (a1569.all id)))
theorem t_pisstand_I_UI (vbound : Int) (vthing : (List Int)) : Sim ET (M_is_stand [eI vbound, (eU eI) vthing] none) (pisstand_I_UI vbound vthing) (RV (fun x => VD.val (eB x))) :=
 t_run (fun r m => (s_seq (s_sif (t_pure (q_xor (q_xnot (q_xb (Pur.pv (q_un (op := (dIsi [] .tuple)) (Pur.pd (q_var m rfl)) rfl)))) (fun _ => (q_xb (Pur.pv (q_op (op := dGt) (Pur.pd (q_call (op := bLenA) (q_consT (Pur.pd (q_var m rfl)) q_nil) q_lenU)) (Pur.pd (q_var m rfl)) (dGt_ii _ _)))))) (s_ite (fun _ => (s_ret q_c (fun _ => rfl) (s_fin rfl))) (fun _ => (s_pass (s_next (s_plugE (plug_ret (plug_call (plug_t1 plug_id))) (h_lc m (.f rfl (.f rfl .nil)) (q_enJ (e := eI) (Pur.pd (q_var m rfl)) rfl) (e := (e2 eI eI)) (ms := (fun x => [(2, eI x.1), (3, eI x.2)])) (fun _ => rfl) (e' := eB) (fun x1565 r1566 m1564 => (e_plug plug_id (h_def (q_cons (Pur.pv (q_var m1564 rfl)) (q_cons (Pur.pv q_c) (q_cons (Pur.pv (q_var m1564 rfl)) q_nil))) rfl (mk := (fun x => VD.val (eB x))) (t_piswithin x1565.2 (0 : Int) x1565.1) trivial (fun a1568 => (e_fin (Pur.pv q_cst) rfl))))) (fun a1569 => (s_ret (q_call (op := bAll) (q_consT (Pur.pdO q_cst) q_nil) q_allL) (fun _ => rfl) (s_fin rfl)))))))))))))
noncomputable def pchecknumber (vcomers : Int) (vthing : Int) : Rt Unit :=
 ((piswithin vthing (0 : Int) vcomers).bind fun a1572 =>
 (if (!a1572) = true then
 .stuck
 else .ok ()))
theorem t_pchecknumber (vcomers : Int) (vthing : Int) : Sim ET (M_check_number [eI vcomers, eI vthing] none) (pchecknumber vcomers vthing) (RV (fun x => VD.val (eN x))) :=
 t_run (fun r m => (s_sif (s_plugE (plug_xnot (plug_xb plug_id)) (h_def (q_cons (Pur.pv (q_var m rfl)) (q_cons (Pur.pv q_c) (q_cons (Pur.pv (q_var m rfl)) q_nil))) rfl (mk := (fun x => VD.val (eB x))) (t_piswithin vthing (0 : Int) vcomers) trivial (fun a1572 => (t_pure (q_xnot (q_xb (Pur.pv q_cst))) (s_ite (fun _ => trivial) (fun _ => (s_pass (s_fin rfl))))))))))
noncomputable def pcheckstand_UI_I_I_UI_I (vloops : (List Int)) (vcomers : Int) (vbound : Int) (vstand : (List Int)) (vnumber : Int) : Rt Unit :=
 ((pcheckgame_UI_I_I vloops vcomers vbound).bind fun a1574 =>
 ((pisstand_I_UI vbound vstand).bind fun a1575 =>
 (if (!a1575) = true then
 .stuck
 else ((pchecknumber vcomers vnumber).bind fun a1576 =>
 .ok ()))))
theorem t_pcheckstand_UI_I_I_UI_I (vloops : (List Int)) (vcomers : Int) (vbound : Int) (vstand : (List Int)) (vnumber : Int) : Sim ET (M_check_stand [(eU eI) vloops, eI vcomers, eI vbound, (eU eI) vstand, eI vnumber] none) (pcheckstand_UI_I_I_UI_I vloops vcomers vbound vstand vnumber) (RV (fun x => VD.val (eN x))) :=
 t_run (fun r m => (s_seq (s_plugE (plug_drop plug_id) (h_def (q_cons (Pur.pv (q_var m rfl)) (q_cons (Pur.pv (q_var m rfl)) (q_cons (Pur.pv (q_var m rfl)) q_nil))) rfl (mk := (fun x => VD.val (eN x))) (t_pcheckgame_UI_I_I vloops vcomers vbound) trivial (fun a1574 => (s_drop (Pur.pd q_cst) (s_next (s_seq (s_sif (s_plugE (plug_xnot (plug_xb plug_id)) (h_def (q_cons (Pur.pv (q_var m rfl)) (q_cons (Pur.pv (q_var m rfl)) q_nil)) rfl (mk := (fun x => VD.val (eB x))) (t_pisstand_I_UI vbound vstand) trivial (fun a1575 => (t_pure (q_xnot (q_xb (Pur.pv q_cst))) (s_ite (fun _ => trivial) (fun _ => (s_pass (s_next (s_plugE (plug_drop plug_id) (h_def (q_cons (Pur.pv (q_var m rfl)) (q_cons (Pur.pv (q_var m rfl)) q_nil)) rfl (mk := (fun x => VD.val (eN x))) (t_pchecknumber vcomers vnumber) trivial (fun a1576 => (s_drop (Pur.pd q_cst) (s_fin rfl))))))))))))))))))))))
noncomputable def plineof_I_UI_I (vbound : Int) (vstand : (List Int)) (vnumber : Int) : Rt Int :=
 .ok ((vstand.length : Int) + (min vnumber ((vbound + (1 : Int)) - (vstand.length : Int))))
theorem t_plineof_I_UI_I (vbound : Int) (vstand : (List Int)) (vnumber : Int) : Sim ET (M_line_of [eI vbound, (eU eI) vstand, eI vnumber] none) (plineof_I_UI_I vbound vstand vnumber) (RV (fun x => VD.val (eI x))) :=
 t_run (fun r m => (s_ret (q_op (op := dAddA) (Pur.pd (q_call (op := bLenA) (q_consT (Pur.pd (q_var m rfl)) q_nil) q_lenU)) (Pur.pd (q_call (op := bMin) (q_consT (Pur.pd (q_var m rfl)) (q_consT (Pur.pd (q_op (op := dSub) (Pur.pd (q_op (op := dAddA) (Pur.pd (q_var m rfl)) (Pur.pd q_c) rfl)) (Pur.pd (q_call (op := bLenA) (q_consT (Pur.pd (q_var m rfl)) q_nil) q_lenU)) rfl)) q_nil)) q_min2)) rfl) (fun _ => rfl) (s_fin rfl)))
noncomputable def pspread_I_UI_I (vbound : Int) (vstand : (List Int)) (vnumber : Int) : Rt (List Int) :=
 (lete ((((enuL 0 vstand).filter fun x1595 => ((decide (x1595.1 > (0 : Int))) && (decide (x1595.2 = (0 : Int))))).map fun x1595 => x1595.1) : (List Int)) fun vback1597 =>
 ((plineof_I_UI_I vbound vstand vnumber).bind fun a1600 =>
 ((rng (vstand.length : Int) a1600).bind fun xs1601 =>
 ((cat vback1597 ((xs1601.filter fun x1603 => (decide (x1603 > (0 : Int)))).map fun x1603 => x1603)).bind fun a1605 =>
 .ok a1605))))
theorem t_pspread_I_UI_I (vbound : Int) (vstand : (List Int)) (vnumber : Int) : Sim ET (M_spread [eI vbound, (eU eI) vstand, eI vnumber] none) (pspread_I_UI_I vbound vstand vnumber) (RV (fun x => VD.own ((eL eI) x))) :=
 t_run (fun r m => (s_seq (s_asgL (i := 3) m (fun vback1597 => VD.own ((eL eI) vback1597)) (q_lcF m (.f rfl (.f rfl .nil)) (q_enJ (e := eI) (Pur.pd (q_var m rfl)) rfl) (e := (e2 eI eI)) (ms := (fun x => [(4, eI x.1), (5, eI x.2)])) (fun _ => rfl) (cond := fun x1595 => ((decide (x1595.1 > (0 : Int))) && (decide (x1595.2 = (0 : Int))))) (elt := (fun x1595 => x1595.1)) (e' := eI) (fun x1595 r1596 m1594 => (q_xand (q_xb (Pur.pv (q_op (op := dGt) (Pur.pd (q_var m1594 rfl)) (Pur.pd q_c) (dGt_ii _ _)))) (fun _ => (q_xb (Pur.pv (q_op (op := dEq) (Pur.pd (q_var m1594 rfl)) (Pur.pd q_c) (q_eq enc_I x1595.2 (0 : Int) rfl))))))) (fun x1595 r1596 m1594 _ => (Pur.pv (q_var m1594 rfl)))) (fun _ _ => rfl) (fun vback1597 r1598 m1599 => (s_next (s_plugE (plug_ret (plug_op2 (Pur.pdP (q_varO m1599 rfl)) (plug_lc (plug_rng (plug_t2 (Pur.pd (q_call (op := bLenA) (q_consT (Pur.pd (q_var m1599 rfl)) q_nil) q_lenU)) (plug_t1 plug_id)))))) (h_def (q_cons (Pur.pv (q_var m1599 rfl)) (q_cons (Pur.pv (q_var m1599 rfl)) (q_cons (Pur.pv (q_var m1599 rfl)) q_nil))) rfl (mk := (fun x => VD.val (eI x))) (t_plineof_I_UI_I vbound vstand vnumber) trivial (fun a1600 => (s_plugE (plug_ret (plug_op2 (Pur.pdP (q_varO m1599 rfl)) plug_id)) (s_lc1 (h_rng (q_consT (Pur.pd (q_call (op := bLenA) (q_consT (Pur.pd (q_var m1599 rfl)) q_nil) q_lenU)) (q_consT (Pur.pd q_cst) q_nil)) rfl (fun xs1601 => (t_pure (q_lcF m1599 (.f rfl .nil) q_csti (e := eI) (ms := (fun x => [(4, eI x)])) (fun _ => rfl) (cond := fun x1603 => (decide (x1603 > (0 : Int)))) (elt := (fun x1603 => x1603)) (e' := eI) (fun x1603 r1604 m1602 => (q_xb (Pur.pv (q_op (op := dGt) (Pur.pd (q_var m1602 rfl)) (Pur.pd q_c) (dGt_ii _ _))))) (fun x1603 r1604 m1602 _ => (Pur.pv (q_var m1602 rfl)))) (s_plugE (plug_ret plug_id) (h_op (Pur.pdP (q_varO m1599 rfl)) (Pur.pdO q_cst) (mk := (fun x => VD.own ((eL eI) x))) p_catL quit_cat (fun a1605 => (s_ret q_cst (fun _ => rfl) (s_fin rfl))))))))))))))))))
noncomputable def playingsofstand_UI_I_UI_I (vloops : (List Int)) (vbound : Int) (vstand : (List Int)) (vnumber : Int) : Rt (List (List (Int × Int))) :=
 ((pspread_I_UI_I vbound vstand vnumber).bind fun a1917 =>
 ((forS a1917 ([[]] : ((List (List (Int × Int))))) fun x2119 s2118 =>
 ((forS s2118 ([] : ((List (List (Int × Int))))) fun x2186 s2185 =>
 (lete ((x2186.map fun x2190 => x2190.2) : (List Int)) fun vused2192 =>
 ((forS (enuL 0 vloops) (s2185 : ((List (List (Int × Int))))) fun x2203 s2202 =>
 (if ((decide (x2203.2 ≤ x2119)) && (!memB x2203.1 vused2192)) = true then
 ((cat x2186 [(x2119, x2203.1)]).bind fun a2206 =>
 ((push (s2202 : (List (List (Int × Int)))) a2206).bind fun vlonger2207 =>
 .ok vlonger2207))
 else .ok s2202)).bind fun (s2210 : ((List (List (Int × Int))))) =>
 .ok s2210))).bind fun (s2213 : ((List (List (Int × Int))))) =>
 .ok s2213)).bind fun (s2220 : ((List (List (Int × Int))))) =>
 ((srtH (ltP ltI ltI) s2220).bind fun a2223 =>
 .ok a2223)))
theorem t_playingsofstand_UI_I_UI_I (vloops : (List Int)) (vbound : Int) (vstand : (List Int)) (vnumber : Int) : Sim ET (M_layings_of_stand [(eU eI) vloops, eI vbound, (eU eI) vstand, eI vnumber] none) (playingsofstand_UI_I_UI_I vloops vbound vstand vnumber) (RV (fun x => VD.own ((eL (eU (e2 eI eI))) x))) :=
 t_run (fun r m => (s_seq (s_asg (i := 4) m (q_lst (q_cons (Pur.pv (q_tup q_nil rfl)) q_nil) rfl) (fun _ => rfl) (fun r1913 m1914 => (s_next (s_frzO m1914 rfl (fun r1915 m1916 => (s_seq (s_plugE (plug_for (plug_seqI plug_id)) (h_def (q_cons (Pur.pv (q_var m1916 rfl)) (q_cons (Pur.pv (q_var m1916 rfl)) (q_cons (Pur.pv (q_var m1916 rfl)) q_nil))) rfl (mk := (fun x => VD.own ((eL eI) x))) (t_pspread_I_UI_I vbound vstand vnumber) trivial (fun a1917 => (s_forS (fun (s2118 : ((List (List (Int × Int))))) => [iv ((eU eI) vloops), iv (eI vbound), iv ((eU eI) vstand), iv (eI vnumber), iv ((eL (eU (e2 eI eI))) s2118), .free, .free, .free, .any, .free, .free, .free]) (fun _ => (none : Tp)) ([[]] : ((List (List (Int × Int))))) rfl (Mat.weak (.keep (.keep (.keep (.keep (.keep (.keep (.keep (.keep (.any (.keep (.keep (.keep .nil)))))))))))) m1916) (q_seqI (Pur.pvO q_cst) rfl) (e := eI) (ms := (fun x => [(5, eI x)])) (fun _ => rfl) (fun x2119 s2118 r2120 m2121 => (s_seq (s_asg (i := 6) m2121 (q_lst q_nil rfl) (fun _ => rfl) (fun r2122 m2123 => (s_next (s_frzV m2123 rfl (s_seq (s_forS (fun (s2185 : ((List (List (Int × Int))))) => [iv ((eU eI) vloops), iv (eI vbound), iv ((eU eI) vstand), iv (eI vnumber), iv ((eL (eU (e2 eI eI))) s2118), iv (eI x2119), io ((eL (eU (e2 eI eI))) s2185), .free, .any, .free, .free, .free]) (fun _ => (none : Tp)) ([] : ((List (List (Int × Int))))) rfl (Mat.weak (.keep (.keep (.keep (.keep (.keep (.keep (.keep (.keep (.any (.keep (.keep (.keep .nil)))))))))))) m2123) (q_seqI (Pur.pv (q_var m2123 rfl)) rfl) (e := (eU (e2 eI eI))) (ms := (fun x => [(7, (eU (e2 eI eI)) x)])) (fun _ => rfl) (fun x2186 s2185 r2187 m2188 => (s_seq (s_asgL (i := 8) m2188 (fun vused2192 => VD.own ((eL eI) vused2192)) (q_lc m2188 (.f rfl (.f rfl .nil)) (q_seqJ (Pur.pd (q_var m2188 rfl)) rfl) (e := (e2 eI eI)) (ms := (fun x => [(11, eI x.1), (9, eI x.2)])) (fun _ => rfl) (elt := (fun x2190 => x2190.2)) (e' := eI) (fun x2190 r2191 m2189 => (Pur.pv (q_var m2189 rfl)))) (fun _ _ => rfl) (fun vused2192 r2193 m2194 => (s_next (s_forS (fun (s2202 : ((List (List (Int × Int))))) => [iv ((eU eI) vloops), iv (eI vbound), iv ((eU eI) vstand), iv (eI vnumber), iv ((eL (eU (e2 eI eI))) s2118), iv (eI x2119), io ((eL (eU (e2 eI eI))) s2202), iv ((eU (e2 eI eI)) x2186), io ((eL eI) vused2192), .free, .free, .free]) (fun _ => (none : Tp)) (s2185 : ((List (List (Int × Int))))) rfl (Mat.weak (.keep (.keep (.keep (.keep (.keep (.keep (.keep (.keep (.keep (.keep (.keep (.keep .nil)))))))))))) m2194) (q_enI (e := eI) (Pur.pv (q_var m2194 rfl)) rfl) (e := (e2 eI eI)) (ms := (fun x => [(9, eI x.1), (10, eI x.2)])) (fun _ => rfl) (fun x2203 s2202 r2204 m2205 => (s_sif (t_pure (q_xand (q_xb (Pur.pv (q_op (op := dLe) (Pur.pd (q_var m2205 rfl)) (Pur.pd (q_var m2205 rfl)) (dLe_ii _ _)))) (fun _ => (q_xb (Pur.pv (q_op (op := dNinA) (Pur.pd (q_var m2205 rfl)) (Pur.pdP (q_varO m2205 rfl)) (q_ninL enc_I x2203.1 vused2192 rfl)))))) (s_ite (fun _ => (s_dropM (s_plugE (plug_mut (i := 6) m2205 rfl rfl (plug_c1 plug_id)) (h_op (Pur.pd (q_var m2205 rfl)) (Pur.pd (q_tup (q_cons (Pur.pv (q_tup (q_cons (Pur.pv (q_var m2205 rfl)) (q_cons (Pur.pv (q_var m2205 rfl)) q_nil)) rfl)) q_nil) rfl)) (mk := (fun x => VD.val ((eU (e2 eI eI)) x))) p_catU quit_cat (fun a2206 => (m_mut (i := 6) m2205 rfl rfl (q_cons (Pur.pv q_cst) q_nil) (dn := (eL (eU (e2 eI eI)))) (xv := fun _ => D.non) (p_push (e := (eU (e2 eI eI)))) quit_push (fun vlonger2207 r2208 m2209 => (x_nx (Mat.weak (.keep (.keep (.keep (.keep (.keep (.keep (.keep (.keep (.keep (.fv (.fv (.keep .nil)))))))))))) m2209) rfl)))))))) (fun _ => (s_pass (x_nx (Mat.weak (.keep (.keep (.keep (.keep (.keep (.keep (.keep (.keep (.keep (.fv (.fv (.keep .nil)))))))))))) m2205) rfl))))))) (fun s2210 r2211 m2212 => (x_nx (Mat.weak (.keep (.keep (.keep (.keep (.keep (.keep (.keep (.fv (.any (.keep (.keep (.keep .nil)))))))))))) m2212) rfl)))))))) (fun s2213 r2214 m2215 => (s_next (s_frzO m2215 rfl (fun r2216 m2217 => (s_asg (i := 4) m2217 (q_var m2217 rfl) (fun _ => rfl) (fun r2218 m2219 => (x_nx (Mat.weak (.keep (.keep (.keep (.keep (.keep (.fv (.fv (.keep (.any (.keep (.keep (.keep .nil)))))))))))) m2219) rfl))))))))))))))) (fun s2220 r2221 m2222 => (s_next (s_plugE (plug_ret plug_id) (h_call (op := bSortB) (q_consT (Pur.pd (q_var m2222 rfl)) q_nil) (mk := fun x => VD.own ((eL (eU (e2 eI eI))) x)) (p_srtH (ord_2 ord_I ord_I lin_I) _ rfl) quit_srtH (fun a2223 => (s_ret q_cst (fun _ => rfl) (s_fin rfl)))))))))))))))))))
noncomputable def playingsout_UI_I_I_UI_I (vloops : (List Int)) (vcomers : Int) (vbound : Int) (vstand : (List Int)) (vnumber : Int) : Rt (List (List (Int × Int))) :=
 ((pcheckstand_UI_I_I_UI_I vloops vcomers vbound vstand vnumber).bind fun a2225 =>
 ((playingsofstand_UI_I_UI_I vloops vbound vstand vnumber).bind fun a2226 =>
 .ok a2226))
theorem t_playingsout_UI_I_I_UI_I (vloops : (List Int)) (vcomers : Int) (vbound : Int) (vstand : (List Int)) (vnumber : Int) : Sim ET (M_layings_out [(eU eI) vloops, eI vcomers, eI vbound, (eU eI) vstand, eI vnumber] none) (playingsout_UI_I_I_UI_I vloops vcomers vbound vstand vnumber) (RV (fun x => VD.own ((eL (eU (e2 eI eI))) x))) :=
 t_run (fun r m => (s_seq (s_plugE (plug_drop plug_id) (h_def (q_cons (Pur.pv (q_var m rfl)) (q_cons (Pur.pv (q_var m rfl)) (q_cons (Pur.pv (q_var m rfl)) (q_cons (Pur.pv (q_var m rfl)) (q_cons (Pur.pv (q_var m rfl)) q_nil))))) rfl (mk := (fun x => VD.val (eN x))) (t_pcheckstand_UI_I_I_UI_I vloops vcomers vbound vstand vnumber) trivial (fun a2225 => (s_drop (Pur.pd q_cst) (s_next (s_plugE (plug_ret plug_id) (h_def (q_cons (Pur.pv (q_var m rfl)) (q_cons (Pur.pv (q_var m rfl)) (q_cons (Pur.pv (q_var m rfl)) (q_cons (Pur.pv (q_var m rfl)) q_nil)))) rfl (mk := (fun x => VD.own ((eL (eU (e2 eI eI))) x))) (t_playingsofstand_UI_I_UI_I vloops vbound vstand vnumber) trivial (fun a2226 => (s_ret q_cst (fun _ => rfl) (s_fin rfl))))))))))))
noncomputable def fis : Nat → Int → Int → Rt Bool
 | 0, _, _ => .stuck
 | q + 1, vtold, vdue =>
 (if false = true then
 (if ((!decide (false = false)) || (!false)) = true then
 .ok false
 else .stuck)
 else .ok ((decide (false = false)) && (decide (vtold = vdue))))
theorem t_fis : ∀ (q : Nat) (vtold : Int) (vdue : Int), Sim ET (M__law_is q [eI vtold, eI vdue] none) (fis q vtold vdue) (RV (fun x => VD.val (eB x)))
 | 0, _, _ => trivial
 | q + 1, vtold, vdue => t_run (fun r m => (s_seq (s_sif (t_pure (q_xb (Pur.pv (q_un (op := (dIsi2 [] .tuple .list)) (Pur.pd (q_var m rfl)) rfl))) (s_ite (fun _ => (s_seq (s_sif (t_pure (q_xor (q_xb (Pur.pv (q_op (op := dNe) (Pur.pd (q_un (op := (dIsi [] .tuple)) (Pur.pd (q_var m rfl)) rfl)) (Pur.pd (q_un (op := (dIsi [] .tuple)) (Pur.pd (q_var m rfl)) rfl)) (q_ne enc_B false false rfl)))) (fun _ => (q_xnot (q_xb (Pur.pv (q_un (op := (dIsi2 [] .tuple .list)) (Pur.pd (q_var m rfl)) rfl)))))) (s_ite (fun _ => (s_ret q_c (fun _ => rfl) (s_fin rfl))) (fun _ => (s_pass (s_next s_stk)))))))) (fun _ => (s_pass (s_next (s_ret (q_and (Pur.pv (q_op (op := dEq) (Pur.pd (q_un (op := (dIsi [] .bool)) (Pur.pd (q_var m rfl)) rfl)) (Pur.pd (q_un (op := (dIsi [] .bool)) (Pur.pd (q_var m rfl)) rfl)) (q_eq enc_B false false rfl))) (fun _ => (q_op (op := dEq) (Pur.pd (q_var m rfl)) (Pur.pd (q_var m rfl)) (q_eq enc_I vtold vdue rfl)))) (fun _ => rfl) (s_fin rfl))))))))))
noncomputable def fis_PIIe_PIIe : Nat → (Int × Int) → (Int × Int) → Rt Bool
 | 0, _, _ => .stuck
 | q + 1, vtold, vdue =>
 (if true = true then
 (if ((!decide (true = true)) || (!true)) = true then
 .ok false
 else (((if (decide ((2 : Int) = (2 : Int))) = true then ((mapR (fun x2254 => ((fis q x2254.1 x2254.2).bind fun a2257 =>
 .ok a2257)) ([vtold.1, vtold.2].zip [vdue.1, vdue.2])).bind fun a2258 =>
 .ok (a2258.all id)) else .ok false)).bind fun a2259 =>
 .ok a2259))
 else .ok ((decide (false = false)) && (decide (vtold = vdue))))
theorem t_fis_PIIe_PIIe : ∀ (q : Nat) (vtold : (Int × Int)) (vdue : (Int × Int)), Sim ET (M__law_is q [(e2 eI eI) vtold, (e2 eI eI) vdue] none) (fis_PIIe_PIIe q vtold vdue) (RV (fun x => VD.val (eB x)))
 | 0, _, _ => trivial
 | q + 1, vtold, vdue => t_run (fun r m => (s_seq (s_sif (t_pure (q_xb (Pur.pv (q_un (op := (dIsi2 [] .tuple .list)) (Pur.pd (q_var m rfl)) rfl))) (s_ite (fun _ => (s_seq (s_sif (t_pure (q_xor (q_xb (Pur.pv (q_op (op := dNe) (Pur.pd (q_un (op := (dIsi [] .tuple)) (Pur.pd (q_var m rfl)) rfl)) (Pur.pd (q_un (op := (dIsi [] .tuple)) (Pur.pd (q_var m rfl)) rfl)) (q_ne enc_B true true rfl)))) (fun _ => (q_xnot (q_xb (Pur.pv (q_un (op := (dIsi2 [] .tuple .list)) (Pur.pd (q_var m rfl)) rfl)))))) (s_ite (fun _ => (s_ret q_c (fun _ => rfl) (s_fin rfl))) (fun _ => (s_pass (s_next (s_plugE (plug_ret plug_id) (h_and (Pur.pv (q_op (op := dEq) (Pur.pd (q_call (op := bLenA) (q_consT (Pur.pd (q_var m rfl)) q_nil) rfl)) (Pur.pd (q_call (op := bLenA) (q_consT (Pur.pd (q_var m rfl)) q_nil) rfl)) (q_eq enc_I (2 : Int) (2 : Int) rfl))) (fun _ => (s_plugE (plug_call (plug_t1 plug_id)) (h_lc m (.f rfl (.f rfl .nil)) (q_zipJB (Pur.pd (q_var m rfl)) (Pur.pd (q_var m rfl)) (zipRB_of (xs := [vtold.1, vtold.2]) (ys := [vdue.1, vdue.2]) (e := eI) (f := eI) rfl rfl)) (e := (e2 eI eI)) (ms := (fun x => [(2, eI x.1), (3, eI x.2)])) (fun _ => rfl) (e' := eB) (fun x2254 r2255 m2253 => (e_plug plug_id (h_def (q_cons (Pur.pv (q_var m2253 rfl)) (q_cons (Pur.pv (q_var m2253 rfl)) q_nil)) rfl (mk := (fun x => VD.val (eB x))) (t_fis q x2254.1 x2254.2) trivial (fun a2257 => (e_fin (Pur.pv q_cst) rfl))))) (fun a2258 => (t_pure (q_call (op := bAll) (q_consT (Pur.pdO q_cst) q_nil) q_allL) (s_fin rfl)))))) (fun a2259 => (s_ret q_cst (fun _ => rfl) (s_fin rfl))))))))))))) (fun _ => (s_pass (s_next (s_ret (q_and (Pur.pv (q_op (op := dEq) (Pur.pd (q_un (op := (dIsi [] .bool)) (Pur.pd (q_var m rfl)) rfl)) (Pur.pd (q_un (op := (dIsi [] .bool)) (Pur.pd (q_var m rfl)) rfl)) (q_eq enc_B false false rfl))) (fun _ => (q_op (op := dEq) (Pur.pd (q_var m rfl)) (Pur.pd (q_var m rfl)) (q_eq (enc_2 enc_I enc_I) vtold vdue rfl)))) (fun _ => rfl) (s_fin rfl))))))))))
noncomputable def fis_UPIIe_WPIIe : Nat → (List (Int × Int)) → (List (Int × Int)) → Rt Bool
 | 0, _, _ => .stuck
 | q + 1, vtold, vdue =>
 (if true = true then
 (if ((!decide (true = true)) || (!true)) = true then
 .ok false
 else (((if (decide ((vtold.length : Int) = (vdue.length : Int))) = true then ((mapR (fun x2275 => ((fis_PIIe_PIIe q x2275.1 x2275.2).bind fun a2278 =>
 .ok a2278)) (vtold.zip vdue)).bind fun a2279 =>
 .ok (a2279.all id)) else .ok false)).bind fun a2280 =>
 .ok a2280))
 else .ok ((decide (false = false)) && (decide (vtold = vdue))))
theorem t_fis_UPIIe_WPIIe : ∀ (q : Nat) (vtold : (List (Int × Int))) (vdue : (List (Int × Int))), Sim ET (M__law_is q [(eU (e2 eI eI)) vtold, (eKp (e2 eI eI)) vdue] none) (fis_UPIIe_WPIIe q vtold vdue) (RV (fun x => VD.val (eB x)))
 | 0, _, _ => trivial
 | q + 1, vtold, vdue => t_run (fun r m => (s_seq (s_sif (t_pure (q_xb (Pur.pv (q_un (op := (dIsi2 [] .tuple .list)) (Pur.pd (q_var m rfl)) rfl))) (s_ite (fun _ => (s_seq (s_sif (t_pure (q_xor (q_xb (Pur.pv (q_op (op := dNe) (Pur.pd (q_un (op := (dIsi [] .tuple)) (Pur.pd (q_var m rfl)) rfl)) (Pur.pd (q_un (op := (dIsi [] .tuple)) (Pur.pd (q_var m rfl)) rfl)) (q_ne enc_B true true rfl)))) (fun _ => (q_xnot (q_xb (Pur.pv (q_un (op := (dIsi2 [] .tuple .list)) (Pur.pd (q_var m rfl)) rfl)))))) (s_ite (fun _ => (s_ret q_c (fun _ => rfl) (s_fin rfl))) (fun _ => (s_pass (s_next (s_plugE (plug_ret plug_id) (h_and (Pur.pv (q_op (op := dEq) (Pur.pd (q_call (op := bLenA) (q_consT (Pur.pd (q_var m rfl)) q_nil) q_lenU)) (Pur.pd (q_call (op := bLenA) (q_consT (Pur.pd (q_var m rfl)) q_nil) q_lenW)) (q_eq enc_I (vtold.length : Int) (vdue.length : Int) rfl))) (fun _ => (s_plugE (plug_call (plug_t1 plug_id)) (h_lc m (.f rfl (.f rfl .nil)) (q_zipJB (Pur.pd (q_var m rfl)) (Pur.pd (q_var m rfl)) (zipRB_of (xs := vtold) (ys := vdue) (e := (e2 eI eI)) (f := (e2 eI eI)) rfl rfl)) (e := (e2 (e2 eI eI) (e2 eI eI))) (ms := (fun x => [(2, (e2 eI eI) x.1), (3, (e2 eI eI) x.2)])) (fun _ => rfl) (e' := eB) (fun x2275 r2276 m2274 => (e_plug plug_id (h_def (q_cons (Pur.pv (q_var m2274 rfl)) (q_cons (Pur.pv (q_var m2274 rfl)) q_nil)) rfl (mk := (fun x => VD.val (eB x))) (t_fis_PIIe_PIIe q x2275.1 x2275.2) trivial (fun a2278 => (e_fin (Pur.pv q_cst) rfl))))) (fun a2279 => (t_pure (q_call (op := bAll) (q_consT (Pur.pdO q_cst) q_nil) q_allL) (s_fin rfl)))))) (fun a2280 => (s_ret q_cst (fun _ => rfl) (s_fin rfl))))))))))))) (fun _ => (s_pass (s_next (s_ret (q_and (Pur.pv (q_op (op := dEq) (Pur.pd (q_un (op := (dIsi [] .bool)) (Pur.pd (q_var m rfl)) rfl)) (Pur.pd (q_un (op := (dIsi [] .bool)) (Pur.pd (q_var m rfl)) rfl)) (q_eq enc_B false false rfl))) (fun _ => (q_op (op := dEq) (Pur.pd (q_var m rfl)) (Pur.pd (q_var m rfl)) (q_eqS (enc_U (enc_2 enc_I enc_I)) (enc_W (enc_2 enc_I enc_I)) samePy_UW vtold vdue rfl rfl)))) (fun _ => rfl) (s_fin rfl))))))))))
noncomputable def fis_LUPIIe_LWPIIe : Nat → (List (List (Int × Int))) → (List (List (Int × Int))) → Rt Bool
 | 0, _, _ => .stuck
 | q + 1, vtold, vdue =>
 (if true = true then
 (if ((!decide (false = false)) || (!true)) = true then
 .ok false
 else (((if (decide ((vtold.length : Int) = (vdue.length : Int))) = true then ((mapR (fun x2296 => ((fis_UPIIe_WPIIe q x2296.1 x2296.2).bind fun a2299 =>
 .ok a2299)) (vtold.zip vdue)).bind fun a2300 =>
 .ok (a2300.all id)) else .ok false)).bind fun a2301 =>
 .ok a2301))
 else .ok ((decide (false = false)) && (decide (vtold = vdue))))
theorem t_fis_LUPIIe_LWPIIe : ∀ (q : Nat) (vtold : (List (List (Int × Int)))) (vdue : (List (List (Int × Int)))), Sim ET (M__law_is q [(eL (eU (e2 eI eI))) vtold, (eL (eKp (e2 eI eI))) vdue] none) (fis_LUPIIe_LWPIIe q vtold vdue) (RV (fun x => VD.val (eB x)))
 | 0, _, _ => trivial
 | q + 1, vtold, vdue => t_run (fun r m => (s_seq (s_sif (t_pure (q_xb (Pur.pv (q_un (op := (dIsi2 [] .tuple .list)) (Pur.pd (q_var m rfl)) rfl))) (s_ite (fun _ => (s_seq (s_sif (t_pure (q_xor (q_xb (Pur.pv (q_op (op := dNe) (Pur.pd (q_un (op := (dIsi [] .tuple)) (Pur.pd (q_var m rfl)) rfl)) (Pur.pd (q_un (op := (dIsi [] .tuple)) (Pur.pd (q_var m rfl)) rfl)) (q_ne enc_B false false rfl)))) (fun _ => (q_xnot (q_xb (Pur.pv (q_un (op := (dIsi2 [] .tuple .list)) (Pur.pd (q_var m rfl)) rfl)))))) (s_ite (fun _ => (s_ret q_c (fun _ => rfl) (s_fin rfl))) (fun _ => (s_pass (s_next (s_plugE (plug_ret plug_id) (h_and (Pur.pv (q_op (op := dEq) (Pur.pd (q_call (op := bLenA) (q_consT (Pur.pd (q_var m rfl)) q_nil) q_lenL)) (Pur.pd (q_call (op := bLenA) (q_consT (Pur.pd (q_var m rfl)) q_nil) q_lenL)) (q_eq enc_I (vtold.length : Int) (vdue.length : Int) rfl))) (fun _ => (s_plugE (plug_call (plug_t1 plug_id)) (h_lc m (.f rfl (.f rfl .nil)) (q_zipJB (Pur.pd (q_var m rfl)) (Pur.pd (q_var m rfl)) (zipRB_of (xs := vtold) (ys := vdue) (e := (eU (e2 eI eI))) (f := (eKp (e2 eI eI))) rfl rfl)) (e := (e2 (eU (e2 eI eI)) (eKp (e2 eI eI)))) (ms := (fun x => [(2, (eU (e2 eI eI)) x.1), (3, (eKp (e2 eI eI)) x.2)])) (fun _ => rfl) (e' := eB) (fun x2296 r2297 m2295 => (e_plug plug_id (h_def (q_cons (Pur.pv (q_var m2295 rfl)) (q_cons (Pur.pv (q_var m2295 rfl)) q_nil)) rfl (mk := (fun x => VD.val (eB x))) (t_fis_UPIIe_WPIIe q x2296.1 x2296.2) trivial (fun a2299 => (e_fin (Pur.pv q_cst) rfl))))) (fun a2300 => (t_pure (q_call (op := bAll) (q_consT (Pur.pdO q_cst) q_nil) q_allL) (s_fin rfl)))))) (fun a2301 => (s_ret q_cst (fun _ => rfl) (s_fin rfl))))))))))))) (fun _ => (s_pass (s_next (s_ret (q_and (Pur.pv (q_op (op := dEq) (Pur.pd (q_un (op := (dIsi [] .bool)) (Pur.pd (q_var m rfl)) rfl)) (Pur.pd (q_un (op := (dIsi [] .bool)) (Pur.pd (q_var m rfl)) rfl)) (q_eq enc_B false false rfl))) (fun _ => (q_op (op := dEq) (Pur.pd (q_var m rfl)) (Pur.pd (q_var m rfl)) (q_eqS (enc_L (enc_U (enc_2 enc_I enc_I))) (enc_L (enc_W (enc_2 enc_I enc_I))) (samePy_L samePy_UW) vtold vdue rfl rfl)))) (fun _ => rfl) (s_fin rfl))))))))))
noncomputable def fshuffled (vmany : Int) (T : Tp) : Rt ((List Int) × Tp) :=
 ((rng (0 : Int) vmany).bind fun xs2342 =>
 ((forS xs2342 (([], T) : ((List Int) × Tp)) fun x2358 s2357 =>
 ((pick ((s2357.1.length : Int) + (1 : Int)) s2357.2).bind fun a2361 =>
 ((insAt (s2357.1 : (List Int)) a2361.1 x2358).bind fun vfound2362 =>
 .ok (vfound2362, a2361.2)))).bind fun (s2365 : ((List Int) × Tp)) =>
 .ok (s2365.1, s2365.2)))
theorem t_fshuffled (vmany : Int) (T : Tp) : Sim ET (M__law_shuffled [eI vmany] T) (fshuffled vmany T) (RT (fun x => VD.own ((eL eI) x))) :=
 t_run (fun r m => (s_seq (s_asg (i := 2) m (q_lst q_nil rfl) (fun _ => rfl) (fun r2340 m2341 => (s_next (s_seq (s_for1 (h_rng (q_consT (Pur.pd (q_var m2341 rfl)) q_nil) rfl (fun xs2342 => (s_forS (fun (s2357 : ((List Int) × Tp)) => [.is .tape, iv (eI vmany), io ((eL eI) s2357.1), .free]) (fun s2357 => s2357.2) (([], T) : ((List Int) × Tp)) rfl (Mat.weak (.keep (.keep (.keep (.keep .nil)))) m2341) q_csti (e := eI) (ms := (fun x => [(3, eI x)])) (fun _ => rfl) (fun x2358 s2357 r2359 m2360 => (s_dropM (s_plugE (plug_mut (i := 2) m2360 rfl rfl (plug_c1 plug_id)) (h_defT (Mat.get m2360 rfl) (q_cons (Pur.pv (q_op (op := dAddA) (Pur.pd (q_call (op := bLenA) (q_consT (Pur.pdP (q_varO m2360 rfl)) q_nil) q_lenL)) (Pur.pd q_c) rfl)) q_nil) rfl (mk := mI) (t_pick _ _) (fun _ => trivial) (fun a2361 => (m_mut (i := 2) m2360 rfl rfl (q_cons (Pur.pv q_cst) (q_cons (Pur.pv (q_var m2360 rfl)) q_nil)) (dn := (eL eI)) (xv := fun _ => D.non) (p_insAt (e := eI)) quit_insAt (fun vfound2362 r2363 m2364 => (x_nx (Mat.weak (.keep (.keep (.keep (.fv .nil)))) m2364) rfl)))))))) (fun s2365 r2366 m2367 => (s_next (s_retV m2367 rfl (fun _ => rfl) (s_fin rfl))))))))))))))
noncomputable def fturned_UI_I_I_UI_I_LWPIIe_LI (vloops : (List Int)) (vcomers : Int) (vbound : Int) (vstandhere : (List Int)) (vnumber : Int) (vdue : (List (List (Int × Int)))) (vorder : (List Int)) : Rt Bool :=
 ((mapR (fun x2426 => ((idx vloops x2426).bind fun a2429 =>
 .ok a2429)) vorder).bind fun a2430 =>
 ((playingsout_UI_I_I_UI_I a2430 vcomers vbound vstandhere vnumber).bind fun a2435 =>
 ((forS a2435 ([] : ((List (List (Int × Int))))) fun x2461 s2460 =>
 ((mapR (fun x2465 => ((idx vorder x2465.2).bind fun a2468 =>
 .ok (x2465.1, a2468))) x2461).bind fun a2469 =>
 ((push (s2460 : (List (List (Int × Int)))) a2469).bind fun vfound2470 =>
 .ok vfound2470))).bind fun (s2473 : ((List (List (Int × Int))))) =>
 ((srtH (ltP ltI ltI) s2473).bind fun a2476 =>
 .ok (decide (a2476 = vdue))))))
theorem t_fturned_UI_I_I_UI_I_LWPIIe_LI (vloops : (List Int)) (vcomers : Int) (vbound : Int) (vstandhere : (List Int)) (vnumber : Int) (vdue : (List (List (Int × Int)))) (vorder : (List Int)) : Sim ET (M__law_turned [(eU eI) vloops, eI vcomers, eI vbound, (eU eI) vstandhere, eI vnumber, (eL (eKp (e2 eI eI))) vdue, (eL eI) vorder] none) (fturned_UI_I_I_UI_I_LWPIIe_LI vloops vcomers vbound vstandhere vnumber vdue vorder) (RV (fun x => VD.val (eB x))) :=
 t_run (fun r m => (s_seq (s_plugE (plug_asg (plug_call (plug_t1 plug_id))) (h_lc m (.f rfl .nil) (q_seqJ (Pur.pd (q_var m rfl)) rfl) (e := eI) (ms := (fun x => [(10, eI x)])) (fun _ => rfl) (e' := eI) (fun x2426 r2427 m2425 => (e_plug plug_id (h_op (Pur.pd (q_var m2425 rfl)) (Pur.pd (q_var m2425 rfl)) (mk := fun x => VD.val (eI x)) p_idxU quit_idx (fun a2429 => (e_fin (Pur.pv q_cst) rfl))))) (fun a2430 => (s_asg (i := 7) m (q_call (op := bTuple) (q_consT (Pur.pdO q_cst) q_nil) rfl) (fun _ => rfl) (fun r2431 m2432 => (s_next (s_seq (s_asg (i := 8) m2432 (q_lst q_nil rfl) (fun _ => rfl) (fun r2433 m2434 => (s_next (s_seq (s_plugE (plug_for (plug_seqI plug_id)) (h_def (q_cons (Pur.pv (q_var m2434 rfl)) (q_cons (Pur.pv (q_var m2434 rfl)) (q_cons (Pur.pv (q_var m2434 rfl)) (q_cons (Pur.pv (q_var m2434 rfl)) (q_cons (Pur.pv (q_var m2434 rfl)) q_nil))))) rfl (mk := (fun x => VD.own ((eL (eU (e2 eI eI))) x))) (t_playingsout_UI_I_I_UI_I a2430 vcomers vbound vstandhere vnumber) trivial (fun a2435 => (s_forS (fun (s2460 : ((List (List (Int × Int))))) => [iv ((eU eI) vloops), iv (eI vcomers), iv (eI vbound), iv ((eU eI) vstandhere), iv (eI vnumber), iv ((eL (eKp (e2 eI eI))) vdue), iv ((eL eI) vorder), iv ((eU eI) a2430), io ((eL (eU (e2 eI eI))) s2460), .free, .free, .free, .free]) (fun _ => (none : Tp)) ([] : ((List (List (Int × Int))))) rfl (Mat.weak (.keep (.keep (.keep (.keep (.keep (.keep (.keep (.keep (.keep (.keep (.keep (.keep (.keep .nil))))))))))))) m2434) (q_seqI (Pur.pvO q_cst) rfl) (e := (eU (e2 eI eI))) (ms := (fun x => [(9, (eU (e2 eI eI)) x)])) (fun _ => rfl) (fun x2461 s2460 r2462 m2463 => (s_dropM (s_plugE (plug_mut (i := 8) m2463 rfl rfl (plug_c1 (plug_call (plug_t1 plug_id)))) (h_lc m2463 (.f rfl (.f rfl .nil)) (q_seqJ (Pur.pd (q_var m2463 rfl)) rfl) (e := (e2 eI eI)) (ms := (fun x => [(11, eI x.1), (12, eI x.2)])) (fun _ => rfl) (e' := (e2 eI eI)) (fun x2465 r2466 m2464 => (e_plug (plug_tup (plug_c2 (Pur.pv (q_var m2464 rfl)) (plug_c1 plug_id))) (h_op (Pur.pd (q_var m2464 rfl)) (Pur.pd (q_var m2464 rfl)) (mk := fun x => VD.val (eI x)) p_idxL quit_idx (fun a2468 => (e_fin (Pur.pv (q_tup (q_cons (Pur.pv (q_var m2464 rfl)) (q_cons (Pur.pv q_cst) q_nil)) rfl)) rfl))))) (fun a2469 => (m_mut (i := 8) m2463 rfl rfl (q_cons (Pur.pv (q_call (op := bTuple) (q_consT (Pur.pdO q_cst) q_nil) rfl)) q_nil) (dn := (eL (eU (e2 eI eI)))) (xv := fun _ => D.non) (p_push (e := (eU (e2 eI eI)))) quit_push (fun vfound2470 r2471 m2472 => (x_nx (Mat.weak (.keep (.keep (.keep (.keep (.keep (.keep (.keep (.keep (.keep (.fv (.keep (.keep (.keep .nil))))))))))))) m2472) rfl)))))))) (fun s2473 r2474 m2475 => (s_next (s_plugE (plug_ret (plug_op1 plug_id)) (h_call (op := bSortB) (q_consT (Pur.pdP (q_varO m2475 rfl)) q_nil) (mk := fun x => VD.own ((eL (eU (e2 eI eI))) x)) (p_srtH (ord_2 ord_I ord_I lin_I) _ rfl) quit_srtH (fun a2476 => (s_ret (q_op (op := dEq) (Pur.pdO q_cst) (Pur.pd (q_var m2475 rfl)) (q_eqS (enc_L (enc_U (enc_2 enc_I enc_I))) (enc_L (enc_W (enc_2 enc_I enc_I))) (samePy_L samePy_UW) a2476 vdue rfl rfl)) (fun _ => rfl) (s_fin rfl))))))))))))))))))))))))
noncomputable def gr_law : DS := (sSeq (sFor (iRng (aConsT (eC (.int 4)) aNil)) (gN 2)
 (sSeq (sAsgG (gT 3 [(gN 3), (gN 4), (gN 5)]) (eDefT 1 1 M__law_game aNil))
 (sSeq (sAsg 6 (eDefT 1 3 M__law_stand (aCons (eVar 3) (aCons (eVar 5) aNil))))
 (sFor (iRng (aConsT (eOp dAddA (eVar 4) (eC (.int 1))) aNil)) (gN 7)
 (sSeq (sIf (xAnd (xB (eOp dGt (eCall bLenA (aConsT (eDef 3 M__law_at_switch (aCons (eVar 5) (aCons (eVar 6) (aCons (eVar 7) aNil)))) aNil)) (eC (.int 4)))) (xB (eOp dGt (eCall bLenA (aConsT (eVar 3) aNil)) (eC (.int 5)))))
 sCt
 sPass)
 (sSeq (sAsg 8 (eDef 4 M__law_all_layings (aCons (eVar 3) (aCons (eVar 5) (aCons (eVar 6) (aCons (eVar 7) aNil))))))
 (sSeq (sAsg 9 (eDef 5 M_layings_out (aCons (eVar 3) (aCons (eVar 4) (aCons (eVar 5) (aCons (eVar 6) (aCons (eVar 7) aNil)))))))
 (sSeq (sIf (xOr (xNot (xB (eUn (dIsi [] .list) (eVar 9)))) (xNot (xB (eDefB 2 (M__law_is 40) (aConsT (eVar 9) (aConsT (eVar 8) aNil))))))
 (sRet (eC (.bl false)))
 sPass)
 (sSeq (sDropM (eMut 9 isLst mAppend (aCons (eC .non) aNil)))
 (sFrz 8 (sSeq (sIf (xNot (xB (eDef 2 (M__law_is 40) (aCons (eDef 5 M_layings_out (aCons (eVar 3) (aCons (eVar 4) (aCons (eVar 5) (aCons (eVar 6) (aCons (eVar 7) aNil)))))) (aCons (eVar 8) aNil)))))
 (sRet (eC (.bl false)))
 sPass)
 (sSeq (sAsg 10 (eDefT 1 2 M__law_shuffled (aCons (eCall bLenA (aConsT (eVar 3) aNil)) aNil)))
 (sFrz 10 (sFrz 8 (sIf (xNot (xB (eDef 7 M__law_turned (aCons (eVar 3) (aCons (eVar 4) (aCons (eVar 5) (aCons (eVar 6) (aCons (eVar 7) (aCons (eVar 8) (aCons (eVar 10) aNil))))))))))
 (sRet (eC (.bl false)))
 sPass)))))))))))))))
 (sRet (eC (.bl true))))
noncomputable def flaw (sc : List Int) (T : Tp) : Rt (Bool × Tp) :=
 ((forR (P := (Bool × Tp)) (rngL (0 : Int) (4 : Int)) (T : (Tp)) fun x2601 s2600 =>
 ((fgame  s2600).bind fun a2604 =>
 ((fstand_UI_I a2604.1.1 a2604.1.2.2 a2604.2).bind fun a2607 =>
 ((rng (0 : Int) (a2604.1.2.1 + (1 : Int))).bind fun xs2610 =>
 ((forR (P := (Bool × Tp)) xs2610 (a2607.2 : (Tp)) fun x2638 s2637 =>
 ((fatswitch_I_UI_I a2604.1.2.2 a2607.1 x2638).bind fun a2641 =>
 (if ((decide ((a2641.length : Int) > (4 : Int))) && (decide ((a2604.1.1.length : Int) > (5 : Int)))) = true then
 .ok (.nx s2637)
 else ((falllayings_UI_I_UI_I a2604.1.1 a2604.1.2.2 a2607.1 x2638).bind fun a2642 =>
 ((playingsout_UI_I_I_UI_I a2604.1.1 a2604.1.2.1 a2604.1.2.2 a2607.1 x2638).bind fun a2645 =>
 (((if (!true) = true then .ok true else ((noE (fis_LUPIIe_LWPIIe 40 a2645 a2642)).bind fun a2648 =>
 .ok (!a2648)))).bind fun b2649 =>
 (if b2649 = true then
 .ok (.rt (false, s2637))
 else ((push ((a2645.map fun x => (some x)) : (List (Option (List (Int × Int))))) none).bind fun vtold2650 =>
 ((playingsout_UI_I_I_UI_I a2604.1.1 a2604.1.2.1 a2604.1.2.2 a2607.1 x2638).bind fun a2656 =>
 ((fis_LUPIIe_LWPIIe 40 a2656 a2642).bind fun a2657 =>
 (if (!a2657) = true then
 .ok (.rt (false, s2637))
 else ((fshuffled (a2604.1.1.length : Int) s2637).bind fun a2658 =>
 ((fturned_UI_I_I_UI_I_LWPIIe_LI a2604.1.1 a2604.1.2.1 a2604.1.2.2 a2607.1 x2638 a2642 a2658.1).bind fun a2663 =>
 (if (!a2663) = true then
 .ok (.rt (false, a2658.2))
 else .ok (.nx a2658.2))))))))))))))).bind fun o => match o with
 | .inl s2664 => .ok (.nx s2664)
 | .inr v2667 => .ok (.rt (v2667.1, v2667.2))))))).bind fun o => match o with
 | .inl s2668 => .ok (true, s2668)
 | .inr v2671 => .ok (v2671.1, v2671.2))
theorem t_flaw (sc : List Int) (T : Tp) (r : Pu.Env) (m : Mat [iv (eScr sc), .is .tape, .free, .free, .free, .free, .free, .free, .free, .free, .free] r) : Sim ET ((gr_law r T).bind endK) (flaw sc T) (RT (fun x => VD.val (eB x))) :=
 (s_seq (s_forR (fun (s2600 : (Tp)) => [iv (eScr sc), .is .tape, .free, .free, .free, .free, .free, .free, .free, .any, .free]) (fun s2600 => s2600) (T : (Tp)) rfl (fun (v2671 : (Bool × Tp)) => VD.val (eB v2671.1)) (fun (v2671 : (Bool × Tp)) => v2671.2) (Mat.weak (.keep (.keep (.keep (.keep (.keep (.keep (.keep (.keep (.keep (.any (.keep .nil))))))))))) m) (q_rngL (q_consT (Pur.pd q_c) q_nil) rfl (by decide)) (e := eI) (ms := (fun x => [(2, eI x)])) (fun _ => rfl) (fun x2601 s2600 r2602 m2603 => (s_seq (s_plugE (plug_asgG plug_id) (h_defT (Mat.get m2603 rfl) q_nil rfl (mk := (fun x => VD.val ((e3 (eU eI) eI eI) x))) (t_fgame  _) (fun _ => trivial) (fun a2604 => (s_asgG m2603 (Pur.pv q_cst) (l := [(3, (eU eI) a2604.1.1), (4, eI a2604.1.2.1), (5, eI a2604.1.2.2)]) rfl (fun r2605 m2606 => (s_next (s_seq (s_plugE (plug_asg plug_id) (h_defT (Mat.get m2606 rfl) (q_cons (Pur.pv (q_var m2606 rfl)) (q_cons (Pur.pv (q_var m2606 rfl)) q_nil)) rfl (mk := (fun x => VD.val ((eU eI) x))) (t_fstand_UI_I a2604.1.1 a2604.1.2.2 _) (fun _ => trivial) (fun a2607 => (s_asg (i := 6) m2606 q_cst (fun _ => rfl) (fun r2608 m2609 => (s_next (s_for1 (h_rng (q_consT (Pur.pd (q_op (op := dAddA) (Pur.pd (q_var m2609 rfl)) (Pur.pd q_c) rfl)) q_nil) rfl (fun xs2610 => (s_forR (fun (s2637 : (Tp)) => [iv (eScr sc), .is .tape, iv (eI x2601), iv ((eU eI) a2604.1.1), iv (eI a2604.1.2.1), iv (eI a2604.1.2.2), iv ((eU eI) a2607.1), .free, .free, .any, .free]) (fun s2637 => s2637) (a2607.2 : (Tp)) rfl (fun (v2667 : (Bool × Tp)) => VD.val (eB v2667.1)) (fun (v2667 : (Bool × Tp)) => v2667.2) (Mat.weak (.keep (.keep (.keep (.keep (.keep (.keep (.keep (.keep (.keep (.any (.keep .nil))))))))))) m2609) q_csti (e := eI) (ms := (fun x => [(7, eI x)])) (fun _ => rfl) (fun x2638 s2637 r2639 m2640 => (s_seq (s_sif (s_plugE (plug_xand (plug_xb (plug_op1 (plug_call (plug_t1 plug_id))))) (h_def (q_cons (Pur.pv (q_var m2640 rfl)) (q_cons (Pur.pv (q_var m2640 rfl)) (q_cons (Pur.pv (q_var m2640 rfl)) q_nil))) rfl (mk := (fun x => VD.own ((eL eI) x))) (t_fatswitch_I_UI_I a2604.1.2.2 a2607.1 x2638) trivial (fun a2641 => (t_pure (q_xand (q_xb (Pur.pv (q_op (op := dGt) (Pur.pd (q_call (op := bLenA) (q_consT (Pur.pdO q_cst) q_nil) q_lenL)) (Pur.pd q_c) (dGt_ii _ _)))) (fun _ => (q_xb (Pur.pv (q_op (op := dGt) (Pur.pd (q_call (op := bLenA) (q_consT (Pur.pd (q_var m2640 rfl)) q_nil) q_lenU)) (Pur.pd q_c) (dGt_ii _ _)))))) (s_ite (fun _ => (s_ct (x_ctR (Mat.weak (.keep (.keep (.keep (.keep (.keep (.keep (.keep (.fv (.keep (.any (.keep .nil))))))))))) m2640) rfl))) (fun _ => (s_pass (s_next (s_seq (s_plugE (plug_asg plug_id) (h_def (q_cons (Pur.pv (q_var m2640 rfl)) (q_cons (Pur.pv (q_var m2640 rfl)) (q_cons (Pur.pv (q_var m2640 rfl)) (q_cons (Pur.pv (q_var m2640 rfl)) q_nil)))) rfl (mk := (fun x => VD.own ((eL (eKp (e2 eI eI))) x))) (t_falllayings_UI_I_UI_I a2604.1.1 a2604.1.2.2 a2607.1 x2638) trivial (fun a2642 => (s_asg (i := 8) m2640 q_cst (fun _ => rfl) (fun r2643 m2644 => (s_next (s_seq (s_plugE (plug_asg plug_id) (h_def (q_cons (Pur.pv (q_var m2644 rfl)) (q_cons (Pur.pv (q_var m2644 rfl)) (q_cons (Pur.pv (q_var m2644 rfl)) (q_cons (Pur.pv (q_var m2644 rfl)) (q_cons (Pur.pv (q_var m2644 rfl)) q_nil))))) rfl (mk := (fun x => VD.own ((eL (eU (e2 eI eI))) x))) (t_playingsout_UI_I_I_UI_I a2604.1.1 a2604.1.2.1 a2604.1.2.2 a2607.1 x2638) trivial (fun a2645 => (s_asg (i := 9) m2644 q_cst (fun _ => rfl) (fun r2646 m2647 => (s_next (s_seq (s_sif (tt_or (q_xnot (q_xb (Pur.pv (q_un (op := (dIsi [] .list)) (Pur.pdP (q_varO m2647 rfl)) rfl)))) (fun _ => (s_plugE (plug_xnot (plug_xb plug_id)) (h_defB (q_consT (Pur.pdP (q_varO m2647 rfl)) (q_consT (Pur.pdP (q_varO m2647 rfl)) q_nil)) rfl (mk := (fun x => VD.val (eB x))) (t_fis_LUPIIe_LWPIIe 40 a2645 a2642) (fun b => by cases b <;> rfl) (fun a2648 => (t_pure (q_xnot (q_xb (Pur.pv q_cst))) (s_fin rfl)))))) (fun b2649 => (s_ite (fun _ => (s_ret q_c (fun _ => rfl) (x_rtR rfl rfl))) (fun _ => (s_pass (s_next (s_seq (s_dropM (have m2653 := Mat.castO (i := 9) m2647 rfl (coe_L (e' := (eO (eU (e2 eI eI)))) (e := (eU (e2 eI eI))) (c := fun x => (some x)) (fun x => rfl) a2645); (m_mut (i := 9) m2653 rfl rfl (q_cons (Pur.pv q_c) q_nil) (dn := (eL (eO (eU (e2 eI eI))))) (xv := fun _ => D.non) (p_push (e := (eO (eU (e2 eI eI))))) quit_push (fun vtold2650 r2651 m2652 => (s_next (s_frzO m2652 rfl (fun r2654 m2655 => (s_seq (s_sif (s_plugE (plug_xnot (plug_xb (plug_def (plug_c1 plug_id)))) (h_def (q_cons (Pur.pv (q_var m2655 rfl)) (q_cons (Pur.pv (q_var m2655 rfl)) (q_cons (Pur.pv (q_var m2655 rfl)) (q_cons (Pur.pv (q_var m2655 rfl)) (q_cons (Pur.pv (q_var m2655 rfl)) q_nil))))) rfl (mk := (fun x => VD.own ((eL (eU (e2 eI eI))) x))) (t_playingsout_UI_I_I_UI_I a2604.1.1 a2604.1.2.1 a2604.1.2.2 a2607.1 x2638) trivial (fun a2656 => (s_plugE (plug_xnot (plug_xb plug_id)) (h_def (q_cons (Pur.pvO q_cst) (q_cons (Pur.pv (q_var m2655 rfl)) q_nil)) rfl (mk := (fun x => VD.val (eB x))) (t_fis_LUPIIe_LWPIIe 40 a2656 a2642) trivial (fun a2657 => (t_pure (q_xnot (q_xb (Pur.pv q_cst))) (s_ite (fun _ => (s_ret q_c (fun _ => rfl) (x_rtR rfl rfl))) (fun _ => (s_pass (s_next (s_seq (s_plugE (plug_asg plug_id) (h_defT (Mat.get m2655 rfl) (q_cons (Pur.pv (q_call (op := bLenA) (q_consT (Pur.pd (q_var m2655 rfl)) q_nil) q_lenU)) q_nil) rfl (mk := (fun x => VD.own ((eL eI) x))) (t_fshuffled (a2604.1.1.length : Int) _) (fun _ => trivial) (fun a2658 => (s_asg (i := 10) m2655 q_cst (fun _ => rfl) (fun r2659 m2660 => (s_next (s_frzO m2660 rfl (fun r2661 m2662 => (s_frzV m2662 rfl (s_sif (s_plugE (plug_xnot (plug_xb plug_id)) (h_def (q_cons (Pur.pv (q_var m2662 rfl)) (q_cons (Pur.pv (q_var m2662 rfl)) (q_cons (Pur.pv (q_var m2662 rfl)) (q_cons (Pur.pv (q_var m2662 rfl)) (q_cons (Pur.pv (q_var m2662 rfl)) (q_cons (Pur.pv (q_var m2662 rfl)) (q_cons (Pur.pv (q_var m2662 rfl)) q_nil))))))) rfl (mk := (fun x => VD.val (eB x))) (t_fturned_UI_I_I_UI_I_LWPIIe_LI a2604.1.1 a2604.1.2.1 a2604.1.2.2 a2607.1 x2638 a2642 a2658.1) trivial (fun a2663 => (t_pure (q_xnot (q_xb (Pur.pv q_cst))) (s_ite (fun _ => (s_ret q_c (fun _ => rfl) (x_rtR rfl rfl))) (fun _ => (s_pass (x_nxR (Mat.weak (.keep (.keep (.keep (.keep (.keep (.keep (.keep (.fv (.fv (.any (.fv .nil))))))))))) m2662) rfl))))))))))))))))))))))))))))))))))))))))))))))))))))))))))))))))))))))))) (fun s2664 r2665 m2666 => (x_nxR (Mat.weak (.keep (.keep (.fv (.fv (.fv (.fv (.fv (.keep (.keep (.any (.keep .nil))))))))))) m2666) rfl)) (fun v2667 => (x_rtR rfl rfl))))))))))))))))))))) (fun s2668 r2669 m2670 => (s_next (s_ret q_c (fun _ => rfl) (s_fin rfl)))) (fun v2671 => (s_fin rfl))))
theorem law_of (h : ∀ sc T, TapeV T → wr (flaw sc T) fun b => b.1 = true) : ∀ ns : List Int, ns.length ≤ 63 → ∃ T, M_law [.scr ns] none = .ok (.val (.bl true), T) := by
  intro sc hsc
  refine wp_law (g := gr_law) (d := _) (by simp [tape_ok, env0]; exact ⟨rfl, rfl⟩) ?_
  refine law_sim (t_flaw sc _ _ (mat_of ((env0 11 false [.scr sc]).set 1 (some .tape)))) (h sc _ ⟨sc, 0, 0, 1, 0, rfl⟩)
end Gk46
namespace Gk46
open PySem L2 Pu
theorem ffewloops_t {T : Tp} {m l : Int} (hm : 1 ≤ m ∧ m ≤ 8) (hl : 3 ≤ l ∧ l ≤ 40) (ht : TapeV T) : wr (ffewloops m l T) fun p => ((0 < p.1.length ∧ (p.1.length : Int) ≤ m) ∧ ∀ x ∈ p.1, 1 ≤ x ∧ x ≤ l) ∧ TapeV p.2 := by
  unfold ffewloops
  refine wr_b (pick_wr ht (by omega) (by omega)) fun ⟨v, T1⟩ ⟨hv, t1⟩ => ?_
  dsimp only at hv t1 ⊢
  refine wr_b (wr_idx hv.1 hv.2) fun y hy => ?_
  have hy : 0 ≤ y := by
    simp only [List.mem_cons, List.not_mem_nil, or_false] at hy
    omega
  rw [lete_eq, lete_eq]
  have hM : 1 ≤ max 1 (m - y) ∧ max 1 (m - y) ≤ m := by rw [Int.max_def]; split <;> omega
  generalize max 1 (m - y) = M at hM
  rw [rng_ok (by omega), Rt.bind_ok]
  refine wr_b (wr_forS (Q := fun s => ((s.1.length : Int) = M ∧ ∀ x ∈ s.1, 1 ≤ x ∧ x ≤ l) ∧ TapeV s.2) (fun i s => (s.1.length = i + 1 ∧ ∀ x ∈ s.1, 1 ≤ x ∧ x ≤ l) ∧ TapeV s.2) _ 0 _ ⟨⟨rfl, fun x hx => by have := List.mem_singleton.mp hx; omega⟩, t1⟩ ?_ fun s ⟨⟨a, b⟩, d⟩ => ⟨⟨by rw [rngL_len] at a; omega, b⟩, d⟩) fun ⟨ns, T2⟩ ⟨⟨l0, lm⟩, t2⟩ => ?_
  · rintro i x ⟨ns, T2⟩ hx ⟨⟨l0, lm⟩, t2⟩
    dsimp only at l0 lm t2 ⊢
    have hi := rngL_get hx
    refine wr_b (pick_wr t2 (by omega) (by omega)) fun ⟨v, T3⟩ ⟨hv, t3⟩ => ?_
    dsimp only at hv t3 ⊢
    have push : ∀ {z : Int} {T : Tp}, 1 ≤ z ∧ z ≤ l → TapeV T → wr ((push ns z).bind fun w => .ok (w, T)) fun s' => (s'.1.length = 0 + i + 1 + 1 ∧ ∀ x ∈ s'.1, 1 ≤ x ∧ x ≤ l) ∧ TapeV s'.2 := fun {z T} hz tt => by
      rw [push_ok (by omega), Rt.bind_ok]
      refine (wr_ok _).mpr ⟨⟨by simp; omega, fun x hx => ?_⟩, tt⟩
      rcases List.mem_append.mp hx with q | q
      · exact lm x q
      · rw [List.mem_singleton.mp q]
        exact hz
    by_cases c : v < 4
    · rw [if_pos (by simpa using c)]
      refine wr_b (wr_idx hv.1 (by simpa using c)) fun a ha => ?_
      have ha : 1 ≤ a ∧ a ≤ 2 := by
        simp only [List.mem_cons, List.not_mem_nil, or_false] at ha
        omega
      obtain ⟨mx, hmx, m1, m2⟩ := max_of (ns := ns) (by omega) fun j hj => by have := lm j hj; omega
      have hg : maxG ns = .ok mx := by unfold maxG; rw [hmx]
      rw [hg, Rt.bind_ok, imul_ok (by omega), Rt.bind_ok]
      refine wr_b (pick_wr t3 (by omega) (by omega)) fun ⟨u, T4⟩ ⟨hu, t4⟩ => ?_
      refine push ?_ t4
      generalize a * mx - u = z
      rw [Int.min_def, Int.max_def]
      split <;> split <;> omega
    · rw [if_neg (by simpa using c)]
      refine wr_b (wr_idx (by omega) (by simp; omega)) fun a ha => ?_
      have ha : 1 ≤ a ∧ a ≤ l := by
        simp only [List.mem_cons, List.not_mem_nil, or_false] at ha
        omega
      refine wr_b (pick_wr t3 (by omega) (by omega)) fun ⟨u, T4⟩ ⟨hu, t4⟩ => ?_
      exact push (by dsimp only at hu ⊢; omega) t4
  · dsimp only at l0 lm t2 ⊢
    refine wr_b (P := fun s => ((s.1.length : Int) = M ∧ ∀ x ∈ s.1, 1 ≤ x ∧ x ≤ l) ∧ TapeV s.2) ?_ fun ⟨xs, T3⟩ ⟨⟨k0, km⟩, t3⟩ => ?_
    · refine wr_b (pick_wr t2 (by omega) (by omega)) fun ⟨v, T3⟩ ⟨hv, t3⟩ => ?_
      dsimp only at hv t3 ⊢
      split
      · refine wr_b (pick_wr t3 (by omega) (by omega)) fun ⟨u, T4⟩ ⟨hu, t4⟩ => ?_
        dsimp only at hu t4 ⊢
        unfold setAt
        rw [ixN_some (by omega) (by omega)]
        refine (wr_ok _).mpr ⟨⟨by dsimp only; rw [List.length_set]; exact l0, fun x hx => ?_⟩, t4⟩
        rcases List.mem_or_eq_of_mem_set hx with q | q
        · exact lm x q
        · omega
      · exact (wr_ok _).mpr ⟨⟨l0, lm⟩, t3⟩
    · dsimp only at k0 km t3 ⊢
      rw [rng_ok (by omega), Rt.bind_ok]
      refine wr_b (wr_forS (Q := fun s => ((s.1.length : Int) = M ∧ ∀ x ∈ s.1, 1 ≤ x ∧ x ≤ l) ∧ TapeV s.2) (fun i s => (s.1.length = i ∧ ∀ x ∈ s.1, 1 ≤ x ∧ x ≤ l) ∧ TapeV s.2) _ 0 _ ⟨⟨rfl, fun x hx => by cases hx⟩, t3⟩ ?_ fun s ⟨⟨a, b⟩, d⟩ => ⟨⟨by rw [rngL_len] at a; omega, b⟩, d⟩) fun s ⟨⟨a, b⟩, d⟩ => (wr_ok _).mpr ⟨⟨⟨by dsimp only; omega, by dsimp only; omega⟩, b⟩, d⟩
      rintro i x ⟨ys, T4⟩ hx ⟨⟨l1, ym⟩, t4⟩
      dsimp only at l1 ym t4 ⊢
      have hi := rngL_get hx
      refine wr_b (pick_wr t4 (by omega) (by omega)) fun ⟨u, T5⟩ ⟨hu, t5⟩ => ?_
      dsimp only at hu t5 ⊢
      refine wr_b (wr_idx (by omega) (by omega)) fun z hz => ?_
      have hz := km z hz
      unfold insAt
      rw [if_pos ⟨by omega, by omega, by omega⟩, Rt.bind_ok]
      refine (wr_ok _).mpr ⟨⟨by simp only [List.length_append, List.length_take, List.length_drop, List.length_singleton]; omega, fun d hd => ?_⟩, t5⟩
      rcases List.mem_append.mp hd with q | q
      · rcases List.mem_append.mp q with q | q
        · exact ym d (List.mem_of_mem_take q)
        · rw [List.mem_singleton.mp q]
          exact hz
      · exact ym d (List.mem_of_mem_drop q)
def GameQ (p : List Int × Int × Int) : Prop := ((0 < p.1.length ∧ p.1.length ≤ 8) ∧ ∀ x ∈ p.1, 1 ≤ x ∧ x ≤ 40) ∧ (2 ≤ p.2.1 ∧ p.2.1 ≤ 4) ∧ 1 ≤ p.2.2 ∧ p.2.2 ≤ 60
theorem fgame_t {T : Tp} (ht : TapeV T) : wr (fgame T) fun p => GameQ p.1 ∧ TapeV p.2 := by
  unfold fgame
  refine wr_b (pick_wr ht (by omega) (by omega)) fun ⟨k1, T1⟩ ⟨hk1, t1⟩ => ?_
  dsimp only at hk1 t1 ⊢
  refine wr_b (P := fun m : Int => 1 ≤ m ∧ m ≤ 8) (wr_imp (wr_idx hk1.1 (by simpa using hk1.2)) fun m hm => by simp at hm; omega) fun m hm => ?_
  refine wr_b (pick_wr t1 (by omega) (by omega)) fun ⟨k2, T2⟩ ⟨hk2, t2⟩ => ?_
  dsimp only at hk2 t2 ⊢
  refine wr_b (P := fun l : Int => 8 ≤ l ∧ l ≤ 40) (wr_imp (wr_idx hk2.1 (by simpa using hk2.2)) fun m hm => by simp at hm; omega) fun l hl => ?_
  rw [rng_ok (by omega), Rt.bind_ok]
  refine wr_b (wr_mapT_mem TapeV (fun y => 1 ≤ y ∧ y ≤ 40) _ _ t2 fun x hx T3 t3 => ?_) fun ⟨ls, T3⟩ ⟨t3, hlen, hall⟩ => ?_
  · refine wr_b (pick_wr t3 (by omega) (by omega)) fun ⟨u, T4⟩ ⟨hu, t4⟩ => ?_
    exact (wr_ok _).mpr ⟨by dsimp only at hu ⊢; omega, t4⟩
  rw [rngL_len] at hlen
  dsimp only at hlen hall t3 ⊢
  refine wr_b (P := fun s : List Int × Tp => ((0 < s.1.length ∧ s.1.length ≤ 8) ∧ ∀ x ∈ s.1, 1 ≤ x ∧ x ≤ 40) ∧ TapeV s.2) ?_ fun ⟨ns, T5⟩ ⟨hn, t5⟩ => ?_
  · refine wr_b (pick_wr t3 (by omega) (by omega)) fun ⟨k3, T4⟩ ⟨hk3, t4⟩ => ?_
    dsimp only at hk3 t4 ⊢
    split
    · refine wr_b (ffewloops_t (by omega) (by omega) t4) fun ⟨ns, T6⟩ ⟨hns, t6⟩ => (wr_ok _).mpr ⟨⟨by dsimp only at hns ⊢; omega, fun x hx => by have := hns.2 x hx; omega⟩, t6⟩
    · exact (wr_ok _).mpr ⟨⟨by dsimp only; omega, hall⟩, t4⟩
  dsimp only at hn t5 ⊢
  refine wr_b (pick_wr t5 (by omega) (by omega)) fun ⟨k4, T6⟩ ⟨hk4, t6⟩ => ?_
  dsimp only at hk4 t6 ⊢
  refine wr_b (pick_wr t6 (by omega) (by omega)) fun ⟨k5, T7⟩ ⟨hk5, t7⟩ => ?_
  dsimp only at hk5 t7 ⊢
  refine wr_b (pick_wr t7 (by omega) (by omega)) fun ⟨k6, T8⟩ ⟨hk6, t8⟩ => ?_
  dsimp only at hk6 t8 ⊢
  refine wr_b (P := fun b : Int => 1 ≤ b ∧ b ≤ 60) (wr_imp (wr_idx (by omega) (by simp; omega)) fun m hm => by
    simp at hm
    omega) fun b hb => ?_
  refine wr_b (pick_wr t8 (by omega) (by omega)) fun ⟨k7, T9⟩ ⟨hk7, t9⟩ => ?_
  exact (wr_ok _).mpr ⟨⟨hn, by dsimp only at hk7 ⊢; omega, hb⟩, t9⟩
theorem up_step {b L : Int} {i : Nat} (h : L ≤ b + 1) : up b L (i + 1) = if up b L i ≤ b then up b L i + 1 else up b L i := by
  unfold up
  split <;> split <;> split <;> omega
/-- the line when some have come -/
theorem line_loop {b L k : Int} (hL : L ≤ b) (hk : 0 ≤ k ∧ k ≤ 1000) {f : Int → Int → Rt Int} (hf : ∀ x s, f x s = if decide (s ≤ b) = true then .ok (s + 1) else .ok s) : ((rng 0 k).bind fun xs => forS xs L f) = .ok (up b L k.toNat) := by
  rw [rng_ok (by omega), Rt.bind_ok]
  have := forS_pre (f := f) (fun p => up b L p.length) (rngL 0 k) (s0 := L) (by show up b L 0 = L; exact up_zero (by omega)) fun p x q e => ?_
  · rw [this, rngL_len]
    congr 2
    omega
  · rw [hf, List.length_append, List.length_singleton, up_step (by omega)]
    by_cases c : up b L p.length ≤ b
    · rw [if_pos c, if_pos (by simpa using c)]
    · rw [if_neg c, if_neg (by simpa using c)]
theorem rngL_cons {a b : Int} (h : a < b) : rngL a b = a :: rngL (a + 1) b := by
  refine List.ext_getElem? fun i => ?_
  cases i with
  | zero => rw [rngL_at2 (by omega)]; simp
  | succ i =>
    rw [List.getElem?_cons_succ]
    by_cases c : a + 1 + i < b
    · rw [rngL_at2 c, rngL_at2 (by omega)]
      congr 1
      omega
    · rw [List.getElem?_eq_none (by rw [rngL_len]; omega), List.getElem?_eq_none (by rw [rngL_len]; omega)]
theorem rngL_cut {a b c : Int} (h1 : a ≤ b) (h2 : b ≤ c) : rngL a c = rngL a b ++ rngL b c := by
  refine List.ext_getElem? fun i => ?_
  by_cases q : a + i < b
  · rw [List.getElem?_append_left (by rw [rngL_len]; omega), rngL_at2 q, rngL_at2 (by omega)]
  · rw [List.getElem?_append_right (by rw [rngL_len]; omega), rngL_len]
    by_cases q2 : a + i < c
    · rw [rngL_at2 q2, rngL_at2 (by omega)]
      congr 1
      omega
    · rw [List.getElem?_eq_none (by rw [rngL_len]; omega), List.getElem?_eq_none (by rw [rngL_len]; omega)]
theorem spr_filter {st : List Int} {u : Int} (hu : (st.length : Int) ≤ u) : ((rngL 1 u).filter fun x => decide (x ≥ (st.length : Int)) || decide (vl st x = 0)) = sprL st u := by
  have er := enuL_rng st
  unfold sprL
  rw [er, List.filter_map, List.map_map, show ((fun x : Int × Int => x.1) ∘ fun k => (k, vl st k)) = fun k => k from rfl, List.map_id', List.map_id']
  rcases Nat.eq_zero_or_pos st.length with z | z
  · rw [z]
    rw [z] at hu
    rw [show (rngL 0 ((0 : Nat) : Int)) = [] from rngL_self 0, List.filter_nil, List.nil_append]
    rcases Int.lt_or_le 0 u with c | c
    · rw [show rngL ((0 : Nat) : Int) u = 0 :: rngL 1 u from rngL_cons c, List.filter_cons, if_neg (by simp)]
      refine List.filter_congr fun x hx => ?_
      have := rngL_mem.mp hx
      rw [decide_eq_true (show x ≥ ((0 : Nat) : Int) by omega), decide_eq_true (show x > 0 by omega)]
      rfl
    · have : u = 0 := by omega
      subst this
      rfl
  · rw [rngL_cut (b := (st.length : Int)) (by omega) hu, List.filter_append, rngL_cons (show (0 : Int) < st.length by omega)]
    rw [List.filter_cons, if_neg (by simp)]
    congr 1
    · refine List.filter_congr fun x hx => ?_
      have := rngL_mem.mp hx
      show (decide (x ≥ (st.length : Int)) || decide (vl st x = 0)) = (decide (x > 0) && decide (vl st x = 0))
      rw [decide_eq_false (show ¬ x ≥ (st.length : Int) by omega), decide_eq_true (show x > 0 by omega)]
      rfl
    · refine List.filter_congr fun x hx => ?_
      have := rngL_mem.mp hx
      rw [decide_eq_true (show x ≥ (st.length : Int) by omega), decide_eq_true (show x > 0 by omega)]
      rfl
theorem fatswitch_I_UI_I_t {b k : Int} {st : List Int} (hb : b ≤ 60) (hs : (st.length : Int) ≤ b) (hk : 0 ≤ k ∧ k ≤ 1000) : fatswitch_I_UI_I b st k = .ok (sprL st (up b st.length k.toNat)) := by
  have hu := up_in (k := k.toNat) hs
  unfold fatswitch_I_UI_I
  rw [lete_eq]
  have hl := line_loop (b := b) (L := st.length) hs hk (f := fun x s => if decide (s ≤ b) = true then lete (s + 1) fun v => .ok v else .ok s) fun x s => by
    split
    · rw [lete_eq]
    · rfl
  rw [rng_ok (by omega), Rt.bind_ok] at hl ⊢
  rw [hl, Rt.bind_ok, rng_ok (by omega), Rt.bind_ok, lcR_ok (d := fun x => decide (x ≥ (st.length : Int)) || decide (vl st x = 0)) (g := fun x => x) _ (fun x hx => ?_) (fun x _ _ => rfl), Rt.bind_ok, List.map_id', spr_filter hu.1]
  have := rngL_mem.mp hx
  by_cases c : x ≥ (st.length : Int)
  · rw [if_pos (by simpa using c), Rt.bind_ok, decide_eq_true c]
    rfl
  · rw [if_neg (by simpa using c), idx_vl (by omega), Rt.bind_ok, Rt.bind_ok, decide_eq_false c]
    rfl
theorem falllayings_UI_I_UI_I_t {ns : List Int} {b k : Int} {st : List Int} (hn : ns.length ≤ 8) (hb : b ≤ 60) (hs : (st.length : Int) ≤ b) (hk : 0 ≤ k ∧ k ≤ 1000) : falllayings_UI_I_UI_I ns b st k = .ok (layZ ns (sprL st (up b st.length k.toNat))) := by
  have hu := up_in (k := k.toNat) hs
  have hsl := sprL_len (st := st) (u := up b st.length k.toNat) (b := 60) (by omega) (by omega)
  unfold falllayings_UI_I_UI_I
  rw [fatswitch_I_UI_I_t hb hs hk, Rt.bind_ok]
  generalize sprL st (up b st.length k.toNat) = sp at hsl
  rw [lay_loop (ns := ns) hn (g := fun pl w s => ((rng (0 : Int) (ns.length : Int)).bind fun xs => ((forS xs s fun x s => ((idx ns x).bind fun a => (if ((decide (a ≤ pl)) && (!memB x (w.map fun x => x.2))) = true then ((catW w [(pl, x)]).bind fun a => ((push s a).bind fun v => .ok v)) else .ok s))).bind fun s => .ok s))) (fun pl W => ?_) (fun pl w s hw hl => ?_) (by omega), Rt.bind_ok, layL_srt, Rt.bind_ok]
  · rfl
  · cases forS W [] (fun w s => ((rng (0 : Int) (ns.length : Int)).bind fun xs => ((forS xs s fun x s => ((idx ns x).bind fun a => (if ((decide (a ≤ pl)) && (!memB x (w.map fun x => x.2))) = true then ((catW w [(pl, x)]).bind fun a => ((push s a).bind fun v => .ok v)) else .ok s))).bind fun s => .ok s))) <;> rfl
  · rw [rng_ok (by omega), Rt.bind_ok, forS_grow (N := 15999999) (g := fun l => if vl ns l ≤ pl ∧ l ∉ w.map (·.2) then [w ++ [(pl, l)]] else []) _ _ (fun x hx s hl => ?_) ?_, Rt.bind_ok]
    · rfl
    · have := flatMap_len (m := 1) (g := fun l => if vl ns l ≤ pl ∧ l ∉ w.map (·.2) then [w ++ [(pl, l)]] else []) (rngL 0 (ns.length : Int)) fun x _ => by
        split
        · exact Nat.le_refl 1
        · exact Nat.zero_le 1
      rw [rngL_len] at this
      omega
    · have := rngL_mem.mp hx
      rw [idx_vl (by omega), Rt.bind_ok]
      by_cases c : vl ns x ≤ pl ∧ x ∉ w.map (·.2)
      · rw [if_pos c, if_pos (by simp only [Bool.and_eq_true, decide_eq_true_eq, Bool.not_eq_true', memB_no]; exact c)]
        rw [show catW w [(pl, x)] = .ok (w ++ [(pl, x)]) from if_pos ⟨by simp, by simp; omega⟩, Rt.bind_ok, push_ok (by omega), Rt.bind_ok]
      · rw [if_neg c, if_neg (by simp only [Bool.and_eq_true, decide_eq_true_eq, Bool.not_eq_true', memB_no]; exact c), List.append_nil]
theorem aget_pairs (w : List (Int × Int)) (f : Int → Int) (p : Int) : aget (w.map fun x => (x.1, f x.2)) p = (aget w p).map f := by
  unfold aget
  rw [List.find?_map, Option.map_map, Option.map_map]
  rfl
theorem aget_in46 {w : List (Int × Int)} {p l : Int} (h : aget w p = some l) : (p, l) ∈ w := by
  unfold aget at h
  obtain ⟨q, hq, rfl⟩ := Option.map_eq_some_iff.mp h
  have h1 := List.find?_some hq
  have h2 := List.mem_of_find?_eq_some hq
  have : q.1 = p := by simpa using h1
  rw [← this]
  exact h2
theorem flatMap_one {A B : Type} (f : A → B) : ∀ xs : List A, (xs.flatMap fun x => [f x]) = xs.map f
  | [] => rfl
  | x :: xs => by rw [List.flatMap_cons, flatMap_one f xs]; rfl
theorem fledto_UI_I_UI_I_WPIIe_t {ns : List Int} {b k : Int} {st : List Int} {w : List (Int × Int)} (hb : b ≤ 60) (hs : (st.length : Int) ≤ b) (hk : 0 ≤ k ∧ k ≤ 1000) (hw : LayOk ns (sprL st (up b st.length k.toNat)) w) : fledto_UI_I_UI_I_WPIIe ns b st k w = .ok (aftS ns st (up b st.length k.toNat) w) := by
  have hu := up_in (k := k.toNat) hs
  have hsl := sprL_len (st := st) (u := up b st.length k.toNat) (b := 60) (by omega) (by omega)
  have hnd : (w.map (·.1)).Nodup := by rw [hw.1]; exact sprL_nd _ _
  have hwl := hw.len
  unfold fledto_UI_I_UI_I_WPIIe
  rw [show dctP w = .ok w from if_pos ⟨hnd, by omega⟩, Rt.bind_ok, lete_eq]
  have hl := line_loop (b := b) (L := st.length) hs hk (f := fun x s => if decide (s ≤ b) = true then lete (s + 1) fun v => .ok v else .ok s) fun x s => by
    split
    · rw [lete_eq]
    · rfl
  rw [rng_ok (by omega), Rt.bind_ok] at hl ⊢
  rw [hl, Rt.bind_ok, rng_ok (by omega), Rt.bind_ok, forS_grow (N := 15999999) (g := fun p => [(match aget (w.map fun x => (x.1, vl ns x.2)) p with
    | some v => v
    | none => vl st p) - 1]) _ _ (fun x hx s hsl2 => ?_) ?_, Rt.bind_ok]
  · rw [List.nil_append]
    unfold aftS
    rw [flatMap_one]
    all_goals rfl
  · have := flatMap_len (m := 1) (g := fun p => [(match aget (w.map fun x => (x.1, vl ns x.2)) p with
    | some v => v
    | none => vl st p) - 1]) (rngL 1 (up b st.length k.toNat)) fun x _ => Nat.le_refl 1
    rw [rngL_len] at this
    show 0 + _ ≤ _
    omega
  · have hx := rngL_mem.mp hx
    rw [aget_pairs]
    cases e : aget w x with
    | some l =>
      have hm : (x, l) ∈ w := aget_in46 e
      have hl := hw.2.2 _ hm
      rw [if_pos (by rw [ahas_get, e]; rfl)]
      rw [show dgetR w x = .ok l from by unfold dgetR; rw [e], Rt.bind_ok, idx_vl hl.1, Rt.bind_ok, push_ok (by omega), Rt.bind_ok]
      rfl
    | none =>
      rw [if_neg (by rw [ahas_get, e]; simp)]
      have hlt : x < st.length := by
        rcases Int.lt_or_le x st.length with c | c
        · exact c
        · have hm : x ∈ sprL st (up b st.length k.toNat) := sprL_mem.mpr ⟨by omega, .inr ⟨c, hx.2⟩⟩
          rw [← hw.1] at hm
          have := ahas_get (kvs := w) (k := x)
          rw [e] at this
          have h2 : ahas w x = true := (ahas_mem w x).mpr hm
          rw [h2] at this
          cases this
      rw [idx_vl (by omega), Rt.bind_ok, push_ok (by omega), Rt.bind_ok]
      rfl
theorem fstand_UI_I_t {T : Tp} {ns : List Int} {b : Int} (hn : ns.length ≤ 8) (hx : ∀ x ∈ ns, 1 ≤ x) (hb : 1 ≤ b ∧ b ≤ 60) (ht : TapeV T) : wr (fstand_UI_I ns b T) fun p => StdOk b p.1 ∧ TapeV p.2 := by
  unfold fstand_UI_I
  refine wr_b (pick_wr ht (by omega) (by omega)) fun ⟨k0, T1⟩ ⟨hk0, t1⟩ => ?_
  dsimp only at hk0 t1 ⊢
  by_cases c0 : k0 = 0
  · rw [if_pos (by simpa using c0)]
    have hm14 : 1 ≤ min b 14 ∧ min b 14 ≤ 14 ∧ min b 14 ≤ b := by omega
    refine wr_b (pick_wr t1 (by omega) (by omega)) fun ⟨m, T2⟩ ⟨hm, t2⟩ => ?_
    dsimp only at hm t2 ⊢
    refine wr_b (pick_wr t2 (by omega) (by omega)) fun ⟨z, T3⟩ ⟨hz, t3⟩ => ?_
    dsimp only at hz t3 ⊢
    rw [lete_eq, rng_ok (by omega), Rt.bind_ok]
    refine wr_b (wr_forS (Q := fun s : List Int × Tp => StdOk b s.1 ∧ TapeV s.2) (fun i (s : List Int × Tp) => (s.1.length = i ∧ ∀ (p : Nat) (v : Int), s.1[p]? = some v → 0 ≤ v ∧ v ≤ p) ∧ TapeV s.2) _ 0 _ ⟨⟨rfl, fun p v h => by simp at h⟩, t3⟩ (fun i x s hxi hI => ?_) fun s hI => ?_) fun s hs => (wr_ok _).mpr hs
    · rw [Nat.zero_add] at hI ⊢
      obtain ⟨⟨h1, h2⟩, h3⟩ := hI
      have hxe := rngL_get hxi
      refine wr_b (pick_wr h3 (by omega) (by omega)) fun ⟨l, T4⟩ ⟨hl, t4⟩ => ?_
      dsimp only at hl t4 ⊢
      refine wr_b (P := fun q : Int × Tp => (0 ≤ q.1 ∧ q.1 ≤ i) ∧ TapeV q.2) ?_ fun ⟨l2, T5⟩ ⟨hl2, t5⟩ => ?_
      · refine wr_b (P := fun q : Bool × Tp => TapeV q.2) ?_ fun ⟨bb, T5⟩ t5 => ?_
        · split
          · refine wr_b (P := fun q : Bool × Tp => TapeV q.2) ?_ fun q hq => (wr_ok _).mpr hq
            split
            · exact wr_b (pick_wr t4 (by omega) (by omega)) fun q hq => (wr_ok _).mpr hq.2
            · exact (wr_ok _).mpr t4
          · exact (wr_ok _).mpr t4
        · dsimp only at t5 ⊢
          split
          · exact (wr_ok _).mpr ⟨by dsimp only; omega, t5⟩
          · exact (wr_ok _).mpr ⟨by dsimp only; omega, t5⟩
      · have hlen : i < 14 := by have := (List.getElem?_eq_some_iff.mp hxi).1; rw [rngL_len] at this; omega
        dsimp only at hl2 t5 ⊢
        rw [push_ok (by omega), Rt.bind_ok]
        refine (wr_ok _).mpr ⟨⟨by dsimp only; rw [List.length_append, h1]; rfl, fun p v h => ?_⟩, t5⟩
        dsimp only at h
        by_cases c : p < s.1.length
        · rw [List.getElem?_append_left c] at h
          exact h2 p v h
        · rw [List.getElem?_append_right (by omega)] at h
          have : p - s.1.length = 0 := by
            have := (List.getElem?_eq_some_iff.mp h).1
            rw [List.length_singleton] at this
            omega
          rw [this] at h
          cases h
          omega
    · obtain ⟨⟨h1, h2⟩, h3⟩ := hI
      rw [Nat.zero_add, rngL_len] at h1
      exact ⟨⟨by omega, h2⟩, h3⟩
  · rw [if_neg (by simpa using c0)]
    refine wr_b (pick_wr t1 (by omega) (by omega)) fun ⟨m, T2⟩ ⟨hm, t2⟩ => ?_
    dsimp only at hm t2 ⊢
    rw [rng_ok (by omega), Rt.bind_ok]
    refine wr_b (wr_forB (Q := fun s : List Int × Tp => StdOk b s.1 ∧ TapeV s.2) (fun _ s => StdOk b s.1 ∧ TapeV s.2) _ 0 _ ⟨⟨by simp; omega, fun p v h => by simp at h⟩, t2⟩ (fun i x s hxi hI => ?_) fun s hI => hI) fun s hs => (wr_ok _).mpr hs
    obtain ⟨h1, h3⟩ := hI
    refine wr_b (pick_wr h3 (by omega) (by omega)) fun ⟨j, T4⟩ ⟨hj, t4⟩ => ?_
    dsimp only at hj t4 ⊢
    refine wr_b (P := fun q : Int => 0 ≤ q ∧ q ≤ 3) (wr_imp (wr_idx hj.1 (by simpa using hj.2)) fun q hq => by simp at hq; omega) fun q hq => ?_
    rw [fatswitch_I_UI_I_t hb.2 h1.1 (by omega), Rt.bind_ok]
    split
    · exact (wr_ok _).mpr ⟨h1, t4⟩
    rw [falllayings_UI_I_UI_I_t hn hb.2 h1.1 (by omega), Rt.bind_ok]
    refine wr_b (P := fun y : Int × List (List (Int × Int)) => (0 ≤ y.1 ∧ y.1 ≤ 3) ∧ y.2 = layZ ns (sprL s.1 (up b s.1.length y.1.toNat))) ?_ fun ⟨k2, ws⟩ ⟨hk2, hw⟩ => ?_
    · split
      · rw [falllayings_UI_I_UI_I_t hn hb.2 h1.1 (by omega), Rt.bind_ok]
        exact (wr_ok _).mpr ⟨by dsimp only; omega, rfl⟩
      · exact (wr_ok _).mpr ⟨hq, rfl⟩
    dsimp only at hk2 hw ⊢
    have hwl := layZ_len hn (sprL s.1 (up b s.1.length k2.toNat))
    rw [← hw] at hwl
    by_cases c : (ws.length : Int) > 0
    · rw [if_pos (by simpa using c)]
      refine wr_b (pick_wr t4 c (by omega)) fun ⟨i2, T5⟩ ⟨hi2, t5⟩ => ?_
      dsimp only at hi2 t5 ⊢
      refine wr_b (wr_idx hi2.1 hi2.2) fun w hww => ?_
      rw [hw] at hww
      have hlo := layZ_mem.mp hww
      rw [fledto_UI_I_UI_I_WPIIe_t hb.2 h1.1 (by omega) hlo, Rt.bind_ok]
      exact (wr_ok _).mpr ⟨aft_std hx h1 hlo, t5⟩
    · rw [if_neg (by simpa using c)]
      exact (wr_ok _).mpr ⟨h1, t4⟩
theorem pisinteger_t (i : Int) : pisinteger i = .ok true := rfl
theorem piswithin_t (x a b : Int) : piswithin x a b = .ok (decide (a ≤ x ∧ x ≤ b)) := by
  unfold piswithin
  rw [pisinteger_t, Rt.bind_ok]
  simp
theorem parewithin_UI_I_I_I_t (xs : List Int) (m a b : Int) : parewithin_UI_I_I_I xs m a b = .ok (decide ((xs.length : Int) ≤ m ∧ ∀ x ∈ xs, a ≤ x ∧ x ≤ b)) := by
  unfold parewithin_UI_I_I_I
  by_cases c : (xs.length : Int) > m
  · rw [if_pos (by simpa using c), decide_eq_false (by omega)]
  · rw [if_neg (by simpa using c), mapR_ok (g := fun x => decide (a ≤ x ∧ x ≤ b)) _ fun x _ => by rw [piswithin_t, Rt.bind_ok]]
    rw [Rt.bind_ok]
    congr 1
    rw [Bool.eq_iff_iff]
    simp
    omega
theorem pisloops_UI_t {ns : List Int} (h : Lps ns) : pisloops_UI ns = .ok true := by
  unfold pisloops_UI
  rw [parewithin_UI_I_I_I_t, Rt.bind_ok]
  obtain ⟨h1, h2, h3⟩ := h
  rw [decide_eq_true ⟨by omega, h3⟩]
  simp
  omega
theorem pcheckloops_UI_t {ns : List Int} (h : Lps ns) : pcheckloops_UI ns = .ok () := by
  unfold pcheckloops_UI
  rw [pisloops_UI_t h, Rt.bind_ok]
  rfl
theorem pcheckcomers_t {c : Int} (hc : 2 ≤ c ∧ c ≤ 4) : pcheckcomers c = .ok () := by
  unfold pcheckcomers
  rw [piswithin_t, Rt.bind_ok, decide_eq_true hc]
  rfl
theorem pcheckbound_t {b : Int} (h : 1 ≤ b ∧ b ≤ 60) : pcheckbound b = .ok () := by
  unfold pcheckbound
  rw [piswithin_t, Rt.bind_ok, decide_eq_true h]
  rfl
theorem pcheckgame_UI_I_I_t {ns : List Int} {c b : Int} (h : Lps ns) (hc : 2 ≤ c ∧ c ≤ 4) (hb : 1 ≤ b ∧ b ≤ 60) : pcheckgame_UI_I_I ns c b = .ok () := by
  unfold pcheckgame_UI_I_I
  rw [pcheckloops_UI_t h, Rt.bind_ok, pcheckcomers_t hc, Rt.bind_ok, pcheckbound_t hb, Rt.bind_ok]
theorem pisstand_I_UI_t {b : Int} {st : List Int} (h : (st.length : Int) ≤ b ∧ ∀ (p : Nat) (v : Int), st[p]? = some v → 0 ≤ v ∧ v ≤ p) : pisstand_I_UI b st = .ok true := by
  unfold pisstand_I_UI
  rw [if_neg (by simpa using h.1), mapR_ok (g := fun _ => true) _ fun x hx => ?_, Rt.bind_ok]
  · congr 1
    simp
  · obtain ⟨i, hi⟩ := List.mem_iff_getElem?.mp hx
    rw [enuL_get] at hi
    obtain ⟨y, hy, rfl⟩ := Option.map_eq_some_iff.mp hi
    have := h.2 i y hy
    rw [piswithin_t, Rt.bind_ok]
    dsimp only
    rw [decide_eq_true (by omega)]
theorem pchecknumber_t {c k : Int} (h : 0 ≤ k ∧ k ≤ c) : pchecknumber c k = .ok () := by
  unfold pchecknumber
  rw [piswithin_t, Rt.bind_ok, decide_eq_true (by omega)]
  rfl
/-- a stand for a bound -/
def StdOk (b : Int) (st : List Int) : Prop := (st.length : Int) ≤ b ∧ ∀ (p : Nat) (v : Int), st[p]? = some v → 0 ≤ v ∧ v ≤ p
theorem pcheckstand_UI_I_I_UI_I_t {ns : List Int} {c b k : Int} {st : List Int} (h : Lps ns) (hc : 2 ≤ c ∧ c ≤ 4) (hb : 1 ≤ b ∧ b ≤ 60) (hs : StdOk b st) (hk : 0 ≤ k ∧ k ≤ c) : pcheckstand_UI_I_I_UI_I ns c b st k = .ok () := by
  unfold pcheckstand_UI_I_I_UI_I
  rw [pcheckgame_UI_I_I_t h hc hb, Rt.bind_ok, pisstand_I_UI_t hs, Rt.bind_ok, if_neg (by simp), pchecknumber_t hk, Rt.bind_ok]
theorem plineof_I_UI_I_t {b k : Int} {st : List Int} (hs : (st.length : Int) ≤ b) (hk : 0 ≤ k) : plineof_I_UI_I b st k = .ok (up b st.length k.toNat) := by
  unfold plineof_I_UI_I up
  congr 1
  rw [Int.min_def]
  split <;> split <;> omega
theorem pspread_I_UI_I_t {b k : Int} {st : List Int} (hb : b ≤ 60) (hs : (st.length : Int) ≤ b) (hk : 0 ≤ k) : pspread_I_UI_I b st k = .ok (sprL st (up b st.length k.toNat)) := by
  have hu : (st.length : Int) ≤ up b st.length k.toNat ∧ up b st.length k.toNat ≤ b + 1 := by unfold up; split <;> omega
  have hl := sprL_len (st := st) (u := up b st.length k.toNat) (b := b.toNat) (by omega) (by omega)
  unfold pspread_I_UI_I
  rw [lete_eq, plineof_I_UI_I_t hs hk, Rt.bind_ok, rng_ok (by omega), Rt.bind_ok]
  unfold sprL at hl ⊢
  rw [List.length_append] at hl
  rw [cat_ok (by omega), Rt.bind_ok]
theorem playingsofstand_UI_I_UI_I_t {ns : List Int} {b k : Int} {st : List Int} (hn : ns.length ≤ 8) (hb : b ≤ 60) (hs : (st.length : Int) ≤ b) (hk : 0 ≤ k) : playingsofstand_UI_I_UI_I ns b st k = .ok (layZ ns (sprL st (up b st.length k.toNat))) := by
  have hu := up_in (k := k.toNat) hs
  have hsl := sprL_len (st := st) (u := up b st.length k.toNat) (b := 60) (by omega) (by omega)
  unfold playingsofstand_UI_I_UI_I
  rw [pspread_I_UI_I_t hb hs hk, Rt.bind_ok]
  generalize sprL st (up b st.length k.toNat) = sp at hsl
  rw [lay_loop (ns := ns) hn (g := fun pl w s => lete (w.map fun x => x.2) fun u => ((forS (enuL 0 ns) s fun x s => (if ((decide (x.2 ≤ pl)) && (!memB x.1 u)) = true then ((cat w [(pl, x.1)]).bind fun a => ((push s a).bind fun v => .ok v)) else .ok s)).bind fun s => .ok s)) (fun pl W => ?_) (fun pl w s hw hl => ?_) (by omega), Rt.bind_ok, layL_srt, Rt.bind_ok]
  · rfl
  · cases forS W [] (fun w s => lete (w.map fun x => x.2) fun u => ((forS (enuL 0 ns) s fun x s => (if ((decide (x.2 ≤ pl)) && (!memB x.1 u)) = true then ((cat w [(pl, x.1)]).bind fun a => ((push s a).bind fun v => .ok v)) else .ok s)).bind fun s => .ok s)) <;> rfl
  · rw [lete_eq, enuL_rng, forS_grow (N := 15999999) (g := fun x => if vl ns x.1 ≤ pl ∧ x.1 ∉ w.map (·.2) then [w ++ [(pl, x.1)]] else []) _ _ (fun x hx s hl => ?_) ?_, Rt.bind_ok]
    · unfold extW
      rw [List.flatMap_map]
    · have := flatMap_len (m := 1) (g := fun x : Int × Int => if vl ns x.1 ≤ pl ∧ x.1 ∉ w.map (·.2) then [w ++ [(pl, x.1)]] else []) ((rngL 0 (ns.length : Int)).map fun k => (k, vl ns k)) fun x _ => by
        split
        · exact Nat.le_refl 1
        · exact Nat.zero_le 1
      rw [List.length_map, rngL_len] at this
      omega
    · obtain ⟨y, hy, rfl⟩ := List.mem_map.mp hx
      dsimp only
      by_cases c : vl ns y ≤ pl ∧ y ∉ w.map (·.2)
      · rw [if_pos c, if_pos (by simp only [Bool.and_eq_true, decide_eq_true_eq, Bool.not_eq_true', memB_no]; exact c)]
        rw [cat_ok (by simp; omega), Rt.bind_ok, push_ok (by omega), Rt.bind_ok]
      · rw [if_neg c, if_neg (by simp only [Bool.and_eq_true, decide_eq_true_eq, Bool.not_eq_true', memB_no]; exact c), List.append_nil]
theorem playingsout_UI_I_I_UI_I_t {ns : List Int} {c b k : Int} {st : List Int} (h : Lps ns) (hc : 2 ≤ c ∧ c ≤ 4) (hb : 1 ≤ b ∧ b ≤ 60) (hs : StdOk b st) (hk : 0 ≤ k ∧ k ≤ c) : playingsout_UI_I_I_UI_I ns c b st k = .ok (layZ ns (sprL st (up b st.length k.toNat))) := by
  unfold playingsout_UI_I_I_UI_I
  rw [pcheckstand_UI_I_I_UI_I_t h hc hb hs hk, Rt.bind_ok, playingsofstand_UI_I_UI_I_t h.2.1 hb.2 hs.1 hk.1, Rt.bind_ok]
theorem fis_t (n : Nat) (x y : Int) : fis (n + 1) x y = .ok (decide (x = y)) := by
  rw [show fis (n + 1) x y = .ok (decide (false = false) && decide (x = y)) from rfl]
  simp
theorem fis_PIIe_PIIe_t (n : Nat) (x : Int × Int) : fis_PIIe_PIIe (n + 1 + 1) x x = .ok true := by
  unfold fis_PIIe_PIIe
  dsimp only
  rw [if_pos rfl, if_neg (by simp), if_pos (by simp)]
  show ((mapR (fun y : Int × Int => (fis (n + 1) y.1 y.2).bind fun a => Rt.ok a) [(x.1, x.1), (x.2, x.2)]).bind _).bind _ = _
  rw [mapR_ok (g := fun _ => true) _ fun y hy => by
    simp only [List.mem_cons, List.not_mem_nil, or_false] at hy
    rcases hy with q | q <;> subst q <;> (dsimp only; rw [fis_t, Rt.bind_ok]; simp)]
  rfl
theorem zip_same46 {A : Type} : ∀ (xs : List A) (x : A × A), x ∈ xs.zip xs → x.1 = x.2
  | [], _, h => by cases h
  | y :: xs, x, h => by
    rw [List.zip_cons_cons] at h
    rcases List.mem_cons.mp h with rfl | h
    · rfl
    · exact zip_same46 xs x h
theorem all_true46 {A : Type} (l : List A) : (l.map fun _ => true).all id = true := by simp
theorem fis_UPIIe_WPIIe_t (n : Nat) (xs : List (Int × Int)) : fis_UPIIe_WPIIe (n + 1 + 1 + 1) xs xs = .ok true := by
  unfold fis_UPIIe_WPIIe
  dsimp only
  rw [if_pos rfl, if_neg (by simp), if_pos (by simp), mapR_ok (g := fun _ => true) _ fun x hx => by rw [zip_same46 xs x hx, fis_PIIe_PIIe_t, Rt.bind_ok], Rt.bind_ok, all_true46, Rt.bind_ok]
theorem fis_LUPIIe_LWPIIe_t (n : Nat) (xs : List (List (Int × Int))) : fis_LUPIIe_LWPIIe (n + 1 + 1 + 1 + 1) xs xs = .ok true := by
  unfold fis_LUPIIe_LWPIIe
  dsimp only
  rw [if_pos rfl, if_neg (by simp), if_pos (by simp), mapR_ok (g := fun _ => true) _ fun x hx => by rw [zip_same46 xs x hx, fis_UPIIe_WPIIe_t, Rt.bind_ok], Rt.bind_ok, all_true46, Rt.bind_ok]
theorem fshuffled_t {T : Tp} {n : Nat} (hn : n ≤ 8) (ht : TapeV T) : wr (fshuffled n T) fun p => p.1.Perm (rngL 0 n) ∧ TapeV p.2 := by
  unfold fshuffled
  rw [rng_ok (by omega), Rt.bind_ok]
  refine wr_b (wr_forS (Q := fun s : List Int × Tp => s.1.Perm (rngL 0 n) ∧ TapeV s.2) (fun i (s : List Int × Tp) => s.1.Perm (rngL 0 i) ∧ TapeV s.2) _ 0 _ ⟨by show List.Perm [] (rngL 0 ((0 : Nat) : Int)); rw [show rngL 0 ((0 : Nat) : Int) = [] from rngL_self 0], ht⟩ (fun i x s hxi hI => ?_) fun s hI => ?_) fun s hs => (wr_ok _).mpr hs
  · rw [Nat.zero_add] at hI ⊢
    obtain ⟨h1, h2⟩ := hI
    have hxe := rngL_get hxi
    have hl : s.1.length = i := by rw [h1.length_eq, rngL_len]; omega
    have hi : i < n := by have := (List.getElem?_eq_some_iff.mp hxi).1; rw [rngL_len] at this; omega
    refine wr_b (pick_wr h2 (by omega) (by omega)) fun ⟨j, T4⟩ ⟨hj, t4⟩ => ?_
    dsimp only at hj t4 ⊢
    rw [show insAt s.1 j x = .ok (s.1.take j.toNat ++ [x] ++ s.1.drop j.toNat) from if_pos ⟨by omega, by omega, by omega⟩, Rt.bind_ok]
    refine (wr_ok _).mpr ⟨?_, t4⟩
    dsimp only
    rw [show ((i + 1 : Nat) : Int) = (i : Int) + 1 by omega, rngL_push (by omega)]
    have e : x = (i : Int) := by omega
    rw [e]
    refine List.Perm.trans ?_ (h1.append_right [(i : Int)])
    rw [List.append_assoc]
    have := (List.perm_append_comm (l₁ := [(i : Int)]) (l₂ := s.1.drop j.toNat)).append_left (s.1.take j.toNat)
    rw [← List.append_assoc (s.1.take j.toNat) (s.1.drop j.toNat), List.take_append_drop] at this
    exact this
  · obtain ⟨h1, h2⟩ := hI
    rw [Nat.zero_add, rngL_len] at h1
    rw [show (((((n : Int) - 0).toNat) : Nat) : Int) = (n : Int) by omega] at h1
    exact ⟨h1, h2⟩
theorem fturned_UI_I_I_UI_I_LWPIIe_LI_t {ns od : List Int} {c b k : Int} {st : List Int} (h : Lps ns) (hc : 2 ≤ c ∧ c ≤ 4) (hb : 1 ≤ b ∧ b ≤ 60) (hs : StdOk b st) (hk : 0 ≤ k ∧ k ≤ c) (hp : od.Perm (rngL 0 ns.length)) : fturned_UI_I_I_UI_I_LWPIIe_LI ns c b st k (layZ ns (sprL st (up b st.length k.toNat))) od = .ok true := by
  have hl : od.length = ns.length := by rw [hp.length_eq, rngL_len]; omega
  have hin : ∀ x ∈ od, 0 ≤ x ∧ x < ns.length := fun x hx => rngL_mem.mp (hp.mem_iff.mp hx)
  have hL : Lps (od.map (vl ns)) := ⟨by rw [List.length_map, hl]; exact h.1, by rw [List.length_map, hl]; exact h.2.1, fun x hx => by
    obtain ⟨y, hy, rfl⟩ := List.mem_map.mp hx
    exact vl_pos h (hin y hy)⟩
  unfold fturned_UI_I_I_UI_I_LWPIIe_LI
  rw [mapR_ok (g := vl ns) _ fun x hx => by rw [idx_vl (hin x hx), Rt.bind_ok], Rt.bind_ok, playingsout_UI_I_I_UI_I_t hL hc hb hs hk, Rt.bind_ok]
  have htn := layZ_turn (ns := ns) (od := od) (sp := sprL st (up b st.length k.toNat)) hp
  have hlen := layZ_len hL.2.1 (sprL st (up b st.length k.toNat))
  have hmem : ∀ w ∈ layZ (od.map (vl ns)) (sprL st (up b st.length k.toNat)), LayOk (od.map (vl ns)) (sprL st (up b st.length k.toNat)) w := fun w hw => layZ_mem.mp hw
  generalize layZ (od.map (vl ns)) (sprL st (up b st.length k.toNat)) = W at htn hlen hmem
  rw [forS_grow (N := 15999999) (g := fun w => [w.map fun q => (q.1, vl od q.2)]) _ _ (fun w hw s hsl => ?_) ?_, Rt.bind_ok, List.nil_append, flatMap_one]
  · have hsrt : srtH (ltP ltI ltI) (W.map fun w => w.map fun q => (q.1, vl od q.2)) = .ok (srt (ltL (ltP ltI ltI)) (W.map fun w => w.map fun q => (q.1, vl od q.2))) := by
      unfold srtH
      rw [if_pos]
      cases hsp : sprL st (up b st.length k.toNat) with
      | nil =>
        refine .inl ?_
        rw [List.length_map]
        rw [hsp] at htn
        have := congrArg List.length htn
        rw [srt_length, List.length_map] at this
        rw [this]
        unfold layZ
        rw [srt_length]
        exact Nat.le_refl 1
      | cons x r =>
        refine .inr fun w hw e => ?_
        obtain ⟨w0, h0, rfl⟩ := List.mem_map.mp hw
        have := (hmem w0 h0).len
        rw [hsp, List.map_eq_nil_iff.mp e] at this
        cases this
    rw [hsrt, Rt.bind_ok, htn]
    simp
  · rw [flatMap_one, List.length_map]
    show 0 + _ ≤ _
    omega
  · rw [mapR_ok (g := fun q => (q.1, vl od q.2)) _ fun q hq => by
      have := ((hmem w hw).2.2 q hq).1
      rw [List.length_map] at this
      rw [idx_vl this, Rt.bind_ok], Rt.bind_ok, push_ok (by omega), Rt.bind_ok]
theorem law_ok (sc : List Int) (T : Tp) (ht : TapeV T) : wr (flaw sc T) fun b => b.1 = true := by
  unfold flaw
  refine wr_b (wr_forR (Q := fun o => match o with | .inl s => TapeV s | .inr _ => False) (fun _ s => TapeV s) _ 0 _ ht (fun i x s _ ts => ?_) fun s ts => ts) fun o ho => ?_
  · refine wr_b (fgame_t ts) fun ⟨⟨ns, c, b⟩, T1⟩ ⟨⟨hn, hc, hb⟩, t1⟩ => ?_
    dsimp only at hn hc hb t1 ⊢
    have hL : Lps ns := ⟨hn.1.1, hn.1.2, hn.2⟩
    refine wr_b (fstand_UI_I_t hn.1.2 (fun x hx => (hn.2 x hx).1) hb t1) fun ⟨st, T2⟩ ⟨hs, t2⟩ => ?_
    dsimp only at hs t2 ⊢
    rw [rng_ok (by omega), Rt.bind_ok]
    refine wr_b (wr_forR (Q := fun o => match o with | .inl s => TapeV s | .inr _ => False) (fun _ s => TapeV s) _ 0 _ t2 (fun i x s hx ts => ?_) fun s ts => ts) fun o ho => ?_
    · have hx := rngL_get hx
      rw [fatswitch_I_UI_I_t hb.2 hs.1 (by omega), Rt.bind_ok]
      split
      · exact (wr_ok _).mpr ts
      rw [falllayings_UI_I_UI_I_t hn.1.2 hb.2 hs.1 (by omega), Rt.bind_ok, playingsout_UI_I_I_UI_I_t hL hc hb hs (by omega), Rt.bind_ok]
      have hfis := fis_LUPIIe_LWPIIe_t 36 (layZ ns (sprL st (up b st.length x.toNat)))
      have hlen := layZ_len hn.1.2 (sprL st (up b st.length x.toNat))
      rw [if_neg (by simp), hfis]
      show wr ((((Rt.ok true).bind fun a => Rt.ok (!a)).bind fun b => Rt.ok b).bind _) _
      rw [Rt.bind_ok, Rt.bind_ok, Rt.bind_ok, if_neg (by simp), push_ok (by rw [List.length_map]; omega), Rt.bind_ok, Rt.bind_ok, show fis_LUPIIe_LWPIIe 40 _ _ = _ from hfis, Rt.bind_ok, if_neg (by simp)]
      refine wr_b (fshuffled_t hn.1.2 ts) fun ⟨od, T3⟩ ⟨hp, t3⟩ => ?_
      dsimp only at hp t3 ⊢
      rw [fturned_UI_I_I_UI_I_LWPIIe_LI_t hL hc hb hs (by omega) hp, Rt.bind_ok, if_neg (by simp)]
      exact (wr_ok _).mpr t3
    · cases o with
      | inr v => exact ho.elim
      | inl s => exact (wr_ok _).mpr ho
  · cases o with
    | inr v => exact ho.elim
    | inl s => exact (wr_ok _).mpr rfl
theorem law_true : ∀ ns : List Int, ns.length ≤ 63 → ∃ T, M_law [.scr ns] none = .ok (.val (.bl true), T) := law_of law_ok
end Gk46
open PySem PySem.W PySem.Calls PyProof.Rows
theorem PySem.Challenge.cw_loopstore_k46_whole_layings_out_by_own_t_holds : PySem.Challenge.rw_loopstore_k46_whole_layings_out_by_own_t.Holds := by
  w_on; o_law
  refine HandSHeadRun.head_any (r := OpenLaw.row PySem.Challenge.rw_loopstore_k46_whole_layings_out_by_own_t) (q := view (OpenLaw.row PySem.Challenge.rw_loopstore_k46_whole_layings_out_by_own_t).prog [41]) (H := Gk46.hk) (ob := Gk46.ob) (M := 4000) (loose := Gk46.loose) (d := HandSHeadRun.topDef (OpenLaw.row PySem.Challenge.rw_loopstore_k46_whole_layings_out_by_own_t).prog 41) (kwd := []) Gk46.ob_eq
    (by kernel_rfl) (fun s => by kernel_rfl) Gk46.run (by kernel_rfl) (by kernel_rfl) (by kernel_rfl) (by rfl) (by first | assumption | decide +kernel) (by decide +kernel) ⟨rfl, rfl, rfl, rfl, rfl, by decide +kernel⟩ ?hw ?hc
  case hw => w_witness2
  case hc =>
    exact Pu.walkX (l := PySem.Challenge.rw_loopstore_k46_whole_layings_out_by_own_t) (k := 42) (x := "_law_script") (M := Gk46.M_law) rfl (by kernel_rfl) ⟨rfl, by decide, by decide⟩ (by kernel_rfl) Gk46.law_true fun K c => Gk46.fd_law c
