import PyProof.Rows.All
import Wide.All
import OpenK.AllK
import Wide.FinOn
import HandS.ForMost
import HandS.Exc
import HandS.TryOnly
import HandS.ExcOwn
import HandS.WordsExc
import HandS.TupAny
import HandS.Deep
import HandS.Lambda
import HandS.Words
import HandS.Defaults
import HandS.Head0
import HandS.Head1
import HandS.Head2
import HandS.HeadEnd
import HandS.HeadHook1
import HandS.HeadHook2
import HandS.HeadHook3
import HandS.HeadHook4
import HandS.TupMul
import HandS.IsInst
import HandS.Small
import HandS.SortInts
import HandS.TupLe
import HandS.More
import HandS.Style
import PyProof.DictMoreH
import HandS.DictTup
import HandS.SetFor
import HandS.Flow
import HandS.Text
import KE.KEqDict
import PyProof.NeKinds
import HandS.Conv
import HandS.SortKw
import KE.SortKeyHeap
import HandS.HeadWalk
import PySem.Challenge.RW_steadhold_k36_rings_and_regions_of_the_n
set_option Elab.async false
set_option linter.all false
set_option maxRecDepth 100000
set_option autoImplicit false
/-! PyM: a plain model of the program: values, heap, results; and how it stands to the layer's readings. -/
namespace PyM
open PySem L2

inductive Val where
  | non | bl (b : Bool) | int (i : Int) | str (n : Nat) | tup (xs : List Val) | ref (n : Nat)
inductive Obj where
  | lst (xs : List Val) | fls (xs : List Val) | dct (kvs : List (Val × Val)) | dcT (kvs : List (Val × Val)) | fdc (kvs : List (Val × Val)) | fdT (kvs : List (Val × Val)) | tpl (xs : List Val) | ins (c : Nat) (fs : List (Nat × Val))
abbrev Heap := List Obj
inductive Res (α : Type) where
  | ok (a : α) (h : Heap) | raised (c : Nat) (h : Heap) | stuck
abbrev En := List (Option Val)
inductive RS where
  | nx (s : En) (h : Heap) | rt (v : Val) (h : Heap) | bk (s : En) (h : Heap) | ct (s : En) (h : Heap) | raised (c : Nat) (h : Heap) | stuck

structure Cfg where
  K : PySem.W.Frag
  cls : List Addr
  nms : List Str
  sts : List Str
  tbs : List (Addr × Str) := []

section
variable (G : Cfg) (r : List Addr) (H : Hp)
mutual
inductive VR : Val → V → Prop
  | non : VR .non .non
  | bl (b : Bool) : VR (.bl b) (.bl b)
  | int (i : Int) : VR (.int i) (.int i)
  | str {n : Nat} {x : Str} : G.sts[n]? = some x → VR (.str n) (.str x)
  | tup {xs : List Val} {vs : List V} {a : Addr} : SqT G.K H a vs → VRs xs vs → VR (.tup xs) (.ref a)
  | ref {n : Nat} {a : Addr} : r[n]? = some a → VR (.ref n) (.ref a)
inductive VRs : List Val → List V → Prop
  | nil : VRs [] []
  | cons {x : Val} {v : V} {xs : List Val} {vs : List V} : VR x v → VRs xs vs → VRs (x :: xs) (v :: vs)
end
/-- slots -/
inductive SR : En → St → Prop
  | nil : SR [] []
  | no {o : Option V} {s : En} {t : St} : SR s t → SR (none :: s) (o :: t)
  | so {x : Val} {v : V} {s : En} {t : St} : VR G r H x v → SR s t → SR (some x :: s) (some v :: t)
inductive FR (C : Addr) : List (Nat × Val) → List (Str × V) → Prop
  | nil : FR C [] []
  | cons {f : Nat} {z : Str} {x : Val} {v : V} {fs gs} : G.nms[f]? = some z → NoAttr G.K C z → VR G r H x v → FR C fs gs → FR C ((f, x) :: fs) ((z, v) :: gs)
/-- keys of a dict -/
inductive KR : Val → Key → Prop
  | int (i : Int) : KR (.int i) (.inl i)
  | str {n : Nat} {x : Str} : G.sts[n]? = some x → KR (.str n) (.inr x)
inductive KRs : List Val → List Key → Prop
  | nil : KRs [] []
  | cons {x k xs ks} : KR G x k → KRs xs ks → KRs (x :: xs) (k :: ks)
inductive DR : List (Val × Val) → List (Key × V) → Prop
  | nil : DR [] []
  | cons {k x : Val} {q : Key} {v : V} {d e} : KR G k q → VR G r H x v → DR d e → DR ((k, x) :: d) ((q, v) :: e)
inductive DTR : List (Val × Val) → List (List Key × V) → Prop
  | nil : DTR [] []
  | cons {ks : List Val} {x : Val} {qs : List Key} {v : V} {d e} : KRs G ks qs → VR G r H x v → DTR d e → DTR ((.tup ks, x) :: d) ((qs, v) :: e)
/-- a list that is read alone: the script's -/
def FL (K : PySem.W.Frag) (H : Hp) (a : Addr) (xs : List V) : Prop := (∃ o, H a = some (.frz o (.lst xs))) ∨
  ∃ (o : PySem.Obj) (its : Array Value) (n : Nat), K.lookup a = some o ∧ o.cls = .type "list" ∧ o.dict = none ∧ o.data = .seq its n ∧ its.size ≤ sizeLine ∧ Vals xs its.toList
def isFls : Obj → Bool
  | .fls _ => true
  | _ => false
inductive OR : Obj → Addr → Prop
  | lst {xs vs a} : H a = some (.lst vs) → VRs G r H xs vs → OR (.lst xs) a
  | fls {xs vs a} : FL G.K H a vs → VRs G r H xs vs → OR (.fls xs) a
  | dct {d e a} : H a = some (.dK e) → DR G r H d e → OR (.dct d) a
  | dcT {d e a} : H a = some (.dT e) → DTR G r H d e → OR (.dcT d) a
  | fdc {d e o a} : H a = some (.frz o (.dK e)) → DR G r H d e → OR (.fdc d) a
  | fdT {d e o a} : H a = some (.frz o (.dT e)) → DTR G r H d e → OR (.fdT d) a
  | tpl {xs vs o a} : H a = some (.frz o (.tup vs)) → o.dict = none → VRs G r H xs vs → OR (.tpl xs) a
  | ins {c C dx fs gs a} : G.cls[c]? = some C → Cls G.K C → H a = some (.ins C dx gs) → FR G r H C fs gs → OR (.ins c fs) a
structure HR (h : Heap) : Prop where
  len : r.length = h.length
  nd : ∀ (i j : Nat) (a : Addr) (x y : Obj), h[i]? = some x → h[j]? = some y → r[i]? = some a → r[j]? = some a → isFls x = false → isFls y = false → i = j
  ob : ∀ (n : Nat) (o : Obj) (a : Addr), h[n]? = some o → r[n]? = some a → OR G r H o a
  tb : LamX.Tabs G.tbs H
end

/-- tuples stay -/
structure Stp (K : PySem.W.Frag) (r : List Addr) (H : Hp) (r' : List Addr) (H' : Hp) : Prop where
  pre : ∀ (n : Nat) (a : Addr), r[n]? = some a → r'[n]? = some a
  tup : ∀ a xs, SqT K H a xs → SqT K H' a xs
  frl : ∀ a o xs, H a = some (.frz o xs) → H' a = some (.frz o xs)
  tpl : ∀ a xs, H a = some (.tup xs) → H' a = some (.tup xs)
theorem Stp.refl {K : PySem.W.Frag} {r : List Addr} {H : Hp} : Stp K r H r H := ⟨fun _ _ h => h, fun _ _ h => h, fun _ _ _ h => h, fun _ _ h => h⟩
theorem Stp.trans {K : PySem.W.Frag} {r r1 r2 : List Addr} {H H1 H2 : Hp} (a : Stp K r H r1 H1) (b : Stp K r1 H1 r2 H2) : Stp K r H r2 H2 :=
  ⟨fun n x h => b.pre n x (a.pre n x h), fun x xs h => b.tup x xs (a.tup x xs h), fun x o xs h => b.frl x o xs (a.frl x o xs h), fun x xs h => b.tpl x xs (a.tpl x xs h)⟩

/-- .. weaker: a dict may be unlocked -/
structure Stw (K : PySem.W.Frag) (r : List Addr) (H : Hp) (r' : List Addr) (H' : Hp) : Prop where
  pre : ∀ (n : Nat) (a : Addr), r[n]? = some a → r'[n]? = some a
  tup : ∀ a xs, SqT K H a xs → SqT K H' a xs
  frl : ∀ a o xs, H a = some (.frz o (.lst xs)) → H' a = some (.frz o (.lst xs))
theorem Stp.w {K : PySem.W.Frag} {r r' : List Addr} {H H' : Hp} (s : Stp K r H r' H') : Stw K r H r' H' := ⟨s.pre, s.tup, fun a o xs h => s.frl a o _ h⟩

section
variable {G : Cfg} {r r' : List Addr} {H H' : Hp}
mutual
theorem VR.monow (q : Stw G.K r H r' H') : ∀ (x : Val) (v : V), VR G r H x v → VR G r' H' x v
  | .non, _, .non => .non
  | .bl _, _, .bl b => .bl b
  | .int _, _, .int b => .int b
  | .str _, _, .str e => .str e
  | .tup xs, _, .tup e k => .tup (q.tup _ _ e) (VRs.monow q xs _ k)
  | .ref _, _, .ref e => .ref (q.pre _ _ e)
theorem VRs.monow (q : Stw G.K r H r' H') : ∀ (xs : List Val) (vs : List V), VRs G r H xs vs → VRs G r' H' xs vs
  | [], _, .nil => .nil
  | x :: xs, _, .cons a b => .cons (VR.monow q x _ a) (VRs.monow q xs _ b)
end
theorem SR.monow (q : Stw G.K r H r' H') {s t} (a : SR G r H s t) : SR G r' H' s t := by
  induction a with
  | nil => exact .nil
  | no _ ih => exact .no ih
  | so x _ ih => exact .so (x.monow q) ih
theorem FR.monow (q : Stw G.K r H r' H') {C s t} (a : FR G r H C s t) : FR G r' H' C s t := by
  induction a with
  | nil => exact .nil
  | cons a b c _ ih => exact .cons a b (c.monow q) ih
theorem DR.monow (q : Stw G.K r H r' H') {s t} (a : DR G r H s t) : DR G r' H' s t := by
  induction a with
  | nil => exact .nil
  | cons a c _ ih => exact .cons a (c.monow q) ih
theorem DTR.monow (q : Stw G.K r H r' H') {s t} (a : DTR G r H s t) : DTR G r' H' s t := by
  induction a with
  | nil => exact .nil
  | cons a c _ ih => exact .cons a (c.monow q) ih
theorem FL.sq {K : PySem.W.Frag} {a : Addr} {xs : List V} (f : FL K H a xs) : SqL K H a xs := f.elim (fun q => .inl (.inr q)) .inr
theorem FL.monow (q : Stw G.K r H r' H') {a : Addr} {xs : List V} (f : FL G.K H a xs) : FL G.K H' a xs := f.elim (fun ⟨o, e⟩ => .inl ⟨o, q.frl _ _ _ e⟩) .inr
/-- an object that stands where it stood -/
theorem OR.monow (q : Stw G.K r H r' H') {o a} (x : OR G r H o a) (h : isFls o = false → ∀ u, H a = some u → H' a = some u) : OR G r' H' o a := by
  cases x with
  | lst e k => exact .lst (h rfl _ e) (k.monow q)
  | fls e k => exact .fls (e.monow q) (k.monow q)
  | dct e k => exact .dct (h rfl _ e) (k.monow q)
  | dcT e k => exact .dcT (h rfl _ e) (k.monow q)
  | fdc e k => exact .fdc (h rfl _ e) (k.monow q)
  | fdT e k => exact .fdT (h rfl _ e) (k.monow q)
  | tpl e n k => exact .tpl (h rfl _ e) n (k.monow q)
  | ins a b e k => exact .ins a b (h rfl _ e) (k.monow q)
theorem VR.mono (q : Stp G.K r H r' H') : ∀ (x : Val) (v : V), VR G r H x v → VR G r' H' x v := VR.monow q.w
theorem VRs.mono (q : Stp G.K r H r' H') : ∀ (xs : List Val) (vs : List V), VRs G r H xs vs → VRs G r' H' xs vs := VRs.monow q.w
theorem SR.mono (q : Stp G.K r H r' H') {s t} (a : SR G r H s t) : SR G r' H' s t := a.monow q.w
theorem FR.mono (q : Stp G.K r H r' H') {C s t} (a : FR G r H C s t) : FR G r' H' C s t := a.monow q.w
theorem DR.mono (q : Stp G.K r H r' H') {s t} (a : DR G r H s t) : DR G r' H' s t := a.monow q.w
theorem DTR.mono (q : Stp G.K r H r' H') {s t} (a : DTR G r H s t) : DTR G r' H' s t := a.monow q.w
theorem FL.mono (q : Stp G.K r H r' H') {a : Addr} {xs : List V} (f : FL G.K H a xs) : FL G.K H' a xs := f.monow q.w
theorem OR.mono (q : Stp G.K r H r' H') {o a} (x : OR G r H o a) (h : isFls o = false → ∀ u, H a = some u → H' a = some u) : OR G r' H' o a := x.monow q.w h
theorem OR.there {o a} (x : OR G r H o a) (f : isFls o = false) : ∃ u, H a = some u := by
  cases x with
  | lst e k => exact ⟨_, e⟩
  | fls e k => cases f
  | dct e k => exact ⟨_, e⟩
  | dcT e k => exact ⟨_, e⟩
  | fdc e k => exact ⟨_, e⟩
  | fdT e k => exact ⟨_, e⟩
  | tpl e n k => exact ⟨_, e⟩
  | ins a b e k => exact ⟨_, e⟩

theorem OR.plain {o a} (x : OR G r H o a) (f : isFls o = false) : ∀ u, H a = some u → (∀ ps, u ≠ .tbl ps) ∧ ∀ φ, u ≠ .ext φ := by
  intro u hu
  have key : ∀ w, H a = some w → ((∀ ps, w ≠ .tbl ps) ∧ ∀ φ, w ≠ .ext φ) → (∀ ps, u ≠ .tbl ps) ∧ ∀ φ, u ≠ .ext φ := fun w e z => by
    rw [e] at hu
    cases hu
    exact z
  cases x with
  | lst e k => exact key _ e ⟨fun _ z => (nomatch z), fun _ z => (nomatch z)⟩
  | fls e k => cases f
  | dct e k => exact key _ e ⟨fun _ z => (nomatch z), fun _ z => (nomatch z)⟩
  | dcT e k => exact key _ e ⟨fun _ z => (nomatch z), fun _ z => (nomatch z)⟩
  | fdc e k => exact key _ e ⟨fun _ z => (nomatch z), fun _ z => (nomatch z)⟩
  | fdT e k => exact key _ e ⟨fun _ z => (nomatch z), fun _ z => (nomatch z)⟩
  | tpl e n k => exact key _ e ⟨fun _ z => (nomatch z), fun _ z => (nomatch z)⟩
  | ins a b e k => exact key _ e ⟨fun _ z => (nomatch z), fun _ z => (nomatch z)⟩
/-- the tables stay where something else is written -/
theorem tabs_upd {T : List (Addr × Str)} {a : Addr} {u : HO} (t : LamX.Tabs T H) (h : ∀ w, H a = some w → (∀ ps, w ≠ .tbl ps) ∧ ∀ φ, w ≠ .ext φ) : LamX.Tabs T (upd H a u) := fun p hp => by
  obtain ⟨ps, h1, h2, h3⟩ := t p hp
  refine ⟨ps, ?_, h2, fun pos cv hc => ?_⟩
  · rw [upd_ne (fun e => (h _ (by rw [← e]; exact h1)).1 ps rfl)]
    exact h1
  · obtain ⟨c, e1, e2⟩ := h3 pos cv hc
    refine ⟨c, e1, ?_⟩
    rw [upd_ne (fun e => (h _ (by rw [← e]; exact e2)).2 _ rfl)]
    exact e2
theorem tabs_new {T : List (Addr × Str)} {a : Addr} {u : HO} (t : LamX.Tabs T H) (h : H a = none) : LamX.Tabs T (upd H a u) := tabs_upd t fun w e => by
  rw [h] at e
  cases e

theorem HR.at {h : Heap} (R : HR G r H h) {n : Nat} {o : Obj} (e : h[n]? = some o) : ∃ a, r[n]? = some a ∧ OR G r H o a := by
  have hl : n < r.length := by
    rw [R.len]
    exact (List.getElem?_eq_some_iff.mp e).1
  exact ⟨r[n], List.getElem?_eq_getElem hl, R.ob n o _ e (List.getElem?_eq_getElem hl)⟩

/-- tuples and what is frozen stay, where what is written is another thing -/
def NotT : HO → Prop
  | .tup _ => False
  | .frz _ _ => False
  | _ => True
theorem notT_ne {a b : Addr} {o : HO} (hn : ∀ o, H a = some o → NotT o) (h : H b = some o) (hf : ¬ NotT o) : b ≠ a := fun e => by
  subst e
  exact hf (hn _ h)
theorem sqt_upd {K : PySem.W.Frag} {a b : Addr} {u : HO} {xs : List V} (hn : ∀ o, H a = some o → NotT o) (h : SqT K H b xs) : SqT K (upd H a u) b xs := by
  rcases h with (h | ⟨o, h⟩) | h
  · exact .inl (.inl (by rw [upd_ne (notT_ne hn h (fun z => z))]; exact h))
  · exact .inl (.inr ⟨o, by rw [upd_ne (notT_ne hn h (fun z => z))]; exact h⟩)
  · exact .inr h
theorem Stp.upd {K : PySem.W.Frag} {a : Addr} {u : HO} (hn : ∀ o, H a = some o → NotT o) : Stp K r H r (upd H a u) := ⟨fun _ _ h => h, fun _ _ h => sqt_upd hn h, fun b o xs h => by rw [upd_ne (notT_ne hn h (fun z => z))]; exact h, fun b xs h => by rw [upd_ne (notT_ne hn h (fun z => z))]; exact h⟩
theorem notT_none {a : Addr} (hn : H a = none) : ∀ o, H a = some o → NotT o := fun o e => by rw [hn] at e; cases e
theorem Stp.new {K : PySem.W.Frag} {a p : Addr} {u : HO} (hn : H a = none) : Stp K r H (r ++ [p]) (L2.upd H a u) :=
  ⟨fun n a h => by rw [List.getElem?_append_left (List.getElem?_eq_some_iff.mp h).1]; exact h, fun _ _ h => sqt_upd (notT_none hn) h, fun b o xs h => by rw [upd_ne (notT_ne (notT_none hn) h (fun z => z))]; exact h, fun b xs h => by rw [upd_ne (notT_ne (notT_none hn) h (fun z => z))]; exact h⟩
theorem Stp.new0 {K : PySem.W.Frag} {a : Addr} {u : HO} (hn : H a = none) : Stp K r H r (L2.upd H a u) :=
  ⟨fun n a h => h, fun _ _ h => sqt_upd (notT_none hn) h, fun b o xs h => by rw [upd_ne (notT_ne (notT_none hn) h (fun z => z))]; exact h, fun b xs h => by rw [upd_ne (notT_ne (notT_none hn) h (fun z => z))]; exact h⟩

/-- a thing that is no object of ours is laid -/
theorem HR.lay {h : Heap} (R : HR G r H h) {p : Addr} {u : HO} (hp : H p = none) : HR G r (upd H p u) h :=
  ⟨R.len, R.nd, fun n o a e1 e2 => (R.ob n o a e1 e2).mono (Stp.new0 hp) fun _ v e => by rw [upd_ne (ne_of_none e hp)]; exact e, tabs_new R.tb hp⟩
theorem get_snoc {α : Type} {l : List α} {x y : α} {n : Nat} (e : (l ++ [x])[n]? = some y) : (n < l.length ∧ l[n]? = some y) ∨ (n = l.length ∧ x = y) := by
  by_cases h : n < l.length
  · rw [List.getElem?_append_left h] at e
    exact .inl ⟨h, e⟩
  · have := (List.getElem?_eq_some_iff.mp e).1
    have hn : n = l.length := by
      simp at this
      omega
    subst hn
    simp at e
    exact .inr ⟨rfl, e⟩
/-- a new object -/
theorem HR.push {h : Heap} (R : HR G r H h) {p : Addr} {u : HO} {o : Obj} (hp : H p = none) (ho : OR G (r ++ [p]) (upd H p u) o p) : HR G (r ++ [p]) (upd H p u) (h ++ [o]) := by
  have no : ∀ (i : Nat) (x : Obj), h[i]? = some x → r[i]? = some p → isFls x = false → False := fun i x e1 e2 f => by
    obtain ⟨v, hv⟩ := (R.ob i x p e1 e2).there f
    rw [hp] at hv
    cases hv
  refine ⟨by simp [R.len], fun i j a x y e1 e2 e3 e4 f1 f2 => ?_, fun n o' a e1 e2 => ?_, tabs_new R.tb hp⟩
  · rcases get_snoc e1 with ⟨l1, e1⟩ | ⟨l1, e1⟩ <;> rcases get_snoc e2 with ⟨l2, e2⟩ | ⟨l2, e2⟩ <;> rcases get_snoc e3 with ⟨l3, e3⟩ | ⟨l3, e3⟩ <;> rcases get_snoc e4 with ⟨l4, e4⟩ | ⟨l4, e4⟩
    all_goals (have hl := R.len)
    all_goals first
      | omega
      | exact R.nd i j a x y e1 e2 e3 e4 f1 f2
      | (subst e4; exact (no i x e1 e3 f1).elim)
      | (subst e3; exact (no j y e2 e4 f2).elim)
  · have e1' := e1
    clear e1
    rcases get_snoc e1' with ⟨l1, e1⟩ | ⟨l1, e1⟩
    · rcases get_snoc e2 with ⟨l2, e2⟩ | ⟨l2, e2⟩
      · exact (R.ob n o' a e1 e2).mono (Stp.new hp) fun _ v e => by rw [upd_ne (ne_of_none e hp)]; exact e
      · have := R.len
        omega
    · clear e1'
      subst l1
      subst e1
      rw [← R.len] at e2
      simp at e2
      subst e2
      exact ho
/-- an object is written -/
theorem HR.write {h : Heap} (R : HR G r H h) {n : Nat} {a : Addr} {u : HO} {o o0 : Obj} (e0 : h[n]? = some o0) (f0 : isFls o0 = false) (e : r[n]? = some a) (hn : ∀ o, H a = some o → NotT o) (ho : OR G r (upd H a u) o a) (f : isFls o = false) : HR G r (upd H a u) (h.set n o) := by
  have hl : n < h.length := (List.getElem?_eq_some_iff.mp e0).1
  have at_ : ∀ (i : Nat) (x : Obj), (h.set n o)[i]? = some x → isFls x = false → ∃ y, h[i]? = some y ∧ isFls y = false := fun i x e1 f1 => by
    by_cases hm : i = n
    · subst hm
      exact ⟨o0, e0, f0⟩
    · rw [List.getElem?_set_ne (Ne.symm hm)] at e1
      exact ⟨x, e1, f1⟩
  refine ⟨by simp [R.len], fun i j b x y e1 e2 e3 e4 f1 f2 => ?_, fun m o' b e1 e2 => ?_, tabs_upd R.tb ((R.ob n o0 a e0 e).plain f0)⟩
  · obtain ⟨x', e1', f1'⟩ := at_ i x e1 f1
    obtain ⟨y', e2', f2'⟩ := at_ j y e2 f2
    exact R.nd i j b x' y' e1' e2' e3 e4 f1' f2'
  · by_cases hm : m = n
    · subst hm
      rw [e] at e2
      cases e2
      rw [List.getElem?_set_self hl] at e1
      cases e1
      exact ho
    · rw [List.getElem?_set_ne (Ne.symm hm)] at e1
      refine (R.ob m o' b e1 e2).mono (Stp.upd hn) fun f' v q => ?_
      have hb : b ≠ a := fun q => by
        subst q
        exact hm (R.nd m n b o' o0 e1 e0 e2 e f' f0)
      rw [upd_ne hb]
      exact q
end
end PyM

set_option Elab.async false
set_option linter.all false
set_option autoImplicit false
set_option maxHeartbeats 4000000
set_option maxRecDepth 100000
/-! an end by facts at given places -/
namespace PyM
open PySem PySem.Spec PyProof.Rows L2 He
abbrev AlC : Type := AlT × Bool
def obsC (as : List Addr) (fa : List Fa) (fn : List DefD) (ts : List Tab) (ex : PySem.W.Frag → Bool) (g : Addr → Option PySem.Obj) : AlC := (obsT fa fn ts (frG g as), ex (frG g as))
def valC (fn : List DefD) (ts : List Tab) (w : World) : AlC := (valT fn ts w, true)
def hookC (as : List Addr) (fa : List Fa) (fn : List DefD) (ts : List Tab) (ex : PySem.W.Frag → Bool) : PySem.W.Hook where
  α := AlC
  obs := fun s => obsC as fa fn ts ex s.heap.get?
  val := fun w => valC fn ts w
  says := fun w h => ∃ K : PySem.W.Frag, K.In h ∧ SaysT fa fn ts w K ∧ ex K = true
  of := fun _ _ e => ⟨_, frG_in, congrArg (fun z : AlC => z.1) e, congrArg (fun z : AlC => z.2) e⟩
  keeps := fun _ _ _ ⟨K', z1, z2⟩ z3 => ⟨K', PySem.W.Frag.In.keeps z1 z3, z2⟩
theorem obsC_eq {as : List Addr} {fa : List Fa} {fn : List DefD} {ts : List Tab} {ex : PySem.W.Frag → Bool} {g : Addr → Option PySem.Obj} {s : Shared} (h : ∀ a, g a = s.heap.get? a) : obsC as fa fn ts ex g = (hookC as fa fn ts ex).obs s := by
  rw [show g = s.heap.get? from funext h] <;> rfl
/-! constants -/
mutual
def cvB (K : PySem.W.Frag) (sts : List Str) : Val → Value → Bool
  | .non, .none => true
  | .int i, .int j _ => decide (i = j)
  | .str n, .str x _ => decide (sts[n]? = some x)
  | .tup xs, .ref a => (match K.lookup a with
    | some o => (match o.cls with
      | .type c => decide (c = "tuple")
      | _ => false) && (match o.data with
      | .seq its _ => Nat.ble its.size 1000 && cvBs K sts xs its.toList
      | _ => false)
    | none => false)
  | _, _ => false
def cvBs (K : PySem.W.Frag) (sts : List Str) : List Val → List Value → Bool
  | [], [] => true
  | x :: xs, u :: us => cvB K sts x u && cvBs K sts xs us
  | _, _ => false
end
/-- a name of the module holds this -/
def ktB (K : PySem.W.Frag) (sts : List Str) (x : Str) (v : Val) : Bool := match PySem.W.nsIn K mainGlobals x with
  | some (some u) => cvB K sts v u
  | _ => false
/-- the entries of a table of the module -/
def ceB (K : PySem.W.Frag) (sts : List Str) : List (Nat × Val) → List DictEntry → Bool
  | [], [] => true
  | (i, v) :: l, e :: es => (match e.key with
    | .str z _ => decide (sts[i]? = some z)
    | _ => false) && (cvB K sts v e.val && ceB K sts l es)
  | _, _ => false
def kdB (K : PySem.W.Frag) (sts : List Str) (x : Str) (l : List (Nat × Val)) : Bool := match K.lookup (ga K x) with
  | some ⟨.type c, none, .dict es _, sl⟩ => decide (c = "dict") && (sl.isEmpty && (!(ga K x == sysModules) && ceB K sts l es.toList))
  | _ => false
end PyM

set_option Elab.async false
set_option linter.all false
set_option autoImplicit false
set_option maxHeartbeats 4000000
set_option maxRecDepth 100000
/-! the end by facts at given places, some defs' tables among them -/
namespace PyM
open PySem PySem.Spec PyProof.Rows L2 He
def tabL (g : Addr → Option PySem.Obj) (tf : List Defn) (K : PySem.W.Frag) : Bool := tabsB g tf K && tf.all fun p => (K.lookup (cT K p).2).isNone
def obsL (as : List Addr) (fa : List Fa) (fn : List DefD) (ts : List Tab) (tf : List Defn) (ex : PySem.W.Frag → Bool) (g : Addr → Option PySem.Obj) : AlC := (obsT fa fn ts (frG g as), ex (frG g as) && tabL g tf (frG g as))
theorem saysL {as : List Addr} {fa : List Fa} {fn : List DefD} {ts : List Tab} {tf : List Defn} {ex : PySem.W.Frag → Bool} {w : World} {h : PySem.Heap} (e : obsL as fa fn ts tf ex h.get? = valC fn ts w) : SaysX fa fn ts tf ex w h (frG h.get? as) := by
  have e1 : obsT fa fn ts (frG h.get? as) = valT fn ts w := congrArg (fun z : AlC => z.1) e
  have e2 : (ex (frG h.get? as) && tabL h.get? tf (frG h.get? as)) = true := congrArg (fun z : AlC => z.2) e
  obtain ⟨h1, h2⟩ := ba e2
  obtain ⟨h3, h4⟩ := ba h2
  refine ⟨e1, h1, fun p hp => (ba (List.all_eq_true.mp h3 p hp)).1, fun p hp => Option.isNone_iff_eq_none.mp (List.all_eq_true.mp h4 p hp), fun p hp => ?_⟩
  have h5 := (ba (List.all_eq_true.mp h3 p hp)).2
  cases q : h.get? (cT (frG h.get? as) p).2 with
  | none => rw [q] at h5; cases h5
  | some o => rw [q] at h5; rw [emptyTab_eq h5]
def hookL (as : List Addr) (fa : List Fa) (fn : List DefD) (ts : List Tab) (tf : List Defn) (ex : PySem.W.Frag → Bool) : PySem.W.Hook where
  α := AlC
  obs := fun s => obsL as fa fn ts tf ex s.heap.get?
  val := fun w => valC fn ts w
  says := fun w h => ∃ K : PySem.W.Frag, K.In h ∧ SaysX fa fn ts tf ex w h K
  of := fun _ _ e => ⟨_, frG_in, saysL e⟩
  keeps := fun _ _ _ ⟨K, hK, c⟩ k => ⟨K, PySem.W.Frag.In.keeps hK k, ⟨c.t, c.more, c.hd, c.out, fun p hp => k _ _ (c.empty p hp)⟩⟩
theorem obsL_eq {as : List Addr} {fa : List Fa} {fn : List DefD} {ts : List Tab} {tf : List Defn} {ex : PySem.W.Frag → Bool} {g : Addr → Option PySem.Obj} {s : Shared} (h : ∀ a, g a = s.heap.get? a) : obsL as fa fn ts tf ex g = (hookL as fa fn ts tf ex).obs s := by
  have e : g = s.heap.get? := funext h
  rw [e] <;> rfl
theorem code_ofL {K : PySem.W.Frag} {p : Defn} {x qual : Str} {params : Arguments} {body : List Stmt} {scope : Scope} {dvs : List V} {kws : List (Str × V)} {fd : FuncData} (F : FunD K x qual params body scope dvs kws (fAd K p) fd) : fd.code = .ref (codeOf K p) := by
  obtain ⟨oc, od, dV, kV, doc, pm, an, cdv, ct, osl, e, lk, hcd, df, _⟩ := F.ex
  obtain ⟨c, hc⟩ := codeIn_ref hcd
  have e2 : fd.code = .ref c := by rw [e, ← hc] <;> rfl
  rw [e2, codeOf_eq lk e2]
end PyM

set_option maxHeartbeats 0
namespace Lw
open PySem L2 PyM
def top (i : Nat) : Stmt := PySem.Challenge.pw_steadhold_k36_rings_and_regions_of_the_n.main.body.getD i (.Pass ⟨0, 0, 0, 0⟩)
abbrev s__law_next : Stmt := (top 31)
abbrev s_is_number : Stmt := (top 5)
abbrev s_is_word : Stmt := (top 8)
abbrev s_is_test : Stmt := (top 12)
abbrev s_is_filter : Stmt := (top 13)
abbrev s_common : Stmt := (top 16)
abbrev s_Net__common_with_regions : Stmt := (inClass (top 29) 1)
abbrev s_Net___init__ : Stmt := (inClass (top 29) 0)
abbrev s__law_refused : Stmt := (top 37)
abbrev s__law_filter : Stmt := (top 32)
abbrev s__law_meets_two : Stmt := (top 33)
abbrev s_branch_of : Stmt := (top 21)
abbrev s_child_of : Stmt := (top 19)
abbrev s_with_branch : Stmt := (top 22)
abbrev s_with_child : Stmt := (top 20)
abbrev s_with_filter : Stmt := (top 23)
abbrev s_Net_enroll : Stmt := (inClass (top 29) 2)
abbrev s_is_packet : Stmt := (top 11)
abbrev s_holds : Stmt := (top 14)
abbrev s_meets : Stmt := (top 15)
abbrev s__law_enroll : Stmt := (top 34)
abbrev s_names_found : Stmt := (top 25)
abbrev s_found : Stmt := (top 26)
abbrev s_Net_come : Stmt := (inClass (top 29) 3)
abbrev s__law_come : Stmt := (top 35)
abbrev s_Net_is_owner : Stmt := (inClass (top 29) 4)
abbrev s_Net_next : Stmt := (inClass (top 29) 5)
abbrev s__law_take : Stmt := (top 36)
abbrev s_Net_send : Stmt := (inClass (top 29) 9)
abbrev s_without_filter : Stmt := (top 24)
abbrev s_Net_give_up : Stmt := (inClass (top 29) 6)
abbrev s_Net_filters : Stmt := (inClass (top 29) 7)
abbrev s_Net_lost : Stmt := (inClass (top 29) 11)
abbrev s_Net_ring : Stmt := (inClass (top 29) 8)
abbrev s_Net_sent : Stmt := (inClass (top 29) 10)
abbrev s_law : Stmt := (top 38)
def sts : List Str := []
def c_EMPTY : Val := .tup [.tup [], .tup []]
def eFa_0 : List He.Fa := [.glo "_law_next", .glo "is_number", .glo "is_word", .glo "is_test", .glo "is_filter", .glo "common", .meth "Net" "_common_with_regions", .glo "_law_refused", .glo "_law_filter", .glo "_law_meets_two", .glo "branch_of", .glo "child_of", .glo "with_branch", .glo "with_child", .glo "with_filter", .meth "Net" "enroll", .glo "is_packet", .glo "holds", .glo "meets", .glo "_law_enroll"]
def eFa_1 : List He.Fa := [.glo "names_found", .glo "found", .meth "Net" "come", .glo "_law_come", .meth "Net" "is_owner", .meth "Net" "next", .glo "_law_take", .meth "Net" "send", .glo "without_filter", .meth "Net" "give_up", .meth "Net" "filters", .meth "Net" "lost", .meth "Net" "ring", .meth "Net" "sent", .glo "law", .cls "Net", .glo "Net", .mkr "Net", .noat "Net" "gone", .noat "Net" "made"]
def eFa_2 : List He.Fa := [.noat "Net" "missed", .noat "Net" "regions", .noat "Net" "rings", .noat "Net" "rows", .noat "Net" "tree", .free "abs", .free "all", .free "bool", .free "int", .free "isinstance", .free "len", .free "list", .free "range", .free "sorted", .free "tuple", .int "ENVIRONMENTS" 4, .int "FIELDS" 6, .int "RING" 8, .int "TOP" 4294967295, .glo "NotValid"]
def eFa_3 : List He.Fa := [.exc "NotValid", .exm "NotValid" "NotValid" true]
def eFn_0 : List He.DefD := [⟨("_law_next", none), "_law_next", "_law_next", defArgs s__law_next, defBody s__law_next, defScope s__law_next, [], []⟩, ⟨("is_number", none), "is_number", "is_number", defArgs s_is_number, defBody s_is_number, defScope s_is_number, [], []⟩, ⟨("is_word", none), "is_word", "is_word", defArgs s_is_word, defBody s_is_word, defScope s_is_word, [], []⟩, ⟨("is_test", none), "is_test", "is_test", defArgs s_is_test, defBody s_is_test, defScope s_is_test, [], []⟩, ⟨("is_filter", none), "is_filter", "is_filter", defArgs s_is_filter, defBody s_is_filter, defScope s_is_filter, [], []⟩, ⟨("common", none), "common", "common", defArgs s_common, defBody s_common, defScope s_common, [], []⟩, ⟨("Net", some "_common_with_regions"), "_common_with_regions", "Net._common_with_regions", defArgs s_Net__common_with_regions, defBody s_Net__common_with_regions, defScope s_Net__common_with_regions, [], []⟩, ⟨("Net", some "__init__"), "__init__", "Net.__init__", defArgs s_Net___init__, defBody s_Net___init__, defScope s_Net___init__, [], []⟩, ⟨("_law_refused", none), "_law_refused", "_law_refused", defArgs s__law_refused, defBody s__law_refused, defScope s__law_refused, [], []⟩, ⟨("_law_filter", none), "_law_filter", "_law_filter", defArgs s__law_filter, defBody s__law_filter, defScope s__law_filter, [], []⟩]
def eFn_1 : List He.DefD := [⟨("_law_meets_two", none), "_law_meets_two", "_law_meets_two", defArgs s__law_meets_two, defBody s__law_meets_two, defScope s__law_meets_two, [], []⟩, ⟨("branch_of", none), "branch_of", "branch_of", defArgs s_branch_of, defBody s_branch_of, defScope s_branch_of, [], []⟩, ⟨("child_of", none), "child_of", "child_of", defArgs s_child_of, defBody s_child_of, defScope s_child_of, [], []⟩, ⟨("with_branch", none), "with_branch", "with_branch", defArgs s_with_branch, defBody s_with_branch, defScope s_with_branch, [], []⟩, ⟨("with_child", none), "with_child", "with_child", defArgs s_with_child, defBody s_with_child, defScope s_with_child, [], []⟩, ⟨("with_filter", none), "with_filter", "with_filter", defArgs s_with_filter, defBody s_with_filter, defScope s_with_filter, [], []⟩, ⟨("Net", some "enroll"), "enroll", "Net.enroll", defArgs s_Net_enroll, defBody s_Net_enroll, defScope s_Net_enroll, [], []⟩, ⟨("is_packet", none), "is_packet", "is_packet", defArgs s_is_packet, defBody s_is_packet, defScope s_is_packet, [], []⟩, ⟨("holds", none), "holds", "holds", defArgs s_holds, defBody s_holds, defScope s_holds, [], []⟩, ⟨("meets", none), "meets", "meets", defArgs s_meets, defBody s_meets, defScope s_meets, [], []⟩]
def eFn_2 : List He.DefD := [⟨("_law_enroll", none), "_law_enroll", "_law_enroll", defArgs s__law_enroll, defBody s__law_enroll, defScope s__law_enroll, [], []⟩, ⟨("names_found", none), "names_found", "names_found", defArgs s_names_found, defBody s_names_found, defScope s_names_found, [], []⟩, ⟨("found", none), "found", "found", defArgs s_found, defBody s_found, defScope s_found, [], []⟩, ⟨("Net", some "come"), "come", "Net.come", defArgs s_Net_come, defBody s_Net_come, defScope s_Net_come, [], []⟩, ⟨("_law_come", none), "_law_come", "_law_come", defArgs s__law_come, defBody s__law_come, defScope s__law_come, [], []⟩, ⟨("Net", some "is_owner"), "is_owner", "Net.is_owner", defArgs s_Net_is_owner, defBody s_Net_is_owner, defScope s_Net_is_owner, [], []⟩, ⟨("Net", some "next"), "next", "Net.next", defArgs s_Net_next, defBody s_Net_next, defScope s_Net_next, [], []⟩, ⟨("_law_take", none), "_law_take", "_law_take", defArgs s__law_take, defBody s__law_take, defScope s__law_take, [], []⟩, ⟨("Net", some "send"), "send", "Net.send", defArgs s_Net_send, defBody s_Net_send, defScope s_Net_send, [], []⟩, ⟨("without_filter", none), "without_filter", "without_filter", defArgs s_without_filter, defBody s_without_filter, defScope s_without_filter, [], []⟩]
def eFn_3 : List He.DefD := [⟨("Net", some "give_up"), "give_up", "Net.give_up", defArgs s_Net_give_up, defBody s_Net_give_up, defScope s_Net_give_up, [], []⟩, ⟨("Net", some "filters"), "filters", "Net.filters", defArgs s_Net_filters, defBody s_Net_filters, defScope s_Net_filters, [], []⟩, ⟨("Net", some "lost"), "lost", "Net.lost", defArgs s_Net_lost, defBody s_Net_lost, defScope s_Net_lost, [], []⟩, ⟨("Net", some "ring"), "ring", "Net.ring", defArgs s_Net_ring, defBody s_Net_ring, defScope s_Net_ring, [], []⟩, ⟨("Net", some "sent"), "sent", "Net.sent", defArgs s_Net_sent, defBody s_Net_sent, defScope s_Net_sent, [], []⟩, ⟨("law", none), "law", "law", defArgs s_law, defBody s_law, defScope s_law, [], []⟩]
def eNm_0 : List PySem.Str := [("__name__" : PySem.Str), ("SteadError" : PySem.Str), ("NotValid" : PySem.Str), ("ENVIRONMENTS" : PySem.Str), ("is_number" : PySem.Str), ("TOP" : PySem.Str), ("is_word" : PySem.Str), ("FIELDS" : PySem.Str), ("is_packet" : PySem.Str), ("is_test" : PySem.Str), ("is_filter" : PySem.Str), ("holds" : PySem.Str), ("meets" : PySem.Str), ("common" : PySem.Str), ("EMPTY" : PySem.Str), ("child_of" : PySem.Str), ("with_child" : PySem.Str), ("branch_of" : PySem.Str), ("with_branch" : PySem.Str), ("with_filter" : PySem.Str)]
def eNm_1 : List PySem.Str := [("without_filter" : PySem.Str), ("names_found" : PySem.Str), ("found" : PySem.Str), ("RING" : PySem.Str), ("Net" : PySem.Str), ("_law_next" : PySem.Str), ("_law_filter" : PySem.Str), ("_law_meets_two" : PySem.Str), ("_law_enroll" : PySem.Str), ("_law_come" : PySem.Str), ("_law_take" : PySem.Str), ("_law_refused" : PySem.Str)]
def eAs_0 : List Addr := [3, 24, 23, 37, 36, 232, 231, 46, 45, 53, 52, 58, 57, 65, 64, 70, 69, 77, 76, 82, 81, 89, 88, 99, 98, 104, 103, 111, 110, 116, 115, 123, 122, 128, 127, 135, 134, 142, 141, 154]
def eAs_1 : List Addr := [153, 161, 160, 168, 167, 175, 174, 182, 181, 189, 188, 196, 195, 201, 200, 208, 207, 215, 214, 222, 221, 229, 228, 243, 242, 250, 249, 255, 254, 260, 259, 265, 264, 272, 271, 279, 278, 284, 283, 92]
def eAs_2 : List Addr := [91, 90]
def eFa : List He.Fa := eFa_0 ++ (eFa_1 ++ (eFa_2 ++ (eFa_3)))
def eFn : List He.DefD := eFn_0 ++ (eFn_1 ++ (eFn_2 ++ (eFn_3)))
def eNm : List PySem.Str := eNm_0 ++ (eNm_1)
def eAs : List Addr := eAs_0 ++ (eAs_1 ++ (eAs_2))
def eTs : List He.Tab := []
def eTf : List He.Defn := [("with_branch", none), ("with_child", none)]
def eX (K : PySem.W.Frag) : Bool := ktB K sts "EMPTY" c_EMPTY && (decide ((eTf.map fun p => (He.cT K p).2).Nodup))
theorem tabAt {w : World} {K : PySem.W.Frag} {fa : List He.Fa} {fn : List He.DefD} {ts : List He.Tab} (c : He.SaysT fa fn ts w K) (i : Nat) {t : He.Tab} (h : ts[i]? = some t) : He.dicW K (t.1 K) = some (He.keysIn w.params t.2) := by
  have z1 := congrArg (fun z : He.AlT => z.2[i]?) c
  have z2 : (ts.map fun y => He.dicW K (y.1 K))[i]? = (ts.map fun y => some (He.keysIn w.params y.2))[i]? := z1
  simpa [h] using z2
abbrev eR : PySem.W.OpenRow := PySem.W.OpenLaw.row PySem.Challenge.rw_steadhold_k36_rings_and_regions_of_the_n
abbrev eQ : Program := PySem.W.view eR.prog [38]
abbrev eH : PySem.W.Hook := hookL eAs eFa eFn eTs eTf eX
def eO (s : PySem.W.SharedT) : AlC := obsL eAs eFa eFn eTs eTf eX (HandSHeadRun.getT s)
theorem eO_eq (s : PySem.W.SharedT) : eO s = eH.obs s.abs := obsL_eq (HandSHeadRun.getT_eq s)
theorem run_f (w : World) : HandSHeadRun.RunEq eR eQ eH eO 12000 eNm (w.withFollow "special-get-raises" false) := by
  intro os
  kernel_rfl
theorem run_t (w : World) : HandSHeadRun.RunEq eR eQ eH eO 12000 eNm (w.withFollow "special-get-raises" true) := by
  intro os
  kernel_rfl
theorem run_w (w : World) : HandSHeadRun.RunEq eR eQ eH eO 12000 eNm w :=
  PySem.W.byRow2 "special-get-raises" (P := fun w => HandSHeadRun.RunEq eR eQ eH eO 12000 eNm w) run_f run_t w
end Lw

set_option Elab.async false
set_option linter.all false
set_option maxRecDepth 100000
set_option autoImplicit false
namespace PyM
open PySem L2

/-! ### results -/
def Res.bind {α β : Type} (x : Res α) (k : α → Heap → Res β) : Res β := match x with
  | .ok a h => k a h
  | .raised c h => .raised c h
  | .stuck => .stuck
/-- what is wanted of a result, over all ways in which the heap may lie -/
def PostR {α β : Type} (G : Cfg) (R : List Addr → Hp → α → β → Prop) (r : List Addr) (H : Hp) (E : XK) (x : Res α) (Q : β → Hp → Prop) : Prop := match x with
  | .ok a h' => ∀ r' H' b, Stp G.K r H r' H' → HR G r' H' h' → R r' H' a b → Q b H'
  | .raised c h' => ∀ r' H' C, Stp G.K r H r' H' → HR G r' H' h' → G.cls[c]? = some C → E (.ref C) none H'
  | .stuck => False
def PostS (G : Cfg) (r : List Addr) (H : Hp) (E : XK) (x : RS) (D : Ends) : Prop := match x with
  | .nx s h' => ∀ r' H' t, Stp G.K r H r' H' → HR G r' H' h' → SR G r' H' s t → D.nx t H'
  | .bk s h' => ∀ r' H' t, Stp G.K r H r' H' → HR G r' H' h' → SR G r' H' s t → D.bk t H'
  | .ct s h' => ∀ r' H' t, Stp G.K r H r' H' → HR G r' H' h' → SR G r' H' s t → D.ct t H'
  | .rt x h' => ∀ r' H' v, Stp G.K r H r' H' → HR G r' H' h' → VR G r' H' x v → D.rt v H'
  | .raised c h' => ∀ r' H' C, Stp G.K r H r' H' → HR G r' H' h' → G.cls[c]? = some C → E (.ref C) none H'
  | .stuck => False
abbrev BR : List Addr → Hp → Bool → Bool → Prop := fun _ _ a b => a = b
section
variable {G : Cfg} {E : XK} {α β γ δ : Type}
theorem PostR.shift {R : List Addr → Hp → α → β → Prop} {r r1 : List Addr} {H H1 : Hp} {x : Res α} {Q : β → Hp → Prop} (s : Stp G.K r H r1 H1) (p : PostR G R r H E x Q) : PostR G R r1 H1 E x Q := by
  cases x with
  | ok a h => exact fun r' H' b s' => p r' H' b (s.trans s')
  | raised c h => exact fun r' H' C s' => p r' H' C (s.trans s')
  | stuck => exact p
theorem PostS.shift {r r1 : List Addr} {H H1 : Hp} {x : RS} {D : Ends} (s : Stp G.K r H r1 H1) (p : PostS G r H E x D) : PostS G r1 H1 E x D := by
  cases x with
  | nx a h => exact fun r' H' b s' => p r' H' b (s.trans s')
  | bk a h => exact fun r' H' b s' => p r' H' b (s.trans s')
  | ct a h => exact fun r' H' b s' => p r' H' b (s.trans s')
  | rt a h => exact fun r' H' b s' => p r' H' b (s.trans s')
  | raised c h => exact fun r' H' C s' => p r' H' C (s.trans s')
  | stuck => exact p
theorem PostR.seq {R1 : List Addr → Hp → α → β → Prop} {R2 : List Addr → Hp → γ → δ → Prop} {r : List Addr} {H : Hp} {x : Res α} {k : α → Heap → Res γ} {Q : δ → Hp → Prop} {Q' : β → Hp → Prop}
    (p : PostR G R2 r H E (x.bind k) Q) (f : ∀ a h1 r1 H1 b, Stp G.K r H r1 H1 → HR G r1 H1 h1 → R1 r1 H1 a b → PostR G R2 r1 H1 E (k a h1) Q → Q' b H1) : PostR G R1 r H E x Q' := by
  cases x with
  | ok a h => exact fun r' H' b s' hR vR => f a h r' H' b s' hR vR (p.shift s')
  | raised c h => exact p
  | stuck => exact p
theorem PostR.here {R : List Addr → Hp → α → β → Prop} {r : List Addr} {H : Hp} {a : α} {b : β} {h : Heap} {Q : β → Hp → Prop} (p : PostR G R r H E (.ok a h) Q) (hR : HR G r H h) (v : R r H a b) : Q b H := p r H b Stp.refl hR v
end

/-! ### the judgements -/
section
variable (G : Cfg) (E : XK)
structure Rf (t : TE) (m : En → Heap → Res Val) : Prop where
  run : ∀ r H h s σ Q, HR G r H h → SR G r H s σ → PostR G (VR G) r H E (m s h) Q → t σ H Q
structure RfT (t : TT) (m : En → Heap → Res Bool) : Prop where
  run : ∀ r H h s σ Q, HR G r H h → SR G r H s σ → PostR G BR r H E (m s h) Q → t σ H Q
structure RfA (t : TA) (m : En → Heap → Res (List Val)) : Prop where
  run : ∀ r H h s σ Q, HR G r H h → SR G r H s σ → PostR G (VRs G) r H E (m s h) Q → t σ H Q
structure RfS (t : TS) (m : En → Heap → RS) : Prop where
  run : ∀ r H h s σ D, HR G r H h → SR G r H s σ → PostS G r H E (m s h) D → t D σ H
/-- operations by values -/
structure Rf2 (t : R2) (m : Val → Val → Heap → Res Val) : Prop where
  run : ∀ r H h x y v u Q, HR G r H h → VR G r H x v → VR G r H y u → PostR G (VR G) r H E (m x y h) Q → t v u H Q
structure Rf1 (t : V → Hp → VK → Prop) (m : Val → Heap → Res Val) : Prop where
  run : ∀ r H h x v Q, HR G r H h → VR G r H x v → PostR G (VR G) r H E (m x h) Q → t v H Q
structure RfL (t : List V → Hp → VK → Prop) (m : List Val → Heap → Res Val) : Prop where
  run : ∀ r H h xs vs Q, HR G r H h → VRs G r H xs vs → PostR G (VR G) r H E (m xs h) Q → t vs H Q
structure RfM (t : V → List V → Hp → VK → Prop) (m : Val → List Val → Heap → Res Val) : Prop where
  run : ∀ r H h x v xs vs Q, HR G r H h → VR G r H x v → VRs G r H xs vs → PostR G (VR G) r H E (m x xs h) Q → t v vs H Q
variable (X : Cx)
structure ME (e : Expr) (t : TE) (m : En → Heap → Res Val) : Prop where
  pe : PE X e t
  rf : Rf G E t m
structure MT (e : Expr) (t : TT) (m : En → Heap → Res Bool) : Prop where
  pe : PT X e t
  rf : RfT G E t m
structure MW (e : Expr) (t : TT) (m : En → Heap → Res Bool) : Prop where
  pe : PW X e t
  rf : RfT G E t m
structure MA (e : List Expr) (t : TA) (m : En → Heap → Res (List Val)) : Prop where
  pe : PA X e t
  rf : RfA G E t m
structure MC (op : CmpOp) (a b : Expr) (t : TE) (m : En → Heap → Res Val) : Prop where
  pe : PC X op a b t
  rf : Rf G E t m
structure MS (st : Stmt) (t : TS) (m : En → Heap → RS) : Prop where
  pe : PS X st t
  rf : RfS G E t m
structure MSs (st : List Stmt) (t : TS) (m : En → Heap → RS) : Prop where
  pe : PSs X st t
  rf : RfS G E t m
/-- what is known of the context -/
structure XC (k : Nat) : Prop where
  K : X.K = G.K
  calm : X.calm = true
  nd : X.N.Nodup
  room : Room k X.A
  pass : Passes (L2.CX X.prog X.w) X E
  own : PassesOwn (model X.prog X.w) X.A X.env X.xe
end
/-- .. of the strings' table -/
structure Cfg.Ok (G : Cfg) : Prop where
  nn : G.nms.Nodup
  nd : G.sts.Nodup
  ok : ∀ x ∈ G.sts, PySem.PyData.strOk x = true

theorem VRs.len {G : Cfg} {r : List Addr} {H : Hp} : ∀ (xs : List Val) (vs : List V), VRs G r H xs vs → xs.length = vs.length
  | [], _, .nil => rfl
  | _ :: xs, _, .cons _ b => congrArg (· + 1) (VRs.len xs _ b)
theorem VRs.get {G : Cfg} {r : List Addr} {H : Hp} : ∀ {xs : List Val} {vs : List V}, VRs G r H xs vs → ∀ {i : Nat} {x : Val}, xs[i]? = some x → ∃ v, vs[i]? = some v ∧ VR G r H x v
  | _, _, .nil, i, x, e => by simp at e
  | _, _, .cons a b, 0, x, e => by
    simp at e
    subst e
    exact ⟨_, rfl, a⟩
  | _, _, .cons a b, i + 1, x, e => by
    obtain ⟨v, h1, h2⟩ := VRs.get b (i := i) (x := x) (by simpa using e)
    exact ⟨v, by simpa using h1, h2⟩
theorem VRs.app {G : Cfg} {r : List Addr} {H : Hp} : ∀ {xs ys : List Val} {vs us : List V}, VRs G r H xs vs → VRs G r H ys us → VRs G r H (xs ++ ys) (vs ++ us)
  | _, _, _, _, .nil, q => q
  | _, _, _, _, .cons a b, q => .cons a (VRs.app b q)
theorem VRs.drop {G : Cfg} {r : List Addr} {H : Hp} : ∀ (n : Nat) {xs : List Val} {vs : List V}, VRs G r H xs vs → VRs G r H (xs.drop n) (vs.drop n)
  | 0, _, _, q => q
  | _ + 1, _, _, .nil => .nil
  | n + 1, _, _, .cons _ b => VRs.drop n b
theorem VRs.take {G : Cfg} {r : List Addr} {H : Hp} : ∀ (n : Nat) {xs : List Val} {vs : List V}, VRs G r H xs vs → VRs G r H (xs.take n) (vs.take n)
  | 0, _, _, q => .nil
  | _ + 1, _, _, .nil => .nil
  | n + 1, _, _, .cons a b => .cons a (VRs.take n b)
theorem VRs.set {G : Cfg} {r : List Addr} {H : Hp} {x : Val} {v : V} (q : VR G r H x v) : ∀ (n : Nat) {xs : List Val} {vs : List V}, VRs G r H xs vs → VRs G r H (xs.set n x) (vs.set n v)
  | _, _, _, .nil => .nil
  | 0, _, _, .cons a b => .cons q b
  | n + 1, _, _, .cons a b => .cons a (VRs.set q n b)
theorem VRs.eraseIdx {G : Cfg} {r : List Addr} {H : Hp} : ∀ (n : Nat) {xs : List Val} {vs : List V}, VRs G r H xs vs → VRs G r H (xs.eraseIdx n) (vs.eraseIdx n)
  | _, _, _, .nil => .nil
  | 0, _, _, .cons a b => b
  | n + 1, _, _, .cons a b => .cons a (VRs.eraseIdx n b)
theorem VRs.dropLast {G : Cfg} {r : List Addr} {H : Hp} : ∀ {xs : List Val} {vs : List V}, VRs G r H xs vs → VRs G r H xs.dropLast vs.dropLast
  | _, _, .nil => .nil
  | _, _, .cons a .nil => .nil
  | _, _, .cons a (.cons b c) => .cons a (VRs.dropLast (.cons b c))
theorem SR.get {G : Cfg} {r : List Addr} {H : Hp} {s : En} {t : St} (q : SR G r H s t) : ∀ {i : Nat} {x : Val}, s[i]? = some (some x) → ∃ v, t[i]? = some (some v) ∧ VR G r H x v := by
  induction q with
  | nil =>
    intro i x e
    simp at e
  | no q ih =>
    intro i x e
    cases i with
    | zero => simp at e
    | succ i => simpa using ih (i := i) (x := x) (by simpa using e)
  | so a q ih =>
    intro i x e
    cases i with
    | zero =>
      simp at e
      subst e
      exact ⟨_, rfl, a⟩
    | succ i => simpa using ih (i := i) (x := x) (by simpa using e)
theorem SR.set {G : Cfg} {r : List Addr} {H : Hp} {s : En} {t : St} (q : SR G r H s t) {x : Val} {v : V} (a : VR G r H x v) : ∀ (i : Nat), SR G r H (s.set i (some x)) (t.set i (some v)) := by
  induction q with
  | nil => exact fun _ => .nil
  | no q ih => exact fun i => match i with
    | 0 => .so a q
    | i + 1 => .no (ih i)
  | so b q ih => exact fun i => match i with
    | 0 => .so a q
    | i + 1 => .so b (ih i)

/-- the most items of a list, a tuple, a dict -/
def lim : Nat := 1000000
theorem lim_le : lim ≤ sizeLine := by rw [sizeLine_eq]; decide
theorem lt_line {n : Nat} (h : n < lim) : n < sizeLine := Nat.lt_of_lt_of_le h lim_le
theorem le_line {n : Nat} (h : n ≤ lim) : n ≤ sizeLine := Nat.le_trans h lim_le

/-! ### the model's words -/
def mV (i : Nat) (s : En) (h : Heap) : Res Val := match s[i]? with
  | some (some x) => .ok x h
  | _ => .stuck
def mK (x : Val) (_ : En) (h : Heap) : Res Val := .ok x h
def mB (f : Val → Val → Heap → Res Val) (ma mb : En → Heap → Res Val) (s : En) (h : Heap) : Res Val := (ma s h).bind fun x h1 => (mb s h1).bind fun y h2 => f x y h2
def mU (f : Val → Heap → Res Val) (ma : En → Heap → Res Val) (s : En) (h : Heap) : Res Val := (ma s h).bind fun x h1 => f x h1
def mL (f : List Val → Heap → Res Val) (ma : En → Heap → Res (List Val)) (s : En) (h : Heap) : Res Val := (ma s h).bind fun x h1 => f x h1
def mM (f : Val → List Val → Heap → Res Val) (mo : En → Heap → Res Val) (ma : En → Heap → Res (List Val)) (s : En) (h : Heap) : Res Val := (mo s h).bind fun x h1 => (ma s h1).bind fun xs h2 => f x xs h2
def mNil (_ : En) (h : Heap) : Res (List Val) := .ok [] h
def mCons (ma : En → Heap → Res Val) (mr : En → Heap → Res (List Val)) (s : En) (h : Heap) : Res (List Val) := (ma s h).bind fun x h1 => (mr s h1).bind fun xs h2 => .ok (x :: xs) h2

section
variable {G : Cfg} {E : XK} {X : Cx} {k : Nat} {a b c e : Expr} {ta tb tc : TE} {ma mb mc : En → Heap → Res Val} {pos : Pos}

/-! ### names and constants -/
theorem me_var (i : Nat) {x : Str} (hN : X.N[i]? = some x := by rfl) (hv : Vis X.env.scope x := by first | exact Or.inl rfl | exact Or.inr (Or.inl rfl) | exact Or.inr (Or.inr rfl)) (hd : (x == ("__debug__" : Str)) = false := by decide) (hcd : (x == ("__classdict__" : Str)) = false := by decide) :
    ME G E X (.Name x pos) (tVar i) (mV i) := by
  refine ⟨pe_var hN hv hd hcd, ⟨fun r H h s σ Q hR sR p => ?_⟩⟩
  unfold mV at p
  split at p
  · rename_i x e
    obtain ⟨v, e', q⟩ := sR.get e
    exact ⟨v, e', p.here hR q⟩
  · exact p.elim
theorem me_int {i : Int} {j} : ME G E X (.Constant (.int i) j pos) (tC (.int i)) (mK (.int i)) := ⟨pe_int, ⟨fun _ _ _ _ _ _ hR _ p => p.here hR (.int i)⟩⟩
theorem me_bl {i : Bool} {j} : ME G E X (.Constant (.bool i) j pos) (tC (.bl i)) (mK (.bl i)) := ⟨pe_bl, ⟨fun _ _ _ _ _ _ hR _ p => p.here hR (.bl i)⟩⟩
theorem me_non {j} : ME G E X (.Constant .none j pos) (tC .non) (mK .non) := ⟨pe_non, ⟨fun _ _ _ _ _ _ hR _ p => p.here hR .non⟩⟩
theorem me_str (n : Nat) {x : Str} {j} (hx : G.sts[n]? = some x) : ME G E X (.Constant (.str x) j pos) (tC (.str x)) (mK (.str n)) := ⟨pe_str, ⟨fun _ _ _ _ _ _ hR _ p => p.here hR (.str hx)⟩⟩
theorem me_glob (i : Int) {x : Str} {t : Tok} (hm : X.mg x = some (.int i t)) (hg : Gl X x := by rfl) (hd : (x == ("__debug__" : Str)) = false := by decide) : ME G E X (.Name x pos) (tC (.int i)) (mK (.int i)) :=
  ⟨pe_glob hg hm ⟨_, rfl⟩ hd, ⟨fun _ _ _ _ _ _ hR _ p => p.here hR (.int i)⟩⟩
theorem me_globS (n : Nat) {x z : Str} {t : Tok} (hm : X.mg x = some (.str z t)) (hx : G.sts[n]? = some z) (hg : Gl X x := by rfl) (hd : (x == ("__debug__" : Str)) = false := by decide) : ME G E X (.Name x pos) (tC (.str z)) (mK (.str n)) :=
  ⟨pe_glob hg hm ⟨_, rfl⟩ hd, ⟨fun _ _ _ _ _ _ hR _ p => p.here hR (.str hx)⟩⟩

/-! ### composition -/
theorem Rf.b2 {r2 : R2} {f : Val → Val → Heap → Res Val} (h1 : Rf G E ta ma) (h2 : Rf G E tb mb) (hf : Rf2 G E r2 f) : Rf G E (tOp r2 ta tb) (mB f ma mb) := by
  refine ⟨fun r H h s σ Q hR sR p => ?_⟩
  refine h1.run r H h s σ _ hR sR (p.seq fun x h1' r1 H1 v s1 hR1 v1 p1 => ?_)
  refine h2.run r1 H1 h1' s σ _ hR1 (sR.mono s1) (p1.seq fun y h2' r2 H2 u s2 hR2 v2 p2 => ?_)
  exact hf.run r2 H2 h2' x y v u Q hR2 (v1.mono s2) v2 p2
theorem Rf.u1 {t : V → Hp → VK → Prop} {f : Val → Heap → Res Val} (h1 : Rf G E ta ma) (hf : Rf1 G E t f) : Rf G E (tUn t ta) (mU f ma) := by
  refine ⟨fun r H h s σ Q hR sR p => ?_⟩
  exact h1.run r H h s σ _ hR sR (p.seq fun x h1' r1 H1 v s1 hR1 v1 p1 => hf.run r1 H1 h1' x v Q hR1 v1 p1)
theorem Rf2.orL {t t' : R2} {f : Val → Val → Heap → Res Val} (h : Rf2 G E t f) : Rf2 G E (fun x y H Q => t x y H Q ∨ t' x y H Q) f := ⟨fun r H h' x y v u Q a b c p => .inl (h.run r H h' x y v u Q a b c p)⟩
theorem ma_nil : MA G E X [] tNil mNil := ⟨pa_nil, ⟨fun _ _ _ _ _ _ hR _ p => p.here hR .nil⟩⟩
theorem ma_cons {es : List Expr} {tr : TA} {mr : En → Heap → Res (List Val)} (ha : ME G E X e ta ma) (hr : MA G E X es tr mr) (hs : starEach (e :: es) X.env = (false, eval e X.env) :: starEach es X.env := by rfl) : MA G E X (e :: es) (tCons ta tr) (mCons ma mr) := by
  refine ⟨pa_cons ha.pe hr.pe hs, ⟨fun r H h s σ Q hR sR p => ?_⟩⟩
  refine ha.rf.run r H h s σ _ hR sR (p.seq fun x h1' r1 H1 v s1 hR1 v1 p1 => ?_)
  refine hr.rf.run r1 H1 h1' s σ _ hR1 (sR.mono s1) (p1.seq fun xs h2' r2 H2 vs s2 hR2 v2 p2 => ?_)
  exact p2.here hR2 (.cons (v1.mono s2) v2)
theorem RfA.l {t : List V → Hp → VK → Prop} {f : List Val → Heap → Res Val} {tA : TA} {mA : En → Heap → Res (List Val)} (h1 : RfA G E tA mA) (hf : RfL G E t f) : Rf G E (fun σ H Q => tA σ H fun vs H1 => t vs H1 Q) (mL f mA) := by
  refine ⟨fun r H h s σ Q hR sR p => ?_⟩
  exact h1.run r H h s σ _ hR sR (p.seq fun x h1' r1 H1 v s1 hR1 v1 p1 => hf.run r1 H1 h1' x v Q hR1 v1 p1)
end
end PyM

set_option Elab.async false
set_option linter.all false
set_option maxRecDepth 100000
set_option autoImplicit false
namespace PyM
open PySem L2

/-! ### data, for == -/
inductive D where
  | non | bl (b : Bool) | int (i : Int) | str (n : Nat) | tup (xs : List D) | lst (xs : List D)
mutual
def deq : D → D → Bool
  | .non, .non => true
  | .bl a, .bl b => a == b
  | .bl a, .int j => (if a then 1 else 0) == j
  | .int i, .bl b => i == (if b then 1 else 0)
  | .int i, .int j => i == j
  | .str x, .str y => x == y
  | .tup xs, .tup ys => deqs xs ys
  | .lst xs, .lst ys => deqs xs ys
  | _, _ => false
def deqs : List D → List D → Bool
  | [], [] => true
  | x :: xs, y :: ys => deq x y && deqs xs ys
  | _, _ => false
end
def optAll {α β : Type} (f : α → Option β) : List α → Option (List β)
  | [] => some []
  | x :: xs => match f x, optAll f xs with
    | some d, some ds => some (d :: ds)
    | _, _ => none
def conv : Nat → Heap → Val → Option D
  | 0, _, _ => none
  | n + 1, h, v => match v with
    | .non => some .non
    | .bl b => some (.bl b)
    | .int i => some (.int i)
    | .str x => some (.str x)
    | .tup xs => (optAll (conv n h) xs).map .tup
    | .ref a => match h[a]? with
      | some (.lst xs) => (optAll (conv n h) xs).map .lst
      | some (.fls xs) => (optAll (conv n h) xs).map .lst
      | _ => none
mutual
def D.py (G : Cfg) : D → PyData
  | .non => .none
  | .bl b => .bool b
  | .int i => .int i
  | .str n => .str (G.sts.getD n ⟨#[]⟩)
  | .tup xs => .tuple (D.pys G xs)
  | .lst xs => .list (D.pys G xs)
def D.pys (G : Cfg) : List D → List PyData
  | [] => []
  | x :: xs => D.py G x :: D.pys G xs
end
mutual
def D.wf (m n : Nat) : D → Bool
  | .str i => decide (i < m)
  | .tup xs => match n with
    | 0 => false
    | n + 1 => D.wfs m n xs
  | .lst xs => match n with
    | 0 => false
    | n + 1 => D.wfs m n xs
  | _ => true
def D.wfs (m n : Nat) : List D → Bool
  | [] => true
  | x :: xs => D.wf m n x && D.wfs m n xs
end
section
variable {G : Cfg}
theorem getD_at {α : Type} {l : List α} {i : Nat} {d : α} (h : i < l.length) : l.getD i d = l[i] := by simp [List.getD, h]
theorem getD_inj (ok : G.Ok) {i j : Nat} (hi : i < G.sts.length) (hj : j < G.sts.length) : (G.sts.getD i ⟨#[]⟩ == G.sts.getD j ⟨#[]⟩) = (i == j) := by
  rw [getD_at hi, getD_at hj]
  by_cases e : i = j
  · subst e
    simp
  · have : G.sts[i] ≠ G.sts[j] := fun q => e ((List.getElem_inj ok.nd).mp q)
    rw [beq_eq_false_iff_ne.mpr this, beq_eq_false_iff_ne.mpr e]
mutual
theorem eqv_py (ok : G.Ok) : ∀ (d e : D) (n m : Nat), d.wf G.sts.length n = true → e.wf G.sts.length m = true → PyData.eqv (d.py G) (e.py G) = deq d e
  | .non, e, n, m, h1, h2 => by cases e <;> simp [D.py, PyData.eqv, deq]
  | .bl a, e, n, m, h1, h2 => by cases e <;> simp [D.py, PyData.eqv, deq]
  | .int a, e, n, m, h1, h2 => by cases e <;> simp [D.py, PyData.eqv, deq]
  | .str a, e, n, m, h1, h2 => by
    cases e with
    | str b =>
      simp only [D.wf, decide_eq_true_eq] at h1 h2
      simp only [D.py, PyData.eqv, deq]
      exact getD_inj ok h1 h2
    | _ => simp [D.py, PyData.eqv, deq]
  | .tup xs, e, n, m, h1, h2 => by
    cases e with
    | tup ys =>
      cases n with
      | zero => simp [D.wf] at h1
      | succ n =>
        cases m with
        | zero => simp [D.wf] at h2
        | succ m =>
          simp only [D.py, PyData.eqv, deq]
          exact eqv_pys ok xs ys n m (by simpa [D.wf] using h1) (by simpa [D.wf] using h2)
    | _ => simp [D.py, PyData.eqv, deq]
  | .lst xs, e, n, m, h1, h2 => by
    cases e with
    | lst ys =>
      cases n with
      | zero => simp [D.wf] at h1
      | succ n =>
        cases m with
        | zero => simp [D.wf] at h2
        | succ m =>
          simp only [D.py, PyData.eqv, deq]
          exact eqv_pys ok xs ys n m (by simpa [D.wf] using h1) (by simpa [D.wf] using h2)
    | _ => simp [D.py, PyData.eqv, deq]
theorem eqv_pys (ok : G.Ok) : ∀ (d e : List D) (n m : Nat), D.wfs G.sts.length n d = true → D.wfs G.sts.length m e = true → PyData.eqvAll (D.pys G d) (D.pys G e) = deqs d e
  | [], [], _, _, _, _ => by simp [D.pys, PyData.eqvAll, deqs]
  | [], _ :: _, _, _, _, _ => by simp [D.pys, PyData.eqvAll, deqs]
  | _ :: _, [], _, _, _, _ => by simp [D.pys, PyData.eqvAll, deqs]
  | x :: xs, y :: ys, n, m, h1, h2 => by
    simp only [D.wfs, Bool.and_eq_true] at h1 h2
    simp only [D.pys, PyData.eqvAll, deqs]
    rw [eqv_py ok x y n m h1.1 h2.1, eqv_pys ok xs ys n m h1.2 h2.2]
end
mutual
theorem lay_py (ok : G.Ok) : ∀ (d : D) (n : Nat), d.wf G.sts.length n = true → (d.py G).canLay0 = true ∧ (d.py G).depth ≤ n
  | .non, n, _ => by simp [D.py, PyData.canLay0, PyData.depth]
  | .bl _, n, _ => by simp [D.py, PyData.canLay0, PyData.depth]
  | .int _, n, _ => by simp [D.py, PyData.canLay0, PyData.depth]
  | .str i, n, h => by
    simp only [D.wf, decide_eq_true_eq] at h
    simp only [D.py, PyData.canLay0, PyData.depth]
    refine ⟨?_, Nat.zero_le _⟩
    rw [getD_at h]
    exact ok.ok _ (List.getElem_mem _)
  | .tup xs, 0, h => by simp [D.wf] at h
  | .lst xs, 0, h => by simp [D.wf] at h
  | .tup xs, n + 1, h => by
    have := lay_pys ok xs n (by simpa [D.wf] using h)
    simp only [D.py, PyData.canLay0, PyData.depth]
    exact ⟨this.1, by omega⟩
  | .lst xs, n + 1, h => by
    have := lay_pys ok xs n (by simpa [D.wf] using h)
    simp only [D.py, PyData.canLay0, PyData.depth]
    exact ⟨this.1, by omega⟩
theorem lay_pys (ok : G.Ok) : ∀ (d : List D) (n : Nat), D.wfs G.sts.length n d = true → PyData.canLayAll0 (D.pys G d) = true ∧ PyData.depthAll (D.pys G d) ≤ n
  | [], n, _ => by simp [D.pys, PyData.canLayAll0, PyData.depthAll]
  | x :: xs, n, h => by
    simp only [D.wfs, Bool.and_eq_true] at h
    have h1 := lay_py ok x n h.1
    have h2 := lay_pys ok xs n h.2
    simp only [D.pys, PyData.canLayAll0, PyData.depthAll, Bool.and_eq_true]
    exact ⟨⟨h1.1, h2.1⟩, by omega⟩
end
theorem shaped_py (ok : G.Ok) {d : D} {n : Nat} (h : d.wf G.sts.length n = true) (hn : n ≤ 64) : SeqAt.shaped (d.py G) = true := by
  have := lay_py ok d n h
  simp only [SeqAt.shaped, Bool.and_eq_true, decide_eq_true_eq]
  exact ⟨this.1, by omega⟩
variable {r : List Addr} {H : Hp} {h : Heap}
theorem optAll_dp {n : Nat} (ih : ∀ x v d, VR G r H x v → conv n h x = some d → Dp G.K H v (d.py G) ∧ d.wf G.sts.length n = true) :
    ∀ (xs : List Val) (vs : List V) (ds : List D), VRs G r H xs vs → optAll (conv n h) xs = some ds → DpAll G.K H vs (D.pys G ds) ∧ D.wfs G.sts.length n ds = true
  | [], _, ds, .nil, e => by
    simp only [optAll, Option.some.injEq] at e
    subst e
    exact ⟨.nil, rfl⟩
  | x :: xs, _, ds, .cons a b, e => by
    simp only [optAll] at e
    split at e
    · rename_i d ds' e1 e2
      cases e
      obtain ⟨h1, h2⟩ := ih _ _ _ a e1
      obtain ⟨h3, h4⟩ := optAll_dp ih xs _ _ b e2
      refine ⟨by rw [D.pys]; exact .cons h1 h3, by simp [D.wfs, h2, h4]⟩
    · cases e
theorem conv_dp (R : HR G r H h) : ∀ (n : Nat) (x : Val) (v : V) (d : D), VR G r H x v → conv n h x = some d → Dp G.K H v (d.py G) ∧ d.wf G.sts.length n = true
  | 0, x, v, d, _, e => by simp [conv] at e
  | n + 1, x, v, d, q, e => by
    have ih := fun x v d => conv_dp R n x v d
    cases q with
    | non => simp only [conv, Option.some.injEq] at e; subst e; exact ⟨by rw [D.py]; exact .non, by simp [D.wf]⟩
    | bl b => simp only [conv, Option.some.injEq] at e; subst e; exact ⟨by rw [D.py]; exact .bl _, by simp [D.wf]⟩
    | int i => simp only [conv, Option.some.injEq] at e; subst e; exact ⟨by rw [D.py]; exact .int _, by simp [D.wf]⟩
    | @str n' z hz =>
      simp only [conv, Option.some.injEq] at e
      subst e
      have hl := (List.getElem?_eq_some_iff.mp hz)
      refine ⟨?_, by simp [D.wf, hl.1]⟩
      rw [D.py, getD_at hl.1, hl.2]
      exact .str _
    | tup hs hv =>
      simp only [conv] at e
      obtain ⟨ds, e1, rfl⟩ := Option.map_eq_some_iff.mp e
      obtain ⟨h1, h2⟩ := optAll_dp ih _ _ _ hv e1
      exact ⟨by rw [D.py]; exact .tup hs h1, by simpa [D.wf] using h2⟩
    | @ref m a ha =>
      simp only [conv] at e
      split at e
      · rename_i xs eo
        obtain ⟨ds, e1, rfl⟩ := Option.map_eq_some_iff.mp e
        cases R.ob _ _ _ eo ha with
        | lst hl hv =>
          obtain ⟨h1, h2⟩ := optAll_dp ih _ _ _ hv e1
          exact ⟨by rw [D.py]; exact .lst (SqL.of hl) h1, by simpa [D.wf] using h2⟩
      · rename_i xs eo
        obtain ⟨ds, e1, rfl⟩ := Option.map_eq_some_iff.mp e
        cases R.ob _ _ _ eo ha with
        | fls hl hv =>
          obtain ⟨h1, h2⟩ := optAll_dp ih _ _ _ hv e1
          exact ⟨by rw [D.py]; exact .lst hl.sq h1, by simpa [D.wf] using h2⟩
      · cases e
end

/-! ### operators by values -/
def oI (g : Int → Int → Val) (x y : Val) (h : Heap) : Res Val := match x, y with
  | .int i, .int j => .ok (g i j) h
  | _, _ => .stuck
def oIC (c : Int → Int → Bool) (g : Int → Int → Val) (x y : Val) (h : Heap) : Res Val := match x, y with
  | .int i, .int j => if c i j = true then .ok (g i j) h else .stuck
  | _, _ => .stuck
def oNeg (x : Val) (h : Heap) : Res Val := match x with
  | .int i => .ok (.int (-i)) h
  | _ => .stuck
def oAdd (x y : Val) (h : Heap) : Res Val := match x, y with
  | .int i, .int j => .ok (.int (i + j)) h
  | .tup xs, .tup ys => if xs.length + ys.length ≤ lim then .ok (.tup (xs ++ ys)) h else .stuck
  | .ref a, .ref b => match h[a]?, h[b]? with
    | some (.lst xs), some (.lst ys) => if xs.length + ys.length ≤ lim then .ok (.ref h.length) (h ++ [.lst (xs ++ ys)]) else .stuck
    | _, _ => .stuck
  | _, _ => .stuck
def repV {α : Type} (n : Nat) (xs : List α) : List α := (List.replicate n xs).flatten
def oMul (x y : Val) (h : Heap) : Res Val := match x, y with
  | .int i, .int j => if -(2 ^ 64) < j ∧ j < 2 ^ 64 ∨ -(2 ^ 64) < i ∧ i < 2 ^ 64 then .ok (.int (i * j)) h else .stuck
  | .tup xs, .int k => if xs.length ≠ 0 ∧ 2 ≤ k ∧ k ≤ 1000 ∧ xs.length ≤ 1000 then .ok (.tup (repV k.toNat xs)) h else .stuck
  | .ref a, .int k => match h[a]? with
    | some (.lst xs) => if k ≤ 100000 ∧ -100000 ≤ k ∧ xs.length * k.toNat ≤ lim then .ok (.ref h.length) (h ++ [.lst (repV k.toNat xs)]) else .stuck
    | _ => .stuck
  | _, _ => .stuck
def oEq (neg : Bool) (x y : Val) (h : Heap) : Res Val := match conv 60 h x, conv 60 h y with
  | some d, some e => .ok (.bl (if neg then !deq d e else deq d e)) h
  | _, _ => .stuck
def oIsN (neg : Bool) (x : Val) (h : Heap) : Res Val := .ok (.bl (match x with
  | .non => !neg
  | _ => neg)) h
section
variable {G : Cfg} {E : XK}
theorem rf_I0 {g : Int → Int → Int} : Rf2 G E (rI0 fun i j => .int (g i j)) (oI fun i j => .int (g i j)) := by
  refine ⟨fun r H h x y v u Q hR a b p => ?_⟩
  cases a with
  | int i => cases b with
    | int j => exact ⟨i, j, rfl, rfl, p.here hR (.int _)⟩
    | _ => exact False.elim p
  | _ => exact False.elim p
theorem rf_B0 {g : Int → Int → Bool} : Rf2 G E (rI0 fun i j => .bl (g i j)) (oI fun i j => .bl (g i j)) := by
  refine ⟨fun r H h x y v u Q hR a b p => ?_⟩
  cases a with
  | int i => cases b with
    | int j => exact ⟨i, j, rfl, rfl, p.here hR (.bl _)⟩
    | _ => exact False.elim p
  | _ => exact False.elim p
theorem rf_IC {C : Int → Int → Prop} {c : Int → Int → Bool} (hc : ∀ i j, c i j = true → C i j) {g : Int → Int → Int} : Rf2 G E (rI C fun i j => .int (g i j)) (oIC c fun i j => .int (g i j)) := by
  refine ⟨fun r H h x y v u Q hR a b p => ?_⟩
  cases a with
  | int i => cases b with
    | int j =>
      simp only [oIC] at p
      split at p
      · rename_i e
        exact ⟨i, j, rfl, rfl, hc _ _ e, p.here hR (.int _)⟩
      · exact p.elim
    | _ => exact False.elim p
  | _ => exact False.elim p
def rAdd (K : PySem.W.Frag) : R2 := fun x y H Q => rI0 (fun i j => .int (i + j)) x y H Q ∨ rCatA K x y H Q ∨ rCat x y H Q
theorem op_addM {X : Cx} : OpR X (binaryOp .Add) (rAdd X.K) := op_add.or (op_catA.or op_cat)
theorem rf_add : Rf2 G E (rAdd G.K) oAdd := by
  refine ⟨fun r H h x y v u Q hR a b p => ?_⟩
  cases a with
  | int i => cases b with
    | int j => exact .inl ⟨i, j, rfl, rfl, p.here hR (.int _)⟩
    | _ => exact False.elim p
  | tup ha va => cases b with
    | tup hb vb =>
      simp only [oAdd] at p
      split at p
      · rename_i hl
        have e1 := va.len
        have e2 := vb.len
        refine .inr (.inl ⟨_, _, _, _, rfl, rfl, ha, hb, le_line (by omega), fun e => ?_, fun _ e => ?_, fun _ _ q hq => ?_⟩)
        · subst e
          cases va
          exact p.here hR (.tup hb vb)
        · subst e
          cases vb
          exact p.here hR (.tup ha (by simpa using va))
        · refine p r _ _ (Stp.new0 hq) (hR.lay hq) (.tup (SqT.of upd_same) ?_)
          exact (va.app vb).mono (Stp.new0 hq)
      · exact p.elim
    | _ => exact False.elim p
  | @ref n a' ea => cases b with
    | @ref m b' eb =>
      simp only [oAdd] at p
      split at p
      · rename_i xs ys h1 h2
        split at p
        · rename_i hl
          cases hR.ob _ _ _ h1 ea with
          | lst ha va => cases hR.ob _ _ _ h2 eb with
            | lst hb vb =>
              have e1 := va.len
              have e2 := vb.len
              refine .inr (.inr ⟨_, _, _, _, rfl, rfl, ha, hb, le_line (by omega), fun q hq => ?_⟩)
              refine p (r ++ [q]) _ _ (Stp.new hq) (hR.push hq (.lst upd_same ((va.app vb).mono (Stp.new hq)))) (.ref ?_)
              rw [← hR.len]
              simp
        · exact p.elim
      · exact p.elim
    | _ => exact False.elim p
  | _ => exact False.elim p
theorem VRs.rep {r : List Addr} {H : Hp} {xs : List Val} {vs : List V} (a : VRs G r H xs vs) : ∀ n : Nat, VRs G r H (repV n xs) ((List.replicate n vs).flatten)
  | 0 => .nil
  | n + 1 => by
    unfold repV
    rw [List.replicate_succ, List.replicate_succ, List.flatten_cons, List.flatten_cons]
    exact a.app (VRs.rep a n)
def rMulA (K : PySem.W.Frag) : R2 := fun x y H Q => rI CMul (fun i j => .int (i * j)) x y H Q ∨ rRep x y H Q ∨ rRepT K x y H Q
theorem op_mulA {X : Cx} : OpR X (binaryOp .Mult) (rMulA X.K) := op_mul.or (op_rep.or op_repT)
theorem rf_mul : Rf2 G E (rMulA G.K) oMul := by
  refine ⟨fun r H h x y v u Q hR a b p => ?_⟩
  cases a with
  | int i => cases b with
    | int j =>
      simp only [oMul] at p
      split at p
      · rename_i e
        exact .inl ⟨i, j, rfl, rfl, e.symm, p.here hR (.int _)⟩
      · exact p.elim
    | _ => exact False.elim p
  | tup ha va => cases b with
    | int k =>
      simp only [oMul] at p
      split at p
      · rename_i e
        have e1 := va.len
        refine .inr (.inr ⟨_, k, _, rfl, rfl, ha, fun z => ?_, e.2.1, e.2.2.1, by rw [← e1]; exact e.2.2.2, fun q hq => ?_⟩)
        · subst z
          exact e.1 e1
        · exact p r _ _ (Stp.new0 hq) (hR.lay hq) (.tup (SqT.of upd_same) ((va.rep _).mono (Stp.new0 hq)))
      · exact p.elim
    | _ => exact False.elim p
  | @ref n a' ea => cases b with
    | int k =>
      simp only [oMul] at p
      split at p
      · rename_i xs h1
        split at p
        · rename_i hl
          cases hR.ob _ _ _ h1 ea with
          | lst ha va =>
            have e1 := va.len
            refine .inr (.inl ⟨_, k, _, rfl, rfl, ha, by omega, by omega, le_line (by rw [← e1]; exact hl.2.2), fun q hq => ?_⟩)
            refine p (r ++ [q]) _ _ (Stp.new hq) (hR.push hq (.lst upd_same ((va.rep _).mono (Stp.new hq)))) (.ref ?_)
            rw [← hR.len]
            simp
        · exact p.elim
      · exact p.elim
    | _ => exact False.elim p
  | _ => exact False.elim p
theorem rf_eq (ok : G.Ok) : Rf2 G E (rEqD G.K) (oEq false) := by
  refine ⟨fun r H h x y v u Q hR a b p => ?_⟩
  simp only [oEq] at p
  split at p
  · rename_i d e h1 h2
    obtain ⟨d1, w1⟩ := conv_dp hR _ _ _ _ a h1
    obtain ⟨d2, w2⟩ := conv_dp hR _ _ _ _ b h2
    refine ⟨_, _, d1, d2, shaped_py ok w1 (by decide), shaped_py ok w2 (by decide), ?_⟩
    rw [eqv_py ok d e _ _ w1 w2]
    exact p.here hR (.bl _)
  · exact p.elim
theorem rf_ne (ok : G.Ok) : Rf2 G E (rNeD G.K) (oEq true) := by
  refine ⟨fun r H h x y v u Q hR a b p => ?_⟩
  simp only [oEq] at p
  split at p
  · rename_i d e h1 h2
    obtain ⟨d1, w1⟩ := conv_dp hR _ _ _ _ a h1
    obtain ⟨d2, w2⟩ := conv_dp hR _ _ _ _ b h2
    refine ⟨_, _, d1, d2, shaped_py ok w1 (by decide), shaped_py ok w2 (by decide), ?_⟩
    rw [eqv_py ok d e _ _ w1 w2]
    exact p.here hR (.bl _)
  · exact p.elim
end
end PyM

set_option Elab.async false
set_option linter.all false
set_option maxRecDepth 100000
set_option autoImplicit false
namespace PyM
open PySem L2

mutual
def Val.dec : (a b : Val) → Decidable (a = b)
  | .non, b => match b with
    | .non => Decidable.isTrue rfl
    | .bl _ | .int _ | .str _ | .tup _ | .ref _ => Decidable.isFalse (fun h => by cases h)
  | .bl x, b => match b with
    | .bl y => if h : x = y then Decidable.isTrue (by rw [h]) else Decidable.isFalse (fun e => by cases e; exact h rfl)
    | .non | .int _ | .str _ | .tup _ | .ref _ => Decidable.isFalse (fun h => by cases h)
  | .int x, b => match b with
    | .int y => if h : x = y then Decidable.isTrue (by rw [h]) else Decidable.isFalse (fun e => by cases e; exact h rfl)
    | .non | .bl _ | .str _ | .tup _ | .ref _ => Decidable.isFalse (fun h => by cases h)
  | .str x, b => match b with
    | .str y => if h : x = y then Decidable.isTrue (by rw [h]) else Decidable.isFalse (fun e => by cases e; exact h rfl)
    | .non | .bl _ | .int _ | .tup _ | .ref _ => Decidable.isFalse (fun h => by cases h)
  | .ref x, b => match b with
    | .ref y => if h : x = y then Decidable.isTrue (by rw [h]) else Decidable.isFalse (fun e => by cases e; exact h rfl)
    | .non | .bl _ | .int _ | .tup _ | .str _ => Decidable.isFalse (fun h => by cases h)
  | .tup xs, b => match b with
    | .tup ys => match Val.decs xs ys with
      | Decidable.isTrue h => Decidable.isTrue (by rw [h])
      | Decidable.isFalse h => Decidable.isFalse (fun e => by cases e; exact h rfl)
    | .non | .bl _ | .int _ | .ref _ | .str _ => Decidable.isFalse (fun h => by cases h)
def Val.decs : (a b : List Val) → Decidable (a = b)
  | [], [] => Decidable.isTrue rfl
  | [], _ :: _ => Decidable.isFalse (fun h => by cases h)
  | _ :: _, [] => Decidable.isFalse (fun h => by cases h)
  | x :: xs, y :: ys => match Val.dec x y, Val.decs xs ys with
    | Decidable.isTrue h, Decidable.isTrue k => Decidable.isTrue (by rw [h, k])
    | Decidable.isFalse h, _ => Decidable.isFalse (fun e => by cases e; exact h rfl)
    | _, Decidable.isFalse k => Decidable.isFalse (fun e => by cases e; exact k rfl)
end
instance : DecidableEq Val := Val.dec

/-! ### dicts with keys that are ints or texts -/
def lookV (d : List (Val × Val)) (k : Val) : Option Val := (d.find? fun kv => decide (kv.1 = k)).map (·.2)
def putV (d : List (Val × Val)) (k v : Val) : List (Val × Val) := if (d.any fun kv => decide (kv.1 = k)) = true then d.map (fun kv => if kv.1 = k then (kv.1, v) else kv) else d ++ [(k, v)]
def dropV (d : List (Val × Val)) (k : Val) : List (Val × Val) := d.filter fun kv => decide (kv.1 ≠ k)
def isKey : Val → Bool
  | .int _ => true
  | .str _ => true
  | _ => false
section
variable {G : Cfg} {r : List Addr} {H : Hp} {h : Heap}
theorem sts_inj (ok : G.Ok) {i j : Nat} {x : Str} (hi : G.sts[i]? = some x) (hj : G.sts[j]? = some x) : i = j := by
  obtain ⟨h1, e1⟩ := List.getElem?_eq_some_iff.mp hi
  obtain ⟨h2, e2⟩ := List.getElem?_eq_some_iff.mp hj
  exact (List.getElem_inj ok.nd).mp (e1.trans e2.symm)
theorem KR.eq (ok : G.Ok) {k k' : Val} {q q' : Key} (a : KR G k q) (b : KR G k' q') : decide (k = k') = decide (q = q') := by
  cases a with
  | int i => cases b with
    | int j => by_cases e : i = j <;> simp [e]
    | str _ => simp
  | str hi => cases b with
    | int j => simp
    | @str m y hj =>
      rename_i n x
      by_cases e : n = m
      · subst e
        rw [hi] at hj
        cases hj
        simp
      · have : x ≠ y := fun z => e (by subst z; exact sts_inj ok hi hj)
        simp [e, this]
theorem KR.of {x : Val} {v : V} (a : VR G r H x v) (hk : isKey x = true) : ∃ q, KR G x q ∧ v = kV q := by
  cases a with
  | int i => exact ⟨_, .int i, rfl⟩
  | str e => exact ⟨_, .str e, rfl⟩
  | _ => simp [isKey] at hk
theorem KR.vr {x : Val} {q : Key} (a : KR G x q) : VR G r H x (kV q) := by
  cases a with
  | int i => exact .int i
  | str e => exact .str e
theorem DR.len {d e} (a : DR G r H d e) : d.length = e.length := by
  induction a with
  | nil => rfl
  | cons _ _ _ ih => simp [ih]
/-- what a key finds -/
theorem DR.look (ok : G.Ok) {d e} (a : DR G r H d e) {k : Val} {q : Key} (b : KR G k q) : (lookV d k = none ∧ valV e q = none) ∨ ∃ x v, lookV d k = some x ∧ valV e q = some v ∧ VR G r H x v := by
  induction a with
  | nil => exact .inl ⟨rfl, rfl⟩
  | @cons k' x q' v d e hk hv _ ih =>
    have e1 := KR.eq ok hk b
    by_cases hh : k' = k
    · have : q' = q := by simpa [hh] using e1
      exact .inr ⟨x, v, by simp [lookV, hh], by simp [valV, this], hv⟩
    · have : ¬ q' = q := by simpa [hh] using e1
      simpa [lookV, valV, List.find?_cons, hh, this] using ih
theorem DR.any (ok : G.Ok) {d e} (a : DR G r H d e) {k : Val} {q : Key} (b : KR G k q) : (d.any fun kv => decide (kv.1 = k)) = (e.any fun kv => decide (kv.1 = q)) := by
  induction a with
  | nil => rfl
  | cons hk _ _ ih => rw [List.any_cons, List.any_cons, ih, KR.eq ok hk b]
theorem DR.app {d e d' e'} (a : DR G r H d e) (b : DR G r H d' e') : DR G r H (d ++ d') (e ++ e') := by
  induction a with
  | nil => exact b
  | cons hk hv _ ih => exact .cons hk hv ih
theorem DR.upd (ok : G.Ok) {d e} (a : DR G r H d e) {k x : Val} {q : Key} {v : V} (b : KR G k q) (c : VR G r H x v) : DR G r H (d.map (fun kv => if kv.1 = k then (kv.1, x) else kv)) (e.map (fun kv => if kv.1 = q then (kv.1, v) else kv)) := by
  induction a with
  | nil => exact .nil
  | @cons k' x' q' v' d e hk hv _ ih =>
    have e1 := KR.eq ok hk b
    rw [List.map_cons, List.map_cons]
    by_cases hh : k' = k
    · have h2 : q' = q := by simpa [hh] using e1
      rw [if_pos hh, if_pos h2]
      exact .cons hk c ih
    · have h2 : ¬ q' = q := by simpa [hh] using e1
      rw [if_neg hh, if_neg h2]
      exact .cons hk hv ih
theorem DR.put (ok : G.Ok) {d e} (a : DR G r H d e) {k x : Val} {q : Key} {v : V} (b : KR G k q) (c : VR G r H x v) : DR G r H (putV d k x) (putK e q v) := by
  unfold putV putK
  rw [a.any ok b]
  by_cases hh : (e.any fun kv => decide (kv.1 = q)) = true
  · rw [if_pos hh, if_pos hh]
    exact a.upd ok b c
  · rw [if_neg hh, if_neg hh]
    exact a.app (.cons b c .nil)
theorem DR.drop (ok : G.Ok) {d e} (a : DR G r H d e) {k : Val} {q : Key} (b : KR G k q) : DR G r H (dropV d k) (dropK e q) := by
  unfold dropV dropK
  induction a with
  | nil => exact .nil
  | @cons k' x' q' v' d e hk hv _ ih =>
    have e1 := KR.eq ok hk b
    by_cases hh : k' = k
    · have h2 : q' = q := by simpa [hh] using e1
      rw [List.filter_cons_of_neg (by simp [hh]), List.filter_cons_of_neg (by simp [h2])]
      exact ih
    · have h2 : ¬ q' = q := by simpa [hh] using e1
      rw [List.filter_cons_of_pos (by simp [hh]), List.filter_cons_of_pos (by simp [h2])]
      exact .cons hk hv ih
end

/-! ### in -/
theorem DGet_kf {H : Hp} {a : Addr} {o : PySem.Obj} {kvs : List (Key × V)} {k : Key} (e : H a = some (.frz o (.dK kvs))) : DGet H a (kV k) (valV kvs k) := .inl ⟨kvs, k, .inr ⟨o, e⟩, rfl, rfl⟩
def rDIn : R2 := fun y x H Q => ∃ a o, x = .ref a ∧ DGet H a y o ∧ Q (.bl o.isSome) H
def rDNotIn : R2 := fun y x H Q => ∃ a o, x = .ref a ∧ DGet H a y o ∧ Q (.bl (!o.isSome)) H
theorem op_din {X : Cx} (hu : X.A.units + 1 < cLine) : OpR X (compareOp .In) rDIn := by
  intro pins s σ H x y v u Q I rx ry ⟨a, o, e, g, q⟩
  subst e
  obtain rfl : u = Value.ref a := ry
  exact d_in hu I g rx fun s3 I3 => ⟨.bl o.isSome, H, I3, rfl, q⟩
theorem op_dnotin {X : Cx} (hu : X.A.units + 1 < cLine) : OpR X (compareOp .NotIn) rDNotIn := by
  intro pins s σ H x y v u Q I rx ry ⟨a, o, e, g, q⟩
  subst e
  obtain rfl : u = Value.ref a := ry
  exact d_notIn hu I g rx fun s3 I3 => ⟨.bl (!o.isSome), H, I3, rfl, q⟩
def isFlat : Val → Bool
  | .non => true
  | .bl _ => true
  | .int _ => true
  | .str _ => true
  | _ => false
def feq : Val → Val → Bool
  | .non, .non => true
  | .bl a, .bl b => a == b
  | .bl a, .int j => (if a then 1 else 0) == j
  | .int i, .bl b => i == (if b then 1 else 0)
  | .int i, .int j => i == j
  | .str x, .str y => x == y
  | _, _ => false
def inSeq (x : Val) (h : Heap) (ys : List Val) : Option Bool := match conv 60 h x, optAll (conv 59 h) ys with
  | some d, some ds => some (ds.any fun z => deq z d)
  | _, _ => none
def oIn (neg : Bool) (x y : Val) (h : Heap) : Res Val := match y with
  | .tup ys => if isFlat x = true ∧ ys.all isFlat = true then .ok (.bl (if neg then !(ys.any fun z => feq z x) else ys.any fun z => feq z x)) h else .stuck
  | .ref a => match h[a]? with
    | some (.lst ys) => match inSeq x h ys with
      | some b => .ok (.bl (if neg then !b else b)) h
      | none => .stuck
    | some (.dct d) => if isKey x = true then .ok (.bl (if neg then !(lookV d x).isSome else (lookV d x).isSome)) h else .stuck
    | some (.fdc d) => if isKey x = true then .ok (.bl (if neg then !(lookV d x).isSome else (lookV d x).isSome)) h else .stuck
    | _ => .stuck
  | _ => .stuck
section
variable {G : Cfg} {E : XK} {r : List Addr} {H : Hp} {h : Heap}
theorem flat_of {x : Val} {v : V} (a : VR G r H x v) (f : isFlat x = true) : flatV v = true := by
  cases a <;> first | rfl | (simp [isFlat] at f)
theorem all_flat : ∀ {xs : List Val} {vs : List V}, VRs G r H xs vs → xs.all isFlat = true → vs.all flatV = true
  | _, _, .nil, _ => rfl
  | _, _, .cons a b, f => by
    rw [List.all_cons, Bool.and_eq_true] at f ⊢
    exact ⟨flat_of a f.1, all_flat b f.2⟩
theorem feq_of (ok : G.Ok) {x y : Val} {v u : V} (a : VR G r H x v) (b : VR G r H y u) (f : isFlat x = true) : feq x y = eqV v u := by
  cases a with
  | str hi => cases b with
    | str hj =>
      rename_i n z n' z'
      show (n == n') = (z == z')
      by_cases e : n = n'
      · subst e
        rw [hi] at hj
        cases hj
        simp
      · have : z ≠ z' := fun q => e (by subst q; exact sts_inj ok hi hj)
        rw [beq_eq_false_iff_ne.mpr e, beq_eq_false_iff_ne.mpr this]
    | _ => rfl
  | tup _ _ => simp [isFlat] at f
  | ref _ => simp [isFlat] at f
  | _ => cases b <;> rfl
theorem any_feq (ok : G.Ok) {y : Val} {u : V} (b : VR G r H y u) : ∀ {xs : List Val} {vs : List V}, VRs G r H xs vs → xs.all isFlat = true → (xs.any fun z => feq z y) = inV u vs
  | _, _, .nil, _ => rfl
  | _, _, .cons a c, f => by
    rw [List.all_cons, Bool.and_eq_true] at f
    unfold inV
    rw [List.any_cons, List.any_cons, feq_of ok a b f.1, any_feq ok b c f.2]
    rfl
theorem any_py (ok : G.Ok) {d : D} {n m : Nat} (hd : d.wf G.sts.length n = true) : ∀ (ds : List D), D.wfs G.sts.length m ds = true → ((D.pys G ds).any fun z => PyData.eqv z (d.py G)) = ds.any fun z => deq z d
  | [], _ => by simp [D.pys]
  | x :: xs, f => by
    simp only [D.wfs, Bool.and_eq_true] at f
    rw [D.pys, List.any_cons, List.any_cons, eqv_py ok x d _ _ f.1 hd, any_py ok hd xs f.2]
/-- in, not in -/
def rInA (K : PySem.W.Frag) : R2 := fun x y H Q => rIn K false x y H Q ∨ rInD K x y H Q ∨ rDIn x y H Q
def rNotInA (K : PySem.W.Frag) : R2 := fun x y H Q => rIn K true x y H Q ∨ rNotInD K x y H Q ∨ rDNotIn x y H Q
theorem op_inA {X : Cx} (hu : X.A.units + 65 < cLine) : OpR X (compareOp .In) (rInA X.K) := op_in_seq.or ((op_inD hu).or (op_din (by omega)))
theorem op_notInA {X : Cx} (hu : X.A.units + 65 < cLine) : OpR X (compareOp .NotIn) (rNotInA X.K) := op_notIn_seq.or ((op_notInD hu).or (op_dnotin (by omega)))
theorem inSeq_of (ok : G.Ok) (hR : HR G r H h) {x : Val} {v : V} {ys : List Val} {us : List V} {b : Bool} {a : Addr} (hx : VR G r H x v) (hs : SqL G.K H a us) (hy : VRs G r H ys us) (e : inSeq x h ys = some b) :
    ∃ (d : PyData) (ds : List PyData), Dp G.K H v d ∧ Dp G.K H (.ref a) (.list ds) ∧ SeqAt.shaped d = true ∧ SeqAt.shaped (.list ds) = true ∧ (ds.any fun z => PyData.eqv z d) = b := by
  unfold inSeq at e
  split at e
  · rename_i d ds e1 e2
    cases e
    obtain ⟨d1, w1⟩ := conv_dp hR _ _ _ _ hx e1
    obtain ⟨d2, w2⟩ := optAll_dp (fun x v d => conv_dp hR 59 x v d) _ _ _ hy e2
    refine ⟨_, _, d1, .lst hs d2, shaped_py ok w1 (by decide), ?_, any_py ok w1 ds w2⟩
    have : (D.lst ds).wf G.sts.length 60 = true := by simpa [D.wf] using w2
    have := shaped_py ok this (by decide)
    simpa [D.py] using this
  · cases e
theorem rf_in (ok : G.Ok) : Rf2 G E (rInA G.K) (oIn false) := by
  refine ⟨fun r H h x y v u Q hR a b p => ?_⟩
  cases b with
  | tup hb vb =>
    simp only [oIn] at p
    split at p
    · rename_i f
      refine .inl ⟨_, _, rfl, .inr hb, flat_of a f.1, all_flat vb f.2, ?_⟩
      rw [if_neg (by decide), ← any_feq ok a vb f.2]
      exact p.here hR (.bl _)
    · exact p.elim
  | @ref n c ec =>
    simp only [oIn] at p
    split at p
    · rename_i ys ey
      cases hR.ob _ _ _ ey ec with
      | lst hl hv =>
        split at p
        · rename_i z ez
          obtain ⟨d, ds, q1, q2, q3, q4, q5⟩ := inSeq_of ok hR a (SqL.of hl) hv ez
          refine .inr (.inl ⟨d, ds, q1, q2, q3, q4, ?_⟩)
          rw [q5]
          exact p.here hR (.bl _)
        · exact p.elim
    · rename_i d ed
      cases hR.ob _ _ _ ed ec with
      | dct hd hv =>
        split at p
        · rename_i hk
          obtain ⟨q, kq, rfl⟩ := KR.of a hk
          refine .inr (.inr ⟨_, _, rfl, DGet.k hd, ?_⟩)
          have := p.here hR (.bl _)
          rcases hv.look ok kq with ⟨e1, e2⟩ | ⟨x', v', e1, e2, _⟩
          · rw [e2]
            rw [e1] at this
            exact this
          · rw [e2]
            rw [e1] at this
            exact this
        · exact p.elim
    · rename_i d ed
      cases hR.ob _ _ _ ed ec with
      | fdc hd hv =>
        split at p
        · rename_i hk
          obtain ⟨q, kq, rfl⟩ := KR.of a hk
          refine .inr (.inr ⟨_, _, rfl, DGet_kf hd, ?_⟩)
          have := p.here hR (.bl _)
          rcases hv.look ok kq with ⟨e1, e2⟩ | ⟨x', v', e1, e2, _⟩
          · rw [e2]
            rw [e1] at this
            exact this
          · rw [e2]
            rw [e1] at this
            exact this
        · exact p.elim
    · exact p.elim
  | _ => exact False.elim p
theorem rf_notin (ok : G.Ok) : Rf2 G E (rNotInA G.K) (oIn true) := by
  refine ⟨fun r H h x y v u Q hR a b p => ?_⟩
  cases b with
  | tup hb vb =>
    simp only [oIn] at p
    split at p
    · rename_i f
      refine .inl ⟨_, _, rfl, .inr hb, flat_of a f.1, all_flat vb f.2, ?_⟩
      rw [if_pos rfl, ← any_feq ok a vb f.2]
      exact p.here hR (.bl _)
    · exact p.elim
  | @ref n c ec =>
    simp only [oIn] at p
    split at p
    · rename_i ys ey
      cases hR.ob _ _ _ ey ec with
      | lst hl hv =>
        split at p
        · rename_i z ez
          obtain ⟨d, ds, q1, q2, q3, q4, q5⟩ := inSeq_of ok hR a (SqL.of hl) hv ez
          refine .inr (.inl ⟨d, ds, q1, q2, q3, q4, ?_⟩)
          rw [q5]
          exact p.here hR (.bl _)
        · exact p.elim
    · rename_i d ed
      cases hR.ob _ _ _ ed ec with
      | dct hd hv =>
        split at p
        · rename_i hk
          obtain ⟨q, kq, rfl⟩ := KR.of a hk
          refine .inr (.inr ⟨_, _, rfl, DGet.k hd, ?_⟩)
          have := p.here hR (.bl _)
          rcases hv.look ok kq with ⟨e1, e2⟩ | ⟨x', v', e1, e2, _⟩
          · rw [e2]
            rw [e1] at this
            exact this
          · rw [e2]
            rw [e1] at this
            exact this
        · exact p.elim
    · rename_i d ed
      cases hR.ob _ _ _ ed ec with
      | fdc hd hv =>
        split at p
        · rename_i hk
          obtain ⟨q, kq, rfl⟩ := KR.of a hk
          refine .inr (.inr ⟨_, _, rfl, DGet_kf hd, ?_⟩)
          have := p.here hR (.bl _)
          rcases hv.look ok kq with ⟨e1, e2⟩ | ⟨x', v', e1, e2, _⟩
          · rw [e2]
            rw [e1] at this
            exact this
          · rw [e2]
            rw [e1] at this
            exact this
        · exact p.elim
    · exact p.elim
  | _ => exact False.elim p
end
end PyM

set_option Elab.async false
set_option linter.all false
set_option maxRecDepth 100000
set_option autoImplicit false
namespace PyM
open PySem L2

theorem pc_of {X : Cx} {a b : Expr} {ta tb : TE} {op : CmpOp} {r : R2} (ho : OpR X (compareOp op) r) (ha : PE X a ta) (hb : PE X b tb) : PC X op a b (tOp r ta tb) :=
  ⟨fun pins s σ H Q I h => bin ha hb I h fun v u s2 x y H2 I2 rx ry q => ho pins s2 σ H2 x y v u Q I2 rx ry q⟩

/-- truth -/
def truth (x : Val) (h : Heap) : Option Bool := match x with
  | .non => some false
  | .bl b => some b
  | .int i => some (i != 0)
  | .tup xs => some (!xs.isEmpty)
  | .ref a => match h[a]? with
    | some (.lst xs) => some (!xs.isEmpty)
    | some (.fls xs) => some (!xs.isEmpty)
    | some (.dct d) => some (!d.isEmpty)
    | _ => none
  | .str _ => none
def tB_ (ma : En → Heap → Res Val) (s : En) (h : Heap) : Res Bool := (ma s h).bind fun x h1 => match x with
  | .bl b => .ok b h1
  | _ => .stuck
def tTr (ma : En → Heap → Res Val) (s : En) (h : Heap) : Res Bool := (ma s h).bind fun x h1 => match truth x h1 with
  | some b => .ok b h1
  | none => .stuck
def tNo (m : En → Heap → Res Bool) (s : En) (h : Heap) : Res Bool := (m s h).bind fun b h1 => .ok (!b) h1
def tAn (m n : En → Heap → Res Bool) (s : En) (h : Heap) : Res Bool := (m s h).bind fun b h1 => if b = true then n s h1 else .ok false h1
def tOr_ (m n : En → Heap → Res Bool) (s : En) (h : Heap) : Res Bool := (m s h).bind fun b h1 => if b = true then .ok true h1 else n s h1
def mAn (m n : En → Heap → Res Val) (s : En) (h : Heap) : Res Val := (m s h).bind fun x h1 => match x with
  | .bl b => if b = true then n s h1 else .ok (.bl false) h1
  | _ => .stuck
def mOr_ (m n : En → Heap → Res Val) (s : En) (h : Heap) : Res Val := (m s h).bind fun x h1 => match x with
  | .bl b => if b = true then .ok (.bl true) h1 else n s h1
  | _ => .stuck
def mNo (m : En → Heap → Res Val) (s : En) (h : Heap) : Res Val := (m s h).bind fun x h1 => match x with
  | .bl b => .ok (.bl (!b)) h1
  | _ => .stuck
def mIf (t : En → Heap → Res Bool) (m n : En → Heap → Res Val) (s : En) (h : Heap) : Res Val := (t s h).bind fun b h1 => if b = true then m s h1 else n s h1
/-- a op b op' c, over ints -/
def mCh (p q : Int → Int → Bool) (ma mb mc : En → Heap → Res Val) (s : En) (h : Heap) : Res Val := (ma s h).bind fun x h1 => (mb s h1).bind fun y h2 => match x, y with
  | .int i, .int j => if p i j = true then (mc s h2).bind fun z h3 => match z with
      | .int k => .ok (.bl (q j k)) h3
      | _ => .stuck
    else .ok (.bl false) h2
  | _, _ => .stuck
def mTup (ma : En → Heap → Res (List Val)) (s : En) (h : Heap) : Res Val := (ma s h).bind fun xs h1 => if xs.length ≤ lim then .ok (.tup xs) h1 else .stuck
def mLst (ma : En → Heap → Res (List Val)) (s : En) (h : Heap) : Res Val := (ma s h).bind fun xs h1 => if xs.length ≤ lim then .ok (.ref h1.length) (h1 ++ [.lst xs]) else .stuck
def mDct (_ : En) (h : Heap) : Res Val := .ok (.ref h.length) (h ++ [.dct []])
def lookF (f : Nat) : List (Nat × Val) → Option Val
  | [] => none
  | (g, x) :: r => if g = f then some x else lookF f r
def setF (f : Nat) (x : Val) : List (Nat × Val) → List (Nat × Val)
  | [] => [(f, x)]
  | (g, y) :: r => if g = f then (f, x) :: r else (g, y) :: setF f x r
def getF (f : Nat) (x : Val) (h : Heap) : Res Val := match x with
  | .ref a => match h[a]? with
    | some (.ins c fs) => match lookF f fs with
      | some v => .ok v h
      | none => .stuck
    | _ => .stuck
  | _ => .stuck
/-- a[i]: a list, a tuple, a dict with keys that are ints or texts -/
def oIx (x y : Val) (h : Heap) : Res Val := match x with
  | .tup xs => match y with
    | .int i => match atI xs i with
      | some v => .ok v h
      | none => .stuck
    | _ => .stuck
  | .ref a => match h[a]? with
    | some (.lst xs) => match y with
      | .int i => match atI xs i with
        | some v => .ok v h
        | none => .stuck
      | _ => .stuck
    | some (.fls xs) => match y with
      | .int i => match atI xs i with
        | some v => .ok v h
        | none => .stuck
      | _ => .stuck
    | some (.dct d) => if isKey y = true then match lookV d y with
        | some v => .ok v h
        | none => .stuck
      else .stuck
    | some (.fdc d) => if isKey y = true then match lookV d y with
        | some v => .ok v h
        | none => .stuck
      else .stuck
    | _ => .stuck
  | _ => .stuck
def cut (xs : List Val) (lo hi : Option Int) : List Val := (xs.drop (HT.sIx xs.length 0 lo)).take (HT.sIx xs.length xs.length hi - HT.sIx xs.length 0 lo)
def oSl (x : Val) (lo hi : Option Int) (h : Heap) : Res Val := match x with
  | .tup xs => .ok (.tup (cut xs lo hi)) h
  | .ref a => match h[a]? with
    | some (.lst xs) => .ok (.ref h.length) (h ++ [.lst (cut xs lo hi)])
    | some (.fls xs) => .ok (.ref h.length) (h ++ [.lst (cut xs lo hi)])
    | _ => .stuck
  | _ => .stuck
def pNo (_ : En) (h : Heap) : Res (Option Int) := .ok none h
def pSo (m : En → Heap → Res Val) (s : En) (h : Heap) : Res (Option Int) := (m s h).bind fun x h1 => match x with
  | .int i => .ok (some i) h1
  | _ => .stuck
def mSl (m : En → Heap → Res Val) (p q : En → Heap → Res (Option Int)) (s : En) (h : Heap) : Res Val := (m s h).bind fun x h1 => (p s h1).bind fun lo h2 => (q s h2).bind fun hi h3 => oSl x lo hi h3
/-- the second way where the first is stuck -/
def mAlt (m n : En → Heap → Res Val) (s : En) (h : Heap) : Res Val := match m s h with
  | .stuck => n s h
  | x => x

section
variable {G : Cfg} {E : XK} {X : Cx} {k : Nat} {a b c e : Expr} {ta tb tc : TE} {ma mb mc : En → Heap → Res Val} {pos : Pos} {u v w : TT} {mu mv : En → Heap → Res Bool}
abbrev XCu (G : Cfg) (E : XK) (X : Cx) (k : Nat) := XC G E X k
theorem XC.hu (C : XC G E X k) : X.A.units + 65 < cLine := by have := C.room.un; omega

/-! ### two-place operators -/
theorem me_add (C : XC G E X k) (ha : ME G E X a ta ma) (hb : ME G E X b tb mb) : ME G E X (.BinOp a .Add b pos) (tOp (rAdd G.K) ta tb) (mB oAdd ma mb) := by
  refine ⟨?_, ha.rf.b2 hb.rf rf_add⟩
  have := pe_op (pos := pos) (op_addM (X := X)) ha.pe hb.pe
  rwa [C.K] at this
theorem me_sub (ha : ME G E X a ta ma) (hb : ME G E X b tb mb) : ME G E X (.BinOp a .Sub b pos) (tOp (rI0 fun i j => .int (i - j)) ta tb) (mB (oI fun i j => .int (i - j)) ma mb) := ⟨pe_op op_sub ha.pe hb.pe, ha.rf.b2 hb.rf (rf_I0 (g := fun i j => i - j))⟩
theorem me_mul (C : XC G E X k) (ha : ME G E X a ta ma) (hb : ME G E X b tb mb) : ME G E X (.BinOp a .Mult b pos) (tOp (rMulA G.K) ta tb) (mB oMul ma mb) := by
  refine ⟨?_, ha.rf.b2 hb.rf rf_mul⟩
  have := pe_op (pos := pos) (op_mulA (X := X)) ha.pe hb.pe
  rwa [C.K] at this
theorem me_fdiv (ha : ME G E X a ta ma) (hb : ME G E X b tb mb) : ME G E X (.BinOp a .FloorDiv b pos) (tOp (rI CDiv fun i j => .int (i / j)) ta tb) (mB (oIC (fun _ j => decide (0 < j ∧ j < 1073741824)) fun i j => .int (i / j)) ma mb) :=
  ⟨pe_op op_fdiv ha.pe hb.pe, ha.rf.b2 hb.rf (rf_IC (fun i j e => by simpa [CDiv] using e))⟩
theorem me_mod (ha : ME G E X a ta ma) (hb : ME G E X b tb mb) : ME G E X (.BinOp a .Mod b pos) (tOp (rI (fun _ j => 0 < j) fun i j => .int (i % j)) ta tb) (mB (oIC (fun _ j => decide (0 < j)) fun i j => .int (i % j)) ma mb) :=
  ⟨pe_op op_mod ha.pe hb.pe, ha.rf.b2 hb.rf (rf_IC (fun i j e => by simpa using e))⟩
def cPow (i j : Int) : Bool := decide (0 ≤ j ∧ j ≤ 1000000 ∧ i.natAbs < 2 ^ 64)
theorem me_pow (ha : ME G E X a ta ma) (hb : ME G E X b tb mb) : ME G E X (.BinOp a .Pow b pos) (tOp (rI CPow fun i j => .int (i ^ j.toNat)) ta tb) (mB (oIC cPow fun i j => .int (i ^ j.toNat)) ma mb) :=
  ⟨pe_op op_pow ha.pe hb.pe, ha.rf.b2 hb.rf (rf_IC (fun i j e => by simpa [CPow, cPow] using e))⟩
theorem me_shl (ha : ME G E X a ta ma) (hb : ME G E X b tb mb) : ME G E X (.BinOp a .LShift b pos) (tOp (rI CPow fun i j => .int (i * 2 ^ j.toNat)) ta tb) (mB (oIC cPow fun i j => .int (i * 2 ^ j.toNat)) ma mb) :=
  ⟨pe_op op_shl ha.pe hb.pe, ha.rf.b2 hb.rf (rf_IC (fun i j e => by simpa [CPow, cPow] using e))⟩
theorem me_shr (ha : ME G E X a ta ma) (hb : ME G E X b tb mb) : ME G E X (.BinOp a .RShift b pos) (tOp (rI (fun _ j => 0 ≤ j) fun i j => .int (i / 2 ^ j.toNat)) ta tb) (mB (oIC (fun _ j => decide (0 ≤ j)) fun i j => .int (i / 2 ^ j.toNat)) ma mb) :=
  ⟨pe_op op_shr ha.pe hb.pe, ha.rf.b2 hb.rf (rf_IC (fun i j e => by simpa using e))⟩
theorem me_and (ha : ME G E X a ta ma) (hb : ME G E X b tb mb) : ME G E X (.BinOp a .BitAnd b pos) (tOp (rI0 fun i j => .int (Builtin.bitAnd i j)) ta tb) (mB (oI fun i j => .int (Builtin.bitAnd i j)) ma mb) := ⟨pe_op op_and ha.pe hb.pe, ha.rf.b2 hb.rf rf_I0⟩
theorem me_or (ha : ME G E X a ta ma) (hb : ME G E X b tb mb) : ME G E X (.BinOp a .BitOr b pos) (tOp (rI0 fun i j => .int (Builtin.bitOr i j)) ta tb) (mB (oI fun i j => .int (Builtin.bitOr i j)) ma mb) := ⟨pe_op op_or ha.pe hb.pe, ha.rf.b2 hb.rf rf_I0⟩
theorem me_xor (ha : ME G E X a ta ma) (hb : ME G E X b tb mb) : ME G E X (.BinOp a .BitXor b pos) (tOp (rI0 fun i j => .int (Builtin.bitXor i j)) ta tb) (mB (oI fun i j => .int (Builtin.bitXor i j)) ma mb) := ⟨pe_op op_xor ha.pe hb.pe, ha.rf.b2 hb.rf rf_I0⟩
theorem me_neg (ha : ME G E X a ta ma) : ME G E X (.UnaryOp .USub a pos) (tUn (rU fun i => .int (-i)) ta) (mU oNeg ma) := by
  refine ⟨pe_un un_neg ha.pe, ha.rf.u1 ⟨fun r H h x v Q hR q p => ?_⟩⟩
  cases q with
  | int i => exact ⟨i, rfl, p.here hR (.int _)⟩
  | _ => exact False.elim p

/-! ### comparisons -/
theorem mc_eq (ok : G.Ok) (C : XC G E X k) (ha : ME G E X a ta ma) (hb : ME G E X b tb mb) : MC G E X .Eq a b (tOp (rEqD G.K) ta tb) (mB (oEq false) ma mb) := by
  refine ⟨?_, ha.rf.b2 hb.rf (rf_eq ok)⟩
  have := pc_of (op_eqD (X := X) (by have := C.hu; omega)) ha.pe hb.pe
  rwa [C.K] at this
theorem mc_ne (ok : G.Ok) (C : XC G E X k) (ha : ME G E X a ta ma) (hb : ME G E X b tb mb) : MC G E X .NotEq a b (tOp (rNeD G.K) ta tb) (mB (oEq true) ma mb) := by
  refine ⟨?_, ha.rf.b2 hb.rf (rf_ne ok)⟩
  have := pc_of (op_neD (X := X) (by have := C.hu; omega)) ha.pe hb.pe
  rwa [C.K] at this
theorem mc_lt (ha : ME G E X a ta ma) (hb : ME G E X b tb mb) : MC G E X .Lt a b (tOp (rI0 fun i j => .bl (decide (i < j))) ta tb) (mB (oI fun i j => .bl (decide (i < j))) ma mb) := ⟨pc_of op_lt ha.pe hb.pe, ha.rf.b2 hb.rf rf_B0⟩
theorem mc_le (ha : ME G E X a ta ma) (hb : ME G E X b tb mb) : MC G E X .LtE a b (tOp (rI0 fun i j => .bl (decide (i ≤ j))) ta tb) (mB (oI fun i j => .bl (decide (i ≤ j))) ma mb) := ⟨pc_of op_le ha.pe hb.pe, ha.rf.b2 hb.rf rf_B0⟩
theorem mc_gt (ha : ME G E X a ta ma) (hb : ME G E X b tb mb) : MC G E X .Gt a b (tOp (rI0 fun i j => .bl (decide (j < i))) ta tb) (mB (oI fun i j => .bl (decide (j < i))) ma mb) := ⟨pc_of op_gt ha.pe hb.pe, ha.rf.b2 hb.rf (rf_B0 (g := fun i j => decide (j < i)))⟩
theorem mc_ge (ha : ME G E X a ta ma) (hb : ME G E X b tb mb) : MC G E X .GtE a b (tOp (rI0 fun i j => .bl (decide (j ≤ i))) ta tb) (mB (oI fun i j => .bl (decide (j ≤ i))) ma mb) := ⟨pc_of op_ge ha.pe hb.pe, ha.rf.b2 hb.rf (rf_B0 (g := fun i j => decide (j ≤ i)))⟩
theorem mc_in (ok : G.Ok) (C : XC G E X k) (ha : ME G E X a ta ma) (hb : ME G E X b tb mb) : MC G E X .In a b (tOp (rInA G.K) ta tb) (mB (oIn false) ma mb) := by
  refine ⟨?_, ha.rf.b2 hb.rf (rf_in ok)⟩
  have := pc_of (op_inA (X := X) C.hu) ha.pe hb.pe
  rwa [C.K] at this
theorem mc_notin (ok : G.Ok) (C : XC G E X k) (ha : ME G E X a ta ma) (hb : ME G E X b tb mb) : MC G E X .NotIn a b (tOp (rNotInA G.K) ta tb) (mB (oIn true) ma mb) := by
  refine ⟨?_, ha.rf.b2 hb.rf (rf_notin ok)⟩
  have := pc_of (op_notInA (X := X) C.hu) ha.pe hb.pe
  rwa [C.K] at this
theorem rf_isN (h1 : Rf G E ta ma) : Rf G E (tIsN ta) (mU (oIsN false) ma) := by
  refine ⟨fun r H h s σ Q hR sR p => h1.run r H h s σ _ hR sR (p.seq fun x h1' r1 H1 v s1 hR1 v1 p1 => ?_)⟩
  have := p1.here hR1 (.bl _)
  cases v1 <;> exact this
theorem rf_notN (h1 : Rf G E ta ma) : Rf G E (tNotN ta) (mU (oIsN true) ma) := by
  refine ⟨fun r H h s σ Q hR sR p => h1.run r H h s σ _ hR sR (p.seq fun x h1' r1 H1 v s1 hR1 v1 p1 => ?_)⟩
  have := p1.here hR1 (.bl _)
  cases v1 <;> exact this
theorem mc_isN {j pos'} (ha : ME G E X a ta ma) : MC G E X .Is a (.Constant .none j pos') (tIsN ta) (mU (oIsN false) ma) := ⟨pc_isN ha.pe, rf_isN ha.rf⟩
theorem mc_notN {j pos'} (ha : ME G E X a ta ma) : MC G E X .IsNot a (.Constant .none j pos') (tNotN ta) (mU (oIsN true) ma) := ⟨pc_notN ha.pe, rf_notN ha.rf⟩
theorem me_cmp {op : CmpOp} {t : TE} {m} (h : MC G E X op a b t m) (h1 : behindInMarks op b = false := by first | exact nobehind _ (by decide) (by decide) | rfl) : ME G E X (.Compare a [op] [b] pos) t m := ⟨pe_cmp h.pe h1, h.rf⟩
theorem rf_tB {t : TE} {m} (h : Rf G E t m) : RfT G E (tB t) (tB_ m) := by
  refine ⟨fun r H h' s σ Q hR sR p => h.run r H h' s σ _ hR sR (p.seq fun x h1' r1 H1 v s1 hR1 v1 p1 => ?_)⟩
  cases v1 with
  | bl b => exact ⟨b, rfl, p1.here hR1 rfl⟩
  | _ => exact False.elim p1
theorem mt_cmp {op : CmpOp} {t : TE} {m} (h : MC G E X op a b t m) (h1 : behindInMarks op b = false := by first | exact nobehind _ (by decide) (by decide) | rfl) : MT G E X (.Compare a [op] [b] pos) (tB t) (tB_ m) := ⟨pt_cmp h.pe h1, rf_tB h.rf⟩
/-- a chain over ints -/
theorem rf_ch {p q : Int → Int → Bool} (h1 : Rf G E ta ma) (h2 : Rf G E tb mb) (h3 : Rf G E tc mc) : Rf G E (tChain (rI0 fun i j => .bl (p i j)) (rI0 fun i j => .bl (q i j)) ta tb tc) (mCh p q ma mb mc) := by
  refine ⟨fun r H h s σ Q hR sR z => ?_⟩
  refine h1.run r H h s σ _ hR sR (z.seq fun x h1' r1 H1 v s1 hR1 v1 p1 => ?_)
  refine h2.run r1 H1 h1' s σ _ hR1 (sR.mono s1) (p1.seq fun y h2' r2 H2 u s2 hR2 v2 p2 => ?_)
  have v1' := v1.mono s2
  cases v1' with
  | int i => cases v2 with
    | int j =>
      refine ⟨i, j, rfl, rfl, _, rfl, ?_⟩
      simp only at p2
      split at p2
      · rename_i hp
        rw [if_pos hp]
        refine h3.run r2 H2 h2' s σ _ hR2 (sR.mono (s1.trans s2)) (p2.seq fun z h3' r3 H3 w s3 hR3 v3 p3 => ?_)
        cases v3 with
        | int k => exact ⟨j, k, rfl, rfl, p3.here hR3 (.bl _)⟩
        | _ => exact False.elim p3
      · rename_i hp
        rw [if_neg hp]
        exact p2.here hR2 (.bl _)
    | _ => exact False.elim p2
  | _ => exact False.elim p2
theorem op_leB : OpR X (compareOp .LtE) (rI0 fun i j => .bl (decide (i ≤ j))) := op_le
theorem me_chLeLe (ha : ME G E X a ta ma) (hb : ME G E X b tb mb) (hc : ME G E X c tc mc) (hm : lastMarks [.LtE, .LtE] [b, c] = false := by with_unfolding_all rfl) : ME G E X (.Compare a [.LtE, .LtE] [b, c] pos) (tChain (rI0 fun i j => .bl (decide (i ≤ j))) (rI0 fun i j => .bl (decide (i ≤ j))) ta tb tc) (mCh (fun i j => decide (i ≤ j)) (fun i j => decide (i ≤ j)) ma mb mc) :=
  ⟨pe_chain op_le op_le ha.pe hb.pe hc.pe hm, rf_ch ha.rf hb.rf hc.rf⟩
theorem me_chLeLt (ha : ME G E X a ta ma) (hb : ME G E X b tb mb) (hc : ME G E X c tc mc) (hm : lastMarks [.LtE, .Lt] [b, c] = false := by with_unfolding_all rfl) : ME G E X (.Compare a [.LtE, .Lt] [b, c] pos) (tChain (rI0 fun i j => .bl (decide (i ≤ j))) (rI0 fun i j => .bl (decide (i < j))) ta tb tc) (mCh (fun i j => decide (i ≤ j)) (fun i j => decide (i < j)) ma mb mc) :=
  ⟨pe_chain op_le op_lt ha.pe hb.pe hc.pe hm, rf_ch ha.rf hb.rf hc.rf⟩
theorem rf_tT {t : TE} {m} (h : Rf G E t m) : RfT G E (tTest t) (tB_ m) := by
  refine ⟨fun r H h' s σ Q hR sR p => h.run r H h' s σ _ hR sR (p.seq fun x h1' r1 H1 v s1 hR1 v1 p1 => ?_)⟩
  cases v1 with
  | bl b => exact ⟨b, rfl, p1.here hR1 rfl⟩
  | _ => exact False.elim p1
theorem mt_chLeLe (ha : ME G E X a ta ma) (hb : ME G E X b tb mb) (hc : ME G E X c tc mc) (hm : lastMarks [.LtE, .LtE] [b, c] = false := by with_unfolding_all rfl) : MT G E X (.Compare a [.LtE, .LtE] [b, c] pos) (tTest (tChain (rI0 fun i j => .bl (decide (i ≤ j))) (rI0 fun i j => .bl (decide (i ≤ j))) ta tb tc)) (tB_ (mCh (fun i j => decide (i ≤ j)) (fun i j => decide (i ≤ j)) ma mb mc)) :=
  ⟨pt_chain op_le op_le ha.pe hb.pe hc.pe hm, rf_tT (rf_ch ha.rf hb.rf hc.rf)⟩
theorem mt_chLeLt (ha : ME G E X a ta ma) (hb : ME G E X b tb mb) (hc : ME G E X c tc mc) (hm : lastMarks [.LtE, .Lt] [b, c] = false := by with_unfolding_all rfl) : MT G E X (.Compare a [.LtE, .Lt] [b, c] pos) (tTest (tChain (rI0 fun i j => .bl (decide (i ≤ j))) (rI0 fun i j => .bl (decide (i < j))) ta tb tc)) (tB_ (mCh (fun i j => decide (i ≤ j)) (fun i j => decide (i < j)) ma mb mc)) :=
  ⟨pt_chain op_le op_lt ha.pe hb.pe hc.pe hm, rf_tT (rf_ch ha.rf hb.rf hc.rf)⟩

/-! ### truth, and, or, not, if -/
theorem mt_tr (C : XC G E X k) (ha : ME G E X a ta ma) (he : ∀ whole, isTrue a X.env whole = (do let v ← whole; standAt a.pos; holding [v] (truthy v)) := by intro _; rfl) : MT G E X a (fun σ H Q => ta σ H fun x H' => ∃ k, TruV G.K x H' k ∧ Q k H') (tTr ma) := by
  refine ⟨?_, ⟨fun r H h s σ Q hR sR p => ?_⟩⟩
  · have := pt_truth ha.pe he
    rwa [C.K] at this
  · refine ha.rf.run r H h s σ _ hR sR (p.seq fun x h1' r1 H1 v s1 hR1 v1 p1 => ?_)
    cases v1 with
    | non => exact ⟨_, rfl, p1.here hR1 rfl⟩
    | bl b => exact ⟨_, rfl, p1.here hR1 rfl⟩
    | int i => exact ⟨_, rfl, p1.here hR1 rfl⟩
    | str e => exact False.elim p1
    | tup hs hv =>
      have q := p1.here hR1 rfl
      cases hv with
      | nil => exact ⟨_, .inr (.inl ⟨_, hs, rfl⟩), q⟩
      | cons _ _ => exact ⟨_, .inr (.inl ⟨_, hs, rfl⟩), q⟩
    | @ref n a ea =>
      simp only [truth] at p1
      cases eo : h1'[n]? with
      | none => rw [eo] at p1; exact False.elim p1
      | some o =>
        rw [eo] at p1
        cases o with
        | lst xs => cases hR1.ob _ _ _ eo ea with
          | lst hl hv =>
            have q := p1.here hR1 rfl
            cases hv with
            | nil => exact ⟨_, .inl ⟨_, SqL.of hl, rfl⟩, q⟩
            | cons _ _ => exact ⟨_, .inl ⟨_, SqL.of hl, rfl⟩, q⟩
        | fls xs => cases hR1.ob _ _ _ eo ea with
          | fls hl hv =>
            have q := p1.here hR1 rfl
            cases hv with
            | nil => exact ⟨_, .inl ⟨_, hl.sq, rfl⟩, q⟩
            | cons _ _ => exact ⟨_, .inl ⟨_, hl.sq, rfl⟩, q⟩
        | dct d => cases hR1.ob _ _ _ eo ea with
          | dct hl hv =>
            have q := p1.here hR1 rfl
            cases hv with
            | nil => exact ⟨_, .inr (.inr ⟨_, hl, rfl⟩), q⟩
            | cons _ _ => exact ⟨_, .inr (.inr ⟨_, hl, rfl⟩), q⟩
        | dcT d => exact False.elim p1
        | fdc d => exact False.elim p1
        | fdT d => exact False.elim p1
        | tpl d => exact False.elim p1
        | ins _ _ => exact False.elim p1
variable {rest : List Expr}
theorem MW.mt (h : MW G E X a u mu) : MT G E X a u mu := ⟨h.pe.pt, h.rf⟩
theorem mw_and1 (h : MT G E X a u mu) : MW G E X (.BoolOp .And [a] pos) u mu := ⟨pw_and1 h.pe, h.rf⟩
theorem mw_or1 (h : MT G E X a u mu) : MW G E X (.BoolOp .Or [a] pos) u mu := ⟨pw_or1 h.pe, h.rf⟩
theorem mw_and (h : MT G E X a u mu) (h2 : MW G E X (.BoolOp .And (b :: rest) pos) v mv) : MW G E X (.BoolOp .And (a :: b :: rest) pos) (tAnd u v) (tAn mu mv) := by
  refine ⟨pw_and h.pe h2.pe, ⟨fun r H h' s σ Q hR sR p => h.rf.run r H h' s σ _ hR sR (p.seq fun x h1' r1 H1 v s1 hR1 v1 p1 => ?_)⟩⟩
  subst v1
  split at p1
  · rename_i e
    rw [if_pos e]
    exact h2.rf.run r1 H1 h1' s σ _ hR1 (sR.mono s1) p1
  · rename_i e
    rw [if_neg e]
    exact p1.here hR1 rfl
theorem mw_or (h : MT G E X a u mu) (h2 : MW G E X (.BoolOp .Or (b :: rest) pos) v mv) : MW G E X (.BoolOp .Or (a :: b :: rest) pos) (tOr u v) (tOr_ mu mv) := by
  refine ⟨pw_or h.pe h2.pe, ⟨fun r H h' s σ Q hR sR p => h.rf.run r H h' s σ _ hR sR (p.seq fun x h1' r1 H1 v s1 hR1 v1 p1 => ?_)⟩⟩
  subst v1
  split at p1
  · rename_i e
    rw [if_pos e]
    exact p1.here hR1 rfl
  · rename_i e
    rw [if_neg e]
    exact h2.rf.run r1 H1 h1' s σ _ hR1 (sR.mono s1) p1
theorem mt_not (h : MT G E X a u mu) : MT G E X (.UnaryOp .Not a pos) (tNot u) (tNo mu) := 
  ⟨pt_not h.pe, ⟨fun r H h' s σ Q hR sR p => h.rf.run r H h' s σ _ hR sR (p.seq fun x h1' r1 H1 v s1 hR1 v1 p1 => by subst v1; exact p1.here hR1 rfl)⟩⟩
theorem me_one {op} (h : ME G E X a ta ma) : ME G E X (.BoolOp op [a] pos) ta ma := ⟨pe_one h.pe, h.rf⟩
theorem me_andV (h : ME G E X a ta ma) (h2 : ME G E X (.BoolOp .And (b :: rest) pos) tb mb) : ME G E X (.BoolOp .And (a :: b :: rest) pos) (tAndV ta tb) (mAn ma mb) := by
  refine ⟨pe_and h.pe h2.pe, ⟨fun r H h' s σ Q hR sR p => h.rf.run r H h' s σ _ hR sR (p.seq fun x h1' r1 H1 v s1 hR1 v1 p1 => ?_)⟩⟩
  cases v1 with
  | bl c =>
    refine ⟨c, rfl, ?_⟩
    simp only at p1
    split at p1
    · rename_i e
      rw [if_pos e]
      exact h2.rf.run r1 H1 h1' s σ _ hR1 (sR.mono s1) p1
    · rename_i e
      rw [if_neg e]
      exact p1.here hR1 (.bl _)
  | _ => exact False.elim p1
theorem me_orV (h : ME G E X a ta ma) (h2 : ME G E X (.BoolOp .Or (b :: rest) pos) tb mb) : ME G E X (.BoolOp .Or (a :: b :: rest) pos) (tOrV ta tb) (mOr_ ma mb) := by
  refine ⟨pe_or h.pe h2.pe, ⟨fun r H h' s σ Q hR sR p => h.rf.run r H h' s σ _ hR sR (p.seq fun x h1' r1 H1 v s1 hR1 v1 p1 => ?_)⟩⟩
  cases v1 with
  | bl c =>
    refine ⟨c, rfl, ?_⟩
    simp only at p1
    split at p1
    · rename_i e
      rw [if_pos e]
      exact p1.here hR1 (.bl _)
    · rename_i e
      rw [if_neg e]
      exact h2.rf.run r1 H1 h1' s σ _ hR1 (sR.mono s1) p1
  | _ => exact False.elim p1
theorem me_notV (h : ME G E X a ta ma) : ME G E X (.UnaryOp .Not a pos) (tNotV ta) (mNo ma) := by
  refine ⟨pe_not h.pe, ⟨fun r H h' s σ Q hR sR p => h.rf.run r H h' s σ _ hR sR (p.seq fun x h1' r1 H1 v s1 hR1 v1 p1 => ?_)⟩⟩
  cases v1 with
  | bl c => exact ⟨c, rfl, p1.here hR1 (.bl _)⟩
  | _ => exact False.elim p1
theorem me_if (ht : MT G E X c u mu) (h : ME G E X a ta ma) (h2 : ME G E X b tb mb) : ME G E X (.IfExp c a b pos) (tIf u ta tb) (mIf mu ma mb) := by
  refine ⟨pe_ifExp ht.pe h.pe h2.pe, ⟨fun r H h' s σ Q hR sR p => ht.rf.run r H h' s σ _ hR sR (p.seq fun x h1' r1 H1 v s1 hR1 v1 p1 => ?_)⟩⟩
  subst v1
  split at p1
  · rename_i e
    rw [if_pos e]
    exact h.rf.run r1 H1 h1' s σ _ hR1 (sR.mono s1) p1
  · rename_i e
    rw [if_neg e]
    exact h2.rf.run r1 H1 h1' s σ _ hR1 (sR.mono s1) p1

/-! ### displays, attributes, subscripts -/
variable {es : List Expr} {tes : TA} {mas : En → Heap → Res (List Val)}
theorem me_tup {x1} (h : MA G E X es tes mas) : ME G E X (.Tuple es x1 pos) (tTup tes) (mTup mas) := by
  refine ⟨pe_tup h.pe, ⟨fun r H h' s σ Q hR sR p => h.rf.run r H h' s σ _ hR sR (p.seq fun xs h1' r1 H1 vs s1 hR1 v1 p1 => ?_)⟩⟩
  split at p1
  · rename_i hl
    have := v1.len
    refine ⟨le_line (by omega), fun q hq => ?_⟩
    exact p1 r1 _ _ (Stp.new0 hq) (hR1.lay hq) (.tup (SqT.of upd_same) (v1.mono (Stp.new0 hq)))
  · exact False.elim p1
theorem me_lst (h : MA G E X es tes mas) : ME G E X (.List es pos) (tLst tes) (mLst mas) := by
  refine ⟨pe_lst h.pe, ⟨fun r H h' s σ Q hR sR p => h.rf.run r H h' s σ _ hR sR (p.seq fun xs h1' r1 H1 vs s1 hR1 v1 p1 => ?_)⟩⟩
  split at p1
  · rename_i hl
    have := v1.len
    refine ⟨le_line (by omega), fun q hq => ?_⟩
    refine p1 (r1 ++ [q]) _ _ (Stp.new hq) (hR1.push hq (.lst upd_same (v1.mono (Stp.new hq)))) (.ref ?_)
    rw [← hR1.len]
    simp
  · exact False.elim p1
theorem me_dict : ME G E X (.Dict [] [] pos) tDNewK mDct := by
  refine ⟨pe_dnewK, ⟨fun r H h s σ Q hR sR p q hq => ?_⟩⟩
  refine p (r ++ [q]) _ _ (Stp.new hq) (hR.push hq (.dct upd_same .nil)) (.ref ?_)
  rw [← hR.len]
  simp
theorem FR.look (ok : G.Ok) {r : List Addr} {H : Hp} {D : Addr} {fs gs} (q : FR G r H D fs gs) {f : Nat} {z : Str} (hz : G.nms[f]? = some z) : (lookF f fs = none ∧ gs.lookup z = none) ∨ ∃ x v, lookF f fs = some x ∧ gs.lookup z = some v ∧ VR G r H x v ∧ NoAttr G.K D z := by
  induction q with
  | nil => exact .inl ⟨rfl, rfl⟩
  | @cons g y x v fs gs hy na hv _ ih =>
    by_cases e : g = f
    · subst e
      rw [hz] at hy
      cases hy
      exact .inr ⟨x, v, by simp [lookF], by simp [List.lookup], hv, na⟩
    · have : z ≠ y := fun q => e (by
        subst q
        obtain ⟨h1, e1⟩ := List.getElem?_eq_some_iff.mp hy
        obtain ⟨h2, e2⟩ := List.getElem?_eq_some_iff.mp hz
        exact (List.getElem_inj ok.nn).mp (e1.trans e2.symm))
      have : (z == y) = false := beq_eq_false_iff_ne.mpr this
      simpa [lookF, List.lookup, e, this] using ih
theorem me_fld (ok : G.Ok) (C : XC G E X k) (f : Nat) {z : Str} (hz : G.nms[f]? = some z) (h : ME G E X a ta ma) (hb : attributeBase a z X.env (eval a X.env) = eval a X.env := by rfl) : ME G E X (.Attribute a z pos) (tFld G.K ta z) (mU (getF f) ma) := by
  refine ⟨?_, ⟨fun r H h' s σ Q hR sR p => h.rf.run r H h' s σ _ hR sR (p.seq fun x h1' r1 H1 v s1 hR1 v1 p1 => ?_)⟩⟩
  · have := pe_fld (pos := pos) h.pe hb
    rwa [C.K] at this
  · cases v1 with
    | @ref n a ea =>
      simp only [getF] at p1
      split at p1
      · rename_i c fs eo
        split at p1
        · rename_i y ey
          cases hR1.ob _ _ _ eo ea with
          | ins hc hC ho hf =>
            rcases hf.look ok hz with ⟨e1, _⟩ | ⟨x', v', e1, e2, v2, na⟩
            · rw [e1] at ey
              cases ey
            · rw [e1] at ey
              cases ey
              exact ⟨_, _, _, _, _, rfl, ho, hC, na, e2, p1.here hR1 v2⟩
        · exact False.elim p1
      · exact False.elim p1
    | _ => exact False.elim p1
end
end PyM

set_option Elab.async false
set_option linter.all false
set_option maxRecDepth 100000
set_option autoImplicit false
namespace PyM
open PySem L2 PyProof.Rows

/-! ### subscripts -/
def rDGetR : R2 := fun x y H Q => ∃ a v, x = .ref a ∧ DGet H a y (some v) ∧ Q v H
theorem ix_dict {X : Cx} (hu : X.A.units + 1 < cLine) : IxR X rDGetR := by
  intro value slice pins s σ H x y v u Q I rx ry h hs
  obtain ⟨a, z, rfl, g, q⟩ := h
  obtain rfl : v = Value.ref a := rx
  have hT := dict_typeIs I g
  unfold subscriptTail
  refine wpAny_bind ?_
  rw [getitemInPython_of_ne hT.not_modules]
  refine wpAny_bind (wpAny_specialOf hT PySem.F.slot_dict_getitem.lookup ?_)
  have fin : wpAny (model X.prog X.w) X.A (subscripted slice false (.ref a) u) (fun r s₃ => wpAny (model X.prog X.w) X.A (letTemporaryGo value (.ref a) r >>= fun _ => pure r) (EP X pins σ Q) X.xe s₃) X.xe s := by
    rw [hs]
    exact wpAny_operating (wpAny_mono (d_getItem hu I g ry (Q := EP X pins σ Q) fun w' s3 I3 rw' => ⟨z, H, I3, rw', q⟩) (fun r s₃ h₃ => wpAny_bind (wpAny_letTemporaryGo (wpAny_pure h₃))) fun _ _ x => x)
  first
    | exact wpAny_pure (wpAny_bind fin)
    | exact wpAny_bind (wpAny_pure (wpAny_bind fin))
    | exact wpAny_bind fin
def rIxA (K : PySem.W.Frag) : R2 := fun x y H Q => rIxL K x y H Q ∨ rIxT K x y H Q ∨ rDGetR x y H Q
theorem ix_all {X : Cx} (hu : X.A.units + 1 < cLine) : IxR X (rIxA X.K) := ix_list.or (ix_tup.or (ix_dict hu))
theorem atI_len {α β : Type} {xs : List α} {ys : List β} (e : xs.length = ys.length) {i : Int} {v : α} (h : atI xs i = some v) : ∃ j : Nat, xs[j]? = some v ∧ ∀ u, ys[j]? = some u → atI ys i = some u := by
  unfold atI at h ⊢
  rw [e] at h
  cases q : ixN ys.length i with
  | none => rw [q] at h; cases h
  | some j =>
    rw [q] at h
    exact ⟨j, h, fun u hu => hu⟩
section
variable {G : Cfg} {E : XK}
theorem rf_ix (ok : G.Ok) : Rf2 G E (rIxA G.K) oIx := by
  refine ⟨fun r H h x y v u Q hR a b p => ?_⟩
  cases a with
  | tup ha va =>
    simp only [oIx] at p
    split at p
    · split at p
      · rename_i z ez
        cases b
        obtain ⟨j, e1, e2⟩ := atI_len va.len ez
        obtain ⟨w, e3, vw⟩ := va.get e1
        exact .inr (.inl ⟨_, _, _, _, rfl, rfl, ha, e2 _ e3, p.here hR vw⟩)
      · exact False.elim p
    · exact False.elim p
  | @ref n a ea =>
    simp only [oIx] at p
    split at p
    · rename_i xs eo
      split at p
      · split at p
        · rename_i z ez
          cases b
          cases hR.ob _ _ _ eo ea with
          | lst hl va =>
            obtain ⟨j, e1, e2⟩ := atI_len va.len ez
            obtain ⟨w, e3, vw⟩ := va.get e1
            exact .inl ⟨_, _, _, _, rfl, rfl, SqL.of hl, e2 _ e3, p.here hR vw⟩
        · exact False.elim p
      · exact False.elim p
    · rename_i xs eo
      split at p
      · split at p
        · rename_i z ez
          cases b
          cases hR.ob _ _ _ eo ea with
          | fls hl va =>
            obtain ⟨j, e1, e2⟩ := atI_len va.len ez
            obtain ⟨w, e3, vw⟩ := va.get e1
            exact .inl ⟨_, _, _, _, rfl, rfl, hl.sq, e2 _ e3, p.here hR vw⟩
        · exact False.elim p
      · exact False.elim p
    · rename_i d eo
      split at p
      · rename_i hk
        split at p
        · rename_i z ez
          cases hR.ob _ _ _ eo ea with
          | dct hd hv =>
            obtain ⟨q, kq, rfl⟩ := KR.of b hk
            rcases hv.look ok kq with ⟨e1, _⟩ | ⟨x', v', e1, e2, v2⟩
            · rw [e1] at ez
              cases ez
            · rw [e1] at ez
              cases ez
              exact .inr (.inr ⟨_, _, rfl, by rw [← e2]; exact DGet.k hd, p.here hR v2⟩)
        · exact False.elim p
      · exact False.elim p
    · rename_i d eo
      split at p
      · rename_i hk
        split at p
        · rename_i z ez
          cases hR.ob _ _ _ eo ea with
          | fdc hd hv =>
            obtain ⟨q, kq, rfl⟩ := KR.of b hk
            rcases hv.look ok kq with ⟨e1, _⟩ | ⟨x', v', e1, e2, v2⟩
            · rw [e1] at ez
              cases ez
            · rw [e1] at ez
              cases ez
              exact .inr (.inr ⟨_, _, rfl, by rw [← e2]; exact DGet_kf hd, p.here hR v2⟩)
        · exact False.elim p
      · exact False.elim p
    · exact False.elim p
  | _ => exact False.elim p
theorem VRs.cut {r : List Addr} {H : Hp} {xs : List Val} {vs : List V} (a : VRs G r H xs vs) (lo hi : Option Int) : VRs G r H (PyM.cut xs lo hi) (cutV vs lo hi) := by
  unfold PyM.cut cutV
  rw [a.len]
  exact (a.drop _).take _
structure RfO (G : Cfg) (E : XK) (t : TO) (m : En → Heap → Res (Option Int)) : Prop where
  run : ∀ r H h s σ Q, HR G r H h → SR G r H s σ → PostR G (fun _ _ a b => a = b) r H E (m s h) Q → t σ H Q
structure MO (G : Cfg) (E : XK) (X : Cx) (e : Option Expr) (t : TO) (m : En → Heap → Res (Option Int)) : Prop where
  pe : PO X e t
  rf : RfO G E t m
def rSlAll (K : PySem.W.Frag) : V → Option Int → Option Int → Hp → VK → Prop := fun x lo hi H Q => rSlL K x lo hi H Q ∨ rSlA K x lo hi H Q
theorem rf_sl {r : List Addr} {H : Hp} {h : Heap} {x : Val} {v : V} {lo hi : Option Int} {Q : VK} (hR : HR G r H h) (a : VR G r H x v) (p : PostR G (VR G) r H E (oSl x lo hi h) Q) : rSlAll G.K v lo hi H Q := by
  cases a with
  | tup ha va =>
    refine .inr ⟨_, _, rfl, ha, fun e => ?_, fun _ q hq => ?_⟩
    · refine p.here hR (.tup ha ?_)
      unfold PyM.cut
      rw [va.len, e.1, e.2, ← va.len]
      simpa using va
    · exact p r _ _ (Stp.new0 hq) (hR.lay hq) (.tup (SqT.of upd_same) ((va.cut lo hi).mono (Stp.new0 hq)))
  | @ref n a ea =>
    simp only [oSl] at p
    split at p
    · rename_i xs eo
      cases hR.ob _ _ _ eo ea with
      | lst hl va =>
        refine .inl ⟨_, _, rfl, SqL.of hl, fun q hq => ?_⟩
        refine p (r ++ [q]) _ _ (Stp.new hq) (hR.push hq (.lst upd_same ((va.cut lo hi).mono (Stp.new hq)))) (.ref ?_)
        rw [← hR.len]
        simp
    · rename_i xs eo
      cases hR.ob _ _ _ eo ea with
      | fls hl va =>
        refine .inl ⟨_, _, rfl, hl.sq, fun q hq => ?_⟩
        refine p (r ++ [q]) _ _ (Stp.new hq) (hR.push hq (.lst upd_same ((va.cut lo hi).mono (Stp.new hq)))) (.ref ?_)
        rw [← hR.len]
        simp
    · exact False.elim p
  | _ => exact False.elim p
variable {X : Cx} {k : Nat} {a b c e : Expr} {ta tb tc : TE} {ma mb mc : En → Heap → Res Val} {pos p2 : Pos}
theorem me_ix (ok : G.Ok) (C : XC G E X k) (ha : ME G E X a ta ma) (hb : ME G E X b tb mb) (hs : PlainIx b := by exact fun _ _ => rfl) : ME G E X (.Subscript a b pos) (tOp (rIxA G.K) ta tb) (mB oIx ma mb) := by
  refine ⟨?_, ha.rf.b2 hb.rf (rf_ix ok)⟩
  have := pe_ix (pos := pos) (ix_all (X := X) (by have := C.hu; omega)) ha.pe hb.pe hs
  rwa [C.K] at this
theorem mo_no : MO G E X none tNoPart pNo := ⟨po_none, ⟨fun r H h s σ Q hR sR p => p.here hR rfl⟩⟩
theorem mo_so (ha : ME G E X a ta ma) : MO G E X (some a) (tPart ta) (pSo ma) := by
  refine ⟨po_some ha.pe, ⟨fun r H h s σ Q hR sR p => ha.rf.run r H h s σ _ hR sR (p.seq fun x h1' r1 H1 v s1 hR1 v1 p1 => ?_)⟩⟩
  cases v1 with
  | int i => exact ⟨i, rfl, p1.here hR1 rfl⟩
  | _ => exact False.elim p1
theorem me_sl {lo hi : Option Expr} {tl th : TO} {ml mh : En → Heap → Res (Option Int)} (C : XC G E X k) (ha : ME G E X a ta ma) (hl : MO G E X lo tl ml) (hh : MO G E X hi th mh) : ME G E X (.Subscript a (.Slice lo hi none p2) pos) (tSl (rSlAll G.K) ta tl th) (mSl ma ml mh) := by
  refine ⟨?_, ⟨fun r H h s σ Q hR sR p => ha.rf.run r H h s σ _ hR sR (p.seq fun x h1 r1 H1 v s1 hR1 v1 p1 => ?_)⟩⟩
  · have := pe_slice (p2 := p2) (pos := pos) ((sl_list (X := X)).or sl_tupA) ha.pe hl.pe hh.pe
    rw [C.K] at this
    exact this
  · refine hl.rf.run r1 H1 h1 s σ _ hR1 (sR.mono s1) (p1.seq fun lo' h2 r2 H2 _ s2 hR2 e2 p2 => ?_)
    refine hh.rf.run r2 H2 h2 s σ _ hR2 (sR.mono (s1.trans s2)) (p2.seq fun hi' h3 r3 H3 _ s3 hR3 e3 p3 => ?_)
    subst e2 e3
    exact rf_sl hR3 (v1.mono (s2.trans s3)) p3

/-! ### two ways -/
theorem pe_or2 {t t' : TE} (h : PE X e t) (h' : PE X e t') : PE X e (fun σ H Q => t σ H Q ∨ t' σ H Q) := ⟨fun pins s σ H Q I q => q.elim (h.run pins s σ H Q I) (h'.run pins s σ H Q I)⟩
theorem me_alt {t t' : TE} {m m' : En → Heap → Res Val} (h : ME G E X e t m) (h' : ME G E X e t' m') : ME G E X e (fun σ H Q => t σ H Q ∨ t' σ H Q) (mAlt m m') := by
  refine ⟨pe_or2 h.pe h'.pe, ⟨fun r H hh s σ Q hR sR p => ?_⟩⟩
  unfold mAlt at p
  cases q : m s hh with
  | stuck => rw [q] at p; exact .inr (h'.rf.run r H hh s σ Q hR sR p)
  | ok x y => rw [q] at p; exact .inl (h.rf.run r H hh s σ Q hR sR (by rw [q]; exact p))
  | raised x y => rw [q] at p; exact .inl (h.rf.run r H hh s σ Q hR sR (by rw [q]; exact p))
end

/-! ### calls -/
def spM (G : Cfg) (n : Nat) (m : List Val → Heap → Res Val) : Sp := fun vs H Q E => vs.length = n ∧ ∃ r h xs, HR G r H h ∧ VRs G r H xs vs ∧ PostR G (VR G) r H E (m xs h) Q
structure FnM (G : Cfg) (P : Program) (w : World) (mg : Str → Option Value) (base : PySem.Heap) (k : Nat) (f : Addr) (fd : FuncData) (ps : List Str) (m : List Val → Heap → Res Val) : Prop where
  ok : FnOk P w G.K mg base (L2.CX P w) k f fd ps (spM G ps.length m)
  st : ∀ xs h, xs.length ≠ ps.length → m xs h = .stuck
/-- the defaults of a def -/
structure DfM (G : Cfg) (xs : List Val) (vs : List V) (us : List Value) : Prop where
  v : Vals vs us
  r : ∀ r H, VRs G r H xs vs
theorem df_nil {G : Cfg} : DfM G [] [] [] := ⟨.nil, fun _ _ => .nil⟩
theorem df_non {G : Cfg} : DfM G [.non] [.non] [.none] := ⟨.cons rfl .nil, fun _ _ => .cons .non .nil⟩
def mCall (m : List Val → Heap → Res Val) (ds : List Val) (ma : En → Heap → Res (List Val)) (s : En) (h : Heap) : Res Val := (ma s h).bind fun xs h1 => m (xs ++ ds) h1
def isIns (c : Nat) (x : Val) (h : Heap) : Bool := match x with
  | .ref a => match h[a]? with
    | some (.ins c' _) => c == c'
    | _ => false
  | _ => false
def mMeth (c : Nat) (m : List Val → Heap → Res Val) (ds : List Val) (mo : En → Heap → Res Val) (ma : En → Heap → Res (List Val)) (s : En) (h : Heap) : Res Val := (mo s h).bind fun x h1 => if isIns c x h1 = true then (ma s h1).bind fun xs h2 => m (x :: (xs ++ ds)) h2 else .stuck
def mMake (c : Nat) (m : List Val → Heap → Res Val) (ds : List Val) (ma : En → Heap → Res (List Val)) (s : En) (h : Heap) : Res Val := (ma s h).bind fun xs h1 => (m (.ref h1.length :: (xs ++ ds)) (h1 ++ [.ins c []])).bind fun x h2 => match x with
  | .non => .ok (.ref h1.length) h2
  | _ => .stuck
section
variable {G : Cfg} {E : XK} {X : Cx} {k j : Nat} {a b c e o : Expr} {es : List Expr} {ta tb tc : TE} {ma mb mc mo : En → Heap → Res Val} {pos p2 p apos : Pos} {f D : Addr} {fd : FuncData} {ps : List Str} {m : List Val → Heap → Res Val} {x y : Str}
  {dx : List Val} {dv : List V} {du : List Value} {tA : TA} {mA : En → Heap → Res (List Val)}
theorem FnM.run (F : FnM G X.prog X.w X.mg X.base j f fd ps m) {r : List Addr} {H : Hp} {h : Heap} {xs : List Val} {vs : List V} {Q : VK} (hR : HR G r H h) (v : VRs G r H xs vs) (p : PostR G (VR G) r H E (m xs h) Q) : spM G ps.length m vs H Q E := by
  refine ⟨?_, r, h, xs, hR, v, p⟩
  rw [← v.len]
  refine Decidable.byContradiction fun q => ?_
  rw [F.st xs h q] at p
  exact p
theorem rf_call (F : FnM G X.prog X.w X.mg X.base j f fd ps m) (d : DfM G dx dv du) (ha : RfA G E tA mA) : Rf G E (tCall (spM G ps.length m) dv E tA) (mCall m dx mA) := by
  refine ⟨fun r H h s σ Q hR sR p => ha.run r H h s σ _ hR sR (p.seq fun x h1 r1 H1 v s1 hR1 v1 p1 => ?_)⟩
  exact F.run hR1 (v1.app (d.r _ _)) p1
theorem me_call (C : XC G E X k) (F : FnM G X.prog X.w X.mg X.base j f fd ps m) (d : DfM G dx dv du) (hj : j ≤ k) (hm : X.mg x = some (.ref f)) (hk : PySem.W.keepIn X.K (.ref f) = true) (hb : Binds X.K fd ps du) (ha : MA G E X (e :: es) tA mA) (hg : Gl X x := by rfl)
    (hdb : (x == ("__debug__" : Str)) = false := by decide) (he : starEach (e :: es) X.env = (false, eval e X.env) :: starEach es X.env := by rfl) (hpl : (backTo pos (starEach es X.env)).any (·.1) = false := by rfl) :
    ME G E X (.Call (.Name x p) (e :: es) [] pos) (tCall (spM G ps.length m) dv E tA) (mCall m dx mA) :=
  ⟨pe_call (by rw [C.K]; exact F.ok) (C.room.mono hj) hg hm hk hb d.v C.pass ha.pe hdb he hpl, rf_call F d ha.rf⟩
theorem me_call0 (C : XC G E X k) (F : FnM G X.prog X.w X.mg X.base j f fd ps m) (d : DfM G dx dv du) (hj : j ≤ k) (hm : X.mg x = some (.ref f)) (hk : PySem.W.keepIn X.K (.ref f) = true) (hb : Binds X.K fd ps du) (hg : Gl X x := by rfl)
    (hdb : (x == ("__debug__" : Str)) = false := by decide) :
    ME G E X (.Call (.Name x p) [] [] pos) (tCall (spM G ps.length m) dv E tNil) (mCall m dx mNil) :=
  ⟨pe_call0 (by rw [C.K]; exact F.ok) (C.room.mono hj) hg hm hk hb d.v C.pass hdb, rf_call F d (ma_nil (X := X)).rf⟩
theorem rf_meth (F : FnM G X.prog X.w X.mg X.base j f fd ps m) {c : Nat} (hc : G.cls[c]? = some D) (hm : Meth G.K D y f) (d : DfM G dx dv du) (ho : Rf G E ta mo) (ha : RfA G E tA mA) : Rf G E (tMeth D y (spM G ps.length m) dv E ta tA) (mMeth c m dx mo mA) := by
  refine ⟨fun r H h s σ Q hR sR p => ho.run r H h s σ _ hR sR (p.seq fun x h1 r1 H1 v s1 hR1 v1 p1 => ?_)⟩
  split at p1
  · rename_i hi
    cases v1 with
    | @ref n a ea =>
      simp only [isIns] at hi
      split at hi
      · rename_i c' fs eo
        have : c = c' := by simpa using hi
        subst this
        cases hR1.ob _ _ _ eo ea with
        | @ins _ D' _ _ _ _ hc' hC hH hf =>
          rw [hc] at hc'
          cases hc'
          refine ⟨_, _, _, rfl, hH, ?_, ?_⟩
          · have key : ∀ {fs : List (Nat × Val)} {gs : List (Str × V)}, FR G r1 H1 D fs gs → gs.lookup y = none := by
              intro fs gs hf
              induction hf with
              | nil => rfl
              | @cons f' z x' v' fs gs hz na _ _ ih =>
                have : y ≠ z := fun q => by
                  subst q
                  have h1 := hm.at_
                  have h2 : PySem.W.findIn G.K (.ref D) y = some none := na
                  rw [h2] at h1
                  cases h1
                rw [List.lookup_cons, beq_eq_false_iff_ne.mpr this]
                exact ih
            exact key hf
          · refine ha.run r1 H1 h1 s σ _ hR1 (sR.mono s1) (p1.seq fun xs h2 r2 H2 vs s2 hR2 v2 p2 => ?_)
            exact F.run hR2 (.cons (.ref (s2.pre _ _ ea)) (v2.app (d.r _ _))) p2
      · cases hi
    | _ => simp [isIns] at hi
  · exact False.elim p1
theorem me_meth {pl : Sem Bool} (C : XC G E X k) (F : FnM G X.prog X.w X.mg X.base j f fd ps m) (c : Nat) (hc : G.cls[c]? = some D) (hC : Cls X.K D) (hm : Meth X.K D y f) (d : DfM G dx dv du) (hj : j ≤ k) (hb : Binds X.K fd ps du) (ho : ME G E X o ta mo) (ha : MA G E X (e :: es) tA mA)
    (hst : starEach (e :: es) X.env = (false, eval e X.env) :: starEach es X.env := by rfl) (hpl : (backTo pos (starEach es X.env)).any (·.1) = false := by rfl)
    (ht : eval (.Call (.Attribute o y apos) (e :: es) [] pos) X.env = (do
      let ov ← eval o X.env
      standAt apos.atName
      let (f, first) ← holding [ov] (getMethod ov y pl)
      callWith pos f first (backTo pos (starEach (e :: es) X.env)) (backToKw pos (keywordEach [] X.env))) := by rfl) :
    ME G E X (.Call (.Attribute o y apos) (e :: es) [] pos) (tMeth D y (spM G ps.length m) dv E ta tA) (mMeth c m dx mo mA) := by
  refine ⟨pe_meth ho.pe hC hm (by rw [C.K]; exact F.ok) (C.room.mono hj) hb d.v C.pass ha.pe hst hpl ht, rf_meth F hc (by rw [← C.K]; exact hm) d ho.rf ha.rf⟩
theorem me_meth0 {pl : Sem Bool} (C : XC G E X k) (F : FnM G X.prog X.w X.mg X.base j f fd ps m) (c : Nat) (hc : G.cls[c]? = some D) (hC : Cls X.K D) (hm : Meth X.K D y f) (d : DfM G dx dv du) (hj : j ≤ k) (hb : Binds X.K fd ps du) (ho : ME G E X o ta mo)
    (ht : eval (.Call (.Attribute o y apos) [] [] pos) X.env = (do
      let ov ← eval o X.env
      standAt apos.atName
      let (f, first) ← holding [ov] (getMethod ov y pl)
      callWith pos f first (backTo pos (starEach [] X.env)) (backToKw pos (keywordEach [] X.env))) := by rfl) :
    ME G E X (.Call (.Attribute o y apos) [] [] pos) (tMeth D y (spM G ps.length m) dv E ta tNil) (mMeth c m dx mo mNil) := by
  refine ⟨pe_meth0 ho.pe hC hm (by rw [C.K]; exact F.ok) (C.room.mono hj) hb d.v C.pass ht, rf_meth F hc (by rw [← C.K]; exact hm) d ho.rf (ma_nil (X := X)).rf⟩
theorem rf_make (F : FnM G X.prog X.w X.mg X.base j f fd ps m) {c : Nat} (hc : G.cls[c]? = some D) (hC : Cls G.K D) (d : DfM G dx dv du) (ha : RfA G E tA mA) : Rf G E (tMake D (spM G ps.length m) dv E tA) (mMake c m dx mA) := by
  refine ⟨fun r H h s σ Q hR sR p => ha.run r H h s σ _ hR sR (p.seq fun xs h1 r1 H1 vs s1 hR1 v1 p1 => ?_)⟩
  intro x ex nx nex ne
  have hx : (upd H1 ex (.own x)) x = none := by rw [upd_ne (Ne.symm ne)]; exact nx
  have st : Stp G.K r1 H1 (r1 ++ [x]) (upd (upd H1 ex (.own x)) x (.ins D ex [])) := (Stp.new0 (K := G.K) (r := r1) (u := .own x) nex).trans (Stp.new hx)
  have hR2 : HR G (r1 ++ [x]) (upd (upd H1 ex (.own x)) x (.ins D ex [])) (h1 ++ [.ins c []]) := (hR1.lay nex).push hx (.ins hc hC upd_same .nil)
  refine F.run hR2 (.cons (.ref (n := h1.length) ?_) ((v1.mono st).app (d.r _ _))) ?_
  · rw [← hR1.len]
    simp
  · have p2 := p1.shift st
    refine p2.seq fun z h2 r2 H2 v s2 hR3 v2 p3 => ?_
    cases v2 with
    | non =>
      refine ⟨rfl, p3.here hR3 (.ref (s2.pre _ _ ?_))⟩
      rw [← hR1.len]
      simp
    | _ => exact False.elim p3
theorem me_make (C : XC G E X k) (F : FnM G X.prog X.w X.mg X.base j f fd ps m) (c : Nat) (hc : G.cls[c]? = some D) (hC : Cls G.K D) (M : Mk X.K D f) (d : DfM G dx dv du) (hj : j + 1 ≤ k) (hm : X.mg x = some (.ref D)) (hb : Binds X.K fd ps du) (ha : MA G E X (e :: es) tA mA) (hg : Gl X x := by rfl)
    (hdb : (x == ("__debug__" : Str)) = false := by decide) (he : starEach (e :: es) X.env = (false, eval e X.env) :: starEach es X.env := by rfl) (hpl : (backTo pos (starEach es X.env)).any (·.1) = false := by rfl) :
    ME G E X (.Call (.Name x p) (e :: es) [] pos) (tMake D (spM G ps.length m) dv E tA) (mMake c m dx mA) :=
  ⟨pe_make M (by rw [C.K]; exact F.ok) (C.room.mono hj) hg hm hb d.v C.pass ha.pe hdb he hpl, rf_make F hc hC d ha.rf⟩
theorem me_make0 (C : XC G E X k) (F : FnM G X.prog X.w X.mg X.base j f fd ps m) (c : Nat) (hc : G.cls[c]? = some D) (hC : Cls G.K D) (M : Mk X.K D f) (d : DfM G dx dv du) (hj : j + 1 ≤ k) (hm : X.mg x = some (.ref D)) (hb : Binds X.K fd ps du) (hg : Gl X x := by rfl)
    (hdb : (x == ("__debug__" : Str)) = false := by decide) :
    ME G E X (.Call (.Name x p) [] [] pos) (tMake D (spM G ps.length m) dv E tNil) (mMake c m dx mNil) :=
  ⟨pe_make0 M (by rw [C.K]; exact F.ok) (C.room.mono hj) hg hm hb d.v C.pass hdb, rf_make F hc hC d (ma_nil (X := X)).rf⟩
end
end PyM

set_option Elab.async false
set_option linter.all false
set_option maxRecDepth 100000
set_option autoImplicit false
namespace PyM
open PySem L2

/-! ### statements -/
def RS.bind (x : RS) (k : En → Heap → RS) : RS := match x with
  | .nx s h => k s h
  | x => x
def Res.thenS {α : Type} (x : Res α) (k : α → Heap → RS) : RS := match x with
  | .ok a h => k a h
  | .raised c h => .raised c h
  | .stuck => .stuck
def sNx (s : En) (h : Heap) : RS := .nx s h
def sBk (s : En) (h : Heap) : RS := .bk s h
def sCt (s : En) (h : Heap) : RS := .ct s h
def sNever (_ : En) (_ : Heap) : RS := .stuck
def sSeq (a b : En → Heap → RS) (s : En) (h : Heap) : RS := (a s h).bind b
def sDrop (m : En → Heap → Res Val) (s : En) (h : Heap) : RS := (m s h).thenS fun _ h1 => .nx s h1
def sRet (m : En → Heap → Res Val) (s : En) (h : Heap) : RS := (m s h).thenS fun x h1 => .rt x h1
def sRetN (_ : En) (h : Heap) : RS := .rt .non h
def sIf (c : En → Heap → Res Bool) (a b : En → Heap → RS) (s : En) (h : Heap) : RS := (c s h).thenS fun x h1 => if x = true then a s h1 else b s h1
/-- targets -/
def gV (i : Nat) (x : Val) (s : En) : Option En := some (s.set i (some x))
def gsNil (xs : List Val) (s : En) : Option En := if xs.isEmpty = true then some s else none
def gsCons (g : Val → En → Option En) (gs : List Val → En → Option En) (xs : List Val) (s : En) : Option En := match xs with
  | x :: r => (g x s).bind fun s1 => gs r s1
  | [] => none
def gT (gs : List Val → En → Option En) (x : Val) (s : En) : Option En := match x with
  | .tup xs => gs xs s
  | _ => none
def sAsg (g : Val → En → Option En) (m : En → Heap → Res Val) (s : En) (h : Heap) : RS := (m s h).thenS fun x h1 => match g x s with
  | some s1 => .nx s1 h1
  | none => .stuck
def oSet (o i x : Val) (h : Heap) : Res Unit := match o with
  | .ref a => match h[a]? with
    | some (.lst xs) => match i with
      | .int k => match ixN xs.length k with
        | some j => .ok () (h.set a (.lst (xs.set j x)))
        | none => .stuck
      | _ => .stuck
    | some (.dct d) => if isKey i = true ∧ d.length < lim then .ok () (h.set a (.dct (putV d i x))) else .stuck
    | _ => .stuck
  | _ => .stuck
/-- o[i] = e: the value first -/
def sSub (mo mi me : En → Heap → Res Val) (s : En) (h : Heap) : RS := (me s h).thenS fun x h1 => (mo s h1).thenS fun o h2 => (mi s h2).thenS fun i h3 => (oSet o i x h3).thenS fun _ h4 => .nx s h4
/-- o[i], by values: a list's, a dict's -/
def oIxM (x y : Val) (h : Heap) : Res Val := match x with
  | .ref _ => oIx x y h
  | _ => .stuck
/-- o[i] op= e -/
def sSubA (f : Val → Val → Heap → Res Val) (mo mi me : En → Heap → Res Val) (s : En) (h : Heap) : RS := (mo s h).thenS fun o h1 => (mi s h1).thenS fun i h2 => (oIxM o i h2).thenS fun x h3 => (me s h3).thenS fun y h4 => (f x y h4).thenS fun z h5 => (oSet o i z h5).thenS fun _ h6 => .nx s h6
def oSetF (d f : Nat) (o x : Val) (h : Heap) : Res Unit := match o with
  | .ref a => match h[a]? with
    | some (.ins c fs) => if c = d ∧ fs.length < 1000 then .ok () (h.set a (.ins c (setF f x fs))) else .stuck
    | _ => .stuck
  | _ => .stuck
def sFld (d f : Nat) (mo me : En → Heap → Res Val) (s : En) (h : Heap) : RS := (me s h).thenS fun x h1 => (mo s h1).thenS fun o h2 => (oSetF d f o x h2).thenS fun _ h3 => .nx s h3
def sFldA (d f : Nat) (g : Val → Val → Heap → Res Val) (mo me : En → Heap → Res Val) (s : En) (h : Heap) : RS := (mo s h).thenS fun o h1 => (if isIns d o h1 = true then getF f o h1 else .stuck).thenS fun x h2 => (me s h2).thenS fun y h3 => (g x y h3).thenS fun z h4 => (oSetF d f o z h4).thenS fun _ h5 => .nx s h5
def sAug (i : Nat) (g : Val → Val → Heap → Res Val) (me : En → Heap → Res Val) (s : En) (h : Heap) : RS := match s[i]? with
  | some (some x) => (me s h).thenS fun y h1 => (g x y h1).thenS fun z h2 => .nx (s.set i (some z)) h2
  | _ => .stuck

section
variable {G : Cfg} {E : XK}
theorem PostS.seqS {α β : Type} {R1 : List Addr → Hp → α → β → Prop} {r : List Addr} {H : Hp} {x : Res α} {k : α → Heap → RS} {D : Ends} {Q' : β → Hp → Prop}
    (p : PostS G r H E (x.thenS k) D) (f : ∀ a h1 r1 H1 b, Stp G.K r H r1 H1 → HR G r1 H1 h1 → R1 r1 H1 a b → PostS G r1 H1 E (k a h1) D → Q' b H1) : PostR G R1 r H E x Q' := by
  cases x with
  | ok a h => exact fun r' H' b s' hR vR => f a h r' H' b s' hR vR (p.shift s')
  | raised c h => exact p
  | stuck => exact p
theorem PostS.here {r : List Addr} {H : Hp} {s : En} {t : St} {h : Heap} {D : Ends} (p : PostS G r H E (.nx s h) D) (hR : HR G r H h) (v : SR G r H s t) : D.nx t H := p r H t Stp.refl hR v
structure RfG (G : Cfg) (g : TG) (m : Val → En → Option En) : Prop where
  run : ∀ r H s σ x v (Q : St → Hp → Prop), SR G r H s σ → VR G r H x v → (∃ s1, m x s = some s1 ∧ ∀ σ1, SR G r H s1 σ1 → Q σ1 H) → g v σ H Q
structure RfGs (G : Cfg) (g : TGs) (m : List Val → En → Option En) : Prop where
  run : ∀ r H s σ xs vs (Q : St → Hp → Prop), SR G r H s σ → VRs G r H xs vs → (∃ s1, m xs s = some s1 ∧ ∀ σ1, SR G r H s1 σ1 → Q σ1 H) → g vs σ H Q
structure MG (G : Cfg) (X : Cx) (e : Expr) (g : TG) (m : Val → En → Option En) : Prop where
  pe : PG X e g
  rf : RfG G g m
structure MGs (G : Cfg) (X : Cx) (es : List Expr) (g : TGs) (m : List Val → En → Option En) : Prop where
  pe : PGs X es g
  rf : RfGs G g m
variable {X : Cx} {k : Nat} {a b c e o : Expr} {es : List Expr} {ta tb tc to ti : TE} {ma mb mc mo mi me : En → Heap → Res Val} {pos pos' p2 : Pos} {st : Stmt} {sts sts2 : List Stmt} {t u : TS} {m n : En → Heap → RS} {tt : TT} {mt : En → Heap → Res Bool}
theorem mg_name (i : Nat) {x : Str} (hN : X.N.Nodup) (hi : X.N[i]? = some x := by rfl) (hx : Loc X.env.scope x := by first | exact Or.inl rfl | exact Or.inr rfl) (hf : X.fn x = true ∨ X.env.scope.names.lookup x = some .local := by first | exact .inl rfl | exact .inr rfl | assumption) : MG G X (.Name x pos) (gName i) (gV i) :=
  ⟨pg_name hN hi hx hf, ⟨fun r H s σ x v Q sR vR ⟨s1, e1, q⟩ => by cases e1; exact q _ (sR.set vR i)⟩⟩
theorem mgs_nil : MGs G X [] gNil gsNil := ⟨pgs_nil, ⟨fun r H s σ xs vs Q sR vR ⟨s1, e1, q⟩ => by
  cases vR with
  | nil => cases e1; exact ⟨rfl, q _ sR⟩
  | cons _ _ => simp [gsNil] at e1⟩⟩
theorem mgs_cons {g : TG} {gs : TGs} {mg : Val → En → Option En} {mgs : List Val → En → Option En} (h : MG G X e g mg) (hs : MGs G X es gs mgs) (hx : (assignEach (e :: es) X.env).map (·.2) = assign e X.env :: (assignEach es X.env).map (·.2) := by rfl) : MGs G X (e :: es) (gCons g gs) (gsCons mg mgs) := by
  refine ⟨pgs_cons h.pe hs.pe hx, ⟨fun r H s σ xs vs Q sR vR ⟨s1, e1, q⟩ => ?_⟩⟩
  cases vR with
  | nil => simp [gsCons] at e1
  | cons v1 v2 =>
    simp only [gsCons] at e1
    cases hq : mg _ s with
    | none => rw [hq] at e1; cases e1
    | some s2 =>
      rw [hq] at e1
      exact ⟨_, _, rfl, h.rf.run r H s σ _ _ _ sR v1 ⟨s2, hq, fun σ1 sR1 => hs.rf.run r H s2 σ1 _ _ _ sR1 v2 ⟨s1, e1, q⟩⟩⟩
theorem mg_tup {gs : TGs} {mgs : List Val → En → Option En} {n : Nat} (C : XC G E X k) (h : MGs G X es gs mgs) (hl : ∀ xs s s1, mgs xs s = some s1 → xs.length = n) {kk : Nat}
    (hn : (assignEach es X.env).length = n := by rfl) (hst : (assignEach es X.env).findIdx? (·.1) = none := by rfl) : MG G X (.Tuple es kk pos) (gTup G.K n gs) (gT mgs) := by
  refine ⟨?_, ⟨fun r H s σ x v Q sR vR ⟨s1, e1, q⟩ => ?_⟩⟩
  · have := pg_tup (pos := pos) (k := kk) C.calm h.pe hn hst
    rwa [C.K] at this
  · cases vR with
    | tup hs hv => exact ⟨_, _, rfl, hs, by rw [← hv.len]; exact hl _ _ _ e1, h.rf.run r H s σ _ _ _ sR hv ⟨s1, e1, q⟩⟩
    | _ => cases e1
theorem gs_len0 (xs : List Val) (s s1 : En) (h : gsNil xs s = some s1) : xs.length = 0 := by
  cases xs with
  | nil => rfl
  | cons _ _ => simp [gsNil] at h
theorem gs_lenS {g : Val → En → Option En} {gs : List Val → En → Option En} {n : Nat} (ih : ∀ xs s s1, gs xs s = some s1 → xs.length = n) (xs : List Val) (s s1 : En) (h : gsCons g gs xs s = some s1) : xs.length = n + 1 := by
  cases xs with
  | nil => simp [gsCons] at h
  | cons x r =>
    simp only [gsCons] at h
    cases q : g x s with
    | none => rw [q] at h; cases h
    | some s2 => rw [q] at h; rw [List.length_cons, ih _ _ _ h]

/-! ### rules -/
theorem mss_nil : MSs G E X [] tNext sNx := ⟨pss_nil, ⟨fun r H h s σ D hR sR p => p.here hR sR⟩⟩
theorem PostS.ends {r : List Addr} {H : Hp} {x : RS} {D D' : Ends} (p : PostS G r H E x D) (h1 : D'.rt = D.rt) (h2 : D'.bk = D.bk) (h3 : D'.ct = D.ct) (h4 : ∀ s h, x ≠ .nx s h) : PostS G r H E x D' := by
  cases x with
  | nx s h => exact absurd rfl (h4 s h)
  | rt v h => intro r' H' v'; rw [h1]; exact p r' H' v'
  | bk s h => intro r' H' v'; rw [h2]; exact p r' H' v'
  | ct s h => intro r' H' v'; rw [h3]; exact p r' H' v'
  | raised c h => exact p
  | stuck => exact p
theorem mss_cons (h : MS G E X st t m) (h2 : MSs G E X sts u n) : MSs G E X (st :: sts) (tSeq t u) (sSeq m n) := by
  refine ⟨pss_cons h.pe h2.pe, ⟨fun r H hh s σ D hR sR p => h.rf.run r H hh s σ _ hR sR ?_⟩⟩
  unfold sSeq at p
  cases q : m s hh with
  | nx s1 h1 =>
    rw [q] at p
    exact fun r1 H1 σ1 s1' hR1 sR1 => h2.rf.run r1 H1 h1 s1 σ1 D hR1 sR1 (PostS.shift s1' p)
  | rt v h => rw [q] at p; exact p
  | bk v h => rw [q] at p; exact p
  | ct v h => rw [q] at p; exact p
  | raised v h => rw [q] at p; exact p
  | stuck => rw [q] at p; exact p
theorem mss_one (h : MS G E X st t m) : MSs G E X [st] t m := ⟨pss_one h.pe, h.rf⟩
theorem ms_pass : MS G E X (.Pass pos) tNext sNx := ⟨ps_pass, ⟨fun r H h s σ D hR sR p => p.here hR sR⟩⟩
theorem ms_break : MS G E X (.Break pos) tBreak sBk := ⟨ps_break, ⟨fun r H h s σ D hR sR p => p r H σ Stp.refl hR sR⟩⟩
theorem ms_continue : MS G E X (.Continue pos) tCont sCt := ⟨ps_continue, ⟨fun r H h s σ D hR sR p => p r H σ Stp.refl hR sR⟩⟩
theorem ms_never : MS G E X st tNever sNever := ⟨ps_never, ⟨fun r H h s σ D hR sR p => p⟩⟩
theorem ms_expr (ha : ME G E X a ta ma) (hs : swapsWith a none pos.line X.env = pure false := by rfl) : MS G E X (.Expr a pos) (tDrop ta) (sDrop ma) :=
  ⟨ps_expr ha.pe hs, ⟨fun r H h s σ D hR sR p => ha.rf.run r H h s σ _ hR sR (p.seqS fun x h1 r1 H1 v s1 hR1 v1 p1 => p1.here hR1 (sR.mono s1))⟩⟩
theorem ms_ret (ha : ME G E X a ta ma) : MS G E X (.Return (some a) pos) (tRet ta) (sRet ma) :=
  ⟨ps_ret ha.pe, ⟨fun r H h s σ D hR sR p => ha.rf.run r H h s σ _ hR sR (p.seqS fun x h1 r1 H1 v s1 hR1 v1 p1 => p1 r1 H1 v Stp.refl hR1 v1)⟩⟩
theorem ms_retN : MS G E X (.Return none pos) tRetN sRetN := ⟨ps_retN, ⟨fun r H h s σ D hR sR p => p r H _ Stp.refl hR .non⟩⟩
theorem ms_if (hc : MT G E X c tt mt) (h1 : MSs G E X sts t m) (h2 : MSs G E X sts2 u n) : MS G E X (.If c sts sts2 pos) (tIfS tt t u) (sIf mt m n) := by
  refine ⟨ps_if hc.pe h1.pe h2.pe, ⟨fun r H h s σ D hR sR p => hc.rf.run r H h s σ _ hR sR (p.seqS fun x h1' r1 H1 v s1 hR1 v1 p1 => ?_)⟩⟩
  subst v1
  split at p1
  · rename_i q
    rw [if_pos q]
    exact h1.rf.run r1 H1 h1' s σ D hR1 (sR.mono s1) p1
  · rename_i q
    rw [if_neg q]
    exact h2.rf.run r1 H1 h1' s σ D hR1 (sR.mono s1) p1
theorem ms_asg {tg : Expr} {g : TG} {mg : Val → En → Option En} (ha : ME G E X a ta ma) (hg : MG G X tg g mg) (hs : swapsWithSole [tg] a pos.line X.env = pure false := by rfl) (hw : swappedStores [tg] a X.env = pure none := by rfl) (h1 : (assignEach [tg] X.env).map (·.2) = [assign tg X.env] := by rfl) : MS G E X (.Assign [tg] a pos) (tAsg ta g) (sAsg mg ma) := by
  refine ⟨ps_asg ha.pe hg.pe hs hw h1, ⟨fun r H h s σ D hR sR p => ha.rf.run r H h s σ _ hR sR (p.seqS fun x h1' r1 H1 v s1 hR1 v1 p1 => ?_)⟩⟩
  cases q : mg x s with
  | none => rw [q] at p1; exact False.elim p1
  | some s2 => rw [q] at p1; exact hg.rf.run r1 H1 s σ x v _ (sR.mono s1) v1 ⟨s2, q, fun σ1 sR1 => p1.here hR1 sR1⟩
/-- a store to a list's place, to a dict's key -/
def rSetA : TSet := fun o i v H Q => rSetL o i v H Q ∨ ∃ a H1, o = .ref a ∧ DPut H a i v H1 ∧ Q H1
theorem set_all (hu : X.A.units + 1 < cLine) : PSet X rSetA := by
  intro pins s σ H o i v ov iv u Q I r1 r2 r3 q
  rcases q with q | ⟨a, H1, e, g, q⟩
  · exact set_list pins s σ H o i v ov iv u Q I r1 r2 r3 q
  · subst e
    obtain rfl : ov = Value.ref a := r1
    exact d_setItem hu I g r2 r3 fun s4 I4 => ⟨H1, I4, q⟩
theorem rf_set (ok : G.Ok) {r : List Addr} {H : Hp} {h : Heap} {o i x : Val} {ov iv v : V} {Q : Hp → Prop} (hR : HR G r H h) (r1 : VR G r H o ov) (r2 : VR G r H i iv) (r3 : VR G r H x v)
    (p : ∃ h1, oSet o i x h = .ok () h1 ∧ ∀ H1, Stp G.K r H r H1 → HR G r H1 h1 → Q H1) : rSetA ov iv v H Q := by
  obtain ⟨h1, p, q⟩ := p
  cases r1 with
  | @ref n a ea =>
    simp only [oSet] at p
    split at p
    · rename_i xs eo
      split at p
      · rename_i kk
        cases r2
        split at p
        · rename_i j ej
          cases p
          cases hR.ob _ _ _ eo ea with
          | lst hl hv =>
            refine .inl ⟨_, _, _, j, rfl, rfl, hl, by rw [← hv.len]; exact ej, q _ (Stp.upd fun o e => by rw [hl] at e; cases e; trivial) ?_⟩
            refine hR.write eo rfl ea (fun o e => by rw [hl] at e; cases e; trivial) (.lst upd_same ?_) rfl
            exact VRs.mono (Stp.upd fun o e => by rw [hl] at e; cases e; trivial) _ _ (VRs.set r3 j hv)
        · cases p
      · cases p
    · rename_i d eo
      split at p
      · rename_i hk
        cases p
        cases hR.ob _ _ _ eo ea with
        | dct hd hv =>
          obtain ⟨kq, hkq, rfl⟩ := KR.of r2 hk.1
          have st : ∀ u, Stp G.K r H r (upd H a u) := fun u => Stp.upd fun o e => by rw [hd] at e; cases e; trivial
          refine .inr ⟨_, _, rfl, DPut.k hd (lt_line (by rw [← hv.len]; exact hk.2)), q _ (st _) ?_⟩
          refine hR.write eo rfl ea (fun o e => by rw [hd] at e; cases e; trivial) (.dct upd_same ?_) rfl
          exact (hv.put ok hkq r3).mono (st _)
      · cases p
    · cases p
  | _ => cases p
theorem thenS_ok {α : Type} {r : List Addr} {H : Hp} {x : Res α} {k : α → Heap → RS} {D : Ends} (p : PostS G r H E (x.thenS k) D) (hn : ∀ c h, x ≠ .raised c h) : ∃ a h1, x = .ok a h1 ∧ PostS G r H E (k a h1) D := by
  cases x with
  | ok a h => exact ⟨a, h, rfl, p⟩
  | raised c h => exact absurd rfl (hn c h)
  | stuck => exact False.elim p
theorem oSet_nr (o i x : Val) (h : Heap) : ∀ c h1, oSet o i x h ≠ .raised c h1 := by
  intro c h1 e
  unfold oSet at e
  (repeat' split at e) <;> cases e
theorem ms_sub (ok : G.Ok) (C : XC G E X k) (ho : ME G E X o to mo) (hi : ME G E X b ti mi) (ha : ME G E X a ta ma) (hs : swapsWithSole [.Subscript o b pos'] a pos.line X.env = pure false := by rfl) (hw : swappedStores [.Subscript o b pos'] a X.env = pure none := by rfl)
    (hx : ∀ v, assign (.Subscript o b pos') X.env v = (do
      let ov ← holding [v] (eval o X.env)
      let iv ← holding [v, ov] (eval b X.env)
      standAt pos'
      holding [v, ov, iv] (setItem ov iv v)
      release [v, ov, iv] []) := by intro _; rfl) (h1 : (assignEach [.Subscript o b pos'] X.env).map (·.2) = [assign (.Subscript o b pos') X.env] := by rfl) :
    MS G E X (.Assign [.Subscript o b pos'] a pos) (tAsg ta (gSub to ti rSetA)) (sSub mo mi ma) := by
  refine ⟨ps_asg ha.pe (pg_sub ho.pe hi.pe (set_all (by have := C.hu; omega)) hx) hs hw h1, ⟨fun r H h s σ D hR sR p => ha.rf.run r H h s σ _ hR sR (p.seqS fun x h1 r1 H1 v s1 hR1 v1 p1 => ?_)⟩⟩
  refine ho.rf.run r1 H1 h1 s σ _ hR1 (sR.mono s1) (p1.seqS fun y h2 r2 H2 w s2 hR2 v2 p2 => ?_)
  refine hi.rf.run r2 H2 h2 s σ _ hR2 (sR.mono (s1.trans s2)) (p2.seqS fun z h3 r3 H3 w3 s3 hR3 v3 p3 => ?_)
  obtain ⟨_, h4, e4, p4⟩ := thenS_ok p3 (oSet_nr _ _ _ _)
  refine rf_set ok hR3 (v2.mono s3) v3 (v1.mono (s2.trans s3)) ⟨h4, e4, fun H4 s4 hR4 => ?_⟩
  exact (p4.shift s4).here hR4 (sR.mono ((s1.trans s2).trans (s3.trans s4)))
def rGetA (K : PySem.W.Frag) : V → V → Hp → VK → Prop := fun x y H Q => rIxL K x y H Q ∨ rDGetR x y H Q
theorem get_all (hu : X.A.units + 1 < cLine) : PGet X (rGetA X.K) := by
  intro pins s σ H x y v u Q I rx ry q
  rcases q with h | ⟨a, z, rfl, g, q⟩
  · obtain ⟨p, xs, i, z, rfl, rfl, hq, he, q⟩ := h
    cases rx
    obtain ⟨t, rfl⟩ := ry
    obtain ⟨its, r, pl, hz⟩ := I.list hq
    obtain ⟨j, h1, h2, h3, h4, h5⟩ := atI_get he
    obtain ⟨w, ew, rw'⟩ := r.get h2
    have hl := r.length
    have hn := line63
    have fin : EP X pins σ Q w s := ⟨z, H, I, rw', q⟩
    by_cases h0 : 0 ≤ i
    · have hj : i.toNat = j := by
        rw [seqIndex_of h0 h5] at h1
        exact Option.some.inj h1
      exact wpAny_getItem_list pl.isList h0 (by omega) (by rw [hj]; simpa using ew) fin
    · have hj : (i + (its.toArray.size : Int)).toNat = j := by
        rw [seqIndex_neg (by omega) h4] at h1
        rw [List.size_toArray, ← hl]
        exact Option.some.inj h1
      exact wpAny_getItem_list_neg pl.isList (by omega) (by rw [List.size_toArray] <;> omega) (by omega) (by rw [hj]; simpa using ew) fin
  · obtain rfl : v = Value.ref a := rx
    exact d_getItem hu I g ry fun w' s3 I3 rw' => ⟨z, H, I3, rw', q⟩
theorem rf_get (ok : G.Ok) {r : List Addr} {H : Hp} {h : Heap} {x y : Val} {v u : V} {Q : VK} (hR : HR G r H h) (a : VR G r H x v) (b : VR G r H y u) (p : PostR G (VR G) r H E (oIxM x y h) Q) : rGetA G.K v u H Q := by
  cases a with
  | @ref n a ea =>
    simp only [oIxM, oIx] at p
    split at p
    · rename_i xs eo
      split at p
      · split at p
        · rename_i z ez
          cases b
          cases hR.ob _ _ _ eo ea with
          | lst hl va =>
            obtain ⟨j, e1, e2⟩ := atI_len va.len ez
            obtain ⟨w, e3, vw⟩ := va.get e1
            exact .inl ⟨_, _, _, _, rfl, rfl, SqL.of hl, e2 _ e3, p.here hR vw⟩
        · exact False.elim p
      · exact False.elim p
    · rename_i xs eo
      split at p
      · split at p
        · rename_i z ez
          cases b
          cases hR.ob _ _ _ eo ea with
          | fls hl va =>
            obtain ⟨j, e1, e2⟩ := atI_len va.len ez
            obtain ⟨w, e3, vw⟩ := va.get e1
            exact .inl ⟨_, _, _, _, rfl, rfl, hl.sq, e2 _ e3, p.here hR vw⟩
        · exact False.elim p
      · exact False.elim p
    · rename_i d eo
      split at p
      · rename_i hk
        split at p
        · rename_i z ez
          cases hR.ob _ _ _ eo ea with
          | dct hd hv =>
            obtain ⟨q, kq, rfl⟩ := KR.of b hk
            rcases hv.look ok kq with ⟨e1, _⟩ | ⟨x', v', e1, e2, v2⟩
            · rw [e1] at ez
              cases ez
            · rw [e1] at ez
              cases ez
              exact .inr ⟨_, _, rfl, by rw [← e2]; exact DGet.k hd, p.here hR v2⟩
        · exact False.elim p
      · exact False.elim p
    · rename_i d eo
      split at p
      · rename_i hk
        split at p
        · rename_i z ez
          cases hR.ob _ _ _ eo ea with
          | fdc hd hv =>
            obtain ⟨q, kq, rfl⟩ := KR.of b hk
            rcases hv.look ok kq with ⟨e1, _⟩ | ⟨x', v', e1, e2, v2⟩
            · rw [e1] at ez
              cases ez
            · rw [e1] at ez
              cases ez
              exact .inr ⟨_, _, rfl, by rw [← e2]; exact DGet_kf hd, p.here hR v2⟩
        · exact False.elim p
      · exact False.elim p
    · exact False.elim p
  | _ => exact False.elim p
theorem ia_add : PIp X .Add (rI0 fun i j => .int (i + j)) := fun pins s σ H x y v u Q I r1 r2 h => iop_add pins s σ H x y v u Q I r1 r2 h
theorem ia_sub : PIp X .Sub (rI0 fun i j => .int (i - j)) := fun pins s σ H x y v u Q I r1 r2 h => iop_sub pins s σ H x y v u Q I r1 r2 h
theorem ms_subA (ok : G.Ok) (C : XC G E X k) {op : Operator} {t : TIp} {f : Val → Val → Heap → Res Val} (hop : PIp X op t) (hf : Rf2 G E t f) (ho : ME G E X o to mo) (hi : ME G E X b ti mi) (ha : ME G E X a ta ma)
    (hs : ∀ ov iv new, augStore b ov iv new = (do holding [new, ov, iv] (setItem ov iv new); release [new, ov, iv] []; pure .next) := by intros; rfl) :
    MS G E X (.AugAssign (.Subscript o b pos') op a pos) (tAugS to ti ta (rGetA G.K) t rSetA) (sSubA f mo mi ma) := by
  refine ⟨?_, ⟨fun r H h s σ D hR sR p => ho.rf.run r H h s σ _ hR sR (PostS.seqS (sSub_eq p) fun x h1 r1 H1 v s1 hR1 v1 p1 => ?_)⟩⟩
  · have := ps_augS (pos := pos) (tpos := pos') ho.pe hi.pe (get_all (X := X) (by have := C.hu; omega)) ha.pe hop (set_all (by have := C.hu; omega)) hs
    rwa [C.K] at this
  · refine hi.rf.run r1 H1 h1 s σ _ hR1 (sR.mono s1) (p1.seqS fun y h2 r2 H2 w s2 hR2 v2 p2 => ?_)
    refine rf_get (E := E) ok hR2 (v1.mono s2) v2 (p2.seqS fun z h3 r3 H3 w3 s3 hR3 v3 p3 => ?_)
    refine ha.rf.run r3 H3 h3 s σ _ hR3 (sR.mono ((s1.trans s2).trans s3)) (p3.seqS fun y' h4 r4 H4 w4 s4 hR4 v4 p4 => ?_)
    refine hf.run r4 H4 h4 z y' w3 w4 _ hR4 (v3.mono s4) v4 (p4.seqS fun z' h5 r5 H5 w5 s5 hR5 v5 p5 => ?_)
    obtain ⟨_, h6, e6, p6⟩ := thenS_ok p5 (oSet_nr _ _ _ _)
    have sA := (s3.trans s4).trans s5
    refine rf_set ok hR5 (v1.mono (s2.trans sA)) (v2.mono sA) v5 ⟨h6, e6, fun H6 s6 hR6 => ?_⟩
    exact (p6.shift s6).here hR6 (sR.mono (((s1.trans s2).trans sA).trans s6))
where
  sSub_eq {r H s h D} {mo mi me : En → Heap → Res Val} {f : Val → Val → Heap → Res Val} (p : PostS G r H E (sSubA f mo mi me s h) D) : PostS G r H E ((mo s h).thenS fun o h1 => (mi s h1).thenS fun i h2 => (oIxM o i h2).thenS fun x h3 => (me s h3).thenS fun y h4 => (f x y h4).thenS fun z h5 => (oSet o i z h5).thenS fun _ h6 => .nx s h6) D := p
/-! fields -/
theorem FR.len {r : List Addr} {H : Hp} {D : Addr} {fs gs} (q : FR G r H D fs gs) : fs.length = gs.length := by
  induction q with
  | nil => rfl
  | cons _ _ _ _ ih => simp [ih]
theorem FR.put (ok : G.Ok) {r : List Addr} {H : Hp} {D : Addr} {fs gs} (q : FR G r H D fs gs) {f : Nat} {z : Str} {x : Val} {v : V} (hz : G.nms[f]? = some z) (na : NoAttr G.K D z) (hv : VR G r H x v) : FR G r H D (setF f x fs) (putF z v gs) := by
  induction q with
  | nil => exact .cons hz na hv .nil
  | @cons g y x' v' fs gs hy na' hv' _ ih =>
    unfold setF putF
    by_cases e : g = f
    · subst e
      rw [hz] at hy
      cases hy
      rw [if_pos rfl, if_pos rfl]
      exact .cons hz na hv (by assumption)
    · have : ¬ y = z := fun q => e (by
        subst q
        obtain ⟨h1, e1⟩ := List.getElem?_eq_some_iff.mp hy
        obtain ⟨h2, e2⟩ := List.getElem?_eq_some_iff.mp hz
        exact (List.getElem_inj ok.nn).mp (e1.trans e2.symm))
      rw [if_neg e, if_neg this]
      exact .cons hy na' hv' ih
theorem oSetF_nr (d f : Nat) (o x : Val) (h : Heap) : ∀ c h1, oSetF d f o x h ≠ .raised c h1 := by
  intro c h1 e
  unfold oSetF at e
  (repeat' split at e) <;> cases e
theorem rf_setF (ok : G.Ok) {r : List Addr} {H : Hp} {h h1 : Heap} {o x : Val} {ov v : V} {d f : Nat} {B : Addr} {z : Str} (hz : G.nms[f]? = some z) (hB : G.cls[d]? = some B) (na : NoAttr G.K B z) {Q : Hp → Prop} (hR : HR G r H h) (r1 : VR G r H o ov) (r3 : VR G r H x v) (p : oSetF d f o x h = .ok () h1)
    (q : ∀ H1, Stp G.K r H r H1 → HR G r H1 h1 → Q H1) : ∃ a dx fs, ov = .ref a ∧ H a = some (.ins B dx fs) ∧ Cls G.K B ∧ NoAttr G.K B z ∧ fs.length < 1000 ∧ Q (upd H a (.ins B dx (putF z v fs))) := by
  cases r1 with
  | @ref n a ea =>
    simp only [oSetF] at p
    split at p
    · rename_i c fs eo
      split at p
      · rename_i hl
        obtain ⟨rfl, hl⟩ := hl
        cases p
        cases hR.ob _ _ _ eo ea with
        | ins hc hC hH hf =>
          rw [hB] at hc
          cases hc
          have st : ∀ u, Stp G.K r H r (upd H a u) := fun u => Stp.upd fun o e => by rw [hH] at e; cases e; trivial
          refine ⟨_, _, _, rfl, hH, hC, na, by rw [← hf.len]; exact hl, q _ (st _) ?_⟩
          exact hR.write eo rfl ea (fun o e => by rw [hH] at e; cases e; trivial) (.ins hB hC upd_same ((hf.put ok hz na r3).mono (st _))) rfl
      · cases p
    · cases p
  | _ => cases p
theorem ms_fld (ok : G.Ok) (C : XC G E X k) (d f : Nat) {B : Addr} {z : Str} (hz : G.nms[f]? = some z) (hB : G.cls[d]? = some B) (na : NoAttr G.K B z) (ho : ME G E X o to mo) (ha : ME G E X a ta ma) (hs : swapsWith a (some (.Attribute o z pos')) pos.line X.env = pure false := by rfl) :
    MS G E X (.Assign [.Attribute o z pos'] a pos) (L2.sFld G.K to ta z) (sFld d f mo ma) := by
  refine ⟨?_, ⟨fun r H h s σ D hR sR p => ha.rf.run r H h s σ _ hR sR (p.seqS fun x h1 r1 H1 v s1 hR1 v1 p1 => ?_)⟩⟩
  · have := ps_fld ho.pe ha.pe hs
    rwa [C.K] at this
  · refine ho.rf.run r1 H1 h1 s σ _ hR1 (sR.mono s1) (p1.seqS fun y h2 r2 H2 w s2 hR2 v2 p2 => ?_)
    obtain ⟨_, h3, e3, p3⟩ := thenS_ok p2 (oSetF_nr _ _ _ _ _)
    obtain ⟨a', dx', fs', q1, q2, q3, q4, q5, q6⟩ := rf_setF (Q := fun H3 => D.nx σ H3) ok hz hB na hR2 v2 (v1.mono s2) e3 fun H3 s3 hR3 => (p3.shift s3).here hR3 (sR.mono ((s1.trans s2).trans s3))
    exact ⟨a', B, dx', fs', q1, q2, q3, q4, q5, q6⟩
theorem getF_nr (f : Nat) (o : Val) (h : Heap) : ∀ c h1, getF f o h ≠ .raised c h1 := by
  intro c h1 e
  unfold getF at e
  (repeat' split at e) <;> cases e
theorem getF_ok {f : Nat} {o x : Val} {h h1 : Heap} (p : getF f o h = .ok x h1) : ∃ n c fs, o = .ref n ∧ h[n]? = some (.ins c fs) ∧ lookF f fs = some x ∧ h1 = h := by
  unfold getF at p
  split at p
  · split at p
    · rename_i c fs eo
      split at p
      · rename_i v ev
        cases p
        exact ⟨_, c, fs, rfl, eo, ev, rfl⟩
      · cases p
    · cases p
  · cases p
theorem ms_fldA (ok : G.Ok) (C : XC G E X k) (d f : Nat) {B : Addr} {z : Str} (hz : G.nms[f]? = some z) (hB : G.cls[d]? = some B) (na : NoAttr G.K B z) {op : Operator} {t : TIp} {g : Val → Val → Heap → Res Val} (hop : PIp X op t) (hg : Rf2 G E t g)
    (ho : ME G E X o to mo) (ha : ME G E X a ta ma) : MS G E X (.AugAssign (.Attribute o z pos') op a pos) (sFldAug G.K to ta t z) (sFldA d f g mo ma) := by
  refine ⟨?_, ⟨fun r H h s σ D hR sR p => ho.rf.run r H h s σ _ hR sR (p.seqS fun x h1 r1 H1 v s1 hR1 v1 p1 => ?_)⟩⟩
  · have := ps_fldaug (pos := pos) (tpos := pos') (f := z) (rd := t) ho.pe ha.pe (fun pins s σ H x y u v Q I r1 r2 h => hop pins s σ H x y u v Q I r1 r2 h)
    rwa [C.K] at this
  · obtain ⟨y, h2, e2, p2⟩ := thenS_ok p1 (by
      intro c h
      split
      · exact getF_nr _ _ _ _ _
      · exact fun q => by cases q)
    split at e2
    · rename_i hi
      obtain ⟨n, c, fs, rfl, eo, el, rfl⟩ := getF_ok e2
      simp only [isIns, eo, beq_iff_eq] at hi
      subst hi
      cases v1 with
      | ref ea =>
        cases hR1.ob _ _ _ eo ea with
        | ins hc hC hH hf =>
          rw [hB] at hc
          cases hc
          rcases hf.look ok hz with ⟨e1, _⟩ | ⟨x', v', e1, e2', v2, na'⟩
          · rw [e1] at el
            cases el
          · rw [e1] at el
            cases el
            refine ⟨_, _, _, _, _, rfl, hH, hC, na', e2', ?_⟩
            refine ha.rf.run r1 H1 h2 s σ _ hR1 (sR.mono s1) (p2.seqS fun y' h4 r4 H4 w4 s4 hR4 v4 p4 => ?_)
            refine hg.run r4 H4 h4 _ y' v' w4 _ hR4 (v2.mono s4) v4 (p4.seqS fun z' h5 r5 H5 w5 s5 hR5 v5 p5 => ?_)
            obtain ⟨_, h6, e6, p6⟩ := thenS_ok p5 (oSetF_nr _ _ _ _ _)
            obtain ⟨a', dx', fs', q1, q2, q3, q4, q5, q6⟩ := rf_setF (Q := fun H6 => D.nx σ H6) ok hz hB na hR5 (.ref ((s4.trans s5).pre _ _ ea)) v5 e6 fun H6 s6 hR6 => (p6.shift s6).here hR6 (sR.mono (s1.trans (s4.trans (s5.trans s6))))
            cases q1
            exact ⟨dx', fs', q2, q5, q6⟩
    · cases e2
theorem ms_aug (i : Nat) {x : Str} {op : Operator} {t : TIp} {g : Val → Val → Heap → Res Val} (hop : PIp X op t) (hg : Rf2 G E t g) (hN : X.N.Nodup) (ha : ME G E X a ta ma) (hi : X.N[i]? = some x := by rfl) (hx : Loc X.env.scope x := by first | exact Or.inl rfl | exact Or.inr rfl)
    (hf : X.fn x = true ∨ X.env.scope.names.lookup x = some .local := by first | exact .inl rfl | exact .inr rfl | assumption) : MS G E X (.AugAssign (.Name x pos') op a pos) (tAug i ta t) (sAug i g ma) := by
  refine ⟨ps_aug hN hi hx ha.pe hop hf, ⟨fun r H h s σ D hR sR p => ?_⟩⟩
  unfold sAug at p
  split at p
  · rename_i x' e
    obtain ⟨v, ev, vR⟩ := sR.get e
    refine ⟨v, ev, ?_⟩
    refine ha.rf.run r H h s σ _ hR sR (p.seqS fun y h1 r1 H1 w s1 hR1 v1 p1 => ?_)
    refine hg.run r1 H1 h1 _ y v w _ hR1 (vR.mono s1) v1 (p1.seqS fun z h2 r2 H2 w2 s2 hR2 v2 p2 => ?_)
    exact p2.here hR2 ((sR.mono (s1.trans s2)).set v2 i)
  · exact False.elim p
end
end PyM

set_option Elab.async false
set_option linter.all false
set_option maxRecDepth 100000
set_option autoImplicit false
namespace PyM
open PySem L2

/-! ### what a loop walks -/
structure Src where
  items : List Val
  chk : Heap → Bool
abbrev MI := En → Heap → Res Src
/-- the source lies under the layer's iterator J -/
structure ItOk (G : Cfg) (r : List Addr) (H : Hp) (J : It) (S : Src) : Prop where
  stop : ∀ r2 H2 h2, Stp G.K r H r2 H2 → HR G r2 H2 h2 → S.chk h2 = true → J.stop S.items.length H2
  go : ∀ r2 H2 h2 (i : Nat) (x : Val), Stp G.K r H r2 H2 → HR G r2 H2 h2 → S.chk h2 = true → S.items[i]? = some x →
    J.go i H2 ∧ ∀ v H3, J.yld i H2 v H3 → ∃ r3, Stp G.K r2 H2 r3 H3 ∧ HR G r3 H3 h2 ∧ VR G r3 H3 x v
structure RfI (G : Cfg) (E : XK) (t : TI) (m : MI) : Prop where
  run : ∀ r H h s σ (R : It → Hp → Prop), HR G r H h → SR G r H s σ → PostR G (fun r1 H1 (S : Src) (J : It) => ItOk G r1 H1 J S) r H E (m s h) R → t σ H R
structure MIt (G : Cfg) (E : XK) (X : Cx) (tg e : Expr) (t : TI) (m : MI) : Prop where
  pe : PI X tg e t
  rf : RfI G E t m
def lstIs (a : Nat) (xs : List Val) (h : Heap) : Bool := match h[a]? with
  | some (.lst ys) => decide (ys = xs)
  | some (.fls ys) => decide (ys = xs)
  | _ => false
def iSeq (m : En → Heap → Res Val) : MI := fun s h => (m s h).bind fun x h1 => match x with
  | .tup xs => .ok ⟨xs, fun _ => true⟩ h1
  | .ref a => match h1[a]? with
    | some (.lst xs) => .ok ⟨xs, lstIs a xs⟩ h1
    | some (.fls xs) => .ok ⟨xs, lstIs a xs⟩ h1
    | _ => .stuck
  | _ => .stuck
def iLst (m : En → Heap → Res Val) : MI := fun s h => (m s h).bind fun x h1 => match x with
  | .ref a => match h1[a]? with
    | some (.lst xs) => .ok ⟨xs, lstIs a xs⟩ h1
    | some (.fls xs) => .ok ⟨xs, lstIs a xs⟩ h1
    | _ => .stuck
  | _ => .stuck
def iTup_ (m : En → Heap → Res Val) : MI := fun s h => (m s h).bind fun x h1 => match x with
  | .tup xs => .ok ⟨xs, fun _ => true⟩ h1
  | _ => .stuck
def rangeV (lo : Int) (n : Nat) : List Val := (List.range n).map fun (i : Nat) => Val.int (lo + (i : Int))
def iRng1 (m : En → Heap → Res (List Val)) : MI := fun s h => (m s h).bind fun xs h1 => match xs with
  | [.int j] => if -(2 ^ 62) ≤ j ∧ j < 2 ^ 62 then .ok ⟨rangeV 0 j.toNat, fun _ => true⟩ h1 else .stuck
  | _ => .stuck
def iRng2 (m : En → Heap → Res (List Val)) : MI := fun s h => (m s h).bind fun xs h1 => match xs with
  | [.int i, .int j] => if -(2 ^ 62) ≤ i ∧ i < 2 ^ 62 ∧ -(2 ^ 62) ≤ j ∧ j < 2 ^ 62 then .ok ⟨rangeV i (j - i).toNat, fun _ => true⟩ h1 else .stuck
  | _ => .stuck
def iAlt (m n : MI) : MI := fun s h => match m s h with
  | .stuck => n s h
  | x => x
section
variable {G : Cfg} {E : XK} {X : Cx} {k : Nat} {a b c e tg : Expr} {es : List Expr} {ta tb tc : TE} {ma mb mc : En → Heap → Res Val} {pos p : Pos} {tA : TA} {mA : En → Heap → Res (List Val)}
theorem rangeV_get {lo : Int} {n i : Nat} : (rangeV lo n)[i]? = if i < n then some (.int (lo + (i : Int))) else none := by
  unfold rangeV
  rw [List.getElem?_map]
  by_cases h : i < n
  · rw [if_pos h, List.getElem?_range h]
    rfl
  · rw [if_neg h, List.getElem?_eq_none (by simpa using h)]
    rfl
theorem itl_ok {r1 : List Addr} {H1 : Hp} {ad : Addr} {xs : List Val} {n : Nat} (ea : r1[n]? = some ad) : ItOk G r1 H1 (Itl G.K ad) ⟨xs, lstIs n xs⟩ := by
  have key : ∀ r2 H2 h2, Stp G.K r1 H1 r2 H2 → HR G r2 H2 h2 → lstIs n xs h2 = true → ∃ vs, SqL G.K H2 ad vs ∧ VRs G r2 H2 xs vs := by
    intro r2 H2 h2 hp hR hc
    unfold lstIs at hc
    split at hc
    · rename_i ys eo
      have : ys = xs := by simpa using hc
      subst this
      cases hR.ob _ _ _ eo (hp.pre _ _ ea) with
      | lst hl hv => exact ⟨_, SqL.of hl, hv⟩
    · rename_i ys eo
      have : ys = xs := by simpa using hc
      subst this
      cases hR.ob _ _ _ eo (hp.pre _ _ ea) with
      | fls hl hv => exact ⟨_, hl.sq, hv⟩
    · cases hc
  refine ⟨fun r2 H2 h2 hp hR hc => ?_, fun r2 H2 h2 i x hp hR hc hx => ?_⟩
  · obtain ⟨vs, h1, h2⟩ := key r2 H2 h2 hp hR hc
    exact ⟨vs, h1, Nat.le_of_eq h2.len.symm⟩
  · obtain ⟨vs, h1, h2⟩ := key r2 H2 h2 hp hR hc
    obtain ⟨v, ev, vv⟩ := h2.get hx
    refine ⟨⟨vs, v, h1, ev⟩, fun v' H3 hy => ?_⟩
    obtain ⟨rfl, hy⟩ := hy
    have := hy vs h1
    rw [ev] at this
    cases this
    exact ⟨r2, Stp.refl, hR, vv⟩
theorem mi_lst (C : XC G E X k) (ha : ME G E X a ta ma) : MIt G E X tg a (iList G.K ta) (iLst ma) := by
  refine ⟨?_, ⟨fun r H h s σ R hR sR p => ha.rf.run r H h s σ _ hR sR (p.seq fun x h1 r1 H1 v s1 hR1 v1 p1 => ?_)⟩⟩
  · have := pi_list (tg := tg) ha.pe
    rwa [C.K] at this
  · cases v1 with
    | @ref n ad ea =>
      simp only at p1
      split at p1
      · rename_i xs eo
        cases hR1.ob _ _ _ eo ea with
        | lst hl hv => exact ⟨_, rfl, ⟨_, SqL.of hl⟩, p1.here hR1 (itl_ok ea)⟩
      · rename_i xs eo
        cases hR1.ob _ _ _ eo ea with
        | fls hl hv => exact ⟨_, rfl, ⟨_, hl.sq⟩, p1.here hR1 (itl_ok ea)⟩
      · exact False.elim p1
    | _ => exact False.elim p1
theorem itr_ok {r1 : List Addr} {H1 : Hp} {lo : Int} {n : Nat} : ItOk G r1 H1 (Itr lo n) ⟨rangeV lo n, fun _ => true⟩ := by
  refine ⟨fun r2 H2 h2 _ _ _ => ?_, fun r2 H2 h2 i x _ hR2 _ hx => ?_⟩
  · show n ≤ (rangeV lo n).length
    simp [rangeV]
  · have hx : (rangeV lo n)[i]? = some x := hx
    rw [rangeV_get] at hx
    split at hx
    · rename_i hi
      cases hx
      refine ⟨hi, fun v H3 hy => ?_⟩
      obtain ⟨rfl, rfl⟩ := hy
      exact ⟨r2, Stp.refl, hR2, .int _⟩
    · cases hx
theorem mi_rng1 (hm : X.mg "range" = none) (ha : MA G E X [a] tA mA) (hg : Gl X "range" := by rfl) (hs : starEach [a] X.env = [(false, eval a X.env)] := by rfl) : MIt G E X tg (.Call (.Name "range" p) [a] [] pos) (L2.iRng1 tA) (iRng1 mA) := by
  refine ⟨pi_range1 hg hm ha.pe hs, ⟨fun r H h s σ R hR sR p => ha.rf.run r H h s σ _ hR sR (p.seq fun x h1 r1 H1 v s1 hR1 v1 p1 => ?_)⟩⟩
  split at p1
  · rename_i j
    cases v1 with
    | cons q1 q2 =>
      cases q1
      cases q2
      split at p1
      · rename_i hj
        exact ⟨j, rfl, hj.1, hj.2, p1.here hR1 itr_ok⟩
      · exact False.elim p1
  · exact False.elim p1
theorem mi_rng2 (hm : X.mg "range" = none) (ha : MA G E X [a, b] tA mA) (hg : Gl X "range" := by rfl) (hs : starEach [a, b] X.env = [(false, eval a X.env), (false, eval b X.env)] := by rfl) (hs2 : starEach [b] X.env = [(false, eval b X.env)] := by rfl) :
    MIt G E X tg (.Call (.Name "range" p) [a, b] [] pos) (L2.iRng2 tA) (iRng2 mA) := by
  refine ⟨pi_range2 hg hm ha.pe hs hs2, ⟨fun r H h s σ R hR sR p => ha.rf.run r H h s σ _ hR sR (p.seq fun x h1 r1 H1 v s1 hR1 v1 p1 => ?_)⟩⟩
  split at p1
  · rename_i i j
    cases v1 with
    | cons q1 q2 => cases q2 with
      | cons q3 q4 =>
        cases q1
        cases q3
        cases q4
        split at p1
        · rename_i hj
          exact ⟨i, j, rfl, hj, p1.here hR1 itr_ok⟩
        · exact False.elim p1
  · exact False.elim p1
theorem itt_ok {r1 : List Addr} {H1 : Hp} {ad : Addr} {xs : List Val} {vs : List V} (hs : SqT G.K H1 ad vs) (hv : VRs G r1 H1 xs vs) : ItOk G r1 H1 (Itt G.K ad) ⟨xs, fun _ => true⟩ := by
  refine ⟨fun r2 H2 h2 hp _ _ => ⟨vs, hp.tup _ _ hs, Nat.le_of_eq hv.len.symm⟩, fun r2 H2 h2 i x hp hR2 _ hx => ?_⟩
  obtain ⟨v, ev, vv⟩ := hv.get hx
  refine ⟨⟨vs, v, hp.tup _ _ hs, ev⟩, fun v' H3 hy => ?_⟩
  obtain ⟨rfl, hy⟩ := hy
  have := hy vs (hp.tup _ _ hs)
  rw [ev] at this
  cases this
  exact ⟨r2, Stp.refl, hR2, vv.mono hp⟩
theorem mi_tup (C : XC G E X k) (ha : ME G E X a ta ma) : MIt G E X tg a (iTup G.K ta) (iTup_ ma) := by
  refine ⟨?_, ⟨fun r H h s σ R hR sR p => ha.rf.run r H h s σ _ hR sR (p.seq fun x h1 r1 H1 v s1 hR1 v1 p1 => ?_)⟩⟩
  · have := pi_tup (tg := tg) ha.pe
    rwa [C.K] at this
  · cases v1 with
    | tup hs hv => exact ⟨_, rfl, ⟨_, hs⟩, p1.here hR1 (itt_ok hs hv)⟩
    | _ => exact False.elim p1
theorem pi_or {tg e : Expr} {t t' : TI} (h : PI X tg e t) (h' : PI X tg e t') : PI X tg e (fun σ H R => t σ H R ∨ t' σ H R) := ⟨fun pins s σ H R I q => q.elim (h.run pins s σ H R I) (h'.run pins s σ H R I)⟩
theorem mi_alt {t t' : TI} {m m' : MI} (h : MIt G E X tg e t m) (h' : MIt G E X tg e t' m') : MIt G E X tg e (fun σ H R => t σ H R ∨ t' σ H R) (iAlt m m') := by
  refine ⟨pi_or h.pe h'.pe, ⟨fun r H hh s σ Q hR sR p => ?_⟩⟩
  unfold iAlt at p
  cases q : m s hh with
  | stuck => rw [q] at p; exact .inr (h'.rf.run r H hh s σ Q hR sR p)
  | ok x y => rw [q] at p; exact .inl (h.rf.run r H hh s σ Q hR sR (by rw [q]; exact p))
  | raised x y => rw [q] at p; exact .inl (h.rf.run r H hh s σ Q hR sR (by rw [q]; exact p))

/-! ### for -/
end
def forM_ (chk : Heap → Bool) (tg : Val → En → Option En) (body : En → Heap → RS) : List Val → En → Heap → RS
  | [], s, h => if chk h = true then .nx s h else .stuck
  | x :: xs, s, h => if chk h = true then match tg x s with
      | some s1 => match body s1 h with
        | .nx s2 h2 => forM_ chk tg body xs s2 h2
        | .ct s2 h2 => forM_ chk tg body xs s2 h2
        | .bk s2 h2 => .nx s2 h2
        | y => y
      | none => .stuck
    else .stuck
def sFor (mi : MI) (tg : Val → En → Option En) (body : En → Heap → RS) (s : En) (h : Heap) : RS := (mi s h).thenS fun S h1 => forM_ S.chk tg body S.items s h1
def whM (c : En → Heap → Res Bool) (body : En → Heap → RS) : Nat → En → Heap → RS
  | 0, _, _ => .stuck
  | n + 1, s, h => (c s h).thenS fun b h1 => if b = true then match body s h1 with
      | .nx s2 h2 => whM c body n s2 h2
      | .ct s2 h2 => whM c body n s2 h2
      | .bk s2 h2 => .nx s2 h2
      | y => y
    else .nx s h1
def wipeE (s : En) : List Nat → En
  | [] => s
  | v :: vs => (wipeE s vs).set v none
def lcM (chk : Heap → Bool) (tg : Val → En → Option En) (mt : En → Heap → Res Bool) (me : En → Heap → Res Val) (s0 : En) (n : Nat) : List Val → Heap → Res Unit
  | [], h => if chk h = true then .ok () h else .stuck
  | x :: xs, h => if chk h = true then match tg x s0 with
      | some s2 => match mt s2 h with
        | .ok b h1 => if b = true then match me s2 h1 with
            | .ok y h2 => match h2[n]? with
              | some (.lst acc) => if acc.length < lim then lcM chk tg mt me s0 n xs (h2.set n (.lst (acc ++ [y]))) else .stuck
              | _ => .stuck
            | _ => .stuck
          else lcM chk tg mt me s0 n xs h1
        | _ => .stuck
      | none => .stuck
    else .stuck
def mLc (mi : MI) (tg : Val → En → Option En) (mt : En → Heap → Res Bool) (me : En → Heap → Res Val) (vs : List Nat) (s : En) (h : Heap) : Res Val := (mi s h).bind fun S h1 => (lcM S.chk tg mt me (wipeE s vs) h1.length S.items (h1 ++ [.lst []])).bind fun _ h2 => .ok (.ref h1.length) h2
section
variable {G : Cfg} {E : XK} {X : Cx} {k : Nat} {a b c e tg iter elt : Expr} {es ifs : List Expr} {ta tb te : TE} {ma mb me : En → Heap → Res Val} {pos p : Pos} {tA : TA} {mA : En → Heap → Res (List Val)} {wi : TI} {mi : MI} {g : TG} {mg : Val → En → Option En}
  {sts : List Stmt} {t : TS} {m : En → Heap → RS} {tt : TT} {mt : En → Heap → Res Bool}
theorem rf_for (hi : RfI G E wi mi) (hg : RfG G g mg) (hb : RfS G E t m) : RfS G E (tFor wi g t) (sFor mi mg m) := by
  refine ⟨fun r H h s σ D hR sR p => hi.run r H h s σ _ hR sR (p.seqS fun S h1 r1 H1 J s1 hR1 J1 p1 => ?_)⟩
  refine ⟨fun i mm σ' H' => ∃ r' h' s', Stp G.K r1 H1 r' H' ∧ HR G r' H' h' ∧ SR G r' H' s' σ' ∧ mm = S.items.length - i ∧ i ≤ S.items.length ∧ PostS G r' H' E (forM_ S.chk mg m (S.items.drop i) s' h') D, ⟨_, r1, h1, s, Stp.refl, hR1, sR.mono s1, rfl, Nat.zero_le _, p1⟩, ?_⟩
  rintro i mm σ' H' ⟨r', h', s', st, hR', sR', rfl, hle, p'⟩
  cases hd : S.items.drop i with
  | nil =>
    have hi : i = S.items.length := by
      have := List.drop_eq_nil_iff.mp hd
      omega
    rw [hd] at p'
    unfold forM_ at p'
    split at p'
    · rename_i hc
      subst hi
      exact .inl ⟨J1.stop r' H' h' st hR' hc, p'.here hR' sR'⟩
    · exact False.elim p'
  | cons x rest =>
    have hlt : i < S.items.length := by
      refine Decidable.byContradiction fun q => ?_
      rw [List.drop_eq_nil_of_le (by omega)] at hd
      cases hd
    have hx : S.items[i]? = some x := by
      have := congrArg (fun l => l[0]?) hd
      simpa using this
    have hr : S.items.drop (i + 1) = rest := by
      rw [← List.drop_drop (i := 1) (j := i), hd]
      rfl
    rw [hd] at p'
    unfold forM_ at p'
    split at p'
    · rename_i hc
      obtain ⟨hgo, hy⟩ := J1.go r' H' h' i x st hR' hc hx
      refine .inr ⟨hgo, fun σ2 H2 => ∃ r2 h2 s2, Stp G.K r1 H1 r2 H2 ∧ HR G r2 H2 h2 ∧ SR G r2 H2 s2 σ2 ∧ PostS G r2 H2 E (forM_ S.chk mg m rest s2 h2) D, ?_, ?_⟩
      · rintro σ2 H2 ⟨r2, h2, s2, q1, q2, q3, q4⟩
        exact ⟨_, by omega, r2, h2, s2, q1, q2, q3, rfl, by omega, by rw [hr]; exact q4⟩
      · intro v H3 hyl
        obtain ⟨r3, st3, hR3, vR⟩ := hy v H3 hyl
        cases e1 : mg x s' with
        | none => rw [e1] at p'; exact False.elim p'
        | some s1' =>
          rw [e1] at p'
          refine hg.run r3 H3 s' σ' x v _ (sR'.mono st3) vR ⟨s1', e1, fun σ1 sR1 => ?_⟩
          refine hb.run r3 H3 h' s1' σ1 _ hR3 sR1 ?_
          simp only at p'
          cases e2 : m s1' h' with
          | nx s2 h2 =>
            rw [e2] at p'
            exact fun r4 H4 t4 st4 hR4 sR4 => ⟨r4, h2, s2, st.trans (st3.trans st4), hR4, sR4, p'.shift (st3.trans st4)⟩
          | ct s2 h2 =>
            rw [e2] at p'
            exact fun r4 H4 t4 st4 hR4 sR4 => ⟨r4, h2, s2, st.trans (st3.trans st4), hR4, sR4, p'.shift (st3.trans st4)⟩
          | bk s2 h2 =>
            rw [e2] at p'
            exact fun r4 H4 t4 st4 hR4 sR4 => p' r4 H4 t4 (st3.trans st4) hR4 sR4
          | rt v2 h2 =>
            rw [e2] at p'
            exact fun r4 H4 t4 st4 hR4 sR4 => p' r4 H4 t4 (st3.trans st4) hR4 sR4
          | raised c2 h2 =>
            rw [e2] at p'
            exact fun r4 H4 t4 st4 hR4 sR4 => p' r4 H4 t4 (st3.trans st4) hR4 sR4
          | stuck =>
            rw [e2] at p'
            exact p'
    · exact False.elim p'
theorem ms_for (C : XC G E X k) (hi : MIt G E X tg iter wi mi) (hg : MG G X tg g mg) (hb : MSs G E X sts t m) (hs : ∀ x, foldedSetIterable iter X.env x = pure x := by intro _; rfl) : MS G E X (.For tg iter sts [] pos) (tFor wi g t) (sFor mi mg m) :=
  ⟨ps_for C.own C.calm hi.pe hg.pe hb.pe hs, rf_for hi.rf hg.rf hb.rf⟩
theorem rf_while (n : Nat) (hc : RfT G E tt mt) (hb : RfS G E t m) : RfS G E (tWhile tt t) (whM mt m n) := by
  refine ⟨fun r H h s σ D hR sR p => ?_⟩
  refine ⟨fun mm σ' H' => ∃ r' h' s', Stp G.K r H r' H' ∧ HR G r' H' h' ∧ SR G r' H' s' σ' ∧ PostS G r' H' E (whM mt m mm s' h') D, ⟨n, r, h, s, Stp.refl, hR, sR, p⟩, ?_⟩
  rintro mm σ' H' ⟨r', h', s', st, hR', sR', p'⟩
  cases mm with
  | zero => exact False.elim p'
  | succ mm =>
    unfold whM at p'
    refine hc.run r' H' h' s' σ' _ hR' sR' (p'.seqS fun b h1 r1 H1 v s1 hR1 v1 p1 => ?_)
    subst v1
    split at p1
    · rename_i hb1
      rw [if_pos hb1]
      refine ⟨fun σ2 H2 => ∃ r2 h2 s2, Stp G.K r H r2 H2 ∧ HR G r2 H2 h2 ∧ SR G r2 H2 s2 σ2 ∧ PostS G r2 H2 E (whM mt m mm s2 h2) D, fun σ2 H2 q => ⟨mm, Nat.lt_succ_self _, q⟩, ?_⟩
      refine hb.run r1 H1 h1 s' σ' _ hR1 (sR'.mono s1) ?_
      cases e2 : m s' h1 with
      | nx s2 h2 =>
        rw [e2] at p1
        exact fun r4 H4 t4 st4 hR4 sR4 => ⟨r4, h2, s2, st.trans (s1.trans st4), hR4, sR4, PostS.shift st4 p1⟩
      | ct s2 h2 =>
        rw [e2] at p1
        exact fun r4 H4 t4 st4 hR4 sR4 => ⟨r4, h2, s2, st.trans (s1.trans st4), hR4, sR4, PostS.shift st4 p1⟩
      | bk s2 h2 =>
        rw [e2] at p1
        exact p1
      | rt v2 h2 =>
        rw [e2] at p1
        exact p1
      | raised c2 h2 =>
        rw [e2] at p1
        exact p1
      | stuck =>
        rw [e2] at p1
        exact p1
    · rename_i hb1
      rw [if_neg hb1]
      exact p1.here hR1 (sR'.mono s1)
theorem ms_while (n : Nat) (C : XC G E X k) (hc : MT G E X c tt mt) (hb : MSs G E X sts t m) : MS G E X (.While c sts [] pos) (tWhile tt t) (whM mt m n) :=
  ⟨ps_while C.own hc.pe hb.pe, rf_while n hc.rf hb.rf⟩

/-! ### list comprehensions -/
theorem SR.setN {r : List Addr} {H : Hp} {s : En} {t : L2.St} (q : SR G r H s t) : ∀ (i : Nat), SR G r H (s.set i none) (t.set i none) := by
  induction q with
  | nil => exact fun _ => .nil
  | no q ih => exact fun i => match i with
    | 0 => .no q
    | i + 1 => .no (ih i)
  | so b q ih => exact fun i => match i with
    | 0 => .no q
    | i + 1 => .so b (ih i)
theorem SR.wipe {r : List Addr} {H : Hp} {s : En} {t : L2.St} (q : SR G r H s t) : ∀ vs : List Nat, SR G r H (wipeE s vs) (L2.wipe t vs)
  | [] => q
  | v :: vs => (SR.wipe q vs).setN v
/-- a comprehension's target stores its own slots alone -/
structure TgW (vs : List Nat) (g : TG) : Prop where
  run : ∀ v σ σ0 H (Q : L2.St → Hp → Prop), L2.wipe σ vs = σ0 → g v σ H Q → g v σ H fun σ2 H2 => L2.wipe σ2 vs = σ0 ∧ Q σ2 H2
structure TgWs (vs : List Nat) (g : TGs) : Prop where
  run : ∀ v σ σ0 H (Q : L2.St → Hp → Prop), L2.wipe σ vs = σ0 → g v σ H Q → g v σ H fun σ2 H2 => L2.wipe σ2 vs = σ0 ∧ Q σ2 H2
theorem wipe_get (σ : L2.St) : ∀ (vs : List Nat) (i : Nat), (L2.wipe σ vs)[i]? = if i ∈ vs then (if i < σ.length then some none else none) else σ[i]?
  | [], i => by simp [L2.wipe]
  | v :: vs, i => by
    unfold L2.wipe
    rw [List.getElem?_set, wipe_length]
    by_cases h : v = i
    · subst h
      simp
    · have h' : ¬ i = v := fun e => h e.symm
      rw [if_neg h, wipe_get σ vs i]
      simp [h']
theorem wipe_set {σ : L2.St} {vs : List Nat} {i : Nat} {o : Option V} (hi : i ∈ vs) : L2.wipe (σ.set i o) vs = L2.wipe σ vs := by
  apply List.ext_getElem?
  intro j
  rw [wipe_get, wipe_get, List.length_set]
  by_cases h : j ∈ vs
  · rw [if_pos h, if_pos h]
  · rw [if_neg h, if_neg h, List.getElem?_set_ne (fun e => h (by rw [← e]; exact hi))]
theorem wipe_wipe {σ : L2.St} {vs : List Nat} : L2.wipe (L2.wipe σ vs) vs = L2.wipe σ vs := by
  apply List.ext_getElem?
  intro j
  rw [wipe_get, wipe_get, wipe_length]
  by_cases h : j ∈ vs <;> simp [h]
theorem tgw_name {vs : List Nat} {i : Nat} (hi : i ∈ vs) : TgW vs (gName i) := ⟨fun v σ σ0 H Q e q => ⟨by rw [wipe_set hi]; exact e, q⟩⟩
theorem tgws_nil {vs : List Nat} : TgWs vs gNil := ⟨fun v σ σ0 H Q e q => ⟨q.1, e, q.2⟩⟩
theorem tgws_cons {vs : List Nat} {g : TG} {gs : TGs} (h : TgW vs g) (hs : TgWs vs gs) (mono : ∀ v σ H (Q Q' : L2.St → Hp → Prop), (∀ σ H, Q σ H → Q' σ H) → g v σ H Q → g v σ H Q') : TgWs vs (gCons g gs) := by
  refine ⟨fun v σ σ0 H Q e ⟨x, r, e1, q⟩ => ⟨x, r, e1, ?_⟩⟩
  exact mono _ _ _ _ _ (fun σ2 H2 z => hs.run r σ2 σ0 H2 Q z.1 z.2) (h.run x σ σ0 H _ e q)
theorem tgw_tup {K : PySem.W.Frag} {vs : List Nat} {n : Nat} {gs : TGs} (h : TgWs vs gs) : TgW vs (gTup K n gs) := ⟨fun v σ σ0 H Q e ⟨a, xs, e1, e2, e3, q⟩ => ⟨a, xs, e1, e2, e3, h.run xs σ σ0 H Q e q⟩⟩
theorem mono_name {i : Nat} : ∀ v σ H (Q Q' : L2.St → Hp → Prop), (∀ σ H, Q σ H → Q' σ H) → gName i v σ H Q → gName i v σ H Q' := fun _ _ _ _ _ f q => f _ _ q
abbrev E0 : XK := L2.E0
theorem rf_lc {vs : List Nat} (hi : RfI G E wi mi) (hg : RfG G g mg) (hw : TgW vs g) (ht : RfT G E0 tt mt) (he : Rf G E0 te me) : Rf G E (tLc wi g tt te vs) (mLc mi mg mt me vs) := by
  refine ⟨fun r H h s σ Q hR sR p => hi.run r H h s σ _ hR sR (p.seq fun S h1 r1 H1 J s1 hR1 J1 p1 => ?_)⟩
  intro D hD
  have st0 : Stp G.K r1 H1 (r1 ++ [D]) (upd H1 D (.lst [])) := Stp.new hD
  have hR0 : HR G (r1 ++ [D]) (upd H1 D (.lst [])) (h1 ++ [.lst []]) := hR1.push hD (.lst upd_same .nil)
  have rD : (r1 ++ [D])[h1.length]? = some D := by rw [← hR1.len]; simp
  have sR1 := ((sR.mono s1).mono st0).wipe vs
  refine ⟨fun i mm H' => ∃ r' h', Stp G.K (r1 ++ [D]) (upd H1 D (.lst [])) r' H' ∧ HR G r' H' h' ∧ mm = S.items.length - i ∧ i ≤ S.items.length ∧
    PostR G (VR G) r' H' E ((lcM S.chk mg mt me (wipeE s vs) h1.length (S.items.drop i) h').bind fun _ h2 => .ok (.ref h1.length) h2) Q, ⟨_, _, _, Stp.refl, hR0, rfl, Nat.zero_le _, p1.shift st0⟩, ?_⟩
  rintro i mm H' ⟨r', h', st, hR', rfl, hle, p'⟩
  have stA := st0.trans st
  cases hd : S.items.drop i with
  | nil =>
    have hi : i = S.items.length := by
      have := List.drop_eq_nil_iff.mp hd
      omega
    rw [hd] at p'
    unfold lcM at p'
    split at p'
    · rename_i hc
      subst hi
      exact .inl ⟨J1.stop r' H' h' stA hR' hc, p'.here hR' (.ref (st.pre _ _ rD))⟩
    · exact False.elim p'
  | cons x rest =>
    have hlt : i < S.items.length := by
      refine Decidable.byContradiction fun q => ?_
      rw [List.drop_eq_nil_of_le (by omega)] at hd
      cases hd
    have hx : S.items[i]? = some x := by
      have := congrArg (fun l => l[0]?) hd
      simpa using this
    have hr : S.items.drop (i + 1) = rest := by
      rw [← List.drop_drop (i := 1) (j := i), hd]
      rfl
    rw [hd] at p'
    unfold lcM at p'
    split at p'
    · rename_i hc
      obtain ⟨hgo, hy⟩ := J1.go r' H' h' i x stA hR' hc hx
      refine .inr ⟨hgo, fun H2 => ∃ r2 h2, Stp G.K (r1 ++ [D]) (upd H1 D (.lst [])) r2 H2 ∧ HR G r2 H2 h2 ∧ PostR G (VR G) r2 H2 E ((lcM S.chk mg mt me (wipeE s vs) h1.length rest h2).bind fun _ h2 => .ok (.ref h1.length) h2) Q, ?_, ?_⟩
      · rintro H2 ⟨r2, h2, q1, q2, q4⟩
        exact ⟨_, by omega, r2, h2, q1, q2, rfl, by omega, by rw [hr]; exact q4⟩
      · intro v H3 hyl
        obtain ⟨r3, st3, hR3, vR⟩ := hy v H3 hyl
        refine hw.run v _ _ H3 _ wipe_wipe ?_
        cases e1 : mg x (wipeE s vs) with
        | none => rw [e1] at p'; exact False.elim p'
        | some s2 =>
          rw [e1] at p'
          refine hg.run r3 H3 _ _ x v _ ((sR1.mono st).mono st3) vR ⟨s2, e1, fun σ2 sR2 => ?_⟩
          refine ht.run r3 H3 h' s2 σ2 _ hR3 sR2 ?_
          simp only at p'
          cases e2 : mt s2 h' with
          | ok b h4 =>
            rw [e2] at p'
            intro r4 H4 b' st4 hR4 eb
            subst eb
            simp only at p'
            split at p'
            · rename_i hb
              rw [if_pos hb]
              refine he.run r4 H4 h4 s2 σ2 _ hR4 (sR2.mono st4) ?_
              cases e3 : me s2 h4 with
              | ok y h5 =>
                rw [e3] at p'
                intro r5 H5 y' st5 hR5 vy
                simp only at p'
                split at p'
                · rename_i acc eacc
                  have st5' := (st3.trans st4).trans st5
                  have rD5 := (st.trans st5').pre _ _ rD
                  cases hR5.ob _ _ _ eacc rD5 with
                  | @lst _ us _ hl hv =>
                    split at p'
                    · rename_i hlen
                      have stU : ∀ u, Stp G.K r5 H5 r5 (upd H5 D u) := fun u => Stp.upd fun o e => by rw [hl] at e; cases e; trivial
                      refine ⟨us, hl, lt_line (by rw [← hv.len]; exact hlen), r5, _, (st.trans st5').trans (stU _), hR5.write eacc rfl rD5 (fun o e => by rw [hl] at e; cases e; trivial) (.lst upd_same ?_) rfl, p'.shift (st5'.trans (stU _))⟩
                      exact (hv.app (.cons vy .nil)).mono (stU _)
                    · exact False.elim p'
                · exact False.elim p'
              | raised c h5 => rw [e3] at p'; exact False.elim p'
              | stuck => rw [e3] at p'; exact False.elim p'
            · rename_i hb
              rw [if_neg hb]
              exact ⟨r4, h4, st.trans (st3.trans st4), hR4, p'.shift (st3.trans st4)⟩
          | raised c h4 => rw [e2] at p'; exact False.elim p'
          | stuck => rw [e2] at p'; exact False.elim p'
    · exact False.elim p'
structure MTs (G : Cfg) (E : XK) (X : Cx) (es : List Expr) (t : TT) (m : En → Heap → Res Bool) : Prop where
  pe : PTs X es t
  rf : RfT G E t m
def tTrue (_ : En) (h : Heap) : Res Bool := .ok true h
theorem mts_nil : MTs G E X [] tYes tTrue := ⟨pts_nil, ⟨fun r H h s σ Q hR sR p => p.here hR rfl⟩⟩
theorem mts_one (h : MT G E X c tt mt) : MTs G E X [c] tt mt := ⟨pts_one h.pe, h.rf⟩
theorem XC.blk (C : XC G E X k) (s : Shared) (H : Hp) (scope : Scope) (cenv : Env) (fp : List Addr) : XC G E0 (X.blk s H scope cenv fp) k := ⟨C.K, C.calm, C.nd, C.room, passL, PassesOwn.never⟩
theorem me_lc {scope : Scope} (own : List (Str × Nat)) (C : XC G E X k) (hi : MIt G E X tg iter wi mi) (ok : BlkOk X.N X.env.scope scope own)
    (hg : ∀ (s : Shared) (H : Hp) (D : Addr) (cl : List (Str × Addr)) (fp : List Addr), XC G E0 (X.blk s H scope (compEnvC scope cl D X.env) fp) k → MG G (X.blk s H scope (compEnvC scope cl D X.env) fp) tg g mg)
    (ht : ∀ (s : Shared) (H : Hp) (D : Addr) (cl : List (Str × Addr)) (fp : List Addr), XC G E0 (X.blk s H scope (compEnvC scope cl D X.env) fp) k → MTs G E0 (X.blk s H scope (compEnvC scope cl D X.env) fp) ifs tt mt)
    (he : ∀ (s : Shared) (H : Hp) (D : Addr) (cl : List (Str × Addr)) (fp : List Addr), XC G E0 (X.blk s H scope (compEnvC scope cl D X.env) fp) k → ME G E0 (X.blk s H scope (compEnvC scope cl D X.env) fp) elt te me)
    (hw : TgW (own.map (·.2)) g) (hs : ∀ x, foldedSetIterable iter X.env x = pure x := by intro _; rfl) :
    ME G E X (.ListComp elt [⟨tg, iter, ifs, 0⟩] scope pos) (tLc wi g tt te (own.map (·.2))) (mLc mi mg mt me (own.map (·.2))) :=
  ⟨pe_lc C.calm C.nd hi.pe ok (fun s H D cl fp => (hg s H D cl fp (C.blk ..)).pe) (fun s H D cl fp => (ht s H D cl fp (C.blk ..)).pe) (fun s H D cl fp => (he s H D cl fp (C.blk ..)).pe) hs,
    rf_lc hi.rf (hg X.s_0 X.H_0 0 [] [] (C.blk ..)).rf hw (ht X.s_0 X.H_0 0 [] [] (C.blk ..)).rf (he X.s_0 X.H_0 0 [] [] (C.blk ..)).rf⟩
theorem ms_setLc {scope : Scope} {y : Str} {py spos : Pos} (i : Nat) (own : List (Str × Nat)) (C : XC G E X k) (hi : MIt G E X tg iter wi mi) (ok : BlkOk X.N X.env.scope scope own)
    (hg : ∀ (s : Shared) (H : Hp) (D : Addr) (cl : List (Str × Addr)) (fp : List Addr), XC G E0 (X.blk s H scope (compEnvC scope cl D X.env) fp) k → MG G (X.blk s H scope (compEnvC scope cl D X.env) fp) tg g mg)
    (ht : ∀ (s : Shared) (H : Hp) (D : Addr) (cl : List (Str × Addr)) (fp : List Addr), XC G E0 (X.blk s H scope (compEnvC scope cl D X.env) fp) k → MTs G E0 (X.blk s H scope (compEnvC scope cl D X.env) fp) ifs tt mt)
    (he : ∀ (s : Shared) (H : Hp) (D : Addr) (cl : List (Str × Addr)) (fp : List Addr), XC G E0 (X.blk s H scope (compEnvC scope cl D X.env) fp) k → ME G E0 (X.blk s H scope (compEnvC scope cl D X.env) fp) elt te me)
    (hw : TgW (own.map (·.2)) g) (hsw : swapsWith (.ListComp elt [⟨tg, iter, ifs, 0⟩] scope pos) (some (.Name y py)) spos.line X.env = pure true) (hy : X.N[i]? = some y := by rfl) (hyl : X.env.scope.names.lookup y = some .local := by rfl) (hs : ∀ x, foldedSetIterable iter X.env x = pure x := by intro _; rfl) :
    MS G E X (.Assign [.Name y py] (.ListComp elt [⟨tg, iter, ifs, 0⟩] scope pos) spos) (tAsg (tLc wi g tt te (own.map (·.2))) (gName i)) (sAsg (gV i) (mLc mi mg mt me (own.map (·.2)))) := by
  refine ⟨ps_setLc C.calm C.nd hy hyl hsw hi.pe ok (fun s H D cl fp => (hg s H D cl fp (C.blk ..)).pe) (fun s H D cl fp => (ht s H D cl fp (C.blk ..)).pe) (fun s H D cl fp => (he s H D cl fp (C.blk ..)).pe) hs, ⟨fun r H h s σ D hR sR p => ?_⟩⟩
  have rf := rf_lc (E := E) (vs := own.map (·.2)) hi.rf (hg X.s_0 X.H_0 0 [] [] (C.blk ..)).rf hw (ht X.s_0 X.H_0 0 [] [] (C.blk ..)).rf (he X.s_0 X.H_0 0 [] [] (C.blk ..)).rf
  exact rf.run r H h s σ _ hR sR (p.seqS fun x h1' r1 H1 v s1 hR1 v1 p1 => p1.here hR1 ((sR.mono s1).set v1 i))
end
end PyM

set_option Elab.async false
set_option linter.all false
set_option maxRecDepth 100000
set_option autoImplicit false
namespace PyM
open PySem L2

/-! ### built-ins by their names -/
theorem callR_or {X : Cx} {f : Value} {r r' : List V → Hp → VK → Prop} (h : CallR X f r) (h' : CallR X f r') : CallR X f (fun xs H Q => r xs H Q ∨ r' xs H Q) :=
  fun pins s σ H xs us Q I rv q => q.elim (h pins s σ H xs us Q I rv) (h' pins s σ H xs us Q I rv)
def bAbs (xs : List Val) (h : Heap) : Res Val := match xs with
  | [.int i] => .ok (.int (if i < 0 then -i else i)) h
  | _ => .stuck
def bInt (xs : List Val) (h : Heap) : Res Val := match xs with
  | [.int i] => .ok (.int i) h
  | [.bl b] => .ok (.int (if b then 1 else 0)) h
  | _ => .stuck
def bLen (xs : List Val) (h : Heap) : Res Val := match xs with
  | [.tup ys] => .ok (.int ys.length) h
  | [.ref a] => match h[a]? with
    | some (.lst ys) => .ok (.int ys.length) h
    | some (.fls ys) => .ok (.int ys.length) h
    | some (.dct d) => .ok (.int d.length) h
    | _ => .stuck
  | _ => .stuck
def bList (xs : List Val) (h : Heap) : Res Val := match xs with
  | [.tup ys] => .ok (.ref h.length) (h ++ [.lst ys])
  | [.ref a] => match h[a]? with
    | some (.lst ys) => .ok (.ref h.length) (h ++ [.lst ys])
    | some (.fls ys) => .ok (.ref h.length) (h ++ [.lst ys])
    | _ => .stuck
  | _ => .stuck
def bTuple (xs : List Val) (h : Heap) : Res Val := match xs with
  | [.tup ys] => .ok (.tup ys) h
  | [.ref a] => match h[a]? with
    | some (.lst ys) => .ok (.tup ys) h
    | some (.fls ys) => .ok (.tup ys) h
    | _ => .stuck
  | _ => .stuck
def asBl : Val → Option Bool
  | .bl b => some b
  | _ => none
def asInt : Val → Option Int
  | .int b => some b
  | _ => none
def seqOf (x : Val) (h : Heap) : Option (List Val) := match x with
  | .ref a => match h[a]? with
    | some (.lst ys) => some ys
    | some (.fls ys) => some ys
    | _ => none
  | _ => none
def bSeq {α : Type} (f : Val → Option α) (g : List α → Val) (xs : List Val) (h : Heap) : Res Val := match xs with
  | [x] => match seqOf x h with
    | some ys => match optAll f ys with
      | some bs => .ok (g bs) h
      | none => .stuck
    | none => .stuck
  | _ => .stuck
abbrev bAll := bSeq asBl fun bs => .bl (bs.all id)
abbrev bAny := bSeq asBl fun bs => .bl (bs.any id)
abbrev bSum := bSeq asInt fun bs => .int bs.sum
def bMax2 (xs : List Val) (h : Heap) : Res Val := match xs with
  | [.int i, .int j] => .ok (.int (if j > i then j else i)) h
  | _ => .stuck
def bMin2 (xs : List Val) (h : Heap) : Res Val := match xs with
  | [.int i, .int j] => .ok (.int (if j < i then j else i)) h
  | _ => .stuck
inductive Ty where
  | int | bool | str | tup | lst | dct | non
  deriving DecidableEq
def Ty.nm : Ty → String
  | .int => "int" | .bool => "bool" | .str => "str" | .tup => "tuple" | .lst => "list" | .dct => "dict" | .non => "NoneType"
def tyOf (x : Val) (h : Heap) : Option Ty := match x with
  | .non => some .non
  | .bl _ => some .bool
  | .int _ => some .int
  | .str _ => some .str
  | .tup _ => some .tup
  | .ref a => match h[a]? with
    | some (.lst _) => some .lst
    | some (.dct _) => some .dct
    | some (.dcT _) => some .dct
    | _ => none
def isTy (T : Ty) : Option Ty → Option Bool
  | some t => some (decide (t = T) || (decide (t = .bool) && decide (T = .int)))
  | none => none
def mIsi (T : Ty) (m : En → Heap → Res Val) (s : En) (h : Heap) : Res Val := (m s h).bind fun x h1 => match isTy T (tyOf x h1) with
  | some b => .ok (.bl b) h1
  | none => .stuck

section
variable {G : Cfg} {E : XK} {X : Cx} {k : Nat} {a b c e o e2 : Expr} {es : List Expr} {ta tb tc to : TE} {ma mb mc mo : En → Heap → Res Val} {pos p p2 apos : Pos} {tA : TA} {mA : En → Heap → Res (List Val)} {x : Str} {r : List Addr} {H : Hp} {h : Heap}
theorem me_blt {id : String} {t : List V → Hp → VK → Prop} {f : List Val → Heap → Res Val} (hc : CallR X (.builtin id) t) (hr : RfL G E t f) (hm : X.mg x = none) (hv : bootBuiltins x = some (.builtin id)) (ha : MA G E X (e :: es) tA mA) (hg : Gl X x := by rfl) (hn : x ≠ "__name__" := by decide) (hdb : (x == ("__debug__" : Str)) = false := by decide)
    (he : starEach (e :: es) X.env = (false, eval e X.env) :: starEach es X.env := by rfl) (hpl : (backTo pos (starEach es X.env)).any (·.1) = false := by rfl) : ME G E X (.Call (.Name x p) (e :: es) [] pos) (tCB t tA) (mL f mA) :=
  ⟨pe_callB hc hg hm hv ha.pe hn hdb he hpl, ha.rf.l hr⟩
theorem me_bty {id : String} {t : List V → Hp → VK → Prop} {f : List Val → Heap → Res Val} (hc : CallR X (.type id) t) (hr : RfL G E t f) (hm : X.mg x = none) (hv : bootBuiltins x = some (.type id)) (ha : MA G E X (e :: es) tA mA) (hg : Gl X x := by rfl) (hn : x ≠ "__name__" := by decide) (hdb : (x == ("__debug__" : Str)) = false := by decide)
    (he : starEach (e :: es) X.env = (false, eval e X.env) :: starEach es X.env := by rfl) (hpl : (backTo pos (starEach es X.env)).any (·.1) = false := by rfl) : ME G E X (.Call (.Name x p) (e :: es) [] pos) (tCB t tA) (mL f mA) :=
  ⟨pe_callTy hc hg hm hv ha.pe hn hdb he hpl, ha.rf.l hr⟩
theorem bt_abs : bootBuiltins "abs" = some (.builtin "abs") := by decide +kernel
theorem bt_int : bootBuiltins "int" = some (.type "int") := by decide +kernel
theorem bt_len : bootBuiltins "len" = some (.builtin "len") := by decide +kernel
theorem bt_list : bootBuiltins "list" = some (.type "list") := by decide +kernel
theorem bt_tuple : bootBuiltins "tuple" = some (.type "tuple") := by decide +kernel
theorem bt_all : bootBuiltins "all" = some (.builtin "all") := by decide +kernel
theorem bt_any : bootBuiltins "any" = some (.builtin "any") := by decide +kernel
theorem bt_sum : bootBuiltins "sum" = some (.builtin "sum") := by decide +kernel
theorem bt_max : bootBuiltins "max" = some (.builtin "max") := by decide +kernel
theorem bt_min : bootBuiltins "min" = some (.builtin "min") := by decide +kernel
theorem bt_sorted : bootBuiltins "sorted" = some (.builtin "sorted") := by decide +kernel
theorem bt_isi : bootBuiltins "isinstance" = some (.builtin "isinstance") := by decide +kernel

theorem vrs1 {xs : List Val} {v : V} {y : Val} (q : VRs G r H [y] [v]) : VR G r H y v := by cases q; assumption
theorem rl_abs : RfL G E (fun xs H Q => ∃ i, xs = [.int i] ∧ Q (.int (if i < 0 then -i else i)) H) bAbs := by
  refine ⟨fun r H h xs vs Q hR v p => ?_⟩
  unfold bAbs at p
  split at p
  · cases v with
    | cons q1 q2 => cases q1; cases q2; exact ⟨_, rfl, p.here hR (.int _)⟩
  · exact False.elim p
theorem rl_int : RfL G E (fun xs H Q => (∃ i, xs = [.int i] ∧ Q (.int i) H) ∨ ∃ k, xs = [.bl k] ∧ Q (.int (if k then 1 else 0)) H) bInt := by
  refine ⟨fun r H h xs vs Q hR v p => ?_⟩
  unfold bInt at p
  split at p
  · cases v with
    | cons q1 q2 => cases q1; cases q2; exact .inl ⟨_, rfl, p.here hR (.int _)⟩
  · cases v with
    | cons q1 q2 => cases q1; cases q2; exact .inr ⟨_, rfl, p.here hR (.int _)⟩
  · exact False.elim p
def rLenA (K : PySem.W.Frag) : List V → Hp → VK → Prop := fun xs H Q => (∃ x n, xs = [x] ∧ LenV K x H n ∧ Q (.int n) H) ∨ ∃ a kvs, xs = [V.ref a] ∧ H a = some (.dK kvs) ∧ Q (.int kvs.length) H
theorem cl_len (C : XC G E X k) : CallR X (.builtin "len") (rLenA G.K) := by
  have := callR_or (call_len (X := X)) call_lenD
  rw [C.K] at this
  exact this
theorem rl_len : RfL G E (rLenA G.K) bLen := by
  refine ⟨fun r H h xs vs Q hR v p => ?_⟩
  unfold bLen at p
  split at p
  · cases v with
    | cons q1 q2 => cases q2; cases q1 with
      | tup hs hv => exact .inl ⟨_, _, rfl, .inr ⟨_, hs, rfl⟩, by have := p.here hR (.int _); rw [hv.len] at this; exact this⟩
  · cases v with
    | cons q1 q2 => cases q2; cases q1 with
      | ref ea =>
        split at p
        · rename_i ys eo
          cases hR.ob _ _ _ eo ea with
          | lst hl hv => exact .inl ⟨_, _, rfl, .inl ⟨_, SqL.of hl, rfl⟩, by have := p.here hR (.int _); rw [hv.len] at this; exact this⟩
        · rename_i ys eo
          cases hR.ob _ _ _ eo ea with
          | fls hl hv => exact .inl ⟨_, _, rfl, .inl ⟨_, hl.sq, rfl⟩, by have := p.here hR (.int _); rw [hv.len] at this; exact this⟩
        · rename_i ys eo
          cases hR.ob _ _ _ eo ea with
          | dct hl hv => exact .inr ⟨_, _, rfl, hl, by have := p.here hR (.int _); rw [hv.len] at this; exact this⟩
        · exact False.elim p
  · exact False.elim p
def rListA (K : PySem.W.Frag) : List V → Hp → VK → Prop := fun xs H Q => ∃ p ys, xs = [.ref p] ∧ (SqL K H p ys ∨ SqT K H p ys) ∧ ∀ l, H l = none → Q (.ref l) (upd H l (.lst ys))
theorem cl_list (C : XC G E X k) : CallR X (.type "list") (rListA G.K) := by
  have := call_list_of (X := X)
  rw [C.K] at this
  exact this
theorem new_lst (hR : HR G r H h) {xs : List Val} {vs : List V} {Q : VK} (hv : VRs G r H xs vs) (p : PostR G (VR G) r H E (.ok (.ref h.length) (h ++ [.lst xs])) Q) (l : Addr) (hl : H l = none) : Q (.ref l) (upd H l (.lst vs)) := by
  refine p (r ++ [l]) _ _ (Stp.new hl) (hR.push hl (.lst upd_same (hv.mono (Stp.new hl)))) (.ref ?_)
  rw [← hR.len]
  simp
theorem rl_list : RfL G E (rListA G.K) bList := by
  refine ⟨fun r H h xs vs Q hR v p => ?_⟩
  unfold bList at p
  split at p
  · cases v with
    | cons q1 q2 => cases q2; cases q1 with
      | tup hs hv => exact ⟨_, _, rfl, .inr hs, new_lst hR hv p⟩
  · cases v with
    | cons q1 q2 => cases q2; cases q1 with
      | ref ea =>
        split at p
        · rename_i ys eo
          cases hR.ob _ _ _ eo ea with
          | lst hl hv => exact ⟨_, _, rfl, .inl (SqL.of hl), new_lst hR hv p⟩
        · rename_i ys eo
          cases hR.ob _ _ _ eo ea with
          | fls hl hv => exact ⟨_, _, rfl, .inl hl.sq, new_lst hR hv p⟩
        · exact False.elim p
  · exact False.elim p
def rTupA (K : PySem.W.Frag) : List V → Hp → VK → Prop := fun xs H Q => ∃ p ys, xs = [.ref p] ∧ ((SqL K H p ys ∧ ∀ l, H l = none → Q (.ref l) (upd H l (.tup ys))) ∨ (SqT K H p ys ∧ Q (.ref p) H))
theorem cl_tuple (C : XC G E X k) : CallR X (.type "tuple") (rTupA G.K) := by
  have := call_tuple_of (X := X)
  rw [C.K] at this
  exact this
theorem new_tup (hR : HR G r H h) {xs : List Val} {vs : List V} {Q : VK} (hv : VRs G r H xs vs) (p : PostR G (VR G) r H E (.ok (.tup xs) h) Q) (l : Addr) (hl : H l = none) : Q (.ref l) (upd H l (.tup vs)) :=
  p r _ _ (Stp.new0 hl) (hR.lay hl) (.tup (SqT.of upd_same) (hv.mono (Stp.new0 hl)))
theorem rl_tuple : RfL G E (rTupA G.K) bTuple := by
  refine ⟨fun r H h xs vs Q hR v p => ?_⟩
  unfold bTuple at p
  split at p
  · cases v with
    | cons q1 q2 => cases q2; cases q1 with
      | tup hs hv => exact ⟨_, _, rfl, .inr ⟨hs, p.here hR (.tup hs hv)⟩⟩
  · cases v with
    | cons q1 q2 => cases q2; cases q1 with
      | ref ea =>
        split at p
        · rename_i ys eo
          cases hR.ob _ _ _ eo ea with
          | lst hl hv => exact ⟨_, _, rfl, .inl ⟨SqL.of hl, new_tup hR hv p⟩⟩
        · rename_i ys eo
          cases hR.ob _ _ _ eo ea with
          | fls hl hv => exact ⟨_, _, rfl, .inl ⟨hl.sq, new_tup hR hv p⟩⟩
        · exact False.elim p
  · exact False.elim p
theorem seqOf_sq (hR : HR G r H h) {x : Val} {v : V} {ys : List Val} (q : VR G r H x v) (e : seqOf x h = some ys) : ∃ ad vs, v = .ref ad ∧ SqL G.K H ad vs ∧ VRs G r H ys vs := by
  cases q with
  | ref ea =>
    simp only [seqOf] at e
    split at e
    · rename_i zs eo
      cases e
      cases hR.ob _ _ _ eo ea with
      | lst hl hv => exact ⟨_, _, rfl, SqL.of hl, hv⟩
    · rename_i zs eo
      cases e
      cases hR.ob _ _ _ eo ea with
      | fls hl hv => exact ⟨_, _, rfl, hl.sq, hv⟩
    · cases e
  | _ => cases e
theorem all_bl : ∀ {ys : List Val} {vs : List V} {bs : List Bool}, VRs G r H ys vs → optAll asBl ys = some bs → vs = bs.map V.bl
  | _, _, _, .nil, e => by simp only [optAll, Option.some.injEq] at e; subst e; rfl
  | _, _, _, .cons a b, e => by
    simp only [optAll] at e
    split at e
    · rename_i d ds e1 e2
      cases e
      cases a with
      | bl b' => cases e1; rw [all_bl b e2]; rfl
      | _ => cases e1
    · cases e
theorem all_int : ∀ {ys : List Val} {vs : List V} {bs : List Int}, VRs G r H ys vs → optAll asInt ys = some bs → vs = bs.map V.int
  | _, _, _, .nil, e => by simp only [optAll, Option.some.injEq] at e; subst e; rfl
  | _, _, _, .cons a b, e => by
    simp only [optAll] at e
    split at e
    · rename_i d ds e1 e2
      cases e
      cases a with
      | int b' => cases e1; rw [all_int b e2]; rfl
      | _ => cases e1
    · cases e
theorem bSeq_ok {α : Type} {f : Val → Option α} {g : List α → Val} {xs : List Val} {vs : List V} {Q : VK} (hR : HR G r H h) (v : VRs G r H xs vs) (p : PostR G (VR G) r H E (bSeq f g xs h) Q) :
    ∃ ad us ys bs, vs = [V.ref ad] ∧ SqL G.K H ad us ∧ VRs G r H ys us ∧ optAll f ys = some bs ∧ PostR G (VR G) r H E (.ok (g bs) h) Q := by
  unfold bSeq at p
  split at p
  · cases v with
    | cons q1 q2 =>
      cases q2
      split at p
      · rename_i ys e1
        split at p
        · rename_i bs e2
          obtain ⟨ad, us, rfl, h1, h2⟩ := seqOf_sq hR q1 e1
          exact ⟨ad, us, ys, bs, rfl, h1, h2, e2, p⟩
        · exact False.elim p
      · exact False.elim p
  · exact False.elim p
theorem cl_all (C : XC G E X k) : CallR X (.builtin "all") (rAll G.K) := by have := cr_all (X := X) C.calm; rwa [C.K] at this
theorem cl_any (C : XC G E X k) : CallR X (.builtin "any") (rAny G.K) := by have := cr_any (X := X) C.calm; rwa [C.K] at this
theorem cl_sum (C : XC G E X k) : CallR X (.builtin "sum") (rSum G.K) := by have := cr_sum (X := X) C.calm; rwa [C.K] at this
theorem rl_all : RfL G E (rAll G.K) bAll := ⟨fun r H h xs vs Q hR v p => by
  obtain ⟨ad, us, ys, bs, rfl, h1, h2, e2, p⟩ := bSeq_ok hR v p
  rw [all_bl h2 e2] at h1
  exact ⟨ad, bs, rfl, h1, p.here hR (.bl _)⟩⟩
theorem rl_any : RfL G E (rAny G.K) bAny := ⟨fun r H h xs vs Q hR v p => by
  obtain ⟨ad, us, ys, bs, rfl, h1, h2, e2, p⟩ := bSeq_ok hR v p
  rw [all_bl h2 e2] at h1
  exact ⟨ad, bs, rfl, h1, p.here hR (.bl _)⟩⟩
theorem rl_sum : RfL G E (rSum G.K) bSum := ⟨fun r H h xs vs Q hR v p => by
  obtain ⟨ad, us, ys, bs, rfl, h1, h2, e2, p⟩ := bSeq_ok hR v p
  rw [all_int h2 e2] at h1
  exact ⟨ad, bs, rfl, h1, p.here hR (.int _)⟩⟩
theorem rl_max2 : RfL G E (fun xs H Q => ∃ i j, xs = [.int i, .int j] ∧ Q (.int (if j > i then j else i)) H) bMax2 := by
  refine ⟨fun r H h xs vs Q hR v p => ?_⟩
  unfold bMax2 at p
  split at p
  · cases v with
    | cons q1 q2 => cases q2 with
      | cons q3 q4 => cases q1; cases q3; cases q4; exact ⟨_, _, rfl, p.here hR (.int _)⟩
  · exact False.elim p
theorem rl_min2 : RfL G E (fun xs H Q => ∃ i j, xs = [.int i, .int j] ∧ Q (.int (if j < i then j else i)) H) bMin2 := by
  refine ⟨fun r H h xs vs Q hR v p => ?_⟩
  unfold bMin2 at p
  split at p
  · cases v with
    | cons q1 q2 => cases q2 with
      | cons q3 q4 => cases q1; cases q3; cases q4; exact ⟨_, _, rfl, p.here hR (.int _)⟩
  · exact False.elim p

/-! ### isinstance of a built-in class -/
theorem kit_all : ∀ t ∈ [Ty.int, Ty.bool, Ty.str, Ty.tup, Ty.lst, Ty.dct, Ty.non], ∀ T ∈ [Ty.int, Ty.bool, Ty.str, Ty.tup, Ty.lst, Ty.dct], kitB t.nm T.nm = some (decide (t = T) || (decide (t = .bool) && decide (T = .int))) := by decide +kernel
theorem tyOf_tyx (hR : HR G r H h) {x : Val} {v : V} {t : Ty} (q : VR G r H x v) (e : tyOf x h = some t) : TyX G.K H v (.type t.nm) := by
  cases q with
  | non => cases e; exact .base .non
  | bl b => cases e; exact .base (.bl _)
  | int b => cases e; exact .base (.int _)
  | str b => cases e; exact .base (.str _)
  | tup hs hv =>
    cases e
    rcases hs with (hs | ⟨o, hs⟩) | ⟨o, its, n, hk, hc, _⟩
    · exact .base (.tup hs)
    · exact .fTuple hs
    · exact .kTuple hk hc
  | ref ea =>
    simp only [tyOf] at e
    split at e
    · rename_i ys eo
      cases e
      cases hR.ob _ _ _ eo ea with
      | lst hl hv => exact .base (.lst hl)
    · rename_i ys eo
      cases e
      cases hR.ob _ _ _ eo ea with
      | dct hl hv => exact .base (.dK hl)
    · rename_i ys eo
      cases e
      cases hR.ob _ _ _ eo ea with
      | dcT hl hv => exact .base (.dT hl)
    · cases e
theorem me_isi (C : XC G E X k) (T : Ty) {y : Str} (hT : T ≠ .non) (hm : X.mg "isinstance" = none) (hy : X.mg y = none) (hb : bootBuiltins y = some (.type T.nm)) (ha : ME G E X a ta ma) (hg : Gl X "isinstance" := by rfl) (hgy : Gl X y := by rfl) (hn : y ≠ "__name__" := by decide) (hdb : (y == ("__debug__" : Str)) = false := by decide)
    (he : starEach (a :: [.Name y p2]) X.env = (false, eval a X.env) :: starEach [.Name y p2] X.env := by rfl) (he2 : starEach [.Name y p2] X.env = (false, eval (.Name y p2) X.env) :: starEach [] X.env := by rfl) (hpl : (backTo pos (starEach [.Name y p2] X.env)).any (·.1) = false := by rfl) :
    ME G E X (.Call (.Name "isinstance" p) [a, .Name y p2] [] pos) (tCB (rIsi G.K) (tCons ta (tCons (tC (.ty T.nm)) tNil))) (mIsi T ma) := by
  refine ⟨?_, ⟨fun r H h s σ Q hR sR p => ha.rf.run r H h s σ _ hR sR (p.seq fun x h1 r1 H1 v s1 hR1 v1 p1 => ?_)⟩⟩
  · have pa := pa_cons ha.pe (pa_cons (pe_bltn (v := .ty T.nm) (pos := p2) hgy hy hb rfl hn hdb) pa_nil he2) he
    have := pe_callB (pos := pos) (p := p) (call_isi (X := X)) hg hm bt_isi pa (by decide) (by decide) he hpl
    rw [C.K] at this
    exact this
  · split at p1
    · rename_i bb eb
      cases et : tyOf x h1 with
      | none => rw [et] at eb; cases eb
      | some t =>
        rw [et] at eb
        cases eb
        refine ⟨v, .ty T.nm, .type t.nm, .type T.nm, _, rfl, .ty _, tyOf_tyx hR1 v1 et, kit_ty (kit_all t ?_ T ?_), p1.here hR1 (.bl _)⟩
        · cases t <;> simp
        · cases T <;> first | (simp; done) | exact absurd rfl hT
    · exact False.elim p1

/-! ### methods of lists -/
def bAppend (x : Val) (xs : List Val) (h : Heap) : Res Val := match x, xs with
  | .ref a, [y] => match h[a]? with
    | some (.lst ys) => if ys.length < lim then .ok .non (h.set a (.lst (ys ++ [y]))) else .stuck
    | _ => .stuck
  | _, _ => .stuck
def bExtend (x : Val) (xs : List Val) (h : Heap) : Res Val := match x, xs with
  | .ref a, [.ref b] => match h[a]?, h[b]? with
    | some (.lst ys), some (.lst zs) => if ys.length + zs.length ≤ lim then .ok .non (h.set a (.lst (ys ++ zs))) else .stuck
    | _, _ => .stuck
  | _, _ => .stuck
def bPop (x : Val) (xs : List Val) (h : Heap) : Res Val := match x, xs with
  | .ref a, [] => match h[a]? with
    | some (.lst ys) => match ys[ys.length - 1]? with
      | some y => .ok y (h.set a (.lst ys.dropLast))
      | none => .stuck
    | _ => .stuck
  | _, _ => .stuck
def bPopAt (x : Val) (xs : List Val) (h : Heap) : Res Val := match x, xs with
  | .ref a, [.int i] => match h[a]? with
    | some (.lst ys) => if -(2 ^ 63) ≤ i ∧ i < 2 ^ 63 then match ixN ys.length i with
        | some j => match ys[j]? with
          | some y => .ok y (h.set a (.lst (ys.eraseIdx j)))
          | none => .stuck
        | none => .stuck
      else .stuck
    | _ => .stuck
  | _, _ => .stuck
def bCount (x : Val) (xs : List Val) (h : Heap) : Res Val := match x, xs with
  | .ref a, [y] => match h[a]? with
    | some (.lst ys) => if isFlat y = true ∧ ys.all isFlat = true then .ok (.int ((ys.countP fun z => feq z y : Nat) : Int)) h else .stuck
    | _ => .stuck
  | _, _ => .stuck
def mtOf (K : PySem.W.Frag) (x : V) (H : Hp) : Prop := tyV K "list" x H
def mBM (f : Val → List Val → Heap → Res Val) (mo : En → Heap → Res Val) (ma : En → Heap → Res (List Val)) (s : En) (h : Heap) : Res Val := (mo s h).bind fun x h1 => match seqOf x h1 with
  | some _ => (ma s h1).bind fun xs h2 => f x xs h2
  | none => .stuck
def mBM0 (f : Val → List Val → Heap → Res Val) (mo : En → Heap → Res Val) (s : En) (h : Heap) : Res Val := (mo s h).bind fun x h1 => match seqOf x h1 with
  | some _ => f x [] h1
  | none => .stuck
theorem tyL_of (hR : HR G r H h) {x : Val} {v : V} {ys : List Val} (q : VR G r H x v) (e : seqOf x h = some ys) : tyV G.K "list" v H := by
  obtain ⟨ad, vs, rfl, h1, _⟩ := seqOf_sq hR q e
  exact .inl ⟨rfl, _, h1⟩
theorem rf_bm {t : V → List V → Hp → VK → Prop} {f : Val → List Val → Heap → Res Val} (hf : RfM G E t f) (ho : Rf G E to mo) (ha : RfA G E tA mA) : Rf G E (tBM G.K "list" t to tA) (mBM f mo mA) := by
  refine ⟨fun r H h s σ Q hR sR p => ho.run r H h s σ _ hR sR (p.seq fun x h1 r1 H1 v s1 hR1 v1 p1 => ?_)⟩
  split at p1
  · rename_i ys ey
    refine ⟨tyL_of hR1 v1 ey, ha.run r1 H1 h1 s σ _ hR1 (sR.mono s1) (p1.seq fun xs h2 r2 H2 vs s2 hR2 v2 p2 => ?_)⟩
    exact hf.run r2 H2 h2 x v xs vs Q hR2 (v1.mono s2) v2 p2
  · exact False.elim p1
theorem rf_bm0 {t : V → List V → Hp → VK → Prop} {f : Val → List Val → Heap → Res Val} (hf : RfM G E t f) (ho : Rf G E to mo) : Rf G E (tBM0 G.K "list" t to) (mBM0 f mo) := by
  refine ⟨fun r H h s σ Q hR sR p => ho.run r H h s σ _ hR sR (p.seq fun x h1 r1 H1 v s1 hR1 v1 p1 => ?_)⟩
  split at p1
  · rename_i ys ey
    exact ⟨tyL_of hR1 v1 ey, hf.run r1 H1 h1 x v [] [] Q hR1 v1 .nil p1⟩
  · exact False.elim p1
theorem me_bm {name : Str} {id : String} {t : V → List V → Hp → VK → Prop} {f : Val → List Val → Heap → Res Val} (C : XC G E X k) (slot : Slot "list" name id) (hty : typeOf (.builtin id) = pure (.type "method_descriptor")) (hm : MtR X id t) (hf : RfM G E t f) (ho : ME G E X o to mo) (ha : MA G E X (e :: es) tA mA)
    (hbase : attributeBase o name X.env (eval o X.env) = eval o X.env := by rfl)
    (hfew : ((backTo pos (starEach (e :: es) X.env)).all (fun x => !x.1) && (backToKw pos (keywordEach [] X.env)).all (fun x => x.1.isSome)
      && decide ((e :: es).length + ([] : List Keyword).length + (if ([] : List Keyword).isEmpty then 0 else 1) < 30)) = true := by rfl)
    (hline : (apos.endLine == pos.line) = true := by rfl) (hs : starEach (e :: es) X.env = (false, eval e X.env) :: starEach es X.env := by rfl) (hplain : (backTo pos (starEach es X.env)).any (·.1) = false := by rfl) :
    ME G E X (.Call (.Attribute o name apos) (e :: es) [] pos) (tBM G.K "list" t to tA) (mBM f mo mA) := by
  refine ⟨?_, rf_bm hf ho.rf ha.rf⟩
  have := pe_bm PySem.F.plainAttrs_list slot hty hm ho.pe ha.pe hbase hfew hline hs hplain
  rwa [C.K] at this
theorem me_bm0 {name : Str} {id : String} {t : V → List V → Hp → VK → Prop} {f : Val → List Val → Heap → Res Val} (C : XC G E X k) (slot : Slot "list" name id) (hty : typeOf (.builtin id) = pure (.type "method_descriptor")) (hm : MtR X id t) (hf : RfM G E t f) (ho : ME G E X o to mo)
    (hbase : attributeBase o name X.env (eval o X.env) = eval o X.env := by rfl) (hline : (apos.endLine == pos.line) = true := by rfl) :
    ME G E X (.Call (.Attribute o name apos) [] [] pos) (tBM0 G.K "list" t to) (mBM0 f mo) := by
  refine ⟨?_, rf_bm0 hf ho.rf⟩
  have := pe_bm0 PySem.F.plainAttrs_list slot hty hm ho.pe hbase hline
  rwa [C.K] at this
theorem set_lst (hR : HR G r H h) {n : Nat} {ad : Addr} {xs ys : List Val} {us vs : List V} {x : Val} {v : V} {Q : VK} (eo : h[n]? = some (.lst xs)) (ea : r[n]? = some ad) (hl : H ad = some (.lst us)) (hv : VRs G r H ys vs) (hx : VR G r H x v) (p : PostR G (VR G) r H E (.ok x (h.set n (.lst ys))) Q) : Q v (upd H ad (.lst vs)) := by
  have st : Stp G.K r H r (upd H ad (.lst vs)) := Stp.upd fun o e => by rw [hl] at e; cases e; trivial
  exact p r _ _ st (hR.write eo rfl ea (fun o e => by rw [hl] at e; cases e; trivial) (.lst upd_same (hv.mono st)) rfl) (hx.mono st)
theorem rm_append : RfM G E rAppend bAppend := by
  refine ⟨fun r H h x v xs vs Q hR vx vv p => ?_⟩
  unfold bAppend at p
  split at p
  · cases vx with
    | ref ea => cases vv with
      | cons q1 q2 =>
        cases q2
        split at p
        · rename_i ys eo
          split at p
          · rename_i hlen
            cases hR.ob _ _ _ eo ea with
            | lst hl hv => exact ⟨_, _, _, rfl, rfl, hl, lt_line (by rw [← hv.len]; exact hlen), set_lst hR eo ea hl (hv.app (.cons q1 .nil)) .non p⟩
          · exact False.elim p
        · exact False.elim p
  · exact False.elim p
theorem rm_extend : RfM G E rExtend bExtend := by
  refine ⟨fun r H h x v xs vs Q hR vx vv p => ?_⟩
  unfold bExtend at p
  split at p
  · cases vx with
    | ref ea => cases vv with
      | cons q1 q2 =>
        cases q2
        cases q1 with
        | ref eb =>
          split at p
          · rename_i ys zs eo eo2
            split at p
            · rename_i hlen
              cases hR.ob _ _ _ eo ea with
              | lst hl hv => cases hR.ob _ _ _ eo2 eb with
                | lst hl2 hv2 => exact ⟨_, _, _, _, rfl, rfl, hl, hl2, le_line (by rw [← hv.len, ← hv2.len]; exact hlen), set_lst hR eo ea hl (hv.app hv2) .non p⟩
            · exact False.elim p
          · exact False.elim p
  · exact False.elim p
theorem rm_pop : RfM G E rPop bPop := by
  refine ⟨fun r H h x v xs vs Q hR vx vv p => ?_⟩
  unfold bPop at p
  split at p
  · cases vx with
    | ref ea =>
      cases vv
      split at p
      · rename_i ys eo
        split at p
        · rename_i y ey
          cases hR.ob _ _ _ eo ea with
          | lst hl hv =>
            obtain ⟨u, eu, vu⟩ := hv.get ey
            rw [hv.len] at eu
            exact ⟨_, _, _, rfl, rfl, hl, eu, set_lst hR eo ea hl hv.dropLast vu p⟩
        · exact False.elim p
      · exact False.elim p
  · exact False.elim p
theorem rm_popAt : RfM G E rPopAt bPopAt := by
  refine ⟨fun r H h x v xs vs Q hR vx vv p => ?_⟩
  unfold bPopAt at p
  split at p
  · cases vx with
    | ref ea => cases vv with
      | cons q1 q2 =>
        cases q2
        cases q1
        split at p
        · rename_i ys eo
          split at p
          · rename_i hb
            split at p
            · rename_i j ej
              split at p
              · rename_i y ey
                cases hR.ob _ _ _ eo ea with
                | lst hl hv =>
                  obtain ⟨u, eu, vu⟩ := hv.get ey
                  rw [hv.len] at ej
                  exact ⟨_, _, _, j, u, rfl, rfl, hl, hb.1, hb.2, (ixN_seq ej).1, eu, set_lst hR eo ea hl (hv.eraseIdx j) vu p⟩
              · exact False.elim p
            · exact False.elim p
          · exact False.elim p
        · exact False.elim p
  · exact False.elim p
def rCntF (K : PySem.W.Frag) : V → List V → Hp → VK → Prop := fun x xs H Q => ∃ (a : Addr) (ys : List V) (y : V), x = V.ref a ∧ xs = [y] ∧ SqL K H a ys ∧ flatV y = true ∧ ys.all flatV = true ∧ Q (.int ((ys.countP fun z => eqV z y : Nat) : Int)) H
theorem countU {y : V} : ∀ {ys : List V} {us : List Value}, Vals ys us → ys.all flatV = true → us.countP (eqU y) = ys.countP fun z => eqV z y
  | _, _, .nil, _ => rfl
  | _, _, .cons a b, f => by
    rw [List.all_cons, Bool.and_eq_true] at f
    rw [List.countP_cons, List.countP_cons, eqU_of a f.1, countU b f.2]
theorem mt_countF : MtR X "list.count" (rCntF X.K) := by
  intro pins s σ H x xs v us Q I rx rxs h
  obtain ⟨a, ys, y, rfl, rfl, hs, fy, fys, q⟩ := h
  cases rx
  cases rxs with
  | cons ry rt =>
    rename_i uy ut
    cases rt
    obtain ⟨its, rv, ⟨⟨cls, dd, data, sl⟩, n, ho, hc, hdn, hd⟩, hlen⟩ := I.list hs
    simp only at hc hd
    subst hc hd
    refine call_meets PySem.F.slot_list_count ⟨_, ho, rfl⟩ PySem.F.entry_list_count (PySem.F.args_list_count_2 _ _)
      (SeqAt.list_countAt a its.toArray n dd sl uy (eqU y)) ⟨ho, fun u' hu' => mem_eqAt ry fy rv fys u' (by simpa using hu'), ?_⟩
    have ec : its.toArray.toList.countP (eqU y) = ys.countP fun z => eqV z y := countU rv fys
    refine ⟨.int ((ys.countP fun z => eqV z y : Nat) : Int), H, I.tok _, ⟨s.toks, ?_⟩, q⟩
    rw [ec]
theorem countF (ok : G.Ok) {y : Val} {u : V} (b : VR G r H y u) : ∀ {xs : List Val} {vs : List V}, VRs G r H xs vs → xs.all isFlat = true → (xs.countP fun z => feq z y) = vs.countP fun z => eqV z u
  | _, _, .nil, _ => rfl
  | _, _, .cons a c, f => by
    rw [List.all_cons, Bool.and_eq_true] at f
    rw [List.countP_cons, List.countP_cons, feq_of ok a b f.1, countF ok b c f.2]
theorem rm_count (ok : G.Ok) : RfM G E (rCntF G.K) bCount := by
  refine ⟨fun r H h x v xs vs Q hR vx vv p => ?_⟩
  unfold bCount at p
  split at p
  · cases vx with
    | ref ea => cases vv with
      | cons q1 q2 =>
        cases q2
        split at p
        · rename_i ys eo
          split at p
          · rename_i hf
            cases hR.ob _ _ _ eo ea with
            | lst hl hv =>
              refine ⟨_, _, _, rfl, rfl, SqL.of hl, flat_of q1 hf.1, all_flat hv hf.2, ?_⟩
              rw [← countF ok q1 hv hf.2]
              exact p.here hR (.int _)
          · exact False.elim p
        · exact False.elim p
  · exact False.elim p
theorem cl_count (C : XC G E X k) : MtR X "list.count" (rCntF G.K) := by have := mt_countF (X := X); rwa [C.K] at this
end
end PyM

set_option Elab.async false
set_option linter.all false
set_option maxRecDepth 100000
set_option autoImplicit false
namespace PyM
open PySem L2

/-! ### exceptions of the program's own, without arguments -/
section
variable {X : Cx} {C : Addr} {bmB : List Value} {B newId initId : String}
theorem pmk_own0 {x : Str} {p pos : Pos} (F : ExcBaseFacts B newId initId bmB) (q : PySem.W.excIn X.K C bmB newId = true) (gC : X.mg x = some (.ref C)) (kC : PySem.W.keepIn X.K (.ref C) = true) (r : Raises X (.ref C)) (hg : Gl X x)
    (hdb : (x == ("__debug__" : Str)) = false := by decide) : PMk X (.Call (.Name x p) [] [] pos) (fun _ H Q => Q (.ref C) none H) := by
  intro pins s σ H Q I h
  refine wpAny_Call_Name_kw (ld_glob I hg gC ?_ hdb)
  refine PySem.W.callWith_K0 I.kIn kC ?_
  show wpAny _ _ (call (.ref C) []) _ _ _
  obtain ⟨bm, N, nm, qn, bs, hdct, sn, sub, ab, col, dd, k0, k1, k2, k3, k5, mN, hC, hN, hni, T⟩ := exc_obj I.kIn q
  refine wpAny_call_exc_subT F T hC hN hni (fun h' e hm => ?_) (Nat.zero_le _)
  exact mk_of I hm r h (I.hok.gone hm.new)
end
def sRaise (c : Nat) (_ : En) (h : Heap) : RS := .raised c h
def sTry (c : Nat) (mb ms : En → Heap → RS) (s : En) (h : Heap) : RS := match mb s h with
  | .raised c' h' => if c' = c then ms s h' else .stuck
  | x => x
/-- a def's body, run -/
def runB (np nl : Nat) (mb : En → Heap → RS) (xs : List Val) (h : Heap) : Res Val := if xs.length = np then
    match mb (xs.map some ++ List.replicate (nl - np) none) h with
    | .nx _ h' => .ok .non h'
    | .rt v h' => .ok v h'
    | .raised c h' => .raised c h'
    | _ => .stuck
  else .stuck
section
variable {G : Cfg} {E : XK} {X : Cx} {k : Nat} {e : Expr} {pos p pos2 np : Pos} {sts : List Stmt} {t : TS} {m : En → Heap → RS} {x : Str} {C : Addr}
abbrev Tk (X : Cx) (E : XK) : Prop := Takes X (fun cls d _ H => E cls d H)
theorem ms_raise (c : Nat) (XC_ : XC G E X k) (tk : Tk X E) (hc : G.cls[c]? = some C) (hp : PMk X (.Call (.Name x p) [] [] pos) (fun _ H Q => Q (.ref C) none H)) : MS G E X (.Raise (some (.Call (.Name x p) [] [] pos)) none pos2) (fun _ _ H => E (.ref C) none H) (sRaise c) :=
  ⟨ps_raise XC_.calm tk hp, ⟨fun r H h s σ D hR sR q => q r H C Stp.refl hR hc⟩⟩
/-- what the model says, as a reading -/
def tM (G : Cfg) (E : XK) (m : En → Heap → RS) : TS := fun D σ H => ∃ r h s, HR G r H h ∧ SR G r H s σ ∧ PostS G r H E (m s h) D
theorem pss_tM (h : MSs G E X sts t m) : PSs X sts (tM G E m) := ⟨fun pins s σ H D I ⟨r, hh, s', hR, sR, p⟩ => h.pe.run pins s σ H D I (h.rf.run r H hh s' σ D hR sR p)⟩
/-- try: body / except X: return constant -/
theorem ms_try (c : Nat) {e2 : Expr} {v : V} {y : Val} (C0 : XC G E X k) (hs : X.stack = X.env :: X.outer) (hf : X.env.frame = some X.env.locals) (hm : X.mg x = some (.ref C)) (tk : Tk X E) (hc : G.cls[c]? = some C) (hx : PySem.W.exmOne G.K (.ref C) (.ref C) = some true)
    (hv : ∀ r H, VR G r H y v) (h2 : ∀ X' : Cx, PE X' e2 (tC v)) {pos3 pos4 : Pos}
    (hb : ∀ (E' : XK) (pn : List (Addr × PySem.Obj)) (xe : Value → Shared → Prop), XC G E' (X.tr pn xe) k → ∃ t, MSs G E' (X.tr pn xe) sts t m) (hg : Gl X x := by rfl) (hdb : (x == ("__debug__" : Str)) = false := by decide) :
    MS G E X (.Try sts [.ExceptHandler (some (.Name x np)) none [.Return (some e2) pos3] pos4] [] [] pos) (tM G E (sTry c m (sRet (mK y)))) (sTry c m (sRet (mK y))) := by
  refine ⟨⟨fun pins s σ H D I ⟨r, h, s', hR, sR, p⟩ => ?_⟩, ⟨fun r H h s σ D hR sR p => ⟨r, h, s, hR, sR, p⟩⟩⟩
  have key := ps_try_only (X := X) (x := x) (c := .ref C) (body := sts) (suite := []) (b₀ := .Return (some e2) pos3) (np := np) (pos := pos) (pos' := pos4) (tb := fun W => tM G (fun cls d H' => ∀ σ', W cls d σ' H') m) (ts := fun _ _ _ => tRet (tC v)) (Wout := fun cls d _ H => E cls d H) hs hf ⟨hg, hdb, .inl hm⟩ tk
      (fun W pn xe tk' own => by
        obtain ⟨t, q⟩ := hb (fun cls d H' => ∀ σ', W cls d σ' H') pn xe ⟨C0.K, C0.calm, C0.nd, C0.room, passes_call tk' (fun cls d σ H q => q σ), own⟩
        exact pss_tM q)
      (fun a oe cls d pn _ _ => pss_one (ps_ret (h2 _)))
  refine key.run pins s σ H D I ⟨r, h, s', hR, sR, ?_⟩
  unfold sTry at p
  cases q : m s' h with
  | raised c' h' =>
    rw [q] at p
    simp only at p
    split at p
    · rename_i ec
      subst ec
      intro r' H' C' st hR' hC' σ'
      rw [hc] at hC'
      cases hC'
      refine ⟨true, by rw [C0.K]; exact hx, fun _ a ha => ?_, fun q => nomatch q⟩
      exact p r' H' v st hR' (hv _ _)
    · exact False.elim p
  | nx a b => rw [q] at p; exact p
  | rt a b => rw [q] at p; exact p
  | bk a b => rw [q] at p; exact p
  | ct a b => rw [q] at p; exact p
  | stuck => rw [q] at p; exact p
end

/-! ### defs -/
theorem SR_start {G : Cfg} {r : List Addr} {H : Hp} {n : Nat} : ∀ {xs : List Val} {vs : List V}, VRs G r H xs vs → SR G r H (xs.map some ++ List.replicate n none) (vs.map some ++ List.replicate n none)
  | _, _, .nil => by
    induction n with
    | zero => exact .nil
    | succ n ih => exact .no ih
  | _, _, .cons a b => .so a (SR_start b)
section
variable {P : Program} {w : World} {mg : Str → Option Value} {base : PySem.Heap} {G : Cfg}
theorem fn_m {x qual : Str} {st : Stmt} {f : Addr} {fd : FuncData} {N ps : List Str} {k np nl : Nat} {mb : En → Heap → RS} (F : Fun G.K x qual st f fd) (S : FnScope N ps (defScope st)) (hnp : ps.length = np) (hnl : N.length = nl)
    (hb : ∀ (cdv : Value) (A : Around) (outer : List Env) (s : Shared) (H : Hp) (E : XK), XC G E (cxOf (L2.CX P w) P w G.K mg base N qual (defScope st) f cdv A outer s H E) k → Tk (cxOf (L2.CX P w) P w G.K mg base N qual (defScope st) f cdv A outer s H E) E →
      ∃ t, MSs G E (cxOf (L2.CX P w) P w G.K mg base N qual (defScope st) f cdv A outer s H E) (defBody st) t mb) : FnM G P w mg base (k + 1) f fd ps (runB np nl mb) := by
  subst hnp hnl
  refine ⟨F.okX S (fun vs H Q E h => h.1) (fun cdv A outer s H vs Q E hr h => ?_), fun xs h hl => by unfold runB; rw [if_neg hl]⟩
  obtain ⟨hl, r, h, xs, hR, vR, p⟩ := h
  have tk : Tk (cxOf (L2.CX P w) P w G.K mg base N qual (defScope st) f cdv A outer s H E) E := takes_of rfl rfl rfl rfl
  obtain ⟨t, q⟩ := hb cdv A outer s H E ⟨rfl, rfl, S.nd, hr, passes_call tk (fun _ _ _ _ h => h), passes_of rfl⟩ tk
  have z := q.rf.run r H h _ _ { nx := fun _ H' => Q .non H', rt := Q } hR (SR_start (n := N.length - ps.length) vR) ?_
  · refine ⟨t, q.pe, ?_⟩
    rw [← hl] at z
    exact z
  · unfold runB at p
    rw [if_pos (by rw [vR.len]; exact hl)] at p
    cases e : mb (List.map some xs ++ List.replicate (N.length - ps.length) none) h with
    | nx a b =>
      rw [e] at p
      exact fun r' H' t st hR' _ => p r' H' _ st hR' .non
    | rt a b => rw [e] at p; exact p
    | raised a b => rw [e] at p; exact p
    | bk a b => rw [e] at p; exact p.elim
    | ct a b => rw [e] at p; exact p.elim
    | stuck => rw [e] at p; exact p.elim
/-- a def that is never run out of its levels -/
theorem fn_none {f : Addr} {fd : FuncData} {ps : List Str} {k : Nat} : FnM G P w mg base k f fd ps (fun _ _ => .stuck) :=
  ⟨⟨fun vs H Q E h => h.1, fun A outer s H args us vs Q E _ _ _ _ ⟨_, _, _, _, _, _, p⟩ => p.elim⟩, fun _ _ _ => rfl⟩
theorem FnM.mono {f : Addr} {fd : FuncData} {ps : List Str} {j k : Nat} {m : List Val → Heap → Res Val} (F : FnM G P w mg base j f fd ps m) (h : j ≤ k) : FnM G P w mg base k f fd ps m := ⟨F.ok.mono h, F.st⟩
/-- the law's own promise -/
def spLaw (K : PySem.W.Frag) : Sp := fun vs H Q _ => ∃ (a : Addr) (ns : List Int), vs = [.ref a] ∧ ns.length ≤ 63 ∧ Only H ∧ SqL K H a (ns.map V.int) ∧ ∀ H', Q (.bl true) H'
theorem vrs_ints {r : List Addr} {H : Hp} : ∀ ns : List Int, VRs G r H (ns.map Val.int) (ns.map V.int)
  | [] => .nil
  | n :: ns => .cons (.int n) (vrs_ints ns)
theorem law_of {f : Addr} {fd : FuncData} {x : Str} {k : Nat} {m : List Val → Heap → Res Val} (F : FnM G P w mg base k f fd [x] m) (h : ∀ ns : List Int, ns.length ≤ 63 → ∃ h', m [.ref 0] [.fls (ns.map Val.int)] = .ok (.bl true) h') (ht : G.tbs = [] := by rfl) :
    FnOk P w G.K mg base (L2.CX P w) k f fd [x] (spLaw G.K) := by
  refine F.ok.imp fun vs H Q E ⟨a, ns, e, hl, hO, hS, q⟩ => ?_
  subst e
  obtain ⟨h', e⟩ := h ns hl
  have fl : FL G.K H a (ns.map V.int) := by
    rcases hS with (hS | hS) | hS
    · rcases hO a with z | ⟨o, xs, z⟩
      · rw [z] at hS; cases hS
      · rw [z] at hS; cases hS
    · exact .inl hS
    · exact .inr hS
  refine ⟨rfl, [a], [.fls (ns.map Val.int)], [.ref 0], ⟨rfl, fun i j b x y e1 e2 e3 e4 f1 f2 => ?_, fun n o b e1 e2 => ?_, by rw [ht]; intro p hp; cases hp⟩, .cons (.ref rfl) .nil, ?_⟩
  · cases i with
    | zero => cases j with
      | zero => rfl
      | succ j => simp at e2
    | succ i => simp at e1
  · cases n with
    | zero =>
      simp at e1 e2
      subst e1 e2
      exact .fls fl (vrs_ints ns)
    | succ n => simp at e1
  · rw [e]
    intro r' H' b st hR v
    cases v
    exact q H'
end
end PyM

set_option Elab.async false
set_option linter.all false
set_option autoImplicit false
namespace PyM
open PySem L2
abbrev oFd : Val → Val → Heap → Res Val := oIC (fun _ j => decide (0 < j ∧ j < 1073741824)) fun i j => .int (i / j)
abbrev oMd : Val → Val → Heap → Res Val := oIC (fun _ j => decide (0 < j)) fun i j => .int (i % j)
abbrev oPw : Val → Val → Heap → Res Val := oIC cPow fun i j => .int (i ^ j.toNat)
abbrev oShl : Val → Val → Heap → Res Val := oIC cPow fun i j => .int (i * 2 ^ j.toNat)
abbrev oShr : Val → Val → Heap → Res Val := oIC (fun _ j => decide (0 ≤ j)) fun i j => .int (i / 2 ^ j.toNat)
abbrev oBa : Val → Val → Heap → Res Val := oI fun i j => .int (Builtin.bitAnd i j)
abbrev oBo : Val → Val → Heap → Res Val := oI fun i j => .int (Builtin.bitOr i j)
abbrev oBx : Val → Val → Heap → Res Val := oI fun i j => .int (Builtin.bitXor i j)
abbrev oLt : Val → Val → Heap → Res Val := oI fun i j => .bl (decide (i < j))
abbrev oLe : Val → Val → Heap → Res Val := oI fun i j => .bl (decide (i ≤ j))
abbrev oGt : Val → Val → Heap → Res Val := oI fun i j => .bl (decide (j < i))
abbrev oGe : Val → Val → Heap → Res Val := oI fun i j => .bl (decide (j ≤ i))
abbrev mChLeLe := mCh (fun i j => decide (i ≤ j)) (fun i j => decide (i ≤ j))
abbrev mChLeLt := mCh (fun i j => decide (i ≤ j)) (fun i j => decide (i < j))
theorem bt_ty_int : bootBuiltins "int" = some (.type Ty.int.nm) := by decide +kernel
theorem bt_ty_bool : bootBuiltins "bool" = some (.type Ty.bool.nm) := by decide +kernel
theorem bt_ty_str : bootBuiltins "str" = some (.type Ty.str.nm) := by decide +kernel
theorem bt_ty_tup : bootBuiltins "tuple" = some (.type Ty.tup.nm) := by decide +kernel
theorem bt_ty_lst : bootBuiltins "list" = some (.type Ty.lst.nm) := by decide +kernel
theorem bt_ty_dct : bootBuiltins "dict" = some (.type Ty.dct.nm) := by decide +kernel
/-- an error of the class at S is what «except S» names -/
theorem exm_self {K : PySem.W.Frag} {S : Addr} (h1 : PySem.W.subIn K (.ref S) (.type "BaseException") = some true) (h2 : PySem.W.isClsIn K S = true) (h3 : PySem.W.typeIn K (.ref S) = some (.type "type")) (h4 : PySem.W.subIn K (.ref S) (.ref S) = some true) :
    PySem.W.exmOne K (.ref S) (.ref S) = some true := by
  have e1 : (PySem.W.subIn K (.ref S) (.type "BaseException") == some true) = true := by rw [h1] <;> rfl
  have e2 : ((PySem.W.clsIn K S).isSome && PySem.W.typeIn K (.ref S) == some (.type "type")) = true := by
    have h2' : (PySem.W.clsIn K S).isSome = true := h2
    rw [h2', h3] <;> rfl
  show (if (PySem.W.subIn K (.ref S) (.type "BaseException") == some true) = true then (if ((PySem.W.clsIn K S).isSome && PySem.W.typeIn K (.ref S) == some (.type "type")) = true then PySem.W.subIn K (.ref S) (.ref S) else none) else none) = some true
  rw [if_pos e1, if_pos e2]
  exact h4
end PyM

set_option Elab.async false
set_option linter.all false
set_option autoImplicit false
set_option maxHeartbeats 4000000
/-! more rules: is True, is False -/
namespace PyM
open PySem L2
variable {G : Cfg} {E : XK} {X : Cx} {k : Nat} {a b c e : Expr} {ta tb tc : TE} {ma mb mc : En → Heap → Res Val} {pos : Pos} {u v w : TT} {mu mv : En → Heap → Res Bool}
def oIsB (neg : Bool) (x y : Val) (h : Heap) : Res Val := match x, y with
  | .bl a, .bl b => .ok (.bl (if neg then !decide (a = b) else decide (a = b))) h
  | .str _, .bl _ => .ok (.bl neg) h
  | _, _ => .stuck
theorem op_is_sb {X : Cx} : OpR X (compareOp .Is) (fun x y H Q => ∃ a b, x = .str a ∧ y = .bl b ∧ Q (.bl false) H) := by
  intro pins s σ H x y v u Q I rx ry h
  obtain ⟨a, b, rfl, rfl, q⟩ := h
  obtain ⟨t, rfl⟩ := rx
  cases (show u = Value.bool b from ry)
  exact wpAny_is_other rfl (fun z => by cases z) ⟨.bl false, H, I, rfl, q⟩
theorem op_isnot_sb {X : Cx} : OpR X (compareOp .IsNot) (fun x y H Q => ∃ a b, x = .str a ∧ y = .bl b ∧ Q (.bl true) H) := by
  intro pins s σ H x y v u Q I rx ry h
  obtain ⟨a, b, rfl, rfl, q⟩ := h
  obtain ⟨t, rfl⟩ := rx
  cases (show u = Value.bool b from ry)
  exact wpAny_isNot_other rfl (fun z => by cases z) ⟨.bl true, H, I, rfl, q⟩
abbrev rIsB : R2 := fun x y H Q => (∃ a b, x = V.bl a ∧ y = V.bl b ∧ Q (V.bl (decide (a = b))) H) ∨ (∃ a b, x = V.str a ∧ y = V.bl b ∧ Q (V.bl false) H)
abbrev rIsnB : R2 := fun x y H Q => (∃ a b, x = V.bl a ∧ y = V.bl b ∧ Q (V.bl (!decide (a = b))) H) ∨ (∃ a b, x = V.str a ∧ y = V.bl b ∧ Q (V.bl true) H)
theorem rf_isB : Rf2 G E rIsB (oIsB false) := by
  refine ⟨fun r H h x y v u Q hR a b p => ?_⟩
  cases a with
  | bl i => cases b with
    | bl j => exact .inl ⟨i, j, rfl, rfl, p.here hR (.bl _)⟩
    | _ => exact False.elim p
  | str hx => cases b with
    | bl j => exact .inr ⟨_, j, rfl, rfl, p.here hR (.bl _)⟩
    | _ => exact False.elim p
  | _ => exact False.elim p
theorem rf_isnB : Rf2 G E rIsnB (oIsB true) := by
  refine ⟨fun r H h x y v u Q hR a b p => ?_⟩
  cases a with
  | bl i => cases b with
    | bl j => exact .inl ⟨i, j, rfl, rfl, p.here hR (.bl _)⟩
    | _ => exact False.elim p
  | str hx => cases b with
    | bl j => exact .inr ⟨_, j, rfl, rfl, p.here hR (.bl _)⟩
    | _ => exact False.elim p
  | _ => exact False.elim p
theorem mc_isB (ha : ME G E X a ta ma) (hb : ME G E X b tb mb) : MC G E X .Is a b (tOp rIsB ta tb) (mB (oIsB false) ma mb) := ⟨pc_of (op_is_bl.or op_is_sb) ha.pe hb.pe, ha.rf.b2 hb.rf rf_isB⟩
theorem mc_isnB (ha : ME G E X a ta ma) (hb : ME G E X b tb mb) : MC G E X .IsNot a b (tOp rIsnB ta tb) (mB (oIsB true) ma mb) := ⟨pc_of (op_isnot_bl.or op_isnot_sb) ha.pe hb.pe, ha.rf.b2 hb.rf rf_isnB⟩
end PyM

set_option Elab.async false
set_option linter.all false
set_option autoImplicit false
set_option maxHeartbeats 4000000
/-! more rules: list.index -/
namespace PyM
open PySem L2
variable {G : Cfg} {E : XK} {X : Cx} {k : Nat} {r : List Addr} {H : Hp} {h : Heap}
def fix (d : D) : List D → Option Nat
  | [] => none
  | z :: ds => if deq z d = true then some 0 else (fix d ds).map (· + 1)
theorem fix_py (ok : G.Ok) {d : D} {n m : Nat} (hd : d.wf G.sts.length n = true) : ∀ {ds : List D} {j : Nat}, D.wfs G.sts.length m ds = true → fix d ds = some j →
    (∃ z, (D.pys G ds)[j]? = some z ∧ PyData.eqv z (d.py G) = true) ∧ ∀ (m : Nat) (z' : PyData), m < j → (D.pys G ds)[m]? = some z' → PyData.eqv z' (d.py G) = false
  | [], j, _, e => by cases e
  | x :: ds, j, f, e => by
    simp only [D.wfs, Bool.and_eq_true] at f
    have q := eqv_py ok x d _ _ f.1 hd
    rw [fix] at e
    split at e
    · rename_i c
      cases e
      exact ⟨⟨x.py G, by simp [D.pys], by rw [q]; exact c⟩, fun m z' hm => by omega⟩
    · rename_i c
      obtain ⟨i, ei, rfl⟩ := Option.map_eq_some_iff.mp e
      obtain ⟨⟨z, h1, h2⟩, h3⟩ := fix_py ok hd f.2 ei
      refine ⟨⟨z, by simpa [D.pys] using h1, h2⟩, fun m z' hm hz => ?_⟩
      cases m with
      | zero =>
        simp [D.pys] at hz
        subst hz
        rw [q]
        simpa using c
      | succ m => exact h3 m z' (by omega) (by simpa [D.pys] using hz)
def bIndex (x : Val) (xs : List Val) (h : Heap) : Res Val := match x, xs with
  | .ref a, [y] => match h[a]? with
    | some (.lst ys) => match conv 60 h y, optAll (conv 59 h) ys with
      | some d, some ds => match fix d ds with
        | some j => .ok (.int (j : Nat)) h
        | none => .stuck
      | _, _ => .stuck
    | _ => .stuck
  | _, _ => .stuck
theorem rm_index (ok : G.Ok) : RfM G E (rIndexD G.K) bIndex := by
  refine ⟨fun r H h x v xs vs Q hR vx vv p => ?_⟩
  unfold bIndex at p
  split at p
  · cases vx with
    | ref ea => cases vv with
      | cons q1 q2 =>
        cases q2
        split at p
        · rename_i ys eo
          split at p
          · rename_i d ds e1 e2
            split at p
            · rename_i j ej
              cases hR.ob _ _ _ eo ea with
              | lst hl hv =>
                obtain ⟨d1, w1⟩ := conv_dp hR _ _ _ _ q1 e1
                obtain ⟨d2, w2⟩ := optAll_dp (fun x v d => conv_dp hR 59 x v d) _ _ _ hv e2
                obtain ⟨⟨z, z1, z2⟩, z3⟩ := fix_py ok w1 w2 ej
                have sl : SeqAt.shaped (.list (D.pys G ds)) = true := by
                  have : (D.lst ds).wf G.sts.length 60 = true := by simpa [D.wf] using w2
                  have := shaped_py ok this (by decide)
                  simpa [D.py] using this
                exact ⟨_, _, _, _, j, z, rfl, rfl, .lst (SqL.of hl) d2, d1, sl, shaped_py ok w1 (by decide), z1, z2, z3, p.here hR (.int _)⟩
            · exact False.elim p
          · exact False.elim p
        · exact False.elim p
  · exact False.elim p
theorem cl_index (C : XC G E X k) : MtR X "list.index" (rIndexD G.K) := by
  have := mt_indexD (X := X) C.hu
  rwa [C.K] at this
/-! ### what stands written in the module: tuples, dicts with text keys -/
mutual
inductive CV (K : PySem.W.Frag) (sts : List Str) : Val → Value → Prop
  | non : CV K sts .non .none
  | int (i : Int) {t : Tok} : CV K sts (.int i) (.int i t)
  | str {n : Nat} {x : Str} {t : Tok} : sts[n]? = some x → CV K sts (.str n) (.str x t)
  | tup {xs : List Val} {a : Addr} {o : PySem.Obj} {its : Array Value} {n : Nat} : K.lookup a = some o → o.cls = .type "tuple" → o.data = .seq its n → its.size ≤ sizeLine → CVs K sts xs its.toList → CV K sts (.tup xs) (.ref a)
inductive CVs (K : PySem.W.Frag) (sts : List Str) : List Val → List Value → Prop
  | nil : CVs K sts [] []
  | cons {x : Val} {v : Value} {xs : List Val} {vs : List Value} : CV K sts x v → CVs K sts xs vs → CVs K sts (x :: xs) (v :: vs)
end
mutual
theorem CV.vr {G : Cfg} : ∀ {x : Val} {u : Value}, CV G.K G.sts x u → ∃ v, RelV v u ∧ ∀ r H, VR G r H x v
  | _, _, .non => ⟨.non, rfl, fun _ _ => .non⟩
  | _, _, .int i (t := t) => ⟨.int i, ⟨t, rfl⟩, fun _ _ => .int i⟩
  | _, _, .str e (t := t) => ⟨.str _, ⟨t, rfl⟩, fun _ _ => .str e⟩
  | _, _, .tup (a := a) h1 h2 h3 h4 h5 => by
    obtain ⟨vs, q1, q2⟩ := CVs.vrs h5
    exact ⟨.ref a, rfl, fun r H => .tup (.inr ⟨_, _, _, h1, h2, h3, h4, q1⟩) (q2 r H)⟩
theorem CVs.vrs {G : Cfg} : ∀ {xs : List Val} {us : List Value}, CVs G.K G.sts xs us → ∃ vs, Vals vs us ∧ ∀ r H, VRs G r H xs vs
  | _, _, .nil => ⟨[], .nil, fun _ _ => .nil⟩
  | _, _, .cons a b => by
    obtain ⟨v, q1, q2⟩ := CV.vr a
    obtain ⟨vs, q3, q4⟩ := CVs.vrs b
    exact ⟨v :: vs, .cons q1 q3, fun r H => .cons (q2 r H) (q4 r H)⟩
end
/-- a name of the module that holds a written value -/
def KT (K : PySem.W.Frag) (mg : Str → Option Value) (sts : List Str) (x : Str) (v : Val) : Prop := ∃ u, mg x = some u ∧ CV K sts v u
theorem me_globC {x : Str} {v : Val} {pos : Pos} (C : XC G E X k) (q : KT G.K X.mg G.sts x v) (hg : Gl X x := by rfl) (hd : (x == ("__debug__" : Str)) = false := by decide) : ME G E X (.Name x pos) (fun σ H Q => ∀ u, RelV u ((X.mg x).getD .none) → (∀ r H, VR G r H v u) → Q u H) (mK v) := by
  obtain ⟨u, hm, hc⟩ := q
  obtain ⟨w, hw, hv⟩ := hc.vr
  refine ⟨?_, ⟨fun r H h s σ Q hR sR p u _ hu => p.here hR (hu r H)⟩⟩
  have := pe_glob (pos := pos) hg hm hw hd
  refine ⟨fun pins s σ H Q I z => this.run pins s σ H Q I (z w ?_ hv)⟩
  rw [hm]; exact hw
/-- entries of a written dict -/
inductive CE (w : World) (K : PySem.W.Frag) (sts : List Str) : List (Nat × Val) → List DictEntry → Prop
  | nil : CE w K sts [] []
  | cons {i : Nat} {v : Val} {z : Str} {t : Tok} {u : Value} {hh : Int} {l es} : sts[i]? = some z → hh = PyData.keyHash w.params z → CV K sts v u → CE w K sts l es → CE w K sts ((i, v) :: l) (⟨hh, .str z t, u⟩ :: es)
structure KD (w : World) (K : PySem.W.Frag) (mg : Str → Option Value) (sts : List Str) (x : Str) (a : Addr) (es : Array DictEntry) (n : Nat) (l : List (Nat × Val)) : Prop where
  mgx : mg x = some (.ref a)
  lk : K.lookup a = some ⟨.type "dict", none, .dict es n, #[]⟩
  low : (a == sysModules) = false
  ce : CE w K sts l es.toList
def lkN (l : List (Nat × Val)) (n : Nat) : Option Val := (l.find? fun kv => kv.1 == n).map (·.2)
theorem CE.lit {w : World} {K : PySem.W.Frag} {sts : List Str} : ∀ {l : List (Nat × Val)} {es : List DictEntry}, CE w K sts l es → PySem.W.KeysLit w.params es
  | _, _, .nil => trivial
  | _, _, .cons _ a _ b => ⟨⟨_, _, rfl, a⟩, CE.lit b⟩
theorem CE.nref {w : World} {K : PySem.W.Frag} {sts : List Str} : ∀ {l : List (Nat × Val)} {es : List DictEntry}, CE w K sts l es → es.any (·.refKey) = false
  | _, _, .nil => rfl
  | _, _, .cons _ _ _ b => by rw [List.any_cons, CE.nref b]; rfl
theorem CE.find (ok : G.Ok) {w : World} {n : Nat} {z : Str} (hz : G.sts[n]? = some z) : ∀ {l : List (Nat × Val)} {es : List DictEntry}, CE w G.K G.sts l es →
    (lkN l n = none ∧ es.find? (·.key.isStr z) = none) ∨ ∃ v e, lkN l n = some v ∧ es.find? (·.key.isStr z) = some e ∧ CV G.K G.sts v e.val
  | _, _, .nil => .inl ⟨rfl, rfl⟩
  | _, _, @CE.cons _ _ _ i v z' t u hh _ _ hi _ a b => by
    unfold lkN
    rw [List.find?_cons, List.find?_cons]
    by_cases e : i = n
    · subst e
      rw [hi] at hz
      cases hz
      right
      refine ⟨v, ⟨hh, Value.str z t, u⟩, ?_, ?_, a⟩
      · simp
      · have : (Value.str z t).isStr z = true := by simp [Value.isStr]
        simp only [this]
    · have hne : z' ≠ z := fun q => e (by subst q; exact sts_inj ok hi hz)
      have h1 : (i == n) = false := beq_eq_false_iff_ne.mpr e
      have h2 : (Value.str z' t).isStr z = false := by simp [Value.isStr, hne]
      simp only [h1, h2]
      exact CE.find ok hz b
theorem KD.ns (ok : G.Ok) {w : World} {a : Addr} {es : Array DictEntry} {m n : Nat} {z : Str} {l : List (Nat × Val)} (hl : G.K.lookup a = some ⟨.type "dict", none, .dict es m, #[]⟩) (ce : CE w G.K G.sts l es.toList) (hz : G.sts[n]? = some z) :
    (lkN l n = none ∧ PySem.W.nsIn G.K a z = some none) ∨ ∃ v u, lkN l n = some v ∧ PySem.W.nsIn G.K a z = some (some u) ∧ CV G.K G.sts v u := by
  unfold PySem.W.nsIn
  rw [hl]
  rcases ce.find ok hz with ⟨e1, e2⟩ | ⟨v, e, e1, e2, e3⟩
  · left
    refine ⟨e1, ?_⟩
    simp only [e2, ce.nref]
    simp
  · right
    refine ⟨v, e.val, e1, ?_, e3⟩
    simp only [e2]
/-- in, not in a written dict -/
def kIn (neg : Bool) (l : List (Nat × Val)) (x : Val) (h : Heap) : Res Val := match x with
  | .str n => .ok (.bl (if neg then !(lkN l n).isSome else (lkN l n).isSome)) h
  | _ => .stuck
def kIx (l : List (Nat × Val)) (x : Val) (h : Heap) : Res Val := match x with
  | .str n => match lkN l n with
    | some v => .ok v h
    | none => .stuck
  | _ => .stuck
def kGet (l : List (Nat × Val)) (x y : Val) (h : Heap) : Res Val := match x with
  | .str n => .ok ((lkN l n).getD y) h
  | _ => .stuck
section
variable {a b e f : Expr} {ta tb ty tx : TE} {ma mb : En → Heap → Res Val} {pos p p2 apos cpos : Pos} {x : Str} {l : List (Nat × Val)}
variable {d : Addr} {es : Array DictEntry} {n : Nat}
abbrev rKIn (K : PySem.W.Frag) (d : Addr) : R2 := fun x y H Q => ∃ (z : Str) (r : Option Value), x = .str z ∧ y = .ref d ∧ PySem.W.nsIn K d z = some r ∧ Q (.bl r.isSome) H
abbrev rKNotIn (K : PySem.W.Frag) (d : Addr) : R2 := fun x y H Q => ∃ (z : Str) (r : Option Value), x = .str z ∧ y = .ref d ∧ PySem.W.nsIn K d z = some r ∧ Q (.bl (!r.isSome)) H
theorem KD.kd (C : XC G E X k) (q : KD X.w G.K X.mg G.sts x d es n l) : KDict X.K X.w d es n := ⟨by rw [C.K]; exact q.lk, q.ce.lit, q.low⟩
theorem KD.pe (q : KD X.w G.K X.mg G.sts x d es n l) (hg : Gl X x) (hd : (x == ("__debug__" : Str)) = false) : PE X (.Name x p) (tC (.ref d)) := pe_glob (v := .ref d) hg q.mgx rfl hd
theorem mc_kin (ok : G.Ok) (C : XC G E X k) (q : KD X.w G.K X.mg G.sts x d es n l) (ha : ME G E X a ta ma) (hg : Gl X x := by rfl) (hd : (x == ("__debug__" : Str)) = false := by decide) : MC G E X .In a (.Name x p) (tOp (rKIn X.K d) ta (tC (.ref d))) (mU (kIn false l) ma) := by
  refine ⟨pc_of (op_in_kd (q.kd C)) ha.pe (q.pe hg hd), ⟨fun r H h s σ Q hR sR pp => ha.rf.run r H h s σ _ hR sR (pp.seq fun v h1 r1 H1 u s1 hR1 v1 p1 => ?_)⟩⟩
  cases v1 with
  | @str m z hz =>
    have p1' : PostR G (VR G) r1 H1 E (.ok (.bl (lkN l m).isSome) h1) Q := p1
    rcases KD.ns ok q.lk q.ce hz with ⟨e1, e2⟩ | ⟨v, w, e1, e2, e3⟩
    · rw [e1] at p1'
      exact ⟨z, none, rfl, rfl, by rw [C.K]; exact e2, p1'.here hR1 (.bl _)⟩
    · rw [e1] at p1'
      exact ⟨z, some w, rfl, rfl, by rw [C.K]; exact e2, p1'.here hR1 (.bl _)⟩
  | _ => exact False.elim p1
theorem mc_knotin (ok : G.Ok) (C : XC G E X k) (q : KD X.w G.K X.mg G.sts x d es n l) (ha : ME G E X a ta ma) (hg : Gl X x := by rfl) (hd : (x == ("__debug__" : Str)) = false := by decide) : MC G E X .NotIn a (.Name x p) (tOp (rKNotIn X.K d) ta (tC (.ref d))) (mU (kIn true l) ma) := by
  refine ⟨pc_of (op_notIn_kd (q.kd C)) ha.pe (q.pe hg hd), ⟨fun r H h s σ Q hR sR pp => ha.rf.run r H h s σ _ hR sR (pp.seq fun v h1 r1 H1 u s1 hR1 v1 p1 => ?_)⟩⟩
  cases v1 with
  | @str m z hz =>
    have p1' : PostR G (VR G) r1 H1 E (.ok (.bl (!(lkN l m).isSome)) h1) Q := p1
    rcases KD.ns ok q.lk q.ce hz with ⟨e1, e2⟩ | ⟨v, w, e1, e2, e3⟩
    · rw [e1] at p1'
      exact ⟨z, none, rfl, rfl, by rw [C.K]; exact e2, p1'.here hR1 (.bl _)⟩
    · rw [e1] at p1'
      exact ⟨z, some w, rfl, rfl, by rw [C.K]; exact e2, p1'.here hR1 (.bl _)⟩
  | _ => exact False.elim p1
/-- D[e] -/
theorem me_kix (ok : G.Ok) (C : XC G E X k) (q : KD X.w G.K X.mg G.sts x d es n l) (hb : ME G E X b tb mb) (hg : Gl X x := by rfl) (hd : (x == ("__debug__" : Str)) = false := by decide) (hs : PlainIx b := by exact fun _ _ => rfl) :
    ME G E X (.Subscript (.Name x p) b pos) (tOp (rIxD X.K X.w) (tC (.ref d)) tb) (mU (kIx l) mb) := by
  refine ⟨pe_ix ix_kdict (q.pe hg hd) hb.pe hs, ⟨fun r H h s σ Q hR sR pp => hb.rf.run r H h s σ _ hR sR (pp.seq fun v h1 r1 H1 u s1 hR1 v1 p1 => ?_)⟩⟩
  cases v1 with
  | @str m z hz =>
    rcases KD.ns ok q.lk q.ce hz with ⟨e1, e2⟩ | ⟨v, w, e1, e2, e3⟩
    · have : PostR G (VR G) r1 H1 E .stuck Q := by
        have p1' := p1
        unfold kIx at p1'; simp only [e1] at p1'
        exact p1'
      exact this.elim
    · have p1' : PostR G (VR G) r1 H1 E (.ok v h1) Q := by
        have p1' := p1
        unfold kIx at p1'; simp only [e1] at p1'
        exact p1'
      obtain ⟨w', hw, hv⟩ := e3.vr
      exact ⟨d, z, w', rfl, rfl, ⟨es, n, w, by rw [C.K]; exact q.lk, q.ce.lit, by rw [C.K]; exact e2, hw⟩, p1'.here hR1 (hv _ _)⟩
  | _ => exact False.elim p1
/-- D.get(e, f) -/
def tKGet (K : PySem.W.Frag) (d : Addr) (ty tx : TE) : TE := fun σ H Q => ty σ H fun y H2 => tx σ H2 fun z H3 => ∃ (z' : Str) (r : Option Value) (v : V), y = .str z' ∧ PySem.W.nsIn K d z' = some r ∧ (match r with | some u => RelV v u | none => v = z) ∧ Q v H3
theorem pe_kget2 {o : Expr} (D : KDict X.K X.w d es n) (ho : PE X o (tC (.ref d))) (he : PE X e ty) (hf : PE X f tx) (m : M2 X o "get" apos e f cpos) : PE X (.Call (.Attribute o "get" apos) [e, f] [] cpos) (tKGet X.K d ty tx) := by
  refine ⟨fun pins s σ H Q I hyp => ?_⟩
  have first := ho.run pins s σ H (fun v H' => v = .ref d ∧ tKGet X.K d ty tx σ H' Q) I ⟨rfl, hyp⟩
  refine wpAny_Call_method m.base m.few m.line PySem.F.plainAttrs_dict PySem.F.slot_dict_get PySem.F.type_dict_get (thn first fun ov sA ⟨xA, HA, IA, rA, eA, qA⟩ => ?_)
  subst eA
  obtain rfl : ov = Value.ref d := rA
  have mo := PySem.W.mapOf_K (prog := X.prog) (w := X.w) IA.kIn D.at_ D.lit
  refine ⟨mo.typeIs, fun b eb => ?_, ?_⟩
  · cases eb
    obtain ⟨ob, _, _, z1, z2, _⟩ := mo
    exact ⟨ob, z1, z2.2.1⟩
  · rw [m.trees]
    refine Calls.callWith_builtin rfl (Calls.evalArgs_plain (Calls.spliced_cons (thn (he.run pins sA σ HA _ IA qA) fun yv sB ⟨y, HB, IB, rB, qB⟩ => Calls.spliced_cons (thn (hf.run pins sB σ HB _ IB qB) fun zv sC ⟨z, HC, IC, rC, zz, rr, vv, ey, en, ev, qC⟩ => Calls.spliced_nil ?_))))
    subst ey
    obtain ⟨t, rfl⟩ := rB
    have mo2 := PySem.W.mapOf_K (prog := X.prog) (w := X.w) IC.kIn D.at_ D.lit
    refine call_meetsIn PySem.F.slot_dict_get mo2.typeIs PySem.F.entry_dict_get (PySem.F.args_dict_get_3 _ _ _) (meets_dict_get_default (strKind X.prog X.w) d (strKind_is X.prog X.w zz t) D.low zv) ⟨_, mo2, ?_⟩
    rw [PySem.W.find_K D.at_ en]
    refine ⟨vv, HC, IC.tok _, ?_, qC⟩
    cases rr with
    | none =>
      have : vv = z := ev
      subst this
      exact rC
    | some u0 => exact ev
theorem me_kget (ok : G.Ok) (C : XC G E X k) (q : KD X.w G.K X.mg G.sts x d es n l) (he : ME G E X e ty ma) (hf : ME G E X f tx mb)
    (m : M2 X (.Name x p) "get" apos e f cpos := by exact ⟨rfl, rfl, rfl, rfl⟩) (hg : Gl X x := by rfl) (hd : (x == ("__debug__" : Str)) = false := by decide) :
    ME G E X (.Call (.Attribute (.Name x p) "get" apos) [e, f] [] cpos) (tKGet X.K d ty tx) (mB (kGet l) ma mb) := by
  refine ⟨pe_kget2 (q.kd C) (q.pe hg hd) he.pe hf.pe m, ⟨fun r H h s σ Q hR sR pp => ?_⟩⟩
  refine he.rf.run r H h s σ _ hR sR (pp.seq fun v h1 r1 H1 u s1 hR1 v1 p1 => ?_)
  refine hf.rf.run r1 H1 h1 s σ _ hR1 (sR.mono s1) (p1.seq fun y h2 r2 H2 w s2 hR2 v2 p2 => ?_)
  have v1' := v1.mono s2
  cases v1' with
  | @str m z hz =>
    have p2' : PostR G (VR G) r2 H2 E (.ok ((lkN l m).getD y) h2) Q := p2
    rcases KD.ns ok q.lk q.ce hz with ⟨e1, e2⟩ | ⟨v, u', e1, e2, e3⟩
    · rw [e1] at p2'
      exact ⟨z, none, w, rfl, by rw [C.K]; exact e2, rfl, p2'.here hR2 v2⟩
    · rw [e1] at p2'
      obtain ⟨w', hw, hv⟩ := e3.vr
      exact ⟨z, some u', w', rfl, by rw [C.K]; exact e2, hw, p2'.here hR2 (hv _ _)⟩
  | _ => exact False.elim p2
end
/-! ### texts: length, one sign, by a table -/
def lkS (tbl : List (Nat × List Nat)) (n : Nat) : Option (List Nat) := (tbl.find? fun kv => kv.1 == n).map (·.2)
def oIxS (tbl : List (Nat × List Nat)) (x y : Val) (h : Heap) : Res Val := match x, y with
  | .str n, .int i => match lkS tbl n with
    | some l => match L2.atI l i with
      | some c => .ok (.str c) h
      | none => .stuck
    | none => .stuck
  | _, _ => .stuck
def bLenS (tbl : List (Nat × List Nat)) (xs : List Val) (h : Heap) : Res Val := match xs with
  | [.str n] => match lkS tbl n with
    | some l => .ok (.int l.length) h
    | none => .stuck
  | _ => .stuck
def stOk (sts : List Str) (tbl : List (Nat × List Nat)) : Bool := tbl.all fun kv => match sts[kv.1]? with
  | some z => decide (z.cps.size ≤ 1000) && (z.cps.toList.map (fun c => some (⟨#[c]⟩ : Str)) == kv.2.map (fun c => sts[c]?))
  | none => false
theorem stOk_at {sts : List Str} {tbl : List (Nat × List Nat)} (o : stOk sts tbl = true) {n : Nat} {l : List Nat} (e : lkS tbl n = some l) {z : Str} (hz : sts[n]? = some z) : z.cps.size ≤ 1000 ∧ z.cps.toList.map (fun c => some (⟨#[c]⟩ : Str)) = l.map (fun c => sts[c]?) := by
  unfold lkS at e
  obtain ⟨kv, h1, rfl⟩ := Option.map_eq_some_iff.mp e
  have hm := List.mem_of_find?_eq_some h1
  have hn := List.find?_some h1
  have := List.all_eq_true.mp o kv hm
  have hn' : kv.1 = n := by simpa using hn
  rw [hn', hz] at this
  simp only [Bool.and_eq_true, decide_eq_true_eq, beq_iff_eq] at this
  exact this
theorem atI_map' {α β : Type} (f : α → β) (xs : List α) (i : Int) : L2.atI (xs.map f) i = (L2.atI xs i).map f := by
  unfold L2.atI
  rw [List.length_map]
  cases L2.ixN xs.length i with
  | none => rfl
  | some j => simp
section
variable {a b e : Expr} {ta tb : TE} {ma mb : En → Heap → Res Val} {pos p : Pos} {tbl : List (Nat × List Nat)}
theorem rf_ixS (o : stOk G.sts tbl = true) : Rf2 G E rIxS (oIxS tbl) := by
  refine ⟨fun r H h x y v u Q hR vx vy p => ?_⟩
  unfold oIxS at p
  split at p
  · rename_i nn i
    cases vx with
    | @str n z hz => cases vy with
      | int _ =>
        split at p
        · rename_i l el
          split at p
          · rename_i c ec
            obtain ⟨q1, q2⟩ := stOk_at o el hz
            have q3 := atI_map' (fun c => some (⟨#[c]⟩ : Str)) z.cps.toList i
            rw [q2, atI_map', ec] at q3
            obtain ⟨cp, e1, e2⟩ := Option.map_eq_some_iff.mp q3.symm
            exact ⟨z, i, cp, rfl, rfl, Nat.le_trans q1 (by rw [sizeLine_eq]; decide), e1, p.here hR (.str e2.symm)⟩
          · exact False.elim p
        · exact False.elim p
  · exact False.elim p
theorem me_ixS (o : stOk G.sts tbl = true) (ha : ME G E X a ta ma) (hb : ME G E X b tb mb) (hs : PlainIx b := by exact fun _ _ => rfl) : ME G E X (.Subscript a b pos) (tOp rIxS ta tb) (mB (oIxS tbl) ma mb) :=
  ⟨pe_ix ix_str ha.pe hb.pe hs, ha.rf.b2 hb.rf (rf_ixS o)⟩
theorem rl_lenS (o : stOk G.sts tbl = true) : RfL G E (rLenA G.K) (bLenS tbl) := by
  refine ⟨fun r H h xs vs Q hR v p => ?_⟩
  unfold bLenS at p
  split at p
  · cases v with
    | cons q1 q2 =>
      cases q1
      cases q2
      rename_i n z hz
      split at p
      · rename_i l el
        obtain ⟨q1, q2⟩ := stOk_at o el hz
        have ql := congrArg List.length q2
        simp only [List.length_map, Array.length_toList] at ql
        refine .inl ⟨_, z.length, rfl, ⟨Nat.le_trans q1 (by rw [sizeLine_eq]; decide), rfl⟩, ?_⟩
        have e : z.length = l.length := ql
        rw [e]
        exact p.here hR (.int _)
      · exact False.elim p
  · exact False.elim p
end
/-! ### a, b = x, y and a, b, c = x, y, z -/
def sPar2 (i j : Nat) (mA : En → Heap → Res (List Val)) (s : En) (h : Heap) : RS := (mA s h).thenS fun xs h1 => match xs with
  | [x, y] => .nx ((s.set i (some x)).set j (some y)) h1
  | _ => .stuck
def sPar3 (i j l : Nat) (mA : En → Heap → Res (List Val)) (s : En) (h : Heap) : RS := (mA s h).thenS fun xs h1 => match xs with
  | [x, y, z] => .nx (((s.set i (some x)).set j (some y)).set l (some z)) h1
  | _ => .stuck
section
variable {a b c : Expr} {tA : TA} {mA : En → Heap → Res (List Val)} {px py pz pt pos : Pos} {kt k2 pt2} {x y z : Str}
theorem ms_par2 (i j : Nat) (C : XC G E X k) (hi : X.N[i]? = some x) (hj : X.N[j]? = some y) (hij : i ≠ j) (hx : X.env.scope.names.lookup x = some .local) (hy : X.env.scope.names.lookup y = some .local) (ha : MA G E X [a, b] tA mA)
    (hw : swappedStores [.Tuple [.Name x px, .Name y py] kt pt] (.Tuple [a, b] k2 pt2) X.env = pure (some [x, y]))
    (hs : swapsWithSole [.Tuple [.Name x px, .Name y py] kt pt] (.Tuple [a, b] k2 pt2) pos.line X.env = pure false := by rfl) :
    MS G E X (.Assign [.Tuple [.Name x px, .Name y py] kt pt] (.Tuple [a, b] k2 pt2) pos) (tPar i j tA) (sPar2 i j mA) := by
  refine ⟨ps_par C.calm C.nd hi hj hij hx hy ha.pe hw hs, ⟨fun r H h s σ D hR sR p => ?_⟩⟩
  refine ha.rf.run r H h s σ _ hR sR (p.seqS fun xs h1 r1 H1 vs s1 hR1 v1 p1 => ?_)
  split at p1
  · rename_i u w
    cases v1 with
    | cons q1 q2 => cases q2 with
      | cons q3 q4 =>
        cases q4
        exact ⟨_, _, rfl, p1.here hR1 (((sR.mono s1).set q1 i).set q3 j)⟩
  · exact False.elim p1
theorem ms_par3 (i j l : Nat) (C : XC G E X k) (hi : X.N[i]? = some x) (hj : X.N[j]? = some y) (hl : X.N[l]? = some z) (hij : i ≠ j) (hil : i ≠ l) (hjl : j ≠ l) (hx : X.env.scope.names.lookup x = some .local) (hy : X.env.scope.names.lookup y = some .local) (hz : X.env.scope.names.lookup z = some .local) (ha : MA G E X [a, b, c] tA mA)
    (hw : swappedStores [.Tuple [.Name x px, .Name y py, .Name z pz] kt pt] (.Tuple [a, b, c] k2 pt2) X.env = pure (some [x, y, z]))
    (hs : swapsWithSole [.Tuple [.Name x px, .Name y py, .Name z pz] kt pt] (.Tuple [a, b, c] k2 pt2) pos.line X.env = pure false := by rfl) :
    MS G E X (.Assign [.Tuple [.Name x px, .Name y py, .Name z pz] kt pt] (.Tuple [a, b, c] k2 pt2) pos) (tPar3 i j l tA) (sPar3 i j l mA) := by
  refine ⟨ps_par3 C.calm C.nd hi hj hl hij hil hjl hx hy hz ha.pe hw hs, ⟨fun r H h s σ D hR sR p => ?_⟩⟩
  refine ha.rf.run r H h s σ _ hR sR (p.seqS fun xs h1 r1 H1 vs s1 hR1 v1 p1 => ?_)
  split at p1
  · rename_i u w w'
    cases v1 with
    | cons q1 q2 => cases q2 with
      | cons q3 q4 => cases q4 with
        | cons q5 q6 =>
          cases q6
          exact ⟨_, _, _, rfl, p1.here hR1 ((((sR.mono s1).set q1 i).set q3 j).set q5 l)⟩
  · exact False.elim p1
end
end PyM

set_option Elab.async false
set_option linter.all false
set_option autoImplicit false
set_option maxHeartbeats 4000000
set_option maxRecDepth 100000
/-! an end by facts at given places -/
namespace PyM
open PySem PySem.Spec PyProof.Rows L2 He
theorem funOf {K : PySem.W.Frag} {x qual : Str} {st : Stmt} {f : Addr} {fd : FuncData} (F : FunD K x qual (defArgs st) (defBody st) (defScope st) [] [] f fd) : Fun K x qual st f fd := by
  obtain ⟨oc, od, dV, kV, doc, pm, an, cdv, ct, osl, e, lk, hcd, df, _⟩ := F.ex
  rcases df with ⟨_, rfl⟩ | ⟨h, _⟩
  · subst e
    exact fun_mk (st := st) lk hcd F.kp
  · exact absurd rfl h
/-! defs with defaults, called with all -/
section
variable {P : Program} {w : World} {mg : Str → Option Value} {base : PySem.Heap} {G : Cfg}
theorem fnd_m {dvs : List V} {kws : List (Str × V)} {x qual : Str} {st : Stmt} {f : Addr} {fd : FuncData} {N ps : List Str} {k np nl : Nat} {mb : En → Heap → RS} (F : FunD G.K x qual (defArgs st) (defBody st) (defScope st) dvs kws f fd) (S : FnScope N ps (defScope st)) (hnp : ps.length = np) (hnl : N.length = nl)
    (hb : ∀ (cdv : Value) (A : Around) (outer : List Env) (s : Shared) (H : Hp) (E : XK), XC G E (cxOf (L2.CX P w) P w G.K mg base N qual (defScope st) f cdv A outer s H E) k → Tk (cxOf (L2.CX P w) P w G.K mg base N qual (defScope st) f cdv A outer s H E) E →
      ∃ t, MSs G E (cxOf (L2.CX P w) P w G.K mg base N qual (defScope st) f cdv A outer s H E) (defBody st) t mb) : FnM G P w mg base (k + 1) f fd ps (runB np nl mb) := by
  subst hnp hnl
  refine ⟨F.ok S (fun vs H Q E h => h.1) (fun cdv A outer s H vs Q E hr h => ?_), fun xs h hl => by unfold runB; rw [if_neg hl]⟩
  obtain ⟨hl, r, h, xs, hR, vR, p⟩ := h
  have tk : Tk (cxOf (L2.CX P w) P w G.K mg base N qual (defScope st) f cdv A outer s H E) E := takes_of rfl rfl rfl rfl
  obtain ⟨t, q⟩ := hb cdv A outer s H E ⟨rfl, rfl, S.nd, hr, passes_call tk (fun _ _ _ _ h => h), passes_of rfl⟩ tk
  have z := q.rf.run r H h _ _ { nx := fun _ H' => Q .non H', rt := Q } hR (SR_start (n := N.length - ps.length) vR) ?_
  · refine ⟨t, q.pe, ?_⟩
    rw [← hl] at z
    exact z
  · unfold runB at p
    rw [if_pos (by rw [vR.len]; exact hl)] at p
    cases e : mb (List.map some xs ++ List.replicate (N.length - ps.length) none) h with
    | nx a b =>
      rw [e] at p
      exact fun r' H' t st hR' _ => p r' H' _ st hR' .non
    | rt a b => rw [e] at p; exact p
    | raised a b => rw [e] at p; exact p
    | bk a b => rw [e] at p; exact p.elim
    | ct a b => rw [e] at p; exact p.elim
    | stuck => rw [e] at p; exact p.elim
end
theorem bindD {K : PySem.W.Frag} {x qual : Str} {params : Arguments} {body : List Stmt} {scope : Scope} {v : V} {f : Addr} {fd : FuncData} {ps : List Str} (F : FunD K x qual params body scope [v] [] f fd)
    (h : ∀ (T : Addr) (kV doc pm : Value) (an : Option Addr) (cdv ct : Value) (us its : List Value), us.length = ps.length → its.length = 1 →
      ∃ k, bindArgs (PySem.W.fnOf x qual params body scope (.ref T) kV doc pm an cdv ct) ⟨us, []⟩ = seqItems? (.ref T) >>= k ∧ k (some its.toArray) = pure (ps.zip (us ++ its.drop 1))) : Binds K fd ps [] := by
  obtain ⟨ds, hv, hb⟩ := FunD.binds1 F ps.length 1 (by simp) (by simp) h
  cases hv
  exact hb
mutual
theorem cvB_ok {K : PySem.W.Frag} {sts : List Str} : ∀ {x : Val} {u : Value}, cvB K sts x u = true → CV K sts x u
  | .non, u, h => by
    cases u with
    | none => exact .non
    | _ => simp [cvB] at h
  | .int i, u, h => by
    cases u with
    | int j t =>
      have e : i = j := by simpa [cvB] using h
      subst e
      exact .int i
    | _ => simp [cvB] at h
  | .str n, u, h => by
    cases u with
    | str x t => exact .str (by simpa [cvB] using h)
    | _ => simp [cvB] at h
  | .tup xs, u, h => by
    cases u with
    | ref a =>
      rw [cvB] at h
      cases q : K.lookup a with
      | none => rw [q] at h; cases h
      | some o =>
        rw [q] at h
        obtain ⟨h1, h2⟩ := ba h
        cases qc : o.cls with
        | type c =>
          rw [qc] at h1
          have e1 : c = "tuple" := of_decide_eq_true h1
          subst e1
          cases qd : o.data with
          | seq its n =>
            rw [qd] at h2
            obtain ⟨h3, h4⟩ := ba h2
            have ll : 1000 ≤ lim := by decide
            have hs := Nat.le_of_ble_eq_true h3
            exact .tup q qc qd (le_line (by omega)) (cvBs_ok h4)
          | _ => rw [qd] at h2; cases h2
        | _ => rw [qc] at h1; cases h1
    | _ => simp [cvB] at h
  | .bl _, u, h => by cases u <;> simp [cvB] at h
  | .ref _, u, h => by cases u <;> simp [cvB] at h
theorem cvBs_ok {K : PySem.W.Frag} {sts : List Str} : ∀ {xs : List Val} {us : List Value}, cvBs K sts xs us = true → CVs K sts xs us
  | [], us, h => by
    cases us with
    | nil => exact .nil
    | cons => simp [cvBs] at h
  | x :: xs, us, h => by
    cases us with
    | nil => simp [cvBs] at h
    | cons u us =>
      rw [cvBs] at h
      obtain ⟨h1, h2⟩ := ba h
      exact .cons (cvB_ok h1) (cvBs_ok h2)
end
theorem ktB_ok {K : PySem.W.Frag} {sts : List Str} {h : PySem.Heap} {mg : Str → Option Value} {x : Str} {v : Val} (X : K.In h) (G : h.Ns mainGlobals mg) (e : ktB K sts x v = true) : KT K mg sts x v := by
  unfold ktB at e
  cases q : PySem.W.nsIn K mainGlobals x with
  | none => rw [q] at e; cases e
  | some r =>
    rw [q] at e
    cases r with
    | none => cases e
    | some u => exact ⟨u, PySem.W.mg_of X G q, cvB_ok e⟩
theorem ceB_ok {w : World} {K : PySem.W.Frag} {sts : List Str} : ∀ {l : List (Nat × Val)} {es : List DictEntry} {ks : List Str}, ceB K sts l es = true → es.map He.keyOf = keysIn w.params ks → CE w K sts l es
  | [], [], _, _, _ => .nil
  | [], _ :: _, _, h, _ => by simp [ceB] at h
  | _ :: _, [], _, h, _ => by simp [ceB] at h
  | (i, v) :: l, e :: es, [], h, hk => by simp [keysIn] at hk
  | (i, v) :: l, e :: es, k :: ks, h, hk => by
    rw [ceB] at h
    obtain ⟨h1, h2⟩ := ba h
    obtain ⟨h3, h4⟩ := ba h2
    obtain ⟨hh, kk, u⟩ := e
    have hk' : He.keyOf ⟨hh, kk, u⟩ :: es.map He.keyOf = some (k, PyData.keyHash w.params k) :: keysIn w.params ks := hk
    injection hk' with e1 e2
    cases kk with
    | str z t =>
      have e3 : sts[i]? = some z := of_decide_eq_true h1
      have e4 : (some (z, hh) : Option (Str × Int)) = some (k, PyData.keyHash w.params k) := e1
      injection e4 with e5
      injection e5 with e6 e7
      exact .cons e3 (by rw [e7, e6]) (cvB_ok h3) (ceB_ok h4 e2)
    | _ => cases h1
theorem kdB_ok {w : World} {K : PySem.W.Frag} {sts : List Str} {h : PySem.Heap} {mg : Str → Option Value} {x : Str} {l : List (Nat × Val)} {ks : List Str} (X : K.In h) (G : h.Ns mainGlobals mg) (gl : (Fa.glo x).ok K = true) (e : kdB K sts x l = true) (d : dicW K (ga K x) = some (keysIn w.params ks)) : ∃ es n, KD w K mg sts x (ga K x) es n l := by
  unfold kdB at e
  unfold dicW at d
  cases q : K.lookup (ga K x) with
  | none => rw [q] at e; cases e
  | some o =>
    obtain ⟨oc, od, dt, sl⟩ := o
    rw [q] at e d
    cases oc with
    | type c =>
      cases od with
      | none =>
        cases dt with
        | dict es n =>
          obtain ⟨h1, h2⟩ := ba e
          obtain ⟨h3, h4⟩ := ba h2
          obtain ⟨h5, h6⟩ := ba h4
          have e1 : c = "dict" := of_decide_eq_true h1
          subst e1
          have e2 : sl = #[] := Array.isEmpty_iff.mp h3
          subst e2
          refine ⟨es, n, glo_ok X G gl, q, by simpa using h5, ceB_ok (w := w) (ks := ks) h6 ?_⟩
          have d1 : (match decide (("dict" : String) = "dict") && ((#[] : Array (Option Value)).isEmpty && !(ga K x == sysModules)) with
            | true => some (es.toList.map He.keyOf)
            | false => none) = some (keysIn w.params ks) := d
          have hb : (decide (("dict" : String) = "dict") && ((#[] : Array (Option Value)).isEmpty && !(ga K x == sysModules))) = true := by
            rw [h5]; rfl
          rw [hb] at d1
          exact Option.some.inj d1
        | _ => cases e
      | some d' => cases dt <;> cases e
    | _ => cases od <;> cases dt <;> cases e
end PyM

set_option Elab.async false
set_option linter.all false
set_option autoImplicit false
set_option maxHeartbeats 4000000
/-! dicts: get, pop; keys that are tuples, written where they are used; list.remove -/
namespace PyM
open PySem L2 L2.DX
variable {G : Cfg} {E : XK} {X : Cx} {k : Nat} {r r' : List Addr} {H H' : Hp} {h : Heap}
theorem KRs.eq (ok : G.Ok) : ∀ {ks ks' : List Val} {qs qs' : List Key}, KRs G ks qs → KRs G ks' qs' → decide (ks = ks') = decide (qs = qs')
  | _, _, _, _, .nil, .nil => rfl
  | _, _, _, _, .nil, .cons _ _ => by simp
  | _, _, _, _, .cons _ _, .nil => by simp
  | _, _, _, _, .cons a b, .cons c d => by
    have e1 := KR.eq ok a c
    have e2 := KRs.eq ok b d
    simp only [decide_eq_decide] at e1 e2
    simp only [List.cons.injEq, decide_eq_decide]
    rw [e1, e2]
theorem KRs.of : ∀ {ks : List Val} {vs : List V}, VRs G r H ks vs → ks.all isKey = true → ∃ qs, KRs G ks qs ∧ vs = qs.map kV
  | _, _, .nil, _ => ⟨[], .nil, rfl⟩
  | _, _, .cons a b, hk => by
    rw [List.all_cons, Bool.and_eq_true] at hk
    obtain ⟨q, q1, rfl⟩ := KR.of a hk.1
    obtain ⟨qs, q2, rfl⟩ := KRs.of b hk.2
    exact ⟨q :: qs, .cons q1 q2, rfl⟩
theorem DTR.len {d e} (a : DTR G r H d e) : d.length = e.length := by
  induction a with
  | nil => rfl
  | cons _ _ _ ih => simp [ih]
theorem DTR.keq (ok : G.Ok) {ks ks' : List Val} {qs qs' : List Key} (a : KRs G ks qs) (b : KRs G ks' qs') : (Val.tup ks = Val.tup ks') ↔ qs = qs' := by
  have := KRs.eq ok a b
  simp only [decide_eq_decide] at this
  rw [← this]
  exact ⟨fun e => by injection e, fun e => by rw [e]⟩
theorem DTR.look (ok : G.Ok) {d e} (a : DTR G r H d e) {ks : List Val} {qs : List Key} (b : KRs G ks qs) : (lookV d (.tup ks) = none ∧ valV e qs = none) ∨ ∃ x v, lookV d (.tup ks) = some x ∧ valV e qs = some v ∧ VR G r H x v := by
  induction a with
  | nil => exact .inl ⟨rfl, rfl⟩
  | @cons ks' x qs' v d e hk hv _ ih =>
    have e1 := DTR.keq ok hk b
    by_cases hh : qs' = qs
    · have h2 := e1.mpr hh
      exact .inr ⟨x, v, by simp [lookV, h2], by simp [valV, hh], hv⟩
    · have h2 : ¬ Val.tup ks' = Val.tup ks := fun q => hh (e1.mp q)
      have l1 : lookV ((Val.tup ks', x) :: d) (.tup ks) = lookV d (.tup ks) := by simp only [lookV, List.find?_cons, h2, decide_false]
      have l2 : valV ((qs', v) :: e) qs = valV e qs := by simp only [valV, List.find?_cons, hh, decide_false]
      rw [l1, l2]
      exact ih
theorem DTR.any (ok : G.Ok) {d e} (a : DTR G r H d e) {ks : List Val} {qs : List Key} (b : KRs G ks qs) : (d.any fun kv => decide (kv.1 = .tup ks)) = (e.any fun kv => decide (kv.1 = qs)) := by
  induction a with
  | nil => rfl
  | cons hk _ _ ih =>
    rw [List.any_cons, List.any_cons, ih]
    congr 1
    exact decide_eq_decide.mpr (DTR.keq ok hk b)
theorem DTR.app {d e d' e'} (a : DTR G r H d e) (b : DTR G r H d' e') : DTR G r H (d ++ d') (e ++ e') := by
  induction a with
  | nil => exact b
  | cons hk hv _ ih => exact .cons hk hv ih
theorem DTR.upd (ok : G.Ok) {d e} (a : DTR G r H d e) {ks : List Val} {x : Val} {qs : List Key} {v : V} (b : KRs G ks qs) (c : VR G r H x v) : DTR G r H (d.map (fun kv => if kv.1 = .tup ks then (kv.1, x) else kv)) (e.map (fun kv => if kv.1 = qs then (kv.1, v) else kv)) := by
  induction a with
  | nil => exact .nil
  | @cons ks' x' qs' v' d e hk hv _ ih =>
    have e1 := DTR.keq ok hk b
    rw [List.map_cons, List.map_cons]
    by_cases hh : qs' = qs
    · rw [if_pos (e1.mpr hh), if_pos hh]
      exact .cons hk c ih
    · rw [if_neg (fun q => hh (e1.mp q)), if_neg hh]
      exact .cons hk hv ih
theorem DTR.put (ok : G.Ok) {d e} (a : DTR G r H d e) {ks : List Val} {x : Val} {qs : List Key} {v : V} (b : KRs G ks qs) (c : VR G r H x v) : DTR G r H (putV d (.tup ks) x) (putK e qs v) := by
  unfold putV putK
  rw [a.any ok b]
  by_cases hh : (e.any fun kv => decide (kv.1 = qs)) = true
  · rw [if_pos hh, if_pos hh]
    exact a.upd ok b c
  · rw [if_neg hh, if_neg hh]
    exact a.app (.cons b c .nil)
theorem DTR.drop (ok : G.Ok) {d e} (a : DTR G r H d e) {ks : List Val} {qs : List Key} (b : KRs G ks qs) : DTR G r H (dropV d (.tup ks)) (dropK e qs) := by
  unfold dropV dropK
  induction a with
  | nil => exact .nil
  | @cons ks' x' qs' v' d e hk hv _ ih =>
    have e1 := DTR.keq ok hk b
    by_cases hh : qs' = qs
    · rw [List.filter_cons_of_neg (by simp [e1.mpr hh]), List.filter_cons_of_neg (by simp [hh])]
      exact ih
    · have h2 : ¬ Val.tup ks' = Val.tup ks := fun q => hh (e1.mp q)
      rw [List.filter_cons_of_pos (by simpa using h2), List.filter_cons_of_pos (by simpa using hh)]
      exact .cons hk hv ih
/-- a dict of an instance is written -/
theorem set_dct (hR : HR G r H h) {n : Nat} {ad : Addr} {d d' : List (Val × Val)} {e e' : List (Key × V)} {x : Val} {v : V} {Q : VK} (eo : h[n]? = some (.dct d)) (ea : r[n]? = some ad) (hl : H ad = some (.dK e)) (hv : DR G r H d' e') (hx : VR G r H x v) (p : PostR G (VR G) r H E (.ok x (h.set n (.dct d'))) Q) : Q v (upd H ad (.dK e')) := by
  have st : Stp G.K r H r (upd H ad (.dK e')) := Stp.upd fun o e => by rw [hl] at e; cases e; trivial
  exact p r _ _ st (hR.write eo rfl ea (fun o e => by rw [hl] at e; cases e; trivial) (.dct upd_same (hv.mono st)) rfl) (hx.mono st)
theorem set_dcT (hR : HR G r H h) {n : Nat} {ad : Addr} {d d' : List (Val × Val)} {e e' : List (List Key × V)} {x : Val} {v : V} {Q : VK} (eo : h[n]? = some (.dcT d)) (ea : r[n]? = some ad) (hl : H ad = some (.dT e)) (hv : DTR G r H d' e') (hx : VR G r H x v) (p : PostR G (VR G) r H E (.ok x (h.set n (.dcT d'))) Q) : Q v (upd H ad (.dT e')) := by
  have st : Stp G.K r H r (upd H ad (.dT e')) := Stp.upd fun o e => by rw [hl] at e; cases e; trivial
  exact p r _ _ st (hR.write eo rfl ea (fun o e => by rw [hl] at e; cases e; trivial) (.dcT upd_same (hv.mono st)) rfl) (hx.mono st)

/-! ### d.get, d.pop with int and text keys -/
def isD (x : Val) (h : Heap) : Bool := match x with
  | .ref a => match h[a]? with
    | some (.dct _) => true
    | some (.dcT _) => true
    | _ => false
  | _ => false
theorem isD_of (hR : HR G r H h) {x : Val} {v : V} (q : VR G r H x v) (e : isD x h = true) : ∃ a, v = .ref a ∧ IsD H a := by
  cases q with
  | ref ea =>
    simp only [isD] at e
    split at e
    · rename_i d eo
      cases hR.ob _ _ _ eo ea with
      | dct hl hv => exact ⟨_, rfl, .inl ⟨_, .inl hl⟩⟩
    · rename_i d eo
      cases hR.ob _ _ _ eo ea with
      | dcT hl hv => exact ⟨_, rfl, .inr ⟨_, .inl hl⟩⟩
    · cases e
  | _ => simp [isD] at e
def dGet (o y z : Val) (h : Heap) : Res Val := match o with
  | .ref a => match h[a]? with
    | some (.dct d) => if isKey y = true then .ok ((lookV d y).getD z) h else .stuck
    | _ => .stuck
  | _ => .stuck
def dPop1 (o y : Val) (h : Heap) : Res Val := match o with
  | .ref a => match h[a]? with
    | some (.dct d) => if isKey y = true then match lookV d y with
        | some x => .ok x (h.set a (.dct (dropV d y)))
        | none => .stuck
      else .stuck
    | _ => .stuck
  | _ => .stuck
def dPop2 (o y z : Val) (h : Heap) : Res Val := match o with
  | .ref a => match h[a]? with
    | some (.dct d) => if isKey y = true then match lookV d y with
        | some x => .ok x (h.set a (.dct (dropV d y)))
        | none => .ok z h
      else .stuck
    | _ => .stuck
  | _ => .stuck
def mGet1 (mo my : En → Heap → Res Val) (s : En) (h : Heap) : Res Val := (mo s h).bind fun o h1 => if isD o h1 = true then (my s h1).bind fun y h2 => dGet o y .non h2 else .stuck
def mGet2 (mo my mz : En → Heap → Res Val) (s : En) (h : Heap) : Res Val := (mo s h).bind fun o h1 => if isD o h1 = true then (my s h1).bind fun y h2 => (mz s h2).bind fun z h3 => dGet o y z h3 else .stuck
def mPop1 (mo my : En → Heap → Res Val) (s : En) (h : Heap) : Res Val := (mo s h).bind fun o h1 => if isD o h1 = true then (my s h1).bind fun y h2 => dPop1 o y h2 else .stuck
def mPop2 (mo my mz : En → Heap → Res Val) (s : En) (h : Heap) : Res Val := (mo s h).bind fun o h1 => if isD o h1 = true then (my s h1).bind fun y h2 => (mz s h2).bind fun z h3 => dPop2 o y z h3 else .stuck
theorem dGet_of (ok : G.Ok) (hR : HR G r H h) {o y z : Val} {v w u : V} {Q : VK} (vo : VR G r H o v) (vy : VR G r H y w) (vz : VR G r H z u) (p : PostR G (VR G) r H E (dGet o y z h) Q) : ∃ a oo, v = .ref a ∧ DGet H a w oo ∧ Q (oo.getD u) H := by
  unfold dGet at p
  split at p
  · cases vo with
    | ref ea =>
      split at p
      · rename_i d eo
        split at p
        · rename_i hk
          cases hR.ob _ _ _ eo ea with
          | dct hl hv =>
            obtain ⟨q, kq, rfl⟩ := KR.of vy hk
            rcases hv.look ok kq with ⟨e1, e2⟩ | ⟨x', v', e1, e2, v2⟩
            · rw [e1] at p
              exact ⟨_, none, rfl, by rw [← e2]; exact DGet.k hl, p.here hR vz⟩
            · rw [e1] at p
              exact ⟨_, some v', rfl, by rw [← e2]; exact DGet.k hl, p.here hR v2⟩
        · exact False.elim p
      · exact False.elim p
  · exact False.elim p
section
variable {o e f : Expr} {td ty tx : TE} {mo my mz : En → Heap → Res Val} {apos cpos : Pos}
theorem me_get1 (ok : G.Ok) (C : XC G E X k) (ho : ME G E X o td mo) (he : ME G E X e ty my) (m : M1 X o "get" apos e cpos := by exact ⟨rfl, rfl, rfl, rfl⟩) : ME G E X (.Call (.Attribute o "get" apos) [e] [] cpos) (tDGet1 td ty) (mGet1 mo my) := by
  refine ⟨pe_dget1 (by have := C.hu; omega) ho.pe he.pe m, ⟨fun r H h s σ Q hR sR p => ho.rf.run r H h s σ _ hR sR (p.seq fun x h1 r1 H1 v s1 hR1 v1 p1 => ?_)⟩⟩
  split at p1
  · rename_i hd
    obtain ⟨a, rfl, id⟩ := isD_of hR1 v1 hd
    refine ⟨a, rfl, id, he.rf.run r1 H1 h1 s σ _ hR1 (sR.mono s1) (p1.seq fun y h2 r2 H2 w s2 hR2 v2 p2 => ?_)⟩
    obtain ⟨a', oo, ea, g, q⟩ := dGet_of ok hR2 (v1.mono s2) v2 .non p2
    cases ea
    exact ⟨oo, g, q⟩
  · exact False.elim p1
theorem me_get2 (ok : G.Ok) (C : XC G E X k) (ho : ME G E X o td mo) (he : ME G E X e ty my) (hf : ME G E X f tx mz) (m : M2 X o "get" apos e f cpos := by exact ⟨rfl, rfl, rfl, rfl⟩) : ME G E X (.Call (.Attribute o "get" apos) [e, f] [] cpos) (tDGet2 td ty tx) (mGet2 mo my mz) := by
  refine ⟨pe_dget2 (by have := C.hu; omega) ho.pe he.pe hf.pe m, ⟨fun r H h s σ Q hR sR p => ho.rf.run r H h s σ _ hR sR (p.seq fun x h1 r1 H1 v s1 hR1 v1 p1 => ?_)⟩⟩
  split at p1
  · rename_i hd
    obtain ⟨a, rfl, id⟩ := isD_of hR1 v1 hd
    refine ⟨a, rfl, id, he.rf.run r1 H1 h1 s σ _ hR1 (sR.mono s1) (p1.seq fun y h2 r2 H2 w s2 hR2 v2 p2 => ?_)⟩
    refine hf.rf.run r2 H2 h2 s σ _ hR2 ((sR.mono s1).mono s2) (p2.seq fun z h3 r3 H3 u s3 hR3 v3 p3 => ?_)
    obtain ⟨a', oo, ea, g, q⟩ := dGet_of ok hR3 ((v1.mono s2).mono s3) (v2.mono s3) v3 p3
    cases ea
    exact ⟨oo, g, q⟩
  · exact False.elim p1
theorem me_pop1 (ok : G.Ok) (ho : ME G E X o td mo) (he : ME G E X e ty my) (m : M1 X o "pop" apos e cpos := by exact ⟨rfl, rfl, rfl, rfl⟩) : ME G E X (.Call (.Attribute o "pop" apos) [e] [] cpos) (tDPop1 td ty) (mPop1 mo my) := by
  refine ⟨pe_dpop1 ho.pe he.pe m, ⟨fun r H h s σ Q hR sR p => ho.rf.run r H h s σ _ hR sR (p.seq fun x h1 r1 H1 v s1 hR1 v1 p1 => ?_)⟩⟩
  split at p1
  · rename_i hd
    obtain ⟨a, rfl, id⟩ := isD_of hR1 v1 hd
    refine ⟨a, rfl, id, he.rf.run r1 H1 h1 s σ _ hR1 (sR.mono s1) (p1.seq fun y h2 r2 H2 w s2 hR2 v2 p2 => ?_)⟩
    have vo := v1.mono s2
    unfold dPop1 at p2
    split at p2
    · cases vo with
      | ref ea =>
        split at p2
        · rename_i d eo
          split at p2
          · rename_i hk
            cases hR2.ob _ _ _ eo ea with
            | dct hl hv =>
              obtain ⟨q, kq, rfl⟩ := KR.of v2 hk
              rcases hv.look ok kq with ⟨e1, e2⟩ | ⟨x', v', e1, e2, v3⟩
              · rw [e1] at p2; exact False.elim p2
              · rw [e1] at p2
                exact ⟨_, q, v', hl, rfl, e2, set_dct hR2 eo ea hl (hv.drop ok kq) v3 p2⟩
          · exact False.elim p2
        · exact False.elim p2
    · exact False.elim p2
  · exact False.elim p1
theorem me_pop2 (ok : G.Ok) (ho : ME G E X o td mo) (he : ME G E X e ty my) (hf : ME G E X f tx mz) (m : M2 X o "pop" apos e f cpos := by exact ⟨rfl, rfl, rfl, rfl⟩) : ME G E X (.Call (.Attribute o "pop" apos) [e, f] [] cpos) (tDPop2 td ty tx) (mPop2 mo my mz) := by
  refine ⟨pe_dpop2 ho.pe he.pe hf.pe m, ⟨fun r H h s σ Q hR sR p => ho.rf.run r H h s σ _ hR sR (p.seq fun x h1 r1 H1 v s1 hR1 v1 p1 => ?_)⟩⟩
  split at p1
  · rename_i hd
    obtain ⟨a, rfl, id⟩ := isD_of hR1 v1 hd
    refine ⟨a, rfl, id, he.rf.run r1 H1 h1 s σ _ hR1 (sR.mono s1) (p1.seq fun y h2 r2 H2 w s2 hR2 v2 p2 => ?_)⟩
    refine hf.rf.run r2 H2 h2 s σ _ hR2 ((sR.mono s1).mono s2) (p2.seq fun z h3 r3 H3 u s3 hR3 v3 p3 => ?_)
    have vo := (v1.mono s2).mono s3
    have vy := v2.mono s3
    unfold dPop2 at p3
    split at p3
    · cases vo with
      | ref ea =>
        split at p3
        · rename_i d eo
          split at p3
          · rename_i hk
            cases hR3.ob _ _ _ eo ea with
            | dct hl hv =>
              obtain ⟨q, kq, rfl⟩ := KR.of vy hk
              rcases hv.look ok kq with ⟨e1, e2⟩ | ⟨x', v', e1, e2, v4⟩
              · rw [e1] at p3
                exact ⟨_, q, hl, rfl, (fun v' e' => by rw [e2] at e'; cases e'), (fun _ => p3.here hR3 v3)⟩
              · rw [e1] at p3
                exact ⟨_, q, hl, rfl, (fun v'' e' => by rw [e2] at e'; cases e'; exact set_dct hR3 eo ea hl (hv.drop ok kq) v4 p3), (fun e' => by rw [e2] at e'; cases e')⟩
          · exact False.elim p3
        · exact False.elim p3
    · exact False.elim p3
  · exact False.elim p1
end

/-! ### keys that are tuples, written where they are used -/
def mDctT (_ : En) (h : Heap) : Res Val := .ok (.ref h.length) (h ++ [.dcT []])
theorem me_dictT {pos : Pos} : ME G E X (.Dict [] [] pos) tDNewT mDctT := by
  refine ⟨pe_dnewT, ⟨fun r H h s σ Q hR sR p q hq => ?_⟩⟩
  refine p (r ++ [q]) _ _ (Stp.new hq) (hR.push hq (.dcT upd_same .nil)) (.ref ?_)
  rw [← hR.len]
  simp
def keysOk (ks : List Val) : Bool := ks.all isKey && decide (ks.length ≤ 1000)
def tLook (o : Val) (ks : List Val) (h : Heap) : Option (Option Val) := match o with
  | .ref a => match h[a]? with
    | some (.dcT d) => if keysOk ks = true then some (lookV d (.tup ks)) else none
    | _ => none
  | _ => none
def tIx (o : Val) (ks : List Val) (h : Heap) : Res Val := match tLook o ks h with
  | some (some v) => .ok v h
  | _ => .stuck
def tIn (neg : Bool) (ks : List Val) (o : Val) (h : Heap) : Res Val := match tLook o ks h with
  | some v => .ok (.bl (if neg then !v.isSome else v.isSome)) h
  | none => .stuck
def tGet (o : Val) (ks : List Val) (z : Val) (h : Heap) : Res Val := match tLook o ks h with
  | some v => .ok (v.getD z) h
  | none => .stuck
def tDrop (o : Val) (ks : List Val) (h : Heap) : Heap := match o with
  | .ref a => match h[a]? with
    | some (.dcT d) => h.set a (.dcT (dropV d (.tup ks)))
    | _ => h
  | _ => h
def tPop1 (o : Val) (ks : List Val) (h : Heap) : Res Val := match tLook o ks h with
  | some (some v) => .ok v (tDrop o ks h)
  | _ => .stuck
def tPop2 (o : Val) (ks : List Val) (z : Val) (h : Heap) : Res Val := match tLook o ks h with
  | some (some v) => .ok v (tDrop o ks h)
  | some none => .ok z h
  | none => .stuck
def tSet (o : Val) (ks : List Val) (v : Val) (h : Heap) : Res Unit := match o with
  | .ref a => match h[a]? with
    | some (.dcT d) => if keysOk ks = true ∧ d.length < lim then .ok () (h.set a (.dcT (putV d (.tup ks) v))) else .stuck
    | _ => .stuck
  | _ => .stuck
def mIxT (mo : En → Heap → Res Val) (mk : En → Heap → Res (List Val)) (s : En) (h : Heap) : Res Val := (mo s h).bind fun o h1 => (mk s h1).bind fun ks h2 => tIx o ks h2
def mInT (neg : Bool) (mk : En → Heap → Res (List Val)) (mo : En → Heap → Res Val) (s : En) (h : Heap) : Res Val := (mk s h).bind fun ks h1 => if ks.length ≤ 1000 then (mo s h1).bind fun o h2 => tIn neg ks o h2 else .stuck
def mGetT1 (mo : En → Heap → Res Val) (mk : En → Heap → Res (List Val)) (s : En) (h : Heap) : Res Val := (mo s h).bind fun o h1 => if isD o h1 = true then (mk s h1).bind fun ks h2 => tGet o ks .non h2 else .stuck
def mGetT2 (mo : En → Heap → Res Val) (mk : En → Heap → Res (List Val)) (mz : En → Heap → Res Val) (s : En) (h : Heap) : Res Val := (mo s h).bind fun o h1 => if isD o h1 = true then (mk s h1).bind fun ks h2 => if ks.length ≤ 1000 then (mz s h2).bind fun z h3 => tGet o ks z h3 else .stuck else .stuck
def mPopT1 (mo : En → Heap → Res Val) (mk : En → Heap → Res (List Val)) (s : En) (h : Heap) : Res Val := (mo s h).bind fun o h1 => if isD o h1 = true then (mk s h1).bind fun ks h2 => tPop1 o ks h2 else .stuck
def mPopT2 (mo : En → Heap → Res Val) (mk : En → Heap → Res (List Val)) (mz : En → Heap → Res Val) (s : En) (h : Heap) : Res Val := (mo s h).bind fun o h1 => if isD o h1 = true then (mk s h1).bind fun ks h2 => if ks.length ≤ 1000 then (mz s h2).bind fun z h3 => tPop2 o ks z h3 else .stuck else .stuck
def sSubT (mo : En → Heap → Res Val) (mk : En → Heap → Res (List Val)) (me : En → Heap → Res Val) (s : En) (h : Heap) : RS := (me s h).thenS fun v h1 => (mo s h1).thenS fun o h2 => (mk s h2).thenS fun ks h3 => (tSet o ks v h3).thenS fun _ h4 => .nx s h4

/-- the tuple is laid -/
theorem lay_tup (hR : HR G r H h) {xs : List Val} {vs : List V} {p : Addr} (hp : H p = none) : HR G r (upd H p (.tup vs)) h ∧ Stp G.K r H r (upd H p (.tup vs)) := ⟨hR.lay hp, Stp.new0 hp⟩
theorem tLook_of (ok : G.Ok) (hR : HR G r H h) {o : Val} {ks : List Val} {v : V} {vs : List V} {z : Option Val} (vo : VR G r H o v) (vk : VRs G r H ks vs) (e : tLook o ks h = some z) {p : Addr} (hp : H p = some (.tup vs)) :
    ∃ n a d e qs, o = .ref n ∧ h[n]? = some (.dcT d) ∧ r[n]? = some a ∧ v = .ref a ∧ H a = some (.dT e) ∧ DTR G r H d e ∧ KRs G ks qs ∧ vs = qs.map kV ∧ DGet H a (.ref p) (valV e qs) ∧
      ((z = none ∧ lookV d (.tup ks) = none ∧ valV e qs = none) ∨ ∃ x w, z = some x ∧ lookV d (.tup ks) = some x ∧ valV e qs = some w ∧ VR G r H x w) := by
  unfold tLook at e
  split at e
  · cases vo with
    | ref ea =>
      split at e
      · rename_i d eo
        split at e
        · rename_i hk
          cases e
          simp only [keysOk, Bool.and_eq_true] at hk
          cases hR.ob _ _ _ eo ea with
          | dcT hl hv =>
            obtain ⟨qs, kq, rfl⟩ := KRs.of vk hk.1
            refine ⟨_, _, _, _, qs, rfl, eo, ea, rfl, hl, hv, kq, rfl, DGet.t hl hp, ?_⟩
            rcases hv.look ok kq with ⟨e1, e2⟩ | ⟨x', v', e1, e2, v2⟩
            · exact .inl ⟨e1, e1, e2⟩
            · exact .inr ⟨x', v', e1, e1, e2, v2⟩
        · cases e
      · cases e
  · cases e
theorem tLook_len {o : Val} {ks : List Val} {z : Option Val} (e : tLook o ks h = some z) : ks.length ≤ 1000 := by
  unfold tLook at e
  split at e
  · split at e
    · split at e
      · rename_i hk
        simp only [keysOk, Bool.and_eq_true, decide_eq_true_eq] at hk
        exact hk.2
      · cases e
    · cases e
  · cases e
theorem len1000 {n : Nat} (h : n ≤ 1000) : n ≤ sizeLine := le_line (Nat.le_trans h (by decide))
section
variable {o e f a b : Expr} {es : List Expr} {td ty tx : TE} {tA : TA} {mo my mz me : En → Heap → Res Val} {mk : En → Heap → Res (List Val)} {apos cpos pos pos' kpos : Pos} {kc : Nat}
theorem me_ixT (ok : G.Ok) (C : XC G E X k) {x1} (ho : ME G E X o td mo) (hk : MA G E X es tA mk) (hs : NoSl (.Tuple es x1 kpos) := by exact fun _ _ => rfl) : ME G E X (.Subscript o (.Tuple es x1 kpos) pos) (tDGet td (tTup tA)) (mIxT mo mk) := by
  refine ⟨pe_dget (by have := C.hu; omega) ho.pe (pe_tup hk.pe) hs, ⟨fun r H h s σ Q hR sR p => ho.rf.run r H h s σ _ hR sR (p.seq fun x h1 r1 H1 v s1 hR1 v1 p1 => ?_)⟩⟩
  refine hk.rf.run r1 H1 h1 s σ _ hR1 (sR.mono s1) (p1.seq fun ks h2 r2 H2 vs s2 hR2 v2 p2 => ?_)
  unfold tIx at p2
  split at p2
  · rename_i w ew
    refine ⟨len1000 (by rw [← v2.len]; exact tLook_len ew), fun q hq => ?_⟩
    have st := (lay_tup (xs := ks) (vs := vs) hR2 hq).2
    have hR3 := (lay_tup (xs := ks) (vs := vs) hR2 hq).1
    obtain ⟨n, ad, d, e', qs, rfl, eo, ea, rfl, hl, hv, kq, rfl, g, q'⟩ := tLook_of ok hR3 ((v1.mono s2).mono st) (v2.mono st) ew upd_same
    rcases q' with ⟨e1, _⟩ | ⟨x', w', e1, _, e3, v3⟩
    · cases e1
    · cases e1
      rw [e3] at g
      exact ⟨ad, w', rfl, g, (p2.shift st).here hR3 v3⟩
  · exact False.elim p2
theorem mc_inT (ok : G.Ok) (C : XC G E X k) {x1} (hk : MA G E X es tA mk) (ho : ME G E X o td mo) : MC G E X .In (.Tuple es x1 kpos) o (tDIn (tTup tA) td) (mInT false mk mo) := by
  refine ⟨pc_din (by have := C.hu; omega) (pe_tup hk.pe) ho.pe, ⟨fun r H h s σ Q hR sR p => hk.rf.run r H h s σ _ hR sR (p.seq fun ks h1 r1 H1 vs s1 hR1 v1 p1 => ?_)⟩⟩
  split at p1
  · rename_i hlen
    refine ⟨len1000 (by rw [← v1.len]; exact hlen), fun q hq => ?_⟩
    have st := (lay_tup (xs := ks) (vs := vs) hR1 hq).2
    have hR1' := (lay_tup (xs := ks) (vs := vs) hR1 hq).1
    refine ho.rf.run r1 _ h1 s σ _ hR1' ((sR.mono s1).mono st) ((p1.shift st).seq fun x h2 r2 H2 v s2 hR2 v2 p2 => ?_)
    have tq : H2 q = some (.tup vs) := s2.tpl _ _ upd_same
    unfold tIn at p2
    split at p2
    · rename_i w ew
      obtain ⟨n, ad, d, e', qs, rfl, eo, ea, rfl, hl, hv, kq, rfl, g, q'⟩ := tLook_of ok hR2 v2 ((v1.mono st).mono s2) ew tq
      refine ⟨ad, _, rfl, g, ?_⟩
      rcases q' with ⟨rfl, _, e3⟩ | ⟨x', w', rfl, _, e3, v3⟩
      · rw [e3]; exact p2.here hR2 (.bl _)
      · rw [e3]; exact p2.here hR2 (.bl _)
    · exact False.elim p2
  · exact False.elim p1
theorem mc_notinT (ok : G.Ok) (C : XC G E X k) {x1} (hk : MA G E X es tA mk) (ho : ME G E X o td mo) : MC G E X .NotIn (.Tuple es x1 kpos) o (tDNotIn (tTup tA) td) (mInT true mk mo) := by
  refine ⟨pc_dnotin (by have := C.hu; omega) (pe_tup hk.pe) ho.pe, ⟨fun r H h s σ Q hR sR p => hk.rf.run r H h s σ _ hR sR (p.seq fun ks h1 r1 H1 vs s1 hR1 v1 p1 => ?_)⟩⟩
  split at p1
  · rename_i hlen
    refine ⟨len1000 (by rw [← v1.len]; exact hlen), fun q hq => ?_⟩
    have st := (lay_tup (xs := ks) (vs := vs) hR1 hq).2
    have hR1' := (lay_tup (xs := ks) (vs := vs) hR1 hq).1
    refine ho.rf.run r1 _ h1 s σ _ hR1' ((sR.mono s1).mono st) ((p1.shift st).seq fun x h2 r2 H2 v s2 hR2 v2 p2 => ?_)
    have tq : H2 q = some (.tup vs) := s2.tpl _ _ upd_same
    unfold tIn at p2
    split at p2
    · rename_i w ew
      obtain ⟨n, ad, d, e', qs, rfl, eo, ea, rfl, hl, hv, kq, rfl, g, q'⟩ := tLook_of ok hR2 v2 ((v1.mono st).mono s2) ew tq
      refine ⟨ad, _, rfl, g, ?_⟩
      rcases q' with ⟨rfl, _, e3⟩ | ⟨x', w', rfl, _, e3, v3⟩
      · rw [e3]; exact p2.here hR2 (.bl _)
      · rw [e3]; exact p2.here hR2 (.bl _)
    · exact False.elim p2
  · exact False.elim p1
theorem me_getT1 (ok : G.Ok) (C : XC G E X k) {x1} (ho : ME G E X o td mo) (hk : MA G E X es tA mk) (m : M1 X o "get" apos (.Tuple es x1 kpos) cpos := by exact ⟨rfl, rfl, rfl, rfl⟩) :
    ME G E X (.Call (.Attribute o "get" apos) [.Tuple es x1 kpos] [] cpos) (tDGet1 td (tTup tA)) (mGetT1 mo mk) := by
  refine ⟨pe_dget1 (by have := C.hu; omega) ho.pe (pe_tup hk.pe) m, ⟨fun r H h s σ Q hR sR p => ho.rf.run r H h s σ _ hR sR (p.seq fun x h1 r1 H1 v s1 hR1 v1 p1 => ?_)⟩⟩
  split at p1
  · rename_i hd
    obtain ⟨a, rfl, id⟩ := isD_of hR1 v1 hd
    refine ⟨a, rfl, id, hk.rf.run r1 H1 h1 s σ _ hR1 (sR.mono s1) (p1.seq fun ks h2 r2 H2 vs s2 hR2 v2 p2 => ?_)⟩
    unfold tGet at p2
    split at p2
    · rename_i w ew
      refine ⟨len1000 (by rw [← v2.len]; exact tLook_len ew), fun q hq => ?_⟩
      have st := (lay_tup (xs := ks) (vs := vs) hR2 hq).2
      have hR3 := (lay_tup (xs := ks) (vs := vs) hR2 hq).1
      obtain ⟨n, ad, d, e', qs, rfl, eo, ea, e0, hl, hv, kq, rfl, g, q'⟩ := tLook_of ok hR3 ((v1.mono s2).mono st) (v2.mono st) ew upd_same
      cases e0
      rcases q' with ⟨rfl, _, e3⟩ | ⟨x', w', rfl, _, e3, v3⟩
      · rw [e3] at g
        exact ⟨_, g, (p2.shift st).here hR3 .non⟩
      · rw [e3] at g
        exact ⟨_, g, (p2.shift st).here hR3 v3⟩
    · exact False.elim p2
  · exact False.elim p1
theorem me_getT2 (ok : G.Ok) (C : XC G E X k) {x1} (ho : ME G E X o td mo) (hk : MA G E X es tA mk) (hf : ME G E X f tx mz) (m : M2 X o "get" apos (.Tuple es x1 kpos) f cpos := by exact ⟨rfl, rfl, rfl, rfl⟩) :
    ME G E X (.Call (.Attribute o "get" apos) [.Tuple es x1 kpos, f] [] cpos) (tDGet2 td (tTup tA) tx) (mGetT2 mo mk mz) := by
  refine ⟨pe_dget2 (by have := C.hu; omega) ho.pe (pe_tup hk.pe) hf.pe m, ⟨fun r H h s σ Q hR sR p => ho.rf.run r H h s σ _ hR sR (p.seq fun x h1 r1 H1 v s1 hR1 v1 p1 => ?_)⟩⟩
  split at p1
  · rename_i hd
    obtain ⟨a, rfl, id⟩ := isD_of hR1 v1 hd
    refine ⟨a, rfl, id, hk.rf.run r1 H1 h1 s σ _ hR1 (sR.mono s1) (p1.seq fun ks h2 r2 H2 vs s2 hR2 v2 p2 => ?_)⟩
    split at p2
    · rename_i hlen
      refine ⟨len1000 (by rw [← v2.len]; exact hlen), fun q hq => ?_⟩
      have st := (lay_tup (xs := ks) (vs := vs) hR2 hq).2
      have hR2' := (lay_tup (xs := ks) (vs := vs) hR2 hq).1
      refine hf.rf.run r2 _ h2 s σ _ hR2' (((sR.mono s1).mono s2).mono st) ((p2.shift st).seq fun z h3 r3 H3 u s3 hR3 v3 p3 => ?_)
      have tq : H3 q = some (.tup vs) := s3.tpl _ _ upd_same
      unfold tGet at p3
      split at p3
      · rename_i w ew
        obtain ⟨n, ad, d, e', qs, rfl, eo, ea, e0, hl, hv, kq, rfl, g, q'⟩ := tLook_of ok hR3 (((v1.mono s2).mono st).mono s3) ((v2.mono st).mono s3) ew tq
        cases e0
        rcases q' with ⟨rfl, _, e3⟩ | ⟨x', w', rfl, _, e3, v4⟩
        · rw [e3] at g
          exact ⟨_, g, p3.here hR3 v3⟩
        · rw [e3] at g
          exact ⟨_, g, p3.here hR3 v4⟩
      · exact False.elim p3
    · exact False.elim p2
  · exact False.elim p1
theorem ms_subT (ok : G.Ok) (C : XC G E X k) {x1} (ho : ME G E X o td mo) (hk : MA G E X es tA mk) (hv : ME G E X e tx me) (hs : swapsWith e (some (.Subscript o (.Tuple es x1 kpos) pos')) pos.line X.env = pure false := by rfl) :
    MS G E X (.Assign [.Subscript o (.Tuple es x1 kpos) pos'] e pos) (sDPut td (tTup tA) tx) (sSubT mo mk me) := by
  refine ⟨ps_dput (by have := C.hu; omega) ho.pe (pe_tup hk.pe) hv.pe hs, ⟨fun r H h s σ D hR sR p => ?_⟩⟩
  refine hv.rf.run r H h s σ _ hR sR (p.seqS fun v h1 r1 H1 vv s1 hR1 v1 p1 => ?_)
  refine ho.rf.run r1 H1 h1 s σ _ hR1 (sR.mono s1) (p1.seqS fun x h2 r2 H2 vo s2 hR2 v2 p2 => ?_)
  refine hk.rf.run r2 H2 h2 s σ _ hR2 ((sR.mono s1).mono s2) (p2.seqS fun ks h3 r3 H3 vs s3 hR3 v3 p3 => ?_)
  unfold tSet at p3
  split at p3
  · rename_i n
    split at p3
    · rename_i d eo
      split at p3
      · rename_i hc
        have hk' := hc.1
        simp only [keysOk, Bool.and_eq_true, decide_eq_true_eq] at hk'
        refine ⟨len1000 (by rw [← v3.len]; exact hk'.2), fun q hq => ?_⟩
        have st := (lay_tup (xs := ks) (vs := vs) hR3 hq).2
        have hR4 := (lay_tup (xs := ks) (vs := vs) hR3 hq).1
        have vo' := (v2.mono s3).mono st
        have vv' := ((v1.mono s2).mono s3).mono st
        cases vo' with
        | @ref _ ad ea =>
          cases hR4.ob _ _ _ eo ea with
          | @dcT _ e0 _ hl hdv =>
            obtain ⟨qs, kq, rfl⟩ := KRs.of (v3.mono st) hk'.1
            refine ⟨_, _, rfl, DPut.t hl upd_same (lt_line (by rw [← hdv.len]; exact hc.2)), ?_⟩
            have st2 : Stp G.K r3 (upd H3 q (.tup (qs.map kV))) r3 (upd (upd H3 q (.tup (qs.map kV))) ad (.dT (putK e0 qs vv))) := Stp.upd fun o e => by rw [hl] at e; cases e; trivial
            exact p3 _ _ _ (st.trans st2) (hR4.write eo rfl ea (fun o e => by rw [hl] at e; cases e; trivial) (.dcT upd_same ((hdv.put ok kq vv').mono st2)) rfl) (((((sR.mono s1).mono s2).mono s3).mono st).mono st2)
      · exact False.elim p3
    · exact False.elim p3
  · exact False.elim p3
/-- d.pop((..)), the key there -/
def rPopT1 : V → List V → Hp → VK → Prop := fun x xs H Q => ∃ (a : Addr) (kvs : List (List Key × V)) (ks : List Key) (b : Addr) (v : V), x = .ref a ∧ xs = [.ref b] ∧ H a = some (.dT kvs) ∧ H b = some (.tup (ks.map kV)) ∧ valV kvs ks = some v ∧ Q v (upd H a (.dT (dropK kvs ks)))
theorem mt_popT1 (hu : X.A.units + 1 < cLine) : MtR X "dict.pop" rPopT1 := by
  rintro pins s σ H x xs v us Q I rx rxs ⟨ad, kvs, ks, b, w, rfl, rfl, hA, hB, hw, wish⟩
  cases rx
  obtain ⟨ub, rfl, rb⟩ : ∃ ub, us = [ub] ∧ RelV (.ref b) ub := by
    cases rxs with
    | cons p q => cases q; exact ⟨_, rfl, p⟩
  cases rb
  obtain ⟨lz, lo, zs, rel, dd⟩ := dt_of I.hok hA
  have lz' : zs.length ≤ sizeLine := by rw [← Paired.length rel]; exact lz
  have rk := rel.val ks
  rw [hw] at rk
  obtain ⟨pz, ez, rz⟩ : ∃ pz, atKey zs ks = some pz ∧ RelV w pz.2 := by
    cases q : atKey zs ks with
    | none => rw [q] at rk; exact False.elim rk
    | some pz => rw [q] at rk; exact ⟨pz, rfl, rk⟩
  refine PySem.call_pop_heap (knd := tupleKind (mixKind X.prog X.w)) (.inl rfl) (PySem.F.args_dict_pop_2 _ _) (tupleKind_room_in1 hu) (key_of I.hok hB) lo dd ez (fun h' dd' sb => ?_) lz'
  obtain ⟨ob, es, ep, g1, g2, g3, g4, _, g5⟩ := dd'
  have J : Inv X pins σ (upd H ad (.dT (dropK kvs ks))) { s with heap := h', toks := s.toks + (tupleKind (mixKind X.prog X.w)).draws ks } :=
    d_write I (by rw [hA]; exact True.intro) sb ⟨ob, g1⟩ ⟨Nat.le_trans (dropK_le kvs ks) lz, lo, _, (KT_drop ks rel).keeps (fun c ys ec => (by rw [upd_ne (ne_of ec hA (fun z => nomatch z))]; exact ec)), ob, es, ep, g1, g2, g3, g4, g5⟩
  exact ⟨w, _, J, rz, wish⟩
theorem tyD_of (hR : HR G r H h) {x : Val} {v : V} (q : VR G r H x v) (e : isD x h = true) : tyV G.K "dict" v H := by
  cases q with
  | ref ea =>
    simp only [isD] at e
    split at e
    · rename_i d eo
      cases hR.ob _ _ _ eo ea with
      | dct hl hv => exact .inr (.inr (.inl ⟨rfl, .inl ⟨_, hl⟩⟩))
    · rename_i d eo
      cases hR.ob _ _ _ eo ea with
      | dcT hl hv => exact .inr (.inr (.inl ⟨rfl, .inr ⟨_, hl⟩⟩))
    · cases e
  | _ => simp [isD] at e
theorem me_popT1 (ok : G.Ok) (C : XC G E X k) {x1} (ho : ME G E X o td mo) (hk : MA G E X es tA mk) (hbase : attributeBase o "pop" X.env (eval o X.env) = eval o X.env := by rfl)
    (hfew : ((backTo cpos (starEach [.Tuple es x1 kpos] X.env)).all (fun x => !x.1) && (backToKw cpos (keywordEach [] X.env)).all (fun x => x.1.isSome)
      && decide (([.Tuple es x1 kpos] : List Expr).length + ([] : List Keyword).length + (if ([] : List Keyword).isEmpty then 0 else 1) < 30)) = true := by rfl)
    (hline : (apos.endLine == cpos.line) = true := by rfl) (hs : starEach [.Tuple es x1 kpos] X.env = (false, eval (.Tuple es x1 kpos) X.env) :: starEach [] X.env := by rfl) (hplain : (backTo cpos (starEach [] X.env)).any (·.1) = false := by rfl) :
    ME G E X (.Call (.Attribute o "pop" apos) [.Tuple es x1 kpos] [] cpos) (tBM X.K "dict" rPopT1 td (tCons (tTup tA) tNil)) (mPopT1 mo mk) := by
  refine ⟨pe_bm PySem.F.plainAttrs_dict PySem.F.slot_dict_pop PySem.F.type_dict_pop (mt_popT1 (by have := C.hu; omega)) ho.pe (pa_cons (pe_tup hk.pe) pa_nil hs) hbase hfew hline hs hplain, ⟨fun r H h s σ Q hR sR p => ho.rf.run r H h s σ _ hR sR (p.seq fun x h1 r1 H1 v s1 hR1 v1 p1 => ?_)⟩⟩
  split at p1
  · rename_i hd
    refine ⟨by rw [C.K]; exact tyD_of hR1 v1 hd, hk.rf.run r1 H1 h1 s σ _ hR1 (sR.mono s1) (p1.seq fun ks h2 r2 H2 vs s2 hR2 v2 p2 => ?_)⟩
    unfold tPop1 at p2
    split at p2
    · rename_i w ew
      refine ⟨len1000 (by rw [← v2.len]; exact tLook_len ew), fun q hq => ?_⟩
      have st := (lay_tup (xs := ks) (vs := vs) hR2 hq).2
      have hR3 := (lay_tup (xs := ks) (vs := vs) hR2 hq).1
      obtain ⟨n, ad, d, e', qs, rfl, eo, ea, rfl, hl, hv, kq, rfl, g, q'⟩ := tLook_of ok hR3 ((v1.mono s2).mono st) (v2.mono st) ew upd_same
      rcases q' with ⟨e1, _⟩ | ⟨x', w', e1, _, e3, v3⟩
      · cases e1
      · cases e1
        refine ⟨ad, e', qs, q, w', rfl, rfl, hl, upd_same, e3, ?_⟩
        have p3 := p2.shift st
        simp only [tDrop, eo] at p3
        exact set_dcT hR3 eo ea hl (hv.drop ok kq) v3 p3
    · exact False.elim p2
  · exact False.elim p1
theorem me_popT2 (ok : G.Ok) (C : XC G E X k) {x1} (ho : ME G E X o td mo) (hk : MA G E X es tA mk) (hf : ME G E X f tx mz) (hbase : attributeBase o "pop" X.env (eval o X.env) = eval o X.env := by rfl)
    (hfew : ((backTo cpos (starEach [.Tuple es x1 kpos, f] X.env)).all (fun x => !x.1) && (backToKw cpos (keywordEach [] X.env)).all (fun x => x.1.isSome)
      && decide (([.Tuple es x1 kpos, f] : List Expr).length + ([] : List Keyword).length + (if ([] : List Keyword).isEmpty then 0 else 1) < 30)) = true := by rfl)
    (hline : (apos.endLine == cpos.line) = true := by rfl) (hs : starEach [.Tuple es x1 kpos, f] X.env = (false, eval (.Tuple es x1 kpos) X.env) :: starEach [f] X.env := by rfl) (hs2 : starEach [f] X.env = (false, eval f X.env) :: starEach [] X.env := by rfl) (hplain : (backTo cpos (starEach [f] X.env)).any (·.1) = false := by rfl) :
    ME G E X (.Call (.Attribute o "pop" apos) [.Tuple es x1 kpos, f] [] cpos) (tBM X.K "dict" rPopT td (tCons (tTup tA) (tCons tx tNil))) (mPopT2 mo mk mz) := by
  refine ⟨pe_bm PySem.F.plainAttrs_dict PySem.F.slot_dict_pop PySem.F.type_dict_pop (mt_popT (by have := C.hu; omega)) ho.pe (pa_cons (pe_tup hk.pe) (pa_cons hf.pe pa_nil hs2) hs) hbase hfew hline hs hplain, ⟨fun r H h s σ Q hR sR p => ho.rf.run r H h s σ _ hR sR (p.seq fun x h1 r1 H1 v s1 hR1 v1 p1 => ?_)⟩⟩
  split at p1
  · rename_i hd
    refine ⟨by rw [C.K]; exact tyD_of hR1 v1 hd, hk.rf.run r1 H1 h1 s σ _ hR1 (sR.mono s1) (p1.seq fun ks h2 r2 H2 vs s2 hR2 v2 p2 => ?_)⟩
    split at p2
    · rename_i hlen
      refine ⟨len1000 (by rw [← v2.len]; exact hlen), fun q hq => ?_⟩
      have st := (lay_tup (xs := ks) (vs := vs) hR2 hq).2
      have hR2' := (lay_tup (xs := ks) (vs := vs) hR2 hq).1
      refine hf.rf.run r2 _ h2 s σ _ hR2' (((sR.mono s1).mono s2).mono st) ((p2.shift st).seq fun z h3 r3 H3 u s3 hR3 v3 p3 => ?_)
      have tq : H3 q = some (.tup vs) := s3.tpl _ _ upd_same
      unfold tPop2 at p3
      split at p3
      · rename_i w ew
        obtain ⟨n, ad, d, e', qs, rfl, eo, ea, rfl, hl, hv, kq, rfl, g, q'⟩ := tLook_of ok hR3 (((v1.mono s2).mono st).mono s3) ((v2.mono st).mono s3) ew tq
        rcases q' with ⟨e1, _⟩ | ⟨x', w', e1, _, e3, v4⟩
        · cases e1
        · cases e1
          refine ⟨ad, e', qs, q, u, rfl, rfl, hl, tq, (fun v'' e'' => ?_), (fun e'' => by rw [e3] at e''; cases e'')⟩
          rw [e3] at e''
          cases e''
          simp only [tDrop, eo] at p3
          exact set_dcT hR3 eo ea hl (hv.drop ok kq) v4 p3
      · rename_i ew
        obtain ⟨n, ad, d, e', qs, rfl, eo, ea, rfl, hl, hv, kq, rfl, g, q'⟩ := tLook_of ok hR3 (((v1.mono s2).mono st).mono s3) ((v2.mono st).mono s3) ew tq
        rcases q' with ⟨_, _, e3⟩ | ⟨x', w', e1, _, e3, v4⟩
        · exact ⟨ad, e', qs, q, u, rfl, rfl, hl, tq, (fun v'' e'' => by rw [e3] at e''; cases e''), (fun _ => p3.here hR3 v3)⟩
        · cases e1
      · exact False.elim p3
    · exact False.elim p2
  · exact False.elim p1
end

/-! ### list.remove of ints -/
def fixI (i : Int) : List Int → Option Nat
  | [] => none
  | z :: zs => if z = i then some 0 else (fixI i zs).map (· + 1)
theorem fixI_ok {i : Int} : ∀ {zs : List Int} {j : Nat}, fixI i zs = some j → zs[j]? = some i ∧ ∀ m : Nat, m < j → zs[m]? ≠ some i
  | [], j, e => by cases e
  | z :: zs, j, e => by
    rw [fixI] at e
    split at e
    · rename_i c
      cases e
      subst c
      exact ⟨rfl, fun m hm => by omega⟩
    · rename_i c
      obtain ⟨j', e', rfl⟩ := Option.map_eq_some_iff.mp e
      obtain ⟨h1, h2⟩ := fixI_ok e'
      refine ⟨by simpa using h1, fun m hm => ?_⟩
      cases m with
      | zero => simpa using c
      | succ m => simpa using h2 m (by omega)
def bRemove (x : Val) (xs : List Val) (h : Heap) : Res Val := match x, xs with
  | .ref a, [.int i] => match h[a]? with
    | some (.lst ys) => match optAll asInt ys with
      | some zs => match fixI i zs with
        | some j => .ok .non (h.set a (.lst (ys.eraseIdx j)))
        | none => .stuck
      | none => .stuck
    | _ => .stuck
  | _, _ => .stuck
theorem rm_remove : RfM G E rRemI bRemove := by
  refine ⟨fun r H h x v xs vs Q hR vx vv p => ?_⟩
  unfold bRemove at p
  split at p
  · cases vx with
    | ref ea => cases vv with
      | cons q1 q2 =>
        cases q2
        cases q1
        split at p
        · rename_i ys eo
          split at p
          · rename_i zs ez
            split at p
            · rename_i j ej
              cases hR.ob _ _ _ eo ea with
              | lst hl hv =>
                have ev := all_int hv ez
                subst ev
                obtain ⟨h1, h2⟩ := fixI_ok ej
                refine ⟨_, zs, _, j, rfl, rfl, hl, h1, h2, ?_⟩
                have hv' := hv.eraseIdx j
                rw [erase_mapI] at hv'
                exact set_lst hR eo ea hl hv' .non p
            · exact False.elim p
          · exact False.elim p
        · exact False.elim p
  · exact False.elim p
end PyM

set_option Elab.async false
set_option linter.all false
set_option maxRecDepth 100000
set_option autoImplicit false
/-! code that is never reached; loops over dicts -/
namespace PyM
open PySem L2
section
variable {G : Cfg} {E : XK} {X : Cx} {e : Expr} {es : List Expr} {st : Stmt} {sts : List Stmt}
def mDead (_ : En) (_ : Heap) : Res Val := .stuck
def aDead (_ : En) (_ : Heap) : Res (List Val) := .stuck
def tDead (_ : En) (_ : Heap) : Res Bool := .stuck
def sDead (_ : En) (_ : Heap) : RS := .stuck
theorem me_dead : ME G E X e (fun _ _ _ => False) mDead := ⟨⟨fun _ _ _ _ _ _ q => q.elim⟩, ⟨fun _ _ _ _ _ _ _ _ p => p⟩⟩
theorem ma_dead : MA G E X es (fun _ _ _ => False) aDead := ⟨⟨fun _ _ _ _ _ _ _ q => q.elim⟩, ⟨fun _ _ _ _ _ _ _ _ p => p⟩⟩
theorem mt_dead : MT G E X e (fun _ _ _ => False) tDead := ⟨⟨fun _ _ _ _ _ _ q => q.elim⟩, ⟨fun _ _ _ _ _ _ _ _ p => p⟩⟩
theorem ms_dead : MS G E X st (fun _ _ _ => False) sDead := ⟨⟨fun _ _ _ _ _ _ q => q.elim⟩, ⟨fun _ _ _ _ _ _ _ _ p => p⟩⟩
end

/-! ### for k in d -/
section
variable {X : Cx} {tg e : Expr} {td : TE}
/-- the dict is locked behind the reckoning of it -/
def iKeysL (X : Cx) (td : TE) : TI := fun σ H R => td σ H fun x H1 => ∃ d, x = .ref d ∧
  ((∃ kvs, H1 d = some (.dK kvs) ∧ ∀ od, (∀ o' u', X.H_0 d ≠ some (.frz o' u')) → R (Itk d od kvs) (upd H1 d (.frz od (.dK kvs)))) ∨
   (∃ kvs, H1 d = some (.dT kvs) ∧ ∀ od, (∀ o' u', X.H_0 d ≠ some (.frz o' u')) → R (Itkt d od kvs) (upd H1 d (.frz od (.dT kvs)))))
theorem pi_keysL (he : PE X e td) : PI X tg e (iKeysL X td) := by
  refine ⟨fun pins s σ H R I h => ?_⟩
  refine thn (he.run pins s σ H _ I h) fun u s1 ⟨x, H1, I1, rx, d, ex, q⟩ => ?_
  subst ex
  obtain rfl : u = Value.ref d := rx
  rcases q with ⟨kvs, hd, q⟩ | ⟨kvs, hd, q⟩
  · obtain ⟨od, I2⟩ := I1.lock hd trivial
    have nf := I1.nofrz hd trivial
    obtain ⟨hs, hgd, hx, es, ep, vs, hdt, hsz, kv, hm⟩ := I2.frzK upd_same
    refine iter_keys hs hgd hx hdt (pi_one (tk := s1.toks) I2 _ (turn_keys _ hdt) ⟨_, Heap.get?_push_size _ rfl, rfl, ?_⟩ (q od nf))
    rw [hsz] <;> rfl
  · obtain ⟨od, I2⟩ := I1.lock hd trivial
    have nf := I1.nofrz hd trivial
    obtain ⟨hs, hgd, hx, es, ep, hdt, hsz, ent⟩ := I2.frzT upd_same
    refine iter_keys hs hgd hx hdt (pi_one (tk := s1.toks) I2 _ (turn_keysT _ hdt) ⟨_, Heap.get?_push_size _ rfl, rfl, ?_⟩ (q od nf))
    rw [hsz] <;> rfl
/-- what is wanted behind the unlocking -/
def unV (X : Cx) (Q : VK) : VK := fun v H' => ∃ d od u, H' d = some (.frz od u) ∧ (∀ o' u', X.H_0 d ≠ some (.frz o' u')) ∧ Q v (upd H' d u)
def unS (X : Cx) (Q : St → Hp → Prop) : St → Hp → Prop := fun σ H' => ∃ d od u, H' d = some (.frz od u) ∧ (∀ o' u', X.H_0 d ≠ some (.frz o' u')) ∧ Q σ (upd H' d u)
def unD (X : Cx) (D : Ends) : Ends := ⟨unS X D.nx, unV X D.rt, unS X D.bk, unS X D.ct⟩
theorem ps_unlock {st : Stmt} {t : TS} (h : PS X st t) : PS X st (fun D σ H => t (unD X D) σ H) := by
  refine ⟨fun pins s σ H D I hw => ?_⟩
  refine thn (h.run pins s σ H _ I hw) fun f s1 q => ?_
  cases f with
  | next => obtain ⟨σ', H', I2, d, od, u, e, n, q⟩ := q; exact ⟨σ', _, I2.unlock e n, q⟩
  | brk => obtain ⟨σ', H', I2, d, od, u, e, n, q⟩ := q; exact ⟨σ', _, I2.unlock e n, q⟩
  | cont => obtain ⟨σ', H', I2, d, od, u, e, n, q⟩ := q; exact ⟨σ', _, I2.unlock e n, q⟩
  | ret v => obtain ⟨x, σ', H', I2, r, d, od, u, e, n, q⟩ := q; exact ⟨x, σ', _, I2.unlock e n, r, q⟩
theorem pe_unlock {t : TE} (h : PE X e t) : PE X e (fun σ H Q => t σ H (unV X Q)) := by
  refine ⟨fun pins s σ H Q I hw => ?_⟩
  refine thn (h.run pins s σ H _ I hw) fun v s1 ⟨x, H1, I2, r, d, od, u, e2, n, q⟩ => ?_
  exact ⟨x, _, I2.unlock e2 n, r, q⟩
end
def unlH (n : Nat) (h : Heap) : Option Heap := match h[n]? with
  | some (.fdc d) => some (h.set n (.dct d))
  | some (.fdT d) => some (h.set n (.dcT d))
  | _ => none
def unlS (n : Nat) : RS → RS
  | .nx s h => match unlH n h with
    | some h' => .nx s h'
    | none => .stuck
  | .rt v h => match unlH n h with
    | some h' => .rt v h'
    | none => .stuck
  | _ => .stuck
/-- the keys, and the heap with the dict locked -/
def lockD (n : Nat) (h : Heap) : Option (List Val × Heap) := match h[n]? with
  | some (.dct d) => some (d.map (·.1), h.set n (.fdc d))
  | some (.dcT d) => some (d.map (·.1), h.set n (.fdT d))
  | _ => none
def sForD (me : En → Heap → Res Val) (tg : Val → En → Option En) (body : En → Heap → RS) (s : En) (h : Heap) : RS := (me s h).thenS fun x h1 => match x with
  | .ref n => match lockD n h1 with
    | some (ks, h2) => unlS n (forM_ (fun _ => true) tg body ks s h2)
    | none => .stuck
  | _ => .stuck
section
variable {G : Cfg} {E : XK} {X : Cx} {k : Nat} {e tg iter : Expr} {te td : TE} {me : En → Heap → Res Val} {pos : Pos} {g : TG} {mg : Val → En → Option En} {sts : List Stmt} {t : TS} {m : En → Heap → RS} {r : List Addr} {H : Hp} {h : Heap}
/-- a loop's reading behind its iterator -/
theorem for_core {S : Src} {J : It} {r1 : List Addr} {H1 : Hp} {h1 : Heap} {s : En} {σ : L2.St} {D : Ends} (hg : RfG G g mg) (hb : RfS G E t m) (hR1 : HR G r1 H1 h1) (sR : SR G r1 H1 s σ) (J1 : ItOk G r1 H1 J S) (p1 : PostS G r1 H1 E (forM_ S.chk mg m S.items s h1) D) :
    ∃ W : Nat → Nat → L2.St → Hp → Prop, (∃ m, W 0 m σ H1) ∧ ∀ i m σ H, W i m σ H →
  (J.stop i H ∧ D.nx σ H) ∨ (J.go i H ∧ ∃ N : L2.St → Hp → Prop, (∀ σ' H', N σ' H' → ∃ m', m' < m ∧ W (i + 1) m' σ' H') ∧ ∀ x H', J.yld i H x H' → g x σ H' fun σ2 H2 => t { D with nx := N, ct := N, bk := D.nx } σ2 H2) := by
  refine ⟨fun i mm σ' H' => ∃ r' h' s', Stp G.K r1 H1 r' H' ∧ HR G r' H' h' ∧ SR G r' H' s' σ' ∧ mm = S.items.length - i ∧ i ≤ S.items.length ∧ PostS G r' H' E (forM_ S.chk mg m (S.items.drop i) s' h') D, ⟨_, r1, h1, s, Stp.refl, hR1, sR, rfl, Nat.zero_le _, p1⟩, ?_⟩
  rintro i mm σ' H' ⟨r', h', s', st, hR', sR', rfl, hle, p'⟩
  cases hd : S.items.drop i with
  | nil =>
    have hi : i = S.items.length := by
      have := List.drop_eq_nil_iff.mp hd
      omega
    rw [hd] at p'
    unfold forM_ at p'
    split at p'
    · rename_i hc
      subst hi
      exact .inl ⟨J1.stop r' H' h' st hR' hc, p'.here hR' sR'⟩
    · exact False.elim p'
  | cons x rest =>
    have hlt : i < S.items.length := by
      refine Decidable.byContradiction fun q => ?_
      rw [List.drop_eq_nil_of_le (by omega)] at hd
      cases hd
    have hx : S.items[i]? = some x := by
      have := congrArg (fun l => l[0]?) hd
      simpa using this
    have hr : S.items.drop (i + 1) = rest := by
      rw [← List.drop_drop (i := 1) (j := i), hd]
      rfl
    rw [hd] at p'
    unfold forM_ at p'
    split at p'
    · rename_i hc
      obtain ⟨hgo, hy⟩ := J1.go r' H' h' i x st hR' hc hx
      refine .inr ⟨hgo, fun σ2 H2 => ∃ r2 h2 s2, Stp G.K r1 H1 r2 H2 ∧ HR G r2 H2 h2 ∧ SR G r2 H2 s2 σ2 ∧ PostS G r2 H2 E (forM_ S.chk mg m rest s2 h2) D, ?_, ?_⟩
      · rintro σ2 H2 ⟨r2, h2, s2, q1, q2, q3, q4⟩
        exact ⟨_, by omega, r2, h2, s2, q1, q2, q3, rfl, by omega, by rw [hr]; exact q4⟩
      · intro v H3 hyl
        obtain ⟨r3, st3, hR3, vR⟩ := hy v H3 hyl
        cases e1 : mg x s' with
        | none => rw [e1] at p'; exact False.elim p'
        | some s1' =>
          rw [e1] at p'
          refine hg.run r3 H3 s' σ' x v _ (sR'.mono st3) vR ⟨s1', e1, fun σ1 sR1 => ?_⟩
          refine hb.run r3 H3 h' s1' σ1 _ hR3 sR1 ?_
          simp only at p'
          cases e2 : m s1' h' with
          | nx s2 h2 =>
            rw [e2] at p'
            exact fun r4 H4 t4 st4 hR4 sR4 => ⟨r4, h2, s2, st.trans (st3.trans st4), hR4, sR4, p'.shift (st3.trans st4)⟩
          | ct s2 h2 =>
            rw [e2] at p'
            exact fun r4 H4 t4 st4 hR4 sR4 => ⟨r4, h2, s2, st.trans (st3.trans st4), hR4, sR4, p'.shift (st3.trans st4)⟩
          | bk s2 h2 =>
            rw [e2] at p'
            exact fun r4 H4 t4 st4 hR4 sR4 => p' r4 H4 t4 (st3.trans st4) hR4 sR4
          | rt v2 h2 =>
            rw [e2] at p'
            exact fun r4 H4 t4 st4 hR4 sR4 => p' r4 H4 t4 (st3.trans st4) hR4 sR4
          | raised c2 h2 =>
            rw [e2] at p'
            exact fun r4 H4 t4 st4 hR4 sR4 => p' r4 H4 t4 (st3.trans st4) hR4 sR4
          | stuck =>
            rw [e2] at p'
            exact p'
    · exact False.elim p'
theorem HR.lock {r : List Addr} {H : Hp} {h : Heap} (R : HR G r H h) {n : Nat} {ks : List Val} {h2 : Heap} (e : lockD n h = some (ks, h2)) {a : Addr} (ea : r[n]? = some a) :
    (∃ d f, h[n]? = some (.dct d) ∧ H a = some (.dK f) ∧ DR G r H d f ∧ ks = d.map (·.1) ∧ ∀ od, Stp G.K r H r (upd H a (.frz od (.dK f))) ∧ HR G r (upd H a (.frz od (.dK f))) h2) ∨
    (∃ d f, h[n]? = some (.dcT d) ∧ H a = some (.dT f) ∧ DTR G r H d f ∧ ks = d.map (·.1) ∧ ∀ od, Stp G.K r H r (upd H a (.frz od (.dT f))) ∧ HR G r (upd H a (.frz od (.dT f))) h2) := by
  unfold lockD at e
  split at e
  · rename_i d eo
    cases e
    cases R.ob _ _ _ eo ea with
    | @dct _ f _ hl hv =>
      refine .inl ⟨d, f, eo, hl, hv, rfl, fun od => ?_⟩
      have hn : ∀ o, H a = some o → NotT o := fun o e => by rw [hl] at e; cases e; trivial
      have st : Stp G.K r H r (upd H a (.frz od (.dK f))) := Stp.upd hn
      exact ⟨st, R.write eo rfl ea hn (.fdc upd_same (hv.mono st)) rfl⟩
  · rename_i d eo
    cases e
    cases R.ob _ _ _ eo ea with
    | @dcT _ f _ hl hv =>
      refine .inr ⟨d, f, eo, hl, hv, rfl, fun od => ?_⟩
      have hn : ∀ o, H a = some o → NotT o := fun o e => by rw [hl] at e; cases e; trivial
      have st : Stp G.K r H r (upd H a (.frz od (.dT f))) := Stp.upd hn
      exact ⟨st, R.write eo rfl ea hn (.fdT upd_same (hv.mono st)) rfl⟩
  · cases e
/-- where a thing that is no tuple and not locked is written, whatever has been done to it -/
theorem Stp.unl {K : PySem.W.Frag} {r : List Addr} {H : Hp} {a : Addr} {v : HO} {r0 : List Addr} {H0 : Hp} {u : HO} (h0 : H0 a = some u) (hu : NotT u) (st : Stp K r0 H0 r H) : Stp K r0 H0 r (L2.upd H a v) := by
  have ne : ∀ b w, H0 b = some w → ¬ NotT w → b ≠ a := fun b w e hn z => by subst z; rw [h0] at e; cases e; exact hn hu
  refine ⟨st.pre, fun b xs q => ?_, fun b o x q => ?_, fun b xs q => ?_⟩
  · by_cases hb : b = a
    · subst hb
      rcases q with (z | ⟨o, z⟩) | z
      · exact absurd rfl (ne b _ z (fun z => z))
      · exact absurd rfl (ne b _ z (fun z => z))
      · exact .inr z
    · rcases st.tup b xs q with (z | ⟨o, z⟩) | z
      · exact .inl (.inl (by rw [upd_ne hb]; exact z))
      · exact .inl (.inr ⟨o, by rw [upd_ne hb]; exact z⟩)
      · exact .inr z
  · rw [upd_ne (ne b _ q (fun z => z))]; exact st.frl b o x q
  · rw [upd_ne (ne b _ q (fun z => z))]; exact st.tpl b xs q
theorem Stw.unl {K : PySem.W.Frag} {r : List Addr} {H : Hp} {a : Addr} {o : PySem.Obj} {u v : HO} (h : H a = some (.frz o u)) (hu : ∀ xs, u ≠ .tup xs) (hl : ∀ xs, u ≠ .lst xs) : Stw K r H r (upd H a v) := by
  refine ⟨fun _ _ e => e, fun b xs q => ?_, fun b o' x q => ?_⟩
  · rcases q with (z | ⟨o', z⟩) | z
    · exact .inl (.inl (by rw [upd_ne (fun e => by subst e; rw [h] at z; cases z)]; exact z))
    · exact .inl (.inr ⟨o', by rw [upd_ne (fun e => by subst e; rw [h] at z; cases z; exact hu _ rfl)]; exact z⟩)
    · exact .inr z
  · rw [upd_ne (fun e => by subst e; rw [h] at q; cases q; exact hl _ rfl)]; exact q
theorem HR.writew {r : List Addr} {H : Hp} {h : Heap} (R : HR G r H h) {n : Nat} {a : Addr} {u : HO} {o o0 : Obj} (e0 : h[n]? = some o0) (f0 : isFls o0 = false) (e : r[n]? = some a) (st : Stw G.K r H r (upd H a u)) (ho : OR G r (upd H a u) o a) (f : isFls o = false) : HR G r (upd H a u) (h.set n o) := by
  have hl : n < h.length := (List.getElem?_eq_some_iff.mp e0).1
  have at_ : ∀ (i : Nat) (x : Obj), (h.set n o)[i]? = some x → isFls x = false → ∃ y, h[i]? = some y ∧ isFls y = false := fun i x e1 f1 => by
    by_cases hm : i = n
    · subst hm
      exact ⟨o0, e0, f0⟩
    · rw [List.getElem?_set_ne (Ne.symm hm)] at e1
      exact ⟨x, e1, f1⟩
  refine ⟨by simp [R.len], fun i j b x y e1 e2 e3 e4 f1 f2 => ?_, fun m o' b e1 e2 => ?_, tabs_upd R.tb ((R.ob n o0 a e0 e).plain f0)⟩
  · obtain ⟨x', e1', f1'⟩ := at_ i x e1 f1
    obtain ⟨y', e2', f2'⟩ := at_ j y e2 f2
    exact R.nd i j b x' y' e1' e2' e3 e4 f1' f2'
  · by_cases hm : m = n
    · subst hm
      rw [e] at e2
      cases e2
      rw [List.getElem?_set_self hl] at e1
      cases e1
      exact ho
    · rw [List.getElem?_set_ne (Ne.symm hm)] at e1
      refine (R.ob m o' b e1 e2).monow st fun f' v q => ?_
      have hb : b ≠ a := fun q => by
        subst q
        exact hm (R.nd m n b o' o0 e1 e0 e2 e f' f0)
      rw [upd_ne hb]
      exact q
theorem HR.unl {r : List Addr} {H : Hp} {h h3 : Heap} (R : HR G r H h) {n : Nat} {a : Addr} (e : unlH n h = some h3) (ea : r[n]? = some a) : ∃ o u, H a = some (.frz o u) ∧ Stw G.K r H r (upd H a u) ∧ HR G r (upd H a u) h3 := by
  unfold unlH at e
  split at e
  · rename_i d eo
    cases e
    cases R.ob _ _ _ eo ea with
    | @fdc _ f o _ hl hv =>
      have st : Stw G.K r H r (upd H a (.dK f)) := Stw.unl hl (fun _ z => nomatch z) (fun _ z => nomatch z)
      exact ⟨o, _, hl, st, R.writew eo rfl ea st (.dct upd_same (hv.monow st)) rfl⟩
  · rename_i d eo
    cases e
    cases R.ob _ _ _ eo ea with
    | @fdT _ f o _ hl hv =>
      have st : Stw G.K r H r (upd H a (.dT f)) := Stw.unl hl (fun _ z => nomatch z) (fun _ z => nomatch z)
      exact ⟨o, _, hl, st, R.writew eo rfl ea st (.dcT upd_same (hv.monow st)) rfl⟩
  · cases e
/-- the walk of a locked dict -/
theorem dk_get {r : List Addr} {H : Hp} {d : List (Val × Val)} {f : List (Key × V)} (v : DR G r H d f) : ∀ {i : Nat} {x : Val}, (d.map (·.1))[i]? = some x → ∃ q w, f[i]? = some (q, w) ∧ KR G x q := by
  induction v with
  | nil => intro i x e; simp at e
  | cons hk hv _ ih =>
    intro i x e
    cases i with
    | zero => simp at e; subst e; exact ⟨_, _, rfl, hk⟩
    | succ i => simpa using ih (i := i) (x := x) (by simpa using e)
theorem dt_get {r : List Addr} {H : Hp} {d : List (Val × Val)} {f : List (List Key × V)} (v : DTR G r H d f) : ∀ {i : Nat} {x : Val}, (d.map (·.1))[i]? = some x → ∃ ks qs w, x = .tup ks ∧ f[i]? = some (qs, w) ∧ KRs G ks qs := by
  induction v with
  | nil => intro i x e; simp at e
  | cons hk hv _ ih =>
    intro i x e
    cases i with
    | zero => simp at e; subst e; exact ⟨_, _, _, rfl, rfl, hk⟩
    | succ i => simpa using ih (i := i) (x := x) (by simpa using e)
theorem KRs.vr {r : List Addr} {H : Hp} : ∀ {ks : List Val} {qs : List Key}, KRs G ks qs → VRs G r H ks (qs.map kV)
  | _, _, .nil => .nil
  | _, _, .cons a b => .cons a.vr (KRs.vr b)
theorem itk_ok {r1 : List Addr} {H1 : Hp} {a : Addr} {od : PySem.Obj} {d : List (Val × Val)} {f : List (Key × V)} (ha : H1 a = some (.frz od (.dK f))) (hv : DR G r1 H1 d f) : ItOk G r1 H1 (Itk a od f) ⟨d.map (·.1), fun _ => true⟩ := by
  refine ⟨fun r2 H2 h2 hp _ _ => ⟨hp.frl _ _ _ ha, by simp [hv.len]⟩, fun r2 H2 h2 i x hp hR2 _ hx => ?_⟩
  obtain ⟨q, w, ef, kq⟩ := dk_get hv hx
  refine ⟨⟨hp.frl _ _ _ ha, (List.getElem?_eq_some_iff.mp ef).1⟩, fun v' H3 hy => ?_⟩
  obtain ⟨rfl, k, v, e2, rfl⟩ := hy
  rw [ef] at e2
  cases e2
  exact ⟨r2, Stp.refl, hR2, kq.vr⟩
theorem itkt_ok {r1 : List Addr} {H1 : Hp} {a : Addr} {od : PySem.Obj} {d : List (Val × Val)} {f : List (List Key × V)} (ha : H1 a = some (.frz od (.dT f))) (hv : DTR G r1 H1 d f) : ItOk G r1 H1 (Itkt a od f) ⟨d.map (·.1), fun _ => true⟩ := by
  refine ⟨fun r2 H2 h2 hp _ _ => ⟨hp.frl _ _ _ ha, by simp [hv.len]⟩, fun r2 H2 h2 i x hp hR2 _ hx => ?_⟩
  obtain ⟨ks, q, w, rfl, ef, kq⟩ := dt_get hv hx
  refine ⟨⟨hp.frl _ _ _ ha, (List.getElem?_eq_some_iff.mp ef).1⟩, fun v' H3 hy => ?_⟩
  obtain ⟨rfl, k, v, p, e2, rfl, hp3⟩ := hy
  rw [ef] at e2
  cases e2
  exact ⟨r2, Stp.refl, hR2, .tup (SqT.of hp3) kq.vr⟩
theorem post_unl {r1 : List Addr} {H1 : Hp} {a : Addr} {n : Nat} {u w : HO} {x : RS} {D : Ends} (ea : r1[n]? = some a) (h0 : H1 a = some u) (hu : NotT u) (st : Stp G.K r1 H1 r1 (upd H1 a w)) (nf : ∀ o' u', X.H_0 a ≠ some (.frz o' u')) (p : PostS G r1 H1 E (unlS n x) D) : PostS G r1 (upd H1 a w) E x (unD X D) := by
  cases x with
  | nx s' h' =>
    intro r' H' t st' hR' sR'
    simp only [unlS] at p
    split at p
    · rename_i h3 e3
      obtain ⟨o, u', hl, sw, hR3⟩ := hR'.unl e3 (st'.pre _ _ ea)
      exact ⟨a, o, u', hl, nf, p r' _ t (Stp.unl h0 hu (st.trans st')) hR3 (sR'.monow sw)⟩
    · exact p.elim
  | rt v' h' =>
    intro r' H' t st' hR' vR'
    simp only [unlS] at p
    split at p
    · rename_i h3 e3
      obtain ⟨o, u', hl, sw, hR3⟩ := hR'.unl e3 (st'.pre _ _ ea)
      exact ⟨a, o, u', hl, nf, p r' _ t (Stp.unl h0 hu (st.trans st')) hR3 (vR'.monow sw)⟩
    · exact p.elim
  | bk _ _ => exact p.elim
  | ct _ _ => exact p.elim
  | raised _ _ => exact p.elim
  | stuck => exact p.elim
theorem ms_forD (C : XC G E X k) (he : ME G E X iter td me) (hg : MG G X tg g mg) (hb : MSs G E X sts t m) (hs : ∀ x, foldedSetIterable iter X.env x = pure x := by intro _; rfl) :
    MS G E X (.For tg iter sts [] pos) (fun D σ H => tFor (iKeysL X td) g t (unD X D) σ H) (sForD me mg m) := by
  refine ⟨ps_unlock (ps_for C.own C.calm (pi_keysL he.pe) hg.pe hb.pe hs), ⟨fun r H h s σ D hR sR p => ?_⟩⟩
  refine he.rf.run r H h s σ _ hR sR (p.seqS fun x h1 r1 H1 v s1 hR1 v1 p1 => ?_)
  cases v1 with
  | @ref n a ea =>
    simp only at p1
    split at p1
    · rename_i ks h2 e2
      refine ⟨a, rfl, ?_⟩
      rcases hR1.lock e2 ea with ⟨d, f, eo, hl, hv, rfl, z⟩ | ⟨d, f, eo, hl, hv, rfl, z⟩
      · refine .inl ⟨f, hl, fun od nf => ?_⟩
        obtain ⟨st, hR2⟩ := z od
        exact for_core (S := ⟨d.map (·.1), fun _ => true⟩) hg.rf hb.rf hR2 ((sR.mono s1).mono st) (itk_ok upd_same (hv.mono st)) (post_unl ea hl trivial st nf p1)
      · refine .inr ⟨f, hl, fun od nf => ?_⟩
        obtain ⟨st, hR2⟩ := z od
        exact for_core (S := ⟨d.map (·.1), fun _ => true⟩) hg.rf hb.rf hR2 ((sR.mono s1).mono st) (itkt_ok upd_same (hv.mono st)) (post_unl ea hl trivial st nf p1)
    · exact False.elim p1
  | _ => exact False.elim p1
end
end PyM

set_option Elab.async false
set_option linter.all false
set_option maxRecDepth 100000
set_option autoImplicit false
/-! sum of a tuple -/
namespace PyM
open PySem PySem.Spec PyProof.Rows L2
section
variable {prog : Program} {w : World} {A : Around} {E : Value → Shared → Prop} {s : Shared} {l : Addr} {its : List Value} {ns : List Int} {Q : Value → Shared → Prop} {xs : Array (Int × Tok)}
theorem sum_intTupG (hh : A.handled = none) (hT : s.heap.IsTuple l (intItems xs))
    (h : ∀ h' tk t', (∀ b o, s.heap.get? b = some o → h'.get? b = some o) → Q (.int (preSum (numAt xs) xs.size) t') { s with heap := h', toks := tk }) :
    wpAny (model prog w) A (call (.builtin "sum") [.ref l]) Q E s := by
  have hlt : l < s.heap.objs.size := by obtain ⟨_, e, _⟩ := hT; exact Heap.lt_size e
  refine call_sum_walkG (wpAny_pyIter_tuple hT ?_)
  refine ⟨_, [_, l], [_], _, _, _, numAt xs, rfl, Walks.tuple (A := A.in1) hh _ l (Nat.ne_of_lt hlt) (intItems xs), ⟨⟨_, Heap.get?_push_size _ rfl, rfl, rfl⟩, hT.push _⟩, fun b hb => ?_, (fun _ _ => intItems_at), fun h' tk t' hk => ?_⟩
  · show b < (s.heap.push _).objs.size
    rw [Heap.size_push]
    rcases List.mem_cons.mp hb with rfl | hb
    · exact Nat.lt_succ_self _
    · rcases List.mem_cons.mp hb with rfl | hb
      · exact Nat.lt_succ_of_lt hlt
      · cases hb
  · have := h h' tk t' (fun b o e => hk b o (fun hm => by
      rcases List.mem_cons.mp hm with e1 | hm
      · exact absurd (e1 ▸ Heap.lt_size e) (Nat.lt_irrefl _)
      · cases hm) (Heap.get?_push_of_some _ e))
    simpa [intItems] using this
theorem sum_rawT (hh : A.handled = none) (hl : s.heap.IsTuple l its.toArray) (hi : IntsAre its ns)
    (h : ∀ h' tk t', (∀ b o, s.heap.get? b = some o → h'.get? b = some o) → Q (.int ns.sum t') { s with heap := h', toks := tk }) : wpAny (model prog w) A (call (.builtin "sum") [.ref l]) Q E s := by
  obtain ⟨xs, e⟩ := hi.allInts.items
  have hn : numsOf (intItems xs).toList = ns := by rw [← e]; exact hi.numsOf
  rw [nums_intItems] at hn
  rw [e] at hl
  refine sum_intTupG hh hl fun h' tk t' hk => ?_
  have := h h' tk t' hk
  rw [preSum_eq, List.take_of_length_le (by simp), hn]; exact this
end
section
variable {X : Cx} {G : Cfg} {E : XK} {k : Nat}
def rSumT (K : PySem.W.Frag) : List V → Hp → VK → Prop := fun vs H Q => ∃ (a : Addr) (ns : List Int), vs = [V.ref a] ∧ SqT K H a (ns.map V.int) ∧ Q (.int ns.sum) H
theorem cr_sumT (hc : X.calm = true) : CallR X (.builtin "sum") (rSumT X.K) := by
  intro pins s σ H vs us Q I r h
  obtain ⟨a, ns, rfl, hs, q⟩ := h
  obtain ⟨its, rv, hl, _⟩ := I.tuple hs
  rw [Vals.ref1 r]
  exact sum_rawT (I.ok.hd hc) hl rv.ints fun h' tk t' hk => ⟨.int _, H, I.kept hk, ⟨_, rfl⟩, q⟩
def bSumT (xs : List Val) (h : Heap) : Res Val := match xs with
  | [.tup ys] => match optAll asInt ys with
    | some ns => .ok (.int ns.sum) h
    | none => .stuck
  | _ => .stuck
theorem cl_sumT (C : XC G E X k) : CallR X (.builtin "sum") (rSumT G.K) := by have := cr_sumT (X := X) C.calm; rwa [C.K] at this
theorem rl_sumT : RfL G E (rSumT G.K) bSumT := by
  refine ⟨fun r H h xs vs Q hR v p => ?_⟩
  unfold bSumT at p
  split at p
  · cases v with
    | cons q1 q2 =>
      cases q2
      split at p
      · rename_i bs e2
        cases q1 with
        | tup hs hv =>
          rw [all_int hv e2] at hs
          exact ⟨_, bs, rfl, hs, p.here hR (.int _)⟩
      · exact False.elim p
  · exact False.elim p
variable {a : Expr} {ta : TE} {ma : En → Heap → Res Val} {pos : Pos}
/-- what is true, as mt_tr has it -/
theorem tru_of {r1 : List Addr} {H1 : Hp} {h1 : Heap} {x : Val} {v : V} {b : Bool} (hR1 : HR G r1 H1 h1) (v1 : VR G r1 H1 x v) (e : truth x h1 = some b) : TruV G.K v H1 b := by
  cases v1 with
  | non => cases e; rfl
  | bl b => cases e; rfl
  | int i => cases e; rfl
  | str q => cases e
  | tup hs hv =>
    cases e
    cases hv with
    | nil => exact .inr (.inl ⟨_, hs, rfl⟩)
    | cons _ _ => exact .inr (.inl ⟨_, hs, rfl⟩)
  | @ref n a ea =>
    simp only [truth] at e
    split at e
    · rename_i xs eo
      cases e
      cases hR1.ob _ _ _ eo ea with
      | lst hl hv => cases hv <;> exact .inl ⟨_, SqL.of hl, rfl⟩
    · rename_i xs eo
      cases e
      cases hR1.ob _ _ _ eo ea with
      | fls hl hv => cases hv <;> exact .inl ⟨_, hl.sq, rfl⟩
    · rename_i xs eo
      cases e
      cases hR1.ob _ _ _ eo ea with
      | dct hl hv => cases hv <;> exact .inr (.inr ⟨_, hl, rfl⟩)
    · cases e
/-- not x, by truth -/
def mNoT (ma : En → Heap → Res Val) (s : En) (h : Heap) : Res Val := (ma s h).bind fun x h1 => match truth x h1 with
  | some b => .ok (.bl (!b)) h1
  | none => .stuck
theorem me_notT (C : XC G E X k) (h : ME G E X a ta ma) : ME G E X (.UnaryOp .Not a pos) (tNotT G.K ta) (mNoT ma) := by
  refine ⟨?_, ⟨fun r H h' s σ Q hR sR p => h.rf.run r H h' s σ _ hR sR (p.seq fun x h1' r1 H1 v s1 hR1 v1 p1 => ?_)⟩⟩
  · have := pe_notT (pos := pos) h.pe
    rwa [C.K] at this
  · split at p1
    · rename_i b e
      exact ⟨b, tru_of hR1 v1 e, p1.here hR1 (.bl _)⟩
    · exact False.elim p1
end
end PyM

set_option Elab.async false
set_option linter.all false
set_option autoImplicit false
/-! how a model program is reckoned: weakest wishes, as equations for simp -/
namespace PyM

structure K4 where
  nx : En → Heap → Prop
  rt : Val → Heap → Prop
  bk : En → Heap → Prop := fun _ _ => False
  ct : En → Heap → Prop := fun _ _ => False
  ex : Nat → Heap → Prop := fun _ _ => False
def wR {α : Type} (x : Res α) (E : Nat → Heap → Prop) (Q : α → Heap → Prop) : Prop := match x with
  | .ok a h => Q a h
  | .raised c h => E c h
  | .stuck => False
def wS (x : RS) (D : K4) : Prop := match x with
  | .nx s h => D.nx s h
  | .rt v h => D.rt v h
  | .bk s h => D.bk s h
  | .ct s h => D.ct s h
  | .raised c h => D.ex c h
  | .stuck => False
section
variable {α β : Type} {E : Nat → Heap → Prop} {Q : α → Heap → Prop} {D : K4} {s : En} {h : Heap}
@[simp ↓] theorem wR_ok {a : α} : wR (.ok a h) E Q = Q a h := rfl
@[simp ↓] theorem wR_raised {c : Nat} : wR (.raised c h : Res α) E Q = E c h := rfl
@[simp ↓] theorem wR_stuck : wR (.stuck : Res α) E Q = False := rfl
@[simp ↓] theorem wS_nx : wS (.nx s h) D = D.nx s h := rfl
@[simp ↓] theorem wS_rt {v : Val} : wS (.rt v h) D = D.rt v h := rfl
@[simp ↓] theorem wS_bk : wS (.bk s h) D = D.bk s h := rfl
@[simp ↓] theorem wS_ct : wS (.ct s h) D = D.ct s h := rfl
@[simp ↓] theorem wS_raised {c : Nat} : wS (.raised c h) D = D.ex c h := rfl
@[simp ↓] theorem wS_stuck : wS .stuck D = False := rfl
@[simp ↓] theorem wR_bind {x : Res β} {k : β → Heap → Res α} : wR (x.bind k) E Q = wR x E fun b h1 => wR (k b h1) E Q := by cases x <;> rfl
@[simp ↓] theorem wS_thenS {x : Res β} {k : β → Heap → RS} : wS (x.thenS k) D = wR x D.ex fun b h1 => wS (k b h1) D := by cases x <;> rfl
@[simp ↓] theorem wS_bind {x : RS} {k : En → Heap → RS} : wS (x.bind k) D = wS x { D with nx := fun s h => wS (k s h) D } := by cases x <;> rfl
@[simp ↓] theorem wR_ite {c : Prop} [Decidable c] {a b : Res α} : wR (if c then a else b) E Q = if c then wR a E Q else wR b E Q := by split <;> rfl
@[simp ↓] theorem wS_ite {c : Prop} [Decidable c] {a b : RS} : wS (if c then a else b) D = if c then wS a D else wS b D := by split <;> rfl
theorem wR_mono {x : Res α} {Q' : α → Heap → Prop} (w : wR x E Q) (f : ∀ a h, Q a h → Q' a h) : wR x E Q' := by cases x <;> first | exact f _ _ w | exact w
theorem wR_eq {x : Res α} {a : α} (e : x = .ok a h) (q : Q a h) : wR x E Q := by rw [e]; exact q
end
section
variable {E : Nat → Heap → Prop} {Q : Val → Heap → Prop} {QA : List Val → Heap → Prop} {QB : Bool → Heap → Prop} {D : K4} {s : En} {h : Heap} {ma mb mc mo mi me : En → Heap → Res Val} {mA : En → Heap → Res (List Val)} {tu tv : En → Heap → Res Bool} {a b : En → Heap → RS}
@[simp ↓] theorem wR_mK {x : Val} : wR (mK x s h) E Q = Q x h := rfl
@[simp ↓] theorem wR_mV0 {x : Val} : wR (mV 0 (some x :: s) h) E Q = Q x h := rfl
@[simp ↓] theorem wR_mV1 {i : Nat} {o : Option Val} : wR (mV (i + 1) (o :: s) h) E Q = wR (mV i s h) E Q := rfl
@[simp ↓] theorem wR_mB {f : Val → Val → Heap → Res Val} : wR (mB f ma mb s h) E Q = wR (ma s h) E fun x h1 => wR (mb s h1) E fun y h2 => wR (f x y h2) E Q := by unfold mB; simp
@[simp ↓] theorem wR_mU {f : Val → Heap → Res Val} : wR (mU f ma s h) E Q = wR (ma s h) E fun x h1 => wR (f x h1) E Q := by unfold mU; simp
@[simp ↓] theorem wR_mL {f : List Val → Heap → Res Val} : wR (mL f mA s h) E Q = wR (mA s h) E fun x h1 => wR (f x h1) E Q := by unfold mL; simp
@[simp ↓] theorem wR_mNil : wR (mNil s h) E QA = QA [] h := rfl
@[simp ↓] theorem wR_mCons : wR (mCons ma mA s h) E QA = wR (ma s h) E fun x h1 => wR (mA s h1) E fun xs h2 => QA (x :: xs) h2 := by unfold mCons; simp
@[simp ↓] theorem wR_tB : wR (tB_ ma s h) E QB = wR (ma s h) E fun x h1 => (match x with | .bl c => QB c h1 | _ => False) := by
  unfold tB_; simp only [wR_bind]; congr; funext x h1; split <;> simp_all
@[simp ↓] theorem wR_tTr : wR (tTr ma s h) E QB = wR (ma s h) E fun x h1 => (match truth x h1 with | some c => QB c h1 | none => False) := by
  unfold tTr; simp only [wR_bind]; congr; funext x h1; split <;> simp_all
@[simp ↓] theorem wR_tTrue : wR (tTrue s h) E QB = QB true h := rfl
@[simp ↓] theorem wR_tNo : wR (tNo tu s h) E QB = wR (tu s h) E fun c h1 => QB (!c) h1 := by unfold tNo; simp
@[simp ↓] theorem wR_tAn : wR (tAn tu tv s h) E QB = wR (tu s h) E fun c h1 => if c = true then wR (tv s h1) E QB else QB false h1 := by unfold tAn; simp
@[simp ↓] theorem wR_tOr : wR (tOr_ tu tv s h) E QB = wR (tu s h) E fun c h1 => if c = true then QB true h1 else wR (tv s h1) E QB := by unfold tOr_; simp
@[simp ↓] theorem wR_mAn : wR (mAn ma mb s h) E Q = wR (ma s h) E fun x h1 => (match x with | .bl c => if c = true then wR (mb s h1) E Q else Q (.bl false) h1 | _ => False) := by
  unfold mAn; simp only [wR_bind]; congr; funext x h1; split <;> simp_all
@[simp ↓] theorem wR_mOr : wR (mOr_ ma mb s h) E Q = wR (ma s h) E fun x h1 => (match x with | .bl c => if c = true then Q (.bl true) h1 else wR (mb s h1) E Q | _ => False) := by
  unfold mOr_; simp only [wR_bind]; congr; funext x h1; split <;> simp_all
@[simp ↓] theorem wR_mNo : wR (mNo ma s h) E Q = wR (ma s h) E fun x h1 => (match x with | .bl c => Q (.bl (!c)) h1 | _ => False) := by
  unfold mNo; simp only [wR_bind]; congr; funext x h1; split <;> simp_all
@[simp ↓] theorem wR_mIf : wR (mIf tu ma mb s h) E Q = wR (tu s h) E fun c h1 => if c = true then wR (ma s h1) E Q else wR (mb s h1) E Q := by unfold mIf; simp
@[simp ↓] theorem wR_mCh {p q : Int → Int → Bool} : wR (mCh p q ma mb mc s h) E Q = wR (ma s h) E fun x h1 => wR (mb s h1) E fun y h2 => (match x, y with
    | .int i, .int j => if p i j = true then wR (mc s h2) E fun z h3 => (match z with | .int k => Q (.bl (q j k)) h3 | _ => False) else Q (.bl false) h2
    | _, _ => False) := by
  unfold mCh; simp only [wR_bind]; congr; funext x h1; congr; funext y h2; split
  · simp only [wR_ite, wR_bind, wR_ok]
    split
    · congr; funext z h3; split <;> simp_all
    · rfl
  · simp_all
@[simp ↓] theorem wR_mTup : wR (mTup mA s h) E Q = wR (mA s h) E fun xs h1 => xs.length ≤ lim ∧ Q (.tup xs) h1 := by unfold mTup; simp only [wR_bind]; congr; funext x h1; split <;> (simp_all <;> (intros; omega))
@[simp ↓] theorem wR_mLst : wR (mLst mA s h) E Q = wR (mA s h) E fun xs h1 => xs.length ≤ lim ∧ Q (.ref h1.length) (h1 ++ [.lst xs]) := by unfold mLst; simp only [wR_bind]; congr; funext x h1; split <;> (simp_all <;> (intros; omega))
@[simp ↓] theorem wR_mDct : wR (mDct s h) E Q = Q (.ref h.length) (h ++ [.dct []]) := rfl
@[simp ↓] theorem wR_mCall {m : List Val → Heap → Res Val} {ds : List Val} : wR (mCall m ds mA s h) E Q = wR (mA s h) E fun xs h1 => wR (m (xs ++ ds) h1) E Q := by unfold mCall; simp
@[simp ↓] theorem wR_mMeth {c : Nat} {m : List Val → Heap → Res Val} {ds : List Val} : wR (mMeth c m ds mo mA s h) E Q = wR (mo s h) E fun x h1 => isIns c x h1 = true ∧ wR (mA s h1) E fun xs h2 => wR (m (x :: (xs ++ ds)) h2) E Q := by
  unfold mMeth; simp only [wR_bind]; congr; funext x h1; split <;> simp_all
@[simp ↓] theorem wR_mMake {c : Nat} {m : List Val → Heap → Res Val} {ds : List Val} : wR (mMake c m ds mA s h) E Q = wR (mA s h) E fun xs h1 => wR (m (.ref h1.length :: (xs ++ ds)) (h1 ++ [.ins c []])) E fun x h2 => (match x with | .non => Q (.ref h1.length) h2 | _ => False) := by
  unfold mMake; simp only [wR_bind]; congr; funext x h1; congr; funext y h2; split <;> simp_all
@[simp ↓] theorem wR_mSl {p q : En → Heap → Res (Option Int)} : wR (mSl ma p q s h) E Q = wR (ma s h) E fun x h1 => wR (p s h1) E fun lo h2 => wR (q s h2) E fun hi h3 => wR (oSl x lo hi h3) E Q := by unfold mSl; simp
@[simp ↓] theorem wR_pNo {QO : Option Int → Heap → Prop} : wR (pNo s h) E QO = QO none h := rfl
@[simp ↓] theorem wR_pSo {QO : Option Int → Heap → Prop} : wR (pSo ma s h) E QO = wR (ma s h) E fun x h1 => (match x with | .int i => QO (some i) h1 | _ => False) := by
  unfold pSo; simp only [wR_bind]; congr; funext x h1; split <;> simp_all
@[simp ↓] theorem wR_mIsi {T : Ty} : wR (mIsi T ma s h) E Q = wR (ma s h) E fun x h1 => (match isTy T (tyOf x h1) with | some c => Q (.bl c) h1 | none => False) := by
  unfold mIsi; simp only [wR_bind]; congr; funext x h1; split <;> simp_all
@[simp ↓] theorem wR_mBM {f : Val → List Val → Heap → Res Val} : wR (mBM f mo mA s h) E Q = wR (mo s h) E fun x h1 => (seqOf x h1).isSome = true ∧ wR (mA s h1) E fun xs h2 => wR (f x xs h2) E Q := by
  unfold mBM; simp only [wR_bind]; congr; funext x h1; split <;> simp_all
@[simp ↓] theorem wR_mBM0 {f : Val → List Val → Heap → Res Val} : wR (mBM0 f mo s h) E Q = wR (mo s h) E fun x h1 => (seqOf x h1).isSome = true ∧ wR (f x [] h1) E Q := by
  unfold mBM0; simp only [wR_bind]; congr; funext x h1; split <;> simp_all
@[simp ↓] theorem wS_sNx : wS (sNx s h) D = D.nx s h := rfl
@[simp ↓] theorem wS_sBk : wS (sBk s h) D = D.bk s h := rfl
@[simp ↓] theorem wS_sCt : wS (sCt s h) D = D.ct s h := rfl
@[simp ↓] theorem wS_sSeq : wS (sSeq a b s h) D = wS (a s h) { D with nx := fun s h => wS (b s h) D } := by unfold sSeq; simp
@[simp ↓] theorem wS_sDrop : wS (sDrop ma s h) D = wR (ma s h) D.ex fun _ h1 => D.nx s h1 := by unfold sDrop; simp
@[simp ↓] theorem wS_sRet : wS (sRet ma s h) D = wR (ma s h) D.ex fun x h1 => D.rt x h1 := by unfold sRet; simp
@[simp ↓] theorem wS_sRetN : wS (sRetN s h) D = D.rt .non h := rfl
@[simp ↓] theorem wS_sIf : wS (sIf tu a b s h) D = wR (tu s h) D.ex fun c h1 => if c = true then wS (a s h1) D else wS (b s h1) D := by unfold sIf; simp
@[simp ↓] theorem wS_sAsg {g : Val → En → Option En} : wS (sAsg g ma s h) D = wR (ma s h) D.ex fun x h1 => (match g x s with | some s1 => D.nx s1 h1 | none => False) := by
  unfold sAsg; simp only [wS_thenS]; congr; funext x h1; split <;> simp_all
@[simp ↓] theorem wS_sSub : wS (sSub mo mi me s h) D = wR (me s h) D.ex fun x h1 => wR (mo s h1) D.ex fun o h2 => wR (mi s h2) D.ex fun i h3 => wR (oSet o i x h3) D.ex fun _ h4 => D.nx s h4 := by unfold sSub; simp
@[simp ↓] theorem wS_sSubA {f : Val → Val → Heap → Res Val} : wS (sSubA f mo mi me s h) D = wR (mo s h) D.ex fun o h1 => wR (mi s h1) D.ex fun i h2 => wR (oIxM o i h2) D.ex fun x h3 => wR (me s h3) D.ex fun y h4 => wR (f x y h4) D.ex fun z h5 => wR (oSet o i z h5) D.ex fun _ h6 => D.nx s h6 := by unfold sSubA; simp
@[simp ↓] theorem wS_sFld {d f : Nat} : wS (sFld d f mo me s h) D = wR (me s h) D.ex fun x h1 => wR (mo s h1) D.ex fun o h2 => wR (oSetF d f o x h2) D.ex fun _ h3 => D.nx s h3 := by unfold sFld; simp
@[simp ↓] theorem wS_sFldA {d f : Nat} {g : Val → Val → Heap → Res Val} : wS (sFldA d f g mo me s h) D = wR (mo s h) D.ex fun o h1 => isIns d o h1 = true ∧ wR (getF f o h1) D.ex fun x h2 => wR (me s h2) D.ex fun y h3 => wR (g x y h3) D.ex fun z h4 => wR (oSetF d f o z h4) D.ex fun _ h5 => D.nx s h5 := by
  unfold sFldA; simp only [wS_thenS, wR_ite]; congr; funext x h1; split <;> simp_all
@[simp ↓] theorem wS_sAug {i : Nat} {g : Val → Val → Heap → Res Val} : wS (sAug i g me s h) D = (match s[i]? with | some (some x) => wR (me s h) D.ex fun y h1 => wR (g x y h1) D.ex fun z h2 => D.nx (s.set i (some z)) h2 | _ => False) := by
  unfold sAug; split <;> simp_all
@[simp ↓] theorem wS_sRaise {c : Nat} : wS (sRaise c s h) D = D.ex c h := rfl
@[simp ↓] theorem wS_sTry {c : Nat} : wS (sTry c a b s h) D = wS (a s h) { D with ex := fun c' h' => c' = c ∧ wS (b s h') D } := by
  unfold sTry; cases e : a s h <;> (simp <;> (split <;> simp_all))
@[simp ↓] theorem wS_sFor {mi : MI} {g : Val → En → Option En} : wS (sFor mi g a s h) D = wR (mi s h) D.ex fun S h1 => wS (forM_ S.chk g a S.items s h1) D := by unfold sFor; simp
@[simp ↓] theorem wR_iRng1 {QS : Src → Heap → Prop} : wR (iRng1 mA s h) E QS = wR (mA s h) E fun xs h1 => (match xs with | [.int j] => (-(2 ^ 62) ≤ j ∧ j < 2 ^ 62) ∧ QS ⟨rangeV 0 j.toNat, fun _ => true⟩ h1 | _ => False) := by
  unfold iRng1; simp only [wR_bind]; congr; funext x h1; split <;> (simp <;> (split <;> simp_all))
@[simp ↓] theorem wR_iRng2 {QS : Src → Heap → Prop} : wR (iRng2 mA s h) E QS = wR (mA s h) E fun xs h1 => (match xs with | [.int i, .int j] => (-(2 ^ 62) ≤ i ∧ i < 2 ^ 62 ∧ -(2 ^ 62) ≤ j ∧ j < 2 ^ 62) ∧ QS ⟨rangeV i (j - i).toNat, fun _ => true⟩ h1 | _ => False) := by
  unfold iRng2; simp only [wR_bind]; congr; funext x h1; split <;> (simp <;> (split <;> simp_all))
end
theorem ite_and' {c A : Prop} [Decidable c] : (if c then A else False) = (c ∧ A) := by
  by_cases h : c <;> simp [h]
/-! operations by values -/
section
variable {E : Nat → Heap → Prop} {Q : Val → Heap → Prop} {QU : Unit → Heap → Prop} {h : Heap} {a : Nat} {x y : Val} {xs ys : List Val} {i j : Int} {b c : Bool}
@[simp ↓] theorem wR_oI {g : Int → Int → Val} : wR (oI g (.int i) (.int j) h) E Q = Q (g i j) h := rfl
@[simp ↓] theorem wR_oIC {p : Int → Int → Bool} {g : Int → Int → Val} : wR (oIC p g (.int i) (.int j) h) E Q = (p i j = true ∧ Q (g i j) h) := by
  unfold oIC; simp only; split <;> simp_all
@[simp ↓] theorem wR_oAdd : wR (oAdd (.int i) (.int j) h) E Q = Q (.int (i + j)) h := rfl
@[simp ↓] theorem wR_oAddT : wR (oAdd (.tup xs) (.tup ys) h) E Q = (xs.length + ys.length ≤ lim ∧ Q (.tup (xs ++ ys)) h) := by
  unfold oAdd; simp only [wR_ite, wR_ok, wR_stuck, ite_and']
@[simp ↓] theorem wR_oMul : wR (oMul (.int i) (.int j) h) E Q = ((-(2 ^ 64) < j ∧ j < 2 ^ 64 ∨ -(2 ^ 64) < i ∧ i < 2 ^ 64) ∧ Q (.int (i * j)) h) := by
  unfold oMul; simp only [wR_ite, wR_ok, wR_stuck, ite_and']
@[simp ↓] theorem wR_oMulT : wR (oMul (.tup xs) (.int i) h) E Q = ((xs.length ≠ 0 ∧ 2 ≤ i ∧ i ≤ 1000 ∧ xs.length ≤ 1000) ∧ Q (.tup (repV i.toNat xs)) h) := by
  unfold oMul; simp only [wR_ite, wR_ok, wR_stuck, ite_and']
@[simp ↓] theorem wR_oMulL : wR (oMul (.ref a) (.int i) h) E Q = (match h[a]? with | some (.lst xs) => (i ≤ 100000 ∧ -100000 ≤ i ∧ xs.length * i.toNat ≤ lim) ∧ Q (.ref h.length) (h ++ [.lst (repV i.toNat xs)]) | _ => False) := by
  unfold oMul; simp only; split
  · simp only [wR_ite, wR_ok, wR_stuck, ite_and']
    all_goals simp_all
  · simp_all
@[simp ↓] theorem wR_oNeg : wR (oNeg (.int i) h) E Q = Q (.int (-i)) h := rfl
@[simp ↓] theorem wR_oIsN {neg : Bool} : wR (oIsN neg x h) E Q = Q (.bl (match x with | .non => !neg | _ => neg)) h := rfl
@[simp ↓] theorem wR_oEqI {neg : Bool} : wR (oEq neg (.int i) (.int j) h) E Q = Q (.bl (if neg then !(i == j) else i == j)) h := rfl
@[simp ↓] theorem wR_oEqB {neg : Bool} : wR (oEq neg (.bl b) (.bl c) h) E Q = Q (.bl (if neg then !(b == c) else b == c)) h := rfl
@[simp ↓] theorem wR_oEqS {neg : Bool} {m n : Nat} : wR (oEq neg (.str m) (.str n) h) E Q = Q (.bl (if neg then !(m == n) else m == n)) h := rfl
@[simp ↓] theorem wR_oIsB {neg : Bool} : wR (oIsB neg (.bl b) (.bl c) h) E Q = Q (.bl (if neg then !decide (b = c) else decide (b = c))) h := rfl
@[simp ↓] theorem wR_oIsBs {neg b : Bool} {i : Nat} : wR (oIsB neg (.str i) (.bl b) h) E Q = Q (.bl neg) h := rfl
@[simp ↓] theorem wR_oIxT : wR (oIx (.tup xs) (.int i) h) E Q = (match L2.atI xs i with | some v => Q v h | none => False) := by
  unfold oIx; simp only; split <;> simp_all
@[simp ↓] theorem wR_oIxL : wR (oIx (.ref a) (.int i) h) E Q = (match h[a]? with
    | some (.lst xs) => (match L2.atI xs i with | some v => Q v h | none => False)
    | some (.fls xs) => (match L2.atI xs i with | some v => Q v h | none => False)
    | some (.dct d) => (match lookV d (.int i) with | some v => Q v h | none => False)
    | some (.fdc d) => (match lookV d (.int i) with | some v => Q v h | none => False)
    | _ => False) := by
  unfold oIx; simp only [isKey]; split
  · split <;> simp_all
  · split <;> simp_all
  · simp only [if_true]
    split <;> simp_all
  · simp only [if_true]
    split <;> simp_all
  · simp_all
@[simp ↓] theorem wR_oIxM : wR (oIxM (.ref a) y h) E Q = wR (oIx (.ref a) y h) E Q := rfl
@[simp ↓] theorem wR_oSetI : wR (oSet (.ref a) (.int i) x h) E QU = (match h[a]? with
    | some (.lst xs) => (match L2.ixN xs.length i with | some j => QU () (h.set a (.lst (xs.set j x))) | none => False)
    | some (.dct d) => d.length < lim ∧ QU () (h.set a (.dct (putV d (.int i) x)))
    | _ => False) := by
  unfold oSet; simp only [isKey]; split
  · split <;> simp_all
  · simp only [wR_ite, wR_ok, wR_stuck, ite_and']
    all_goals simp_all
  · simp_all
@[simp ↓] theorem wR_getF {f : Nat} : wR (getF f (.ref a) h) E Q = (match h[a]? with | some (.ins _ fs) => (match lookF f fs with | some v => Q v h | none => False) | _ => False) := by
  unfold getF; simp only; split
  · split <;> simp_all
  · simp_all
@[simp ↓] theorem wR_oSetF {d f : Nat} : wR (oSetF d f (.ref a) x h) E QU = (match h[a]? with | some (.ins c fs) => (c = d ∧ fs.length < 1000) ∧ QU () (h.set a (.ins c (setF f x fs))) | _ => False) := by
  unfold oSetF; simp only; split
  · simp only [wR_ite, wR_ok, wR_stuck, ite_and']
    all_goals simp_all
  · simp_all
@[simp ↓] theorem wR_bInt : wR (bInt [.int i] h) E Q = Q (.int i) h := rfl
@[simp ↓] theorem wR_bIntB : wR (bInt [.bl b] h) E Q = Q (.int (if b then 1 else 0)) h := rfl
@[simp ↓] theorem wR_bAbs : wR (bAbs [.int i] h) E Q = Q (.int (if i < 0 then -i else i)) h := rfl
@[simp ↓] theorem wR_bLenT : wR (bLen [.tup xs] h) E Q = Q (.int xs.length) h := rfl
@[simp ↓] theorem wR_bLenL : wR (bLen [.ref a] h) E Q = (match h[a]? with | some (.lst xs) => Q (.int xs.length) h | some (.fls xs) => Q (.int xs.length) h | some (.dct d) => Q (.int d.length) h | _ => False) := by
  unfold bLen; simp only; split <;> simp_all
@[simp ↓] theorem wR_bListT : wR (bList [.tup xs] h) E Q = Q (.ref h.length) (h ++ [.lst xs]) := rfl
@[simp ↓] theorem wR_bListL : wR (bList [.ref a] h) E Q = (match h[a]? with | some (.lst xs) => Q (.ref h.length) (h ++ [.lst xs]) | some (.fls xs) => Q (.ref h.length) (h ++ [.lst xs]) | _ => False) := by
  unfold bList; simp only; split <;> simp_all
@[simp ↓] theorem wR_bTupleT : wR (bTuple [.tup xs] h) E Q = Q (.tup xs) h := rfl
@[simp ↓] theorem wR_bTupleL : wR (bTuple [.ref a] h) E Q = (match h[a]? with | some (.lst xs) => Q (.tup xs) h | some (.fls xs) => Q (.tup xs) h | _ => False) := by
  unfold bTuple; simp only; split <;> simp_all
@[simp ↓] theorem wR_bAppend : wR (bAppend (.ref a) [y] h) E Q = (match h[a]? with | some (.lst xs) => xs.length < lim ∧ Q .non (h.set a (.lst (xs ++ [y]))) | _ => False) := by
  unfold bAppend; simp only; split
  · simp only [wR_ite, wR_ok, wR_stuck, ite_and']
    all_goals simp_all
  · simp_all
end
theorem ixN_cast (n k : Nat) : L2.ixN n (k : Int) = if k < n then some k else none := by
  unfold L2.ixN
  rw [if_pos (by omega)]
  by_cases h : k < n
  · rw [if_pos (by omega), if_pos h]
    simp
  · rw [if_neg (by omega), if_neg h]
theorem atI_cast {α : Type} (xs : List α) (k : Nat) : L2.atI xs (k : Int) = xs[k]? := by
  unfold L2.atI
  rw [ixN_cast]
  split
  · rfl
  · rw [List.getElem?_eq_none (by omega)]
    rfl
theorem atI_nn {α : Type} {xs : List α} {i : Int} (h : 0 ≤ i) : L2.atI xs i = xs[i.toNat]? := by
  obtain ⟨k, rfl⟩ := Int.eq_ofNat_of_zero_le h
  exact atI_cast xs k
theorem ixN_nn {n : Nat} {i : Int} (h : 0 ≤ i) : L2.ixN n i = if i.toNat < n then some i.toNat else none := by
  obtain ⟨k, rfl⟩ := Int.eq_ofNat_of_zero_le h
  exact ixN_cast n k
@[simp] theorem atI_0 {α : Type} (xs : List α) : L2.atI xs 0 = xs[0]? := atI_cast xs 0
@[simp] theorem ixN_0 (n : Nat) : L2.ixN n 0 = if 0 < n then some 0 else none := ixN_cast n 0
@[simp] theorem atI_1 {α : Type} (xs : List α) : L2.atI xs 1 = xs[1]? := atI_cast xs 1
@[simp] theorem ixN_1 (n : Nat) : L2.ixN n 1 = if 1 < n then some 1 else none := ixN_cast n 1
@[simp] theorem atI_2 {α : Type} (xs : List α) : L2.atI xs 2 = xs[2]? := atI_cast xs 2
@[simp] theorem ixN_2 (n : Nat) : L2.ixN n 2 = if 2 < n then some 2 else none := ixN_cast n 2
@[simp] theorem atI_3 {α : Type} (xs : List α) : L2.atI xs 3 = xs[3]? := atI_cast xs 3
@[simp] theorem ixN_3 (n : Nat) : L2.ixN n 3 = if 3 < n then some 3 else none := ixN_cast n 3
@[simp] theorem atI_4 {α : Type} (xs : List α) : L2.atI xs 4 = xs[4]? := atI_cast xs 4
@[simp] theorem ixN_4 (n : Nat) : L2.ixN n 4 = if 4 < n then some 4 else none := ixN_cast n 4
@[simp] theorem atI_5 {α : Type} (xs : List α) : L2.atI xs 5 = xs[5]? := atI_cast xs 5
@[simp] theorem ixN_5 (n : Nat) : L2.ixN n 5 = if 5 < n then some 5 else none := ixN_cast n 5
@[simp] theorem atI_6 {α : Type} (xs : List α) : L2.atI xs 6 = xs[6]? := atI_cast xs 6
@[simp] theorem ixN_6 (n : Nat) : L2.ixN n 6 = if 6 < n then some 6 else none := ixN_cast n 6
@[simp] theorem atI_7 {α : Type} (xs : List α) : L2.atI xs 7 = xs[7]? := atI_cast xs 7
@[simp] theorem ixN_7 (n : Nat) : L2.ixN n 7 = if 7 < n then some 7 else none := ixN_cast n 7
@[simp] theorem atI_8 {α : Type} (xs : List α) : L2.atI xs 8 = xs[8]? := atI_cast xs 8
@[simp] theorem ixN_8 (n : Nat) : L2.ixN n 8 = if 8 < n then some 8 else none := ixN_cast n 8
@[simp] theorem atI_9 {α : Type} (xs : List α) : L2.atI xs 9 = xs[9]? := atI_cast xs 9
@[simp] theorem ixN_9 (n : Nat) : L2.ixN n 9 = if 9 < n then some 9 else none := ixN_cast n 9
/-- what stands at a place -/
theorem at_set {h : Heap} {p : Nat} {o o0 : Obj} (e : h[p]? = some o0) : (h.set p o)[p]? = some o := by
  rw [List.getElem?_set_self (List.getElem?_eq_some_iff.mp e).1]
theorem at_set_ne {h : Heap} {p q : Nat} {o : Obj} (e : p ≠ q) : (h.set p o)[q]? = h[q]? := List.getElem?_set_ne e
theorem at_push {h g : Heap} {p : Nat} {o0 : Obj} (e : h[p]? = some o0) : (h ++ g)[p]? = some o0 := by
  rw [List.getElem?_append_left (List.getElem?_eq_some_iff.mp e).1]
  exact e
/-- a body's run -/
theorem wR_runB {np nl : Nat} {mb : En → Heap → RS} {xs : List Val} {h : Heap} {E : Nat → Heap → Prop} {Q : Val → Heap → Prop} (hl : xs.length = np) :
    wR (runB np nl mb xs h) E Q = wS (mb (xs.map some ++ List.replicate (nl - np) none) h) { nx := fun _ h' => Q .non h', rt := Q, ex := E } := by
  unfold runB
  rw [if_pos hl]
  cases mb (xs.map some ++ List.replicate (nl - np) none) h <;> simp
/-- from the wish to the equation -/
theorem eq_of_wR {α : Type} {x : Res α} {a : α} {h : Heap} (w : wR x (fun _ _ => False) fun b h' => b = a ∧ h' = h) : x = .ok a h := by
  cases x with
  | ok b h' => obtain ⟨rfl, rfl⟩ := w; rfl
  | raised c h' => exact w.elim
  | stuck => exact w.elim
theorem ex_of_wR {α : Type} {x : Res α} {Q : α → Heap → Prop} (w : wR x (fun _ _ => False) Q) : ∃ a h, x = .ok a h ∧ Q a h := by
  cases x with
  | ok b h' => exact ⟨b, h', rfl, w⟩
  | raised c h' => exact w.elim
  | stuck => exact w.elim
/-- a loop by its invariant -/
theorem wS_forM {chk : Heap → Bool} {g : Val → En → Option En} {body : En → Heap → RS} {D : K4} (Inv : Nat → En → Heap → Prop) : ∀ (xs : List Val) (n : Nat) (s : En) (h : Heap), Inv n s h →
    (∀ i x s h, n ≤ i → xs[i - n]? = some x → Inv i s h → chk h = true ∧ ∃ s1, g x s = some s1 ∧ wS (body s1 h) { D with nx := Inv (i + 1), ct := Inv (i + 1), bk := D.nx }) →
    (∀ s h, Inv (n + xs.length) s h → chk h = true ∧ D.nx s h) → wS (forM_ chk g body xs s h) D
  | [], n, s, h, h0, _, hd => by
    unfold forM_
    obtain ⟨c, q⟩ := hd s h h0
    simp [c, q]
  | x :: xs, n, s, h, h0, hs, hd => by
    unfold forM_
    obtain ⟨c, s1, e, w⟩ := hs n x s h (Nat.le_refl _) (by simp) h0
    rw [if_pos c, e]
    have ih := fun s2 h2 q => wS_forM (D := D) Inv xs (n + 1) s2 h2 q (fun i x s h hi hx => hs i x s h (by omega) (by
      have : i - n = (i - (n + 1)) + 1 := by omega
      rw [this]
      simpa using hx)) (fun s h q => hd s h (by
        have : n + (x :: xs).length = n + 1 + xs.length := by simp; omega
        rw [this]
        exact q))
    simp only
    cases eb : body s1 h with
    | nx s2 h2 => rw [eb] at w; exact ih s2 h2 w
    | ct s2 h2 => rw [eb] at w; exact ih s2 h2 w
    | bk s2 h2 => rw [eb] at w; exact w
    | rt v h2 => rw [eb] at w; exact w
    | raised c h2 => rw [eb] at w; exact w
    | stuck => rw [eb] at w; exact w
end PyM
namespace PyM
theorem wRB {np nl : Nat} {mb : En → Heap → RS} {xs : List Val} {h : Heap} {E : Nat → Heap → Prop} {Q : Val → Heap → Prop} (hl : xs.length = np)
    (w : wS (mb (xs.map some ++ List.replicate (nl - np) none) h) { nx := fun _ h' => Q .non h', rt := Q, ex := E }) : wR (runB np nl mb xs h) E Q := by
  rw [wR_runB hl]
  exact w
end PyM
namespace PyM
theorem wS_forM_nil {chk : Heap → Bool} {g : Val → En → Option En} {body : En → Heap → RS} {D : K4} {s : En} {h : Heap} : wS (forM_ chk g body [] s h) D = (chk h = true ∧ D.nx s h) := by
  unfold forM_
  by_cases c : chk h = true <;> simp [c]
theorem wS_forM_cons {chk : Heap → Bool} {g : Val → En → Option En} {body : En → Heap → RS} {D : K4} {s : En} {h : Heap} {x : Val} {xs : List Val} :
    wS (forM_ chk g body (x :: xs) s h) D = (chk h = true ∧ match g x s with
      | some s1 => wS (body s1 h) { D with nx := fun s2 h2 => wS (forM_ chk g body xs s2 h2) D, ct := fun s2 h2 => wS (forM_ chk g body xs s2 h2) D, bk := D.nx }
      | none => False) := by
  rw [forM_]
  by_cases c : chk h = true
  · rw [if_pos c]
    cases e : g x s with
    | none => simp
    | some s1 =>
      simp only [c, true_and]
      cases body s1 h <;> rfl
  · simp [c]
theorem eq_nx {x : RS} {s : En} {h : Heap} (w : wS x { nx := fun s' h' => s' = s ∧ h' = h, rt := fun _ _ => False }) : x = .nx s h := by
  cases x with
  | nx a b => obtain ⟨rfl, rfl⟩ := w; rfl
  | _ => exact w.elim
theorem eq_rt {x : RS} {v : Val} {h : Heap} (w : wS x { nx := fun _ _ => False, rt := fun s' h' => s' = v ∧ h' = h }) : x = .rt v h := by
  cases x with
  | rt a b => obtain ⟨rfl, rfl⟩ := w; rfl
  | _ => exact w.elim
theorem wS_of {x y : RS} {D : K4} (e : x = y) (w : wS y D) : wS x D := by rw [e]; exact w
theorem set_set {h : Heap} {p : Nat} {a b : Obj} : (h.set p a).set p b = h.set p b := List.set_set ..
end PyM
namespace PyM
/-! ### comprehensions -/
theorem wR_lcM {chk : Heap → Bool} {tg : Val → En → Option En} {mt : En → Heap → Res Bool} {me : En → Heap → Res Val} {s0 : En} {n : Nat} {E : Nat → Heap → Prop} {QU : Unit → Heap → Prop} (Inv : Nat → List Val → Heap → Prop) : ∀ (xs : List Val) (k : Nat) (acc : List Val) (h : Heap), Inv k acc h →
    (∀ i x acc h, k ≤ i → xs[i - k]? = some x → Inv i acc h → chk h = true ∧ ∃ s2, tg x s0 = some s2 ∧ wR (mt s2 h) (fun _ _ => False) fun b h1 => if b = true then wR (me s2 h1) (fun _ _ => False) fun y h2 => h2[n]? = some (.lst acc) ∧ acc.length < lim ∧ Inv (i + 1) (acc ++ [y]) (h2.set n (.lst (acc ++ [y]))) else Inv (i + 1) acc h1) →
    (∀ acc h, Inv (k + xs.length) acc h → chk h = true ∧ QU () h) → wR (lcM chk tg mt me s0 n xs h) E QU
  | [], k, acc, h, h0, _, hd => by
    unfold lcM
    obtain ⟨c, q⟩ := hd acc h h0
    simp [c, q]
  | x :: xs, k, acc, h, h0, hs, hd => by
    rw [lcM]
    obtain ⟨c, s2, e, w⟩ := hs k x acc h (Nat.le_refl _) (by simp) h0
    have ih := fun acc h q => wR_lcM (E := E) (QU := QU) Inv xs (k + 1) acc h q (fun i x acc h hi hx => hs i x acc h (by omega) (by
      have : i - k = (i - (k + 1)) + 1 := by omega
      rw [this]
      simpa using hx)) (fun acc h q => hd acc h (by
        have : k + (x :: xs).length = k + 1 + xs.length := by simp; omega
        rw [this]
        exact q))
    rw [if_pos c, e]
    simp only
    cases em : mt s2 h with
    | ok b h1 =>
      rw [em] at w
      simp only [wR_ok] at w
      by_cases hb : b = true
      · subst hb
        rw [if_pos rfl] at w
        simp only [if_true]
        cases ee : me s2 h1 with
        | ok y h2 =>
          rw [ee] at w
          simp only [wR_ok] at w
          obtain ⟨w1, w2, w3⟩ := w
          simp only [w1, w2, if_true]
          exact ih _ _ w3
        | raised a b => rw [ee] at w; exact w.elim
        | stuck => rw [ee] at w; exact w.elim
      · rw [if_neg hb] at w
        simp only [if_neg hb]
        exact ih _ _ w
    | raised a b => rw [em] at w; exact w.elim
    | stuck => rw [em] at w; exact w.elim
@[simp ↓] theorem wR_mLc {mi : MI} {tg : Val → En → Option En} {mt : En → Heap → Res Bool} {me : En → Heap → Res Val} {vs : List Nat} {s : En} {h : Heap} {E : Nat → Heap → Prop} {Q : Val → Heap → Prop} :
    wR (mLc mi tg mt me vs s h) E Q = wR (mi s h) E fun S h1 => wR (lcM S.chk tg mt me (wipeE s vs) h1.length S.items (h1 ++ [.lst []])) E fun _ h2 => Q (.ref h1.length) h2 := by
  unfold mLc
  simp
theorem at_len {h : Heap} {o : Obj} : (h ++ [o])[h.length]? = some o := by simp
theorem set_len {h : Heap} {o o' : Obj} : (h ++ [o]).set h.length o' = h ++ [o'] := by simp
/-- .. where the items leave the heap as it is -/
theorem wR_lcPure {chk : Heap → Bool} {tg : Val → En → Option En} {mt : En → Heap → Res Bool} {me : En → Heap → Res Val} {s0 : En} {E : Nat → Heap → Prop} {QU : Unit → Heap → Prop} {h : Heap} (p : Val → Bool) (f : Val → Val) {xs : List Val} (hl : xs.length < lim)
    (hc : ∀ acc, chk (h ++ [.lst acc]) = true)
    (ht : ∀ x acc, x ∈ xs → ∃ s2, tg x s0 = some s2 ∧ wR (mt s2 (h ++ [.lst acc])) (fun _ _ => False) (fun b h1 => b = p x ∧ h1 = h ++ [.lst acc]) ∧ (p x = true → wR (me s2 (h ++ [.lst acc])) (fun _ _ => False) fun y h2 => y = f x ∧ h2 = h ++ [.lst acc]))
    (q : QU () (h ++ [.lst ((xs.filter p).map f)])) : wR (lcM chk tg mt me s0 h.length xs (h ++ [.lst []])) E QU := by
  refine wR_lcM (fun i acc h' => i ≤ xs.length ∧ acc = ((xs.take i).filter p).map f ∧ h' = h ++ [.lst acc]) xs 0 [] _ ⟨Nat.zero_le _, rfl, rfl⟩ ?_ ?_
  · rintro i x acc h' _ hx ⟨hi, ea, rfl⟩
    simp only [Nat.sub_zero] at hx
    have hlt : i < xs.length := (List.getElem?_eq_some_iff.mp hx).1
    obtain ⟨s2, e, w1, w2⟩ := ht x acc (List.mem_of_getElem? hx)
    refine ⟨hc acc, s2, e, wR_mono w1 ?_⟩
    rintro b h1 ⟨rfl, rfl⟩
    have tk : xs.take (i + 1) = xs.take i ++ [x] := by
      rw [List.take_add_one, hx]
      rfl
    have al : acc.length < lim := by
      rw [ea, List.length_map]
      have := List.length_filter_le p (xs.take i)
      have := List.length_take_le i xs
      omega
    by_cases hp : p x = true
    · rw [if_pos hp]
      refine wR_mono (w2 hp) ?_
      rintro y h2 ⟨rfl, rfl⟩
      refine ⟨at_len, al, hlt, ?_, set_len⟩
      rw [tk, List.filter_append, List.map_append, ← ea]
      simp [hp]
    · rw [if_neg hp]
      refine ⟨hlt, ?_, rfl⟩
      rw [tk, List.filter_append, List.map_append, ← ea]
      simp [hp]
  · rintro acc h' ⟨_, ea, rfl⟩
    refine ⟨hc _, ?_⟩
    rw [ea]
    simpa using q
@[simp ↓] theorem wR_iLst {m : En → Heap → Res Val} {s : En} {h : Heap} {E : Nat → Heap → Prop} {Q : Src → Heap → Prop} : wR (iLst m s h) E Q = wR (m s h) E fun x h1 => (match x with
    | .ref a => (match h1[a]? with | some (.lst xs) => Q ⟨xs, lstIs a xs⟩ h1 | some (.fls xs) => Q ⟨xs, lstIs a xs⟩ h1 | _ => False)
    | _ => False) := by
  unfold iLst
  simp only [wR_bind]
  congr; funext x h1
  split
  · split <;> simp_all
  · simp_all
theorem wR_iAlt {m n : MI} {s : En} {h : Heap} {E : Nat → Heap → Prop} {Q : Src → Heap → Prop} (w : wR (m s h) E Q ∨ (m s h = .stuck ∧ wR (n s h) E Q)) : wR (iAlt m n s h) E Q := by
  unfold iAlt
  rcases w with w | ⟨e, w⟩
  · cases e : m s h with
    | stuck => rw [e] at w; exact w.elim
    | ok a b => rw [e] at w; exact w
    | raised a b => rw [e] at w; exact w
  · rw [e]; exact w
/-- a walked name that holds a list -/
@[simp ↓] theorem wR_iAltV {i : Nat} {s : En} {h : Heap} {E : Nat → Heap → Prop} {Q : Src → Heap → Prop} : wR (iAlt (iLst (mV i)) (iTup_ (mV i)) s h) E Q = (match s[i]? with
    | some (some (.ref a)) => (match h[a]? with | some (.lst xs) => Q ⟨xs, lstIs a xs⟩ h | some (.fls xs) => Q ⟨xs, lstIs a xs⟩ h | _ => False)
    | some (some (.tup xs)) => Q ⟨xs, fun _ => true⟩ h
    | _ => False) := by
  unfold iAlt iLst iTup_ mV
  cases e : s[i]? with
  | none => simp [Res.bind]
  | some o => cases o with
    | none => simp [Res.bind]
    | some x => cases x with
      | ref a =>
        simp only [Res.bind]
        cases e2 : h[a]? with
        | none => simp
        | some o => cases o <;> simp
      | _ => simp [Res.bind]
theorem lstIs_at {a : Nat} {xs : List Val} {h : Heap} (e : h[a]? = some (.lst xs)) : lstIs a xs h = true := by simp [lstIs, e]
@[simp ↓] theorem wR_bAll {a : Nat} {h : Heap} {E : Nat → Heap → Prop} {Q : Val → Heap → Prop} : wR (bAll [.ref a] h) E Q = (match seqOf (.ref a) h with | some ys => (match optAll asBl ys with | some bs => Q (.bl (bs.all id)) h | none => False) | none => False) := by
  first | unfold bAll bSeq | unfold bAny bSeq | unfold bSum bSeq
  simp only
  split
  · split <;> simp_all
  · simp_all
@[simp ↓] theorem wR_bAny {a : Nat} {h : Heap} {E : Nat → Heap → Prop} {Q : Val → Heap → Prop} : wR (bAny [.ref a] h) E Q = (match seqOf (.ref a) h with | some ys => (match optAll asBl ys with | some bs => Q (.bl (bs.any id)) h | none => False) | none => False) := by
  first | unfold bAll bSeq | unfold bAny bSeq | unfold bSum bSeq
  simp only
  split
  · split <;> simp_all
  · simp_all
@[simp ↓] theorem wR_bSum {a : Nat} {h : Heap} {E : Nat → Heap → Prop} {Q : Val → Heap → Prop} : wR (bSum [.ref a] h) E Q = (match seqOf (.ref a) h with | some ys => (match optAll asInt ys with | some bs => Q (.int bs.sum) h | none => False) | none => False) := by
  first | unfold bAll bSeq | unfold bAny bSeq | unfold bSum bSeq
  simp only
  split
  · split <;> simp_all
  · simp_all
theorem optAll_map {α β γ : Type} {f : β → Option γ} {g : α → β} {k : α → γ} (h : ∀ x, f (g x) = some (k x)) : ∀ xs : List α, optAll f (xs.map g) = some (xs.map k)
  | [] => rfl
  | x :: xs => by simp [optAll, h, optAll_map h xs]
theorem seqOf_at {a : Nat} {xs : List Val} {h : Heap} (e : h[a]? = some (.lst xs)) : seqOf (.ref a) h = some xs := by simp [seqOf, e]
end PyM
namespace PyM
theorem wR_lcMap {chk : Heap → Bool} {tg : Val → En → Option En} {me : En → Heap → Res Val} {s0 : En} {E : Nat → Heap → Prop} {QU : Unit → Heap → Prop} {h : Heap} (f : Val → Val) {xs : List Val} (hl : xs.length < lim)
    (hc : ∀ acc, chk (h ++ [.lst acc]) = true)
    (ht : ∀ x acc, x ∈ xs → ∃ s2, tg x s0 = some s2 ∧ wR (me s2 (h ++ [.lst acc])) (fun _ _ => False) fun y h2 => y = f x ∧ h2 = h ++ [.lst acc])
    (q : QU () (h ++ [.lst (xs.map f)])) : wR (lcM chk tg tTrue me s0 h.length xs (h ++ [.lst []])) E QU := by
  refine wR_lcPure (fun _ => true) f hl hc (fun x acc hx => ?_) ?_
  · obtain ⟨s2, e, w⟩ := ht x acc hx
    exact ⟨s2, e, ⟨rfl, rfl⟩, fun _ => w⟩
  · have : xs.filter (fun _ => true) = xs := List.filter_eq_self.mpr (fun _ _ => rfl)
    rw [this]
    exact q
end PyM
namespace PyM
section
variable {E : Nat → Heap → Prop} {Q : Val → Heap → Prop} {h : Heap} {a b : Nat} {lo hi : Option Int} {xs : List Val} {y : Val}
@[simp ↓] theorem wR_oAddL : wR (oAdd (.ref a) (.ref b) h) E Q = (match h[a]?, h[b]? with | some (.lst xs), some (.lst ys) => xs.length + ys.length ≤ lim ∧ Q (.ref h.length) (h ++ [.lst (xs ++ ys)]) | _, _ => False) := by
  unfold oAdd; simp only; split
  · simp only [wR_ite, wR_ok, wR_stuck, ite_and']
    all_goals simp_all
  · simp_all
@[simp ↓] theorem wR_oSlT : wR (oSl (.tup xs) lo hi h) E Q = Q (.tup (cut xs lo hi)) h := rfl
@[simp ↓] theorem wR_oSlL : wR (oSl (.ref a) lo hi h) E Q = (match h[a]? with | some (.lst xs) => Q (.ref h.length) (h ++ [.lst (cut xs lo hi)]) | some (.fls xs) => Q (.ref h.length) (h ++ [.lst (cut xs lo hi)]) | _ => False) := by
  unfold oSl; simp only; split <;> simp_all
@[simp ↓] theorem wR_bCount : wR (bCount (.ref a) [y] h) E Q = (match h[a]? with | some (.lst ys) => (isFlat y = true ∧ ys.all isFlat = true) ∧ Q (.int ((ys.countP fun z => feq z y : Nat) : Int)) h | _ => False) := by
  unfold bCount; simp only; split
  · simp only [wR_ite, wR_ok, wR_stuck, ite_and']
    all_goals simp_all
  · simp_all
end
open PySem L2 in
theorem cut_from {k : Nat} (xs : List Val) : cut xs (some (k : Int)) none = xs.drop k := by
  unfold cut
  rw [HT.sIx_none, HT.sIx_nat]
  by_cases h : k ≤ xs.length
  · rw [Nat.min_eq_left h, List.take_of_length_le (by simp)]
  · rw [Nat.min_eq_right (by omega)]
    simp
    omega
theorem cut_from1 (xs : List Val) : cut xs (some 1) none = xs.drop 1 := cut_from (k := 1) xs
end PyM
namespace PyM
/-! ### == of plain values: no bools, no objects -/
mutual
def Val.d : Val → D
  | .non => .non
  | .bl b => .bl b
  | .int i => .int i
  | .str n => .str n
  | .tup xs => .tup (Val.ds xs)
  | .ref _ => .non
def Val.ds : List Val → List D
  | [] => []
  | x :: xs => x.d :: Val.ds xs
end
def pl : Nat → Val → Bool
  | 0, _ => false
  | n + 1, v => match v with
    | .non => true
    | .int _ => true
    | .str _ => true
    | .tup xs => xs.all (pl n)
    | .bl _ => false
    | .ref _ => false
theorem optAll_ds {f : Val → Option D} : ∀ {xs : List Val}, (∀ x ∈ xs, f x = some x.d) → optAll f xs = some (Val.ds xs)
  | [], _ => rfl
  | x :: xs, h => by
    rw [optAll, h x (by simp), optAll_ds (fun y hy => h y (by simp [hy]))]
    rfl
theorem conv_pl {h : Heap} : ∀ (n : Nat) (x : Val), pl n x = true → conv n h x = some x.d
  | 0, _, e => by simp [pl] at e
  | n + 1, x, e => by
    cases x with
    | tup xs =>
      simp only [pl, List.all_eq_true] at e
      simp only [conv, Val.d]
      rw [optAll_ds (fun y hy => conv_pl n y (e y hy))]
      rfl
    | bl b => simp [pl] at e
    | ref b => simp [pl] at e
    | _ => rfl
mutual
theorem deq_pl : ∀ (x y : Val) (n m : Nat), pl n x = true → pl m y = true → deq x.d y.d = decide (x = y)
  | x, y, 0, _, e, _ => by simp [pl] at e
  | x, y, _, 0, _, e => by simp [pl] at e
  | .tup xs, y, n + 1, m + 1, h1, h2 => by
    cases y with
    | tup ys =>
      simp only [pl] at h1 h2
      simp only [Val.d, deq]
      rw [deqs_pl xs ys n m h1 h2]
      by_cases e : xs = ys <;> simp [e]
    | _ => simp [Val.d, deq]
  | .non, y, n + 1, m + 1, h1, h2 => by cases y <;> simp [Val.d, deq, pl] at h2 ⊢
  | .int i, y, n + 1, m + 1, h1, h2 => by
    cases y with
    | int j => by_cases e : i = j <;> simp [Val.d, deq, e]
    | bl b => simp [pl] at h2
    | _ => simp [Val.d, deq, pl] at h2 ⊢
  | .str i, y, n + 1, m + 1, h1, h2 => by
    cases y with
    | str j => by_cases e : i = j <;> simp [Val.d, deq, e]
    | bl b => simp [pl] at h2
    | _ => simp [Val.d, deq, pl] at h2 ⊢
  | .bl _, y, n + 1, m + 1, h1, h2 => by simp [pl] at h1
  | .ref _, y, n + 1, m + 1, h1, h2 => by simp [pl] at h1
theorem deqs_pl : ∀ (xs ys : List Val) (n m : Nat), xs.all (pl n) = true → ys.all (pl m) = true → deqs (Val.ds xs) (Val.ds ys) = decide (xs = ys)
  | [], [], _, _, _, _ => rfl
  | [], _ :: _, _, _, _, _ => by simp [Val.ds, deqs]
  | _ :: _, [], _, _, _, _ => by simp [Val.ds, deqs]
  | x :: xs, y :: ys, n, m, h1, h2 => by
    rw [List.all_cons, Bool.and_eq_true] at h1 h2
    rw [Val.ds, Val.ds, deqs, deq_pl x y n m h1.1 h2.1, deqs_pl xs ys n m h1.2 h2.2]
    by_cases e : x = y <;> by_cases e2 : xs = ys <;> simp [e, e2]
end
theorem oEq_pl {neg : Bool} {x y : Val} {h : Heap} (hx : pl 60 x = true) (hy : pl 60 y = true) : oEq neg x y h = .ok (.bl (if neg then !decide (x = y) else decide (x = y))) h := by
  unfold oEq
  rw [conv_pl 60 x hx, conv_pl 60 y hy]
  simp only [deq_pl x y 60 60 hx hy]
theorem conv_lst {h : Heap} {a : Nat} {xs : List Val} (ea : h[a]? = some (.lst xs)) (hx : xs.all (pl 59) = true) : conv 60 h (.ref a) = some (.lst (Val.ds xs)) := by
  rw [conv]
  simp only [ea]
  rw [optAll_ds (fun x hx' => conv_pl 59 x (List.all_eq_true.mp hx x hx'))]
  rfl
theorem oEq_lst {neg : Bool} {a b : Nat} {xs ys : List Val} {h : Heap} (ea : h[a]? = some (.lst xs)) (eb : h[b]? = some (.lst ys)) (hx : xs.all (pl 59) = true) (hy : ys.all (pl 59) = true) :
    oEq neg (.ref a) (.ref b) h = .ok (.bl (if neg then !decide (xs = ys) else decide (xs = ys))) h := by
  unfold oEq
  rw [conv_lst ea hx, conv_lst eb hy]
  simp only [deq, deqs_pl xs ys 59 59 hx hy]
end PyM
namespace PyM
def Ext (h h' : Heap) : Prop := ∃ g, h' = h ++ g
theorem Ext.refl (h : Heap) : Ext h h := ⟨[], by simp⟩
theorem Ext.app {h h' : Heap} (e : Ext h h') (g : Heap) : Ext h (h' ++ g) := by
  obtain ⟨k, rfl⟩ := e
  exact ⟨k ++ g, by simp⟩
theorem Ext.set {h h' : Heap} (e : Ext h h') {p : Nat} (hp : h.length ≤ p) (o : Obj) : Ext h (h'.set p o) := by
  obtain ⟨k, rfl⟩ := e
  exact ⟨k.set (p - h.length) o, by rw [List.set_append_right _ _ hp]⟩
theorem Ext.at {h h' : Heap} (e : Ext h h') {p : Nat} {o : Obj} (hp : h[p]? = some o) : h'[p]? = some o := by
  obtain ⟨k, rfl⟩ := e
  exact at_push hp
theorem Ext.trans {a b c : Heap} (x : Ext a b) (y : Ext b c) : Ext a c := by
  obtain ⟨g, rfl⟩ := x
  obtain ⟨k, rfl⟩ := y
  exact ⟨g ++ k, List.append_assoc _ _ _⟩
theorem Ext.le {h h' : Heap} (e : Ext h h') : h.length ≤ h'.length := by
  obtain ⟨k, rfl⟩ := e
  simp
theorem rangeV_length {lo : Int} {n : Nat} : (rangeV lo n).length = n := by simp [rangeV]
/-- a loop over range(n) by its invariant -/
theorem wS_range {g : Val → En → Option En} {body : En → Heap → RS} {D : K4} {n : Nat} {s : En} {h : Heap} (Inv : Nat → En → Heap → Prop) (h0 : Inv 0 s h)
    (hs : ∀ (i : Nat) s h, i < n → Inv i s h → ∃ s1, g (.int (i : Int)) s = some s1 ∧ wS (body s1 h) { D with nx := Inv (i + 1), ct := Inv (i + 1), bk := D.nx })
    (hd : ∀ s h, Inv n s h → D.nx s h) : wS (forM_ (fun _ => true) g body (rangeV 0 n) s h) D := by
  refine wS_forM Inv _ 0 s h h0 (fun i x s h _ hx hi => ⟨rfl, ?_⟩) (fun s h hi => ⟨rfl, hd s h (by rw [Nat.zero_add, rangeV_length] at hi; exact hi)⟩)
  rw [Nat.sub_zero, rangeV_get] at hx
  split at hx
  · rename_i hlt
    cases hx
    rw [Int.zero_add]
    exact hs i s h hlt hi
  · cases hx
end PyM
namespace PyM
theorem lc_at {n : Nat} {h0 h : Heap} {chk : Heap → Bool} {tg : Val → En → Option En} {mt : En → Heap → Res Bool} {me : En → Heap → Res Val} {s0 : En} {E : Nat → Heap → Prop} {QU : Unit → Heap → Prop} {xs : List Val} (hn : n = h.length) (hh : h0 = h ++ [.lst []]) (w : wR (lcM chk tg mt me s0 h.length xs (h ++ [.lst []])) E QU) : wR (lcM chk tg mt me s0 n xs h0) E QU := by
  subst hn hh
  exact w
theorem at_app {h g : Heap} {n : Nat} {o : Obj} (k : Nat) (e : n = h.length + k) (q : g[k]? = some o) : (h ++ g)[n]? = some o := by
  subst e; rw [List.getElem?_append_right (by omega), Nat.add_sub_cancel_left]; exact q
theorem wS_mono {x : RS} {D D' : K4} (w : wS x D) (n : ∀ s h, D.nx s h → D'.nx s h) (r : ∀ v h, D.rt v h → D'.rt v h) (b : ∀ s h, D.bk s h → D'.bk s h) (c : ∀ s h, D.ct s h → D'.ct s h) (e : ∀ k h, D.ex k h → D'.ex k h) : wS x D' := by
  cases x
  · exact n _ _ w
  · exact r _ _ w
  · exact b _ _ w
  · exact c _ _ w
  · exact e _ _ w
  · exact w
end PyM

set_option Elab.async false
set_option linter.all false
set_option autoImplicit false
set_option maxHeartbeats 4000000
/-! frames of heaps, the tape, comprehensions that make room, bits -/
namespace PyM
/-- at most the object p has changed; there may be more objects -/
def Fr (p : Nat) (h h' : Heap) : Prop := h.length ≤ h'.length ∧ ∀ q, q ≠ p → q < h.length → h'[q]? = h[q]?
theorem Fr.refl (p : Nat) (h : Heap) : Fr p h h := ⟨Nat.le_refl _, fun _ _ _ => rfl⟩
theorem Fr.trans {p : Nat} {a b c : Heap} (x : Fr p a b) (y : Fr p b c) : Fr p a c := ⟨Nat.le_trans x.1 y.1, fun q h1 h2 => by rw [y.2 q h1 (Nat.lt_of_lt_of_le h2 x.1), x.2 q h1 h2]⟩
theorem Ext.fr {a b : Heap} (x : Ext a b) (p : Nat) : Fr p a b := by
  obtain ⟨g, rfl⟩ := x
  exact ⟨by simp, fun q _ h2 => List.getElem?_append_left h2⟩
theorem Fr.at {p : Nat} {h h' : Heap} (x : Fr p h h') {q : Nat} {o : Obj} (hq : q ≠ p) (e : h[q]? = some o) : h'[q]? = some o := by
  rw [x.2 q hq (List.getElem?_eq_some_iff.mp e).1]; exact e
theorem Fr.set {p : Nat} {h h' : Heap} (x : Fr p h h') (o : Obj) : Fr p h (h'.set p o) :=
  ⟨by rw [List.length_set]; exact x.1, fun q h1 h2 => by rw [at_set_ne (Ne.symm h1)]; exact x.2 q h1 h2⟩
theorem Fr.push {p : Nat} {h h' : Heap} (x : Fr p h h') (g : Heap) : Fr p h (h' ++ g) := x.trans (Ext.fr ⟨g, rfl⟩ p)
/-- a change of an object that is younger -/
theorem Fr.new {p : Nat} {h h' : Heap} (x : Fr p h h') {q : Nat} (hq : h.length ≤ q) (o : Obj) : Fr p h (h'.set q o) :=
  ⟨by rw [List.length_set]; exact x.1, fun r h1 h2 => by rw [at_set_ne (by omega)]; exact x.2 r h1 h2⟩
theorem at_lt {h : Heap} {q : Nat} {o : Obj} (e : h[q]? = some o) : q < h.length := (List.getElem?_eq_some_iff.mp e).1
/-- the tape of a script -/
def TP (p a : Nat) (ns : List Int) (h : Heap) : Prop := p ≠ a ∧ h[a]? = some (.lst (ns.map Val.int)) ∧ ∃ i r t, 0 ≤ i ∧ h[p]? = some (.lst [.ref a, .int i, .int r, .int t])
theorem TP.ext {p a : Nat} {ns : List Int} {h h' : Heap} (T : TP p a ns h) (x : Ext h h') : TP p a ns h' := by
  obtain ⟨ne, T, i, r, t, i0, e⟩ := T
  exact ⟨ne, x.at T, i, r, t, i0, x.at e⟩
theorem TP.push {p a : Nat} {ns : List Int} {h : Heap} (T : TP p a ns h) (g : Heap) : TP p a ns (h ++ g) := T.ext ⟨g, rfl⟩
theorem TP.fr {p a q : Nat} {ns : List Int} {h h' : Heap} (T : TP p a ns h) (x : Fr q h h') (h1 : p ≠ q) (h2 : a ≠ q) : TP p a ns h' := by
  obtain ⟨ne, T, i, r, t, i0, e⟩ := T
  exact ⟨ne, x.at h2 T, i, r, t, i0, x.at h1 e⟩
theorem TP.set {p a q : Nat} {ns : List Int} {h : Heap} (T : TP p a ns h) (h1 : p ≠ q) (h2 : a ≠ q) (o : Obj) : TP p a ns (h.set q o) := by
  obtain ⟨ne, T, i, r, t, i0, e⟩ := T
  exact ⟨ne, by rw [at_set_ne (Ne.symm h2)]; exact T, i, r, t, i0, by rw [at_set_ne (Ne.symm h1)]; exact e⟩
theorem TP.lt {p a : Nat} {ns : List Int} {h : Heap} (T : TP p a ns h) : p < h.length ∧ a < h.length := by
  obtain ⟨ne, T, i, r, t, i0, e⟩ := T
  exact ⟨at_lt e, at_lt T⟩
def m_next : List Val → Heap → Res Val := runB 2 4
    (sSeq (sAsg (gV 2) (mB oIx (mV 0) (mK (.int 2))))
    (sSeq (sIf (tB_ (mB oGt (mV 2) (mK (.int 0)))) (sSeq (sSub (mV 0) (mK (.int 2)) (mB oFd (mV 2) (mV 1)))
    (sRet (mB oMd (mL bInt (mCons (mV 2) (mNil))) (mV 1)))) (sNx))
    (sSeq (sAsg (gV 3) (mK (.int 0)))
    (sSeq (sIf (tB_ (mB oLt (mB oIx (mV 0) (mK (.int 1))) (mL bLen (mCons (mB oIx (mV 0) (mK (.int 0))) (mNil))))) (sSeq (sAsg (gV 3) (mL bAbs (mCons (mB oIx (mB oIx (mV 0) (mK (.int 0))) (mB oIx (mV 0) (mK (.int 1)))) (mNil))))
    (sSubA (oI fun i j => .int (i + j)) (mV 0) (mK (.int 1)) (mK (.int 1)))) (sNx))
    (sSeq (sIf (tB_ (mB oGe (mV 3) (mB oPw (mK (.int 10)) (mK (.int 18))))) (sSeq (sSub (mV 0) (mK (.int 2)) (mB oFd (mV 3) (mV 1)))
    (sRet (mB oMd (mL bInt (mCons (mV 3) (mNil))) (mV 1)))) (sNx))
    (sSeq (sSub (mV 0) (mK (.int 3)) (mB oMd (mL bInt (mCons (mB oAdd (mB oAdd (mB oMul (mB oIx (mV 0) (mK (.int 3))) (mK (.int 48271))) (mB oMul (mV 3) (mK (.int 69621)))) (mK (.int 11))) (mNil))) (mK (.int 2147483647))))
    (sRet (mB oMd (mL bInt (mCons (mB oFd (mB oMd (mB oMul (mB oIx (mV 0) (mK (.int 3))) (mK (.int 16807))) (mK (.int 2147483647))) (mK (.int 7))) (mNil))) (mV 1)))))))))
theorem TP.next {f : List Val → Heap → Res Val} (hf : f = m_next) {h : Heap} {p a : Nat} {ns : List Int} (T : TP p a ns h) {n : Int} (hn : 0 < n) (hn2 : n < 1073741824) :
    ∃ v h', 0 ≤ v ∧ v < n ∧ f [.ref p, .int n] h = .ok (.int v) h' ∧ TP p a ns h' ∧ Fr p h h' ∧ h'.length = h.length := by
  subst hf
  obtain ⟨ne, ha, i, r, t, hi, hp⟩ := T
  have md : ∀ x : Int, 0 ≤ x % n ∧ x % n < n := fun x => ⟨Int.emod_nonneg _ (by omega), Int.emod_lt_of_pos _ hn⟩
  have mk : ∀ (v i' r' t' : Int), 0 ≤ v → v < n → 0 ≤ i' → ∃ w : Int, 0 ≤ w ∧ w < n ∧ v = w ∧ TP p a ns (h.set p (.lst [.ref a, .int i', .int r', .int t'])) ∧ Fr p h (h.set p (.lst [.ref a, .int i', .int r', .int t'])) ∧ (h.set p (.lst [.ref a, .int i', .int r', .int t'])).length = h.length :=
    fun v i' r' t' v0 vn i0 => ⟨v, v0, vn, rfl, ⟨ne, by rw [at_set_ne ne]; exact ha, i', r', t', i0, at_set hp⟩, (Fr.refl p h).set _, by simp⟩
  have w : wR (m_next [.ref p, .int n] h) (fun _ _ => False) (fun x h' => ∃ w : Int, 0 ≤ w ∧ w < n ∧ x = .int w ∧ TP p a ns h' ∧ Fr p h h' ∧ h'.length = h.length) := by
    unfold m_next
    refine wRB rfl ?_
    have mk' : ∀ (v i' r' t' : Int), 0 ≤ v → v < n → 0 ≤ i' → ∃ w : Int, 0 ≤ w ∧ w < n ∧ Val.int v = .int w ∧ TP p a ns (h.set p (.lst [.ref a, .int i', .int r', .int t'])) ∧ Fr p h (h.set p (.lst [.ref a, .int i', .int r', .int t'])) ∧ (h.set p (.lst [.ref a, .int i', .int r', .int t'])).length = h.length :=
      fun v i' r' t' v0 vn i0 => by obtain ⟨w, a, b, c, d⟩ := mk v i' r' t' v0 vn i0; exact ⟨w, a, b, by rw [c], d⟩
    generalize hQ : (fun (x : Val) (h' : Heap) => ∃ w : Int, 0 ≤ w ∧ w < n ∧ x = .int w ∧ TP p a ns h' ∧ Fr p h h' ∧ h'.length = h.length) = Q
    have mq : ∀ (v i' r' t' : Int), 0 ≤ v → v < n → 0 ≤ i' → Q (.int v) (h.set p (.lst [.ref a, .int i', .int r', .int t'])) := by rw [← hQ]; exact mk'
    by_cases hr : 0 < r
    · simp [hp, ha, hn, hn2, gV, hr, at_set hp]
      exact mq _ _ _ _ (md _).1 (md _).2 hi
    · by_cases hl : i < (ns.length : Int)
      · obtain ⟨z, hz⟩ : ∃ z, ns[i.toNat]? = some z := ⟨_, List.getElem?_eq_getElem (by omega)⟩
        by_cases hc : 1000000000000000000 ≤ (if z < 0 then -z else z)
        · simp [hp, ha, hn, hn2, gV, hr, at_set hp, hl, atI_nn hi, hz, cPow, hc]
          exact mq _ _ _ _ (md _).1 (md _).2 (by omega)
        · simp [hp, ha, hn, hn2, gV, hr, at_set hp, hl, atI_nn hi, hz, cPow, hc]
          exact mq _ _ _ _ (md _).1 (md _).2 (by omega)
      · simp [hp, ha, hn, hn2, gV, hr, at_set hp, hl, cPow]
        exact mq _ _ _ _ (md _).1 (md _).2 (by omega)
  obtain ⟨x, h', e, v, h1, h2, rfl, h3⟩ := ex_of_wR w
  exact ⟨v, h', h1, h2, e, h3⟩
def m_next2 : List Val → Heap → Res Val := runB 2 4
    (sSeq (sAsg (gV 2) (mB oIx (mV 0) (mK (.int 2))))
    (sSeq (sIf (tB_ (mB (oEq false) (mV 2) (mK (.int 0)))) (sSeq (sAsg (gV 3) (mK (.int 0)))
    (sSeq (sIf (tB_ (mB oLt (mB oIx (mV 0) (mK (.int 1))) (mL bLen (mCons (mB oIx (mV 0) (mK (.int 0))) (mNil))))) (sSeq (sAsg (gV 3) (mL bAbs (mCons (mL bInt (mCons (mB oIx (mB oIx (mV 0) (mK (.int 0))) (mB oIx (mV 0) (mK (.int 1)))) (mNil))) (mNil))))
    (sSub (mV 0) (mK (.int 1)) (mB oAdd (mB oIx (mV 0) (mK (.int 1))) (mK (.int 1))))) (sNx))
    (sSeq (sAsg (gV 2) (mV 3))
    (sIf (tB_ (mB oLt (mV 3) (mB oPw (mK (.int 10)) (mK (.int 18))))) (sSeq (sSub (mV 0) (mK (.int 3)) (mB oMd (mL bInt (mCons (mB oAdd (mB oAdd (mB oMul (mB oIx (mV 0) (mK (.int 3))) (mK (.int 69621))) (mB oMul (mV 3) (mK (.int 40692)))) (mK (.int 17))) (mNil))) (mK (.int 2147483647))))
    (sRet (mB oMd (mB oMd (mL bInt (mCons (mB oMul (mB oFd (mB oIx (mV 0) (mK (.int 3))) (mK (.int 5))) (mK (.int 48271))) (mNil))) (mK (.int 2147483647))) (mV 1)))) (sNx))))) (sNx))
    (sSeq (sSub (mV 0) (mK (.int 2)) (mB oFd (mV 2) (mV 1)))
    (sRet (mB oMd (mL bInt (mCons (mV 2) (mNil))) (mV 1))))))
theorem TP.next2 {f : List Val → Heap → Res Val} (hf : f = m_next2) {h : Heap} {p a : Nat} {ns : List Int} (T : TP p a ns h) {n : Int} (hn : 0 < n) (hn2 : n < 1073741824) :
    ∃ v h', 0 ≤ v ∧ v < n ∧ f [.ref p, .int n] h = .ok (.int v) h' ∧ TP p a ns h' ∧ Fr p h h' ∧ h'.length = h.length := by
  subst hf
  obtain ⟨ne, ha, i, r, t, hi, hp⟩ := T
  have md : ∀ x : Int, 0 ≤ x % n ∧ x % n < n := fun x => ⟨Int.emod_nonneg _ (by omega), Int.emod_lt_of_pos _ hn⟩
  have w : wR (m_next2 [.ref p, .int n] h) (fun _ _ => False) (fun x h' => ∃ w : Int, 0 ≤ w ∧ w < n ∧ x = .int w ∧ TP p a ns h' ∧ Fr p h h' ∧ h'.length = h.length) := by
    unfold m_next2
    refine wRB rfl ?_
    have mk' : ∀ (v i' r' t' : Int), 0 ≤ v → v < n → 0 ≤ i' → ∃ w : Int, 0 ≤ w ∧ w < n ∧ Val.int v = .int w ∧ TP p a ns (h.set p (.lst [.ref a, .int i', .int r', .int t'])) ∧ Fr p h (h.set p (.lst [.ref a, .int i', .int r', .int t'])) ∧ (h.set p (.lst [.ref a, .int i', .int r', .int t'])).length = h.length :=
      fun v i' r' t' v0 vn i0 => ⟨v, v0, vn, rfl, ⟨ne, by rw [at_set_ne ne]; exact ha, i', r', t', i0, at_set hp⟩, (Fr.refl p h).set _, by simp⟩
    generalize hQ : (fun (x : Val) (h' : Heap) => ∃ w : Int, 0 ≤ w ∧ w < n ∧ x = .int w ∧ TP p a ns h' ∧ Fr p h h' ∧ h'.length = h.length) = Q
    have mq : ∀ (v i' r' t' : Int), 0 ≤ v → v < n → 0 ≤ i' → Q (.int v) (h.set p (.lst [.ref a, .int i', .int r', .int t'])) := by rw [← hQ]; exact mk'
    by_cases hr : r = 0
    · subst hr
      by_cases hl : i < (ns.length : Int)
      · obtain ⟨z, hz⟩ : ∃ z, ns[i.toNat]? = some z := ⟨_, List.getElem?_eq_getElem (by omega)⟩
        by_cases hc : (if z < 0 then -z else z) < 1000000000000000000
        · simp [hp, ha, hn, hn2, gV, at_set hp, hl, atI_nn hi, hz, cPow, hc]
          exact mq _ _ _ _ (md _).1 (md _).2 (by omega)
        · simp [hp, ha, hn, hn2, gV, at_set hp, hl, atI_nn hi, hz, cPow, hc]
          exact mq _ _ _ _ (md _).1 (md _).2 (by omega)
      · simp [hp, ha, hn, hn2, gV, at_set hp, hl, cPow]
        exact mq _ _ _ _ (md _).1 (md _).2 (by omega)
    · simp [hp, ha, hn, hn2, gV, hr, at_set hp]
      exact mq _ _ _ _ (md _).1 (md _).2 hi
  obtain ⟨x, h', e, v, h1, h2, rfl, h3⟩ := ex_of_wR w
  exact ⟨v, h', h1, h2, e, h3⟩
/-- comprehensions whose items make new objects -/
theorem wR_lcX {chk : Heap → Bool} {tg : Val → En → Option En} {mt : En → Heap → Res Bool} {me : En → Heap → Res Val} {s0 : En} {E : Nat → Heap → Prop} {QU : Unit → Heap → Prop} {h : Heap} (p : Val → Bool) (f : Val → Val) {xs : List Val} (hl : xs.length < lim)
    (hc : ∀ h', Ext h h' → chk h' = true)
    (ht : ∀ x h', x ∈ xs → Ext h h' → ∃ s2, tg x s0 = some s2 ∧ wR (mt s2 h') (fun _ _ => False) (fun b h1 => b = p x ∧ Ext h' h1 ∧ (p x = true → wR (me s2 h1) (fun _ _ => False) fun y h2 => y = f x ∧ Ext h1 h2)))
    (q : ∀ h', Ext h h' → h'[h.length]? = some (.lst ((xs.filter p).map f)) → QU () h') : wR (lcM chk tg mt me s0 h.length xs (h ++ [.lst []])) E QU := by
  refine wR_lcM (fun i acc h' => i ≤ xs.length ∧ acc = ((xs.take i).filter p).map f ∧ Ext h h' ∧ h'[h.length]? = some (.lst acc)) xs 0 [] _ ⟨Nat.zero_le _, rfl, ⟨_, rfl⟩, at_len⟩ ?_ ?_
  · rintro i x acc h' _ hx ⟨hi, ea, ex, el⟩
    simp only [Nat.sub_zero] at hx
    have hlt : i < xs.length := (List.getElem?_eq_some_iff.mp hx).1
    obtain ⟨s2, e, w1⟩ := ht x h' (List.mem_of_getElem? hx) ex
    refine ⟨hc h' ex, s2, e, wR_mono w1 ?_⟩
    rintro b h1 ⟨rfl, x1, w2⟩
    have tk : xs.take (i + 1) = xs.take i ++ [x] := by
      rw [List.take_add_one, hx]
      rfl
    have al : acc.length < lim := by
      rw [ea, List.length_map]
      have := List.length_filter_le p (xs.take i)
      have := List.length_take_le i xs
      omega
    by_cases hp : p x = true
    · rw [if_pos hp]
      refine wR_mono (w2 hp) ?_
      rintro y h2 ⟨rfl, x2⟩
      refine ⟨x2.at (x1.at el), al, hlt, ?_, ((ex.trans x1).trans x2).set (Nat.le_refl _) _, at_set (x2.at (x1.at el))⟩
      rw [tk, List.filter_append, List.map_append, ← ea]
      simp [hp]
    · rw [if_neg hp]
      refine ⟨hlt, ?_, ex.trans x1, x1.at el⟩
      rw [tk, List.filter_append, List.map_append, ← ea]
      simp [hp]
  · rintro acc h' ⟨_, ea, ex, el⟩
    refine ⟨hc _ ex, q h' ex ?_⟩
    rw [el, ea, Nat.zero_add, List.take_length]
theorem wR_lcXm {chk : Heap → Bool} {tg : Val → En → Option En} {me : En → Heap → Res Val} {s0 : En} {E : Nat → Heap → Prop} {QU : Unit → Heap → Prop} {h : Heap} (f : Val → Val) {xs : List Val} (hl : xs.length < lim)
    (hc : ∀ h', Ext h h' → chk h' = true)
    (ht : ∀ x h', x ∈ xs → Ext h h' → ∃ s2, tg x s0 = some s2 ∧ wR (me s2 h') (fun _ _ => False) fun y h2 => y = f x ∧ Ext h' h2)
    (q : ∀ h', Ext h h' → h'[h.length]? = some (.lst (xs.map f)) → QU () h') : wR (lcM chk tg tTrue me s0 h.length xs (h ++ [.lst []])) E QU := by
  refine wR_lcX (fun _ => true) f hl hc (fun x h' hx ex => ?_) ?_
  · obtain ⟨s2, e, w⟩ := ht x h' hx ex
    exact ⟨s2, e, by rw [wR_tTrue]; exact ⟨rfl, Ext.refl _, fun _ => w⟩⟩
  · have : xs.filter (fun _ => true) = xs := List.filter_eq_self.mpr (fun _ _ => rfl)
    rw [this]
    exact q
theorem oEq_self {x : Val} {neg : Bool} {h : Heap} (hx : pl 60 x = true) : oEq neg x x h = .ok (.bl (!neg)) h := by
  rw [oEq_pl hx hx]; cases neg <;> simp
theorem optAll_bl {α : Type} (b : α → Bool) (xs : List α) : optAll asBl (xs.map fun x => Val.bl (b x)) = some (xs.map b) := optAll_map (f := asBl) (g := fun x => Val.bl (b x)) (k := b) (fun _ => rfl) xs
theorem optAll_int {α : Type} (b : α → Int) (xs : List α) : optAll asInt (xs.map fun x => Val.int (b x)) = some (xs.map b) := optAll_map (f := asInt) (g := fun x => Val.int (b x)) (k := b) (fun _ => rfl) xs
/-! bits -/
theorem band (a b : Nat) : PySem.Builtin.bitAnd (a : Int) (b : Int) = ((a &&& b : Nat) : Int) := by
  rw [PyProof.Rows.bitAnd_pp (by omega) (by omega)]; simp
theorem bor (a b : Nat) : PySem.Builtin.bitOr (a : Int) (b : Int) = ((a ||| b : Nat) : Int) := by
  rw [Bits.bitOr_pp (by omega) (by omega)]; simp
theorem bxor (a b : Nat) : PySem.Builtin.bitXor (a : Int) (b : Int) = ((a ^^^ b : Nat) : Int) := by
  rw [Bits.bitXor_pp (by omega) (by omega)]; simp
theorem bit_eq (m b : Nat) : ((m : Int) / 2 ^ b) % 2 = if m.testBit b then 1 else 0 := by
  rw [Nat.testBit_eq_decide_div_mod_eq]
  have e : ((m : Int) / 2 ^ b) % 2 = ((m / 2 ^ b % 2 : Nat) : Int) := by simp
  rw [e]
  have := Nat.mod_two_eq_zero_or_one (m / 2 ^ b)
  rcases this with q | q <;> simp [q]
theorem wS_mono' {x : RS} {D D' : K4} (w : wS x D) (n : ∀ s h, D.nx s h → D'.nx s h) (r : ∀ v h, D.rt v h → D'.rt v h) (b : D.bk = fun _ _ => False) (c : D.ct = fun _ _ => False) (e : D.ex = fun _ _ => False) : wS x D' := by
  refine wS_mono w n r ?_ ?_ ?_
  · rw [b]; exact fun _ _ q => q.elim
  · rw [c]; exact fun _ _ q => q.elim
  · rw [e]; exact fun _ _ q => q.elim
/-- .. the items told by their place -/
theorem wR_lcXi {chk : Heap → Bool} {tg : Val → En → Option En} {me : En → Heap → Res Val} {s0 : En} {E : Nat → Heap → Prop} {QU : Unit → Heap → Prop} {h : Heap} (f : Nat → Val) {xs : List Val} (hl : xs.length < lim)
    (hc : ∀ h', Ext h h' → chk h' = true)
    (ht : ∀ i x h', xs[i]? = some x → Ext h h' → ∃ s2, tg x s0 = some s2 ∧ wR (me s2 h') (fun _ _ => False) fun y h2 => y = f i ∧ Ext h' h2)
    (q : ∀ h', Ext h h' → h'[h.length]? = some (.lst ((List.range xs.length).map f)) → QU () h') : wR (lcM chk tg tTrue me s0 h.length xs (h ++ [.lst []])) E QU := by
  refine wR_lcM (fun i acc h' => i ≤ xs.length ∧ acc = (List.range i).map f ∧ Ext h h' ∧ h'[h.length]? = some (.lst acc)) xs 0 [] _ ⟨Nat.zero_le _, rfl, ⟨_, rfl⟩, at_len⟩ ?_ ?_
  · rintro i x acc h' _ hx ⟨hi, ea, ex, el⟩
    simp only [Nat.sub_zero] at hx
    have hlt : i < xs.length := (List.getElem?_eq_some_iff.mp hx).1
    obtain ⟨s2, e, w1⟩ := ht i x h' hx ex
    refine ⟨hc h' ex, s2, e, ?_⟩
    rw [wR_tTrue, if_pos rfl]
    refine wR_mono w1 ?_
    rintro y h2 ⟨rfl, x2⟩
    have al : acc.length < lim := by
      rw [ea, List.length_map, List.length_range]
      omega
    refine ⟨x2.at el, al, hlt, ?_, (ex.trans x2).set (Nat.le_refl _) _, at_set (x2.at el)⟩
    rw [ea, List.range_succ, List.map_append]
    rfl
  · rintro acc h' ⟨_, ea, ex, el⟩
    refine ⟨hc _ ex, q h' ex ?_⟩
    rw [el, ea, Nat.zero_add]
theorem lookV_put {d : List (Val × Val)} {k v j : Val} : lookV (putV d k v) j = if j = k then some v else lookV d j := by
  unfold putV
  split
  · rename_i h
    induction d with
    | nil => simp at h
    | cons a d ih =>
      obtain ⟨a1, a2⟩ := a
      by_cases e1 : a1 = k
      · subst e1
        by_cases e2 : j = a1
        · subst e2; simp [lookV]
        · have hd : ∀ d : List (Val × Val), List.find? (fun kv => decide (kv.1 = j)) (d.map fun kv => if kv.1 = a1 then (kv.1, v) else kv) = List.find? (fun kv => decide (kv.1 = j)) d := by
            intro d
            induction d with
            | nil => rfl
            | cons b d ih2 =>
              obtain ⟨b1, b2⟩ := b
              by_cases e3 : b1 = a1
              · subst e3
                have hn : ¬ b1 = j := Ne.symm e2
                rw [List.map_cons, if_pos rfl, List.find?_cons, List.find?_cons]
                simp only [hn, decide_false]
                exact ih2
              · by_cases e4 : b1 = j
                · rw [List.map_cons, if_neg e3, List.find?_cons, List.find?_cons]
                  simp only [e4, decide_true]
                · rw [List.map_cons, if_neg e3, List.find?_cons, List.find?_cons]
                  simp only [e4, decide_false]
                  exact ih2
          simp only [lookV]
          rw [hd]
          rw [if_neg e2]
      · have h' : (d.any fun kv => decide (kv.1 = k)) = true := by simpa [e1] using h
        have := ih h'
        by_cases e2 : a1 = j
        · subst e2
          simp [lookV, e1]
        · simp only [lookV, List.map_cons, if_neg e1, List.find?_cons, e2, decide_false] at this ⊢
          exact this
  · rename_i h
    have hn : List.find? (fun kv : Val × Val => decide (kv.1 = k)) d = none := by
      rw [List.find?_eq_none]
      intro x hx hk
      exact h (List.any_eq_true.mpr ⟨x, hx, hk⟩)
    by_cases e2 : j = k
    · subst e2
      simp [lookV, hn]
    · rw [if_neg e2]
      unfold lookV
      rw [List.find?_append]
      simp [Ne.symm e2]
theorem putV_len {d : List (Val × Val)} {k v : Val} : (putV d k v).length ≤ d.length + 1 := by
  unfold putV; split <;> simp
section
variable {E : Nat → Heap → Prop} {Q : Val → Heap → Prop} {h : Heap} {neg : Bool} {x : Val}
@[simp ↓] theorem wR_bMin2 {i j : Int} : wR (bMin2 [.int i, .int j] h) E Q = Q (.int (if j < i then j else i)) h := rfl
@[simp ↓] theorem wR_bMax2 {i j : Int} : wR (bMax2 [.int i, .int j] h) E Q = Q (.int (if j > i then j else i)) h := rfl
theorem oIn_dct {a : Nat} {d : List (Val × Val)} (e : h[a]? = some (.dct d)) (hk : isKey x = true) : oIn neg x (.ref a) h = .ok (.bl (if neg then !(lookV d x).isSome else (lookV d x).isSome)) h := by
  unfold oIn; simp only [e, hk, if_true]
theorem oIn_tup {ys : List Val} (hx : isFlat x = true) (hy : ys.all isFlat = true) : oIn neg x (.tup ys) h = .ok (.bl (if neg then !(ys.any fun z => feq z x) else ys.any fun z => feq z x)) h := by
  unfold oIn; simp only [hx, hy, and_self, if_true]
theorem any_pl (hx : pl 60 x = true) : ∀ ys : List Val, ys.all (pl 59) = true → ((Val.ds ys).any fun z => deq z x.d) = decide (x ∈ ys)
  | [], _ => rfl
  | y :: ys, hy => by
    rw [List.all_cons, Bool.and_eq_true] at hy
    simp only [Val.ds, List.any_cons]
    rw [any_pl hx ys hy.2, deq_pl y x 59 60 hy.1 hx]
    by_cases q : x = y
    · simp [q]
    · simp [q, Ne.symm q]
theorem oIn_pl {a : Nat} {ys : List Val} (e : h[a]? = some (.lst ys)) (hx : pl 60 x = true) (hy : ys.all (pl 59) = true) : oIn neg x (.ref a) h = .ok (.bl (if neg then !decide (x ∈ ys) else decide (x ∈ ys))) h := by
  have e1 : inSeq x h ys = some (decide (x ∈ ys)) := by
    unfold inSeq
    rw [conv_pl 60 x hx, optAll_ds (fun y hy' => conv_pl 59 y (List.all_eq_true.mp hy y hy'))]
    exact congrArg some (any_pl hx ys hy)
  unfold oIn
  simp only [e, e1]
end
theorem cut_both {a b : Nat} (xs : List Val) : cut xs (some (a : Int)) (some (b : Int)) = (xs.take b).drop a := by
  unfold cut
  rw [HT.sIx_nat, HT.sIx_nat, List.drop_take]
  by_cases ha : a ≤ xs.length
  · have e1 : min a xs.length = a := by omega
    rw [e1]
    by_cases hb : b ≤ xs.length
    · rw [show min b xs.length = b by omega]
    · rw [show min b xs.length = xs.length by omega, List.take_of_length_le (by simp), List.take_of_length_le (by simp; omega)]
  · have e1 : min a xs.length = xs.length := by omega
    rw [e1, List.drop_of_length_le (Nat.le_refl _), List.drop_of_length_le (show xs.length ≤ a by omega)]
    simp
theorem cut_to {b : Nat} (xs : List Val) : cut xs none (some (b : Int)) = xs.take b := by
  unfold cut
  rw [HT.sIx_none, HT.sIx_nat]
  by_cases hb : b ≤ xs.length
  · rw [Nat.min_eq_left hb]; simp
  · rw [Nat.min_eq_right (by omega)]
    simp
    rw [List.take_of_length_le (by omega)]
theorem bAll_map {α : Type} {a : Nat} {h : Heap} {xs : List α} {b : α → Bool} (e : h[a]? = some (.lst (xs.map fun x => .bl (b x)))) : bAll [.ref a] h = .ok (.bl (xs.all b)) h := by
  refine eq_of_wR ?_
  rw [wR_bAll]
  simp only [seqOf_at e, optAll_bl]
  simp [List.all_map]
theorem bAny_map {α : Type} {a : Nat} {h : Heap} {xs : List α} {b : α → Bool} (e : h[a]? = some (.lst (xs.map fun x => .bl (b x)))) : bAny [.ref a] h = .ok (.bl (xs.any b)) h := by
  refine eq_of_wR ?_
  rw [wR_bAny]
  simp only [seqOf_at e, optAll_bl]
  simp [List.any_map]
theorem Fr.ext {p : Nat} {h h' : Heap} (x : Fr p h h') (hp : h.length ≤ p) : Ext h h' := by
  refine ⟨h'.drop h.length, ?_⟩
  apply List.ext_getElem?
  intro q
  by_cases hq : q < h.length
  · rw [List.getElem?_append_left hq, x.2 q (by omega) hq]
  · rw [List.getElem?_append_right (by omega), List.getElem?_drop]
    congr 1
    omega
theorem Fr.base {p : Nat} {h h1 h' : Heap} (x : Ext h h1) (y : Fr p h1 h') (hp : h.length ≤ p) : Ext h h' := ((x.fr p).trans y).ext hp
section
variable {E : Nat → Heap → Prop} {Q : Val → Heap → Prop} {h : Heap} {a : Nat} {i : Int}
theorem bPopAt_ok {ys : List Val} (e : h[a]? = some (.lst ys)) (h0 : 0 ≤ i) (h1 : i < ys.length) (h2 : i < 2 ^ 63) {y : Val} (hy : ys[i.toNat]? = some y) : bPopAt (.ref a) [.int i] h = .ok y (h.set a (.lst (ys.eraseIdx i.toNat))) := by
  have e1 : L2.ixN ys.length i = some i.toNat := by rw [ixN_nn h0, if_pos (by omega)]
  have c : -(2 ^ 63) ≤ i ∧ i < 2 ^ 63 := ⟨by omega, h2⟩
  unfold bPopAt
  simp only [e, if_pos c]
  rw [e1]
  simp only [hy]
end
theorem wR_iAltE {m : En → Heap → Res Val} {n : MI} {s : En} {h h1 : Heap} {a : Nat} {xs : List Val} {E : Nat → Heap → Prop} {Q : Src → Heap → Prop} (e : m s h = .ok (.ref a) h1) (el : h1[a]? = some (.lst xs)) (q : Q ⟨xs, lstIs a xs⟩ h1) : wR (iAlt (iLst m) n s h) E Q := by
  refine wR_iAlt (.inl ?_)
  rw [wR_iLst, e]
  simp only [wR_ok, el]
  exact q
end PyM

set_option Elab.async false
set_option linter.all false
set_option autoImplicit false
set_option maxHeartbeats 4000000
/-! frames over lists of places; comprehensions that use the tape -/
namespace PyM
/-- a comprehension whose items use the tape -/
theorem wR_lcT {chk : Heap → Bool} {tg : Val → En → Option En} {me : En → Heap → Res Val} {s0 : En} {E : Nat → Heap → Prop} {QU : Unit → Heap → Prop} {h : Heap} {p a : Nat} {ns : List Int} (T : TP p a ns h) (R : Val → Prop) {xs : List Val} (hl : xs.length < lim)
    (hc : ∀ h', Fr p h h' → chk h' = true)
    (ht : ∀ x h', x ∈ xs → TP p a ns h' → Fr p h h' → ∃ s2, tg x s0 = some s2 ∧ wR (me s2 h') (fun _ _ => False) fun y h2 => R y ∧ TP p a ns h2 ∧ Fr p h' h2)
    (q : ∀ ys h', ys.length = xs.length → (∀ y ∈ ys, R y) → TP p a ns h' → Fr p h h' → h'[h.length]? = some (.lst ys) → QU () h') : wR (lcM chk tg tTrue me s0 h.length xs (h ++ [.lst []])) E QU := by
  have lp := T.lt
  refine wR_lcM (fun i acc h' => i ≤ xs.length ∧ acc.length = i ∧ (∀ y ∈ acc, R y) ∧ TP p a ns h' ∧ Fr p h h' ∧ h'[h.length]? = some (.lst acc)) xs 0 [] _ ⟨Nat.zero_le _, rfl, by simp, T.push _, Ext.fr ⟨_, rfl⟩ p, at_len⟩ ?_ ?_
  · rintro i x acc h' _ hx ⟨hi, ea, hR, T', f', el⟩
    simp only [Nat.sub_zero] at hx
    have hlt : i < xs.length := (List.getElem?_eq_some_iff.mp hx).1
    obtain ⟨s2, e, w1⟩ := ht x h' (List.mem_of_getElem? hx) T' f'
    refine ⟨hc h' f', s2, e, ?_⟩
    rw [wR_tTrue, if_pos rfl]
    refine wR_mono w1 ?_
    rintro y h2 ⟨hy, T2, f2⟩
    have el2 := f2.at (show h.length ≠ p by omega) el
    refine ⟨el2, by omega, hlt, by simp [ea], fun z hz => ?_, T2.set (by omega) (by omega) _, (f'.trans f2).new (Nat.le_refl _) _, at_set el2⟩
    rcases List.mem_append.mp hz with hz | hz
    · exact hR z hz
    · rw [List.mem_singleton.mp hz]; exact hy
  · rintro acc h' ⟨_, ea, hR, T', f', el⟩
    exact ⟨hc _ f', q acc h' (by omega) hR T' f' el⟩
/-- at most the places of S have changed; there may be more objects -/
def Fs (S : List Nat) (h h' : Heap) : Prop := h.length ≤ h'.length ∧ ∀ q, q ∉ S → q < h.length → h'[q]? = h[q]?
theorem Fs.refl (S : List Nat) (h : Heap) : Fs S h h := ⟨Nat.le_refl _, fun _ _ _ => rfl⟩
theorem Fs.trans {S : List Nat} {a b c : Heap} (x : Fs S a b) (y : Fs S b c) : Fs S a c := ⟨Nat.le_trans x.1 y.1, fun q h1 h2 => by rw [y.2 q h1 (Nat.lt_of_lt_of_le h2 x.1), x.2 q h1 h2]⟩
theorem Fs.mono {S S' : List Nat} {a b : Heap} (x : Fs S a b) (s : ∀ q, q ∈ S → q ∈ S') : Fs S' a b := ⟨x.1, fun q h1 h2 => x.2 q (fun m => h1 (s q m)) h2⟩
theorem Ext.fs {a b : Heap} (x : Ext a b) (S : List Nat) : Fs S a b := by
  obtain ⟨g, rfl⟩ := x
  exact ⟨by simp, fun q _ h2 => List.getElem?_append_left h2⟩
theorem Fr.fs {p : Nat} {a b : Heap} (x : Fr p a b) {S : List Nat} (hp : p ∈ S) : Fs S a b := ⟨x.1, fun q h1 h2 => x.2 q (fun e => h1 (e ▸ hp)) h2⟩
theorem Fs.fr {p : Nat} {a b : Heap} (x : Fs [p] a b) : Fr p a b := ⟨x.1, fun q h1 h2 => x.2 q (by simpa using h1) h2⟩
theorem Fs.at {S : List Nat} {h h' : Heap} (x : Fs S h h') {q : Nat} {o : Obj} (hq : q ∉ S) (e : h[q]? = some o) : h'[q]? = some o := by
  rw [x.2 q hq (List.getElem?_eq_some_iff.mp e).1]; exact e
theorem Fs.set {S : List Nat} {h h' : Heap} (x : Fs S h h') {p : Nat} (hp : p ∈ S) (o : Obj) : Fs S h (h'.set p o) :=
  ⟨by rw [List.length_set]; exact x.1, fun q h1 h2 => by rw [at_set_ne (show p ≠ q from fun e => h1 (e ▸ hp))]; exact x.2 q h1 h2⟩
theorem Fs.push {S : List Nat} {h h' : Heap} (x : Fs S h h') (g : Heap) : Fs S h (h' ++ g) := x.trans (Ext.fs ⟨g, rfl⟩ S)
theorem Fs.new {S : List Nat} {h h' : Heap} (x : Fs S h h') {q : Nat} (hq : h.length ≤ q) (o : Obj) : Fs S h (h'.set q o) :=
  ⟨by rw [List.length_set]; exact x.1, fun r h1 h2 => by rw [at_set_ne (by omega)]; exact x.2 r h1 h2⟩
theorem Fs.le {S : List Nat} {h h' : Heap} (x : Fs S h h') : h.length ≤ h'.length := x.1
theorem TP.fs {p a : Nat} {S : List Nat} {ns : List Int} {h h' : Heap} (T : TP p a ns h) (x : Fs S h h') (h1 : p ∉ S) (h2 : a ∉ S) : TP p a ns h' := by
  obtain ⟨ne, T, i, r, t, i0, e⟩ := T
  exact ⟨ne, x.at h2 T, i, r, t, i0, x.at h1 e⟩
/-- frames over younger places close -/
theorem Fs.base {S : List Nat} {h h1 h' : Heap} (x : Ext h h1) (y : Fs S h1 h') (hS : ∀ q, q ∈ S → h.length ≤ q) : Ext h h' := by
  have z := (x.fs S).trans y
  refine ⟨h'.drop h.length, ?_⟩
  apply List.ext_getElem?
  intro q
  by_cases hq : q < h.length
  · rw [List.getElem?_append_left hq, z.2 q (fun m => by have := hS q m; omega) hq]
  · rw [List.getElem?_append_right (by omega), List.getElem?_drop]
    congr 1
    omega
theorem raised_of_wR {α : Type} {x : Res α} {P : Nat → Heap → Prop} (w : wR x P (fun _ _ => False)) : ∃ c h, x = .raised c h ∧ P c h := by
  cases x with
  | raised c h => exact ⟨c, h, rfl, w⟩
  | ok a h => exact w.elim
  | stuck => exact w.elim
@[simp ↓] theorem wR_iTup {m : En → Heap → Res Val} {s : En} {h : Heap} {E : Nat → Heap → Prop} {Q : Src → Heap → Prop} : wR (iTup_ m s h) E Q = wR (m s h) E fun x h1 => (match x with
    | .tup xs => Q ⟨xs, fun _ => true⟩ h1
    | _ => False) := by
  unfold iTup_
  simp only [wR_bind]
  congr; funext x h1
  split <;> simp_all
@[simp ↓] theorem wR_mAlt {a b : En → Heap → Res Val} {s : En} {h : Heap} {E : Nat → Heap → Prop} {Q : Val → Heap → Prop} : wR (mAlt a b s h) E Q = (match a s h with | .stuck => wR (b s h) E Q | x => wR x E Q) := by
  unfold mAlt
  cases a s h <;> rfl
theorem fix_pl {x : Val} (hx : pl 60 x = true) : ∀ {ys : List Val}, ys.all (pl 59) = true → x ∈ ys → fix x.d (Val.ds ys) = some (ys.idxOf x)
  | [], _, hm => by cases hm
  | y :: ys, hy, hm => by
    rw [List.all_cons, Bool.and_eq_true] at hy
    simp only [Val.ds, fix]
    rw [deq_pl y x 59 60 hy.1 hx]
    by_cases e : y = x
    · subst e; simp
    · have e' : ¬ (y == x) = true := by simpa using e
      rw [List.idxOf_cons, if_neg (by simpa using e)]
      have hm' : x ∈ ys := by
        rcases List.mem_cons.mp hm with q | q
        · exact absurd q.symm e
        · exact q
      simp only [fix_pl hx hy.2 hm', beq_eq_false_iff_ne.mpr e]
      rfl
theorem bIndex_pl {x : Val} {ys : List Val} {h : Heap} {a : Nat} (ea : h[a]? = some (.lst ys)) (hx : pl 60 x = true) (hy : ys.all (pl 59) = true) (hm : x ∈ ys) : bIndex (.ref a) [x] h = .ok (.int (ys.idxOf x : Nat)) h := by
  unfold bIndex
  simp only [ea]
  rw [conv_pl 60 x hx, optAll_ds (fun y hy' => conv_pl 59 y (List.all_eq_true.mp hy y hy'))]
  simp only [fix_pl hx hy hm]
end PyM
namespace PyM
section
variable {E : Nat → Heap → Prop} {Q : Val → Heap → Prop} {h : Heap} {D : K4} {s : En}
@[simp ↓] theorem wR_kIn {neg : Bool} {l : List (Nat × Val)} {n : Nat} : wR (kIn neg l (.str n) h) E Q = Q (.bl (if neg then !(lkN l n).isSome else (lkN l n).isSome)) h := rfl
@[simp ↓] theorem wR_kIx {l : List (Nat × Val)} {n : Nat} : wR (kIx l (.str n) h) E Q = (match lkN l n with | some v => Q v h | none => False) := by
  unfold kIx; simp only; split <;> simp_all
@[simp ↓] theorem wR_kGet {l : List (Nat × Val)} {n : Nat} {y : Val} : wR (kGet l (.str n) y h) E Q = Q ((lkN l n).getD y) h := rfl
@[simp ↓] theorem wR_oIxS {tbl : List (Nat × List Nat)} {n : Nat} {i : Int} : wR (oIxS tbl (.str n) (.int i) h) E Q = (match lkS tbl n with | some l => (match L2.atI l i with | some c => Q (.str c) h | none => False) | none => False) := by
  unfold oIxS; simp only; split
  · split <;> simp_all
  · simp_all
@[simp ↓] theorem wR_bLenS {tbl : List (Nat × List Nat)} {n : Nat} : wR (bLenS tbl [.str n] h) E Q = (match lkS tbl n with | some l => Q (.int l.length) h | none => False) := by
  unfold bLenS; simp only; split <;> simp_all
@[simp ↓] theorem wS_sPar2 {i j : Nat} {mA : En → Heap → Res (List Val)} : wS (sPar2 i j mA s h) D = wR (mA s h) D.ex fun xs h1 => (match xs with | [x, y] => D.nx ((s.set i (some x)).set j (some y)) h1 | _ => False) := by
  unfold sPar2; simp only [wS_thenS]; congr; funext xs h1; split <;> simp_all
@[simp ↓] theorem wS_sPar3 {i j l : Nat} {mA : En → Heap → Res (List Val)} : wS (sPar3 i j l mA s h) D = wR (mA s h) D.ex fun xs h1 => (match xs with | [x, y, z] => D.nx (((s.set i (some x)).set j (some y)).set l (some z)) h1 | _ => False) := by
  unfold sPar3; simp only [wS_thenS]; congr; funext xs h1; split <;> simp_all
end
mutual
theorem deq_refl : ∀ d : D, deq d d = true
  | .non => by simp [deq]
  | .bl b => by simp [deq]
  | .int i => by simp [deq]
  | .str n => by simp [deq]
  | .tup xs => by simp only [deq]; exact deqs_refl xs
  | .lst xs => by simp only [deq]; exact deqs_refl xs
theorem deqs_refl : ∀ ds : List D, deqs ds ds = true
  | [] => by simp [deqs]
  | d :: ds => by simp [deqs, deq_refl d, deqs_refl ds]
end
theorem oEq_conv {x y : Val} {h : Heap} {neg : Bool} {d : D} (hx : conv 60 h x = some d) (hy : conv 60 h y = some d) : oEq neg x y h = .ok (.bl (!neg)) h := by
  unfold oEq
  rw [hx, hy]
  simp only [deq_refl]
  cases neg <;> rfl
theorem pl_up {x : Val} : ∀ {n m : Nat}, n ≤ m → pl n x = true → pl m x = true := by
  intro n
  induction n generalizing x with
  | zero => intro m _ e; simp [pl] at e
  | succ n ih =>
    intro m hm e
    obtain ⟨m, rfl⟩ : ∃ k, m = k + 1 := ⟨m - 1, by omega⟩
    cases x with
    | tup xs =>
      simp only [pl, List.all_eq_true] at e ⊢
      exact fun y hy => ih (by omega) (e y hy)
    | bl b => simp [pl] at e
    | ref b => simp [pl] at e
    | _ => rfl
theorem pl_tup {n : Nat} {xs : List Val} (h : ∀ x ∈ xs, pl n x = true) : pl (n + 1) (.tup xs) = true := by
  show xs.all (pl n) = true
  exact List.all_eq_true.mpr h
end PyM

set_option Elab.async false
set_option linter.all false
set_option autoImplicit false
set_option maxHeartbeats 4000000
/-! heaps as lists of places and what stands there, with a frame; wishes for the rules of dicts -/
namespace PyM
abbrev Nodes := List (Nat × Obj)
structure On (l : Nodes) (h : Heap) : Prop where
  nd : (l.map (·.1)).Nodup
  at_ : ∀ p ∈ l, h[p.1]? = some p.2
theorem On.get {l : Nodes} {h : Heap} (o : On l h) {i a : Nat} {x : Obj} (e : l[i]? = some (a, x)) : h[a]? = some x := o.at_ _ (List.mem_of_getElem? e)
theorem On.ext {l : Nodes} {h h' : Heap} (o : On l h) (x : Ext h h') : On l h' := ⟨o.nd, fun p hp => x.at (o.at_ p hp)⟩
theorem On.perm {l l' : Nodes} {h : Heap} (o : On l h) (p : l.Perm l') : On l' h := ⟨(p.map _).nodup_iff.mp o.nd, fun q hq => o.at_ q (p.mem_iff.mpr hq)⟩
theorem On.sub {l l' : Nodes} {h : Heap} (o : On (l ++ l') h) : On l h := ⟨by
  have := o.nd
  rw [List.map_append] at this
  exact (List.nodup_append.mp this).1, fun q hq => o.at_ q (List.mem_append_left _ hq)⟩
theorem On.sub2 {l l' : Nodes} {h : Heap} (o : On (l ++ l') h) : On l' h := (o.perm List.perm_append_comm).sub
theorem On.drop1 {p : Nat × Obj} {l : Nodes} {h : Heap} (o : On (p :: l) h) : On l h := On.sub2 (l := [p]) o
theorem On.lt {l : Nodes} {h : Heap} (o : On l h) {p : Nat × Obj} (hp : p ∈ l) : p.1 < h.length := at_lt (o.at_ p hp)
theorem On.ne {l : Nodes} {h : Heap} (o : On l h) {i j a b : Nat} {x y : Obj} (ei : l[i]? = some (a, x)) (ej : l[j]? = some (b, y)) (hij : i ≠ j) : a ≠ b := fun e => by
  subst e
  have h1 : (l.map (·.1))[i]? = some a := by rw [List.getElem?_map, ei]; rfl
  have h2 : (l.map (·.1))[j]? = some a := by rw [List.getElem?_map, ej]; rfl
  obtain ⟨l1, e1⟩ := List.getElem?_eq_some_iff.mp h1
  obtain ⟨l2, e2⟩ := List.getElem?_eq_some_iff.mp h2
  exact hij ((List.getElem_inj o.nd).mp (e1.trans e2.symm))
/-- one place is written -/
theorem On.set {l : Nodes} {h : Heap} (o : On l h) {i a : Nat} {x : Obj} (e : l[i]? = some (a, x)) (y : Obj) : On (l.set i (a, y)) (h.set a y) := by
  refine ⟨?_, fun p hp => ?_⟩
  · have : (l.set i (a, y)).map (·.1) = l.map (·.1) := by
      apply List.ext_getElem?
      intro j
      rw [List.getElem?_map, List.getElem?_map, List.getElem?_set]
      split
      · rename_i hj
        subst hj
        split
        · rw [e]; rfl
        · rename_i hl
          rw [List.getElem?_eq_none (by omega)]
      · rfl
    rw [this]
    exact o.nd
  · obtain ⟨j, hj⟩ := List.mem_iff_getElem?.mp hp
    rw [List.getElem?_set] at hj
    split at hj
    · split at hj
      · cases hj
        exact at_set (o.get e)
      · cases hj
    · rename_i hij
      obtain ⟨b, z⟩ := p
      show (h.set a y)[b]? = some z
      rw [at_set_ne (o.ne e hj hij)]
      exact o.get hj
theorem nodup_set {α : Type} : ∀ {l : List α} {x : α}, l.Nodup → x ∉ l → ∀ i, (l.set i x).Nodup
  | [], _, _, _, _ => by simp
  | y :: l, x, n, hx, 0 => by
    rw [List.set_cons_zero, List.nodup_cons]
    exact ⟨fun h => hx (List.mem_cons_of_mem _ h), (List.nodup_cons.mp n).2⟩
  | y :: l, x, n, hx, i + 1 => by
    rw [List.set_cons_succ, List.nodup_cons]
    have n' := List.nodup_cons.mp n
    refine ⟨fun h => ?_, nodup_set n'.2 (fun h => hx (List.mem_cons_of_mem _ h)) i⟩
    rcases List.mem_or_eq_of_mem_set h with h | h
    · exact n'.1 h
    · exact hx (by rw [← h]; exact List.mem_cons_self)
/-- another place in the stead of one -/
theorem On.repl {l : Nodes} {h : Heap} (o : On l h) {i a a' : Nat} {x y : Obj} (e : l[i]? = some (a, x)) (ea : h[a']? = some y) (hn : ∀ p ∈ l, p.1 ≠ a') : On (l.set i (a', y)) h := by
  refine ⟨?_, fun p hp => ?_⟩
  · rw [List.map_set]
    have hm : a' ∉ l.map (·.1) := fun hm => by
      obtain ⟨p, hp, q⟩ := List.mem_map.mp hm
      exact hn p hp q
    exact nodup_set o.nd hm _
  · rcases List.mem_or_eq_of_mem_set hp with hp | rfl
    · exact o.at_ p hp
    · exact ea
/-- a new place -/
theorem On.new {l : Nodes} {h : Heap} (o : On l h) (x : Obj) : On ((h.length, x) :: l) (h ++ [x]) := by
  refine ⟨?_, fun p hp => ?_⟩
  · rw [List.map_cons, List.nodup_cons]
    refine ⟨fun hm => ?_, o.nd⟩
    obtain ⟨p, hp, e⟩ := List.mem_map.mp hm
    have := o.lt hp
    have e' : p.1 = h.length := e
    omega
  · rcases List.mem_cons.mp hp with rfl | hp
    · exact at_len
    · exact at_push (o.at_ p hp)
theorem On.newAt {l : Nodes} {h h0 : Heap} (o : On l h) {a : Nat} {x : Obj} (ea : h[a]? = some x) (hl : ∀ p ∈ l, p.1 < h0.length) (ha : h0.length ≤ a) : On ((a, x) :: l) h := by
  refine ⟨?_, fun p hp => ?_⟩
  · rw [List.map_cons, List.nodup_cons]
    refine ⟨fun hm => ?_, o.nd⟩
    obtain ⟨p, hp, e⟩ := List.mem_map.mp hm
    have := hl p hp
    have e' : p.1 = a := e
    omega
  · rcases List.mem_cons.mp hp with rfl | hp
    · exact ea
    · exact o.at_ p hp
/-- with the tape -/
structure Tn (p a : Nat) (ns : List Int) (l : Nodes) (h : Heap) : Prop where
  k : ∃ i r t, 0 ≤ i ∧ On ((p, .lst [.ref a, .int i, .int r, .int t]) :: (a, .lst (ns.map Val.int)) :: l) h
theorem Tn.on {p a : Nat} {ns : List Int} {l : Nodes} {h : Heap} (T : Tn p a ns l h) : On l h := by
  obtain ⟨i, r, t, _, o⟩ := T.k
  exact o.drop1.drop1
theorem Tn.ext {p a : Nat} {ns : List Int} {l : Nodes} {h h' : Heap} (T : Tn p a ns l h) (x : Ext h h') : Tn p a ns l h' := by
  obtain ⟨i, r, t, i0, o⟩ := T.k
  exact ⟨i, r, t, i0, o.ext x⟩
theorem Tn.perm {p a : Nat} {ns : List Int} {l l' : Nodes} {h : Heap} (T : Tn p a ns l h) (q : l.Perm l') : Tn p a ns l' h := by
  obtain ⟨i, r, t, i0, o⟩ := T.k
  exact ⟨i, r, t, i0, o.perm ((q.cons _).cons _)⟩
theorem Tn.tp {p a : Nat} {ns : List Int} {l : Nodes} {h : Heap} (T : Tn p a ns l h) : TP p a ns h := by
  obtain ⟨i, r, t, i0, o⟩ := T.k
  exact ⟨o.ne (i := 0) (j := 1) rfl rfl (by decide), o.get (i := 1) rfl, i, r, t, i0, o.get (i := 0) rfl⟩
theorem Tn.nep {p a : Nat} {ns : List Int} {l : Nodes} {h : Heap} (T : Tn p a ns l h) {q : Nat × Obj} (hq : q ∈ l) : q.1 ≠ p ∧ q.1 ≠ a := by
  obtain ⟨i, r, t, i0, o⟩ := T.k
  obtain ⟨j, hj⟩ := List.mem_iff_getElem?.mp hq
  obtain ⟨b, z⟩ := q
  exact ⟨o.ne (i := j + 2) (j := 0) (by simpa using hj) rfl (by omega), o.ne (i := j + 2) (j := 1) (by simpa using hj) rfl (by omega)⟩
theorem Tn.of {p a : Nat} {ns : List Int} {l : Nodes} {h : Heap} (T : TP p a ns h) (o : On l h) (n : ∀ q ∈ l, q.1 ≠ p ∧ q.1 ≠ a) : Tn p a ns l h := by
  obtain ⟨ne, ha, i, r, t, i0, hp⟩ := T
  refine ⟨i, r, t, i0, ?_, fun q hq => ?_⟩
  · rw [List.map_cons, List.map_cons, List.nodup_cons, List.nodup_cons]
    refine ⟨fun hm => ?_, fun hm => ?_, o.nd⟩
    · rcases List.mem_cons.mp hm with e | hm
      · exact ne e
      · obtain ⟨q, hq, e⟩ := List.mem_map.mp hm
        exact (n q hq).1 e
    · obtain ⟨q, hq, e⟩ := List.mem_map.mp hm
      exact (n q hq).2 e
  · rcases List.mem_cons.mp hq with rfl | hq
    · exact hp
    · rcases List.mem_cons.mp hq with rfl | hq
      · exact ha
      · exact o.at_ q hq
/-- what changes the places of A alone, under any frame -/
theorem Tn.op {p a : Nat} {ns : List Int} {A R : Nodes} {h : Heap} {α : Type} {P : α → Heap → Prop} {A' : α → Nodes} (T : Tn p a ns (A ++ R) h) (f : ∀ R, On (A ++ R) h → ∃ x h', P x h' ∧ On (A' x ++ R) h') : ∃ x h', P x h' ∧ Tn p a ns (A' x ++ R) h' := by
  obtain ⟨i, r, t, i0, o⟩ := T.k
  have pm : ∀ B : Nodes, ((p, Obj.lst [.ref a, .int i, .int r, .int t]) :: (a, .lst (ns.map Val.int)) :: (B ++ R)).Perm (B ++ ((p, .lst [.ref a, .int i, .int r, .int t]) :: (a, .lst (ns.map Val.int)) :: R)) := fun B =>
    (List.perm_append_comm_assoc [(p, Obj.lst [.ref a, .int i, .int r, .int t]), (a, .lst (ns.map Val.int))] B R)
  obtain ⟨x, h', q1, q2⟩ := f _ (o.perm (pm A))
  exact ⟨x, h', q1, i, r, t, i0, q2.perm (pm (A' x)).symm⟩
theorem Tn.nx {p a : Nat} {ns : List Int} {l : Nodes} {h h' : Heap} (T : Tn p a ns l h) (T' : TP p a ns h') (f : Fr p h h') : Tn p a ns l h' :=
  .of T' ⟨T.on.nd, fun q hq => f.at (T.nep hq).1 (T.on.at_ q hq)⟩ fun q hq => T.nep hq
theorem Tn.next {f : List Val → Heap → Res Val} (hf : f = m_next) {h : Heap} {p a : Nat} {ns : List Int} {l : Nodes} (T : Tn p a ns l h) {n : Int} (hn : 0 < n) (hn2 : n < 1073741824) :
    ∃ v h', 0 ≤ v ∧ v < n ∧ f [.ref p, .int n] h = .ok (.int v) h' ∧ Tn p a ns l h' := by
  obtain ⟨v, h', v0, v1, e, T', fr, _⟩ := T.tp.next hf hn hn2
  exact ⟨v, h', v0, v1, e, T.nx T' fr⟩
theorem Tn.next2 {f : List Val → Heap → Res Val} (hf : f = m_next2) {h : Heap} {p a : Nat} {ns : List Int} {l : Nodes} (T : Tn p a ns l h) {n : Int} (hn : 0 < n) (hn2 : n < 1073741824) :
    ∃ v h', 0 ≤ v ∧ v < n ∧ f [.ref p, .int n] h = .ok (.int v) h' ∧ Tn p a ns l h' := by
  obtain ⟨v, h', v0, v1, e, T', fr, _⟩ := T.tp.next2 hf hn hn2
  exact ⟨v, h', v0, v1, e, T.nx T' fr⟩
/-! wishes -/
section
variable {E : Nat → Heap → Prop} {Q : Val → Heap → Prop} {QU : Unit → Heap → Prop} {h : Heap} {D : K4} {s : En} {a : Nat} {x y z : Val} {ks : List Val} {mo my mz me : En → Heap → Res Val} {mk : En → Heap → Res (List Val)}
@[simp ↓] theorem wR_mDctT : wR (mDctT s h) E Q = Q (.ref h.length) (h ++ [.dcT []]) := rfl
@[simp ↓] theorem wR_mGet1 : wR (mGet1 mo my s h) E Q = wR (mo s h) E fun o h1 => isD o h1 = true ∧ wR (my s h1) E fun y h2 => wR (dGet o y .non h2) E Q := by
  unfold mGet1; simp only [wR_bind]; congr; funext o h1; split <;> simp_all
@[simp ↓] theorem wR_mGet2 : wR (mGet2 mo my mz s h) E Q = wR (mo s h) E fun o h1 => isD o h1 = true ∧ wR (my s h1) E fun y h2 => wR (mz s h2) E fun z h3 => wR (dGet o y z h3) E Q := by
  unfold mGet2; simp only [wR_bind]; congr; funext o h1; split <;> simp_all
@[simp ↓] theorem wR_mPop1 : wR (mPop1 mo my s h) E Q = wR (mo s h) E fun o h1 => isD o h1 = true ∧ wR (my s h1) E fun y h2 => wR (dPop1 o y h2) E Q := by
  unfold mPop1; simp only [wR_bind]; congr; funext o h1; split <;> simp_all
@[simp ↓] theorem wR_mPop2 : wR (mPop2 mo my mz s h) E Q = wR (mo s h) E fun o h1 => isD o h1 = true ∧ wR (my s h1) E fun y h2 => wR (mz s h2) E fun z h3 => wR (dPop2 o y z h3) E Q := by
  unfold mPop2; simp only [wR_bind]; congr; funext o h1; split <;> simp_all
@[simp ↓] theorem wR_mIxT : wR (mIxT mo mk s h) E Q = wR (mo s h) E fun o h1 => wR (mk s h1) E fun ks h2 => wR (tIx o ks h2) E Q := by unfold mIxT; simp
@[simp ↓] theorem wR_mInT {neg : Bool} : wR (mInT neg mk mo s h) E Q = wR (mk s h) E fun ks h1 => ks.length ≤ 1000 ∧ wR (mo s h1) E fun o h2 => wR (tIn neg ks o h2) E Q := by
  unfold mInT; simp only [wR_bind]; congr; funext o h1; split <;> (simp_all <;> (intros; omega))
@[simp ↓] theorem wR_mGetT1 : wR (mGetT1 mo mk s h) E Q = wR (mo s h) E fun o h1 => isD o h1 = true ∧ wR (mk s h1) E fun ks h2 => wR (tGet o ks .non h2) E Q := by
  unfold mGetT1; simp only [wR_bind]; congr; funext o h1; split <;> simp_all
@[simp ↓] theorem wR_mGetT2 : wR (mGetT2 mo mk mz s h) E Q = wR (mo s h) E fun o h1 => isD o h1 = true ∧ wR (mk s h1) E fun ks h2 => ks.length ≤ 1000 ∧ wR (mz s h2) E fun z h3 => wR (tGet o ks z h3) E Q := by
  unfold mGetT2; simp only [wR_bind]; congr; funext o h1; split
  · simp only [wR_bind, *, true_and]; congr; funext ks h2; split <;> (simp_all <;> (intros; omega))
  · simp_all
@[simp ↓] theorem wR_mPopT1 : wR (mPopT1 mo mk s h) E Q = wR (mo s h) E fun o h1 => isD o h1 = true ∧ wR (mk s h1) E fun ks h2 => wR (tPop1 o ks h2) E Q := by
  unfold mPopT1; simp only [wR_bind]; congr; funext o h1; split <;> simp_all
@[simp ↓] theorem wR_mPopT2 : wR (mPopT2 mo mk mz s h) E Q = wR (mo s h) E fun o h1 => isD o h1 = true ∧ wR (mk s h1) E fun ks h2 => ks.length ≤ 1000 ∧ wR (mz s h2) E fun z h3 => wR (tPop2 o ks z h3) E Q := by
  unfold mPopT2; simp only [wR_bind]; congr; funext o h1; split
  · simp only [wR_bind, *, true_and]; congr; funext ks h2; split <;> (simp_all <;> (intros; omega))
  · simp_all
@[simp ↓] theorem wS_sSubT : wS (sSubT mo mk me s h) D = wR (me s h) D.ex fun v h1 => wR (mo s h1) D.ex fun o h2 => wR (mk s h2) D.ex fun ks h3 => wR (tSet o ks v h3) D.ex fun _ h4 => D.nx s h4 := by unfold sSubT; simp
theorem isD_dct {d : List (Val × Val)} (e : h[a]? = some (.dct d)) : isD (.ref a) h = true := by simp [isD, e]
theorem isD_dcT {d : List (Val × Val)} (e : h[a]? = some (.dcT d)) : isD (.ref a) h = true := by simp [isD, e]
theorem dGet_at {d : List (Val × Val)} (e : h[a]? = some (.dct d)) (hk : isKey y = true) : dGet (.ref a) y z h = .ok ((lookV d y).getD z) h := by simp [dGet, e, hk]
theorem dPop1_at {d : List (Val × Val)} (e : h[a]? = some (.dct d)) (hk : isKey y = true) (hy : lookV d y = some x) : dPop1 (.ref a) y h = .ok x (h.set a (.dct (dropV d y))) := by simp [dPop1, e, hk, hy]
theorem tLook_at {d : List (Val × Val)} (e : h[a]? = some (.dcT d)) (hk : keysOk ks = true) : tLook (.ref a) ks h = some (lookV d (.tup ks)) := by simp [tLook, e, hk]
theorem tIx_at {d : List (Val × Val)} (e : h[a]? = some (.dcT d)) (hk : keysOk ks = true) (hy : lookV d (.tup ks) = some x) : tIx (.ref a) ks h = .ok x h := by simp [tIx, tLook_at e hk, hy]
theorem tIn_at {d : List (Val × Val)} {neg : Bool} (e : h[a]? = some (.dcT d)) (hk : keysOk ks = true) : tIn neg ks (.ref a) h = .ok (.bl (if neg then !(lookV d (.tup ks)).isSome else (lookV d (.tup ks)).isSome)) h := by simp [tIn, tLook_at e hk]
theorem tGet_at {d : List (Val × Val)} (e : h[a]? = some (.dcT d)) (hk : keysOk ks = true) : tGet (.ref a) ks z h = .ok ((lookV d (.tup ks)).getD z) h := by simp [tGet, tLook_at e hk]
theorem tPop1_at {d : List (Val × Val)} (e : h[a]? = some (.dcT d)) (hk : keysOk ks = true) (hy : lookV d (.tup ks) = some x) : tPop1 (.ref a) ks h = .ok x (h.set a (.dcT (dropV d (.tup ks)))) := by simp [tPop1, tLook_at e hk, hy, tDrop, e]
theorem tSet_at {d : List (Val × Val)} (e : h[a]? = some (.dcT d)) (hk : keysOk ks = true) (hl : d.length < lim) : tSet (.ref a) ks x h = .ok () (h.set a (.dcT (putV d (.tup ks) x))) := by simp [tSet, e, hk, hl]
end
theorem lookV_drop {d : List (Val × Val)} {k j : Val} : lookV (dropV d k) j = if j = k then none else lookV d j := by
  unfold lookV dropV
  by_cases e : j = k
  · rw [if_pos e, List.find?_eq_none.mpr]
    · rfl
    · intro x hx
      have := (List.mem_filter.mp hx).2
      simp only [decide_eq_true_eq] at this ⊢
      rw [e]; exact this
  · rw [if_neg e]
    congr 1
    rw [List.find?_filter]
    congr 1
    funext x
    by_cases q : x.1 = j
    · simp [q, e]
    · simp [q]
theorem dropV_none {d : List (Val × Val)} {k : Val} (e : lookV d k = none) : dropV d k = d := by
  unfold lookV at e
  unfold dropV
  rw [List.filter_eq_self]
  intro x hx
  simp only [Option.map_eq_none_iff, List.find?_eq_none] at e
  have := e x hx
  simpa using this
theorem dropV_len {d : List (Val × Val)} {k : Val} : (dropV d k).length ≤ d.length := List.length_filter_le ..
/-- d.pop(k, x): the dict without k, whether it was there or not -/
theorem tPop2_at {d : List (Val × Val)} {h : Heap} {a : Nat} {ks : List Val} {z : Val} (e : h[a]? = some (.dcT d)) (hk : keysOk ks = true) : tPop2 (.ref a) ks z h = .ok ((lookV d (.tup ks)).getD z) (h.set a (.dcT (dropV d (.tup ks)))) := by
  unfold tPop2
  rw [tLook_at e hk]
  cases q : lookV d (.tup ks) with
  | some v => simp [tDrop, e]
  | none =>
    have : h.set a (.dcT (dropV d (.tup ks))) = h := by
      rw [dropV_none q]
      apply List.ext_getElem?
      intro i
      rw [List.getElem?_set]
      split
      · rename_i hi
        subst hi
        rw [if_pos (at_lt e), e]
      · rfl
    simp [this]
end PyM
namespace PyM
/-- while, by an invariant with a measure -/
theorem wS_whM {c : En → Heap → Res Bool} {body : En → Heap → RS} {D : K4} (Inv : Nat → En → Heap → Prop)
    (hs : ∀ m s h, Inv m s h → wR (c s h) D.ex fun b h1 => if b = true then wS (body s h1) { D with nx := fun s' h' => ∃ m' < m, Inv m' s' h', ct := fun s' h' => ∃ m' < m, Inv m' s' h', bk := D.nx } else D.nx s h1) :
    ∀ (n m : Nat) (s : En) (h : Heap), m < n → Inv m s h → wS (whM c body n s h) D
  | 0, m, _, _, hm, _ => by omega
  | n + 1, m, s, h, hm, hi => by
    have w := hs m s h hi
    unfold whM
    cases e : c s h with
    | ok b h1 =>
      rw [e] at w
      simp only [wR_ok] at w
      cases b with
      | false => simpa using w
      | true =>
        simp only [Res.thenS, if_true] at w ⊢
        cases eb : body s h1 with
        | nx s2 h2 =>
          rw [eb] at w
          obtain ⟨m', h1, h2'⟩ := w
          exact wS_whM Inv hs n m' _ _ (by omega) h2'
        | ct s2 h2 =>
          rw [eb] at w
          obtain ⟨m', h1, h2'⟩ := w
          exact wS_whM Inv hs n m' _ _ (by omega) h2'
        | bk s2 h2 => rw [eb] at w; exact w
        | rt v h2 => rw [eb] at w; exact w
        | raised a h2 => rw [eb] at w; exact w
        | stuck => rw [eb] at w; exact w
    | raised a h1 => rw [e] at w; exact w
    | stuck => rw [e] at w; exact w
end PyM

set_option Elab.async false
set_option linter.all false
set_option autoImplicit false
set_option maxHeartbeats 4000000
/-! wishes for loops over dicts; heaps with a new end -/
namespace PyM
section
variable {h : Heap} {D : K4} {s : En} {me : En → Heap → Res Val} {tg : Val → En → Option En} {body : En → Heap → RS} {n : Nat}
theorem wS_unlS {x : RS} : wS (unlS n x) D = wS x { nx := fun s' h' => (match unlH n h' with | some h2 => D.nx s' h2 | none => False), rt := fun v h' => (match unlH n h' with | some h2 => D.rt v h2 | none => False) } := by
  cases x with
  | nx a b => simp only [unlS, wS_nx]; split <;> simp_all
  | rt a b => simp only [unlS, wS_rt]; split <;> simp_all
  | _ => rfl
@[simp ↓] theorem wS_sForD : wS (sForD me tg body s h) D = wR (me s h) D.ex fun x h1 => (match x with
    | .ref n => (match lockD n h1 with
      | some (ks, h2) => wS (forM_ (fun _ => true) tg body ks s h2) { nx := fun s' h' => (match unlH n h' with | some h2 => D.nx s' h2 | none => False), rt := fun v h' => (match unlH n h' with | some h2 => D.rt v h2 | none => False) }
      | none => False)
    | _ => False) := by
  unfold sForD
  simp only [wS_thenS]
  congr; funext x h1
  cases x with
  | ref m =>
    simp only
    cases e : lockD m h1 with
    | none => rfl
    | some p => obtain ⟨ks, h2⟩ := p; exact wS_unlS
  | _ => rfl
theorem lockD_dct {d : List (Val × Val)} (e : h[n]? = some (.dct d)) : lockD n h = some (d.map (·.1), h.set n (.fdc d)) := by simp [lockD, e]
theorem lockD_dcT {d : List (Val × Val)} (e : h[n]? = some (.dcT d)) : lockD n h = some (d.map (·.1), h.set n (.fdT d)) := by simp [lockD, e]
theorem unlH_fdc {d : List (Val × Val)} (e : h[n]? = some (.fdc d)) : unlH n h = some (h.set n (.dct d)) := by simp [unlH, e]
theorem unlH_fdT {d : List (Val × Val)} (e : h[n]? = some (.fdT d)) : unlH n h = some (h.set n (.dcT d)) := by simp [unlH, e]
end
end PyM

set_option Elab.async false
set_option linter.all false
set_option autoImplicit false
set_option maxRecDepth 100000
set_option maxHeartbeats 4000000
/-! == and != of lists, tuples and dicts (keys whole numbers) in one another; more rules for dicts and lists -/
namespace PyM
open PySem L2

def isIV : Val → Bool
  | .int _ => true
  | _ => false
def hitsM (f : Val → Val → Option Bool) (e : List (Val × Val)) : List (Val × Val) → Option Bool
  | [] => some true
  | (k, v) :: r => match lookV e k with
    | none => some false
    | some u => match f v u, hitsM f e r with
      | some b1, some b2 => some (b1 && b2)
      | _, _ => none
def eqStep (f : Val → Val → Option Bool) (h : Heap) (x y : Val) : Option Bool := match x, y with
  | .tup xs, .tup ys => match optAll (fun p : Val × Val => f p.1 p.2) (xs.zip ys) with
    | some bs => some (bs.all id && xs.length == ys.length)
    | none => none
  | .ref a, .ref b => match h[a]?, h[b]? with
    | some (.lst xs), some (.lst ys) => if xs.length = ys.length then (match optAll (fun p : Val × Val => f p.1 p.2) (xs.zip ys) with
      | some bs => some (bs.all id)
      | none => none) else some false
    | some (.dct d), some (.dct e) => if d.all (fun kv => isIV kv.1) = true ∧ e.all (fun kv => isIV kv.1) = true then (if d.length = e.length then hitsM f e d else some false) else none
    | _, _ => none
  | _, _ => none
def eqH : Nat → Heap → Val → Val → Option Bool
  | 0, _, _, _ => none
  | n + 1, h, x, y => match conv 40 h x, conv 40 h y with
    | some d, some e => some (deq d e)
    | _, _ => match x, y with
      | .ref a, .ref b => if a = b then some true else eqStep (eqH n h) h (.ref a) (.ref b)
      | x, y => eqStep (eqH n h) h x y
def nonD (h : Heap) (x y : Val) : Bool := match x, y with
  | .non, .ref a => match h[a]? with
    | some (.dct _) => true
    | _ => false
  | _, _ => false
def oEqH (neg : Bool) (x y : Val) (h : Heap) : Res Val := match conv 40 h x, conv 40 h y with
  | some d, some e => .ok (.bl (if neg then !deq d e else deq d e)) h
  | _, _ => match eqStep (eqH 20 h) h x y with
    | some b => .ok (.bl (if neg then !b else b)) h
    | none => if nonD h x y = true then .ok (.bl neg) h else .stuck

section
variable {G : Cfg} {r : List Addr} {H : Hp} {h : Heap} {X : Cx} {pins : List (Addr × PySem.Obj)} {s : Shared} {σ : St}
theorem same_all {α : Type} {g : Val → Option α} (k : ∀ x y v d e, VR G r H x v → VR G r H y v → g x = some d → g y = some e → d = e) : ∀ (xs ys : List Val) (vs : List V) (ds es : List α), VRs G r H xs vs → VRs G r H ys vs → optAll g xs = some ds → optAll g ys = some es → ds = es := by
  intro xs
  induction xs with
  | nil =>
    intro ys vs ds es a b e1 e2
    cases a
    cases b
    simp [optAll] at e1 e2
    subst e1; subst e2; rfl
  | cons x xs ih =>
    intro ys vs ds es a b e1 e2
    cases a with
    | cons a1 a2 =>
      cases b with
      | cons b1 b2 =>
        simp only [optAll] at e1 e2
        split at e1
        · rename_i d1 l1 q1 q2
          split at e2
          · rename_i d2 l2 q3 q4
            cases e1
            cases e2
            rw [k _ _ _ _ _ a1 b1 q1 q3, ih _ _ _ _ a2 b2 q2 q4]
          · cases e2
        · cases e1
/-- what stands at an address, if a list -/
theorem list_at (R : HR G r H h) {n : Nat} {a : Addr} {xs : List Val} (ha : r[n]? = some a) (e : h[n]? = some (.lst xs) ∨ h[n]? = some (.fls xs)) : ∃ vs, SqL G.K H a vs ∧ VRs G r H xs vs := by
  rcases e with e | e
  · cases R.ob _ _ _ e ha with
    | lst hl hv => exact ⟨_, SqL.of hl, hv⟩
  · cases R.ob _ _ _ e ha with
    | fls hl hv => exact ⟨_, hl.sq, hv⟩
theorem tl_not (I : Inv X pins σ H s) {a : Addr} {xs ys : List V} (h1 : SqT X.K H a xs) (h2 : SqL X.K H a ys) : False := by
  obtain ⟨_, _, ⟨o, e, c, _⟩, _⟩ := I.tuple h1
  obtain ⟨_, _, ⟨o', n, e', c', _⟩, _⟩ := I.list h2
  rw [e] at e'
  cases e'
  rw [c] at c'
  exact absurd (Value.type.inj c') (by decide)
theorem conv_same (ok : G.Ok) (hK : X.K = G.K) (I : Inv X pins σ H s) (R : HR G r H h) : ∀ (n : Nat) (x y : Val) (v : V) (d e : D), VR G r H x v → VR G r H y v → conv n h x = some d → conv n h y = some e → d = e
  | 0, _, _, _, _, _, _, _, e1, _ => by simp [conv] at e1
  | n + 1, x, y, v, d, e, q1, q2, e1, e2 => by
    have ih := fun x y v d e => conv_same ok hK I R n x y v d e
    have seqs : ∀ {xs ys : List Val} {vs : List V} {ds es : List D}, VRs G r H xs vs → VRs G r H ys vs → optAll (conv n h) xs = some ds → optAll (conv n h) ys = some es → ds = es := fun a b c d => same_all ih _ _ _ _ _ a b c d
    have reft : ∀ {m : Nat} {a : Addr} {d : D}, r[m]? = some a → conv (n + 1) h (.ref m) = some d → ∃ xs vs ds, SqL G.K H a vs ∧ VRs G r H xs vs ∧ optAll (conv n h) xs = some ds ∧ d = .lst ds := by
      intro m a d ha e
      simp only [conv] at e
      split at e
      · rename_i xs eo
        obtain ⟨ds, e1, rfl⟩ := Option.map_eq_some_iff.mp e
        obtain ⟨vs, p1, p2⟩ := list_at R ha (.inl eo)
        exact ⟨xs, vs, ds, p1, p2, e1, rfl⟩
      · rename_i xs eo
        obtain ⟨ds, e1, rfl⟩ := Option.map_eq_some_iff.mp e
        obtain ⟨vs, p1, p2⟩ := list_at R ha (.inr eo)
        exact ⟨xs, vs, ds, p1, p2, e1, rfl⟩
      · cases e
    cases q1 with
    | non => cases q2; rw [e1] at e2; cases e2; rfl
    | bl b => cases q2; rw [e1] at e2; cases e2; rfl
    | int b => cases q2; rw [e1] at e2; cases e2; rfl
    | @str m z hz =>
      cases q2 with
      | @str m' _ hz' =>
        have : m = m' := by
          obtain ⟨l1, g1⟩ := List.getElem?_eq_some_iff.mp hz
          obtain ⟨l2, g2⟩ := List.getElem?_eq_some_iff.mp hz'
          exact (List.getElem_inj ok.nd).mp (g1.trans g2.symm)
        subst this
        rw [e1] at e2; cases e2; rfl
    | @tup xs vs a hs hv =>
      cases q2 with
      | @tup ys us _ hs' hv' =>
        have : vs = us := by rw [← hK] at hs hs'; exact I.tuple_inj hs hs'
        subst this
        simp only [conv] at e1 e2
        obtain ⟨ds, k1, rfl⟩ := Option.map_eq_some_iff.mp e1
        obtain ⟨es, k2, rfl⟩ := Option.map_eq_some_iff.mp e2
        rw [seqs hv hv' k1 k2]
      | @ref m _ ha =>
        obtain ⟨_, _, _, p1, _⟩ := reft ha e2
        rw [← hK] at hs p1
        exact (tl_not I hs p1).elim
    | @ref m a ha =>
      obtain ⟨xs, vs, ds, p1, p2, p3, rfl⟩ := reft ha e1
      cases q2 with
      | @tup ys us _ hs' hv' =>
        rw [← hK] at hs' p1
        exact (tl_not I hs' p1).elim
      | @ref m' _ ha' =>
        obtain ⟨ys, us, es, p1', p2', p3', rfl⟩ := reft ha' e2
        have : vs = us := by rw [← hK] at p1 p1'; exact I.list_inj p1 p1'
        subst this
        rw [seqs p2 p2' p3 p3']

/-! the machine's == -/
theorem dictOf_any {P P' : Program} {w w' : World} {hp : PySem.Heap} {a : Addr} {vs : List (L2.Key × Value)} (hd : hp.DictOf (mixKind P w) a vs) (hk : ∀ p ∈ vs, ∃ i, p.1 = Sum.inl i) : hp.DictOf (mixKind P' w') a vs := by
  obtain ⟨o, es, ep, h1, h2, h3, h4, h5, h6⟩ := hd
  have ps : ∀ {l : List DictEntry} {m : List (L2.Key × Value)}, Pairs (mixKind P w) l m → Pairs (mixKind P' w') l m := by
    intro l m q
    induction q with
    | nil => exact .nil
    | cons a b _ ih => exact .cons a b ih
  refine ⟨o, es, ep, h1, h2, h3, fun e he => ?_, ps h5, h6⟩
  have key : ∀ {l : List DictEntry} {m : List (L2.Key × Value)}, Pairs (mixKind P w) l m → (∀ p ∈ m, ∃ i, p.1 = Sum.inl i) → ∀ e ∈ l, ∃ i, (mixKind P w).is (Sum.inl i) e.key = true := by
    intro l m q
    induction q with
    | nil => intro _ e he; exact nomatch he
    | @cons e0 kv es kvs a b _ ih =>
      intro hm e he
      rcases List.mem_cons.mp he with rfl | he
      · obtain ⟨i, hi⟩ := hm kv List.mem_cons_self
        exact ⟨i, hi ▸ a⟩
      · exact ih (fun p hp => hm p (List.mem_cons_of_mem _ hp)) e he
  obtain ⟨k, hk1, hk2⟩ := h4 e he
  obtain ⟨i, hi⟩ := key h5 hk e (Array.mem_def.mp he)
  have hki : k = Sum.inl i := (mixKind P w).inj _ _ _ hk1 hi
  subst hki
  exact ⟨Sum.inl i, hi, hk2⟩
theorem DR.isI {d : List (Val × Val)} {e : List (L2.Key × V)} (q : DR G r H d e) (hk : d.all (fun kv => isIV kv.1) = true) : ∀ p ∈ e, ∃ i, p.1 = Sum.inl i := by
  induction q with
  | nil => intro p hp; exact nomatch hp
  | @cons k x q' v d e a b _ ih =>
    rw [List.all_cons, Bool.and_eq_true] at hk
    intro p hp
    rcases List.mem_cons.mp hp with rfl | hp
    · cases a with
      | int i => exact ⟨i, rfl⟩
      | str _ => simp [isIV] at hk
    · exact ih hk.2 p hp
theorem KR_inj (ok : G.Ok) {k k' : Val} {q q' : L2.Key} (a : KR G k q) (b : KR G k' q') : (k = k') ↔ (q = q') := by
  cases a with
  | int i => cases b with
    | int j => simp
    | str _ => simp
  | @str n x e => cases b with
    | int j => simp
    | @str m y e' =>
      constructor
      · intro h; injection h with h; subst h; rw [e] at e'; cases e'; rfl
      · intro h; injection h with h; subst h
        obtain ⟨l1, g1⟩ := List.getElem?_eq_some_iff.mp e
        obtain ⟨l2, g2⟩ := List.getElem?_eq_some_iff.mp e'
        rw [(List.getElem_inj ok.nd).mp (g1.trans g2.symm)]
theorem DR.length {d : List (Val × Val)} {e : List (L2.Key × V)} (q : DR G r H d e) : d.length = e.length := by
  induction q with
  | nil => rfl
  | cons _ _ _ ih => simp [ih]
/-- equal things at one machine value -/
theorem RelV.ref_eq {a : Addr} {u : Value} (q : RelV (.ref a) u) : u = .ref a := by cases q; rfl
def EqF (A : Around) (s : Shared) (G : Cfg) (r : List Addr) (H : Hp) (f : Val → Val → Option Bool) : Prop := ∀ x y v u vv uu b, VR G r H x v → VR G r H y u → RelV v vv → RelV u uu → f x y = some b → SeqAt.EqAt A s vv uu b
theorem zip_eq {A : Around} {f : Val → Val → Option Bool} (F : EqF A s G r H f) : ∀ (xs ys : List Val) (vs us : List V) (its its' : List Value) (bs : List Bool), VRs G r H xs vs → VRs G r H ys us → Vals vs its → Vals us its' → optAll (fun p : Val × Val => f p.1 p.2) (xs.zip ys) = some bs →
    bs.length = min its.length its'.length ∧ ∀ (j : Nat) (h1 : j < its.length) (h2 : j < its'.length), SeqAt.EqAt A s its[j] its'[j] (bs.getD j false) := by
  intro xs
  induction xs with
  | nil =>
    intro ys vs us its its' bs a b c d e
    cases a
    cases c
    simp [optAll] at e
    subst e
    exact ⟨by simp, fun j h1 _ => by simp at h1⟩
  | cons x xs ih =>
    intro ys vs us its its' bs a b c d e
    cases a with
    | cons a1 a2 =>
      cases c with
      | cons c1 c2 =>
        cases b with
        | nil =>
          cases d
          simp [optAll] at e
          subst e
          exact ⟨by simp, fun j _ h2 => by simp at h2⟩
        | cons b1 b2 =>
          cases d with
          | cons d1 d2 =>
            rw [List.zip_cons_cons] at e
            simp only [optAll] at e
            split at e
            · rename_i q1 l1 k1 k2
              cases e
              obtain ⟨i1, i2⟩ := ih _ _ _ _ _ _ a2 b2 c2 d2 k2
              refine ⟨by simp [i1], fun j h1 h2 => ?_⟩
              cases j with
              | zero => exact F _ _ _ _ _ _ _ a1 b1 c1 d1 k1
              | succ j => simpa using i2 j (by simpa using h1) (by simpa using h2)
            · cases e
theorem all_getD {bs : List Bool} : (List.range bs.length).all (fun j => bs.getD j false) = bs.all id := by
  rw [Bool.eq_iff_iff, List.all_eq_true, List.all_eq_true]
  constructor
  · intro q b hb
    obtain ⟨j, hj⟩ := List.mem_iff_getElem?.mp hb
    have := q j (List.mem_range.mpr (List.getElem?_eq_some_iff.mp hj).1)
    rw [List.getD_eq_getElem?_getD, hj] at this
    exact this
  · intro q j hj
    have hl := List.mem_range.mp hj
    rw [List.getD_eq_getElem?_getD, List.getElem?_eq_getElem hl]
    exact q _ (List.getElem_mem hl)
theorem hits_eq (ok : G.Ok) {A : Around} {f : Val → Val → Option Bool} (F : EqF A s G r H f) {e : List (Val × Val)} {es : List (L2.Key × V)} {vb : List (L2.Key × Value)} (re : DR G r H e es) (rb : KV es vb) : ∀ (d : List (Val × Val)) (ds : List (L2.Key × V)) (va : List (L2.Key × Value)) (b : Bool), DR G r H d ds → KV ds va → hitsM f e d = some b → PySem.W.KeqHits A s vb va b := by
  intro d
  induction d with
  | nil =>
    intro ds va b a c q
    cases a
    cases c
    simp [hitsM] at q
    subst q
    exact .nil
  | cons p d ih =>
    intro ds va b a c q
    cases a with
    | @cons k x κ v _ _ a1 a2 a3 =>
      cases c with
      | @cons _ w _ _ c1 c2 =>
        obtain ⟨κ', vv⟩ := w
        obtain ⟨c3, c4⟩ := c1
        have c3' : κ = κ' := c3
        subst c3'
        simp only [hitsM] at q
        rcases re.look ok a1 with ⟨l0, l1⟩ | ⟨u, uv, l0, l1, l2⟩
        · rw [l0] at q
          cases q
          exact .miss (RelO.none_of (by rw [← l1]; exact rb.val κ))
        · rw [l0] at q
          obtain ⟨y, hy, ry⟩ := RelO.some_of (v := uv) (o := valueAt vb κ) (by rw [← l1]; exact rb.val κ)
          simp only at q
          split at q
          · rename_i b1 b2 k1 k2
            cases q
            exact .hit hy (F _ _ _ _ _ _ _ a2 l2 c4 ry k1) (ih _ _ _ a3 c2 k2)
          · cases q

theorem rl_ref {a : Addr} {u : Value} (q : RelV (.ref a) u) : u = .ref a := q
theorem vr_lst (R : HR G r H h) {n : Nat} {v : V} {vv : Value} {xs : List Val} (q : VR G r H (.ref n) v) (rl : RelV v vv) (e : h[n]? = some (.lst xs)) : ∃ a vs, vv = .ref a ∧ SqL G.K H a vs ∧ VRs G r H xs vs := by
  cases q with
  | @ref _ a ha =>
    obtain ⟨vs, p1, p2⟩ := list_at R ha (.inl e)
    exact ⟨a, vs, rl_ref rl, p1, p2⟩
theorem vr_dct (R : HR G r H h) {n : Nat} {v : V} {vv : Value} {d : List (Val × Val)} (q : VR G r H (.ref n) v) (rl : RelV v vv) (e : h[n]? = some (.dct d)) : ∃ a es, vv = .ref a ∧ H a = some (.dK es) ∧ DR G r H d es := by
  cases q with
  | @ref _ a ha =>
    cases R.ob _ _ _ e ha with
    | dct p1 p2 => exact ⟨a, _, rl_ref rl, p1, p2⟩
theorem plist {hp : PySem.Heap} {a : Addr} {its : Array Value} (q : PlainL hp a its) : hp.IsList a its := by
  obtain ⟨o, n, e, c, _, d⟩ := q
  exact ⟨o, e, c, n, d⟩
theorem min_len {a b : Nat} : min a b = a ∧ a ≤ b ∨ min a b = b ∧ b ≤ a := by omega
theorem step_eq (ok : G.Ok) (hK : X.K = G.K) (I : Inv X pins σ H s) (R : HR G r H h) {A : Around} {f : Val → Val → Option Bool} (F : EqF A.in1 s G r H f) (hu : A.units < cLine) {x y : Val} {v u : V} {vv uu : Value} {b : Bool} (q1 : VR G r H x v) (q2 : VR G r H y u) (r1 : RelV v vv) (r2 : RelV u uu) (e : eqStep f h x y = some b) :
    SeqAt.RcAt A s vv uu b ∧ SeqAt.RcNeAt A s vv uu (!b) := by
  unfold eqStep at e
  split at e
  · rename_i xs ys
    cases q1 with
    | @tup _ vs a hs hv => cases q2 with
      | @tup _ us a' hs' hv' =>
        split at e
        · rename_i bs hb
          cases e
          rw [← hK] at hs hs'
          obtain ⟨its, k1, k2, _⟩ := I.tuple hs
          obtain ⟨its', k3, k4, _⟩ := I.tuple hs'
          obtain ⟨z1, z2⟩ := zip_eq F _ _ _ _ _ _ _ hv hv' k1 k3 hb
          have l1 : xs.length = its.length := (hv.len).trans k1.length
          have l2 : ys.length = its'.length := (hv'.len).trans k3.length
          have e1 := rl_ref r1
          have e2 := rl_ref r2
          subst e1
          subst e2
          have hz : (bs.all id && xs.length == ys.length) = ((List.range (min its.toArray.size its'.toArray.size)).all (fun j => bs.getD j false) && its.toArray.size == its'.toArray.size) := by
            rw [List.size_toArray, List.size_toArray, ← z1, all_getD, l1, l2]
          rw [hz]
          have he : ∀ j (h1 : j < its.toArray.size) (h2 : j < its'.toArray.size), SeqAt.EqAt A.in1 s its.toArray[j] its'.toArray[j] ((fun j => bs.getD j false) j) := fun j h1 h2 => by
            simpa using z2 j (by simpa using h1) (by simpa using h2)
          exact ⟨SeqAt.RcAt.tuples k2 k4 hu he, SeqAt.RcNeAt.tuples k2 k4 hu he⟩
        · cases e
  · rename_i n m
    split at e
    · rename_i xs ys eo1 eo2
      obtain ⟨a, vs, e1, p1, hv⟩ := vr_lst R q1 r1 eo1
      obtain ⟨a', us, e2, p2, hv'⟩ := vr_lst R q2 r2 eo2
      rw [← hK] at p1 p2
      obtain ⟨its, k1, k2, _⟩ := I.list p1
      obtain ⟨its', k3, k4, _⟩ := I.list p2
      have l1 : xs.length = its.length := (hv.len).trans k1.length
      have l2 : ys.length = its'.length := (hv'.len).trans k3.length
      subst e1
      subst e2
      split at e
      · rename_i hl
        split at e
        · rename_i bs hb
          cases e
          obtain ⟨z1, z2⟩ := zip_eq F _ _ _ _ _ _ _ hv hv' k1 k3 hb
          have hsz : its.toArray.size = its'.toArray.size := by rw [List.size_toArray, List.size_toArray, ← l1, ← l2, hl]
          have hz : bs.all id = (List.range its.toArray.size).all (fun j => bs.getD j false) := by
            have : its.toArray.size = bs.length := by rw [List.size_toArray, z1]; omega
            rw [this, all_getD]
          rw [hz]
          have he : ∀ j (h1 : j < its.toArray.size) (h2 : j < its'.toArray.size), SeqAt.EqAt A.in1 s its.toArray[j] its'.toArray[j] ((fun j => bs.getD j false) j) := fun j h1 h2 => by
            simpa using z2 j (by simpa using h1) (by simpa using h2)
          exact ⟨SeqAt.RcAt.lists (plist k2) (plist k4) hsz hu he, SeqAt.RcNeAt.lists (plist k2) (plist k4) hsz hu he⟩
        · cases e
      · rename_i hl
        cases e
        have hsz : (its.toArray.size != its'.toArray.size) = true := by
          rw [List.size_toArray, List.size_toArray, ← l1, ← l2]; simpa using hl
        exact ⟨SeqAt.RcAt.lists_lengths (plist k2) (plist k4) hsz hu, SeqAt.RcNeAt.lists_lengths (plist k2) (plist k4) hsz hu⟩
    · rename_i d e' eo1 eo2
      obtain ⟨a, es, e1, p1, hv⟩ := vr_dct R q1 r1 eo1
      obtain ⟨a', es', e2, p2, hv'⟩ := vr_dct R q2 r2 eo2
      obtain ⟨_, ya, va, ra, da⟩ := dk_of I.hok p1
      obtain ⟨_, yb, vb, rb, db⟩ := dk_of I.hok p2
      have l1 := (hv.len).trans ra.length
      have l2 := (hv'.len).trans rb.length
      subst e1
      subst e2
      split at e
      · rename_i hi
        have ka : ∀ p ∈ va, ∃ i, p.1 = Sum.inl i := fun p hp => by
          have hm : p.1 ∈ es.map (·.1) := by rw [ra.keys]; exact List.mem_map_of_mem hp
          obtain ⟨p', hp', e'⟩ := List.mem_map.mp hm
          obtain ⟨i, hi'⟩ := hv.isI hi.1 p' hp'
          exact ⟨i, by rw [← e', hi']⟩
        have kb : ∀ p ∈ vb, ∃ i, p.1 = Sum.inl i := fun p hp => by
          have hm : p.1 ∈ es'.map (·.1) := by rw [rb.keys]; exact List.mem_map_of_mem hp
          obtain ⟨p', hp', e'⟩ := List.mem_map.mp hm
          obtain ⟨i, hi'⟩ := hv'.isI hi.2 p' hp'
          exact ⟨i, by rw [← e', hi']⟩
        have hits : va.length = vb.length → ∃ c, PySem.W.KeqHits A.in1 s vb va c ∧ c = b := fun hl => by
          rw [if_pos (by omega)] at e
          exact ⟨b, hits_eq ok F hv' rb _ _ _ _ hv ra e, rfl⟩
        have hb : b = (va.length == vb.length && b) := by
          by_cases hl : va.length = vb.length
          · simp [hl]
          · rw [if_neg (by omega)] at e
            cases e
            simp
        refine ⟨fun P w E Q h' => ?_, fun P w E Q h' => ?_⟩
        · refine PySem.W.keq_eq (knd := mixKind P w) (r := b) ya yb (dictOf_any da ka) (dictOf_any db kb) hu (fun hl => ?_) (by rw [← hb]; exact h')
          obtain ⟨c, k, rfl⟩ := hits hl
          exact k
        · refine PySem.W.keq_ne (knd := mixKind P w) (r := b) ya yb (dictOf_any da ka) (dictOf_any db kb) hu (fun hl => ?_) (by rw [← hb]; exact h')
          obtain ⟨c, k, rfl⟩ := hits hl
          exact k
      · cases e
    · cases e
  · cases e
theorem ref_nd (R : HR G r H h) {n m : Nat} {a : Addr} {f : Val → Val → Option Bool} {b : Bool} (e : eqStep f h (.ref n) (.ref m) = some b) (h1 : r[n]? = some a) (h2 : r[m]? = some a) : n = m := by
  have key : ∀ o o', h[n]? = some o → h[m]? = some o' → isFls o = false → isFls o' = false → n = m := fun o o' e1 e2 f1 f2 => R.nd _ _ _ _ _ e1 e2 h1 h2 f1 f2
  simp only [eqStep] at e
  split at e
  · rename_i e1 e2; exact key _ _ e1 e2 rfl rfl
  · rename_i e1 e2; exact key _ _ e1 e2 rfl rfl
  · cases e
theorem eqH_same (ok : G.Ok) (hK : X.K = G.K) (I : Inv X pins σ H s) (R : HR G r H h) : ∀ (n : Nat) (x y : Val) (v : V) (b : Bool), VR G r H x v → VR G r H y v → eqH n h x y = some b → b = true
  | 0, _, _, _, _, _, _, e => by simp [eqH] at e
  | n + 1, x, y, v, b, q1, q2, e => by
    have ih := eqH_same ok hK I R n
    have zips : ∀ (xs ys : List Val) (vs : List V) (bs : List Bool), VRs G r H xs vs → VRs G r H ys vs → optAll (fun p : Val × Val => eqH n h p.1 p.2) (xs.zip ys) = some bs → bs.all id = true ∧ xs.length = ys.length := by
      intro xs
      induction xs with
      | nil =>
        intro ys vs bs a c e
        cases a; cases c
        simp [optAll] at e
        subst e
        exact ⟨rfl, rfl⟩
      | cons x xs ih2 =>
        intro ys vs bs a c e
        cases a with
        | cons a1 a2 => cases c with
          | cons c1 c2 =>
            rw [List.zip_cons_cons] at e
            simp only [optAll] at e
            split at e
            · rename_i q1 l1 k1 k2
              cases e
              have z := ih2 _ _ _ a2 c2 k2
              have z1 := ih _ _ _ _ a1 c1 k1
              exact ⟨by rw [List.all_cons, z1, z.1]; rfl, by simp [z.2]⟩
            · cases e
    unfold eqH at e
    split at e
    · rename_i d d' h1 h2
      cases e
      rw [conv_same ok hK I R _ _ _ _ _ _ q1 q2 h1 h2]
      exact deq_refl _
    · split at e
      · rename_i n' m'
        split at e
        · cases e; rfl
        · rename_i hnm
          cases q1 with
          | ref h1 => cases q2 with
            | ref h2 => exact absurd (ref_nd R e h1 h2) hnm
      · rename_i hno
        cases q1 with
        | @tup xs vs a hs hv => cases q2 with
          | @tup ys us _ hs' hv' =>
            have : vs = us := by rw [← hK] at hs hs'; exact I.tuple_inj hs hs'
            subst this
            unfold eqStep at e
            simp only at e
            split at e
            · rename_i bs hb
              cases e
              obtain ⟨z1, z2⟩ := zips _ _ _ _ hv hv' hb
              simp [z1, z2]
            · cases e
          | ref h2 => simp [eqStep] at e
        | @ref m a h1 => cases q2 with
          | @tup ys us _ hs' hv' => simp [eqStep] at e
          | ref h2 => exact (hno _ _ rfl rfl).elim
        | non => simp [eqStep] at e
        | bl _ => simp [eqStep] at e
        | int _ => simp [eqStep] at e
        | str _ => simp [eqStep] at e
theorem eqH_at (ok : G.Ok) (hK : X.K = G.K) (I : Inv X pins σ H s) (R : HR G r H h) : ∀ (n : Nat) (A : Around), A.units + n + 66 < cLine → EqF A.in1 s G r H (eqH n h)
  | 0, A, _ => fun x y v u vv uu b _ _ _ _ e => by simp [eqH] at e
  | n + 1, A, hu => fun x y v u vv uu b q1 q2 r1 r2 e => by
    have ih : EqF A.in1.in1 s G r H (eqH n h) := eqH_at ok hK I R n A.in1 (by show A.units + 1 + n + 66 < cLine; omega)
    have hu1 : A.in1.units < cLine := by show A.units + 1 < cLine; omega
    have e0 := e
    unfold eqH at e
    split at e
    · rename_i d d' h1 h2
      cases e
      obtain ⟨d1, w1⟩ := conv_dp R _ _ _ _ q1 h1
      obtain ⟨d2, w2⟩ := conv_dp R _ _ _ _ q2 h2
      rw [← hK] at d1 d2
      obtain ⟨as, s1⟩ := Dp.reads I _ _ _ d1 r1
      obtain ⟨bs, s2⟩ := Dp.reads I _ _ _ d2 r2
      have := PySem.W.keq_at (A := A) s1 s2 (shaped_py ok w1 (by decide)) (shaped_py ok w2 (by decide)) (by show A.units + 1 + 64 < cLine; omega)
      rw [eqv_py ok _ _ _ _ w1 w2] at this
      exact this
    · have stp : ∀ b, eqStep (eqH n h) h x y = some b → SeqAt.RcAt A.in1 s vv uu b := fun b e => (step_eq ok hK I R ih hu1 q1 q2 r1 r2 e).1
      split at e
      · rename_i n' m'
        split at e
        · rename_i hnm
          cases e
          subst hnm
          cases q1 with
          | ref h1 => cases q2 with
            | ref h2 =>
              rw [h1] at h2
              cases h2
              have e1 := rl_ref r1
              have e2 := rl_ref r2
              subst e1
              subst e2
              exact SeqAt.EqAt.same _
        · rename_i hnm
          have k := stp b e
          cases q1 with
          | @ref _ a h1 => cases q2 with
            | @ref _ a' h2 =>
              have e1 := rl_ref r1
              have e2 := rl_ref r2
              subst e1
              subst e2
              refine SeqAt.EqAt.of_refs (fun ea => ?_) k
              subst ea
              exact hnm (ref_nd R e h1 h2)
      · rename_i hno
        have k := stp b e
        cases q1 with
        | @tup xs vs a hs hv => cases q2 with
          | @tup ys us a' hs' hv' =>
            have e1 := rl_ref r1
            have e2 := rl_ref r2
            subst e1
            subst e2
            by_cases ea : a = a'
            · subst ea
              have := eqH_same ok hK I R (n + 1) _ _ _ _ (.tup hs hv) (.tup hs' hv') e0
              subst this
              exact SeqAt.EqAt.same _
            · exact SeqAt.EqAt.of_refs ea k
          | _ => simp [eqStep] at e
        | @ref m a h1 => cases q2 with
          | ref h2 => exact (hno _ _ rfl rfl).elim
          | _ => simp [eqStep] at e
        | non => simp [eqStep] at e
        | bl _ => simp [eqStep] at e
        | int _ => simp [eqStep] at e
        | str _ => simp [eqStep] at e
end
/-! None == a dict -/
section
variable {A : Around} {s : Shared} {a : Addr}
theorem slotArgs_none {prog : Program} {w : World} {E : Value → Shared → Prop} {name : String} {Q : Value × Value → Shared → Prop} (hd : s.TypeIs (.ref a) "dict") (h : Q (.ref a, .none) s) :
    wpAny (model prog w) A (Builtin.Dict.dictSlotArgs name ⟨[.ref a, .none], []⟩) Q E s := by
  unfold Builtin.Dict.dictSlotArgs
  refine wpAny_bind (wpAny_notOrdered_dict hd ?_)
  show wpAny _ _ (pure (Value.ref a, Value.none)) _ _ s
  exact wpAny_pure h
theorem rc_none_dict (hd : s.TypeIs (.ref a) "dict") (hu : A.units < cLine) : SeqAt.RcAt A s .none (.ref a) false := fun prog w E Q h =>
  SeqAt.rc_eq_decline_or (k := false) rfl hd (by decide) F.sub_dict_NoneType F.slot_NoneType_eq F.slot_dict_eq_refl
    (fun _ hq => call_gives F.slot_NoneType_eq rfl F.entry_NoneType_eq (F.args_NoneType_eq_2 _ _) (SeqAt.NoneType___eq___none_ref_0 a) hq)
    (fun Q' hq => wpAny_call_entry F.slot_dict_eq_refl hd F.entry_dict_eq (by
      show wpAny _ _ (Builtin.Dict.dictSlotArgs "__eq__" ⟨[.ref a, .none], []⟩ >>= _) _ _ s
      refine wpAny_bind (slotArgs_none hd ?_)
      refine wpAny_bind (wpAny_isInstance (T := "NoneType") rfl F.sub_NoneType_dict ?_)
      simp only [Bool.not_false, if_true]
      exact wpAny_bind (wpAny_rule (wpAny_pure ⟨_, rfl, hq⟩))) (F.args_dict_eq_2 _ _))
    (fun _ hq => wpAny_of_eq (rfl : isSame .none (.ref a) = pure false) hq) (.inr hu) h
theorem rn_none_dict (hd : s.TypeIs (.ref a) "dict") (hu : A.units < cLine) : SeqAt.RcNeAt A s .none (.ref a) true := fun prog w E Q h =>
  SeqAt.rc_ne_decline_or (k := false) rfl hd (by decide) F.sub_dict_NoneType F.slot_NoneType_ne F.slot_dict_ne_refl
    (fun _ hq => call_gives F.slot_NoneType_ne rfl F.entry_NoneType_ne (F.args_NoneType_ne_2 _ _) (SeqAt.NoneType___ne___none_ref_0 a) hq)
    (fun Q' hq => wpAny_call_entry F.slot_dict_ne_refl hd F.entry_dict_ne (by
      show wpAny _ _ (Builtin.Dict.dictSlotArgs "__ne__" ⟨[.ref a, .none], []⟩ >>= _) _ _ s
      refine wpAny_bind (slotArgs_none hd ?_)
      refine wpAny_bind (wpAny_isInstance (T := "NoneType") rfl F.sub_NoneType_dict ?_)
      simp only [Bool.not_false, if_true]
      exact wpAny_bind (wpAny_rule (wpAny_pure ⟨_, rfl, hq⟩))) (F.args_dict_ne_2 _ _))
    (fun _ hq => wpAny_of_eq (rfl : isSame .none (.ref a) = pure false) hq) (.inr hu) h
end
/-! the rule -/
def rEqH (G : Cfg) (neg : Bool) : R2 := fun v u H Q => ∃ r h x y b, HR G r H h ∧ VR G r H x v ∧ VR G r H y u ∧ oEqH neg x y h = .ok (.bl b) h ∧ Q (.bl b) H
theorem nonD_of {h : Heap} {x y : Val} (e : nonD h x y = true) : x = .non ∧ ∃ a d, y = .ref a ∧ h[a]? = some (.dct d) := by
  unfold nonD at e
  split at e
  · split at e
    · rename_i a _ d q
      exact ⟨rfl, a, d, rfl, q⟩
    · cases e
  · cases e
theorem oEqH_top {x y : Val} {h : Heap} {neg c : Bool} (e : oEqH neg x y h = .ok (.bl c) h) : (∃ d d', conv 40 h x = some d ∧ conv 40 h y = some d' ∧ c = (if neg then !deq d d' else deq d d')) ∨ (∃ b, eqStep (eqH 20 h) h x y = some b ∧ c = (if neg then !b else b)) ∨ (nonD h x y = true ∧ c = neg) := by
  unfold oEqH at e
  split at e
  · rename_i d d' h1 h2
    cases e
    exact .inl ⟨d, d', h1, h2, rfl⟩
  · split at e
    · rename_i b hb
      cases e
      exact .inr (.inl ⟨b, hb, rfl⟩)
    · split at e
      · rename_i hn
        cases e
        exact .inr (.inr ⟨hn, rfl⟩)
      · cases e
theorem none_dict {G : Cfg} {r : List Addr} {H : Hp} {h : Heap} {X : Cx} {pins : List (Addr × PySem.Obj)} {s : Shared} {σ : St} (I : Inv X pins σ H s) (R : HR G r H h) {A : Around} (hu : A.units < cLine) {x y : Val} {v u : V} {vv uu : Value} (q1 : VR G r H x v) (q2 : VR G r H y u) (r1 : RelV v vv) (r2 : RelV u uu) (e : nonD h x y = true) :
    SeqAt.RcAt A s vv uu false ∧ SeqAt.RcNeAt A s vv uu true := by
  obtain ⟨rfl, a, d, rfl, eo⟩ := nonD_of e
  cases q1
  obtain ⟨b, es, e1, p1, _⟩ := vr_dct R q2 r2 eo
  obtain ⟨_, _, va, ra, da⟩ := dk_of I.hok p1
  subst e1
  have e2 : vv = .none := by cases r1; rfl
  subst e2
  exact ⟨rc_none_dict da.typeIs hu, rn_none_dict da.typeIs hu⟩
theorem op_eqH {G : Cfg} {X : Cx} (ok : G.Ok) (hK : X.K = G.K) (hu : X.A.units + 150 < cLine) : OpR X (compareOp .Eq) (rEqH G false) := by
  intro pins s σ H v u vv uu Q I rx ry hh
  obtain ⟨r, h, x, y, b, R, q1, q2, e, q⟩ := hh
  rcases oEqH_top e with ⟨d, d', h1, h2, rfl⟩ | ⟨c, h1, rfl⟩ | ⟨hn, rfl⟩
  · obtain ⟨d1, w1⟩ := conv_dp R _ _ _ _ q1 h1
    obtain ⟨d2, w2⟩ := conv_dp R _ _ _ _ q2 h2
    rw [← hK] at d1 d2
    obtain ⟨as, s1⟩ := Dp.reads I _ _ _ d1 rx
    obtain ⟨bs, s2⟩ := Dp.reads I _ _ _ d2 ry
    refine SeqAt.compareEq_shaped s1 s2 (shaped_py ok w1 (by decide)) (shaped_py ok w2 (by decide)) (by omega) ⟨.bl _, H, I, rfl, ?_⟩
    rw [eqv_py ok _ _ _ _ w1 w2]
    exact q
  · have F := eqH_at ok hK I R 20 X.A (by omega)
    exact (step_eq ok hK I R F (by omega) q1 q2 rx ry h1).1 _ _ _ _ ⟨.bl _, H, I, rfl, q⟩
  · exact (none_dict I R (by omega) q1 q2 rx ry hn).1 _ _ _ _ ⟨.bl _, H, I, rfl, q⟩
theorem op_neH {G : Cfg} {X : Cx} (ok : G.Ok) (hK : X.K = G.K) (hu : X.A.units + 150 < cLine) : OpR X (compareOp .NotEq) (rEqH G true) := by
  intro pins s σ H v u vv uu Q I rx ry hh
  obtain ⟨r, h, x, y, b, R, q1, q2, e, q⟩ := hh
  rcases oEqH_top e with ⟨d, d', h1, h2, rfl⟩ | ⟨c, h1, rfl⟩ | ⟨hn, rfl⟩
  · obtain ⟨d1, w1⟩ := conv_dp R _ _ _ _ q1 h1
    obtain ⟨d2, w2⟩ := conv_dp R _ _ _ _ q2 h2
    rw [← hK] at d1 d2
    obtain ⟨as, s1⟩ := Dp.reads I _ _ _ d1 rx
    obtain ⟨bs, s2⟩ := Dp.reads I _ _ _ d2 ry
    refine SeqAt.compareNe_shaped s1 s2 (shaped_py ok w1 (by decide)) (shaped_py ok w2 (by decide)) (by omega) ⟨.bl _, H, I, rfl, ?_⟩
    rw [eqv_py ok _ _ _ _ w1 w2]
    exact q
  · have F := eqH_at ok hK I R 20 X.A (by omega)
    exact (step_eq ok hK I R F (by omega) q1 q2 rx ry h1).2 _ _ _ _ ⟨.bl _, H, I, rfl, q⟩
  · exact (none_dict I R (by omega) q1 q2 rx ry hn).2 _ _ _ _ ⟨.bl _, H, I, rfl, q⟩
section
variable {G : Cfg} {E : XK} {X : Cx} {k : Nat} {a b : Expr} {ta tb : TE} {ma mb : En → Heap → Res Val}
theorem oEqH_ok {neg : Bool} {x y : Val} {h h' : Heap} {z : Val} (e : oEqH neg x y h = .ok z h') : h' = h ∧ ∃ b, z = .bl b := by
  unfold oEqH at e
  split at e
  · cases e; exact ⟨rfl, _, rfl⟩
  · split at e
    · cases e; exact ⟨rfl, _, rfl⟩
    · split at e
      · cases e; exact ⟨rfl, _, rfl⟩
      · cases e
theorem oEqH_nr {neg : Bool} {x y : Val} {h h' : Heap} {c : Nat} : oEqH neg x y h ≠ .raised c h' := by
  unfold oEqH
  intro e
  split at e
  · cases e
  · split at e
    · cases e
    · split at e <;> cases e
theorem rf_eqH {neg : Bool} : Rf2 G E (rEqH G neg) (oEqH neg) := by
  refine ⟨fun r H h x y v u Q hR a b p => ?_⟩
  cases e : oEqH neg x y h with
  | ok z h' =>
    obtain ⟨rfl, c, rfl⟩ := oEqH_ok e
    rw [e] at p
    exact ⟨r, h', x, y, c, hR, a, b, e, p.here hR (.bl _)⟩
  | raised c h' => exact (oEqH_nr e).elim
  | stuck => rw [e] at p; exact p.elim
theorem mc_eqH (ok : G.Ok) (C : XC G E X k) (ha : ME G E X a ta ma) (hb : ME G E X b tb mb) : MC G E X .Eq a b (tOp (rEqH G false) ta tb) (mB (oEqH false) ma mb) :=
  ⟨pc_of (op_eqH (X := X) ok C.K (by have := C.room.un; omega)) ha.pe hb.pe, ha.rf.b2 hb.rf rf_eqH⟩
theorem mc_neH (ok : G.Ok) (C : XC G E X k) (ha : ME G E X a ta ma) (hb : ME G E X b tb mb) : MC G E X .NotEq a b (tOp (rEqH G true) ta tb) (mB (oEqH true) ma mb) :=
  ⟨pc_of (op_neH (X := X) ok C.K (by have := C.room.un; omega)) ha.pe hb.pe, ha.rf.b2 hb.rf rf_eqH⟩
end
end PyM
namespace PyM
open PySem L2
/-! ### d.update(e), dict(d) -/
def mergeV (d e : List (Val × Val)) : List (Val × Val) := e.foldl (fun acc kv => putV acc kv.1 kv.2) d
def dUpd (o y : Val) (h : Heap) : Res Val := match o, y with
  | .ref a, .ref b => if a = b then .stuck else match h[a]?, h[b]? with
    | some (.dct d), some (.dct e) => if d.length + e.length ≤ lim then .ok .non (h.set a (.dct (mergeV d e))) else .stuck
    | _, _ => .stuck
  | _, _ => .stuck
def isU (x : Val) (h : Heap) : Bool := match x with
  | .ref a => match h[a]? with
    | some (.dct _) => true
    | _ => false
  | _ => false
def mUpd (mo my : En → Heap → Res Val) (s : En) (h : Heap) : Res Val := (mo s h).bind fun o h1 => if isU o h1 = true then (my s h1).bind fun y h2 => dUpd o y h2 else .stuck
def rUpd : V → List V → Hp → VK → Prop := fun x xs H Q => ∃ (a b : Addr) (kvs more : List (L2.Key × V)), x = .ref a ∧ xs = [.ref b] ∧ a ≠ b ∧ H a = some (.dK kvs) ∧ H b = some (.dK more) ∧ kvs.length + more.length ≤ sizeLine ∧ Q .non (upd H a (.dK (mergeK kvs more)))
theorem mt_update {X : Cx} : MtR X "dict.update" rUpd := by
  intro pins s σ H x xs v us Q I rx rv h
  obtain ⟨a, b, kvs, more, rfl, rfl, ne, e1, e2, hl, q⟩ := h
  obtain rfl : v = Value.ref a := rx
  obtain ⟨u, rfl, ru⟩ := vals1 rv
  obtain rfl : u = Value.ref b := ru
  obtain ⟨z, hd, vs, rel, dd⟩ := dk_of I.hok e1
  obtain ⟨z2, hd2, vs2, rel2, dd2⟩ := dk_of I.hok e2
  refine call_meetsIn PySem.F.slot_dict_update dd.typeIs PySem.F.entry_dict_update (PySem.F.args_dict_update_2 _ _) (meets_dict_update (mixKind X.prog X.w) a b ne hd2)
    ⟨vs, vs2, dd, dd2, by rw [← rel.length, ← rel2.length]; exact hl, fun h' dd' _ hs => ⟨.non, _, d_write (t' := s.toks) I (by rw [e1]; exact True.intro) hs (let ⟨q, _, _, hq, _⟩ := dd'; ⟨q, hq⟩) (dk_new ?_ hd (rel2.merge rel) dd'), rfl, q⟩⟩
  exact Nat.le_trans (length_mergeK more kvs) hl
section
variable {G : Cfg} {E : XK} {X : Cx} {k : Nat} {r : List Addr} {H : Hp} {h : Heap} {e o f : Expr} {td ty tx to : TE} {mo my mz : En → Heap → Res Val} {apos cpos : Pos}
theorem DR.merge (ok : G.Ok) : ∀ {e : List (Val × Val)} {es : List (L2.Key × V)} {d : List (Val × Val)} {ds : List (L2.Key × V)}, DR G r H d ds → DR G r H e es → DR G r H (mergeV d e) (mergeK ds es) := by
  intro e es d ds a b
  induction b generalizing d ds with
  | nil => exact a
  | cons k x _ ih => exact ih (a.put ok k x)
theorem me_update (ok : G.Ok) (C : XC G E X k) (ho : ME G E X o to mo) (he : ME G E X e ty my) (hbase : attributeBase o "update" X.env (eval o X.env) = eval o X.env := by rfl)
    (hfew : ((backTo cpos (starEach [e] X.env)).all (fun x => !x.1) && (backToKw cpos (keywordEach [] X.env)).all (fun x => x.1.isSome)
      && decide (([e] : List Expr).length + ([] : List Keyword).length + (if ([] : List Keyword).isEmpty then 0 else 1) < 30)) = true := by rfl)
    (hline : (apos.endLine == cpos.line) = true := by rfl) (hs : starEach [e] X.env = (false, eval e X.env) :: starEach [] X.env := by rfl) (hplain : (backTo cpos (starEach [] X.env)).any (·.1) = false := by rfl) :
    ME G E X (.Call (.Attribute o "update" apos) [e] [] cpos) (tBM G.K "dict" rUpd to (tCons ty tNil)) (mUpd mo my) := by
  refine ⟨?_, ⟨fun r H h s σ Q hR sR p => ho.rf.run r H h s σ _ hR sR (p.seq fun x h1 r1 H1 v s1 hR1 v1 p1 => ?_)⟩⟩
  · have := pe_bm PySem.F.plainAttrs_dict PySem.F.slot_dict_update PySem.F.type_dict_update (mt_update (X := X)) ho.pe (pa_cons he.pe pa_nil hs) hbase hfew hline hs hplain
    rwa [C.K] at this
  · split at p1
    · rename_i hd
      obtain ⟨a, rfl, kvs0, id⟩ : ∃ a, v = .ref a ∧ ∃ kvs, H1 a = some (.dK kvs) := by
        cases v1 with
        | @ref _ a ea =>
          unfold isU at hd
          simp only at hd
          split at hd
          · rename_i d eo
            cases hR1.ob _ _ _ eo ea with
            | dct hl _ => exact ⟨a, rfl, _, hl⟩
          · cases hd
        | _ => simp [isU] at hd
      refine ⟨.inr (.inr (.inl ⟨rfl, .inl ⟨_, id⟩⟩)), ?_⟩
      show ty σ H1 _
      refine he.rf.run r1 H1 h1 s σ _ hR1 (sR.mono s1) (p1.seq fun y h2 r2 H2 w s2 hR2 v2 p2 => ?_)
      have vo := v1.mono s2
      unfold dUpd at p2
      split at p2
      · rename_i n m
        cases vo with
        | ref ea => cases v2 with
          | @ref _ b eb =>
            split at p2
            · exact False.elim p2
            · rename_i hne
              split at p2
              · rename_i d e' eo1 eo2
                split at p2
                · rename_i hl
                  cases hR2.ob _ _ _ eo1 ea with
                  | dct hl1 hv1 => cases hR2.ob _ _ _ eo2 eb with
                    | dct hl2 hv2 =>
                      refine ⟨a, b, _, _, rfl, rfl, fun eab => ?_, hl1, hl2, by rw [← hv1.len, ← hv2.len]; exact le_line hl, set_dct hR2 eo1 ea hl1 (hv1.merge ok hv2) .non p2⟩
                      subst eab
                      exact hne (hR2.nd _ _ _ _ _ eo1 eo2 ea eb rfl rfl)
                · exact False.elim p2
              · exact False.elim p2
      · exact False.elim p2
    · exact False.elim p1
def bDictD (xs : List Val) (h : Heap) : Res Val := match xs with
  | [.ref a] => match h[a]? with
    | some (.dct d) => .ok (.ref h.length) (h ++ [.dct d])
    | _ => .stuck
  | _ => .stuck
theorem new_dct (hR : HR G r H h) {d : List (Val × Val)} {es : List (L2.Key × V)} {Q : VK} (hv : DR G r H d es) (p : PostR G (VR G) r H E (.ok (.ref h.length) (h ++ [.dct d])) Q) (l : Addr) (hl : H l = none) : Q (.ref l) (upd H l (.dK es)) := by
  refine p (r ++ [l]) _ _ (Stp.new hl) (hR.push hl (.dct upd_same (hv.mono (Stp.new hl)))) (.ref ?_)
  rw [← hR.len]
  simp
theorem rl_dictD : RfL G E (fun xs H Q => ∃ (a : Addr) (kvs : List (L2.Key × V)), xs = [.ref a] ∧ Rd H a (.dK kvs) ∧ ∀ p, H p = none → Q (.ref p) (upd H p (.dK kvs))) bDictD := by
  refine ⟨fun r H h xs vs Q hR v p => ?_⟩
  unfold bDictD at p
  split at p
  · cases v with
    | cons q1 q2 => cases q2; cases q1 with
      | ref ea =>
        split at p
        · rename_i d eo
          cases hR.ob _ _ _ eo ea with
          | dct hl hv => exact ⟨_, _, rfl, .inl hl, fun l hl' => new_dct hR hv p l hl'⟩
        · exact False.elim p
  · exact False.elim p
/-! ### sorted -/
def insI (x : Int) : List Int → List Int
  | [] => [x]
  | y :: ys => if x ≤ y then x :: y :: ys else y :: insI x ys
def sortI : List Int → List Int
  | [] => []
  | x :: xs => insI x (sortI xs)
theorem insI_perm (x : Int) : ∀ l, (insI x l).Perm (x :: l)
  | [] => .refl _
  | y :: ys => by
    unfold insI
    split
    · exact .refl _
    · exact ((insI_perm x ys).cons y).trans (.swap ..)
theorem sortI_perm : ∀ l, (sortI l).Perm l
  | [] => .refl _
  | x :: xs => (insI_perm x _).trans ((sortI_perm xs).cons x)
theorem insI_sorted (x : Int) : ∀ l : List Int, l.Pairwise (· ≤ ·) → (insI x l).Pairwise (· ≤ ·)
  | [], _ => by simp [insI]
  | y :: ys, h => by
    unfold insI
    have h' := List.pairwise_cons.mp h
    split
    · rename_i hxy
      refine List.pairwise_cons.mpr ⟨fun z hz => ?_, h⟩
      rcases List.mem_cons.mp hz with rfl | hz
      · exact hxy
      · exact Int.le_trans hxy (h'.1 z hz)
    · rename_i hxy
      refine List.pairwise_cons.mpr ⟨fun z hz => ?_, insI_sorted x ys h'.2⟩
      rcases List.mem_cons.mp ((insI_perm x ys).mem_iff.mp hz) with rfl | hz
      · omega
      · exact h'.1 z hz
theorem sortI_sorted : ∀ l : List Int, (sortI l).Pairwise (· ≤ ·)
  | [] => .nil
  | x :: xs => insI_sorted x _ (sortI_sorted xs)
theorem sorted_uniq : ∀ {l m : List Int}, l.Perm m → l.Pairwise (· ≤ ·) → m.Pairwise (· ≤ ·) → l = m
  | [], m, p, _, _ => (List.nil_perm.mp p).symm
  | x :: l, [], p, _, _ => absurd p.symm (by simp)
  | x :: l, y :: m, p, h1, h2 => by
    have h1' := List.pairwise_cons.mp h1
    have h2' := List.pairwise_cons.mp h2
    have hx : x ∈ y :: m := p.mem_iff.mp List.mem_cons_self
    have hy : y ∈ x :: l := p.mem_iff.mpr List.mem_cons_self
    have e : x = y := by
      rcases List.mem_cons.mp hx with e | hx
      · exact e
      · rcases List.mem_cons.mp hy with e | hy
        · exact e.symm
        · have a := h1'.1 y hy
          have b := h2'.1 x hx
          omega
    subst e
    rw [sorted_uniq (List.perm_cons x |>.mp p) h1'.2 h2'.2]
theorem sortI_uniq {l m : List Int} (p : l.Perm m) (h : l.Pairwise (· ≤ ·)) : l = sortI m := sorted_uniq (p.trans (sortI_perm m).symm) h (sortI_sorted m)
def bSorted (xs : List Val) (h : Heap) : Res Val := match xs with
  | [.ref a] => match h[a]? with
    | some (.lst ys) => match optAll asInt ys with
      | some ns => .ok (.ref h.length) (h ++ [.lst ((sortI ns).map .int)])
      | none => .stuck
    | some (.dct d) => match optAll (fun kv : Val × Val => asInt kv.1) d with
      | some ns => if ns.length < 64 then .ok (.ref h.length) (h ++ [.lst ((sortI ns).map .int)]) else .stuck
      | none => .stuck
    | _ => .stuck
  | _ => .stuck
def rSortedM (K : PySem.W.Frag) : List V → Hp → VK → Prop := fun xs H Q => rSortedI K xs H Q ∨ ∃ (a : Addr) (kvs : List (L2.Key × V)) (ks : List Int), xs = [.ref a] ∧ Rd H a (.dK kvs) ∧ kvs.map (·.1) = ks.map Sum.inl ∧ ks.length < 64 ∧ ∀ (ys : List Int) (p : Addr), ys.Perm ks → ys.Pairwise (· ≤ ·) → H p = none → Q (.ref p) (upd H p (.lst (ys.map V.int)))
theorem cl_sorted (C : XC G E X k) : CallR X (.builtin "sorted") (rSortedM G.K) := by
  have := callR_or (cr_sortedI (X := X)) (call_sortedDI C.calm)
  rw [C.K] at this
  exact this
theorem ints_vr (ns : List Int) : VRs G r H (ns.map .int) (ns.map V.int) := by
  induction ns with
  | nil => exact .nil
  | cons n ns ih => exact .cons (.int n) ih
theorem DR.ints {d : List (Val × Val)} {es : List (L2.Key × V)} (q : DR G r H d es) : ∀ {ns : List Int}, optAll (fun kv : Val × Val => asInt kv.1) d = some ns → es.map (·.1) = ns.map Sum.inl := by
  induction q with
  | nil => intro ns e; simp [optAll] at e; subst e; rfl
  | @cons k x κ v d es a b c ih =>
    intro ns e
    simp only [optAll] at e
    split at e
    · rename_i i l e1 e2
      cases e
      cases a with
      | int j =>
        simp [asInt] at e1
        subst e1
        simp [ih e2]
      | str _ => simp [asInt] at e1
    · cases e
theorem rl_sorted : RfL G E (rSortedM G.K) bSorted := by
  refine ⟨fun r H h xs vs Q hR v p => ?_⟩
  unfold bSorted at p
  split at p
  · cases v with
    | cons q1 q2 => cases q2; cases q1 with
      | @ref _ ad ea =>
        split at p
        · rename_i ys eo
          split at p
          · rename_i ns e2
            cases hR.ob _ _ _ eo ea with
            | lst hl hv =>
              refine .inl ⟨ad, ns, rfl, by rw [← all_int hv e2]; exact SqL.of hl, fun ns' l pm so hl' => ?_⟩
              rw [sortI_uniq pm so]
              exact new_lst hR (ints_vr _) p l hl'
          · exact False.elim p
        · rename_i d eo
          split at p
          · rename_i ns e2
            split at p
            · rename_i hlt
              cases hR.ob _ _ _ eo ea with
              | dct hl hv =>
                refine .inr ⟨ad, _, ns, rfl, .inl hl, hv.ints e2, hlt, fun ns' l pm so hl' => ?_⟩
                rw [sortI_uniq pm so]
                exact new_lst hR (ints_vr _) p l hl'
            · exact False.elim p
          · exact False.elim p
        · exact False.elim p
  · exact False.elim p
/-! ### min(xs), max(xs) -/
def minI : List Int → Int
  | [] => 0
  | [x] => x
  | x :: xs => min x (minI xs)
theorem minI_spec : ∀ {l : List Int} {m : Int}, m ∈ l → (∀ y ∈ l, m ≤ y) → m = minI l
  | [], _, h, _ => absurd h (by simp)
  | [x], m, h, _ => by simpa [minI] using h
  | x :: y :: l, m, h, k => by
    have hx := k x List.mem_cons_self
    rw [minI]
    · by_cases hm : m ∈ y :: l
      · rw [← minI_spec hm (fun z hz => k z (List.mem_cons_of_mem _ hz))]; omega
      · have e : m = x := (List.mem_cons.mp h).resolve_right hm
        have hmin : ∀ {l : List Int}, l ≠ [] → minI l ∈ l := by
          intro l
          induction l with
          | nil => intro z; exact absurd rfl z
          | cons a l ih =>
            intro _
            cases l with
            | nil => simp [minI]
            | cons b l =>
              rw [minI]
              · have := ih (by simp)
                rcases Int.le_total a (minI (b :: l)) with q | q
                · rw [Int.min_eq_left q]; exact List.mem_cons_self
                · rw [Int.min_eq_right q]; exact List.mem_cons_of_mem _ this
              · simp
        have := k _ (List.mem_cons_of_mem x (hmin (l := y :: l) (by simp)))
        omega
    · simp
def bMinL (xs : List Val) (h : Heap) : Res Val := match xs with
  | [.ref a] => match h[a]? with
    | some (.lst ys) => match optAll asInt ys with
      | some ns => if ns = [] then .stuck else .ok (.int (minI ns)) h
      | none => .stuck
    | _ => .stuck
  | _ => .stuck
theorem cl_min (C : XC G E X k) : CallR X (.builtin "min") (rMin G.K) := by
  have := cr_min (X := X) C.calm
  rw [C.K] at this
  exact this
theorem rl_min : RfL G E (rMin G.K) bMinL := by
  refine ⟨fun r H h xs vs Q hR v p => ?_⟩
  unfold bMinL at p
  split at p
  · cases v with
    | cons q1 q2 => cases q2; cases q1 with
      | @ref _ ad ea =>
        split at p
        · rename_i ys eo
          split at p
          · rename_i ns e2
            split at p
            · exact False.elim p
            · rename_i hne
              cases hR.ob _ _ _ eo ea with
              | lst hl hv =>
                refine ⟨ad, ns, rfl, by rw [← all_int hv e2]; exact SqL.of hl, List.length_pos_iff.mpr hne, fun m hm hle => ?_⟩
                rw [minI_spec hm hle]
                exact p.here hR (.int _)
          · exact False.elim p
        · exact False.elim p
  · exact False.elim p
/-! ### list(range(..)), tuple(range(..)), xs[::-1] -/
def rgL (x y : Val) (h : Heap) : Res Val := match x, y with
  | .int i, .int j => if -(2 ^ 62) ≤ i ∧ i < 2 ^ 62 ∧ -(2 ^ 62) ≤ j ∧ j < 2 ^ 62 ∧ (j - i).toNat ≤ lim then .ok (.ref h.length) (h ++ [.lst (rangeV i (j - i).toNat)]) else .stuck
  | _, _ => .stuck
def rgT (x y : Val) (h : Heap) : Res Val := match x, y with
  | .int i, .int j => if -(2 ^ 62) ≤ i ∧ i < 2 ^ 62 ∧ -(2 ^ 62) ≤ j ∧ j < 2 ^ 62 ∧ (j - i).toNat ≤ lim then .ok (.tup (rangeV i (j - i).toNat)) h else .stuck
  | _, _ => .stuck
theorem rangeV_vr (a b : Int) : VRs G r H (rangeV a (b - a).toNat) (rgV a b) := by
  unfold rangeV rgV
  generalize List.range (b - a).toNat = l
  induction l with
  | nil => exact .nil
  | cons n l ih => exact .cons (.int _) ih
theorem rgOk_of {i j : Int} (h1 : -(2 ^ 62) ≤ i ∧ i < 2 ^ 62 ∧ -(2 ^ 62) ≤ j ∧ j < 2 ^ 62 ∧ (j - i).toNat ≤ lim) : RgOk i j := ⟨h1.1, h1.2.1, h1.2.2.1, h1.2.2.2.1, by have := h1.2.2.2.2; unfold lim at this; omega⟩
variable {a b : Expr} {ta tb : TE} {ma mb : En → Heap → Res Val} {p p' pos pos' : Pos}
theorem rf_rgL : Rf2 G E (fun x y H Q => ∃ i j, x = .int i ∧ y = .int j ∧ RgOk i j ∧ ∀ q, H q = none → Q (.ref q) (upd H q (.lst (rgV i j)))) rgL := by
  refine ⟨fun r H h x y v u Q hR a b p => ?_⟩
  unfold rgL at p
  split at p
  · cases a; cases b
    split at p
    · rename_i hh
      exact ⟨_, _, rfl, rfl, rgOk_of hh, fun q hq => new_lst hR (rangeV_vr _ _) p q hq⟩
    · exact p.elim
  · exact p.elim
theorem rf_rgT : Rf2 G E (fun x y H Q => ∃ i j, x = .int i ∧ y = .int j ∧ RgOk i j ∧ ∀ q, H q = none → Q (.ref q) (upd H q (.tup (rgV i j)))) rgT := by
  refine ⟨fun r H h x y v u Q hR a b p => ?_⟩
  unfold rgT at p
  split at p
  · cases a; cases b
    split at p
    · rename_i hh
      exact ⟨_, _, rfl, rfl, rgOk_of hh, fun q hq => new_tup hR (rangeV_vr _ _) p q hq⟩
    · exact p.elim
  · exact p.elim
theorem me_rgL (C : XC G E X k) (hml : X.mg "list" = none) (hm : X.mg "range" = none) (ha : ME G E X a ta ma) (hb : ME G E X b tb mb) (hgl : Gl X "list" := by rfl) (hg : Gl X "range" := by rfl)
    (na : starEach [a, b] X.env = (false, eval a X.env) :: starEach [b] X.env := by rfl) (nb : starEach [b] X.env = (false, eval b X.env) :: starEach [] X.env := by rfl) (hp : (backTo pos (starEach [b] X.env)).any (·.1) = false := by rfl)
    (nr : starEach [.Call (.Name "range" p) [a, b] [] pos] X.env = (false, eval (.Call (.Name "range" p) [a, b] [] pos) X.env) :: starEach [] X.env := by rfl) :
    ME G E X (.Call (.Name "list" p') [.Call (.Name "range" p) [a, b] [] pos] [] pos') (tLstRg (tRg2 ta tb)) (mB rgL ma mb) :=
  ⟨pe_listRg C.calm hgl hml (prg_2 hg hm ha.pe hb.pe na nb hp) nr, ⟨fun r H h s σ Q hR sR p => (ha.rf.b2 hb.rf rf_rgL).run r H h s σ Q hR sR p⟩⟩
theorem me_rgT (C : XC G E X k) (hml : X.mg "tuple" = none) (hm : X.mg "range" = none) (ha : ME G E X a ta ma) (hb : ME G E X b tb mb) (hgl : Gl X "tuple" := by rfl) (hg : Gl X "range" := by rfl)
    (na : starEach [a, b] X.env = (false, eval a X.env) :: starEach [b] X.env := by rfl) (nb : starEach [b] X.env = (false, eval b X.env) :: starEach [] X.env := by rfl) (hp : (backTo pos (starEach [b] X.env)).any (·.1) = false := by rfl)
    (nr : starEach [.Call (.Name "range" p) [a, b] [] pos] X.env = (false, eval (.Call (.Name "range" p) [a, b] [] pos) X.env) :: starEach [] X.env := by rfl) :
    ME G E X (.Call (.Name "tuple" p') [.Call (.Name "range" p) [a, b] [] pos] [] pos') (tTupRg (tRg2 ta tb)) (mB rgT ma mb) :=
  ⟨pe_tupRg C.calm hgl hml (prg_2 hg hm ha.pe hb.pe na nb hp) nr, ⟨fun r H h s σ Q hR sR p => (ha.rf.b2 hb.rf rf_rgT).run r H h s σ Q hR sR p⟩⟩
def rgL1 (y : Val) (h : Heap) : Res Val := rgL (.int 0) y h
def rgT1 (y : Val) (h : Heap) : Res Val := rgT (.int 0) y h
theorem rf_rgL1 : Rf1 G E (fun y H Q => ∃ j, y = .int j ∧ RgOk 0 j ∧ ∀ q, H q = none → Q (.ref q) (upd H q (.lst (rgV 0 j)))) rgL1 := by
  refine ⟨fun r H h x v Q hR a p => ?_⟩
  obtain ⟨i, j, e1, e2, q⟩ := rf_rgL.run r H h (.int 0) x (.int 0) v Q hR (.int 0) a p
  cases e1
  exact ⟨j, e2, q⟩
theorem rf_rgT1 : Rf1 G E (fun y H Q => ∃ j, y = .int j ∧ RgOk 0 j ∧ ∀ q, H q = none → Q (.ref q) (upd H q (.tup (rgV 0 j)))) rgT1 := by
  refine ⟨fun r H h x v Q hR a p => ?_⟩
  obtain ⟨i, j, e1, e2, q⟩ := rf_rgT.run r H h (.int 0) x (.int 0) v Q hR (.int 0) a p
  cases e1
  exact ⟨j, e2, q⟩
theorem me_rgL1 (C : XC G E X k) (hml : X.mg "list" = none) (hm : X.mg "range" = none) (ha : ME G E X a ta ma) (hgl : Gl X "list" := by rfl) (hg : Gl X "range" := by rfl)
    (na : starEach [a] X.env = (false, eval a X.env) :: starEach [] X.env := by rfl)
    (nr : starEach [.Call (.Name "range" p) [a] [] pos] X.env = (false, eval (.Call (.Name "range" p) [a] [] pos) X.env) :: starEach [] X.env := by rfl) :
    ME G E X (.Call (.Name "list" p') [.Call (.Name "range" p) [a] [] pos] [] pos') (tLstRg (tRg1 ta)) (mU rgL1 ma) :=
  ⟨pe_listRg C.calm hgl hml (prg_1 hg hm ha.pe na) nr, ⟨fun r H h s σ Q hR sR p => (ha.rf.u1 rf_rgL1).run r H h s σ Q hR sR p⟩⟩
theorem me_rgT1 (C : XC G E X k) (hml : X.mg "tuple" = none) (hm : X.mg "range" = none) (ha : ME G E X a ta ma) (hgl : Gl X "tuple" := by rfl) (hg : Gl X "range" := by rfl)
    (na : starEach [a] X.env = (false, eval a X.env) :: starEach [] X.env := by rfl)
    (nr : starEach [.Call (.Name "range" p) [a] [] pos] X.env = (false, eval (.Call (.Name "range" p) [a] [] pos) X.env) :: starEach [] X.env := by rfl) :
    ME G E X (.Call (.Name "tuple" p') [.Call (.Name "range" p) [a] [] pos] [] pos') (tTupRg (tRg1 ta)) (mU rgT1 ma) :=
  ⟨pe_tupRg C.calm hgl hml (prg_1 hg hm ha.pe na) nr, ⟨fun r H h s σ Q hR sR p => (ha.rf.u1 rf_rgT1).run r H h s σ Q hR sR p⟩⟩
def revL (x : Val) (h : Heap) : Res Val := match x with
  | .ref a => match h[a]? with
    | some (.lst xs) => .ok (.ref h.length) (h ++ [.lst xs.reverse])
    | _ => .stuck
  | _ => .stuck
theorem VRs.reverse {xs : List Val} {vs : List V} (q : VRs G r H xs vs) : VRs G r H xs.reverse vs.reverse := by
  have : ∀ (xs : List Val) (vs : List V), VRs G r H xs vs → VRs G r H xs.reverse vs.reverse := by
    intro xs
    induction xs with
    | nil => intro vs q; cases q; exact .nil
    | cons x xs ih => intro vs q; cases q with
      | cons a b => rw [List.reverse_cons, List.reverse_cons]; exact (ih _ b).app (.cons a .nil)
  exact this _ _ q
theorem me_rev (C : XC G E X k) {i1 : Nat} {p1 p2 p3 : Pos} (he : ME G E X e ta ma) : ME G E X (.Subscript e (.Slice none none (some (.UnaryOp .USub (.Constant (.int 1) i1 p1) p2)) p3) pos) (tRevL G.K ta) (mU revL ma) := by
  refine ⟨?_, ⟨fun r H h s σ Q hR sR p => he.rf.run r H h s σ _ hR sR (p.seq fun x h1 r1 H1 v s1 hR1 v1 p1 => ?_)⟩⟩
  · have := pe_revL (k := i1) (p1 := p1) (p2 := p2) (p3 := p3) (pos := pos) he.pe
    rwa [C.K] at this
  · unfold revL at p1
    split at p1
    · cases v1 with
      | ref ea =>
        split at p1
        · rename_i xs eo
          cases hR1.ob _ _ _ eo ea with
          | lst hl hv => exact ⟨_, _, rfl, SqL.of hl, fun q hq => new_lst hR1 hv.reverse p1 q hq⟩
        · exact p1.elim
    · exact p1.elim
end
end PyM
namespace PyM
open PySem L2
/-! ### {k: v, ..} -/
abbrev ME2 := (En → Heap → Res Val) × (En → Heap → Res Val)
def mPs : List ME2 → En → Heap → Res (List (Val × Val))
  | [], _, h => .ok [] h
  | (mk, mv) :: r, s, h => (mk s h).bind fun k h1 => (mv s h1).bind fun v h2 => (mPs r s h2).bind fun ps h3 => .ok ((k, v) :: ps) h3
def mDisp (ms : List ME2) (s : En) (h : Heap) : Res Val := (mPs ms s (h ++ [.dct []])).bind fun ps h1 => match h1[h.length]? with
  | some (.dct []) => if ps.all (fun kv => isKey kv.1) = true ∧ ps.length ≤ 15 then .ok (.ref h.length) (h1.set h.length (.dct (mergeV [] ps))) else .stuck
  | _ => .stuck
section
variable {G : Cfg} {E : XK} {X : Cx} {k : Nat} {r : List Addr} {H : Hp} {h : Heap}
inductive VPs (G : Cfg) (r : List Addr) (H : Hp) : List (Val × Val) → List (V × V) → Prop
  | nil : VPs G r H [] []
  | cons {x y v u ps qs} : VR G r H x v → VR G r H y u → VPs G r H ps qs → VPs G r H ((x, y) :: ps) ((v, u) :: qs)
theorem VPs.mono {r' : List Addr} {H' : Hp} (q : Stp G.K r H r' H') {ps qs} (a : VPs G r H ps qs) : VPs G r' H' ps qs := by
  induction a with
  | nil => exact .nil
  | cons a b _ ih => exact .cons (a.mono q) (b.mono q) ih
structure MPs (G : Cfg) (E : XK) (X : Cx) (pos : Pos) (ks : List (Option Expr)) (vs : List Expr) (trs : List (TE × TE)) (ms : List ME2) : Prop where
  pe : PPs X pos ks vs trs
  rf : ∀ r H h s σ Q, HR G r H h → SR G r H s σ → PostR G (VPs G) r H E (mPs ms s h) Q → tPairs trs σ H Q
theorem mps_nil {pos : Pos} : MPs G E X pos [] [] [] [] := ⟨pps_nil, fun r H h s σ Q hR _ p => p.here hR .nil⟩
theorem mps_cons {pos : Pos} {a b : Expr} {ks : List (Option Expr)} {vs : List Expr} {ta tb : TE} {trs : List (TE × TE)} {ma mb : En → Heap → Res Val} {ms : List ME2} (ha : ME G E X a ta ma) (hb : ME G E X b tb mb) (hr : MPs G E X pos ks vs trs ms) :
    MPs G E X pos (some a :: ks) (b :: vs) ((ta, tb) :: trs) ((ma, mb) :: ms) := by
  refine ⟨pps_cons ha.pe hb.pe hr.pe, fun r H h s σ Q hR sR p => ?_⟩
  refine ha.rf.run r H h s σ _ hR sR (p.seq fun x h1 r1 H1 v s1 hR1 v1 p1 => ?_)
  refine hb.rf.run r1 H1 h1 s σ _ hR1 (sR.mono s1) (p1.seq fun y h2 r2 H2 u s2 hR2 v2 p2 => ?_)
  refine hr.rf r2 H2 h2 s σ _ hR2 ((sR.mono s1).mono s2) (p2.seq fun ps h3 r3 H3 qs s3 hR3 v3 p3 => ?_)
  exact p3.here hR3 (.cons ((v1.mono s2).mono s3) (v2.mono s3) v3)
theorem vps_dr {ps : List (Val × Val)} {qs : List (V × V)} (a : VPs G r H ps qs) (hk : ps.all (fun kv => isKey kv.1) = true) : ∃ es : List (L2.Key × V), qs = es.map (fun kv => (kV kv.1, kv.2)) ∧ DR G r H ps es := by
  induction a with
  | nil => exact ⟨[], rfl, .nil⟩
  | cons a b _ ih =>
    rw [List.all_cons, Bool.and_eq_true] at hk
    obtain ⟨es, rfl, d⟩ := ih hk.2
    obtain ⟨q, kq, rfl⟩ := KR.of a hk.1
    exact ⟨(q, _) :: es, rfl, .cons kq b d⟩
theorem me_disp {pos : Pos} {ks : List (Option Expr)} {vs : List Expr} {trs : List (TE × TE)} {ms : List ME2} (ok : G.Ok) (hp : MPs G E X pos ks vs trs ms) (hall : ks.all (·.isSome) = true := by rfl) (hl : ks.length = vs.length := by rfl) (h0 : ks ≠ [] := by intro z; cases z) (h15 : ks.length ≤ 15 := by decide) :
    ME G E X (.Dict ks vs pos) (tDisp trs) (mDisp ms) := by
  refine ⟨pe_disp hp.pe hall hl h0 h15, ⟨fun r H h s σ Q hR sR p => fun l hl' => ?_⟩⟩
  have st0 : Stp G.K r H (r ++ [l]) (upd H l (.dK [])) := Stp.new hl'
  have hR0 : HR G (r ++ [l]) (upd H l (.dK [])) (h ++ [.dct []]) := hR.push hl' (.dct upd_same .nil)
  have er : (r ++ [l])[h.length]? = some l := by rw [← hR.len]; simp
  refine hp.rf _ _ _ s σ _ hR0 (sR.mono st0) (PostR.seq (PostR.shift st0 p) fun ps h1 r1 H1 qs s1 hR1 v1 p1 => ?_)
  split at p1
  · rename_i eo
    split at p1
    · rename_i hc
      have ea := s1.pre _ _ er
      cases hR1.ob _ _ _ eo ea with
      | dct hl1 hv1 =>
        cases hv1
        obtain ⟨es, rfl, d⟩ := vps_dr v1 hc.1
        refine ⟨hl1, es, rfl, by have := hc.2; rw [d.len] at this; exact this, ?_⟩
        have st : Stp G.K r1 H1 r1 (upd H1 l (.dK (mergeK [] es))) := Stp.upd fun o e => by rw [hl1] at e; cases e; trivial
        exact p1 r1 _ _ st (hR1.write eo rfl ea (fun o e => by rw [hl1] at e; cases e; trivial) (.dct upd_same ((DR.merge ok (.nil) d).mono st)) rfl) (.ref ea)
    · exact p1.elim
  · exact p1.elim
end
/-! wishes -/
section
variable {E : Nat → Heap → Prop} {Q : Val → Heap → Prop} {QP : List (Val × Val) → Heap → Prop} {QU : Unit → Heap → Prop} {h : Heap} {D : K4} {s : En} {a b n : Nat} {x y z : Val} {mo my mk mv : En → Heap → Res Val} {ms : List ME2}
@[simp ↓] theorem wR_mPs0 : wR (mPs [] s h) E QP = QP [] h := rfl
@[simp ↓] theorem wR_mPs1 : wR (mPs ((mk, mv) :: ms) s h) E QP = wR (mk s h) E fun k h1 => wR (mv s h1) E fun v h2 => wR (mPs ms s h2) E fun ps h3 => QP ((k, v) :: ps) h3 := by simp [mPs]
@[simp ↓] theorem wR_mDisp : wR (mDisp ms s h) E Q = wR (mPs ms s (h ++ [.dct []])) E fun ps h1 => (match h1[h.length]? with
    | some (.dct []) => (ps.all (fun kv => isKey kv.1) = true ∧ ps.length ≤ 15) ∧ Q (.ref h.length) (h1.set h.length (.dct (mergeV [] ps)))
    | _ => False) := by
  unfold mDisp; simp only [wR_bind]; congr; funext ps h1; split
  · simp only [wR_ite, wR_ok, wR_stuck, ite_and']
    all_goals simp_all
  · simp_all
@[simp ↓] theorem wR_mUpd : wR (mUpd mo my s h) E Q = wR (mo s h) E fun o h1 => isU o h1 = true ∧ wR (my s h1) E fun y h2 => wR (dUpd o y h2) E Q := by
  unfold mUpd; simp only [wR_bind]; congr; funext o h1; split <;> simp_all
theorem dUpd_at {d e : List (Val × Val)} (e1 : h[a]? = some (.dct d)) (e2 : h[b]? = some (.dct e)) (ne : a ≠ b) (hl : d.length + e.length ≤ lim) : dUpd (.ref a) (.ref b) h = .ok .non (h.set a (.dct (mergeV d e))) := by simp [dUpd, e1, e2, ne, hl]
theorem isU_at {d : List (Val × Val)} (e1 : h[a]? = some (.dct d)) : isU (.ref a) h = true := by simp [isU, e1]
theorem bDictD_at {d : List (Val × Val)} (e1 : h[a]? = some (.dct d)) : bDictD [.ref a] h = .ok (.ref h.length) (h ++ [.dct d]) := by simp [bDictD, e1]
theorem bSorted_lst {ys : List Val} {ns : List Int} (e1 : h[a]? = some (.lst ys)) (e2 : optAll asInt ys = some ns) : bSorted [.ref a] h = .ok (.ref h.length) (h ++ [.lst ((sortI ns).map .int)]) := by simp [bSorted, e1, e2]
theorem bSorted_dct {d : List (Val × Val)} {ns : List Int} (e1 : h[a]? = some (.dct d)) (e2 : optAll (fun kv : Val × Val => asInt kv.1) d = some ns) (hl : ns.length < 64) : bSorted [.ref a] h = .ok (.ref h.length) (h ++ [.lst ((sortI ns).map .int)]) := by simp [bSorted, e1, e2, hl]
theorem bMinL_at {ys : List Val} {ns : List Int} (e1 : h[a]? = some (.lst ys)) (e2 : optAll asInt ys = some ns) (ne : ns ≠ []) : bMinL [.ref a] h = .ok (.int (minI ns)) h := by simp [bMinL, e1, e2, ne]
@[simp ↓] theorem wR_revL : wR (revL (.ref a) h) E Q = (match h[a]? with | some (.lst xs) => Q (.ref h.length) (h ++ [.lst xs.reverse]) | _ => False) := by
  unfold revL; simp only; split <;> simp_all
@[simp ↓] theorem wR_rgL {i j : Int} : wR (rgL (.int i) (.int j) h) E Q = ((-(2 ^ 62) ≤ i ∧ i < 2 ^ 62 ∧ -(2 ^ 62) ≤ j ∧ j < 2 ^ 62 ∧ (j - i).toNat ≤ lim) ∧ Q (.ref h.length) (h ++ [.lst (rangeV i (j - i).toNat)])) := by
  unfold rgL; simp only [wR_ite, wR_ok, wR_stuck, ite_and']
@[simp ↓] theorem wR_rgT {i j : Int} : wR (rgT (.int i) (.int j) h) E Q = ((-(2 ^ 62) ≤ i ∧ i < 2 ^ 62 ∧ -(2 ^ 62) ≤ j ∧ j < 2 ^ 62 ∧ (j - i).toNat ≤ lim) ∧ Q (.tup (rangeV i (j - i).toNat)) h) := by
  unfold rgT; simp only [wR_ite, wR_ok, wR_stuck, ite_and']
@[simp ↓] theorem wR_oIxLs {i : Nat} : wR (oIx (.ref a) (.str i) h) E Q = (match h[a]? with
    | some (.dct d) => (match lookV d (.str i) with | some v => Q v h | none => False)
    | some (.fdc d) => (match lookV d (.str i) with | some v => Q v h | none => False)
    | _ => False) := by
  unfold oIx; simp only [isKey]; split <;> simp_all
  all_goals (split <;> simp_all)
@[simp ↓] theorem wR_oSetS {i : Nat} : wR (oSet (.ref a) (.str i) x h) E QU = (match h[a]? with
    | some (.dct d) => d.length < lim ∧ QU () (h.set a (.dct (putV d (.str i) x)))
    | _ => False) := by
  unfold oSet; simp only [isKey]; split
  · simp_all
  · simp only [wR_ite, wR_ok, wR_stuck, ite_and']
    all_goals simp_all
  · simp_all
end
end PyM
namespace PyM
open PySem L2
/-! list(d) -/
def bListD (xs : List Val) (h : Heap) : Res Val := match xs with
  | [.ref a] => match h[a]? with
    | some (.dct d) => .ok (.ref h.length) (h ++ [.lst (d.map (·.1))])
    | _ => .stuck
  | _ => .stuck
section
variable {G : Cfg} {E : XK} {X : Cx} {k : Nat} {r : List Addr} {H : Hp} {h : Heap}
theorem DR.keys {d : List (Val × Val)} {es : List (L2.Key × V)} (q : DR G r H d es) : VRs G r H (d.map (·.1)) (es.map fun kv => kV kv.1) := by
  induction q with
  | nil => exact .nil
  | cons a b _ ih =>
    refine .cons ?_ ih
    cases a with
    | int i => exact .int i
    | str e => exact .str e
theorem rl_listD : RfL G E (fun xs H Q => ∃ (a : Addr) (kvs : List (L2.Key × V)), xs = [.ref a] ∧ L2.Rd H a (.dK kvs) ∧ ∀ p, H p = none → Q (.ref p) (upd H p (.lst (kvs.map fun kv => kV kv.1)))) bListD := by
  refine ⟨fun r H h xs vs Q hR v p => ?_⟩
  unfold bListD at p
  split at p
  · cases v with
    | cons q1 q2 => cases q2; cases q1 with
      | ref ea =>
        split at p
        · rename_i d eo
          cases hR.ob _ _ _ eo ea with
          | dct hl hv => exact ⟨_, _, rfl, .inl hl, fun l hl' => new_lst hR hv.keys p l hl'⟩
        · exact False.elim p
  · exact False.elim p
theorem bListD_at {a : Nat} {d : List (Val × Val)} (e : h[a]? = some (.dct d)) : bListD [.ref a] h = .ok (.ref h.length) (h ++ [.lst (d.map (·.1))]) := by simp [bListD, e]
/-- equal dicts, equal tuples of lists of dicts -/
theorem hitsM_self {f : Val → Val → Option Bool} {e : List (Val × Val)} : ∀ (d : List (Val × Val)), (∀ p ∈ d, lookV e p.1 = some p.2 ∧ f p.2 p.2 = some true) → hitsM f e d = some true
  | [], _ => rfl
  | (k, v) :: r, g => by
    obtain ⟨g1, g2⟩ := g (k, v) List.mem_cons_self
    simp only at g1 g2
    simp [hitsM, g1, g2, hitsM_self r fun p hp => g p (List.mem_cons_of_mem _ hp)]
theorem lookV_mem : ∀ {d : List (Val × Val)}, (d.map (·.1)).Nodup → ∀ p ∈ d, lookV d p.1 = some p.2
  | [], _, p, hp => by cases hp
  | (k, v) :: r, nd, p, hp => by
    rw [List.map_cons, List.nodup_cons] at nd
    rcases List.mem_cons.mp hp with rfl | hp
    · simp [lookV]
    · have hne : ¬ k = p.1 := fun e => nd.1 (by rw [e]; exact List.mem_map.mpr ⟨p, hp, rfl⟩)
      have := lookV_mem nd.2 p hp
      simp only [lookV, List.find?_cons, hne, decide_false] at this ⊢
      exact this
theorem eqH_pl {n : Nat} {x y : Val} (hx : pl 40 x = true) (hy : pl 40 y = true) : eqH (n + 1) h x y = some (decide (x = y)) := by
  unfold eqH
  rw [conv_pl 40 x hx, conv_pl 40 y hy]
  simp only [deq_pl x y 40 40 hx hy]
theorem conv_ref_dct {n a : Nat} {d : List (Val × Val)} (e : h[a]? = some (.dct d)) : conv n h (.ref a) = none := by
  cases n with
  | zero => rfl
  | succ n => simp [conv, e]
theorem eqH_dct {n a b : Nat} {d : List (Val × Val)} (ea : h[a]? = some (.dct d)) (eb : h[b]? = some (.dct d)) (hi : d.all (fun kv => isIV kv.1) = true) (nd : (d.map (·.1)).Nodup) (hp : ∀ p ∈ d, pl 40 p.2 = true) : eqH (n + 2) h (.ref a) (.ref b) = some true := by
  unfold eqH
  rw [conv_ref_dct ea]
  simp only
  by_cases q : a = b
  · simp [q]
  · simp only [q, if_false]
    unfold eqStep
    simp only [ea, eb, hi, and_self, if_true]
    refine hitsM_self d fun p hp' => ⟨lookV_mem nd p hp', ?_⟩
    rw [eqH_pl (hp p hp') (hp p hp')]
    simp
theorem optAll_true {α : Type} {f : α → Option Bool} : ∀ {l : List α}, (∀ x ∈ l, f x = some true) → optAll f l = some (List.replicate l.length true)
  | [], _ => rfl
  | x :: l, g => by
    rw [optAll, g x List.mem_cons_self, optAll_true fun y hy => g y (List.mem_cons_of_mem _ hy)]
    rfl
theorem all_rep (n : Nat) : (List.replicate n true).all id = true := by
  induction n with
  | zero => rfl
  | succ n ih => simp [List.replicate_succ]
theorem eqStep_lst {f : Val → Val → Option Bool} {a b : Nat} {xs ys : List Val} (ea : h[a]? = some (.lst xs)) (eb : h[b]? = some (.lst ys)) (hl : xs.length = ys.length) (g : ∀ p ∈ xs.zip ys, f p.1 p.2 = some true) : eqStep f h (.ref a) (.ref b) = some true := by
  unfold eqStep
  simp only [ea, eb, hl, if_true]
  rw [optAll_true g]
  simp [all_rep]
end
end PyM

set_option Elab.async false
set_option linter.all false
set_option autoImplicit false
set_option maxHeartbeats 4000000
set_option maxRecDepth 100000
/-! sorted(xs, key=lambda row: row[0]) and .. row[:2] -/
namespace PyM
open PySem PySem.Spec PySem.W PyProof.Rows L2 LamX Calls
section
variable {prog : Program} {w : World} {A : Around} {s : Shared} {f c' : Addr} {q x : Str} {params : Arguments} {body : Expr} {scope : Scope} {pm ctv v : Value} {R : Value → Shared → Prop}
theorem lam_turn (hroom : A.depth < recursionLimit) (ho : s.heap.get? f = some (kla_obj "<lambda>" q params body scope [] pm c' ctv)) (hcd : s.heap.CodeRec (.ref c') q) (hlim : s.heap.NoLimit)
    (hbind : bindArgs (kla_fn "<lambda>" q params body scope [] pm (.ref c') ctv) ⟨[v], []⟩ = pure [(x, v)])
    (hco : scope.isCoroutine = false) (hgen : scope.isGenerator = false) (hk : scope.kind = .function) (hcell : ∀ y ∈ scope.names, y.2 ≠ .cell) (hloc : scope.names.lookup x = some .local)
    (hbody : ∀ (env : Env) (h₁ : PySem.Heap) (tk : Nat), env.scope.kind = .function → env.kindOf x = some .local → (h₁.Ns env.locals fun y => [(x, v)].reverse.lookup y) → (∀ b o, s.heap.get? b = some o → h₁.get? b = some o) →
      wpAny (model prog w) (A.deeper env) (eval body env) R (fun _ _ => False) { s with heap := h₁, toks := tk }) :
    wpAny (model prog w) A (call (.ref f) [v]) R (fun _ _ => False) s := by
  refine wpAny_call (kla_callFunE hroom ho rfl hco hgen rfl hcd ?_)
  rw [hbind]
  refine wpAny_pure (wpAny_newFunctionEnv hcell (fun y hy => ?_) (fun h₁ hns hsb => ⟨hlim.fresh _ hsb, ?_⟩) hk)
  · rw [List.mem_singleton.mp hy]
    exact hloc
  · have hk₁ : ∀ b o, s.heap.get? b = some o → h₁.get? b = some o := fun b o e => hsb.extBut b o (Nat.ne_of_lt (Heap.lt_size e)) (Heap.get?_push_of_some _ e)
    exact kla_codeExpr (wpAny_mono (hbody _ h₁ _ hk hloc hns hk₁) (fun v s' hl => hl) fun _ _ y => y.elim)
end
/-- what a key is, read off the row -/
def key0 : PyData → PyData → Prop := fun _ _ => True
section
variable {prog : Program} {w : World} {A : Around} {s s0 : Shared} {env : Env} {a : Addr} {x : Str} {its : List Value} {i j : Int} {p1 p2 p3 p4 pos : Pos} {k1 : Nat}
/-- row[0] -/
theorem body_key0 (hk : env.scope.kind = .function) (hl : env.kindOf x = some .local) (hn : s.heap.Ns env.locals fun y => [(x, Value.ref a)].reverse.lookup y) (ht : IsTup s.heap a its.toArray) (t : Tok) (hi : its[0]? = some (.int i t)) (h0 : ∃ h0 tk, s = { s0 with heap := h0, toks := tk } ∧ ∀ b o, s0.heap.get? b = some o → h0.get? b = some o)
    (hd : (x == ("__debug__" : Str)) = false := by decide) :
    wpAny (model prog w) A (eval (.Subscript (.Name x p1) (.Constant (.int 0) k1 p2) pos) env) (fun u s' => KeyPure (.int i) s0 u s') (fun _ _ => False) s := by
  obtain ⟨g0, tk0, rfl, keep⟩ := h0
  refine Subscript_Constant (wpAny_Name (wpAny_loadName_local hk hl hn (v := .ref a) (by simp [List.lookup]) ?_) hd)
  refine wpAny_Constant_int ⟨"tuple", _, PyProof.Rows.slot_tuple_getitem.lookup, ht.typeIs, ?_⟩
  refine getItem_tuple (items := its.toArray) (j := 0) (x := .int i t) ht (by decide) (by decide) ?_ (by simpa using hi) ?_
  · have : 0 < its.length := (List.getElem?_eq_some_iff.mp hi).1
    have z : seqIndex? 0 its.length = some 0 := by
      unfold seqIndex?
      simp only [show ¬ ((0 : Int) < 0) from by decide, if_false]
      rw [if_pos (by simp; exact this)]
      rfl
    simpa using z
  · exact ⟨_, _, rfl, keep, .int i t⟩
/-- row[:2] -/
theorem body_key2 (hk : env.scope.kind = .function) (hl : env.kindOf x = some .local) (hn : s.heap.Ns env.locals fun y => [(x, Value.ref a)].reverse.lookup y) (ht : IsTup s.heap a its.toArray) (hz : its.length ≤ sizeLine) (t t2 : Tok) (hi : its[0]? = some (.int i t)) (hj : its[1]? = some (.int j t2)) (h3 : 2 < its.length) (h0 : ∃ h0 tk, s = { s0 with heap := h0, toks := tk } ∧ ∀ b o, s0.heap.get? b = some o → h0.get? b = some o)
    (hd : (x == ("__debug__" : Str)) = false := by decide) :
    wpAny (model prog w) A (eval (.Subscript (.Name x p1) (.Slice none (some (.Constant (.int 2) k1 p2)) none p3) pos) env) (fun u s' => KeyPure (.tuple [.int i, .int j]) s0 u s') (fun _ _ => False) s := by
  obtain ⟨g0, tk0, rfl, keep⟩ := h0
  refine Subscript_ (wpAny_Name (wpAny_loadName_local hk hl hn (v := .ref a) (by simp [List.lookup]) ?_) hd)
  refine wpAny_Slice ?_
  rw [evalPart_none]
  refine wpAny_pure ?_
  rw [evalPart_some]
  refine wpAny_Constant_int ?_
  refine wpAny_pure ?_
  have e0 : HT.sIx its.toArray.size 0 (none : Option Int) = 0 := rfl
  have e2 : HT.sIx its.toArray.size its.toArray.size (some (2 : Int)) = 2 := by
    unfold HT.sIx
    simp
    omega
  refine tail_any (ops := [.ref g0.objs.size, .ref a]) (ht.push _).typeIs PyProof.Rows.slot_tuple_getitem.lookup ?_ (by with_unfolding_all rfl)
  refine HT.getItem_tuple_cut (lo := none) (hi := some 2) (ht.push _) (Heap.IsSliceOf.new ..) .none (.int 2 _) (by rw [e0, e2]; simp; omega) ?_ (by simpa using hz)
  rw [e0, e2]
  have hits : ∃ r, its = .int i t :: .int j t2 :: r := by
    match its, hi, hj with
    | a :: b :: r, hi, hj =>
      simp at hi hj
      exact ⟨r, by rw [hi, hj]⟩
  obtain ⟨r, hr⟩ := hits
  refine ⟨_, _, rfl, fun b o e => Heap.get?_push_of_some _ (Heap.get?_push_of_some _ (keep b o e)), ?_⟩
  refine .tuple (Heap.get?_push_size _ rfl) rfl rfl ?_
  rw [hr]
  exact .cons (.int i t) (.cons (.int j t2) .nil)
end
end PyM

set_option Elab.async false
set_option linter.all false
set_option autoImplicit false
set_option maxHeartbeats 4000000
set_option maxRecDepth 100000
/-! sorted(xs, key=lambda row: row[0]) and .. row[:2], in the model -/
namespace PyM
open PySem PySem.Spec PySem.W PyProof.Rows L2 LamX Calls
/-- by the first item -/
def ok0 : Val → Bool
  | .tup (.int _ :: _) => true
  | _ => false
def k0 : Val → Int
  | .tup (.int i :: _) => i
  | _ => 0
def ok2 : Val → Bool
  | .tup (.int _ :: .int _ :: _ :: _) => true
  | _ => false
def k1 : Val → Int
  | .tup (_ :: .int i :: _) => i
  | _ => 0
def le0 (a b : Val) : Bool := decide (k0 a ≤ k0 b)
def le2 (a b : Val) : Bool := decide (k0 a < k0 b ∨ (k0 a = k0 b ∧ k1 a ≤ k1 b))
def mSortK (ok : Val → Bool) (le : Val → Val → Bool) (me : En → Heap → Res Val) (s : En) (h : Heap) : Res Val := (me s h).bind fun x h1 => match x with
  | .ref n => match h1[n]? with
    | some (.lst xs) => if xs.all ok then .ok (.ref h1.length) (h1 ++ [.lst (xs.mergeSort le)]) else .stuck
    | _ => .stuck
  | _ => .stuck
/-- a reading by the model -/
def tMe (G : Cfg) (E : XK) (m : En → Heap → Res Val) : TE := fun σ H Q => ∃ r h s, HR G r H h ∧ SR G r H s σ ∧ PostR G (VR G) r H E (m s h) Q
section
variable {G : Cfg} {r : List Addr} {H H' : Hp} {h : Heap}
/-- the heap but for the tables is the same -/
theorem HR.extN (R : HR G r H h) (e : ExtN H H') (t : Tabs G.tbs H') : HR G r H' h ∧ Stp G.K r H r H' := by
  have st : Stp G.K r H r H' := ⟨fun _ _ q => q, fun a xs q => by
      rcases q with (q | ⟨o, q⟩) | q
      · exact .inl (.inl (e _ _ q fun _ z => (nomatch z)))
      · exact .inl (.inr ⟨o, e _ _ q fun _ z => (nomatch z)⟩)
      · exact .inr q, fun a o xs q => e _ _ q fun _ z => (nomatch z), fun a xs q => e _ _ q fun _ z => (nomatch z)⟩
  exact ⟨⟨R.len, R.nd, fun n o a e1 e2 => (R.ob n o a e1 e2).mono st fun f u q => e _ _ q ((R.ob n o a e1 e2).plain f u q).1, t⟩, st⟩
/-- items, the model's and the layer's, side by side -/
theorem EachIs.pair {its : List Value} : ∀ {xs : List Val} {vs : List V}, VRs G r H xs vs → Vals vs its → EachIs (fun u (p : Val × V) => VR G r H p.1 p.2 ∧ RelV p.2 u) its (xs.zip vs)
  | [], _, q, rv => by
    cases q
    cases rv
    exact .nil
  | x :: xs, _, q, rv => by
    cases q with
    | cons q1 q2 => cases rv with
      | cons r1 r2 => exact .cons ⟨q1, r1⟩ (EachIs.pair q2 r2)
theorem EachIs.back : ∀ {its : List Value} {ps : List (Val × V)}, EachIs (fun u (p : Val × V) => VR G r H p.1 p.2 ∧ RelV p.2 u) its ps → VRs G r H (ps.map (·.1)) (ps.map (·.2)) ∧ Vals (ps.map (·.2)) its
  | _, _, .nil => ⟨.nil, .nil⟩
  | _, _, .cons ⟨a, b⟩ t => ⟨.cons a (EachIs.back t).1, .cons b (EachIs.back t).2⟩
theorem zip_fst : ∀ {xs : List Val} {vs : List V}, xs.length = vs.length → (xs.zip vs).map (·.1) = xs
  | [], [], _ => rfl
  | x :: xs, v :: vs, e => by simp at e; simp [zip_fst e]
end
/-- what the keys ask: of the item's data -/
structure KeyOk (X : Cx) (x : Str) (params : Arguments) (body : Expr) (scope : Scope) (ok : Val → Bool) (le : Val → Val → Bool) (k : Val → PyData) : Prop where
  bind : ∀ (q : Str) (pm cv ctv v : Value), bindArgs (kla_fn "<lambda>" q params body scope [] pm cv ctv) ⟨[v], []⟩ = pure [(x, v)]
  co : scope.isCoroutine = false
  gen : scope.isGenerator = false
  kind : scope.kind = .function
  cell : ∀ y ∈ scope.names, y.2 ≠ .cell
  free : ∀ y ∈ scope.names, y.2 ≠ .free
  loc : scope.names.lookup x = some .local
  like : ∀ a b, alike (k a) (k b) = true
  sort : ∀ bs : List (Val × V), Sortable (bs.map fun p => k p.1)
  le_eq : dataLe (β := Val × V) false (fun p => k p.1) = fun a b => le a.1 b.1
  dep : ∀ a, (k a).depth ≤ 1
  run : ∀ (A : Around) (s s0 : Shared) (env : Env) (a : Addr) (its : List Value) (xs : List Val), env.scope.kind = .function → env.kindOf x = some .local → (s.heap.Ns env.locals fun y => [(x, Value.ref a)].reverse.lookup y) → IsTup s.heap a its.toArray → its.length ≤ sizeLine →
    ok (.tup xs) = true → (∃ (G : Cfg) (r : List Addr) (H : Hp) (vs : List V), VRs G r H xs vs ∧ Vals vs its) → (∃ h0 tk, s = { s0 with heap := h0, toks := tk } ∧ ∀ b o, s0.heap.get? b = some o → h0.get? b = some o) →
    wpAny (model X.prog X.w) A (eval body env) (fun u s' => KeyPure (k (.tup xs)) s0 u s') (fun _ _ => False) s
theorem ok_tup {ok : Val → Bool} (h : ok = ok0 ∨ ok = ok2) {x : Val} (e : ok x = true) : ∃ xs, x = .tup xs := by
  rcases h with rfl | rfl <;> cases x <;> first | exact ⟨_, rfl⟩ | (simp [ok0, ok2] at e)
section
variable {G : Cfg} {E : XK} {X : Cx} {k : Nat} {e : Expr} {td : TE} {me : En → Heap → Res Val} {x : Str} {params : Arguments} {body : Expr} {scope : Scope} {ok : Val → Bool} {le : Val → Val → Bool} {kd : Val → PyData} {p pos lpos kpos : Pos} {c P : Addr}
theorem me_sortKey (C : XC G E X k) (hok : ok = ok0 ∨ ok = ok2) (he : ME G E X e td me) (ko : KeyOk X x params body scope ok le kd) (TB : TabB X.base X.mg c P) (hcode : X.env.code = .ref c)
    (hm : (P, X.env.qual ++ "<lambda>") ∈ G.tbs) (hu : ∀ p ∈ G.tbs, p.1 = P → p.2 = X.env.qual ++ "<lambda>") (hdef : defaultsOf params X.env = ([], [])) (hg : Gl X "sorted") (hmg : X.mg "sorted" = none)
    (hs : starEach [e] X.env = (false, eval e X.env) :: starEach [] X.env := by rfl) (hks : (backToKw pos (keywordEach [⟨some "key", .Lambda params body scope lpos, kpos⟩] X.env)).filterMap (·.1) = [Str.ofString "key"] := by rfl) (hpl : (backTo pos (starEach [e] X.env)).any (·.1) = false := by rfl) (hst : backTo pos (starEach [e] X.env) = (false, eval e X.env) :: backTo pos (starEach [] X.env) := by rfl) :
    ME G E X (.Call (.Name "sorted" p) [e] [⟨some "key", .Lambda params body scope lpos, kpos⟩] pos) (tMe G E (mSortK ok le me)) (mSortK ok le me) := by
  refine ⟨⟨fun pins s σ H Q I hh => ?_⟩, ⟨fun r H h s σ Q hR sR q => ⟨r, h, s, hR, sR, q⟩⟩⟩
  obtain ⟨r, h, en, hR, sR, post⟩ := hh
  have hv : bootBuiltins "sorted" = some (.builtin "sorted") := bt_sorted
  refine wpAny_Call_Name_kw (ld_blt I hg hmg hv ?_)
  have pa : PA X [e] (tCons td tNil) := pa_cons he.pe pa_nil hs
  have step : (tCons td tNil) σ H (fun vs H1 => ∃ (r1 : List Addr) (h1 : PyM.Heap) (n : Nat) (a : Addr) (xs : List Val) (ws : List V), vs = [.ref a] ∧ HR G r1 H1 h1 ∧ h1[n]? = some (.lst xs) ∧ xs.all ok = true ∧ H1 a = some (.lst ws) ∧ VRs G r1 H1 xs ws ∧ PostR G (VR G) r1 H1 E (.ok (.ref h1.length) (h1 ++ [.lst (xs.mergeSort le)])) Q) := by
    refine he.rf.run r H h en σ _ hR sR (PostR.seq post fun v h1 r1 H1 u st hR1 v1 p1 => ?_)
    cases v1 with
    | @ref n a ea =>
      simp only at p1
      split at p1
      · rename_i xs eo
        split at p1
        · rename_i hall
          cases hR1.ob _ _ _ eo ea with
          | lst hl hv => exact ⟨r1, h1, n, a, xs, _, rfl, hR1, eo, hall, hl, hv, p1⟩
        · exact False.elim p1
      · exact False.elim p1
    | _ => exact False.elim p1
  refine PyProof.Rows.callWith_kw (thn (pa.run pos pins s σ H _ I step) fun us s1 ⟨vs, H1, I1, r1, q1⟩ => ?_) hst hpl rfl rfl
  obtain ⟨r0, h1, n, a, xs, ws, rfl, hR1, eo, hall, hl, hv1, p1⟩ := q1
  rw [hks]
  show wpAny _ _ (evalAll ((do let v ← eval (.Lambda params body scope lpos) X.env; standAt pos; pure v) :: [])) _ _ s1
  refine wpAny_evalAll_cons (wpAny_bind (lam_make2 I1 TB hcode hm hu hR1.tb hdef (fun y hy z => absurd z (ko.free y hy)) fun f c' pm ctv H2 s2 I2 eN T2 hf hfn hfr hco => ?_))
  refine wpAny_bind (wpAny_standAt (wpAny_pure ?_))
  refine wpAny_evalAll_nil ?_
  obtain ⟨hR2, st2⟩ := hR1.extN eN T2
  have hl2 : H2 a = some (.lst ws) := eN _ _ hl fun _ z => (nomatch z)
  have hv2 := hv1.mono st2
  rw [Vals.ref1 r1]
  show wpAny _ _ (call (.builtin "sorted") [.ref a] [(Str.ofString "key", .ref f)]) _ _ s2
  obtain ⟨its, rv, pl, hz⟩ := I2.list (SqL.of hl2)
  have hlen : xs.length = ws.length := hv2.len
  have each := EachIs.pair hv2 rv
  have closed : cloFrom X.env.cells scope.names [] = [] := by
    have : ∀ (l : List (Str × NameKind)), (∀ y ∈ l, y.2 ≠ .free) → cloFrom X.env.cells l [] = [] := by
      intro l
      induction l with
      | nil => intro _; rfl
      | cons y l ih =>
        intro hy
        obtain ⟨z, kd⟩ := y
        have h1 := hy _ List.mem_cons_self
        have h2 := ih fun y m => hy y (List.mem_cons_of_mem _ m)
        cases kd <;> first | exact absurd rfl h1 | exact h2
    exact this _ ko.free
  rw [closed] at hf
  have hroom := C.room.un
  refine sorted_key_data (β := Val × V) (b := false) (bs := xs.zip ws) (fun q => kd q.1) pl.isList each (AllAlike.of fun a b => ko.like a.1 b.1) (ko.sort _) (by rw [List.length_zip]; omega) (fun q _ => ?_) (ksk_s1 _ _) (fun _ => ksk_l1 _ _) (fun _ => ksk_t1 _ _) (fun u q hq hmem h0 tk kp => ?_) fun out ep h' tk kp fr hD ho eo => ?_
  · have := ko.dep q.1
    omega
  · have hokq : ok q.1 = true := List.all_eq_true.mp hall _ (List.of_mem_zip hmem).1
    obtain ⟨ys, ey⟩ := ok_tup hok hokq
    obtain ⟨q1, q2⟩ := q
    simp only at ey hokq hq
    subst ey
    obtain ⟨hq1, hq2⟩ := hq
    cases hq1 with
    | @tup _ zs b hsq hvs =>
      cases hq2
      obtain ⟨is, rz, ht, hzl⟩ := I2.tuple (by rw [C.K]; exact hsq)
      obtain ⟨⟨oc, cvs, t, e1, e2, e3⟩, _, _⟩ := I2.hok c' _ hco
      refine lam_turn (x := x) (A := X.A.in1.in1) C.room.depth (kp _ _ hf) ⟨c', oc, cvs, t, rfl, kp _ _ e1, e2, e3⟩ (I2.nolimit.keeps kp) (ko.bind _ _ _ _ _) ko.co ko.gen ko.kind ko.cell ko.loc fun env h₁ tk2 ek el hns kp2 => ?_
      exact ko.run _ _ _ env b is ys ek el hns ((ht.keeps kp).keeps kp2) (by rw [← rz.length]; exact hzl) hokq ⟨G, r0, H2, zs, hvs, rz⟩ ⟨h₁, tk2, rfl, kp2⟩
  · obtain ⟨b1, b2⟩ := EachIs.back eo
    have e1 : ((xs.zip ws).mergeSort (dataLe false fun q => kd q.1)).map (·.1) = xs.mergeSort le := by
      rw [ko.le_eq, List.map_mergeSort (s := le) fun _ _ _ _ => rfl, zip_fst hlen]
    rw [e1] at b1
    have np : H2 (s2.heap.objs.size + 1) = none := I2.hok.fresh (Nat.le_succ _)
    have hlen2 : (((xs.zip ws).mergeSort (dataLe false fun q => kd q.1)).map (·.2)).length ≤ sizeLine := by
      rw [List.length_map, List.length_mergeSort, List.length_zip]
      omega
    refine ⟨.ref _, _, I2.laid (t' := tk) (o := .lst (((xs.zip ws).mergeSort (dataLe false fun q => kd q.1)).map (·.2))) kp (Nat.le_succ _) ⟨hlen2, out, ep, b2, hD⟩, rfl, ?_⟩
    exact new_lst (E := E) hR2 b1 (fun r' H' b st hR' v' => p1 r' H' b (st2.trans st) hR' v') _ np
end
end PyM

set_option Elab.async false
set_option linter.all false
set_option autoImplicit false
set_option maxHeartbeats 4000000
set_option maxRecDepth 100000
namespace PyM
open PySem PySem.Spec PySem.W PyProof.Rows L2 LamX Calls
def kd0 (a : Val) : PyData := .int (k0 a)
def kd2 (a : Val) : PyData := .tuple [.int (k0 a), .int (k1 a)]
theorem vals_int {G : Cfg} {r : List Addr} {H : Hp} {i : Int} {xs : List Val} {vs : List V} {its : List Value} (q : VRs G r H (.int i :: xs) vs) (rv : Vals vs its) : ∃ t ys us, its = .int i t :: ys ∧ VRs G r H xs us ∧ Vals us ys := by
  cases q with
  | cons q1 q2 => cases q1; cases rv with
    | cons r1 r2 =>
      obtain ⟨t, rfl⟩ := r1
      exact ⟨t, _, _, rfl, q2, r2⟩
section
variable {X : Cx} {x : Str} {params : Arguments} {scope : Scope} {p1 p2 p3 pos : Pos} {kc : Nat}
/-- what is looked at in the scope -/
def lamB (x : Str) (scope : Scope) : Bool := decide (scope.kind = .function) && !scope.isCoroutine && !scope.isGenerator && scope.names.all (fun y => !decide (y.2 = .cell)) && scope.names.all (fun y => !decide (y.2 = .free)) && decide (scope.names.lookup x = some .local)
theorem lamB_ok (h : lamB x scope = true) : scope.kind = .function ∧ scope.isCoroutine = false ∧ scope.isGenerator = false ∧ (∀ y ∈ scope.names, y.2 ≠ .cell) ∧ (∀ y ∈ scope.names, y.2 ≠ .free) ∧ scope.names.lookup x = some .local := by
  unfold lamB at h
  simp only [Bool.and_eq_true, Bool.not_eq_true', decide_eq_true_eq, List.all_eq_true, decide_eq_false_iff_not] at h
  obtain ⟨⟨⟨⟨⟨h1, h2⟩, h3⟩, h4⟩, h5⟩, h6⟩ := h
  exact ⟨h1, h2, h3, h4, h5, h6⟩
theorem key0_ok (hb : ∀ (q : Str) (pm cv ctv v : Value), bindArgs (kla_fn "<lambda>" q params (.Subscript (.Name x p1) (.Constant (.int 0) kc p2) pos) scope [] pm cv ctv) ⟨[v], []⟩ = pure [(x, v)]) (h : lamB x scope = true) (hd : (x == ("__debug__" : Str)) = false := by decide) :
    KeyOk X x params (.Subscript (.Name x p1) (.Constant (.int 0) kc p2) pos) scope ok0 le0 kd0 := by
  obtain ⟨h1, h2, h3, h4, h5, h6⟩ := lamB_ok h
  refine ⟨hb, h2, h3, h1, h4, h5, h6, fun a b => by simp [kd0, alike], fun bs => Sortable.others fun b => ⟨by simp [kd0], fun xs => by simp [kd0]⟩, ?_, fun a => by simp [kd0, PyData.depth], fun A s s0 env a its xs ek el hn ht hz hok hv hs => ?_⟩
  · exact dataLe_int fun p : Val × V => k0 p.1
  · obtain ⟨G, r, H, vs, v, rv⟩ := hv
    match xs, hok with
    | .int i :: ys, _ =>
      obtain ⟨t, zs, us, rfl, _, _⟩ := vals_int v rv
      exact body_key0 ek el hn ht t rfl hs hd
theorem key2_ok (hb : ∀ (q : Str) (pm cv ctv v : Value), bindArgs (kla_fn "<lambda>" q params (.Subscript (.Name x p1) (.Slice none (some (.Constant (.int 2) kc p2)) none p3) pos) scope [] pm cv ctv) ⟨[v], []⟩ = pure [(x, v)]) (h : lamB x scope = true) (hd : (x == ("__debug__" : Str)) = false := by decide) :
    KeyOk X x params (.Subscript (.Name x p1) (.Slice none (some (.Constant (.int 2) kc p2)) none p3) pos) scope ok2 le2 kd2 := by
  obtain ⟨h1, h2, h3, h4, h5, h6⟩ := lamB_ok h
  refine ⟨hb, h2, h3, h1, h4, h5, h6, fun a b => by simp [kd2, alike, alikeAll], fun bs => Sortable.tuples fun b => ⟨_, _, rfl⟩, ?_, fun a => by simp [kd2, PyData.depth, PyData.depthAll], fun A s s0 env a its xs ek el hn ht hz hok hv hs => ?_⟩
  · exact dataLe_ii (fun p : Val × V => k0 p.1) fun p => k1 p.1
  · obtain ⟨G, r, H, vs, v, rv⟩ := hv
    match xs, hok with
    | .int i :: .int j :: y :: ys, _ =>
      obtain ⟨t, zs, us, rfl, v2, r2⟩ := vals_int v rv
      obtain ⟨t2, zs2, us2, rfl, v3, r3⟩ := vals_int v2 r2
      refine body_key2 ek el hn ht hz t t2 rfl rfl ?_ hs hd
      cases v3 with
      | cons _ _ => cases r3 with
        | cons _ _ => simp
end
end PyM

set_option Elab.async false
set_option linter.all false
set_option autoImplicit false
set_option maxHeartbeats 4000000
set_option maxRecDepth 100000
/-! sorted of a tuple of ints; of a list of pairs of ints -/
namespace PyM
open PySem PySem.Spec PySem.W PyProof.Rows L2 LamX Calls
section
variable {prog : Program} {w : World} {A : Around} {E : Value → Shared → Prop} {s : Shared}
theorem gather_tup {l : Addr} {vs : List Value} {Q : List Value → Shared → Prop} (hl : IsTup s.heap l vs.toArray) (hz : vs.length ≤ sizeLine)
    (h : Q vs { s with heap := (s.heap.push (seqObj "list" #[] 0)).update s.heap.objs.size (Obj.mapSeq (· ++ vs.toArray)) }) : wpAny (model prog w) A (collect (.ref l)) Q E s := by
  obtain ⟨ob, e1, e2, m, e3⟩ := id hl
  have e1' : (s.heap.push (seqObj "list" #[] 0)).get? l = some ob := Heap.get?_push_of_some _ e1
  have tt : (Value.type "tuple" == Value.type "tuple") = true := by rfl
  have z : ((#[] : Array Value) ++ vs.toArray).toList = vs := by simp
  unfold collect
  refine wpAny_bind (wpAny_runValue (codeAny_builtin entry_proto_collect' (?_ : wpAny _ _ (do again (.builtin "list.__iadd__" ⟨[← newList [], .ref l], []⟩)) _ _ s)))
  refine wpAny_bind (wpAny_newList (wpAny_pure ⟨Code.quiet_builtin _ (by decide +kernel), codeAny_builtin entry_list_iadd' (?_ : wpAny _ _ (Builtin.List.listExtendWith (.ref s.heap.objs.size) (.ref l) (.ref s.heap.objs.size)) _ _ { s with heap := s.heap.push (seqObj "list" #[] 0) })⟩))
  unfold Builtin.List.listExtendWith
  refine wpAny_bind (wpAny_typeOf (T := "tuple") ⟨ob, e1', e2⟩ ?_)
  rw [if_pos (by simp [tt])]
  refine wpAny_bind (listItems_at e1' e3 (wpAny_bind (listItems_at (xs := #[]) (n := 0) (Heap.get?_push_size _ rfl) rfl ?_)))
  rw [if_neg (by simp)]
  refine wpAny_bind (listUpdate_at (xs := #[]) (n := 0) (Heap.get?_push_size _ rfl) rfl (wpAny_pure ?_) (Nat.zero_le _) (by
    show (#[] ++ vs.toArray).size ≤ sizeLine + 1
    simp only [Array.size_append, List.size_toArray, List.length_nil]
    omega))
  refine wpAny_bind (wpAny_load (get?_update_seq (Heap.get?_push_size _ rfl) _) ?_)
  show wpAny _ _ (pure ((#[] : Array Value) ++ vs.toArray).toList) Q E _
  rw [z]
  exact wpAny_pure h
theorem sorted_tupI {l : Addr} {vs : List Value} {ns : List Int} {Q : Value → Shared → Prop} (hl : IsTup s.heap l vs.toArray) (hz : vs.length ≤ sizeLine) (hi : IntsAre vs ns)
    (h : ∀ out : List Value, SrtO.Srtd SrtO.ltIv out → SrtO.Stb SrtO.ltIv out vs → Q (.ref (s.heap.objs.size + 1)) { s with heap := sortedAll s.heap vs out.toArray }) : wpAny (model prog w) A (call (.builtin "sorted") [.ref l]) Q E s := by
  refine call_function_entry kind_sorted plain_sorted entry_sorted (args_sorted1 _) ?_
  unfold Builtin.«sorted»
  refine wpAny_bind (m := checkCount "sorted" 1 1 _) (wpAny_pure (wpAny_bind (gather_tup hl hz (wpAny_bind (wpAny_newList ?_ hz)))))
  have hp : ((s.heap.push (seqObj "list" #[] 0)).update s.heap.objs.size (Obj.mapSeq (· ++ vs.toArray))).objs.size = s.heap.objs.size + 1 := by rw [Heap.size_update, size_push']
  rw [show ({ s with heap := (s.heap.push (seqObj "list" #[] 0)).update s.heap.objs.size (Obj.mapSeq (· ++ vs.toArray)) } : Shared).heap.objs.size = s.heap.objs.size + 1 from hp]
  have at0 := copyHeap_at s.heap vs
  refine wpAny_bind (wpAny_holding (wpAny_call_entry (s := { s with heap := copyHeap s.heap vs }) slot_list_sort ⟨_, at0, rfl⟩ entry_list_sort (SrtO.list_sort_ord SrtO.swo_int at0 hz (fun h2 => SrtO.ints_sortable hi h2) fun out h1 h2 => ⟨_, rfl, wpAny_pure ⟨_, rfl, h out h1 h2⟩⟩) (args_list_sort _)))
end
def okP : Val → Bool
  | .tup [.int _, .int _] => true
  | _ => false
def bSorted2 (xs : List Val) (h : Heap) : Res Val := match xs with
  | [.ref a] => match h[a]? with
    | some (.lst ys) => match optAll asInt ys with
      | some ns => .ok (.ref h.length) (h ++ [.lst ((sortI ns).map .int)])
      | none => if ys.all okP then .ok (.ref h.length) (h ++ [.lst (ys.mergeSort le2)]) else .stuck
    | some (.dct d) => match optAll (fun kv : Val × Val => asInt kv.1) d with
      | some ns => if ns.length < 64 then .ok (.ref h.length) (h ++ [.lst ((sortI ns).map .int)]) else .stuck
      | none => .stuck
    | _ => .stuck
  | [.tup ys] => match optAll asInt ys with
    | some ns => .ok (.ref h.length) (h ++ [.lst ((sortI ns).map .int)])
    | none => .stuck
  | _ => .stuck
def rSorted2 (G : Cfg) (E : XK) : List V → Hp → VK → Prop := fun vs H Q => rSortedM G.K vs H Q ∨
  (∃ (r : List Addr) (h : PyM.Heap) (n : Nat) (a : Addr) (xs : List Val) (ws : List V), vs = [.ref a] ∧ HR G r H h ∧ h[n]? = some (.lst xs) ∧ xs.all okP = true ∧ H a = some (.lst ws) ∧ VRs G r H xs ws ∧ PostR G (VR G) r H E (.ok (.ref h.length) (h ++ [.lst (xs.mergeSort le2)])) Q) ∨
  ∃ a ns, vs = [.ref a] ∧ SqT G.K H a (ns.map V.int) ∧ ∀ (ns' : List Int) (p : Addr), ns'.Perm ns → ns'.Pairwise (· ≤ ·) → H p = none → Q (.ref p) (upd H p (.lst (ns'.map V.int)))
section
variable {G : Cfg} {E : XK} {X : Cx} {k : Nat}
theorem okP_tup {x : Val} (h : okP x = true) : ∃ i j, x = .tup [.int i, .int j] := by
  unfold okP at h
  split at h
  · exact ⟨_, _, rfl⟩
  · cases h
theorem reads_pair {pins : List (Addr × PySem.Obj)} {σ : L2.St} {H : Hp} {s : Shared} {r : List Addr} (C : XC G E X k) (I : L2.Inv X pins σ H s) {x : Val} {v : V} {u : Value} (q : VR G r H x v) (rl : L2.RelV v u) (h : okP x = true) : ∃ as, Reads s.heap u (kd2 x) as := by
  obtain ⟨i, j, rfl⟩ := okP_tup h
  cases q with
  | @tup _ vs b hsq hvs =>
    cases rl
    obtain ⟨is, rz, ⟨o, ho, hc, n, hd⟩, hzl⟩ := I.tuple (by rw [C.K]; exact hsq)
    obtain ⟨t, zs, us, rfl, v2, r2⟩ := vals_int hvs rz
    obtain ⟨t2, zs2, us2, rfl, v3, r3⟩ := vals_int v2 r2
    cases v3
    cases r3
    exact ⟨_, .tuple ho hc hd (.cons (.int i t) (.cons (.int j t2) .nil))⟩
theorem reads_pairs {pins : List (Addr × PySem.Obj)} {σ : L2.St} {H : Hp} {s : Shared} {r : List Addr} (C : XC G E X k) (I : L2.Inv X pins σ H s) : ∀ {its : List Value} {xs : List Val} {vs : List V}, VRs G r H xs vs → Vals vs its → xs.all okP = true → EachIs (fun u (q : Val × V) => ∃ as, Reads s.heap u (kd2 q.1) as) its (xs.zip vs)
  | its, [], _, q, rv, _ => by
    cases q
    cases rv
    exact .nil
  | its, x :: xs, _, q, rv, hall => by
    simp only [List.all_cons, Bool.and_eq_true] at hall
    cases q with
    | cons q1 q2 => cases rv with
      | cons r1 r2 => exact .cons (reads_pair C I q1 r1 hall.1) (reads_pairs C I q2 r2 hall.2)
theorem cl_sorted2 (C : XC G E X k) : CallR X (.builtin "sorted") (rSorted2 G E) := by
  intro pins s σ H vs us Q I r hh
  rcases hh with hh | hh | hh
  · exact cl_sorted C pins s σ H vs us Q I r hh
  · obtain ⟨r0, h, n, a, xs, ws, rfl, hR, eo, hall, hl, hv, p1⟩ := hh
    rw [Vals.ref1 r]
    obtain ⟨its, rv, pl, hz⟩ := I.list (SqL.of hl)
    have hlen : xs.length = ws.length := hv.len
    have each := EachIs.pair hv rv
    have hroom := C.room.un
    refine sorted_data (β := Val × V) (bs := xs.zip ws) (enc := fun q => kd2 q.1) pl.isList each (reads_pairs C I hv rv hall) (AllAlike.of fun a b => by simp [kd2, alike, alikeAll]) (Sortable.tuples fun _ => ⟨_, _, rfl⟩) (by rw [List.length_zip]; omega) (fun q _ => ?_) fun out ho eo => ?_
    · have : (kd2 q.1).depth = 1 := by simp [kd2, PyData.depth, PyData.depthAll]
      omega
    · obtain ⟨b1, b2⟩ := EachIs.back eo
      have e1 : ((xs.zip ws).mergeSort (dataLe false fun q => kd2 q.1)).map (·.1) = xs.mergeSort le2 := by
        rw [show (dataLe (β := Val × V) false fun q => kd2 q.1) = fun a b => le2 a.1 b.1 from dataLe_ii (fun p : Val × V => k0 p.1) fun p => k1 p.1, List.map_mergeSort (s := le2) fun _ _ _ _ => rfl, zip_fst hlen]
      rw [e1] at b1
      obtain ⟨ep, he'⟩ := PyProof.Rows.sortedAll_at s.heap its out.toArray
      have hlen2 : (((xs.zip ws).mergeSort (dataLe false fun q => kd2 q.1)).map (·.2)).length ≤ sizeLine := by
        rw [List.length_map, List.length_mergeSort, List.length_zip]
        omega
      exact ⟨.ref _, _, I.laid (t' := s.toks) (o := .lst (((xs.zip ws).mergeSort (dataLe false fun q => kd2 q.1)).map (·.2))) (fun _ _ => PyProof.Rows.sortedAll_old) (Nat.le_succ _) ⟨hlen2, out, ep, b2, he'⟩, rfl, new_lst (E := E) hR b1 p1 _ (I.hok.fresh (Nat.le_succ _))⟩
  · obtain ⟨a, ns, rfl, hs, q⟩ := hh
    obtain ⟨its, rv, ht, hz⟩ := I.tuple (by rw [C.K]; exact hs)
    rw [Vals.ref1 r]
    have hi := rv.ints
    refine sorted_tupI ht (by rw [← rv.length]; exact hz) hi fun out h1 h2 => ?_
    obtain ⟨k1, k2, k3⟩ := SrtO.ints_out hi h1 h2
    obtain ⟨ep, he'⟩ := PyProof.Rows.sortedAll_at s.heap its out.toArray
    have hlen : ((out.map SrtO.iv).map V.int).length ≤ sizeLine := by
      have e1 := k2.length_eq
      rw [List.length_map] at hz ⊢
      omega
    exact ⟨.ref _, upd H (s.heap.objs.size + 1) (.lst ((out.map SrtO.iv).map V.int)), I.laid (t' := s.toks) (fun _ _ => PyProof.Rows.sortedAll_old) (Nat.le_succ _) ⟨hlen, out, ep, vals_of_ints k1, he'⟩, rfl, q _ _ k2 k3 (I.hok.fresh (Nat.le_succ _))⟩
theorem rl_sorted2 : RfL G E (rSorted2 G E) bSorted2 := by
  refine ⟨fun r H h xs vs Q hR v p => ?_⟩
  unfold bSorted2 at p
  split at p
  · rename_i a
    split at p
    · rename_i ys eo
      split at p
      · rename_i ns e2
        exact .inl (rl_sorted.run r H h _ vs Q hR v (by unfold bSorted; simp only [eo, e2]; exact p))
      · split at p
        · rename_i hall
          cases v with
          | cons q1 q2 => cases q2; cases q1 with
            | @ref _ ad ea =>
              cases hR.ob _ _ _ eo ea with
              | lst hl hv => exact .inr (.inl ⟨r, h, a, ad, ys, _, rfl, hR, eo, hall, hl, hv, p⟩)
        · exact False.elim p
    · rename_i d eo
      exact .inl (rl_sorted.run r H h _ vs Q hR v (by unfold bSorted; simp only [eo]; exact p))
    · exact False.elim p
  · split at p
    · rename_i ys ns e2
      cases v with
      | cons q1 q2 => cases q2; cases q1 with
        | @tup _ zs b hsq hvs =>
          refine .inr (.inr ⟨b, ns, rfl, by rw [← all_int hvs e2]; exact hsq, fun ns' l pm so hl' => ?_⟩)
          rw [sortI_uniq pm so]
          exact new_lst hR (ints_vr _) p l hl'
    · exact False.elim p
  · exact False.elim p
end
end PyM

set_option Elab.async false
set_option linter.all false
set_option autoImplicit false
set_option maxHeartbeats 4000000
set_option maxRecDepth 100000
/-! defs whose code object is known; the law's promise with tables -/
namespace PyM
open PySem L2
section
variable {P : Program} {w : World} {mg : Str → Option Value} {base : PySem.Heap} {G : Cfg}
theorem fn_mc {x qual : Str} {st : Stmt} {f c : Addr} {fd : FuncData} {N ps : List Str} {k np nl : Nat} {mb : En → Heap → RS} (F : Fun G.K x qual st f fd) (hc : fd.code = .ref c) (S : FnScope N ps (defScope st)) (hnp : ps.length = np) (hnl : N.length = nl)
    (hb : ∀ (A : Around) (outer : List Env) (s : Shared) (H : Hp) (E : XK), XC G E (cxOf (L2.CX P w) P w G.K mg base N qual (defScope st) f (.ref c) A outer s H E) k → Tk (cxOf (L2.CX P w) P w G.K mg base N qual (defScope st) f (.ref c) A outer s H E) E →
      ∃ t, MSs G E (cxOf (L2.CX P w) P w G.K mg base N qual (defScope st) f (.ref c) A outer s H E) (defBody st) t mb) : FnM G P w mg base (k + 1) f fd ps (runB np nl mb) := by
  subst hnp hnl
  refine ⟨?_, fun xs h hl => by unfold runB; rw [if_neg hl]⟩
  obtain ⟨oc, od, kV, doc, pm, an, cdv, ct, osl, rfl, lk, hcd⟩ := F.ex
  have e : cdv = .ref c := hc
  subst e
  refine fn_of lk hcd S (fun vs H Q E h => h.1) fun A outer s H vs Q E hr h => ?_
  obtain ⟨hl, r, h, xs, hR, vR, p⟩ := h
  have tk : Tk (cxOf (L2.CX P w) P w G.K mg base N qual (defScope st) f (.ref c) A outer s H E) E := takes_of rfl rfl rfl rfl
  obtain ⟨t, q⟩ := hb A outer s H E ⟨rfl, rfl, S.nd, hr, passes_call tk (fun _ _ _ _ h => h), passes_of rfl⟩ tk
  have z := q.rf.run r H h _ _ { nx := fun _ H' => Q .non H', rt := Q } hR (SR_start (n := N.length - ps.length) vR) ?_
  · exact ⟨t, q.pe, by rw [← hl] at z; exact z⟩
  · unfold runB at p
    rw [if_pos (by rw [vR.len]; exact hl)] at p
    cases e : mb (List.map some xs ++ List.replicate (N.length - ps.length) none) h with
    | nx a b => exact fun r' H' t st hR' _ => (by rw [e] at p; exact p : PostR G (VR G) r H E (.ok .non b) Q) r' H' _ st hR' .non
    | rt a b => rw [e] at p; exact p
    | raised a b => rw [e] at p; exact p
    | bk a b => rw [e] at p; exact p.elim
    | ct a b => rw [e] at p; exact p.elim
    | stuck => rw [e] at p; exact p.elim
theorem tb_uniq {l : List (Addr × Str)} {P : Addr} {q : Str} (nd : (l.map (·.1)).Nodup) (hm : (P, q) ∈ l) : ∀ p ∈ l, p.1 = P → p.2 = q := by
  induction l with
  | nil => cases hm
  | cons a l ih =>
    simp only [List.map_cons, List.nodup_cons] at nd
    intro p hp e
    rcases List.mem_cons.mp hm with z | z
    · rcases List.mem_cons.mp hp with y | y
      · rw [y, ← z]
      · exact absurd (List.mem_map.mpr ⟨p, y, by rw [e, ← z]⟩) nd.1
    · rcases List.mem_cons.mp hp with y | y
      · exact absurd (List.mem_map.mpr ⟨_, z, by rw [← y, e]⟩) nd.1
      · exact ih nd.2 z p y e
/-- the law's promise where tables are known -/
def spLawT (K : PySem.W.Frag) (cs : List (Addr × Addr)) : Sp := fun vs H Q _ => ∃ (a : Addr) (ns : List Int), vs = [.ref a] ∧ ns.length ≤ 63 ∧ (∀ p ∈ cs, H p.2 = some (.tbl #[])) ∧ SqL K H a (ns.map V.int) ∧ ∀ H', Q (.bl true) H'
theorem law_ofT {f : Addr} {fd : FuncData} {x : Str} {k : Nat} {m : List Val → Heap → Res Val} {cs : List (Addr × Addr)} (F : FnM G P w mg base k f fd [x] m) (h : ∀ ns : List Int, ns.length ≤ 63 → ∀ o : PyM.Obj, (o = .fls (ns.map Val.int) ∨ o = .lst (ns.map Val.int)) → ∃ h', m [.ref 0] [o] = .ok (.bl true) h')
    (htb : G.tbs.map (·.1) = cs.map (·.2)) : FnOk P w G.K mg base (L2.CX P w) k f fd [x] (spLawT G.K cs) := by
  refine F.ok.imp fun vs H Q E ⟨a, ns, e, hl, hcs, hS, q⟩ => ?_
  subst e
  have tb : LamX.Tabs G.tbs H := fun p hp => by
    obtain ⟨c, hc, e⟩ := List.mem_map.mp (show p.1 ∈ cs.map (·.2) by rw [← htb]; exact List.mem_map.mpr ⟨p, hp, rfl⟩)
    rw [show p.1 = c.2 from e.symm]
    exact LamX.TabS.nil (hcs _ hc)
  have go : ∀ o : PyM.Obj, (o = .fls (ns.map Val.int) ∨ o = .lst (ns.map Val.int)) → OR G [a] H o a → spM G [x].length m [.ref a] H Q E := fun o eo ho => by
    obtain ⟨h', e⟩ := h ns hl o eo
    refine ⟨rfl, [a], [o], [.ref 0], ⟨rfl, fun i j b x y e1 e2 e3 e4 f1 f2 => ?_, fun n o' b e1 e2 => ?_, tb⟩, .cons (.ref rfl) .nil, ?_⟩
    · cases i with
      | zero => cases j with
        | zero => rfl
        | succ j => simp at e2
      | succ i => simp at e1
    · cases n with
      | zero =>
        simp at e1 e2
        subst e1 e2
        exact ho
      | succ n => simp at e1
    · rw [e]
      intro r' H' b st hR v
      cases v
      exact q H'
  rcases hS with (hS | hS) | hS
  · exact go _ (.inr rfl) (.lst hS (vrs_ints ns))
  · exact go _ (.inl rfl) (.fls (.inl hS) (vrs_ints ns))
  · exact go _ (.inl rfl) (.fls (.inr hS) (vrs_ints ns))
end
end PyM

set_option Elab.async false
set_option linter.all false
set_option autoImplicit false
set_option maxHeartbeats 4000000
set_option maxRecDepth 100000
namespace PyM
open PySem PySem.Spec PyProof.Rows L2 He
/-- a law over a head by facts, where what may be let out hangs on the world -/
theorem walk_ofC {l : PySem.W.OpenLaw} {n k : Nat} {q : Program} {loose : List Str} {XP : (Str → Option Value) → PySem.Heap → Prop} {YP : World → PySem.Heap → Prop} {d : DefRec} {CX : World → CXT} {x : Str}
    (hn : l.most = some n) (hn2 : n ≤ sizeLine) (hdf : d.params.defaults = []) (hr : Room k callerA)
    (F : ∀ (w : World) (mg : Str → Option Value) (fa : Addr) (h : PySem.Heap), YP w h → h.Ns mainGlobals mg → mg d.name = some (.ref fa) →
      ∃ (K : PySem.W.Frag) (fd : FuncData) (sp : Sp), K.In h ∧ (∀ (s : Shared) (u : Value), BindsTo s fd ⟨[u], []⟩ [(x, u)]) ∧
        (∀ (H : Hp) (a : Addr) (ns : List Int), ns.length ≤ n → Only H → SqL K H a (ns.map V.int) → sp [.ref a] H (fun v _ => v = .bl true) fun _ _ _ => False) ∧
        ∀ base : PySem.Heap, K.In base → base.Ns mainGlobals mg → FnOk l.prog w K mg base (CX w) k fa fd [x] sp)
    (hCX : ∀ (w : World) (H : Hp) (s : Shared) (e : Value) (s' : Shared), CX w [] H s (fun _ _ _ => False) e s' → False) :
    PySem.W.WalkO q loose XP YP l.row.toRowW d [] (fun f vs => PySem.call f vs) := by
  refine Att.attach_call hn hdf fun w s0 s1 m1 m2 f1 o1 p1 c1 d1 a1 vs ns G Y y1 y2 y3 y4 y5 y6 y7 y8 => ?_
  obtain ⟨K', fd', sp', z1, z2, z3, z4⟩ := F w m1 f1 _ Y G.T.g y4
  exact law_call z1 G.T.g G.T.b G.T.builtins G.T.nolimit y8 y5 y6 (Nat.le_trans y7 hn2) hr z4 z2 (fun H q1 q2 => z3 H a1 ns y7 q1 q2) fun H e1 e2 => hCX w H s1 e1 e2
end PyM

set_option Elab.async false
set_option linter.all false
set_option maxRecDepth 100000
set_option maxHeartbeats 4000000
namespace Lw
open PyM
def m__law_next : List Val → Heap → Res Val := runB 2 4
    (sSeq (sAsg (gV 2) (mB oIx (mV 0) (mK (.int 2))))
    (sSeq (sIf (tB_ (mB oGt (mV 2) (mK (.int 0)))) (sSeq (sSub (mV 0) (mK (.int 2)) (mB oFd (mV 2) (mV 1)))
    (sRet (mB oMd (mL bInt (mCons (mV 2) (mNil))) (mV 1)))) (sNx))
    (sSeq (sAsg (gV 3) (mK (.int 0)))
    (sSeq (sIf (tB_ (mB oLt (mB oIx (mV 0) (mK (.int 1))) (mL bLen (mCons (mB oIx (mV 0) (mK (.int 0))) (mNil))))) (sSeq (sAsg (gV 3) (mL bAbs (mCons (mB oIx (mB oIx (mV 0) (mK (.int 0))) (mB oIx (mV 0) (mK (.int 1)))) (mNil))))
    (sSubA (oI fun i j => .int (i + j)) (mV 0) (mK (.int 1)) (mK (.int 1)))) (sNx))
    (sSeq (sIf (tB_ (mB oGe (mV 3) (mB oPw (mK (.int 10)) (mK (.int 18))))) (sSeq (sSub (mV 0) (mK (.int 2)) (mB oFd (mV 3) (mV 1)))
    (sRet (mB oMd (mL bInt (mCons (mV 3) (mNil))) (mV 1)))) (sNx))
    (sSeq (sSub (mV 0) (mK (.int 3)) (mB oMd (mL bInt (mCons (mB oAdd (mB oAdd (mB oMul (mB oIx (mV 0) (mK (.int 3))) (mK (.int 48271))) (mB oMul (mV 3) (mK (.int 69621)))) (mK (.int 11))) (mNil))) (mK (.int 2147483647))))
    (sRet (mB oMd (mL bInt (mCons (mB oFd (mB oMd (mB oMul (mB oIx (mV 0) (mK (.int 3))) (mK (.int 16807))) (mK (.int 2147483647))) (mK (.int 7))) (mNil))) (mV 1)))))))))
def m_is_number : List Val → Heap → Res Val := runB 1 1
    (sRet (mAn (mIsi .int (mV 0)) (mNo (mIsi .bool (mV 0)))))
def m_is_word : List Val → Heap → Res Val := runB 1 1
    (sRet (mAn (mCall m_is_number [] (mCons (mV 0) (mNil))) (mChLeLe (mK (.int 0)) (mV 0) (mK (.int 4294967295)))))
def m_is_test : List Val → Heap → Res Val := runB 1 4
    (sSeq (sIf (tOr_ (tNo (tTr (mIsi .tup (mV 0)))) (tB_ (mB (oEq true) (mL bLen (mCons (mV 0) (mNil))) (mK (.int 3))))) (sRet (mK (.bl false))) (sNx))
    (sSeq (sAsg (gT (gsCons (gV 1) (gsCons (gV 2) (gsCons (gV 3) (gsNil))))) (mV 0))
    (sSeq (sIf (tOr_ (tNo (tTr (mCall m_is_number [] (mCons (mV 1) (mNil))))) (tOr_ (tNo (tB_ (mChLeLt (mK (.int 0)) (mV 1) (mK (.int 6))))) (tOr_ (tNo (tTr (mCall m_is_word [] (mCons (mV 2) (mNil))))) (tNo (tTr (mCall m_is_word [] (mCons (mV 3) (mNil)))))))) (sRet (mK (.bl false))) (sNx))
    (sRet (mAn (mB oGt (mV 2) (mK (.int 0))) (mB (oEq false) (mB oBa (mV 3) (mV 2)) (mV 3)))))))
def m_is_filter : List Val → Heap → Res Val := runB 1 4
    (sSeq (sIf (tOr_ (tNo (tTr (mIsi .tup (mV 0)))) (tNo (tTr (mL bAll (mCons (mLc (iAlt (iLst (mV 0)) (iTup_ (mV 0))) (gV 2) (tTrue) (mCall m_is_test [] (mCons (mV 2) (mNil))) [2]) (mNil)))))) (sRet (mK (.bl false))) (sNx))
    (sSeq (sAsg (gV 1) (mLc (iAlt (iLst (mV 0)) (iTup_ (mV 0))) (gV 2) (tTrue) (mB oIx (mV 2) (mK (.int 0))) [2]))
    (sRet (mL bAll (mCons (mLc (iRng1 (mCons (mB (oI fun i j => .int (i - j)) (mL bLen (mCons (mV 1) (mNil))) (mK (.int 1))) (mNil))) (gV 3) (tTrue) (mB oLt (mB oIx (mV 1) (mV 3)) (mB oIx (mV 1) (mB oAdd (mV 3) (mK (.int 1))))) [3]) (mNil))))))
def m_common : List Val → Heap → Res Val := runB 2 7
    (sSeq (sAsg (gV 2) (mB oMul (mLst (mCons (mK (.int 0)) (mNil))) (mK (.int 6))))
    (sSeq (sAsg (gV 3) (mB oMul (mLst (mCons (mK (.int 0)) (mNil))) (mK (.int 6))))
    (sSeq (sFor (iAlt (iLst (mV 0)) (iTup_ (mV 0))) (gT (gsCons (gV 4) (gsCons (gV 5) (gsCons (gV 6) (gsNil))))) (sSeq (sSub (mV 2) (mV 4) (mV 6))
    (sSub (mV 3) (mV 4) (mV 5))))
    (sSeq (sFor (iAlt (iLst (mV 1)) (iTup_ (mV 1))) (gT (gsCons (gV 4) (gsCons (gV 5) (gsCons (gV 6) (gsNil))))) (sSeq (sIf (tB_ (mB (oEq true) (mB oBa (mB oBa (mB oBx (mB oIx (mV 2) (mV 4)) (mV 6)) (mB oIx (mV 3) (mV 4))) (mV 5)) (mK (.int 0)))) (sRet (mK .non)) (sNx))
    (sSub (mV 2) (mV 4) (mB oBo (mB oIx (mV 2) (mV 4)) (mV 6)))))
    (sRet (mL bTuple (mCons (mV 2) (mNil))))))))
def m_Net__common_with_regions : List Val → Heap → Res Val := runB 3 5
    (sSeq (sFor (iRng1 (mCons (mK (.int 4)) (mNil))) (gV 3) (sIf (tAn (tB_ (mB (oEq true) (mV 3) (mV 1))) (tB_ (mU (oIsN true) (mB oIx (mU (getF 0) (mV 0)) (mV 3))))) (sSeq (sAsg (gV 4) (mCall m_common [] (mCons (mV 2) (mCons (mB oIx (mU (getF 0) (mV 0)) (mV 3)) (mNil)))))
    (sIf (tB_ (mU (oIsN true) (mV 4))) (sRet (mV 4)) (sNx))) (sNx)))
    (sRet (mK .non)))
def m_Net___init__ : List Val → Heap → Res Val := runB 2 4
    (sSeq (sIf (tOr_ (tNo (tTr (mIsi .lst (mV 1)))) (tB_ (mB (oEq true) (mL bLen (mCons (mV 1) (mNil))) (mK (.int 4))))) (sRaise 2) (sNx))
    (sSeq (sIf (tNo (tTr (mL bAll (mCons (mLc (iAlt (iLst (mV 1)) (iTup_ (mV 1))) (gV 3) (tTrue) (mOr_ (mU (oIsN false) (mV 3)) (mCall m_is_filter [] (mCons (mV 3) (mNil)))) [3]) (mNil))))) (sRaise 2) (sNx))
    (sSeq (sFld 0 0 (mV 0) (mL bList (mCons (mV 1) (mNil))))
    (sSeq (sFor (iRng1 (mCons (mK (.int 4)) (mNil))) (gV 2) (sSeq (sAsg (gV 3) (mB oIx (mV 1) (mV 2)))
    (sIf (tAn (tB_ (mU (oIsN true) (mV 3))) (tB_ (mU (oIsN true) (mMeth 0 m_Net__common_with_regions [] (mV 0) (mCons (mV 2) (mCons (mV 3) (mNil))))))) (sRaise 2) (sNx))))
    (sSeq (sFld 0 1 (mV 0) (mK (.int 0)))
    (sSeq (sFld 0 2 (mV 0) (mDct))
    (sSeq (sFld 0 3 (mV 0) (mDct))
    (sSeq (sFld 0 4 (mV 0) (mK c_EMPTY))
    (sSeq (sFld 0 5 (mV 0) (mLst (mNil)))
    (sFld 0 6 (mV 0) (mK (.int 0))))))))))))
def m__law_refused : List Val → Heap → Res Val := runB 1 1
    (sTry 2 (sSeq (sDrop (mMake 0 m_Net___init__ [] (mCons (mV 0) (mNil))))
    (sRet (mK (.bl false)))) (sRet (mK (.bl true))))
def m__law_filter : List Val → Heap → Res Val := runB 2 3
    (sSeq (sAsg (gV 2) (mLst (mNil)))
    (sSeq (sIf (tB_ (mB oGt (mCall m__law_next [] (mCons (mV 0) (mCons (mK (.int 3)) (mNil)))) (mK (.int 0)))) (sDrop (mBM bAppend (mV 2) (mCons (mTup (mCons (mK (.int 0)) (mCons (mK (.int 3)) (mCons (mB oIx (mLst (mCons (mV 1) (mCons (mCall m__law_next [] (mCons (mV 0) (mCons (mK (.int 4)) (mNil)))) (mNil)))) (mCall m__law_next [] (mCons (mV 0) (mCons (mK (.int 2)) (mNil))))) (mNil))))) (mNil)))) (sNx))
    (sSeq (sIf (tB_ (mB (oEq false) (mCall m__law_next [] (mCons (mV 0) (mCons (mK (.int 2)) (mNil)))) (mK (.int 0)))) (sDrop (mBM bAppend (mV 2) (mCons (mTup (mCons (mK (.int 1)) (mCons (mK (.int 15)) (mCons (mCall m__law_next [] (mCons (mV 0) (mCons (mK (.int 4)) (mNil)))) (mNil))))) (mNil)))) (sNx))
    (sRet (mL bTuple (mCons (mV 2) (mNil)))))))
def m__law_meets_two : List Val → Heap → Res Val := runB 4 8
    (sSeq (sAsg (gV 4) (mLst (mNil)))
    (sSeq (sFor (iRng1 (mCons (mK (.int 4)) (mNil))) (gV 5) (sIf (tAn (tB_ (mB (oEq true) (mV 5) (mV 2))) (tB_ (mU (oIsN true) (mB oIx (mV 0) (mV 5))))) (sDrop (mBM bAppend (mV 4) (mCons (mB oIx (mV 0) (mV 5)) (mNil)))) (sNx)))
    (sSeq (sFor (iLst (mL bSorted2 (mCons (mV 1) (mNil)))) (gV 6) (sIf (tB_ (mB (oEq true) (mB oIx (mB oIx (mV 1) (mV 6)) (mK (.int 0))) (mV 2))) (sDrop (mBM bAppend (mV 4) (mCons (mB oIx (mB oIx (mV 1) (mV 6)) (mK (.int 1))) (mNil)))) (sNx)))
    (sRet (mLc (iAlt (iLst (mV 4)) (iTup_ (mV 4))) (gV 7) (tB_ (mU (oIsN true) (mCall m_common [] (mCons (mV 3) (mCons (mV 7) (mNil)))))) (mV 7) [7])))))
def m_branch_of : List Val → Heap → Res Val := runB 3 4
    (sSeq (sFor (iAlt (iLst (mV 0)) (iTup_ (mV 0))) (gV 3) (sIf (tB_ (mB (oEq false) (mSl (mV 3) (pNo) (pSo (mK (.int 2)))) (mTup (mCons (mV 1) (mCons (mV 2) (mNil)))))) (sRet (mB oIx (mV 3) (mK (.int 2)))) (sNx)))
    (sRet (mTup (mNil))))
def m_child_of : List Val → Heap → Res Val := runB 2 4
    (sSeq (sFor (iAlt (iLst (mV 0)) (iTup_ (mV 0))) (gT (gsCons (gV 2) (gsCons (gV 3) (gsNil)))) (sIf (tB_ (mB (oEq false) (mV 2) (mV 1))) (sRet (mV 3)) (sNx)))
    (sRet (mK .non)))
def m_with_branch : List Val → Heap → Res Val := runB 4 6
    (sSeq (sAsg (gV 4) (mLc (iAlt (iLst (mV 0)) (iTup_ (mV 0))) (gV 5) (tB_ (mB (oEq true) (mSl (mV 5) (pNo) (pSo (mK (.int 2)))) (mTup (mCons (mV 1) (mCons (mV 2) (mNil)))))) (mV 5) [5]))
    (sSeq (sIf (tTr (mV 3)) (sDrop (mBM bAppend (mV 4) (mCons (mTup (mCons (mV 1) (mCons (mV 2) (mCons (mV 3) (mNil))))) (mNil)))) (sNx))
    (sRet (mL bTuple (mCons (mSortK ok2 le2 (mV 4)) (mNil))))))
def m_with_child : List Val → Heap → Res Val := runB 3 5
    (sSeq (sAsg (gV 3) (mLc (iAlt (iLst (mV 0)) (iTup_ (mV 0))) (gV 4) (tB_ (mB (oEq true) (mB oIx (mV 4) (mK (.int 0))) (mV 1))) (mV 4) [4]))
    (sSeq (sIf (tB_ (mU (oIsN true) (mV 2))) (sDrop (mBM bAppend (mV 3) (mCons (mTup (mCons (mV 1) (mCons (mV 2) (mNil)))) (mNil)))) (sNx))
    (sRet (mL bTuple (mCons (mSortK ok0 le0 (mV 3)) (mNil))))))
def m_with_filter_ (self_ : List Val → Heap → Res Val) : List Val → Heap → Res Val := runB 3 10
    (sSeq (sAsg (gT (gsCons (gV 3) (gsCons (gV 4) (gsNil)))) (mV 0))
    (sSeq (sIf (tNo (tTr (mV 2))) (sRet (mTup (mCons (mL bTuple (mCons (mL bSorted2 (mCons (mB oAdd (mV 3) (mTup (mCons (mV 1) (mNil)))) (mNil))) (mNil))) (mCons (mV 4) (mNil))))) (sNx))
    (sSeq (sAsg (gT (gsCons (gV 5) (gsCons (gV 6) (gsCons (gV 7) (gsNil))))) (mB oIx (mV 2) (mK (.int 0))))
    (sSeq (sAsg (gV 8) (mCall m_branch_of [] (mCons (mV 4) (mCons (mV 5) (mCons (mV 6) (mNil))))))
    (sSeq (sAsg (gV 9) (mCall m_child_of [] (mCons (mV 8) (mCons (mV 7) (mNil)))))
    (sSeq (sIf (tB_ (mU (oIsN false) (mV 9))) (sAsg (gV 9) (mK c_EMPTY)) (sNx))
    (sSeq (sAsg (gV 9) (mCall self_ [] (mCons (mV 9) (mCons (mV 1) (mCons (mSl (mV 2) (pSo (mK (.int 1))) (pNo)) (mNil))))))
    (sRet (mTup (mCons (mV 3) (mCons (mCall m_with_branch [] (mCons (mV 4) (mCons (mV 5) (mCons (mV 6) (mCons (mCall m_with_child [] (mCons (mV 8) (mCons (mV 7) (mCons (mV 9) (mNil))))) (mNil)))))) (mNil))))))))))))
def m_with_filter_n : Nat → List Val → Heap → Res Val
  | 0 => fun _ _ => .stuck
  | n + 1 => m_with_filter_ (m_with_filter_n n)
def m_with_filter : List Val → Heap → Res Val := m_with_filter_n 8
def m_Net_enroll : List Val → Heap → Res Val := runB 3 7
    (sSeq (sIf (tNo (tTr (mCall m_is_filter [] (mCons (mV 2) (mNil))))) (sRaise 2) (sNx))
    (sSeq (sAsg (gV 3) (mMeth 0 m_Net__common_with_regions [] (mV 0) (mCons (mV 1) (mCons (mV 2) (mNil)))))
    (sSeq (sIf (tB_ (mU (oIsN true) (mV 3))) (sRet (mV 3)) (sNx))
    (sSeq (sFor (iLst (mL bSorted2 (mCons (mU (getF 2) (mV 0)) (mNil)))) (gV 4) (sSeq (sAsg (gT (gsCons (gV 5) (gsCons (gV 6) (gsNil)))) (mB oIx (mU (getF 2) (mV 0)) (mV 4)))
    (sIf (tB_ (mB (oEq true) (mV 5) (mV 1))) (sSeq (sAsg (gV 3) (mCall m_common [] (mCons (mV 2) (mCons (mV 6) (mNil)))))
    (sIf (tB_ (mU (oIsN true) (mV 3))) (sRet (mV 3)) (sNx))) (sNx))))
    (sSeq (sFldA 0 1 (oI fun i j => .int (i + j)) (mV 0) (mK (.int 1)))
    (sSeq (sSub (mU (getF 2) (mV 0)) (mU (getF 1) (mV 0)) (mTup (mCons (mV 1) (mCons (mV 2) (mNil)))))
    (sSeq (sSub (mU (getF 3) (mV 0)) (mU (getF 1) (mV 0)) (mLst (mNil)))
    (sSeq (sFld 0 4 (mV 0) (mCall m_with_filter [] (mCons (mU (getF 4) (mV 0)) (mCons (mU (getF 1) (mV 0)) (mCons (mV 2) (mNil))))))
    (sRet (mU (getF 1) (mV 0)))))))))))
def m_is_packet : List Val → Heap → Res Val := runB 1 2
    (sRet (mAn (mIsi .tup (mV 0)) (mAn (mB (oEq false) (mL bLen (mCons (mV 0) (mNil))) (mK (.int 6))) (mL bAll (mCons (mLc (iAlt (iLst (mV 0)) (iTup_ (mV 0))) (gV 1) (tTrue) (mCall m_is_word [] (mCons (mV 1) (mNil))) [1]) (mNil))))))
def m_holds : List Val → Heap → Res Val := runB 2 5
    (sSeq (sAsg (gT (gsCons (gV 2) (gsCons (gV 3) (gsCons (gV 4) (gsNil))))) (mV 0))
    (sRet (mB (oEq false) (mB oBa (mB oIx (mV 1) (mV 2)) (mV 3)) (mV 4))))
def m_meets : List Val → Heap → Res Val := runB 2 3
    (sRet (mL bAll (mCons (mLc (iAlt (iLst (mV 0)) (iTup_ (mV 0))) (gV 2) (tTrue) (mCall m_holds [] (mCons (mV 2) (mCons (mV 1) (mNil)))) [2]) (mNil))))
def m__law_enroll : List Val → Heap → Res Val := runB 5 10
    (sSeq (sAsg (gV 5) (mCall m__law_next [] (mCons (mV 0) (mCons (mK (.int 4)) (mNil)))))
    (sSeq (sAsg (gV 6) (mCall m__law_filter [] (mCons (mV 0) (mCons (mV 5) (mNil)))))
    (sSeq (sAsg (gV 7) (mCall m__law_meets_two [] (mCons (mV 2) (mCons (mV 3) (mCons (mV 5) (mCons (mV 6) (mNil)))))))
    (sSeq (sAsg (gV 8) (mMeth 0 m_Net_enroll [] (mV 1) (mCons (mV 5) (mCons (mV 6) (mNil)))))
    (sSeq (sIf (tTr (mV 7)) (sRet (mAn (mCall m_is_packet [] (mCons (mV 8) (mNil))) (mAn (mCall m_meets [] (mCons (mV 6) (mCons (mV 8) (mNil)))) (mB oGt (mL bLen (mCons (mLc (iAlt (iLst (mV 7)) (iTup_ (mV 7))) (gV 9) (tTr (mCall m_meets [] (mCons (mV 9) (mCons (mV 8) (mNil))))) (mK (.int 1)) [9]) (mNil))) (mK (.int 0)))))) (sNx))
    (sSeq (sSubA (oI fun i j => .int (i + j)) (mV 4) (mK (.int 0)) (mK (.int 1)))
    (sSeq (sSub (mV 3) (mB oIx (mV 4) (mK (.int 0))) (mTup (mCons (mV 5) (mCons (mV 6) (mCons (mLst (mNil)) (mNil))))))
    (sRet (mAn (mIsi .int (mV 8)) (mB (oEq false) (mV 8) (mB oIx (mV 4) (mK (.int 0)))))))))))))
def m_names_found_ (self_ : List Val → Heap → Res Val) : List Val → Heap → Res Val := runB 2 9
    (sSeq (sAsg (gT (gsCons (gV 2) (gsCons (gV 3) (gsNil)))) (mV 0))
    (sSeq (sAsg (gV 4) (mL bList (mCons (mV 2) (mNil))))
    (sSeq (sFor (iAlt (iLst (mV 3)) (iTup_ (mV 3))) (gT (gsCons (gV 5) (gsCons (gV 6) (gsCons (gV 7) (gsNil))))) (sSeq (sAsg (gV 8) (mCall m_child_of [] (mCons (mV 7) (mCons (mB oBa (mB oIx (mV 1) (mV 5)) (mV 6)) (mNil)))))
    (sIf (tB_ (mU (oIsN true) (mV 8))) (sDrop (mBM bExtend (mV 4) (mCons (mCall self_ [] (mCons (mV 8) (mCons (mV 1) (mNil)))) (mNil)))) (sNx))))
    (sRet (mV 4)))))
def m_names_found_n : Nat → List Val → Heap → Res Val
  | 0 => fun _ _ => .stuck
  | n + 1 => m_names_found_ (m_names_found_n n)
def m_names_found : List Val → Heap → Res Val := m_names_found_n 8
def m_found : List Val → Heap → Res Val := runB 2 2
    (sRet (mL bSorted2 (mCons (mCall m_names_found [] (mCons (mV 0) (mCons (mV 1) (mNil)))) (mNil))))
def m_Net_come : List Val → Heap → Res Val := runB 2 3
    (sSeq (sIf (tNo (tTr (mCall m_is_packet [] (mCons (mV 1) (mNil))))) (sRaise 2) (sNx))
    (sSeq (sAsg (gV 2) (mCall m_found [] (mCons (mU (getF 4) (mV 0)) (mCons (mV 1) (mNil)))))
    (sSeq (sIf (tOr_ (tNo (tTr (mV 2))) (tB_ (mB oGe (mL bLen (mCons (mB oIx (mU (getF 3) (mV 0)) (mB oIx (mV 2) (mK (.int 0)))) (mNil))) (mK (.int 8))))) (sSeq (sFldA 0 6 (oI fun i j => .int (i + j)) (mV 0) (mK (.int 1)))
    (sRet (mK .non))) (sNx))
    (sSeq (sDrop (mBM bAppend (mB oIx (mU (getF 3) (mV 0)) (mB oIx (mV 2) (mK (.int 0)))) (mCons (mV 1) (mNil))))
    (sRet (mB oIx (mV 2) (mK (.int 0))))))))
def m__law_come : List Val → Heap → Res Val := runB 4 9
    (sSeq (sAsg (gV 4) (mL bTuple (mCons (mLc (iRng1 (mCons (mK (.int 6)) (mNil))) (gV 7) (tTrue) (mCall m__law_next [] (mCons (mV 0) (mCons (mK (.int 4)) (mNil)))) [7]) (mNil))))
    (sSeq (sAsg (gV 5) (mLc (iLst (mL bSorted2 (mCons (mV 2) (mNil)))) (gV 8) (tTr (mCall m_meets [] (mCons (mB oIx (mB oIx (mV 2) (mV 8)) (mK (.int 1))) (mCons (mV 4) (mNil))))) (mV 8) [8]))
    (sSeq (sAsg (gV 6) (mK .non))
    (sSeq (sIf (tAn (tTr (mV 5)) (tB_ (mB oLt (mL bLen (mCons (mB oIx (mB oIx (mV 2) (mB oIx (mV 5) (mK (.int 0)))) (mK (.int 2))) (mNil))) (mK (.int 8))))) (sSeq (sAsg (gV 6) (mB oIx (mV 5) (mK (.int 0))))
    (sDrop (mBM bAppend (mB oIx (mB oIx (mV 2) (mV 6)) (mK (.int 2))) (mCons (mV 4) (mNil))))) (sSubA (oI fun i j => .int (i + j)) (mV 3) (mK (.int 1)) (mK (.int 1))))
    (sRet (mB (oEq false) (mMeth 0 m_Net_come [] (mV 1) (mCons (mV 4) (mNil))) (mV 6)))))))
def m_Net_is_owner : List Val → Heap → Res Val := runB 3 3
    (sRet (mAn (mB (oIn false) (mV 2) (mU (getF 2) (mV 0))) (mB (oEq false) (mB oIx (mB oIx (mU (getF 2) (mV 0)) (mV 2)) (mK (.int 0))) (mV 1))))
def m_Net_next : List Val → Heap → Res Val := runB 3 3
    (sSeq (sIf (tOr_ (tNo (tTr (mMeth 0 m_Net_is_owner [] (mV 0) (mCons (mV 1) (mCons (mV 2) (mNil)))))) (tNo (tTr (mB oIx (mU (getF 3) (mV 0)) (mV 2))))) (sRet (mK .non)) (sNx))
    (sRet (mAlt (mBM bPopAt (mB oIx (mU (getF 3) (mV 0)) (mV 2)) (mCons (mK (.int 0)) (mNil))) (mPop1 (mB oIx (mU (getF 3) (mV 0)) (mV 2)) (mK (.int 0))))))
def m__law_take : List Val → Heap → Res Val := runB 3 6
    (sSeq (sAsg (gV 3) (mCall m__law_next [] (mCons (mV 0) (mCons (mK (.int 4)) (mNil)))))
    (sSeq (sAsg (gV 4) (mB oAdd (mK (.int 1)) (mCall m__law_next [] (mCons (mV 0) (mCons (mK (.int 8)) (mNil))))))
    (sSeq (sAsg (gV 5) (mK .non))
    (sSeq (sIf (tAn (tB_ (mB (oIn false) (mV 4) (mV 2))) (tAn (tB_ (mB (oEq false) (mB oIx (mB oIx (mV 2) (mV 4)) (mK (.int 0))) (mV 3))) (tTr (mB oIx (mB oIx (mV 2) (mV 4)) (mK (.int 2)))))) (sAsg (gV 5) (mAlt (mBM bPopAt (mB oIx (mB oIx (mV 2) (mV 4)) (mK (.int 2))) (mCons (mK (.int 0)) (mNil))) (mPop1 (mB oIx (mB oIx (mV 2) (mV 4)) (mK (.int 2))) (mK (.int 0))))) (sNx))
    (sRet (mB (oEq false) (mMeth 0 m_Net_next [] (mV 1) (mCons (mV 3) (mCons (mV 4) (mNil)))) (mV 5)))))))
def m_Net_send : List Val → Heap → Res Val := runB 2 2
    (sSeq (sIf (tNo (tTr (mCall m_is_packet [] (mCons (mV 1) (mNil))))) (sRaise 2) (sNx))
    (sDrop (mBM bAppend (mU (getF 5) (mV 0)) (mCons (mV 1) (mNil)))))
def m_without_filter_ (self_ : List Val → Heap → Res Val) : List Val → Heap → Res Val := runB 3 11
    (sSeq (sAsg (gT (gsCons (gV 3) (gsCons (gV 4) (gsNil)))) (mV 0))
    (sSeq (sIf (tNo (tTr (mV 2))) (sRet (mTup (mCons (mL bTuple (mCons (mLc (iAlt (iLst (mV 3)) (iTup_ (mV 3))) (gV 10) (tB_ (mB (oEq true) (mV 10) (mV 1))) (mV 10) [10]) (mNil))) (mCons (mV 4) (mNil))))) (sNx))
    (sSeq (sAsg (gT (gsCons (gV 5) (gsCons (gV 6) (gsCons (gV 7) (gsNil))))) (mB oIx (mV 2) (mK (.int 0))))
    (sSeq (sAsg (gV 8) (mCall m_branch_of [] (mCons (mV 4) (mCons (mV 5) (mCons (mV 6) (mNil))))))
    (sSeq (sAsg (gV 9) (mCall m_child_of [] (mCons (mV 8) (mCons (mV 7) (mNil)))))
    (sSeq (sIf (tB_ (mU (oIsN false) (mV 9))) (sRet (mV 0)) (sNx))
    (sSeq (sAsg (gV 9) (mCall self_ [] (mCons (mV 9) (mCons (mV 1) (mCons (mSl (mV 2) (pSo (mK (.int 1))) (pNo)) (mNil))))))
    (sSeq (sIf (tB_ (mB (oEq false) (mV 9) (mK c_EMPTY))) (sAsg (gV 9) (mK .non)) (sNx))
    (sRet (mTup (mCons (mV 3) (mCons (mCall m_with_branch [] (mCons (mV 4) (mCons (mV 5) (mCons (mV 6) (mCons (mCall m_with_child [] (mCons (mV 8) (mCons (mV 7) (mCons (mV 9) (mNil))))) (mNil)))))) (mNil)))))))))))))
def m_without_filter_n : Nat → List Val → Heap → Res Val
  | 0 => fun _ _ => .stuck
  | n + 1 => m_without_filter_ (m_without_filter_n n)
def m_without_filter : List Val → Heap → Res Val := m_without_filter_n 8
def m_Net_give_up : List Val → Heap → Res Val := runB 3 4
    (sSeq (sIf (tNo (tTr (mMeth 0 m_Net_is_owner [] (mV 0) (mCons (mV 1) (mCons (mV 2) (mNil)))))) (sRet (mK (.bl false))) (sNx))
    (sSeq (sAsg (gV 3) (mAlt (mBM bPopAt (mU (getF 2) (mV 0)) (mCons (mV 2) (mNil))) (mPop1 (mU (getF 2) (mV 0)) (mV 2))))
    (sSeq (sDrop (mAlt (mBM bPopAt (mU (getF 3) (mV 0)) (mCons (mV 2) (mNil))) (mPop1 (mU (getF 3) (mV 0)) (mV 2))))
    (sSeq (sFld 0 4 (mV 0) (mCall m_without_filter [] (mCons (mU (getF 4) (mV 0)) (mCons (mV 2) (mCons (mB oIx (mV 3) (mK (.int 1))) (mNil))))))
    (sRet (mK (.bl true)))))))
def m_Net_filters : List Val → Heap → Res Val := runB 1 2
    (sRet (mLc (iLst (mL bSorted2 (mCons (mU (getF 2) (mV 0)) (mNil)))) (gV 1) (tTrue) (mTup (mCons (mV 1) (mCons (mB oIx (mB oIx (mU (getF 2) (mV 0)) (mV 1)) (mK (.int 0))) (mCons (mB oIx (mB oIx (mU (getF 2) (mV 0)) (mV 1)) (mK (.int 1))) (mNil))))) [1]))
def m_Net_lost : List Val → Heap → Res Val := runB 1 1
    (sRet (mU (getF 6) (mV 0)))
def m_Net_ring : List Val → Heap → Res Val := runB 2 2
    (sRet (mL bList (mCons (mGet2 (mU (getF 3) (mV 0)) (mV 1) (mLst (mNil))) (mNil))))
def m_Net_sent : List Val → Heap → Res Val := runB 1 1
    (sRet (mL bList (mCons (mU (getF 5) (mV 0)) (mNil))))
def m_law : List Val → Heap → Res Val := runB 1 14
    (sSeq (sAsg (gV 1) (mLst (mCons (mL bList (mCons (mV 0) (mNil))) (mCons (mK (.int 0)) (mCons (mK (.int 0)) (mCons (mK (.int 19)) (mNil)))))))
    (sSeq (sAsg (gV 2) (mLc (iRng1 (mCons (mK (.int 4)) (mNil))) (gV 13) (tTrue) (mB oIx (mLst (mCons (mK .non) (mCons (mTup (mCons (mTup (mCons (mK (.int 0)) (mCons (mK (.int 3)) (mCons (mV 13) (mNil))))) (mNil))) (mNil)))) (mCall m__law_next [] (mCons (mV 1) (mCons (mK (.int 2)) (mNil))))) [13]))
    (sSeq (sAsg (gV 3) (mMake 0 m_Net___init__ [] (mCons (mL bList (mCons (mV 2) (mNil))) (mNil))))
    (sSeq (sIf (tOr_ (tNo (tTr (mCall m__law_refused [] (mCons (mSl (mV 2) (pSo (mK (.int 1))) (pNo)) (mNil))))) (tNo (tTr (mCall m__law_refused [] (mCons (mLst (mCons (mTup (mCons (mTup (mCons (mK (.int 0)) (mCons (mK (.int 3)) (mCons (mK (.int 1)) (mNil))))) (mNil))) (mCons (mTup (mCons (mTup (mCons (mK (.int 0)) (mCons (mK (.int 1)) (mCons (mK (.int 1)) (mNil))))) (mNil))) (mCons (mK .non) (mCons (mK .non) (mNil)))))) (mNil)))))) (sRet (mK (.bl false))) (sNx))
    (sSeq (sAsg (gV 4) (mDct))
    (sSeq (sAsg (gV 5) (mLst (mCons (mK (.int 0)) (mCons (mK (.int 0)) (mNil)))))
    (sSeq (sAsg (gV 6) (mLst (mNil)))
    (sSeq (sFor (iRng1 (mCons (mCall m__law_next [] (mCons (mV 1) (mCons (mB oIx (mLst (mCons (mK (.int 25)) (mCons (mK (.int 61)) (mNil)))) (mCall m__law_next [] (mCons (mV 1) (mCons (mK (.int 2)) (mNil))))) (mNil)))) (mNil))) (gV 7) (sSeq (sAsg (gV 8) (mCall m__law_next [] (mCons (mV 1) (mCons (mK (.int 9)) (mNil)))))
    (sSeq (sAsg (gV 9) (mK (.bl true)))
    (sSeq (sIf (tB_ (mB oLt (mV 8) (mK (.int 2)))) (sAsg (gV 9) (mCall m__law_enroll [] (mCons (mV 1) (mCons (mV 3) (mCons (mV 2) (mCons (mV 4) (mCons (mV 5) (mNil)))))))) (sIf (tB_ (mB oLt (mV 8) (mK (.int 6)))) (sAsg (gV 9) (mCall m__law_come [] (mCons (mV 1) (mCons (mV 3) (mCons (mV 4) (mCons (mV 5) (mNil))))))) (sIf (tB_ (mB (oEq false) (mV 8) (mK (.int 6)))) (sAsg (gV 9) (mCall m__law_take [] (mCons (mV 1) (mCons (mV 3) (mCons (mV 4) (mNil)))))) (sIf (tB_ (mB (oEq false) (mV 8) (mK (.int 7)))) (sSeq (sDrop (mBM bAppend (mV 6) (mCons (mTup (mCons (mV 7) (mCons (mK (.int 1)) (mCons (mK (.int 2)) (mCons (mK (.int 3)) (mCons (mK (.int 4)) (mCons (mK (.int 5)) (mNil)))))))) (mNil))))
    (sDrop (mMeth 0 m_Net_send [] (mV 3) (mCons (mB oIx (mV 6) (mU oNeg (mK (.int 1)))) (mNil))))) (sSeq (sAsg (gV 10) (mCall m__law_next [] (mCons (mV 1) (mCons (mK (.int 4)) (mNil)))))
    (sSeq (sAsg (gV 11) (mB oAdd (mK (.int 1)) (mCall m__law_next [] (mCons (mV 1) (mCons (mK (.int 8)) (mNil))))))
    (sSeq (sAsg (gV 12) (mAn (mB (oIn false) (mV 11) (mV 4)) (mB (oEq false) (mB oIx (mB oIx (mV 4) (mV 11)) (mK (.int 0))) (mV 10))))
    (sSeq (sIf (tTr (mV 12)) (sDrop (mAlt (mBM bPopAt (mV 4) (mCons (mV 11) (mNil))) (mPop1 (mV 4) (mV 11)))) (sNx))
    (sAsg (gV 9) (mB (oEq false) (mMeth 0 m_Net_give_up [] (mV 3) (mCons (mV 10) (mCons (mV 11) (mNil)))) (mV 12)))))))))))
    (sSeq (sIf (tNo (tTr (mV 9))) (sRet (mK (.bl false))) (sNx))
    (sSeq (sIf (tOr_ (tB_ (mB (oEq true) (mMeth 0 m_Net_filters [] (mV 3) (mNil)) (mLc (iLst (mL bSorted2 (mCons (mV 4) (mNil)))) (gV 11) (tTrue) (mTup (mCons (mV 11) (mCons (mB oIx (mB oIx (mV 4) (mV 11)) (mK (.int 0))) (mCons (mB oIx (mB oIx (mV 4) (mV 11)) (mK (.int 1))) (mNil))))) [11]))) (tB_ (mB (oEq true) (mMeth 0 m_Net_lost [] (mV 3) (mNil)) (mB oIx (mV 5) (mK (.int 1)))))) (sRet (mK (.bl false))) (sNx))
    (sFor (iRng2 (mCons (mK (.int 1)) (mCons (mK (.int 9)) (mNil)))) (gV 11) (sIf (tB_ (mB (oEq true) (mMeth 0 m_Net_ring [] (mV 3) (mCons (mV 11) (mNil))) (mIf (tB_ (mB (oIn false) (mV 11) (mV 4))) (mB oIx (mB oIx (mV 4) (mV 11)) (mK (.int 2))) (mLst (mNil))))) (sRet (mK (.bl false))) (sNx)))))))))
    (sRet (mB (oEq false) (mMeth 0 m_Net_sent [] (mV 3) (mNil)) (mV 6)))))))))))
end Lw

set_option Elab.async false
set_option linter.all false
set_option autoImplicit false
set_option maxHeartbeats 4000000
namespace Lw
open PyM
/-! strictly ascending lists -/
class Lin (α : Type) [DecidableEq α] where
  lt : α → α → Bool
  irr : ∀ a, lt a a = false
  tr : ∀ a b c, lt a b = true → lt b c = true → lt a c = true
  tot : ∀ a b, a ≠ b → lt a b = true ∨ lt b a = true
instance : Lin Nat := ⟨fun a b => decide (a < b), by simp, by simp; omega, by simp; omega⟩
instance : Lin Int := ⟨fun a b => decide (a < b), by simp, by simp; omega, by simp; omega⟩
instance : Lin (Nat × Nat) := ⟨fun a b => decide (a.1 < b.1 ∨ (a.1 = b.1 ∧ a.2 < b.2)), by simp, by simp; omega, by
  rintro ⟨a, b⟩ ⟨c, d⟩ h
  simp at h ⊢
  omega⟩
section
variable {α : Type} [DecidableEq α] [Lin α]
def ins (x : α) : List α → List α
  | [] => [x]
  | y :: ys => if Lin.lt x y then x :: y :: ys else if x = y then y :: ys else y :: ins x ys
def Asc (l : List α) : Prop := l.Pairwise fun a b => Lin.lt a b = true
def mkS (l : List α) : List α := l.foldr ins []
theorem mem_ins {x z : α} : ∀ {l : List α}, z ∈ ins x l ↔ z = x ∨ z ∈ l
  | [] => by simp [ins]
  | y :: ys => by
    unfold ins
    split
    · simp
    · split
      · rename_i e
        subst e
        simp
      · simp only [List.mem_cons, mem_ins (l := ys)]
        constructor
        · rintro (h | h | h)
          · exact .inr (.inl h)
          · exact .inl h
          · exact .inr (.inr h)
        · rintro (h | h | h)
          · exact .inr (.inl h)
          · exact .inl h
          · exact .inr (.inr h)
theorem asc_ins {x : α} : ∀ {l : List α}, Asc l → Asc (ins x l)
  | [], _ => by simp [ins, Asc]
  | y :: ys, h => by
    have h' := List.pairwise_cons.mp h
    unfold ins
    split
    · rename_i e
      refine List.pairwise_cons.mpr ⟨fun z hz => ?_, h⟩
      rcases List.mem_cons.mp hz with rfl | hz
      · exact e
      · exact Lin.tr _ _ _ e (h'.1 z hz)
    · split
      · exact h
      · rename_i e1 e2
        refine List.pairwise_cons.mpr ⟨fun z hz => ?_, asc_ins h'.2⟩
        rcases mem_ins.mp hz with rfl | hz
        · rcases Lin.tot z y e2 with q | q
          · exact absurd q e1
          · exact q
        · exact h'.1 z hz
theorem asc_mkS : ∀ l : List α, Asc (mkS l)
  | [] => List.Pairwise.nil
  | x :: l => asc_ins (asc_mkS l)
theorem mem_mkS {z : α} : ∀ {l : List α}, z ∈ mkS l ↔ z ∈ l
  | [] => Iff.rfl
  | x :: l => by
    show z ∈ ins x (mkS l) ↔ _
    rw [mem_ins, mem_mkS, List.mem_cons]
theorem len_ins {x : α} : ∀ {l : List α}, (ins x l).length ≤ l.length + 1
  | [] => by simp [ins]
  | y :: ys => by
    unfold ins
    have := len_ins (x := x) (l := ys)
    split
    · simp
    · split <;> simp
      omega
theorem len_mkS : ∀ l : List α, (mkS l).length ≤ l.length
  | [] => Nat.le_refl _
  | x :: l => Nat.le_trans len_ins (Nat.succ_le_succ (len_mkS l))
theorem Asc.nd {l : List α} (h : Asc l) : l.Nodup := h.imp fun {a b} q e => by
  subst e
  rw [Lin.irr] at q
  cases q
theorem asc_uniq : ∀ {l m : List α}, Asc l → Asc m → (∀ z, z ∈ l ↔ z ∈ m) → l = m
  | [], [], _, _, _ => rfl
  | [], y :: m, _, _, h => absurd ((h y).mpr List.mem_cons_self) (by simp)
  | x :: l, [], _, _, h => absurd ((h x).mp List.mem_cons_self) (by simp)
  | x :: l, y :: m, hl, hm, h => by
    have hl' := List.pairwise_cons.mp hl
    have hm' := List.pairwise_cons.mp hm
    have e : x = y := by
      by_cases e : x = y
      · exact e
      · have h1 : Lin.lt y x = true := by
          rcases List.mem_cons.mp ((h x).mp List.mem_cons_self) with q | q
          · exact absurd q e
          · exact hm'.1 x q
        have h2 : Lin.lt x y = true := by
          rcases List.mem_cons.mp ((h y).mpr List.mem_cons_self) with q | q
          · exact absurd q.symm e
          · exact hl'.1 y q
        have := Lin.tr _ _ _ h1 h2
        rw [Lin.irr] at this
        cases this
    subst e
    rw [asc_uniq hl'.2 hm'.2 fun z => ?_]
    have nx : ∀ {k : List α}, (∀ b ∈ k, Lin.lt x b = true) → x ∉ k := fun {k} q m => by
      have := q x m
      rw [Lin.irr] at this
      cases this
    have hz := h z
    simp only [List.mem_cons] at hz
    by_cases e : z = x
    · subst e
      exact ⟨fun q => absurd q (nx hl'.1), fun q => absurd q (nx hm'.1)⟩
    · exact ⟨fun q => (hz.mp (.inr q)).resolve_left e, fun q => (hz.mpr (.inr q)).resolve_left e⟩
theorem mkS_ext {l m : List α} (h : ∀ z, z ∈ l ↔ z ∈ m) : mkS l = mkS m := asc_uniq (asc_mkS _) (asc_mkS _) fun z => by rw [mem_mkS, mem_mkS]; exact h z
theorem ins_in {x : α} {l : List α} (h : Asc l) (hx : x ∈ l) : ins x l = l := asc_uniq (asc_ins h) h fun z => by
  rw [mem_ins]
  exact ⟨fun q => q.elim (fun e => e ▸ hx) id, .inr⟩
theorem ins_out {x : α} {l : List α} (h : Asc l) (hx : x ∉ l) : (ins x l).filter (fun y => decide (y ≠ x)) = l := asc_uniq ((asc_ins h).filter _) h fun z => by
  simp only [List.mem_filter, mem_ins, ne_eq, decide_eq_true_eq]
  exact ⟨fun q => q.1.resolve_left q.2, fun q => ⟨.inr q, fun e => hx (e ▸ q)⟩⟩
theorem ins_perm {x : α} : ∀ {l : List α}, x ∉ l → (ins x l).Perm (x :: l)
  | [], _ => .refl _
  | y :: ys, h => by
    unfold ins
    split
    · exact .refl _
    · split
      · rename_i e
        exact absurd (e ▸ List.mem_cons_self) h
      · exact ((ins_perm fun q => h (List.mem_cons_of_mem _ q)).cons y).trans (.swap _ _ _)
theorem ins_ne_nil {x : α} {l : List α} : ins x l ≠ [] := fun e => by
  have : x ∈ ins x l := mem_ins.mpr (.inl rfl)
  rw [e] at this
  cases this
end
/-! filters and the tree of them -/
abbrev Te := Nat × Nat × Nat
abbrev Fi := Int × List Te
def encT (t : Te) : Val := .tup [.int t.1, .int t.2.1, .int t.2.2]
def encF (F : List Te) : Val := .tup (F.map encT)
def nmF (f : Fi) : Option Int := if f.2 = [] then some f.1 else none
def hdF (f : Fi) : Option (Nat × Nat) := match f.2 with
  | [] => none
  | (i, m, _) :: _ => some (i, m)
def vlF (k : Nat × Nat) (f : Fi) : Option Nat := match f.2 with
  | [] => none
  | (i, m, v) :: _ => if (i, m) = k then some v else none
def sbF (k : Nat × Nat) (v : Nat) (f : Fi) : Option Fi := match f.2 with
  | [] => none
  | (i, m, w) :: r => if (i, m) = k ∧ w = v then some (f.1, r) else none
def nmL (fs : List Fi) : List Int := mkS (fs.filterMap nmF)
def keys (fs : List Fi) : List (Nat × Nat) := mkS (fs.filterMap hdF)
def vals (fs : List Fi) (k : Nat × Nat) : List Nat := mkS (fs.filterMap (vlF k))
def sub (fs : List Fi) (k : Nat × Nat) (v : Nat) : List Fi := fs.filterMap (sbF k v)
def kidV (v : Nat) (t : Val) : Val := .tup [.int v, t]
def brV (k : Nat × Nat) (c : List Val) : Val := .tup [.int k.1, .int k.2, .tup c]
def T : Nat → List Fi → Val
  | 0, fs => .tup [.tup ((nmL fs).map .int), .tup []]
  | n + 1, fs => .tup [.tup ((nmL fs).map .int), .tup ((keys fs).map fun k => brV k ((vals fs k).map fun v => kidV v (T n (sub fs k v))))]
def Ch (n : Nat) (fs : List Fi) (k : Nat × Nat) : List Val := (vals fs k).map fun v => kidV v (T n (sub fs k v))
theorem T_succ (n : Nat) (fs : List Fi) : T (n + 1) fs = .tup [.tup ((nmL fs).map .int), .tup ((keys fs).map fun k => brV k (Ch n fs k))] := rfl
/-- .. does not hang on the order -/
theorem fm_mem {α : Type} {f : Fi → Option α} {fs gs : List Fi} (p : fs.Perm gs) : ∀ z, z ∈ fs.filterMap f ↔ z ∈ gs.filterMap f := fun z => (p.filterMap f).mem_iff
theorem T_perm : ∀ (n : Nat) {fs gs : List Fi}, fs.Perm gs → T n fs = T n gs
  | 0, fs, gs, p => by
    unfold T nmL
    rw [mkS_ext (fm_mem p)]
  | n + 1, fs, gs, p => by
    have e1 : nmL fs = nmL gs := mkS_ext (fm_mem p)
    have e2 : keys fs = keys gs := mkS_ext (fm_mem p)
    have e3 : ∀ k, vals fs k = vals gs k := fun k => mkS_ext (fm_mem p)
    rw [T_succ, T_succ, e1, e2]
    unfold Ch
    simp only [e3]
    have e4 : ∀ k v, T n (sub fs k v) = T n (sub gs k v) := fun k v => T_perm n (p.filterMap _)
    simp only [e4]
theorem sub_nil {fs : List Fi} {k : Nat × Nat} {v : Nat} : sub fs k v = [] ↔ v ∉ vals fs k := by
  unfold sub vals
  rw [mem_mkS, List.filterMap_eq_nil_iff]
  simp only [List.mem_filterMap, not_exists, not_and]
  refine forall_congr' fun f => forall_congr' fun _ => ?_
  unfold sbF vlF
  rcases f with ⟨z, F⟩
  cases F with
  | nil => simp
  | cons t r =>
    obtain ⟨i, m, w⟩ := t
    by_cases h1 : (i, m) = k <;> by_cases h2 : w = v <;> simp [h1, h2]
theorem vals_nil {fs : List Fi} {k : Nat × Nat} : vals fs k = [] ↔ k ∉ keys fs := by
  have e : vals fs k = [] ↔ ∀ v, v ∉ vals fs k := ⟨fun e v h => (by rw [e] at h; cases h), fun h => List.eq_nil_iff_forall_not_mem.mpr h⟩
  rw [e]
  unfold vals keys
  simp only [mem_mkS, List.mem_filterMap, not_exists, not_and]
  constructor
  · intro h f hf
    unfold hdF
    rcases f with ⟨z, F⟩
    cases F with
    | nil => simp
    | cons t r =>
      obtain ⟨i, m, w⟩ := t
      intro e2
      simp at e2
      have := h w (z, (i, m, w) :: r) hf
      unfold vlF at this
      simp [e2] at this
  · intro h v f hf
    have := h f hf
    unfold hdF at this
    unfold vlF
    rcases f with ⟨z, F⟩
    cases F with
    | nil => simp
    | cons t r =>
      obtain ⟨i, m, w⟩ := t
      simp at this ⊢
      intro e1
      exact absurd e1 this
theorem T_nil : ∀ n : Nat, T n [] = c_EMPTY
  | 0 => rfl
  | n + 1 => rfl
theorem T_empty {n : Nat} {fs : List Fi} (hl : ∀ f ∈ fs, f.2.length ≤ n) (h : T n fs = c_EMPTY) : fs = [] := by
  cases fs with
  | nil => rfl
  | cons f fs =>
    exfalso
    obtain ⟨z, F⟩ := f
    cases F with
    | nil =>
      have hm : z ∈ nmL ((z, []) :: fs) := by unfold nmL; rw [mem_mkS]; simp [nmF]
      have e : nmL ((z, []) :: fs) = [] := by
        cases n with
        | zero =>
          unfold T c_EMPTY at h
          simpa using h
        | succ n =>
          rw [T_succ] at h
          unfold c_EMPTY at h
          simp at h
          exact h.1
      rw [e] at hm
      cases hm
    | cons t r =>
      obtain ⟨i, m, v⟩ := t
      cases n with
      | zero => have := hl _ List.mem_cons_self; simp at this
      | succ n =>
        have hm : (i, m) ∈ keys ((z, (i, m, v) :: r) :: fs) := by unfold keys; rw [mem_mkS]; simp [hdF]
        have e : keys ((z, (i, m, v) :: r) :: fs) = [] := by
          rw [T_succ] at h
          unfold c_EMPTY at h
          simp at h
          exact h.2
        rw [e] at hm
        cases hm
end Lw

set_option Elab.async false
set_option linter.all false
set_option autoImplicit false
set_option maxHeartbeats 4000000
namespace Lw
open PyM
section
variable {z : Int} {r : List Te} {i m v w n : Nat} {fs : List Fi} {k : Nat × Nat}
theorem keys_cons : keys ((z, (i, m, v) :: r) :: fs) = ins (i, m) (keys fs) := rfl
theorem nmL_cons : nmL ((z, (i, m, v) :: r) :: fs) = nmL fs := rfl
theorem vals_cons : vals ((z, (i, m, v) :: r) :: fs) (i, m) = ins v (vals fs (i, m)) := by
  unfold vals
  rw [List.filterMap_cons_some (b := v) (by simp [vlF])]
  rfl
theorem vals_other (h : k ≠ (i, m)) : vals ((z, (i, m, v) :: r) :: fs) k = vals fs k := by
  unfold vals
  rw [List.filterMap_cons_none (by simp [vlF, h.symm])]
theorem sub_cons : sub ((z, (i, m, v) :: r) :: fs) (i, m) v = (z, r) :: sub fs (i, m) v := by
  unfold sub
  rw [List.filterMap_cons_some (b := (z, r)) (by simp [sbF])]
theorem sub_other (h : k ≠ (i, m) ∨ w ≠ v) : sub ((z, (i, m, v) :: r) :: fs) k w = sub fs k w := by
  unfold sub
  rw [List.filterMap_cons_none (by
    unfold sbF
    simp
    intro e1 e2
    rcases h with h | h
    · exact absurd e1.symm h
    · exact absurd e2.symm h)]
theorem nmL_zero : nmL ((z, []) :: fs) = ins z (nmL fs) := rfl
theorem keys_zero : keys ((z, []) :: fs) = keys fs := rfl
theorem vals_zero : vals ((z, []) :: fs) k = vals fs k := rfl
theorem sub_zero : sub ((z, []) :: fs) k w = sub fs k w := rfl
theorem Ch_zero : Ch n ((z, []) :: fs) k = Ch n fs k := rfl
theorem Ch_other (h : k ≠ (i, m)) : Ch n ((z, (i, m, v) :: r) :: fs) k = Ch n fs k := by
  unfold Ch
  rw [vals_other h]
  simp only [sub_other (.inl h)]
theorem asc_keys : Asc (keys fs) := asc_mkS _
theorem asc_vals : Asc (vals fs k) := asc_mkS _
theorem asc_nmL : Asc (nmL fs) := asc_mkS _
theorem len_keys : (keys fs).length ≤ fs.length := Nat.le_trans (len_mkS _) (List.length_filterMap_le ..)
theorem len_vals : (vals fs k).length ≤ fs.length := Nat.le_trans (len_mkS _) (List.length_filterMap_le ..)
theorem len_nmL : (nmL fs).length ≤ fs.length := Nat.le_trans (len_mkS _) (List.length_filterMap_le ..)
theorem len_sub : (sub fs k v).length ≤ fs.length := List.length_filterMap_le ..
theorem Ch_nil : Ch n fs k = [] ↔ k ∉ keys fs := by
  unfold Ch
  rw [List.map_eq_nil_iff, vals_nil]
/-- what a test asks of the names: a name of a filter in the tree -/
theorem sub_mem {f : Fi} (h : f ∈ sub fs k v) : (f.1, (k.1, k.2, v) :: f.2) ∈ fs := by
  obtain ⟨g, hg, e⟩ := List.mem_filterMap.mp h
  obtain ⟨y, G⟩ := g
  unfold sbF at e
  cases G with
  | nil => cases e
  | cons t r =>
    obtain ⟨a, b, c⟩ := t
    simp at e
    obtain ⟨⟨rfl, rfl⟩, rfl⟩ := e
    exact hg
theorem mem_sub {y : Int} {R : List Te} (h : (y, (k.1, k.2, v) :: R) ∈ fs) : (y, R) ∈ sub fs k v := List.mem_filterMap.mpr ⟨_, h, by simp [sbF]⟩
theorem mem_nmL {y : Int} : y ∈ nmL fs ↔ (y, []) ∈ fs := by
  unfold nmL
  rw [mem_mkS, List.mem_filterMap]
  constructor
  · rintro ⟨⟨a, F⟩, h, e⟩
    unfold nmF at e
    by_cases q : F = []
    · simp [q] at e
      rw [← e, ← q]
      exact h
    · simp [q] at e
  · intro h
    exact ⟨_, h, by simp [nmF]⟩
theorem mem_vals : v ∈ vals fs k ↔ ∃ y R, (y, (k.1, k.2, v) :: R) ∈ fs := by
  constructor
  · intro h
    cases e : sub fs k v with
    | nil => exact absurd h (sub_nil.mp e)
    | cons f l => exact ⟨f.1, f.2, sub_mem (by rw [e]; exact List.mem_cons_self)⟩
  · rintro ⟨y, R, h⟩
    by_cases q : v ∈ vals fs k
    · exact q
    · have := mem_sub h
      rw [sub_nil.mpr q] at this
      cases this
theorem mem_keys : k ∈ keys fs ↔ ∃ y v R, (y, (k.1, k.2, v) :: R) ∈ fs := by
  constructor
  · intro h
    cases e : vals fs k with
    | nil => exact absurd h (vals_nil.mp e)
    | cons v l =>
      obtain ⟨y, R, h⟩ := mem_vals.mp (show v ∈ vals fs k by rw [e]; exact List.mem_cons_self)
      exact ⟨y, v, R, h⟩
  · rintro ⟨y, v, R, h⟩
    by_cases q : k ∈ keys fs
    · exact q
    · have := mem_vals.mpr ⟨y, R, h⟩
      rw [vals_nil.mpr q] at this
      cases this
theorem sub_len1 (hl : ∀ f ∈ fs, f.2.length ≤ n + 1) : ∀ f ∈ sub fs k v, f.2.length ≤ n := fun f hf => by
  have := hl _ (sub_mem hf)
  simpa using this
end
/-! plain values -/
theorem pl_ints {n : Nat} (l : List Int) : pl (n + 2) (.tup (l.map .int)) = true := pl_tup fun x hx => by
  obtain ⟨i, _, rfl⟩ := List.mem_map.mp hx
  rfl
theorem T_pl : ∀ (n : Nat) (fs : List Fi), pl (5 * n + 3) (T n fs) = true
  | 0, fs => pl_tup fun x hx => by
    rcases List.mem_cons.mp hx with rfl | hx
    · exact pl_ints _
    · rcases List.mem_cons.mp hx with rfl | hx
      · rfl
      · cases hx
  | n + 1, fs => by
    rw [T_succ, show 5 * (n + 1) + 3 = (5 * n + 7) + 1 by omega]
    refine pl_tup fun x hx => ?_
    rcases List.mem_cons.mp hx with rfl | hx
    · exact pl_ints _
    · rcases List.mem_cons.mp hx with rfl | hx
      · refine pl_tup fun x hx => ?_
        obtain ⟨k, _, rfl⟩ := List.mem_map.mp hx
        refine pl_tup fun x hx => ?_
        simp only [List.mem_cons, List.not_mem_nil, or_false] at hx
        rcases hx with rfl | rfl | rfl
        · rfl
        · rfl
        · refine pl_tup fun x hx => ?_
          obtain ⟨v, _, rfl⟩ := List.mem_map.mp hx
          refine pl_tup fun x hx => ?_
          simp only [List.mem_cons, List.not_mem_nil, or_false] at hx
          rcases hx with rfl | rfl
          · rfl
          · exact T_pl n _
      · cases hx
theorem T_pl60 {n : Nat} (h : n ≤ 6) (fs : List Fi) : pl 60 (T n fs) = true := pl_up (by omega) (T_pl n fs)
/-! rows in their order -/
theorem le0_kid {a b : Nat} {x y : Val} : le0 (kidV a x) (kidV b y) = decide (a ≤ b) := by
  show decide ((a : Int) ≤ b) = _
  simp
theorem le2_br {a b : Nat × Nat} {x y : List Val} : le2 (brV a x) (brV b y) = decide (a.1 < b.1 ∨ (a.1 = b.1 ∧ a.2 ≤ b.2)) := by
  show decide ((a.1 : Int) < b.1 ∨ ((a.1 : Int) = b.1 ∧ (a.2 : Int) ≤ b.2)) = _
  congr 1
  simp
  omega
theorem le0_tr (a b c : Val) : le0 a b = true → le0 b c = true → le0 a c = true := by simp [le0]; omega
theorem le0_tot (a b : Val) : (le0 a b || le0 b a) = true := by simp [le0]; omega
theorem le2_tr (a b c : Val) : le2 a b = true → le2 b c = true → le2 a c = true := by simp [le2]; omega
theorem le2_tot (a b : Val) : (le2 a b || le2 b a) = true := by simp [le2]; omega
section
variable {α : Type} [DecidableEq α] [Lin α] {le : Val → Val → Bool} {e : α → Val}
/-- rows by their keys: sorted they are those of the ascending keys -/
theorem sort_keys {ks : List α} (hs : Asc ks) (tr : ∀ a b c, le a b = true → le b c = true → le a c = true) (tot : ∀ a b, (le a b || le b a) = true) (h1 : ∀ a b, Lin.lt a b = true → le (e a) (e b) = true) (h2 : ∀ a b, le (e a) (e b) = true → le (e b) (e a) = true → a = b)
    {l : List Val} (p : l.Perm (ks.map e)) : l.mergeSort le = ks.map e := by
  have pw : (ks.map e).Pairwise fun a b => le a b = true := List.pairwise_map.mpr (hs.imp fun {a b} q => h1 a b q)
  refine List.Perm.eq_of_pairwise (le := fun a b => le a b = true) (fun a b ha hb q1 q2 => ?_) (List.pairwise_mergeSort tr tot l) pw ((List.mergeSort_perm l le).trans p)
  obtain ⟨y, _, rfl⟩ := List.mem_map.mp (((List.mergeSort_perm l le).trans p).mem_iff.mp ha)
  obtain ⟨x, _, rfl⟩ := List.mem_map.mp hb
  rw [h2 _ _ q1 q2]
/-- the keys but one, and that one anew -/
theorem re_perm {ks : List α} (hs : Asc ks) {x : α} : (ks.filter (fun y => decide (y ≠ x)) ++ [x]).Perm (ins x ks) := by
  have nd : (ks.filter (fun y => decide (y ≠ x)) ++ [x]).Nodup := by
    rw [List.nodup_append]
    refine ⟨hs.nd.filter _, by simp, fun a ha b hb e => ?_⟩
    simp at hb
    have := (List.mem_filter.mp ha).2
    simp at this
    exact this (e.trans hb)
  rw [List.perm_ext_iff_of_nodup nd (asc_ins hs).nd]
  intro a
  rw [mem_ins]
  simp only [List.mem_append, List.mem_filter, List.mem_singleton, decide_eq_true_eq]
  by_cases q : a = x
  · simp [q]
  · simp [q]
end
theorem sort0 {ks : List Nat} (hs : Asc ks) (g : Nat → Val) (v : Nat) (t : Val) : ((ks.filter (fun y => decide (y ≠ v))).map (fun w => kidV w (g w)) ++ [kidV v t]).mergeSort le0 = (ins v ks).map fun w => kidV w (if w = v then t else g w) := by
  refine sort_keys (e := fun w => kidV w (if w = v then t else g w)) (asc_ins hs) le0_tr le0_tot (fun a b h => ?_) (fun a b h1 h2 => ?_) ?_
  · rw [le0_kid]
    have : decide (a < b) = true := h
    simp at this ⊢
    omega
  · rw [le0_kid] at h1 h2
    simp at h1 h2
    omega
  · refine List.Perm.trans ?_ ((re_perm hs (x := v)).map _)
    rw [List.map_append]
    refine List.Perm.append (.of_eq (List.map_congr_left fun a ha => ?_)) (.of_eq (by simp))
    have := (List.mem_filter.mp ha).2
    simp at this
    simp [this]
theorem sort0' {ks : List Nat} (hs : Asc ks) (g : Nat → Val) (v : Nat) : ((ks.filter (fun y => decide (y ≠ v))).map (fun w => kidV w (g w))).mergeSort le0 = (ks.filter (fun y => decide (y ≠ v))).map fun w => kidV w (g w) := by
  refine sort_keys (e := fun w => kidV w (g w)) (hs.filter _) le0_tr le0_tot (fun a b h => ?_) (fun a b h1 h2 => ?_) (.refl _)
  · rw [le0_kid]
    have : decide (a < b) = true := h
    simp at this ⊢
    omega
  · rw [le0_kid] at h1 h2
    simp at h1 h2
    omega
theorem br_lt {a b : Nat × Nat} {x y : List Val} (h : Lin.lt a b = true) : le2 (brV a x) (brV b y) = true := by
  rw [le2_br]
  have : decide (a.1 < b.1 ∨ (a.1 = b.1 ∧ a.2 < b.2)) = true := h
  simp at this ⊢
  omega
theorem br_eq {a b : Nat × Nat} {x y x' y' : List Val} (h1 : le2 (brV a x) (brV b y) = true) (h2 : le2 (brV b y') (brV a x') = true) : a = b := by
  rw [le2_br] at h1 h2
  simp at h1 h2
  exact Prod.ext (by omega) (by omega)
theorem sort2 {ks : List (Nat × Nat)} (hs : Asc ks) (g : Nat × Nat → List Val) (k : Nat × Nat) (c : List Val) : ((ks.filter (fun y => decide (y ≠ k))).map (fun w => brV w (g w)) ++ [brV k c]).mergeSort le2 = (ins k ks).map fun w => brV w (if w = k then c else g w) := by
  refine sort_keys (e := fun w => brV w (if w = k then c else g w)) (asc_ins hs) le2_tr le2_tot (fun a b h => br_lt h) (fun a b h1 h2 => br_eq h1 h2) ?_
  refine List.Perm.trans ?_ ((re_perm hs (x := k)).map _)
  rw [List.map_append]
  refine List.Perm.append (.of_eq (List.map_congr_left fun a ha => ?_)) (.of_eq (by simp))
  have := (List.mem_filter.mp ha).2
  simp at this
  simp [this]
theorem sort2' {ks : List (Nat × Nat)} (hs : Asc ks) (g : Nat × Nat → List Val) (k : Nat × Nat) : ((ks.filter (fun y => decide (y ≠ k))).map (fun w => brV w (g w))).mergeSort le2 = (ks.filter (fun y => decide (y ≠ k))).map fun w => brV w (g w) :=
  sort_keys (e := fun w => brV w (g w)) (hs.filter _) le2_tr le2_tot (fun a b h => br_lt h) (fun a b h1 h2 => br_eq h1 h2) (.refl _)
end Lw

set_option Elab.async false
set_option linter.all false
set_option autoImplicit false
set_option maxHeartbeats 4000000
namespace Lw
open PyM
theorem child_loop (l : List Nat) (g : Nat → Val) (v : Nat) {h : Heap} {chk : Heap → Bool} (hc : chk h = true) : ∀ {cs : Val} {a b : Option Val}, 
    wS (forM_ chk (gT (gsCons (gV 2) (gsCons (gV 3) (gsNil)))) (sIf (tB_ (mB (oEq false) (mV 2) (mV 1))) (sRet (mV 3)) (sNx)) (l.map fun w => kidV w (g w)) [some cs, some (.int v), a, b] h)
      { nx := fun s' h' => v ∉ l ∧ h' = h, rt := fun x h' => v ∈ l ∧ x = g v ∧ h' = h } := by
  induction l with
  | nil =>
    intro cs a b
    rw [List.map_nil, wS_forM_nil]
    exact ⟨hc, by simp, rfl⟩
  | cons w l ih =>
    intro cs a b
    rw [List.map_cons, wS_forM_cons]
    refine ⟨hc, ?_⟩
    have hg : gT (gsCons (gV 2) (gsCons (gV 3) gsNil)) (kidV w (g w)) [some cs, some (.int v), a, b] = some [some cs, some (.int v), some (.int w), some (g w)] := rfl
    rw [hg]
    by_cases e : w = v
    · subst e
      simp
    · have e2 : v ≠ w := fun q => e q.symm
      have e3 : ¬ ((w : Int) = v) := by omega
      simp [e, e2, e3]
      refine wS_mono' ih ?_ ?_ rfl rfl rfl
      · rintro s' h' ⟨h1, rfl⟩
        exact ⟨h1, rfl⟩
      · rintro x h' ⟨h1, rfl, rfl⟩
        exact ⟨h1, rfl, rfl⟩
theorem child_ok (l : List Nat) (g : Nat → Val) (v : Nat) {h : Heap} : m_child_of [.tup (l.map fun w => kidV w (g w)), .int v] h = .ok (if v ∈ l then g v else .non) h := by
  refine eq_of_wR ?_
  unfold m_child_of
  refine wRB rfl ?_
  simp
  refine wS_mono' (child_loop l g v rfl) ?_ ?_ rfl rfl rfl
  · rintro s' h' ⟨h1, rfl⟩
    simp [h1]
  · rintro x h' ⟨h1, rfl, rfl⟩
    simp [h1]
theorem cut2 (k : Nat × Nat) (c : List Val) : cut [.int k.1, .int k.2, .tup c] none (some 2) = [.int k.1, .int k.2] := rfl
theorem eq2 {a b : Nat × Nat} {neg : Bool} {h : Heap} : oEq neg (.tup [.int a.1, .int a.2]) (.tup [.int b.1, .int b.2]) h = .ok (.bl (if neg then !decide (a = b) else decide (a = b))) h := by
  rw [oEq_pl rfl rfl]
  have : (Val.tup [.int a.1, .int a.2] = Val.tup [.int b.1, .int b.2]) ↔ a = b := by
    constructor
    · intro e
      simp at e
      exact Prod.ext (by omega) (by omega)
    · rintro rfl
      rfl
  simp only [this]
theorem branch_loop (l : List (Nat × Nat)) (c : Nat × Nat → List Val) (k : Nat × Nat) {h : Heap} {chk : Heap → Bool} (hc : chk h = true) : ∀ {bs : Val} {a : Option Val}, 
    wS (forM_ chk (gV 3) (sIf (tB_ (mB (oEq false) (mSl (mV 3) (pNo) (pSo (mK (.int 2)))) (mTup (mCons (mV 1) (mCons (mV 2) (mNil)))))) (sRet (mB oIx (mV 3) (mK (.int 2)))) (sNx)) (l.map fun w => brV w (c w)) [some bs, some (.int k.1), some (.int k.2), a] h)
      { nx := fun s' h' => k ∉ l ∧ h' = h, rt := fun x h' => k ∈ l ∧ x = .tup (c k) ∧ h' = h } := by
  have l3 : 3 ≤ lim := by decide
  have l2 : 2 ≤ lim := by decide
  induction l with
  | nil =>
    intro cs a
    rw [List.map_nil, wS_forM_nil]
    exact ⟨hc, by simp, rfl⟩
  | cons w l ih =>
    intro cs a
    rw [List.map_cons, wS_forM_cons]
    refine ⟨hc, ?_⟩
    have hg : gV 3 (brV w (c w)) [some cs, some (.int k.1), some (.int k.2), a] = some [some cs, some (.int k.1), some (.int k.2), some (brV w (c w))] := rfl
    rw [hg]
    by_cases e : w = k
    · subst e
      simp [brV, cut2, eq2, l2]
    · have e2 : k ≠ w := fun q => e q.symm
      simp [brV, cut2, eq2, l2, e]
      refine wS_mono' ih ?_ ?_ rfl rfl rfl
      · rintro s' h' ⟨h1, rfl⟩
        exact ⟨⟨e2, h1⟩, rfl⟩
      · rintro x h' ⟨h1, rfl, rfl⟩
        exact ⟨.inr h1, rfl, rfl⟩
theorem branch_ok (l : List (Nat × Nat)) (c : Nat × Nat → List Val) (k : Nat × Nat) {h : Heap} : m_branch_of [.tup (l.map fun w => brV w (c w)), .int k.1, .int k.2] h = .ok (.tup (if k ∈ l then c k else [])) h := by
  refine eq_of_wR ?_
  unfold m_branch_of
  refine wRB rfl ?_
  simp
  refine wS_mono' (branch_loop l c k rfl) ?_ ?_ rfl rfl rfl
  · rintro s' h' ⟨h1, rfl⟩
    simp [h1]
  · rintro x h' ⟨h1, rfl, rfl⟩
    simp [h1]
end Lw

set_option Elab.async false
set_option linter.all false
set_option autoImplicit false
set_option maxHeartbeats 4000000
namespace Lw
open PyM
section
variable {h h1 : Heap} {a : Nat} {xs : List Val} {s : En} {m me : En → Heap → Res Val} {mt : En → Heap → Res Bool} {tg : Val → En → Option En} {vs : List Nat} {mi n : MI} {S : Src}
theorem lcI_pure (p : Val → Bool) (f : Val → Val) (ei : mi s h = .ok S h1) (hl : S.items.length < lim) (hc : ∀ acc, S.chk (h1 ++ [.lst acc]) = true)
    (ht : ∀ x ∈ S.items, ∀ acc, ∃ s2, tg x (wipeE s vs) = some s2 ∧ mt s2 (h1 ++ [.lst acc]) = .ok (p x) (h1 ++ [.lst acc]) ∧ (p x = true → me s2 (h1 ++ [.lst acc]) = .ok (f x) (h1 ++ [.lst acc]))) :
    mLc mi tg mt me vs s h = .ok (.ref h1.length) (h1 ++ [.lst ((S.items.filter p).map f)]) := by
  refine eq_of_wR ?_
  rw [wR_mLc, ei]
  refine wR_lcPure p f hl hc (fun x acc hx => ?_) ⟨rfl, rfl⟩
  obtain ⟨s2, q1, q2, q3⟩ := ht x hx acc
  refine ⟨s2, q1, ?_, fun hp => ?_⟩
  · rw [q2]; exact ⟨rfl, rfl⟩
  · rw [q3 hp]; exact ⟨rfl, rfl⟩
theorem lc_all {me : En → Heap → Res Val} (f : Val → Val) (ei : mi s h = .ok S h1) (hl : S.items.length < lim) (hc : ∀ acc, S.chk (h1 ++ [.lst acc]) = true)
    (ht : ∀ x ∈ S.items, ∀ acc, ∃ s2, tg x (wipeE s vs) = some s2 ∧ me s2 (h1 ++ [.lst acc]) = .ok (f x) (h1 ++ [.lst acc])) :
    mLc mi tg tTrue me vs s h = .ok (.ref h1.length) (h1 ++ [.lst (S.items.map f)]) := by
  have := lcI_pure (mt := tTrue) (vs := vs) (tg := tg) (me := me) (fun _ => true) f ei hl hc fun x hx acc => by
    obtain ⟨s2, q1, q2⟩ := ht x hx acc
    exact ⟨s2, q1, rfl, fun _ => q2⟩
  rwa [List.filter_eq_self.mpr (fun _ _ => rfl)] at this
theorem src_lst (em : m s h = .ok (.ref a) h1) (e : h1[a]? = some (.lst xs)) : iAlt (iLst m) n s h = .ok ⟨xs, lstIs a xs⟩ h1 := by
  have : iLst m s h = .ok ⟨xs, lstIs a xs⟩ h1 := by
    unfold iLst
    rw [em]
    simp only [Res.bind, e]
  unfold iAlt
  rw [this]
theorem src_tup (em : m s h = .ok (.tup xs) h1) : iAlt (iLst m) (iTup_ m) s h = .ok ⟨xs, fun _ => true⟩ h1 := by
  have e1 : iLst m s h = .stuck := by
    unfold iLst
    rw [em]
    simp only [Res.bind]
  have e2 : iTup_ m s h = .ok ⟨xs, fun _ => true⟩ h1 := by
    unfold iTup_
    rw [em]
    simp only [Res.bind]
  unfold iAlt
  rw [e1, e2]
end
end Lw

set_option Elab.async false
set_option linter.all false
set_option autoImplicit false
set_option maxHeartbeats 4000000
namespace Lw
open PyM
theorem mSortK_at {ok : Val → Bool} {le : Val → Val → Bool} {me : En → Heap → Res Val} {s : En} {h h1 : Heap} {n : Nat} {xs : List Val} (em : me s h = .ok (.ref n) h1) (e : h1[n]? = some (.lst xs)) (ho : xs.all ok = true) :
    mSortK ok le me s h = .ok (.ref h1.length) (h1 ++ [.lst (xs.mergeSort le)]) := by
  unfold mSortK
  rw [em]
  simp only [Res.bind, e, ho, if_true]
def drp {α : Type} [DecidableEq α] (v : α) (l : List α) : List α := l.filter fun y => decide (y ≠ v)
def noK (v : Nat) (x : Val) : Bool := decide (k0 x ≠ v)
theorem kid_filter (l : List Nat) (g : Nat → Val) (v : Nat) : ((l.map fun w => kidV w (g w)).filter (noK v)).map id = (drp v l).map fun w => kidV w (g w) := by
  rw [List.map_id, List.filter_map]
  refine congrArg _ (List.filter_congr fun w _ => ?_)
  exact decide_eq_decide.mpr (show ((w : Int) ≠ v) ↔ w ≠ v by omega)
theorem kid_ok0 (l : List Nat) (g : Nat → Val) : (l.map fun w => kidV w (g w)).all ok0 = true := by
  rw [List.all_map]
  exact List.all_eq_true.mpr fun w _ => rfl
theorem kid_rows {l : List Nat} (hl : l.length < 1000) (g : Nat → Val) (v : Nat) {x2 x3 x4 : Option Val} {h : Heap} :
    mLc (iAlt (iLst (mV 0)) (iTup_ (mV 0))) (gV 4) (tB_ (mB (oEq true) (mB oIx (mV 4) (mK (.int 0))) (mV 1))) (mV 4) [4] [some (.tup (l.map fun w => kidV w (g w))), some (.int v), x2, x3, x4] h
      = .ok (.ref h.length) (h ++ [.lst ((drp v l).map fun w => kidV w (g w))]) := by
  have l1 : 1000 ≤ lim := by decide
  have := lcI_pure (tg := gV 4) (vs := [4]) (mt := tB_ (mB (oEq true) (mB oIx (mV 4) (mK (.int 0))) (mV 1))) (me := mV 4) (noK v) id (src_tup (m := mV 0) (s := [some (.tup (l.map fun w => kidV w (g w))), some (.int v), x2, x3, x4]) (h := h) rfl) (by show (l.map fun w => kidV w (g w)).length < lim; simp; omega) (fun _ => rfl) fun x hx acc => by
    obtain ⟨w, hw, rfl⟩ := List.mem_map.mp (show x ∈ l.map fun w => kidV w (g w) from hx)
    refine ⟨_, rfl, ?_, fun _ => rfl⟩
    refine eq_of_wR ?_
    by_cases q : (w : Int) = v <;> simp [gV, wipeE, kidV, noK, k0, q]
  rw [this]
  show _ = Res.ok _ (h ++ [Obj.lst _])
  rw [← kid_filter]
theorem drp_len {α : Type} [DecidableEq α] (v : α) (l : List α) : (drp v l).length ≤ l.length := List.length_filter_le ..
theorem wchild_ok {l : List Nat} (hs : Asc l) (hl : l.length < 1000) (g : Nat → Val) (v : Nat) (ts : List Val) {h : Heap} :
    ∃ e, m_with_child [.tup (l.map fun w => kidV w (g w)), .int v, .tup ts] h = .ok (.tup ((ins v l).map fun w => kidV w (if w = v then .tup ts else g w))) (h ++ e) := by
  have w : wR (m_with_child [.tup (l.map fun w => kidV w (g w)), .int v, .tup ts] h) (fun _ _ => False) fun x h' => x = .tup ((ins v l).map fun w => kidV w (if w = v then .tup ts else g w)) ∧ Ext h h' := by
    unfold m_with_child
    refine wRB rfl ?_
    have l1 : 1000 ≤ lim := by decide
    have hf := drp_len v l
    have hi := len_ins (x := v) (l := l)
    have e1 := kid_rows hl g v (x2 := some (.tup ts)) (x3 := none) (x4 := none) (h := h)
    have e2 := mSortK_at (ok := ok0) (le := le0) (me := mV 3) (s := [some (.tup (l.map fun w => kidV w (g w))), some (.int v), some (.tup ts), some (.ref h.length), none]) (h := h ++ [.lst (((drp v l).map fun w => kidV w (g w)) ++ [.tup [.int v, .tup ts]])]) rfl at_len (by rw [List.all_append, kid_ok0]; rfl)
    have e3 : (((drp v l).map fun w => kidV w (g w)) ++ [Val.tup [.int v, .tup ts]]).mergeSort le0 = _ := sort0 hs g v (.tup ts)
    rw [e3] at e2
    have l2 : 2 ≤ lim := by decide
    have l3 : (drp v l).length < lim := by omega
    have l4 : (ins v l).length ≤ lim := by omega
    have e4 : (seqOf (.ref h.length) (h ++ [Obj.lst (List.map (fun w => kidV w (g w)) (drp v l))])).isSome = true := by simp [seqOf_at at_len]
    simp [-wR_mLc, gV, e1, l2, l3, e4, e2, l4]
    exact ⟨_, rfl⟩
  obtain ⟨x, h', e, rfl, g, rfl⟩ := ex_of_wR w
  exact ⟨g, e⟩
theorem wchild_no {l : List Nat} (hs : Asc l) (hl : l.length < 1000) (g : Nat → Val) (v : Nat) {h : Heap} :
    ∃ e, m_with_child [.tup (l.map fun w => kidV w (g w)), .int v, .non] h = .ok (.tup ((drp v l).map fun w => kidV w (g w))) (h ++ e) := by
  have w : wR (m_with_child [.tup (l.map fun w => kidV w (g w)), .int v, .non] h) (fun _ _ => False) fun x h' => x = .tup ((drp v l).map fun w => kidV w (g w)) ∧ Ext h h' := by
    unfold m_with_child
    refine wRB rfl ?_
    have l1 : 1000 ≤ lim := by decide
    have hf := drp_len v l
    have e1 := kid_rows hl g v (x2 := some .non) (x3 := none) (x4 := none) (h := h)
    have e2 := mSortK_at (ok := ok0) (le := le0) (me := mV 3) (s := [some (.tup (l.map fun w => kidV w (g w))), some (.int v), some .non, some (.ref h.length), none]) (h := h ++ [.lst (((drp v l).map fun w => kidV w (g w)))]) rfl at_len (kid_ok0 _ _)
    have e3 : ((drp v l).map fun w => kidV w (g w)).mergeSort le0 = _ := sort0' hs g v
    rw [e3] at e2
    have l4 : (drp v l).length ≤ lim := by omega
    have e2' : mSortK ok0 le0 (mV 3) [some (.tup (l.map fun w => kidV w (g w))), some (.int v), some .non, some (.ref h.length), none] (h ++ [.lst (((drp v l).map fun w => kidV w (g w)))]) = .ok (.ref (h ++ [Obj.lst ((drp v l).map fun w => kidV w (g w))]).length) (h ++ [Obj.lst ((drp v l).map fun w => kidV w (g w))] ++ [Obj.lst ((drp v l).map fun w => kidV w (g w))]) := e2
    simp [-wR_mLc, gV, e1, e2', l4]
    exact ⟨_, rfl⟩
  obtain ⟨x, h', e, rfl, g, rfl⟩ := ex_of_wR w
  exact ⟨g, e⟩
/-! branches -/
def noB (k : Nat × Nat) (x : Val) : Bool := decide (¬ (k0 x = k.1 ∧ k1 x = k.2))
theorem br_filter (l : List (Nat × Nat)) (c : Nat × Nat → List Val) (k : Nat × Nat) : ((l.map fun w => brV w (c w)).filter (noB k)).map id = (drp k l).map fun w => brV w (c w) := by
  rw [List.map_id, List.filter_map]
  refine congrArg _ (List.filter_congr fun w _ => ?_)
  exact decide_eq_decide.mpr (show (¬ ((w.1 : Int) = k.1 ∧ (w.2 : Int) = k.2)) ↔ w ≠ k by
    refine not_congr ⟨fun h => Prod.ext (by omega) (by omega), ?_⟩
    rintro rfl
    exact ⟨rfl, rfl⟩)
theorem br_ok2 (l : List (Nat × Nat)) (c : Nat × Nat → List Val) : (l.map fun w => brV w (c w)).all ok2 = true := by
  rw [List.all_map]
  exact List.all_eq_true.mpr fun w _ => rfl
theorem br_rows {l : List (Nat × Nat)} (hl : l.length < 1000) (c : Nat × Nat → List Val) (k : Nat × Nat) {x3 x4 x5 : Option Val} {h : Heap} :
    mLc (iAlt (iLst (mV 0)) (iTup_ (mV 0))) (gV 5) (tB_ (mB (oEq true) (mSl (mV 5) (pNo) (pSo (mK (.int 2)))) (mTup (mCons (mV 1) (mCons (mV 2) (mNil)))))) (mV 5) [5] [some (.tup (l.map fun w => brV w (c w))), some (.int k.1), some (.int k.2), x3, x4, x5] h
      = .ok (.ref h.length) (h ++ [.lst ((drp k l).map fun w => brV w (c w))]) := by
  have l1 : 1000 ≤ lim := by decide
  have l2 : 2 ≤ lim := by decide
  have := lcI_pure (tg := gV 5) (vs := [5]) (mt := tB_ (mB (oEq true) (mSl (mV 5) (pNo) (pSo (mK (.int 2)))) (mTup (mCons (mV 1) (mCons (mV 2) (mNil)))))) (me := mV 5) (noB k) id (src_tup (m := mV 0) (s := [some (.tup (l.map fun w => brV w (c w))), some (.int k.1), some (.int k.2), x3, x4, x5]) (h := h) rfl) (by show (l.map fun w => brV w (c w)).length < lim; simp; omega) (fun _ => rfl) fun x hx acc => by
    obtain ⟨w, hw, rfl⟩ := List.mem_map.mp (show x ∈ l.map fun w => brV w (c w) from hx)
    refine ⟨_, rfl, ?_, fun _ => rfl⟩
    refine eq_of_wR ?_
    have e5 : ((w.1 : Int) = k.1 ∧ (w.2 : Int) = k.2) ↔ w = k := ⟨fun h => Prod.ext (by omega) (by omega), by rintro rfl; exact ⟨rfl, rfl⟩⟩
    by_cases q : w = k
    · subst q
      simp [gV, wipeE, brV, noB, k0, k1, cut2, eq2, l2]
    · have q' : ¬ ((w.1 : Int) = k.1 ∧ (w.2 : Int) = k.2) := fun z => q (e5.mp z)
      have nb : noB k (brV w (c w)) = true := by
        unfold noB
        exact decide_eq_true q'
      rw [nb]
      simp [gV, wipeE, brV, cut2, eq2, l2, q]
  rw [this]
  show _ = Res.ok _ (h ++ [Obj.lst _])
  rw [← br_filter]
theorem wbranch_ok {l : List (Nat × Nat)} (hs : Asc l) (hl : l.length < 1000) (c : Nat × Nat → List Val) (k : Nat × Nat) {ts : List Val} (hts : ts ≠ []) {h : Heap} :
    ∃ e, m_with_branch [.tup (l.map fun w => brV w (c w)), .int k.1, .int k.2, .tup ts] h = .ok (.tup ((ins k l).map fun w => brV w (if w = k then ts else c w))) (h ++ e) := by
  have w : wR (m_with_branch [.tup (l.map fun w => brV w (c w)), .int k.1, .int k.2, .tup ts] h) (fun _ _ => False) fun x h' => x = .tup ((ins k l).map fun w => brV w (if w = k then ts else c w)) ∧ Ext h h' := by
    unfold m_with_branch
    refine wRB rfl ?_
    have l1 : 1000 ≤ lim := by decide
    have hf := drp_len k l
    have hi := len_ins (x := k) (l := l)
    have e1 := br_rows hl c k (x3 := some (.tup ts)) (x4 := none) (x5 := none) (h := h)
    have e2 := mSortK_at (ok := ok2) (le := le2) (me := mV 4) (s := [some (.tup (l.map fun w => brV w (c w))), some (.int k.1), some (.int k.2), some (.tup ts), some (.ref h.length), none]) (h := h ++ [.lst (((drp k l).map fun w => brV w (c w)) ++ [.tup [.int k.1, .int k.2, .tup ts]])]) rfl at_len (by rw [List.all_append, br_ok2]; rfl)
    have e3 : (((drp k l).map fun w => brV w (c w)) ++ [Val.tup [.int k.1, .int k.2, .tup ts]]).mergeSort le2 = _ := sort2 hs c k ts
    rw [e3] at e2
    have l2 : 3 ≤ lim := by decide
    have l3 : (drp k l).length < lim := by omega
    have l4 : (ins k l).length ≤ lim := by omega
    have e4 : (seqOf (.ref h.length) (h ++ [Obj.lst (List.map (fun w => brV w (c w)) (drp k l))])).isSome = true := by simp [seqOf_at at_len]
    have et : ts.isEmpty = false := by cases ts with
      | nil => exact absurd rfl hts
      | cons => rfl
    simp [-wR_mLc, gV, e1, l2, l3, e4, e2, l4, truth, et, hts]
    exact ⟨_, rfl⟩
  obtain ⟨x, h', e, rfl, g, rfl⟩ := ex_of_wR w
  exact ⟨g, e⟩
theorem wbranch_no {l : List (Nat × Nat)} (hs : Asc l) (hl : l.length < 1000) (c : Nat × Nat → List Val) (k : Nat × Nat) {h : Heap} :
    ∃ e, m_with_branch [.tup (l.map fun w => brV w (c w)), .int k.1, .int k.2, .tup []] h = .ok (.tup ((drp k l).map fun w => brV w (c w))) (h ++ e) := by
  have w : wR (m_with_branch [.tup (l.map fun w => brV w (c w)), .int k.1, .int k.2, .tup []] h) (fun _ _ => False) fun x h' => x = .tup ((drp k l).map fun w => brV w (c w)) ∧ Ext h h' := by
    unfold m_with_branch
    refine wRB rfl ?_
    have l1 : 1000 ≤ lim := by decide
    have hf := drp_len k l
    have e1 := br_rows hl c k (x3 := some (.tup [])) (x4 := none) (x5 := none) (h := h)
    have e2 := mSortK_at (ok := ok2) (le := le2) (me := mV 4) (s := [some (.tup (l.map fun w => brV w (c w))), some (.int k.1), some (.int k.2), some (.tup []), some (.ref h.length), none]) (h := h ++ [.lst (((drp k l).map fun w => brV w (c w)))]) rfl at_len (br_ok2 _ _)
    have e3 : ((drp k l).map fun w => brV w (c w)).mergeSort le2 = (drp k l).map fun w => brV w (c w) := sort2' hs c k
    rw [e3] at e2
    have l4 : (drp k l).length ≤ lim := by omega
    simp [-wR_mLc, gV, e1, e2, l4, truth]
    exact ⟨_, rfl⟩
  obtain ⟨x, h', e, rfl, g, rfl⟩ := ex_of_wR w
  exact ⟨g, e⟩
end Lw

set_option Elab.async false
set_option linter.all false
set_option autoImplicit false
set_option maxHeartbeats 4000000
namespace Lw
open PyM
def Brs : Nat → List Fi → List Val
  | 0, _ => []
  | n + 1, fs => (keys fs).map fun k => brV k (Ch n fs k)
theorem T_eq : ∀ (n : Nat) (fs : List Fi), T n fs = .tup [.tup ((nmL fs).map .int), .tup (Brs n fs)]
  | 0, _ => rfl
  | _ + 1, _ => rfl
theorem Brs_zero {z : Int} {fs : List Fi} : ∀ n : Nat, Brs n ((z, []) :: fs) = Brs n fs
  | 0 => rfl
  | n + 1 => rfl
theorem optAll_ints (l : List Int) : optAll asInt (l.map Val.int) = some l := by
  have := optAll_int (fun i : Int => i) l
  simpa using this
theorem bSorted2_tup (l : List Int) {h : Heap} : bSorted2 [.tup (l.map .int)] h = .ok (.ref h.length) (h ++ [.lst ((sortI l).map .int)]) := by
  unfold bSorted2
  simp only [optAll_ints]
theorem asc_le {l : List Int} (h : Asc l) : l.Pairwise (· ≤ ·) := h.imp fun {a b} q => by
  have : decide (a < b) = true := q
  simp at this
  omega
theorem sortI_asc {l m : List Int} (h : Asc l) (p : m.Perm l) : sortI m = l := (sortI_uniq p.symm (asc_le h)).symm
theorem children_eq {n : Nat} {fs : List Fi} {k : Nat × Nat} : (if k ∈ keys fs then Ch n fs k else []) = Ch n fs k := by
  split
  · rfl
  · rename_i h
    exact (Ch_nil.mpr h).symm
theorem T_tup (n : Nat) (fs : List Fi) : ∃ ts, T n fs = .tup ts := ⟨_, T_eq n fs⟩
theorem Ch_cons {n i m v : Nat} {z : Int} {r : List Te} {fs : List Fi} : Ch n ((z, (i, m, v) :: r) :: fs) (i, m) = (ins v (vals fs (i, m))).map fun w => kidV w (if w = v then T n ((z, r) :: sub fs (i, m) v) else T n (sub fs (i, m) w)) := by
  unfold Ch
  rw [vals_cons]
  refine List.map_congr_left fun w _ => ?_
  by_cases e : w = v
  · subst e
    rw [if_pos rfl, sub_cons]
  · rw [if_neg e, sub_other (.inr e)]
theorem Brs_cons {n i m v : Nat} {z : Int} {r : List Te} {fs : List Fi} : Brs (n + 1) ((z, (i, m, v) :: r) :: fs) = (ins (i, m) (keys fs)).map fun k => brV k (if k = (i, m) then Ch n ((z, (i, m, v) :: r) :: fs) (i, m) else Ch n fs k) := by
  show (keys ((z, (i, m, v) :: r) :: fs)).map _ = _
  rw [keys_cons]
  refine List.map_congr_left fun k _ => ?_
  by_cases e : k = (i, m)
  · rw [if_pos e, e]
  · rw [if_neg e, Ch_other e]
theorem cut1 {x : Val} {xs : List Val} : cut (x :: xs) (some 1) none = xs := by
  rw [cut_from1]
  rfl
theorem wf_ok : ∀ (f : List Te) (d n : Nat) (fs : List Fi) (z : Int) (h : Heap), f.length < d → f.length ≤ n → fs.length < 900 → (∀ g ∈ fs, g.1 ≠ z) → f.length < 900 →
    ∃ e, m_with_filter_n d [T n fs, .int z, encF f] h = .ok (T n ((z, f) :: fs)) (h ++ e)
  | [], d + 1, n, fs, z, h, _, _, hl, hz, _ => by
    have w : wR (m_with_filter_ (m_with_filter_n d) [T n fs, .int z, encF []] h) (fun _ _ => False) fun x h' => x = T n ((z, []) :: fs) ∧ Ext h h' := by
      unfold m_with_filter_
      refine wRB rfl ?_
      rw [T_eq, T_eq, Brs_zero, nmL_zero]
      have l1 : 1000 ≤ lim := by decide
      have l2 : 2 ≤ lim := by decide
      have hn := len_nmL (fs := fs)
      have hi := len_ins (x := z) (l := nmL fs)
      have e1 : sortI (nmL fs ++ [z]) = ins z (nmL fs) := sortI_asc (asc_ins asc_nmL) (List.perm_append_comm.trans (ins_perm fun q => hz _ (mem_nmL.mp q) rfl).symm)
      have e2 := bSorted2_tup (nmL fs ++ [z]) (h := h)
      rw [e1] at e2
      have hg : ∀ (x y a b : Val), gT (gsCons (gV 3) (gsCons (gV 4) gsNil)) (.tup [x, y]) [some (.tup [x, y]), some a, some b, none, none, none, none, none, none, none] = some [some (.tup [x, y]), some a, some b, some x, some y, none, none, none, none, none] := fun _ _ _ _ => rfl
      have l3 : (nmL fs).length + 1 ≤ lim := by omega
      have l4 : (ins z (nmL fs)).length ≤ lim := by omega
      have e2' : bSorted2 [.tup ((nmL fs).map .int ++ [.int z])] h = .ok (.ref h.length) (h ++ [.lst ((ins z (nmL fs)).map .int)]) := by
        rw [← e2, List.map_append]
        rfl
      have ea : oAdd (.tup ((nmL fs).map .int)) (.tup [.int z]) h = .ok (.tup ((nmL fs).map .int ++ [.int z])) h := by simp [oAdd]; omega
      simp [hg, truth, encF, ea, e2', l3, l4, l2]
      exact ⟨by omega, _, rfl⟩
    obtain ⟨x, h', e, rfl, g, rfl⟩ := ex_of_wR w
    exact ⟨g, e⟩
  | t :: r, d + 1, n + 1, fs, z, h, hd, hn, hl, hz, hf => by
    obtain ⟨i, m, v⟩ := t
    obtain ⟨e5, q5⟩ := wf_ok r d n (sub fs (i, m) v) z h (by simpa using hd) (by simpa using hn) (Nat.lt_of_le_of_lt len_sub hl) (fun g hg => hz (g.1, ((i, m).1, (i, m).2, v) :: g.2) (sub_mem hg)) (by simp at hf; omega)
    have w : wR (m_with_filter_ (m_with_filter_n d) [T (n + 1) fs, .int z, encF ((i, m, v) :: r)] h) (fun _ _ => False) fun x h' => x = T (n + 1) ((z, (i, m, v) :: r) :: fs) ∧ Ext h h' := by
      unfold m_with_filter_
      refine wRB rfl ?_
      rw [T_eq, T_eq, nmL_cons, Brs_cons, Ch_cons]
      have l1 : 1000 ≤ lim := by decide
      have l2 : 2 ≤ lim := by decide
      have hk := len_keys (fs := fs)
      have hv := len_vals (fs := fs) (k := (i, m))
      have hg : ∀ (x y a b : Val), gT (gsCons (gV 3) (gsCons (gV 4) gsNil)) (.tup [x, y]) [some (.tup [x, y]), some a, some b, none, none, none, none, none, none, none] = some [some (.tup [x, y]), some a, some b, some x, some y, none, none, none, none, none] := fun _ _ _ _ => rfl
      have hg2 : ∀ (x0 x1 x2 x3 x4 : Val), gT (gsCons (gV 5) (gsCons (gV 6) (gsCons (gV 7) gsNil))) (.tup [.int i, .int m, .int v]) [some x0, some x1, some x2, some x3, some x4, none, none, none, none, none] = some [some x0, some x1, some x2, some x3, some x4, some (.int i), some (.int m), some (.int v), none, none] := fun _ _ _ _ _ => rfl
      have eB := branch_ok (keys fs) (Ch n fs) (i, m) (h := h)
      rw [children_eq] at eB
      have eC : m_child_of [.tup (Ch n fs (i, m)), .int v] h = .ok (if v ∈ vals fs (i, m) then T n (sub fs (i, m) v) else .non) h := child_ok (vals fs (i, m)) (fun v => T n (sub fs (i, m) v)) v
      obtain ⟨ts, et⟩ := T_tup n ((z, r) :: sub fs (i, m) v)
      obtain ⟨ts0, et0⟩ := T_tup n (sub fs (i, m) v)
      obtain ⟨e6, q6⟩ := wchild_ok (asc_vals (fs := fs) (k := (i, m))) (by omega) (fun v => T n (sub fs (i, m) v)) v ts (h := h ++ e5)
      have ne : ((ins v (vals fs (i, m))).map fun w => kidV w (if w = v then .tup ts else T n (sub fs (i, m) w))) ≠ [] := by
        intro z
        exact ins_ne_nil (List.map_eq_nil_iff.mp z)
      obtain ⟨e7, q7⟩ := wbranch_ok (asc_keys (fs := fs)) (by omega) (Ch n fs) (i, m) ne (h := h ++ e5 ++ e6)
      rw [et] at q5
      rw [et]
      have q6' : m_with_child [.tup (Ch n fs (i, m)), .int v, .tup ts] (h ++ e5) = _ := q6
      have q7' : m_with_branch [.tup (Brs (n + 1) fs), .int i, .int m, .tup ((ins v (vals fs (i, m))).map fun w => kidV w (if w = v then .tup ts else T n (sub fs (i, m) w)))] (h ++ e5 ++ e6) = _ := q7
      have eB' : m_branch_of [.tup (Brs (n + 1) fs), .int i, .int m] h = _ := eB
      have q5' : m_with_filter_n d [T n (sub fs (i, m) v), .int z, .tup (r.map encT)] h = .ok (.tup ts) (h ++ e5) := q5
      have ec : cut (encT (i, m, v) :: r.map encT) (some 1) none = r.map encT := cut1
      have l3 : r.length ≤ lim := by simp at hf; omega
      have fin : Ext h (h ++ e5 ++ e6 ++ e7) := ⟨_, by rw [List.append_assoc, List.append_assoc]⟩
      by_cases hm : v ∈ vals fs (i, m)
      · rw [if_pos hm, et0] at eC
        rw [et0] at q5'
        simp [hg, hg2, gV, truth, encF, encT, eB', eC, cut1, q5', l2, l3]
        rw [q6']
        simp only [wR_ok]
        rw [q7']
        exact ⟨rfl, fin⟩
      · rw [if_neg hm] at eC
        rw [sub_nil.mpr hm, T_nil] at q5'
        simp [hg, hg2, gV, truth, encF, encT, eB', eC, cut1, q5', l2, l3]
        rw [q6']
        simp only [wR_ok]
        rw [q7']
        exact ⟨rfl, fin⟩
    obtain ⟨x, h', e, rfl, g, rfl⟩ := ex_of_wR w
    exact ⟨g, e⟩
end Lw

set_option Elab.async false
set_option linter.all false
set_option autoImplicit false
set_option maxHeartbeats 4000000
namespace Lw
open PyM
section
variable {n i m v : Nat} {z : Int} {r : List Te} {fs : List Fi}
theorem kids_no (h : v ∉ vals fs (i, m)) : (drp v (vals ((z, (i, m, v) :: r) :: fs) (i, m))).map (fun w => kidV w (T n (sub ((z, (i, m, v) :: r) :: fs) (i, m) w))) = Ch n fs (i, m) := by
  have e : drp v (vals ((z, (i, m, v) :: r) :: fs) (i, m)) = vals fs (i, m) := by
    rw [vals_cons]
    exact ins_out asc_vals h
  rw [e]
  unfold Ch
  refine List.map_congr_left fun w hw => ?_
  have e2 : sub ((z, (i, m, v) :: r) :: fs) (i, m) w = sub fs (i, m) w := sub_other (.inr fun q : w = v => h (q ▸ hw))
  rw [e2]
theorem kids_yes (h : v ∈ vals fs (i, m)) : (ins v (vals ((z, (i, m, v) :: r) :: fs) (i, m))).map (fun w => kidV w (if w = v then T n (sub fs (i, m) v) else T n (sub ((z, (i, m, v) :: r) :: fs) (i, m) w))) = Ch n fs (i, m) := by
  have e : ins v (vals ((z, (i, m, v) :: r) :: fs) (i, m)) = vals fs (i, m) := by
    rw [vals_cons, ins_in asc_vals h, ins_in asc_vals h]
  rw [e]
  unfold Ch
  refine List.map_congr_left fun w hw => ?_
  by_cases q : w = v
  · rw [if_pos q, q]
  · rw [if_neg q, sub_other (.inr q)]
theorem brs_no (h : (i, m) ∉ keys fs) : (drp (i, m) (keys ((z, (i, m, v) :: r) :: fs))).map (fun k => brV k (Ch n ((z, (i, m, v) :: r) :: fs) k)) = Brs (n + 1) fs := by
  have e : drp (i, m) (keys ((z, (i, m, v) :: r) :: fs)) = keys fs := by
    rw [keys_cons]
    exact ins_out asc_keys h
  rw [e]
  refine List.map_congr_left fun w hw => ?_
  rw [Ch_other fun q => h (q ▸ hw)]
theorem brs_yes (h : (i, m) ∈ keys fs) : (ins (i, m) (keys ((z, (i, m, v) :: r) :: fs))).map (fun k => brV k (if k = (i, m) then Ch n fs (i, m) else Ch n ((z, (i, m, v) :: r) :: fs) k)) = Brs (n + 1) fs := by
  have e : ins (i, m) (keys ((z, (i, m, v) :: r) :: fs)) = keys fs := by
    rw [keys_cons, ins_in asc_keys h, ins_in asc_keys h]
  rw [e]
  refine List.map_congr_left fun w hw => ?_
  by_cases q : w = (i, m)
  · rw [if_pos q, q]
  · rw [if_neg q, Ch_other q]
end
theorem wo_ok : ∀ (f : List Te) (d n : Nat) (fs : List Fi) (z : Int) (h : Heap), f.length < d → f.length ≤ n → fs.length < 900 → (∀ g ∈ fs, g.1 ≠ z) → f.length < 900 → n ≤ 6 → (∀ g ∈ fs, g.2.length ≤ n) →
    ∃ e, m_without_filter_n d [T n ((z, f) :: fs), .int z, encF f] h = .ok (T n fs) (h ++ e)
  | [], d + 1, n, fs, z, h, _, _, hl, hz, _, _, _ => by
    have w : wR (m_without_filter_ (m_without_filter_n d) [T n ((z, []) :: fs), .int z, encF []] h) (fun _ _ => False) fun x h' => x = T n fs ∧ Ext h h' := by
      unfold m_without_filter_
      refine wRB rfl ?_
      rw [T_eq, T_eq, Brs_zero, nmL_zero]
      have l1 : 1000 ≤ lim := by decide
      have l2 : 2 ≤ lim := by decide
      have hn := len_nmL (fs := fs)
      have hi := len_ins (x := z) (l := nmL fs)
      have hg : ∀ (x y a b : Val), gT (gsCons (gV 3) (gsCons (gV 4) gsNil)) (.tup [x, y]) [some (.tup [x, y]), some a, some b, none, none, none, none, none, none, none, none] = some [some (.tup [x, y]), some a, some b, some x, some y, none, none, none, none, none, none] := fun _ _ _ _ => rfl
      have ef : (((ins z (nmL fs)).map Val.int).filter fun x => decide (x ≠ .int z)).map id = (nmL fs).map .int := by
        have e1 := ins_out (asc_nmL (fs := fs)) (x := z) fun q => hz _ (mem_nmL.mp q) rfl
        rw [List.map_id, List.filter_map]
        refine congrArg _ (Eq.trans (List.filter_congr fun w _ => ?_) e1)
        exact decide_eq_decide.mpr (show (Val.int w ≠ .int z) ↔ w ≠ z by simp)
      have elc : ∀ x0 x2 x4 : Option Val, mLc (iAlt (iLst (mV 3)) (iTup_ (mV 3))) (gV 10) (tB_ (mB (oEq true) (mV 10) (mV 1))) (mV 10) [10] [x0, some (.int z), x2, some (.tup ((ins z (nmL fs)).map .int)), x4, none, none, none, none, none, none] h = .ok (.ref h.length) (h ++ [.lst ((nmL fs).map .int)]) := fun x0 x2 x4 => by
        have := lcI_pure (tg := gV 10) (vs := [10]) (mt := tB_ (mB (oEq true) (mV 10) (mV 1))) (me := mV 10) (fun x => decide (x ≠ .int z)) id (src_tup (m := mV 3) (s := [x0, some (.int z), x2, some (.tup ((ins z (nmL fs)).map .int)), x4, none, none, none, none, none, none]) (h := h) rfl) (by show ((ins z (nmL fs)).map Val.int).length < lim; simp; omega) (fun _ => rfl) fun x hx acc => by
          obtain ⟨w, hw, rfl⟩ := List.mem_map.mp (show x ∈ (ins z (nmL fs)).map Val.int from hx)
          refine ⟨_, rfl, ?_, fun _ => rfl⟩
          refine eq_of_wR ?_
          by_cases q : w = z <;> simp [gV, wipeE, q]
        rw [this]
        show _ = Res.ok _ (h ++ [Obj.lst _])
        rw [← ef]
      have l3 : (nmL fs).length ≤ lim := by omega
      simp [-wR_mLc, hg, truth, encF, elc, l3, l2]
      exact ⟨_, rfl⟩
    obtain ⟨x, h', e, rfl, g, rfl⟩ := ex_of_wR w
    exact ⟨g, e⟩
  | t :: r, d + 1, n + 1, fs, z, h, hd, hn, hl, hz, hf, h6, hq => by
    obtain ⟨i, m, v⟩ := t
    obtain ⟨e5, q5⟩ := wo_ok r d n (sub fs (i, m) v) z h (by simpa using hd) (by simpa using hn) (Nat.lt_of_le_of_lt len_sub hl) (fun g hg => hz (g.1, ((i, m).1, (i, m).2, v) :: g.2) (sub_mem hg)) (by simp at hf; omega) (by omega) (sub_len1 hq)
    have w : wR (m_without_filter_ (m_without_filter_n d) [T (n + 1) ((z, (i, m, v) :: r) :: fs), .int z, encF ((i, m, v) :: r)] h) (fun _ _ => False) fun x h' => x = T (n + 1) fs ∧ Ext h h' := by
      unfold m_without_filter_
      refine wRB rfl ?_
      obtain ⟨F, hF⟩ : ∃ F, F = (z, (i, m, v) :: r) :: fs := ⟨_, rfl⟩
      rw [T_eq, T_eq, nmL_cons, ← hF]
      have l1 : 1000 ≤ lim := by decide
      have l2 : 2 ≤ lim := by decide
      have hFl : F.length < 999 := by rw [hF]; simp; omega
      have hk := len_keys (fs := F)
      have hv := len_vals (fs := F) (k := (i, m))
      have hg : ∀ (x y a b : Val), gT (gsCons (gV 3) (gsCons (gV 4) gsNil)) (.tup [x, y]) [some (.tup [x, y]), some a, some b, none, none, none, none, none, none, none, none] = some [some (.tup [x, y]), some a, some b, some x, some y, none, none, none, none, none, none] := fun _ _ _ _ => rfl
      have hg2 : ∀ (x0 x1 x2 x3 x4 : Val), gT (gsCons (gV 5) (gsCons (gV 6) (gsCons (gV 7) gsNil))) (.tup [.int i, .int m, .int v]) [some x0, some x1, some x2, some x3, some x4, none, none, none, none, none, none] = some [some x0, some x1, some x2, some x3, some x4, some (.int i), some (.int m), some (.int v), none, none, none] := fun _ _ _ _ _ => rfl
      have eB := branch_ok (keys F) (Ch n F) (i, m) (h := h)
      rw [children_eq] at eB
      have eB' : m_branch_of [.tup (Brs (n + 1) F), .int i, .int m] h = _ := eB
      have hv1 : v ∈ vals F (i, m) := by rw [hF, vals_cons]; exact mem_ins.mpr (.inl rfl)
      have eC : m_child_of [.tup (Ch n F (i, m)), .int v] h = .ok (T n (sub F (i, m) v)) h := by
        have := child_ok (vals F (i, m)) (fun v => T n (sub F (i, m) v)) v (h := h)
        rw [if_pos hv1] at this
        exact this
      have es : sub F (i, m) v = (z, r) :: sub fs (i, m) v := by rw [hF, sub_cons]
      obtain ⟨ts, et⟩ := T_tup n (sub fs (i, m) v)
      obtain ⟨ts0, et0⟩ := T_tup n (sub F (i, m) v)
      rw [← es] at q5
      have q5' : m_without_filter_n d [T n (sub F (i, m) v), .int z, .tup (r.map encT)] h = .ok (T n (sub fs (i, m) v)) (h ++ e5) := q5
      rw [et0] at q5' eC
      rw [et] at q5'
      have l3 : r.length ≤ lim := by simp at hf; omega
      have kids : ∃ e6, m_with_child [.tup (Ch n F (i, m)), .int v, if T n (sub fs (i, m) v) = c_EMPTY then .non else .tup ts] (h ++ e5) = .ok (.tup (Ch n fs (i, m))) (h ++ e5 ++ e6) := by
        by_cases q : v ∈ vals fs (i, m)
        · have ne : T n (sub fs (i, m) v) ≠ c_EMPTY := fun e => sub_nil.mp (T_empty (sub_len1 hq) e) q
          rw [if_neg ne]
          obtain ⟨e6, q6⟩ := wchild_ok (asc_vals (fs := F) (k := (i, m))) (by omega) (fun v => T n (sub F (i, m) v)) v ts (h := h ++ e5)
          refine ⟨e6, ?_⟩
          have := kids_yes (n := n) (z := z) (r := r) q
          rw [← hF, et] at this
          rw [this] at q6
          exact q6
        · have e : T n (sub fs (i, m) v) = c_EMPTY := by rw [sub_nil.mpr q, T_nil]
          rw [if_pos e]
          obtain ⟨e6, q6⟩ := wchild_no (asc_vals (fs := F) (k := (i, m))) (by omega) (fun v => T n (sub F (i, m) v)) v (h := h ++ e5)
          refine ⟨e6, ?_⟩
          have := kids_no (n := n) (z := z) (r := r) q
          rw [← hF] at this
          rw [this] at q6
          exact q6
      obtain ⟨e6, q6⟩ := kids
      have brs : ∃ e7, m_with_branch [.tup (Brs (n + 1) F), .int i, .int m, .tup (Ch n fs (i, m))] (h ++ e5 ++ e6) = .ok (.tup (Brs (n + 1) fs)) (h ++ e5 ++ e6 ++ e7) := by
        by_cases q : (i, m) ∈ keys fs
        · obtain ⟨e7, q7⟩ := wbranch_ok (asc_keys (fs := F)) (by omega) (Ch n F) (i, m) (ts := Ch n fs (i, m)) (fun e => Ch_nil.mp e q) (h := h ++ e5 ++ e6)
          have := brs_yes (n := n) (z := z) (v := v) (r := r) q
          rw [← hF] at this
          rw [this] at q7
          exact ⟨e7, q7⟩
        · obtain ⟨e7, q7⟩ := wbranch_no (asc_keys (fs := F)) (by omega) (Ch n F) (i, m) (h := h ++ e5 ++ e6)
          have := brs_no (n := n) (z := z) (v := v) (r := r) q
          rw [← hF] at this
          rw [this] at q7
          rw [Ch_nil.mpr q]
          exact ⟨e7, q7⟩
      obtain ⟨e7, q7⟩ := brs
      have fin : Ext h (h ++ e5 ++ e6 ++ e7) := ⟨_, by rw [List.append_assoc, List.append_assoc]⟩
      have eq := oEq_pl (neg := false) (h := h ++ e5) (T_pl60 (n := n) (by omega) (sub fs (i, m) v)) (show pl 60 c_EMPTY = true from rfl)
      rw [et] at eq q6
      by_cases q : Val.tup ts = c_EMPTY
      · rw [if_pos q] at q6
        have ee := oEq_pl (neg := false) (h := h ++ e5) (show pl 60 c_EMPTY = true from rfl) (show pl 60 c_EMPTY = true from rfl)
        simp [hg, hg2, gV, truth, encF, encT, eB', eC, cut1, q5', l2, l3, eq, q, ee]
        rw [q6]
        simp only [wR_ok]
        rw [q7]
        exact ⟨rfl, fin⟩
      · rw [if_neg q] at q6
        simp [hg, hg2, gV, truth, encF, encT, eB', eC, cut1, q5', l2, l3, eq, q]
        rw [q6]
        simp only [wR_ok]
        rw [q7]
        exact ⟨rfl, fin⟩
    obtain ⟨x, h', e, rfl, g, rfl⟩ := ex_of_wR w
    exact ⟨g, e⟩
end Lw

set_option Elab.async false
set_option linter.all false
set_option autoImplicit false
set_option maxHeartbeats 4000000
namespace Lw
open PyM
def pkV (p : List Nat) : Val := .tup (p.map fun x : Nat => Val.int (x : Int))
def pAt (p : List Nat) (i : Nat) : Nat := p.getD i 0
def tsB (p : List Nat) (t : Te) : Bool := decide (pAt p t.1 &&& t.2.1 = t.2.2)
def mtB (p : List Nat) (F : List Te) : Bool := F.all (tsB p)
def ND (fs : List Fi) : Prop := (fs.map (·.1)).Nodup
theorem nd_fun {fs : List Fi} (h : ND fs) {z : Int} {F G : List Te} (h1 : (z, F) ∈ fs) (h2 : (z, G) ∈ fs) : F = G := by
  unfold ND at h
  induction fs with
  | nil => cases h1
  | cons f fs ih =>
    simp only [List.map_cons, List.nodup_cons] at h
    rcases List.mem_cons.mp h1 with e1 | h1 <;> rcases List.mem_cons.mp h2 with e2 | h2
    · exact congrArg Prod.snd (e1.trans e2.symm)
    · exact absurd (List.mem_map.mpr ⟨_, h2, by rw [← e1]⟩) h.1
    · exact absurd (List.mem_map.mpr ⟨_, h1, by rw [← e2]⟩) h.1
    · exact ih h.2 h1 h2
theorem nd_sub {fs : List Fi} (h : ND fs) (k : Nat × Nat) (v : Nat) : ND (sub fs k v) := by
  unfold ND sub at *
  induction fs with
  | nil => exact List.nodup_nil
  | cons f fs ih =>
    simp only [List.map_cons, List.nodup_cons] at h
    cases e : sbF k v f with
    | none => rw [List.filterMap_cons_none e]; exact ih h.2
    | some g =>
      rw [List.filterMap_cons_some e]
      simp only [List.map_cons, List.nodup_cons]
      refine ⟨fun q => h.1 ?_, ih h.2⟩
      obtain ⟨g', hg', e'⟩ := List.mem_map.mp q
      have hm : (g'.1, (k.1, k.2, v) :: g'.2) ∈ fs := sub_mem (k := k) (v := v) (f := g') (by unfold sub; exact hg')
      have e3 : g.1 = f.1 := by
        unfold sbF at e
        split at e
        · cases e
        · split at e
          · cases e; rfl
          · cases e
      exact List.mem_map.mpr ⟨_, hm, by rw [← e3, ← e']⟩
structure NF (fs : List Fi) (p : List Nat) (L : List Int) : Prop where
  nd : L.Nodup
  mem : ∀ z, z ∈ L ↔ ∃ F, (z, F) ∈ fs ∧ mtB p F = true
structure NFp (fs : List Fi) (p : List Nat) (done : List (Nat × Nat)) (L : List Int) : Prop where
  nd : L.Nodup
  mem : ∀ z, z ∈ L ↔ (z, []) ∈ fs ∨ ∃ k ∈ done, ∃ v R, (z, (k.1, k.2, v) :: R) ∈ fs ∧ mtB p ((k.1, k.2, v) :: R) = true
theorem NFp.sub {fs : List Fi} {p : List Nat} {done : List (Nat × Nat)} {L : List Int} (x : NFp fs p done L) : L.length ≤ fs.length := by
  have : L ⊆ fs.map (·.1) := fun z hz => by
    rcases (x.mem z).mp hz with h | ⟨k, _, v, R, h, _⟩ <;> exact List.mem_map.mpr ⟨_, h, rfl⟩
  have := List.Nodup.length_le_of_subset x.nd this
  simpa using this
theorem NF.sub {fs : List Fi} {p : List Nat} {L : List Int} (x : NF fs p L) : L.length ≤ fs.length := by
  have : L ⊆ fs.map (·.1) := fun z hz => by
    obtain ⟨F, h, _⟩ := (x.mem z).mp hz
    exact List.mem_map.mpr ⟨_, h, rfl⟩
  have := List.Nodup.length_le_of_subset x.nd this
  simpa using this
theorem NFp.start {fs : List Fi} {p : List Nat} : NFp fs p [] (nmL fs) := ⟨asc_nmL.nd, fun z => by rw [mem_nmL]; simp⟩
theorem NFp.fin {fs : List Fi} {p : List Nat} {L : List Int} (x : NFp fs p (keys fs) L) : NF fs p L := ⟨x.nd, fun z => by
  rw [x.mem]
  constructor
  · rintro (h | ⟨k, _, v, R, h, e⟩)
    · exact ⟨_, h, rfl⟩
    · exact ⟨_, h, e⟩
  · rintro ⟨F, h, e⟩
    cases F with
    | nil => exact .inl h
    | cons t R =>
      obtain ⟨i, m, v⟩ := t
      exact .inr ⟨(i, m), mem_keys.mpr ⟨z, v, R, h⟩, v, R, h, e⟩⟩
/-- a branch whose value is not there -/
theorem NFp.skip {fs : List Fi} {p : List Nat} {done : List (Nat × Nat)} {L : List Int} (x : NFp fs p done L) {k : Nat × Nat} (h : (pAt p k.1 &&& k.2) ∉ vals fs k) : NFp fs p (done ++ [k]) L := ⟨x.nd, fun z => by
  rw [x.mem]
  refine or_congr Iff.rfl ⟨fun ⟨k', h1, r⟩ => ⟨k', List.mem_append_left _ h1, r⟩, ?_⟩
  rintro ⟨k', h1, v, R, h2, e⟩
  rcases List.mem_append.mp h1 with h1 | h1
  · exact ⟨k', h1, v, R, h2, e⟩
  · simp at h1
    subst h1
    exfalso
    unfold mtB at e
    simp only [List.all_cons, Bool.and_eq_true] at e
    have e1 : pAt p k'.1 &&& k'.2 = v := of_decide_eq_true e.1
    rw [e1] at h
    exact h (mem_vals.mpr ⟨z, R, h2⟩)⟩
theorem NFp.step {fs : List Fi} {p : List Nat} {done : List (Nat × Nat)} {L L2 : List Int} (x : NFp fs p done L) (hn : ND fs) {k : Nat × Nat} (hk : k ∉ done) (y : NF (Lw.sub fs k (pAt p k.1 &&& k.2)) p L2) : NFp fs p (done ++ [k]) (L ++ L2) := by
  have m2 : ∀ z, z ∈ L2 ↔ ∃ R, (z, (k.1, k.2, pAt p k.1 &&& k.2) :: R) ∈ fs ∧ mtB p R = true := fun z => by
    rw [y.mem]
    exact ⟨fun ⟨R, h, e⟩ => ⟨R, sub_mem h, e⟩, fun ⟨R, h, e⟩ => ⟨R, mem_sub h, e⟩⟩
  refine ⟨?_, fun z => ?_⟩
  · rw [List.nodup_append]
    refine ⟨x.nd, y.nd, fun a ha b hb e => ?_⟩
    subst e
    obtain ⟨R, h, _⟩ := (m2 a).mp hb
    rcases (x.mem a).mp ha with h' | ⟨k', hk', v', R', h', _⟩
    · have := nd_fun hn h h'
      cases this
    · have := nd_fun hn h h'
      simp at this
      exact hk (by rw [show k = k' from Prod.ext this.1.1 this.1.2.1]; exact hk')
  · rw [List.mem_append, x.mem, m2]
    constructor
    · rintro ((h | ⟨k', h1, r⟩) | ⟨R, h, e⟩)
      · exact .inl h
      · exact .inr ⟨k', List.mem_append_left _ h1, r⟩
      · exact .inr ⟨k, by simp, _, R, h, by unfold mtB at e ⊢; simp only [List.all_cons, Bool.and_eq_true]; exact ⟨decide_eq_true rfl, e⟩⟩
    · rintro (h | ⟨k', h1, v, R, h, e⟩)
      · exact .inl (.inl h)
      · rcases List.mem_append.mp h1 with h1 | h1
        · exact .inl (.inr ⟨k', h1, v, R, h, e⟩)
        · simp at h1
          subst h1
          unfold mtB at e
          simp only [List.all_cons, Bool.and_eq_true] at e
          have e1 : pAt p k'.1 &&& k'.2 = v := of_decide_eq_true e.1
          exact .inr ⟨R, by rw [e1]; exact h, e.2⟩
def nfB (self_ : List Val → Heap → Res Val) : En → Heap → RS := (sSeq (sAsg (gV 8) (mCall m_child_of [] (mCons (mV 7) (mCons (mB oBa (mB oIx (mV 1) (mV 5)) (mV 6)) (mNil)))))
    (sIf (tB_ (mU (oIsN true) (mV 8))) (sDrop (mBM bExtend (mV 4) (mCons (mCall self_ [] (mCons (mV 8) (mCons (mV 1) (mNil)))) (mNil)))) (sNx)))
theorem nf_loop {D : K4} {n : Nat} {fs : List Fi} {p : List Nat} {self_ : List Val → Heap → Res Val} {h0 : Heap} (hn : ND fs) (hl : fs.length < 900) (hp : p.length = 6) (h6 : ∀ k ∈ keys fs, k.1 < 6) {x0 x2 x3 : Val} {chk : Heap → Bool} (hc : ∀ h, chk h = true)
    (ih : ∀ k v h, ∃ L q h', self_ [T n (sub fs k v), pkV p] h = .ok (.ref q) h' ∧ Ext h h' ∧ h.length ≤ q ∧ h'[q]? = some (.lst (L.map .int)) ∧ NF (sub fs k v) p L)
    (fin : ∀ L s' h', Ext h0 h' → h'[h0.length]? = some (.lst (L.map .int)) → NF fs p L → (∃ a b c d, s' = [some x0, some (pkV p), some x2, some x3, some (.ref h0.length), a, b, c, d]) → D.nx s' h') :
    ∀ (ks done : List (Nat × Nat)) (L : List Int) (h : Heap) (a b c d : Option Val), done ++ ks = keys fs → Ext h0 h → h[h0.length]? = some (.lst (L.map .int)) → NFp fs p done L →
      wS (forM_ chk (gT (gsCons (gV 5) (gsCons (gV 6) (gsCons (gV 7) (gsNil))))) (nfB self_) (ks.map fun k => brV k (Ch n fs k)) [some x0, some (pkV p), some x2, some x3, some (.ref h0.length), a, b, c, d] h) D
  | [], done, L, h, a, b, c, d, e, ex, el, x => by
    rw [List.map_nil, wS_forM_nil]
    rw [List.append_nil] at e
    exact ⟨hc _, fin L _ _ ex el (by rw [e] at x; exact x.fin) ⟨_, _, _, _, rfl⟩⟩
  | k :: ks, done, L, h, a, b, c, d, e, ex, el, x => by
    rw [List.map_cons, wS_forM_cons]
    refine ⟨hc _, ?_⟩
    have hg : gT (gsCons (gV 5) (gsCons (gV 6) (gsCons (gV 7) gsNil))) (brV k (Ch n fs k)) [some x0, some (pkV p), some x2, some x3, some (.ref h0.length), a, b, c, d] = some [some x0, some (pkV p), some x2, some x3, some (.ref h0.length), some (.int k.1), some (.int k.2), some (.tup (Ch n fs k)), d] := rfl
    rw [hg]
    have kin : k ∈ keys fs := by rw [← e]; simp
    have k6 := h6 k kin
    have l1 : 1000 ≤ lim := by decide
    have ei : oIx (pkV p) (.int k.1) h = .ok (.int ((pAt p k.1 : Nat) : Int)) h := by
      unfold pkV
      have : (p.map fun x : Nat => Val.int (x : Int))[k.1]? = some (.int ((pAt p k.1 : Nat) : Int)) := by
        rw [List.getElem?_map, List.getElem?_eq_getElem (by omega)]
        simp [pAt, List.getElem?_eq_getElem (show k.1 < p.length by omega)]
      simp [oIx, atI_cast, this]
    have eC : m_child_of [.tup (Ch n fs k), .int ((pAt p k.1 &&& k.2 : Nat) : Int)] h = .ok (if (pAt p k.1 &&& k.2) ∈ vals fs k then T n (sub fs k (pAt p k.1 &&& k.2)) else .non) h := child_ok (vals fs k) (fun v => T n (sub fs k v)) _
    have hkd : k ∉ done := fun q => by
      have nd := (asc_keys (fs := fs)).nd
      rw [← e, List.nodup_append] at nd
      exact nd.2.2 k q k List.mem_cons_self rfl
    have e2 : done ++ [k] ++ ks = keys fs := by rw [← e]; simp
    by_cases hv : (pAt p k.1 &&& k.2) ∈ vals fs k
    · rw [if_pos hv] at eC
      obtain ⟨L2, q, h', e5, x5, lq, a5, nf⟩ := ih k (pAt p k.1 &&& k.2) h
      obtain ⟨ts, et⟩ := T_tup n (sub fs k (pAt p k.1 &&& k.2))
      rw [et] at eC e5
      have hlt := at_lt el
      have x' := x.step hn hkd nf
      have s1 := x'.sub
      rw [List.length_append] at s1
      have el' := x5.at el
      have eB : bExtend (.ref h0.length) [.ref q] h' = .ok .non (h'.set h0.length (.lst ((L ++ L2).map .int))) := by
        simp [bExtend, el', a5]
        omega
      have eO : (seqOf (.ref h0.length) h).isSome = true := by simp [seqOf_at el]
      have hb : nfB self_ [some x0, some (pkV p), some x2, some x3, some (.ref h0.length), some (.int k.1), some (.int k.2), some (.tup (Ch n fs k)), d] h = .nx [some x0, some (pkV p), some x2, some x3, some (.ref h0.length), some (.int k.1), some (.int k.2), some (.tup (Ch n fs k)), some (.tup ts)] (h'.set h0.length (.lst ((L ++ L2).map .int))) := by
        refine eq_nx ?_
        unfold nfB
        simp [gV, ei, band, eC, e5, eB, eO]
      dsimp only
      rw [hb]
      exact nf_loop hn hl hp h6 hc ih fin ks (done ++ [k]) (L ++ L2) _ _ _ _ _ e2 ((ex.trans x5).set (Nat.le_refl _) _) (at_set el') x'
    · rw [if_neg hv] at eC
      have hb : nfB self_ [some x0, some (pkV p), some x2, some x3, some (.ref h0.length), some (.int k.1), some (.int k.2), some (.tup (Ch n fs k)), d] h = .nx [some x0, some (pkV p), some x2, some x3, some (.ref h0.length), some (.int k.1), some (.int k.2), some (.tup (Ch n fs k)), some .non] h := by
        refine eq_nx ?_
        unfold nfB
        simp [gV, ei, band, eC]
      dsimp only
      rw [hb]
      exact nf_loop hn hl hp h6 hc ih fin ks (done ++ [k]) L h _ _ _ _ e2 ex el (x.skip hv)
theorem nfn_ok : ∀ (n d : Nat) (fs : List Fi) (p : List Nat) (h : Heap), n < d → ND fs → fs.length < 900 → p.length = 6 → (∀ f ∈ fs, f.2.length ≤ n) → (∀ f ∈ fs, ∀ t ∈ f.2, t.1 < 6) →
    ∃ L q h', m_names_found_n d [T n fs, pkV p] h = .ok (.ref q) h' ∧ Ext h h' ∧ h.length ≤ q ∧ h'[q]? = some (.lst (L.map .int)) ∧ NF fs p L := by
  intro n
  induction n with
  | zero =>
    intro d fs p h hd hn hl hp hf ht
    obtain ⟨d, rfl⟩ : ∃ d', d = d' + 1 := ⟨d - 1, by omega⟩
    have kn : keys fs = [] := List.eq_nil_iff_forall_not_mem.mpr fun k hk => by
      obtain ⟨y, v, R, hm⟩ := mem_keys.mp hk
      have := hf _ hm
      simp at this
    have w : wR (m_names_found_ (m_names_found_n d) [T 0 fs, pkV p] h) (fun _ _ => False) fun x h' => ∃ L q, x = .ref q ∧ Ext h h' ∧ h.length ≤ q ∧ h'[q]? = some (.lst (L.map .int)) ∧ NF fs p L := by
      unfold m_names_found_
      refine wRB rfl ?_
      rw [T_eq]
      have hg : ∀ (x y a : Val), gT (gsCons (gV 2) (gsCons (gV 3) gsNil)) (.tup [x, y]) [some (.tup [x, y]), some a, none, none, none, none, none, none, none] = some [some (.tup [x, y]), some a, some x, some y, none, none, none, none, none] := fun _ _ _ => rfl
      have l1 : 1000 ≤ lim := by decide
      have l2 := len_nmL (fs := fs)
      have l3 : (nmL fs).length ≤ lim := by omega
      simp [hg, gV, l3, Brs]
      exact ⟨_, _, rfl, ⟨_, rfl⟩, Nat.le_refl _, at_len, NFp.fin (by rw [kn]; exact NFp.start)⟩
    obtain ⟨x, h', e, L, q, rfl, r⟩ := ex_of_wR w
    exact ⟨L, q, h', e, r⟩
  | succ n ihn =>
    intro d fs p h hd hn hl hp hf ht
    obtain ⟨d, rfl⟩ : ∃ d', d = d' + 1 := ⟨d - 1, by omega⟩
    have w : wR (m_names_found_ (m_names_found_n d) [T (n + 1) fs, pkV p] h) (fun _ _ => False) fun x h' => ∃ L q, x = .ref q ∧ Ext h h' ∧ h.length ≤ q ∧ h'[q]? = some (.lst (L.map .int)) ∧ NF fs p L := by
      unfold m_names_found_
      refine wRB rfl ?_
      rw [T_eq]
      have hg : ∀ (x y a : Val), gT (gsCons (gV 2) (gsCons (gV 3) gsNil)) (.tup [x, y]) [some (.tup [x, y]), some a, none, none, none, none, none, none, none] = some [some (.tup [x, y]), some a, some x, some y, none, none, none, none, none] := fun _ _ _ => rfl
      have l1 : 1000 ≤ lim := by decide
      have l2 := len_nmL (fs := fs)
      have l3 : (nmL fs).length ≤ lim := by omega
      simp [hg, gV, l3, Brs]
      refine nf_loop (n := n) hn hl hp (fun k hk => ?_) (fun _ => rfl) (fun k v h => ?_) (fun L s' h' x1 x2 x3 x4 => ?_) (keys fs) [] (nmL fs) _ _ _ _ _ rfl ⟨_, rfl⟩ at_len NFp.start
      · obtain ⟨y, v, R, hm⟩ := mem_keys.mp hk
        exact ht _ hm _ List.mem_cons_self
      · exact ihn d (sub fs k v) p h (by omega) (nd_sub hn k v) (Nat.lt_of_le_of_lt len_sub hl) hp (sub_len1 hf) fun f hf' t ht' => ht _ (sub_mem hf') t (List.mem_cons_of_mem _ ht')
      · obtain ⟨a, b, c, d, rfl⟩ := x4
        simp
        exact ⟨x1, L, x2, x3⟩
    obtain ⟨x, h', e, L, q, rfl, r⟩ := ex_of_wR w
    exact ⟨L, q, h', e, r⟩
/-- found: the names, ascending -/
theorem found_ok {n : Nat} {fs : List Fi} {p : List Nat} {h : Heap} (h8 : n < 8) (hn : ND fs) (hl : fs.length < 900) (hp : p.length = 6) (hf : ∀ f ∈ fs, f.2.length ≤ n) (ht : ∀ f ∈ fs, ∀ t ∈ f.2, t.1 < 6) :
    ∃ L q h', m_found [T n fs, pkV p] h = .ok (.ref q) h' ∧ Ext h h' ∧ h.length ≤ q ∧ h'[q]? = some (.lst (L.map .int)) ∧ Asc L ∧ ∀ z, z ∈ L ↔ ∃ F, (z, F) ∈ fs ∧ mtB p F = true := by
  obtain ⟨L, q, h1, e, ex, lq, el, nf⟩ := nfn_ok n 8 fs p h h8 hn hl hp hf ht
  have e' : m_names_found [T n fs, pkV p] h = .ok (.ref q) h1 := e
  have eb : bSorted2 [.ref q] h1 = .ok (.ref h1.length) (h1 ++ [.lst ((sortI L).map .int)]) := by
    unfold bSorted2
    simp only [el, optAll_ints]
  have w : m_found [T n fs, pkV p] h = .ok (.ref h1.length) (h1 ++ [.lst ((sortI L).map .int)]) := by
    refine eq_of_wR ?_
    unfold m_found
    refine wRB rfl ?_
    simp [e', eb]
  have as : sortI L = mkS L := by
    have p2 : L.Perm (mkS L) := (List.perm_ext_iff_of_nodup nf.nd (asc_mkS L).nd).mpr fun a => mem_mkS.symm
    exact sortI_asc (asc_mkS L) p2
  have hh := ex.le
  refine ⟨sortI L, _, _, w, ex.app _, hh, at_len, by rw [as]; exact asc_mkS L, fun z => ?_⟩
  rw [as, mem_mkS]
  exact nf.mem z
end Lw

set_option Elab.async false
set_option linter.all false
set_option autoImplicit false
set_option maxHeartbeats 4000000
namespace Lw
open PyM
theorem nx_eq : m__law_next = m_next := rfl
def GT (F : List Te) : Prop := F.length ≤ 6 ∧ ∀ t ∈ F, t.1 < 6
theorem holds_ok {t : Te} {p : List Nat} {h : Heap} (hp : p.length = 6) (ht : t.1 < 6) : m_holds [encT t, pkV p] h = .ok (.bl (tsB p t)) h := by
  obtain ⟨i, m, v⟩ := t
  simp only at ht
  refine eq_of_wR ?_
  unfold m_holds
  refine wRB rfl ?_
  have hg : ∀ y : Val, gT (gsCons (gV 2) (gsCons (gV 3) (gsCons (gV 4) gsNil))) (encT (i, m, v)) [some (encT (i, m, v)), some y, none, none, none] = some [some (encT (i, m, v)), some y, some (.int i), some (.int m), some (.int v)] := fun _ => rfl
  have this : (p.map fun x : Nat => Val.int (x : Int))[i]? = some (.int ((pAt p i : Nat) : Int)) := by
    rw [List.getElem?_map, List.getElem?_eq_getElem (by omega)]
    simp [pAt, List.getElem?_eq_getElem (show i < p.length by omega)]
  have e1 : (((pAt p i &&& m : Nat) : Int) == (v : Int)) = tsB p (i, m, v) := by
    unfold tsB
    simp only
    by_cases q : pAt p i &&& m = v
    · subst q
      simp
    · have q2 : ¬ (((pAt p i &&& m : Nat) : Int) = v) := fun e => q (Int.ofNat.inj e)
      rw [decide_eq_false q]
      exact beq_false_of_ne q2
  simp [hg, pkV, atI_cast, this, band]
  exact e1
theorem meets_ok {F : List Te} {p : List Nat} {h : Heap} (hp : p.length = 6) (hF : GT F) : ∃ e, m_meets [encF F, pkV p] h = .ok (.bl (mtB p F)) (h ++ e) := by
  have l1 : 6 < lim := by decide
  have e1 : mLc (iAlt (iLst (mV 0)) (iTup_ (mV 0))) (gV 2) (tTrue) (mCall m_holds [] (mCons (mV 2) (mCons (mV 1) (mNil)))) [2] [some (encF F), some (pkV p), none] h = .ok (.ref h.length) (h ++ [.lst (F.map fun t => .bl (tsB p t))]) := by
    have := lc_all (tg := gV 2) (vs := [2]) (me := mCall m_holds [] (mCons (mV 2) (mCons (mV 1) (mNil)))) (fun x => match m_holds [x, pkV p] [] with | .ok v _ => v | _ => .non) (src_tup (m := mV 0) (s := [some (encF F), some (pkV p), none]) (h := h) (xs := F.map encT) rfl) (by show (F.map encT).length < lim; have := hF.1; simp; omega) (fun _ => rfl) fun x hx acc => by
      obtain ⟨t, ht, rfl⟩ := List.mem_map.mp (show x ∈ F.map encT from hx)
      refine ⟨_, rfl, ?_⟩
      rw [holds_ok (h := []) hp (hF.2 t ht)]
      refine eq_of_wR ?_
      simp [gV, wipeE, holds_ok (h := h ++ [Obj.lst acc]) hp (hF.2 t ht)]
    rw [this, List.map_map]
    congr 4
    refine List.map_congr_left fun t ht => ?_
    show (match m_holds [encT t, pkV p] [] with | .ok v _ => v | _ => .non) = _
    rw [holds_ok (h := []) hp (hF.2 t ht)]
  refine ⟨[Obj.lst (F.map fun t => .bl (tsB p t))], eq_of_wR ?_⟩
  unfold m_meets
  refine wRB rfl ?_
  have e2 : seqOf (.ref h.length) (h ++ [Obj.lst (F.map fun t => .bl (tsB p t))]) = some (F.map fun t => .bl (tsB p t)) := seqOf_at at_len
  have e3 := optAll_bl (tsB p) F
  simp [-wR_mLc, e1, e2, e3, mtB]
abbrev Test := Te
def goodT (t : Test) : Prop := t.1 < 6 ∧ 0 < t.2.1 ∧ t.2.1 < 2 ^ 32 ∧ t.2.2 &&& t.2.1 = t.2.2
def GoodF (F : List Test) : Prop := (∀ t ∈ F, goodT t) ∧ F.Pairwise (fun a b => a.1 < b.1)
theorem isw_ok {n : Nat} {h : Heap} : m_is_word [.int n] h = .ok (.bl (decide (n < 2 ^ 32))) h := by
  refine eq_of_wR ?_
  unfold m_is_word
  refine wRB rfl ?_
  have : m_is_number [.int n] h = .ok (.bl true) h := rfl
  simp [this]
  omega
def tB (t : Test) : Bool := decide (t.1 < 6) && (decide (t.2.1 < 2 ^ 32) && (decide (t.2.2 < 2 ^ 32) && (decide (0 < t.2.1) && decide (t.2.2 &&& t.2.1 = t.2.2))))
theorem good_v {t : Test} (g : goodT t) : t.2.2 < 2 ^ 32 := by
  have := @Nat.and_le_right t.2.2 t.2.1
  have := g.2.2.1
  rw [g.2.2.2] at *
  omega
theorem tB_good {t : Test} (g : goodT t) : tB t = true := by
  have := good_v g
  obtain ⟨a, b, c, d⟩ := g
  simp [tB, a, b, c, d, this]
theorem ist_ok {t : Test} {h : Heap} : m_is_test [encT t] h = .ok (.bl (tB t)) h := by
  obtain ⟨i, m, v⟩ := t
  refine eq_of_wR ?_
  unfold m_is_test
  refine wRB rfl ?_
  have n1 : ∀ k : Int, m_is_number [.int k] h = .ok (.bl true) h := fun _ => rfl
  by_cases hi : i < 6
  · have hi' : (i : Int) < 6 := by omega
    by_cases hm : m < 4294967296
    · by_cases hv : v < 4294967296
      · simp [encT, isTy, tyOf, gV, gT, gsCons, gsNil, n1, isw_ok, hi, hi', truth, hm, hv, tB, band]
        have h6 : ¬ (6 : Int) ≤ i := by omega
        have e : ((↑(v &&& m) : Int) == ↑v) = decide (v &&& m = v) := by
          rw [Bool.eq_iff_iff]; simp; omega
        by_cases h0 : 0 < m
        · simp [h0, h6, e]
        · simp [h0, h6]
      · simp [encT, isTy, tyOf, gV, gT, gsCons, gsNil, n1, isw_ok, hi, hi', truth, hm, hv, tB, band]
    · simp [encT, isTy, tyOf, gV, gT, gsCons, gsNil, n1, isw_ok, hi, hi', truth, hm, tB, band]
  · have hi' : ¬ (i : Int) < 6 := by omega
    simp [encT, isTy, tyOf, gV, gT, gsCons, gsNil, n1, isw_ok, hi, hi', truth, tB, band]
theorem isf_bad {rows : List Val} {h : Heap} (b : Val → Bool) (hl : rows.length < lim) (ht : ∀ x ∈ rows, ∀ h, m_is_test [x] h = .ok (.bl (b x)) h) (hb : ∃ x ∈ rows, b x = false) :
    ∃ h', m_is_filter [.tup rows] h = .ok (.bl false) h' ∧ Ext h h' := by
  have w : wR (m_is_filter [.tup rows] h) (fun _ _ => False) fun x h' => x = .bl false ∧ Ext h h' := by
    unfold m_is_filter
    refine wRB rfl ?_
    simp [isTy, tyOf, truth]
    refine wR_lcXm (fun x => .bl (b x)) hl (fun _ _ => rfl) (fun x h' hx ex => ⟨_, rfl, ?_⟩) (fun h' ex el => ?_)
    · simp [wipeE, ht x hx]
      exact Ext.refl _
    · have : (rows.map b).all id = false := by
        obtain ⟨x, hx, e⟩ := hb
        rw [List.all_eq_false]
        exact ⟨b x, List.mem_map_of_mem hx, by simp [e]⟩
      simp only [seqOf_at el, optAll_bl]
      simp [this, ex]
      intro hall
      obtain ⟨x, hx, e⟩ := hb
      rw [hall x hx] at e
      cases e
  obtain ⟨x, h', e, rfl, q⟩ := ex_of_wR w
  exact ⟨h', e, q⟩
def idx (F : List Test) (k : Nat) : Nat := ((F.map (·.1))[k]?).getD 0
theorem rangeV0 (n : Nat) : rangeV 0 n = (List.range n).map fun (i : Nat) => Val.int (i : Int) := by simp [rangeV]
theorem isf_good {F : List Test} {h : Heap} (hl : F.length < lim) (ht : ∀ t ∈ F, goodT t) :
    ∃ h', m_is_filter [encF F] h = .ok (.bl ((List.range (F.length - 1)).all fun k => decide (idx F k < idx F (k + 1)))) h' ∧ Ext h h' := by
  have w : wR (m_is_filter [encF F] h) (fun _ _ => False) fun x h' => x = .bl ((List.range (F.length - 1)).all fun k => decide (idx F k < idx F (k + 1))) ∧ Ext h h' := by
    unfold m_is_filter encF
    refine wRB rfl ?_
    simp [isTy, tyOf, truth]
    refine wR_lcXm (fun x => .bl true) (by simpa using hl) (fun _ _ => rfl) (fun x h' hx ex => ⟨_, rfl, ?_⟩) (fun h1 ex el => ?_)
    · obtain ⟨t, ht', rfl⟩ := List.mem_map.mp hx
      simp [wipeE, ist_ok, tB_good (ht t ht')]
      exact Ext.refl _
    · have e1 : optAll asBl (List.map (fun _ => Val.bl true) (F.map encT)) = some ((F.map encT).map fun _ => true) := optAll_bl (fun _ => true) _
      simp only [seqOf_at el, e1]
      simp
      refine wR_lcXm (fun x => match x with | .tup (.int i :: _) => .int i | _ => .non) (by simpa using hl) (fun _ _ => rfl) (fun x h' hx ex' => ⟨_, rfl, ?_⟩) (fun h2 ex2 el2 => ?_)
      · obtain ⟨t, ht', rfl⟩ := List.mem_map.mp hx
        simp [wipeE, encT]
        exact Ext.refl _
      · have el2' : h2[h1.length]? = some (.lst ((F.map (·.1)).map fun i : Nat => .int (i : Int))) := by
          rw [el2, List.map_map, List.map_map]; rfl
        simp [gV, el2']
        refine ⟨by have : lim < 2 ^ 62 := by decide
                   omega, ?_⟩
        refine wR_lcXm (fun x => match x with | .int k => .bl (decide (idx F k.toNat < idx F (k.toNat + 1))) | _ => .non) (by rw [rangeV_length]; omega) (fun _ _ => rfl) (fun x h' hx ex' => ⟨_, rfl, ?_⟩) (fun h3 ex3 el3 => ?_)
        · rw [rangeV0] at hx
          obtain ⟨k, hk, rfl⟩ := List.mem_map.mp hx
          have hk := List.mem_range.mp hk
          have hk1 : k + 1 < F.length := by omega
          have a1 := ex'.at el2'
          have t1 : L2.atI ((F.map (·.1)).map fun i : Nat => Val.int (i : Int)) ((k : Nat) : Int) = some (.int (idx F k : Nat)) := by
            rw [atI_cast]; simp [idx, List.getElem?_eq_getElem (show k < F.length by omega)]
          have t2 : L2.atI ((F.map (·.1)).map fun i : Nat => Val.int (i : Int)) ((k : Nat) + 1 : Int) = some (.int (idx F (k + 1) : Nat)) := by
            rw [show ((k : Nat) + 1 : Int) = ((k + 1 : Nat) : Int) by omega, atI_cast]; simp [idx, List.getElem?_eq_getElem hk1]
          try simp only [List.map_map] at a1 t1 t2
          simp [wipeE, a1, t1, t2]
          exact Ext.refl _
        · have e3 : h3[h2.length]? = some (.lst ((List.range (F.length - 1)).map fun k => .bl (decide (idx F k < idx F (k + 1))))) := by
            rw [el3, rangeV0, List.map_map]
            rfl
          simp only [seqOf_at e3, optAll_bl]
          refine ⟨by simp, ex.trans (ex2.trans ex3)⟩
  obtain ⟨x, h', e, rfl, q⟩ := ex_of_wR w
  exact ⟨h', e, q⟩
theorem idx_good {F : List Test} (g : GoodF F) : ((List.range (F.length - 1)).all fun k => decide (idx F k < idx F (k + 1))) = true := by
  rw [List.all_eq_true]
  intro k hk
  have hk := List.mem_range.mp hk
  have := List.pairwise_iff_getElem.mp g.2 k (k + 1) (by omega) (by omega) (by omega)
  simp [idx, List.getElem?_eq_getElem (show k < F.length by omega), List.getElem?_eq_getElem (show k + 1 < F.length by omega), this]
theorem idx_at {F : List Test} {k : Nat} (h : k < F.length) : idx F k = F[k].1 := by
  simp [idx, List.getElem?_eq_getElem h]
theorem isf_enc {F : List Test} {h : Heap} (hl : F.length < lim) (hb : ∃ t ∈ F, tB t = false) : ∃ h', m_is_filter [encF F] h = .ok (.bl false) h' ∧ Ext h h' := by
  refine isf_bad (fun x => match x with | .tup [.int i, .int m, .int v] => tB (i.toNat, m.toNat, v.toNat) | _ => false) (by simpa using hl) ?_ ?_
  · intro x hx h
    obtain ⟨t, ht, rfl⟩ := List.mem_map.mp hx
    simpa [encT] using ist_ok (t := t) (h := h)
  · obtain ⟨t, ht, e⟩ := hb
    exact ⟨encT t, List.mem_map_of_mem ht, by simpa [encT] using e⟩
theorem isf_F {F : List Test} {h : Heap} (hl : F.length < lim) (g : GoodF F) : ∃ h', m_is_filter [encF F] h = .ok (.bl true) h' ∧ Ext h h' := by
  have := isf_good (h := h) hl g.1
  rw [idx_good g] at this
  exact this
theorem len6 {F : List Test} (g : GoodF F) : F.length ≤ 6 := by
  have h : ∀ k (hk : k < F.length), k ≤ F[k].1 := by
    intro k
    induction k with
    | zero => intro _; exact Nat.zero_le _
    | succ k ih =>
      intro hk
      have := ih (by omega)
      have := List.pairwise_iff_getElem.mp g.2 k (k + 1) (by omega) (by omega) (by omega)
      omega
  rcases Nat.lt_or_ge 6 F.length with q | q
  · have := h 6 q
    have := (g.1 _ (List.getElem_mem q)).1
    omega
  · exact q
theorem take_one {α : Type} {xs : List α} {i : Nat} {x : α} (h : xs[i]? = some x) : xs.take (i + 1) = xs.take i ++ [x] := by
  rw [List.take_add_one, h]; rfl
theorem take_mem {α : Type} {xs : List α} {i : Nat} {x y : α} (h : xs[i]? = some x) (hy : y ∈ xs.take (i + 1)) : y ∈ xs.take i ∨ y = x := by
  rw [take_one h] at hy
  rcases List.mem_append.mp hy with q | q
  · exact .inl q
  · exact .inr (by simpa using q)
theorem take_all {α β : Type} {f : α → β} {xs : List α} : xs.take (0 + (xs.map f).length) = xs := by
  rw [Nat.zero_add, List.length_map, List.take_length]
def arr (f : Nat → Nat) : List Val := (List.range 6).map fun i => .int (f i : Nat)
theorem arr_len {f : Nat → Nat} : (arr f).length = 6 := rfl
theorem arr_at {f : Nat → Nat} {i : Nat} (h : i < 6) : (arr f)[i]? = some (.int (f i : Nat)) := by
  simp [arr, h]
theorem arr_atI {f : Nat → Nat} {i : Nat} (h : i < 6) : L2.atI (arr f) (i : Int) = some (.int (f i : Nat)) := by
  rw [atI_cast, arr_at h]
def upd (f : Nat → Nat) (i x : Nat) : Nat → Nat := fun j => if j = i then x else f j
theorem arr_set {f : Nat → Nat} {i x : Nat} (h : i < 6) : (arr f).set i (.int (x : Nat)) = arr (upd f i x) := by
  apply List.ext_getElem?
  intro j
  rw [List.getElem?_set]
  by_cases hj : j < 6
  · by_cases e : i = j
    · subst e
      simp [arr, h, upd]
    · simp [arr, hj, upd, e, Ne.symm e]
  · simp [arr, hj]
    intro e; omega
theorem arr_get {f : Nat → Nat} {i : Nat} (h : i < 6) : (arr f)[i]'(by rw [arr_len]; exact h) = .int (f i : Nat) := by
  have := arr_at (f := f) h
  rw [List.getElem?_eq_getElem (by rw [arr_len]; exact h)] at this
  exact Option.some.inj this
theorem isp_ok {f : Nat → Nat} {h : Heap} (hf : ∀ i < 6, f i < 2 ^ 32) : ∃ h', m_is_packet [.tup (arr f)] h = .ok (.bl true) h' ∧ Ext h h' := by
  have w : wR (m_is_packet [.tup (arr f)] h) (fun _ _ => False) fun x h' => x = .bl true ∧ Ext h h' := by
    unfold m_is_packet
    refine wRB rfl ?_
    simp [isTy, tyOf, arr_len]
    refine wR_lcXm (fun _ => .bl true) (by rw [arr_len]; decide) (fun _ _ => rfl) (fun x h' hx ex => ⟨_, rfl, ?_⟩) (fun h1 ex el => ?_)
    · obtain ⟨i, hi, rfl⟩ := List.mem_map.mp hx
      have hi := List.mem_range.mp hi
      have := hf i hi
      simp at this
      simp [wipeE, isw_ok, this]
      exact Ext.refl _
    · have e1 : optAll asBl (List.map (fun _ => Val.bl true) (arr f)) = some ((arr f).map fun _ => true) := optAll_bl (fun _ => true) _
      simp only [seqOf_at el, e1]
      simp [ex]
  obtain ⟨x, h', e, rfl, q⟩ := ex_of_wR w
  exact ⟨h', e, q⟩
def Meets (F : List Test) (f : Nat → Nat) : Prop := ∀ t ∈ F, ∀ b < 32, t.2.1.testBit b = true → (f t.1).testBit b = t.2.2.testBit b
def okBit (t : Test) (f : Nat → Nat) (b : Nat) : Prop := t.2.1.testBit b = true → (f t.1).testBit b = t.2.2.testBit b
theorem meets_iff {t : Test} (g : goodT t) (x : Nat) : (x &&& t.2.1 = t.2.2) ↔ ∀ b < 32, t.2.1.testBit b = true → x.testBit b = t.2.2.testBit b := by
  constructor
  · intro e b _ hb
    rw [← e, Nat.testBit_and, hb, Bool.and_true]
  · intro H
    apply Nat.eq_of_testBit_eq
    intro b
    rw [Nat.testBit_and]
    by_cases hb : t.2.1.testBit b = true
    · have b32 : b < 32 := by
        apply Classical.byContradiction
        intro hn
        have := Nat.testBit_lt_two_pow (Nat.lt_of_lt_of_le g.2.2.1 (Nat.pow_le_pow_right (by decide) (show 32 ≤ b by omega)))
        rw [this] at hb
        cases hb
      rw [hb, Bool.and_true]
      exact H b b32 hb
    · have hv := congrArg (fun z => z.testBit b) g.2.2.2
      simp only [Nat.testBit_and] at hv
      rw [← hv]
      simp [hb]
end Lw

set_option Elab.async false
set_option linter.all false
set_option autoImplicit false
set_option maxHeartbeats 4000000
namespace Lw
open PyM
def FO (g : Nat → Test → Nat) (L : List Test) (f0 : Nat → Nat) : Nat → Nat := L.foldl (fun f t => upd f t.1 (g (f t.1) t)) f0
theorem FO_not {g : Nat → Test → Nat} {i : Nat} : ∀ {L : List Test} {f0 : Nat → Nat}, (∀ u ∈ L, u.1 ≠ i) → FO g L f0 i = f0 i
  | [], f0, _ => rfl
  | t :: L, f0, h => by
    have := FO_not (g := g) (i := i) (L := L) (f0 := upd f0 t.1 (g (f0 t.1) t)) (fun u hu => h u (List.mem_cons_of_mem _ hu))
    unfold FO at this ⊢
    rw [List.foldl_cons, this, upd, if_neg (Ne.symm (h t (List.mem_cons_self ..)))]
theorem FO_mem {g : Nat → Test → Nat} {t : Test} : ∀ {L : List Test} {f0 : Nat → Nat}, L.Pairwise (fun a b => a.1 < b.1) → t ∈ L → FO g L f0 t.1 = g (f0 t.1) t
  | [], f0, _, h => by cases h
  | u :: L, f0, hp, h => by
    rw [List.pairwise_cons] at hp
    have e : FO g (u :: L) f0 = FO g L (upd f0 u.1 (g (f0 u.1) u)) := rfl
    rcases List.mem_cons.mp h with rfl | h
    · rw [e, FO_not (fun v hv => by have := hp.1 v hv; omega), upd, if_pos rfl]
    · have := hp.1 t h
      rw [e, FO_mem hp.2 h, upd, if_neg (by omega)]
theorem FO_take {g : Nat → Test → Nat} {L : List Test} {f0 : Nat → Nat} {i : Nat} {t : Test} (h : L[i]? = some t) : FO g (L.take (i + 1)) f0 = upd (FO g (L.take i) f0) t.1 (g (FO g (L.take i) f0 t.1) t) := by
  rw [take_one h]; unfold FO; rw [List.foldl_append]; rfl
theorem FO_app {g : Nat → Test → Nat} {L M : List Test} {f0 : Nat → Nat} : FO g (L ++ M) f0 = FO g M (FO g L f0) := by
  unfold FO; rw [List.foldl_append]
def VF (F : List Test) : Nat → Nat := FO (fun _ t => t.2.2) F fun _ => 0
def MF (F : List Test) : Nat → Nat := FO (fun _ t => t.2.1) F fun _ => 0
def orT : Nat → Test → Nat := fun x t => x ||| t.2.2
def CO (F O : List Test) : Nat → Nat := FO orT O (VF F)
def Cc (F : List Test) (t : Test) : Prop := (VF F t.1 ^^^ t.2.2) &&& MF F t.1 &&& t.2.1 ≠ 0
theorem arr0 : repV 6 [Val.int 0] = arr fun _ => 0 := rfl
structure CoA (F O : List Test) (h : Heap) (L n : Nat) (s' : En) (h' : Heap) : Prop where
  k : ∃ a b c, s' = [some (encF F), some (encF O), some (.ref (L + 1)), some (.ref (L + 3)), a, b, c]
  x : Ext h h'
  w : h'[L + 1]? = some (.lst (arr (FO (fun _ t => t.2.2) (F.take n) fun _ => 0)))
  m : h'[L + 3]? = some (.lst (arr (FO (fun _ t => t.2.1) (F.take n) fun _ => 0)))
structure CoB (F O : List Test) (h : Heap) (L n : Nat) (s' : En) (h' : Heap) : Prop where
  k : ∃ a b c, s' = [some (encF F), some (encF O), some (.ref (L + 1)), some (.ref (L + 3)), a, b, c]
  x : Ext h h'
  w : h'[L + 1]? = some (.lst (arr (FO orT (O.take n) (VF F))))
  m : h'[L + 3]? = some (.lst (arr (MF F)))
  no : ∀ t ∈ O.take n, ¬ Cc F t
structure CoQ (F O : List Test) (h : Heap) (x : Val) (h' : Heap) : Prop where
  ext : Ext h h'
  q : ((∃ t ∈ O, Cc F t) ∧ x = .non) ∨ ((∀ t ∈ O, ¬ Cc F t) ∧ x = .tup (arr (CO F O)))
theorem nodup_take {O : List Test} (g : GoodF O) {i : Nat} {t : Test} (h : O[i]? = some t) : ∀ u ∈ O.take i, u.1 ≠ t.1 := by
  intro u hu
  obtain ⟨j, hj⟩ := List.mem_iff_getElem?.mp hu
  rw [List.getElem?_take] at hj
  split at hj
  · rename_i hlt
    obtain ⟨hi, e⟩ := List.getElem?_eq_some_iff.mp h
    obtain ⟨hj', e'⟩ := List.getElem?_eq_some_iff.mp hj
    have := List.pairwise_iff_getElem.mp g.2 j i hj' hi hlt
    rw [e, e'] at this
    omega
  · cases hj
theorem common_ok {F O : List Test} {h : Heap} (gF : GoodF F) (gO : GoodF O) : ∃ x h', m_common [encF F, encF O] h = .ok x h' ∧ CoQ F O h x h' := by
  have w : wR (m_common [encF F, encF O] h) (fun _ _ => False) (CoQ F O h) := by
    unfold m_common
    refine wRB rfl ?_
    have l1 : 1 ≤ lim := by decide
    have l6 : 6 ≤ lim := by decide
    simp [encF, l1, l6, gV]
    refine wS_forM (CoA F O h h.length) _ 0 _ _ ⟨⟨_, _, _, rfl⟩, ⟨_, rfl⟩, at_app 1 rfl rfl, at_app 3 rfl rfl⟩ ?_ ?_
    · rintro i x s' h' _ hx ⟨⟨a, b, c, rfl⟩, ex, ew, em⟩
      simp only [Nat.sub_zero, List.getElem?_map] at hx
      obtain ⟨t, ht, rfl⟩ := Option.map_eq_some_iff.mp hx
      have t6 := (gF.1 t (List.mem_of_getElem? ht)).1
      refine ⟨rfl, [some (encF F), some (encF O), some (.ref (h.length + 1)), some (.ref (h.length + 3)), some (.int t.1), some (.int t.2.1), some (.int t.2.2)], rfl, ?_⟩
      have em' : (h'.set (h.length + 1) (.lst ((arr (FO (fun _ t => t.2.2) (F.take i) fun _ => 0)).set t.1 (.int t.2.2))))[h.length + 3]? = some (.lst (arr (FO (fun _ t => t.2.1) (F.take i) fun _ => 0))) := by
        rw [at_set_ne (by omega)]; exact em
      simp [ew, ixN_cast, arr_len, t6, em']
      refine ⟨⟨_, _, _, rfl⟩, (ex.set (by omega) _).set (by omega) _, ?_, ?_⟩
      · rw [at_set_ne (by omega), at_set ew, arr_set t6, FO_take ht]
      · rw [at_set em', arr_set t6, FO_take ht]
    · rintro s' h' ⟨⟨a, b, c, rfl⟩, ex, ew, em⟩
      rw [take_all] at ew em
      refine ⟨rfl, ?_⟩
      simp [encF]
      refine wS_forM (CoB F O h h.length) _ 0 _ _ ⟨⟨_, _, _, rfl⟩, ex, ew, em, by simp⟩ ?_ ?_
      · rintro i x s' h' _ hx ⟨⟨a, b, c, rfl⟩, ex, ew, em, no⟩
        simp only [Nat.sub_zero, List.getElem?_map] at hx
        obtain ⟨t, ht, rfl⟩ := Option.map_eq_some_iff.mp hx
        have t6 := (gO.1 t (List.mem_of_getElem? ht)).1
        refine ⟨rfl, [some (encF F), some (encF O), some (.ref (h.length + 1)), some (.ref (h.length + 3)), some (.int t.1), some (.int t.2.1), some (.int t.2.2)], rfl, ?_⟩
        have ev : FO orT (O.take i) (VF F) t.1 = VF F t.1 := FO_not (nodup_take gO ht)
        by_cases hc : (VF F t.1 ^^^ t.2.2) &&& MF F t.1 &&& t.2.1 = 0
        · simp [ew, em, arr_atI t6, ev, band, bxor, bor, hc, ixN_cast, arr_len, t6]
          refine ⟨⟨_, _, _, rfl⟩, ex.set (by omega) _, ?_, ?_, ?_⟩
          · rw [at_set ew, arr_set t6, FO_take ht, ev]; rfl
          · rw [at_set_ne (by omega)]; exact em
          · intro u hu
            rcases take_mem ht hu with q | rfl
            · exact no u q
            · exact fun n => n hc
        · have hc' : ¬ ((↑((VF F t.1 ^^^ t.2.2) &&& MF F t.1 &&& t.2.1) : Int) = 0) := by omega
          simp [ew, em, arr_atI t6, ev, band, bxor, hc']
          simp [hc]
          exact ⟨ex, .inl ⟨⟨t, List.mem_of_getElem? ht, hc⟩, rfl⟩⟩
      · rintro s' h' ⟨⟨a, b, c, rfl⟩, ex, ew, em, no⟩
        rw [take_all] at ew no
        refine ⟨rfl, ?_⟩
        simp [ew]
        exact ⟨ex, .inr ⟨no, rfl⟩⟩
  obtain ⟨x, h', e, q⟩ := ex_of_wR w
  exact ⟨x, h', e, q⟩
def bitsDiff (s t : Test) : Prop := ∃ b, b < 32 ∧ s.2.1.testBit b = true ∧ t.2.1.testBit b = true ∧ s.2.2.testBit b ≠ t.2.2.testBit b
def Apart (F O : List Test) : Prop := ∃ s ∈ F, ∃ t ∈ O, t.1 = s.1 ∧ bitsDiff s t
theorem VF_mem {F : List Test} (g : GoodF F) {t : Test} (h : t ∈ F) : VF F t.1 = t.2.2 := FO_mem g.2 h
theorem MF_mem {F : List Test} (g : GoodF F) {t : Test} (h : t ∈ F) : MF F t.1 = t.2.1 := FO_mem g.2 h
theorem VF_not {F : List Test} {i : Nat} (h : ∀ u ∈ F, u.1 ≠ i) : VF F i = 0 := FO_not h
theorem MF_not {F : List Test} {i : Nat} (h : ∀ u ∈ F, u.1 ≠ i) : MF F i = 0 := FO_not h
theorem CO_mem {F O : List Test} (g : GoodF O) {t : Test} (h : t ∈ O) : CO F O t.1 = VF F t.1 ||| t.2.2 := FO_mem g.2 h
theorem CO_not {F O : List Test} {i : Nat} (h : ∀ u ∈ O, u.1 ≠ i) : CO F O i = VF F i := FO_not h
theorem or_VF {F : List Test} (g : GoodF F) : FO orT F (fun _ => 0) = VF F := by
  funext i
  by_cases h : ∃ u ∈ F, u.1 = i
  · obtain ⟨u, hu, rfl⟩ := h
    rw [FO_mem g.2 hu, VF_mem g hu, orT, Nat.zero_or]
  · have h' : ∀ u ∈ F, u.1 ≠ i := fun u hu e => h ⟨u, hu, e⟩
    rw [FO_not h', VF_not h']
theorem bit_of_ne {x : Nat} (h : x ≠ 0) : ∃ b, x.testBit b = true := by
  apply Classical.byContradiction
  intro hn
  apply h
  apply Nat.eq_of_testBit_eq
  intro b
  rw [Nat.zero_testBit]
  cases e : x.testBit b with
  | false => rfl
  | true => exact absurd ⟨b, e⟩ hn
theorem bit32 {x b : Nat} (hx : x < 2 ^ 32) (hb : x.testBit b = true) : b < 32 := by
  apply Classical.byContradiction
  intro hn
  have := Nat.testBit_lt_two_pow (Nat.lt_of_lt_of_le hx (Nat.pow_le_pow_right (by decide) (show 32 ≤ b by omega)))
  rw [this] at hb
  cases hb
theorem v_sub {t : Test} (g : goodT t) {b : Nat} (h : t.2.2.testBit b = true) : t.2.1.testBit b = true := by
  have e := congrArg (fun z => z.testBit b) g.2.2.2
  simp only [Nat.testBit_and, h, Bool.true_and] at e
  exact e
theorem apart_iff {F O : List Test} (gF : GoodF F) (gO : GoodF O) : Apart F O ↔ ∃ t ∈ O, Cc F t := by
  constructor
  · rintro ⟨s, hs, t, ht, he, b, b32, b1, b2, b3⟩
    refine ⟨t, ht, fun hc => ?_⟩
    have e := congrArg (fun z => z.testBit b) hc
    simp only [he, VF_mem gF hs, MF_mem gF hs, Nat.testBit_and, Nat.testBit_xor, b1, b2, Bool.and_true, Nat.zero_testBit] at e
    revert b3 e
    cases s.2.2.testBit b <;> cases t.2.2.testBit b <;> simp
  · rintro ⟨t, ht, hc⟩
    by_cases h : ∃ s ∈ F, s.1 = t.1
    · obtain ⟨s, hs, he⟩ := h
      refine ⟨s, hs, t, ht, he.symm, ?_⟩
      obtain ⟨b, hb⟩ := bit_of_ne hc
      rw [← he, VF_mem gF hs, MF_mem gF hs] at hb
      simp only [Nat.testBit_and, Nat.testBit_xor, Bool.and_eq_true] at hb
      obtain ⟨⟨h1, h2⟩, h3⟩ := hb
      refine ⟨b, bit32 (gF.1 s hs).2.2.1 h2, h2, h3, ?_⟩
      revert h1
      cases s.2.2.testBit b <;> cases t.2.2.testBit b <;> simp
    · have h' : ∀ u ∈ F, u.1 ≠ t.1 := fun u hu e => h ⟨u, hu, e⟩
      unfold Cc at hc
      rw [MF_not h'] at hc
      simp at hc
theorem meets_one {F O : List Test} (gF : GoodF F) (gO : GoodF O) (hA : ¬ Apart F O) : Meets F (CO F O) := by
  intro s hs b b32 hb
  by_cases h : ∃ t ∈ O, t.1 = s.1
  · obtain ⟨t, ht, he⟩ := h
    rw [← he, CO_mem gO ht, he, VF_mem gF hs, Nat.testBit_or]
    by_cases h2 : t.2.1.testBit b = true
    · have : s.2.2.testBit b = t.2.2.testBit b := Classical.byContradiction fun n => hA ⟨s, hs, t, ht, he, b, b32, hb, h2, n⟩
      rw [this, Bool.or_self]
    · have : t.2.2.testBit b = false := by
        cases e : t.2.2.testBit b with
        | false => rfl
        | true => exact absurd (v_sub (gO.1 t ht) e) h2
      rw [this, Bool.or_false]
  · rw [CO_not (fun u hu e => h ⟨u, hu, e⟩), VF_mem gF hs]
theorem meets_two {F O : List Test} (gF : GoodF F) (gO : GoodF O) (hA : ¬ Apart F O) : Meets O (CO F O) := by
  intro t ht b b32 hb
  rw [CO_mem gO ht, Nat.testBit_or]
  by_cases h : ∃ s ∈ F, s.1 = t.1
  · obtain ⟨s, hs, he⟩ := h
    rw [← he, VF_mem gF hs]
    by_cases h2 : s.2.1.testBit b = true
    · have : s.2.2.testBit b = t.2.2.testBit b := Classical.byContradiction fun n => hA ⟨s, hs, t, ht, he.symm, b, b32, h2, hb, n⟩
      rw [this, Bool.or_self]
    · have : s.2.2.testBit b = false := by
        cases e : s.2.2.testBit b with
        | false => rfl
        | true => exact absurd (v_sub (gF.1 s hs) e) h2
      rw [this, Bool.false_or]
  · rw [VF_not (fun u hu e => h ⟨u, hu, e⟩), Nat.zero_testBit, Bool.false_or]
theorem VF_lt {F : List Test} (g : GoodF F) (i : Nat) : VF F i < 2 ^ 32 := by
  by_cases h : ∃ u ∈ F, u.1 = i
  · obtain ⟨u, hu, rfl⟩ := h
    rw [VF_mem g hu]
    exact good_v (g.1 u hu)
  · rw [VF_not (fun u hu e => h ⟨u, hu, e⟩)]
    decide
theorem CO_lt {F O : List Test} (g : GoodF F) (gO : GoodF O) (i : Nat) : CO F O i < 2 ^ 32 := by
  by_cases h : ∃ u ∈ O, u.1 = i
  · obtain ⟨u, hu, rfl⟩ := h
    rw [CO_mem gO hu]
    exact Nat.or_lt_two_pow (VF_lt g _) (good_v (gO.1 u hu))
  · rw [CO_not (fun u hu e => h ⟨u, hu, e⟩)]
    exact VF_lt g i
theorem arr_pl (f : Nat → Nat) : pl 60 (.tup (arr f)) = true := rfl
end Lw

set_option Elab.async false
set_option linter.all false
set_option autoImplicit false
set_option maxHeartbeats 4000000
namespace Lw
open PyM
def pkL (f : Nat → Nat) : List Nat := (List.range 6).map f
theorem pk_arr (f : Nat → Nat) : Val.tup (arr f) = pkV (pkL f) := rfl
def ov : Option (List Nat) → Val
  | none => .non
  | some p => pkV p
open Classical in
noncomputable def cmb (F O : List Te) : Option (List Nat) := if ∃ t ∈ O, Cc F t then none else some (pkL (CO F O))
theorem ext_app {h h' : Heap} (x : Ext h h') : ∃ e, h' = h ++ e := x
theorem common_eq {F O : List Te} {h : Heap} (gF : GoodF F) (gO : GoodF O) : ∃ e, m_common [encF F, encF O] h = .ok (ov (cmb F O)) (h ++ e) := by
  obtain ⟨x, h', e, ⟨g, rfl⟩, q⟩ := common_ok (h := h) gF gO
  refine ⟨g, ?_⟩
  rw [e]
  unfold cmb
  rcases q with ⟨q, rfl⟩ | ⟨q, rfl⟩
  · rw [if_pos q]
    rfl
  · rw [if_neg (fun ⟨t, ht, c⟩ => q t ht c)]
    rfl
theorem pAt_pkL {f : Nat → Nat} {i : Nat} (h : i < 6) : pAt (pkL f) i = f i := by
  have : i = 0 ∨ i = 1 ∨ i = 2 ∨ i = 3 ∨ i = 4 ∨ i = 5 := by omega
  rcases this with rfl | rfl | rfl | rfl | rfl | rfl <;> rfl
theorem mtB_meets {F : List Te} (g : GoodF F) {f : Nat → Nat} : mtB (pkL f) F = true ↔ Meets F f := by
  unfold mtB Meets
  rw [List.all_eq_true]
  refine forall_congr' fun t => forall_congr' fun ht => ?_
  unfold tsB
  rw [decide_eq_true_eq, pAt_pkL (g.1 t ht).1]
  exact meets_iff (g.1 t ht) _
structure Pk (p : List Nat) : Prop where
  len : p.length = 6
  lt : ∀ x ∈ p, x < 2 ^ 32
theorem GoodF.gt {F : List Te} (g : GoodF F) : GT F := ⟨len6 g, fun t ht => (g.1 t ht).1⟩
theorem cmb_some {F O : List Te} (gF : GoodF F) (gO : GoodF O) {p : List Nat} (h : cmb F O = some p) : Pk p ∧ mtB p F = true ∧ mtB p O = true := by
  unfold cmb at h
  split at h
  · cases h
  · rename_i hn
    cases h
    have na : ¬ Apart F O := fun q => hn ((apart_iff gF gO).mp q)
    refine ⟨⟨rfl, fun x hx => ?_⟩, (mtB_meets gF).mpr (meets_one gF gO na), (mtB_meets gO).mpr (meets_two gF gO na)⟩
    obtain ⟨i, _, rfl⟩ := List.mem_map.mp hx
    exact CO_lt gF gO i
theorem pk_pkL {p : List Nat} (h : p.length = 6) : p = pkL (pAt p) := by
  match p, h with
  | [a, b, c, d, e, f], _ => rfl
theorem isp_eq {p : List Nat} (hp : Pk p) {h : Heap} : ∃ e, m_is_packet [pkV p] h = .ok (.bl true) (h ++ e) := by
  have e := pk_pkL hp.len
  obtain ⟨h', e1, g, rfl⟩ := isp_ok (f := pAt p) (h := h) fun i hi => by
    refine hp.lt _ ?_
    unfold pAt
    rw [List.getD_eq_getElem?_getD, List.getElem?_eq_getElem (by rw [hp.len]; exact hi)]
    exact List.getElem_mem _
  refine ⟨g, ?_⟩
  rw [pk_arr, ← e] at e1
  exact e1
theorem isf_eq {F : List Te} (g : GoodF F) {h : Heap} : ∃ e, m_is_filter [encF F] h = .ok (.bl true) (h ++ e) := by
  obtain ⟨h', e, q, rfl⟩ := isf_F (h := h) (by have := len6 g; have : 6 < lim := by decide
                                               omega) g
  exact ⟨q, e⟩
/-! the tape and what is drawn -/
section
variable {h h' : Heap} {p a : Nat} {ns : List Int} {l R : Nodes}
theorem On_subl {l l' : Nodes} {h : Heap} (o : On l h) (s : l'.Sublist l) : On l' h := ⟨(s.map _).nodup o.nd, fun q hq => o.at_ q (s.subset hq)⟩
theorem Tn_new (T : Tn p a ns l h) (x : Obj) : Tn p a ns ((h.length, x) :: l) (h ++ [x]) := by
  obtain ⟨i, r, t, i0, o⟩ := T.k
  exact ⟨i, r, t, i0, ((o.new x).perm (List.Perm.swap _ _ _)).perm ((List.Perm.swap _ _ _).cons _)⟩
theorem Tn_drop {q : Nat × Obj} (T : Tn p a ns (q :: l) h) : Tn p a ns l h := by
  obtain ⟨i, r, t, i0, o⟩ := T.k
  exact ⟨i, r, t, i0, On_subl o (List.Sublist.cons₂ _ (List.Sublist.cons₂ _ (List.Sublist.cons _ (List.Sublist.refl _))))⟩
theorem Tn_sub {l' : Nodes} (T : Tn p a ns l h) (s : l'.Sublist l) : Tn p a ns l' h := by
  obtain ⟨i, r, t, i0, o⟩ := T.k
  exact ⟨i, r, t, i0, On_subl o ((s.cons₂ _).cons₂ _)⟩
theorem Tn_set (T : Tn p a ns l h) {j b : Nat} {x : Obj} (e : l[j]? = some (b, x)) (y : Obj) : Tn p a ns (l.set j (b, y)) (h.set b y) := by
  obtain ⟨i, r, t, i0, o⟩ := T.k
  exact ⟨i, r, t, i0, o.set (i := j + 2) (by simpa using e) y⟩
theorem nat_ok (T : Tn p a ns l h) {n : Nat} (h0 : 0 < n) (hl : n ≤ 1000) : ∃ (v : Nat) (h' : Heap), v < n ∧ m__law_next [.ref p, .int (n : Nat)] h = .ok (.int (v : Nat)) h' ∧ Tn p a ns l h' := by
  obtain ⟨v, h', v0, v1, e, T'⟩ := T.next nx_eq (n := (n : Nat)) (by omega) (by omega)
  obtain ⟨k, rfl⟩ := Int.eq_ofNat_of_zero_le v0
  exact ⟨k, h', by omega, e, T'⟩
theorem g3 {v : Nat} (h : v < 4) : goodT (0, 3, v) := ⟨show 0 < 6 by decide, show 0 < 3 by decide, show 3 < 2 ^ 32 by decide, by
  show v &&& 3 = v
  have : v = 0 ∨ v = 1 ∨ v = 2 ∨ v = 3 := by omega
  rcases this with rfl | rfl | rfl | rfl <;> rfl⟩
theorem g15 {v : Nat} (h : v < 4) : goodT (1, 15, v) := ⟨show 1 < 6 by decide, show 0 < 15 by decide, show 15 < 2 ^ 32 by decide, by
  show v &&& 15 = v
  have : v = 0 ∨ v = 1 ∨ v = 2 ∨ v = 3 := by omega
  rcases this with rfl | rfl | rfl | rfl <;> rfl⟩
def lfA : En → Heap → RS := (sIf (tB_ (mB oGt (mCall m__law_next [] (mCons (mV 0) (mCons (mK (.int 3)) (mNil)))) (mK (.int 0)))) (sDrop (mBM bAppend (mV 2) (mCons (mTup (mCons (mK (.int 0)) (mCons (mK (.int 3)) (mCons (mB oIx (mLst (mCons (mV 1) (mCons (mCall m__law_next [] (mCons (mV 0) (mCons (mK (.int 4)) (mNil)))) (mNil)))) (mCall m__law_next [] (mCons (mV 0) (mCons (mK (.int 2)) (mNil))))) (mNil))))) (mNil)))) (sNx))
def lfB : En → Heap → RS := (sIf (tB_ (mB (oEq false) (mCall m__law_next [] (mCons (mV 0) (mCons (mK (.int 2)) (mNil)))) (mK (.int 0)))) (sDrop (mBM bAppend (mV 2) (mCons (mTup (mCons (mK (.int 1)) (mCons (mK (.int 15)) (mCons (mCall m__law_next [] (mCons (mV 0) (mCons (mK (.int 4)) (mNil)))) (mNil))))) (mNil)))) (sNx))
theorem lf_cut : m__law_filter = runB 2 3 (sSeq (sAsg (gV 2) (mLst (mNil))) (sSeq lfA (sSeq lfB (sRet (mL bTuple (mCons (mV 2) (mNil))))))) := rfl
theorem lfA_ok {q e : Nat} (he : e < 4) (T : Tn p a ns ((q, .lst []) :: l) h) : ∃ F h', GoodF F ∧ (∀ t ∈ F, t.1 = 0) ∧ F.length ≤ 1 ∧ lfA [some (.ref p), some (.int (e : Nat)), some (.ref q)] h = .nx [some (.ref p), some (.int (e : Nat)), some (.ref q)] h' ∧ Tn p a ns ((q, .lst (F.map encT)) :: l) h' := by
  obtain ⟨v, h1, v3, e1, T1⟩ := nat_ok T (n := 3) (by decide) (by decide)
  have e1 : m__law_next [.ref p, .int 3] h = .ok (.int (v : Nat)) h1 := e1
  by_cases hv : v = 0
  · subst hv
    exact ⟨[], h1, ⟨by simp, List.Pairwise.nil⟩, by simp, by simp, eq_nx (by unfold lfA; simp [e1]), T1⟩
  · obtain ⟨u, h2, u4, e2, T2⟩ := nat_ok T1 (n := 4) (by decide) (by decide)
    have e2 : m__law_next [.ref p, .int 4] h1 = .ok (.int (u : Nat)) h2 := e2
    obtain ⟨w, h3, w2, e3, T3⟩ := nat_ok (Tn_new T2 (.lst [.int (e : Nat), .int (u : Nat)])) (n := 2) (by decide) (by decide)
    have e3 : m__law_next [.ref p, .int 2] (h2 ++ [.lst [.int (e : Nat), .int (u : Nat)]]) = .ok (.int (w : Nat)) h3 := e3
    have gl : h3[h2.length]? = some (.lst [.int (e : Nat), .int (u : Nat)]) := T3.on.get (i := 0) rfl
    have gq1 : h1[q]? = some (.lst []) := T1.on.get (i := 0) rfl
    have gq : h3[q]? = some (.lst []) := T3.on.get (i := 1) rfl
    obtain ⟨z, z4, ez⟩ : ∃ z : Nat, z < 4 ∧ L2.atI [Val.int (e : Nat), .int (u : Nat)] (w : Int) = some (.int (z : Nat)) := by
      have : w = 0 ∨ w = 1 := by omega
      rcases this with rfl | rfl
      · exact ⟨e, he, rfl⟩
      · exact ⟨u, u4, rfl⟩
    have l2 : 2 ≤ lim := by decide
    have l3 : 3 ≤ lim := by decide
    have l0 : 0 < lim := by decide
    have v0 : 0 < v := by omega
    have sq : (seqOf (.ref q) h1).isSome = true := by simp [seqOf_at gq1]
    refine ⟨[(0, 3, z)], h3.set q (.lst [encT (0, 3, z)]), ⟨by simpa using g3 z4, List.pairwise_singleton _ _⟩, by simp, by simp, eq_nx ?_, Tn_set (j := 0) (Tn_drop T3) rfl _⟩
    unfold lfA
    simp [e1, v0, e2, e3, gl, ez, gq, l2, l3, l0, sq, encT]
theorem lfB_ok {q e : Nat} {F : List Te} (gF : GoodF F) (h0 : ∀ t ∈ F, t.1 = 0) (hl : F.length ≤ 1) (T : Tn p a ns ((q, .lst (F.map encT)) :: l) h) : ∃ F h', GoodF F ∧ lfB [some (.ref p), some (.int (e : Nat)), some (.ref q)] h = .nx [some (.ref p), some (.int (e : Nat)), some (.ref q)] h' ∧ Tn p a ns ((q, .lst (F.map encT)) :: l) h' := by
  obtain ⟨v, h1, v2, e1, T1⟩ := nat_ok T (n := 2) (by decide) (by decide)
  have e1 : m__law_next [.ref p, .int 2] h = .ok (.int (v : Nat)) h1 := e1
  by_cases hv : v = 0
  · subst hv
    obtain ⟨u, h2, u4, e2, T2⟩ := nat_ok T1 (n := 4) (by decide) (by decide)
    have e2 : m__law_next [.ref p, .int 4] h1 = .ok (.int (u : Nat)) h2 := e2
    have gq1 : h1[q]? = some (.lst (F.map encT)) := T1.on.get (i := 0) rfl
    have gq : h2[q]? = some (.lst (F.map encT)) := T2.on.get (i := 0) rfl
    have l3 : 3 ≤ lim := by decide
    have l0 : F.length < lim := by have : 1 < lim := by decide
                                   omega
    have sq : (seqOf (.ref q) h1).isSome = true := by simp [seqOf_at gq1]
    obtain ⟨x2, hx2⟩ : ∃ x : Obj, x = .lst ((F ++ [((1, 15, u) : Te)]).map encT) := ⟨_, rfl⟩
    have T3 : Tn p a ns ((q, x2) :: l) (h2.set q x2) := Tn_set (j := 0) T2 rfl x2
    rw [hx2] at T3
    refine ⟨F ++ [(1, 15, u)], h2.set q (.lst ((F ++ [(1, 15, u)]).map encT)), ⟨fun t ht => ?_, ?_⟩, eq_nx ?_, T3⟩
    · rcases List.mem_append.mp ht with ht | ht
      · exact gF.1 t ht
      · rw [List.mem_singleton.mp ht]
        exact g15 u4
    · rw [List.pairwise_append]
      refine ⟨gF.2, List.pairwise_singleton _ _, fun a ha b hb => ?_⟩
      rw [List.mem_singleton.mp hb, h0 a ha]
      exact Nat.zero_lt_one
    · unfold lfB
      simp [e1, e2, gq, l3, l0, sq, encT]
  · have v0 : v ≠ 0 := hv
    exact ⟨F, h1, gF, eq_nx (by unfold lfB; simp [e1, v0]), T1⟩
theorem lfilter_ok {e : Nat} (he : e < 4) (T : Tn p a ns l h) : ∃ F h', GoodF F ∧ m__law_filter [.ref p, .int (e : Nat)] h = .ok (encF F) h' ∧ Tn p a ns l h' := by
  obtain ⟨F, h1, gF, h0, hl, e1, T1⟩ := lfA_ok he (Tn_new T (.lst []))
  obtain ⟨F2, h2, gF2, e2, T2⟩ := lfB_ok (e := e) gF h0 hl T1
  refine ⟨F2, h2, gF2, eq_of_wR ?_, Tn_drop T2⟩
  have gq : h2[h.length]? = some (.lst (F2.map encT)) := T2.on.get (i := 0) rfl
  have l6 : F2.length ≤ lim := by
    have := len6 gF2
    have : 6 ≤ lim := by decide
    omega
  have l0 : 0 ≤ lim := Nat.zero_le _
  rw [lf_cut]
  refine wRB rfl ?_
  obtain ⟨LA, hA⟩ : ∃ X, X = lfA := ⟨_, rfl⟩
  obtain ⟨LB, hB⟩ : ∃ X, X = lfB := ⟨_, rfl⟩
  rw [← hA, ← hB]
  rw [← hA] at e1
  rw [← hB] at e2
  simp -implicitDefEqProofs [l0, gV, e1, e2, gq, l6, encF]
theorem nats_of {P : Nat → Prop} : ∀ {ys : List Val}, (∀ y ∈ ys, ∃ n : Nat, y = .int (n : Nat) ∧ P n) → ∃ X : List Nat, ys = X.map (fun n => Val.int (n : Nat)) ∧ ∀ n ∈ X, P n
  | [], _ => ⟨[], rfl, by simp⟩
  | y :: ys, h => by
    obtain ⟨X, h1, h2⟩ := nats_of (ys := ys) fun z hz => h z (List.mem_cons_of_mem _ hz)
    obtain ⟨n, h3, h4⟩ := h y List.mem_cons_self
    refine ⟨n :: X, by rw [h1, h3]; rfl, fun z hz => ?_⟩
    rcases List.mem_cons.mp hz with rfl | hz
    · exact h4
    · exact h2 z hz
theorem lpacket_ok (T : Tn p a ns l h) {x1 x2 x3 x4 x5 x6 x7 x8 : Option Val} :
    ∃ (pk : List Nat) (h' : Heap), Pk pk ∧ mL bTuple (mCons (mLc (iRng1 (mCons (mK (.int 6)) (mNil))) (gV 7) (tTrue) (mCall m__law_next [] (mCons (mV 0) (mCons (mK (.int 4)) (mNil)))) [7]) (mNil)) [some (.ref p), x1, x2, x3, x4, x5, x6, x7, x8] h = .ok (pkV pk) h' ∧ Tn p a ns l h' := by
  have w : wR (mL bTuple (mCons (mLc (iRng1 (mCons (mK (.int 6)) (mNil))) (gV 7) (tTrue) (mCall m__law_next [] (mCons (mV 0) (mCons (mK (.int 4)) (mNil)))) [7]) (mNil)) [some (.ref p), x1, x2, x3, x4, x5, x6, x7, x8] h) (fun _ _ => False) fun x h' => ∃ pk : List Nat, x = pkV pk ∧ Pk pk ∧ Tn p a ns l h' := by
    have l6 : 6 < lim := by decide
    simp
    refine wR_lcT T.tp (fun y => ∃ n : Nat, y = .int (n : Nat) ∧ n < 4) (by show (rangeV 0 6).length < lim; rw [rangeV_length]; exact l6) (fun _ _ => rfl) (fun x h' hx T' f' => ?_) fun ys h' hl hR T' f' el => ?_
    · refine ⟨_, rfl, ?_⟩
      obtain ⟨v, h1, v0, v4, e1, T1, f1, _⟩ := T'.next nx_eq (n := 4) (by decide) (by decide)
      obtain ⟨v, rfl⟩ := Int.eq_ofNat_of_zero_le v0
      have v4' : v < 4 := by omega
      simp [wipeE, e1]
      exact ⟨⟨v, rfl, v4'⟩, T1, f1⟩
    · obtain ⟨X, rfl, hX⟩ := nats_of hR
      have lx : X.length = 6 := by simpa [rangeV_length] using hl
      have l6' : 6 ≤ lim := by decide
      have T2 : Tn p a ns l h' := T.nx T' f'
      simp [el, lx, l6']
      exact ⟨X, rfl, ⟨lx, fun x hx => by have := hX x hx; omega⟩, T2⟩
  obtain ⟨x, h', e, pk, rfl, hp, T'⟩ := ex_of_wR w
  exact ⟨pk, h', hp, e, T'⟩
end
end Lw

set_option Elab.async false
set_option linter.all false
set_option autoImplicit false
set_option maxHeartbeats 4000000
namespace Lw
open PyM
/-! filters by names -/
def fsOf (F : Int → List Te) (l : List Int) : List Fi := l.map fun x => (x, F x)
theorem fs_len {F : Int → List Te} {l : List Int} : (fsOf F l).length = l.length := by simp [fsOf]
theorem fs_mem {F : Int → List Te} {l : List Int} {g : Fi} (h : g ∈ fsOf F l) : g.1 ∈ l ∧ g.2 = F g.1 := by
  obtain ⟨x, hx, rfl⟩ := List.mem_map.mp h
  exact ⟨hx, rfl⟩
theorem fs_nd {F : Int → List Te} {l : List Int} (h : l.Nodup) : ND (fsOf F l) := by
  unfold ND fsOf
  rw [List.map_map, show ((fun x : Fi => x.1) ∘ fun x => (x, F x)) = id from rfl, List.map_id]
  exact h
theorem fs_perm {F : Int → List Te} {l m : List Int} (p : l.Perm m) : T 6 (fsOf F l) = T 6 (fsOf F m) := T_perm 6 (p.map _)
theorem fs_congr {F G : Int → List Te} {l : List Int} (h : ∀ x ∈ l, F x = G x) : fsOf F l = fsOf G l := List.map_congr_left fun x hx => by rw [h x hx]
theorem wfF {F : Int → List Te} (g : ∀ x, GoodF (F x)) {l : List Int} {x : Int} (hx : x ∉ l) (hl : l.length < 100) (h : Heap) : ∃ e, m_with_filter [T 6 (fsOf F l), .int x, encF (F x)] h = .ok (T 6 (fsOf F (x :: l))) (h ++ e) :=
  wf_ok (F x) 8 6 (fsOf F l) x h (by have := len6 (g x); omega) (len6 (g x)) (by rw [fs_len]; omega) (fun q hq e => hx (e ▸ (fs_mem hq).1)) (by have := len6 (g x); omega)
theorem woF {F : Int → List Te} (g : ∀ x, GoodF (F x)) {l : List Int} {x : Int} (hx : x ∉ l) (hl : l.length < 100) (h : Heap) : ∃ e, m_without_filter [T 6 (fsOf F (x :: l)), .int x, encF (F x)] h = .ok (T 6 (fsOf F l)) (h ++ e) :=
  wo_ok (F x) 8 6 (fsOf F l) x h (by have := len6 (g x); omega) (len6 (g x)) (by rw [fs_len]; omega) (fun q hq e => hx (e ▸ (fs_mem hq).1)) (by have := len6 (g x); omega) (Nat.le_refl _) fun q hq => by rw [(fs_mem hq).2]; exact len6 (g _)
/-! dicts by names -/
def dI (g : Int → Val) (l : List Int) : List (Val × Val) := l.map fun x => (.int x, g x)
def fu {α : Type} (g : Int → α) (x : Int) (v : α) : Int → α := fun y => if y = x then v else g y
theorem fu_at {α : Type} {g : Int → α} {x : Int} {v : α} : fu g x v x = v := if_pos rfl
theorem fu_ne {α : Type} {g : Int → α} {x y : Int} {v : α} (h : y ≠ x) : fu g x v y = g y := if_neg h
theorem lookI {g : Int → Val} {x : Int} : ∀ {l : List Int}, lookV (dI g l) (.int x) = if x ∈ l then some (g x) else none
  | [] => rfl
  | y :: l => by
    have ih := lookI (g := g) (x := x) (l := l)
    unfold dI lookV at *
    simp only [List.map_cons, List.find?_cons]
    by_cases e : y = x
    · subst e
      simp
    · have e2 : ¬ x = y := fun q => e q.symm
      have e3 : decide (Val.int y = Val.int x) = false := by simp [e]
      rw [e3]
      simp only [ih, List.mem_cons, e2, false_or]
theorem lookI_in {g : Int → Val} {x : Int} {l : List Int} (h : x ∈ l) : lookV (dI g l) (.int x) = some (g x) := by rw [lookI, if_pos h]
theorem dI_len {g : Int → Val} {l : List Int} : (dI g l).length = l.length := by simp [dI]
theorem dI_congr {g g' : Int → Val} {l : List Int} (h : ∀ x ∈ l, g x = g' x) : dI g l = dI g' l := List.map_congr_left fun x hx => by rw [h x hx]
theorem putI {g : Int → Val} {l : List Int} {x : Int} (hx : x ∉ l) (v : Val) : putV (dI g l) (.int x) v = dI (fu g x v) (l ++ [x]) := by
  have e1 : ((dI g l).any fun kv => decide (kv.1 = .int x)) = false := by
    rw [List.any_eq_false]
    intro kv hkv
    obtain ⟨y, hy, rfl⟩ := List.mem_map.mp hkv
    simp
    exact fun q => hx (q ▸ hy)
  unfold putV
  rw [e1]
  unfold dI
  rw [List.map_append]
  simp [fu]
  intro y hy
  exact fun q => absurd (q ▸ hy) hx
theorem dropI {g : Int → Val} {l : List Int} {x : Int} : dropV (dI g l) (.int x) = dI g (drp x l) := by
  unfold dropV dI drp
  rw [List.filter_map]
  refine congrArg _ (List.filter_congr fun y _ => ?_)
  simp
theorem intsI (g : Int → Val) : ∀ l : List Int, optAll (fun kv : Val × Val => asInt kv.1) (dI g l) = some l
  | [] => rfl
  | x :: l => by
    have := intsI g l
    unfold dI at *
    simp only [List.map_cons, optAll]
    rw [this]
    rfl
theorem sortedI {g : Int → Val} {l : List Int} {a : Nat} {h : Heap} (e : h[a]? = some (.dct (dI g l))) (hl : l.length < 64) (ha : Asc l) : bSorted2 [.ref a] h = .ok (.ref h.length) (h ++ [.lst (l.map .int)]) := by
  unfold bSorted2
  simp only [e, intsI, hl, if_true]
  rw [sortI_asc ha (.refl _)]
theorem drp_mem {x y : Int} {l : List Int} : y ∈ drp x l ↔ y ∈ l ∧ y ≠ x := by simp [drp, List.mem_filter]
/-! the state -/
structure S where
  N : List Int
  E : Int → Nat
  F : Int → List Te
  P : Int → List (List Nat)
  m : Nat
  lo : Nat
  G : List (List Nat)
structure Ad where
  nt : Nat
  nR : Nat
  rw_ : Nat
  rg : Nat
  gn : Nat
  lR : Nat
  lr : Nat
  ls : Nat
  lt : Nat
  RA : Int → Nat
  LA : Int → Nat
def oF : Option (List Te) → Val
  | none => .non
  | some F => encF F
def rowV (s : S) (x : Int) : Val := .tup [.int (s.E x : Nat), encF (s.F x)]
def ringV (A : Ad) (x : Int) : Val := .ref (A.RA x)
def lrowV (A : Ad) (s : S) (x : Int) : Val := .tup [.int (s.E x : Nat), encF (s.F x), .ref (A.LA x)]
def netO (A : Ad) (s : S) : Obj := .ins 0 [(0, .ref A.nR), (1, .int (s.m : Nat)), (2, .ref A.rw_), (3, .ref A.rg), (4, T 6 (fsOf s.F s.N)), (5, .ref A.gn), (6, .int (s.lo : Nat))]
def fx (A : Ad) (rg : List (Option (List Te))) (s s' : S) : Nodes :=
  [(A.nt, netO A s), (A.nR, .lst (rg.map oF)), (A.rw_, .dct (dI (rowV s) s.N)), (A.rg, .dct (dI (ringV A) s.N)), (A.gn, .lst (s.G.map pkV)),
    (A.lR, .lst (rg.map oF)), (A.lr, .dct (dI (lrowV A s') s'.N)), (A.ls, .lst [.int (s'.m : Nat), .int (s'.lo : Nat)]), (A.lt, .lst (s'.G.map pkV))]
def rsN (A : Ad) (s : S) : Nodes := s.N.map fun x => (A.RA x, .lst ((s.P x).map pkV))
def rsL (A : Ad) (s : S) : Nodes := s.N.map fun x => (A.LA x, .lst ((s.P x).map pkV))
def nodes (A : Ad) (rg : List (Option (List Te))) (s s' : S) : Nodes := fx A rg s s' ++ (rsN A s ++ rsL A s')
structure Ok (s : S) : Prop where
  asc : Asc s.N
  le : ∀ x ∈ s.N, 1 ≤ x ∧ x ≤ s.m
  len : s.N.length ≤ s.m
  good : ∀ x, GoodF (s.F x)
  m60 : s.m < 64
  p8 : ∀ x, (s.P x).length ≤ 8
theorem Ok.l64 {s : S} (k : Ok s) : s.N.length < 64 := Nat.lt_of_le_of_lt k.len k.m60
/-! common packets with others -/
def regL (rg : List (Option (List Te))) (e : Nat) (is : List Nat) : List (List Te) := is.filterMap fun i => if i = e then none else rg.getD i none
def othN (s : S) (e : Nat) (l : List Int) : List (List Te) := (l.filter fun x => decide (s.E x ≠ e)).map s.F
def Oth (rg : List (Option (List Te))) (s : S) (e : Nat) : List (List Te) := regL rg e (List.range 4) ++ othN s e s.N
noncomputable def fstC (F : List Te) (Os : List (List Te)) : Option (List Nat) := Os.findSome? (cmb F)
theorem regL_one {rg : List (Option (List Te))} {e i : Nat} {o : Option (List Te)} (h : i ≠ e) (q : rg.getD i none = o) : regL rg e [i] = o.toList := by
  unfold regL
  rw [List.filterMap_cons, if_neg h, q]
  cases o <;> rfl
theorem fst_one {F O : List Te} : fstC F [O] = cmb F O := by
  unfold fstC
  simp
theorem fstC_app {F : List Te} {A B : List (List Te)} : fstC F (A ++ B) = (fstC F A).or (fstC F B) := by
  unfold fstC
  rw [List.findSome?_append]
def RgOk (rg : List (Option (List Te))) : Prop := rg.length = 4 ∧ ∀ F, some F ∈ rg → GoodF F
theorem rg_at {rg : List (Option (List Te))} {i : Nat} (h : rg.length = 4) (hi : i < 4) : L2.atI (rg.map oF) (i : Int) = some (oF (rg.getD i none)) := by
  rw [atI_cast, List.getElem?_map, List.getElem?_eq_getElem (by omega), List.getD_eq_getElem?_getD, List.getElem?_eq_getElem (by omega)]
  rfl
theorem rg_good {rg : List (Option (List Te))} (h : RgOk rg) {i : Nat} {F : List Te} (e : rg.getD i none = some F) : GoodF F := by
  rw [List.getD_eq_getElem?_getD] at e
  cases q : rg[i]? with
  | none => rw [q] at e; cases e
  | some o =>
    rw [q] at e
    have e : o = some F := e
    exact h.2 F (e ▸ List.mem_of_getElem? q)
def crB : En → Heap → RS := (sIf (tAn (tB_ (mB (oEq true) (mV 3) (mV 1))) (tB_ (mU (oIsN true) (mB oIx (mU (getF 0) (mV 0)) (mV 3))))) (sSeq (sAsg (gV 4) (mCall m_common [] (mCons (mV 2) (mCons (mB oIx (mU (getF 0) (mV 0)) (mV 3)) (mNil)))))
    (sIf (tB_ (mU (oIsN true) (mV 4))) (sRet (mV 4)) (sNx))) (sNx))
theorem cr_cut : m_Net__common_with_regions = runB 3 5 (sSeq (sFor (iRng1 (mCons (mK (.int 4)) (mNil))) (gV 3) crB) (sRet (mK .non))) := rfl
theorem ov_non {p : List Nat} : (match ov (some p) with | .non => false | _ => true) = true := rfl
section
variable {rg : List (Option (List Te))} {e nt nR : Nat} {F : List Te} {fs : List (Nat × Val)}
theorem cr_step (hr : RgOk rg) (gF : GoodF F) {i : Nat} (hi : i < 4) {h : Heap} (e0 : h[nt]? = some (.ins 0 ((0, .ref nR) :: fs))) (e1 : h[nR]? = some (.lst (rg.map oF))) (x4 : Option Val) :
    ∃ g, (fstC F (regL rg e [i]) = none ∧ ∃ x4', crB [some (.ref nt), some (.int (e : Nat)), some (encF F), some (.int (i : Nat)), x4] h = .nx [some (.ref nt), some (.int (e : Nat)), some (encF F), some (.int (i : Nat)), x4'] (h ++ g))
      ∨ (∃ p, fstC F (regL rg e [i]) = some p ∧ crB [some (.ref nt), some (.int (e : Nat)), some (encF F), some (.int (i : Nat)), x4] h = .rt (pkV p) (h ++ g)) := by
  have ea := rg_at hr.1 hi
  by_cases he : i = e
  · subst he
    refine ⟨[], .inl ⟨by simp [regL, fstC], x4, ?_⟩⟩
    rw [List.append_nil]
    refine eq_nx ?_
    unfold crB
    simp
  · have he' : ¬ ((i : Int) = (e : Int)) := by omega
    cases q : rg.getD i none with
    | none =>
      refine ⟨[], .inl ⟨by rw [regL_one he q]; rfl, x4, ?_⟩⟩
      rw [List.append_nil]
      refine eq_nx ?_
      rw [q] at ea
      have ea : L2.atI (rg.map oF) (i : Int) = some .non := ea
      unfold crB
      simp [he', e0, e1, ea, PyM.lookF]
    | some O =>
      obtain ⟨g, ec⟩ := common_eq (h := h) gF (rg_good hr q)
      rw [q] at ea
      have ea : L2.atI (rg.map oF) (i : Int) = some (encF O) := ea
      have er : fstC F (regL rg e [i]) = cmb F O := by
        rw [regL_one he q]
        exact fst_one
      refine ⟨g, ?_⟩
      rw [er]
      cases qc : cmb F O with
      | none =>
        rw [qc] at ec
        refine .inl ⟨rfl, some .non, eq_nx ?_⟩
        have ec : m_common [encF F, encF O] h = .ok .non (h ++ g) := ec
        unfold crB
        simp [he', e0, e1, ea, PyM.lookF, gV, ec]
        simp [encF]
      | some p =>
        rw [qc] at ec
        refine .inr ⟨p, rfl, eq_rt ?_⟩
        have ec : m_common [encF F, encF O] h = .ok (pkV p) (h ++ g) := ec
        unfold crB
        simp [he', e0, e1, ea, PyM.lookF, gV, ec]
        simp [encF, pkV]
theorem cr_loop (hr : RgOk rg) (gF : GoodF F) {D : K4} : ∀ (is : List Nat) (x3 x4 : Option Val) (h : Heap), (∀ i ∈ is, i < 4) → h[nt]? = some (.ins 0 ((0, .ref nR) :: fs)) → h[nR]? = some (.lst (rg.map oF)) →
    (∀ x3 x4 g, fstC F (regL rg e is) = none → D.nx [some (.ref nt), some (.int (e : Nat)), some (encF F), x3, x4] (h ++ g)) →
    (∀ p g, fstC F (regL rg e is) = some p → D.rt (pkV p) (h ++ g)) →
    wS (forM_ (fun _ => true) (gV 3) crB (is.map fun i : Nat => .int (i : Nat)) [some (.ref nt), some (.int (e : Nat)), some (encF F), x3, x4] h) D
  | [], x3, x4, h, _, _, _, hn, _ => by
    rw [List.map_nil, wS_forM_nil]
    have := hn x3 x4 [] rfl
    rw [List.append_nil] at this
    exact ⟨rfl, this⟩
  | i :: is, x3, x4, h, hi, e0, e1, hn, hr2 => by
    rw [List.map_cons, wS_forM_cons]
    refine ⟨rfl, ?_⟩
    have hg : gV 3 (.int (i : Nat)) [some (.ref nt), some (.int (e : Nat)), some (encF F), x3, x4] = some [some (.ref nt), some (.int (e : Nat)), some (encF F), some (.int (i : Nat)), x4] := rfl
    rw [hg]
    dsimp only
    have ei : regL rg e (i :: is) = regL rg e [i] ++ regL rg e is := by
      rw [show i :: is = [i] ++ is from rfl]
      unfold regL
      rw [List.filterMap_append]
    rw [ei, fstC_app] at hn hr2
    obtain ⟨g, q⟩ := cr_step hr gF (hi i List.mem_cons_self) e0 e1 (e := e) x4
    rcases q with ⟨q, x4', eb⟩ | ⟨p, q, eb⟩
    · rw [eb]
      rw [q] at hn hr2
      refine cr_loop hr gF is _ _ (h ++ g) (fun j hj => hi j (List.mem_cons_of_mem _ hj)) (at_push e0) (at_push e1) (fun y3 y4 g2 z => ?_) fun p g2 z => ?_
      · rw [List.append_assoc]
        exact hn _ _ _ z
      · rw [List.append_assoc]
        exact hr2 _ _ z
    · rw [eb]
      rw [q] at hr2
      exact hr2 p g rfl
theorem cr_ok (hr : RgOk rg) (gF : GoodF F) {h : Heap} (e0 : h[nt]? = some (.ins 0 ((0, .ref nR) :: fs))) (e1 : h[nR]? = some (.lst (rg.map oF))) :
    ∃ g, m_Net__common_with_regions [.ref nt, .int (e : Nat), encF F] h = .ok (ov (fstC F (regL rg e (List.range 4)))) (h ++ g) := by
  have w : wR (m_Net__common_with_regions [.ref nt, .int (e : Nat), encF F] h) (fun _ _ => False) fun x h' => x = ov (fstC F (regL rg e (List.range 4))) ∧ Ext h h' := by
    rw [cr_cut]
    refine wRB rfl ?_
    simp -implicitDefEqProofs
    rw [show rangeV 0 4 = (List.range 4).map fun i : Nat => Val.int (i : Nat) from rangeV0 4]
    refine cr_loop hr gF (List.range 4) _ _ h (fun i hi => List.mem_range.mp hi) e0 e1 (fun x3 x4 g z => ?_) fun p g z => ?_
    · rw [z]
      exact ⟨rfl, _, rfl⟩
    · rw [z]
      exact ⟨rfl, _, rfl⟩
  obtain ⟨x, h', e, rfl, g, rfl⟩ := ex_of_wR w
  exact ⟨g, e⟩
end
end Lw

set_option Elab.async false
set_option linter.all false
set_option autoImplicit false
set_option maxHeartbeats 4000000
namespace PyM
/-- comprehensions over the images of a list; the items leave the heap longer at most -/
theorem wR_lcXL {α : Type} {chk : Heap → Bool} {tg : Val → En → Option En} {mt : En → Heap → Res Bool} {me : En → Heap → Res Val} {s0 : En} {E : Nat → Heap → Prop} {QU : Unit → Heap → Prop} {h : Heap} (enc : α → Val) (p : α → Bool) (f : α → Val) {L : List α} (hl : L.length < lim)
    (hc : ∀ h', Ext h h' → chk h' = true)
    (ht : ∀ x h', x ∈ L → Ext h h' → ∃ s2, tg (enc x) s0 = some s2 ∧ wR (mt s2 h') (fun _ _ => False) (fun b h1 => b = p x ∧ Ext h' h1 ∧ (p x = true → wR (me s2 h1) (fun _ _ => False) fun y h2 => y = f x ∧ Ext h1 h2)))
    (q : ∀ h', Ext h h' → h'[h.length]? = some (.lst ((L.filter p).map f)) → QU () h') : wR (lcM chk tg mt me s0 h.length (L.map enc) (h ++ [.lst []])) E QU := by
  refine wR_lcM (fun i acc h' => i ≤ L.length ∧ acc = ((L.take i).filter p).map f ∧ Ext h h' ∧ h'[h.length]? = some (.lst acc)) (L.map enc) 0 [] _ ⟨Nat.zero_le _, rfl, ⟨_, rfl⟩, at_len⟩ ?_ ?_
  · rintro i x0 acc h' _ hx0 ⟨hi, ea, ex, el⟩
    simp only [Nat.sub_zero, List.getElem?_map] at hx0
    obtain ⟨x, hx, rfl⟩ := Option.map_eq_some_iff.mp hx0
    have hlt : i < L.length := (List.getElem?_eq_some_iff.mp hx).1
    obtain ⟨s2, e, w1⟩ := ht x h' (List.mem_of_getElem? hx) ex
    refine ⟨hc h' ex, s2, e, wR_mono w1 ?_⟩
    rintro b h1 ⟨rfl, x1, w2⟩
    have tk : L.take (i + 1) = L.take i ++ [x] := by
      rw [List.take_add_one, hx]
      rfl
    have al : acc.length < lim := by
      rw [ea, List.length_map]
      have := List.length_filter_le p (L.take i)
      have := List.length_take_le i L
      omega
    by_cases hp : p x = true
    · rw [if_pos hp]
      refine wR_mono (w2 hp) ?_
      rintro y h2 ⟨rfl, x2⟩
      refine ⟨x2.at (x1.at el), al, hlt, ?_, ((ex.trans x1).trans x2).set (Nat.le_refl _) _, at_set (x2.at (x1.at el))⟩
      rw [tk, List.filter_append, List.map_append, ← ea]
      simp [hp]
    · rw [if_neg hp]
      refine ⟨hlt, ?_, ex.trans x1, x1.at el⟩
      rw [tk, List.filter_append, List.map_append, ← ea]
      simp [hp]
  · rintro acc h' ⟨_, ea, ex, el⟩
    refine ⟨hc _ ex, q h' ex ?_⟩
    rw [el, ea, Nat.zero_add, List.length_map, List.take_length]
end PyM
namespace Lw
open PyM
def m2A : En → Heap → RS := (sIf (tAn (tB_ (mB (oEq true) (mV 5) (mV 2))) (tB_ (mU (oIsN true) (mB oIx (mV 0) (mV 5))))) (sDrop (mBM bAppend (mV 4) (mCons (mB oIx (mV 0) (mV 5)) (mNil)))) (sNx))
def m2B : En → Heap → RS := (sIf (tB_ (mB (oEq true) (mB oIx (mB oIx (mV 1) (mV 6)) (mK (.int 0))) (mV 2))) (sDrop (mBM bAppend (mV 4) (mCons (mB oIx (mB oIx (mV 1) (mV 6)) (mK (.int 1))) (mNil)))) (sNx))
theorem m2_cut : m__law_meets_two = runB 4 8
    (sSeq (sAsg (gV 4) (mLst (mNil)))
    (sSeq (sFor (iRng1 (mCons (mK (.int 4)) (mNil))) (gV 5) m2A)
    (sSeq (sFor (iLst (mL bSorted2 (mCons (mV 1) (mNil)))) (gV 6) m2B)
    (sRet (mLc (iAlt (iLst (mV 4)) (iTup_ (mV 4))) (gV 7) (tB_ (mU (oIsN true) (mCall m_common [] (mCons (mV 3) (mCons (mV 7) (mNil)))))) (mV 7) [7]))))) := rfl
section
variable {rg : List (Option (List Te))} {A : Ad} {s : S} {e lR lr q r : Nat} {F : List Te} {D : K4} {h0 : Heap} {vF : Val}
theorem m2A_loop (hr : RgOk rg) (e0 : h0[lR]? = some (.lst (rg.map oF))) (hq : h0.length ≤ q) {x6 x7 : Option Val} : ∀ (is : List Nat) (x5 : Option Val) (h : Heap) (acc : List (List Te)), (∀ i ∈ is, i < 4) → acc.length + is.length ≤ 400 → Ext h0 h → h[q]? = some (.lst (acc.map encF)) →
    (∀ x5 h', Ext h0 h' → h'[q]? = some (.lst ((acc ++ regL rg e is).map encF)) → D.nx [some (.ref lR), some (.ref lr), some (.int (e : Nat)), some vF, some (.ref q), x5, x6, x7] h') →
    wS (forM_ (fun _ => true) (gV 5) m2A (is.map fun i : Nat => .int (i : Nat)) [some (.ref lR), some (.ref lr), some (.int (e : Nat)), some vF, some (.ref q), x5, x6, x7] h) D
  | [], x5, h, acc, _, _, ex, el, fin => by
    rw [List.map_nil, wS_forM_nil]
    refine ⟨rfl, fin x5 h ex ?_⟩
    rw [el]
    simp [regL]
  | i :: is, x5, h, acc, hi, hl, ex, el, fin => by
    rw [List.map_cons, wS_forM_cons]
    refine ⟨rfl, ?_⟩
    have hg : gV 5 (.int (i : Nat)) [some (.ref lR), some (.ref lr), some (.int (e : Nat)), some vF, some (.ref q), x5, x6, x7] = some [some (.ref lR), some (.ref lr), some (.int (e : Nat)), some vF, some (.ref q), some (.int (i : Nat)), x6, x7] := rfl
    rw [hg]
    dsimp only
    have ei : regL rg e (i :: is) = regL rg e [i] ++ regL rg e is := by
      rw [show i :: is = [i] ++ is from rfl]
      unfold regL
      rw [List.filterMap_append]
    rw [ei] at fin
    have ea := rg_at hr.1 (hi i List.mem_cons_self)
    have e1 := ex.at e0
    have hi' : ∀ j ∈ is, j < 4 := fun j hj => hi j (List.mem_cons_of_mem _ hj)
    simp only [List.length_cons] at hl
    have stay : regL rg e [i] = [] → m2A [some (.ref lR), some (.ref lr), some (.int (e : Nat)), some vF, some (.ref q), some (.int (i : Nat)), x6, x7] h = .nx [some (.ref lR), some (.ref lr), some (.int (e : Nat)), some vF, some (.ref q), some (.int (i : Nat)), x6, x7] h → wS (m2A [some (.ref lR), some (.ref lr), some (.int (e : Nat)), some vF, some (.ref q), some (.int (i : Nat)), x6, x7] h) { D with nx := fun s2 h2 => wS (forM_ (fun _ => true) (gV 5) m2A (is.map fun i : Nat => .int (i : Nat)) s2 h2) D, ct := fun s2 h2 => wS (forM_ (fun _ => true) (gV 5) m2A (is.map fun i : Nat => .int (i : Nat)) s2 h2) D, bk := D.nx } := fun z eb => by
      rw [eb]
      rw [z, List.nil_append] at fin
      exact m2A_loop hr e0 hq is _ h acc hi' (by omega) ex el fin
    by_cases he : i = e
    · refine stay (by simp [regL, he]) (eq_nx ?_)
      unfold m2A
      simp [he]
    · have he' : ¬ ((i : Int) = (e : Int)) := by omega
      cases qo : rg.getD i none with
      | none =>
        refine stay (by rw [regL_one he qo]; rfl) (eq_nx ?_)
        rw [qo] at ea
        have ea : L2.atI (rg.map oF) (i : Int) = some .non := ea
        unfold m2A
        simp [he', e1, ea]
      | some O =>
        rw [qo] at ea
        have ea : L2.atI (rg.map oF) (i : Int) = some (encF O) := ea
        have l1 : (acc.map encF).length < lim := by
          have : 400 < lim := by decide
          rw [List.length_map]
          omega
        have l1' : acc.length < lim := by simpa using l1
        have sq : (seqOf (.ref q) h).isSome = true := by simp [seqOf_at el]
        have eb : m2A [some (.ref lR), some (.ref lr), some (.int (e : Nat)), some vF, some (.ref q), some (.int (i : Nat)), x6, x7] h = .nx [some (.ref lR), some (.ref lr), some (.int (e : Nat)), some vF, some (.ref q), some (.int (i : Nat)), x6, x7] (h.set q (.lst ((acc ++ [O]).map encF))) := by
          refine eq_nx ?_
          unfold m2A
          simp [he', e1, ea, sq, el, l1']
          simp [encF]
        rw [eb]
        have er : regL rg e [i] = [O] := by rw [regL_one he qo]; rfl
        rw [er, ← List.append_assoc] at fin
        exact m2A_loop hr e0 hq is _ _ (acc ++ [O]) hi' (by simp; omega) (ex.set hq _) (at_set el) fin
theorem m2B_loop {N : List Int} (e0 : h0[lr]? = some (.dct (dI (lrowV A s) s.N))) (hq : h0.length ≤ q) (hqr : q ≠ r) {x5 x7 : Option Val} : ∀ (l : List Int) (x6 : Option Val) (h : Heap) (acc : List (List Te)), (∀ x ∈ l, x ∈ s.N) → acc.length + l.length ≤ 400 → Ext h0 h → h[q]? = some (.lst (acc.map encF)) → h[r]? = some (.lst (N.map .int)) →
    (∀ x6 h', Ext h0 h' → h'[q]? = some (.lst ((acc ++ othN s e l).map encF)) → D.nx [some (.ref lR), some (.ref lr), some (.int (e : Nat)), some vF, some (.ref q), x5, x6, x7] h') →
    wS (forM_ (lstIs r (N.map .int)) (gV 6) m2B (l.map .int) [some (.ref lR), some (.ref lr), some (.int (e : Nat)), some vF, some (.ref q), x5, x6, x7] h) D
  | [], x6, h, acc, _, _, ex, el, er, fin => by
    rw [List.map_nil, wS_forM_nil]
    refine ⟨lstIs_at er, fin x6 h ex ?_⟩
    rw [el]
    simp [othN]
  | x :: l, x6, h, acc, hi, hl, ex, el, er, fin => by
    rw [List.map_cons, wS_forM_cons]
    refine ⟨lstIs_at er, ?_⟩
    have hg : gV 6 (.int x) [some (.ref lR), some (.ref lr), some (.int (e : Nat)), some vF, some (.ref q), x5, x6, x7] = some [some (.ref lR), some (.ref lr), some (.int (e : Nat)), some vF, some (.ref q), x5, some (.int x), x7] := rfl
    rw [hg]
    dsimp only
    have e1 := ex.at e0
    have e2 := lookI_in (g := lrowV A s) (hi x List.mem_cons_self)
    have hi' : ∀ j ∈ l, j ∈ s.N := fun j hj => hi j (List.mem_cons_of_mem _ hj)
    simp only [List.length_cons] at hl
    by_cases he : s.E x = e
    · have eb : m2B [some (.ref lR), some (.ref lr), some (.int (e : Nat)), some vF, some (.ref q), x5, some (.int x), x7] h = .nx [some (.ref lR), some (.ref lr), some (.int (e : Nat)), some vF, some (.ref q), x5, some (.int x), x7] h := by
        refine eq_nx ?_
        unfold m2B
        simp [e1, e2, lrowV, he]
      rw [eb]
      have eo : othN s e (x :: l) = othN s e l := by simp [othN, he]
      rw [eo] at fin
      exact m2B_loop e0 hq hqr l _ h acc hi' (by omega) ex el er fin
    · have he' : ¬ ((s.E x : Int) = (e : Int)) := by omega
      have l1' : acc.length < lim := by
        have : 400 < lim := by decide
        omega
      have sq : (seqOf (.ref q) h).isSome = true := by simp [seqOf_at el]
      have eb : m2B [some (.ref lR), some (.ref lr), some (.int (e : Nat)), some vF, some (.ref q), x5, some (.int x), x7] h = .nx [some (.ref lR), some (.ref lr), some (.int (e : Nat)), some vF, some (.ref q), x5, some (.int x), x7] (h.set q (.lst ((acc ++ [s.F x]).map encF))) := by
        refine eq_nx ?_
        unfold m2B
        simp [e1, e2, lrowV, he', sq, el, l1']
      rw [eb]
      have eo : othN s e (x :: l) = [s.F x] ++ othN s e l := by simp [othN, he]
      rw [eo, ← List.append_assoc] at fin
      exact m2B_loop e0 hq hqr l _ _ (acc ++ [s.F x]) hi' (by simp; omega) (ex.set hq _) (at_set el) (by rw [at_set_ne hqr]; exact er) fin
theorem oth_good (hr : RgOk rg) (k : Ok s) : ∀ O ∈ Oth rg s e, GoodF O := by
  intro O hO
  rcases List.mem_append.mp hO with h | h
  · obtain ⟨i, hi, q⟩ := List.mem_filterMap.mp h
    split at q
    · cases q
    · exact rg_good hr q
  · obtain ⟨x, _, rfl⟩ := List.mem_map.mp h
    exact k.good x
theorem regL_len : (regL rg e (List.range 4)).length ≤ 4 := List.length_filterMap_le ..
theorem oth_len (k : Ok s) : (Oth rg s e).length ≤ 100 := by
  unfold Oth
  have h1 := regL_len (rg := rg) (e := e)
  have h2 : (othN s e s.N).length ≤ s.N.length := by
    unfold othN
    rw [List.length_map]
    exact List.length_filter_le ..
  have := k.l64
  rw [List.length_append]
  omega
theorem m2_ok (hr : RgOk rg) (gF : GoodF F) (k : Ok s) {h : Heap} (e0 : h[lR]? = some (.lst (rg.map oF))) (e1 : h[lr]? = some (.dct (dI (lrowV A s) s.N))) :
    ∃ q h', m__law_meets_two [.ref lR, .ref lr, .int (e : Nat), encF F] h = .ok (.ref q) h' ∧ Ext h h' ∧ h'[q]? = some (.lst (((Oth rg s e).filter fun O => (cmb F O).isSome).map encF)) := by
  have w : wR (m__law_meets_two [.ref lR, .ref lr, .int (e : Nat), encF F] h) (fun _ _ => False) fun x h' => ∃ q, x = .ref q ∧ Ext h h' ∧ h'[q]? = some (.lst (((Oth rg s e).filter fun O => (cmb F O).isSome).map encF)) := by
    rw [m2_cut]
    refine wRB rfl ?_
    have l64 := k.l64
    have l0 : 0 ≤ lim := Nat.zero_le _
    obtain ⟨MA, hA⟩ : ∃ X, X = m2A := ⟨_, rfl⟩
    obtain ⟨MB, hB⟩ : ∃ X, X = m2B := ⟨_, rfl⟩
    rw [← hA, ← hB]
    simp -implicitDefEqProofs [l0, gV]
    rw [show rangeV 0 4 = (List.range 4).map fun i : Nat => Val.int (i : Nat) from rangeV0 4, hA]
    refine m2A_loop hr e0 (Nat.le_refl _) (List.range 4) _ _ [] (fun i hi => List.mem_range.mp hi) (by simp) ⟨_, rfl⟩ at_len fun x5 h1 ex1 el1 => ?_
    have es := sortedI (ex1.at e1) l64 k.asc
    obtain ⟨H2, E2⟩ : ∃ H2, H2 = h1 ++ [Obj.lst (s.N.map .int)] := ⟨_, rfl⟩
    rw [← E2] at es
    have g2 : H2[h1.length]? = some (.lst (s.N.map .int)) := by rw [E2]; exact at_len
    have q2 : H2[h.length]? = some (.lst ((regL rg e (List.range 4)).map encF)) := by
      rw [E2]
      exact at_push (by simpa using el1)
    simp -implicitDefEqProofs [es, g2]
    rw [hB]
    have lq := at_lt el1
    refine m2B_loop (N := s.N) (q := h.length) e1 (Nat.le_refl _) (show h.length ≠ h1.length by omega) s.N _ _ (regL rg e (List.range 4)) (fun _ h => h) (by have := regL_len (rg := rg) (e := e); omega) (ex1.trans ⟨_, E2⟩) q2 g2 fun x6 h3 ex3 el3 => ?_
    simp -implicitDefEqProofs [el3]
    have ol := oth_len (rg := rg) (e := e) k
    have og := oth_good (rg := rg) (e := e) hr k
    have em : (regL rg e (List.range 4)).map encF ++ (othN s e s.N).map encF = (Oth rg s e).map encF := by
      unfold Oth
      rw [List.map_append]
    rw [em]
    have el3 : h3[h.length]? = some (.lst ((Oth rg s e).map encF)) := el3
    refine wR_lcXL encF (fun O => (cmb F O).isSome) encF (by have : 100 < lim := by decide
                                                             omega) (fun h' ex => lstIs_at (ex.at el3)) (fun O h' hO ex => ?_) fun h' ex el => ?_
    · obtain ⟨g, ec⟩ := common_eq (h := h') gF (og O hO)
      refine ⟨_, rfl, ?_⟩
      simp -implicitDefEqProofs [wipeE, gV, ec]
      cases qc : cmb F O with
      | none => exact ⟨rfl, ⟨g, rfl⟩, by simp⟩
      | some p => exact ⟨rfl, ⟨g, rfl⟩, fun _ => Ext.refl _⟩
    · exact ⟨ex3.trans ex, el⟩
  obtain ⟨x, h', e, q, rfl, r⟩ := ex_of_wR w
  exact ⟨q, h', e, r⟩
end
end Lw

set_option Elab.async false
set_option linter.all false
set_option autoImplicit false
set_option maxHeartbeats 4000000
namespace Lw
open PyM
def enB : En → Heap → RS := (sSeq (sAsg (gT (gsCons (gV 5) (gsCons (gV 6) (gsNil)))) (mB oIx (mU (getF 2) (mV 0)) (mV 4)))
    (sIf (tB_ (mB (oEq true) (mV 5) (mV 1))) (sSeq (sAsg (gV 3) (mCall m_common [] (mCons (mV 2) (mCons (mV 6) (mNil)))))
    (sIf (tB_ (mU (oIsN true) (mV 3))) (sRet (mV 3)) (sNx))) (sNx)))
def enE1 : En → Heap → RS := (sFldA 0 1 (oI fun i j => .int (i + j)) (mV 0) (mK (.int 1)))
def enE2 : En → Heap → RS := (sSub (mU (getF 2) (mV 0)) (mU (getF 1) (mV 0)) (mTup (mCons (mV 1) (mCons (mV 2) (mNil)))))
def enE3 : En → Heap → RS := (sSub (mU (getF 3) (mV 0)) (mU (getF 1) (mV 0)) (mLst (mNil)))
def enE4 : En → Heap → RS := (sFld 0 4 (mV 0) (mCall m_with_filter [] (mCons (mU (getF 4) (mV 0)) (mCons (mU (getF 1) (mV 0)) (mCons (mV 2) (mNil))))))
theorem en_cut : m_Net_enroll = runB 3 7
    (sSeq (sIf (tNo (tTr (mCall m_is_filter [] (mCons (mV 2) (mNil))))) (sRaise 2) (sNx))
    (sSeq (sAsg (gV 3) (mMeth 0 m_Net__common_with_regions [] (mV 0) (mCons (mV 1) (mCons (mV 2) (mNil)))))
    (sSeq (sIf (tB_ (mU (oIsN true) (mV 3))) (sRet (mV 3)) (sNx))
    (sSeq (sFor (iLst (mL bSorted2 (mCons (mU (getF 2) (mV 0)) (mNil)))) (gV 4) enB)
    (sSeq enE1 (sSeq enE2 (sSeq enE3 (sSeq enE4 (sRet (mU (getF 1) (mV 0))))))))))) := rfl
section
variable {rg : List (Option (List Te))} {A : Ad} {s s' : S} {e : Nat} {F : List Te} {h : Heap} {p a : Nat} {ns : List Int}
def sNew (s : S) (e : Nat) (F : List Te) : S := { s with N := s.N ++ [(s.m : Int) + 1], E := fu s.E ((s.m : Int) + 1) e, F := fu s.F ((s.m : Int) + 1) F, P := fu s.P ((s.m : Int) + 1) [], m := s.m + 1 }
theorem Ok.fresh (k : Ok s) : ((s.m : Int) + 1) ∉ s.N := fun q => by have := (k.le _ q).2; omega
theorem Ok.new (k : Ok s) (gF : GoodF F) (hm : s.m + 1 < 64) : Ok (sNew s e F) := by
  refine ⟨?_, fun x hx => ?_, ?_, fun x => ?_, hm, fun x => ?_⟩
  · show Asc (s.N ++ [(s.m : Int) + 1])
    refine List.pairwise_append.mpr ⟨k.asc, List.pairwise_singleton _ _, fun x hx y hy => ?_⟩
    rw [List.mem_singleton.mp hy]
    have := (k.le x hx).2
    show decide (x < (s.m : Int) + 1) = true
    simp
    omega
  · rcases List.mem_append.mp (show x ∈ s.N ++ [(s.m : Int) + 1] from hx) with hx | hx
    · have := k.le x hx
      show 1 ≤ x ∧ x ≤ ((s.m + 1 : Nat) : Int)
      omega
    · rw [List.mem_singleton.mp hx]
      show 1 ≤ (s.m : Int) + 1 ∧ (s.m : Int) + 1 ≤ ((s.m + 1 : Nat) : Int)
      omega
  · show (s.N ++ [(s.m : Int) + 1]).length ≤ s.m + 1
    have := k.len
    simp
    omega
  · show GoodF (fu s.F ((s.m : Int) + 1) F x)
    unfold fu
    split
    · exact gF
    · exact k.good x
  · show (fu s.P ((s.m : Int) + 1) [] x).length ≤ 8
    unfold fu
    split
    · simp
    · exact k.p8 x
theorem gT2 {x y : Val} {x0 x1 x2 x3 x4 x5 x6 : Option Val} : gT (gsCons (gV 5) (gsCons (gV 6) gsNil)) (.tup [x, y]) [x0, x1, x2, x3, x4, x5, x6] = some [x0, x1, x2, x3, x4, some x, some y] := rfl
theorem enB_step (gF : GoodF F) (k : Ok s) {x : Int} (hx : x ∈ s.N) (e0 : h[A.nt]? = some (netO A s)) (e1 : h[A.rw_]? = some (.dct (dI (rowV s) s.N))) (x3 x5 x6 : Option Val) :
    ∃ g, (fstC F (othN s e [x]) = none ∧ ∃ x3' x5' x6', enB [some (.ref A.nt), some (.int (e : Nat)), some (encF F), x3, some (.int x), x5, x6] h = .nx [some (.ref A.nt), some (.int (e : Nat)), some (encF F), x3', some (.int x), x5', x6'] (h ++ g))
      ∨ (∃ p, fstC F (othN s e [x]) = some p ∧ enB [some (.ref A.nt), some (.int (e : Nat)), some (encF F), x3, some (.int x), x5, x6] h = .rt (pkV p) (h ++ g)) := by
  have e2 := lookI_in (g := rowV s) hx
  unfold netO at e0
  by_cases he : s.E x = e
  · refine ⟨[], .inl ⟨by simp [othN, he, fstC], x3, some (.int (e : Nat)), some (encF (s.F x)), ?_⟩⟩
    rw [List.append_nil]
    refine eq_nx ?_
    unfold enB
    simp [e0, PyM.lookF, e1, e2, rowV, gT2, he]
  · have he' : ¬ ((s.E x : Int) = (e : Int)) := by omega
    obtain ⟨g, ec⟩ := common_eq (h := h) gF (k.good x)
    have er : fstC F (othN s e [x]) = cmb F (s.F x) := by
      have : othN s e [x] = [s.F x] := by simp [othN, he]
      rw [this]
      exact fst_one
    refine ⟨g, ?_⟩
    rw [er]
    cases qc : cmb F (s.F x) with
    | none =>
      rw [qc] at ec
      refine .inl ⟨rfl, some .non, some (.int (s.E x : Nat)), some (encF (s.F x)), eq_nx ?_⟩
      have ec : m_common [encF F, encF (s.F x)] h = .ok .non (h ++ g) := ec
      unfold enB
      simp [e0, PyM.lookF, e1, e2, rowV, gT2, he', ec, gV]
    | some p =>
      rw [qc] at ec
      refine .inr ⟨p, rfl, eq_rt ?_⟩
      have ec : m_common [encF F, encF (s.F x)] h = .ok (pkV p) (h ++ g) := ec
      unfold enB
      simp [e0, PyM.lookF, e1, e2, rowV, gT2, he', ec, gV]
      simp [pkV]
theorem enB_loop (gF : GoodF F) (k : Ok s) {D : K4} {N : List Int} {q : Nat} : ∀ (l : List Int) (x3 x4 x5 x6 : Option Val) (h : Heap), (∀ x ∈ l, x ∈ s.N) → h[A.nt]? = some (netO A s) → h[A.rw_]? = some (.dct (dI (rowV s) s.N)) → h[q]? = some (.lst (N.map .int)) →
    (∀ x3 x4 x5 x6 g, fstC F (othN s e l) = none → D.nx [some (.ref A.nt), some (.int (e : Nat)), some (encF F), x3, x4, x5, x6] (h ++ g)) →
    (∀ p g, fstC F (othN s e l) = some p → D.rt (pkV p) (h ++ g)) →
    wS (forM_ (lstIs q (N.map .int)) (gV 4) enB (l.map .int) [some (.ref A.nt), some (.int (e : Nat)), some (encF F), x3, x4, x5, x6] h) D
  | [], x3, x4, x5, x6, h, _, _, _, eq, hn, _ => by
    rw [List.map_nil, wS_forM_nil]
    have := hn x3 x4 x5 x6 [] rfl
    rw [List.append_nil] at this
    exact ⟨lstIs_at eq, this⟩
  | x :: l, x3, x4, x5, x6, h, hi, e0, e1, eq, hn, hr2 => by
    rw [List.map_cons, wS_forM_cons]
    refine ⟨lstIs_at eq, ?_⟩
    have hg : gV 4 (.int x) [some (.ref A.nt), some (.int (e : Nat)), some (encF F), x3, x4, x5, x6] = some [some (.ref A.nt), some (.int (e : Nat)), some (encF F), x3, some (.int x), x5, x6] := rfl
    rw [hg]
    dsimp only
    have ei : othN s e (x :: l) = othN s e [x] ++ othN s e l := by
      rw [show x :: l = [x] ++ l from rfl]
      unfold othN
      rw [List.filter_append, List.map_append]
    rw [ei, fstC_app] at hn hr2
    obtain ⟨g, q⟩ := enB_step (e := e) gF k (hi x List.mem_cons_self) e0 e1 x3 x5 x6
    rcases q with ⟨q, x3', x5', x6', eb⟩ | ⟨p, q, eb⟩
    · rw [eb]
      rw [q] at hn hr2
      refine enB_loop gF k l _ _ _ _ (h ++ g) (fun j hj => hi j (List.mem_cons_of_mem _ hj)) (at_push e0) (at_push e1) (at_push eq) (fun y3 y4 y5 y6 g2 z => ?_) fun p g2 z => ?_
      · rw [List.append_assoc]
        exact hn _ _ _ _ _ z
      · rw [List.append_assoc]
        exact hr2 _ _ z
    · rw [eb]
      rw [q] at hr2
      exact hr2 p g rfl
theorem rsN_congr {A' : Ad} {s1 : S} (hN : s1.N = s.N) (h : ∀ x ∈ s.N, A'.RA x = A.RA x ∧ s1.P x = s.P x) : rsN A' s1 = rsN A s := by
  unfold rsN
  rw [hN]
  exact List.map_congr_left fun x hx => by rw [(h x hx).1, (h x hx).2]
theorem rsN_new (k : Ok s) {q : Nat} : rsN { A with RA := fu A.RA ((s.m : Int) + 1) q } (sNew s e F) = rsN A s ++ [(q, .lst [])] := by
  unfold rsN sNew
  simp only
  rw [List.map_append]
  congr 1
  · refine List.map_congr_left fun x hx => ?_
    have : x ≠ (s.m : Int) + 1 := fun z => k.fresh (z ▸ hx)
    rw [fu_ne this, fu_ne this]
  · simp [fu_at]
theorem perm_ring {fx1 M L : Nodes} {y : Nat × Obj} : (y :: (fx1 ++ (M ++ L))).Perm (fx1 ++ ((M ++ [y]) ++ L)) := by
  rw [show (M ++ [y]) ++ L = M ++ y :: L by simp]
  refine List.Perm.trans ?_ (List.Perm.append_left _ List.perm_middle.symm)
  exact List.perm_middle.symm
theorem enE_ok (gF : GoodF F) (k : Ok s) (hm : s.m + 1 < 64) (T0 : Tn p a ns (nodes A rg s s') h) (x3 x4 x5 x6 : Option Val) :
    ∃ q h', wS ((sSeq enE1 (sSeq enE2 (sSeq enE3 (sSeq enE4 (sRet (mU (getF 1) (mV 0))))))) [some (.ref A.nt), some (.int (e : Nat)), some (encF F), x3, x4, x5, x6] h) { nx := fun _ _ => False, rt := fun x h2 => x = .int ((s.m : Int) + 1) ∧ h2 = h' } ∧
      Tn p a ns (nodes { A with RA := fu A.RA ((s.m : Int) + 1) q } rg (sNew s e F) s') h' ∧ Fs [A.nt, A.rw_, A.rg] h h' := by
  obtain ⟨v, hv⟩ : ∃ v : Int, v = (s.m : Int) + 1 := ⟨_, rfl⟩
  have fr : v ∉ s.N := hv ▸ k.fresh
  have l64 := k.l64
  have lk : 64 < lim := by decide
  have l2 : 2 ≤ lim := by decide
  obtain ⟨o1, ho1⟩ : ∃ o : Obj, o = .ins 0 [(0, .ref A.nR), (1, .int v), (2, .ref A.rw_), (3, .ref A.rg), (4, T 6 (fsOf s.F s.N)), (5, .ref A.gn), (6, .int (s.lo : Nat))] := ⟨_, rfl⟩
  obtain ⟨o2, ho2⟩ : ∃ o : Obj, o = .dct (dI (fu (rowV s) v (.tup [.int (e : Nat), encF F])) (s.N ++ [v])) := ⟨_, rfl⟩
  have T1 := Tn_set (j := 0) T0 rfl o1
  have T2 := Tn_set (j := 2) T1 rfl o2
  obtain ⟨H1, E1⟩ : ∃ H, H = h.set A.nt o1 := ⟨_, rfl⟩
  obtain ⟨H2, E2⟩ : ∃ H, H = H1.set A.rw_ o2 := ⟨_, rfl⟩
  rw [← E1] at T1 T2
  rw [← E2] at T2
  have T3 := Tn_new T2 (.lst [])
  obtain ⟨H3, E3⟩ : ∃ H, H = H2 ++ [Obj.lst []] := ⟨_, rfl⟩
  rw [← E3] at T3
  obtain ⟨o4, ho4⟩ : ∃ o : Obj, o = .dct (dI (fu (ringV A) v (.ref H2.length)) (s.N ++ [v])) := ⟨_, rfl⟩
  have T4 := Tn_set (j := 4) T3 rfl o4
  obtain ⟨H4, E4⟩ : ∃ H, H = H3.set A.rg o4 := ⟨_, rfl⟩
  rw [← E4] at T4
  have gF2 : ∀ x, GoodF (fu s.F v F x) := fun x => by
    unfold fu
    split
    · exact gF
    · exact k.good x
  obtain ⟨g, ew⟩ := wfF gF2 fr (by omega) H4
  have efs : fsOf (fu s.F v F) s.N = fsOf s.F s.N := fs_congr fun x hx => fu_ne fun z => fr (z ▸ hx)
  rw [efs, fu_at] at ew
  have T5 := T4.ext ⟨g, rfl⟩
  obtain ⟨o6, ho6⟩ : ∃ o : Obj, o = .ins 0 [(0, .ref A.nR), (1, .int v), (2, .ref A.rw_), (3, .ref A.rg), (4, T 6 (fsOf (fu s.F v F) (v :: s.N))), (5, .ref A.gn), (6, .int (s.lo : Nat))] := ⟨_, rfl⟩
  have T6 := Tn_set (j := 1) T5 rfl o6
  have g0 : h[A.nt]? = some (netO A s) := T0.on.get (i := 0) rfl
  unfold netO at g0
  have g1 : H1[A.nt]? = some o1 := T1.on.get (i := 0) rfl
  have g1b : H1[A.rw_]? = some (.dct (dI (rowV s) s.N)) := T1.on.get (i := 2) rfl
  have g2 : H2[A.nt]? = some o1 := T2.on.get (i := 0) rfl
  have g3 : H3[A.nt]? = some o1 := T3.on.get (i := 1) rfl
  have g3b : H3[A.rg]? = some (.dct (dI (ringV A) s.N)) := T3.on.get (i := 4) rfl
  have g4 : H4[A.nt]? = some o1 := T4.on.get (i := 1) rfl
  have g5 : (H4 ++ g)[A.nt]? = some o1 := T5.on.get (i := 1) rfl
  have a1 : enE1 [some (.ref A.nt), some (.int (e : Nat)), some (encF F), x3, x4, x5, x6] h = .nx [some (.ref A.nt), some (.int (e : Nat)), some (encF F), x3, x4, x5, x6] H1 := by
    refine eq_nx ?_
    unfold enE1
    rw [E1, ho1, hv]
    simp [isIns, g0, PyM.lookF, setF]
  have ll : (dI (rowV s) s.N).length < lim := by rw [dI_len]; omega
  have ll2 : (dI (ringV A) s.N).length < lim := by rw [dI_len]; omega
  have a2 : enE2 [some (.ref A.nt), some (.int (e : Nat)), some (encF F), x3, x4, x5, x6] H1 = .nx [some (.ref A.nt), some (.int (e : Nat)), some (encF F), x3, x4, x5, x6] H2 := by
    refine eq_nx ?_
    unfold enE2
    rw [E2, ho2]
    rw [ho1] at g1
    simp [g1, PyM.lookF, l2, g1b, ll, putI fr]
  have a3 : enE3 [some (.ref A.nt), some (.int (e : Nat)), some (encF F), x3, x4, x5, x6] H2 = .nx [some (.ref A.nt), some (.int (e : Nat)), some (encF F), x3, x4, x5, x6] H4 := by
    refine eq_nx ?_
    unfold enE3
    rw [E4, ho4]
    rw [ho1] at g3
    rw [E3] at g3 g3b ⊢
    simp [g3, PyM.lookF, g3b, ll2, putI fr]
  have a4 : enE4 [some (.ref A.nt), some (.int (e : Nat)), some (encF F), x3, x4, x5, x6] H4 = .nx [some (.ref A.nt), some (.int (e : Nat)), some (encF F), x3, x4, x5, x6] ((H4 ++ g).set A.nt o6) := by
    refine eq_nx ?_
    unfold enE4
    rw [ho6]
    rw [ho1] at g4 g5
    simp [g4, PyM.lookF, ew, g5, setF]
  have g6 : ((H4 ++ g).set A.nt o6)[A.nt]? = some o6 := T6.on.get (i := 1) rfl
  have fs : Fs [A.nt, A.rw_, A.rg] h ((H4 ++ g).set A.nt o6) := by
    rw [E4, E3, E2, E1]
    exact ((((((Fs.refl _ h).set (by simp) o1).set (by simp) o2).push _).set (by simp) o4).push _).set (by simp) o6
  refine ⟨H2.length, (H4 ++ g).set A.nt o6, ?_, ?_, fs⟩
  · obtain ⟨q1, h1⟩ : ∃ X, X = enE1 := ⟨_, rfl⟩
    obtain ⟨q2, h2⟩ : ∃ X, X = enE2 := ⟨_, rfl⟩
    obtain ⟨q3, h3⟩ : ∃ X, X = enE3 := ⟨_, rfl⟩
    obtain ⟨q4, h4⟩ : ∃ X, X = enE4 := ⟨_, rfl⟩
    rw [← h1] at a1 ⊢
    rw [← h2] at a2 ⊢
    rw [← h3] at a3 ⊢
    rw [← h4] at a4 ⊢
    rw [ho6] at g6
    simp [a1, a2, a3, a4]
    rw [← ho6] at g6
    simp [g6]
    rw [ho6]
    simp [PyM.lookF, hv]
  · have e1 : rsN { A with RA := fu A.RA v H2.length } (sNew s e F) = rsN A s ++ [(H2.length, .lst [])] := by
      rw [hv]
      exact rsN_new k
    have pm := perm_ring (fx1 := fx { A with RA := fu A.RA v H2.length } rg (sNew s e F) s') (M := rsN A s) (L := rsL A s') (y := (H2.length, .lst []))
    rw [← e1] at pm
    rw [← hv]
    refine Tn.perm ?_ pm
    have en : netO { A with RA := fu A.RA v H2.length } (sNew s e F) = o6 := by
      rw [ho6]
      unfold netO sNew
      have : T 6 (fsOf (fu s.F v F) (s.N ++ [v])) = T 6 (fsOf (fu s.F v F) (v :: s.N)) := fs_perm (by simpa using (List.perm_append_comm (l₁ := s.N) (l₂ := [v])))
      simp only
      rw [← hv, this]
      have : ((s.m + 1 : Nat) : Int) = v := by omega
      rw [this]
    have er : dI (rowV (sNew s e F)) (sNew s e F).N = dI (fu (rowV s) v (.tup [.int (e : Nat), encF F])) (s.N ++ [v]) := by
      have : (sNew s e F).N = s.N ++ [v] := by rw [hv]; rfl
      rw [this]
      refine dI_congr fun x _ => ?_
      unfold rowV sNew fu
      simp only
      rw [← hv]
      split <;> rfl
    have eg : dI (ringV { A with RA := fu A.RA v H2.length }) (sNew s e F).N = dI (fu (ringV A) v (.ref H2.length)) (s.N ++ [v]) := by
      have : (sNew s e F).N = s.N ++ [v] := by rw [hv]; rfl
      rw [this]
      refine dI_congr fun x _ => ?_
      unfold ringV fu
      simp only
      split <;> rfl
    have ef : fx { A with RA := fu A.RA v H2.length } rg (sNew s e F) s' = [(A.nt, o6), (A.nR, .lst (rg.map oF)), (A.rw_, o2), (A.rg, o4), (A.gn, .lst (s.G.map pkV)), (A.lR, .lst (rg.map oF)), (A.lr, .dct (dI (lrowV A s') s'.N)), (A.ls, .lst [.int (s'.m : Nat), .int (s'.lo : Nat)]), (A.lt, .lst (s'.G.map pkV))] := by
      unfold fx
      rw [en, er, eg, ho2, ho4]
      rfl
    rw [ef]
    exact T6
end
end Lw

set_option Elab.async false
set_option linter.all false
set_option autoImplicit false
set_option maxHeartbeats 4000000
namespace Lw
open PyM
section
variable {rg : List (Option (List Te))} {A : Ad} {s s' : S} {e : Nat} {F : List Te} {h : Heap} {p a : Nat} {ns : List Int}
structure EnQ (p a : Nat) (ns : List Int) (A : Ad) (rg : List (Option (List Te))) (s s' : S) (e : Nat) (F : List Te) (x : Val) (h h' : Heap) : Prop where
  f : Fs [A.nt, A.rw_, A.rg] h h'
  q : (∃ pk, fstC F (Oth rg s e) = some pk ∧ x = pkV pk ∧ Tn p a ns (nodes A rg s s') h') ∨
    (fstC F (Oth rg s e) = none ∧ x = .int ((s.m : Int) + 1) ∧ ∃ q, Tn p a ns (nodes { A with RA := fu A.RA ((s.m : Int) + 1) q } rg (sNew s e F) s') h')
theorem enroll_ok (hr : RgOk rg) (gF : GoodF F) (k : Ok s) (hm : s.m + 1 < 64) (T0 : Tn p a ns (nodes A rg s s') h) :
    ∃ x h', m_Net_enroll [.ref A.nt, .int (e : Nat), encF F] h = .ok x h' ∧ EnQ p a ns A rg s s' e F x h h' := by
  have w : wR (m_Net_enroll [.ref A.nt, .int (e : Nat), encF F] h) (fun _ _ => False) (fun x h' => EnQ p a ns A rg s s' e F x h h') := by
    rw [en_cut]
    refine wRB rfl ?_
    obtain ⟨g1, ef⟩ := isf_eq gF (h := h)
    have T1 := T0.ext (h' := h ++ g1) ⟨g1, rfl⟩
    obtain ⟨H1, E1⟩ : ∃ H, H = h ++ g1 := ⟨_, rfl⟩
    rw [← E1] at T1 ef
    have n1 : H1[A.nt]? = some (netO A s) := T1.on.get (i := 0) rfl
    have n1b : H1[A.nR]? = some (.lst (rg.map oF)) := T1.on.get (i := 1) rfl
    unfold netO at n1
    obtain ⟨g2, ec⟩ := cr_ok (e := e) hr gF n1 n1b
    have T2 := T1.ext (h' := H1 ++ g2) ⟨g2, rfl⟩
    obtain ⟨H2, E2⟩ : ∃ H, H = H1 ++ g2 := ⟨_, rfl⟩
    rw [← E2] at T2 ec
    have x12 : Ext h H2 := Ext.trans ⟨g1, E1⟩ ⟨g2, E2⟩
    have n2 : H2[A.nt]? = some (netO A s) := T2.on.get (i := 0) rfl
    have n2b : H2[A.rw_]? = some (.dct (dI (rowV s) s.N)) := T2.on.get (i := 2) rfl
    have es := sortedI n2b k.l64 k.asc
    have T3 := T2.ext (h' := H2 ++ [Obj.lst (s.N.map .int)]) ⟨_, rfl⟩
    obtain ⟨H3, E3⟩ : ∃ H, H = H2 ++ [Obj.lst (s.N.map .int)] := ⟨_, rfl⟩
    have g3 : H3[H2.length]? = some (.lst (s.N.map .int)) := by rw [E3]; exact at_len
    rw [← E3] at T3 es
    have n3 : H3[A.nt]? = some (netO A s) := T3.on.get (i := 0) rfl
    have n3b : H3[A.rw_]? = some (.dct (dI (rowV s) s.N)) := T3.on.get (i := 2) rfl
    obtain ⟨B, hB⟩ : ∃ X, X = enB := ⟨_, rfl⟩
    obtain ⟨EE, hE⟩ : ∃ X, X = (sSeq enE1 (sSeq enE2 (sSeq enE3 (sSeq enE4 (sRet (mU (getF 1) (mV 0))))))) := ⟨_, rfl⟩
    rw [← hB, ← hE]
    unfold netO at n2
    have ii : isIns 0 (.ref A.nt) H1 = true := by simp [isIns, n1]
    have ef' : m_is_filter [encF F] h = .ok (.bl true) H1 := ef
    have fO : fstC F (Oth rg s e) = (fstC F (regL rg e (List.range 4))).or (fstC F (othN s e s.N)) := fstC_app
    cases qr : fstC F (regL rg e (List.range 4)) with
    | some pk =>
      rw [qr] at ec fO
      have ec : m_Net__common_with_regions [.ref A.nt, .int (e : Nat), encF F] H1 = .ok (pkV pk) H2 := ec
      simp -implicitDefEqProofs [ef', truth, ii, ec, gV]
      simp -implicitDefEqProofs [pkV]
      exact ⟨x12.fs _, .inl ⟨pk, fO, rfl, T2⟩⟩
    | none =>
      rw [qr] at ec fO
      have fO : fstC F (Oth rg s e) = fstC F (othN s e s.N) := fO
      have ec : m_Net__common_with_regions [.ref A.nt, .int (e : Nat), encF F] H1 = .ok .non H2 := ec
      simp -implicitDefEqProofs [ef', truth, ii, ec, gV, n2, PyM.lookF, es, g3]
      rw [hB]
      refine enB_loop gF k (N := s.N) s.N _ _ _ _ H3 (fun _ h => h) n3 n3b g3 (fun x3 x4 x5 x6 g z => ?_) fun pk g z => ?_
      · have T4 := T3.ext (h' := H3 ++ g) ⟨g, rfl⟩
        obtain ⟨q, h', w, T5, f5⟩ := enE_ok (e := e) gF k hm T4 x3 x4 x5 x6
        rw [hE]
        refine wS_mono w (fun _ _ q => q.elim) (fun v h2 hv => ?_) (fun _ _ q => q.elim) (fun _ _ q => q.elim) (fun _ _ q => q.elim)
        obtain ⟨rfl, rfl⟩ := hv
        exact ⟨(((x12.trans ⟨_, E3⟩).trans ⟨g, rfl⟩).fs _).trans f5, .inr ⟨by rw [fO, z], rfl, q, T5⟩⟩
      · exact ⟨((x12.trans ⟨_, E3⟩).trans ⟨g, rfl⟩).fs _, .inl ⟨pk, by rw [fO, z], rfl, T3.ext ⟨g, rfl⟩⟩⟩
  obtain ⟨x, h', e, q⟩ := ex_of_wR w
  exact ⟨x, h', e, q⟩
theorem fst_none {F : List Te} {Os : List (List Te)} : fstC F Os = none ↔ (Os.filter fun O => (cmb F O).isSome) = [] := by
  unfold fstC
  rw [List.findSome?_eq_none_iff, List.filter_eq_nil_iff]
  simp
theorem fst_some {F : List Te} {Os : List (List Te)} {pk : List Nat} (h : fstC F Os = some pk) : ∃ O ∈ Os, cmb F O = some pk := by
  unfold fstC at h
  obtain ⟨O, h1, h2⟩ := List.exists_of_findSome?_eq_some h
  exact ⟨O, h1, h2⟩
theorem rsL_new (k : Ok s) {q : Nat} : rsL { A with LA := fu A.LA ((s.m : Int) + 1) q } (sNew s e F) = rsL A s ++ [(q, .lst [])] := by
  unfold rsL sNew
  simp only
  rw [List.map_append]
  congr 1
  · refine List.map_congr_left fun x hx => ?_
    have : x ≠ (s.m : Int) + 1 := fun z => k.fresh (z ▸ hx)
    rw [fu_ne this, fu_ne this]
  · simp [fu_at]
theorem perm_ringL {fx1 M L : Nodes} {y : Nat × Obj} : (y :: (fx1 ++ (M ++ L))).Perm (fx1 ++ (M ++ (L ++ [y]))) := by
  have : fx1 ++ (M ++ (L ++ [y])) = (fx1 ++ (M ++ L)) ++ [y] := by simp
  rw [this]
  exact (List.perm_append_comm (l₁ := [y]) (l₂ := fx1 ++ (M ++ L)))
def leA : En → Heap → RS := (sSubA (oI fun i j => .int (i + j)) (mV 4) (mK (.int 0)) (mK (.int 1)))
def leB : En → Heap → RS := (sSub (mV 3) (mB oIx (mV 4) (mK (.int 0))) (mTup (mCons (mV 5) (mCons (mV 6) (mCons (mLst (mNil)) (mNil))))))
def leC : En → Heap → RS := (sSeq leA (sSeq leB (sRet (mAn (mIsi .int (mV 8)) (mB (oEq false) (mV 8) (mB oIx (mV 4) (mK (.int 0))))))))
def leD : En → Heap → RS := (sIf (tTr (mV 7)) (sRet (mAn (mCall m_is_packet [] (mCons (mV 8) (mNil))) (mAn (mCall m_meets [] (mCons (mV 6) (mCons (mV 8) (mNil)))) (mB oGt (mL bLen (mCons (mLc (iAlt (iLst (mV 7)) (iTup_ (mV 7))) (gV 9) (tTr (mCall m_meets [] (mCons (mV 9) (mCons (mV 8) (mNil))))) (mK (.int 1)) [9]) (mNil))) (mK (.int 0)))))) (sNx))
theorem le_cut : m__law_enroll = runB 5 10
    (sSeq (sAsg (gV 5) (mCall m__law_next [] (mCons (mV 0) (mCons (mK (.int 4)) (mNil)))))
    (sSeq (sAsg (gV 6) (mCall m__law_filter [] (mCons (mV 0) (mCons (mV 5) (mNil)))))
    (sSeq (sAsg (gV 7) (mCall m__law_meets_two [] (mCons (mV 2) (mCons (mV 3) (mCons (mV 5) (mCons (mV 6) (mNil)))))))
    (sSeq (sAsg (gV 8) (mMeth 0 m_Net_enroll [] (mV 1) (mCons (mV 5) (mCons (mV 6) (mNil)))))
    (sSeq leD leC))))) := rfl
theorem leC_ok (k : Ok s) (T0 : Tn p a ns (nodes A rg s' s) h) (x0 x1 x2 : Option Val) (x7 x9 : Option Val) :
    ∃ q h', wS (leC [x0, x1, x2, some (.ref A.lr), some (.ref A.ls), some (.int (e : Nat)), some (encF F), x7, some (.int ((s.m : Int) + 1)), x9] h) { nx := fun _ _ => False, rt := fun x h2 => x = .bl true ∧ h2 = h' } ∧
      Tn p a ns (nodes { A with LA := fu A.LA ((s.m : Int) + 1) q } rg s' (sNew s e F)) h' := by
  obtain ⟨v, hv⟩ : ∃ v : Int, v = (s.m : Int) + 1 := ⟨_, rfl⟩
  have fr : v ∉ s.N := hv ▸ k.fresh
  have l64 := k.l64
  have lk : 64 < lim := by decide
  have l3 : 3 ≤ lim := by decide
  have l0 : 0 ≤ lim := Nat.zero_le _
  obtain ⟨o1, ho1⟩ : ∃ o : Obj, o = .lst [.int v, .int (s.lo : Nat)] := ⟨_, rfl⟩
  have T1 := Tn_set (j := 7) T0 rfl o1
  obtain ⟨H1, E1⟩ : ∃ H, H = h.set A.ls o1 := ⟨_, rfl⟩
  rw [← E1] at T1
  have T2 := Tn_new T1 (.lst [])
  obtain ⟨H2, E2⟩ : ∃ H, H = H1 ++ [Obj.lst []] := ⟨_, rfl⟩
  rw [← E2] at T2
  obtain ⟨o3, ho3⟩ : ∃ o : Obj, o = .dct (dI (fu (lrowV A s) v (.tup [.int (e : Nat), encF F, .ref H1.length])) (s.N ++ [v])) := ⟨_, rfl⟩
  have T3 := Tn_set (j := 7) T2 rfl o3
  have g0 : h[A.ls]? = some (.lst [.int (s.m : Nat), .int (s.lo : Nat)]) := T0.on.get (i := 7) rfl
  have g2 : H2[A.ls]? = some o1 := T2.on.get (i := 8) rfl
  have g2b : H2[A.lr]? = some (.dct (dI (lrowV A s) s.N)) := T2.on.get (i := 7) rfl
  have g3 : (H2.set A.lr o3)[A.ls]? = some o1 := T3.on.get (i := 8) rfl
  have ll : (dI (lrowV A s) s.N).length < lim := by rw [dI_len]; omega
  have a1 : leA [x0, x1, x2, some (.ref A.lr), some (.ref A.ls), some (.int (e : Nat)), some (encF F), x7, some (.int v), x9] h = .nx [x0, x1, x2, some (.ref A.lr), some (.ref A.ls), some (.int (e : Nat)), some (encF F), x7, some (.int v), x9] H1 := by
    refine eq_nx ?_
    unfold leA
    rw [E1, ho1, hv]
    simp [g0]
  have a2 : leB [x0, x1, x2, some (.ref A.lr), some (.ref A.ls), some (.int (e : Nat)), some (encF F), x7, some (.int v), x9] H1 = .nx [x0, x1, x2, some (.ref A.lr), some (.ref A.ls), some (.int (e : Nat)), some (encF F), x7, some (.int v), x9] (H2.set A.lr o3) := by
    refine eq_nx ?_
    unfold leB
    rw [ho3]
    rw [ho1] at g2
    rw [E2] at g2 g2b ⊢
    simp [g2, g2b, l0, l3, ll, putI fr]
  refine ⟨H1.length, H2.set A.lr o3, ?_, ?_⟩
  · unfold leC
    obtain ⟨q1, h1⟩ : ∃ X, X = leA := ⟨_, rfl⟩
    obtain ⟨q2, h2⟩ : ∃ X, X = leB := ⟨_, rfl⟩
    rw [← h1] at a1 ⊢
    rw [← h2] at a2 ⊢
    rw [ho1] at g3
    rw [← hv]
    simp [a1, a2, isTy, tyOf, g3]
  · have e1 : rsL { A with LA := fu A.LA v H1.length } (sNew s e F) = rsL A s ++ [(H1.length, .lst [])] := by
      rw [hv]
      exact rsL_new k
    have pm := perm_ringL (fx1 := fx { A with LA := fu A.LA v H1.length } rg s' (sNew s e F)) (M := rsN A s') (L := rsL A s) (y := (H1.length, .lst []))
    rw [← e1] at pm
    rw [← hv]
    refine Tn.perm ?_ pm
    have er : dI (lrowV { A with LA := fu A.LA v H1.length } (sNew s e F)) (sNew s e F).N = dI (fu (lrowV A s) v (.tup [.int (e : Nat), encF F, .ref H1.length])) (s.N ++ [v]) := by
      have : (sNew s e F).N = s.N ++ [v] := by rw [hv]; rfl
      rw [this]
      refine dI_congr fun x _ => ?_
      unfold lrowV sNew fu
      simp only
      rw [← hv]
      split <;> rfl
    have em : Obj.lst [.int ((sNew s e F).m : Nat), .int ((sNew s e F).lo : Nat)] = o1 := by
      rw [ho1]
      have : (((sNew s e F).m : Nat) : Int) = v := by
        show ((s.m + 1 : Nat) : Int) = v
        omega
      rw [this]
      rfl
    have ef : fx { A with LA := fu A.LA v H1.length } rg s' (sNew s e F) = [(A.nt, netO A s'), (A.nR, .lst (rg.map oF)), (A.rw_, .dct (dI (rowV s') s'.N)), (A.rg, .dct (dI (ringV A) s'.N)), (A.gn, .lst (s'.G.map pkV)), (A.lR, .lst (rg.map oF)), (A.lr, o3), (A.ls, o1), (A.lt, .lst (s.G.map pkV))] := by
      unfold fx
      rw [er, em, ho3]
      rfl
    rw [ef]
    exact T3
end
end Lw

set_option Elab.async false
set_option linter.all false
set_option autoImplicit false
set_option maxHeartbeats 4000000
namespace Lw
open PyM
section
variable {rg : List (Option (List Te))} {A : Ad} {s s' : S} {e : Nat} {F : List Te} {h : Heap} {p a : Nat} {ns : List Int}
def leM : En → Heap → Res Val := (mAn (mCall m_is_packet [] (mCons (mV 8) (mNil))) (mAn (mCall m_meets [] (mCons (mV 6) (mCons (mV 8) (mNil)))) (mB oGt (mL bLen (mCons (mLc (iAlt (iLst (mV 7)) (iTup_ (mV 7))) (gV 9) (tTr (mCall m_meets [] (mCons (mV 9) (mCons (mV 8) (mNil))))) (mK (.int 1)) [9]) (mNil))) (mK (.int 0)))))
theorem leM_ok {L : List (List Te)} {O : List Te} {pk : List Nat} {q : Nat} {x0 x1 x2 x3 x4 x5 x9 : Option Val} (gF : GoodF F) (gL : ∀ O ∈ L, GoodF O) (hl : L.length ≤ 100) (hO : O ∈ L) (hp : Pk pk) (m1 : mtB pk F = true) (m2 : mtB pk O = true) (eq : h[q]? = some (.lst (L.map encF))) :
    ∃ h', leM [x0, x1, x2, x3, x4, x5, some (encF F), some (.ref q), some (pkV pk), x9] h = .ok (.bl true) h' ∧ Ext h h' := by
  have w : wR (leM [x0, x1, x2, x3, x4, x5, some (encF F), some (.ref q), some (pkV pk), x9] h) (fun _ _ => False) fun x h' => x = .bl true ∧ Ext h h' := by
    unfold leM
    obtain ⟨g1, e1⟩ := isp_eq hp (h := h)
    obtain ⟨H1, E1⟩ : ∃ H, H = h ++ g1 := ⟨_, rfl⟩
    rw [← E1] at e1
    obtain ⟨g2, e2⟩ := meets_ok (h := H1) hp.len gF.gt
    rw [m1] at e2
    obtain ⟨H2, E2⟩ : ∃ H, H = H1 ++ g2 := ⟨_, rfl⟩
    rw [← E2] at e2
    have x1' : Ext h H1 := ⟨g1, E1⟩
    have x2' : Ext H1 H2 := ⟨g2, E2⟩
    have eq2 := x2'.at (x1'.at eq)
    simp -implicitDefEqProofs [e1, e2, eq2]
    refine wR_lcXL encF (fun O => mtB pk O) (fun _ => .int 1) (by have : 100 < lim := by decide
                                                                  omega) (fun h' ex => lstIs_at (ex.at eq2)) (fun O h' hO ex => ⟨_, rfl, ?_⟩) fun h' ex el => ?_
    · obtain ⟨g, em⟩ := meets_ok (h := h') hp.len (gL O hO).gt
      simp -implicitDefEqProofs [wipeE, gV, em, truth]
      exact ⟨⟨g, rfl⟩, fun _ => Ext.refl _⟩
    · simp -implicitDefEqProofs [el]
      exact ⟨⟨O, hO, m2⟩, (x1'.trans x2').trans ex⟩
  obtain ⟨x, h', e, rfl, r⟩ := ex_of_wR w
  exact ⟨h', e, r⟩
theorem lenroll_ok (hr : RgOk rg) (k : Ok s) (hm : s.m + 1 < 64) (T0 : Tn p a ns (nodes A rg s s) h) :
    ∃ h' RA LA s1, m__law_enroll [.ref p, .ref A.nt, .ref A.lR, .ref A.lr, .ref A.ls] h = .ok (.bl true) h' ∧ Ok s1 ∧ s1.m ≤ s.m + 1 ∧ s1.G = s.G ∧ Tn p a ns (nodes { A with RA := RA, LA := LA } rg s1 s1) h' := by
  have w : wR (m__law_enroll [.ref p, .ref A.nt, .ref A.lR, .ref A.lr, .ref A.ls] h) (fun _ _ => False) fun x h' => ∃ RA LA s1, x = .bl true ∧ Ok s1 ∧ s1.m ≤ s.m + 1 ∧ s1.G = s.G ∧ Tn p a ns (nodes { A with RA := RA, LA := LA } rg s1 s1) h' := by
    rw [le_cut]
    refine wRB rfl ?_
    obtain ⟨e, h1, he, e1, T1⟩ := nat_ok T0 (n := 4) (by decide) (by decide)
    have e1 : m__law_next [.ref p, .int 4] h = .ok (.int (e : Nat)) h1 := e1
    obtain ⟨F, h2, gF, e2, T2⟩ := lfilter_ok he T1
    have n2 : h2[A.lR]? = some (.lst (rg.map oF)) := T2.on.get (i := 5) rfl
    have n2b : h2[A.lr]? = some (.dct (dI (lrowV A s) s.N)) := T2.on.get (i := 6) rfl
    obtain ⟨q, h3, e3, x3, g3⟩ := m2_ok (e := e) hr gF k n2 n2b
    have T3 := T2.ext x3
    obtain ⟨x, h4, e4, ⟨f4, Q⟩⟩ := enroll_ok (e := e) hr gF k hm T3
    obtain ⟨LD, hD⟩ : ∃ X, X = leD := ⟨_, rfl⟩
    obtain ⟨LC, hC⟩ : ∃ X, X = leC := ⟨_, rfl⟩
    have n3 : h3[A.nt]? = some (netO A s) := T3.on.get (i := 0) rfl
    unfold netO at n3
    have ii : isIns 0 (.ref A.nt) h3 = true := by simp [isIns, n3]
    -- the list of others stays
    have keep : h4[q]? = some (.lst (((Oth rg s e).filter fun O => (cmb F O).isSome).map encF)) := by
      have n3b : h3[A.rw_]? = some (.dct (dI (rowV s) s.N)) := T3.on.get (i := 2) rfl
      have n3c : h3[A.rg]? = some (.dct (dI (ringV A) s.N)) := T3.on.get (i := 3) rfl
      refine f4.at ?_ g3
      simp only [List.mem_cons, List.not_mem_nil, or_false, not_or]
      refine ⟨fun z => ?_, fun z => ?_, fun z => ?_⟩
      · rw [z, n3] at g3; cases g3
      · rw [z, n3b] at g3; cases g3
      · rw [z, n3c] at g3; cases g3
    rw [← hD, ← hC]
    simp -implicitDefEqProofs [gV, e1, e2, e3, ii, e4]
    rcases Q with ⟨pk, z, rfl, T4⟩ | ⟨z, rfl, qr, T4⟩
    · obtain ⟨O, hO, c⟩ := fst_some z
      have gO := oth_good hr k O hO
      obtain ⟨hp, m1, m2⟩ := cmb_some gF gO c
      have hOL : O ∈ (Oth rg s e).filter fun O => (cmb F O).isSome := List.mem_filter.mpr ⟨hO, by rw [c]; rfl⟩
      obtain ⟨h5, e5, x5⟩ := leM_ok (L := (Oth rg s e).filter fun O => (cmb F O).isSome) (x0 := some (.ref p)) (x1 := some (.ref A.nt)) (x2 := some (.ref A.lR)) (x3 := some (.ref A.lr)) (x4 := some (.ref A.ls)) (x5 := some (.int (e : Nat))) (x9 := none) gF (fun O hO => oth_good hr k O (List.mem_filter.mp hO).1) (Nat.le_trans (List.length_filter_le ..) (oth_len k)) hOL hp m1 m2 keep
      have ne : ((Oth rg s e).filter fun O => (cmb F O).isSome) ≠ [] := fun z => by rw [z] at hOL; cases hOL
      have et : truth (.ref q) h4 = some true := by
        unfold truth
        simp only [keep]
        simpa using ne
      rw [hD]
      unfold leD
      obtain ⟨LM, hM⟩ : ∃ X, X = leM := ⟨_, rfl⟩
      rw [← hM] at e5
      have hM' : leM = LM := hM.symm
      unfold leM at hM'
      rw [hM']
      simp -implicitDefEqProofs [et, e5]
      exact ⟨A.RA, A.LA, s, k, by omega, rfl, T4.ext x5⟩
    · have ne := fst_none.mp z
      have et : truth (.ref q) h4 = some false := by
        unfold truth
        simp only [keep, ne]
        rfl
      obtain ⟨ql, h', wc, T5⟩ := leC_ok (A := { A with RA := fu A.RA ((s.m : Int) + 1) qr }) (e := e) (F := F) k T4 (some (.ref p)) (some (.ref A.nt)) (some (.ref A.lR)) (some (.ref q)) none
      rw [hD]
      unfold leD
      simp -implicitDefEqProofs [et]
      rw [hC]
      refine wS_mono wc (fun _ _ q => q.elim) (fun v h2 hv => ?_) (fun _ _ q => q.elim) (fun _ _ q => q.elim) (fun _ _ q => q.elim)
      obtain ⟨rfl, rfl⟩ := hv
      exact ⟨rfl, _, _, sNew s e F, k.new gF hm, Nat.le_refl _, rfl, T5⟩
  obtain ⟨x, h', e, RA, LA, s1, rfl, r⟩ := ex_of_wR w
  exact ⟨h', RA, LA, s1, e, r⟩
end
end Lw

set_option Elab.async false
set_option linter.all false
set_option autoImplicit false
set_option maxHeartbeats 4000000
namespace Lw
open PyM
theorem map_set_nd {α β : Type} {N : List α} (nd : N.Nodup) {i : Nat} {x : α} (hx : N[i]? = some x) {f f' : α → β} (hf : ∀ y ∈ N, y ≠ x → f' y = f y) : (N.map f).set i (f' x) = N.map f' := by
  apply List.ext_getElem?
  intro j
  rw [List.getElem?_set, List.getElem?_map, List.getElem?_map]
  have hi : i < N.length := (List.getElem?_eq_some_iff.mp hx).1
  by_cases e : i = j
  · subst e
    rw [if_pos rfl, if_pos (by simpa using hi), hx]
    rfl
  · simp only [e, if_false]
    cases q : N[j]? with
    | none => rfl
    | some y =>
      have : y ≠ x := fun z => by
        subst z
        have h1 := List.getElem?_eq_some_iff.mp hx
        have h2 := List.getElem?_eq_some_iff.mp q
        obtain ⟨l1, e1⟩ := h1
        obtain ⟨l2, e2⟩ := h2
        exact e ((List.getElem_inj nd).mp (e1.trans e2.symm))
      show some (f y) = some (f' y)
      rw [hf y (List.mem_of_getElem? q) this]
section
variable {rg : List (Option (List Te))} {A : Ad} {s s' : S} {e : Nat} {F : List Te} {h : Heap} {p a : Nat} {ns : List Int}
theorem ringN_at (T : Tn p a ns (nodes A rg s s') h) {x : Int} (hx : x ∈ s.N) : h[A.RA x]? = some (.lst ((s.P x).map pkV)) :=
  T.on.at_ (A.RA x, .lst ((s.P x).map pkV)) (List.mem_append_right _ (List.mem_append_left _ (List.mem_map.mpr ⟨x, hx, rfl⟩)))
theorem ringL_at (T : Tn p a ns (nodes A rg s s') h) {x : Int} (hx : x ∈ s'.N) : h[A.LA x]? = some (.lst ((s'.P x).map pkV)) :=
  T.on.at_ (A.LA x, .lst ((s'.P x).map pkV)) (List.mem_append_right _ (List.mem_append_right _ (List.mem_map.mpr ⟨x, hx, rfl⟩)))
theorem set_fx (i : Nat) (R : Nodes) (y : Nat × Obj) : (fx A rg s s' ++ R).set (i + 9) y = fx A rg s s' ++ R.set i y := rfl
theorem get_fx (i : Nat) (R : Nodes) : (fx A rg s s' ++ R)[i + 9]? = R[i]? := rfl
theorem ringN_set (T : Tn p a ns (nodes A rg s s') h) (k : Ok s) {x : Int} (hx : x ∈ s.N) (Q : List (List Nat)) : Tn p a ns (nodes A rg { s with P := fu s.P x Q } s') (h.set (A.RA x) (.lst (Q.map pkV))) := by
  obtain ⟨i, hi⟩ := List.mem_iff_getElem?.mp hx
  have lt : i < s.N.length := (List.getElem?_eq_some_iff.mp hi).1
  have e : (nodes A rg s s')[i + 9]? = some (A.RA x, .lst ((s.P x).map pkV)) := by
    unfold nodes
    rw [get_fx, List.getElem?_append_left (by unfold rsN; simpa using lt)]
    unfold rsN
    rw [List.getElem?_map, hi]
    rfl
  have T1 := Tn_set T e (.lst (Q.map pkV))
  have e2 : (nodes A rg s s').set (i + 9) (A.RA x, .lst (Q.map pkV)) = nodes A rg { s with P := fu s.P x Q } s' := by
    unfold nodes
    rw [set_fx, List.set_append_left _ _ (by unfold rsN; simpa using lt)]
    have : (rsN A s).set i (A.RA x, .lst (Q.map pkV)) = rsN A { s with P := fu s.P x Q } := by
      unfold rsN
      have := map_set_nd k.asc.nd hi (f := fun x => (A.RA x, Obj.lst ((s.P x).map pkV))) (f' := fun y => (A.RA y, Obj.lst ((fu s.P x Q y).map pkV))) fun y _ hy => by rw [fu_ne hy]
      rw [← this, fu_at]
    rw [this]
    rfl
  rw [e2] at T1
  exact T1
theorem ringL_set (T : Tn p a ns (nodes A rg s s') h) (k : Ok s') {x : Int} (hx : x ∈ s'.N) (Q : List (List Nat)) : Tn p a ns (nodes A rg s { s' with P := fu s'.P x Q }) (h.set (A.LA x) (.lst (Q.map pkV))) := by
  obtain ⟨i, hi⟩ := List.mem_iff_getElem?.mp hx
  have lt : i < s'.N.length := (List.getElem?_eq_some_iff.mp hi).1
  have lM : (rsN A s).length = s.N.length := by unfold rsN; simp
  have e : (nodes A rg s s')[(s.N.length + i) + 9]? = some (A.LA x, .lst ((s'.P x).map pkV)) := by
    unfold nodes
    rw [get_fx, List.getElem?_append_right (by omega), lM, Nat.add_sub_cancel_left]
    unfold rsL
    rw [List.getElem?_map, hi]
    rfl
  have T1 := Tn_set T e (.lst (Q.map pkV))
  have e2 : (nodes A rg s s').set ((s.N.length + i) + 9) (A.LA x, .lst (Q.map pkV)) = nodes A rg s { s' with P := fu s'.P x Q } := by
    unfold nodes
    rw [set_fx, List.set_append_right _ _ (by omega), lM, Nat.add_sub_cancel_left]
    have : (rsL A s').set i (A.LA x, .lst (Q.map pkV)) = rsL A { s' with P := fu s'.P x Q } := by
      unfold rsL
      have := map_set_nd k.asc.nd hi (f := fun x => (A.LA x, Obj.lst ((s'.P x).map pkV))) (f' := fun y => (A.LA y, Obj.lst ((fu s'.P x Q y).map pkV))) fun y _ hy => by rw [fu_ne hy]
      rw [← this, fu_at]
    rw [this]
    rfl
  rw [e2] at T1
  exact T1
/-! a packet comes -/
def met (s : S) (pk : List Nat) : List Int := s.N.filter fun x => mtB pk (s.F x)
def comeS (s : S) (pk : List Nat) : S := match met s pk with
  | [] => { s with lo := s.lo + 1 }
  | x :: _ => if (s.P x).length < 8 then { s with P := fu s.P x (s.P x ++ [pk]) } else { s with lo := s.lo + 1 }
def comeV (s : S) (pk : List Nat) : Val := match met s pk with
  | [] => .non
  | x :: _ => if (s.P x).length < 8 then .int x else .non
theorem Ok.come (k : Ok s) (pk : List Nat) : Ok (comeS s pk) ∧ (comeS s pk).m = s.m := by
  unfold comeS
  split
  · exact ⟨⟨k.asc, k.le, k.len, k.good, k.m60, k.p8⟩, rfl⟩
  · rename_i x _ _
    split
    · refine ⟨⟨k.asc, k.le, k.len, k.good, k.m60, fun y => ?_⟩, rfl⟩
      show (fu s.P x (s.P x ++ [pk]) y).length ≤ 8
      unfold fu
      split
      · simp; omega
      · exact k.p8 y
    · exact ⟨⟨k.asc, k.le, k.len, k.good, k.m60, k.p8⟩, rfl⟩
theorem met_mem {pk : List Nat} {x : Int} {xs : List Int} (h : met s pk = x :: xs) : x ∈ s.N := (List.mem_filter.mp (show x ∈ met s pk by rw [h]; exact List.mem_cons_self)).1
def lcM' : En → Heap → Res Val := mLc (iLst (mL bSorted2 (mCons (mV 2) (mNil)))) (gV 8) (tTr (mCall m_meets [] (mCons (mB oIx (mB oIx (mV 2) (mV 8)) (mK (.int 1))) (mCons (mV 4) (mNil))))) (mV 8) [8]
theorem met_ok {pk : List Nat} (hp : Pk pk) (k : Ok s) (ed : h[A.lr]? = some (.dct (dI (lrowV A s) s.N))) {x0 x1 x3 x5 x6 x7 x8 : Option Val} :
    ∃ q h', lcM' [x0, x1, some (.ref A.lr), x3, some (pkV pk), x5, x6, x7, x8] h = .ok (.ref q) h' ∧ Ext h h' ∧ h'[q]? = some (.lst ((met s pk).map .int)) := by
  have es := sortedI ed k.l64 k.asc
  have l1 : 64 < lim := by decide
  have l64 := k.l64
  have w : wR (lcM' [x0, x1, some (.ref A.lr), x3, some (pkV pk), x5, x6, x7, x8] h) (fun _ _ => False) fun x h' => ∃ q, x = .ref q ∧ Ext h h' ∧ h'[q]? = some (.lst ((met s pk).map .int)) := by
    unfold lcM'
    obtain ⟨H1, E1⟩ : ∃ H1, H1 = h ++ [Obj.lst (s.N.map .int)] := ⟨_, rfl⟩
    rw [← E1] at es
    have g1 : H1[h.length]? = some (.lst (s.N.map .int)) := by rw [E1]; exact at_len
    have ed1 : H1[A.lr]? = some (.dct (dI (lrowV A s) s.N)) := by rw [E1]; exact at_push ed
    simp -implicitDefEqProofs [es, g1]
    refine wR_lcXL Val.int (fun x => mtB pk (s.F x)) Val.int (by omega) (fun h' ex => lstIs_at (ex.at g1)) (fun x h' hx ex => ?_) fun h' ex el => ?_
    · refine ⟨_, rfl, ?_⟩
      obtain ⟨e, em⟩ := meets_ok (h := h') hp.len (k.good x).gt
      have el := lookI_in (g := lrowV A s) hx
      simp -implicitDefEqProofs [wipeE, gV, ex.at ed1, el, lrowV, em, truth]
      exact ⟨⟨e, rfl⟩, fun _ => Ext.refl _⟩
    · exact ⟨Ext.trans ⟨_, E1⟩ ex, el⟩
  obtain ⟨x, h', e, q, rfl, r⟩ := ex_of_wR w
  exact ⟨q, h', e, r⟩
def lcA : En → Heap → RS := (sIf (tAn (tTr (mV 5)) (tB_ (mB oLt (mL bLen (mCons (mB oIx (mB oIx (mV 2) (mB oIx (mV 5) (mK (.int 0)))) (mK (.int 2))) (mNil))) (mK (.int 8))))) (sSeq (sAsg (gV 6) (mB oIx (mV 5) (mK (.int 0))))
    (sDrop (mBM bAppend (mB oIx (mB oIx (mV 2) (mV 6)) (mK (.int 2))) (mCons (mV 4) (mNil))))) (sSubA (oI fun i j => .int (i + j)) (mV 3) (mK (.int 1)) (mK (.int 1))))
theorem lc_cut : m__law_come = runB 4 9
    (sSeq (sAsg (gV 4) (mL bTuple (mCons (mLc (iRng1 (mCons (mK (.int 6)) (mNil))) (gV 7) (tTrue) (mCall m__law_next [] (mCons (mV 0) (mCons (mK (.int 4)) (mNil)))) [7]) (mNil))))
    (sSeq (sAsg (gV 5) lcM')
    (sSeq (sAsg (gV 6) (mK .non))
    (sSeq lcA
    (sRet (mB (oEq false) (mMeth 0 m_Net_come [] (mV 1) (mCons (mV 4) (mNil))) (mV 6))))))) := rfl
theorem lcA_ok {pk : List Nat} (k : Ok s) {q : Nat} (T : Tn p a ns (nodes A rg s s) h) (eq : h[q]? = some (.lst ((met s pk).map .int))) {x0 x1 x7 x8 : Option Val} :
    ∃ h', lcA [x0, x1, some (.ref A.lr), some (.ref A.ls), some (pkV pk), some (.ref q), some .non, x7, x8] h = .nx [x0, x1, some (.ref A.lr), some (.ref A.ls), some (pkV pk), some (.ref q), some (comeV s pk), x7, x8] h' ∧ Tn p a ns (nodes A rg s (comeS s pk)) h' := by
  have ed : h[A.lr]? = some (.dct (dI (lrowV A s) s.N)) := T.on.get (i := 6) rfl
  have el : h[A.ls]? = some (.lst [.int (s.m : Nat), .int (s.lo : Nat)]) := T.on.get (i := 7) rfl
  have lost : ∀ (z : Val), tAn (tTr (mV 5)) (tB_ (mB oLt (mL bLen (mCons (mB oIx (mB oIx (mV 2) (mB oIx (mV 5) (mK (.int 0)))) (mK (.int 2))) (mNil))) (mK (.int 8)))) [x0, x1, some (.ref A.lr), some (.ref A.ls), some (pkV pk), some (.ref q), some .non, x7, x8] h = .ok false h → lcA [x0, x1, some (.ref A.lr), some (.ref A.ls), some (pkV pk), some (.ref q), some .non, x7, x8] h = .nx [x0, x1, some (.ref A.lr), some (.ref A.ls), some (pkV pk), some (.ref q), some .non, x7, x8] (h.set A.ls (.lst [.int (s.m : Nat), .int (s.lo + 1 : Nat)])) ∧ Tn p a ns (nodes A rg s { s with lo := s.lo + 1 }) (h.set A.ls (.lst [.int (s.m : Nat), .int (s.lo + 1 : Nat)])) := fun _ et => by
    refine ⟨eq_nx ?_, Tn_set (j := 7) T rfl _⟩
    unfold lcA
    rw [wS_sIf, et]
    simp [el]
  unfold comeS comeV
  cases em : met s pk with
  | nil =>
    rw [em] at eq
    exact ⟨_, lost .non (eq_of_wR (by simp [truth, eq]))⟩
  | cons x xs =>
    rw [em] at eq
    have hx := met_mem em
    have e2 := lookI_in (g := lrowV A s) hx
    have er := ringL_at T hx
    simp only
    by_cases h8 : (s.P x).length < 8
    · rw [if_pos h8, if_pos h8]
      have sq : (seqOf (.ref (A.LA x)) h).isSome = true := by simp [seqOf_at er]
      have ll : (s.P x).length < lim := by have : 8 < lim := by decide
                                           omega
      have h8' : ((s.P x).length : Int) < 8 := by omega
      refine ⟨_, eq_nx ?_, ringL_set T k hx (s.P x ++ [pk])⟩
      unfold lcA
      simp [truth, eq, ed, e2, lrowV, er, h8', gV, sq, ll]
    · rw [if_neg h8, if_neg h8]
      have h8' : ¬ ((s.P x).length : Int) < 8 := by omega
      exact ⟨_, lost .non (eq_of_wR (by simp [truth, eq, ed, e2, lrowV, er, h8']))⟩
def cmA : En → Heap → RS := (sSeq (sIf (tOr_ (tNo (tTr (mV 2))) (tB_ (mB oGe (mL bLen (mCons (mB oIx (mU (getF 3) (mV 0)) (mB oIx (mV 2) (mK (.int 0)))) (mNil))) (mK (.int 8))))) (sSeq (sFldA 0 6 (oI fun i j => .int (i + j)) (mV 0) (mK (.int 1)))
    (sRet (mK .non))) (sNx))
    (sSeq (sDrop (mBM bAppend (mB oIx (mU (getF 3) (mV 0)) (mB oIx (mV 2) (mK (.int 0)))) (mCons (mV 1) (mNil))))
    (sRet (mB oIx (mV 2) (mK (.int 0))))))
theorem cm_cut : m_Net_come = runB 2 3
    (sSeq (sIf (tNo (tTr (mCall m_is_packet [] (mCons (mV 1) (mNil))))) (sRaise 2) (sNx))
    (sSeq (sAsg (gV 2) (mCall m_found [] (mCons (mU (getF 4) (mV 0)) (mCons (mV 1) (mNil)))))
    cmA)) := rfl
theorem cmA_ok {pk : List Nat} (k : Ok s) {q : Nat} (T : Tn p a ns (nodes A rg s s') h) (eq : h[q]? = some (.lst ((met s pk).map .int))) :
    ∃ h', cmA [some (.ref A.nt), some (pkV pk), some (.ref q)] h = .rt (comeV s pk) h' ∧ Tn p a ns (nodes A rg (comeS s pk) s') h' := by
  have en : h[A.nt]? = some (netO A s) := T.on.get (i := 0) rfl
  have eg : h[A.rg]? = some (.dct (dI (ringV A) s.N)) := T.on.get (i := 3) rfl
  unfold netO at en
  have ii : isIns 0 (.ref A.nt) h = true := by simp [isIns, en]
  obtain ⟨o1, ho1⟩ : ∃ o, o = netO A { s with lo := s.lo + 1 } := ⟨_, rfl⟩
  have lost : tOr_ (tNo (tTr (mV 2))) (tB_ (mB oGe (mL bLen (mCons (mB oIx (mU (getF 3) (mV 0)) (mB oIx (mV 2) (mK (.int 0)))) (mNil))) (mK (.int 8)))) [some (.ref A.nt), some (pkV pk), some (.ref q)] h = .ok true h → cmA [some (.ref A.nt), some (pkV pk), some (.ref q)] h = .rt .non (h.set A.nt o1) ∧ Tn p a ns (nodes A rg { s with lo := s.lo + 1 } s') (h.set A.nt o1) := fun et => by
    have T2 := Tn_set (j := 0) T rfl o1
    have T3 : Tn p a ns (nodes A rg { s with lo := s.lo + 1 } s') (h.set A.nt o1) := by
      have : nodes A rg { s with lo := s.lo + 1 } s' = (nodes A rg s s').set 0 (A.nt, o1) := by rw [ho1]; rfl
      rw [this]
      exact T2
    refine ⟨eq_rt ?_, T3⟩
    unfold cmA
    rw [wS_sSeq, wS_sIf, et]
    rw [ho1]
    simp [ii, en, PyM.lookF, setF, netO]
  unfold comeS comeV
  cases em : met s pk with
  | nil =>
    rw [em] at eq
    exact ⟨_, lost (eq_of_wR (by simp [truth, eq]))⟩
  | cons x xs =>
    rw [em] at eq
    have hx := met_mem em
    have e2 := lookI_in (g := ringV A) hx
    have er := ringN_at T hx
    simp only
    by_cases h8 : (s.P x).length < 8
    · rw [if_pos h8, if_pos h8]
      have sq : (seqOf (.ref (A.RA x)) h).isSome = true := by simp [seqOf_at er]
      have ll : (s.P x).length < lim := by have : 8 < lim := by decide
                                           omega
      have h8' : ¬ (8 : Int) ≤ ((s.P x).length : Int) := by omega
      have T2 := ringN_set T k hx (s.P x ++ [pk])
      have eq2 : (h.set (A.RA x) (Obj.lst ((s.P x ++ [pk]).map pkV)))[q]? = some (.lst ((x :: xs).map .int)) := by
        rw [at_set_ne]
        · exact eq
        · intro z
          rw [← z, er] at eq
          cases hq : s.P x with
          | nil => rw [hq] at eq; simp at eq
          | cons y ys => rw [hq] at eq; simp [pkV] at eq
      refine ⟨_, eq_rt ?_, T2⟩
      unfold cmA
      simp [truth, eq, en, PyM.lookF, eg, e2, ringV, er, h8', sq, ll] at eq2 ⊢
      simp [eq2]
    · rw [if_neg h8, if_neg h8]
      have h8' : (8 : Int) ≤ ((s.P x).length : Int) := by omega
      exact ⟨_, lost (eq_of_wR (by simp [truth, eq, en, PyM.lookF, eg, e2, ringV, er, h8']))⟩
end
end Lw

set_option Elab.async false
set_option linter.all false
set_option autoImplicit false
set_option maxHeartbeats 4000000
namespace Lw
open PyM
section
variable {rg : List (Option (List Te))} {A : Ad} {s s' : S} {e : Nat} {F : List Te} {h : Heap} {p a : Nat} {ns : List Int}
theorem comeV_pl (s : S) (pk : List Nat) : pl 60 (comeV s pk) = true := by
  unfold comeV
  split
  · rfl
  · split <;> rfl
theorem come_ok (k : Ok s) {pk : List Nat} (hp : Pk pk) (T0 : Tn p a ns (nodes A rg s s') h) : ∃ h', m_Net_come [.ref A.nt, pkV pk] h = .ok (comeV s pk) h' ∧ Tn p a ns (nodes A rg (comeS s pk) s') h' := by
  obtain ⟨g1, e1⟩ := isp_eq hp (h := h)
  obtain ⟨H1, E1⟩ : ∃ H, H = h ++ g1 := ⟨_, rfl⟩
  have T1 := T0.ext (h' := H1) ⟨g1, E1⟩
  rw [← E1] at e1
  have n1 : H1[A.nt]? = some (netO A s) := T1.on.get (i := 0) rfl
  unfold netO at n1
  obtain ⟨L, q, h2, e2, x2, _, g2, aL, mL⟩ := found_ok (n := 6) (fs := fsOf s.F s.N) (h := H1) (by decide) (fs_nd k.asc.nd) (by rw [fs_len]; have := k.l64; omega) hp.len (fun f hf => by rw [(fs_mem (F := s.F) (l := s.N) hf).2]; exact len6 (k.good _)) (fun f hf => by rw [(fs_mem (F := s.F) (l := s.N) hf).2]; exact (k.good _).gt.2)
  have T2 := T1.ext x2
  have eL : L = met s pk := asc_uniq aL (k.asc.filter _) fun z => by
    rw [mL, show z ∈ met s pk ↔ z ∈ s.N ∧ mtB pk (s.F z) = true from List.mem_filter]
    constructor
    · rintro ⟨G, hG, m⟩
      obtain ⟨hz, e⟩ := fs_mem hG
      simp only at hz e
      exact ⟨hz, by rw [← e]; exact m⟩
    · rintro ⟨hz, m⟩
      exact ⟨_, List.mem_map.mpr ⟨z, hz, rfl⟩, m⟩
  rw [eL] at g2
  obtain ⟨h3, e3, T3⟩ := cmA_ok (pk := pk) k T2 g2
  refine ⟨h3, eq_of_wR ?_, T3⟩
  rw [cm_cut]
  refine wRB rfl ?_
  obtain ⟨CA, hC⟩ : ∃ X, X = cmA := ⟨_, rfl⟩
  rw [← hC] at e3 ⊢
  simp -implicitDefEqProofs [gV, e1, truth, n1, PyM.lookF, e2, e3]
theorem lcome_ok (k : Ok s) (T0 : Tn p a ns (nodes A rg s s) h) :
    ∃ h' pk, m__law_come [.ref p, .ref A.nt, .ref A.lr, .ref A.ls] h = .ok (.bl true) h' ∧ Tn p a ns (nodes A rg (comeS s pk) (comeS s pk)) h' := by
  have w : wR (m__law_come [.ref p, .ref A.nt, .ref A.lr, .ref A.ls] h) (fun _ _ => False) fun x h' => x = .bl true ∧ ∃ pk, Tn p a ns (nodes A rg (comeS s pk) (comeS s pk)) h' := by
    rw [lc_cut]
    refine wRB rfl ?_
    obtain ⟨pk, h1, hp, e1, T1⟩ := lpacket_ok T0 (x1 := some (.ref A.nt)) (x2 := some (.ref A.lr)) (x3 := some (.ref A.ls)) (x4 := none) (x5 := none) (x6 := none) (x7 := none) (x8 := none)
    have ed : h1[A.lr]? = some (.dct (dI (lrowV A s) s.N)) := T1.on.get (i := 6) rfl
    obtain ⟨q, h2, e2, x2, g2⟩ := met_ok hp k ed (x0 := some (.ref p)) (x1 := some (.ref A.nt)) (x3 := some (.ref A.ls)) (x5 := none) (x6 := none) (x7 := none) (x8 := none)
    have T2 := T1.ext x2
    obtain ⟨h3, e3, T3⟩ := lcA_ok k T2 g2 (x0 := some (.ref p)) (x1 := some (.ref A.nt)) (x7 := none) (x8 := none)
    obtain ⟨h4, e4, T4⟩ := come_ok k hp T3
    have n3 : h3[A.nt]? = some (netO A s) := T3.on.get (i := 0) rfl
    unfold netO at n3
    have ii : isIns 0 (.ref A.nt) h3 = true := by simp [isIns, n3]
    have eq := oEq_self (neg := false) (h := h4) (comeV_pl s pk)
    obtain ⟨M1, hM1⟩ : ∃ X, X = mL bTuple (mCons (mLc (iRng1 (mCons (mK (.int 6)) (mNil))) (gV 7) (tTrue) (mCall m__law_next [] (mCons (mV 0) (mCons (mK (.int 4)) (mNil)))) [7]) (mNil)) := ⟨_, rfl⟩
    obtain ⟨M2, hM2⟩ : ∃ X, X = lcM' := ⟨_, rfl⟩
    obtain ⟨M3, hM3⟩ : ∃ X, X = lcA := ⟨_, rfl⟩
    rw [← hM1] at e1 ⊢
    rw [← hM2] at e2 ⊢
    rw [← hM3] at e3 ⊢
    simp -implicitDefEqProofs [gV, e1, e2, e3, ii, e4, eq]
    exact ⟨pk, T4⟩
  obtain ⟨x, h', e, rfl, pk, r⟩ := ex_of_wR w
  exact ⟨h', pk, e, r⟩
/-! taking out -/
theorem popL {m alt : En → Heap → Res Val} {st : En} {q : Nat} {y : Val} {ys : List Val} (em : m st h = .ok (.ref q) h) (e : h[q]? = some (.lst (y :: ys))) : mAlt (mBM bPopAt m (mCons (mK (.int 0)) (mNil))) alt st h = .ok y (h.set q (.lst ys)) := by
  have ep := bPopAt_ok (i := 0) e (by omega) (by simp) (by omega) (y := y) rfl
  have hs : (seqOf (.ref q) h).isSome = true := by simp [seqOf_at e]
  have : mBM bPopAt m (mCons (mK (.int 0)) (mNil)) st h = .ok y (h.set q (.lst ys)) := eq_of_wR (by simp [em, hs, ep])
  unfold mAlt
  rw [this]
theorem popD {m mx : En → Heap → Res Val} {st : En} {q : Nat} {g : Int → Val} {l : List Int} {x : Int} (em : m st h = .ok (.ref q) h) (ex : mx st h = .ok (.int x) h) (e : h[q]? = some (.dct (dI g l))) (hx : x ∈ l) : mAlt (mBM bPopAt m (mCons mx (mNil))) (mPop1 m mx) st h = .ok (g x) (h.set q (.dct (dI g (drp x l)))) := by
  have h1 : mBM bPopAt m (mCons mx (mNil)) st h = .stuck := by
    unfold mBM
    rw [em]
    simp [Res.bind, seqOf, e]
  have h2 : mPop1 m mx st h = .ok (g x) (h.set q (.dct (dI g (drp x l)))) := by
    refine eq_of_wR ?_
    have := dPop1_at (y := .int x) e rfl (lookI_in (g := g) hx)
    rw [dropI] at this
    simp [em, ex, isD_dct e, this]
  unfold mAlt
  rw [h1, h2]
def ownB (s : S) (e : Nat) (x : Int) : Bool := decide (x ∈ s.N) && decide (s.E x = e)
theorem owner_ok (T : Tn p a ns (nodes A rg s s') h) (e : Nat) (x : Int) : m_Net_is_owner [.ref A.nt, .int (e : Nat), .int x] h = .ok (.bl (ownB s e x)) h := by
  have n1 : h[A.nt]? = some (netO A s) := T.on.get (i := 0) rfl
  have n2 : h[A.rw_]? = some (.dct (dI (rowV s) s.N)) := T.on.get (i := 2) rfl
  unfold netO at n1
  refine eq_of_wR ?_
  unfold m_Net_is_owner ownB
  refine wRB rfl ?_
  have e0 := oIn_dct (neg := false) (x := .int x) n2 rfl
  rw [lookI] at e0
  by_cases hx : x ∈ s.N
  · rw [if_pos hx] at e0
    have e2 := lookI_in (g := rowV s) hx
    have e3 : (((s.E x : Nat) : Int) == (e : Int)) = decide (s.E x = e) := by
      rw [Bool.eq_iff_iff]; simp; omega
    simp [n1, PyM.lookF, e0, n2, e2, rowV, hx, e3]
  · rw [if_neg hx] at e0
    simp [n1, PyM.lookF, e0, hx]
def takeV (s : S) (e : Nat) (x : Int) : Val := if ownB s e x = true then match s.P x with | [] => .non | y :: _ => pkV y else .non
def takeS (s : S) (e : Nat) (x : Int) : S := if ownB s e x = true then match s.P x with | [] => s | _ :: ys => { s with P := fu s.P x ys } else s
theorem takeV_pl (s : S) (e : Nat) (x : Int) : pl 60 (takeV s e x) = true := by
  unfold takeV
  split
  · split
    · rfl
    · refine pl_tup fun x hx => ?_
      obtain ⟨i, _, rfl⟩ := List.mem_map.mp hx
      rfl
  · rfl
theorem Ok.take (k : Ok s) (e : Nat) (x : Int) : Ok (takeS s e x) ∧ (takeS s e x).m = s.m := by
  unfold takeS
  split
  · split
    · exact ⟨k, rfl⟩
    · rename_i y ys hq
      refine ⟨⟨k.asc, k.le, k.len, k.good, k.m60, fun z => ?_⟩, rfl⟩
      show (fu s.P x ys z).length ≤ 8
      unfold fu
      split
      · have := k.p8 x
        rw [hq] at this
        simp at this
        omega
      · exact k.p8 z
  · exact ⟨k, rfl⟩
theorem own_mem {x : Int} (h : ownB s e x = true) : x ∈ s.N ∧ s.E x = e := by
  unfold ownB at h
  simpa using h
theorem next_ok (k : Ok s) (T : Tn p a ns (nodes A rg s s') h) (e : Nat) (x : Int) : ∃ h', m_Net_next [.ref A.nt, .int (e : Nat), .int x] h = .ok (takeV s e x) h' ∧ Tn p a ns (nodes A rg (takeS s e x) s') h' := by
  have n1 : h[A.nt]? = some (netO A s) := T.on.get (i := 0) rfl
  have n2 : h[A.rg]? = some (.dct (dI (ringV A) s.N)) := T.on.get (i := 3) rfl
  unfold netO at n1
  have ii : isIns 0 (.ref A.nt) h = true := by simp [isIns, n1]
  have eo := owner_ok T e x
  unfold takeV takeS
  by_cases ho : ownB s e x = true
  · rw [ho] at eo
    obtain ⟨hx, _⟩ := own_mem ho
    have er := ringN_at T hx
    have e2 := lookI_in (g := ringV A) hx
    have em : (mB oIx (mU (getF 3) (mV 0)) (mV 2)) [some (.ref A.nt), some (.int (e : Nat)), some (.int x)] h = .ok (.ref (A.RA x)) h := eq_of_wR (by simp [n1, PyM.lookF, n2, e2, ringV])
    rw [if_pos ho, if_pos ho]
    cases hq : s.P x with
    | nil =>
      rw [hq] at er
      refine ⟨h, eq_of_wR ?_, T⟩
      unfold m_Net_next
      refine wRB rfl ?_
      simp [ii, eo, truth, n1, PyM.lookF, n2, e2, ringV, er]
    | cons y ys =>
      rw [hq] at er
      have ep := popL (alt := (mPop1 (mB oIx (mU (getF 3) (mV 0)) (mV 2)) (mK (.int 0)))) em er
      refine ⟨h.set (A.RA x) (.lst (ys.map pkV)), eq_of_wR ?_, ringN_set T k hx ys⟩
      unfold m_Net_next
      refine wRB rfl ?_
      simp [-wR_mAlt, ii, eo, truth, n1, PyM.lookF, n2, e2, ringV, er, ep]
  · have hb : ownB s e x = false := by simpa using ho
    rw [hb] at eo
    rw [if_neg ho, if_neg ho]
    refine ⟨h, eq_of_wR ?_, T⟩
    unfold m_Net_next
    refine wRB rfl ?_
    simp [ii, eo, truth]
theorem ltake_ok (k : Ok s) (T0 : Tn p a ns (nodes A rg s s) h) :
    ∃ h' e x, m__law_take [.ref p, .ref A.nt, .ref A.lr] h = .ok (.bl true) h' ∧ Tn p a ns (nodes A rg (takeS s e x) (takeS s e x)) h' := by
  have w : wR (m__law_take [.ref p, .ref A.nt, .ref A.lr] h) (fun _ _ => False) fun x h' => x = .bl true ∧ ∃ e x, Tn p a ns (nodes A rg (takeS s e x) (takeS s e x)) h' := by
    obtain ⟨e, h1, _, e1, T1⟩ := nat_ok T0 (n := 4) (by decide) (by decide)
    obtain ⟨v, h2, _, e2, T2⟩ := nat_ok T1 (n := 8) (by decide) (by decide)
    have e1 : m__law_next [.ref p, .int 4] h = .ok (.int (e : Nat)) h1 := e1
    have e2 : m__law_next [.ref p, .int 8] h1 = .ok (.int (v : Nat)) h2 := e2
    obtain ⟨x, hxv⟩ : ∃ x : Int, x = 1 + (v : Int) := ⟨_, rfl⟩
    have n2 : h2[A.lr]? = some (.dct (dI (lrowV A s) s.N)) := T2.on.get (i := 6) rfl
    have e0 := oIn_dct (neg := false) (x := .int x) n2 rfl
    rw [lookI] at e0
    have n3 : h2[A.nt]? = some (netO A s) := T2.on.get (i := 0) rfl
    unfold netO at n3
    have keep : ∀ {h' : Heap} {s2 : S}, Tn p a ns (nodes A rg s s2) h' → isIns 0 (.ref A.nt) h' = true := fun T' => by
      have n3 := T'.on.get (i := 0) rfl
      have n3 : _ = some (netO A s) := n3
      unfold netO at n3
      simp [isIns, n3]
    unfold m__law_take
    refine wRB rfl ?_
    by_cases ho : ownB s e x = true
    · obtain ⟨hx, hE⟩ := own_mem ho
      have er := ringL_at T2 hx
      have e3 := lookI_in (g := lrowV A s) hx
      rw [if_pos hx] at e0
      have em : ∀ x5, (mB oIx (mB oIx (mV 2) (mV 4)) (mK (.int 2))) [some (.ref p), some (.ref A.nt), some (.ref A.lr), some (.int (e : Nat)), some (.int x), x5] h2 = .ok (.ref (A.LA x)) h2 := fun _ => eq_of_wR (by simp [n2, e3, lrowV])
      cases hq : s.P x with
      | nil =>
        rw [hq] at er
        obtain ⟨h3, e4, T3⟩ := next_ok k T2 e x
        have tv : takeV s e x = .non := by unfold takeV; rw [if_pos ho, hq]
        have ts : takeS s e x = s := by unfold takeS; rw [if_pos ho, hq]
        rw [tv] at e4
        have eq := oEq_self (neg := false) (h := h3) (x := .non) rfl
        simp -implicitDefEqProofs [-wR_mAlt, gV, e1, e2, ← hxv, e0, n2, e3, lrowV, hE, er, truth, keep T2, e4, eq]
        refine ⟨e, x, ?_⟩
        rw [ts] at T3 ⊢
        exact T3
      | cons y ys =>
        rw [hq] at er
        have ep := popL (alt := (mPop1 (mB oIx (mB oIx (mV 2) (mV 4)) (mK (.int 2))) (mK (.int 0)))) (em (some .non)) er
        have T3 := ringL_set T2 k hx ys
        have ts : takeS s e x = { s with P := fu s.P x ys } := by unfold takeS; rw [if_pos ho, hq]
        rw [← ts] at T3
        obtain ⟨H3, E3⟩ : ∃ H, H = h2.set (A.LA x) (.lst (ys.map pkV)) := ⟨_, rfl⟩
        rw [← E3] at ep T3
        obtain ⟨h4, e4, T4⟩ := next_ok k T3 e x
        have tv : takeV s e x = pkV y := by unfold takeV; rw [if_pos ho, hq]
        have eq := oEq_self (neg := false) (h := h4) (takeV_pl s e x)
        rw [tv] at e4 eq
        have kp := keep T3
        simp -implicitDefEqProofs [-wR_mAlt, gV, e1, e2, ← hxv, e0, n2, e3, lrowV, hE, er, truth, kp, ep, e4, eq]
        exact ⟨e, x, T4⟩
    · obtain ⟨h3, e4, T3⟩ := next_ok k T2 e x
      have tv : takeV s e x = .non := by unfold takeV; rw [if_neg ho]
      have ts : takeS s e x = s := by unfold takeS; rw [if_neg ho]
      rw [tv] at e4
      have eq := oEq_self (neg := false) (h := h3) (x := .non) rfl
      have kp := keep T2
      have fin : ∃ e x, Tn p a ns (nodes A rg (takeS s e x) (takeS s e x)) h3 := ⟨e, x, by rw [ts] at T3 ⊢; exact T3⟩
      by_cases hx : x ∈ s.N
      · rw [if_pos hx] at e0
        have e3 := lookI_in (g := lrowV A s) hx
        have hE : ¬ ((s.E x : Nat) : Int) = (e : Int) := fun z => ho (by
          unfold ownB
          have : s.E x = e := by omega
          simp [hx, this])
        simp -implicitDefEqProofs [-wR_mAlt, gV, e1, e2, ← hxv, e0, n2, e3, lrowV, hE, kp, e4, eq]
        exact fin
      · rw [if_neg hx] at e0
        simp -implicitDefEqProofs [-wR_mAlt, gV, e1, e2, ← hxv, e0, kp, e4, eq]
        exact fin
  obtain ⟨x, h', e, rfl, r⟩ := ex_of_wR w
  obtain ⟨e', x', r⟩ := r
  exact ⟨h', e', x', e, r⟩
end
end Lw

set_option Elab.async false
set_option linter.all false
set_option autoImplicit false
set_option maxHeartbeats 4000000
namespace Lw
open PyM
section
variable {rg : List (Option (List Te))} {A : Ad} {s s' : S} {e : Nat} {F : List Te} {h : Heap} {p a : Nat} {ns : List Int}
def gupS (s : S) (e : Nat) (x : Int) : S := if ownB s e x = true then { s with N := drp x s.N } else s
theorem Ok.gup (k : Ok s) (e : Nat) (x : Int) : Ok (gupS s e x) ∧ (gupS s e x).m = s.m := by
  unfold gupS
  split
  · exact ⟨⟨k.asc.filter _, fun y hy => k.le y (drp_mem.mp hy).1, Nat.le_trans (List.length_filter_le ..) k.len, k.good, k.m60, k.p8⟩, rfl⟩
  · exact ⟨k, rfl⟩
theorem drp_perm {x : Int} {l : List Int} (nd : l.Nodup) (hx : x ∈ l) : l.Perm (x :: drp x l) := by
  refine (List.perm_ext_iff_of_nodup nd (List.nodup_cons.mpr ⟨fun q => (drp_mem.mp q).2 rfl, nd.filter _⟩)).mpr fun y => ?_
  rw [List.mem_cons, drp_mem]
  constructor
  · intro h
    by_cases q : y = x
    · exact .inl q
    · exact .inr ⟨h, q⟩
  · rintro (rfl | h)
    · exact hx
    · exact h.1
theorem gup_ok (k : Ok s) (T0 : Tn p a ns (nodes A rg s s') h) (e : Nat) (x : Int) : ∃ h', m_Net_give_up [.ref A.nt, .int (e : Nat), .int x] h = .ok (.bl (ownB s e x)) h' ∧ Tn p a ns (nodes A rg (gupS s e x) s') h' := by
  have n0 : h[A.nt]? = some (netO A s) := T0.on.get (i := 0) rfl
  have n0' := n0
  unfold netO at n0
  have ii : isIns 0 (.ref A.nt) h = true := by simp [isIns, n0]
  have eo := owner_ok T0 e x
  unfold gupS
  by_cases ho : ownB s e x = true
  · rw [ho] at eo
    obtain ⟨hx, _⟩ := own_mem ho
    have d0 : h[A.rw_]? = some (.dct (dI (rowV s) s.N)) := T0.on.get (i := 2) rfl
    have p1 := popD (m := mU (getF 2) (mV 0)) (mx := mV 2) (st := [some (.ref A.nt), some (.int (e : Nat)), some (.int x), none]) (eq_of_wR (by simp [n0, PyM.lookF])) rfl d0 hx
    obtain ⟨o1, ho1⟩ : ∃ o, o = Obj.dct (dI (rowV s) (drp x s.N)) := ⟨_, rfl⟩
    have T1 := Tn_set (j := 2) T0 rfl o1
    obtain ⟨H1, E1⟩ : ∃ H, H = h.set A.rw_ o1 := ⟨_, rfl⟩
    rw [← ho1, ← E1] at p1
    rw [← E1] at T1
    have n1 : H1[A.nt]? = some (netO A s) := T1.on.get (i := 0) rfl
    unfold netO at n1
    have d1 : H1[A.rg]? = some (.dct (dI (ringV A) s.N)) := T1.on.get (i := 3) rfl
    have p2 := popD (m := mU (getF 3) (mV 0)) (mx := mV 2) (st := [some (.ref A.nt), some (.int (e : Nat)), some (.int x), some (rowV s x)]) (eq_of_wR (by simp [n1, PyM.lookF])) rfl d1 hx
    obtain ⟨o2, ho2⟩ : ∃ o, o = Obj.dct (dI (ringV A) (drp x s.N)) := ⟨_, rfl⟩
    have T2 := Tn_set (j := 3) T1 rfl o2
    obtain ⟨H2, E2⟩ : ∃ H, H = H1.set A.rg o2 := ⟨_, rfl⟩
    rw [← ho2, ← E2] at p2
    rw [← E2] at T2
    have n2 : H2[A.nt]? = some (netO A s) := T2.on.get (i := 0) rfl
    unfold netO at n2
    have pm := drp_perm k.asc.nd hx
    obtain ⟨g, ew⟩ := woF k.good (l := drp x s.N) (x := x) (fun q => (drp_mem.mp q).2 rfl) (by have := k.l64; have := List.length_filter_le (fun y => decide (y ≠ x)) s.N; unfold drp; omega) H2
    rw [← fs_perm pm] at ew
    have T3 := T2.ext (h' := H2 ++ g) ⟨g, rfl⟩
    have n3 : (H2 ++ g)[A.nt]? = some (netO A s) := T3.on.get (i := 0) rfl
    unfold netO at n3
    obtain ⟨o4, ho4⟩ : ∃ o, o = netO A { s with N := drp x s.N } := ⟨_, rfl⟩
    have T4 := Tn_set (j := 0) T3 rfl o4
    rw [if_pos ho, ho]
    refine ⟨(H2 ++ g).set A.nt o4, eq_of_wR ?_, ?_⟩
    · unfold m_Net_give_up
      refine wRB rfl ?_
      have ew' : m_without_filter [T 6 (fsOf s.F s.N), .int x, encF (s.F x)] H2 = _ := ew
      rw [ho4]
      simp -implicitDefEqProofs [-wR_mAlt, ii, eo, truth, gV, p1]
      rw [p2]
      simp -implicitDefEqProofs [rowV, n2, PyM.lookF, ew', n3, setF, netO]
    · have e4 : nodes A rg { s with N := drp x s.N } s' = fx A rg { s with N := drp x s.N } s' ++ (rsN A { s with N := drp x s.N } ++ rsL A s') := rfl
      rw [e4]
      have ef : fx A rg { s with N := drp x s.N } s' = [(A.nt, o4), (A.nR, .lst (rg.map oF)), (A.rw_, o1), (A.rg, o2), (A.gn, .lst (s.G.map pkV)), (A.lR, .lst (rg.map oF)), (A.lr, .dct (dI (lrowV A s') s'.N)), (A.ls, .lst [.int (s'.m : Nat), .int (s'.lo : Nat)]), (A.lt, .lst (s'.G.map pkV))] := by
        unfold fx
        rw [ho4, ho1, ho2]
        rfl
      rw [ef]
      refine Tn_sub T4 ?_
      refine List.Sublist.append (List.Sublist.refl _) (List.Sublist.append ?_ (List.Sublist.refl _))
      exact (List.filter_sublist).map _
  · have hb : ownB s e x = false := by simpa using ho
    rw [hb] at eo
    rw [if_neg ho, hb]
    refine ⟨h, eq_of_wR ?_, T0⟩
    unfold m_Net_give_up
    refine wRB rfl ?_
    simp [ii, eo, truth]
def lgA : En → Heap → RS := (sAsg (gV 12) (mAn (mB (oIn false) (mV 11) (mV 4)) (mB (oEq false) (mB oIx (mB oIx (mV 4) (mV 11)) (mK (.int 0))) (mV 10))))
def lgB : En → Heap → RS := (sIf (tTr (mV 12)) (sDrop (mAlt (mBM bPopAt (mV 4) (mCons (mV 11) (mNil))) (mPop1 (mV 4) (mV 11)))) (sNx))
def lgC : En → Heap → RS := (sAsg (gV 9) (mB (oEq false) (mMeth 0 m_Net_give_up [] (mV 3) (mCons (mV 10) (mCons (mV 11) (mNil)))) (mV 12)))
def lwG : En → Heap → RS := (sSeq (sAsg (gV 10) (mCall m__law_next [] (mCons (mV 1) (mCons (mK (.int 4)) (mNil)))))
    (sSeq (sAsg (gV 11) (mB oAdd (mK (.int 1)) (mCall m__law_next [] (mCons (mV 1) (mCons (mK (.int 8)) (mNil))))))
    (sSeq lgA (sSeq lgB lgC))))
theorem lgB_ok (k : Ok s) (T0 : Tn p a ns (nodes A rg s s) h) (x : Int) {x0 x1 x2 x3 x5 x6 x7 x8 x9 x13 : Option Val} :
    ∃ h', lgB [x0, x1, x2, x3, some (.ref A.lr), x5, x6, x7, x8, x9, some (.int (e : Nat)), some (.int x), some (.bl (ownB s e x)), x13] h = .nx [x0, x1, x2, x3, some (.ref A.lr), x5, x6, x7, x8, x9, some (.int (e : Nat)), some (.int x), some (.bl (ownB s e x)), x13] h' ∧ Tn p a ns (nodes A rg s (gupS s e x)) h' := by
  unfold gupS
  by_cases ho : ownB s e x = true
  · obtain ⟨hx, _⟩ := own_mem ho
    have d0 : h[A.lr]? = some (.dct (dI (lrowV A s) s.N)) := T0.on.get (i := 6) rfl
    have p1 := popD (m := mV 4) (mx := mV 11) (st := [x0, x1, x2, x3, some (.ref A.lr), x5, x6, x7, x8, x9, some (.int (e : Nat)), some (.int x), some (.bl (ownB s e x)), x13]) rfl rfl d0 hx
    obtain ⟨o1, ho1⟩ : ∃ o, o = Obj.dct (dI (lrowV A s) (drp x s.N)) := ⟨_, rfl⟩
    have T1 := Tn_set (j := 6) T0 rfl o1
    rw [← ho1] at p1
    rw [if_pos ho]
    refine ⟨h.set A.lr o1, eq_nx ?_, ?_⟩
    · unfold lgB
      rw [ho] at p1 ⊢
      simp -implicitDefEqProofs [-wR_mAlt, truth, p1]
    · have e4 : nodes A rg s { s with N := drp x s.N } = fx A rg s { s with N := drp x s.N } ++ (rsN A s ++ rsL A { s with N := drp x s.N }) := rfl
      rw [e4]
      have ef : fx A rg s { s with N := drp x s.N } = [(A.nt, netO A s), (A.nR, .lst (rg.map oF)), (A.rw_, .dct (dI (rowV s) s.N)), (A.rg, .dct (dI (ringV A) s.N)), (A.gn, .lst (s.G.map pkV)), (A.lR, .lst (rg.map oF)), (A.lr, o1), (A.ls, .lst [.int (s.m : Nat), .int (s.lo : Nat)]), (A.lt, .lst (s.G.map pkV))] := by
        unfold fx
        rw [ho1]
        rfl
      rw [ef]
      refine Tn_sub T1 ?_
      refine List.Sublist.append (List.Sublist.refl _) (List.Sublist.append (List.Sublist.refl _) ?_)
      exact (List.filter_sublist).map _
  · have hb : ownB s e x = false := by simpa using ho
    rw [if_neg ho]
    refine ⟨h, eq_nx ?_, T0⟩
    unfold lgB
    rw [hb]
    simp [truth]
theorem lgA_ok (T : Tn p a ns (nodes A rg s s) h) (x : Int) {x0 x1 x2 x3 x5 x6 x7 x8 x9 x12 x13 : Option Val} :
    lgA [x0, x1, x2, x3, some (.ref A.lr), x5, x6, x7, x8, x9, some (.int (e : Nat)), some (.int x), x12, x13] h = .nx [x0, x1, x2, x3, some (.ref A.lr), x5, x6, x7, x8, x9, some (.int (e : Nat)), some (.int x), some (.bl (ownB s e x)), x13] h := by
  have n2 : h[A.lr]? = some (.dct (dI (lrowV A s) s.N)) := T.on.get (i := 6) rfl
  have e0 := oIn_dct (neg := false) (x := .int x) n2 rfl
  rw [lookI] at e0
  refine eq_nx ?_
  unfold lgA ownB
  by_cases hx : x ∈ s.N
  · rw [if_pos hx] at e0
    have e2 := lookI_in (g := lrowV A s) hx
    have e3 : (((s.E x : Nat) : Int) == (e : Int)) = decide (s.E x = e) := by
      rw [Bool.eq_iff_iff]; simp; omega
    simp [gV, e0, n2, e2, lrowV, hx, e3]
  · rw [if_neg hx] at e0
    simp [gV, e0, hx]
theorem lwG_ok (k : Ok s) (T0 : Tn p a ns (nodes A rg s s) h) {x0 x2 x5 x6 x7 x8 x9 x10 x11 x12 x13 : Option Val} :
    ∃ x10' x11' x12' h' e x, lwG [x0, some (.ref p), x2, some (.ref A.nt), some (.ref A.lr), x5, x6, x7, x8, x9, x10, x11, x12, x13] h = .nx [x0, some (.ref p), x2, some (.ref A.nt), some (.ref A.lr), x5, x6, x7, x8, some (.bl true), x10', x11', x12', x13] h' ∧ Tn p a ns (nodes A rg (gupS s e x) (gupS s e x)) h' := by
  obtain ⟨e, h1, _, e1, T1⟩ := nat_ok T0 (n := 4) (by decide) (by decide)
  obtain ⟨v, h2, _, e2, T2⟩ := nat_ok T1 (n := 8) (by decide) (by decide)
  have e1 : m__law_next [.ref p, .int 4] h = .ok (.int (e : Nat)) h1 := e1
  have e2 : m__law_next [.ref p, .int 8] h1 = .ok (.int (v : Nat)) h2 := e2
  obtain ⟨x, hxv⟩ : ∃ x : Int, x = 1 + (v : Int) := ⟨_, rfl⟩
  have a3 := lgA_ok (e := e) T2 x (x0 := x0) (x1 := some (.ref p)) (x2 := x2) (x3 := some (.ref A.nt)) (x5 := x5) (x6 := x6) (x7 := x7) (x8 := x8) (x9 := x9) (x12 := x12) (x13 := x13)
  obtain ⟨h3, a4, T3⟩ := lgB_ok (e := e) k T2 x (x0 := x0) (x1 := some (.ref p)) (x2 := x2) (x3 := some (.ref A.nt)) (x5 := x5) (x6 := x6) (x7 := x7) (x8 := x8) (x9 := x9) (x13 := x13)
  obtain ⟨h4, a5, T4⟩ := gup_ok k T3 e x
  have n3 : h3[A.nt]? = some (netO A s) := T3.on.get (i := 0) rfl
  unfold netO at n3
  have ii : isIns 0 (.ref A.nt) h3 = true := by simp [isIns, n3]
  refine ⟨some (.int (e : Nat)), some (.int x), some (.bl (ownB s e x)), h4, e, x, eq_nx ?_, T4⟩
  unfold lwG
  obtain ⟨q1, h1'⟩ : ∃ X, X = lgA := ⟨_, rfl⟩
  obtain ⟨q2, h2'⟩ : ∃ X, X = lgB := ⟨_, rfl⟩
  rw [← h1'] at a3 ⊢
  rw [← h2'] at a4 ⊢
  unfold lgC
  simp -implicitDefEqProofs [gV, e1, e2, ← hxv, a3, a4, ii, a5]
end
end Lw

set_option Elab.async false
set_option linter.all false
set_option autoImplicit false
set_option maxHeartbeats 4000000
namespace Lw
open PyM
section
variable {rg : List (Option (List Te))} {A : Ad} {s s' : S} {e : Nat} {F : List Te} {h : Heap} {p a : Nat} {ns : List Int}
/-! sending -/
def sndS (s : S) (pk : List Nat) : S := { s with G := s.G ++ [pk] }
theorem send_ok (k : Ok s) (hg : s.G.length < 100) {pk : List Nat} (hp : Pk pk) (T0 : Tn p a ns (nodes A rg s s') h) : ∃ x h', m_Net_send [.ref A.nt, pkV pk] h = .ok x h' ∧ Tn p a ns (nodes A rg (sndS s pk) s') h' := by
  obtain ⟨g1, e1⟩ := isp_eq hp (h := h)
  obtain ⟨H1, E1⟩ : ∃ H, H = h ++ g1 := ⟨_, rfl⟩
  have T1 := T0.ext (h' := H1) ⟨g1, E1⟩
  rw [← E1] at e1
  have n1 : H1[A.nt]? = some (netO A s) := T1.on.get (i := 0) rfl
  unfold netO at n1
  have n2 : H1[A.gn]? = some (.lst (s.G.map pkV)) := T1.on.get (i := 4) rfl
  have T2 := Tn_set (j := 4) T1 rfl (.lst ((s.G ++ [pk]).map pkV))
  have ll : s.G.length < lim := by have : 100 < lim := by decide
                                   omega
  have sq : (seqOf (.ref A.gn) H1).isSome = true := by simp [seqOf_at n2]
  have w : wR (m_Net_send [.ref A.nt, pkV pk] h) (fun _ _ => False) fun x h' => Tn p a ns (nodes A rg (sndS s pk) s') h' := by
    unfold m_Net_send
    refine wRB rfl ?_
    simp -implicitDefEqProofs [e1, truth, n1, PyM.lookF, n2, sq, ll]
    have : (s.G.map pkV ++ [pkV pk]) = (s.G ++ [pk]).map pkV := by simp
    rw [this]
    exact T2
  obtain ⟨x, h', e, r⟩ := ex_of_wR w
  exact ⟨x, h', e, r⟩
def lwS : En → Heap → RS := (sSeq (sDrop (mBM bAppend (mV 6) (mCons (mTup (mCons (mV 7) (mCons (mK (.int 1)) (mCons (mK (.int 2)) (mCons (mK (.int 3)) (mCons (mK (.int 4)) (mCons (mK (.int 5)) (mNil)))))))) (mNil))))
    (sDrop (mMeth 0 m_Net_send [] (mV 3) (mCons (mB oIx (mV 6) (mU oNeg (mK (.int 1)))) (mNil)))))
theorem atI_last {xs : List Val} {x : Val} : L2.atI (xs ++ [x]) (-1) = some x := by
  have e : L2.ixN (xs ++ [x]).length (-1) = some xs.length := by
    unfold L2.ixN
    simp
    try omega
  unfold L2.atI
  rw [e]
  simp
theorem lwS_ok (k : Ok s) (hg : s.G.length < 100) {i : Nat} (hi : i < 100) (T0 : Tn p a ns (nodes A rg s s) h) {x0 x1 x2 x4 x5 x8 x9 x10 x11 x12 x13 : Option Val} :
    ∃ h', lwS [x0, x1, x2, some (.ref A.nt), x4, x5, some (.ref A.lt), some (.int (i : Nat)), x8, x9, x10, x11, x12, x13] h = .nx [x0, x1, x2, some (.ref A.nt), x4, x5, some (.ref A.lt), some (.int (i : Nat)), x8, x9, x10, x11, x12, x13] h' ∧ Tn p a ns (nodes A rg (sndS s [i, 1, 2, 3, 4, 5]) (sndS s [i, 1, 2, 3, 4, 5])) h' := by
  have hp : Pk [i, 1, 2, 3, 4, 5] := ⟨rfl, fun x hx => by simp at hx; omega⟩
  have n2 : h[A.lt]? = some (.lst (s.G.map pkV)) := T0.on.get (i := 8) rfl
  have T1 := Tn_set (j := 8) T0 rfl (.lst ((s.G ++ [[i, 1, 2, 3, 4, 5]]).map pkV))
  obtain ⟨H1, E1⟩ : ∃ H, H = h.set A.lt (.lst ((s.G ++ [[i, 1, 2, 3, 4, 5]]).map pkV)) := ⟨_, rfl⟩
  rw [← E1] at T1
  have T1 : Tn p a ns (nodes A rg s (sndS s [i, 1, 2, 3, 4, 5])) H1 := T1
  obtain ⟨x, h2, e2, T2⟩ := send_ok k hg hp T1
  have n3 : H1[A.lt]? = some (.lst (s.G.map pkV ++ [pkV [i, 1, 2, 3, 4, 5]])) := by
    have : H1[A.lt]? = some (.lst ((s.G ++ [[i, 1, 2, 3, 4, 5]]).map pkV)) := T1.on.get (i := 8) rfl
    rw [this]
    simp
  have n1 : H1[A.nt]? = some (netO A s) := T1.on.get (i := 0) rfl
  unfold netO at n1
  have ii : isIns 0 (.ref A.nt) H1 = true := by simp [isIns, n1]
  have ll : s.G.length < lim := by have : 100 < lim := by decide
                                   omega
  have l6 : 6 ≤ lim := by decide
  have sq : (seqOf (.ref A.lt) h).isSome = true := by simp [seqOf_at n2]
  refine ⟨h2, eq_nx ?_, T2⟩
  have a1 : (sDrop (mBM bAppend (mV 6) (mCons (mTup (mCons (mV 7) (mCons (mK (.int 1)) (mCons (mK (.int 2)) (mCons (mK (.int 3)) (mCons (mK (.int 4)) (mCons (mK (.int 5)) (mNil)))))))) (mNil)))) [x0, x1, x2, some (.ref A.nt), x4, x5, some (.ref A.lt), some (.int (i : Nat)), x8, x9, x10, x11, x12, x13] h = .nx [x0, x1, x2, some (.ref A.nt), x4, x5, some (.ref A.lt), some (.int (i : Nat)), x8, x9, x10, x11, x12, x13] H1 := by
    refine eq_nx ?_
    rw [E1]
    have : (s.G ++ [[i, 1, 2, 3, 4, 5]]).map pkV = s.G.map pkV ++ [pkV [i, 1, 2, 3, 4, 5]] := by simp
    rw [this]
    simp [n2, sq, ll, l6, pkV]
  unfold lwS
  rw [wS_sSeq, a1]
  simp -implicitDefEqProofs [ii, n3, atI_last, e2]
/-! looking at the end of a turn -/
def rowF (s : S) (x : Int) : Val := .tup [.int x, .int (s.E x : Nat), encF (s.F x)]
theorem encF_pl (F : List Te) : pl 20 (encF F) = true := pl_tup fun x hx => by
  obtain ⟨t, _, rfl⟩ := List.mem_map.mp hx
  rfl
theorem rowF_pl (s : S) (x : Int) : pl 59 (rowF s x) = true := pl_tup fun y hy => by
  simp only [List.mem_cons, List.not_mem_nil, or_false] at hy
  rcases hy with rfl | rfl | rfl
  · rfl
  · rfl
  · exact pl_up (by decide) (encF_pl _)
theorem pkV_pl (pk : List Nat) : pl 59 (pkV pk) = true := pl_tup fun x hx => by
  obtain ⟨i, _, rfl⟩ := List.mem_map.mp hx
  rfl
theorem filters_ok (k : Ok s) (T0 : Tn p a ns (nodes A rg s s') h) : ∃ q h', m_Net_filters [.ref A.nt] h = .ok (.ref q) h' ∧ Ext h h' ∧ h'[q]? = some (.lst (s.N.map (rowF s))) := by
  have n1 : h[A.nt]? = some (netO A s) := T0.on.get (i := 0) rfl
  unfold netO at n1
  have n2 : h[A.rw_]? = some (.dct (dI (rowV s) s.N)) := T0.on.get (i := 2) rfl
  have es := sortedI n2 k.l64 k.asc
  have l64 := k.l64
  have l1 : 64 < lim := by decide
  have l3 : 3 ≤ lim := by decide
  have w : wR (m_Net_filters [.ref A.nt] h) (fun _ _ => False) fun x h' => ∃ q, x = .ref q ∧ Ext h h' ∧ h'[q]? = some (.lst (s.N.map (rowF s))) := by
    unfold m_Net_filters
    refine wRB rfl ?_
    obtain ⟨H1, E1⟩ : ∃ H1, H1 = h ++ [Obj.lst (s.N.map .int)] := ⟨_, rfl⟩
    rw [← E1] at es
    have g1 : H1[h.length]? = some (.lst (s.N.map .int)) := by rw [E1]; exact at_len
    have x1 : Ext h H1 := ⟨_, E1⟩
    simp -implicitDefEqProofs [n1, PyM.lookF, es, g1]
    refine wR_lcXL Val.int (fun _ => true) (rowF s) (by omega) (fun h' ex => lstIs_at (ex.at g1)) (fun x h' hx ex => ?_) fun h' ex el => ?_
    · refine ⟨_, rfl, rfl, Ext.refl _, fun _ => ?_⟩
      have el := lookI_in (g := rowV s) hx
      have n1' := ex.at (x1.at n1)
      have n2' := ex.at (x1.at n2)
      simp -implicitDefEqProofs [wipeE, gV, n1', PyM.lookF, n2', el, rowV, l3, rowF]
      exact Ext.refl _
    · rw [List.filter_eq_self.mpr (fun _ _ => rfl)] at el
      exact ⟨x1.trans ex, el⟩
  obtain ⟨x, h', e, q, rfl, r⟩ := ex_of_wR w
  exact ⟨q, h', e, r⟩
def lfM : En → Heap → Res Val := (mLc (iLst (mL bSorted2 (mCons (mV 4) (mNil)))) (gV 11) (tTrue) (mTup (mCons (mV 11) (mCons (mB oIx (mB oIx (mV 4) (mV 11)) (mK (.int 0))) (mCons (mB oIx (mB oIx (mV 4) (mV 11)) (mK (.int 1))) (mNil))))) [11])
theorem lfM_ok (k : Ok s) (n2 : h[A.lr]? = some (.dct (dI (lrowV A s) s.N))) {x0 x1 x2 x3 x5 x6 x7 x8 x9 x10 x11 x12 x13 : Option Val} : ∃ q h', lfM [x0, x1, x2, x3, some (.ref A.lr), x5, x6, x7, x8, x9, x10, x11, x12, x13] h = .ok (.ref q) h' ∧ Ext h h' ∧ h'[q]? = some (.lst (s.N.map (rowF s))) := by
  have es := sortedI n2 k.l64 k.asc
  have l64 := k.l64
  have l1 : 64 < lim := by decide
  have l3 : 3 ≤ lim := by decide
  have w : wR (lfM [x0, x1, x2, x3, some (.ref A.lr), x5, x6, x7, x8, x9, x10, x11, x12, x13] h) (fun _ _ => False) fun x h' => ∃ q, x = .ref q ∧ Ext h h' ∧ h'[q]? = some (.lst (s.N.map (rowF s))) := by
    unfold lfM
    obtain ⟨H1, E1⟩ : ∃ H1, H1 = h ++ [Obj.lst (s.N.map .int)] := ⟨_, rfl⟩
    rw [← E1] at es
    have g1 : H1[h.length]? = some (.lst (s.N.map .int)) := by rw [E1]; exact at_len
    have x1' : Ext h H1 := ⟨_, E1⟩
    simp -implicitDefEqProofs [es, g1]
    refine wR_lcXL Val.int (fun _ => true) (rowF s) (by omega) (fun h' ex => lstIs_at (ex.at g1)) (fun x h' hx ex => ?_) fun h' ex el => ?_
    · refine ⟨_, rfl, rfl, Ext.refl _, fun _ => ?_⟩
      have el := lookI_in (g := lrowV A s) hx
      have n2' := ex.at (x1'.at n2)
      simp -implicitDefEqProofs [wipeE, gV, n2', el, lrowV, l3, rowF]
      exact Ext.refl _
    · rw [List.filter_eq_self.mpr (fun _ _ => rfl)] at el
      exact ⟨x1'.trans ex, el⟩
  obtain ⟨x, h', e, q, rfl, r⟩ := ex_of_wR w
  exact ⟨q, h', e, r⟩
def lkA : En → Heap → RS := (sIf (tOr_ (tB_ (mB (oEq true) (mMeth 0 m_Net_filters [] (mV 3) (mNil)) lfM)) (tB_ (mB (oEq true) (mMeth 0 m_Net_lost [] (mV 3) (mNil)) (mB oIx (mV 5) (mK (.int 1)))))) (sRet (mK (.bl false))) (sNx))
theorem lkA_ok (k : Ok s) (T0 : Tn p a ns (nodes A rg s s) h) {x0 x1 x2 x6 x7 x8 x9 x10 x11 x12 x13 : Option Val} : ∃ h', lkA [x0, x1, x2, some (.ref A.nt), some (.ref A.lr), some (.ref A.ls), x6, x7, x8, x9, x10, x11, x12, x13] h = .nx [x0, x1, x2, some (.ref A.nt), some (.ref A.lr), some (.ref A.ls), x6, x7, x8, x9, x10, x11, x12, x13] h' ∧ Tn p a ns (nodes A rg s s) h' := by
  have n0 : h[A.nt]? = some (netO A s) := T0.on.get (i := 0) rfl
  unfold netO at n0
  have ii : isIns 0 (.ref A.nt) h = true := by simp [isIns, n0]
  obtain ⟨q1, h1, e1, x1', g1⟩ := filters_ok k T0
  have T1 := T0.ext x1'
  obtain ⟨q2, h2, e2, x2', g2⟩ := lfM_ok k (A := A) (T1.on.get (i := 6) rfl) (x0 := x0) (x1 := x1) (x2 := x2) (x3 := some (.ref A.nt)) (x5 := some (.ref A.ls)) (x6 := x6) (x7 := x7) (x8 := x8) (x9 := x9) (x10 := x10) (x11 := x11) (x12 := x12) (x13 := x13)
  have T2 := T1.ext x2'
  have pa : (s.N.map (rowF s)).all (pl 59) = true := by
    rw [List.all_map]
    exact List.all_eq_true.mpr fun x _ => rowF_pl s x
  have eq := oEq_lst (neg := true) (x2'.at g1) g2 pa pa
  have n2 : h2[A.nt]? = some (netO A s) := T2.on.get (i := 0) rfl
  unfold netO at n2
  have ii2 : isIns 0 (.ref A.nt) h2 = true := by simp [isIns, n2]
  have n3 : h2[A.ls]? = some (.lst [.int (s.m : Nat), .int (s.lo : Nat)]) := T2.on.get (i := 7) rfl
  have el : m_Net_lost [.ref A.nt] h2 = .ok (.int (s.lo : Nat)) h2 := by
    refine eq_of_wR ?_
    unfold m_Net_lost
    refine wRB rfl ?_
    simp [n2, PyM.lookF]
  refine ⟨h2, eq_nx ?_, T2⟩
  unfold lkA
  obtain ⟨M, hM⟩ : ∃ X, X = lfM := ⟨_, rfl⟩
  rw [← hM] at e2 ⊢
  simp -implicitDefEqProofs [ii, e1, e2, eq, ii2, el, n3]
def lkB : En → Heap → RS := (sIf (tB_ (mB (oEq true) (mMeth 0 m_Net_ring [] (mV 3) (mCons (mV 11) (mNil))) (mIf (tB_ (mB (oIn false) (mV 11) (mV 4))) (mB oIx (mB oIx (mV 4) (mV 11)) (mK (.int 2))) (mLst (mNil))))) (sRet (mK (.bl false))) (sNx))
theorem ring_ok (T0 : Tn p a ns (nodes A rg s s') h) (x : Int) : ∃ q h', m_Net_ring [.ref A.nt, .int x] h = .ok (.ref q) h' ∧ Ext h h' ∧ h'[q]? = some (.lst (if x ∈ s.N then (s.P x).map pkV else [])) := by
  have n0 : h[A.nt]? = some (netO A s) := T0.on.get (i := 0) rfl
  unfold netO at n0
  have n2 : h[A.rg]? = some (.dct (dI (ringV A) s.N)) := T0.on.get (i := 3) rfl
  have l0 : 0 ≤ lim := Nat.zero_le _
  have n0' : (h ++ [Obj.lst []])[A.nt]? = some (netO A s) := at_push n0
  have n2' : (h ++ [Obj.lst []])[A.rg]? = some (.dct (dI (ringV A) s.N)) := at_push n2
  have eg := dGet_at (y := .int x) (z := .ref h.length) n2' rfl
  rw [lookI] at eg
  have w : wR (m_Net_ring [.ref A.nt, .int x] h) (fun _ _ => False) fun x' h' => ∃ q, x' = .ref q ∧ Ext h h' ∧ h'[q]? = some (.lst (if x ∈ s.N then (s.P x).map pkV else [])) := by
    unfold m_Net_ring
    refine wRB rfl ?_
    by_cases hx : x ∈ s.N
    · rw [if_pos hx] at eg
      have er : (h ++ [Obj.lst []])[A.RA x]? = _ := at_push (ringN_at T0 hx)
      simp -implicitDefEqProofs [n0, PyM.lookF, isD_dct n2, l0, eg, ringV, er, hx]
      first | exact ⟨_, rfl⟩ | exact ⟨⟨_, rfl⟩, rfl⟩
    · rw [if_neg hx] at eg
      have er : (h ++ [Obj.lst []])[h.length]? = some (Obj.lst []) := at_len
      simp -implicitDefEqProofs [n0, PyM.lookF, isD_dct n2, l0, eg, er, hx]
      first | exact ⟨_, rfl⟩ | exact ⟨⟨_, rfl⟩, rfl⟩
  obtain ⟨x', h', e, q, rfl, r⟩ := ex_of_wR w
  exact ⟨q, h', e, r⟩
theorem lkB_ok (k : Ok s) (T0 : Tn p a ns (nodes A rg s s) h) (x : Int) {x0 x1 x2 x5 x6 x7 x8 x9 x10 x12 x13 : Option Val} : ∃ h', lkB [x0, x1, x2, some (.ref A.nt), some (.ref A.lr), x5, x6, x7, x8, x9, x10, some (.int x), x12, x13] h = .nx [x0, x1, x2, some (.ref A.nt), some (.ref A.lr), x5, x6, x7, x8, x9, x10, some (.int x), x12, x13] h' ∧ Tn p a ns (nodes A rg s s) h' := by
  have n0 : h[A.nt]? = some (netO A s) := T0.on.get (i := 0) rfl
  unfold netO at n0
  have ii : isIns 0 (.ref A.nt) h = true := by simp [isIns, n0]
  obtain ⟨q1, h1, e1, x1', g1⟩ := ring_ok T0 x
  have T1 := T0.ext x1'
  have n2 : h1[A.lr]? = some (.dct (dI (lrowV A s) s.N)) := T1.on.get (i := 6) rfl
  have e0 := oIn_dct (neg := false) (x := .int x) n2 rfl
  rw [lookI] at e0
  have l0 : 0 ≤ lim := Nat.zero_le _
  by_cases hx : x ∈ s.N
  · rw [if_pos hx] at e0 g1
    have e2 := lookI_in (g := lrowV A s) hx
    have er := ringL_at T1 hx
    have pa : ((s.P x).map pkV).all (pl 59) = true := by
      rw [List.all_map]
      exact List.all_eq_true.mpr fun y _ => pkV_pl y
    have eq := oEq_lst (neg := true) g1 er pa pa
    refine ⟨h1, eq_nx ?_, T1⟩
    unfold lkB
    simp -implicitDefEqProofs [ii, e1, e0, n2, e2, lrowV, eq]
  · rw [if_neg hx] at e0 g1
    have g2 : (h1 ++ [Obj.lst []])[q1]? = some (.lst []) := at_push g1
    have g3 : (h1 ++ [Obj.lst []])[h1.length]? = some (.lst []) := at_len
    have eq := oEq_lst (neg := true) g2 g3 rfl rfl
    refine ⟨h1 ++ [Obj.lst []], eq_nx ?_, T1.ext ⟨_, rfl⟩⟩
    unfold lkB
    simp -implicitDefEqProofs [ii, e1, e0, l0, eq]
theorem lkB_loop (k : Ok s) {D : K4} {x0 x1 x2 x5 x6 x7 x8 x9 x10 x12 x13 : Option Val} : ∀ (l : List Int) (x11 : Option Val) (h : Heap), Tn p a ns (nodes A rg s s) h →
    (∀ x11 h', Tn p a ns (nodes A rg s s) h' → D.nx [x0, x1, x2, some (.ref A.nt), some (.ref A.lr), x5, x6, x7, x8, x9, x10, x11, x12, x13] h') →
    wS (forM_ (fun _ => true) (gV 11) lkB (l.map .int) [x0, x1, x2, some (.ref A.nt), some (.ref A.lr), x5, x6, x7, x8, x9, x10, x11, x12, x13] h) D
  | [], x11, h, T, fin => by
    rw [List.map_nil, wS_forM_nil]
    exact ⟨rfl, fin _ _ T⟩
  | x :: l, x11, h, T, fin => by
    rw [List.map_cons, wS_forM_cons]
    refine ⟨rfl, ?_⟩
    have hg : gV 11 (.int x) [x0, x1, x2, some (.ref A.nt), some (.ref A.lr), x5, x6, x7, x8, x9, x10, x11, x12, x13] = some [x0, x1, x2, some (.ref A.nt), some (.ref A.lr), x5, x6, x7, x8, x9, x10, some (.int x), x12, x13] := rfl
    rw [hg]
    dsimp only
    obtain ⟨h', eb, T'⟩ := lkB_ok k T x (x0 := x0) (x1 := x1) (x2 := x2) (x5 := x5) (x6 := x6) (x7 := x7) (x8 := x8) (x9 := x9) (x10 := x10) (x12 := x12) (x13 := x13)
    rw [eb]
    exact lkB_loop k l _ h' T' fin
end
end Lw

set_option Elab.async false
set_option linter.all false
set_option autoImplicit false
set_option maxHeartbeats 4000000
namespace Lw
open PyM
def inA : En → Heap → RS := (sIf (tOr_ (tNo (tTr (mIsi .lst (mV 1)))) (tB_ (mB (oEq true) (mL bLen (mCons (mV 1) (mNil))) (mK (.int 4))))) (sRaise 2) (sNx))
def inB : En → Heap → RS := (sIf (tNo (tTr (mL bAll (mCons (mLc (iAlt (iLst (mV 1)) (iTup_ (mV 1))) (gV 3) (tTrue) (mOr_ (mU (oIsN false) (mV 3)) (mCall m_is_filter [] (mCons (mV 3) (mNil)))) [3]) (mNil))))) (sRaise 2) (sNx))
def inC : En → Heap → RS := (sFld 0 0 (mV 0) (mL bList (mCons (mV 1) (mNil))))
def inD : En → Heap → RS := (sSeq (sAsg (gV 3) (mB oIx (mV 1) (mV 2)))
    (sIf (tAn (tB_ (mU (oIsN true) (mV 3))) (tB_ (mU (oIsN true) (mMeth 0 m_Net__common_with_regions [] (mV 0) (mCons (mV 2) (mCons (mV 3) (mNil))))))) (sRaise 2) (sNx)))
def inE (n : Nat) : En → Heap → RS := (sSeq (sFld 0 1 (mV 0) (mK (.int 0)))
    (sSeq (sFld 0 2 (mV 0) (mDct))
    (sSeq (sFld 0 3 (mV 0) (mDct))
    (sSeq (sFld 0 4 (mV 0) (mK c_EMPTY))
    (sSeq (sFld 0 5 (mV 0) (mLst (mNil)))
    (sFld 0 6 (mV 0) (mK (.int 0))))))))
theorem in_cut : m_Net___init__ = runB 2 4
    (sSeq inA (sSeq inB (sSeq inC (sSeq (sFor (iRng1 (mCons (mK (.int 4)) (mNil))) (gV 2) inD) (inE 0))))) := rfl
section
variable {rg : List (Option (List Te))} {A : Ad} {s s' : S} {e : Nat} {F : List Te} {h : Heap} {p a : Nat} {ns : List Int} {nt q : Nat} {R : Nodes}
theorem oF_eq (o : Option (List Te)) : oF o = match o with | none => .non | some F => encF F := by cases o <;> rfl
theorem inB_ok (hr : RgOk rg) (eq : h[q]? = some (.lst (rg.map oF))) {x2 x3 : Option Val} : ∃ g, inB [some (.ref nt), some (.ref q), x2, x3] h = .nx [some (.ref nt), some (.ref q), x2, x3] (h ++ g) := by
  have l4 : 4 < lim := by decide
  have w : wS (inB [some (.ref nt), some (.ref q), x2, x3] h) { nx := fun s' h' => s' = [some (.ref nt), some (.ref q), x2, x3] ∧ Ext h h', rt := fun _ _ => False } := by
    unfold inB
    simp -implicitDefEqProofs [eq]
    refine wR_lcXL oF (fun _ => true) (fun _ => .bl true) (by rw [hr.1]; exact l4) (fun h' ex => lstIs_at (ex.at eq)) (fun o h' ho ex => ⟨_, rfl, rfl, Ext.refl _, fun _ => ?_⟩) fun h' ex el => ?_
    · cases o with
      | none =>
        simp -implicitDefEqProofs [wipeE, gV, oF]
        exact Ext.refl _
      | some F =>
        obtain ⟨g, ef⟩ := isf_eq (hr.2 F ho) (h := h')
        have ef' : m_is_filter [oF (some F)] h' = .ok (.bl true) (h' ++ g) := ef
        have e1 : (match oF (some F) with | .non => true | _ => false) = false := rfl
        simp -implicitDefEqProofs [wipeE, gV, ef', e1]
        exact ⟨g, rfl⟩
    · have e3 := optAll_bl (fun _ : Option (List Te) => true) (rg.filter fun _ => true)
      simp only [seqOf_at el, e3]
      simp -implicitDefEqProofs [truth]
      exact ex
  cases eb : inB [some (.ref nt), some (.ref q), x2, x3] h with
  | nx s' h' =>
    rw [eb] at w
    obtain ⟨rfl, g, rfl⟩ := w
    exact ⟨g, rfl⟩
  | _ => rw [eb] at w; exact w.elim
theorem inC_ok {fs : List (Nat × Val)} (eq : h[q]? = some (.lst (rg.map oF))) (en : h[nt]? = some (.ins 0 fs)) (hl : fs.length < 1000) {x2 x3 : Option Val} : inC [some (.ref nt), some (.ref q), x2, x3] h = .nx [some (.ref nt), some (.ref q), x2, x3] ((h ++ [Obj.lst (rg.map oF)]).set nt (.ins 0 (setF 0 (.ref h.length) fs))) := by
  refine eq_nx ?_
  unfold inC
  simp -implicitDefEqProofs [eq, at_push en, hl]
theorem inD_ok (hr : RgOk rg) {i nR : Nat} (hi : i < 4) {fs : List (Nat × Val)} (eq : h[q]? = some (.lst (rg.map oF))) (en : h[nt]? = some (.ins 0 ((0, .ref nR) :: fs))) (eR : h[nR]? = some (.lst (rg.map oF))) (x3 : Option Val) (D : K4)
    (fin : (∀ F, rg.getD i none = some F → fstC F (regL rg i (List.range 4)) = none) → ∀ x3 g, D.nx [some (.ref nt), some (.ref q), some (.int (i : Nat)), x3] (h ++ g))
    (rai : ∀ F pk, rg.getD i none = some F → fstC F (regL rg i (List.range 4)) = some pk → ∀ g, D.ex 2 (h ++ g)) :
    wS (inD [some (.ref nt), some (.ref q), some (.int (i : Nat)), x3] h) D := by
  have ea := rg_at hr.1 hi
  have ii : isIns 0 (.ref nt) h = true := by simp [isIns, en]
  unfold inD
  cases qo : rg.getD i none with
  | none =>
    rw [qo] at ea
    have ea : L2.atI (rg.map oF) (i : Int) = some .non := ea
    have := fin (fun F z => by rw [qo] at z; cases z) (some .non) []
    rw [List.append_nil] at this
    simp -implicitDefEqProofs [eq, ea, gV]
    exact this
  | some F =>
    rw [qo] at ea
    have ea : L2.atI (rg.map oF) (i : Int) = some (encF F) := ea
    obtain ⟨g, ec⟩ := cr_ok (e := i) hr (rg_good hr qo) en eR
    cases qf : fstC F (regL rg i (List.range 4)) with
    | none =>
      rw [qf] at ec
      have ec : m_Net__common_with_regions [.ref nt, .int (i : Nat), encF F] h = .ok .non (h ++ g) := ec
      have := fin (fun G z => by rw [qo] at z; cases z; exact qf) (some (encF F)) g
      simp -implicitDefEqProofs [eq, ea, gV, ii, ec]
      simp -implicitDefEqProofs [encF]
      exact this
    | some pk =>
      rw [qf] at ec
      have ec : m_Net__common_with_regions [.ref nt, .int (i : Nat), encF F] h = .ok (pkV pk) (h ++ g) := ec
      have := rai F pk qo qf g
      simp -implicitDefEqProofs [eq, ea, gV, ii, ec]
      simp -implicitDefEqProofs [encF, pkV]
      exact this
theorem inD_loop (hr : RgOk rg) {nR : Nat} {fs : List (Nat × Val)} {D : K4} : ∀ (is : List Nat) (x2 x3 : Option Val) (h : Heap), (∀ i ∈ is, i < 4) → (∀ i ∈ is, ∀ F, rg.getD i none = some F → fstC F (regL rg i (List.range 4)) = none) → h[q]? = some (.lst (rg.map oF)) → h[nt]? = some (.ins 0 ((0, .ref nR) :: fs)) → h[nR]? = some (.lst (rg.map oF)) →
    (∀ x2 x3 g, D.nx [some (.ref nt), some (.ref q), x2, x3] (h ++ g)) →
    wS (forM_ (fun _ => true) (gV 2) inD (is.map fun i : Nat => .int (i : Nat)) [some (.ref nt), some (.ref q), x2, x3] h) D
  | [], x2, x3, h, _, _, _, _, _, fin => by
    rw [List.map_nil, wS_forM_nil]
    have := fin x2 x3 []
    rw [List.append_nil] at this
    exact ⟨rfl, this⟩
  | i :: is, x2, x3, h, hi, ap, eq, en, eR, fin => by
    rw [List.map_cons, wS_forM_cons]
    refine ⟨rfl, ?_⟩
    have hg : gV 2 (.int (i : Nat)) [some (.ref nt), some (.ref q), x2, x3] = some [some (.ref nt), some (.ref q), some (.int (i : Nat)), x3] := rfl
    rw [hg]
    dsimp only
    have api := ap i List.mem_cons_self
    refine inD_ok hr (hi i List.mem_cons_self) eq en eR x3 _ (fun _ x3 g => ?_) fun F pk h1 h2 => by rw [api F h1] at h2; cases h2
    refine inD_loop hr is _ _ (h ++ g) (fun j hj => hi j (List.mem_cons_of_mem _ hj)) (fun j hj => ap j (List.mem_cons_of_mem _ hj)) (at_push eq) (at_push en) (at_push eR) fun x2 x3 g2 => ?_
    rw [List.append_assoc]
    exact fin _ _ _
theorem fldK {f : Nat} {v : Val} {fs : List (Nat × Val)} {st : En} (en : h[nt]? = some (.ins 0 fs)) (hl : fs.length < 1000 := by simp) : sFld 0 f (mV 0) (mK v) (some (.ref nt) :: st) h = .nx (some (.ref nt) :: st) (h.set nt (.ins 0 (setF f v fs))) := eq_nx (by simp -implicitDefEqProofs [en, hl])
theorem fldD {f : Nat} {fs : List (Nat × Val)} {st : En} (en : h[nt]? = some (.ins 0 fs)) (hl : fs.length < 1000 := by simp) : sFld 0 f (mV 0) mDct (some (.ref nt) :: st) h = .nx (some (.ref nt) :: st) ((h ++ [Obj.dct []]).set nt (.ins 0 (setF f (.ref h.length) fs))) := eq_nx (by simp -implicitDefEqProofs [at_push en, hl])
theorem fldL {f : Nat} {fs : List (Nat × Val)} {st : En} (en : h[nt]? = some (.ins 0 fs)) (hl : fs.length < 1000 := by simp) : sFld 0 f (mV 0) (mLst mNil) (some (.ref nt) :: st) h = .nx (some (.ref nt) :: st) ((h ++ [Obj.lst []]).set nt (.ins 0 (setF f (.ref h.length) fs))) := eq_nx (by simp -implicitDefEqProofs [at_push en, hl])
theorem inE_ok {nR : Nat} {x1 x2 x3 : Option Val} (T0 : Tn p a ns ((nt, .ins 0 [(0, .ref nR)]) :: R) h) : ∃ rw_ rgd gn h', inE 0 [some (.ref nt), x1, x2, x3] h = .nx [some (.ref nt), x1, x2, x3] h' ∧
    Tn p a ns ((gn, .lst []) :: (rgd, .dct []) :: (rw_, .dct []) :: (nt, .ins 0 [(0, .ref nR), (1, .int 0), (2, .ref rw_), (3, .ref rgd), (4, c_EMPTY), (5, .ref gn), (6, .int 0)]) :: R) h' := by
  have g0 : h[nt]? = some (.ins 0 [(0, .ref nR)]) := T0.on.get (i := 0) rfl
  have a1 := fldK (f := 1) (v := .int 0) (st := [x1, x2, x3]) g0
  have T1 := Tn_set (j := 0) T0 rfl (.ins 0 (setF 1 (.int 0) [(0, .ref nR)]))
  obtain ⟨H1, E1⟩ : ∃ H, H = h.set nt (.ins 0 (setF 1 (.int 0) [(0, .ref nR)])) := ⟨_, rfl⟩
  rw [← E1] at a1 T1
  have g1 : H1[nt]? = some (.ins 0 [(0, .ref nR), (1, .int 0)]) := T1.on.get (i := 0) rfl
  have a2 := fldD (f := 2) (st := [x1, x2, x3]) g1
  have T2 := Tn_set (j := 1) (Tn_new T1 (.dct [])) rfl (.ins 0 (setF 2 (.ref H1.length) [(0, .ref nR), (1, .int 0)]))
  obtain ⟨H2, E2⟩ : ∃ H, H = (H1 ++ [Obj.dct []]).set nt (.ins 0 (setF 2 (.ref H1.length) [(0, .ref nR), (1, .int 0)])) := ⟨_, rfl⟩
  rw [← E2] at a2 T2
  have g2 : H2[nt]? = some (.ins 0 [(0, .ref nR), (1, .int 0), (2, .ref H1.length)]) := T2.on.get (i := 1) rfl
  have a3 := fldD (f := 3) (st := [x1, x2, x3]) g2
  have T3 := Tn_set (j := 2) (Tn_new T2 (.dct [])) rfl (.ins 0 (setF 3 (.ref H2.length) [(0, .ref nR), (1, .int 0), (2, .ref H1.length)]))
  obtain ⟨H3, E3⟩ : ∃ H, H = (H2 ++ [Obj.dct []]).set nt (.ins 0 (setF 3 (.ref H2.length) [(0, .ref nR), (1, .int 0), (2, .ref H1.length)])) := ⟨_, rfl⟩
  rw [← E3] at a3 T3
  have g3 : H3[nt]? = some (.ins 0 [(0, .ref nR), (1, .int 0), (2, .ref H1.length), (3, .ref H2.length)]) := T3.on.get (i := 2) rfl
  have a4 := fldK (f := 4) (v := c_EMPTY) (st := [x1, x2, x3]) g3
  have T4 := Tn_set (j := 2) T3 rfl (.ins 0 (setF 4 c_EMPTY [(0, .ref nR), (1, .int 0), (2, .ref H1.length), (3, .ref H2.length)]))
  obtain ⟨H4, E4⟩ : ∃ H, H = H3.set nt (.ins 0 (setF 4 c_EMPTY [(0, .ref nR), (1, .int 0), (2, .ref H1.length), (3, .ref H2.length)])) := ⟨_, rfl⟩
  rw [← E4] at a4 T4
  have g4 : H4[nt]? = some (.ins 0 [(0, .ref nR), (1, .int 0), (2, .ref H1.length), (3, .ref H2.length), (4, c_EMPTY)]) := T4.on.get (i := 2) rfl
  have a5 := fldL (f := 5) (st := [x1, x2, x3]) g4
  have T5 := Tn_set (j := 3) (Tn_new T4 (.lst [])) rfl (.ins 0 (setF 5 (.ref H4.length) [(0, .ref nR), (1, .int 0), (2, .ref H1.length), (3, .ref H2.length), (4, c_EMPTY)]))
  obtain ⟨H5, E5⟩ : ∃ H, H = (H4 ++ [Obj.lst []]).set nt (.ins 0 (setF 5 (.ref H4.length) [(0, .ref nR), (1, .int 0), (2, .ref H1.length), (3, .ref H2.length), (4, c_EMPTY)])) := ⟨_, rfl⟩
  rw [← E5] at a5 T5
  have g5 : H5[nt]? = some (.ins 0 [(0, .ref nR), (1, .int 0), (2, .ref H1.length), (3, .ref H2.length), (4, c_EMPTY), (5, .ref H4.length)]) := T5.on.get (i := 3) rfl
  have a6 := fldK (f := 6) (v := .int 0) (st := [x1, x2, x3]) g5
  have T6 := Tn_set (j := 3) T5 rfl (.ins 0 (setF 6 (.int 0) [(0, .ref nR), (1, .int 0), (2, .ref H1.length), (3, .ref H2.length), (4, c_EMPTY), (5, .ref H4.length)]))
  refine ⟨H1.length, H2.length, H4.length, _, ?_, T6⟩
  unfold inE sSeq
  rw [a1]
  simp only [RS.bind]
  rw [a2]
  simp only [RS.bind]
  rw [a3]
  simp only [RS.bind]
  rw [a4]
  simp only [RS.bind]
  rw [a5]
  simp only [RS.bind]
  rw [a6]
end
end Lw

set_option Elab.async false
set_option linter.all false
set_option autoImplicit false
set_option maxHeartbeats 4000000
namespace Lw
open PyM
section
variable {rg : List (Option (List Te))} {A : Ad} {s s' : S} {e : Nat} {F : List Te} {h : Heap} {p a : Nat} {ns : List Int} {nt q : Nat} {R : Nodes}
def Ap (rg : List (Option (List Te))) : Prop := ∀ i < 4, ∀ F, rg.getD i none = some F → fstC F (regL rg i (List.range 4)) = none
theorem inA_ok {ys : List Val} (eq : h[q]? = some (.lst ys)) (h4 : ys.length = 4) {x0 x2 x3 : Option Val} : inA [x0, some (.ref q), x2, x3] h = .nx [x0, some (.ref q), x2, x3] h := by
  refine eq_nx ?_
  unfold inA
  simp [isTy, tyOf, eq, truth, h4]
theorem init_ok (hr : RgOk rg) (ap : Ap rg) (T0 : Tn p a ns ((nt, .ins 0 []) :: (q, .lst (rg.map oF)) :: R) h) :
    ∃ rw_ rgd gn nR h', m_Net___init__ [.ref nt, .ref q] h = .ok .non h' ∧
      Tn p a ns ((gn, .lst []) :: (rgd, .dct []) :: (rw_, .dct []) :: (nt, .ins 0 [(0, .ref nR), (1, .int 0), (2, .ref rw_), (3, .ref rgd), (4, c_EMPTY), (5, .ref gn), (6, .int 0)]) :: (nR, .lst (rg.map oF)) :: (q, .lst (rg.map oF)) :: R) h' := by
  have eq := T0.on.get (i := 1) rfl
  have eq : h[q]? = some (.lst (rg.map oF)) := eq
  have a1 := inA_ok (x0 := some (.ref nt)) (x2 := none) (x3 := none) eq (by simpa using hr.1)
  obtain ⟨g, a2⟩ := inB_ok (nt := nt) (x2 := none) (x3 := none) hr eq
  have T1 := T0.ext (h' := h ++ g) ⟨g, rfl⟩
  obtain ⟨H1, E1⟩ : ∃ H, H = h ++ g := ⟨_, rfl⟩
  rw [← E1] at a2 T1
  have eq1 : H1[q]? = some (.lst (rg.map oF)) := T1.on.get (i := 1) rfl
  have en1 : H1[nt]? = some (.ins 0 []) := T1.on.get (i := 0) rfl
  have a3 := inC_ok (x2 := none) (x3 := none) eq1 en1 (by simp)
  have T2 := Tn_set (j := 1) (Tn_new T1 (.lst (rg.map oF))) rfl (.ins 0 [(0, .ref H1.length)])
  obtain ⟨H2, E2⟩ : ∃ H, H = (H1 ++ [Obj.lst (rg.map oF)]).set nt (.ins 0 (setF 0 (.ref H1.length) [])) := ⟨_, rfl⟩
  rw [← E2] at a3
  have T2 : Tn p a ns ((H1.length, .lst (rg.map oF)) :: (nt, .ins 0 [(0, .ref H1.length)]) :: (q, .lst (rg.map oF)) :: R) H2 := by rw [E2]; exact T2
  have T3 := T2.perm (List.Perm.swap _ _ _)
  have w : wR (m_Net___init__ [.ref nt, .ref q] h) (fun _ _ => False) fun x h' => x = .non ∧ ∃ rw_ rgd gn, Tn p a ns ((gn, .lst []) :: (rgd, .dct []) :: (rw_, .dct []) :: (nt, .ins 0 [(0, .ref H1.length), (1, .int 0), (2, .ref rw_), (3, .ref rgd), (4, c_EMPTY), (5, .ref gn), (6, .int 0)]) :: (H1.length, .lst (rg.map oF)) :: (q, .lst (rg.map oF)) :: R) h' := by
    rw [in_cut]
    refine wRB rfl ?_
    show wS (sSeq inA (sSeq inB (sSeq inC (sSeq (sFor (iRng1 (mCons (mK (.int 4)) (mNil))) (gV 2) inD) (inE 0)))) [some (.ref nt), some (.ref q), none, none] h) _
    simp -implicitDefEqProofs [a1, a2, a3]
    rw [show rangeV 0 4 = (List.range 4).map fun i : Nat => Val.int (i : Nat) from rangeV0 4]
    refine inD_loop (fs := []) (nR := H1.length) hr (List.range 4) _ _ H2 (fun i hi => List.mem_range.mp hi) (fun i hi => ap i (List.mem_range.mp hi)) (T3.on.get (i := 2) rfl) (T3.on.get (i := 0) rfl) (T3.on.get (i := 1) rfl) fun x2 x3 g2 => ?_
    obtain ⟨rw_, rgd, gn, h', e, T4⟩ := inE_ok (x1 := some (.ref q)) (x2 := x2) (x3 := x3) (T3.ext (h' := H2 ++ g2) ⟨g2, rfl⟩)
    dsimp only
    rw [e]
    exact ⟨rw_, rgd, gn, T4⟩
  obtain ⟨x, h', e, rfl, rw_, rgd, gn, T⟩ := ex_of_wR w
  exact ⟨rw_, rgd, gn, _, h', e, T⟩
theorem refused_len {ys : List Val} (eq : h[q]? = some (.lst ys)) (h4 : ys.length ≠ 4) : ∃ h', m__law_refused [.ref q] h = .ok (.bl true) h' ∧ Ext h h' := by
  have w : wR (m__law_refused [.ref q] h) (fun _ _ => False) fun x h' => x = .bl true ∧ Ext h h' := by
    unfold m__law_refused
    refine wRB rfl ?_
    have h4' : ¬ ((ys.length : Nat) : Int) = 4 := by omega
    simp -implicitDefEqProofs
    rw [in_cut]
    refine wRB rfl ?_
    rw [wS_sSeq]
    unfold inA
    have eq' : (h ++ [Obj.ins 0 []])[q]? = some (.lst ys) := at_push eq
    simp -implicitDefEqProofs [isTy, tyOf, eq', truth, h4']
    exact ⟨_, rfl⟩
  obtain ⟨x, h', e, rfl, r⟩ := ex_of_wR w
  exact ⟨h', e, r⟩
def rg0 : List (Option (List Te)) := [some [(0, 3, 1)], some [(0, 1, 1)], none, none]
theorem rg0_ok : RgOk rg0 := ⟨rfl, fun F hF => by
  simp [rg0] at hF
  rcases hF with rfl | rfl
  · exact ⟨by simpa using g3 (v := 1) (by decide), List.pairwise_singleton _ _⟩
  · exact ⟨by simp [goodT], List.pairwise_singleton _ _⟩⟩
theorem rg0_com : ∃ pk, fstC [(0, 3, 1)] (regL rg0 0 (List.range 4)) = some pk := by
  have e : regL rg0 0 (List.range 4) = [[(0, 1, 1)]] := rfl
  rw [e, fst_one]
  unfold cmb
  rw [if_neg (by simp [Cc, VF, MF, FO, upd])]
  exact ⟨_, rfl⟩
theorem refused_com (eq : h[q]? = some (.lst (rg0.map oF))) : ∃ h', m__law_refused [.ref q] h = .ok (.bl true) h' ∧ Ext h h' := by
  obtain ⟨H, EH⟩ : ∃ H, H = h ++ [Obj.ins 0 []] := ⟨_, rfl⟩
  have x0 : Ext h H := ⟨_, EH⟩
  have eq0 : H[q]? = some (.lst (rg0.map oF)) := x0.at eq
  have en0 : H[h.length]? = some (.ins 0 []) := by rw [EH]; exact at_len
  have a1 := inA_ok (x0 := some (.ref h.length)) (x2 := none) (x3 := none) eq0 rfl
  obtain ⟨g, a2⟩ := inB_ok (nt := h.length) (x2 := none) (x3 := none) rg0_ok eq0
  obtain ⟨H1, E1⟩ : ∃ H', H' = H ++ g := ⟨_, rfl⟩
  rw [← E1] at a2
  have x1 : Ext H H1 := ⟨_, E1⟩
  have eq1 := x1.at eq0
  have en1 := x1.at en0
  have a3 := inC_ok (x2 := none) (x3 := none) eq1 en1 (by simp)
  obtain ⟨H2, E2⟩ : ∃ H, H = (H1 ++ [Obj.lst (rg0.map oF)]).set h.length (.ins 0 (setF 0 (.ref H1.length) [])) := ⟨_, rfl⟩
  rw [← E2] at a3
  have x2 : Ext h H2 := by
    rw [E2]
    exact ((x0.trans x1).app _).set (Nat.le_refl _) _
  have ne1 : h.length ≠ q := fun z => by
    have := at_lt eq
    omega
  have ne2 : h.length ≠ H1.length := fun z => by
    have := at_lt en1
    omega
  have eq2 : H2[q]? = some (.lst (rg0.map oF)) := by rw [E2, at_set_ne ne1]; exact at_push eq1
  have en2 : H2[h.length]? = some (.ins 0 [(0, .ref H1.length)]) := by rw [E2, at_set (at_push en1)]; rfl
  have eR2 : H2[H1.length]? = some (.lst (rg0.map oF)) := by rw [E2, at_set_ne ne2]; exact at_len
  have w : wR (m__law_refused [.ref q] h) (fun _ _ => False) fun x h' => x = .bl true ∧ Ext h h' := by
    unfold m__law_refused
    refine wRB rfl ?_
    simp -implicitDefEqProofs
    rw [← EH, in_cut]
    refine wRB rfl ?_
    show wS (sSeq inA (sSeq inB (sSeq inC (sSeq (sFor (iRng1 (mCons (mK (.int 4)) (mNil))) (gV 2) inD) (inE 0)))) [some (.ref h.length), some (.ref q), none, none] H) _
    simp -implicitDefEqProofs [a1, a2, a3]
    rw [show rangeV 0 4 = Val.int ((0 : Nat) : Int) :: (rangeV 1 3) from rfl, wS_forM_cons]
    refine ⟨rfl, ?_⟩
    have hg : gV 2 (.int ((0 : Nat) : Int)) [some (.ref h.length), some (.ref q), none, none] = some [some (.ref h.length), some (.ref q), some (.int ((0 : Nat) : Int)), none] := rfl
    rw [hg]
    dsimp only
    refine inD_ok rg0_ok (by decide) eq2 en2 eR2 _ _ (fun z x3 g => ?_) fun F pk h1 h2 g => ?_
    · exfalso
      obtain ⟨pk, hk⟩ := rg0_com
      rw [z _ rfl] at hk
      cases hk
    · exact ⟨rfl, x2.app g⟩
  obtain ⟨x, h', e, rfl, r⟩ := ex_of_wR w
  exact ⟨h', e, r⟩
/-! the regions that are drawn -/
structure Dr (rg : List (Option (List Te))) : Prop where
  d : ∀ i, i < rg.length → rg.getD i none = none ∨ rg.getD i none = some [(0, 3, i)]
theorem Dr.ok (d : Dr rg) (h4 : rg.length = 4) : RgOk rg := ⟨h4, fun F hF => by
  obtain ⟨i, hi⟩ := List.mem_iff_getElem?.mp hF
  have lt : i < rg.length := (List.getElem?_eq_some_iff.mp hi).1
  have := d.d i lt
  rw [List.getD_eq_getElem?_getD, hi] at this
  rcases this with z | z
  · cases z
  · cases z
    exact ⟨by simpa using g3 (v := i) (by omega), List.pairwise_singleton _ _⟩⟩
theorem cmb_ne {i j : Nat} (hi : i < 4) (hj : j < 4) (hn : i ≠ j) : cmb [(0, 3, i)] [(0, 3, j)] = none := by
  unfold cmb
  refine if_pos ⟨(0, 3, j), by simp, ?_⟩
  have hi' : i = 0 ∨ i = 1 ∨ i = 2 ∨ i = 3 := by omega
  have hj' : j = 0 ∨ j = 1 ∨ j = 2 ∨ j = 3 := by omega
  rcases hi' with rfl | rfl | rfl | rfl <;> rcases hj' with rfl | rfl | rfl | rfl <;> first | exact absurd rfl hn | simp [Cc, VF, MF, FO, upd]
theorem Dr.ap (d : Dr rg) (h4 : rg.length = 4) : Ap rg := fun i hi F hF => by
  have hi' := d.d i (by omega)
  rw [hF] at hi'
  rcases hi' with z | z
  · cases z
  cases z
  unfold fstC
  rw [List.findSome?_eq_none_iff]
  intro O hO
  obtain ⟨j, hj, q⟩ := List.mem_filterMap.mp hO
  have hj := List.mem_range.mp hj
  split at q
  · cases q
  · rename_i hn
    have hj' := d.d j (by omega)
    rw [q] at hj'
    rcases hj' with z | z
    · cases z
    · cases z
      exact cmb_ne hi hj fun z => hn z.symm
def lrM : En → Heap → Res Val := (mLc (iRng1 (mCons (mK (.int 4)) (mNil))) (gV 13) (tTrue) (mB oIx (mLst (mCons (mK .non) (mCons (mTup (mCons (mTup (mCons (mK (.int 0)) (mCons (mK (.int 3)) (mCons (mV 13) (mNil))))) (mNil))) (mNil)))) (mCall m__law_next [] (mCons (mV 1) (mCons (mK (.int 2)) (mNil))))) [13])
theorem Dr.snoc (d : Dr rg) {o : Option (List Te)} (ho : o = none ∨ o = some [(0, 3, rg.length)]) : Dr (rg ++ [o]) := ⟨fun i hi => by
  simp only [List.getD_eq_getElem?_getD]
  by_cases q : i < rg.length
  · rw [List.getElem?_append_left q]
    have := d.d i q
    simp only [List.getD_eq_getElem?_getD] at this
    exact this
  · have : i = rg.length := by simp at hi; omega
    subst this
    rw [List.getElem?_append_right (Nat.le_refl _)]
    simpa using ho⟩
theorem lrM_ok (T0 : Tn p a ns [] h) {x0 x2 x3 x4 x5 x6 x7 x8 x9 x10 x11 x12 : Option Val} :
    ∃ rg q h', lrM [x0, some (.ref p), x2, x3, x4, x5, x6, x7, x8, x9, x10, x11, x12, none] h = .ok (.ref q) h' ∧ Dr rg ∧ rg.length = 4 ∧ Tn p a ns [(q, .lst (rg.map oF))] h' := by
  have w : wR (lrM [x0, some (.ref p), x2, x3, x4, x5, x6, x7, x8, x9, x10, x11, x12, none] h) (fun _ _ => False) fun x h' => ∃ rg q, x = .ref q ∧ Dr rg ∧ rg.length = 4 ∧ Tn p a ns [(q, .lst (rg.map oF))] h' := by
    unfold lrM
    simp -implicitDefEqProofs
    refine wR_lcM (fun i acc h' => ∃ rg, Dr rg ∧ rg.length = i ∧ acc = rg.map oF ∧ Tn p a ns [(h.length, .lst acc)] h') _ 0 [] _ ⟨[], ⟨fun i hi => by simp at hi⟩, rfl, rfl, Tn_new T0 _⟩ ?_ ?_
    · rintro i x acc h1 _ hx ⟨rg, d, li, rfl, T1⟩
      rw [Nat.sub_zero, rangeV_get] at hx
      split at hx
      · rename_i hi
        cases hx
        refine ⟨rfl, _, rfl, ?_⟩
        have l3 : 3 ≤ lim := by decide
        have l2 : 2 ≤ lim := by decide
        have l1 : 1 ≤ lim := by decide
        obtain ⟨v, h2, hv, e1, T2⟩ := nat_ok (Tn_new T1 (.lst [.non, .tup [.tup [.int 0, .int 3, .int (i : Nat)]]])) (n := 2) (by decide) (by decide)
        have e1 : m__law_next [.ref p, .int 2] (h1 ++ [Obj.lst [.non, .tup [.tup [.int 0, .int 3, .int (i : Nat)]]]]) = .ok (.int (v : Nat)) h2 := e1
        have g2 : h2[h1.length]? = some (.lst [.non, .tup [.tup [.int 0, .int 3, .int (i : Nat)]]]) := T2.on.get (i := 0) rfl
        have ga : h2[h.length]? = some (.lst (rg.map oF)) := T2.on.get (i := 1) rfl
        obtain ⟨o, ho, eo⟩ : ∃ o : Option (List Te), (o = none ∨ o = some [(0, 3, i)]) ∧ L2.atI [Val.non, .tup [.tup [.int 0, .int 3, .int (i : Nat)]]] (v : Int) = some (oF o) := by
          have : v = 0 ∨ v = 1 := by omega
          rcases this with rfl | rfl
          · exact ⟨none, .inl rfl, rfl⟩
          · exact ⟨some [(0, 3, i)], .inr rfl, rfl⟩
        simp -implicitDefEqProofs [wipeE, l1, l2, l3, e1, g2, eo, ga]
        refine ⟨by have : 1000 < lim := by decide
                   omega, rg ++ [o], d.snoc (by rw [li]; exact ho), by simp [li], by simp, ?_⟩
        have T3 := Tn_set (j := 0) (Tn_drop T2) rfl (.lst (rg.map oF ++ [oF o]))
        exact T3
      · cases hx
    · rintro acc h1 ⟨rg, d, li, rfl, T1⟩
      rw [Nat.zero_add, rangeV_length] at li
      exact ⟨rfl, rg, d, li, T1⟩
  obtain ⟨x, h', e, rg, q, rfl, r⟩ := ex_of_wR w
  exact ⟨rg, q, h', e, r⟩
end
end Lw

set_option Elab.async false
set_option linter.all false
set_option autoImplicit false
set_option maxHeartbeats 4000000
namespace Lw
open PyM
def lwI : En → Heap → RS := (sIf (tB_ (mB oLt (mV 8) (mK (.int 2)))) (sAsg (gV 9) (mCall m__law_enroll [] (mCons (mV 1) (mCons (mV 3) (mCons (mV 2) (mCons (mV 4) (mCons (mV 5) (mNil)))))))) (sIf (tB_ (mB oLt (mV 8) (mK (.int 6)))) (sAsg (gV 9) (mCall m__law_come [] (mCons (mV 1) (mCons (mV 3) (mCons (mV 4) (mCons (mV 5) (mNil))))))) (sIf (tB_ (mB (oEq false) (mV 8) (mK (.int 6)))) (sAsg (gV 9) (mCall m__law_take [] (mCons (mV 1) (mCons (mV 3) (mCons (mV 4) (mNil)))))) (sIf (tB_ (mB (oEq false) (mV 8) (mK (.int 7)))) lwS lwG))))
def lwT : En → Heap → RS := (sSeq (sAsg (gV 8) (mCall m__law_next [] (mCons (mV 1) (mCons (mK (.int 9)) (mNil)))))
    (sSeq (sAsg (gV 9) (mK (.bl true)))
    (sSeq lwI
    (sSeq (sIf (tNo (tTr (mV 9))) (sRet (mK (.bl false))) (sNx))
    (sSeq lkA
    (sFor (iRng2 (mCons (mK (.int 1)) (mCons (mK (.int 9)) (mNil)))) (gV 11) lkB))))))
def lwX (n : Nat) : En → Heap → RS := (sSeq (sIf (tOr_ (tNo (tTr (mCall m__law_refused [] (mCons (mSl (mV 2) (pSo (mK (.int 1))) (pNo)) (mNil))))) (tNo (tTr (mCall m__law_refused [] (mCons (mLst (mCons (mTup (mCons (mTup (mCons (mK (.int 0)) (mCons (mK (.int 3)) (mCons (mK (.int 1)) (mNil))))) (mNil))) (mCons (mTup (mCons (mTup (mCons (mK (.int 0)) (mCons (mK (.int 1)) (mCons (mK (.int 1)) (mNil))))) (mNil))) (mCons (mK .non) (mCons (mK .non) (mNil)))))) (mNil)))))) (sRet (mK (.bl false))) (sNx))
    (sSeq (sAsg (gV 4) (mDct))
    (sSeq (sAsg (gV 5) (mLst (mCons (mK (.int 0)) (mCons (mK (.int 0)) (mNil)))))
    (sSeq (sAsg (gV 6) (mLst (mNil)))
    (sSeq (sFor (iRng1 (mCons (mCall m__law_next [] (mCons (mV 1) (mCons (mB oIx (mLst (mCons (mK (.int 25)) (mCons (mK (.int 61)) (mNil)))) (mCall m__law_next [] (mCons (mV 1) (mCons (mK (.int 2)) (mNil))))) (mNil)))) (mNil))) (gV 7) lwT)
    (sRet (mB (oEq false) (mMeth 0 m_Net_sent [] (mV 3) (mNil)) (mV 6))))))))
def lwY (n : Nat) : En → Heap → RS := (sSeq (sAsg (gV 2) lrM)
    (sSeq (sAsg (gV 3) (mMake 0 m_Net___init__ [] (mCons (mL bList (mCons (mV 2) (mNil))) (mNil))))
    (lwX 0)))
theorem law_cut : m_law = runB 1 14
    (sSeq (sAsg (gV 1) (mLst (mCons (mL bList (mCons (mV 0) (mNil))) (mCons (mK (.int 0)) (mCons (mK (.int 0)) (mCons (mK (.int 19)) (mNil)))))))
    (lwY 0)) := rfl
section
variable {rg : List (Option (List Te))} {A : Ad} {s s' : S} {e : Nat} {F : List Te} {h : Heap} {p a : Nat} {ns : List Int} {nt q : Nat} {R : Nodes}
structure Nx (s s1 : S) : Prop where
  k : Ok s1
  m : s1.m ≤ s.m + 1
  g : s1.G.length ≤ s.G.length + 1
theorem comeS_G (s : S) (pk : List Nat) : (comeS s pk).G = s.G := by
  unfold comeS
  split
  · rfl
  · split <;> rfl
theorem takeS_G (s : S) (e : Nat) (x : Int) : (takeS s e x).G = s.G := by
  unfold takeS
  split
  · split <;> rfl
  · rfl
theorem gupS_G (s : S) (e : Nat) (x : Int) : (gupS s e x).G = s.G := by
  unfold gupS
  split <;> rfl
theorem lwI_ok (hr : RgOk rg) (k : Ok s) (hm : s.m + 1 < 64) (hg : s.G.length < 100) {i : Nat} (hi : i < 100) {v : Nat} (hv : v < 9) (T0 : Tn p a ns (nodes A rg s s) h) {x0 x10 x11 x12 x13 : Option Val} :
    ∃ x10' x11' x12' h' RA LA s1, lwI [x0, some (.ref p), some (.ref A.lR), some (.ref A.nt), some (.ref A.lr), some (.ref A.ls), some (.ref A.lt), some (.int (i : Nat)), some (.int (v : Nat)), some (.bl true), x10, x11, x12, x13] h = .nx [x0, some (.ref p), some (.ref A.lR), some (.ref A.nt), some (.ref A.lr), some (.ref A.ls), some (.ref A.lt), some (.int (i : Nat)), some (.int (v : Nat)), some (.bl true), x10', x11', x12', x13] h' ∧ Nx s s1 ∧ Tn p a ns (nodes { A with RA := RA, LA := LA } rg s1 s1) h' := by
  obtain ⟨LS, hS⟩ : ∃ X, X = lwS := ⟨_, rfl⟩
  obtain ⟨LG, hG⟩ : ∃ X, X = lwG := ⟨_, rfl⟩
  by_cases h2 : v < 2
  · obtain ⟨h', RA, LA, s1, e1, k1, m1, g1, T1⟩ := lenroll_ok hr k hm T0
    refine ⟨x10, x11, x12, h', RA, LA, s1, eq_nx ?_, ⟨k1, m1, by rw [g1]; omega⟩, T1⟩
    have : (v : Int) < 2 := by omega
    unfold lwI
    rw [← hS, ← hG]
    simp -implicitDefEqProofs [gV, this, e1]
  have n2 : ¬ (v : Int) < 2 := by omega
  by_cases h6 : v < 6
  · obtain ⟨h', pk, e1, T1⟩ := lcome_ok k T0
    obtain ⟨k1, m1⟩ := k.come pk
    refine ⟨x10, x11, x12, h', A.RA, A.LA, comeS s pk, eq_nx ?_, ⟨k1, by omega, by rw [comeS_G]; omega⟩, T1⟩
    have : (v : Int) < 6 := by omega
    unfold lwI
    rw [← hS, ← hG]
    simp -implicitDefEqProofs [gV, n2, this, e1]
  have n6 : ¬ (v : Int) < 6 := by omega
  by_cases h6' : v = 6
  · obtain ⟨h', e', x, e1, T1⟩ := ltake_ok k T0
    obtain ⟨k1, m1⟩ := k.take e' x
    refine ⟨x10, x11, x12, h', A.RA, A.LA, takeS s e' x, eq_nx ?_, ⟨k1, by omega, by rw [takeS_G]; omega⟩, T1⟩
    unfold lwI
    rw [← hS, ← hG]
    simp -implicitDefEqProofs [gV, h6', e1]
  have n6' : ¬ (v : Int) = 6 := by omega
  by_cases h7 : v = 7
  · obtain ⟨h', e1, T1⟩ := lwS_ok k hg hi T0 (x0 := x0) (x1 := some (.ref p)) (x2 := some (.ref A.lR)) (x4 := some (.ref A.lr)) (x5 := some (.ref A.ls)) (x8 := some (.int (v : Nat))) (x9 := some (.bl true)) (x10 := x10) (x11 := x11) (x12 := x12) (x13 := x13)
    rw [← hS] at e1
    refine ⟨x10, x11, x12, h', A.RA, A.LA, sndS s [i, 1, 2, 3, 4, 5], eq_nx ?_, ⟨⟨k.asc, k.le, k.len, k.good, k.m60, k.p8⟩, by show s.m ≤ s.m + 1; omega, by simp [sndS]⟩, T1⟩
    unfold lwI
    rw [← hS, ← hG]
    rw [h7] at e1 ⊢
    have e1' := e1
    simp -implicitDefEqProofs [gV] at e1' ⊢
    rw [e1']
    exact ⟨rfl, rfl⟩
  · obtain ⟨x10', x11', x12', h', e', x, e1, T1⟩ := lwG_ok k T0 (x0 := x0) (x2 := some (.ref A.lR)) (x5 := some (.ref A.ls)) (x6 := some (.ref A.lt)) (x7 := some (.int (i : Nat))) (x8 := some (.int (v : Nat))) (x9 := some (.bl true)) (x10 := x10) (x11 := x11) (x12 := x12) (x13 := x13)
    obtain ⟨k1, m1⟩ := k.gup e' x
    have n7 : ¬ (v : Int) = 7 := by omega
    rw [← hG] at e1
    refine ⟨x10', x11', x12', h', A.RA, A.LA, gupS s e' x, eq_nx ?_, ⟨k1, by omega, by rw [gupS_G]; omega⟩, T1⟩
    unfold lwI
    rw [← hS, ← hG]
    simp -implicitDefEqProofs [gV, n2, n6, n6', n7, e1]
def s00 : S := ⟨[], fun _ => 0, fun _ => [], fun _ => [], 0, 0, []⟩
theorem ok00 : Ok s00 := { asc := List.Pairwise.nil, le := (fun x hx => by cases hx), len := Nat.le_refl _, good := (fun x => ⟨by simp [s00], List.Pairwise.nil⟩), m60 := by decide, p8 := (fun x => by simp [s00]) }
structure LI (p a : Nat) (ns : List Int) (A : Ad) (rg : List (Option (List Te))) (x0 : Val) (i : Nat) (s' : En) (h' : Heap) : Prop where
  k : ∃ RA LA s x7 x8 x9 x10 x11 x12, s' = [some x0, some (.ref p), some (.ref A.lR), some (.ref A.nt), some (.ref A.lr), some (.ref A.ls), some (.ref A.lt), x7, x8, x9, x10, x11, x12, none] ∧ Ok s ∧ s.m ≤ i ∧ s.G.length ≤ i ∧ Tn p a ns (nodes { A with RA := RA, LA := LA } rg s s) h'
theorem lwT_ok (hr : RgOk rg) {x0 : Val} {i : Nat} (hi : i < 60) {st : En} (I : LI p a ns A rg x0 i st h) {D : K4} (fin : ∀ s' h', LI p a ns A rg x0 (i + 1) s' h' → D.nx s' h') :
    ∃ s1, gV 7 (.int (i : Nat)) st = some s1 ∧ wS (lwT s1 h) D := by
  obtain ⟨RA, LA, s, x7, x8, x9, x10, x11, x12, rfl, k, hm, hg, T0⟩ := I.k
  refine ⟨_, rfl, ?_⟩
  obtain ⟨v, h1, hv, e1, T1⟩ := nat_ok T0 (n := 9) (by decide) (by decide)
  have e1 : m__law_next [.ref p, .int 9] h = .ok (.int (v : Nat)) h1 := e1
  obtain ⟨x10', x11', x12', h2, RA2, LA2, s1, e2, N, T2⟩ := lwI_ok (i := i) hr k (by omega) (by omega) (by omega) hv T1 (x0 := some x0) (x10 := x10) (x11 := x11) (x12 := x12) (x13 := none)
  obtain ⟨h3, e3, T3⟩ := lkA_ok N.k T2 (x0 := some x0) (x1 := some (.ref p)) (x2 := some (.ref A.lR)) (x6 := some (.ref A.lt)) (x7 := some (.int (i : Nat))) (x8 := some (.int (v : Nat))) (x9 := some (.bl true)) (x10 := x10') (x11 := x11') (x12 := x12') (x13 := none)
  unfold lwT
  obtain ⟨LI', hI⟩ : ∃ X, X = lwI := ⟨_, rfl⟩
  obtain ⟨KA, hA⟩ : ∃ X, X = lkA := ⟨_, rfl⟩
  obtain ⟨KB, hB⟩ : ∃ X, X = lkB := ⟨_, rfl⟩
  rw [← hI] at e2 ⊢
  rw [← hA] at e3 ⊢
  rw [← hB]
  simp -implicitDefEqProofs [gV, e1, e2, truth, e3]
  rw [hB, show rangeV 1 8 = ([1, 2, 3, 4, 5, 6, 7, 8] : List Int).map Val.int from rfl]
  refine lkB_loop (A := { A with RA := RA2, LA := LA2 }) N.k _ _ h3 T3 fun x11 h' T' => ?_
  exact fin _ _ ⟨RA2, LA2, s1, _, _, _, _, _, _, rfl, N.k, by have := N.m; omega, by have := N.g; omega, T'⟩
theorem sent_ok {RA LA : Int → Nat} (T0 : Tn p a ns (nodes { A with RA := RA, LA := LA } rg s s) h) {st : En} (e3 : mV 3 st h = .ok (.ref A.nt) h) (e6 : ∀ h, mV 6 st h = .ok (.ref A.lt) h) : ∃ h', (mB (oEq false) (mMeth 0 m_Net_sent [] (mV 3) (mNil)) (mV 6)) st h = .ok (.bl true) h' := by
  have n0 : h[A.nt]? = some (netO { A with RA := RA, LA := LA } s) := T0.on.get (i := 0) rfl
  unfold netO at n0
  have ii : isIns 0 (.ref A.nt) h = true := by simp [isIns, n0]
  have n4 : h[A.gn]? = some (.lst (s.G.map pkV)) := T0.on.get (i := 4) rfl
  have es : m_Net_sent [.ref A.nt] h = .ok (.ref h.length) (h ++ [.lst (s.G.map pkV)]) := by
    refine eq_of_wR ?_
    unfold m_Net_sent
    refine wRB rfl ?_
    simp -implicitDefEqProofs [n0, PyM.lookF, n4]
  have g1 : (h ++ [Obj.lst (s.G.map pkV)])[h.length]? = some (.lst (s.G.map pkV)) := at_len
  have g2 : (h ++ [Obj.lst (s.G.map pkV)])[A.lt]? = some (.lst (s.G.map pkV)) := at_push (T0.on.get (i := 8) rfl)
  have pa : (s.G.map pkV).all (pl 59) = true := by
    rw [List.all_map]
    exact List.all_eq_true.mpr fun y _ => pkV_pl y
  have eq := oEq_lst (neg := false) g1 g2 pa pa
  refine ⟨h ++ [.lst (s.G.map pkV)], eq_of_wR ?_⟩
  simp -implicitDefEqProofs [e3, e6, ii, es, eq]
theorem lwX_ok (hr : RgOk rg) {rw_ rgd gn nR lR z : Nat} {x0 : Val} {D : K4} (T0 : Tn p a ns [(gn, .lst []), (rgd, .dct []), (rw_, .dct []), (nt, .ins 0 [(0, .ref nR), (1, .int 0), (2, .ref rw_), (3, .ref rgd), (4, c_EMPTY), (5, .ref gn), (6, .int 0)]), (nR, .lst (rg.map oF)), (lR, .lst (rg.map oF))] h) (fin : ∀ h', D.rt (.bl true) h') :
    wS (lwX z [some x0, some (.ref p), some (.ref lR), some (.ref nt), none, none, none, none, none, none, none, none, none, none] h) D := by
  have gl : h[lR]? = some (.lst (rg.map oF)) := T0.on.get (i := 5) rfl
  have T1 := Tn_new T0 (.lst (rg.map oF).tail)
  obtain ⟨H1, E1⟩ : ∃ H, H = h ++ [Obj.lst (rg.map oF).tail] := ⟨_, rfl⟩
  rw [← E1] at T1
  have g1 : H1[h.length]? = some (.lst (rg.map oF).tail) := T1.on.get (i := 0) rfl
  obtain ⟨h2, e2, x2⟩ := refused_len g1 (by rw [List.length_tail, List.length_map, hr.1]; decide)
  have T2 := T1.ext x2
  have T3 := Tn_new T2 (.lst (rg0.map oF))
  obtain ⟨H3, E3⟩ : ∃ H, H = h2 ++ [Obj.lst (rg0.map oF)] := ⟨_, rfl⟩
  rw [← E3] at T3
  have g3 : H3[h2.length]? = some (.lst (rg0.map oF)) := T3.on.get (i := 0) rfl
  obtain ⟨h4, e4, x4⟩ := refused_com g3
  have T4 := Tn_drop (Tn_drop (T3.ext x4))
  have T5 := Tn_new T4 (.dct [])
  obtain ⟨H5, E5⟩ : ∃ H, H = h4 ++ [Obj.dct []] := ⟨_, rfl⟩
  rw [← E5] at T5
  have T6 := Tn_new T5 (.lst [.int 0, .int 0])
  obtain ⟨H6, E6⟩ : ∃ H, H = H5 ++ [Obj.lst [.int 0, .int 0]] := ⟨_, rfl⟩
  rw [← E6] at T6
  have T7 := Tn_new T6 (.lst [])
  obtain ⟨H7, E7⟩ : ∃ H, H = H6 ++ [Obj.lst []] := ⟨_, rfl⟩
  rw [← E7] at T7
  have T8 := Tn_new T7 (.lst [.int 25, .int 61])
  obtain ⟨H8, E8⟩ : ∃ H, H = H7 ++ [Obj.lst [.int 25, .int 61]] := ⟨_, rfl⟩
  rw [← E8] at T8
  obtain ⟨u, h9, hu, e9, T9⟩ := nat_ok T8 (n := 2) (by decide) (by decide)
  have e9 : m__law_next [.ref p, .int 2] H8 = .ok (.int (u : Nat)) h9 := e9
  have g9 : h9[H7.length]? = some (.lst [.int 25, .int 61]) := T9.on.get (i := 0) rfl
  obtain ⟨w, hw0, hw1, ew⟩ : ∃ w : Nat, 0 < w ∧ w ≤ 61 ∧ L2.atI [Val.int 25, .int 61] (u : Int) = some (.int (w : Nat)) := by
    have : u = 0 ∨ u = 1 := by omega
    rcases this with rfl | rfl
    · exact ⟨25, by decide, by decide, rfl⟩
    · exact ⟨61, by decide, by decide, rfl⟩
  obtain ⟨n, h10, hn, e10, T10⟩ := nat_ok (Tn_drop T9) (n := w) hw0 (by omega)
  have T11 : Tn p a ns (nodes ⟨nt, nR, rw_, rgd, gn, lR, h4.length, H5.length, H6.length, fun _ => 0, fun _ => 0⟩ rg ⟨[], fun _ => 0, fun _ => [], fun _ => [], 0, 0, []⟩ ⟨[], fun _ => 0, fun _ => [], fun _ => [], 0, 0, []⟩) h10 := by
    refine T10.perm ?_
    show List.Perm [(H6.length, Obj.lst []), (H5.length, .lst [.int 0, .int 0]), (h4.length, .dct []), (gn, .lst []), (rgd, .dct []), (rw_, .dct []), (nt, .ins 0 [(0, .ref nR), (1, .int 0), (2, .ref rw_), (3, .ref rgd), (4, c_EMPTY), (5, .ref gn), (6, .int 0)]), (nR, .lst (rg.map oF)), (lR, .lst (rg.map oF))] [(nt, .ins 0 [(0, .ref nR), (1, .int 0), (2, .ref rw_), (3, .ref rgd), (4, c_EMPTY), (5, .ref gn), (6, .int 0)]), (nR, .lst (rg.map oF)), (rw_, .dct []), (rgd, .dct []), (gn, .lst []), (lR, .lst (rg.map oF)), (h4.length, .dct []), (H5.length, .lst [.int 0, .int 0]), (H6.length, .lst [])]
    classical
    rw [List.perm_iff_count]
    intro x
    simp only [List.count_cons, List.count_nil]
    omega
  have l0 : 0 ≤ lim := Nat.zero_le _
  have l1 : 1 ≤ lim := by decide
  have l2 : 2 ≤ lim := by decide
  have l3 : 3 ≤ lim := by decide
  have l4 : 4 ≤ lim := by decide
  unfold lwX
  obtain ⟨LT, hT⟩ : ∃ X, X = lwT := ⟨_, rfl⟩
  obtain ⟨LE, hE⟩ : ∃ X, X = (sRet (mB (oEq false) (mMeth 0 m_Net_sent [] (mV 3) (mNil)) (mV 6))) := ⟨_, rfl⟩
  rw [← hT, ← hE]
  have ec : cut (rg.map oF) (some 1) none = (rg.map oF).tail := by rw [cut_from1, List.drop_one]
  have e4' : m__law_refused [.ref h2.length] (h2 ++ [Obj.lst [Val.tup [Val.tup [.int 0, .int 3, .int 1]], Val.tup [Val.tup [.int 0, .int 1, .int 1]], .non, .non]]) = .ok (.bl true) h4 := by
    rw [E3] at e4
    exact e4
  have e8 : H8 = h4 ++ [Obj.dct [], Obj.lst [.int 0, .int 0], Obj.lst [], Obj.lst [.int 25, .int 61]] := by
    rw [E8, E7, E6, E5]
    simp
  have ln : h4.length + 3 = H7.length := by rw [E7, E6, E5]; simp
  have l5 : h4.length + 1 = H5.length := by rw [E5]; simp
  have l6 : h4.length + 2 = H6.length := by rw [E6, E5]; simp
  rw [e8] at e9
  rw [E1] at e2
  simp -implicitDefEqProofs [gV, gl, ec, e2, truth, l0, l1, l2, l3, l4, e4', e9, ln, g9, ew, e10]
  refine ⟨by omega, ?_⟩
  rw [hT, l5, l6]
  refine wS_range (fun i s' h' => LI p a ns ⟨nt, nR, rw_, rgd, gn, lR, h4.length, H5.length, H6.length, fun _ => 0, fun _ => 0⟩ rg x0 i s' h') ⟨⟨fun _ => 0, fun _ => 0, s00, _, _, _, _, _, _, rfl, ok00, Nat.le_refl _, Nat.le_refl _, T11⟩⟩ (fun i s' h' hi I => ?_) fun s' h' I => ?_
  · exact lwT_ok hr (by omega) I fun s' h' I' => I'
  · obtain ⟨RA, LA, s, x7, x8, x9, x10, x11, x12, rfl, k, hm, hg, T12⟩ := I.k
    obtain ⟨h13, e13⟩ := sent_ok T12 (st := [some x0, some (.ref p), some (.ref lR), some (.ref nt), some (.ref h4.length), some (.ref H5.length), some (.ref H6.length), x7, x8, x9, x10, x11, x12, none]) rfl (fun _ => rfl)
    dsimp only
    rw [hE]
    rw [wS_sRet, e13]
    exact fin h13
theorem lwY_ok {z : Nat} {x0 : Val} {D : K4} (T0 : Tn p a ns [] h) (fin : ∀ h', D.rt (.bl true) h') :
    wS (lwY z [some x0, some (.ref p), none, none, none, none, none, none, none, none, none, none, none, none] h) D := by
  obtain ⟨rg, q, h1, e1, d, l4, T1⟩ := lrM_ok T0 (x0 := some x0) (x2 := none) (x3 := none) (x4 := none) (x5 := none) (x6 := none) (x7 := none) (x8 := none) (x9 := none) (x10 := none) (x11 := none) (x12 := none)
  have g1 : h1[q]? = some (.lst (rg.map oF)) := T1.on.get (i := 0) rfl
  have hr := d.ok l4
  have T2 := Tn_new T1 (.lst (rg.map oF))
  obtain ⟨H2, E2⟩ : ∃ H, H = h1 ++ [Obj.lst (rg.map oF)] := ⟨_, rfl⟩
  rw [← E2] at T2
  have T3 := Tn_new T2 (.ins 0 [])
  obtain ⟨H3, E3⟩ : ∃ H, H = H2 ++ [Obj.ins 0 []] := ⟨_, rfl⟩
  rw [← E3] at T3
  obtain ⟨rw_, rgd, gn, nR, h4, e4, T4⟩ := init_ok hr (d.ap l4) T3
  have T5 : Tn p a ns [(gn, .lst []), (rgd, .dct []), (rw_, .dct []), (H2.length, .ins 0 [(0, .ref nR), (1, .int 0), (2, .ref rw_), (3, .ref rgd), (4, c_EMPTY), (5, .ref gn), (6, .int 0)]), (nR, .lst (rg.map oF)), (q, .lst (rg.map oF))] h4 := Tn_sub T4 (List.Sublist.cons₂ _ (List.Sublist.cons₂ _ (List.Sublist.cons₂ _ (List.Sublist.cons₂ _ (List.Sublist.cons₂ _ (List.Sublist.cons _ (List.Sublist.refl _)))))))
  unfold lwY
  obtain ⟨LX, hX⟩ : ∃ X, X = lwX 0 := ⟨_, rfl⟩
  obtain ⟨LM, hM⟩ : ∃ X, X = lrM := ⟨_, rfl⟩
  rw [← hM] at e1 ⊢
  rw [← hX]
  have e3 : H3 = h1 ++ [Obj.lst (rg.map oF), Obj.ins 0 []] := by rw [E3, E2]; simp
  have l2 : H2.length = h1.length + 1 := by rw [E2]; simp
  have e4' : m_Net___init__ [.ref (h1.length + 1), .ref h1.length] (h1 ++ [Obj.lst (rg.map oF), Obj.ins 0 []]) = .ok .non h4 := by
    rw [← e3, ← l2]
    exact e4
  simp -implicitDefEqProofs [gV, e1, g1, e4']
  rw [hX, ← l2]
  exact lwX_ok hr T5 fin
end
theorem law_true (ns : List Int) (hns : ns.length ≤ 63) (o : PyM.Obj) (ho : o = .fls (ns.map Val.int) ∨ o = .lst (ns.map Val.int)) : ∃ h', m_law [.ref 0] [o] = .ok (.bl true) h' := by
  have key : ∀ (F : List Val → Heap → Res Val) (v0 : Val) (H0 : Heap), F = m_law → v0 = .ref 0 → H0 = [o] → wR (F [v0] H0) (fun _ _ => False) fun x h' => x = .bl true := by
    intro F v0 H0 hF0 hv0 hH0
    have l4 : 4 ≤ lim := by decide
    obtain ⟨H3, hH3⟩ : ∃ H3 : Heap, H3 = [o, Obj.lst (ns.map Val.int), Obj.lst [.ref 1, .int 0, .int 0, .int 19]] := ⟨_, rfl⟩
    have T0 : Tn 2 1 ns [] H3 := by
      refine ⟨0, 0, 19, by decide, ⟨by simp, fun p hp => ?_⟩⟩
      rw [hH3]
      simp only [List.mem_cons, List.not_mem_nil, or_false] at hp
      rcases hp with rfl | rfl <;> rfl
    obtain ⟨LX, hLX⟩ : ∃ T, T = lwY 0 := ⟨_, rfl⟩
    have eb : bList [.ref 0] [o] = .ok (.ref 1) [o, Obj.lst (ns.map Val.int)] := by
      rcases ho with rfl | rfl <;> rfl
    rw [hF0, law_cut, ← hLX]
    refine wRB rfl ?_
    rw [hv0, hH0]
    simp -implicitDefEqProofs [-wR_bListL, gV, l4, eb]
    rw [← hH3, hLX]
    exact lwY_ok T0 fun h' => rfl
  obtain ⟨F, hF⟩ : ∃ F, F = m_law := ⟨_, rfl⟩
  obtain ⟨x, h', e, rfl⟩ := ex_of_wR (key F _ _ hF rfl rfl)
  exact ⟨h', by rw [← hF]; exact e⟩
end Lw

set_option Elab.async false
set_option linter.all false
set_option maxRecDepth 100000
set_option maxHeartbeats 4000000
namespace Lw
open PySem L2 PyM
abbrev N__law_next : List Str := ["_law_tape", "_law_many", "_law_rest", "_law_cell"]
abbrev N_is_number : List Str := ["value"]
abbrev N_is_word : List Str := ["value"]
abbrev N_is_test : List Str := ["value", "index", "mask", "wanted"]
abbrev N_is_filter : List Str := ["value", "indexes", "test", "k"]
abbrev N_common : List Str := ["one", "other", "words", "masks", "index", "mask", "wanted"]
abbrev N_Net__common_with_regions : List Str := ["self", "environment", "filter_tests", "other", "packet"]
abbrev N_Net___init__ : List Str := ["self", "regions", "environment", "region"]
abbrev N__law_refused : List Str := ["_law_regions"]
abbrev N__law_filter : List Str := ["_law_tape", "_law_environment", "_law_rows"]
abbrev N__law_meets_two : List Str := ["_law_regions", "_law_rows", "_law_environment", "_law_filter_tests", "_law_found", "_law_other", "_law_name", "_law_one"]
abbrev N_branch_of : List Str := ["branches", "index", "mask", "row"]
abbrev N_child_of : List Str := ["children", "value", "wanted", "node"]
abbrev N_with_branch : List Str := ["branches", "index", "mask", "children", "rows", "row"]
abbrev N_with_child : List Str := ["children", "value", "node", "rows", "row"]
abbrev N_with_filter : List Str := ["tree", "name", "filter_tests", "names", "branches", "index", "mask", "wanted", "children", "node"]
abbrev N_Net_enroll : List Str := ["self", "environment", "filter_tests", "packet", "name", "owner", "other"]
abbrev N_is_packet : List Str := ["value", "word"]
abbrev N_holds : List Str := ["test", "packet", "index", "mask", "wanted"]
abbrev N_meets : List Str := ["filter_tests", "packet", "test"]
abbrev N__law_enroll : List Str := ["_law_tape", "_law_net", "_law_regions", "_law_rows", "_law_state", "_law_environment", "_law_tests", "_law_others", "_law_told", "_law_one"]
abbrev N_names_found : List Str := ["tree", "packet", "names", "branches", "found", "index", "mask", "children", "node"]
abbrev N_found : List Str := ["tree", "packet"]
abbrev N_Net_come : List Str := ["self", "packet", "names"]
abbrev N__law_come : List Str := ["_law_tape", "_law_net", "_law_rows", "_law_state", "_law_packet", "_law_met", "_law_due", "_law_k", "_law_name"]
abbrev N_Net_is_owner : List Str := ["self", "environment", "name"]
abbrev N_Net_next : List Str := ["self", "environment", "name"]
abbrev N__law_take : List Str := ["_law_tape", "_law_net", "_law_rows", "_law_environment", "_law_name", "_law_due"]
abbrev N_Net_send : List Str := ["self", "packet"]
abbrev N_without_filter : List Str := ["tree", "name", "filter_tests", "names", "branches", "index", "mask", "wanted", "children", "node", "one"]
abbrev N_Net_give_up : List Str := ["self", "environment", "name", "row"]
abbrev N_Net_filters : List Str := ["self", "name"]
abbrev N_Net_lost : List Str := ["self"]
abbrev N_Net_ring : List Str := ["self", "name"]
abbrev N_Net_sent : List Str := ["self"]
abbrev N_law : List Str := ["_law_script", "_law_tape", "_law_regions", "_law_net", "_law_rows", "_law_state", "_law_sent", "_law_turn", "_law_kind", "_law_good", "_law_environment", "_law_name", "_law_due", "_law_one"]
def nms : List Str := ("regions" : Str) :: ("made" : Str) :: ("rows" : Str) :: ("rings" : Str) :: ("tree" : Str) :: ("gone" : Str) :: ("missed" : Str) :: []
structure Tx where
  c_Net : Addr
  c_SteadError : Addr
  c_NotValid : Addr
  f__law_next : Addr
  d__law_next : FuncData
  f_is_number : Addr
  d_is_number : FuncData
  f_is_word : Addr
  d_is_word : FuncData
  f_is_test : Addr
  d_is_test : FuncData
  f_is_filter : Addr
  d_is_filter : FuncData
  f_common : Addr
  d_common : FuncData
  f_Net__common_with_regions : Addr
  d_Net__common_with_regions : FuncData
  f_Net___init__ : Addr
  d_Net___init__ : FuncData
  f__law_refused : Addr
  d__law_refused : FuncData
  f__law_filter : Addr
  d__law_filter : FuncData
  f__law_meets_two : Addr
  d__law_meets_two : FuncData
  f_branch_of : Addr
  d_branch_of : FuncData
  f_child_of : Addr
  d_child_of : FuncData
  f_with_branch : Addr
  d_with_branch : FuncData
  f_with_child : Addr
  d_with_child : FuncData
  f_with_filter : Addr
  d_with_filter : FuncData
  f_Net_enroll : Addr
  d_Net_enroll : FuncData
  f_is_packet : Addr
  d_is_packet : FuncData
  f_holds : Addr
  d_holds : FuncData
  f_meets : Addr
  d_meets : FuncData
  f__law_enroll : Addr
  d__law_enroll : FuncData
  f_names_found : Addr
  d_names_found : FuncData
  f_found : Addr
  d_found : FuncData
  f_Net_come : Addr
  d_Net_come : FuncData
  f__law_come : Addr
  d__law_come : FuncData
  f_Net_is_owner : Addr
  d_Net_is_owner : FuncData
  f_Net_next : Addr
  d_Net_next : FuncData
  f__law_take : Addr
  d__law_take : FuncData
  f_Net_send : Addr
  d_Net_send : FuncData
  f_without_filter : Addr
  d_without_filter : FuncData
  f_Net_give_up : Addr
  d_Net_give_up : FuncData
  f_Net_filters : Addr
  d_Net_filters : FuncData
  f_Net_lost : Addr
  d_Net_lost : FuncData
  f_Net_ring : Addr
  d_Net_ring : FuncData
  f_Net_sent : Addr
  d_Net_sent : FuncData
  f_law : Addr
  d_law : FuncData
  cc_with_branch : Addr
  tb_with_branch : Addr
  cc_with_child : Addr
  tb_with_child : Addr
  t_ENVIRONMENTS : Tok
  t_FIELDS : Tok
  t_RING : Tok
  t_TOP : Tok
def Tx.G (T : Tx) (K : PySem.W.Frag) : Cfg := { K := K, cls := [T.c_Net, T.c_SteadError, T.c_NotValid], nms := nms, sts := sts, tbs := [(T.tb_with_branch, (("with_branch" : Str) ++ ".<locals>.") ++ "<lambda>"), (T.tb_with_child, (("with_child" : Str) ++ ".<locals>.") ++ "<lambda>")] }
structure TxOk (w : World) (K : PySem.W.Frag) (mg : Str → Option Value) (base : PySem.Heap) (T : Tx) : Prop where
  F__law_next : Fun K "_law_next" "_law_next" s__law_next T.f__law_next T.d__law_next
  b__law_next : Binds K T.d__law_next ["_law_tape", "_law_many"] []
  g__law_next : mg "_law_next" = some (.ref T.f__law_next)
  F_is_number : Fun K "is_number" "is_number" s_is_number T.f_is_number T.d_is_number
  b_is_number : Binds K T.d_is_number ["value"] []
  g_is_number : mg "is_number" = some (.ref T.f_is_number)
  F_is_word : Fun K "is_word" "is_word" s_is_word T.f_is_word T.d_is_word
  b_is_word : Binds K T.d_is_word ["value"] []
  g_is_word : mg "is_word" = some (.ref T.f_is_word)
  F_is_test : Fun K "is_test" "is_test" s_is_test T.f_is_test T.d_is_test
  b_is_test : Binds K T.d_is_test ["value"] []
  g_is_test : mg "is_test" = some (.ref T.f_is_test)
  F_is_filter : Fun K "is_filter" "is_filter" s_is_filter T.f_is_filter T.d_is_filter
  b_is_filter : Binds K T.d_is_filter ["value"] []
  g_is_filter : mg "is_filter" = some (.ref T.f_is_filter)
  F_common : Fun K "common" "common" s_common T.f_common T.d_common
  b_common : Binds K T.d_common ["one", "other"] []
  g_common : mg "common" = some (.ref T.f_common)
  F_Net__common_with_regions : Fun K "_common_with_regions" "Net._common_with_regions" s_Net__common_with_regions T.f_Net__common_with_regions T.d_Net__common_with_regions
  b_Net__common_with_regions : Binds K T.d_Net__common_with_regions ["self", "environment", "filter_tests"] []
  M_Net__common_with_regions : Meth K T.c_Net "_common_with_regions" T.f_Net__common_with_regions
  F_Net___init__ : Fun K "__init__" "Net.__init__" s_Net___init__ T.f_Net___init__ T.d_Net___init__
  b_Net___init__ : Binds K T.d_Net___init__ ["self", "regions"] []
  F__law_refused : Fun K "_law_refused" "_law_refused" s__law_refused T.f__law_refused T.d__law_refused
  b__law_refused : Binds K T.d__law_refused ["_law_regions"] []
  g__law_refused : mg "_law_refused" = some (.ref T.f__law_refused)
  F__law_filter : Fun K "_law_filter" "_law_filter" s__law_filter T.f__law_filter T.d__law_filter
  b__law_filter : Binds K T.d__law_filter ["_law_tape", "_law_environment"] []
  g__law_filter : mg "_law_filter" = some (.ref T.f__law_filter)
  F__law_meets_two : Fun K "_law_meets_two" "_law_meets_two" s__law_meets_two T.f__law_meets_two T.d__law_meets_two
  b__law_meets_two : Binds K T.d__law_meets_two ["_law_regions", "_law_rows", "_law_environment", "_law_filter_tests"] []
  g__law_meets_two : mg "_law_meets_two" = some (.ref T.f__law_meets_two)
  F_branch_of : Fun K "branch_of" "branch_of" s_branch_of T.f_branch_of T.d_branch_of
  b_branch_of : Binds K T.d_branch_of ["branches", "index", "mask"] []
  g_branch_of : mg "branch_of" = some (.ref T.f_branch_of)
  F_child_of : Fun K "child_of" "child_of" s_child_of T.f_child_of T.d_child_of
  b_child_of : Binds K T.d_child_of ["children", "value"] []
  g_child_of : mg "child_of" = some (.ref T.f_child_of)
  F_with_branch : Fun K "with_branch" "with_branch" s_with_branch T.f_with_branch T.d_with_branch
  b_with_branch : Binds K T.d_with_branch ["branches", "index", "mask", "children"] []
  g_with_branch : mg "with_branch" = some (.ref T.f_with_branch)
  F_with_child : Fun K "with_child" "with_child" s_with_child T.f_with_child T.d_with_child
  b_with_child : Binds K T.d_with_child ["children", "value", "node"] []
  g_with_child : mg "with_child" = some (.ref T.f_with_child)
  F_with_filter : Fun K "with_filter" "with_filter" s_with_filter T.f_with_filter T.d_with_filter
  b_with_filter : Binds K T.d_with_filter ["tree", "name", "filter_tests"] []
  g_with_filter : mg "with_filter" = some (.ref T.f_with_filter)
  F_Net_enroll : Fun K "enroll" "Net.enroll" s_Net_enroll T.f_Net_enroll T.d_Net_enroll
  b_Net_enroll : Binds K T.d_Net_enroll ["self", "environment", "filter_tests"] []
  M_Net_enroll : Meth K T.c_Net "enroll" T.f_Net_enroll
  F_is_packet : Fun K "is_packet" "is_packet" s_is_packet T.f_is_packet T.d_is_packet
  b_is_packet : Binds K T.d_is_packet ["value"] []
  g_is_packet : mg "is_packet" = some (.ref T.f_is_packet)
  F_holds : Fun K "holds" "holds" s_holds T.f_holds T.d_holds
  b_holds : Binds K T.d_holds ["test", "packet"] []
  g_holds : mg "holds" = some (.ref T.f_holds)
  F_meets : Fun K "meets" "meets" s_meets T.f_meets T.d_meets
  b_meets : Binds K T.d_meets ["filter_tests", "packet"] []
  g_meets : mg "meets" = some (.ref T.f_meets)
  F__law_enroll : Fun K "_law_enroll" "_law_enroll" s__law_enroll T.f__law_enroll T.d__law_enroll
  b__law_enroll : Binds K T.d__law_enroll ["_law_tape", "_law_net", "_law_regions", "_law_rows", "_law_state"] []
  g__law_enroll : mg "_law_enroll" = some (.ref T.f__law_enroll)
  F_names_found : Fun K "names_found" "names_found" s_names_found T.f_names_found T.d_names_found
  b_names_found : Binds K T.d_names_found ["tree", "packet"] []
  g_names_found : mg "names_found" = some (.ref T.f_names_found)
  F_found : Fun K "found" "found" s_found T.f_found T.d_found
  b_found : Binds K T.d_found ["tree", "packet"] []
  g_found : mg "found" = some (.ref T.f_found)
  F_Net_come : Fun K "come" "Net.come" s_Net_come T.f_Net_come T.d_Net_come
  b_Net_come : Binds K T.d_Net_come ["self", "packet"] []
  M_Net_come : Meth K T.c_Net "come" T.f_Net_come
  F__law_come : Fun K "_law_come" "_law_come" s__law_come T.f__law_come T.d__law_come
  b__law_come : Binds K T.d__law_come ["_law_tape", "_law_net", "_law_rows", "_law_state"] []
  g__law_come : mg "_law_come" = some (.ref T.f__law_come)
  F_Net_is_owner : Fun K "is_owner" "Net.is_owner" s_Net_is_owner T.f_Net_is_owner T.d_Net_is_owner
  b_Net_is_owner : Binds K T.d_Net_is_owner ["self", "environment", "name"] []
  M_Net_is_owner : Meth K T.c_Net "is_owner" T.f_Net_is_owner
  F_Net_next : Fun K "next" "Net.next" s_Net_next T.f_Net_next T.d_Net_next
  b_Net_next : Binds K T.d_Net_next ["self", "environment", "name"] []
  M_Net_next : Meth K T.c_Net "next" T.f_Net_next
  F__law_take : Fun K "_law_take" "_law_take" s__law_take T.f__law_take T.d__law_take
  b__law_take : Binds K T.d__law_take ["_law_tape", "_law_net", "_law_rows"] []
  g__law_take : mg "_law_take" = some (.ref T.f__law_take)
  F_Net_send : Fun K "send" "Net.send" s_Net_send T.f_Net_send T.d_Net_send
  b_Net_send : Binds K T.d_Net_send ["self", "packet"] []
  M_Net_send : Meth K T.c_Net "send" T.f_Net_send
  F_without_filter : Fun K "without_filter" "without_filter" s_without_filter T.f_without_filter T.d_without_filter
  b_without_filter : Binds K T.d_without_filter ["tree", "name", "filter_tests"] []
  g_without_filter : mg "without_filter" = some (.ref T.f_without_filter)
  F_Net_give_up : Fun K "give_up" "Net.give_up" s_Net_give_up T.f_Net_give_up T.d_Net_give_up
  b_Net_give_up : Binds K T.d_Net_give_up ["self", "environment", "name"] []
  M_Net_give_up : Meth K T.c_Net "give_up" T.f_Net_give_up
  F_Net_filters : Fun K "filters" "Net.filters" s_Net_filters T.f_Net_filters T.d_Net_filters
  b_Net_filters : Binds K T.d_Net_filters ["self"] []
  M_Net_filters : Meth K T.c_Net "filters" T.f_Net_filters
  F_Net_lost : Fun K "lost" "Net.lost" s_Net_lost T.f_Net_lost T.d_Net_lost
  b_Net_lost : Binds K T.d_Net_lost ["self"] []
  M_Net_lost : Meth K T.c_Net "lost" T.f_Net_lost
  F_Net_ring : Fun K "ring" "Net.ring" s_Net_ring T.f_Net_ring T.d_Net_ring
  b_Net_ring : Binds K T.d_Net_ring ["self", "name"] []
  M_Net_ring : Meth K T.c_Net "ring" T.f_Net_ring
  F_Net_sent : Fun K "sent" "Net.sent" s_Net_sent T.f_Net_sent T.d_Net_sent
  b_Net_sent : Binds K T.d_Net_sent ["self"] []
  M_Net_sent : Meth K T.c_Net "sent" T.f_Net_sent
  F_law : Fun K "law" "law" s_law T.f_law T.d_law
  b_law : Binds K T.d_law ["_law_script"] []
  g_law : mg "law" = some (.ref T.f_law)
  C_with_branch : T.d_with_branch.code = .ref T.cc_with_branch
  B_with_branch : LamX.TabB base mg T.cc_with_branch T.tb_with_branch
  C_with_child : T.d_with_child.code = .ref T.cc_with_child
  B_with_child : LamX.TabB base mg T.cc_with_child T.tb_with_child
  nd_tb : ((T.G K).tbs.map (·.1)).Nodup
  cl_Net : Cls K T.c_Net
  gc_Net : mg "Net" = some (.ref T.c_Net)
  mk_Net : Mk K T.c_Net T.f_Net___init__
  na_Net_gone : NoAttr K T.c_Net "gone"
  na_Net_made : NoAttr K T.c_Net "made"
  na_Net_missed : NoAttr K T.c_Net "missed"
  na_Net_regions : NoAttr K T.c_Net "regions"
  na_Net_rings : NoAttr K T.c_Net "rings"
  na_Net_rows : NoAttr K T.c_Net "rows"
  na_Net_tree : NoAttr K T.c_Net "tree"
  n_abs : mg "abs" = none
  n_all : mg "all" = none
  n_bool : mg "bool" = none
  n_int : mg "int" = none
  n_isinstance : mg "isinstance" = none
  n_len : mg "len" = none
  n_list : mg "list" = none
  n_range : mg "range" = none
  n_sorted : mg "sorted" = none
  n_tuple : mg "tuple" = none
  k_EMPTY : KT K mg sts "EMPTY" c_EMPTY
  k_ENVIRONMENTS : mg "ENVIRONMENTS" = some (.int 4 T.t_ENVIRONMENTS)
  k_FIELDS : mg "FIELDS" = some (.int 6 T.t_FIELDS)
  k_RING : mg "RING" = some (.int 8 T.t_RING)
  k_TOP : mg "TOP" = some (.int 4294967295 T.t_TOP)
  gc_NotValid : mg "NotValid" = some (.ref T.c_NotValid)
  x_NotValid : PySem.W.excIn K T.c_NotValid [.type "ValueError", .type "Exception", .type "BaseException", .type "object"] "ValueError.__new__" = true
  kp_NotValid : PySem.W.keepIn K (.ref T.c_NotValid) = true
  bs_NotValid : PySem.W.subIn K (.ref T.c_NotValid) (.type "BaseException") = some true
  ty_NotValid : PySem.W.typeIn K (.ref T.c_NotValid) = some (.type "type")
  ex_NotValid : PySem.W.exmOne K (.ref T.c_NotValid) (.ref T.c_NotValid) = some true
section
variable {P : Program} {w : World} {K : PySem.W.Frag} {mg : Str → Option Value} {base : PySem.Heap} {T : Tx}
theorem gok : (T.G K).Ok := ⟨(by decide +kernel : nms.Nodup), (by decide +kernel : sts.Nodup), (by decide +kernel : ∀ x ∈ sts, PySem.PyData.strOk x = true)⟩
theorem sc__law_next : FnScope N__law_next ["_law_tape", "_law_many"] (defScope s__law_next) := ⟨rfl, rfl, rfl, by decide +kernel, rfl, by decide +kernel, by decide +kernel⟩
theorem ok__law_next (O : TxOk w K mg base T) : FnM (T.G K) P w mg base 1 T.f__law_next T.d__law_next ["_law_tape", "_law_many"] m__law_next := by
  refine fn_m O.F__law_next sc__law_next rfl rfl (fun cdv A outer s H E C tk => ?_)
  exact ⟨_, mss_cons (ms_asg (me_ix gok C (me_var 0) (me_int)) (mg_name 2 C.nd))
    (mss_cons (ms_if (mt_cmp (mc_gt (me_var 2) (me_int))) (mss_cons (ms_sub gok C (me_var 0) (me_int) (me_fdiv (me_var 2) (me_var 1)))
    (mss_one (ms_ret (me_mod (me_bty call_int1 rl_int O.n_int bt_int (ma_cons (me_var 2) (ma_nil))) (me_var 1))))) (mss_nil))
    (mss_cons (ms_asg (me_int) (mg_name 3 C.nd))
    (mss_cons (ms_if (mt_cmp (mc_lt (me_ix gok C (me_var 0) (me_int)) (me_blt (cl_len C) rl_len O.n_len bt_len (ma_cons (me_ix gok C (me_var 0) (me_int)) (ma_nil))))) (mss_cons (ms_asg (me_blt call_abs rl_abs O.n_abs bt_abs (ma_cons (me_ix gok C (me_ix gok C (me_var 0) (me_int)) (me_ix gok C (me_var 0) (me_int))) (ma_nil))) (mg_name 3 C.nd))
    (mss_one (ms_subA gok C ia_add (rf_I0 (g := fun i j => i + j)) (me_var 0) (me_int) (me_int)))) (mss_nil))
    (mss_cons (ms_if (mt_cmp (mc_ge (me_var 3) (me_pow (me_int) (me_int)))) (mss_cons (ms_sub gok C (me_var 0) (me_int) (me_fdiv (me_var 3) (me_var 1)))
    (mss_one (ms_ret (me_mod (me_bty call_int1 rl_int O.n_int bt_int (ma_cons (me_var 3) (ma_nil))) (me_var 1))))) (mss_nil))
    (mss_cons (ms_sub gok C (me_var 0) (me_int) (me_mod (me_bty call_int1 rl_int O.n_int bt_int (ma_cons (me_add C (me_add C (me_mul C (me_ix gok C (me_var 0) (me_int)) (me_int)) (me_mul C (me_var 3) (me_int))) (me_int)) (ma_nil))) (me_int)))
    (mss_one (ms_ret (me_mod (me_bty call_int1 rl_int O.n_int bt_int (ma_cons (me_fdiv (me_mod (me_mul C (me_ix gok C (me_var 0) (me_int)) (me_int)) (me_int)) (me_int)) (ma_nil))) (me_var 1)))))))))⟩
theorem sc_is_number : FnScope N_is_number ["value"] (defScope s_is_number) := ⟨rfl, rfl, rfl, by decide +kernel, rfl, by decide +kernel, by decide +kernel⟩
theorem ok_is_number (O : TxOk w K mg base T) : FnM (T.G K) P w mg base 1 T.f_is_number T.d_is_number ["value"] m_is_number := by
  refine fn_m O.F_is_number sc_is_number rfl rfl (fun cdv A outer s H E C tk => ?_)
  exact ⟨_, mss_one (ms_ret (me_andV (me_isi C .int (by decide) O.n_isinstance O.n_int bt_ty_int (me_var 0)) (me_one (me_notV (me_isi C .bool (by decide) O.n_isinstance O.n_bool bt_ty_bool (me_var 0))))))⟩
theorem sc_is_word : FnScope N_is_word ["value"] (defScope s_is_word) := ⟨rfl, rfl, rfl, by decide +kernel, rfl, by decide +kernel, by decide +kernel⟩
theorem ok_is_word (O : TxOk w K mg base T) : FnM (T.G K) P w mg base 2 T.f_is_word T.d_is_word ["value"] m_is_word := by
  refine fn_m O.F_is_word sc_is_word rfl rfl (fun cdv A outer s H E C tk => ?_)
  exact ⟨_, mss_one (ms_ret (me_andV (me_call C (ok_is_number O) df_nil (by decide) O.g_is_number O.F_is_number.kp O.b_is_number (ma_cons (me_var 0) (ma_nil))) (me_one (me_chLeLe (me_int) (me_var 0) (me_glob 4294967295 O.k_TOP)))))⟩
theorem sc_is_test : FnScope N_is_test ["value"] (defScope s_is_test) := ⟨rfl, rfl, rfl, by decide +kernel, rfl, by decide +kernel, by decide +kernel⟩
theorem ok_is_test (O : TxOk w K mg base T) : FnM (T.G K) P w mg base 3 T.f_is_test T.d_is_test ["value"] m_is_test := by
  refine fn_m O.F_is_test sc_is_test rfl rfl (fun cdv A outer s H E C tk => ?_)
  exact ⟨_, mss_cons (ms_if ((mw_or (mt_not (mt_tr C (me_isi C .tup (by decide) O.n_isinstance O.n_tuple bt_ty_tup (me_var 0)))) (mw_or1 (mt_cmp (mc_ne gok C (me_blt (cl_len C) rl_len O.n_len bt_len (ma_cons (me_var 0) (ma_nil))) (me_int))))).mt) (mss_one (ms_ret (me_bl))) (mss_nil))
    (mss_cons (ms_asg (me_var 0) (mg_tup C (mgs_cons (mg_name 1 C.nd) (mgs_cons (mg_name 2 C.nd) (mgs_cons (mg_name 3 C.nd) (mgs_nil)))) (gs_lenS (gs_lenS (gs_lenS gs_len0)))))
    (mss_cons (ms_if ((mw_or (mt_not (mt_tr C (me_call C (ok_is_number O) df_nil (by decide) O.g_is_number O.F_is_number.kp O.b_is_number (ma_cons (me_var 1) (ma_nil))))) (mw_or (mt_not (mt_chLeLt (me_int) (me_var 1) (me_glob 6 O.k_FIELDS))) (mw_or (mt_not (mt_tr C (me_call C (ok_is_word O) df_nil (by decide) O.g_is_word O.F_is_word.kp O.b_is_word (ma_cons (me_var 2) (ma_nil))))) (mw_or1 (mt_not (mt_tr C (me_call C (ok_is_word O) df_nil (by decide) O.g_is_word O.F_is_word.kp O.b_is_word (ma_cons (me_var 3) (ma_nil))))))))).mt) (mss_one (ms_ret (me_bl))) (mss_nil))
    (mss_one (ms_ret (me_andV (me_cmp (mc_gt (me_var 2) (me_int))) (me_one (me_cmp (mc_eq gok C (me_and (me_var 3) (me_var 2)) (me_var 3)))))))))⟩
theorem sc_is_filter : FnScope N_is_filter ["value"] (defScope s_is_filter) := ⟨rfl, rfl, rfl, by decide +kernel, rfl, by decide +kernel, by decide +kernel⟩
theorem ok_is_filter (O : TxOk w K mg base T) : FnM (T.G K) P w mg base 4 T.f_is_filter T.d_is_filter ["value"] m_is_filter := by
  refine fn_m O.F_is_filter sc_is_filter rfl rfl (fun cdv A outer s H E C tk => ?_)
  exact ⟨_, mss_cons (ms_if ((mw_or (mt_not (mt_tr C (me_isi C .tup (by decide) O.n_isinstance O.n_tuple bt_ty_tup (me_var 0)))) (mw_or1 (mt_not (mt_tr C (me_blt (cl_all C) rl_all O.n_all bt_all (ma_cons (me_lc [("test", 2)] C (mi_alt (mi_lst C (me_var 0)) (mi_tup C (me_var 0))) (blkOk_by (N := N_is_filter) (sc := defScope s_is_filter) (by decide +kernel)) (fun _ _ _ _ _ C => mg_name 2 C.nd) (fun _ _ _ _ _ C => mts_nil) (fun _ _ _ _ _ C => me_call C (ok_is_test O) df_nil (by decide) O.g_is_test O.F_is_test.kp O.b_is_test (ma_cons (me_var 2) (ma_nil))) (tgw_name (by decide))) (ma_nil))))))).mt) (mss_one (ms_ret (me_bl))) (mss_nil))
    (mss_cons (ms_asg (me_lc [("test", 2)] C (mi_alt (mi_lst C (me_var 0)) (mi_tup C (me_var 0))) (blkOk_by (N := N_is_filter) (sc := defScope s_is_filter) (by decide +kernel)) (fun _ _ _ _ _ C => mg_name 2 C.nd) (fun _ _ _ _ _ C => mts_nil) (fun _ _ _ _ _ C => me_ix gok C (me_var 2) (me_int)) (tgw_name (by decide))) (mg_name 1 C.nd))
    (mss_one (ms_ret (me_blt (cl_all C) rl_all O.n_all bt_all (ma_cons (me_lc [("k", 3)] C (mi_rng1 O.n_range (ma_cons (me_sub (me_blt (cl_len C) rl_len O.n_len bt_len (ma_cons (me_var 1) (ma_nil))) (me_int)) (ma_nil))) (blkOk_by (N := N_is_filter) (sc := defScope s_is_filter) (by decide +kernel)) (fun _ _ _ _ _ C => mg_name 3 C.nd) (fun _ _ _ _ _ C => mts_nil) (fun _ _ _ _ _ C => me_cmp (mc_lt (me_ix gok C (me_var 1) (me_var 3)) (me_ix gok C (me_var 1) (me_add C (me_var 3) (me_int))))) (tgw_name (by decide))) (ma_nil))))))⟩
theorem sc_common : FnScope N_common ["one", "other"] (defScope s_common) := ⟨rfl, rfl, rfl, by decide +kernel, rfl, by decide +kernel, by decide +kernel⟩
theorem ok_common (O : TxOk w K mg base T) : FnM (T.G K) P w mg base 1 T.f_common T.d_common ["one", "other"] m_common := by
  refine fn_m O.F_common sc_common rfl rfl (fun cdv A outer s H E C tk => ?_)
  exact ⟨_, mss_cons (ms_asg (me_mul C (me_lst (ma_cons (me_int) (ma_nil))) (me_glob 6 O.k_FIELDS)) (mg_name 2 C.nd))
    (mss_cons (ms_asg (me_mul C (me_lst (ma_cons (me_int) (ma_nil))) (me_glob 6 O.k_FIELDS)) (mg_name 3 C.nd))
    (mss_cons (ms_for C (mi_alt (mi_lst C (me_var 0)) (mi_tup C (me_var 0))) (mg_tup C (mgs_cons (mg_name 4 C.nd) (mgs_cons (mg_name 5 C.nd) (mgs_cons (mg_name 6 C.nd) (mgs_nil)))) (gs_lenS (gs_lenS (gs_lenS gs_len0)))) (mss_cons (ms_sub gok C (me_var 2) (me_var 4) (me_var 6))
    (mss_one (ms_sub gok C (me_var 3) (me_var 4) (me_var 5)))))
    (mss_cons (ms_for C (mi_alt (mi_lst C (me_var 1)) (mi_tup C (me_var 1))) (mg_tup C (mgs_cons (mg_name 4 C.nd) (mgs_cons (mg_name 5 C.nd) (mgs_cons (mg_name 6 C.nd) (mgs_nil)))) (gs_lenS (gs_lenS (gs_lenS gs_len0)))) (mss_cons (ms_if (mt_cmp (mc_ne gok C (me_and (me_and (me_xor (me_ix gok C (me_var 2) (me_var 4)) (me_var 6)) (me_ix gok C (me_var 3) (me_var 4))) (me_var 5)) (me_int))) (mss_one (ms_ret (me_non))) (mss_nil))
    (mss_one (ms_sub gok C (me_var 2) (me_var 4) (me_or (me_ix gok C (me_var 2) (me_var 4)) (me_var 6))))))
    (mss_one (ms_ret (me_bty (cl_tuple C) rl_tuple O.n_tuple bt_tuple (ma_cons (me_var 2) (ma_nil))))))))⟩
theorem sc_Net__common_with_regions : FnScope N_Net__common_with_regions ["self", "environment", "filter_tests"] (defScope s_Net__common_with_regions) := ⟨rfl, rfl, rfl, by decide +kernel, rfl, by decide +kernel, by decide +kernel⟩
theorem ok_Net__common_with_regions (O : TxOk w K mg base T) : FnM (T.G K) P w mg base 2 T.f_Net__common_with_regions T.d_Net__common_with_regions ["self", "environment", "filter_tests"] m_Net__common_with_regions := by
  refine fn_m O.F_Net__common_with_regions sc_Net__common_with_regions rfl rfl (fun cdv A outer s H E C tk => ?_)
  exact ⟨_, mss_cons (ms_for C (mi_rng1 O.n_range (ma_cons (me_glob 4 O.k_ENVIRONMENTS) (ma_nil))) (mg_name 3 C.nd) (mss_one (ms_if ((mw_and (mt_cmp (mc_ne gok C (me_var 3) (me_var 1))) (mw_and1 (mt_cmp (mc_notN (me_ix gok C (me_fld gok C 0 rfl (me_var 0)) (me_var 3)))))).mt) (mss_cons (ms_asg (me_call C (ok_common O) df_nil (by decide) O.g_common O.F_common.kp O.b_common (ma_cons (me_var 2) (ma_cons (me_ix gok C (me_fld gok C 0 rfl (me_var 0)) (me_var 3)) (ma_nil)))) (mg_name 4 C.nd))
    (mss_one (ms_if (mt_cmp (mc_notN (me_var 4))) (mss_one (ms_ret (me_var 4))) (mss_nil)))) (mss_nil))))
    (mss_one (ms_ret (me_non)))⟩
theorem sc_Net___init__ : FnScope N_Net___init__ ["self", "regions"] (defScope s_Net___init__) := ⟨rfl, rfl, rfl, by decide +kernel, rfl, by decide +kernel, by decide +kernel⟩
theorem ok_Net___init__ (O : TxOk w K mg base T) : FnM (T.G K) P w mg base 5 T.f_Net___init__ T.d_Net___init__ ["self", "regions"] m_Net___init__ := by
  refine fn_m O.F_Net___init__ sc_Net___init__ rfl rfl (fun cdv A outer s H E C tk => ?_)
  exact ⟨_, mss_cons (ms_if ((mw_or (mt_not (mt_tr C (me_isi C .lst (by decide) O.n_isinstance O.n_list bt_ty_lst (me_var 1)))) (mw_or1 (mt_cmp (mc_ne gok C (me_blt (cl_len C) rl_len O.n_len bt_len (ma_cons (me_var 1) (ma_nil))) (me_glob 4 O.k_ENVIRONMENTS))))).mt) (mss_one (ms_raise 2 C tk rfl (pmk_own0 PySem.F.excBase_ValueError O.x_NotValid O.gc_NotValid O.kp_NotValid (raises_own O.bs_NotValid O.ty_NotValid) rfl))) (mss_nil))
    (mss_cons (ms_if (mt_not (mt_tr C (me_blt (cl_all C) rl_all O.n_all bt_all (ma_cons (me_lc [("region", 3)] C (mi_alt (mi_lst C (me_var 1)) (mi_tup C (me_var 1))) (blkOk_by (N := N_Net___init__) (sc := defScope s_Net___init__) (by decide +kernel)) (fun _ _ _ _ _ C => mg_name 3 C.nd) (fun _ _ _ _ _ C => mts_nil) (fun _ _ _ _ _ C => me_orV (me_cmp (mc_isN (me_var 3))) (me_one (me_call C (ok_is_filter O) df_nil (by decide) O.g_is_filter O.F_is_filter.kp O.b_is_filter (ma_cons (me_var 3) (ma_nil))))) (tgw_name (by decide))) (ma_nil))))) (mss_one (ms_raise 2 C tk rfl (pmk_own0 PySem.F.excBase_ValueError O.x_NotValid O.gc_NotValid O.kp_NotValid (raises_own O.bs_NotValid O.ty_NotValid) rfl))) (mss_nil))
    (mss_cons (ms_fld gok C 0 0 rfl rfl O.na_Net_regions (me_var 0) (me_bty (cl_list C) rl_list O.n_list bt_list (ma_cons (me_var 1) (ma_nil))))
    (mss_cons (ms_for C (mi_rng1 O.n_range (ma_cons (me_glob 4 O.k_ENVIRONMENTS) (ma_nil))) (mg_name 2 C.nd) (mss_cons (ms_asg (me_ix gok C (me_var 1) (me_var 2)) (mg_name 3 C.nd))
    (mss_one (ms_if ((mw_and (mt_cmp (mc_notN (me_var 3))) (mw_and1 (mt_cmp (mc_notN (me_meth C (ok_Net__common_with_regions O) 0 rfl O.cl_Net O.M_Net__common_with_regions df_nil (by decide) O.b_Net__common_with_regions (me_var 0) (ma_cons (me_var 2) (ma_cons (me_var 3) (ma_nil)))))))).mt) (mss_one (ms_raise 2 C tk rfl (pmk_own0 PySem.F.excBase_ValueError O.x_NotValid O.gc_NotValid O.kp_NotValid (raises_own O.bs_NotValid O.ty_NotValid) rfl))) (mss_nil)))))
    (mss_cons (ms_fld gok C 0 1 rfl rfl O.na_Net_made (me_var 0) (me_int))
    (mss_cons (ms_fld gok C 0 2 rfl rfl O.na_Net_rows (me_var 0) (me_dict))
    (mss_cons (ms_fld gok C 0 3 rfl rfl O.na_Net_rings (me_var 0) (me_dict))
    (mss_cons (ms_fld gok C 0 4 rfl rfl O.na_Net_tree (me_var 0) (me_globC C O.k_EMPTY))
    (mss_cons (ms_fld gok C 0 5 rfl rfl O.na_Net_gone (me_var 0) (me_lst (ma_nil)))
    (mss_one (ms_fld gok C 0 6 rfl rfl O.na_Net_missed (me_var 0) (me_int)))))))))))⟩
theorem sc__law_refused : FnScope N__law_refused ["_law_regions"] (defScope s__law_refused) := ⟨rfl, rfl, rfl, by decide +kernel, rfl, by decide +kernel, by decide +kernel⟩
theorem ok__law_refused (O : TxOk w K mg base T) : FnM (T.G K) P w mg base 7 T.f__law_refused T.d__law_refused ["_law_regions"] m__law_refused := by
  refine fn_m O.F__law_refused sc__law_refused rfl rfl (fun cdv A outer s H E C tk => ?_)
  exact ⟨_, mss_one (ms_try 2 C rfl rfl O.gc_NotValid tk rfl O.ex_NotValid (fun _ _ => .bl _) (fun _ => pe_bl) (fun _ _ _ C => ⟨_, mss_cons (ms_expr (me_make C (ok_Net___init__ O) 0 rfl O.cl_Net O.mk_Net df_nil (by decide) O.gc_Net O.b_Net___init__ (ma_cons (me_var 0) (ma_nil))))
    (mss_one (ms_ret (me_bl)))⟩))⟩
theorem sc__law_filter : FnScope N__law_filter ["_law_tape", "_law_environment"] (defScope s__law_filter) := ⟨rfl, rfl, rfl, by decide +kernel, rfl, by decide +kernel, by decide +kernel⟩
theorem ok__law_filter (O : TxOk w K mg base T) : FnM (T.G K) P w mg base 2 T.f__law_filter T.d__law_filter ["_law_tape", "_law_environment"] m__law_filter := by
  refine fn_m O.F__law_filter sc__law_filter rfl rfl (fun cdv A outer s H E C tk => ?_)
  exact ⟨_, mss_cons (ms_asg (me_lst (ma_nil)) (mg_name 2 C.nd))
    (mss_cons (ms_if (mt_cmp (mc_gt (me_call C (ok__law_next O) df_nil (by decide) O.g__law_next O.F__law_next.kp O.b__law_next (ma_cons (me_var 0) (ma_cons (me_int) (ma_nil)))) (me_int))) (mss_one (ms_expr (me_bm C PySem.F.slot_list_append PySem.F.type_list_append mt_append rm_append (me_var 2) (ma_cons (me_tup (ma_cons (me_int) (ma_cons (me_int) (ma_cons (me_ix gok C (me_lst (ma_cons (me_var 1) (ma_cons (me_call C (ok__law_next O) df_nil (by decide) O.g__law_next O.F__law_next.kp O.b__law_next (ma_cons (me_var 0) (ma_cons (me_int) (ma_nil)))) (ma_nil)))) (me_call C (ok__law_next O) df_nil (by decide) O.g__law_next O.F__law_next.kp O.b__law_next (ma_cons (me_var 0) (ma_cons (me_int) (ma_nil))))) (ma_nil))))) (ma_nil))))) (mss_nil))
    (mss_cons (ms_if (mt_cmp (mc_eq gok C (me_call C (ok__law_next O) df_nil (by decide) O.g__law_next O.F__law_next.kp O.b__law_next (ma_cons (me_var 0) (ma_cons (me_int) (ma_nil)))) (me_int))) (mss_one (ms_expr (me_bm C PySem.F.slot_list_append PySem.F.type_list_append mt_append rm_append (me_var 2) (ma_cons (me_tup (ma_cons (me_int) (ma_cons (me_int) (ma_cons (me_call C (ok__law_next O) df_nil (by decide) O.g__law_next O.F__law_next.kp O.b__law_next (ma_cons (me_var 0) (ma_cons (me_int) (ma_nil)))) (ma_nil))))) (ma_nil))))) (mss_nil))
    (mss_one (ms_ret (me_bty (cl_tuple C) rl_tuple O.n_tuple bt_tuple (ma_cons (me_var 2) (ma_nil)))))))⟩
theorem sc__law_meets_two : FnScope N__law_meets_two ["_law_regions", "_law_rows", "_law_environment", "_law_filter_tests"] (defScope s__law_meets_two) := ⟨rfl, rfl, rfl, by decide +kernel, rfl, by decide +kernel, by decide +kernel⟩
theorem ok__law_meets_two (O : TxOk w K mg base T) : FnM (T.G K) P w mg base 2 T.f__law_meets_two T.d__law_meets_two ["_law_regions", "_law_rows", "_law_environment", "_law_filter_tests"] m__law_meets_two := by
  refine fn_m O.F__law_meets_two sc__law_meets_two rfl rfl (fun cdv A outer s H E C tk => ?_)
  exact ⟨_, mss_cons (ms_asg (me_lst (ma_nil)) (mg_name 4 C.nd))
    (mss_cons (ms_for C (mi_rng1 O.n_range (ma_cons (me_int) (ma_nil))) (mg_name 5 C.nd) (mss_one (ms_if ((mw_and (mt_cmp (mc_ne gok C (me_var 5) (me_var 2))) (mw_and1 (mt_cmp (mc_notN (me_ix gok C (me_var 0) (me_var 5)))))).mt) (mss_one (ms_expr (me_bm C PySem.F.slot_list_append PySem.F.type_list_append mt_append rm_append (me_var 4) (ma_cons (me_ix gok C (me_var 0) (me_var 5)) (ma_nil))))) (mss_nil))))
    (mss_cons (ms_for C (mi_lst C (me_blt (cl_sorted2 C) rl_sorted2 O.n_sorted bt_sorted (ma_cons (me_var 1) (ma_nil)))) (mg_name 6 C.nd) (mss_one (ms_if (mt_cmp (mc_ne gok C (me_ix gok C (me_ix gok C (me_var 1) (me_var 6)) (me_int)) (me_var 2))) (mss_one (ms_expr (me_bm C PySem.F.slot_list_append PySem.F.type_list_append mt_append rm_append (me_var 4) (ma_cons (me_ix gok C (me_ix gok C (me_var 1) (me_var 6)) (me_int)) (ma_nil))))) (mss_nil))))
    (mss_one (ms_ret (me_lc [("_law_one", 7)] C (mi_alt (mi_lst C (me_var 4)) (mi_tup C (me_var 4))) (blkOk_by (N := N__law_meets_two) (sc := defScope s__law_meets_two) (by decide +kernel)) (fun _ _ _ _ _ C => mg_name 7 C.nd) (fun _ _ _ _ _ C => mts_one (mt_cmp (mc_notN (me_call C (ok_common O) df_nil (by decide) O.g_common O.F_common.kp O.b_common (ma_cons (me_var 3) (ma_cons (me_var 7) (ma_nil))))))) (fun _ _ _ _ _ C => me_var 7) (tgw_name (by decide)))))))⟩
theorem sc_branch_of : FnScope N_branch_of ["branches", "index", "mask"] (defScope s_branch_of) := ⟨rfl, rfl, rfl, by decide +kernel, rfl, by decide +kernel, by decide +kernel⟩
theorem ok_branch_of (O : TxOk w K mg base T) : FnM (T.G K) P w mg base 1 T.f_branch_of T.d_branch_of ["branches", "index", "mask"] m_branch_of := by
  refine fn_m O.F_branch_of sc_branch_of rfl rfl (fun cdv A outer s H E C tk => ?_)
  exact ⟨_, mss_cons (ms_for C (mi_alt (mi_lst C (me_var 0)) (mi_tup C (me_var 0))) (mg_name 3 C.nd) (mss_one (ms_if (mt_cmp (mc_eq gok C (me_sl C (me_var 3) (mo_no) (mo_so (me_int))) (me_tup (ma_cons (me_var 1) (ma_cons (me_var 2) (ma_nil)))))) (mss_one (ms_ret (me_ix gok C (me_var 3) (me_int)))) (mss_nil))))
    (mss_one (ms_ret (me_tup (ma_nil))))⟩
theorem sc_child_of : FnScope N_child_of ["children", "value"] (defScope s_child_of) := ⟨rfl, rfl, rfl, by decide +kernel, rfl, by decide +kernel, by decide +kernel⟩
theorem ok_child_of (O : TxOk w K mg base T) : FnM (T.G K) P w mg base 1 T.f_child_of T.d_child_of ["children", "value"] m_child_of := by
  refine fn_m O.F_child_of sc_child_of rfl rfl (fun cdv A outer s H E C tk => ?_)
  exact ⟨_, mss_cons (ms_for C (mi_alt (mi_lst C (me_var 0)) (mi_tup C (me_var 0))) (mg_tup C (mgs_cons (mg_name 2 C.nd) (mgs_cons (mg_name 3 C.nd) (mgs_nil))) (gs_lenS (gs_lenS gs_len0))) (mss_one (ms_if (mt_cmp (mc_eq gok C (me_var 2) (me_var 1))) (mss_one (ms_ret (me_var 3))) (mss_nil))))
    (mss_one (ms_ret (me_non)))⟩
theorem sc_with_branch : FnScope N_with_branch ["branches", "index", "mask", "children"] (defScope s_with_branch) := ⟨rfl, rfl, rfl, by decide +kernel, rfl, by decide +kernel, by decide +kernel⟩
theorem ok_with_branch (O : TxOk w K mg base T) : FnM (T.G K) P w mg base 1 T.f_with_branch T.d_with_branch ["branches", "index", "mask", "children"] m_with_branch := by
  refine fn_mc O.F_with_branch O.C_with_branch sc_with_branch rfl rfl (fun A outer s H E C tk => ?_)
  exact ⟨_, mss_cons (ms_setLc 4 [("row", 5)] C (mi_alt (mi_lst C (me_var 0)) (mi_tup C (me_var 0))) (blkOk_by (N := N_with_branch) (sc := defScope s_with_branch) (by decide +kernel)) (fun _ _ _ _ _ C => mg_name 5 C.nd) (fun _ _ _ _ _ C => mts_one (mt_cmp (mc_ne gok C (me_sl C (me_var 5) (mo_no) (mo_so (me_int))) (me_tup (ma_cons (me_var 1) (ma_cons (me_var 2) (ma_nil))))))) (fun _ _ _ _ _ C => me_var 5) (tgw_name (by decide)) (sw_true rfl rfl rfl (by decide +kernel)))
    (mss_cons (ms_if (mt_tr C (me_var 3)) (mss_one (ms_expr (me_bm C PySem.F.slot_list_append PySem.F.type_list_append mt_append rm_append (me_var 4) (ma_cons (me_tup (ma_cons (me_var 1) (ma_cons (me_var 2) (ma_cons (me_var 3) (ma_nil))))) (ma_nil))))) (mss_nil))
    (mss_one (ms_ret (me_bty (cl_tuple C) rl_tuple O.n_tuple bt_tuple (ma_cons (me_sortKey C (.inr rfl) (me_var 4) (key2_ok (fun _ _ _ _ _ => rfl) (by decide +kernel)) O.B_with_branch rfl (by exact .head _) (tb_uniq O.nd_tb (by exact .head _)) rfl rfl O.n_sorted) (ma_nil))))))⟩
theorem sc_with_child : FnScope N_with_child ["children", "value", "node"] (defScope s_with_child) := ⟨rfl, rfl, rfl, by decide +kernel, rfl, by decide +kernel, by decide +kernel⟩
theorem ok_with_child (O : TxOk w K mg base T) : FnM (T.G K) P w mg base 1 T.f_with_child T.d_with_child ["children", "value", "node"] m_with_child := by
  refine fn_mc O.F_with_child O.C_with_child sc_with_child rfl rfl (fun A outer s H E C tk => ?_)
  exact ⟨_, mss_cons (ms_setLc 3 [("row", 4)] C (mi_alt (mi_lst C (me_var 0)) (mi_tup C (me_var 0))) (blkOk_by (N := N_with_child) (sc := defScope s_with_child) (by decide +kernel)) (fun _ _ _ _ _ C => mg_name 4 C.nd) (fun _ _ _ _ _ C => mts_one (mt_cmp (mc_ne gok C (me_ix gok C (me_var 4) (me_int)) (me_var 1)))) (fun _ _ _ _ _ C => me_var 4) (tgw_name (by decide)) (sw_true rfl rfl rfl (by decide +kernel)))
    (mss_cons (ms_if (mt_cmp (mc_notN (me_var 2))) (mss_one (ms_expr (me_bm C PySem.F.slot_list_append PySem.F.type_list_append mt_append rm_append (me_var 3) (ma_cons (me_tup (ma_cons (me_var 1) (ma_cons (me_var 2) (ma_nil)))) (ma_nil))))) (mss_nil))
    (mss_one (ms_ret (me_bty (cl_tuple C) rl_tuple O.n_tuple bt_tuple (ma_cons (me_sortKey C (.inl rfl) (me_var 3) (key0_ok (fun _ _ _ _ _ => rfl) (by decide +kernel)) O.B_with_child rfl (by exact .tail _ (.head _)) (tb_uniq O.nd_tb (by exact .tail _ (.head _))) rfl rfl O.n_sorted) (ma_nil))))))⟩
theorem sc_with_filter : FnScope N_with_filter ["tree", "name", "filter_tests"] (defScope s_with_filter) := ⟨rfl, rfl, rfl, by decide +kernel, rfl, by decide +kernel, by decide +kernel⟩
theorem okn_with_filter (O : TxOk w K mg base T) : ∀ n : Nat, FnM (T.G K) P w mg base (1 + n) T.f_with_filter T.d_with_filter ["tree", "name", "filter_tests"] (m_with_filter_n n)
  | 0 => fn_none
  | n + 1 => by
    have ih := okn_with_filter O n
    refine fn_m (k := 1 + n) O.F_with_filter sc_with_filter rfl rfl (fun cdv A outer s H E C tk => ?_)
    exact ⟨_, mss_cons (ms_asg (me_var 0) (mg_tup C (mgs_cons (mg_name 3 C.nd) (mgs_cons (mg_name 4 C.nd) (mgs_nil))) (gs_lenS (gs_lenS gs_len0))))
    (mss_cons (ms_if (mt_not (mt_tr C (me_var 2))) (mss_one (ms_ret (me_tup (ma_cons (me_bty (cl_tuple C) rl_tuple O.n_tuple bt_tuple (ma_cons (me_blt (cl_sorted2 C) rl_sorted2 O.n_sorted bt_sorted (ma_cons (me_add C (me_var 3) (me_tup (ma_cons (me_var 1) (ma_nil)))) (ma_nil))) (ma_nil))) (ma_cons (me_var 4) (ma_nil)))))) (mss_nil))
    (mss_cons (ms_asg (me_ix gok C (me_var 2) (me_int)) (mg_tup C (mgs_cons (mg_name 5 C.nd) (mgs_cons (mg_name 6 C.nd) (mgs_cons (mg_name 7 C.nd) (mgs_nil)))) (gs_lenS (gs_lenS (gs_lenS gs_len0)))))
    (mss_cons (ms_asg (me_call C (ok_branch_of O) df_nil (by omega) O.g_branch_of O.F_branch_of.kp O.b_branch_of (ma_cons (me_var 4) (ma_cons (me_var 5) (ma_cons (me_var 6) (ma_nil))))) (mg_name 8 C.nd))
    (mss_cons (ms_asg (me_call C (ok_child_of O) df_nil (by omega) O.g_child_of O.F_child_of.kp O.b_child_of (ma_cons (me_var 8) (ma_cons (me_var 7) (ma_nil)))) (mg_name 9 C.nd))
    (mss_cons (ms_if (mt_cmp (mc_isN (me_var 9))) (mss_one (ms_asg (me_globC C O.k_EMPTY) (mg_name 9 C.nd))) (mss_nil))
    (mss_cons (ms_asg (me_call C ih df_nil (by omega) O.g_with_filter O.F_with_filter.kp O.b_with_filter (ma_cons (me_var 9) (ma_cons (me_var 1) (ma_cons (me_sl C (me_var 2) (mo_so (me_int)) (mo_no)) (ma_nil))))) (mg_name 9 C.nd))
    (mss_one (ms_ret (me_tup (ma_cons (me_var 3) (ma_cons (me_call C (ok_with_branch O) df_nil (by omega) O.g_with_branch O.F_with_branch.kp O.b_with_branch (ma_cons (me_var 4) (ma_cons (me_var 5) (ma_cons (me_var 6) (ma_cons (me_call C (ok_with_child O) df_nil (by omega) O.g_with_child O.F_with_child.kp O.b_with_child (ma_cons (me_var 8) (ma_cons (me_var 7) (ma_cons (me_var 9) (ma_nil))))) (ma_nil)))))) (ma_nil))))))))))))⟩
theorem ok_with_filter (O : TxOk w K mg base T) : FnM (T.G K) P w mg base 9 T.f_with_filter T.d_with_filter ["tree", "name", "filter_tests"] m_with_filter := okn_with_filter O 8
theorem sc_Net_enroll : FnScope N_Net_enroll ["self", "environment", "filter_tests"] (defScope s_Net_enroll) := ⟨rfl, rfl, rfl, by decide +kernel, rfl, by decide +kernel, by decide +kernel⟩
theorem ok_Net_enroll (O : TxOk w K mg base T) : FnM (T.G K) P w mg base 10 T.f_Net_enroll T.d_Net_enroll ["self", "environment", "filter_tests"] m_Net_enroll := by
  refine fn_m O.F_Net_enroll sc_Net_enroll rfl rfl (fun cdv A outer s H E C tk => ?_)
  exact ⟨_, mss_cons (ms_if (mt_not (mt_tr C (me_call C (ok_is_filter O) df_nil (by decide) O.g_is_filter O.F_is_filter.kp O.b_is_filter (ma_cons (me_var 2) (ma_nil))))) (mss_one (ms_raise 2 C tk rfl (pmk_own0 PySem.F.excBase_ValueError O.x_NotValid O.gc_NotValid O.kp_NotValid (raises_own O.bs_NotValid O.ty_NotValid) rfl))) (mss_nil))
    (mss_cons (ms_asg (me_meth C (ok_Net__common_with_regions O) 0 rfl O.cl_Net O.M_Net__common_with_regions df_nil (by decide) O.b_Net__common_with_regions (me_var 0) (ma_cons (me_var 1) (ma_cons (me_var 2) (ma_nil)))) (mg_name 3 C.nd))
    (mss_cons (ms_if (mt_cmp (mc_notN (me_var 3))) (mss_one (ms_ret (me_var 3))) (mss_nil))
    (mss_cons (ms_for C (mi_lst C (me_blt (cl_sorted2 C) rl_sorted2 O.n_sorted bt_sorted (ma_cons (me_fld gok C 2 rfl (me_var 0)) (ma_nil)))) (mg_name 4 C.nd) (mss_cons (ms_asg (me_ix gok C (me_fld gok C 2 rfl (me_var 0)) (me_var 4)) (mg_tup C (mgs_cons (mg_name 5 C.nd) (mgs_cons (mg_name 6 C.nd) (mgs_nil))) (gs_lenS (gs_lenS gs_len0))))
    (mss_one (ms_if (mt_cmp (mc_ne gok C (me_var 5) (me_var 1))) (mss_cons (ms_asg (me_call C (ok_common O) df_nil (by decide) O.g_common O.F_common.kp O.b_common (ma_cons (me_var 2) (ma_cons (me_var 6) (ma_nil)))) (mg_name 3 C.nd))
    (mss_one (ms_if (mt_cmp (mc_notN (me_var 3))) (mss_one (ms_ret (me_var 3))) (mss_nil)))) (mss_nil)))))
    (mss_cons (ms_fldA gok C 0 1 rfl rfl O.na_Net_made ia_add (rf_I0 (g := fun i j => i + j)) (me_var 0) (me_int))
    (mss_cons (ms_sub gok C (me_fld gok C 2 rfl (me_var 0)) (me_fld gok C 1 rfl (me_var 0)) (me_tup (ma_cons (me_var 1) (ma_cons (me_var 2) (ma_nil)))))
    (mss_cons (ms_sub gok C (me_fld gok C 3 rfl (me_var 0)) (me_fld gok C 1 rfl (me_var 0)) (me_lst (ma_nil)))
    (mss_cons (ms_fld gok C 0 4 rfl rfl O.na_Net_tree (me_var 0) (me_call C (ok_with_filter O) df_nil (by decide) O.g_with_filter O.F_with_filter.kp O.b_with_filter (ma_cons (me_fld gok C 4 rfl (me_var 0)) (ma_cons (me_fld gok C 1 rfl (me_var 0)) (ma_cons (me_var 2) (ma_nil))))))
    (mss_one (ms_ret (me_fld gok C 1 rfl (me_var 0)))))))))))⟩
theorem sc_is_packet : FnScope N_is_packet ["value"] (defScope s_is_packet) := ⟨rfl, rfl, rfl, by decide +kernel, rfl, by decide +kernel, by decide +kernel⟩
theorem ok_is_packet (O : TxOk w K mg base T) : FnM (T.G K) P w mg base 3 T.f_is_packet T.d_is_packet ["value"] m_is_packet := by
  refine fn_m O.F_is_packet sc_is_packet rfl rfl (fun cdv A outer s H E C tk => ?_)
  exact ⟨_, mss_one (ms_ret (me_andV (me_isi C .tup (by decide) O.n_isinstance O.n_tuple bt_ty_tup (me_var 0)) (me_andV (me_cmp (mc_eq gok C (me_blt (cl_len C) rl_len O.n_len bt_len (ma_cons (me_var 0) (ma_nil))) (me_glob 6 O.k_FIELDS))) (me_one (me_blt (cl_all C) rl_all O.n_all bt_all (ma_cons (me_lc [("word", 1)] C (mi_alt (mi_lst C (me_var 0)) (mi_tup C (me_var 0))) (blkOk_by (N := N_is_packet) (sc := defScope s_is_packet) (by decide +kernel)) (fun _ _ _ _ _ C => mg_name 1 C.nd) (fun _ _ _ _ _ C => mts_nil) (fun _ _ _ _ _ C => me_call C (ok_is_word O) df_nil (by decide) O.g_is_word O.F_is_word.kp O.b_is_word (ma_cons (me_var 1) (ma_nil))) (tgw_name (by decide))) (ma_nil)))))))⟩
theorem sc_holds : FnScope N_holds ["test", "packet"] (defScope s_holds) := ⟨rfl, rfl, rfl, by decide +kernel, rfl, by decide +kernel, by decide +kernel⟩
theorem ok_holds (O : TxOk w K mg base T) : FnM (T.G K) P w mg base 1 T.f_holds T.d_holds ["test", "packet"] m_holds := by
  refine fn_m O.F_holds sc_holds rfl rfl (fun cdv A outer s H E C tk => ?_)
  exact ⟨_, mss_cons (ms_asg (me_var 0) (mg_tup C (mgs_cons (mg_name 2 C.nd) (mgs_cons (mg_name 3 C.nd) (mgs_cons (mg_name 4 C.nd) (mgs_nil)))) (gs_lenS (gs_lenS (gs_lenS gs_len0)))))
    (mss_one (ms_ret (me_cmp (mc_eq gok C (me_and (me_ix gok C (me_var 1) (me_var 2)) (me_var 3)) (me_var 4)))))⟩
theorem sc_meets : FnScope N_meets ["filter_tests", "packet"] (defScope s_meets) := ⟨rfl, rfl, rfl, by decide +kernel, rfl, by decide +kernel, by decide +kernel⟩
theorem ok_meets (O : TxOk w K mg base T) : FnM (T.G K) P w mg base 2 T.f_meets T.d_meets ["filter_tests", "packet"] m_meets := by
  refine fn_m O.F_meets sc_meets rfl rfl (fun cdv A outer s H E C tk => ?_)
  exact ⟨_, mss_one (ms_ret (me_blt (cl_all C) rl_all O.n_all bt_all (ma_cons (me_lc [("test", 2)] C (mi_alt (mi_lst C (me_var 0)) (mi_tup C (me_var 0))) (blkOk_by (N := N_meets) (sc := defScope s_meets) (by decide +kernel)) (fun _ _ _ _ _ C => mg_name 2 C.nd) (fun _ _ _ _ _ C => mts_nil) (fun _ _ _ _ _ C => me_call C (ok_holds O) df_nil (by decide) O.g_holds O.F_holds.kp O.b_holds (ma_cons (me_var 2) (ma_cons (me_var 1) (ma_nil)))) (tgw_name (by decide))) (ma_nil))))⟩
theorem sc__law_enroll : FnScope N__law_enroll ["_law_tape", "_law_net", "_law_regions", "_law_rows", "_law_state"] (defScope s__law_enroll) := ⟨rfl, rfl, rfl, by decide +kernel, rfl, by decide +kernel, by decide +kernel⟩
theorem ok__law_enroll (O : TxOk w K mg base T) : FnM (T.G K) P w mg base 11 T.f__law_enroll T.d__law_enroll ["_law_tape", "_law_net", "_law_regions", "_law_rows", "_law_state"] m__law_enroll := by
  refine fn_m O.F__law_enroll sc__law_enroll rfl rfl (fun cdv A outer s H E C tk => ?_)
  exact ⟨_, mss_cons (ms_asg (me_call C (ok__law_next O) df_nil (by decide) O.g__law_next O.F__law_next.kp O.b__law_next (ma_cons (me_var 0) (ma_cons (me_int) (ma_nil)))) (mg_name 5 C.nd))
    (mss_cons (ms_asg (me_call C (ok__law_filter O) df_nil (by decide) O.g__law_filter O.F__law_filter.kp O.b__law_filter (ma_cons (me_var 0) (ma_cons (me_var 5) (ma_nil)))) (mg_name 6 C.nd))
    (mss_cons (ms_asg (me_call C (ok__law_meets_two O) df_nil (by decide) O.g__law_meets_two O.F__law_meets_two.kp O.b__law_meets_two (ma_cons (me_var 2) (ma_cons (me_var 3) (ma_cons (me_var 5) (ma_cons (me_var 6) (ma_nil)))))) (mg_name 7 C.nd))
    (mss_cons (ms_asg (me_meth C (ok_Net_enroll O) 0 rfl O.cl_Net O.M_Net_enroll df_nil (by decide) O.b_Net_enroll (me_var 1) (ma_cons (me_var 5) (ma_cons (me_var 6) (ma_nil)))) (mg_name 8 C.nd))
    (mss_cons (ms_if (mt_tr C (me_var 7)) (mss_one (ms_ret (me_andV (me_call C (ok_is_packet O) df_nil (by decide) O.g_is_packet O.F_is_packet.kp O.b_is_packet (ma_cons (me_var 8) (ma_nil))) (me_andV (me_call C (ok_meets O) df_nil (by decide) O.g_meets O.F_meets.kp O.b_meets (ma_cons (me_var 6) (ma_cons (me_var 8) (ma_nil)))) (me_one (me_cmp (mc_gt (me_blt (cl_len C) rl_len O.n_len bt_len (ma_cons (me_lc [("_law_one", 9)] C (mi_alt (mi_lst C (me_var 7)) (mi_tup C (me_var 7))) (blkOk_by (N := N__law_enroll) (sc := defScope s__law_enroll) (by decide +kernel)) (fun _ _ _ _ _ C => mg_name 9 C.nd) (fun _ _ _ _ _ C => mts_one (mt_tr C (me_call C (ok_meets O) df_nil (by decide) O.g_meets O.F_meets.kp O.b_meets (ma_cons (me_var 9) (ma_cons (me_var 8) (ma_nil)))))) (fun _ _ _ _ _ C => me_int) (tgw_name (by decide))) (ma_nil))) (me_int)))))))) (mss_nil))
    (mss_cons (ms_subA gok C ia_add (rf_I0 (g := fun i j => i + j)) (me_var 4) (me_int) (me_int))
    (mss_cons (ms_sub gok C (me_var 3) (me_ix gok C (me_var 4) (me_int)) (me_tup (ma_cons (me_var 5) (ma_cons (me_var 6) (ma_cons (me_lst (ma_nil)) (ma_nil))))))
    (mss_one (ms_ret (me_andV (me_isi C .int (by decide) O.n_isinstance O.n_int bt_ty_int (me_var 8)) (me_one (me_cmp (mc_eq gok C (me_var 8) (me_ix gok C (me_var 4) (me_int))))))))))))))⟩
theorem sc_names_found : FnScope N_names_found ["tree", "packet"] (defScope s_names_found) := ⟨rfl, rfl, rfl, by decide +kernel, rfl, by decide +kernel, by decide +kernel⟩
theorem okn_names_found (O : TxOk w K mg base T) : ∀ n : Nat, FnM (T.G K) P w mg base (1 + n) T.f_names_found T.d_names_found ["tree", "packet"] (m_names_found_n n)
  | 0 => fn_none
  | n + 1 => by
    have ih := okn_names_found O n
    refine fn_m (k := 1 + n) O.F_names_found sc_names_found rfl rfl (fun cdv A outer s H E C tk => ?_)
    exact ⟨_, mss_cons (ms_asg (me_var 0) (mg_tup C (mgs_cons (mg_name 2 C.nd) (mgs_cons (mg_name 3 C.nd) (mgs_nil))) (gs_lenS (gs_lenS gs_len0))))
    (mss_cons (ms_asg (me_bty (cl_list C) rl_list O.n_list bt_list (ma_cons (me_var 2) (ma_nil))) (mg_name 4 C.nd))
    (mss_cons (ms_for C (mi_alt (mi_lst C (me_var 3)) (mi_tup C (me_var 3))) (mg_tup C (mgs_cons (mg_name 5 C.nd) (mgs_cons (mg_name 6 C.nd) (mgs_cons (mg_name 7 C.nd) (mgs_nil)))) (gs_lenS (gs_lenS (gs_lenS gs_len0)))) (mss_cons (ms_asg (me_call C (ok_child_of O) df_nil (by omega) O.g_child_of O.F_child_of.kp O.b_child_of (ma_cons (me_var 7) (ma_cons (me_and (me_ix gok C (me_var 1) (me_var 5)) (me_var 6)) (ma_nil)))) (mg_name 8 C.nd))
    (mss_one (ms_if (mt_cmp (mc_notN (me_var 8))) (mss_one (ms_expr (me_bm C PySem.F.slot_list_extend PySem.F.type_list_extend mt_extend rm_extend (me_var 4) (ma_cons (me_call C ih df_nil (by omega) O.g_names_found O.F_names_found.kp O.b_names_found (ma_cons (me_var 8) (ma_cons (me_var 1) (ma_nil)))) (ma_nil))))) (mss_nil)))))
    (mss_one (ms_ret (me_var 4)))))⟩
theorem ok_names_found (O : TxOk w K mg base T) : FnM (T.G K) P w mg base 9 T.f_names_found T.d_names_found ["tree", "packet"] m_names_found := okn_names_found O 8
theorem sc_found : FnScope N_found ["tree", "packet"] (defScope s_found) := ⟨rfl, rfl, rfl, by decide +kernel, rfl, by decide +kernel, by decide +kernel⟩
theorem ok_found (O : TxOk w K mg base T) : FnM (T.G K) P w mg base 10 T.f_found T.d_found ["tree", "packet"] m_found := by
  refine fn_m O.F_found sc_found rfl rfl (fun cdv A outer s H E C tk => ?_)
  exact ⟨_, mss_one (ms_ret (me_blt (cl_sorted2 C) rl_sorted2 O.n_sorted bt_sorted (ma_cons (me_call C (ok_names_found O) df_nil (by decide) O.g_names_found O.F_names_found.kp O.b_names_found (ma_cons (me_var 0) (ma_cons (me_var 1) (ma_nil)))) (ma_nil))))⟩
theorem sc_Net_come : FnScope N_Net_come ["self", "packet"] (defScope s_Net_come) := ⟨rfl, rfl, rfl, by decide +kernel, rfl, by decide +kernel, by decide +kernel⟩
theorem ok_Net_come (O : TxOk w K mg base T) : FnM (T.G K) P w mg base 11 T.f_Net_come T.d_Net_come ["self", "packet"] m_Net_come := by
  refine fn_m O.F_Net_come sc_Net_come rfl rfl (fun cdv A outer s H E C tk => ?_)
  exact ⟨_, mss_cons (ms_if (mt_not (mt_tr C (me_call C (ok_is_packet O) df_nil (by decide) O.g_is_packet O.F_is_packet.kp O.b_is_packet (ma_cons (me_var 1) (ma_nil))))) (mss_one (ms_raise 2 C tk rfl (pmk_own0 PySem.F.excBase_ValueError O.x_NotValid O.gc_NotValid O.kp_NotValid (raises_own O.bs_NotValid O.ty_NotValid) rfl))) (mss_nil))
    (mss_cons (ms_asg (me_call C (ok_found O) df_nil (by decide) O.g_found O.F_found.kp O.b_found (ma_cons (me_fld gok C 4 rfl (me_var 0)) (ma_cons (me_var 1) (ma_nil)))) (mg_name 2 C.nd))
    (mss_cons (ms_if ((mw_or (mt_not (mt_tr C (me_var 2))) (mw_or1 (mt_cmp (mc_ge (me_blt (cl_len C) rl_len O.n_len bt_len (ma_cons (me_ix gok C (me_fld gok C 3 rfl (me_var 0)) (me_ix gok C (me_var 2) (me_int))) (ma_nil))) (me_glob 8 O.k_RING))))).mt) (mss_cons (ms_fldA gok C 0 6 rfl rfl O.na_Net_missed ia_add (rf_I0 (g := fun i j => i + j)) (me_var 0) (me_int))
    (mss_one (ms_ret (me_non)))) (mss_nil))
    (mss_cons (ms_expr (me_bm C PySem.F.slot_list_append PySem.F.type_list_append mt_append rm_append (me_ix gok C (me_fld gok C 3 rfl (me_var 0)) (me_ix gok C (me_var 2) (me_int))) (ma_cons (me_var 1) (ma_nil))))
    (mss_one (ms_ret (me_ix gok C (me_var 2) (me_int)))))))⟩
theorem sc__law_come : FnScope N__law_come ["_law_tape", "_law_net", "_law_rows", "_law_state"] (defScope s__law_come) := ⟨rfl, rfl, rfl, by decide +kernel, rfl, by decide +kernel, by decide +kernel⟩
theorem ok__law_come (O : TxOk w K mg base T) : FnM (T.G K) P w mg base 12 T.f__law_come T.d__law_come ["_law_tape", "_law_net", "_law_rows", "_law_state"] m__law_come := by
  refine fn_m O.F__law_come sc__law_come rfl rfl (fun cdv A outer s H E C tk => ?_)
  exact ⟨_, mss_cons (ms_asg (me_bty (cl_tuple C) rl_tuple O.n_tuple bt_tuple (ma_cons (me_lc [("_law_k", 7)] C (mi_rng1 O.n_range (ma_cons (me_int) (ma_nil))) (blkOk_by (N := N__law_come) (sc := defScope s__law_come) (by decide +kernel)) (fun _ _ _ _ _ C => mg_name 7 C.nd) (fun _ _ _ _ _ C => mts_nil) (fun _ _ _ _ _ C => me_call C (ok__law_next O) df_nil (by decide) O.g__law_next O.F__law_next.kp O.b__law_next (ma_cons (me_var 0) (ma_cons (me_int) (ma_nil)))) (tgw_name (by decide))) (ma_nil))) (mg_name 4 C.nd))
    (mss_cons (ms_setLc 5 [("_law_name", 8)] C (mi_lst C (me_blt (cl_sorted2 C) rl_sorted2 O.n_sorted bt_sorted (ma_cons (me_var 2) (ma_nil)))) (blkOk_by (N := N__law_come) (sc := defScope s__law_come) (by decide +kernel)) (fun _ _ _ _ _ C => mg_name 8 C.nd) (fun _ _ _ _ _ C => mts_one (mt_tr C (me_call C (ok_meets O) df_nil (by decide) O.g_meets O.F_meets.kp O.b_meets (ma_cons (me_ix gok C (me_ix gok C (me_var 2) (me_var 8)) (me_int)) (ma_cons (me_var 4) (ma_nil)))))) (fun _ _ _ _ _ C => me_var 8) (tgw_name (by decide)) (sw_true rfl rfl rfl (by decide +kernel)))
    (mss_cons (ms_asg (me_non) (mg_name 6 C.nd))
    (mss_cons (ms_if ((mw_and (mt_tr C (me_var 5)) (mw_and1 (mt_cmp (mc_lt (me_blt (cl_len C) rl_len O.n_len bt_len (ma_cons (me_ix gok C (me_ix gok C (me_var 2) (me_ix gok C (me_var 5) (me_int))) (me_int)) (ma_nil))) (me_int))))).mt) (mss_cons (ms_asg (me_ix gok C (me_var 5) (me_int)) (mg_name 6 C.nd))
    (mss_one (ms_expr (me_bm C PySem.F.slot_list_append PySem.F.type_list_append mt_append rm_append (me_ix gok C (me_ix gok C (me_var 2) (me_var 6)) (me_int)) (ma_cons (me_var 4) (ma_nil)))))) (mss_one (ms_subA gok C ia_add (rf_I0 (g := fun i j => i + j)) (me_var 3) (me_int) (me_int))))
    (mss_one (ms_ret (me_cmp (mc_eq gok C (me_meth C (ok_Net_come O) 0 rfl O.cl_Net O.M_Net_come df_nil (by decide) O.b_Net_come (me_var 1) (ma_cons (me_var 4) (ma_nil))) (me_var 6))))))))⟩
theorem sc_Net_is_owner : FnScope N_Net_is_owner ["self", "environment", "name"] (defScope s_Net_is_owner) := ⟨rfl, rfl, rfl, by decide +kernel, rfl, by decide +kernel, by decide +kernel⟩
theorem ok_Net_is_owner (O : TxOk w K mg base T) : FnM (T.G K) P w mg base 1 T.f_Net_is_owner T.d_Net_is_owner ["self", "environment", "name"] m_Net_is_owner := by
  refine fn_m O.F_Net_is_owner sc_Net_is_owner rfl rfl (fun cdv A outer s H E C tk => ?_)
  exact ⟨_, mss_one (ms_ret (me_andV (me_cmp (mc_in gok C (me_var 2) (me_fld gok C 2 rfl (me_var 0)))) (me_one (me_cmp (mc_eq gok C (me_ix gok C (me_ix gok C (me_fld gok C 2 rfl (me_var 0)) (me_var 2)) (me_int)) (me_var 1))))))⟩
theorem sc_Net_next : FnScope N_Net_next ["self", "environment", "name"] (defScope s_Net_next) := ⟨rfl, rfl, rfl, by decide +kernel, rfl, by decide +kernel, by decide +kernel⟩
theorem ok_Net_next (O : TxOk w K mg base T) : FnM (T.G K) P w mg base 2 T.f_Net_next T.d_Net_next ["self", "environment", "name"] m_Net_next := by
  refine fn_m O.F_Net_next sc_Net_next rfl rfl (fun cdv A outer s H E C tk => ?_)
  exact ⟨_, mss_cons (ms_if ((mw_or (mt_not (mt_tr C (me_meth C (ok_Net_is_owner O) 0 rfl O.cl_Net O.M_Net_is_owner df_nil (by decide) O.b_Net_is_owner (me_var 0) (ma_cons (me_var 1) (ma_cons (me_var 2) (ma_nil)))))) (mw_or1 (mt_not (mt_tr C (me_ix gok C (me_fld gok C 3 rfl (me_var 0)) (me_var 2)))))).mt) (mss_one (ms_ret (me_non))) (mss_nil))
    (mss_one (ms_ret (me_alt (me_bm C PySem.F.slot_list_pop PySem.F.type_list_pop mt_popAt rm_popAt (me_ix gok C (me_fld gok C 3 rfl (me_var 0)) (me_var 2)) (ma_cons (me_int) (ma_nil))) (me_pop1 gok (me_ix gok C (me_fld gok C 3 rfl (me_var 0)) (me_var 2)) (me_int)))))⟩
theorem sc__law_take : FnScope N__law_take ["_law_tape", "_law_net", "_law_rows"] (defScope s__law_take) := ⟨rfl, rfl, rfl, by decide +kernel, rfl, by decide +kernel, by decide +kernel⟩
theorem ok__law_take (O : TxOk w K mg base T) : FnM (T.G K) P w mg base 3 T.f__law_take T.d__law_take ["_law_tape", "_law_net", "_law_rows"] m__law_take := by
  refine fn_m O.F__law_take sc__law_take rfl rfl (fun cdv A outer s H E C tk => ?_)
  exact ⟨_, mss_cons (ms_asg (me_call C (ok__law_next O) df_nil (by decide) O.g__law_next O.F__law_next.kp O.b__law_next (ma_cons (me_var 0) (ma_cons (me_int) (ma_nil)))) (mg_name 3 C.nd))
    (mss_cons (ms_asg (me_add C (me_int) (me_call C (ok__law_next O) df_nil (by decide) O.g__law_next O.F__law_next.kp O.b__law_next (ma_cons (me_var 0) (ma_cons (me_int) (ma_nil))))) (mg_name 4 C.nd))
    (mss_cons (ms_asg (me_non) (mg_name 5 C.nd))
    (mss_cons (ms_if ((mw_and (mt_cmp (mc_in gok C (me_var 4) (me_var 2))) (mw_and (mt_cmp (mc_eq gok C (me_ix gok C (me_ix gok C (me_var 2) (me_var 4)) (me_int)) (me_var 3))) (mw_and1 (mt_tr C (me_ix gok C (me_ix gok C (me_var 2) (me_var 4)) (me_int)))))).mt) (mss_one (ms_asg (me_alt (me_bm C PySem.F.slot_list_pop PySem.F.type_list_pop mt_popAt rm_popAt (me_ix gok C (me_ix gok C (me_var 2) (me_var 4)) (me_int)) (ma_cons (me_int) (ma_nil))) (me_pop1 gok (me_ix gok C (me_ix gok C (me_var 2) (me_var 4)) (me_int)) (me_int))) (mg_name 5 C.nd))) (mss_nil))
    (mss_one (ms_ret (me_cmp (mc_eq gok C (me_meth C (ok_Net_next O) 0 rfl O.cl_Net O.M_Net_next df_nil (by decide) O.b_Net_next (me_var 1) (ma_cons (me_var 3) (ma_cons (me_var 4) (ma_nil)))) (me_var 5))))))))⟩
theorem sc_Net_send : FnScope N_Net_send ["self", "packet"] (defScope s_Net_send) := ⟨rfl, rfl, rfl, by decide +kernel, rfl, by decide +kernel, by decide +kernel⟩
theorem ok_Net_send (O : TxOk w K mg base T) : FnM (T.G K) P w mg base 4 T.f_Net_send T.d_Net_send ["self", "packet"] m_Net_send := by
  refine fn_m O.F_Net_send sc_Net_send rfl rfl (fun cdv A outer s H E C tk => ?_)
  exact ⟨_, mss_cons (ms_if (mt_not (mt_tr C (me_call C (ok_is_packet O) df_nil (by decide) O.g_is_packet O.F_is_packet.kp O.b_is_packet (ma_cons (me_var 1) (ma_nil))))) (mss_one (ms_raise 2 C tk rfl (pmk_own0 PySem.F.excBase_ValueError O.x_NotValid O.gc_NotValid O.kp_NotValid (raises_own O.bs_NotValid O.ty_NotValid) rfl))) (mss_nil))
    (mss_one (ms_expr (me_bm C PySem.F.slot_list_append PySem.F.type_list_append mt_append rm_append (me_fld gok C 5 rfl (me_var 0)) (ma_cons (me_var 1) (ma_nil)))))⟩
theorem sc_without_filter : FnScope N_without_filter ["tree", "name", "filter_tests"] (defScope s_without_filter) := ⟨rfl, rfl, rfl, by decide +kernel, rfl, by decide +kernel, by decide +kernel⟩
theorem okn_without_filter (O : TxOk w K mg base T) : ∀ n : Nat, FnM (T.G K) P w mg base (1 + n) T.f_without_filter T.d_without_filter ["tree", "name", "filter_tests"] (m_without_filter_n n)
  | 0 => fn_none
  | n + 1 => by
    have ih := okn_without_filter O n
    refine fn_m (k := 1 + n) O.F_without_filter sc_without_filter rfl rfl (fun cdv A outer s H E C tk => ?_)
    exact ⟨_, mss_cons (ms_asg (me_var 0) (mg_tup C (mgs_cons (mg_name 3 C.nd) (mgs_cons (mg_name 4 C.nd) (mgs_nil))) (gs_lenS (gs_lenS gs_len0))))
    (mss_cons (ms_if (mt_not (mt_tr C (me_var 2))) (mss_one (ms_ret (me_tup (ma_cons (me_bty (cl_tuple C) rl_tuple O.n_tuple bt_tuple (ma_cons (me_lc [("one", 10)] C (mi_alt (mi_lst C (me_var 3)) (mi_tup C (me_var 3))) (blkOk_by (N := N_without_filter) (sc := defScope s_without_filter) (by decide +kernel)) (fun _ _ _ _ _ C => mg_name 10 C.nd) (fun _ _ _ _ _ C => mts_one (mt_cmp (mc_ne gok C (me_var 10) (me_var 1)))) (fun _ _ _ _ _ C => me_var 10) (tgw_name (by decide))) (ma_nil))) (ma_cons (me_var 4) (ma_nil)))))) (mss_nil))
    (mss_cons (ms_asg (me_ix gok C (me_var 2) (me_int)) (mg_tup C (mgs_cons (mg_name 5 C.nd) (mgs_cons (mg_name 6 C.nd) (mgs_cons (mg_name 7 C.nd) (mgs_nil)))) (gs_lenS (gs_lenS (gs_lenS gs_len0)))))
    (mss_cons (ms_asg (me_call C (ok_branch_of O) df_nil (by omega) O.g_branch_of O.F_branch_of.kp O.b_branch_of (ma_cons (me_var 4) (ma_cons (me_var 5) (ma_cons (me_var 6) (ma_nil))))) (mg_name 8 C.nd))
    (mss_cons (ms_asg (me_call C (ok_child_of O) df_nil (by omega) O.g_child_of O.F_child_of.kp O.b_child_of (ma_cons (me_var 8) (ma_cons (me_var 7) (ma_nil)))) (mg_name 9 C.nd))
    (mss_cons (ms_if (mt_cmp (mc_isN (me_var 9))) (mss_one (ms_ret (me_var 0))) (mss_nil))
    (mss_cons (ms_asg (me_call C ih df_nil (by omega) O.g_without_filter O.F_without_filter.kp O.b_without_filter (ma_cons (me_var 9) (ma_cons (me_var 1) (ma_cons (me_sl C (me_var 2) (mo_so (me_int)) (mo_no)) (ma_nil))))) (mg_name 9 C.nd))
    (mss_cons (ms_if (mt_cmp (mc_eq gok C (me_var 9) (me_globC C O.k_EMPTY))) (mss_one (ms_asg (me_non) (mg_name 9 C.nd))) (mss_nil))
    (mss_one (ms_ret (me_tup (ma_cons (me_var 3) (ma_cons (me_call C (ok_with_branch O) df_nil (by omega) O.g_with_branch O.F_with_branch.kp O.b_with_branch (ma_cons (me_var 4) (ma_cons (me_var 5) (ma_cons (me_var 6) (ma_cons (me_call C (ok_with_child O) df_nil (by omega) O.g_with_child O.F_with_child.kp O.b_with_child (ma_cons (me_var 8) (ma_cons (me_var 7) (ma_cons (me_var 9) (ma_nil))))) (ma_nil)))))) (ma_nil)))))))))))))⟩
theorem ok_without_filter (O : TxOk w K mg base T) : FnM (T.G K) P w mg base 9 T.f_without_filter T.d_without_filter ["tree", "name", "filter_tests"] m_without_filter := okn_without_filter O 8
theorem sc_Net_give_up : FnScope N_Net_give_up ["self", "environment", "name"] (defScope s_Net_give_up) := ⟨rfl, rfl, rfl, by decide +kernel, rfl, by decide +kernel, by decide +kernel⟩
theorem ok_Net_give_up (O : TxOk w K mg base T) : FnM (T.G K) P w mg base 10 T.f_Net_give_up T.d_Net_give_up ["self", "environment", "name"] m_Net_give_up := by
  refine fn_m O.F_Net_give_up sc_Net_give_up rfl rfl (fun cdv A outer s H E C tk => ?_)
  exact ⟨_, mss_cons (ms_if (mt_not (mt_tr C (me_meth C (ok_Net_is_owner O) 0 rfl O.cl_Net O.M_Net_is_owner df_nil (by decide) O.b_Net_is_owner (me_var 0) (ma_cons (me_var 1) (ma_cons (me_var 2) (ma_nil)))))) (mss_one (ms_ret (me_bl))) (mss_nil))
    (mss_cons (ms_asg (me_alt (me_bm C PySem.F.slot_list_pop PySem.F.type_list_pop mt_popAt rm_popAt (me_fld gok C 2 rfl (me_var 0)) (ma_cons (me_var 2) (ma_nil))) (me_pop1 gok (me_fld gok C 2 rfl (me_var 0)) (me_var 2))) (mg_name 3 C.nd))
    (mss_cons (ms_expr (me_alt (me_bm C PySem.F.slot_list_pop PySem.F.type_list_pop mt_popAt rm_popAt (me_fld gok C 3 rfl (me_var 0)) (ma_cons (me_var 2) (ma_nil))) (me_pop1 gok (me_fld gok C 3 rfl (me_var 0)) (me_var 2))))
    (mss_cons (ms_fld gok C 0 4 rfl rfl O.na_Net_tree (me_var 0) (me_call C (ok_without_filter O) df_nil (by decide) O.g_without_filter O.F_without_filter.kp O.b_without_filter (ma_cons (me_fld gok C 4 rfl (me_var 0)) (ma_cons (me_var 2) (ma_cons (me_ix gok C (me_var 3) (me_int)) (ma_nil))))))
    (mss_one (ms_ret (me_bl))))))⟩
theorem sc_Net_filters : FnScope N_Net_filters ["self"] (defScope s_Net_filters) := ⟨rfl, rfl, rfl, by decide +kernel, rfl, by decide +kernel, by decide +kernel⟩
theorem ok_Net_filters (O : TxOk w K mg base T) : FnM (T.G K) P w mg base 1 T.f_Net_filters T.d_Net_filters ["self"] m_Net_filters := by
  refine fn_m O.F_Net_filters sc_Net_filters rfl rfl (fun cdv A outer s H E C tk => ?_)
  exact ⟨_, mss_one (ms_ret (me_lc [("name", 1)] C (mi_lst C (me_blt (cl_sorted2 C) rl_sorted2 O.n_sorted bt_sorted (ma_cons (me_fld gok C 2 rfl (me_var 0)) (ma_nil)))) (blkOk_by (N := N_Net_filters) (sc := defScope s_Net_filters) (by decide +kernel)) (fun _ _ _ _ _ C => mg_name 1 C.nd) (fun _ _ _ _ _ C => mts_nil) (fun _ _ _ _ _ C => me_tup (ma_cons (me_var 1) (ma_cons (me_ix gok C (me_ix gok C (me_fld gok C 2 rfl (me_var 0)) (me_var 1)) (me_int)) (ma_cons (me_ix gok C (me_ix gok C (me_fld gok C 2 rfl (me_var 0)) (me_var 1)) (me_int)) (ma_nil))))) (tgw_name (by decide))))⟩
theorem sc_Net_lost : FnScope N_Net_lost ["self"] (defScope s_Net_lost) := ⟨rfl, rfl, rfl, by decide +kernel, rfl, by decide +kernel, by decide +kernel⟩
theorem ok_Net_lost (O : TxOk w K mg base T) : FnM (T.G K) P w mg base 1 T.f_Net_lost T.d_Net_lost ["self"] m_Net_lost := by
  refine fn_m O.F_Net_lost sc_Net_lost rfl rfl (fun cdv A outer s H E C tk => ?_)
  exact ⟨_, mss_one (ms_ret (me_fld gok C 6 rfl (me_var 0)))⟩
theorem sc_Net_ring : FnScope N_Net_ring ["self", "name"] (defScope s_Net_ring) := ⟨rfl, rfl, rfl, by decide +kernel, rfl, by decide +kernel, by decide +kernel⟩
theorem ok_Net_ring (O : TxOk w K mg base T) : FnM (T.G K) P w mg base 1 T.f_Net_ring T.d_Net_ring ["self", "name"] m_Net_ring := by
  refine fn_m O.F_Net_ring sc_Net_ring rfl rfl (fun cdv A outer s H E C tk => ?_)
  exact ⟨_, mss_one (ms_ret (me_bty (cl_list C) rl_list O.n_list bt_list (ma_cons (me_get2 gok C (me_fld gok C 3 rfl (me_var 0)) (me_var 1) (me_lst (ma_nil))) (ma_nil))))⟩
theorem sc_Net_sent : FnScope N_Net_sent ["self"] (defScope s_Net_sent) := ⟨rfl, rfl, rfl, by decide +kernel, rfl, by decide +kernel, by decide +kernel⟩
theorem ok_Net_sent (O : TxOk w K mg base T) : FnM (T.G K) P w mg base 1 T.f_Net_sent T.d_Net_sent ["self"] m_Net_sent := by
  refine fn_m O.F_Net_sent sc_Net_sent rfl rfl (fun cdv A outer s H E C tk => ?_)
  exact ⟨_, mss_one (ms_ret (me_bty (cl_list C) rl_list O.n_list bt_list (ma_cons (me_fld gok C 5 rfl (me_var 0)) (ma_nil))))⟩
theorem sc_law : FnScope N_law ["_law_script"] (defScope s_law) := ⟨rfl, rfl, rfl, by decide +kernel, rfl, by decide +kernel, by decide +kernel⟩
theorem ok_law (O : TxOk w K mg base T) : FnM (T.G K) P w mg base 13 T.f_law T.d_law ["_law_script"] m_law := by
  refine fn_m O.F_law sc_law rfl rfl (fun cdv A outer s H E C tk => ?_)
  exact ⟨_, mss_cons (ms_asg (me_lst (ma_cons (me_bty (cl_list C) rl_list O.n_list bt_list (ma_cons (me_var 0) (ma_nil))) (ma_cons (me_int) (ma_cons (me_int) (ma_cons (me_int) (ma_nil)))))) (mg_name 1 C.nd))
    (mss_cons (ms_setLc 2 [("_law_one", 13)] C (mi_rng1 O.n_range (ma_cons (me_int) (ma_nil))) (blkOk_by (N := N_law) (sc := defScope s_law) (by decide +kernel)) (fun _ _ _ _ _ C => mg_name 13 C.nd) (fun _ _ _ _ _ C => mts_nil) (fun _ _ _ _ _ C => me_ix gok C (me_lst (ma_cons (me_non) (ma_cons (me_tup (ma_cons (me_tup (ma_cons (me_int) (ma_cons (me_int) (ma_cons (me_var 13) (ma_nil))))) (ma_nil))) (ma_nil)))) (me_call C (ok__law_next O) df_nil (by decide) O.g__law_next O.F__law_next.kp O.b__law_next (ma_cons (me_var 1) (ma_cons (me_int) (ma_nil))))) (tgw_name (by decide)) (sw_true rfl rfl rfl (by decide +kernel)))
    (mss_cons (ms_asg (me_make C (ok_Net___init__ O) 0 rfl O.cl_Net O.mk_Net df_nil (by decide) O.gc_Net O.b_Net___init__ (ma_cons (me_bty (cl_list C) rl_list O.n_list bt_list (ma_cons (me_var 2) (ma_nil))) (ma_nil))) (mg_name 3 C.nd))
    (mss_cons (ms_if ((mw_or (mt_not (mt_tr C (me_call C (ok__law_refused O) df_nil (by decide) O.g__law_refused O.F__law_refused.kp O.b__law_refused (ma_cons (me_sl C (me_var 2) (mo_so (me_int)) (mo_no)) (ma_nil))))) (mw_or1 (mt_not (mt_tr C (me_call C (ok__law_refused O) df_nil (by decide) O.g__law_refused O.F__law_refused.kp O.b__law_refused (ma_cons (me_lst (ma_cons (me_tup (ma_cons (me_tup (ma_cons (me_int) (ma_cons (me_int) (ma_cons (me_int) (ma_nil))))) (ma_nil))) (ma_cons (me_tup (ma_cons (me_tup (ma_cons (me_int) (ma_cons (me_int) (ma_cons (me_int) (ma_nil))))) (ma_nil))) (ma_cons (me_non) (ma_cons (me_non) (ma_nil)))))) (ma_nil))))))).mt) (mss_one (ms_ret (me_bl))) (mss_nil))
    (mss_cons (ms_asg (me_dict) (mg_name 4 C.nd))
    (mss_cons (ms_asg (me_lst (ma_cons (me_int) (ma_cons (me_int) (ma_nil)))) (mg_name 5 C.nd))
    (mss_cons (ms_asg (me_lst (ma_nil)) (mg_name 6 C.nd))
    (mss_cons (ms_for C (mi_rng1 O.n_range (ma_cons (me_call C (ok__law_next O) df_nil (by decide) O.g__law_next O.F__law_next.kp O.b__law_next (ma_cons (me_var 1) (ma_cons (me_ix gok C (me_lst (ma_cons (me_int) (ma_cons (me_int) (ma_nil)))) (me_call C (ok__law_next O) df_nil (by decide) O.g__law_next O.F__law_next.kp O.b__law_next (ma_cons (me_var 1) (ma_cons (me_int) (ma_nil))))) (ma_nil)))) (ma_nil))) (mg_name 7 C.nd) (mss_cons (ms_asg (me_call C (ok__law_next O) df_nil (by decide) O.g__law_next O.F__law_next.kp O.b__law_next (ma_cons (me_var 1) (ma_cons (me_int) (ma_nil)))) (mg_name 8 C.nd))
    (mss_cons (ms_asg (me_bl) (mg_name 9 C.nd))
    (mss_cons (ms_if (mt_cmp (mc_lt (me_var 8) (me_int))) (mss_one (ms_asg (me_call C (ok__law_enroll O) df_nil (by decide) O.g__law_enroll O.F__law_enroll.kp O.b__law_enroll (ma_cons (me_var 1) (ma_cons (me_var 3) (ma_cons (me_var 2) (ma_cons (me_var 4) (ma_cons (me_var 5) (ma_nil))))))) (mg_name 9 C.nd))) (mss_one (ms_if (mt_cmp (mc_lt (me_var 8) (me_int))) (mss_one (ms_asg (me_call C (ok__law_come O) df_nil (by decide) O.g__law_come O.F__law_come.kp O.b__law_come (ma_cons (me_var 1) (ma_cons (me_var 3) (ma_cons (me_var 4) (ma_cons (me_var 5) (ma_nil)))))) (mg_name 9 C.nd))) (mss_one (ms_if (mt_cmp (mc_eq gok C (me_var 8) (me_int))) (mss_one (ms_asg (me_call C (ok__law_take O) df_nil (by decide) O.g__law_take O.F__law_take.kp O.b__law_take (ma_cons (me_var 1) (ma_cons (me_var 3) (ma_cons (me_var 4) (ma_nil))))) (mg_name 9 C.nd))) (mss_one (ms_if (mt_cmp (mc_eq gok C (me_var 8) (me_int))) (mss_cons (ms_expr (me_bm C PySem.F.slot_list_append PySem.F.type_list_append mt_append rm_append (me_var 6) (ma_cons (me_tup (ma_cons (me_var 7) (ma_cons (me_int) (ma_cons (me_int) (ma_cons (me_int) (ma_cons (me_int) (ma_cons (me_int) (ma_nil)))))))) (ma_nil))))
    (mss_one (ms_expr (me_meth C (ok_Net_send O) 0 rfl O.cl_Net O.M_Net_send df_nil (by decide) O.b_Net_send (me_var 3) (ma_cons (me_ix gok C (me_var 6) (me_neg (me_int))) (ma_nil)))))) (mss_cons (ms_asg (me_call C (ok__law_next O) df_nil (by decide) O.g__law_next O.F__law_next.kp O.b__law_next (ma_cons (me_var 1) (ma_cons (me_int) (ma_nil)))) (mg_name 10 C.nd))
    (mss_cons (ms_asg (me_add C (me_int) (me_call C (ok__law_next O) df_nil (by decide) O.g__law_next O.F__law_next.kp O.b__law_next (ma_cons (me_var 1) (ma_cons (me_int) (ma_nil))))) (mg_name 11 C.nd))
    (mss_cons (ms_asg (me_andV (me_cmp (mc_in gok C (me_var 11) (me_var 4))) (me_one (me_cmp (mc_eq gok C (me_ix gok C (me_ix gok C (me_var 4) (me_var 11)) (me_int)) (me_var 10))))) (mg_name 12 C.nd))
    (mss_cons (ms_if (mt_tr C (me_var 12)) (mss_one (ms_expr (me_alt (me_bm C PySem.F.slot_list_pop PySem.F.type_list_pop mt_popAt rm_popAt (me_var 4) (ma_cons (me_var 11) (ma_nil))) (me_pop1 gok (me_var 4) (me_var 11))))) (mss_nil))
    (mss_one (ms_asg (me_cmp (mc_eq gok C (me_meth C (ok_Net_give_up O) 0 rfl O.cl_Net O.M_Net_give_up df_nil (by decide) O.b_Net_give_up (me_var 3) (ma_cons (me_var 10) (ma_cons (me_var 11) (ma_nil)))) (me_var 12))) (mg_name 9 C.nd))))))))))))))
    (mss_cons (ms_if (mt_not (mt_tr C (me_var 9))) (mss_one (ms_ret (me_bl))) (mss_nil))
    (mss_cons (ms_if ((mw_or (mt_cmp (mc_ne gok C (me_meth0 C (ok_Net_filters O) 0 rfl O.cl_Net O.M_Net_filters df_nil (by decide) O.b_Net_filters (me_var 3)) (me_lc [("_law_name", 11)] C (mi_lst C (me_blt (cl_sorted2 C) rl_sorted2 O.n_sorted bt_sorted (ma_cons (me_var 4) (ma_nil)))) (blkOk_by (N := N_law) (sc := defScope s_law) (by decide +kernel)) (fun _ _ _ _ _ C => mg_name 11 C.nd) (fun _ _ _ _ _ C => mts_nil) (fun _ _ _ _ _ C => me_tup (ma_cons (me_var 11) (ma_cons (me_ix gok C (me_ix gok C (me_var 4) (me_var 11)) (me_int)) (ma_cons (me_ix gok C (me_ix gok C (me_var 4) (me_var 11)) (me_int)) (ma_nil))))) (tgw_name (by decide))))) (mw_or1 (mt_cmp (mc_ne gok C (me_meth0 C (ok_Net_lost O) 0 rfl O.cl_Net O.M_Net_lost df_nil (by decide) O.b_Net_lost (me_var 3)) (me_ix gok C (me_var 5) (me_int)))))).mt) (mss_one (ms_ret (me_bl))) (mss_nil))
    (mss_one (ms_for C (mi_rng2 O.n_range (ma_cons (me_int) (ma_cons (me_int) (ma_nil)))) (mg_name 11 C.nd) (mss_one (ms_if (mt_cmp (mc_ne gok C (me_meth C (ok_Net_ring O) 0 rfl O.cl_Net O.M_Net_ring df_nil (by decide) O.b_Net_ring (me_var 3) (ma_cons (me_var 11) (ma_nil))) (me_if (mt_cmp (mc_in gok C (me_var 11) (me_var 4))) (me_ix gok C (me_ix gok C (me_var 4) (me_var 11)) (me_int)) (me_lst (ma_nil))))) (mss_one (ms_ret (me_bl))) (mss_nil)))))))))))
    (mss_one (ms_ret (me_cmp (mc_eq gok C (me_meth0 C (ok_Net_sent O) 0 rfl O.cl_Net O.M_Net_sent df_nil (by decide) O.b_Net_sent (me_var 3)) (me_var 6))))))))))))⟩
end
end Lw

set_option maxHeartbeats 0
namespace Lw
open PySem L2 PyM
theorem facts {P : Program} {w : World} {K : PySem.W.Frag} {h : PySem.Heap} {mg : Str → Option Value} {f : Addr} (X : K.In h) (G : h.Ns mainGlobals mg) (hfa : mg "law" = some (.ref f)) (c : He.SaysT eFa eFn eTs w K) (cx : eX K = true) :
    ∃ fd : FuncData, (∀ (s : Shared) (v : Value), BindsTo s fd ⟨[v], []⟩ [("_law_script", v)]) ∧ ∀ base : PySem.Heap, K.In base → base.Ns mainGlobals mg → (∀ p ∈ eTf.map (He.cT K), LamX.TabB base mg p.1 p.2) → FnOk P w K mg base (L2.CX P w) 13 f fd ["_law_script"] (spLawT K (eTf.map (He.cT K))) := by
  unfold eX at cx
  obtain ⟨ex0, cx⟩ := He.ba cx
  have ex1 := cx
  obtain ⟨d0, F0⟩ := c.d.def_ 0 (d := ⟨("_law_next", none), "_law_next", "_law_next", defArgs s__law_next, defBody s__law_next, defScope s__law_next, [], []⟩) rfl
  obtain ⟨d1, F1⟩ := c.d.def_ 1 (d := ⟨("is_number", none), "is_number", "is_number", defArgs s_is_number, defBody s_is_number, defScope s_is_number, [], []⟩) rfl
  obtain ⟨d2, F2⟩ := c.d.def_ 2 (d := ⟨("is_word", none), "is_word", "is_word", defArgs s_is_word, defBody s_is_word, defScope s_is_word, [], []⟩) rfl
  obtain ⟨d3, F3⟩ := c.d.def_ 3 (d := ⟨("is_test", none), "is_test", "is_test", defArgs s_is_test, defBody s_is_test, defScope s_is_test, [], []⟩) rfl
  obtain ⟨d4, F4⟩ := c.d.def_ 4 (d := ⟨("is_filter", none), "is_filter", "is_filter", defArgs s_is_filter, defBody s_is_filter, defScope s_is_filter, [], []⟩) rfl
  obtain ⟨d5, F5⟩ := c.d.def_ 5 (d := ⟨("common", none), "common", "common", defArgs s_common, defBody s_common, defScope s_common, [], []⟩) rfl
  obtain ⟨d6, F6⟩ := c.d.def_ 6 (d := ⟨("Net", some "_common_with_regions"), "_common_with_regions", "Net._common_with_regions", defArgs s_Net__common_with_regions, defBody s_Net__common_with_regions, defScope s_Net__common_with_regions, [], []⟩) rfl
  obtain ⟨d7, F7⟩ := c.d.def_ 7 (d := ⟨("Net", some "__init__"), "__init__", "Net.__init__", defArgs s_Net___init__, defBody s_Net___init__, defScope s_Net___init__, [], []⟩) rfl
  obtain ⟨d8, F8⟩ := c.d.def_ 8 (d := ⟨("_law_refused", none), "_law_refused", "_law_refused", defArgs s__law_refused, defBody s__law_refused, defScope s__law_refused, [], []⟩) rfl
  obtain ⟨d9, F9⟩ := c.d.def_ 9 (d := ⟨("_law_filter", none), "_law_filter", "_law_filter", defArgs s__law_filter, defBody s__law_filter, defScope s__law_filter, [], []⟩) rfl
  obtain ⟨d10, F10⟩ := c.d.def_ 10 (d := ⟨("_law_meets_two", none), "_law_meets_two", "_law_meets_two", defArgs s__law_meets_two, defBody s__law_meets_two, defScope s__law_meets_two, [], []⟩) rfl
  obtain ⟨d11, F11⟩ := c.d.def_ 11 (d := ⟨("branch_of", none), "branch_of", "branch_of", defArgs s_branch_of, defBody s_branch_of, defScope s_branch_of, [], []⟩) rfl
  obtain ⟨d12, F12⟩ := c.d.def_ 12 (d := ⟨("child_of", none), "child_of", "child_of", defArgs s_child_of, defBody s_child_of, defScope s_child_of, [], []⟩) rfl
  obtain ⟨d13, F13⟩ := c.d.def_ 13 (d := ⟨("with_branch", none), "with_branch", "with_branch", defArgs s_with_branch, defBody s_with_branch, defScope s_with_branch, [], []⟩) rfl
  obtain ⟨d14, F14⟩ := c.d.def_ 14 (d := ⟨("with_child", none), "with_child", "with_child", defArgs s_with_child, defBody s_with_child, defScope s_with_child, [], []⟩) rfl
  obtain ⟨d15, F15⟩ := c.d.def_ 15 (d := ⟨("with_filter", none), "with_filter", "with_filter", defArgs s_with_filter, defBody s_with_filter, defScope s_with_filter, [], []⟩) rfl
  obtain ⟨d16, F16⟩ := c.d.def_ 16 (d := ⟨("Net", some "enroll"), "enroll", "Net.enroll", defArgs s_Net_enroll, defBody s_Net_enroll, defScope s_Net_enroll, [], []⟩) rfl
  obtain ⟨d17, F17⟩ := c.d.def_ 17 (d := ⟨("is_packet", none), "is_packet", "is_packet", defArgs s_is_packet, defBody s_is_packet, defScope s_is_packet, [], []⟩) rfl
  obtain ⟨d18, F18⟩ := c.d.def_ 18 (d := ⟨("holds", none), "holds", "holds", defArgs s_holds, defBody s_holds, defScope s_holds, [], []⟩) rfl
  obtain ⟨d19, F19⟩ := c.d.def_ 19 (d := ⟨("meets", none), "meets", "meets", defArgs s_meets, defBody s_meets, defScope s_meets, [], []⟩) rfl
  obtain ⟨d20, F20⟩ := c.d.def_ 20 (d := ⟨("_law_enroll", none), "_law_enroll", "_law_enroll", defArgs s__law_enroll, defBody s__law_enroll, defScope s__law_enroll, [], []⟩) rfl
  obtain ⟨d21, F21⟩ := c.d.def_ 21 (d := ⟨("names_found", none), "names_found", "names_found", defArgs s_names_found, defBody s_names_found, defScope s_names_found, [], []⟩) rfl
  obtain ⟨d22, F22⟩ := c.d.def_ 22 (d := ⟨("found", none), "found", "found", defArgs s_found, defBody s_found, defScope s_found, [], []⟩) rfl
  obtain ⟨d23, F23⟩ := c.d.def_ 23 (d := ⟨("Net", some "come"), "come", "Net.come", defArgs s_Net_come, defBody s_Net_come, defScope s_Net_come, [], []⟩) rfl
  obtain ⟨d24, F24⟩ := c.d.def_ 24 (d := ⟨("_law_come", none), "_law_come", "_law_come", defArgs s__law_come, defBody s__law_come, defScope s__law_come, [], []⟩) rfl
  obtain ⟨d25, F25⟩ := c.d.def_ 25 (d := ⟨("Net", some "is_owner"), "is_owner", "Net.is_owner", defArgs s_Net_is_owner, defBody s_Net_is_owner, defScope s_Net_is_owner, [], []⟩) rfl
  obtain ⟨d26, F26⟩ := c.d.def_ 26 (d := ⟨("Net", some "next"), "next", "Net.next", defArgs s_Net_next, defBody s_Net_next, defScope s_Net_next, [], []⟩) rfl
  obtain ⟨d27, F27⟩ := c.d.def_ 27 (d := ⟨("_law_take", none), "_law_take", "_law_take", defArgs s__law_take, defBody s__law_take, defScope s__law_take, [], []⟩) rfl
  obtain ⟨d28, F28⟩ := c.d.def_ 28 (d := ⟨("Net", some "send"), "send", "Net.send", defArgs s_Net_send, defBody s_Net_send, defScope s_Net_send, [], []⟩) rfl
  obtain ⟨d29, F29⟩ := c.d.def_ 29 (d := ⟨("without_filter", none), "without_filter", "without_filter", defArgs s_without_filter, defBody s_without_filter, defScope s_without_filter, [], []⟩) rfl
  obtain ⟨d30, F30⟩ := c.d.def_ 30 (d := ⟨("Net", some "give_up"), "give_up", "Net.give_up", defArgs s_Net_give_up, defBody s_Net_give_up, defScope s_Net_give_up, [], []⟩) rfl
  obtain ⟨d31, F31⟩ := c.d.def_ 31 (d := ⟨("Net", some "filters"), "filters", "Net.filters", defArgs s_Net_filters, defBody s_Net_filters, defScope s_Net_filters, [], []⟩) rfl
  obtain ⟨d32, F32⟩ := c.d.def_ 32 (d := ⟨("Net", some "lost"), "lost", "Net.lost", defArgs s_Net_lost, defBody s_Net_lost, defScope s_Net_lost, [], []⟩) rfl
  obtain ⟨d33, F33⟩ := c.d.def_ 33 (d := ⟨("Net", some "ring"), "ring", "Net.ring", defArgs s_Net_ring, defBody s_Net_ring, defScope s_Net_ring, [], []⟩) rfl
  obtain ⟨d34, F34⟩ := c.d.def_ 34 (d := ⟨("Net", some "sent"), "sent", "Net.sent", defArgs s_Net_sent, defBody s_Net_sent, defScope s_Net_sent, [], []⟩) rfl
  obtain ⟨d35, F35⟩ := c.d.def_ 35 (d := ⟨("law", none), "law", "law", defArgs s_law, defBody s_law, defScope s_law, [], []⟩) rfl
  obtain ⟨tENVIRONMENTS, qENVIRONMENTS⟩ := He.int_ok X G (c.d.fact 55 (f := .int "ENVIRONMENTS" 4) rfl)
  obtain ⟨tFIELDS, qFIELDS⟩ := He.int_ok X G (c.d.fact 56 (f := .int "FIELDS" 6) rfl)
  obtain ⟨tRING, qRING⟩ := He.int_ok X G (c.d.fact 57 (f := .int "RING" 8) rfl)
  obtain ⟨tTOP, qTOP⟩ := He.int_ok X G (c.d.fact 58 (f := .int "TOP" 4294967295) rfl)
  have e := hfa.symm.trans (He.glo_ok X G (c.d.fact 34 (f := .glo "law") rfl))
  cases e
  have b := FunD.bindsA (ps := ["_law_script"]) F35 fun _ _ _ _ _ _ us hl => match us, hl with | [_], _ => rfl
  refine ⟨_, fun s v => b s [v] rfl, fun base _ _ hB => ?_⟩
  have O : TxOk w K mg base {
      c_Net := He.ga K "Net",
      c_SteadError := 0,
      c_NotValid := He.ga K "NotValid",
      f__law_next := He.fAd K ("_law_next", none),
      d__law_next := d0,
      f_is_number := He.fAd K ("is_number", none),
      d_is_number := d1,
      f_is_word := He.fAd K ("is_word", none),
      d_is_word := d2,
      f_is_test := He.fAd K ("is_test", none),
      d_is_test := d3,
      f_is_filter := He.fAd K ("is_filter", none),
      d_is_filter := d4,
      f_common := He.fAd K ("common", none),
      d_common := d5,
      f_Net__common_with_regions := He.fAd K ("Net", some "_common_with_regions"),
      d_Net__common_with_regions := d6,
      f_Net___init__ := He.fAd K ("Net", some "__init__"),
      d_Net___init__ := d7,
      f__law_refused := He.fAd K ("_law_refused", none),
      d__law_refused := d8,
      f__law_filter := He.fAd K ("_law_filter", none),
      d__law_filter := d9,
      f__law_meets_two := He.fAd K ("_law_meets_two", none),
      d__law_meets_two := d10,
      f_branch_of := He.fAd K ("branch_of", none),
      d_branch_of := d11,
      f_child_of := He.fAd K ("child_of", none),
      d_child_of := d12,
      f_with_branch := He.fAd K ("with_branch", none),
      d_with_branch := d13,
      f_with_child := He.fAd K ("with_child", none),
      d_with_child := d14,
      f_with_filter := He.fAd K ("with_filter", none),
      d_with_filter := d15,
      f_Net_enroll := He.fAd K ("Net", some "enroll"),
      d_Net_enroll := d16,
      f_is_packet := He.fAd K ("is_packet", none),
      d_is_packet := d17,
      f_holds := He.fAd K ("holds", none),
      d_holds := d18,
      f_meets := He.fAd K ("meets", none),
      d_meets := d19,
      f__law_enroll := He.fAd K ("_law_enroll", none),
      d__law_enroll := d20,
      f_names_found := He.fAd K ("names_found", none),
      d_names_found := d21,
      f_found := He.fAd K ("found", none),
      d_found := d22,
      f_Net_come := He.fAd K ("Net", some "come"),
      d_Net_come := d23,
      f__law_come := He.fAd K ("_law_come", none),
      d__law_come := d24,
      f_Net_is_owner := He.fAd K ("Net", some "is_owner"),
      d_Net_is_owner := d25,
      f_Net_next := He.fAd K ("Net", some "next"),
      d_Net_next := d26,
      f__law_take := He.fAd K ("_law_take", none),
      d__law_take := d27,
      f_Net_send := He.fAd K ("Net", some "send"),
      d_Net_send := d28,
      f_without_filter := He.fAd K ("without_filter", none),
      d_without_filter := d29,
      f_Net_give_up := He.fAd K ("Net", some "give_up"),
      d_Net_give_up := d30,
      f_Net_filters := He.fAd K ("Net", some "filters"),
      d_Net_filters := d31,
      f_Net_lost := He.fAd K ("Net", some "lost"),
      d_Net_lost := d32,
      f_Net_ring := He.fAd K ("Net", some "ring"),
      d_Net_ring := d33,
      f_Net_sent := He.fAd K ("Net", some "sent"),
      d_Net_sent := d34,
      f_law := He.fAd K ("law", none),
      d_law := d35,
      t_ENVIRONMENTS := tENVIRONMENTS,
      t_FIELDS := tFIELDS,
      t_RING := tRING,
      t_TOP := tTOP,
      cc_with_branch := (He.cT K ("with_branch", none)).1,
      tb_with_branch := (He.cT K ("with_branch", none)).2,
      cc_with_child := (He.cT K ("with_child", none)).1,
      tb_with_child := (He.cT K ("with_child", none)).2 } :=
    { F__law_next := funOf (st := s__law_next) F0,
      b__law_next := (funOf (st := s__law_next) F0).binds (ps := ["_law_tape", "_law_many"]) fun _ _ _ _ _ _ us hl => match us, hl with | [_, _], _ => rfl,
      g__law_next := He.glo_ok X G (c.d.fact 0 (f := .glo "_law_next") rfl),
      F_is_number := funOf (st := s_is_number) F1,
      b_is_number := (funOf (st := s_is_number) F1).binds (ps := ["value"]) fun _ _ _ _ _ _ us hl => match us, hl with | [_], _ => rfl,
      g_is_number := He.glo_ok X G (c.d.fact 1 (f := .glo "is_number") rfl),
      F_is_word := funOf (st := s_is_word) F2,
      b_is_word := (funOf (st := s_is_word) F2).binds (ps := ["value"]) fun _ _ _ _ _ _ us hl => match us, hl with | [_], _ => rfl,
      g_is_word := He.glo_ok X G (c.d.fact 2 (f := .glo "is_word") rfl),
      F_is_test := funOf (st := s_is_test) F3,
      b_is_test := (funOf (st := s_is_test) F3).binds (ps := ["value"]) fun _ _ _ _ _ _ us hl => match us, hl with | [_], _ => rfl,
      g_is_test := He.glo_ok X G (c.d.fact 3 (f := .glo "is_test") rfl),
      F_is_filter := funOf (st := s_is_filter) F4,
      b_is_filter := (funOf (st := s_is_filter) F4).binds (ps := ["value"]) fun _ _ _ _ _ _ us hl => match us, hl with | [_], _ => rfl,
      g_is_filter := He.glo_ok X G (c.d.fact 4 (f := .glo "is_filter") rfl),
      F_common := funOf (st := s_common) F5,
      b_common := (funOf (st := s_common) F5).binds (ps := ["one", "other"]) fun _ _ _ _ _ _ us hl => match us, hl with | [_, _], _ => rfl,
      g_common := He.glo_ok X G (c.d.fact 5 (f := .glo "common") rfl),
      F_Net__common_with_regions := funOf (st := s_Net__common_with_regions) F6,
      b_Net__common_with_regions := (funOf (st := s_Net__common_with_regions) F6).binds (ps := ["self", "environment", "filter_tests"]) fun _ _ _ _ _ _ us hl => match us, hl with | [_, _, _], _ => rfl,
      M_Net__common_with_regions := He.meth_ok (c.d.fact 6 (f := .meth "Net" "_common_with_regions") rfl),
      F_Net___init__ := funOf (st := s_Net___init__) F7,
      b_Net___init__ := (funOf (st := s_Net___init__) F7).binds (ps := ["self", "regions"]) fun _ _ _ _ _ _ us hl => match us, hl with | [_, _], _ => rfl,
      F__law_refused := funOf (st := s__law_refused) F8,
      b__law_refused := (funOf (st := s__law_refused) F8).binds (ps := ["_law_regions"]) fun _ _ _ _ _ _ us hl => match us, hl with | [_], _ => rfl,
      g__law_refused := He.glo_ok X G (c.d.fact 7 (f := .glo "_law_refused") rfl),
      F__law_filter := funOf (st := s__law_filter) F9,
      b__law_filter := (funOf (st := s__law_filter) F9).binds (ps := ["_law_tape", "_law_environment"]) fun _ _ _ _ _ _ us hl => match us, hl with | [_, _], _ => rfl,
      g__law_filter := He.glo_ok X G (c.d.fact 8 (f := .glo "_law_filter") rfl),
      F__law_meets_two := funOf (st := s__law_meets_two) F10,
      b__law_meets_two := (funOf (st := s__law_meets_two) F10).binds (ps := ["_law_regions", "_law_rows", "_law_environment", "_law_filter_tests"]) fun _ _ _ _ _ _ us hl => match us, hl with | [_, _, _, _], _ => rfl,
      g__law_meets_two := He.glo_ok X G (c.d.fact 9 (f := .glo "_law_meets_two") rfl),
      F_branch_of := funOf (st := s_branch_of) F11,
      b_branch_of := (funOf (st := s_branch_of) F11).binds (ps := ["branches", "index", "mask"]) fun _ _ _ _ _ _ us hl => match us, hl with | [_, _, _], _ => rfl,
      g_branch_of := He.glo_ok X G (c.d.fact 10 (f := .glo "branch_of") rfl),
      F_child_of := funOf (st := s_child_of) F12,
      b_child_of := (funOf (st := s_child_of) F12).binds (ps := ["children", "value"]) fun _ _ _ _ _ _ us hl => match us, hl with | [_, _], _ => rfl,
      g_child_of := He.glo_ok X G (c.d.fact 11 (f := .glo "child_of") rfl),
      F_with_branch := funOf (st := s_with_branch) F13,
      b_with_branch := (funOf (st := s_with_branch) F13).binds (ps := ["branches", "index", "mask", "children"]) fun _ _ _ _ _ _ us hl => match us, hl with | [_, _, _, _], _ => rfl,
      g_with_branch := He.glo_ok X G (c.d.fact 12 (f := .glo "with_branch") rfl),
      F_with_child := funOf (st := s_with_child) F14,
      b_with_child := (funOf (st := s_with_child) F14).binds (ps := ["children", "value", "node"]) fun _ _ _ _ _ _ us hl => match us, hl with | [_, _, _], _ => rfl,
      g_with_child := He.glo_ok X G (c.d.fact 13 (f := .glo "with_child") rfl),
      F_with_filter := funOf (st := s_with_filter) F15,
      b_with_filter := (funOf (st := s_with_filter) F15).binds (ps := ["tree", "name", "filter_tests"]) fun _ _ _ _ _ _ us hl => match us, hl with | [_, _, _], _ => rfl,
      g_with_filter := He.glo_ok X G (c.d.fact 14 (f := .glo "with_filter") rfl),
      F_Net_enroll := funOf (st := s_Net_enroll) F16,
      b_Net_enroll := (funOf (st := s_Net_enroll) F16).binds (ps := ["self", "environment", "filter_tests"]) fun _ _ _ _ _ _ us hl => match us, hl with | [_, _, _], _ => rfl,
      M_Net_enroll := He.meth_ok (c.d.fact 15 (f := .meth "Net" "enroll") rfl),
      F_is_packet := funOf (st := s_is_packet) F17,
      b_is_packet := (funOf (st := s_is_packet) F17).binds (ps := ["value"]) fun _ _ _ _ _ _ us hl => match us, hl with | [_], _ => rfl,
      g_is_packet := He.glo_ok X G (c.d.fact 16 (f := .glo "is_packet") rfl),
      F_holds := funOf (st := s_holds) F18,
      b_holds := (funOf (st := s_holds) F18).binds (ps := ["test", "packet"]) fun _ _ _ _ _ _ us hl => match us, hl with | [_, _], _ => rfl,
      g_holds := He.glo_ok X G (c.d.fact 17 (f := .glo "holds") rfl),
      F_meets := funOf (st := s_meets) F19,
      b_meets := (funOf (st := s_meets) F19).binds (ps := ["filter_tests", "packet"]) fun _ _ _ _ _ _ us hl => match us, hl with | [_, _], _ => rfl,
      g_meets := He.glo_ok X G (c.d.fact 18 (f := .glo "meets") rfl),
      F__law_enroll := funOf (st := s__law_enroll) F20,
      b__law_enroll := (funOf (st := s__law_enroll) F20).binds (ps := ["_law_tape", "_law_net", "_law_regions", "_law_rows", "_law_state"]) fun _ _ _ _ _ _ us hl => match us, hl with | [_, _, _, _, _], _ => rfl,
      g__law_enroll := He.glo_ok X G (c.d.fact 19 (f := .glo "_law_enroll") rfl),
      F_names_found := funOf (st := s_names_found) F21,
      b_names_found := (funOf (st := s_names_found) F21).binds (ps := ["tree", "packet"]) fun _ _ _ _ _ _ us hl => match us, hl with | [_, _], _ => rfl,
      g_names_found := He.glo_ok X G (c.d.fact 20 (f := .glo "names_found") rfl),
      F_found := funOf (st := s_found) F22,
      b_found := (funOf (st := s_found) F22).binds (ps := ["tree", "packet"]) fun _ _ _ _ _ _ us hl => match us, hl with | [_, _], _ => rfl,
      g_found := He.glo_ok X G (c.d.fact 21 (f := .glo "found") rfl),
      F_Net_come := funOf (st := s_Net_come) F23,
      b_Net_come := (funOf (st := s_Net_come) F23).binds (ps := ["self", "packet"]) fun _ _ _ _ _ _ us hl => match us, hl with | [_, _], _ => rfl,
      M_Net_come := He.meth_ok (c.d.fact 22 (f := .meth "Net" "come") rfl),
      F__law_come := funOf (st := s__law_come) F24,
      b__law_come := (funOf (st := s__law_come) F24).binds (ps := ["_law_tape", "_law_net", "_law_rows", "_law_state"]) fun _ _ _ _ _ _ us hl => match us, hl with | [_, _, _, _], _ => rfl,
      g__law_come := He.glo_ok X G (c.d.fact 23 (f := .glo "_law_come") rfl),
      F_Net_is_owner := funOf (st := s_Net_is_owner) F25,
      b_Net_is_owner := (funOf (st := s_Net_is_owner) F25).binds (ps := ["self", "environment", "name"]) fun _ _ _ _ _ _ us hl => match us, hl with | [_, _, _], _ => rfl,
      M_Net_is_owner := He.meth_ok (c.d.fact 24 (f := .meth "Net" "is_owner") rfl),
      F_Net_next := funOf (st := s_Net_next) F26,
      b_Net_next := (funOf (st := s_Net_next) F26).binds (ps := ["self", "environment", "name"]) fun _ _ _ _ _ _ us hl => match us, hl with | [_, _, _], _ => rfl,
      M_Net_next := He.meth_ok (c.d.fact 25 (f := .meth "Net" "next") rfl),
      F__law_take := funOf (st := s__law_take) F27,
      b__law_take := (funOf (st := s__law_take) F27).binds (ps := ["_law_tape", "_law_net", "_law_rows"]) fun _ _ _ _ _ _ us hl => match us, hl with | [_, _, _], _ => rfl,
      g__law_take := He.glo_ok X G (c.d.fact 26 (f := .glo "_law_take") rfl),
      F_Net_send := funOf (st := s_Net_send) F28,
      b_Net_send := (funOf (st := s_Net_send) F28).binds (ps := ["self", "packet"]) fun _ _ _ _ _ _ us hl => match us, hl with | [_, _], _ => rfl,
      M_Net_send := He.meth_ok (c.d.fact 27 (f := .meth "Net" "send") rfl),
      F_without_filter := funOf (st := s_without_filter) F29,
      b_without_filter := (funOf (st := s_without_filter) F29).binds (ps := ["tree", "name", "filter_tests"]) fun _ _ _ _ _ _ us hl => match us, hl with | [_, _, _], _ => rfl,
      g_without_filter := He.glo_ok X G (c.d.fact 28 (f := .glo "without_filter") rfl),
      F_Net_give_up := funOf (st := s_Net_give_up) F30,
      b_Net_give_up := (funOf (st := s_Net_give_up) F30).binds (ps := ["self", "environment", "name"]) fun _ _ _ _ _ _ us hl => match us, hl with | [_, _, _], _ => rfl,
      M_Net_give_up := He.meth_ok (c.d.fact 29 (f := .meth "Net" "give_up") rfl),
      F_Net_filters := funOf (st := s_Net_filters) F31,
      b_Net_filters := (funOf (st := s_Net_filters) F31).binds (ps := ["self"]) fun _ _ _ _ _ _ us hl => match us, hl with | [_], _ => rfl,
      M_Net_filters := He.meth_ok (c.d.fact 30 (f := .meth "Net" "filters") rfl),
      F_Net_lost := funOf (st := s_Net_lost) F32,
      b_Net_lost := (funOf (st := s_Net_lost) F32).binds (ps := ["self"]) fun _ _ _ _ _ _ us hl => match us, hl with | [_], _ => rfl,
      M_Net_lost := He.meth_ok (c.d.fact 31 (f := .meth "Net" "lost") rfl),
      F_Net_ring := funOf (st := s_Net_ring) F33,
      b_Net_ring := (funOf (st := s_Net_ring) F33).binds (ps := ["self", "name"]) fun _ _ _ _ _ _ us hl => match us, hl with | [_, _], _ => rfl,
      M_Net_ring := He.meth_ok (c.d.fact 32 (f := .meth "Net" "ring") rfl),
      F_Net_sent := funOf (st := s_Net_sent) F34,
      b_Net_sent := (funOf (st := s_Net_sent) F34).binds (ps := ["self"]) fun _ _ _ _ _ _ us hl => match us, hl with | [_], _ => rfl,
      M_Net_sent := He.meth_ok (c.d.fact 33 (f := .meth "Net" "sent") rfl),
      F_law := funOf (st := s_law) F35,
      b_law := (funOf (st := s_law) F35).binds (ps := ["_law_script"]) fun _ _ _ _ _ _ us hl => match us, hl with | [_], _ => rfl,
      g_law := He.glo_ok X G (c.d.fact 34 (f := .glo "law") rfl),
      cl_Net := He.cls_ok (c.d.fact 35 (f := .cls "Net") rfl),
      gc_Net := He.glo_ok X G (c.d.fact 36 (f := .glo "Net") rfl),
      mk_Net := He.mkr_ok (c.d.fact 37 (f := .mkr "Net") rfl),
      na_Net_gone := He.noat_ok (c.d.fact 38 (f := .noat "Net" "gone") rfl),
      na_Net_made := He.noat_ok (c.d.fact 39 (f := .noat "Net" "made") rfl),
      na_Net_missed := He.noat_ok (c.d.fact 40 (f := .noat "Net" "missed") rfl),
      na_Net_regions := He.noat_ok (c.d.fact 41 (f := .noat "Net" "regions") rfl),
      na_Net_rings := He.noat_ok (c.d.fact 42 (f := .noat "Net" "rings") rfl),
      na_Net_rows := He.noat_ok (c.d.fact 43 (f := .noat "Net" "rows") rfl),
      na_Net_tree := He.noat_ok (c.d.fact 44 (f := .noat "Net" "tree") rfl),
      n_abs := He.free_ok X G (c.d.fact 45 (f := .free "abs") rfl),
      n_all := He.free_ok X G (c.d.fact 46 (f := .free "all") rfl),
      n_bool := He.free_ok X G (c.d.fact 47 (f := .free "bool") rfl),
      n_int := He.free_ok X G (c.d.fact 48 (f := .free "int") rfl),
      n_isinstance := He.free_ok X G (c.d.fact 49 (f := .free "isinstance") rfl),
      n_len := He.free_ok X G (c.d.fact 50 (f := .free "len") rfl),
      n_list := He.free_ok X G (c.d.fact 51 (f := .free "list") rfl),
      n_range := He.free_ok X G (c.d.fact 52 (f := .free "range") rfl),
      n_sorted := He.free_ok X G (c.d.fact 53 (f := .free "sorted") rfl),
      n_tuple := He.free_ok X G (c.d.fact 54 (f := .free "tuple") rfl),
      k_EMPTY := ktB_ok X G (ex0),
      k_ENVIRONMENTS := qENVIRONMENTS,
      k_FIELDS := qFIELDS,
      k_RING := qRING,
      k_TOP := qTOP,
      gc_NotValid := He.glo_ok X G (c.d.fact 59 (f := .glo "NotValid") rfl),
      x_NotValid := (He.exc_ok (c.d.fact 60 (f := .exc "NotValid") rfl)).1,
      kp_NotValid := (He.exc_ok (c.d.fact 60 (f := .exc "NotValid") rfl)).2.1,
      bs_NotValid := (He.exc_ok (c.d.fact 60 (f := .exc "NotValid") rfl)).2.2.1,
      ty_NotValid := (He.exc_ok (c.d.fact 60 (f := .exc "NotValid") rfl)).2.2.2,
      ex_NotValid := He.exm_ok (c.d.fact 61 (f := .exm "NotValid" "NotValid" true) rfl),
      C_with_branch := code_ofL (p := ("with_branch", none)) F13,
      B_with_branch := hB (He.cT K ("with_branch", none)) (by exact .head _),
      C_with_child := code_ofL (p := ("with_child", none)) F14,
      B_with_child := hB (He.cT K ("with_child", none)) (by exact .tail _ (.head _)),
      nd_tb := of_decide_eq_true (ex1) }
  exact law_ofT (ok_law (P := P) (w := w) (base := base) O) law_true rfl
end Lw
open PySem PySem.W PySem.Calls PyProof.Rows
theorem PySem.Challenge.cw_steadhold_k36_rings_and_regions_of_the_n_holds : PySem.Challenge.rw_steadhold_k36_rings_and_regions_of_the_n.Holds := by
  w_on; o_law
  refine HandSHeadRun.head_any (r := OpenLaw.row PySem.Challenge.rw_steadhold_k36_rings_and_regions_of_the_n) (q := Lw.eQ) (H := Lw.eH) (ob := Lw.eO) (M := 12000) (loose := Lw.eNm) (d := HandSHeadRun.topDef (OpenLaw.row PySem.Challenge.rw_steadhold_k36_rings_and_regions_of_the_n).prog 38) (kwd := []) Lw.eO_eq
    (by kernel_rfl) (fun s => by kernel_rfl) Lw.run_w (by kernel_rfl) (by kernel_rfl) (by kernel_rfl) (by rfl) (by first | assumption | decide +kernel) (by decide +kernel) ⟨rfl, rfl, rfl, rfl, rfl, by decide +kernel⟩ ?hw ?hc
  case hw => w_witness2
  case hc =>
    refine LamX.walk_ofTsE (l := PySem.Challenge.rw_steadhold_k36_rings_and_regions_of_the_n) (n := 63) (k := 13) (x := "_law_script") (CX := fun w => L2.CX (PySem.Challenge.rw_steadhold_k36_rings_and_regions_of_the_n).prog w) rfl (by decide) (by kernel_rfl) ⟨rfl, by decide, by decide⟩ ?F (fun _ _ _ _ _ z => by
      obtain ⟨_, _, _, _, _, _, _, _, _, _, _, _, z⟩ := z
      exact z)
    intro w mg fa h Y G hmg0
    obtain ⟨K, KX, c⟩ := Y
    have hmg : mg ("law" : PySem.Str) = some (.ref fa) := by
      have e : (HandSHeadRun.topDef (OpenLaw.row PySem.Challenge.rw_steadhold_k36_rings_and_regions_of_the_n).prog 38).name = ("law" : PySem.Str) := by kernel_rfl
      rw [← e]
      exact hmg0
    obtain ⟨fd, hb, hF⟩ := Lw.facts (P := (PySem.Challenge.rw_steadhold_k36_rings_and_regions_of_the_n).prog) (w := w) KX G hmg c.t c.more
    have at_ : ∀ p ∈ Lw.eTf.map (He.cT K), ∃ q ∈ Lw.eTf, p = He.cT K q := fun p hp => by
      obtain ⟨q, hq, e⟩ := List.mem_map.mp hp
      exact ⟨q, hq, e.symm⟩
    exact ⟨K, KX, fd, Lw.eTf.map (He.cT K), PyM.spLawT K (Lw.eTf.map (He.cT K)), fun p hp => by
      obtain ⟨q, hq, rfl⟩ := at_ p hp
      exact c.empty q hq, fun p hp => by
      obtain ⟨q, hq, rfl⟩ := at_ p hp
      exact c.out q hq, fun p hp => by
      obtain ⟨q, hq, rfl⟩ := at_ p hp
      exact PySem.W.codeHd_of_K KX (c.hd q hq), hb, fun H a ns hl _ hcs hS => ⟨a, ns, rfl, hl, hcs, hS, fun _ => rfl⟩, hF⟩
