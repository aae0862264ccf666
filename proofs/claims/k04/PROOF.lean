import PyProof.Rows.All
import Wide.All
import OpenK.AllK
import Wide.FinOn
import HandS.ForMost
import HandS.Exc
import HandS.TryOnly
import HandS.ExcOwn
import HandS.WordsExc
import HandS.TupAny
import HandS.Deep
import HandS.Lambda
import HandS.Words
import HandS.Defaults
import HandS.Head0
import HandS.Head1
import HandS.Head2
import HandS.HeadEnd
import HandS.HeadHook1
import HandS.HeadHook2
import HandS.HeadHook3
import HandS.TupMul
import HandS.IsInst
import HandS.Small
import HandS.SortInts
import HandS.TupLe
import HandS.More
import HandS.Style
import PyProof.DictMoreH
import HandS.DictTup
import HandS.SetFor
import HandS.Flow
import HandS.Text
import KE.KEqDict
import PyProof.NeKinds
import HandS.Conv
import HandS.Wide
import HandS.DictComp
import KE.KDictPairs
import KE.KDictList
import PyProof.DictValues
import HandS.Zip
import KE.KDictDisplayH
import HandS.DictEq
import KE.KDictCopyH
import KE.KDictOf
import PySem.Challenge.RW_steadhold_k04_trees
set_option Elab.async false
set_option linter.all false
set_option maxRecDepth 100000
set_option autoImplicit false
/-! PyM: a plain model of the program: values, heap, results; and how it stands to the layer's readings. -/
namespace PyM
open PySem L2

inductive Val where
  | non | bl (b : Bool) | int (i : Int) | str (n : Nat) | tup (xs : List Val) | ref (n : Nat)
inductive Obj where
  | lst (xs : List Val) | fls (xs : List Val) | dct (kvs : List (Val × Val)) | dcT (kvs : List (Val × Val)) | fdc (kvs : List (Val × Val)) | fdT (kvs : List (Val × Val)) | tpl (xs : List Val) | ins (c : Nat) (fs : List (Nat × Val))
abbrev Heap := List Obj
inductive Res (α : Type) where
  | ok (a : α) (h : Heap) | raised (c : Nat) (h : Heap) | stuck
abbrev En := List (Option Val)
inductive RS where
  | nx (s : En) (h : Heap) | rt (v : Val) (h : Heap) | bk (s : En) (h : Heap) | ct (s : En) (h : Heap) | raised (c : Nat) (h : Heap) | stuck

structure Cfg where
  K : PySem.W.Frag
  cls : List Addr
  nms : List Str
  sts : List Str
  tbs : List (Addr × Str) := []
  tk : Bool := false
/-- a tuple; where tk is set: one that was made here -/
def TQ (G : Cfg) (H : Hp) (a : Addr) (vs : List V) : Prop := SqT G.K H a vs ∧ (G.tk = true → H a = some (.tup vs))
theorem TQ.of {G : Cfg} {H : Hp} {a : Addr} {vs : List V} (h : H a = some (.tup vs)) : TQ G H a vs := ⟨SqT.of h, fun _ => h⟩

section
variable (G : Cfg) (r : List Addr) (H : Hp)
mutual
inductive VR : Val → V → Prop
  | non : VR .non .non
  | bl (b : Bool) : VR (.bl b) (.bl b)
  | int (i : Int) : VR (.int i) (.int i)
  | str {n : Nat} {x : Str} : G.sts[n]? = some x → VR (.str n) (.str x)
  | tup {xs : List Val} {vs : List V} {a : Addr} : TQ G H a vs → VRs xs vs → VR (.tup xs) (.ref a)
  | ref {n : Nat} {a : Addr} : r[n]? = some a → VR (.ref n) (.ref a)
inductive VRs : List Val → List V → Prop
  | nil : VRs [] []
  | cons {x : Val} {v : V} {xs : List Val} {vs : List V} : VR x v → VRs xs vs → VRs (x :: xs) (v :: vs)
end
/-- slots -/
inductive SR : En → St → Prop
  | nil : SR [] []
  | no {o : Option V} {s : En} {t : St} : SR s t → SR (none :: s) (o :: t)
  | so {x : Val} {v : V} {s : En} {t : St} : VR G r H x v → SR s t → SR (some x :: s) (some v :: t)
inductive FR (C : Addr) : List (Nat × Val) → List (Str × V) → Prop
  | nil : FR C [] []
  | cons {f : Nat} {z : Str} {x : Val} {v : V} {fs gs} : G.nms[f]? = some z → NoAttr G.K C z → VR G r H x v → FR C fs gs → FR C ((f, x) :: fs) ((z, v) :: gs)
/-- keys of a dict -/
inductive KR : Val → Key → Prop
  | int (i : Int) : KR (.int i) (.inl i)
  | str {n : Nat} {x : Str} : G.sts[n]? = some x → KR (.str n) (.inr x)
inductive KRs : List Val → List Key → Prop
  | nil : KRs [] []
  | cons {x k xs ks} : KR G x k → KRs xs ks → KRs (x :: xs) (k :: ks)
inductive DR : List (Val × Val) → List (Key × V) → Prop
  | nil : DR [] []
  | cons {k x : Val} {q : Key} {v : V} {d e} : KR G k q → VR G r H x v → DR d e → DR ((k, x) :: d) ((q, v) :: e)
inductive DTR : List (Val × Val) → List (List Key × V) → Prop
  | nil : DTR [] []
  | cons {ks : List Val} {x : Val} {qs : List Key} {v : V} {d e} : KRs G ks qs → VR G r H x v → DTR d e → DTR ((.tup ks, x) :: d) ((qs, v) :: e)
/-- a list that is read alone: the script's -/
def FL (K : PySem.W.Frag) (H : Hp) (a : Addr) (xs : List V) : Prop := (∃ o, H a = some (.frz o (.lst xs))) ∨
  ∃ (o : PySem.Obj) (its : Array Value) (n : Nat), K.lookup a = some o ∧ o.cls = .type "list" ∧ o.dict = none ∧ o.data = .seq its n ∧ its.size ≤ sizeLine ∧ Vals xs its.toList
def isFls : Obj → Bool
  | .fls _ => true
  | _ => false
inductive OR : Obj → Addr → Prop
  | lst {xs vs a} : H a = some (.lst vs) → VRs G r H xs vs → OR (.lst xs) a
  | fls {xs vs a} : FL G.K H a vs → VRs G r H xs vs → OR (.fls xs) a
  | dct {d e a} : H a = some (.dK e) → DR G r H d e → OR (.dct d) a
  | dcT {d e a} : H a = some (.dT e) → DTR G r H d e → OR (.dcT d) a
  | fdc {d e o a} : H a = some (.frz o (.dK e)) → DR G r H d e → OR (.fdc d) a
  | fdT {d e o a} : H a = some (.frz o (.dT e)) → DTR G r H d e → OR (.fdT d) a
  | tpl {xs vs o a} : H a = some (.frz o (.tup vs)) → o.dict = none → VRs G r H xs vs → OR (.tpl xs) a
  | ins {c C dx fs gs a} : G.cls[c]? = some C → Cls G.K C → H a = some (.ins C dx gs) → FR G r H C fs gs → OR (.ins c fs) a
structure HR (h : Heap) : Prop where
  len : r.length = h.length
  nd : ∀ (i j : Nat) (a : Addr) (x y : Obj), h[i]? = some x → h[j]? = some y → r[i]? = some a → r[j]? = some a → isFls x = false → isFls y = false → i = j
  ob : ∀ (n : Nat) (o : Obj) (a : Addr), h[n]? = some o → r[n]? = some a → OR G r H o a
  tb : LamX.Tabs G.tbs H
end

/-- tuples stay -/
structure Stp (K : PySem.W.Frag) (r : List Addr) (H : Hp) (r' : List Addr) (H' : Hp) : Prop where
  pre : ∀ (n : Nat) (a : Addr), r[n]? = some a → r'[n]? = some a
  tup : ∀ a xs, SqT K H a xs → SqT K H' a xs
  frl : ∀ a o xs, H a = some (.frz o xs) → H' a = some (.frz o xs)
  tpl : ∀ a xs, H a = some (.tup xs) → H' a = some (.tup xs)
theorem Stp.refl {K : PySem.W.Frag} {r : List Addr} {H : Hp} : Stp K r H r H := ⟨fun _ _ h => h, fun _ _ h => h, fun _ _ _ h => h, fun _ _ h => h⟩
theorem Stp.trans {K : PySem.W.Frag} {r r1 r2 : List Addr} {H H1 H2 : Hp} (a : Stp K r H r1 H1) (b : Stp K r1 H1 r2 H2) : Stp K r H r2 H2 :=
  ⟨fun n x h => b.pre n x (a.pre n x h), fun x xs h => b.tup x xs (a.tup x xs h), fun x o xs h => b.frl x o xs (a.frl x o xs h), fun x xs h => b.tpl x xs (a.tpl x xs h)⟩

/-- .. weaker: a dict may be unlocked -/
structure Stw (K : PySem.W.Frag) (r : List Addr) (H : Hp) (r' : List Addr) (H' : Hp) : Prop where
  pre : ∀ (n : Nat) (a : Addr), r[n]? = some a → r'[n]? = some a
  tup : ∀ a xs, SqT K H a xs → SqT K H' a xs
  frl : ∀ a o xs, H a = some (.frz o (.lst xs)) → H' a = some (.frz o (.lst xs))
  tpl : ∀ a xs, H a = some (.tup xs) → H' a = some (.tup xs)
theorem Stp.w {K : PySem.W.Frag} {r r' : List Addr} {H H' : Hp} (s : Stp K r H r' H') : Stw K r H r' H' := ⟨s.pre, s.tup, fun a o xs h => s.frl a o _ h, s.tpl⟩

section
variable {G : Cfg} {r r' : List Addr} {H H' : Hp}
mutual
theorem VR.monow (q : Stw G.K r H r' H') : ∀ (x : Val) (v : V), VR G r H x v → VR G r' H' x v
  | .non, _, .non => .non
  | .bl _, _, .bl b => .bl b
  | .int _, _, .int b => .int b
  | .str _, _, .str e => .str e
  | .tup xs, _, .tup e k => .tup ⟨q.tup _ _ e.1, fun z => q.tpl _ _ (e.2 z)⟩ (VRs.monow q xs _ k)
  | .ref _, _, .ref e => .ref (q.pre _ _ e)
theorem VRs.monow (q : Stw G.K r H r' H') : ∀ (xs : List Val) (vs : List V), VRs G r H xs vs → VRs G r' H' xs vs
  | [], _, .nil => .nil
  | x :: xs, _, .cons a b => .cons (VR.monow q x _ a) (VRs.monow q xs _ b)
end
theorem SR.monow (q : Stw G.K r H r' H') {s t} (a : SR G r H s t) : SR G r' H' s t := by
  induction a with
  | nil => exact .nil
  | no _ ih => exact .no ih
  | so x _ ih => exact .so (x.monow q) ih
theorem FR.monow (q : Stw G.K r H r' H') {C s t} (a : FR G r H C s t) : FR G r' H' C s t := by
  induction a with
  | nil => exact .nil
  | cons a b c _ ih => exact .cons a b (c.monow q) ih
theorem DR.monow (q : Stw G.K r H r' H') {s t} (a : DR G r H s t) : DR G r' H' s t := by
  induction a with
  | nil => exact .nil
  | cons a c _ ih => exact .cons a (c.monow q) ih
theorem DTR.monow (q : Stw G.K r H r' H') {s t} (a : DTR G r H s t) : DTR G r' H' s t := by
  induction a with
  | nil => exact .nil
  | cons a c _ ih => exact .cons a (c.monow q) ih
theorem FL.sq {K : PySem.W.Frag} {a : Addr} {xs : List V} (f : FL K H a xs) : SqL K H a xs := f.elim (fun q => .inl (.inr q)) .inr
theorem FL.monow (q : Stw G.K r H r' H') {a : Addr} {xs : List V} (f : FL G.K H a xs) : FL G.K H' a xs := f.elim (fun ⟨o, e⟩ => .inl ⟨o, q.frl _ _ _ e⟩) .inr
/-- an object that stands where it stood -/
theorem OR.monow (q : Stw G.K r H r' H') {o a} (x : OR G r H o a) (h : isFls o = false → ∀ u, H a = some u → H' a = some u) : OR G r' H' o a := by
  cases x with
  | lst e k => exact .lst (h rfl _ e) (k.monow q)
  | fls e k => exact .fls (e.monow q) (k.monow q)
  | dct e k => exact .dct (h rfl _ e) (k.monow q)
  | dcT e k => exact .dcT (h rfl _ e) (k.monow q)
  | fdc e k => exact .fdc (h rfl _ e) (k.monow q)
  | fdT e k => exact .fdT (h rfl _ e) (k.monow q)
  | tpl e n k => exact .tpl (h rfl _ e) n (k.monow q)
  | ins a b e k => exact .ins a b (h rfl _ e) (k.monow q)
theorem VR.mono (q : Stp G.K r H r' H') : ∀ (x : Val) (v : V), VR G r H x v → VR G r' H' x v := VR.monow q.w
theorem VRs.mono (q : Stp G.K r H r' H') : ∀ (xs : List Val) (vs : List V), VRs G r H xs vs → VRs G r' H' xs vs := VRs.monow q.w
theorem SR.mono (q : Stp G.K r H r' H') {s t} (a : SR G r H s t) : SR G r' H' s t := a.monow q.w
theorem FR.mono (q : Stp G.K r H r' H') {C s t} (a : FR G r H C s t) : FR G r' H' C s t := a.monow q.w
theorem DR.mono (q : Stp G.K r H r' H') {s t} (a : DR G r H s t) : DR G r' H' s t := a.monow q.w
theorem DTR.mono (q : Stp G.K r H r' H') {s t} (a : DTR G r H s t) : DTR G r' H' s t := a.monow q.w
theorem FL.mono (q : Stp G.K r H r' H') {a : Addr} {xs : List V} (f : FL G.K H a xs) : FL G.K H' a xs := f.monow q.w
theorem OR.mono (q : Stp G.K r H r' H') {o a} (x : OR G r H o a) (h : isFls o = false → ∀ u, H a = some u → H' a = some u) : OR G r' H' o a := x.monow q.w h
theorem OR.there {o a} (x : OR G r H o a) (f : isFls o = false) : ∃ u, H a = some u := by
  cases x with
  | lst e k => exact ⟨_, e⟩
  | fls e k => cases f
  | dct e k => exact ⟨_, e⟩
  | dcT e k => exact ⟨_, e⟩
  | fdc e k => exact ⟨_, e⟩
  | fdT e k => exact ⟨_, e⟩
  | tpl e n k => exact ⟨_, e⟩
  | ins a b e k => exact ⟨_, e⟩

theorem OR.plain {o a} (x : OR G r H o a) (f : isFls o = false) : ∀ u, H a = some u → (∀ ps, u ≠ .tbl ps) ∧ ∀ φ, u ≠ .ext φ := by
  intro u hu
  have key : ∀ w, H a = some w → ((∀ ps, w ≠ .tbl ps) ∧ ∀ φ, w ≠ .ext φ) → (∀ ps, u ≠ .tbl ps) ∧ ∀ φ, u ≠ .ext φ := fun w e z => by
    rw [e] at hu
    cases hu
    exact z
  cases x with
  | lst e k => exact key _ e ⟨fun _ z => (nomatch z), fun _ z => (nomatch z)⟩
  | fls e k => cases f
  | dct e k => exact key _ e ⟨fun _ z => (nomatch z), fun _ z => (nomatch z)⟩
  | dcT e k => exact key _ e ⟨fun _ z => (nomatch z), fun _ z => (nomatch z)⟩
  | fdc e k => exact key _ e ⟨fun _ z => (nomatch z), fun _ z => (nomatch z)⟩
  | fdT e k => exact key _ e ⟨fun _ z => (nomatch z), fun _ z => (nomatch z)⟩
  | tpl e n k => exact key _ e ⟨fun _ z => (nomatch z), fun _ z => (nomatch z)⟩
  | ins a b e k => exact key _ e ⟨fun _ z => (nomatch z), fun _ z => (nomatch z)⟩
/-- the tables stay where something else is written -/
theorem tabs_upd {T : List (Addr × Str)} {a : Addr} {u : HO} (t : LamX.Tabs T H) (h : ∀ w, H a = some w → (∀ ps, w ≠ .tbl ps) ∧ ∀ φ, w ≠ .ext φ) : LamX.Tabs T (upd H a u) := fun p hp => by
  obtain ⟨ps, h1, h2, h3⟩ := t p hp
  refine ⟨ps, ?_, h2, fun pos cv hc => ?_⟩
  · rw [upd_ne (fun e => (h _ (by rw [← e]; exact h1)).1 ps rfl)]
    exact h1
  · obtain ⟨c, e1, e2⟩ := h3 pos cv hc
    refine ⟨c, e1, ?_⟩
    rw [upd_ne (fun e => (h _ (by rw [← e]; exact e2)).2 _ rfl)]
    exact e2
theorem tabs_new {T : List (Addr × Str)} {a : Addr} {u : HO} (t : LamX.Tabs T H) (h : H a = none) : LamX.Tabs T (upd H a u) := tabs_upd t fun w e => by
  rw [h] at e
  cases e

theorem HR.at {h : Heap} (R : HR G r H h) {n : Nat} {o : Obj} (e : h[n]? = some o) : ∃ a, r[n]? = some a ∧ OR G r H o a := by
  have hl : n < r.length := by
    rw [R.len]
    exact (List.getElem?_eq_some_iff.mp e).1
  exact ⟨r[n], List.getElem?_eq_getElem hl, R.ob n o _ e (List.getElem?_eq_getElem hl)⟩

/-- tuples and what is frozen stay, where what is written is another thing -/
def NotT : HO → Prop
  | .tup _ => False
  | .frz _ _ => False
  | _ => True
theorem notT_ne {a b : Addr} {o : HO} (hn : ∀ o, H a = some o → NotT o) (h : H b = some o) (hf : ¬ NotT o) : b ≠ a := fun e => by
  subst e
  exact hf (hn _ h)
theorem sqt_upd {K : PySem.W.Frag} {a b : Addr} {u : HO} {xs : List V} (hn : ∀ o, H a = some o → NotT o) (h : SqT K H b xs) : SqT K (upd H a u) b xs := by
  rcases h with (h | ⟨o, h⟩) | h
  · exact .inl (.inl (by rw [upd_ne (notT_ne hn h (fun z => z))]; exact h))
  · exact .inl (.inr ⟨o, by rw [upd_ne (notT_ne hn h (fun z => z))]; exact h⟩)
  · exact .inr h
theorem Stp.upd {K : PySem.W.Frag} {a : Addr} {u : HO} (hn : ∀ o, H a = some o → NotT o) : Stp K r H r (upd H a u) := ⟨fun _ _ h => h, fun _ _ h => sqt_upd hn h, fun b o xs h => by rw [upd_ne (notT_ne hn h (fun z => z))]; exact h, fun b xs h => by rw [upd_ne (notT_ne hn h (fun z => z))]; exact h⟩
theorem notT_none {a : Addr} (hn : H a = none) : ∀ o, H a = some o → NotT o := fun o e => by rw [hn] at e; cases e
theorem Stp.new {K : PySem.W.Frag} {a p : Addr} {u : HO} (hn : H a = none) : Stp K r H (r ++ [p]) (L2.upd H a u) :=
  ⟨fun n a h => by rw [List.getElem?_append_left (List.getElem?_eq_some_iff.mp h).1]; exact h, fun _ _ h => sqt_upd (notT_none hn) h, fun b o xs h => by rw [upd_ne (notT_ne (notT_none hn) h (fun z => z))]; exact h, fun b xs h => by rw [upd_ne (notT_ne (notT_none hn) h (fun z => z))]; exact h⟩
theorem Stp.new0 {K : PySem.W.Frag} {a : Addr} {u : HO} (hn : H a = none) : Stp K r H r (L2.upd H a u) :=
  ⟨fun n a h => h, fun _ _ h => sqt_upd (notT_none hn) h, fun b o xs h => by rw [upd_ne (notT_ne (notT_none hn) h (fun z => z))]; exact h, fun b xs h => by rw [upd_ne (notT_ne (notT_none hn) h (fun z => z))]; exact h⟩

/-- a thing that is no object of ours is laid -/
theorem HR.lay {h : Heap} (R : HR G r H h) {p : Addr} {u : HO} (hp : H p = none) : HR G r (upd H p u) h :=
  ⟨R.len, R.nd, fun n o a e1 e2 => (R.ob n o a e1 e2).mono (Stp.new0 hp) fun _ v e => by rw [upd_ne (ne_of_none e hp)]; exact e, tabs_new R.tb hp⟩
theorem get_snoc {α : Type} {l : List α} {x y : α} {n : Nat} (e : (l ++ [x])[n]? = some y) : (n < l.length ∧ l[n]? = some y) ∨ (n = l.length ∧ x = y) := by
  by_cases h : n < l.length
  · rw [List.getElem?_append_left h] at e
    exact .inl ⟨h, e⟩
  · have := (List.getElem?_eq_some_iff.mp e).1
    have hn : n = l.length := by
      simp at this
      omega
    subst hn
    simp at e
    exact .inr ⟨rfl, e⟩
/-- a new object -/
theorem HR.push {h : Heap} (R : HR G r H h) {p : Addr} {u : HO} {o : Obj} (hp : H p = none) (ho : OR G (r ++ [p]) (upd H p u) o p) : HR G (r ++ [p]) (upd H p u) (h ++ [o]) := by
  have no : ∀ (i : Nat) (x : Obj), h[i]? = some x → r[i]? = some p → isFls x = false → False := fun i x e1 e2 f => by
    obtain ⟨v, hv⟩ := (R.ob i x p e1 e2).there f
    rw [hp] at hv
    cases hv
  refine ⟨by simp [R.len], fun i j a x y e1 e2 e3 e4 f1 f2 => ?_, fun n o' a e1 e2 => ?_, tabs_new R.tb hp⟩
  · rcases get_snoc e1 with ⟨l1, e1⟩ | ⟨l1, e1⟩ <;> rcases get_snoc e2 with ⟨l2, e2⟩ | ⟨l2, e2⟩ <;> rcases get_snoc e3 with ⟨l3, e3⟩ | ⟨l3, e3⟩ <;> rcases get_snoc e4 with ⟨l4, e4⟩ | ⟨l4, e4⟩
    all_goals (have hl := R.len)
    all_goals first
      | omega
      | exact R.nd i j a x y e1 e2 e3 e4 f1 f2
      | (subst e4; exact (no i x e1 e3 f1).elim)
      | (subst e3; exact (no j y e2 e4 f2).elim)
  · have e1' := e1
    clear e1
    rcases get_snoc e1' with ⟨l1, e1⟩ | ⟨l1, e1⟩
    · rcases get_snoc e2 with ⟨l2, e2⟩ | ⟨l2, e2⟩
      · exact (R.ob n o' a e1 e2).mono (Stp.new hp) fun _ v e => by rw [upd_ne (ne_of_none e hp)]; exact e
      · have := R.len
        omega
    · clear e1'
      subst l1
      subst e1
      rw [← R.len] at e2
      simp at e2
      subst e2
      exact ho
/-- an object is written -/
theorem HR.write {h : Heap} (R : HR G r H h) {n : Nat} {a : Addr} {u : HO} {o o0 : Obj} (e0 : h[n]? = some o0) (f0 : isFls o0 = false) (e : r[n]? = some a) (hn : ∀ o, H a = some o → NotT o) (ho : OR G r (upd H a u) o a) (f : isFls o = false) : HR G r (upd H a u) (h.set n o) := by
  have hl : n < h.length := (List.getElem?_eq_some_iff.mp e0).1
  have at_ : ∀ (i : Nat) (x : Obj), (h.set n o)[i]? = some x → isFls x = false → ∃ y, h[i]? = some y ∧ isFls y = false := fun i x e1 f1 => by
    by_cases hm : i = n
    · subst hm
      exact ⟨o0, e0, f0⟩
    · rw [List.getElem?_set_ne (Ne.symm hm)] at e1
      exact ⟨x, e1, f1⟩
  refine ⟨by simp [R.len], fun i j b x y e1 e2 e3 e4 f1 f2 => ?_, fun m o' b e1 e2 => ?_, tabs_upd R.tb ((R.ob n o0 a e0 e).plain f0)⟩
  · obtain ⟨x', e1', f1'⟩ := at_ i x e1 f1
    obtain ⟨y', e2', f2'⟩ := at_ j y e2 f2
    exact R.nd i j b x' y' e1' e2' e3 e4 f1' f2'
  · by_cases hm : m = n
    · subst hm
      rw [e] at e2
      cases e2
      rw [List.getElem?_set_self hl] at e1
      cases e1
      exact ho
    · rw [List.getElem?_set_ne (Ne.symm hm)] at e1
      refine (R.ob m o' b e1 e2).mono (Stp.upd hn) fun f' v q => ?_
      have hb : b ≠ a := fun q => by
        subst q
        exact hm (R.nd m n b o' o0 e1 e0 e2 e f' f0)
      rw [upd_ne hb]
      exact q
end
end PyM

set_option Elab.async false
set_option linter.all false
set_option autoImplicit false
set_option maxHeartbeats 4000000
set_option maxRecDepth 100000
/-! an end by facts at given places -/
namespace PyM
open PySem PySem.Spec PyProof.Rows L2 He
abbrev AlC : Type := AlT × Bool
def obsC (as : List Addr) (fa : List Fa) (fn : List DefD) (ts : List Tab) (ex : PySem.W.Frag → Bool) (g : Addr → Option PySem.Obj) : AlC := (obsT fa fn ts (frG g as), ex (frG g as))
def valC (fn : List DefD) (ts : List Tab) (w : World) : AlC := (valT fn ts w, true)
def hookC (as : List Addr) (fa : List Fa) (fn : List DefD) (ts : List Tab) (ex : PySem.W.Frag → Bool) : PySem.W.Hook where
  α := AlC
  obs := fun s => obsC as fa fn ts ex s.heap.get?
  val := fun w => valC fn ts w
  says := fun w h => ∃ K : PySem.W.Frag, K.In h ∧ SaysT fa fn ts w K ∧ ex K = true
  of := fun _ _ e => ⟨_, frG_in, congrArg (fun z : AlC => z.1) e, congrArg (fun z : AlC => z.2) e⟩
  keeps := fun _ _ _ ⟨K', z1, z2⟩ z3 => ⟨K', PySem.W.Frag.In.keeps z1 z3, z2⟩
theorem obsC_eq {as : List Addr} {fa : List Fa} {fn : List DefD} {ts : List Tab} {ex : PySem.W.Frag → Bool} {g : Addr → Option PySem.Obj} {s : Shared} (h : ∀ a, g a = s.heap.get? a) : obsC as fa fn ts ex g = (hookC as fa fn ts ex).obs s := by
  rw [show g = s.heap.get? from funext h] <;> rfl
/-! constants -/
mutual
def cvB (K : PySem.W.Frag) (sts : List Str) : Val → Value → Bool
  | .non, .none => true
  | .int i, .int j _ => decide (i = j)
  | .str n, .str x _ => decide (sts[n]? = some x)
  | .tup xs, .ref a => (match K.lookup a with
    | some o => (match o.cls with
      | .type c => decide (c = "tuple")
      | _ => false) && (match o.data with
      | .seq its _ => Nat.ble its.size 1000 && cvBs K sts xs its.toList
      | _ => false)
    | none => false)
  | _, _ => false
def cvBs (K : PySem.W.Frag) (sts : List Str) : List Val → List Value → Bool
  | [], [] => true
  | x :: xs, u :: us => cvB K sts x u && cvBs K sts xs us
  | _, _ => false
end
/-- a name of the module holds this -/
def ktB (K : PySem.W.Frag) (sts : List Str) (x : Str) (v : Val) : Bool := match PySem.W.nsIn K mainGlobals x with
  | some (some u) => cvB K sts v u
  | _ => false
/-- the entries of a table of the module -/
def ceB (K : PySem.W.Frag) (sts : List Str) : List (Nat × Val) → List DictEntry → Bool
  | [], [] => true
  | (i, v) :: l, e :: es => (match e.key with
    | .str z _ => decide (sts[i]? = some z)
    | _ => false) && (cvB K sts v e.val && ceB K sts l es)
  | _, _ => false
def kdB (K : PySem.W.Frag) (sts : List Str) (x : Str) (l : List (Nat × Val)) : Bool := match K.lookup (ga K x) with
  | some ⟨.type c, none, .dict es _, sl⟩ => decide (c = "dict") && (sl.isEmpty && (!(ga K x == sysModules) && ceB K sts l es.toList))
  | _ => false
end PyM

set_option maxHeartbeats 0
namespace Lw
open PySem L2 PyM
def top (i : Nat) : Stmt := PySem.Challenge.pw_steadhold_k04_trees.main.body.getD i (.Pass ⟨0, 0, 0, 0⟩)
abbrev s_new_tree : Stmt := (top 8)
abbrev s_copied : Stmt := (top 9)
abbrev s__law_next : Stmt := (top 20)
abbrev s__law_path : Stmt := (top 21)
abbrev s__law_request : Stmt := (top 22)
abbrev s_is_number : Stmt := (top 1)
abbrev s_is_word : Stmt := (top 4)
abbrev s_is_path : Stmt := (top 10)
abbrev s_is_size : Stmt := (top 11)
abbrev s_is_content : Stmt := (top 12)
abbrev s_is_request : Stmt := (top 13)
abbrev s__law_flat : Stmt := (top 26)
abbrev s_part_at : Stmt := (top 14)
abbrev s_directory_of : Stmt := (top 15)
abbrev s_ask_directory : Stmt := (top 17)
abbrev s_ask_file : Stmt := (top 18)
abbrev s_ask : Stmt := (top 16)
abbrev s__law_names : Stmt := (top 23)
abbrev s__law_file : Stmt := (top 25)
abbrev s__law_due : Stmt := (top 24)
abbrev s_law : Stmt := (top 27)
def sts : List Str := ("names" : Str) :: ("words" : Str) :: ("make" : Str) :: ("put" : Str) :: ("get" : Str) :: ("size" : Str) :: ("shrink" : Str) :: ("drop" : Str) :: ("list" : Str) :: ("dir" : Str) :: ("file" : Str) :: ("no" : Str) :: ("path" : Str) :: ("ok" : Str) :: ("there" : Str) :: ("full" : Str) :: ("long" : Str) :: ("link" : Str) :: ("sync" : Str) :: []
def c_LENGTHS : List (Nat × Val) := [(2, .int 3), (3, .int 4), (4, .int 4), (5, .int 2), (6, .int 3), (7, .int 2), (8, .int 2)]
def eFa_0 : List He.Fa := [.glo "new_tree", .glo "copied", .glo "_law_next", .glo "_law_path", .glo "_law_request", .glo "is_number", .glo "is_word", .glo "is_path", .glo "is_size", .glo "is_content", .glo "is_request", .glo "_law_flat", .glo "part_at", .glo "directory_of", .glo "ask_directory", .glo "ask_file", .glo "ask", .glo "_law_names", .glo "_law_file", .glo "_law_due"]
def eFa_1 : List He.Fa := [.glo "law", .free "abs", .free "all", .free "bool", .free "dict", .free "int", .free "isinstance", .free "len", .free "list", .free "max", .free "range", .free "sorted", .free "str", .free "tuple", .glo "LENGTHS", .int "MOST_WORDS" 48, .int "TOP" 4294967295]
def eFn_0 : List He.DefD := [⟨("new_tree", none), "new_tree", "new_tree", defArgs s_new_tree, defBody s_new_tree, defScope s_new_tree, [], []⟩, ⟨("copied", none), "copied", "copied", defArgs s_copied, defBody s_copied, defScope s_copied, [], []⟩, ⟨("_law_next", none), "_law_next", "_law_next", defArgs s__law_next, defBody s__law_next, defScope s__law_next, [], []⟩, ⟨("_law_path", none), "_law_path", "_law_path", defArgs s__law_path, defBody s__law_path, defScope s__law_path, [], []⟩, ⟨("_law_request", none), "_law_request", "_law_request", defArgs s__law_request, defBody s__law_request, defScope s__law_request, [], []⟩, ⟨("is_number", none), "is_number", "is_number", defArgs s_is_number, defBody s_is_number, defScope s_is_number, [], []⟩, ⟨("is_word", none), "is_word", "is_word", defArgs s_is_word, defBody s_is_word, defScope s_is_word, [], []⟩, ⟨("is_path", none), "is_path", "is_path", defArgs s_is_path, defBody s_is_path, defScope s_is_path, [], []⟩, ⟨("is_size", none), "is_size", "is_size", defArgs s_is_size, defBody s_is_size, defScope s_is_size, [], []⟩, ⟨("is_content", none), "is_content", "is_content", defArgs s_is_content, defBody s_is_content, defScope s_is_content, [], []⟩]
def eFn_1 : List He.DefD := [⟨("is_request", none), "is_request", "is_request", defArgs s_is_request, defBody s_is_request, defScope s_is_request, [], []⟩, ⟨("_law_flat", none), "_law_flat", "_law_flat", defArgs s__law_flat, defBody s__law_flat, defScope s__law_flat, [], []⟩, ⟨("part_at", none), "part_at", "part_at", defArgs s_part_at, defBody s_part_at, defScope s_part_at, [], []⟩, ⟨("directory_of", none), "directory_of", "directory_of", defArgs s_directory_of, defBody s_directory_of, defScope s_directory_of, [], []⟩, ⟨("ask_directory", none), "ask_directory", "ask_directory", defArgs s_ask_directory, defBody s_ask_directory, defScope s_ask_directory, [], []⟩, ⟨("ask_file", none), "ask_file", "ask_file", defArgs s_ask_file, defBody s_ask_file, defScope s_ask_file, [], []⟩, ⟨("ask", none), "ask", "ask", defArgs s_ask, defBody s_ask, defScope s_ask, [], []⟩, ⟨("_law_names", none), "_law_names", "_law_names", defArgs s__law_names, defBody s__law_names, defScope s__law_names, [], []⟩, ⟨("_law_file", none), "_law_file", "_law_file", defArgs s__law_file, defBody s__law_file, defScope s__law_file, [], []⟩, ⟨("_law_due", none), "_law_due", "_law_due", defArgs s__law_due, defBody s__law_due, defScope s__law_due, [], []⟩]
def eFn_2 : List He.DefD := [⟨("law", none), "law", "law", defArgs s_law, defBody s_law, defScope s_law, [], []⟩]
def eNm_0 : List PySem.Str := [("__name__" : PySem.Str), ("is_number" : PySem.Str), ("TOP" : PySem.Str), ("is_word" : PySem.Str), ("MOST_WORDS" : PySem.Str), ("LENGTHS" : PySem.Str), ("new_tree" : PySem.Str), ("copied" : PySem.Str), ("is_path" : PySem.Str), ("is_size" : PySem.Str), ("is_content" : PySem.Str), ("is_request" : PySem.Str), ("part_at" : PySem.Str), ("directory_of" : PySem.Str), ("ask" : PySem.Str), ("ask_directory" : PySem.Str), ("ask_file" : PySem.Str), ("_law_next" : PySem.Str), ("_law_path" : PySem.Str), ("_law_request" : PySem.Str)]
def eNm_1 : List PySem.Str := [("_law_names" : PySem.Str), ("_law_due" : PySem.Str), ("_law_file" : PySem.Str), ("_law_flat" : PySem.Str)]
def eAs_0 : List Addr := [3, 21, 20, 28, 27, 29, 36, 35, 41, 40, 46, 45, 53, 52, 58, 57, 65, 64, 72, 71, 79, 78, 86, 85, 93, 92, 100, 99, 107, 106, 112, 111, 119, 118, 124, 123, 131, 130, 138, 137]
def eAs_1 : List Addr := [145, 144, 150, 149]
def eFa : List He.Fa := eFa_0 ++ (eFa_1)
def eFn : List He.DefD := eFn_0 ++ (eFn_1 ++ (eFn_2))
def eNm : List PySem.Str := eNm_0 ++ (eNm_1)
def eAs : List Addr := eAs_0 ++ (eAs_1)
def eK0 : List PySem.Str := [("make" : PySem.Str), ("put" : PySem.Str), ("get" : PySem.Str), ("size" : PySem.Str), ("shrink" : PySem.Str), ("drop" : PySem.Str), ("list" : PySem.Str)]
def eTs : List He.Tab := [(fun K => He.ga K "LENGTHS", eK0)]
def eX (K : PySem.W.Frag) : Bool := kdB K sts "LENGTHS" c_LENGTHS
theorem tabAt {w : World} {K : PySem.W.Frag} {fa : List He.Fa} {fn : List He.DefD} {ts : List He.Tab} (c : He.SaysT fa fn ts w K) (i : Nat) {t : He.Tab} (h : ts[i]? = some t) : He.dicW K (t.1 K) = some (He.keysIn w.params t.2) := by
  have z1 := congrArg (fun z : He.AlT => z.2[i]?) c
  have z2 : (ts.map fun y => He.dicW K (y.1 K))[i]? = (ts.map fun y => some (He.keysIn w.params y.2))[i]? := z1
  simpa [h] using z2
abbrev eR : PySem.W.OpenRow := PySem.W.OpenLaw.row PySem.Challenge.rw_steadhold_k04_trees
abbrev eQ : Program := PySem.W.view eR.prog [27]
abbrev eH : PySem.W.Hook := hookC eAs eFa eFn eTs eX
def eO (s : PySem.W.SharedT) : AlC := obsC eAs eFa eFn eTs eX (HandSHeadRun.getT s)
theorem eO_eq (s : PySem.W.SharedT) : eO s = eH.obs s.abs := obsC_eq (HandSHeadRun.getT_eq s)
theorem run_f (w : World) : HandSHeadRun.RunEq eR eQ eH eO 12000 eNm (w.withFollow "special-get-raises" false) := by
  intro os
  kernel_rfl
theorem run_t (w : World) : HandSHeadRun.RunEq eR eQ eH eO 12000 eNm (w.withFollow "special-get-raises" true) := by
  intro os
  kernel_rfl
theorem run_w (w : World) : HandSHeadRun.RunEq eR eQ eH eO 12000 eNm w :=
  PySem.W.byRow2 "special-get-raises" (P := fun w => HandSHeadRun.RunEq eR eQ eH eO 12000 eNm w) run_f run_t w
end Lw

set_option Elab.async false
set_option linter.all false
set_option maxRecDepth 100000
set_option autoImplicit false
namespace PyM
open PySem L2

/-! ### results -/
def Res.bind {α β : Type} (x : Res α) (k : α → Heap → Res β) : Res β := match x with
  | .ok a h => k a h
  | .raised c h => .raised c h
  | .stuck => .stuck
/-- what is wanted of a result, over all ways in which the heap may lie -/
def PostR {α β : Type} (G : Cfg) (R : List Addr → Hp → α → β → Prop) (r : List Addr) (H : Hp) (E : XK) (x : Res α) (Q : β → Hp → Prop) : Prop := match x with
  | .ok a h' => ∀ r' H' b, Stp G.K r H r' H' → HR G r' H' h' → R r' H' a b → Q b H'
  | .raised c h' => ∀ r' H' C, Stp G.K r H r' H' → HR G r' H' h' → G.cls[c]? = some C → E (.ref C) none H'
  | .stuck => False
def PostS (G : Cfg) (r : List Addr) (H : Hp) (E : XK) (x : RS) (D : Ends) : Prop := match x with
  | .nx s h' => ∀ r' H' t, Stp G.K r H r' H' → HR G r' H' h' → SR G r' H' s t → D.nx t H'
  | .bk s h' => ∀ r' H' t, Stp G.K r H r' H' → HR G r' H' h' → SR G r' H' s t → D.bk t H'
  | .ct s h' => ∀ r' H' t, Stp G.K r H r' H' → HR G r' H' h' → SR G r' H' s t → D.ct t H'
  | .rt x h' => ∀ r' H' v, Stp G.K r H r' H' → HR G r' H' h' → VR G r' H' x v → D.rt v H'
  | .raised c h' => ∀ r' H' C, Stp G.K r H r' H' → HR G r' H' h' → G.cls[c]? = some C → E (.ref C) none H'
  | .stuck => False
abbrev BR : List Addr → Hp → Bool → Bool → Prop := fun _ _ a b => a = b
section
variable {G : Cfg} {E : XK} {α β γ δ : Type}
theorem PostR.shift {R : List Addr → Hp → α → β → Prop} {r r1 : List Addr} {H H1 : Hp} {x : Res α} {Q : β → Hp → Prop} (s : Stp G.K r H r1 H1) (p : PostR G R r H E x Q) : PostR G R r1 H1 E x Q := by
  cases x with
  | ok a h => exact fun r' H' b s' => p r' H' b (s.trans s')
  | raised c h => exact fun r' H' C s' => p r' H' C (s.trans s')
  | stuck => exact p
theorem PostS.shift {r r1 : List Addr} {H H1 : Hp} {x : RS} {D : Ends} (s : Stp G.K r H r1 H1) (p : PostS G r H E x D) : PostS G r1 H1 E x D := by
  cases x with
  | nx a h => exact fun r' H' b s' => p r' H' b (s.trans s')
  | bk a h => exact fun r' H' b s' => p r' H' b (s.trans s')
  | ct a h => exact fun r' H' b s' => p r' H' b (s.trans s')
  | rt a h => exact fun r' H' b s' => p r' H' b (s.trans s')
  | raised c h => exact fun r' H' C s' => p r' H' C (s.trans s')
  | stuck => exact p
theorem PostR.seq {R1 : List Addr → Hp → α → β → Prop} {R2 : List Addr → Hp → γ → δ → Prop} {r : List Addr} {H : Hp} {x : Res α} {k : α → Heap → Res γ} {Q : δ → Hp → Prop} {Q' : β → Hp → Prop}
    (p : PostR G R2 r H E (x.bind k) Q) (f : ∀ a h1 r1 H1 b, Stp G.K r H r1 H1 → HR G r1 H1 h1 → R1 r1 H1 a b → PostR G R2 r1 H1 E (k a h1) Q → Q' b H1) : PostR G R1 r H E x Q' := by
  cases x with
  | ok a h => exact fun r' H' b s' hR vR => f a h r' H' b s' hR vR (p.shift s')
  | raised c h => exact p
  | stuck => exact p
theorem PostR.here {R : List Addr → Hp → α → β → Prop} {r : List Addr} {H : Hp} {a : α} {b : β} {h : Heap} {Q : β → Hp → Prop} (p : PostR G R r H E (.ok a h) Q) (hR : HR G r H h) (v : R r H a b) : Q b H := p r H b Stp.refl hR v
end

/-! ### the judgements -/
section
variable (G : Cfg) (E : XK)
structure Rf (t : TE) (m : En → Heap → Res Val) : Prop where
  run : ∀ r H h s σ Q, HR G r H h → SR G r H s σ → PostR G (VR G) r H E (m s h) Q → t σ H Q
structure RfT (t : TT) (m : En → Heap → Res Bool) : Prop where
  run : ∀ r H h s σ Q, HR G r H h → SR G r H s σ → PostR G BR r H E (m s h) Q → t σ H Q
structure RfA (t : TA) (m : En → Heap → Res (List Val)) : Prop where
  run : ∀ r H h s σ Q, HR G r H h → SR G r H s σ → PostR G (VRs G) r H E (m s h) Q → t σ H Q
structure RfS (t : TS) (m : En → Heap → RS) : Prop where
  run : ∀ r H h s σ D, HR G r H h → SR G r H s σ → PostS G r H E (m s h) D → t D σ H
/-- operations by values -/
structure Rf2 (t : R2) (m : Val → Val → Heap → Res Val) : Prop where
  run : ∀ r H h x y v u Q, HR G r H h → VR G r H x v → VR G r H y u → PostR G (VR G) r H E (m x y h) Q → t v u H Q
structure Rf1 (t : V → Hp → VK → Prop) (m : Val → Heap → Res Val) : Prop where
  run : ∀ r H h x v Q, HR G r H h → VR G r H x v → PostR G (VR G) r H E (m x h) Q → t v H Q
structure RfL (t : List V → Hp → VK → Prop) (m : List Val → Heap → Res Val) : Prop where
  run : ∀ r H h xs vs Q, HR G r H h → VRs G r H xs vs → PostR G (VR G) r H E (m xs h) Q → t vs H Q
structure RfM (t : V → List V → Hp → VK → Prop) (m : Val → List Val → Heap → Res Val) : Prop where
  run : ∀ r H h x v xs vs Q, HR G r H h → VR G r H x v → VRs G r H xs vs → PostR G (VR G) r H E (m x xs h) Q → t v vs H Q
variable (X : Cx)
structure ME (e : Expr) (t : TE) (m : En → Heap → Res Val) : Prop where
  pe : PE X e t
  rf : Rf G E t m
structure MT (e : Expr) (t : TT) (m : En → Heap → Res Bool) : Prop where
  pe : PT X e t
  rf : RfT G E t m
structure MW (e : Expr) (t : TT) (m : En → Heap → Res Bool) : Prop where
  pe : PW X e t
  rf : RfT G E t m
structure MA (e : List Expr) (t : TA) (m : En → Heap → Res (List Val)) : Prop where
  pe : PA X e t
  rf : RfA G E t m
structure MC (op : CmpOp) (a b : Expr) (t : TE) (m : En → Heap → Res Val) : Prop where
  pe : PC X op a b t
  rf : Rf G E t m
structure MS (st : Stmt) (t : TS) (m : En → Heap → RS) : Prop where
  pe : PS X st t
  rf : RfS G E t m
structure MSs (st : List Stmt) (t : TS) (m : En → Heap → RS) : Prop where
  pe : PSs X st t
  rf : RfS G E t m
/-- what is known of the context -/
structure XC (k : Nat) : Prop where
  K : X.K = G.K
  calm : X.calm = true
  nd : X.N.Nodup
  room : Room k X.A
  pass : Passes (L2.CX X.prog X.w) X E
  own : PassesOwn (model X.prog X.w) X.A X.env X.xe
end
/-- .. of the strings' table -/
structure Cfg.Ok (G : Cfg) : Prop where
  nn : G.nms.Nodup
  nd : G.sts.Nodup
  ok : ∀ x ∈ G.sts, PySem.PyData.strOk x = true

theorem VRs.len {G : Cfg} {r : List Addr} {H : Hp} : ∀ (xs : List Val) (vs : List V), VRs G r H xs vs → xs.length = vs.length
  | [], _, .nil => rfl
  | _ :: xs, _, .cons _ b => congrArg (· + 1) (VRs.len xs _ b)
theorem VRs.get {G : Cfg} {r : List Addr} {H : Hp} : ∀ {xs : List Val} {vs : List V}, VRs G r H xs vs → ∀ {i : Nat} {x : Val}, xs[i]? = some x → ∃ v, vs[i]? = some v ∧ VR G r H x v
  | _, _, .nil, i, x, e => by simp at e
  | _, _, .cons a b, 0, x, e => by
    simp at e
    subst e
    exact ⟨_, rfl, a⟩
  | _, _, .cons a b, i + 1, x, e => by
    obtain ⟨v, h1, h2⟩ := VRs.get b (i := i) (x := x) (by simpa using e)
    exact ⟨v, by simpa using h1, h2⟩
theorem VRs.app {G : Cfg} {r : List Addr} {H : Hp} : ∀ {xs ys : List Val} {vs us : List V}, VRs G r H xs vs → VRs G r H ys us → VRs G r H (xs ++ ys) (vs ++ us)
  | _, _, _, _, .nil, q => q
  | _, _, _, _, .cons a b, q => .cons a (VRs.app b q)
theorem VRs.drop {G : Cfg} {r : List Addr} {H : Hp} : ∀ (n : Nat) {xs : List Val} {vs : List V}, VRs G r H xs vs → VRs G r H (xs.drop n) (vs.drop n)
  | 0, _, _, q => q
  | _ + 1, _, _, .nil => .nil
  | n + 1, _, _, .cons _ b => VRs.drop n b
theorem VRs.take {G : Cfg} {r : List Addr} {H : Hp} : ∀ (n : Nat) {xs : List Val} {vs : List V}, VRs G r H xs vs → VRs G r H (xs.take n) (vs.take n)
  | 0, _, _, q => .nil
  | _ + 1, _, _, .nil => .nil
  | n + 1, _, _, .cons a b => .cons a (VRs.take n b)
theorem VRs.set {G : Cfg} {r : List Addr} {H : Hp} {x : Val} {v : V} (q : VR G r H x v) : ∀ (n : Nat) {xs : List Val} {vs : List V}, VRs G r H xs vs → VRs G r H (xs.set n x) (vs.set n v)
  | _, _, _, .nil => .nil
  | 0, _, _, .cons a b => .cons q b
  | n + 1, _, _, .cons a b => .cons a (VRs.set q n b)
theorem VRs.eraseIdx {G : Cfg} {r : List Addr} {H : Hp} : ∀ (n : Nat) {xs : List Val} {vs : List V}, VRs G r H xs vs → VRs G r H (xs.eraseIdx n) (vs.eraseIdx n)
  | _, _, _, .nil => .nil
  | 0, _, _, .cons a b => b
  | n + 1, _, _, .cons a b => .cons a (VRs.eraseIdx n b)
theorem VRs.dropLast {G : Cfg} {r : List Addr} {H : Hp} : ∀ {xs : List Val} {vs : List V}, VRs G r H xs vs → VRs G r H xs.dropLast vs.dropLast
  | _, _, .nil => .nil
  | _, _, .cons a .nil => .nil
  | _, _, .cons a (.cons b c) => .cons a (VRs.dropLast (.cons b c))
theorem SR.get {G : Cfg} {r : List Addr} {H : Hp} {s : En} {t : St} (q : SR G r H s t) : ∀ {i : Nat} {x : Val}, s[i]? = some (some x) → ∃ v, t[i]? = some (some v) ∧ VR G r H x v := by
  induction q with
  | nil =>
    intro i x e
    simp at e
  | no q ih =>
    intro i x e
    cases i with
    | zero => simp at e
    | succ i => simpa using ih (i := i) (x := x) (by simpa using e)
  | so a q ih =>
    intro i x e
    cases i with
    | zero =>
      simp at e
      subst e
      exact ⟨_, rfl, a⟩
    | succ i => simpa using ih (i := i) (x := x) (by simpa using e)
theorem SR.set {G : Cfg} {r : List Addr} {H : Hp} {s : En} {t : St} (q : SR G r H s t) {x : Val} {v : V} (a : VR G r H x v) : ∀ (i : Nat), SR G r H (s.set i (some x)) (t.set i (some v)) := by
  induction q with
  | nil => exact fun _ => .nil
  | no q ih => exact fun i => match i with
    | 0 => .so a q
    | i + 1 => .no (ih i)
  | so b q ih => exact fun i => match i with
    | 0 => .so a q
    | i + 1 => .so b (ih i)

/-- the most items of a list, a tuple, a dict -/
def lim : Nat := 1000000
theorem lim_le : lim ≤ sizeLine := by rw [sizeLine_eq]; decide
theorem lt_line {n : Nat} (h : n < lim) : n < sizeLine := Nat.lt_of_lt_of_le h lim_le
theorem le_line {n : Nat} (h : n ≤ lim) : n ≤ sizeLine := Nat.le_trans h lim_le

/-! ### the model's words -/
def mV (i : Nat) (s : En) (h : Heap) : Res Val := match s[i]? with
  | some (some x) => .ok x h
  | _ => .stuck
def mK (x : Val) (_ : En) (h : Heap) : Res Val := .ok x h
def mB (f : Val → Val → Heap → Res Val) (ma mb : En → Heap → Res Val) (s : En) (h : Heap) : Res Val := (ma s h).bind fun x h1 => (mb s h1).bind fun y h2 => f x y h2
def mU (f : Val → Heap → Res Val) (ma : En → Heap → Res Val) (s : En) (h : Heap) : Res Val := (ma s h).bind fun x h1 => f x h1
def mL (f : List Val → Heap → Res Val) (ma : En → Heap → Res (List Val)) (s : En) (h : Heap) : Res Val := (ma s h).bind fun x h1 => f x h1
def mM (f : Val → List Val → Heap → Res Val) (mo : En → Heap → Res Val) (ma : En → Heap → Res (List Val)) (s : En) (h : Heap) : Res Val := (mo s h).bind fun x h1 => (ma s h1).bind fun xs h2 => f x xs h2
def mNil (_ : En) (h : Heap) : Res (List Val) := .ok [] h
def mCons (ma : En → Heap → Res Val) (mr : En → Heap → Res (List Val)) (s : En) (h : Heap) : Res (List Val) := (ma s h).bind fun x h1 => (mr s h1).bind fun xs h2 => .ok (x :: xs) h2

section
variable {G : Cfg} {E : XK} {X : Cx} {k : Nat} {a b c e : Expr} {ta tb tc : TE} {ma mb mc : En → Heap → Res Val} {pos : Pos}

/-! ### names and constants -/
theorem me_var (i : Nat) {x : Str} (hN : X.N[i]? = some x := by rfl) (hv : Vis X.env.scope x := by first | exact Or.inl rfl | exact Or.inr (Or.inl rfl) | exact Or.inr (Or.inr rfl)) (hd : (x == ("__debug__" : Str)) = false := by decide) (hcd : (x == ("__classdict__" : Str)) = false := by decide) :
    ME G E X (.Name x pos) (tVar i) (mV i) := by
  refine ⟨pe_var hN hv hd hcd, ⟨fun r H h s σ Q hR sR p => ?_⟩⟩
  unfold mV at p
  split at p
  · rename_i x e
    obtain ⟨v, e', q⟩ := sR.get e
    exact ⟨v, e', p.here hR q⟩
  · exact p.elim
theorem me_int {i : Int} {j} : ME G E X (.Constant (.int i) j pos) (tC (.int i)) (mK (.int i)) := ⟨pe_int, ⟨fun _ _ _ _ _ _ hR _ p => p.here hR (.int i)⟩⟩
theorem me_bl {i : Bool} {j} : ME G E X (.Constant (.bool i) j pos) (tC (.bl i)) (mK (.bl i)) := ⟨pe_bl, ⟨fun _ _ _ _ _ _ hR _ p => p.here hR (.bl i)⟩⟩
theorem me_non {j} : ME G E X (.Constant .none j pos) (tC .non) (mK .non) := ⟨pe_non, ⟨fun _ _ _ _ _ _ hR _ p => p.here hR .non⟩⟩
theorem me_str (n : Nat) {x : Str} {j} (hx : G.sts[n]? = some x) : ME G E X (.Constant (.str x) j pos) (tC (.str x)) (mK (.str n)) := ⟨pe_str, ⟨fun _ _ _ _ _ _ hR _ p => p.here hR (.str hx)⟩⟩
theorem me_glob (i : Int) {x : Str} {t : Tok} (hm : X.mg x = some (.int i t)) (hg : Gl X x := by rfl) (hd : (x == ("__debug__" : Str)) = false := by decide) : ME G E X (.Name x pos) (tC (.int i)) (mK (.int i)) :=
  ⟨pe_glob hg hm ⟨_, rfl⟩ hd, ⟨fun _ _ _ _ _ _ hR _ p => p.here hR (.int i)⟩⟩
theorem me_globS (n : Nat) {x z : Str} {t : Tok} (hm : X.mg x = some (.str z t)) (hx : G.sts[n]? = some z) (hg : Gl X x := by rfl) (hd : (x == ("__debug__" : Str)) = false := by decide) : ME G E X (.Name x pos) (tC (.str z)) (mK (.str n)) :=
  ⟨pe_glob hg hm ⟨_, rfl⟩ hd, ⟨fun _ _ _ _ _ _ hR _ p => p.here hR (.str hx)⟩⟩

/-! ### composition -/
theorem Rf.b2 {r2 : R2} {f : Val → Val → Heap → Res Val} (h1 : Rf G E ta ma) (h2 : Rf G E tb mb) (hf : Rf2 G E r2 f) : Rf G E (tOp r2 ta tb) (mB f ma mb) := by
  refine ⟨fun r H h s σ Q hR sR p => ?_⟩
  refine h1.run r H h s σ _ hR sR (p.seq fun x h1' r1 H1 v s1 hR1 v1 p1 => ?_)
  refine h2.run r1 H1 h1' s σ _ hR1 (sR.mono s1) (p1.seq fun y h2' r2 H2 u s2 hR2 v2 p2 => ?_)
  exact hf.run r2 H2 h2' x y v u Q hR2 (v1.mono s2) v2 p2
theorem Rf.u1 {t : V → Hp → VK → Prop} {f : Val → Heap → Res Val} (h1 : Rf G E ta ma) (hf : Rf1 G E t f) : Rf G E (tUn t ta) (mU f ma) := by
  refine ⟨fun r H h s σ Q hR sR p => ?_⟩
  exact h1.run r H h s σ _ hR sR (p.seq fun x h1' r1 H1 v s1 hR1 v1 p1 => hf.run r1 H1 h1' x v Q hR1 v1 p1)
theorem Rf2.orL {t t' : R2} {f : Val → Val → Heap → Res Val} (h : Rf2 G E t f) : Rf2 G E (fun x y H Q => t x y H Q ∨ t' x y H Q) f := ⟨fun r H h' x y v u Q a b c p => .inl (h.run r H h' x y v u Q a b c p)⟩
theorem ma_nil : MA G E X [] tNil mNil := ⟨pa_nil, ⟨fun _ _ _ _ _ _ hR _ p => p.here hR .nil⟩⟩
theorem ma_cons {es : List Expr} {tr : TA} {mr : En → Heap → Res (List Val)} (ha : ME G E X e ta ma) (hr : MA G E X es tr mr) (hs : starEach (e :: es) X.env = (false, eval e X.env) :: starEach es X.env := by rfl) : MA G E X (e :: es) (tCons ta tr) (mCons ma mr) := by
  refine ⟨pa_cons ha.pe hr.pe hs, ⟨fun r H h s σ Q hR sR p => ?_⟩⟩
  refine ha.rf.run r H h s σ _ hR sR (p.seq fun x h1' r1 H1 v s1 hR1 v1 p1 => ?_)
  refine hr.rf.run r1 H1 h1' s σ _ hR1 (sR.mono s1) (p1.seq fun xs h2' r2 H2 vs s2 hR2 v2 p2 => ?_)
  exact p2.here hR2 (.cons (v1.mono s2) v2)
theorem RfA.l {t : List V → Hp → VK → Prop} {f : List Val → Heap → Res Val} {tA : TA} {mA : En → Heap → Res (List Val)} (h1 : RfA G E tA mA) (hf : RfL G E t f) : Rf G E (fun σ H Q => tA σ H fun vs H1 => t vs H1 Q) (mL f mA) := by
  refine ⟨fun r H h s σ Q hR sR p => ?_⟩
  exact h1.run r H h s σ _ hR sR (p.seq fun x h1' r1 H1 v s1 hR1 v1 p1 => hf.run r1 H1 h1' x v Q hR1 v1 p1)
end
end PyM

set_option Elab.async false
set_option linter.all false
set_option maxRecDepth 100000
set_option autoImplicit false
namespace PyM
open PySem L2

/-! ### data, for == -/
inductive D where
  | non | bl (b : Bool) | int (i : Int) | str (n : Nat) | tup (xs : List D) | lst (xs : List D)
mutual
def deq : D → D → Bool
  | .non, .non => true
  | .bl a, .bl b => a == b
  | .bl a, .int j => (if a then 1 else 0) == j
  | .int i, .bl b => i == (if b then 1 else 0)
  | .int i, .int j => i == j
  | .str x, .str y => x == y
  | .tup xs, .tup ys => deqs xs ys
  | .lst xs, .lst ys => deqs xs ys
  | _, _ => false
def deqs : List D → List D → Bool
  | [], [] => true
  | x :: xs, y :: ys => deq x y && deqs xs ys
  | _, _ => false
end
def optAll {α β : Type} (f : α → Option β) : List α → Option (List β)
  | [] => some []
  | x :: xs => match f x, optAll f xs with
    | some d, some ds => some (d :: ds)
    | _, _ => none
def conv : Nat → Heap → Val → Option D
  | 0, _, _ => none
  | n + 1, h, v => match v with
    | .non => some .non
    | .bl b => some (.bl b)
    | .int i => some (.int i)
    | .str x => some (.str x)
    | .tup xs => (optAll (conv n h) xs).map .tup
    | .ref a => match h[a]? with
      | some (.lst xs) => (optAll (conv n h) xs).map .lst
      | some (.fls xs) => (optAll (conv n h) xs).map .lst
      | _ => none
mutual
def D.py (G : Cfg) : D → PyData
  | .non => .none
  | .bl b => .bool b
  | .int i => .int i
  | .str n => .str (G.sts.getD n ⟨#[]⟩)
  | .tup xs => .tuple (D.pys G xs)
  | .lst xs => .list (D.pys G xs)
def D.pys (G : Cfg) : List D → List PyData
  | [] => []
  | x :: xs => D.py G x :: D.pys G xs
end
mutual
def D.wf (m n : Nat) : D → Bool
  | .str i => decide (i < m)
  | .tup xs => match n with
    | 0 => false
    | n + 1 => D.wfs m n xs
  | .lst xs => match n with
    | 0 => false
    | n + 1 => D.wfs m n xs
  | _ => true
def D.wfs (m n : Nat) : List D → Bool
  | [] => true
  | x :: xs => D.wf m n x && D.wfs m n xs
end
section
variable {G : Cfg}
theorem getD_at {α : Type} {l : List α} {i : Nat} {d : α} (h : i < l.length) : l.getD i d = l[i] := by simp [List.getD, h]
theorem getD_inj (ok : G.Ok) {i j : Nat} (hi : i < G.sts.length) (hj : j < G.sts.length) : (G.sts.getD i ⟨#[]⟩ == G.sts.getD j ⟨#[]⟩) = (i == j) := by
  rw [getD_at hi, getD_at hj]
  by_cases e : i = j
  · subst e
    simp
  · have : G.sts[i] ≠ G.sts[j] := fun q => e ((List.getElem_inj ok.nd).mp q)
    rw [beq_eq_false_iff_ne.mpr this, beq_eq_false_iff_ne.mpr e]
mutual
theorem eqv_py (ok : G.Ok) : ∀ (d e : D) (n m : Nat), d.wf G.sts.length n = true → e.wf G.sts.length m = true → PyData.eqv (d.py G) (e.py G) = deq d e
  | .non, e, n, m, h1, h2 => by cases e <;> simp [D.py, PyData.eqv, deq]
  | .bl a, e, n, m, h1, h2 => by cases e <;> simp [D.py, PyData.eqv, deq]
  | .int a, e, n, m, h1, h2 => by cases e <;> simp [D.py, PyData.eqv, deq]
  | .str a, e, n, m, h1, h2 => by
    cases e with
    | str b =>
      simp only [D.wf, decide_eq_true_eq] at h1 h2
      simp only [D.py, PyData.eqv, deq]
      exact getD_inj ok h1 h2
    | _ => simp [D.py, PyData.eqv, deq]
  | .tup xs, e, n, m, h1, h2 => by
    cases e with
    | tup ys =>
      cases n with
      | zero => simp [D.wf] at h1
      | succ n =>
        cases m with
        | zero => simp [D.wf] at h2
        | succ m =>
          simp only [D.py, PyData.eqv, deq]
          exact eqv_pys ok xs ys n m (by simpa [D.wf] using h1) (by simpa [D.wf] using h2)
    | _ => simp [D.py, PyData.eqv, deq]
  | .lst xs, e, n, m, h1, h2 => by
    cases e with
    | lst ys =>
      cases n with
      | zero => simp [D.wf] at h1
      | succ n =>
        cases m with
        | zero => simp [D.wf] at h2
        | succ m =>
          simp only [D.py, PyData.eqv, deq]
          exact eqv_pys ok xs ys n m (by simpa [D.wf] using h1) (by simpa [D.wf] using h2)
    | _ => simp [D.py, PyData.eqv, deq]
theorem eqv_pys (ok : G.Ok) : ∀ (d e : List D) (n m : Nat), D.wfs G.sts.length n d = true → D.wfs G.sts.length m e = true → PyData.eqvAll (D.pys G d) (D.pys G e) = deqs d e
  | [], [], _, _, _, _ => by simp [D.pys, PyData.eqvAll, deqs]
  | [], _ :: _, _, _, _, _ => by simp [D.pys, PyData.eqvAll, deqs]
  | _ :: _, [], _, _, _, _ => by simp [D.pys, PyData.eqvAll, deqs]
  | x :: xs, y :: ys, n, m, h1, h2 => by
    simp only [D.wfs, Bool.and_eq_true] at h1 h2
    simp only [D.pys, PyData.eqvAll, deqs]
    rw [eqv_py ok x y n m h1.1 h2.1, eqv_pys ok xs ys n m h1.2 h2.2]
end
mutual
theorem lay_py (ok : G.Ok) : ∀ (d : D) (n : Nat), d.wf G.sts.length n = true → (d.py G).canLay0 = true ∧ (d.py G).depth ≤ n
  | .non, n, _ => by simp [D.py, PyData.canLay0, PyData.depth]
  | .bl _, n, _ => by simp [D.py, PyData.canLay0, PyData.depth]
  | .int _, n, _ => by simp [D.py, PyData.canLay0, PyData.depth]
  | .str i, n, h => by
    simp only [D.wf, decide_eq_true_eq] at h
    simp only [D.py, PyData.canLay0, PyData.depth]
    refine ⟨?_, Nat.zero_le _⟩
    rw [getD_at h]
    exact ok.ok _ (List.getElem_mem _)
  | .tup xs, 0, h => by simp [D.wf] at h
  | .lst xs, 0, h => by simp [D.wf] at h
  | .tup xs, n + 1, h => by
    have := lay_pys ok xs n (by simpa [D.wf] using h)
    simp only [D.py, PyData.canLay0, PyData.depth]
    exact ⟨this.1, by omega⟩
  | .lst xs, n + 1, h => by
    have := lay_pys ok xs n (by simpa [D.wf] using h)
    simp only [D.py, PyData.canLay0, PyData.depth]
    exact ⟨this.1, by omega⟩
theorem lay_pys (ok : G.Ok) : ∀ (d : List D) (n : Nat), D.wfs G.sts.length n d = true → PyData.canLayAll0 (D.pys G d) = true ∧ PyData.depthAll (D.pys G d) ≤ n
  | [], n, _ => by simp [D.pys, PyData.canLayAll0, PyData.depthAll]
  | x :: xs, n, h => by
    simp only [D.wfs, Bool.and_eq_true] at h
    have h1 := lay_py ok x n h.1
    have h2 := lay_pys ok xs n h.2
    simp only [D.pys, PyData.canLayAll0, PyData.depthAll, Bool.and_eq_true]
    exact ⟨⟨h1.1, h2.1⟩, by omega⟩
end
theorem shaped_py (ok : G.Ok) {d : D} {n : Nat} (h : d.wf G.sts.length n = true) (hn : n ≤ 64) : SeqAt.shaped (d.py G) = true := by
  have := lay_py ok d n h
  simp only [SeqAt.shaped, Bool.and_eq_true, decide_eq_true_eq]
  exact ⟨this.1, by omega⟩
variable {r : List Addr} {H : Hp} {h : Heap}
theorem optAll_dp {n : Nat} (ih : ∀ x v d, VR G r H x v → conv n h x = some d → Dp G.K H v (d.py G) ∧ d.wf G.sts.length n = true) :
    ∀ (xs : List Val) (vs : List V) (ds : List D), VRs G r H xs vs → optAll (conv n h) xs = some ds → DpAll G.K H vs (D.pys G ds) ∧ D.wfs G.sts.length n ds = true
  | [], _, ds, .nil, e => by
    simp only [optAll, Option.some.injEq] at e
    subst e
    exact ⟨.nil, rfl⟩
  | x :: xs, _, ds, .cons a b, e => by
    simp only [optAll] at e
    split at e
    · rename_i d ds' e1 e2
      cases e
      obtain ⟨h1, h2⟩ := ih _ _ _ a e1
      obtain ⟨h3, h4⟩ := optAll_dp ih xs _ _ b e2
      refine ⟨by rw [D.pys]; exact .cons h1 h3, by simp [D.wfs, h2, h4]⟩
    · cases e
theorem conv_dp (R : HR G r H h) : ∀ (n : Nat) (x : Val) (v : V) (d : D), VR G r H x v → conv n h x = some d → Dp G.K H v (d.py G) ∧ d.wf G.sts.length n = true
  | 0, x, v, d, _, e => by simp [conv] at e
  | n + 1, x, v, d, q, e => by
    have ih := fun x v d => conv_dp R n x v d
    cases q with
    | non => simp only [conv, Option.some.injEq] at e; subst e; exact ⟨by rw [D.py]; exact .non, by simp [D.wf]⟩
    | bl b => simp only [conv, Option.some.injEq] at e; subst e; exact ⟨by rw [D.py]; exact .bl _, by simp [D.wf]⟩
    | int i => simp only [conv, Option.some.injEq] at e; subst e; exact ⟨by rw [D.py]; exact .int _, by simp [D.wf]⟩
    | @str n' z hz =>
      simp only [conv, Option.some.injEq] at e
      subst e
      have hl := (List.getElem?_eq_some_iff.mp hz)
      refine ⟨?_, by simp [D.wf, hl.1]⟩
      rw [D.py, getD_at hl.1, hl.2]
      exact .str _
    | tup hs hv =>
      simp only [conv] at e
      obtain ⟨ds, e1, rfl⟩ := Option.map_eq_some_iff.mp e
      obtain ⟨h1, h2⟩ := optAll_dp ih _ _ _ hv e1
      exact ⟨by rw [D.py]; exact .tup hs.1 h1, by simpa [D.wf] using h2⟩
    | @ref m a ha =>
      simp only [conv] at e
      split at e
      · rename_i xs eo
        obtain ⟨ds, e1, rfl⟩ := Option.map_eq_some_iff.mp e
        cases R.ob _ _ _ eo ha with
        | lst hl hv =>
          obtain ⟨h1, h2⟩ := optAll_dp ih _ _ _ hv e1
          exact ⟨by rw [D.py]; exact .lst (SqL.of hl) h1, by simpa [D.wf] using h2⟩
      · rename_i xs eo
        obtain ⟨ds, e1, rfl⟩ := Option.map_eq_some_iff.mp e
        cases R.ob _ _ _ eo ha with
        | fls hl hv =>
          obtain ⟨h1, h2⟩ := optAll_dp ih _ _ _ hv e1
          exact ⟨by rw [D.py]; exact .lst hl.sq h1, by simpa [D.wf] using h2⟩
      · cases e
end

/-! ### operators by values -/
def oI (g : Int → Int → Val) (x y : Val) (h : Heap) : Res Val := match x, y with
  | .int i, .int j => .ok (g i j) h
  | _, _ => .stuck
def oIC (c : Int → Int → Bool) (g : Int → Int → Val) (x y : Val) (h : Heap) : Res Val := match x, y with
  | .int i, .int j => if c i j = true then .ok (g i j) h else .stuck
  | _, _ => .stuck
def oNeg (x : Val) (h : Heap) : Res Val := match x with
  | .int i => .ok (.int (-i)) h
  | _ => .stuck
def oAdd (x y : Val) (h : Heap) : Res Val := match x, y with
  | .int i, .int j => .ok (.int (i + j)) h
  | .tup xs, .tup ys => if xs.length + ys.length ≤ lim then .ok (.tup (xs ++ ys)) h else .stuck
  | .ref a, .ref b => match h[a]?, h[b]? with
    | some (.lst xs), some (.lst ys) => if xs.length + ys.length ≤ lim then .ok (.ref h.length) (h ++ [.lst (xs ++ ys)]) else .stuck
    | _, _ => .stuck
  | _, _ => .stuck
def repV {α : Type} (n : Nat) (xs : List α) : List α := (List.replicate n xs).flatten
def oMul (x y : Val) (h : Heap) : Res Val := match x, y with
  | .int i, .int j => if -(2 ^ 64) < j ∧ j < 2 ^ 64 ∨ -(2 ^ 64) < i ∧ i < 2 ^ 64 then .ok (.int (i * j)) h else .stuck
  | .tup xs, .int k => if xs.length ≠ 0 ∧ 2 ≤ k ∧ k ≤ 1000 ∧ xs.length ≤ 1000 then .ok (.tup (repV k.toNat xs)) h else .stuck
  | .ref a, .int k => match h[a]? with
    | some (.lst xs) => if k ≤ 100000 ∧ -100000 ≤ k ∧ xs.length * k.toNat ≤ lim then .ok (.ref h.length) (h ++ [.lst (repV k.toNat xs)]) else .stuck
    | _ => .stuck
  | _, _ => .stuck
def oEq (neg : Bool) (x y : Val) (h : Heap) : Res Val := match conv 60 h x, conv 60 h y with
  | some d, some e => .ok (.bl (if neg then !deq d e else deq d e)) h
  | _, _ => .stuck
def oIsN (neg : Bool) (x : Val) (h : Heap) : Res Val := .ok (.bl (match x with
  | .non => !neg
  | _ => neg)) h
section
variable {G : Cfg} {E : XK}
theorem rf_I0 {g : Int → Int → Int} : Rf2 G E (rI0 fun i j => .int (g i j)) (oI fun i j => .int (g i j)) := by
  refine ⟨fun r H h x y v u Q hR a b p => ?_⟩
  cases a with
  | int i => cases b with
    | int j => exact ⟨i, j, rfl, rfl, p.here hR (.int _)⟩
    | _ => exact False.elim p
  | _ => exact False.elim p
theorem rf_B0 {g : Int → Int → Bool} : Rf2 G E (rI0 fun i j => .bl (g i j)) (oI fun i j => .bl (g i j)) := by
  refine ⟨fun r H h x y v u Q hR a b p => ?_⟩
  cases a with
  | int i => cases b with
    | int j => exact ⟨i, j, rfl, rfl, p.here hR (.bl _)⟩
    | _ => exact False.elim p
  | _ => exact False.elim p
theorem rf_IC {C : Int → Int → Prop} {c : Int → Int → Bool} (hc : ∀ i j, c i j = true → C i j) {g : Int → Int → Int} : Rf2 G E (rI C fun i j => .int (g i j)) (oIC c fun i j => .int (g i j)) := by
  refine ⟨fun r H h x y v u Q hR a b p => ?_⟩
  cases a with
  | int i => cases b with
    | int j =>
      simp only [oIC] at p
      split at p
      · rename_i e
        exact ⟨i, j, rfl, rfl, hc _ _ e, p.here hR (.int _)⟩
      · exact p.elim
    | _ => exact False.elim p
  | _ => exact False.elim p
def rAdd (K : PySem.W.Frag) : R2 := fun x y H Q => rI0 (fun i j => .int (i + j)) x y H Q ∨ rCatA K x y H Q ∨ rCat x y H Q
theorem op_addM {X : Cx} : OpR X (binaryOp .Add) (rAdd X.K) := op_add.or (op_catA.or op_cat)
theorem rf_add : Rf2 G E (rAdd G.K) oAdd := by
  refine ⟨fun r H h x y v u Q hR a b p => ?_⟩
  cases a with
  | int i => cases b with
    | int j => exact .inl ⟨i, j, rfl, rfl, p.here hR (.int _)⟩
    | _ => exact False.elim p
  | tup ha va => cases b with
    | tup hb vb =>
      simp only [oAdd] at p
      split at p
      · rename_i hl
        have e1 := va.len
        have e2 := vb.len
        refine .inr (.inl ⟨_, _, _, _, rfl, rfl, ha.1, hb.1, le_line (by omega), fun e => ?_, fun _ e => ?_, fun _ _ q hq => ?_⟩)
        · subst e
          cases va
          exact p.here hR (.tup hb vb)
        · subst e
          cases vb
          exact p.here hR (.tup ha (by simpa using va))
        · refine p r _ _ (Stp.new0 hq) (hR.lay hq) (.tup (TQ.of upd_same) ?_)
          exact (va.app vb).mono (Stp.new0 hq)
      · exact p.elim
    | _ => exact False.elim p
  | @ref n a' ea => cases b with
    | @ref m b' eb =>
      simp only [oAdd] at p
      split at p
      · rename_i xs ys h1 h2
        split at p
        · rename_i hl
          cases hR.ob _ _ _ h1 ea with
          | lst ha va => cases hR.ob _ _ _ h2 eb with
            | lst hb vb =>
              have e1 := va.len
              have e2 := vb.len
              refine .inr (.inr ⟨_, _, _, _, rfl, rfl, ha, hb, le_line (by omega), fun q hq => ?_⟩)
              refine p (r ++ [q]) _ _ (Stp.new hq) (hR.push hq (.lst upd_same ((va.app vb).mono (Stp.new hq)))) (.ref ?_)
              rw [← hR.len]
              simp
        · exact p.elim
      · exact p.elim
    | _ => exact False.elim p
  | _ => exact False.elim p
theorem VRs.rep {r : List Addr} {H : Hp} {xs : List Val} {vs : List V} (a : VRs G r H xs vs) : ∀ n : Nat, VRs G r H (repV n xs) ((List.replicate n vs).flatten)
  | 0 => .nil
  | n + 1 => by
    unfold repV
    rw [List.replicate_succ, List.replicate_succ, List.flatten_cons, List.flatten_cons]
    exact a.app (VRs.rep a n)
def rMulA (K : PySem.W.Frag) : R2 := fun x y H Q => rI CMul (fun i j => .int (i * j)) x y H Q ∨ rRep x y H Q ∨ rRepT K x y H Q
theorem op_mulA {X : Cx} : OpR X (binaryOp .Mult) (rMulA X.K) := op_mul.or (op_rep.or op_repT)
theorem rf_mul : Rf2 G E (rMulA G.K) oMul := by
  refine ⟨fun r H h x y v u Q hR a b p => ?_⟩
  cases a with
  | int i => cases b with
    | int j =>
      simp only [oMul] at p
      split at p
      · rename_i e
        exact .inl ⟨i, j, rfl, rfl, e.symm, p.here hR (.int _)⟩
      · exact p.elim
    | _ => exact False.elim p
  | tup ha va => cases b with
    | int k =>
      simp only [oMul] at p
      split at p
      · rename_i e
        have e1 := va.len
        refine .inr (.inr ⟨_, k, _, rfl, rfl, ha.1, fun z => ?_, e.2.1, e.2.2.1, by rw [← e1]; exact e.2.2.2, fun q hq => ?_⟩)
        · subst z
          exact e.1 e1
        · exact p r _ _ (Stp.new0 hq) (hR.lay hq) (.tup (TQ.of upd_same) ((va.rep _).mono (Stp.new0 hq)))
      · exact p.elim
    | _ => exact False.elim p
  | @ref n a' ea => cases b with
    | int k =>
      simp only [oMul] at p
      split at p
      · rename_i xs h1
        split at p
        · rename_i hl
          cases hR.ob _ _ _ h1 ea with
          | lst ha va =>
            have e1 := va.len
            refine .inr (.inl ⟨_, k, _, rfl, rfl, ha, by omega, by omega, le_line (by rw [← e1]; exact hl.2.2), fun q hq => ?_⟩)
            refine p (r ++ [q]) _ _ (Stp.new hq) (hR.push hq (.lst upd_same ((va.rep _).mono (Stp.new hq)))) (.ref ?_)
            rw [← hR.len]
            simp
        · exact p.elim
      · exact p.elim
    | _ => exact False.elim p
  | _ => exact False.elim p
theorem rf_eq (ok : G.Ok) : Rf2 G E (rEqD G.K) (oEq false) := by
  refine ⟨fun r H h x y v u Q hR a b p => ?_⟩
  simp only [oEq] at p
  split at p
  · rename_i d e h1 h2
    obtain ⟨d1, w1⟩ := conv_dp hR _ _ _ _ a h1
    obtain ⟨d2, w2⟩ := conv_dp hR _ _ _ _ b h2
    refine ⟨_, _, d1, d2, shaped_py ok w1 (by decide), shaped_py ok w2 (by decide), ?_⟩
    rw [eqv_py ok d e _ _ w1 w2]
    exact p.here hR (.bl _)
  · exact p.elim
theorem rf_ne (ok : G.Ok) : Rf2 G E (rNeD G.K) (oEq true) := by
  refine ⟨fun r H h x y v u Q hR a b p => ?_⟩
  simp only [oEq] at p
  split at p
  · rename_i d e h1 h2
    obtain ⟨d1, w1⟩ := conv_dp hR _ _ _ _ a h1
    obtain ⟨d2, w2⟩ := conv_dp hR _ _ _ _ b h2
    refine ⟨_, _, d1, d2, shaped_py ok w1 (by decide), shaped_py ok w2 (by decide), ?_⟩
    rw [eqv_py ok d e _ _ w1 w2]
    exact p.here hR (.bl _)
  · exact p.elim
end
end PyM

set_option Elab.async false
set_option linter.all false
set_option maxRecDepth 100000
set_option autoImplicit false
namespace PyM
open PySem L2

mutual
def Val.dec : (a b : Val) → Decidable (a = b)
  | .non, b => match b with
    | .non => Decidable.isTrue rfl
    | .bl _ | .int _ | .str _ | .tup _ | .ref _ => Decidable.isFalse (fun h => by cases h)
  | .bl x, b => match b with
    | .bl y => if h : x = y then Decidable.isTrue (by rw [h]) else Decidable.isFalse (fun e => by cases e; exact h rfl)
    | .non | .int _ | .str _ | .tup _ | .ref _ => Decidable.isFalse (fun h => by cases h)
  | .int x, b => match b with
    | .int y => if h : x = y then Decidable.isTrue (by rw [h]) else Decidable.isFalse (fun e => by cases e; exact h rfl)
    | .non | .bl _ | .str _ | .tup _ | .ref _ => Decidable.isFalse (fun h => by cases h)
  | .str x, b => match b with
    | .str y => if h : x = y then Decidable.isTrue (by rw [h]) else Decidable.isFalse (fun e => by cases e; exact h rfl)
    | .non | .bl _ | .int _ | .tup _ | .ref _ => Decidable.isFalse (fun h => by cases h)
  | .ref x, b => match b with
    | .ref y => if h : x = y then Decidable.isTrue (by rw [h]) else Decidable.isFalse (fun e => by cases e; exact h rfl)
    | .non | .bl _ | .int _ | .tup _ | .str _ => Decidable.isFalse (fun h => by cases h)
  | .tup xs, b => match b with
    | .tup ys => match Val.decs xs ys with
      | Decidable.isTrue h => Decidable.isTrue (by rw [h])
      | Decidable.isFalse h => Decidable.isFalse (fun e => by cases e; exact h rfl)
    | .non | .bl _ | .int _ | .ref _ | .str _ => Decidable.isFalse (fun h => by cases h)
def Val.decs : (a b : List Val) → Decidable (a = b)
  | [], [] => Decidable.isTrue rfl
  | [], _ :: _ => Decidable.isFalse (fun h => by cases h)
  | _ :: _, [] => Decidable.isFalse (fun h => by cases h)
  | x :: xs, y :: ys => match Val.dec x y, Val.decs xs ys with
    | Decidable.isTrue h, Decidable.isTrue k => Decidable.isTrue (by rw [h, k])
    | Decidable.isFalse h, _ => Decidable.isFalse (fun e => by cases e; exact h rfl)
    | _, Decidable.isFalse k => Decidable.isFalse (fun e => by cases e; exact k rfl)
end
instance : DecidableEq Val := Val.dec

/-! ### dicts with keys that are ints or texts -/
def lookV (d : List (Val × Val)) (k : Val) : Option Val := (d.find? fun kv => decide (kv.1 = k)).map (·.2)
def putV (d : List (Val × Val)) (k v : Val) : List (Val × Val) := if (d.any fun kv => decide (kv.1 = k)) = true then d.map (fun kv => if kv.1 = k then (kv.1, v) else kv) else d ++ [(k, v)]
def dropV (d : List (Val × Val)) (k : Val) : List (Val × Val) := d.filter fun kv => decide (kv.1 ≠ k)
def isKey : Val → Bool
  | .int _ => true
  | .str _ => true
  | _ => false
section
variable {G : Cfg} {r : List Addr} {H : Hp} {h : Heap}
theorem sts_inj (ok : G.Ok) {i j : Nat} {x : Str} (hi : G.sts[i]? = some x) (hj : G.sts[j]? = some x) : i = j := by
  obtain ⟨h1, e1⟩ := List.getElem?_eq_some_iff.mp hi
  obtain ⟨h2, e2⟩ := List.getElem?_eq_some_iff.mp hj
  exact (List.getElem_inj ok.nd).mp (e1.trans e2.symm)
theorem KR.eq (ok : G.Ok) {k k' : Val} {q q' : Key} (a : KR G k q) (b : KR G k' q') : decide (k = k') = decide (q = q') := by
  cases a with
  | int i => cases b with
    | int j => by_cases e : i = j <;> simp [e]
    | str _ => simp
  | str hi => cases b with
    | int j => simp
    | @str m y hj =>
      rename_i n x
      by_cases e : n = m
      · subst e
        rw [hi] at hj
        cases hj
        simp
      · have : x ≠ y := fun z => e (by subst z; exact sts_inj ok hi hj)
        simp [e, this]
theorem KR.of {x : Val} {v : V} (a : VR G r H x v) (hk : isKey x = true) : ∃ q, KR G x q ∧ v = kV q := by
  cases a with
  | int i => exact ⟨_, .int i, rfl⟩
  | str e => exact ⟨_, .str e, rfl⟩
  | _ => simp [isKey] at hk
theorem KR.vr {x : Val} {q : Key} (a : KR G x q) : VR G r H x (kV q) := by
  cases a with
  | int i => exact .int i
  | str e => exact .str e
theorem DR.len {d e} (a : DR G r H d e) : d.length = e.length := by
  induction a with
  | nil => rfl
  | cons _ _ _ ih => simp [ih]
/-- what a key finds -/
theorem DR.look (ok : G.Ok) {d e} (a : DR G r H d e) {k : Val} {q : Key} (b : KR G k q) : (lookV d k = none ∧ valV e q = none) ∨ ∃ x v, lookV d k = some x ∧ valV e q = some v ∧ VR G r H x v := by
  induction a with
  | nil => exact .inl ⟨rfl, rfl⟩
  | @cons k' x q' v d e hk hv _ ih =>
    have e1 := KR.eq ok hk b
    by_cases hh : k' = k
    · have : q' = q := by simpa [hh] using e1
      exact .inr ⟨x, v, by simp [lookV, hh], by simp [valV, this], hv⟩
    · have : ¬ q' = q := by simpa [hh] using e1
      simpa [lookV, valV, List.find?_cons, hh, this] using ih
theorem DR.any (ok : G.Ok) {d e} (a : DR G r H d e) {k : Val} {q : Key} (b : KR G k q) : (d.any fun kv => decide (kv.1 = k)) = (e.any fun kv => decide (kv.1 = q)) := by
  induction a with
  | nil => rfl
  | cons hk _ _ ih => rw [List.any_cons, List.any_cons, ih, KR.eq ok hk b]
theorem DR.app {d e d' e'} (a : DR G r H d e) (b : DR G r H d' e') : DR G r H (d ++ d') (e ++ e') := by
  induction a with
  | nil => exact b
  | cons hk hv _ ih => exact .cons hk hv ih
theorem DR.upd (ok : G.Ok) {d e} (a : DR G r H d e) {k x : Val} {q : Key} {v : V} (b : KR G k q) (c : VR G r H x v) : DR G r H (d.map (fun kv => if kv.1 = k then (kv.1, x) else kv)) (e.map (fun kv => if kv.1 = q then (kv.1, v) else kv)) := by
  induction a with
  | nil => exact .nil
  | @cons k' x' q' v' d e hk hv _ ih =>
    have e1 := KR.eq ok hk b
    rw [List.map_cons, List.map_cons]
    by_cases hh : k' = k
    · have h2 : q' = q := by simpa [hh] using e1
      rw [if_pos hh, if_pos h2]
      exact .cons hk c ih
    · have h2 : ¬ q' = q := by simpa [hh] using e1
      rw [if_neg hh, if_neg h2]
      exact .cons hk hv ih
theorem DR.put (ok : G.Ok) {d e} (a : DR G r H d e) {k x : Val} {q : Key} {v : V} (b : KR G k q) (c : VR G r H x v) : DR G r H (putV d k x) (putK e q v) := by
  unfold putV putK
  rw [a.any ok b]
  by_cases hh : (e.any fun kv => decide (kv.1 = q)) = true
  · rw [if_pos hh, if_pos hh]
    exact a.upd ok b c
  · rw [if_neg hh, if_neg hh]
    exact a.app (.cons b c .nil)
theorem DR.drop (ok : G.Ok) {d e} (a : DR G r H d e) {k : Val} {q : Key} (b : KR G k q) : DR G r H (dropV d k) (dropK e q) := by
  unfold dropV dropK
  induction a with
  | nil => exact .nil
  | @cons k' x' q' v' d e hk hv _ ih =>
    have e1 := KR.eq ok hk b
    by_cases hh : k' = k
    · have h2 : q' = q := by simpa [hh] using e1
      rw [List.filter_cons_of_neg (by simp [hh]), List.filter_cons_of_neg (by simp [h2])]
      exact ih
    · have h2 : ¬ q' = q := by simpa [hh] using e1
      rw [List.filter_cons_of_pos (by simp [hh]), List.filter_cons_of_pos (by simp [h2])]
      exact .cons hk hv ih
end

/-! ### in -/
theorem DGet_kf {H : Hp} {a : Addr} {o : PySem.Obj} {kvs : List (Key × V)} {k : Key} (e : H a = some (.frz o (.dK kvs))) : DGet H a (kV k) (valV kvs k) := .inl ⟨kvs, k, .inr ⟨o, e⟩, rfl, rfl⟩
def rDIn : R2 := fun y x H Q => ∃ a o, x = .ref a ∧ DGet H a y o ∧ Q (.bl o.isSome) H
def rDNotIn : R2 := fun y x H Q => ∃ a o, x = .ref a ∧ DGet H a y o ∧ Q (.bl (!o.isSome)) H
theorem op_din {X : Cx} (hu : X.A.units + 1 < cLine) : OpR X (compareOp .In) rDIn := by
  intro pins s σ H x y v u Q I rx ry ⟨a, o, e, g, q⟩
  subst e
  obtain rfl : u = Value.ref a := ry
  exact d_in hu I g rx fun s3 I3 => ⟨.bl o.isSome, H, I3, rfl, q⟩
theorem op_dnotin {X : Cx} (hu : X.A.units + 1 < cLine) : OpR X (compareOp .NotIn) rDNotIn := by
  intro pins s σ H x y v u Q I rx ry ⟨a, o, e, g, q⟩
  subst e
  obtain rfl : u = Value.ref a := ry
  exact d_notIn hu I g rx fun s3 I3 => ⟨.bl (!o.isSome), H, I3, rfl, q⟩
def isFlat : Val → Bool
  | .non => true
  | .bl _ => true
  | .int _ => true
  | .str _ => true
  | _ => false
def feq : Val → Val → Bool
  | .non, .non => true
  | .bl a, .bl b => a == b
  | .bl a, .int j => (if a then 1 else 0) == j
  | .int i, .bl b => i == (if b then 1 else 0)
  | .int i, .int j => i == j
  | .str x, .str y => x == y
  | _, _ => false
def inSeq (x : Val) (h : Heap) (ys : List Val) : Option Bool := match conv 60 h x, optAll (conv 59 h) ys with
  | some d, some ds => some (ds.any fun z => deq z d)
  | _, _ => none
def oIn (neg : Bool) (x y : Val) (h : Heap) : Res Val := match y with
  | .tup ys => if isFlat x = true ∧ ys.all isFlat = true then .ok (.bl (if neg then !(ys.any fun z => feq z x) else ys.any fun z => feq z x)) h else .stuck
  | .ref a => match h[a]? with
    | some (.lst ys) => match inSeq x h ys with
      | some b => .ok (.bl (if neg then !b else b)) h
      | none => .stuck
    | some (.dct d) => if isKey x = true then .ok (.bl (if neg then !(lookV d x).isSome else (lookV d x).isSome)) h else .stuck
    | some (.fdc d) => if isKey x = true then .ok (.bl (if neg then !(lookV d x).isSome else (lookV d x).isSome)) h else .stuck
    | _ => .stuck
  | _ => .stuck
section
variable {G : Cfg} {E : XK} {r : List Addr} {H : Hp} {h : Heap}
theorem flat_of {x : Val} {v : V} (a : VR G r H x v) (f : isFlat x = true) : flatV v = true := by
  cases a <;> first | rfl | (simp [isFlat] at f)
theorem all_flat : ∀ {xs : List Val} {vs : List V}, VRs G r H xs vs → xs.all isFlat = true → vs.all flatV = true
  | _, _, .nil, _ => rfl
  | _, _, .cons a b, f => by
    rw [List.all_cons, Bool.and_eq_true] at f ⊢
    exact ⟨flat_of a f.1, all_flat b f.2⟩
theorem feq_of (ok : G.Ok) {x y : Val} {v u : V} (a : VR G r H x v) (b : VR G r H y u) (f : isFlat x = true) : feq x y = eqV v u := by
  cases a with
  | str hi => cases b with
    | str hj =>
      rename_i n z n' z'
      show (n == n') = (z == z')
      by_cases e : n = n'
      · subst e
        rw [hi] at hj
        cases hj
        simp
      · have : z ≠ z' := fun q => e (by subst q; exact sts_inj ok hi hj)
        rw [beq_eq_false_iff_ne.mpr e, beq_eq_false_iff_ne.mpr this]
    | _ => rfl
  | tup _ _ => simp [isFlat] at f
  | ref _ => simp [isFlat] at f
  | _ => cases b <;> rfl
theorem any_feq (ok : G.Ok) {y : Val} {u : V} (b : VR G r H y u) : ∀ {xs : List Val} {vs : List V}, VRs G r H xs vs → xs.all isFlat = true → (xs.any fun z => feq z y) = inV u vs
  | _, _, .nil, _ => rfl
  | _, _, .cons a c, f => by
    rw [List.all_cons, Bool.and_eq_true] at f
    unfold inV
    rw [List.any_cons, List.any_cons, feq_of ok a b f.1, any_feq ok b c f.2]
    rfl
theorem any_py (ok : G.Ok) {d : D} {n m : Nat} (hd : d.wf G.sts.length n = true) : ∀ (ds : List D), D.wfs G.sts.length m ds = true → ((D.pys G ds).any fun z => PyData.eqv z (d.py G)) = ds.any fun z => deq z d
  | [], _ => by simp [D.pys]
  | x :: xs, f => by
    simp only [D.wfs, Bool.and_eq_true] at f
    rw [D.pys, List.any_cons, List.any_cons, eqv_py ok x d _ _ f.1 hd, any_py ok hd xs f.2]
/-- in, not in -/
def rInA (K : PySem.W.Frag) : R2 := fun x y H Q => rIn K false x y H Q ∨ rInD K x y H Q ∨ rDIn x y H Q
def rNotInA (K : PySem.W.Frag) : R2 := fun x y H Q => rIn K true x y H Q ∨ rNotInD K x y H Q ∨ rDNotIn x y H Q
theorem op_inA {X : Cx} (hu : X.A.units + 65 < cLine) : OpR X (compareOp .In) (rInA X.K) := op_in_seq.or ((op_inD hu).or (op_din (by omega)))
theorem op_notInA {X : Cx} (hu : X.A.units + 65 < cLine) : OpR X (compareOp .NotIn) (rNotInA X.K) := op_notIn_seq.or ((op_notInD hu).or (op_dnotin (by omega)))
theorem inSeq_of (ok : G.Ok) (hR : HR G r H h) {x : Val} {v : V} {ys : List Val} {us : List V} {b : Bool} {a : Addr} (hx : VR G r H x v) (hs : SqL G.K H a us) (hy : VRs G r H ys us) (e : inSeq x h ys = some b) :
    ∃ (d : PyData) (ds : List PyData), Dp G.K H v d ∧ Dp G.K H (.ref a) (.list ds) ∧ SeqAt.shaped d = true ∧ SeqAt.shaped (.list ds) = true ∧ (ds.any fun z => PyData.eqv z d) = b := by
  unfold inSeq at e
  split at e
  · rename_i d ds e1 e2
    cases e
    obtain ⟨d1, w1⟩ := conv_dp hR _ _ _ _ hx e1
    obtain ⟨d2, w2⟩ := optAll_dp (fun x v d => conv_dp hR 59 x v d) _ _ _ hy e2
    refine ⟨_, _, d1, .lst hs d2, shaped_py ok w1 (by decide), ?_, any_py ok w1 ds w2⟩
    have : (D.lst ds).wf G.sts.length 60 = true := by simpa [D.wf] using w2
    have := shaped_py ok this (by decide)
    simpa [D.py] using this
  · cases e
theorem rf_in (ok : G.Ok) : Rf2 G E (rInA G.K) (oIn false) := by
  refine ⟨fun r H h x y v u Q hR a b p => ?_⟩
  cases b with
  | tup hb vb =>
    simp only [oIn] at p
    split at p
    · rename_i f
      refine .inl ⟨_, _, rfl, .inr hb.1, flat_of a f.1, all_flat vb f.2, ?_⟩
      rw [if_neg (by decide), ← any_feq ok a vb f.2]
      exact p.here hR (.bl _)
    · exact p.elim
  | @ref n c ec =>
    simp only [oIn] at p
    split at p
    · rename_i ys ey
      cases hR.ob _ _ _ ey ec with
      | lst hl hv =>
        split at p
        · rename_i z ez
          obtain ⟨d, ds, q1, q2, q3, q4, q5⟩ := inSeq_of ok hR a (SqL.of hl) hv ez
          refine .inr (.inl ⟨d, ds, q1, q2, q3, q4, ?_⟩)
          rw [q5]
          exact p.here hR (.bl _)
        · exact p.elim
    · rename_i d ed
      cases hR.ob _ _ _ ed ec with
      | dct hd hv =>
        split at p
        · rename_i hk
          obtain ⟨q, kq, rfl⟩ := KR.of a hk
          refine .inr (.inr ⟨_, _, rfl, DGet.k hd, ?_⟩)
          have := p.here hR (.bl _)
          rcases hv.look ok kq with ⟨e1, e2⟩ | ⟨x', v', e1, e2, _⟩
          · rw [e2]
            rw [e1] at this
            exact this
          · rw [e2]
            rw [e1] at this
            exact this
        · exact p.elim
    · rename_i d ed
      cases hR.ob _ _ _ ed ec with
      | fdc hd hv =>
        split at p
        · rename_i hk
          obtain ⟨q, kq, rfl⟩ := KR.of a hk
          refine .inr (.inr ⟨_, _, rfl, DGet_kf hd, ?_⟩)
          have := p.here hR (.bl _)
          rcases hv.look ok kq with ⟨e1, e2⟩ | ⟨x', v', e1, e2, _⟩
          · rw [e2]
            rw [e1] at this
            exact this
          · rw [e2]
            rw [e1] at this
            exact this
        · exact p.elim
    · exact p.elim
  | _ => exact False.elim p
theorem rf_notin (ok : G.Ok) : Rf2 G E (rNotInA G.K) (oIn true) := by
  refine ⟨fun r H h x y v u Q hR a b p => ?_⟩
  cases b with
  | tup hb vb =>
    simp only [oIn] at p
    split at p
    · rename_i f
      refine .inl ⟨_, _, rfl, .inr hb.1, flat_of a f.1, all_flat vb f.2, ?_⟩
      rw [if_pos rfl, ← any_feq ok a vb f.2]
      exact p.here hR (.bl _)
    · exact p.elim
  | @ref n c ec =>
    simp only [oIn] at p
    split at p
    · rename_i ys ey
      cases hR.ob _ _ _ ey ec with
      | lst hl hv =>
        split at p
        · rename_i z ez
          obtain ⟨d, ds, q1, q2, q3, q4, q5⟩ := inSeq_of ok hR a (SqL.of hl) hv ez
          refine .inr (.inl ⟨d, ds, q1, q2, q3, q4, ?_⟩)
          rw [q5]
          exact p.here hR (.bl _)
        · exact p.elim
    · rename_i d ed
      cases hR.ob _ _ _ ed ec with
      | dct hd hv =>
        split at p
        · rename_i hk
          obtain ⟨q, kq, rfl⟩ := KR.of a hk
          refine .inr (.inr ⟨_, _, rfl, DGet.k hd, ?_⟩)
          have := p.here hR (.bl _)
          rcases hv.look ok kq with ⟨e1, e2⟩ | ⟨x', v', e1, e2, _⟩
          · rw [e2]
            rw [e1] at this
            exact this
          · rw [e2]
            rw [e1] at this
            exact this
        · exact p.elim
    · rename_i d ed
      cases hR.ob _ _ _ ed ec with
      | fdc hd hv =>
        split at p
        · rename_i hk
          obtain ⟨q, kq, rfl⟩ := KR.of a hk
          refine .inr (.inr ⟨_, _, rfl, DGet_kf hd, ?_⟩)
          have := p.here hR (.bl _)
          rcases hv.look ok kq with ⟨e1, e2⟩ | ⟨x', v', e1, e2, _⟩
          · rw [e2]
            rw [e1] at this
            exact this
          · rw [e2]
            rw [e1] at this
            exact this
        · exact p.elim
    · exact p.elim
  | _ => exact False.elim p
end
end PyM

set_option Elab.async false
set_option linter.all false
set_option maxRecDepth 100000
set_option autoImplicit false
namespace PyM
open PySem L2

theorem pc_of {X : Cx} {a b : Expr} {ta tb : TE} {op : CmpOp} {r : R2} (ho : OpR X (compareOp op) r) (ha : PE X a ta) (hb : PE X b tb) : PC X op a b (tOp r ta tb) :=
  ⟨fun pins s σ H Q I h => bin ha hb I h fun v u s2 x y H2 I2 rx ry q => ho pins s2 σ H2 x y v u Q I2 rx ry q⟩

/-- truth -/
def truth (x : Val) (h : Heap) : Option Bool := match x with
  | .non => some false
  | .bl b => some b
  | .int i => some (i != 0)
  | .tup xs => some (!xs.isEmpty)
  | .ref a => match h[a]? with
    | some (.lst xs) => some (!xs.isEmpty)
    | some (.fls xs) => some (!xs.isEmpty)
    | some (.dct d) => some (!d.isEmpty)
    | _ => none
  | .str _ => none
def tB_ (ma : En → Heap → Res Val) (s : En) (h : Heap) : Res Bool := (ma s h).bind fun x h1 => match x with
  | .bl b => .ok b h1
  | _ => .stuck
def tTr (ma : En → Heap → Res Val) (s : En) (h : Heap) : Res Bool := (ma s h).bind fun x h1 => match truth x h1 with
  | some b => .ok b h1
  | none => .stuck
def tNo (m : En → Heap → Res Bool) (s : En) (h : Heap) : Res Bool := (m s h).bind fun b h1 => .ok (!b) h1
def tAn (m n : En → Heap → Res Bool) (s : En) (h : Heap) : Res Bool := (m s h).bind fun b h1 => if b = true then n s h1 else .ok false h1
def tOr_ (m n : En → Heap → Res Bool) (s : En) (h : Heap) : Res Bool := (m s h).bind fun b h1 => if b = true then .ok true h1 else n s h1
def mAn (m n : En → Heap → Res Val) (s : En) (h : Heap) : Res Val := (m s h).bind fun x h1 => match x with
  | .bl b => if b = true then n s h1 else .ok (.bl false) h1
  | _ => .stuck
def mOr_ (m n : En → Heap → Res Val) (s : En) (h : Heap) : Res Val := (m s h).bind fun x h1 => match x with
  | .bl b => if b = true then .ok (.bl true) h1 else n s h1
  | _ => .stuck
def mNo (m : En → Heap → Res Val) (s : En) (h : Heap) : Res Val := (m s h).bind fun x h1 => match x with
  | .bl b => .ok (.bl (!b)) h1
  | _ => .stuck
def mIf (t : En → Heap → Res Bool) (m n : En → Heap → Res Val) (s : En) (h : Heap) : Res Val := (t s h).bind fun b h1 => if b = true then m s h1 else n s h1
/-- a op b op' c, over ints -/
def mCh (p q : Int → Int → Bool) (ma mb mc : En → Heap → Res Val) (s : En) (h : Heap) : Res Val := (ma s h).bind fun x h1 => (mb s h1).bind fun y h2 => match x, y with
  | .int i, .int j => if p i j = true then (mc s h2).bind fun z h3 => match z with
      | .int k => .ok (.bl (q j k)) h3
      | _ => .stuck
    else .ok (.bl false) h2
  | _, _ => .stuck
def mTup (ma : En → Heap → Res (List Val)) (s : En) (h : Heap) : Res Val := (ma s h).bind fun xs h1 => if xs.length ≤ lim then .ok (.tup xs) h1 else .stuck
def mLst (ma : En → Heap → Res (List Val)) (s : En) (h : Heap) : Res Val := (ma s h).bind fun xs h1 => if xs.length ≤ lim then .ok (.ref h1.length) (h1 ++ [.lst xs]) else .stuck
def mDct (_ : En) (h : Heap) : Res Val := .ok (.ref h.length) (h ++ [.dct []])
def lookF (f : Nat) : List (Nat × Val) → Option Val
  | [] => none
  | (g, x) :: r => if g = f then some x else lookF f r
def setF (f : Nat) (x : Val) : List (Nat × Val) → List (Nat × Val)
  | [] => [(f, x)]
  | (g, y) :: r => if g = f then (f, x) :: r else (g, y) :: setF f x r
def getF (f : Nat) (x : Val) (h : Heap) : Res Val := match x with
  | .ref a => match h[a]? with
    | some (.ins c fs) => match lookF f fs with
      | some v => .ok v h
      | none => .stuck
    | _ => .stuck
  | _ => .stuck
/-- a[i]: a list, a tuple, a dict with keys that are ints or texts -/
def oIx (x y : Val) (h : Heap) : Res Val := match x with
  | .tup xs => match y with
    | .int i => match atI xs i with
      | some v => .ok v h
      | none => .stuck
    | _ => .stuck
  | .ref a => match h[a]? with
    | some (.lst xs) => match y with
      | .int i => match atI xs i with
        | some v => .ok v h
        | none => .stuck
      | _ => .stuck
    | some (.fls xs) => match y with
      | .int i => match atI xs i with
        | some v => .ok v h
        | none => .stuck
      | _ => .stuck
    | some (.dct d) => if isKey y = true then match lookV d y with
        | some v => .ok v h
        | none => .stuck
      else .stuck
    | some (.fdc d) => if isKey y = true then match lookV d y with
        | some v => .ok v h
        | none => .stuck
      else .stuck
    | _ => .stuck
  | _ => .stuck
def cut (xs : List Val) (lo hi : Option Int) : List Val := (xs.drop (HT.sIx xs.length 0 lo)).take (HT.sIx xs.length xs.length hi - HT.sIx xs.length 0 lo)
def oSl (x : Val) (lo hi : Option Int) (h : Heap) : Res Val := match x with
  | .tup xs => .ok (.tup (cut xs lo hi)) h
  | .ref a => match h[a]? with
    | some (.lst xs) => .ok (.ref h.length) (h ++ [.lst (cut xs lo hi)])
    | some (.fls xs) => .ok (.ref h.length) (h ++ [.lst (cut xs lo hi)])
    | _ => .stuck
  | _ => .stuck
def pNo (_ : En) (h : Heap) : Res (Option Int) := .ok none h
def pSo (m : En → Heap → Res Val) (s : En) (h : Heap) : Res (Option Int) := (m s h).bind fun x h1 => match x with
  | .int i => .ok (some i) h1
  | _ => .stuck
def mSl (m : En → Heap → Res Val) (p q : En → Heap → Res (Option Int)) (s : En) (h : Heap) : Res Val := (m s h).bind fun x h1 => (p s h1).bind fun lo h2 => (q s h2).bind fun hi h3 => oSl x lo hi h3
/-- the second way where the first is stuck -/
def mAlt (m n : En → Heap → Res Val) (s : En) (h : Heap) : Res Val := match m s h with
  | .stuck => n s h
  | x => x

section
variable {G : Cfg} {E : XK} {X : Cx} {k : Nat} {a b c e : Expr} {ta tb tc : TE} {ma mb mc : En → Heap → Res Val} {pos : Pos} {u v w : TT} {mu mv : En → Heap → Res Bool}
abbrev XCu (G : Cfg) (E : XK) (X : Cx) (k : Nat) := XC G E X k
theorem XC.hu (C : XC G E X k) : X.A.units + 65 < cLine := by have := C.room.un; omega

/-! ### two-place operators -/
theorem me_add (C : XC G E X k) (ha : ME G E X a ta ma) (hb : ME G E X b tb mb) : ME G E X (.BinOp a .Add b pos) (tOp (rAdd G.K) ta tb) (mB oAdd ma mb) := by
  refine ⟨?_, ha.rf.b2 hb.rf rf_add⟩
  have := pe_op (pos := pos) (op_addM (X := X)) ha.pe hb.pe
  rwa [C.K] at this
theorem me_sub (ha : ME G E X a ta ma) (hb : ME G E X b tb mb) : ME G E X (.BinOp a .Sub b pos) (tOp (rI0 fun i j => .int (i - j)) ta tb) (mB (oI fun i j => .int (i - j)) ma mb) := ⟨pe_op op_sub ha.pe hb.pe, ha.rf.b2 hb.rf (rf_I0 (g := fun i j => i - j))⟩
theorem me_mul (C : XC G E X k) (ha : ME G E X a ta ma) (hb : ME G E X b tb mb) : ME G E X (.BinOp a .Mult b pos) (tOp (rMulA G.K) ta tb) (mB oMul ma mb) := by
  refine ⟨?_, ha.rf.b2 hb.rf rf_mul⟩
  have := pe_op (pos := pos) (op_mulA (X := X)) ha.pe hb.pe
  rwa [C.K] at this
theorem me_fdiv (ha : ME G E X a ta ma) (hb : ME G E X b tb mb) : ME G E X (.BinOp a .FloorDiv b pos) (tOp (rI CDiv fun i j => .int (i / j)) ta tb) (mB (oIC (fun _ j => decide (0 < j ∧ j < 1073741824)) fun i j => .int (i / j)) ma mb) :=
  ⟨pe_op op_fdiv ha.pe hb.pe, ha.rf.b2 hb.rf (rf_IC (fun i j e => by simpa [CDiv] using e))⟩
theorem me_mod (ha : ME G E X a ta ma) (hb : ME G E X b tb mb) : ME G E X (.BinOp a .Mod b pos) (tOp (rI (fun _ j => 0 < j) fun i j => .int (i % j)) ta tb) (mB (oIC (fun _ j => decide (0 < j)) fun i j => .int (i % j)) ma mb) :=
  ⟨pe_op op_mod ha.pe hb.pe, ha.rf.b2 hb.rf (rf_IC (fun i j e => by simpa using e))⟩
def cPow (i j : Int) : Bool := decide (0 ≤ j ∧ j ≤ 1000000 ∧ i.natAbs < 2 ^ 64)
theorem me_pow (ha : ME G E X a ta ma) (hb : ME G E X b tb mb) : ME G E X (.BinOp a .Pow b pos) (tOp (rI CPow fun i j => .int (i ^ j.toNat)) ta tb) (mB (oIC cPow fun i j => .int (i ^ j.toNat)) ma mb) :=
  ⟨pe_op op_pow ha.pe hb.pe, ha.rf.b2 hb.rf (rf_IC (fun i j e => by simpa [CPow, cPow] using e))⟩
theorem me_shl (ha : ME G E X a ta ma) (hb : ME G E X b tb mb) : ME G E X (.BinOp a .LShift b pos) (tOp (rI CPow fun i j => .int (i * 2 ^ j.toNat)) ta tb) (mB (oIC cPow fun i j => .int (i * 2 ^ j.toNat)) ma mb) :=
  ⟨pe_op op_shl ha.pe hb.pe, ha.rf.b2 hb.rf (rf_IC (fun i j e => by simpa [CPow, cPow] using e))⟩
theorem me_shr (ha : ME G E X a ta ma) (hb : ME G E X b tb mb) : ME G E X (.BinOp a .RShift b pos) (tOp (rI (fun _ j => 0 ≤ j) fun i j => .int (i / 2 ^ j.toNat)) ta tb) (mB (oIC (fun _ j => decide (0 ≤ j)) fun i j => .int (i / 2 ^ j.toNat)) ma mb) :=
  ⟨pe_op op_shr ha.pe hb.pe, ha.rf.b2 hb.rf (rf_IC (fun i j e => by simpa using e))⟩
theorem me_and (ha : ME G E X a ta ma) (hb : ME G E X b tb mb) : ME G E X (.BinOp a .BitAnd b pos) (tOp (rI0 fun i j => .int (Builtin.bitAnd i j)) ta tb) (mB (oI fun i j => .int (Builtin.bitAnd i j)) ma mb) := ⟨pe_op op_and ha.pe hb.pe, ha.rf.b2 hb.rf rf_I0⟩
theorem me_or (ha : ME G E X a ta ma) (hb : ME G E X b tb mb) : ME G E X (.BinOp a .BitOr b pos) (tOp (rI0 fun i j => .int (Builtin.bitOr i j)) ta tb) (mB (oI fun i j => .int (Builtin.bitOr i j)) ma mb) := ⟨pe_op op_or ha.pe hb.pe, ha.rf.b2 hb.rf rf_I0⟩
theorem me_xor (ha : ME G E X a ta ma) (hb : ME G E X b tb mb) : ME G E X (.BinOp a .BitXor b pos) (tOp (rI0 fun i j => .int (Builtin.bitXor i j)) ta tb) (mB (oI fun i j => .int (Builtin.bitXor i j)) ma mb) := ⟨pe_op op_xor ha.pe hb.pe, ha.rf.b2 hb.rf rf_I0⟩
theorem me_neg (ha : ME G E X a ta ma) : ME G E X (.UnaryOp .USub a pos) (tUn (rU fun i => .int (-i)) ta) (mU oNeg ma) := by
  refine ⟨pe_un un_neg ha.pe, ha.rf.u1 ⟨fun r H h x v Q hR q p => ?_⟩⟩
  cases q with
  | int i => exact ⟨i, rfl, p.here hR (.int _)⟩
  | _ => exact False.elim p

/-! ### comparisons -/
theorem mc_eq (ok : G.Ok) (C : XC G E X k) (ha : ME G E X a ta ma) (hb : ME G E X b tb mb) : MC G E X .Eq a b (tOp (rEqD G.K) ta tb) (mB (oEq false) ma mb) := by
  refine ⟨?_, ha.rf.b2 hb.rf (rf_eq ok)⟩
  have := pc_of (op_eqD (X := X) (by have := C.hu; omega)) ha.pe hb.pe
  rwa [C.K] at this
theorem mc_ne (ok : G.Ok) (C : XC G E X k) (ha : ME G E X a ta ma) (hb : ME G E X b tb mb) : MC G E X .NotEq a b (tOp (rNeD G.K) ta tb) (mB (oEq true) ma mb) := by
  refine ⟨?_, ha.rf.b2 hb.rf (rf_ne ok)⟩
  have := pc_of (op_neD (X := X) (by have := C.hu; omega)) ha.pe hb.pe
  rwa [C.K] at this
theorem mc_lt (ha : ME G E X a ta ma) (hb : ME G E X b tb mb) : MC G E X .Lt a b (tOp (rI0 fun i j => .bl (decide (i < j))) ta tb) (mB (oI fun i j => .bl (decide (i < j))) ma mb) := ⟨pc_of op_lt ha.pe hb.pe, ha.rf.b2 hb.rf rf_B0⟩
theorem mc_le (ha : ME G E X a ta ma) (hb : ME G E X b tb mb) : MC G E X .LtE a b (tOp (rI0 fun i j => .bl (decide (i ≤ j))) ta tb) (mB (oI fun i j => .bl (decide (i ≤ j))) ma mb) := ⟨pc_of op_le ha.pe hb.pe, ha.rf.b2 hb.rf rf_B0⟩
theorem mc_gt (ha : ME G E X a ta ma) (hb : ME G E X b tb mb) : MC G E X .Gt a b (tOp (rI0 fun i j => .bl (decide (j < i))) ta tb) (mB (oI fun i j => .bl (decide (j < i))) ma mb) := ⟨pc_of op_gt ha.pe hb.pe, ha.rf.b2 hb.rf (rf_B0 (g := fun i j => decide (j < i)))⟩
theorem mc_ge (ha : ME G E X a ta ma) (hb : ME G E X b tb mb) : MC G E X .GtE a b (tOp (rI0 fun i j => .bl (decide (j ≤ i))) ta tb) (mB (oI fun i j => .bl (decide (j ≤ i))) ma mb) := ⟨pc_of op_ge ha.pe hb.pe, ha.rf.b2 hb.rf (rf_B0 (g := fun i j => decide (j ≤ i)))⟩
theorem mc_in (ok : G.Ok) (C : XC G E X k) (ha : ME G E X a ta ma) (hb : ME G E X b tb mb) : MC G E X .In a b (tOp (rInA G.K) ta tb) (mB (oIn false) ma mb) := by
  refine ⟨?_, ha.rf.b2 hb.rf (rf_in ok)⟩
  have := pc_of (op_inA (X := X) C.hu) ha.pe hb.pe
  rwa [C.K] at this
theorem mc_notin (ok : G.Ok) (C : XC G E X k) (ha : ME G E X a ta ma) (hb : ME G E X b tb mb) : MC G E X .NotIn a b (tOp (rNotInA G.K) ta tb) (mB (oIn true) ma mb) := by
  refine ⟨?_, ha.rf.b2 hb.rf (rf_notin ok)⟩
  have := pc_of (op_notInA (X := X) C.hu) ha.pe hb.pe
  rwa [C.K] at this
theorem rf_isN (h1 : Rf G E ta ma) : Rf G E (tIsN ta) (mU (oIsN false) ma) := by
  refine ⟨fun r H h s σ Q hR sR p => h1.run r H h s σ _ hR sR (p.seq fun x h1' r1 H1 v s1 hR1 v1 p1 => ?_)⟩
  have := p1.here hR1 (.bl _)
  cases v1 <;> exact this
theorem rf_notN (h1 : Rf G E ta ma) : Rf G E (tNotN ta) (mU (oIsN true) ma) := by
  refine ⟨fun r H h s σ Q hR sR p => h1.run r H h s σ _ hR sR (p.seq fun x h1' r1 H1 v s1 hR1 v1 p1 => ?_)⟩
  have := p1.here hR1 (.bl _)
  cases v1 <;> exact this
theorem mc_isN {j pos'} (ha : ME G E X a ta ma) : MC G E X .Is a (.Constant .none j pos') (tIsN ta) (mU (oIsN false) ma) := ⟨pc_isN ha.pe, rf_isN ha.rf⟩
theorem mc_notN {j pos'} (ha : ME G E X a ta ma) : MC G E X .IsNot a (.Constant .none j pos') (tNotN ta) (mU (oIsN true) ma) := ⟨pc_notN ha.pe, rf_notN ha.rf⟩
theorem me_cmp {op : CmpOp} {t : TE} {m} (h : MC G E X op a b t m) (h1 : behindInMarks op b = false := by first | exact nobehind _ (by decide) (by decide) | rfl) : ME G E X (.Compare a [op] [b] pos) t m := ⟨pe_cmp h.pe h1, h.rf⟩
theorem rf_tB {t : TE} {m} (h : Rf G E t m) : RfT G E (tB t) (tB_ m) := by
  refine ⟨fun r H h' s σ Q hR sR p => h.run r H h' s σ _ hR sR (p.seq fun x h1' r1 H1 v s1 hR1 v1 p1 => ?_)⟩
  cases v1 with
  | bl b => exact ⟨b, rfl, p1.here hR1 rfl⟩
  | _ => exact False.elim p1
theorem mt_cmp {op : CmpOp} {t : TE} {m} (h : MC G E X op a b t m) (h1 : behindInMarks op b = false := by first | exact nobehind _ (by decide) (by decide) | rfl) : MT G E X (.Compare a [op] [b] pos) (tB t) (tB_ m) := ⟨pt_cmp h.pe h1, rf_tB h.rf⟩
/-- a chain over ints -/
theorem rf_ch {p q : Int → Int → Bool} (h1 : Rf G E ta ma) (h2 : Rf G E tb mb) (h3 : Rf G E tc mc) : Rf G E (tChain (rI0 fun i j => .bl (p i j)) (rI0 fun i j => .bl (q i j)) ta tb tc) (mCh p q ma mb mc) := by
  refine ⟨fun r H h s σ Q hR sR z => ?_⟩
  refine h1.run r H h s σ _ hR sR (z.seq fun x h1' r1 H1 v s1 hR1 v1 p1 => ?_)
  refine h2.run r1 H1 h1' s σ _ hR1 (sR.mono s1) (p1.seq fun y h2' r2 H2 u s2 hR2 v2 p2 => ?_)
  have v1' := v1.mono s2
  cases v1' with
  | int i => cases v2 with
    | int j =>
      refine ⟨i, j, rfl, rfl, _, rfl, ?_⟩
      simp only at p2
      split at p2
      · rename_i hp
        rw [if_pos hp]
        refine h3.run r2 H2 h2' s σ _ hR2 (sR.mono (s1.trans s2)) (p2.seq fun z h3' r3 H3 w s3 hR3 v3 p3 => ?_)
        cases v3 with
        | int k => exact ⟨j, k, rfl, rfl, p3.here hR3 (.bl _)⟩
        | _ => exact False.elim p3
      · rename_i hp
        rw [if_neg hp]
        exact p2.here hR2 (.bl _)
    | _ => exact False.elim p2
  | _ => exact False.elim p2
theorem op_leB : OpR X (compareOp .LtE) (rI0 fun i j => .bl (decide (i ≤ j))) := op_le
theorem me_chLeLe (ha : ME G E X a ta ma) (hb : ME G E X b tb mb) (hc : ME G E X c tc mc) (hm : lastMarks [.LtE, .LtE] [b, c] = false := by with_unfolding_all rfl) : ME G E X (.Compare a [.LtE, .LtE] [b, c] pos) (tChain (rI0 fun i j => .bl (decide (i ≤ j))) (rI0 fun i j => .bl (decide (i ≤ j))) ta tb tc) (mCh (fun i j => decide (i ≤ j)) (fun i j => decide (i ≤ j)) ma mb mc) :=
  ⟨pe_chain op_le op_le ha.pe hb.pe hc.pe hm, rf_ch ha.rf hb.rf hc.rf⟩
theorem me_chLeLt (ha : ME G E X a ta ma) (hb : ME G E X b tb mb) (hc : ME G E X c tc mc) (hm : lastMarks [.LtE, .Lt] [b, c] = false := by with_unfolding_all rfl) : ME G E X (.Compare a [.LtE, .Lt] [b, c] pos) (tChain (rI0 fun i j => .bl (decide (i ≤ j))) (rI0 fun i j => .bl (decide (i < j))) ta tb tc) (mCh (fun i j => decide (i ≤ j)) (fun i j => decide (i < j)) ma mb mc) :=
  ⟨pe_chain op_le op_lt ha.pe hb.pe hc.pe hm, rf_ch ha.rf hb.rf hc.rf⟩
theorem rf_tT {t : TE} {m} (h : Rf G E t m) : RfT G E (tTest t) (tB_ m) := by
  refine ⟨fun r H h' s σ Q hR sR p => h.run r H h' s σ _ hR sR (p.seq fun x h1' r1 H1 v s1 hR1 v1 p1 => ?_)⟩
  cases v1 with
  | bl b => exact ⟨b, rfl, p1.here hR1 rfl⟩
  | _ => exact False.elim p1
theorem mt_chLeLe (ha : ME G E X a ta ma) (hb : ME G E X b tb mb) (hc : ME G E X c tc mc) (hm : lastMarks [.LtE, .LtE] [b, c] = false := by with_unfolding_all rfl) : MT G E X (.Compare a [.LtE, .LtE] [b, c] pos) (tTest (tChain (rI0 fun i j => .bl (decide (i ≤ j))) (rI0 fun i j => .bl (decide (i ≤ j))) ta tb tc)) (tB_ (mCh (fun i j => decide (i ≤ j)) (fun i j => decide (i ≤ j)) ma mb mc)) :=
  ⟨pt_chain op_le op_le ha.pe hb.pe hc.pe hm, rf_tT (rf_ch ha.rf hb.rf hc.rf)⟩
theorem mt_chLeLt (ha : ME G E X a ta ma) (hb : ME G E X b tb mb) (hc : ME G E X c tc mc) (hm : lastMarks [.LtE, .Lt] [b, c] = false := by with_unfolding_all rfl) : MT G E X (.Compare a [.LtE, .Lt] [b, c] pos) (tTest (tChain (rI0 fun i j => .bl (decide (i ≤ j))) (rI0 fun i j => .bl (decide (i < j))) ta tb tc)) (tB_ (mCh (fun i j => decide (i ≤ j)) (fun i j => decide (i < j)) ma mb mc)) :=
  ⟨pt_chain op_le op_lt ha.pe hb.pe hc.pe hm, rf_tT (rf_ch ha.rf hb.rf hc.rf)⟩

/-! ### truth, and, or, not, if -/
theorem mt_tr (C : XC G E X k) (ha : ME G E X a ta ma) (he : ∀ whole, isTrue a X.env whole = (do let v ← whole; standAt a.pos; holding [v] (truthy v)) := by intro _; rfl) : MT G E X a (fun σ H Q => ta σ H fun x H' => ∃ k, TruV G.K x H' k ∧ Q k H') (tTr ma) := by
  refine ⟨?_, ⟨fun r H h s σ Q hR sR p => ?_⟩⟩
  · have := pt_truth ha.pe he
    rwa [C.K] at this
  · refine ha.rf.run r H h s σ _ hR sR (p.seq fun x h1' r1 H1 v s1 hR1 v1 p1 => ?_)
    cases v1 with
    | non => exact ⟨_, rfl, p1.here hR1 rfl⟩
    | bl b => exact ⟨_, rfl, p1.here hR1 rfl⟩
    | int i => exact ⟨_, rfl, p1.here hR1 rfl⟩
    | str e => exact False.elim p1
    | tup hs hv =>
      have q := p1.here hR1 rfl
      cases hv with
      | nil => exact ⟨_, .inr (.inl ⟨_, hs.1, rfl⟩), q⟩
      | cons _ _ => exact ⟨_, .inr (.inl ⟨_, hs.1, rfl⟩), q⟩
    | @ref n a ea =>
      simp only [truth] at p1
      cases eo : h1'[n]? with
      | none => rw [eo] at p1; exact False.elim p1
      | some o =>
        rw [eo] at p1
        cases o with
        | lst xs => cases hR1.ob _ _ _ eo ea with
          | lst hl hv =>
            have q := p1.here hR1 rfl
            cases hv with
            | nil => exact ⟨_, .inl ⟨_, SqL.of hl, rfl⟩, q⟩
            | cons _ _ => exact ⟨_, .inl ⟨_, SqL.of hl, rfl⟩, q⟩
        | fls xs => cases hR1.ob _ _ _ eo ea with
          | fls hl hv =>
            have q := p1.here hR1 rfl
            cases hv with
            | nil => exact ⟨_, .inl ⟨_, hl.sq, rfl⟩, q⟩
            | cons _ _ => exact ⟨_, .inl ⟨_, hl.sq, rfl⟩, q⟩
        | dct d => cases hR1.ob _ _ _ eo ea with
          | dct hl hv =>
            have q := p1.here hR1 rfl
            cases hv with
            | nil => exact ⟨_, .inr (.inr ⟨_, hl, rfl⟩), q⟩
            | cons _ _ => exact ⟨_, .inr (.inr ⟨_, hl, rfl⟩), q⟩
        | dcT d => exact False.elim p1
        | fdc d => exact False.elim p1
        | fdT d => exact False.elim p1
        | tpl d => exact False.elim p1
        | ins _ _ => exact False.elim p1
variable {rest : List Expr}
theorem MW.mt (h : MW G E X a u mu) : MT G E X a u mu := ⟨h.pe.pt, h.rf⟩
theorem mw_and1 (h : MT G E X a u mu) : MW G E X (.BoolOp .And [a] pos) u mu := ⟨pw_and1 h.pe, h.rf⟩
theorem mw_or1 (h : MT G E X a u mu) : MW G E X (.BoolOp .Or [a] pos) u mu := ⟨pw_or1 h.pe, h.rf⟩
theorem mw_and (h : MT G E X a u mu) (h2 : MW G E X (.BoolOp .And (b :: rest) pos) v mv) : MW G E X (.BoolOp .And (a :: b :: rest) pos) (tAnd u v) (tAn mu mv) := by
  refine ⟨pw_and h.pe h2.pe, ⟨fun r H h' s σ Q hR sR p => h.rf.run r H h' s σ _ hR sR (p.seq fun x h1' r1 H1 v s1 hR1 v1 p1 => ?_)⟩⟩
  subst v1
  split at p1
  · rename_i e
    rw [if_pos e]
    exact h2.rf.run r1 H1 h1' s σ _ hR1 (sR.mono s1) p1
  · rename_i e
    rw [if_neg e]
    exact p1.here hR1 rfl
theorem mw_or (h : MT G E X a u mu) (h2 : MW G E X (.BoolOp .Or (b :: rest) pos) v mv) : MW G E X (.BoolOp .Or (a :: b :: rest) pos) (tOr u v) (tOr_ mu mv) := by
  refine ⟨pw_or h.pe h2.pe, ⟨fun r H h' s σ Q hR sR p => h.rf.run r H h' s σ _ hR sR (p.seq fun x h1' r1 H1 v s1 hR1 v1 p1 => ?_)⟩⟩
  subst v1
  split at p1
  · rename_i e
    rw [if_pos e]
    exact p1.here hR1 rfl
  · rename_i e
    rw [if_neg e]
    exact h2.rf.run r1 H1 h1' s σ _ hR1 (sR.mono s1) p1
theorem mt_not (h : MT G E X a u mu) : MT G E X (.UnaryOp .Not a pos) (tNot u) (tNo mu) := 
  ⟨pt_not h.pe, ⟨fun r H h' s σ Q hR sR p => h.rf.run r H h' s σ _ hR sR (p.seq fun x h1' r1 H1 v s1 hR1 v1 p1 => by subst v1; exact p1.here hR1 rfl)⟩⟩
theorem me_one {op} (h : ME G E X a ta ma) : ME G E X (.BoolOp op [a] pos) ta ma := ⟨pe_one h.pe, h.rf⟩
theorem me_andV (h : ME G E X a ta ma) (h2 : ME G E X (.BoolOp .And (b :: rest) pos) tb mb) : ME G E X (.BoolOp .And (a :: b :: rest) pos) (tAndV ta tb) (mAn ma mb) := by
  refine ⟨pe_and h.pe h2.pe, ⟨fun r H h' s σ Q hR sR p => h.rf.run r H h' s σ _ hR sR (p.seq fun x h1' r1 H1 v s1 hR1 v1 p1 => ?_)⟩⟩
  cases v1 with
  | bl c =>
    refine ⟨c, rfl, ?_⟩
    simp only at p1
    split at p1
    · rename_i e
      rw [if_pos e]
      exact h2.rf.run r1 H1 h1' s σ _ hR1 (sR.mono s1) p1
    · rename_i e
      rw [if_neg e]
      exact p1.here hR1 (.bl _)
  | _ => exact False.elim p1
theorem me_orV (h : ME G E X a ta ma) (h2 : ME G E X (.BoolOp .Or (b :: rest) pos) tb mb) : ME G E X (.BoolOp .Or (a :: b :: rest) pos) (tOrV ta tb) (mOr_ ma mb) := by
  refine ⟨pe_or h.pe h2.pe, ⟨fun r H h' s σ Q hR sR p => h.rf.run r H h' s σ _ hR sR (p.seq fun x h1' r1 H1 v s1 hR1 v1 p1 => ?_)⟩⟩
  cases v1 with
  | bl c =>
    refine ⟨c, rfl, ?_⟩
    simp only at p1
    split at p1
    · rename_i e
      rw [if_pos e]
      exact p1.here hR1 (.bl _)
    · rename_i e
      rw [if_neg e]
      exact h2.rf.run r1 H1 h1' s σ _ hR1 (sR.mono s1) p1
  | _ => exact False.elim p1
theorem me_notV (h : ME G E X a ta ma) : ME G E X (.UnaryOp .Not a pos) (tNotV ta) (mNo ma) := by
  refine ⟨pe_not h.pe, ⟨fun r H h' s σ Q hR sR p => h.rf.run r H h' s σ _ hR sR (p.seq fun x h1' r1 H1 v s1 hR1 v1 p1 => ?_)⟩⟩
  cases v1 with
  | bl c => exact ⟨c, rfl, p1.here hR1 (.bl _)⟩
  | _ => exact False.elim p1
theorem me_if (ht : MT G E X c u mu) (h : ME G E X a ta ma) (h2 : ME G E X b tb mb) : ME G E X (.IfExp c a b pos) (tIf u ta tb) (mIf mu ma mb) := by
  refine ⟨pe_ifExp ht.pe h.pe h2.pe, ⟨fun r H h' s σ Q hR sR p => ht.rf.run r H h' s σ _ hR sR (p.seq fun x h1' r1 H1 v s1 hR1 v1 p1 => ?_)⟩⟩
  subst v1
  split at p1
  · rename_i e
    rw [if_pos e]
    exact h.rf.run r1 H1 h1' s σ _ hR1 (sR.mono s1) p1
  · rename_i e
    rw [if_neg e]
    exact h2.rf.run r1 H1 h1' s σ _ hR1 (sR.mono s1) p1

/-! ### displays, attributes, subscripts -/
variable {es : List Expr} {tes : TA} {mas : En → Heap → Res (List Val)}
theorem me_tup {x1} (h : MA G E X es tes mas) : ME G E X (.Tuple es x1 pos) (tTup tes) (mTup mas) := by
  refine ⟨pe_tup h.pe, ⟨fun r H h' s σ Q hR sR p => h.rf.run r H h' s σ _ hR sR (p.seq fun xs h1' r1 H1 vs s1 hR1 v1 p1 => ?_)⟩⟩
  split at p1
  · rename_i hl
    have := v1.len
    refine ⟨le_line (by omega), fun q hq => ?_⟩
    exact p1 r1 _ _ (Stp.new0 hq) (hR1.lay hq) (.tup (TQ.of upd_same) (v1.mono (Stp.new0 hq)))
  · exact False.elim p1
theorem me_lst (h : MA G E X es tes mas) : ME G E X (.List es pos) (tLst tes) (mLst mas) := by
  refine ⟨pe_lst h.pe, ⟨fun r H h' s σ Q hR sR p => h.rf.run r H h' s σ _ hR sR (p.seq fun xs h1' r1 H1 vs s1 hR1 v1 p1 => ?_)⟩⟩
  split at p1
  · rename_i hl
    have := v1.len
    refine ⟨le_line (by omega), fun q hq => ?_⟩
    refine p1 (r1 ++ [q]) _ _ (Stp.new hq) (hR1.push hq (.lst upd_same (v1.mono (Stp.new hq)))) (.ref ?_)
    rw [← hR1.len]
    simp
  · exact False.elim p1
theorem me_dict : ME G E X (.Dict [] [] pos) tDNewK mDct := by
  refine ⟨pe_dnewK, ⟨fun r H h s σ Q hR sR p q hq => ?_⟩⟩
  refine p (r ++ [q]) _ _ (Stp.new hq) (hR.push hq (.dct upd_same .nil)) (.ref ?_)
  rw [← hR.len]
  simp
theorem FR.look (ok : G.Ok) {r : List Addr} {H : Hp} {D : Addr} {fs gs} (q : FR G r H D fs gs) {f : Nat} {z : Str} (hz : G.nms[f]? = some z) : (lookF f fs = none ∧ gs.lookup z = none) ∨ ∃ x v, lookF f fs = some x ∧ gs.lookup z = some v ∧ VR G r H x v ∧ NoAttr G.K D z := by
  induction q with
  | nil => exact .inl ⟨rfl, rfl⟩
  | @cons g y x v fs gs hy na hv _ ih =>
    by_cases e : g = f
    · subst e
      rw [hz] at hy
      cases hy
      exact .inr ⟨x, v, by simp [lookF], by simp [List.lookup], hv, na⟩
    · have : z ≠ y := fun q => e (by
        subst q
        obtain ⟨h1, e1⟩ := List.getElem?_eq_some_iff.mp hy
        obtain ⟨h2, e2⟩ := List.getElem?_eq_some_iff.mp hz
        exact (List.getElem_inj ok.nn).mp (e1.trans e2.symm))
      have : (z == y) = false := beq_eq_false_iff_ne.mpr this
      simpa [lookF, List.lookup, e, this] using ih
theorem me_fld (ok : G.Ok) (C : XC G E X k) (f : Nat) {z : Str} (hz : G.nms[f]? = some z) (h : ME G E X a ta ma) (hb : attributeBase a z X.env (eval a X.env) = eval a X.env := by rfl) : ME G E X (.Attribute a z pos) (tFld G.K ta z) (mU (getF f) ma) := by
  refine ⟨?_, ⟨fun r H h' s σ Q hR sR p => h.rf.run r H h' s σ _ hR sR (p.seq fun x h1' r1 H1 v s1 hR1 v1 p1 => ?_)⟩⟩
  · have := pe_fld (pos := pos) h.pe hb
    rwa [C.K] at this
  · cases v1 with
    | @ref n a ea =>
      simp only [getF] at p1
      split at p1
      · rename_i c fs eo
        split at p1
        · rename_i y ey
          cases hR1.ob _ _ _ eo ea with
          | ins hc hC ho hf =>
            rcases hf.look ok hz with ⟨e1, _⟩ | ⟨x', v', e1, e2, v2, na⟩
            · rw [e1] at ey
              cases ey
            · rw [e1] at ey
              cases ey
              exact ⟨_, _, _, _, _, rfl, ho, hC, na, e2, p1.here hR1 v2⟩
        · exact False.elim p1
      · exact False.elim p1
    | _ => exact False.elim p1
end
end PyM

set_option Elab.async false
set_option linter.all false
set_option maxRecDepth 100000
set_option autoImplicit false
namespace PyM
open PySem L2 PyProof.Rows

/-! ### subscripts -/
def rDGetR : R2 := fun x y H Q => ∃ a v, x = .ref a ∧ DGet H a y (some v) ∧ Q v H
theorem ix_dict {X : Cx} (hu : X.A.units + 1 < cLine) : IxR X rDGetR := by
  intro value slice pins s σ H x y v u Q I rx ry h hs
  obtain ⟨a, z, rfl, g, q⟩ := h
  obtain rfl : v = Value.ref a := rx
  have hT := dict_typeIs I g
  unfold subscriptTail
  refine wpAny_bind ?_
  rw [getitemInPython_of_ne hT.not_modules]
  refine wpAny_bind (wpAny_specialOf hT PySem.F.slot_dict_getitem.lookup ?_)
  have fin : wpAny (model X.prog X.w) X.A (subscripted slice false (.ref a) u) (fun r s₃ => wpAny (model X.prog X.w) X.A (letTemporaryGo value (.ref a) r >>= fun _ => pure r) (EP X pins σ Q) X.xe s₃) X.xe s := by
    rw [hs]
    exact wpAny_operating (wpAny_mono (d_getItem hu I g ry (Q := EP X pins σ Q) fun w' s3 I3 rw' => ⟨z, H, I3, rw', q⟩) (fun r s₃ h₃ => wpAny_bind (wpAny_letTemporaryGo (wpAny_pure h₃))) fun _ _ x => x)
  first
    | exact wpAny_pure (wpAny_bind fin)
    | exact wpAny_bind (wpAny_pure (wpAny_bind fin))
    | exact wpAny_bind fin
def rIxA (K : PySem.W.Frag) : R2 := fun x y H Q => rIxL K x y H Q ∨ rIxT K x y H Q ∨ rDGetR x y H Q
theorem ix_all {X : Cx} (hu : X.A.units + 1 < cLine) : IxR X (rIxA X.K) := ix_list.or (ix_tup.or (ix_dict hu))
theorem atI_len {α β : Type} {xs : List α} {ys : List β} (e : xs.length = ys.length) {i : Int} {v : α} (h : atI xs i = some v) : ∃ j : Nat, xs[j]? = some v ∧ ∀ u, ys[j]? = some u → atI ys i = some u := by
  unfold atI at h ⊢
  rw [e] at h
  cases q : ixN ys.length i with
  | none => rw [q] at h; cases h
  | some j =>
    rw [q] at h
    exact ⟨j, h, fun u hu => hu⟩
section
variable {G : Cfg} {E : XK}
theorem rf_ix (ok : G.Ok) : Rf2 G E (rIxA G.K) oIx := by
  refine ⟨fun r H h x y v u Q hR a b p => ?_⟩
  cases a with
  | tup ha va =>
    simp only [oIx] at p
    split at p
    · split at p
      · rename_i z ez
        cases b
        obtain ⟨j, e1, e2⟩ := atI_len va.len ez
        obtain ⟨w, e3, vw⟩ := va.get e1
        exact .inr (.inl ⟨_, _, _, _, rfl, rfl, ha.1, e2 _ e3, p.here hR vw⟩)
      · exact False.elim p
    · exact False.elim p
  | @ref n a ea =>
    simp only [oIx] at p
    split at p
    · rename_i xs eo
      split at p
      · split at p
        · rename_i z ez
          cases b
          cases hR.ob _ _ _ eo ea with
          | lst hl va =>
            obtain ⟨j, e1, e2⟩ := atI_len va.len ez
            obtain ⟨w, e3, vw⟩ := va.get e1
            exact .inl ⟨_, _, _, _, rfl, rfl, SqL.of hl, e2 _ e3, p.here hR vw⟩
        · exact False.elim p
      · exact False.elim p
    · rename_i xs eo
      split at p
      · split at p
        · rename_i z ez
          cases b
          cases hR.ob _ _ _ eo ea with
          | fls hl va =>
            obtain ⟨j, e1, e2⟩ := atI_len va.len ez
            obtain ⟨w, e3, vw⟩ := va.get e1
            exact .inl ⟨_, _, _, _, rfl, rfl, hl.sq, e2 _ e3, p.here hR vw⟩
        · exact False.elim p
      · exact False.elim p
    · rename_i d eo
      split at p
      · rename_i hk
        split at p
        · rename_i z ez
          cases hR.ob _ _ _ eo ea with
          | dct hd hv =>
            obtain ⟨q, kq, rfl⟩ := KR.of b hk
            rcases hv.look ok kq with ⟨e1, _⟩ | ⟨x', v', e1, e2, v2⟩
            · rw [e1] at ez
              cases ez
            · rw [e1] at ez
              cases ez
              exact .inr (.inr ⟨_, _, rfl, by rw [← e2]; exact DGet.k hd, p.here hR v2⟩)
        · exact False.elim p
      · exact False.elim p
    · rename_i d eo
      split at p
      · rename_i hk
        split at p
        · rename_i z ez
          cases hR.ob _ _ _ eo ea with
          | fdc hd hv =>
            obtain ⟨q, kq, rfl⟩ := KR.of b hk
            rcases hv.look ok kq with ⟨e1, _⟩ | ⟨x', v', e1, e2, v2⟩
            · rw [e1] at ez
              cases ez
            · rw [e1] at ez
              cases ez
              exact .inr (.inr ⟨_, _, rfl, by rw [← e2]; exact DGet_kf hd, p.here hR v2⟩)
        · exact False.elim p
      · exact False.elim p
    · exact False.elim p
  | _ => exact False.elim p
theorem VRs.cut {r : List Addr} {H : Hp} {xs : List Val} {vs : List V} (a : VRs G r H xs vs) (lo hi : Option Int) : VRs G r H (PyM.cut xs lo hi) (cutV vs lo hi) := by
  unfold PyM.cut cutV
  rw [a.len]
  exact (a.drop _).take _
structure RfO (G : Cfg) (E : XK) (t : TO) (m : En → Heap → Res (Option Int)) : Prop where
  run : ∀ r H h s σ Q, HR G r H h → SR G r H s σ → PostR G (fun _ _ a b => a = b) r H E (m s h) Q → t σ H Q
structure MO (G : Cfg) (E : XK) (X : Cx) (e : Option Expr) (t : TO) (m : En → Heap → Res (Option Int)) : Prop where
  pe : PO X e t
  rf : RfO G E t m
def rSlAll (K : PySem.W.Frag) : V → Option Int → Option Int → Hp → VK → Prop := fun x lo hi H Q => rSlL K x lo hi H Q ∨ rSlA K x lo hi H Q
theorem rf_sl {r : List Addr} {H : Hp} {h : Heap} {x : Val} {v : V} {lo hi : Option Int} {Q : VK} (hR : HR G r H h) (a : VR G r H x v) (p : PostR G (VR G) r H E (oSl x lo hi h) Q) : rSlAll G.K v lo hi H Q := by
  cases a with
  | tup ha va =>
    refine .inr ⟨_, _, rfl, ha.1, fun e => ?_, fun _ q hq => ?_⟩
    · refine p.here hR (.tup ha ?_)
      unfold PyM.cut
      rw [va.len, e.1, e.2, ← va.len]
      simpa using va
    · exact p r _ _ (Stp.new0 hq) (hR.lay hq) (.tup (TQ.of upd_same) ((va.cut lo hi).mono (Stp.new0 hq)))
  | @ref n a ea =>
    simp only [oSl] at p
    split at p
    · rename_i xs eo
      cases hR.ob _ _ _ eo ea with
      | lst hl va =>
        refine .inl ⟨_, _, rfl, SqL.of hl, fun q hq => ?_⟩
        refine p (r ++ [q]) _ _ (Stp.new hq) (hR.push hq (.lst upd_same ((va.cut lo hi).mono (Stp.new hq)))) (.ref ?_)
        rw [← hR.len]
        simp
    · rename_i xs eo
      cases hR.ob _ _ _ eo ea with
      | fls hl va =>
        refine .inl ⟨_, _, rfl, hl.sq, fun q hq => ?_⟩
        refine p (r ++ [q]) _ _ (Stp.new hq) (hR.push hq (.lst upd_same ((va.cut lo hi).mono (Stp.new hq)))) (.ref ?_)
        rw [← hR.len]
        simp
    · exact False.elim p
  | _ => exact False.elim p
variable {X : Cx} {k : Nat} {a b c e : Expr} {ta tb tc : TE} {ma mb mc : En → Heap → Res Val} {pos p2 : Pos}
theorem me_ix (ok : G.Ok) (C : XC G E X k) (ha : ME G E X a ta ma) (hb : ME G E X b tb mb) (hs : PlainIx b := by exact fun _ _ => rfl) : ME G E X (.Subscript a b pos) (tOp (rIxA G.K) ta tb) (mB oIx ma mb) := by
  refine ⟨?_, ha.rf.b2 hb.rf (rf_ix ok)⟩
  have := pe_ix (pos := pos) (ix_all (X := X) (by have := C.hu; omega)) ha.pe hb.pe hs
  rwa [C.K] at this
theorem mo_no : MO G E X none tNoPart pNo := ⟨po_none, ⟨fun r H h s σ Q hR sR p => p.here hR rfl⟩⟩
theorem mo_so (ha : ME G E X a ta ma) : MO G E X (some a) (tPart ta) (pSo ma) := by
  refine ⟨po_some ha.pe, ⟨fun r H h s σ Q hR sR p => ha.rf.run r H h s σ _ hR sR (p.seq fun x h1' r1 H1 v s1 hR1 v1 p1 => ?_)⟩⟩
  cases v1 with
  | int i => exact ⟨i, rfl, p1.here hR1 rfl⟩
  | _ => exact False.elim p1
theorem me_sl {lo hi : Option Expr} {tl th : TO} {ml mh : En → Heap → Res (Option Int)} (C : XC G E X k) (ha : ME G E X a ta ma) (hl : MO G E X lo tl ml) (hh : MO G E X hi th mh) : ME G E X (.Subscript a (.Slice lo hi none p2) pos) (tSl (rSlAll G.K) ta tl th) (mSl ma ml mh) := by
  refine ⟨?_, ⟨fun r H h s σ Q hR sR p => ha.rf.run r H h s σ _ hR sR (p.seq fun x h1 r1 H1 v s1 hR1 v1 p1 => ?_)⟩⟩
  · have := pe_slice (p2 := p2) (pos := pos) ((sl_list (X := X)).or sl_tupA) ha.pe hl.pe hh.pe
    rw [C.K] at this
    exact this
  · refine hl.rf.run r1 H1 h1 s σ _ hR1 (sR.mono s1) (p1.seq fun lo' h2 r2 H2 _ s2 hR2 e2 p2 => ?_)
    refine hh.rf.run r2 H2 h2 s σ _ hR2 (sR.mono (s1.trans s2)) (p2.seq fun hi' h3 r3 H3 _ s3 hR3 e3 p3 => ?_)
    subst e2 e3
    exact rf_sl hR3 (v1.mono (s2.trans s3)) p3

/-! ### two ways -/
theorem pe_or2 {t t' : TE} (h : PE X e t) (h' : PE X e t') : PE X e (fun σ H Q => t σ H Q ∨ t' σ H Q) := ⟨fun pins s σ H Q I q => q.elim (h.run pins s σ H Q I) (h'.run pins s σ H Q I)⟩
theorem me_alt {t t' : TE} {m m' : En → Heap → Res Val} (h : ME G E X e t m) (h' : ME G E X e t' m') : ME G E X e (fun σ H Q => t σ H Q ∨ t' σ H Q) (mAlt m m') := by
  refine ⟨pe_or2 h.pe h'.pe, ⟨fun r H hh s σ Q hR sR p => ?_⟩⟩
  unfold mAlt at p
  cases q : m s hh with
  | stuck => rw [q] at p; exact .inr (h'.rf.run r H hh s σ Q hR sR p)
  | ok x y => rw [q] at p; exact .inl (h.rf.run r H hh s σ Q hR sR (by rw [q]; exact p))
  | raised x y => rw [q] at p; exact .inl (h.rf.run r H hh s σ Q hR sR (by rw [q]; exact p))
end

/-! ### calls -/
def spM (G : Cfg) (n : Nat) (m : List Val → Heap → Res Val) : Sp := fun vs H Q E => vs.length = n ∧ ∃ r h xs, HR G r H h ∧ VRs G r H xs vs ∧ PostR G (VR G) r H E (m xs h) Q
structure FnM (G : Cfg) (P : Program) (w : World) (mg : Str → Option Value) (base : PySem.Heap) (k : Nat) (f : Addr) (fd : FuncData) (ps : List Str) (m : List Val → Heap → Res Val) : Prop where
  ok : FnOk P w G.K mg base (L2.CX P w) k f fd ps (spM G ps.length m)
  st : ∀ xs h, xs.length ≠ ps.length → m xs h = .stuck
/-- the defaults of a def -/
structure DfM (G : Cfg) (xs : List Val) (vs : List V) (us : List Value) : Prop where
  v : Vals vs us
  r : ∀ r H, VRs G r H xs vs
theorem df_nil {G : Cfg} : DfM G [] [] [] := ⟨.nil, fun _ _ => .nil⟩
theorem df_non {G : Cfg} : DfM G [.non] [.non] [.none] := ⟨.cons rfl .nil, fun _ _ => .cons .non .nil⟩
def mCall (m : List Val → Heap → Res Val) (ds : List Val) (ma : En → Heap → Res (List Val)) (s : En) (h : Heap) : Res Val := (ma s h).bind fun xs h1 => m (xs ++ ds) h1
def isIns (c : Nat) (x : Val) (h : Heap) : Bool := match x with
  | .ref a => match h[a]? with
    | some (.ins c' _) => c == c'
    | _ => false
  | _ => false
def mMeth (c : Nat) (m : List Val → Heap → Res Val) (ds : List Val) (mo : En → Heap → Res Val) (ma : En → Heap → Res (List Val)) (s : En) (h : Heap) : Res Val := (mo s h).bind fun x h1 => if isIns c x h1 = true then (ma s h1).bind fun xs h2 => m (x :: (xs ++ ds)) h2 else .stuck
def mMake (c : Nat) (m : List Val → Heap → Res Val) (ds : List Val) (ma : En → Heap → Res (List Val)) (s : En) (h : Heap) : Res Val := (ma s h).bind fun xs h1 => (m (.ref h1.length :: (xs ++ ds)) (h1 ++ [.ins c []])).bind fun x h2 => match x with
  | .non => .ok (.ref h1.length) h2
  | _ => .stuck
section
variable {G : Cfg} {E : XK} {X : Cx} {k j : Nat} {a b c e o : Expr} {es : List Expr} {ta tb tc : TE} {ma mb mc mo : En → Heap → Res Val} {pos p2 p apos : Pos} {f D : Addr} {fd : FuncData} {ps : List Str} {m : List Val → Heap → Res Val} {x y : Str}
  {dx : List Val} {dv : List V} {du : List Value} {tA : TA} {mA : En → Heap → Res (List Val)}
theorem FnM.run (F : FnM G X.prog X.w X.mg X.base j f fd ps m) {r : List Addr} {H : Hp} {h : Heap} {xs : List Val} {vs : List V} {Q : VK} (hR : HR G r H h) (v : VRs G r H xs vs) (p : PostR G (VR G) r H E (m xs h) Q) : spM G ps.length m vs H Q E := by
  refine ⟨?_, r, h, xs, hR, v, p⟩
  rw [← v.len]
  refine Decidable.byContradiction fun q => ?_
  rw [F.st xs h q] at p
  exact p
theorem rf_call (F : FnM G X.prog X.w X.mg X.base j f fd ps m) (d : DfM G dx dv du) (ha : RfA G E tA mA) : Rf G E (tCall (spM G ps.length m) dv E tA) (mCall m dx mA) := by
  refine ⟨fun r H h s σ Q hR sR p => ha.run r H h s σ _ hR sR (p.seq fun x h1 r1 H1 v s1 hR1 v1 p1 => ?_)⟩
  exact F.run hR1 (v1.app (d.r _ _)) p1
theorem me_call (C : XC G E X k) (F : FnM G X.prog X.w X.mg X.base j f fd ps m) (d : DfM G dx dv du) (hj : j ≤ k) (hm : X.mg x = some (.ref f)) (hk : PySem.W.keepIn X.K (.ref f) = true) (hb : Binds X.K fd ps du) (ha : MA G E X (e :: es) tA mA) (hg : Gl X x := by rfl)
    (hdb : (x == ("__debug__" : Str)) = false := by decide) (he : starEach (e :: es) X.env = (false, eval e X.env) :: starEach es X.env := by rfl) (hpl : (backTo pos (starEach es X.env)).any (·.1) = false := by rfl) :
    ME G E X (.Call (.Name x p) (e :: es) [] pos) (tCall (spM G ps.length m) dv E tA) (mCall m dx mA) :=
  ⟨pe_call (by rw [C.K]; exact F.ok) (C.room.mono hj) hg hm hk hb d.v C.pass ha.pe hdb he hpl, rf_call F d ha.rf⟩
theorem me_call0 (C : XC G E X k) (F : FnM G X.prog X.w X.mg X.base j f fd ps m) (d : DfM G dx dv du) (hj : j ≤ k) (hm : X.mg x = some (.ref f)) (hk : PySem.W.keepIn X.K (.ref f) = true) (hb : Binds X.K fd ps du) (hg : Gl X x := by rfl)
    (hdb : (x == ("__debug__" : Str)) = false := by decide) :
    ME G E X (.Call (.Name x p) [] [] pos) (tCall (spM G ps.length m) dv E tNil) (mCall m dx mNil) :=
  ⟨pe_call0 (by rw [C.K]; exact F.ok) (C.room.mono hj) hg hm hk hb d.v C.pass hdb, rf_call F d (ma_nil (X := X)).rf⟩
theorem rf_meth (F : FnM G X.prog X.w X.mg X.base j f fd ps m) {c : Nat} (hc : G.cls[c]? = some D) (hm : Meth G.K D y f) (d : DfM G dx dv du) (ho : Rf G E ta mo) (ha : RfA G E tA mA) : Rf G E (tMeth D y (spM G ps.length m) dv E ta tA) (mMeth c m dx mo mA) := by
  refine ⟨fun r H h s σ Q hR sR p => ho.run r H h s σ _ hR sR (p.seq fun x h1 r1 H1 v s1 hR1 v1 p1 => ?_)⟩
  split at p1
  · rename_i hi
    cases v1 with
    | @ref n a ea =>
      simp only [isIns] at hi
      split at hi
      · rename_i c' fs eo
        have : c = c' := by simpa using hi
        subst this
        cases hR1.ob _ _ _ eo ea with
        | @ins _ D' _ _ _ _ hc' hC hH hf =>
          rw [hc] at hc'
          cases hc'
          refine ⟨_, _, _, rfl, hH, ?_, ?_⟩
          · have key : ∀ {fs : List (Nat × Val)} {gs : List (Str × V)}, FR G r1 H1 D fs gs → gs.lookup y = none := by
              intro fs gs hf
              induction hf with
              | nil => rfl
              | @cons f' z x' v' fs gs hz na _ _ ih =>
                have : y ≠ z := fun q => by
                  subst q
                  have h1 := hm.at_
                  have h2 : PySem.W.findIn G.K (.ref D) y = some none := na
                  rw [h2] at h1
                  cases h1
                rw [List.lookup_cons, beq_eq_false_iff_ne.mpr this]
                exact ih
            exact key hf
          · refine ha.run r1 H1 h1 s σ _ hR1 (sR.mono s1) (p1.seq fun xs h2 r2 H2 vs s2 hR2 v2 p2 => ?_)
            exact F.run hR2 (.cons (.ref (s2.pre _ _ ea)) (v2.app (d.r _ _))) p2
      · cases hi
    | _ => simp [isIns] at hi
  · exact False.elim p1
theorem me_meth {pl : Sem Bool} (C : XC G E X k) (F : FnM G X.prog X.w X.mg X.base j f fd ps m) (c : Nat) (hc : G.cls[c]? = some D) (hC : Cls X.K D) (hm : Meth X.K D y f) (d : DfM G dx dv du) (hj : j ≤ k) (hb : Binds X.K fd ps du) (ho : ME G E X o ta mo) (ha : MA G E X (e :: es) tA mA)
    (hst : starEach (e :: es) X.env = (false, eval e X.env) :: starEach es X.env := by rfl) (hpl : (backTo pos (starEach es X.env)).any (·.1) = false := by rfl)
    (ht : eval (.Call (.Attribute o y apos) (e :: es) [] pos) X.env = (do
      let ov ← eval o X.env
      standAt apos.atName
      let (f, first) ← holding [ov] (getMethod ov y pl)
      callWith pos f first (backTo pos (starEach (e :: es) X.env)) (backToKw pos (keywordEach [] X.env))) := by rfl) :
    ME G E X (.Call (.Attribute o y apos) (e :: es) [] pos) (tMeth D y (spM G ps.length m) dv E ta tA) (mMeth c m dx mo mA) := by
  refine ⟨pe_meth ho.pe hC hm (by rw [C.K]; exact F.ok) (C.room.mono hj) hb d.v C.pass ha.pe hst hpl ht, rf_meth F hc (by rw [← C.K]; exact hm) d ho.rf ha.rf⟩
theorem me_meth0 {pl : Sem Bool} (C : XC G E X k) (F : FnM G X.prog X.w X.mg X.base j f fd ps m) (c : Nat) (hc : G.cls[c]? = some D) (hC : Cls X.K D) (hm : Meth X.K D y f) (d : DfM G dx dv du) (hj : j ≤ k) (hb : Binds X.K fd ps du) (ho : ME G E X o ta mo)
    (ht : eval (.Call (.Attribute o y apos) [] [] pos) X.env = (do
      let ov ← eval o X.env
      standAt apos.atName
      let (f, first) ← holding [ov] (getMethod ov y pl)
      callWith pos f first (backTo pos (starEach [] X.env)) (backToKw pos (keywordEach [] X.env))) := by rfl) :
    ME G E X (.Call (.Attribute o y apos) [] [] pos) (tMeth D y (spM G ps.length m) dv E ta tNil) (mMeth c m dx mo mNil) := by
  refine ⟨pe_meth0 ho.pe hC hm (by rw [C.K]; exact F.ok) (C.room.mono hj) hb d.v C.pass ht, rf_meth F hc (by rw [← C.K]; exact hm) d ho.rf (ma_nil (X := X)).rf⟩
theorem rf_make (F : FnM G X.prog X.w X.mg X.base j f fd ps m) {c : Nat} (hc : G.cls[c]? = some D) (hC : Cls G.K D) (d : DfM G dx dv du) (ha : RfA G E tA mA) : Rf G E (tMake D (spM G ps.length m) dv E tA) (mMake c m dx mA) := by
  refine ⟨fun r H h s σ Q hR sR p => ha.run r H h s σ _ hR sR (p.seq fun xs h1 r1 H1 vs s1 hR1 v1 p1 => ?_)⟩
  intro x ex nx nex ne
  have hx : (upd H1 ex (.own x)) x = none := by rw [upd_ne (Ne.symm ne)]; exact nx
  have st : Stp G.K r1 H1 (r1 ++ [x]) (upd (upd H1 ex (.own x)) x (.ins D ex [])) := (Stp.new0 (K := G.K) (r := r1) (u := .own x) nex).trans (Stp.new hx)
  have hR2 : HR G (r1 ++ [x]) (upd (upd H1 ex (.own x)) x (.ins D ex [])) (h1 ++ [.ins c []]) := (hR1.lay nex).push hx (.ins hc hC upd_same .nil)
  refine F.run hR2 (.cons (.ref (n := h1.length) ?_) ((v1.mono st).app (d.r _ _))) ?_
  · rw [← hR1.len]
    simp
  · have p2 := p1.shift st
    refine p2.seq fun z h2 r2 H2 v s2 hR3 v2 p3 => ?_
    cases v2 with
    | non =>
      refine ⟨rfl, p3.here hR3 (.ref (s2.pre _ _ ?_))⟩
      rw [← hR1.len]
      simp
    | _ => exact False.elim p3
theorem me_make (C : XC G E X k) (F : FnM G X.prog X.w X.mg X.base j f fd ps m) (c : Nat) (hc : G.cls[c]? = some D) (hC : Cls G.K D) (M : Mk X.K D f) (d : DfM G dx dv du) (hj : j + 1 ≤ k) (hm : X.mg x = some (.ref D)) (hb : Binds X.K fd ps du) (ha : MA G E X (e :: es) tA mA) (hg : Gl X x := by rfl)
    (hdb : (x == ("__debug__" : Str)) = false := by decide) (he : starEach (e :: es) X.env = (false, eval e X.env) :: starEach es X.env := by rfl) (hpl : (backTo pos (starEach es X.env)).any (·.1) = false := by rfl) :
    ME G E X (.Call (.Name x p) (e :: es) [] pos) (tMake D (spM G ps.length m) dv E tA) (mMake c m dx mA) :=
  ⟨pe_make M (by rw [C.K]; exact F.ok) (C.room.mono hj) hg hm hb d.v C.pass ha.pe hdb he hpl, rf_make F hc hC d ha.rf⟩
theorem me_make0 (C : XC G E X k) (F : FnM G X.prog X.w X.mg X.base j f fd ps m) (c : Nat) (hc : G.cls[c]? = some D) (hC : Cls G.K D) (M : Mk X.K D f) (d : DfM G dx dv du) (hj : j + 1 ≤ k) (hm : X.mg x = some (.ref D)) (hb : Binds X.K fd ps du) (hg : Gl X x := by rfl)
    (hdb : (x == ("__debug__" : Str)) = false := by decide) :
    ME G E X (.Call (.Name x p) [] [] pos) (tMake D (spM G ps.length m) dv E tNil) (mMake c m dx mNil) :=
  ⟨pe_make0 M (by rw [C.K]; exact F.ok) (C.room.mono hj) hg hm hb d.v C.pass hdb, rf_make F hc hC d (ma_nil (X := X)).rf⟩
end
end PyM

set_option Elab.async false
set_option linter.all false
set_option maxRecDepth 100000
set_option autoImplicit false
namespace PyM
open PySem L2

/-! ### statements -/
def RS.bind (x : RS) (k : En → Heap → RS) : RS := match x with
  | .nx s h => k s h
  | x => x
def Res.thenS {α : Type} (x : Res α) (k : α → Heap → RS) : RS := match x with
  | .ok a h => k a h
  | .raised c h => .raised c h
  | .stuck => .stuck
def sNx (s : En) (h : Heap) : RS := .nx s h
def sBk (s : En) (h : Heap) : RS := .bk s h
def sCt (s : En) (h : Heap) : RS := .ct s h
def sNever (_ : En) (_ : Heap) : RS := .stuck
def sSeq (a b : En → Heap → RS) (s : En) (h : Heap) : RS := (a s h).bind b
def sDrop (m : En → Heap → Res Val) (s : En) (h : Heap) : RS := (m s h).thenS fun _ h1 => .nx s h1
def sRet (m : En → Heap → Res Val) (s : En) (h : Heap) : RS := (m s h).thenS fun x h1 => .rt x h1
def sRetN (_ : En) (h : Heap) : RS := .rt .non h
def sIf (c : En → Heap → Res Bool) (a b : En → Heap → RS) (s : En) (h : Heap) : RS := (c s h).thenS fun x h1 => if x = true then a s h1 else b s h1
/-- targets -/
def gV (i : Nat) (x : Val) (s : En) : Option En := some (s.set i (some x))
def gsNil (xs : List Val) (s : En) : Option En := if xs.isEmpty = true then some s else none
def gsCons (g : Val → En → Option En) (gs : List Val → En → Option En) (xs : List Val) (s : En) : Option En := match xs with
  | x :: r => (g x s).bind fun s1 => gs r s1
  | [] => none
def gT (gs : List Val → En → Option En) (x : Val) (s : En) : Option En := match x with
  | .tup xs => gs xs s
  | _ => none
def sAsg (g : Val → En → Option En) (m : En → Heap → Res Val) (s : En) (h : Heap) : RS := (m s h).thenS fun x h1 => match g x s with
  | some s1 => .nx s1 h1
  | none => .stuck
def oSet (o i x : Val) (h : Heap) : Res Unit := match o with
  | .ref a => match h[a]? with
    | some (.lst xs) => match i with
      | .int k => match ixN xs.length k with
        | some j => .ok () (h.set a (.lst (xs.set j x)))
        | none => .stuck
      | _ => .stuck
    | some (.dct d) => if isKey i = true ∧ d.length < lim then .ok () (h.set a (.dct (putV d i x))) else .stuck
    | _ => .stuck
  | _ => .stuck
/-- o[i] = e: the value first -/
def sSub (mo mi me : En → Heap → Res Val) (s : En) (h : Heap) : RS := (me s h).thenS fun x h1 => (mo s h1).thenS fun o h2 => (mi s h2).thenS fun i h3 => (oSet o i x h3).thenS fun _ h4 => .nx s h4
/-- o[i], by values: a list's, a dict's -/
def oIxM (x y : Val) (h : Heap) : Res Val := match x with
  | .ref _ => oIx x y h
  | _ => .stuck
/-- o[i] op= e -/
def sSubA (f : Val → Val → Heap → Res Val) (mo mi me : En → Heap → Res Val) (s : En) (h : Heap) : RS := (mo s h).thenS fun o h1 => (mi s h1).thenS fun i h2 => (oIxM o i h2).thenS fun x h3 => (me s h3).thenS fun y h4 => (f x y h4).thenS fun z h5 => (oSet o i z h5).thenS fun _ h6 => .nx s h6
def oSetF (d f : Nat) (o x : Val) (h : Heap) : Res Unit := match o with
  | .ref a => match h[a]? with
    | some (.ins c fs) => if c = d ∧ fs.length < 1000 then .ok () (h.set a (.ins c (setF f x fs))) else .stuck
    | _ => .stuck
  | _ => .stuck
def sFld (d f : Nat) (mo me : En → Heap → Res Val) (s : En) (h : Heap) : RS := (me s h).thenS fun x h1 => (mo s h1).thenS fun o h2 => (oSetF d f o x h2).thenS fun _ h3 => .nx s h3
def sFldA (d f : Nat) (g : Val → Val → Heap → Res Val) (mo me : En → Heap → Res Val) (s : En) (h : Heap) : RS := (mo s h).thenS fun o h1 => (if isIns d o h1 = true then getF f o h1 else .stuck).thenS fun x h2 => (me s h2).thenS fun y h3 => (g x y h3).thenS fun z h4 => (oSetF d f o z h4).thenS fun _ h5 => .nx s h5
def sAug (i : Nat) (g : Val → Val → Heap → Res Val) (me : En → Heap → Res Val) (s : En) (h : Heap) : RS := match s[i]? with
  | some (some x) => (me s h).thenS fun y h1 => (g x y h1).thenS fun z h2 => .nx (s.set i (some z)) h2
  | _ => .stuck

section
variable {G : Cfg} {E : XK}
theorem PostS.seqS {α β : Type} {R1 : List Addr → Hp → α → β → Prop} {r : List Addr} {H : Hp} {x : Res α} {k : α → Heap → RS} {D : Ends} {Q' : β → Hp → Prop}
    (p : PostS G r H E (x.thenS k) D) (f : ∀ a h1 r1 H1 b, Stp G.K r H r1 H1 → HR G r1 H1 h1 → R1 r1 H1 a b → PostS G r1 H1 E (k a h1) D → Q' b H1) : PostR G R1 r H E x Q' := by
  cases x with
  | ok a h => exact fun r' H' b s' hR vR => f a h r' H' b s' hR vR (p.shift s')
  | raised c h => exact p
  | stuck => exact p
theorem PostS.here {r : List Addr} {H : Hp} {s : En} {t : St} {h : Heap} {D : Ends} (p : PostS G r H E (.nx s h) D) (hR : HR G r H h) (v : SR G r H s t) : D.nx t H := p r H t Stp.refl hR v
structure RfG (G : Cfg) (g : TG) (m : Val → En → Option En) : Prop where
  run : ∀ r H s σ x v (Q : St → Hp → Prop), SR G r H s σ → VR G r H x v → (∃ s1, m x s = some s1 ∧ ∀ σ1, SR G r H s1 σ1 → Q σ1 H) → g v σ H Q
structure RfGs (G : Cfg) (g : TGs) (m : List Val → En → Option En) : Prop where
  run : ∀ r H s σ xs vs (Q : St → Hp → Prop), SR G r H s σ → VRs G r H xs vs → (∃ s1, m xs s = some s1 ∧ ∀ σ1, SR G r H s1 σ1 → Q σ1 H) → g vs σ H Q
structure MG (G : Cfg) (X : Cx) (e : Expr) (g : TG) (m : Val → En → Option En) : Prop where
  pe : PG X e g
  rf : RfG G g m
structure MGs (G : Cfg) (X : Cx) (es : List Expr) (g : TGs) (m : List Val → En → Option En) : Prop where
  pe : PGs X es g
  rf : RfGs G g m
variable {X : Cx} {k : Nat} {a b c e o : Expr} {es : List Expr} {ta tb tc to ti : TE} {ma mb mc mo mi me : En → Heap → Res Val} {pos pos' p2 : Pos} {st : Stmt} {sts sts2 : List Stmt} {t u : TS} {m n : En → Heap → RS} {tt : TT} {mt : En → Heap → Res Bool}
theorem mg_name (i : Nat) {x : Str} (hN : X.N.Nodup) (hi : X.N[i]? = some x := by rfl) (hx : Loc X.env.scope x := by first | exact Or.inl rfl | exact Or.inr rfl) (hf : X.fn x = true ∨ X.env.scope.names.lookup x = some .local := by first | exact .inl rfl | exact .inr rfl | assumption) : MG G X (.Name x pos) (gName i) (gV i) :=
  ⟨pg_name hN hi hx hf, ⟨fun r H s σ x v Q sR vR ⟨s1, e1, q⟩ => by cases e1; exact q _ (sR.set vR i)⟩⟩
theorem mgs_nil : MGs G X [] gNil gsNil := ⟨pgs_nil, ⟨fun r H s σ xs vs Q sR vR ⟨s1, e1, q⟩ => by
  cases vR with
  | nil => cases e1; exact ⟨rfl, q _ sR⟩
  | cons _ _ => simp [gsNil] at e1⟩⟩
theorem mgs_cons {g : TG} {gs : TGs} {mg : Val → En → Option En} {mgs : List Val → En → Option En} (h : MG G X e g mg) (hs : MGs G X es gs mgs) (hx : (assignEach (e :: es) X.env).map (·.2) = assign e X.env :: (assignEach es X.env).map (·.2) := by rfl) : MGs G X (e :: es) (gCons g gs) (gsCons mg mgs) := by
  refine ⟨pgs_cons h.pe hs.pe hx, ⟨fun r H s σ xs vs Q sR vR ⟨s1, e1, q⟩ => ?_⟩⟩
  cases vR with
  | nil => simp [gsCons] at e1
  | cons v1 v2 =>
    simp only [gsCons] at e1
    cases hq : mg _ s with
    | none => rw [hq] at e1; cases e1
    | some s2 =>
      rw [hq] at e1
      exact ⟨_, _, rfl, h.rf.run r H s σ _ _ _ sR v1 ⟨s2, hq, fun σ1 sR1 => hs.rf.run r H s2 σ1 _ _ _ sR1 v2 ⟨s1, e1, q⟩⟩⟩
theorem mg_tup {gs : TGs} {mgs : List Val → En → Option En} {n : Nat} (C : XC G E X k) (h : MGs G X es gs mgs) (hl : ∀ xs s s1, mgs xs s = some s1 → xs.length = n) {kk : Nat}
    (hn : (assignEach es X.env).length = n := by rfl) (hst : (assignEach es X.env).findIdx? (·.1) = none := by rfl) : MG G X (.Tuple es kk pos) (gTup G.K n gs) (gT mgs) := by
  refine ⟨?_, ⟨fun r H s σ x v Q sR vR ⟨s1, e1, q⟩ => ?_⟩⟩
  · have := pg_tup (pos := pos) (k := kk) C.calm h.pe hn hst
    rwa [C.K] at this
  · cases vR with
    | tup hs hv => exact ⟨_, _, rfl, hs.1, by rw [← hv.len]; exact hl _ _ _ e1, h.rf.run r H s σ _ _ _ sR hv ⟨s1, e1, q⟩⟩
    | _ => cases e1
theorem gs_len0 (xs : List Val) (s s1 : En) (h : gsNil xs s = some s1) : xs.length = 0 := by
  cases xs with
  | nil => rfl
  | cons _ _ => simp [gsNil] at h
theorem gs_lenS {g : Val → En → Option En} {gs : List Val → En → Option En} {n : Nat} (ih : ∀ xs s s1, gs xs s = some s1 → xs.length = n) (xs : List Val) (s s1 : En) (h : gsCons g gs xs s = some s1) : xs.length = n + 1 := by
  cases xs with
  | nil => simp [gsCons] at h
  | cons x r =>
    simp only [gsCons] at h
    cases q : g x s with
    | none => rw [q] at h; cases h
    | some s2 => rw [q] at h; rw [List.length_cons, ih _ _ _ h]

/-! ### rules -/
theorem mss_nil : MSs G E X [] tNext sNx := ⟨pss_nil, ⟨fun r H h s σ D hR sR p => p.here hR sR⟩⟩
theorem PostS.ends {r : List Addr} {H : Hp} {x : RS} {D D' : Ends} (p : PostS G r H E x D) (h1 : D'.rt = D.rt) (h2 : D'.bk = D.bk) (h3 : D'.ct = D.ct) (h4 : ∀ s h, x ≠ .nx s h) : PostS G r H E x D' := by
  cases x with
  | nx s h => exact absurd rfl (h4 s h)
  | rt v h => intro r' H' v'; rw [h1]; exact p r' H' v'
  | bk s h => intro r' H' v'; rw [h2]; exact p r' H' v'
  | ct s h => intro r' H' v'; rw [h3]; exact p r' H' v'
  | raised c h => exact p
  | stuck => exact p
theorem mss_cons (h : MS G E X st t m) (h2 : MSs G E X sts u n) : MSs G E X (st :: sts) (tSeq t u) (sSeq m n) := by
  refine ⟨pss_cons h.pe h2.pe, ⟨fun r H hh s σ D hR sR p => h.rf.run r H hh s σ _ hR sR ?_⟩⟩
  unfold sSeq at p
  cases q : m s hh with
  | nx s1 h1 =>
    rw [q] at p
    exact fun r1 H1 σ1 s1' hR1 sR1 => h2.rf.run r1 H1 h1 s1 σ1 D hR1 sR1 (PostS.shift s1' p)
  | rt v h => rw [q] at p; exact p
  | bk v h => rw [q] at p; exact p
  | ct v h => rw [q] at p; exact p
  | raised v h => rw [q] at p; exact p
  | stuck => rw [q] at p; exact p
theorem mss_one (h : MS G E X st t m) : MSs G E X [st] t m := ⟨pss_one h.pe, h.rf⟩
theorem ms_pass : MS G E X (.Pass pos) tNext sNx := ⟨ps_pass, ⟨fun r H h s σ D hR sR p => p.here hR sR⟩⟩
theorem ms_break : MS G E X (.Break pos) tBreak sBk := ⟨ps_break, ⟨fun r H h s σ D hR sR p => p r H σ Stp.refl hR sR⟩⟩
theorem ms_continue : MS G E X (.Continue pos) tCont sCt := ⟨ps_continue, ⟨fun r H h s σ D hR sR p => p r H σ Stp.refl hR sR⟩⟩
theorem ms_never : MS G E X st tNever sNever := ⟨ps_never, ⟨fun r H h s σ D hR sR p => p⟩⟩
theorem ms_expr (ha : ME G E X a ta ma) (hs : swapsWith a none pos.line X.env = pure false := by rfl) : MS G E X (.Expr a pos) (tDrop ta) (sDrop ma) :=
  ⟨ps_expr ha.pe hs, ⟨fun r H h s σ D hR sR p => ha.rf.run r H h s σ _ hR sR (p.seqS fun x h1 r1 H1 v s1 hR1 v1 p1 => p1.here hR1 (sR.mono s1))⟩⟩
theorem ms_ret (ha : ME G E X a ta ma) : MS G E X (.Return (some a) pos) (tRet ta) (sRet ma) :=
  ⟨ps_ret ha.pe, ⟨fun r H h s σ D hR sR p => ha.rf.run r H h s σ _ hR sR (p.seqS fun x h1 r1 H1 v s1 hR1 v1 p1 => p1 r1 H1 v Stp.refl hR1 v1)⟩⟩
theorem ms_retN : MS G E X (.Return none pos) tRetN sRetN := ⟨ps_retN, ⟨fun r H h s σ D hR sR p => p r H _ Stp.refl hR .non⟩⟩
theorem ms_if (hc : MT G E X c tt mt) (h1 : MSs G E X sts t m) (h2 : MSs G E X sts2 u n) : MS G E X (.If c sts sts2 pos) (tIfS tt t u) (sIf mt m n) := by
  refine ⟨ps_if hc.pe h1.pe h2.pe, ⟨fun r H h s σ D hR sR p => hc.rf.run r H h s σ _ hR sR (p.seqS fun x h1' r1 H1 v s1 hR1 v1 p1 => ?_)⟩⟩
  subst v1
  split at p1
  · rename_i q
    rw [if_pos q]
    exact h1.rf.run r1 H1 h1' s σ D hR1 (sR.mono s1) p1
  · rename_i q
    rw [if_neg q]
    exact h2.rf.run r1 H1 h1' s σ D hR1 (sR.mono s1) p1
theorem ms_asg {tg : Expr} {g : TG} {mg : Val → En → Option En} (ha : ME G E X a ta ma) (hg : MG G X tg g mg) (hs : swapsWithSole [tg] a pos.line X.env = pure false := by rfl) (hw : swappedStores [tg] a X.env = pure none := by rfl) (h1 : (assignEach [tg] X.env).map (·.2) = [assign tg X.env] := by rfl) : MS G E X (.Assign [tg] a pos) (tAsg ta g) (sAsg mg ma) := by
  refine ⟨ps_asg ha.pe hg.pe hs hw h1, ⟨fun r H h s σ D hR sR p => ha.rf.run r H h s σ _ hR sR (p.seqS fun x h1' r1 H1 v s1 hR1 v1 p1 => ?_)⟩⟩
  cases q : mg x s with
  | none => rw [q] at p1; exact False.elim p1
  | some s2 => rw [q] at p1; exact hg.rf.run r1 H1 s σ x v _ (sR.mono s1) v1 ⟨s2, q, fun σ1 sR1 => p1.here hR1 sR1⟩
/-- a store to a list's place, to a dict's key -/
def rSetA : TSet := fun o i v H Q => rSetL o i v H Q ∨ ∃ a H1, o = .ref a ∧ DPut H a i v H1 ∧ Q H1
theorem set_all (hu : X.A.units + 1 < cLine) : PSet X rSetA := by
  intro pins s σ H o i v ov iv u Q I r1 r2 r3 q
  rcases q with q | ⟨a, H1, e, g, q⟩
  · exact set_list pins s σ H o i v ov iv u Q I r1 r2 r3 q
  · subst e
    obtain rfl : ov = Value.ref a := r1
    exact d_setItem hu I g r2 r3 fun s4 I4 => ⟨H1, I4, q⟩
theorem rf_set (ok : G.Ok) {r : List Addr} {H : Hp} {h : Heap} {o i x : Val} {ov iv v : V} {Q : Hp → Prop} (hR : HR G r H h) (r1 : VR G r H o ov) (r2 : VR G r H i iv) (r3 : VR G r H x v)
    (p : ∃ h1, oSet o i x h = .ok () h1 ∧ ∀ H1, Stp G.K r H r H1 → HR G r H1 h1 → Q H1) : rSetA ov iv v H Q := by
  obtain ⟨h1, p, q⟩ := p
  cases r1 with
  | @ref n a ea =>
    simp only [oSet] at p
    split at p
    · rename_i xs eo
      split at p
      · rename_i kk
        cases r2
        split at p
        · rename_i j ej
          cases p
          cases hR.ob _ _ _ eo ea with
          | lst hl hv =>
            refine .inl ⟨_, _, _, j, rfl, rfl, hl, by rw [← hv.len]; exact ej, q _ (Stp.upd fun o e => by rw [hl] at e; cases e; trivial) ?_⟩
            refine hR.write eo rfl ea (fun o e => by rw [hl] at e; cases e; trivial) (.lst upd_same ?_) rfl
            exact VRs.mono (Stp.upd fun o e => by rw [hl] at e; cases e; trivial) _ _ (VRs.set r3 j hv)
        · cases p
      · cases p
    · rename_i d eo
      split at p
      · rename_i hk
        cases p
        cases hR.ob _ _ _ eo ea with
        | dct hd hv =>
          obtain ⟨kq, hkq, rfl⟩ := KR.of r2 hk.1
          have st : ∀ u, Stp G.K r H r (upd H a u) := fun u => Stp.upd fun o e => by rw [hd] at e; cases e; trivial
          refine .inr ⟨_, _, rfl, DPut.k hd (lt_line (by rw [← hv.len]; exact hk.2)), q _ (st _) ?_⟩
          refine hR.write eo rfl ea (fun o e => by rw [hd] at e; cases e; trivial) (.dct upd_same ?_) rfl
          exact (hv.put ok hkq r3).mono (st _)
      · cases p
    · cases p
  | _ => cases p
theorem thenS_ok {α : Type} {r : List Addr} {H : Hp} {x : Res α} {k : α → Heap → RS} {D : Ends} (p : PostS G r H E (x.thenS k) D) (hn : ∀ c h, x ≠ .raised c h) : ∃ a h1, x = .ok a h1 ∧ PostS G r H E (k a h1) D := by
  cases x with
  | ok a h => exact ⟨a, h, rfl, p⟩
  | raised c h => exact absurd rfl (hn c h)
  | stuck => exact False.elim p
theorem oSet_nr (o i x : Val) (h : Heap) : ∀ c h1, oSet o i x h ≠ .raised c h1 := by
  intro c h1 e
  unfold oSet at e
  (repeat' split at e) <;> cases e
theorem ms_sub (ok : G.Ok) (C : XC G E X k) (ho : ME G E X o to mo) (hi : ME G E X b ti mi) (ha : ME G E X a ta ma) (hs : swapsWithSole [.Subscript o b pos'] a pos.line X.env = pure false := by rfl) (hw : swappedStores [.Subscript o b pos'] a X.env = pure none := by rfl)
    (hx : ∀ v, assign (.Subscript o b pos') X.env v = (do
      let ov ← holding [v] (eval o X.env)
      let iv ← holding [v, ov] (eval b X.env)
      standAt pos'
      holding [v, ov, iv] (setItem ov iv v)
      release [v, ov, iv] []) := by intro _; rfl) (h1 : (assignEach [.Subscript o b pos'] X.env).map (·.2) = [assign (.Subscript o b pos') X.env] := by rfl) :
    MS G E X (.Assign [.Subscript o b pos'] a pos) (tAsg ta (gSub to ti rSetA)) (sSub mo mi ma) := by
  refine ⟨ps_asg ha.pe (pg_sub ho.pe hi.pe (set_all (by have := C.hu; omega)) hx) hs hw h1, ⟨fun r H h s σ D hR sR p => ha.rf.run r H h s σ _ hR sR (p.seqS fun x h1 r1 H1 v s1 hR1 v1 p1 => ?_)⟩⟩
  refine ho.rf.run r1 H1 h1 s σ _ hR1 (sR.mono s1) (p1.seqS fun y h2 r2 H2 w s2 hR2 v2 p2 => ?_)
  refine hi.rf.run r2 H2 h2 s σ _ hR2 (sR.mono (s1.trans s2)) (p2.seqS fun z h3 r3 H3 w3 s3 hR3 v3 p3 => ?_)
  obtain ⟨_, h4, e4, p4⟩ := thenS_ok p3 (oSet_nr _ _ _ _)
  refine rf_set ok hR3 (v2.mono s3) v3 (v1.mono (s2.trans s3)) ⟨h4, e4, fun H4 s4 hR4 => ?_⟩
  exact (p4.shift s4).here hR4 (sR.mono ((s1.trans s2).trans (s3.trans s4)))
def rGetA (K : PySem.W.Frag) : V → V → Hp → VK → Prop := fun x y H Q => rIxL K x y H Q ∨ rDGetR x y H Q
theorem get_all (hu : X.A.units + 1 < cLine) : PGet X (rGetA X.K) := by
  intro pins s σ H x y v u Q I rx ry q
  rcases q with h | ⟨a, z, rfl, g, q⟩
  · obtain ⟨p, xs, i, z, rfl, rfl, hq, he, q⟩ := h
    cases rx
    obtain ⟨t, rfl⟩ := ry
    obtain ⟨its, r, pl, hz⟩ := I.list hq
    obtain ⟨j, h1, h2, h3, h4, h5⟩ := atI_get he
    obtain ⟨w, ew, rw'⟩ := r.get h2
    have hl := r.length
    have hn := line63
    have fin : EP X pins σ Q w s := ⟨z, H, I, rw', q⟩
    by_cases h0 : 0 ≤ i
    · have hj : i.toNat = j := by
        rw [seqIndex_of h0 h5] at h1
        exact Option.some.inj h1
      exact wpAny_getItem_list pl.isList h0 (by omega) (by rw [hj]; simpa using ew) fin
    · have hj : (i + (its.toArray.size : Int)).toNat = j := by
        rw [seqIndex_neg (by omega) h4] at h1
        rw [List.size_toArray, ← hl]
        exact Option.some.inj h1
      exact wpAny_getItem_list_neg pl.isList (by omega) (by rw [List.size_toArray] <;> omega) (by omega) (by rw [hj]; simpa using ew) fin
  · obtain rfl : v = Value.ref a := rx
    exact d_getItem hu I g ry fun w' s3 I3 rw' => ⟨z, H, I3, rw', q⟩
theorem rf_get (ok : G.Ok) {r : List Addr} {H : Hp} {h : Heap} {x y : Val} {v u : V} {Q : VK} (hR : HR G r H h) (a : VR G r H x v) (b : VR G r H y u) (p : PostR G (VR G) r H E (oIxM x y h) Q) : rGetA G.K v u H Q := by
  cases a with
  | @ref n a ea =>
    simp only [oIxM, oIx] at p
    split at p
    · rename_i xs eo
      split at p
      · split at p
        · rename_i z ez
          cases b
          cases hR.ob _ _ _ eo ea with
          | lst hl va =>
            obtain ⟨j, e1, e2⟩ := atI_len va.len ez
            obtain ⟨w, e3, vw⟩ := va.get e1
            exact .inl ⟨_, _, _, _, rfl, rfl, SqL.of hl, e2 _ e3, p.here hR vw⟩
        · exact False.elim p
      · exact False.elim p
    · rename_i xs eo
      split at p
      · split at p
        · rename_i z ez
          cases b
          cases hR.ob _ _ _ eo ea with
          | fls hl va =>
            obtain ⟨j, e1, e2⟩ := atI_len va.len ez
            obtain ⟨w, e3, vw⟩ := va.get e1
            exact .inl ⟨_, _, _, _, rfl, rfl, hl.sq, e2 _ e3, p.here hR vw⟩
        · exact False.elim p
      · exact False.elim p
    · rename_i d eo
      split at p
      · rename_i hk
        split at p
        · rename_i z ez
          cases hR.ob _ _ _ eo ea with
          | dct hd hv =>
            obtain ⟨q, kq, rfl⟩ := KR.of b hk
            rcases hv.look ok kq with ⟨e1, _⟩ | ⟨x', v', e1, e2, v2⟩
            · rw [e1] at ez
              cases ez
            · rw [e1] at ez
              cases ez
              exact .inr ⟨_, _, rfl, by rw [← e2]; exact DGet.k hd, p.here hR v2⟩
        · exact False.elim p
      · exact False.elim p
    · rename_i d eo
      split at p
      · rename_i hk
        split at p
        · rename_i z ez
          cases hR.ob _ _ _ eo ea with
          | fdc hd hv =>
            obtain ⟨q, kq, rfl⟩ := KR.of b hk
            rcases hv.look ok kq with ⟨e1, _⟩ | ⟨x', v', e1, e2, v2⟩
            · rw [e1] at ez
              cases ez
            · rw [e1] at ez
              cases ez
              exact .inr ⟨_, _, rfl, by rw [← e2]; exact DGet_kf hd, p.here hR v2⟩
        · exact False.elim p
      · exact False.elim p
    · exact False.elim p
  | _ => exact False.elim p
theorem ia_add : PIp X .Add (rI0 fun i j => .int (i + j)) := fun pins s σ H x y v u Q I r1 r2 h => iop_add pins s σ H x y v u Q I r1 r2 h
theorem ia_sub : PIp X .Sub (rI0 fun i j => .int (i - j)) := fun pins s σ H x y v u Q I r1 r2 h => iop_sub pins s σ H x y v u Q I r1 r2 h
theorem ms_subA (ok : G.Ok) (C : XC G E X k) {op : Operator} {t : TIp} {f : Val → Val → Heap → Res Val} (hop : PIp X op t) (hf : Rf2 G E t f) (ho : ME G E X o to mo) (hi : ME G E X b ti mi) (ha : ME G E X a ta ma)
    (hs : ∀ ov iv new, augStore b ov iv new = (do holding [new, ov, iv] (setItem ov iv new); release [new, ov, iv] []; pure .next) := by intros; rfl) :
    MS G E X (.AugAssign (.Subscript o b pos') op a pos) (tAugS to ti ta (rGetA G.K) t rSetA) (sSubA f mo mi ma) := by
  refine ⟨?_, ⟨fun r H h s σ D hR sR p => ho.rf.run r H h s σ _ hR sR (PostS.seqS (sSub_eq p) fun x h1 r1 H1 v s1 hR1 v1 p1 => ?_)⟩⟩
  · have := ps_augS (pos := pos) (tpos := pos') ho.pe hi.pe (get_all (X := X) (by have := C.hu; omega)) ha.pe hop (set_all (by have := C.hu; omega)) hs
    rwa [C.K] at this
  · refine hi.rf.run r1 H1 h1 s σ _ hR1 (sR.mono s1) (p1.seqS fun y h2 r2 H2 w s2 hR2 v2 p2 => ?_)
    refine rf_get (E := E) ok hR2 (v1.mono s2) v2 (p2.seqS fun z h3 r3 H3 w3 s3 hR3 v3 p3 => ?_)
    refine ha.rf.run r3 H3 h3 s σ _ hR3 (sR.mono ((s1.trans s2).trans s3)) (p3.seqS fun y' h4 r4 H4 w4 s4 hR4 v4 p4 => ?_)
    refine hf.run r4 H4 h4 z y' w3 w4 _ hR4 (v3.mono s4) v4 (p4.seqS fun z' h5 r5 H5 w5 s5 hR5 v5 p5 => ?_)
    obtain ⟨_, h6, e6, p6⟩ := thenS_ok p5 (oSet_nr _ _ _ _)
    have sA := (s3.trans s4).trans s5
    refine rf_set ok hR5 (v1.mono (s2.trans sA)) (v2.mono sA) v5 ⟨h6, e6, fun H6 s6 hR6 => ?_⟩
    exact (p6.shift s6).here hR6 (sR.mono (((s1.trans s2).trans sA).trans s6))
where
  sSub_eq {r H s h D} {mo mi me : En → Heap → Res Val} {f : Val → Val → Heap → Res Val} (p : PostS G r H E (sSubA f mo mi me s h) D) : PostS G r H E ((mo s h).thenS fun o h1 => (mi s h1).thenS fun i h2 => (oIxM o i h2).thenS fun x h3 => (me s h3).thenS fun y h4 => (f x y h4).thenS fun z h5 => (oSet o i z h5).thenS fun _ h6 => .nx s h6) D := p
/-! fields -/
theorem FR.len {r : List Addr} {H : Hp} {D : Addr} {fs gs} (q : FR G r H D fs gs) : fs.length = gs.length := by
  induction q with
  | nil => rfl
  | cons _ _ _ _ ih => simp [ih]
theorem FR.put (ok : G.Ok) {r : List Addr} {H : Hp} {D : Addr} {fs gs} (q : FR G r H D fs gs) {f : Nat} {z : Str} {x : Val} {v : V} (hz : G.nms[f]? = some z) (na : NoAttr G.K D z) (hv : VR G r H x v) : FR G r H D (setF f x fs) (putF z v gs) := by
  induction q with
  | nil => exact .cons hz na hv .nil
  | @cons g y x' v' fs gs hy na' hv' _ ih =>
    unfold setF putF
    by_cases e : g = f
    · subst e
      rw [hz] at hy
      cases hy
      rw [if_pos rfl, if_pos rfl]
      exact .cons hz na hv (by assumption)
    · have : ¬ y = z := fun q => e (by
        subst q
        obtain ⟨h1, e1⟩ := List.getElem?_eq_some_iff.mp hy
        obtain ⟨h2, e2⟩ := List.getElem?_eq_some_iff.mp hz
        exact (List.getElem_inj ok.nn).mp (e1.trans e2.symm))
      rw [if_neg e, if_neg this]
      exact .cons hy na' hv' ih
theorem oSetF_nr (d f : Nat) (o x : Val) (h : Heap) : ∀ c h1, oSetF d f o x h ≠ .raised c h1 := by
  intro c h1 e
  unfold oSetF at e
  (repeat' split at e) <;> cases e
theorem rf_setF (ok : G.Ok) {r : List Addr} {H : Hp} {h h1 : Heap} {o x : Val} {ov v : V} {d f : Nat} {B : Addr} {z : Str} (hz : G.nms[f]? = some z) (hB : G.cls[d]? = some B) (na : NoAttr G.K B z) {Q : Hp → Prop} (hR : HR G r H h) (r1 : VR G r H o ov) (r3 : VR G r H x v) (p : oSetF d f o x h = .ok () h1)
    (q : ∀ H1, Stp G.K r H r H1 → HR G r H1 h1 → Q H1) : ∃ a dx fs, ov = .ref a ∧ H a = some (.ins B dx fs) ∧ Cls G.K B ∧ NoAttr G.K B z ∧ fs.length < 1000 ∧ Q (upd H a (.ins B dx (putF z v fs))) := by
  cases r1 with
  | @ref n a ea =>
    simp only [oSetF] at p
    split at p
    · rename_i c fs eo
      split at p
      · rename_i hl
        obtain ⟨rfl, hl⟩ := hl
        cases p
        cases hR.ob _ _ _ eo ea with
        | ins hc hC hH hf =>
          rw [hB] at hc
          cases hc
          have st : ∀ u, Stp G.K r H r (upd H a u) := fun u => Stp.upd fun o e => by rw [hH] at e; cases e; trivial
          refine ⟨_, _, _, rfl, hH, hC, na, by rw [← hf.len]; exact hl, q _ (st _) ?_⟩
          exact hR.write eo rfl ea (fun o e => by rw [hH] at e; cases e; trivial) (.ins hB hC upd_same ((hf.put ok hz na r3).mono (st _))) rfl
      · cases p
    · cases p
  | _ => cases p
theorem ms_fld (ok : G.Ok) (C : XC G E X k) (d f : Nat) {B : Addr} {z : Str} (hz : G.nms[f]? = some z) (hB : G.cls[d]? = some B) (na : NoAttr G.K B z) (ho : ME G E X o to mo) (ha : ME G E X a ta ma) (hs : swapsWith a (some (.Attribute o z pos')) pos.line X.env = pure false := by rfl) :
    MS G E X (.Assign [.Attribute o z pos'] a pos) (L2.sFld G.K to ta z) (sFld d f mo ma) := by
  refine ⟨?_, ⟨fun r H h s σ D hR sR p => ha.rf.run r H h s σ _ hR sR (p.seqS fun x h1 r1 H1 v s1 hR1 v1 p1 => ?_)⟩⟩
  · have := ps_fld ho.pe ha.pe hs
    rwa [C.K] at this
  · refine ho.rf.run r1 H1 h1 s σ _ hR1 (sR.mono s1) (p1.seqS fun y h2 r2 H2 w s2 hR2 v2 p2 => ?_)
    obtain ⟨_, h3, e3, p3⟩ := thenS_ok p2 (oSetF_nr _ _ _ _ _)
    obtain ⟨a', dx', fs', q1, q2, q3, q4, q5, q6⟩ := rf_setF (Q := fun H3 => D.nx σ H3) ok hz hB na hR2 v2 (v1.mono s2) e3 fun H3 s3 hR3 => (p3.shift s3).here hR3 (sR.mono ((s1.trans s2).trans s3))
    exact ⟨a', B, dx', fs', q1, q2, q3, q4, q5, q6⟩
theorem getF_nr (f : Nat) (o : Val) (h : Heap) : ∀ c h1, getF f o h ≠ .raised c h1 := by
  intro c h1 e
  unfold getF at e
  (repeat' split at e) <;> cases e
theorem getF_ok {f : Nat} {o x : Val} {h h1 : Heap} (p : getF f o h = .ok x h1) : ∃ n c fs, o = .ref n ∧ h[n]? = some (.ins c fs) ∧ lookF f fs = some x ∧ h1 = h := by
  unfold getF at p
  split at p
  · split at p
    · rename_i c fs eo
      split at p
      · rename_i v ev
        cases p
        exact ⟨_, c, fs, rfl, eo, ev, rfl⟩
      · cases p
    · cases p
  · cases p
theorem ms_fldA (ok : G.Ok) (C : XC G E X k) (d f : Nat) {B : Addr} {z : Str} (hz : G.nms[f]? = some z) (hB : G.cls[d]? = some B) (na : NoAttr G.K B z) {op : Operator} {t : TIp} {g : Val → Val → Heap → Res Val} (hop : PIp X op t) (hg : Rf2 G E t g)
    (ho : ME G E X o to mo) (ha : ME G E X a ta ma) : MS G E X (.AugAssign (.Attribute o z pos') op a pos) (sFldAug G.K to ta t z) (sFldA d f g mo ma) := by
  refine ⟨?_, ⟨fun r H h s σ D hR sR p => ho.rf.run r H h s σ _ hR sR (p.seqS fun x h1 r1 H1 v s1 hR1 v1 p1 => ?_)⟩⟩
  · have := ps_fldaug (pos := pos) (tpos := pos') (f := z) (rd := t) ho.pe ha.pe (fun pins s σ H x y u v Q I r1 r2 h => hop pins s σ H x y u v Q I r1 r2 h)
    rwa [C.K] at this
  · obtain ⟨y, h2, e2, p2⟩ := thenS_ok p1 (by
      intro c h
      split
      · exact getF_nr _ _ _ _ _
      · exact fun q => by cases q)
    split at e2
    · rename_i hi
      obtain ⟨n, c, fs, rfl, eo, el, rfl⟩ := getF_ok e2
      simp only [isIns, eo, beq_iff_eq] at hi
      subst hi
      cases v1 with
      | ref ea =>
        cases hR1.ob _ _ _ eo ea with
        | ins hc hC hH hf =>
          rw [hB] at hc
          cases hc
          rcases hf.look ok hz with ⟨e1, _⟩ | ⟨x', v', e1, e2', v2, na'⟩
          · rw [e1] at el
            cases el
          · rw [e1] at el
            cases el
            refine ⟨_, _, _, _, _, rfl, hH, hC, na', e2', ?_⟩
            refine ha.rf.run r1 H1 h2 s σ _ hR1 (sR.mono s1) (p2.seqS fun y' h4 r4 H4 w4 s4 hR4 v4 p4 => ?_)
            refine hg.run r4 H4 h4 _ y' v' w4 _ hR4 (v2.mono s4) v4 (p4.seqS fun z' h5 r5 H5 w5 s5 hR5 v5 p5 => ?_)
            obtain ⟨_, h6, e6, p6⟩ := thenS_ok p5 (oSetF_nr _ _ _ _ _)
            obtain ⟨a', dx', fs', q1, q2, q3, q4, q5, q6⟩ := rf_setF (Q := fun H6 => D.nx σ H6) ok hz hB na hR5 (.ref ((s4.trans s5).pre _ _ ea)) v5 e6 fun H6 s6 hR6 => (p6.shift s6).here hR6 (sR.mono (s1.trans (s4.trans (s5.trans s6))))
            cases q1
            exact ⟨dx', fs', q2, q5, q6⟩
    · cases e2
theorem ms_aug (i : Nat) {x : Str} {op : Operator} {t : TIp} {g : Val → Val → Heap → Res Val} (hop : PIp X op t) (hg : Rf2 G E t g) (hN : X.N.Nodup) (ha : ME G E X a ta ma) (hi : X.N[i]? = some x := by rfl) (hx : Loc X.env.scope x := by first | exact Or.inl rfl | exact Or.inr rfl)
    (hf : X.fn x = true ∨ X.env.scope.names.lookup x = some .local := by first | exact .inl rfl | exact .inr rfl | assumption) : MS G E X (.AugAssign (.Name x pos') op a pos) (tAug i ta t) (sAug i g ma) := by
  refine ⟨ps_aug hN hi hx ha.pe hop hf, ⟨fun r H h s σ D hR sR p => ?_⟩⟩
  unfold sAug at p
  split at p
  · rename_i x' e
    obtain ⟨v, ev, vR⟩ := sR.get e
    refine ⟨v, ev, ?_⟩
    refine ha.rf.run r H h s σ _ hR sR (p.seqS fun y h1 r1 H1 w s1 hR1 v1 p1 => ?_)
    refine hg.run r1 H1 h1 _ y v w _ hR1 (vR.mono s1) v1 (p1.seqS fun z h2 r2 H2 w2 s2 hR2 v2 p2 => ?_)
    exact p2.here hR2 ((sR.mono (s1.trans s2)).set v2 i)
  · exact False.elim p
end
end PyM

set_option Elab.async false
set_option linter.all false
set_option maxRecDepth 100000
set_option autoImplicit false
namespace PyM
open PySem L2

/-! ### what a loop walks -/
structure Src where
  items : List Val
  chk : Heap → Bool
abbrev MI := En → Heap → Res Src
/-- the source lies under the layer's iterator J -/
structure ItOk (G : Cfg) (r : List Addr) (H : Hp) (J : It) (S : Src) : Prop where
  stop : ∀ r2 H2 h2, Stp G.K r H r2 H2 → HR G r2 H2 h2 → S.chk h2 = true → J.stop S.items.length H2
  go : ∀ r2 H2 h2 (i : Nat) (x : Val), Stp G.K r H r2 H2 → HR G r2 H2 h2 → S.chk h2 = true → S.items[i]? = some x →
    J.go i H2 ∧ ∀ v H3, J.yld i H2 v H3 → ∃ r3, Stp G.K r2 H2 r3 H3 ∧ HR G r3 H3 h2 ∧ VR G r3 H3 x v
structure RfI (G : Cfg) (E : XK) (t : TI) (m : MI) : Prop where
  run : ∀ r H h s σ (R : It → Hp → Prop), HR G r H h → SR G r H s σ → PostR G (fun r1 H1 (S : Src) (J : It) => ItOk G r1 H1 J S) r H E (m s h) R → t σ H R
structure MIt (G : Cfg) (E : XK) (X : Cx) (tg e : Expr) (t : TI) (m : MI) : Prop where
  pe : PI X tg e t
  rf : RfI G E t m
def lstIs (a : Nat) (xs : List Val) (h : Heap) : Bool := match h[a]? with
  | some (.lst ys) => decide (ys = xs)
  | some (.fls ys) => decide (ys = xs)
  | _ => false
def iSeq (m : En → Heap → Res Val) : MI := fun s h => (m s h).bind fun x h1 => match x with
  | .tup xs => .ok ⟨xs, fun _ => true⟩ h1
  | .ref a => match h1[a]? with
    | some (.lst xs) => .ok ⟨xs, lstIs a xs⟩ h1
    | some (.fls xs) => .ok ⟨xs, lstIs a xs⟩ h1
    | _ => .stuck
  | _ => .stuck
def iLst (m : En → Heap → Res Val) : MI := fun s h => (m s h).bind fun x h1 => match x with
  | .ref a => match h1[a]? with
    | some (.lst xs) => .ok ⟨xs, lstIs a xs⟩ h1
    | some (.fls xs) => .ok ⟨xs, lstIs a xs⟩ h1
    | _ => .stuck
  | _ => .stuck
def iTup_ (m : En → Heap → Res Val) : MI := fun s h => (m s h).bind fun x h1 => match x with
  | .tup xs => .ok ⟨xs, fun _ => true⟩ h1
  | _ => .stuck
def rangeV (lo : Int) (n : Nat) : List Val := (List.range n).map fun (i : Nat) => Val.int (lo + (i : Int))
def iRng1 (m : En → Heap → Res (List Val)) : MI := fun s h => (m s h).bind fun xs h1 => match xs with
  | [.int j] => if -(2 ^ 62) ≤ j ∧ j < 2 ^ 62 then .ok ⟨rangeV 0 j.toNat, fun _ => true⟩ h1 else .stuck
  | _ => .stuck
def iRng2 (m : En → Heap → Res (List Val)) : MI := fun s h => (m s h).bind fun xs h1 => match xs with
  | [.int i, .int j] => if -(2 ^ 62) ≤ i ∧ i < 2 ^ 62 ∧ -(2 ^ 62) ≤ j ∧ j < 2 ^ 62 then .ok ⟨rangeV i (j - i).toNat, fun _ => true⟩ h1 else .stuck
  | _ => .stuck
def iAlt (m n : MI) : MI := fun s h => match m s h with
  | .stuck => n s h
  | x => x
section
variable {G : Cfg} {E : XK} {X : Cx} {k : Nat} {a b c e tg : Expr} {es : List Expr} {ta tb tc : TE} {ma mb mc : En → Heap → Res Val} {pos p : Pos} {tA : TA} {mA : En → Heap → Res (List Val)}
theorem rangeV_get {lo : Int} {n i : Nat} : (rangeV lo n)[i]? = if i < n then some (.int (lo + (i : Int))) else none := by
  unfold rangeV
  rw [List.getElem?_map]
  by_cases h : i < n
  · rw [if_pos h, List.getElem?_range h]
    rfl
  · rw [if_neg h, List.getElem?_eq_none (by simpa using h)]
    rfl
theorem itl_ok {r1 : List Addr} {H1 : Hp} {ad : Addr} {xs : List Val} {n : Nat} (ea : r1[n]? = some ad) : ItOk G r1 H1 (Itl G.K ad) ⟨xs, lstIs n xs⟩ := by
  have key : ∀ r2 H2 h2, Stp G.K r1 H1 r2 H2 → HR G r2 H2 h2 → lstIs n xs h2 = true → ∃ vs, SqL G.K H2 ad vs ∧ VRs G r2 H2 xs vs := by
    intro r2 H2 h2 hp hR hc
    unfold lstIs at hc
    split at hc
    · rename_i ys eo
      have : ys = xs := by simpa using hc
      subst this
      cases hR.ob _ _ _ eo (hp.pre _ _ ea) with
      | lst hl hv => exact ⟨_, SqL.of hl, hv⟩
    · rename_i ys eo
      have : ys = xs := by simpa using hc
      subst this
      cases hR.ob _ _ _ eo (hp.pre _ _ ea) with
      | fls hl hv => exact ⟨_, hl.sq, hv⟩
    · cases hc
  refine ⟨fun r2 H2 h2 hp hR hc => ?_, fun r2 H2 h2 i x hp hR hc hx => ?_⟩
  · obtain ⟨vs, h1, h2⟩ := key r2 H2 h2 hp hR hc
    exact ⟨vs, h1, Nat.le_of_eq h2.len.symm⟩
  · obtain ⟨vs, h1, h2⟩ := key r2 H2 h2 hp hR hc
    obtain ⟨v, ev, vv⟩ := h2.get hx
    refine ⟨⟨vs, v, h1, ev⟩, fun v' H3 hy => ?_⟩
    obtain ⟨rfl, hy⟩ := hy
    have := hy vs h1
    rw [ev] at this
    cases this
    exact ⟨r2, Stp.refl, hR, vv⟩
theorem mi_lst (C : XC G E X k) (ha : ME G E X a ta ma) : MIt G E X tg a (iList G.K ta) (iLst ma) := by
  refine ⟨?_, ⟨fun r H h s σ R hR sR p => ha.rf.run r H h s σ _ hR sR (p.seq fun x h1 r1 H1 v s1 hR1 v1 p1 => ?_)⟩⟩
  · have := pi_list (tg := tg) ha.pe
    rwa [C.K] at this
  · cases v1 with
    | @ref n ad ea =>
      simp only at p1
      split at p1
      · rename_i xs eo
        cases hR1.ob _ _ _ eo ea with
        | lst hl hv => exact ⟨_, rfl, ⟨_, SqL.of hl⟩, p1.here hR1 (itl_ok ea)⟩
      · rename_i xs eo
        cases hR1.ob _ _ _ eo ea with
        | fls hl hv => exact ⟨_, rfl, ⟨_, hl.sq⟩, p1.here hR1 (itl_ok ea)⟩
      · exact False.elim p1
    | _ => exact False.elim p1
theorem itr_ok {r1 : List Addr} {H1 : Hp} {lo : Int} {n : Nat} : ItOk G r1 H1 (Itr lo n) ⟨rangeV lo n, fun _ => true⟩ := by
  refine ⟨fun r2 H2 h2 _ _ _ => ?_, fun r2 H2 h2 i x _ hR2 _ hx => ?_⟩
  · show n ≤ (rangeV lo n).length
    simp [rangeV]
  · have hx : (rangeV lo n)[i]? = some x := hx
    rw [rangeV_get] at hx
    split at hx
    · rename_i hi
      cases hx
      refine ⟨hi, fun v H3 hy => ?_⟩
      obtain ⟨rfl, rfl⟩ := hy
      exact ⟨r2, Stp.refl, hR2, .int _⟩
    · cases hx
theorem mi_rng1 (hm : X.mg "range" = none) (ha : MA G E X [a] tA mA) (hg : Gl X "range" := by rfl) (hs : starEach [a] X.env = [(false, eval a X.env)] := by rfl) : MIt G E X tg (.Call (.Name "range" p) [a] [] pos) (L2.iRng1 tA) (iRng1 mA) := by
  refine ⟨pi_range1 hg hm ha.pe hs, ⟨fun r H h s σ R hR sR p => ha.rf.run r H h s σ _ hR sR (p.seq fun x h1 r1 H1 v s1 hR1 v1 p1 => ?_)⟩⟩
  split at p1
  · rename_i j
    cases v1 with
    | cons q1 q2 =>
      cases q1
      cases q2
      split at p1
      · rename_i hj
        exact ⟨j, rfl, hj.1, hj.2, p1.here hR1 itr_ok⟩
      · exact False.elim p1
  · exact False.elim p1
theorem mi_rng2 (hm : X.mg "range" = none) (ha : MA G E X [a, b] tA mA) (hg : Gl X "range" := by rfl) (hs : starEach [a, b] X.env = [(false, eval a X.env), (false, eval b X.env)] := by rfl) (hs2 : starEach [b] X.env = [(false, eval b X.env)] := by rfl) :
    MIt G E X tg (.Call (.Name "range" p) [a, b] [] pos) (L2.iRng2 tA) (iRng2 mA) := by
  refine ⟨pi_range2 hg hm ha.pe hs hs2, ⟨fun r H h s σ R hR sR p => ha.rf.run r H h s σ _ hR sR (p.seq fun x h1 r1 H1 v s1 hR1 v1 p1 => ?_)⟩⟩
  split at p1
  · rename_i i j
    cases v1 with
    | cons q1 q2 => cases q2 with
      | cons q3 q4 =>
        cases q1
        cases q3
        cases q4
        split at p1
        · rename_i hj
          exact ⟨i, j, rfl, hj, p1.here hR1 itr_ok⟩
        · exact False.elim p1
  · exact False.elim p1
theorem itt_ok {r1 : List Addr} {H1 : Hp} {ad : Addr} {xs : List Val} {vs : List V} (hs : SqT G.K H1 ad vs) (hv : VRs G r1 H1 xs vs) : ItOk G r1 H1 (Itt G.K ad) ⟨xs, fun _ => true⟩ := by
  refine ⟨fun r2 H2 h2 hp _ _ => ⟨vs, hp.tup _ _ hs, Nat.le_of_eq hv.len.symm⟩, fun r2 H2 h2 i x hp hR2 _ hx => ?_⟩
  obtain ⟨v, ev, vv⟩ := hv.get hx
  refine ⟨⟨vs, v, hp.tup _ _ hs, ev⟩, fun v' H3 hy => ?_⟩
  obtain ⟨rfl, hy⟩ := hy
  have := hy vs (hp.tup _ _ hs)
  rw [ev] at this
  cases this
  exact ⟨r2, Stp.refl, hR2, vv.mono hp⟩
theorem mi_tup (C : XC G E X k) (ha : ME G E X a ta ma) : MIt G E X tg a (iTup G.K ta) (iTup_ ma) := by
  refine ⟨?_, ⟨fun r H h s σ R hR sR p => ha.rf.run r H h s σ _ hR sR (p.seq fun x h1 r1 H1 v s1 hR1 v1 p1 => ?_)⟩⟩
  · have := pi_tup (tg := tg) ha.pe
    rwa [C.K] at this
  · cases v1 with
    | tup hs hv => exact ⟨_, rfl, ⟨_, hs.1⟩, p1.here hR1 (itt_ok hs.1 hv)⟩
    | _ => exact False.elim p1
theorem pi_or {tg e : Expr} {t t' : TI} (h : PI X tg e t) (h' : PI X tg e t') : PI X tg e (fun σ H R => t σ H R ∨ t' σ H R) := ⟨fun pins s σ H R I q => q.elim (h.run pins s σ H R I) (h'.run pins s σ H R I)⟩
theorem mi_alt {t t' : TI} {m m' : MI} (h : MIt G E X tg e t m) (h' : MIt G E X tg e t' m') : MIt G E X tg e (fun σ H R => t σ H R ∨ t' σ H R) (iAlt m m') := by
  refine ⟨pi_or h.pe h'.pe, ⟨fun r H hh s σ Q hR sR p => ?_⟩⟩
  unfold iAlt at p
  cases q : m s hh with
  | stuck => rw [q] at p; exact .inr (h'.rf.run r H hh s σ Q hR sR p)
  | ok x y => rw [q] at p; exact .inl (h.rf.run r H hh s σ Q hR sR (by rw [q]; exact p))
  | raised x y => rw [q] at p; exact .inl (h.rf.run r H hh s σ Q hR sR (by rw [q]; exact p))

/-! ### for -/
end
def forM_ (chk : Heap → Bool) (tg : Val → En → Option En) (body : En → Heap → RS) : List Val → En → Heap → RS
  | [], s, h => if chk h = true then .nx s h else .stuck
  | x :: xs, s, h => if chk h = true then match tg x s with
      | some s1 => match body s1 h with
        | .nx s2 h2 => forM_ chk tg body xs s2 h2
        | .ct s2 h2 => forM_ chk tg body xs s2 h2
        | .bk s2 h2 => .nx s2 h2
        | y => y
      | none => .stuck
    else .stuck
def sFor (mi : MI) (tg : Val → En → Option En) (body : En → Heap → RS) (s : En) (h : Heap) : RS := (mi s h).thenS fun S h1 => forM_ S.chk tg body S.items s h1
def whM (c : En → Heap → Res Bool) (body : En → Heap → RS) : Nat → En → Heap → RS
  | 0, _, _ => .stuck
  | n + 1, s, h => (c s h).thenS fun b h1 => if b = true then match body s h1 with
      | .nx s2 h2 => whM c body n s2 h2
      | .ct s2 h2 => whM c body n s2 h2
      | .bk s2 h2 => .nx s2 h2
      | y => y
    else .nx s h1
def wipeE (s : En) : List Nat → En
  | [] => s
  | v :: vs => (wipeE s vs).set v none
def lcM (chk : Heap → Bool) (tg : Val → En → Option En) (mt : En → Heap → Res Bool) (me : En → Heap → Res Val) (s0 : En) (n : Nat) : List Val → Heap → Res Unit
  | [], h => if chk h = true then .ok () h else .stuck
  | x :: xs, h => if chk h = true then match tg x s0 with
      | some s2 => match mt s2 h with
        | .ok b h1 => if b = true then match me s2 h1 with
            | .ok y h2 => match h2[n]? with
              | some (.lst acc) => if acc.length < lim then lcM chk tg mt me s0 n xs (h2.set n (.lst (acc ++ [y]))) else .stuck
              | _ => .stuck
            | _ => .stuck
          else lcM chk tg mt me s0 n xs h1
        | _ => .stuck
      | none => .stuck
    else .stuck
def mLc (mi : MI) (tg : Val → En → Option En) (mt : En → Heap → Res Bool) (me : En → Heap → Res Val) (vs : List Nat) (s : En) (h : Heap) : Res Val := (mi s h).bind fun S h1 => (lcM S.chk tg mt me (wipeE s vs) h1.length S.items (h1 ++ [.lst []])).bind fun _ h2 => .ok (.ref h1.length) h2
section
variable {G : Cfg} {E : XK} {X : Cx} {k : Nat} {a b c e tg iter elt : Expr} {es ifs : List Expr} {ta tb te : TE} {ma mb me : En → Heap → Res Val} {pos p : Pos} {tA : TA} {mA : En → Heap → Res (List Val)} {wi : TI} {mi : MI} {g : TG} {mg : Val → En → Option En}
  {sts : List Stmt} {t : TS} {m : En → Heap → RS} {tt : TT} {mt : En → Heap → Res Bool}
theorem rf_for (hi : RfI G E wi mi) (hg : RfG G g mg) (hb : RfS G E t m) : RfS G E (tFor wi g t) (sFor mi mg m) := by
  refine ⟨fun r H h s σ D hR sR p => hi.run r H h s σ _ hR sR (p.seqS fun S h1 r1 H1 J s1 hR1 J1 p1 => ?_)⟩
  refine ⟨fun i mm σ' H' => ∃ r' h' s', Stp G.K r1 H1 r' H' ∧ HR G r' H' h' ∧ SR G r' H' s' σ' ∧ mm = S.items.length - i ∧ i ≤ S.items.length ∧ PostS G r' H' E (forM_ S.chk mg m (S.items.drop i) s' h') D, ⟨_, r1, h1, s, Stp.refl, hR1, sR.mono s1, rfl, Nat.zero_le _, p1⟩, ?_⟩
  rintro i mm σ' H' ⟨r', h', s', st, hR', sR', rfl, hle, p'⟩
  cases hd : S.items.drop i with
  | nil =>
    have hi : i = S.items.length := by
      have := List.drop_eq_nil_iff.mp hd
      omega
    rw [hd] at p'
    unfold forM_ at p'
    split at p'
    · rename_i hc
      subst hi
      exact .inl ⟨J1.stop r' H' h' st hR' hc, p'.here hR' sR'⟩
    · exact False.elim p'
  | cons x rest =>
    have hlt : i < S.items.length := by
      refine Decidable.byContradiction fun q => ?_
      rw [List.drop_eq_nil_of_le (by omega)] at hd
      cases hd
    have hx : S.items[i]? = some x := by
      have := congrArg (fun l => l[0]?) hd
      simpa using this
    have hr : S.items.drop (i + 1) = rest := by
      rw [← List.drop_drop (i := 1) (j := i), hd]
      rfl
    rw [hd] at p'
    unfold forM_ at p'
    split at p'
    · rename_i hc
      obtain ⟨hgo, hy⟩ := J1.go r' H' h' i x st hR' hc hx
      refine .inr ⟨hgo, fun σ2 H2 => ∃ r2 h2 s2, Stp G.K r1 H1 r2 H2 ∧ HR G r2 H2 h2 ∧ SR G r2 H2 s2 σ2 ∧ PostS G r2 H2 E (forM_ S.chk mg m rest s2 h2) D, ?_, ?_⟩
      · rintro σ2 H2 ⟨r2, h2, s2, q1, q2, q3, q4⟩
        exact ⟨_, by omega, r2, h2, s2, q1, q2, q3, rfl, by omega, by rw [hr]; exact q4⟩
      · intro v H3 hyl
        obtain ⟨r3, st3, hR3, vR⟩ := hy v H3 hyl
        cases e1 : mg x s' with
        | none => rw [e1] at p'; exact False.elim p'
        | some s1' =>
          rw [e1] at p'
          refine hg.run r3 H3 s' σ' x v _ (sR'.mono st3) vR ⟨s1', e1, fun σ1 sR1 => ?_⟩
          refine hb.run r3 H3 h' s1' σ1 _ hR3 sR1 ?_
          simp only at p'
          cases e2 : m s1' h' with
          | nx s2 h2 =>
            rw [e2] at p'
            exact fun r4 H4 t4 st4 hR4 sR4 => ⟨r4, h2, s2, st.trans (st3.trans st4), hR4, sR4, p'.shift (st3.trans st4)⟩
          | ct s2 h2 =>
            rw [e2] at p'
            exact fun r4 H4 t4 st4 hR4 sR4 => ⟨r4, h2, s2, st.trans (st3.trans st4), hR4, sR4, p'.shift (st3.trans st4)⟩
          | bk s2 h2 =>
            rw [e2] at p'
            exact fun r4 H4 t4 st4 hR4 sR4 => p' r4 H4 t4 (st3.trans st4) hR4 sR4
          | rt v2 h2 =>
            rw [e2] at p'
            exact fun r4 H4 t4 st4 hR4 sR4 => p' r4 H4 t4 (st3.trans st4) hR4 sR4
          | raised c2 h2 =>
            rw [e2] at p'
            exact fun r4 H4 t4 st4 hR4 sR4 => p' r4 H4 t4 (st3.trans st4) hR4 sR4
          | stuck =>
            rw [e2] at p'
            exact p'
    · exact False.elim p'
theorem ms_for (C : XC G E X k) (hi : MIt G E X tg iter wi mi) (hg : MG G X tg g mg) (hb : MSs G E X sts t m) (hs : ∀ x, foldedSetIterable iter X.env x = pure x := by intro _; rfl) : MS G E X (.For tg iter sts [] pos) (tFor wi g t) (sFor mi mg m) :=
  ⟨ps_for C.own C.calm hi.pe hg.pe hb.pe hs, rf_for hi.rf hg.rf hb.rf⟩
theorem rf_while (n : Nat) (hc : RfT G E tt mt) (hb : RfS G E t m) : RfS G E (tWhile tt t) (whM mt m n) := by
  refine ⟨fun r H h s σ D hR sR p => ?_⟩
  refine ⟨fun mm σ' H' => ∃ r' h' s', Stp G.K r H r' H' ∧ HR G r' H' h' ∧ SR G r' H' s' σ' ∧ PostS G r' H' E (whM mt m mm s' h') D, ⟨n, r, h, s, Stp.refl, hR, sR, p⟩, ?_⟩
  rintro mm σ' H' ⟨r', h', s', st, hR', sR', p'⟩
  cases mm with
  | zero => exact False.elim p'
  | succ mm =>
    unfold whM at p'
    refine hc.run r' H' h' s' σ' _ hR' sR' (p'.seqS fun b h1 r1 H1 v s1 hR1 v1 p1 => ?_)
    subst v1
    split at p1
    · rename_i hb1
      rw [if_pos hb1]
      refine ⟨fun σ2 H2 => ∃ r2 h2 s2, Stp G.K r H r2 H2 ∧ HR G r2 H2 h2 ∧ SR G r2 H2 s2 σ2 ∧ PostS G r2 H2 E (whM mt m mm s2 h2) D, fun σ2 H2 q => ⟨mm, Nat.lt_succ_self _, q⟩, ?_⟩
      refine hb.run r1 H1 h1 s' σ' _ hR1 (sR'.mono s1) ?_
      cases e2 : m s' h1 with
      | nx s2 h2 =>
        rw [e2] at p1
        exact fun r4 H4 t4 st4 hR4 sR4 => ⟨r4, h2, s2, st.trans (s1.trans st4), hR4, sR4, PostS.shift st4 p1⟩
      | ct s2 h2 =>
        rw [e2] at p1
        exact fun r4 H4 t4 st4 hR4 sR4 => ⟨r4, h2, s2, st.trans (s1.trans st4), hR4, sR4, PostS.shift st4 p1⟩
      | bk s2 h2 =>
        rw [e2] at p1
        exact p1
      | rt v2 h2 =>
        rw [e2] at p1
        exact p1
      | raised c2 h2 =>
        rw [e2] at p1
        exact p1
      | stuck =>
        rw [e2] at p1
        exact p1
    · rename_i hb1
      rw [if_neg hb1]
      exact p1.here hR1 (sR'.mono s1)
theorem ms_while (n : Nat) (C : XC G E X k) (hc : MT G E X c tt mt) (hb : MSs G E X sts t m) : MS G E X (.While c sts [] pos) (tWhile tt t) (whM mt m n) :=
  ⟨ps_while C.own hc.pe hb.pe, rf_while n hc.rf hb.rf⟩

/-! ### list comprehensions -/
theorem SR.setN {r : List Addr} {H : Hp} {s : En} {t : L2.St} (q : SR G r H s t) : ∀ (i : Nat), SR G r H (s.set i none) (t.set i none) := by
  induction q with
  | nil => exact fun _ => .nil
  | no q ih => exact fun i => match i with
    | 0 => .no q
    | i + 1 => .no (ih i)
  | so b q ih => exact fun i => match i with
    | 0 => .no q
    | i + 1 => .so b (ih i)
theorem SR.wipe {r : List Addr} {H : Hp} {s : En} {t : L2.St} (q : SR G r H s t) : ∀ vs : List Nat, SR G r H (wipeE s vs) (L2.wipe t vs)
  | [] => q
  | v :: vs => (SR.wipe q vs).setN v
/-- a comprehension's target stores its own slots alone -/
structure TgW (vs : List Nat) (g : TG) : Prop where
  run : ∀ v σ σ0 H (Q : L2.St → Hp → Prop), L2.wipe σ vs = σ0 → g v σ H Q → g v σ H fun σ2 H2 => L2.wipe σ2 vs = σ0 ∧ Q σ2 H2
structure TgWs (vs : List Nat) (g : TGs) : Prop where
  run : ∀ v σ σ0 H (Q : L2.St → Hp → Prop), L2.wipe σ vs = σ0 → g v σ H Q → g v σ H fun σ2 H2 => L2.wipe σ2 vs = σ0 ∧ Q σ2 H2
theorem wipe_get (σ : L2.St) : ∀ (vs : List Nat) (i : Nat), (L2.wipe σ vs)[i]? = if i ∈ vs then (if i < σ.length then some none else none) else σ[i]?
  | [], i => by simp [L2.wipe]
  | v :: vs, i => by
    unfold L2.wipe
    rw [List.getElem?_set, wipe_length]
    by_cases h : v = i
    · subst h
      simp
    · have h' : ¬ i = v := fun e => h e.symm
      rw [if_neg h, wipe_get σ vs i]
      simp [h']
theorem wipe_set {σ : L2.St} {vs : List Nat} {i : Nat} {o : Option V} (hi : i ∈ vs) : L2.wipe (σ.set i o) vs = L2.wipe σ vs := by
  apply List.ext_getElem?
  intro j
  rw [wipe_get, wipe_get, List.length_set]
  by_cases h : j ∈ vs
  · rw [if_pos h, if_pos h]
  · rw [if_neg h, if_neg h, List.getElem?_set_ne (fun e => h (by rw [← e]; exact hi))]
theorem wipe_wipe {σ : L2.St} {vs : List Nat} : L2.wipe (L2.wipe σ vs) vs = L2.wipe σ vs := by
  apply List.ext_getElem?
  intro j
  rw [wipe_get, wipe_get, wipe_length]
  by_cases h : j ∈ vs <;> simp [h]
theorem tgw_name {vs : List Nat} {i : Nat} (hi : i ∈ vs) : TgW vs (gName i) := ⟨fun v σ σ0 H Q e q => ⟨by rw [wipe_set hi]; exact e, q⟩⟩
theorem tgws_nil {vs : List Nat} : TgWs vs gNil := ⟨fun v σ σ0 H Q e q => ⟨q.1, e, q.2⟩⟩
theorem tgws_cons {vs : List Nat} {g : TG} {gs : TGs} (h : TgW vs g) (hs : TgWs vs gs) (mono : ∀ v σ H (Q Q' : L2.St → Hp → Prop), (∀ σ H, Q σ H → Q' σ H) → g v σ H Q → g v σ H Q') : TgWs vs (gCons g gs) := by
  refine ⟨fun v σ σ0 H Q e ⟨x, r, e1, q⟩ => ⟨x, r, e1, ?_⟩⟩
  exact mono _ _ _ _ _ (fun σ2 H2 z => hs.run r σ2 σ0 H2 Q z.1 z.2) (h.run x σ σ0 H _ e q)
theorem tgw_tup {K : PySem.W.Frag} {vs : List Nat} {n : Nat} {gs : TGs} (h : TgWs vs gs) : TgW vs (gTup K n gs) := ⟨fun v σ σ0 H Q e ⟨a, xs, e1, e2, e3, q⟩ => ⟨a, xs, e1, e2, e3, h.run xs σ σ0 H Q e q⟩⟩
theorem mono_name {i : Nat} : ∀ v σ H (Q Q' : L2.St → Hp → Prop), (∀ σ H, Q σ H → Q' σ H) → gName i v σ H Q → gName i v σ H Q' := fun _ _ _ _ _ f q => f _ _ q
abbrev E0 : XK := L2.E0
theorem rf_lc {vs : List Nat} (hi : RfI G E wi mi) (hg : RfG G g mg) (hw : TgW vs g) (ht : RfT G E0 tt mt) (he : Rf G E0 te me) : Rf G E (tLc wi g tt te vs) (mLc mi mg mt me vs) := by
  refine ⟨fun r H h s σ Q hR sR p => hi.run r H h s σ _ hR sR (p.seq fun S h1 r1 H1 J s1 hR1 J1 p1 => ?_)⟩
  intro D hD
  have st0 : Stp G.K r1 H1 (r1 ++ [D]) (upd H1 D (.lst [])) := Stp.new hD
  have hR0 : HR G (r1 ++ [D]) (upd H1 D (.lst [])) (h1 ++ [.lst []]) := hR1.push hD (.lst upd_same .nil)
  have rD : (r1 ++ [D])[h1.length]? = some D := by rw [← hR1.len]; simp
  have sR1 := ((sR.mono s1).mono st0).wipe vs
  refine ⟨fun i mm H' => ∃ r' h', Stp G.K (r1 ++ [D]) (upd H1 D (.lst [])) r' H' ∧ HR G r' H' h' ∧ mm = S.items.length - i ∧ i ≤ S.items.length ∧
    PostR G (VR G) r' H' E ((lcM S.chk mg mt me (wipeE s vs) h1.length (S.items.drop i) h').bind fun _ h2 => .ok (.ref h1.length) h2) Q, ⟨_, _, _, Stp.refl, hR0, rfl, Nat.zero_le _, p1.shift st0⟩, ?_⟩
  rintro i mm H' ⟨r', h', st, hR', rfl, hle, p'⟩
  have stA := st0.trans st
  cases hd : S.items.drop i with
  | nil =>
    have hi : i = S.items.length := by
      have := List.drop_eq_nil_iff.mp hd
      omega
    rw [hd] at p'
    unfold lcM at p'
    split at p'
    · rename_i hc
      subst hi
      exact .inl ⟨J1.stop r' H' h' stA hR' hc, p'.here hR' (.ref (st.pre _ _ rD))⟩
    · exact False.elim p'
  | cons x rest =>
    have hlt : i < S.items.length := by
      refine Decidable.byContradiction fun q => ?_
      rw [List.drop_eq_nil_of_le (by omega)] at hd
      cases hd
    have hx : S.items[i]? = some x := by
      have := congrArg (fun l => l[0]?) hd
      simpa using this
    have hr : S.items.drop (i + 1) = rest := by
      rw [← List.drop_drop (i := 1) (j := i), hd]
      rfl
    rw [hd] at p'
    unfold lcM at p'
    split at p'
    · rename_i hc
      obtain ⟨hgo, hy⟩ := J1.go r' H' h' i x stA hR' hc hx
      refine .inr ⟨hgo, fun H2 => ∃ r2 h2, Stp G.K (r1 ++ [D]) (upd H1 D (.lst [])) r2 H2 ∧ HR G r2 H2 h2 ∧ PostR G (VR G) r2 H2 E ((lcM S.chk mg mt me (wipeE s vs) h1.length rest h2).bind fun _ h2 => .ok (.ref h1.length) h2) Q, ?_, ?_⟩
      · rintro H2 ⟨r2, h2, q1, q2, q4⟩
        exact ⟨_, by omega, r2, h2, q1, q2, rfl, by omega, by rw [hr]; exact q4⟩
      · intro v H3 hyl
        obtain ⟨r3, st3, hR3, vR⟩ := hy v H3 hyl
        refine hw.run v _ _ H3 _ wipe_wipe ?_
        cases e1 : mg x (wipeE s vs) with
        | none => rw [e1] at p'; exact False.elim p'
        | some s2 =>
          rw [e1] at p'
          refine hg.run r3 H3 _ _ x v _ ((sR1.mono st).mono st3) vR ⟨s2, e1, fun σ2 sR2 => ?_⟩
          refine ht.run r3 H3 h' s2 σ2 _ hR3 sR2 ?_
          simp only at p'
          cases e2 : mt s2 h' with
          | ok b h4 =>
            rw [e2] at p'
            intro r4 H4 b' st4 hR4 eb
            subst eb
            simp only at p'
            split at p'
            · rename_i hb
              rw [if_pos hb]
              refine he.run r4 H4 h4 s2 σ2 _ hR4 (sR2.mono st4) ?_
              cases e3 : me s2 h4 with
              | ok y h5 =>
                rw [e3] at p'
                intro r5 H5 y' st5 hR5 vy
                simp only at p'
                split at p'
                · rename_i acc eacc
                  have st5' := (st3.trans st4).trans st5
                  have rD5 := (st.trans st5').pre _ _ rD
                  cases hR5.ob _ _ _ eacc rD5 with
                  | @lst _ us _ hl hv =>
                    split at p'
                    · rename_i hlen
                      have stU : ∀ u, Stp G.K r5 H5 r5 (upd H5 D u) := fun u => Stp.upd fun o e => by rw [hl] at e; cases e; trivial
                      refine ⟨us, hl, lt_line (by rw [← hv.len]; exact hlen), r5, _, (st.trans st5').trans (stU _), hR5.write eacc rfl rD5 (fun o e => by rw [hl] at e; cases e; trivial) (.lst upd_same ?_) rfl, p'.shift (st5'.trans (stU _))⟩
                      exact (hv.app (.cons vy .nil)).mono (stU _)
                    · exact False.elim p'
                · exact False.elim p'
              | raised c h5 => rw [e3] at p'; exact False.elim p'
              | stuck => rw [e3] at p'; exact False.elim p'
            · rename_i hb
              rw [if_neg hb]
              exact ⟨r4, h4, st.trans (st3.trans st4), hR4, p'.shift (st3.trans st4)⟩
          | raised c h4 => rw [e2] at p'; exact False.elim p'
          | stuck => rw [e2] at p'; exact False.elim p'
    · exact False.elim p'
structure MTs (G : Cfg) (E : XK) (X : Cx) (es : List Expr) (t : TT) (m : En → Heap → Res Bool) : Prop where
  pe : PTs X es t
  rf : RfT G E t m
def tTrue (_ : En) (h : Heap) : Res Bool := .ok true h
theorem mts_nil : MTs G E X [] tYes tTrue := ⟨pts_nil, ⟨fun r H h s σ Q hR sR p => p.here hR rfl⟩⟩
theorem mts_one (h : MT G E X c tt mt) : MTs G E X [c] tt mt := ⟨pts_one h.pe, h.rf⟩
theorem XC.blk (C : XC G E X k) (s : Shared) (H : Hp) (scope : Scope) (cenv : Env) (fp : List Addr) : XC G E0 (X.blk s H scope cenv fp) k := ⟨C.K, C.calm, C.nd, C.room, passL, PassesOwn.never⟩
theorem me_lc {scope : Scope} (own : List (Str × Nat)) (C : XC G E X k) (hi : MIt G E X tg iter wi mi) (ok : BlkOk X.N X.env.scope scope own)
    (hg : ∀ (s : Shared) (H : Hp) (D : Addr) (cl : List (Str × Addr)) (fp : List Addr), XC G E0 (X.blk s H scope (compEnvC scope cl D X.env) fp) k → MG G (X.blk s H scope (compEnvC scope cl D X.env) fp) tg g mg)
    (ht : ∀ (s : Shared) (H : Hp) (D : Addr) (cl : List (Str × Addr)) (fp : List Addr), XC G E0 (X.blk s H scope (compEnvC scope cl D X.env) fp) k → MTs G E0 (X.blk s H scope (compEnvC scope cl D X.env) fp) ifs tt mt)
    (he : ∀ (s : Shared) (H : Hp) (D : Addr) (cl : List (Str × Addr)) (fp : List Addr), XC G E0 (X.blk s H scope (compEnvC scope cl D X.env) fp) k → ME G E0 (X.blk s H scope (compEnvC scope cl D X.env) fp) elt te me)
    (hw : TgW (own.map (·.2)) g) (hs : ∀ x, foldedSetIterable iter X.env x = pure x := by intro _; rfl) :
    ME G E X (.ListComp elt [⟨tg, iter, ifs, 0⟩] scope pos) (tLc wi g tt te (own.map (·.2))) (mLc mi mg mt me (own.map (·.2))) :=
  ⟨pe_lc C.calm C.nd hi.pe ok (fun s H D cl fp => (hg s H D cl fp (C.blk ..)).pe) (fun s H D cl fp => (ht s H D cl fp (C.blk ..)).pe) (fun s H D cl fp => (he s H D cl fp (C.blk ..)).pe) hs,
    rf_lc hi.rf (hg X.s_0 X.H_0 0 [] [] (C.blk ..)).rf hw (ht X.s_0 X.H_0 0 [] [] (C.blk ..)).rf (he X.s_0 X.H_0 0 [] [] (C.blk ..)).rf⟩
theorem ms_setLc {scope : Scope} {y : Str} {py spos : Pos} (i : Nat) (own : List (Str × Nat)) (C : XC G E X k) (hi : MIt G E X tg iter wi mi) (ok : BlkOk X.N X.env.scope scope own)
    (hg : ∀ (s : Shared) (H : Hp) (D : Addr) (cl : List (Str × Addr)) (fp : List Addr), XC G E0 (X.blk s H scope (compEnvC scope cl D X.env) fp) k → MG G (X.blk s H scope (compEnvC scope cl D X.env) fp) tg g mg)
    (ht : ∀ (s : Shared) (H : Hp) (D : Addr) (cl : List (Str × Addr)) (fp : List Addr), XC G E0 (X.blk s H scope (compEnvC scope cl D X.env) fp) k → MTs G E0 (X.blk s H scope (compEnvC scope cl D X.env) fp) ifs tt mt)
    (he : ∀ (s : Shared) (H : Hp) (D : Addr) (cl : List (Str × Addr)) (fp : List Addr), XC G E0 (X.blk s H scope (compEnvC scope cl D X.env) fp) k → ME G E0 (X.blk s H scope (compEnvC scope cl D X.env) fp) elt te me)
    (hw : TgW (own.map (·.2)) g) (hsw : swapsWith (.ListComp elt [⟨tg, iter, ifs, 0⟩] scope pos) (some (.Name y py)) spos.line X.env = pure true) (hy : X.N[i]? = some y := by rfl) (hyl : X.env.scope.names.lookup y = some .local := by rfl) (hs : ∀ x, foldedSetIterable iter X.env x = pure x := by intro _; rfl) :
    MS G E X (.Assign [.Name y py] (.ListComp elt [⟨tg, iter, ifs, 0⟩] scope pos) spos) (tAsg (tLc wi g tt te (own.map (·.2))) (gName i)) (sAsg (gV i) (mLc mi mg mt me (own.map (·.2)))) := by
  refine ⟨ps_setLc C.calm C.nd hy hyl hsw hi.pe ok (fun s H D cl fp => (hg s H D cl fp (C.blk ..)).pe) (fun s H D cl fp => (ht s H D cl fp (C.blk ..)).pe) (fun s H D cl fp => (he s H D cl fp (C.blk ..)).pe) hs, ⟨fun r H h s σ D hR sR p => ?_⟩⟩
  have rf := rf_lc (E := E) (vs := own.map (·.2)) hi.rf (hg X.s_0 X.H_0 0 [] [] (C.blk ..)).rf hw (ht X.s_0 X.H_0 0 [] [] (C.blk ..)).rf (he X.s_0 X.H_0 0 [] [] (C.blk ..)).rf
  exact rf.run r H h s σ _ hR sR (p.seqS fun x h1' r1 H1 v s1 hR1 v1 p1 => p1.here hR1 ((sR.mono s1).set v1 i))
end
end PyM

set_option Elab.async false
set_option linter.all false
set_option maxRecDepth 100000
set_option autoImplicit false
namespace PyM
open PySem L2

/-! ### built-ins by their names -/
theorem callR_or {X : Cx} {f : Value} {r r' : List V → Hp → VK → Prop} (h : CallR X f r) (h' : CallR X f r') : CallR X f (fun xs H Q => r xs H Q ∨ r' xs H Q) :=
  fun pins s σ H xs us Q I rv q => q.elim (h pins s σ H xs us Q I rv) (h' pins s σ H xs us Q I rv)
def bAbs (xs : List Val) (h : Heap) : Res Val := match xs with
  | [.int i] => .ok (.int (if i < 0 then -i else i)) h
  | _ => .stuck
def bInt (xs : List Val) (h : Heap) : Res Val := match xs with
  | [.int i] => .ok (.int i) h
  | [.bl b] => .ok (.int (if b then 1 else 0)) h
  | _ => .stuck
def bLen (xs : List Val) (h : Heap) : Res Val := match xs with
  | [.tup ys] => .ok (.int ys.length) h
  | [.ref a] => match h[a]? with
    | some (.lst ys) => .ok (.int ys.length) h
    | some (.fls ys) => .ok (.int ys.length) h
    | some (.dct d) => .ok (.int d.length) h
    | _ => .stuck
  | _ => .stuck
def bList (xs : List Val) (h : Heap) : Res Val := match xs with
  | [.tup ys] => .ok (.ref h.length) (h ++ [.lst ys])
  | [.ref a] => match h[a]? with
    | some (.lst ys) => .ok (.ref h.length) (h ++ [.lst ys])
    | some (.fls ys) => .ok (.ref h.length) (h ++ [.lst ys])
    | _ => .stuck
  | _ => .stuck
def bTuple (xs : List Val) (h : Heap) : Res Val := match xs with
  | [.tup ys] => .ok (.tup ys) h
  | [.ref a] => match h[a]? with
    | some (.lst ys) => .ok (.tup ys) h
    | some (.fls ys) => .ok (.tup ys) h
    | _ => .stuck
  | _ => .stuck
def asBl : Val → Option Bool
  | .bl b => some b
  | _ => none
def asInt : Val → Option Int
  | .int b => some b
  | _ => none
def seqOf (x : Val) (h : Heap) : Option (List Val) := match x with
  | .ref a => match h[a]? with
    | some (.lst ys) => some ys
    | some (.fls ys) => some ys
    | _ => none
  | _ => none
def bSeq {α : Type} (f : Val → Option α) (g : List α → Val) (xs : List Val) (h : Heap) : Res Val := match xs with
  | [x] => match seqOf x h with
    | some ys => match optAll f ys with
      | some bs => .ok (g bs) h
      | none => .stuck
    | none => .stuck
  | _ => .stuck
abbrev bAll := bSeq asBl fun bs => .bl (bs.all id)
abbrev bAny := bSeq asBl fun bs => .bl (bs.any id)
abbrev bSum := bSeq asInt fun bs => .int bs.sum
def bMax2 (xs : List Val) (h : Heap) : Res Val := match xs with
  | [.int i, .int j] => .ok (.int (if j > i then j else i)) h
  | _ => .stuck
def bMin2 (xs : List Val) (h : Heap) : Res Val := match xs with
  | [.int i, .int j] => .ok (.int (if j < i then j else i)) h
  | _ => .stuck
inductive Ty where
  | int | bool | str | tup | lst | dct | non
  deriving DecidableEq
def Ty.nm : Ty → String
  | .int => "int" | .bool => "bool" | .str => "str" | .tup => "tuple" | .lst => "list" | .dct => "dict" | .non => "NoneType"
def tyOf (x : Val) (h : Heap) : Option Ty := match x with
  | .non => some .non
  | .bl _ => some .bool
  | .int _ => some .int
  | .str _ => some .str
  | .tup _ => some .tup
  | .ref a => match h[a]? with
    | some (.lst _) => some .lst
    | some (.dct _) => some .dct
    | some (.dcT _) => some .dct
    | _ => none
def isTy (T : Ty) : Option Ty → Option Bool
  | some t => some (decide (t = T) || (decide (t = .bool) && decide (T = .int)))
  | none => none
def mIsi (T : Ty) (m : En → Heap → Res Val) (s : En) (h : Heap) : Res Val := (m s h).bind fun x h1 => match isTy T (tyOf x h1) with
  | some b => .ok (.bl b) h1
  | none => .stuck

section
variable {G : Cfg} {E : XK} {X : Cx} {k : Nat} {a b c e o e2 : Expr} {es : List Expr} {ta tb tc to : TE} {ma mb mc mo : En → Heap → Res Val} {pos p p2 apos : Pos} {tA : TA} {mA : En → Heap → Res (List Val)} {x : Str} {r : List Addr} {H : Hp} {h : Heap}
theorem me_blt {id : String} {t : List V → Hp → VK → Prop} {f : List Val → Heap → Res Val} (hc : CallR X (.builtin id) t) (hr : RfL G E t f) (hm : X.mg x = none) (hv : bootBuiltins x = some (.builtin id)) (ha : MA G E X (e :: es) tA mA) (hg : Gl X x := by rfl) (hn : x ≠ "__name__" := by decide) (hdb : (x == ("__debug__" : Str)) = false := by decide)
    (he : starEach (e :: es) X.env = (false, eval e X.env) :: starEach es X.env := by rfl) (hpl : (backTo pos (starEach es X.env)).any (·.1) = false := by rfl) : ME G E X (.Call (.Name x p) (e :: es) [] pos) (tCB t tA) (mL f mA) :=
  ⟨pe_callB hc hg hm hv ha.pe hn hdb he hpl, ha.rf.l hr⟩
theorem me_bty {id : String} {t : List V → Hp → VK → Prop} {f : List Val → Heap → Res Val} (hc : CallR X (.type id) t) (hr : RfL G E t f) (hm : X.mg x = none) (hv : bootBuiltins x = some (.type id)) (ha : MA G E X (e :: es) tA mA) (hg : Gl X x := by rfl) (hn : x ≠ "__name__" := by decide) (hdb : (x == ("__debug__" : Str)) = false := by decide)
    (he : starEach (e :: es) X.env = (false, eval e X.env) :: starEach es X.env := by rfl) (hpl : (backTo pos (starEach es X.env)).any (·.1) = false := by rfl) : ME G E X (.Call (.Name x p) (e :: es) [] pos) (tCB t tA) (mL f mA) :=
  ⟨pe_callTy hc hg hm hv ha.pe hn hdb he hpl, ha.rf.l hr⟩
theorem bt_abs : bootBuiltins "abs" = some (.builtin "abs") := by decide +kernel
theorem bt_int : bootBuiltins "int" = some (.type "int") := by decide +kernel
theorem bt_len : bootBuiltins "len" = some (.builtin "len") := by decide +kernel
theorem bt_list : bootBuiltins "list" = some (.type "list") := by decide +kernel
theorem bt_tuple : bootBuiltins "tuple" = some (.type "tuple") := by decide +kernel
theorem bt_all : bootBuiltins "all" = some (.builtin "all") := by decide +kernel
theorem bt_any : bootBuiltins "any" = some (.builtin "any") := by decide +kernel
theorem bt_sum : bootBuiltins "sum" = some (.builtin "sum") := by decide +kernel
theorem bt_max : bootBuiltins "max" = some (.builtin "max") := by decide +kernel
theorem bt_min : bootBuiltins "min" = some (.builtin "min") := by decide +kernel
theorem bt_sorted : bootBuiltins "sorted" = some (.builtin "sorted") := by decide +kernel
theorem bt_isi : bootBuiltins "isinstance" = some (.builtin "isinstance") := by decide +kernel

theorem vrs1 {xs : List Val} {v : V} {y : Val} (q : VRs G r H [y] [v]) : VR G r H y v := by cases q; assumption
theorem rl_abs : RfL G E (fun xs H Q => ∃ i, xs = [.int i] ∧ Q (.int (if i < 0 then -i else i)) H) bAbs := by
  refine ⟨fun r H h xs vs Q hR v p => ?_⟩
  unfold bAbs at p
  split at p
  · cases v with
    | cons q1 q2 => cases q1; cases q2; exact ⟨_, rfl, p.here hR (.int _)⟩
  · exact False.elim p
theorem rl_int : RfL G E (fun xs H Q => (∃ i, xs = [.int i] ∧ Q (.int i) H) ∨ ∃ k, xs = [.bl k] ∧ Q (.int (if k then 1 else 0)) H) bInt := by
  refine ⟨fun r H h xs vs Q hR v p => ?_⟩
  unfold bInt at p
  split at p
  · cases v with
    | cons q1 q2 => cases q1; cases q2; exact .inl ⟨_, rfl, p.here hR (.int _)⟩
  · cases v with
    | cons q1 q2 => cases q1; cases q2; exact .inr ⟨_, rfl, p.here hR (.int _)⟩
  · exact False.elim p
def rLenA (K : PySem.W.Frag) : List V → Hp → VK → Prop := fun xs H Q => (∃ x n, xs = [x] ∧ LenV K x H n ∧ Q (.int n) H) ∨ ∃ a kvs, xs = [V.ref a] ∧ H a = some (.dK kvs) ∧ Q (.int kvs.length) H
theorem cl_len (C : XC G E X k) : CallR X (.builtin "len") (rLenA G.K) := by
  have := callR_or (call_len (X := X)) call_lenD
  rw [C.K] at this
  exact this
theorem rl_len : RfL G E (rLenA G.K) bLen := by
  refine ⟨fun r H h xs vs Q hR v p => ?_⟩
  unfold bLen at p
  split at p
  · cases v with
    | cons q1 q2 => cases q2; cases q1 with
      | tup hs hv => exact .inl ⟨_, _, rfl, .inr ⟨_, hs.1, rfl⟩, by have := p.here hR (.int _); rw [hv.len] at this; exact this⟩
  · cases v with
    | cons q1 q2 => cases q2; cases q1 with
      | ref ea =>
        split at p
        · rename_i ys eo
          cases hR.ob _ _ _ eo ea with
          | lst hl hv => exact .inl ⟨_, _, rfl, .inl ⟨_, SqL.of hl, rfl⟩, by have := p.here hR (.int _); rw [hv.len] at this; exact this⟩
        · rename_i ys eo
          cases hR.ob _ _ _ eo ea with
          | fls hl hv => exact .inl ⟨_, _, rfl, .inl ⟨_, hl.sq, rfl⟩, by have := p.here hR (.int _); rw [hv.len] at this; exact this⟩
        · rename_i ys eo
          cases hR.ob _ _ _ eo ea with
          | dct hl hv => exact .inr ⟨_, _, rfl, hl, by have := p.here hR (.int _); rw [hv.len] at this; exact this⟩
        · exact False.elim p
  · exact False.elim p
def rListA (K : PySem.W.Frag) : List V → Hp → VK → Prop := fun xs H Q => ∃ p ys, xs = [.ref p] ∧ (SqL K H p ys ∨ SqT K H p ys) ∧ ∀ l, H l = none → Q (.ref l) (upd H l (.lst ys))
theorem cl_list (C : XC G E X k) : CallR X (.type "list") (rListA G.K) := by
  have := call_list_of (X := X)
  rw [C.K] at this
  exact this
theorem new_lst (hR : HR G r H h) {xs : List Val} {vs : List V} {Q : VK} (hv : VRs G r H xs vs) (p : PostR G (VR G) r H E (.ok (.ref h.length) (h ++ [.lst xs])) Q) (l : Addr) (hl : H l = none) : Q (.ref l) (upd H l (.lst vs)) := by
  refine p (r ++ [l]) _ _ (Stp.new hl) (hR.push hl (.lst upd_same (hv.mono (Stp.new hl)))) (.ref ?_)
  rw [← hR.len]
  simp
theorem rl_list : RfL G E (rListA G.K) bList := by
  refine ⟨fun r H h xs vs Q hR v p => ?_⟩
  unfold bList at p
  split at p
  · cases v with
    | cons q1 q2 => cases q2; cases q1 with
      | tup hs hv => exact ⟨_, _, rfl, .inr hs.1, new_lst hR hv p⟩
  · cases v with
    | cons q1 q2 => cases q2; cases q1 with
      | ref ea =>
        split at p
        · rename_i ys eo
          cases hR.ob _ _ _ eo ea with
          | lst hl hv => exact ⟨_, _, rfl, .inl (SqL.of hl), new_lst hR hv p⟩
        · rename_i ys eo
          cases hR.ob _ _ _ eo ea with
          | fls hl hv => exact ⟨_, _, rfl, .inl hl.sq, new_lst hR hv p⟩
        · exact False.elim p
  · exact False.elim p
def rTupA (K : PySem.W.Frag) : List V → Hp → VK → Prop := fun xs H Q => ∃ p ys, xs = [.ref p] ∧ ((SqL K H p ys ∧ ∀ l, H l = none → Q (.ref l) (upd H l (.tup ys))) ∨ (SqT K H p ys ∧ Q (.ref p) H))
theorem cl_tuple (C : XC G E X k) : CallR X (.type "tuple") (rTupA G.K) := by
  have := call_tuple_of (X := X)
  rw [C.K] at this
  exact this
theorem new_tup (hR : HR G r H h) {xs : List Val} {vs : List V} {Q : VK} (hv : VRs G r H xs vs) (p : PostR G (VR G) r H E (.ok (.tup xs) h) Q) (l : Addr) (hl : H l = none) : Q (.ref l) (upd H l (.tup vs)) :=
  p r _ _ (Stp.new0 hl) (hR.lay hl) (.tup (TQ.of upd_same) (hv.mono (Stp.new0 hl)))
theorem rl_tuple : RfL G E (rTupA G.K) bTuple := by
  refine ⟨fun r H h xs vs Q hR v p => ?_⟩
  unfold bTuple at p
  split at p
  · cases v with
    | cons q1 q2 => cases q2; cases q1 with
      | tup hs hv => exact ⟨_, _, rfl, .inr ⟨hs.1, p.here hR (.tup hs hv)⟩⟩
  · cases v with
    | cons q1 q2 => cases q2; cases q1 with
      | ref ea =>
        split at p
        · rename_i ys eo
          cases hR.ob _ _ _ eo ea with
          | lst hl hv => exact ⟨_, _, rfl, .inl ⟨SqL.of hl, new_tup hR hv p⟩⟩
        · rename_i ys eo
          cases hR.ob _ _ _ eo ea with
          | fls hl hv => exact ⟨_, _, rfl, .inl ⟨hl.sq, new_tup hR hv p⟩⟩
        · exact False.elim p
  · exact False.elim p
theorem seqOf_sq (hR : HR G r H h) {x : Val} {v : V} {ys : List Val} (q : VR G r H x v) (e : seqOf x h = some ys) : ∃ ad vs, v = .ref ad ∧ SqL G.K H ad vs ∧ VRs G r H ys vs := by
  cases q with
  | ref ea =>
    simp only [seqOf] at e
    split at e
    · rename_i zs eo
      cases e
      cases hR.ob _ _ _ eo ea with
      | lst hl hv => exact ⟨_, _, rfl, SqL.of hl, hv⟩
    · rename_i zs eo
      cases e
      cases hR.ob _ _ _ eo ea with
      | fls hl hv => exact ⟨_, _, rfl, hl.sq, hv⟩
    · cases e
  | _ => cases e
theorem all_bl : ∀ {ys : List Val} {vs : List V} {bs : List Bool}, VRs G r H ys vs → optAll asBl ys = some bs → vs = bs.map V.bl
  | _, _, _, .nil, e => by simp only [optAll, Option.some.injEq] at e; subst e; rfl
  | _, _, _, .cons a b, e => by
    simp only [optAll] at e
    split at e
    · rename_i d ds e1 e2
      cases e
      cases a with
      | bl b' => cases e1; rw [all_bl b e2]; rfl
      | _ => cases e1
    · cases e
theorem all_int : ∀ {ys : List Val} {vs : List V} {bs : List Int}, VRs G r H ys vs → optAll asInt ys = some bs → vs = bs.map V.int
  | _, _, _, .nil, e => by simp only [optAll, Option.some.injEq] at e; subst e; rfl
  | _, _, _, .cons a b, e => by
    simp only [optAll] at e
    split at e
    · rename_i d ds e1 e2
      cases e
      cases a with
      | int b' => cases e1; rw [all_int b e2]; rfl
      | _ => cases e1
    · cases e
theorem bSeq_ok {α : Type} {f : Val → Option α} {g : List α → Val} {xs : List Val} {vs : List V} {Q : VK} (hR : HR G r H h) (v : VRs G r H xs vs) (p : PostR G (VR G) r H E (bSeq f g xs h) Q) :
    ∃ ad us ys bs, vs = [V.ref ad] ∧ SqL G.K H ad us ∧ VRs G r H ys us ∧ optAll f ys = some bs ∧ PostR G (VR G) r H E (.ok (g bs) h) Q := by
  unfold bSeq at p
  split at p
  · cases v with
    | cons q1 q2 =>
      cases q2
      split at p
      · rename_i ys e1
        split at p
        · rename_i bs e2
          obtain ⟨ad, us, rfl, h1, h2⟩ := seqOf_sq hR q1 e1
          exact ⟨ad, us, ys, bs, rfl, h1, h2, e2, p⟩
        · exact False.elim p
      · exact False.elim p
  · exact False.elim p
theorem cl_all (C : XC G E X k) : CallR X (.builtin "all") (rAll G.K) := by have := cr_all (X := X) C.calm; rwa [C.K] at this
theorem cl_any (C : XC G E X k) : CallR X (.builtin "any") (rAny G.K) := by have := cr_any (X := X) C.calm; rwa [C.K] at this
theorem cl_sum (C : XC G E X k) : CallR X (.builtin "sum") (rSum G.K) := by have := cr_sum (X := X) C.calm; rwa [C.K] at this
theorem rl_all : RfL G E (rAll G.K) bAll := ⟨fun r H h xs vs Q hR v p => by
  obtain ⟨ad, us, ys, bs, rfl, h1, h2, e2, p⟩ := bSeq_ok hR v p
  rw [all_bl h2 e2] at h1
  exact ⟨ad, bs, rfl, h1, p.here hR (.bl _)⟩⟩
theorem rl_any : RfL G E (rAny G.K) bAny := ⟨fun r H h xs vs Q hR v p => by
  obtain ⟨ad, us, ys, bs, rfl, h1, h2, e2, p⟩ := bSeq_ok hR v p
  rw [all_bl h2 e2] at h1
  exact ⟨ad, bs, rfl, h1, p.here hR (.bl _)⟩⟩
theorem rl_sum : RfL G E (rSum G.K) bSum := ⟨fun r H h xs vs Q hR v p => by
  obtain ⟨ad, us, ys, bs, rfl, h1, h2, e2, p⟩ := bSeq_ok hR v p
  rw [all_int h2 e2] at h1
  exact ⟨ad, bs, rfl, h1, p.here hR (.int _)⟩⟩
theorem rl_max2 : RfL G E (fun xs H Q => ∃ i j, xs = [.int i, .int j] ∧ Q (.int (if j > i then j else i)) H) bMax2 := by
  refine ⟨fun r H h xs vs Q hR v p => ?_⟩
  unfold bMax2 at p
  split at p
  · cases v with
    | cons q1 q2 => cases q2 with
      | cons q3 q4 => cases q1; cases q3; cases q4; exact ⟨_, _, rfl, p.here hR (.int _)⟩
  · exact False.elim p
theorem rl_min2 : RfL G E (fun xs H Q => ∃ i j, xs = [.int i, .int j] ∧ Q (.int (if j < i then j else i)) H) bMin2 := by
  refine ⟨fun r H h xs vs Q hR v p => ?_⟩
  unfold bMin2 at p
  split at p
  · cases v with
    | cons q1 q2 => cases q2 with
      | cons q3 q4 => cases q1; cases q3; cases q4; exact ⟨_, _, rfl, p.here hR (.int _)⟩
  · exact False.elim p

/-! ### isinstance of a built-in class -/
theorem kit_all : ∀ t ∈ [Ty.int, Ty.bool, Ty.str, Ty.tup, Ty.lst, Ty.dct, Ty.non], ∀ T ∈ [Ty.int, Ty.bool, Ty.str, Ty.tup, Ty.lst, Ty.dct], kitB t.nm T.nm = some (decide (t = T) || (decide (t = .bool) && decide (T = .int))) := by decide +kernel
theorem tyOf_tyx (hR : HR G r H h) {x : Val} {v : V} {t : Ty} (q : VR G r H x v) (e : tyOf x h = some t) : TyX G.K H v (.type t.nm) := by
  cases q with
  | non => cases e; exact .base .non
  | bl b => cases e; exact .base (.bl _)
  | int b => cases e; exact .base (.int _)
  | str b => cases e; exact .base (.str _)
  | tup hs hv =>
    cases e
    rcases hs with (hs | ⟨o, hs⟩) | ⟨o, its, n, hk, hc, _⟩
    · exact .base (.tup hs)
    · exact .fTuple hs
    · exact .kTuple hk hc
  | ref ea =>
    simp only [tyOf] at e
    split at e
    · rename_i ys eo
      cases e
      cases hR.ob _ _ _ eo ea with
      | lst hl hv => exact .base (.lst hl)
    · rename_i ys eo
      cases e
      cases hR.ob _ _ _ eo ea with
      | dct hl hv => exact .base (.dK hl)
    · rename_i ys eo
      cases e
      cases hR.ob _ _ _ eo ea with
      | dcT hl hv => exact .base (.dT hl)
    · cases e
theorem me_isi (C : XC G E X k) (T : Ty) {y : Str} (hT : T ≠ .non) (hm : X.mg "isinstance" = none) (hy : X.mg y = none) (hb : bootBuiltins y = some (.type T.nm)) (ha : ME G E X a ta ma) (hg : Gl X "isinstance" := by rfl) (hgy : Gl X y := by rfl) (hn : y ≠ "__name__" := by decide) (hdb : (y == ("__debug__" : Str)) = false := by decide)
    (he : starEach (a :: [.Name y p2]) X.env = (false, eval a X.env) :: starEach [.Name y p2] X.env := by rfl) (he2 : starEach [.Name y p2] X.env = (false, eval (.Name y p2) X.env) :: starEach [] X.env := by rfl) (hpl : (backTo pos (starEach [.Name y p2] X.env)).any (·.1) = false := by rfl) :
    ME G E X (.Call (.Name "isinstance" p) [a, .Name y p2] [] pos) (tCB (rIsi G.K) (tCons ta (tCons (tC (.ty T.nm)) tNil))) (mIsi T ma) := by
  refine ⟨?_, ⟨fun r H h s σ Q hR sR p => ha.rf.run r H h s σ _ hR sR (p.seq fun x h1 r1 H1 v s1 hR1 v1 p1 => ?_)⟩⟩
  · have pa := pa_cons ha.pe (pa_cons (pe_bltn (v := .ty T.nm) (pos := p2) hgy hy hb rfl hn hdb) pa_nil he2) he
    have := pe_callB (pos := pos) (p := p) (call_isi (X := X)) hg hm bt_isi pa (by decide) (by decide) he hpl
    rw [C.K] at this
    exact this
  · split at p1
    · rename_i bb eb
      cases et : tyOf x h1 with
      | none => rw [et] at eb; cases eb
      | some t =>
        rw [et] at eb
        cases eb
        refine ⟨v, .ty T.nm, .type t.nm, .type T.nm, _, rfl, .ty _, tyOf_tyx hR1 v1 et, kit_ty (kit_all t ?_ T ?_), p1.here hR1 (.bl _)⟩
        · cases t <;> simp
        · cases T <;> first | (simp; done) | exact absurd rfl hT
    · exact False.elim p1

/-! ### methods of lists -/
def bAppend (x : Val) (xs : List Val) (h : Heap) : Res Val := match x, xs with
  | .ref a, [y] => match h[a]? with
    | some (.lst ys) => if ys.length < lim then .ok .non (h.set a (.lst (ys ++ [y]))) else .stuck
    | _ => .stuck
  | _, _ => .stuck
def bExtend (x : Val) (xs : List Val) (h : Heap) : Res Val := match x, xs with
  | .ref a, [.ref b] => match h[a]?, h[b]? with
    | some (.lst ys), some (.lst zs) => if ys.length + zs.length ≤ lim then .ok .non (h.set a (.lst (ys ++ zs))) else .stuck
    | _, _ => .stuck
  | _, _ => .stuck
def bPop (x : Val) (xs : List Val) (h : Heap) : Res Val := match x, xs with
  | .ref a, [] => match h[a]? with
    | some (.lst ys) => match ys[ys.length - 1]? with
      | some y => .ok y (h.set a (.lst ys.dropLast))
      | none => .stuck
    | _ => .stuck
  | _, _ => .stuck
def bPopAt (x : Val) (xs : List Val) (h : Heap) : Res Val := match x, xs with
  | .ref a, [.int i] => match h[a]? with
    | some (.lst ys) => if -(2 ^ 63) ≤ i ∧ i < 2 ^ 63 then match ixN ys.length i with
        | some j => match ys[j]? with
          | some y => .ok y (h.set a (.lst (ys.eraseIdx j)))
          | none => .stuck
        | none => .stuck
      else .stuck
    | _ => .stuck
  | _, _ => .stuck
def bCount (x : Val) (xs : List Val) (h : Heap) : Res Val := match x, xs with
  | .ref a, [y] => match h[a]? with
    | some (.lst ys) => if isFlat y = true ∧ ys.all isFlat = true then .ok (.int ((ys.countP fun z => feq z y : Nat) : Int)) h else .stuck
    | _ => .stuck
  | _, _ => .stuck
def mtOf (K : PySem.W.Frag) (x : V) (H : Hp) : Prop := tyV K "list" x H
def mBM (f : Val → List Val → Heap → Res Val) (mo : En → Heap → Res Val) (ma : En → Heap → Res (List Val)) (s : En) (h : Heap) : Res Val := (mo s h).bind fun x h1 => match seqOf x h1 with
  | some _ => (ma s h1).bind fun xs h2 => f x xs h2
  | none => .stuck
def mBM0 (f : Val → List Val → Heap → Res Val) (mo : En → Heap → Res Val) (s : En) (h : Heap) : Res Val := (mo s h).bind fun x h1 => match seqOf x h1 with
  | some _ => f x [] h1
  | none => .stuck
theorem tyL_of (hR : HR G r H h) {x : Val} {v : V} {ys : List Val} (q : VR G r H x v) (e : seqOf x h = some ys) : tyV G.K "list" v H := by
  obtain ⟨ad, vs, rfl, h1, _⟩ := seqOf_sq hR q e
  exact .inl ⟨rfl, _, h1⟩
theorem rf_bm {t : V → List V → Hp → VK → Prop} {f : Val → List Val → Heap → Res Val} (hf : RfM G E t f) (ho : Rf G E to mo) (ha : RfA G E tA mA) : Rf G E (tBM G.K "list" t to tA) (mBM f mo mA) := by
  refine ⟨fun r H h s σ Q hR sR p => ho.run r H h s σ _ hR sR (p.seq fun x h1 r1 H1 v s1 hR1 v1 p1 => ?_)⟩
  split at p1
  · rename_i ys ey
    refine ⟨tyL_of hR1 v1 ey, ha.run r1 H1 h1 s σ _ hR1 (sR.mono s1) (p1.seq fun xs h2 r2 H2 vs s2 hR2 v2 p2 => ?_)⟩
    exact hf.run r2 H2 h2 x v xs vs Q hR2 (v1.mono s2) v2 p2
  · exact False.elim p1
theorem rf_bm0 {t : V → List V → Hp → VK → Prop} {f : Val → List Val → Heap → Res Val} (hf : RfM G E t f) (ho : Rf G E to mo) : Rf G E (tBM0 G.K "list" t to) (mBM0 f mo) := by
  refine ⟨fun r H h s σ Q hR sR p => ho.run r H h s σ _ hR sR (p.seq fun x h1 r1 H1 v s1 hR1 v1 p1 => ?_)⟩
  split at p1
  · rename_i ys ey
    exact ⟨tyL_of hR1 v1 ey, hf.run r1 H1 h1 x v [] [] Q hR1 v1 .nil p1⟩
  · exact False.elim p1
theorem me_bm {name : Str} {id : String} {t : V → List V → Hp → VK → Prop} {f : Val → List Val → Heap → Res Val} (C : XC G E X k) (slot : Slot "list" name id) (hty : typeOf (.builtin id) = pure (.type "method_descriptor")) (hm : MtR X id t) (hf : RfM G E t f) (ho : ME G E X o to mo) (ha : MA G E X (e :: es) tA mA)
    (hbase : attributeBase o name X.env (eval o X.env) = eval o X.env := by rfl)
    (hfew : ((backTo pos (starEach (e :: es) X.env)).all (fun x => !x.1) && (backToKw pos (keywordEach [] X.env)).all (fun x => x.1.isSome)
      && decide ((e :: es).length + ([] : List Keyword).length + (if ([] : List Keyword).isEmpty then 0 else 1) < 30)) = true := by rfl)
    (hline : (apos.endLine == pos.line) = true := by rfl) (hs : starEach (e :: es) X.env = (false, eval e X.env) :: starEach es X.env := by rfl) (hplain : (backTo pos (starEach es X.env)).any (·.1) = false := by rfl) :
    ME G E X (.Call (.Attribute o name apos) (e :: es) [] pos) (tBM G.K "list" t to tA) (mBM f mo mA) := by
  refine ⟨?_, rf_bm hf ho.rf ha.rf⟩
  have := pe_bm PySem.F.plainAttrs_list slot hty hm ho.pe ha.pe hbase hfew hline hs hplain
  rwa [C.K] at this
theorem me_bm0 {name : Str} {id : String} {t : V → List V → Hp → VK → Prop} {f : Val → List Val → Heap → Res Val} (C : XC G E X k) (slot : Slot "list" name id) (hty : typeOf (.builtin id) = pure (.type "method_descriptor")) (hm : MtR X id t) (hf : RfM G E t f) (ho : ME G E X o to mo)
    (hbase : attributeBase o name X.env (eval o X.env) = eval o X.env := by rfl) (hline : (apos.endLine == pos.line) = true := by rfl) :
    ME G E X (.Call (.Attribute o name apos) [] [] pos) (tBM0 G.K "list" t to) (mBM0 f mo) := by
  refine ⟨?_, rf_bm0 hf ho.rf⟩
  have := pe_bm0 PySem.F.plainAttrs_list slot hty hm ho.pe hbase hline
  rwa [C.K] at this
theorem set_lst (hR : HR G r H h) {n : Nat} {ad : Addr} {xs ys : List Val} {us vs : List V} {x : Val} {v : V} {Q : VK} (eo : h[n]? = some (.lst xs)) (ea : r[n]? = some ad) (hl : H ad = some (.lst us)) (hv : VRs G r H ys vs) (hx : VR G r H x v) (p : PostR G (VR G) r H E (.ok x (h.set n (.lst ys))) Q) : Q v (upd H ad (.lst vs)) := by
  have st : Stp G.K r H r (upd H ad (.lst vs)) := Stp.upd fun o e => by rw [hl] at e; cases e; trivial
  exact p r _ _ st (hR.write eo rfl ea (fun o e => by rw [hl] at e; cases e; trivial) (.lst upd_same (hv.mono st)) rfl) (hx.mono st)
theorem rm_append : RfM G E rAppend bAppend := by
  refine ⟨fun r H h x v xs vs Q hR vx vv p => ?_⟩
  unfold bAppend at p
  split at p
  · cases vx with
    | ref ea => cases vv with
      | cons q1 q2 =>
        cases q2
        split at p
        · rename_i ys eo
          split at p
          · rename_i hlen
            cases hR.ob _ _ _ eo ea with
            | lst hl hv => exact ⟨_, _, _, rfl, rfl, hl, lt_line (by rw [← hv.len]; exact hlen), set_lst hR eo ea hl (hv.app (.cons q1 .nil)) .non p⟩
          · exact False.elim p
        · exact False.elim p
  · exact False.elim p
theorem rm_extend : RfM G E rExtend bExtend := by
  refine ⟨fun r H h x v xs vs Q hR vx vv p => ?_⟩
  unfold bExtend at p
  split at p
  · cases vx with
    | ref ea => cases vv with
      | cons q1 q2 =>
        cases q2
        cases q1 with
        | ref eb =>
          split at p
          · rename_i ys zs eo eo2
            split at p
            · rename_i hlen
              cases hR.ob _ _ _ eo ea with
              | lst hl hv => cases hR.ob _ _ _ eo2 eb with
                | lst hl2 hv2 => exact ⟨_, _, _, _, rfl, rfl, hl, hl2, le_line (by rw [← hv.len, ← hv2.len]; exact hlen), set_lst hR eo ea hl (hv.app hv2) .non p⟩
            · exact False.elim p
          · exact False.elim p
  · exact False.elim p
theorem rm_pop : RfM G E rPop bPop := by
  refine ⟨fun r H h x v xs vs Q hR vx vv p => ?_⟩
  unfold bPop at p
  split at p
  · cases vx with
    | ref ea =>
      cases vv
      split at p
      · rename_i ys eo
        split at p
        · rename_i y ey
          cases hR.ob _ _ _ eo ea with
          | lst hl hv =>
            obtain ⟨u, eu, vu⟩ := hv.get ey
            rw [hv.len] at eu
            exact ⟨_, _, _, rfl, rfl, hl, eu, set_lst hR eo ea hl hv.dropLast vu p⟩
        · exact False.elim p
      · exact False.elim p
  · exact False.elim p
theorem rm_popAt : RfM G E rPopAt bPopAt := by
  refine ⟨fun r H h x v xs vs Q hR vx vv p => ?_⟩
  unfold bPopAt at p
  split at p
  · cases vx with
    | ref ea => cases vv with
      | cons q1 q2 =>
        cases q2
        cases q1
        split at p
        · rename_i ys eo
          split at p
          · rename_i hb
            split at p
            · rename_i j ej
              split at p
              · rename_i y ey
                cases hR.ob _ _ _ eo ea with
                | lst hl hv =>
                  obtain ⟨u, eu, vu⟩ := hv.get ey
                  rw [hv.len] at ej
                  exact ⟨_, _, _, j, u, rfl, rfl, hl, hb.1, hb.2, (ixN_seq ej).1, eu, set_lst hR eo ea hl (hv.eraseIdx j) vu p⟩
              · exact False.elim p
            · exact False.elim p
          · exact False.elim p
        · exact False.elim p
  · exact False.elim p
def rCntF (K : PySem.W.Frag) : V → List V → Hp → VK → Prop := fun x xs H Q => ∃ (a : Addr) (ys : List V) (y : V), x = V.ref a ∧ xs = [y] ∧ SqL K H a ys ∧ flatV y = true ∧ ys.all flatV = true ∧ Q (.int ((ys.countP fun z => eqV z y : Nat) : Int)) H
theorem countU {y : V} : ∀ {ys : List V} {us : List Value}, Vals ys us → ys.all flatV = true → us.countP (eqU y) = ys.countP fun z => eqV z y
  | _, _, .nil, _ => rfl
  | _, _, .cons a b, f => by
    rw [List.all_cons, Bool.and_eq_true] at f
    rw [List.countP_cons, List.countP_cons, eqU_of a f.1, countU b f.2]
theorem mt_countF : MtR X "list.count" (rCntF X.K) := by
  intro pins s σ H x xs v us Q I rx rxs h
  obtain ⟨a, ys, y, rfl, rfl, hs, fy, fys, q⟩ := h
  cases rx
  cases rxs with
  | cons ry rt =>
    rename_i uy ut
    cases rt
    obtain ⟨its, rv, ⟨⟨cls, dd, data, sl⟩, n, ho, hc, hdn, hd⟩, hlen⟩ := I.list hs
    simp only at hc hd
    subst hc hd
    refine call_meets PySem.F.slot_list_count ⟨_, ho, rfl⟩ PySem.F.entry_list_count (PySem.F.args_list_count_2 _ _)
      (SeqAt.list_countAt a its.toArray n dd sl uy (eqU y)) ⟨ho, fun u' hu' => mem_eqAt ry fy rv fys u' (by simpa using hu'), ?_⟩
    have ec : its.toArray.toList.countP (eqU y) = ys.countP fun z => eqV z y := countU rv fys
    refine ⟨.int ((ys.countP fun z => eqV z y : Nat) : Int), H, I.tok _, ⟨s.toks, ?_⟩, q⟩
    rw [ec]
theorem countF (ok : G.Ok) {y : Val} {u : V} (b : VR G r H y u) : ∀ {xs : List Val} {vs : List V}, VRs G r H xs vs → xs.all isFlat = true → (xs.countP fun z => feq z y) = vs.countP fun z => eqV z u
  | _, _, .nil, _ => rfl
  | _, _, .cons a c, f => by
    rw [List.all_cons, Bool.and_eq_true] at f
    rw [List.countP_cons, List.countP_cons, feq_of ok a b f.1, countF ok b c f.2]
theorem rm_count (ok : G.Ok) : RfM G E (rCntF G.K) bCount := by
  refine ⟨fun r H h x v xs vs Q hR vx vv p => ?_⟩
  unfold bCount at p
  split at p
  · cases vx with
    | ref ea => cases vv with
      | cons q1 q2 =>
        cases q2
        split at p
        · rename_i ys eo
          split at p
          · rename_i hf
            cases hR.ob _ _ _ eo ea with
            | lst hl hv =>
              refine ⟨_, _, _, rfl, rfl, SqL.of hl, flat_of q1 hf.1, all_flat hv hf.2, ?_⟩
              rw [← countF ok q1 hv hf.2]
              exact p.here hR (.int _)
          · exact False.elim p
        · exact False.elim p
  · exact False.elim p
theorem cl_count (C : XC G E X k) : MtR X "list.count" (rCntF G.K) := by have := mt_countF (X := X); rwa [C.K] at this
end
end PyM

set_option Elab.async false
set_option linter.all false
set_option maxRecDepth 100000
set_option autoImplicit false
namespace PyM
open PySem L2

/-! ### exceptions of the program's own, without arguments -/
section
variable {X : Cx} {C : Addr} {bmB : List Value} {B newId initId : String}
theorem pmk_own0 {x : Str} {p pos : Pos} (F : ExcBaseFacts B newId initId bmB) (q : PySem.W.excIn X.K C bmB newId = true) (gC : X.mg x = some (.ref C)) (kC : PySem.W.keepIn X.K (.ref C) = true) (r : Raises X (.ref C)) (hg : Gl X x)
    (hdb : (x == ("__debug__" : Str)) = false := by decide) : PMk X (.Call (.Name x p) [] [] pos) (fun _ H Q => Q (.ref C) none H) := by
  intro pins s σ H Q I h
  refine wpAny_Call_Name_kw (ld_glob I hg gC ?_ hdb)
  refine PySem.W.callWith_K0 I.kIn kC ?_
  show wpAny _ _ (call (.ref C) []) _ _ _
  obtain ⟨bm, N, nm, qn, bs, hdct, sn, sub, ab, col, dd, k0, k1, k2, k3, k5, mN, hC, hN, hni, T⟩ := exc_obj I.kIn q
  refine wpAny_call_exc_subT F T hC hN hni (fun h' e hm => ?_) (Nat.zero_le _)
  exact mk_of I hm r h (I.hok.gone hm.new)
end
def sRaise (c : Nat) (_ : En) (h : Heap) : RS := .raised c h
def sTry (c : Nat) (mb ms : En → Heap → RS) (s : En) (h : Heap) : RS := match mb s h with
  | .raised c' h' => if c' = c then ms s h' else .stuck
  | x => x
/-- a def's body, run -/
def runB (np nl : Nat) (mb : En → Heap → RS) (xs : List Val) (h : Heap) : Res Val := if xs.length = np then
    match mb (xs.map some ++ List.replicate (nl - np) none) h with
    | .nx _ h' => .ok .non h'
    | .rt v h' => .ok v h'
    | .raised c h' => .raised c h'
    | _ => .stuck
  else .stuck
section
variable {G : Cfg} {E : XK} {X : Cx} {k : Nat} {e : Expr} {pos p pos2 np : Pos} {sts : List Stmt} {t : TS} {m : En → Heap → RS} {x : Str} {C : Addr}
abbrev Tk (X : Cx) (E : XK) : Prop := Takes X (fun cls d _ H => E cls d H)
theorem ms_raise (c : Nat) (XC_ : XC G E X k) (tk : Tk X E) (hc : G.cls[c]? = some C) (hp : PMk X (.Call (.Name x p) [] [] pos) (fun _ H Q => Q (.ref C) none H)) : MS G E X (.Raise (some (.Call (.Name x p) [] [] pos)) none pos2) (fun _ _ H => E (.ref C) none H) (sRaise c) :=
  ⟨ps_raise XC_.calm tk hp, ⟨fun r H h s σ D hR sR q => q r H C Stp.refl hR hc⟩⟩
/-- what the model says, as a reading -/
def tM (G : Cfg) (E : XK) (m : En → Heap → RS) : TS := fun D σ H => ∃ r h s, HR G r H h ∧ SR G r H s σ ∧ PostS G r H E (m s h) D
theorem pss_tM (h : MSs G E X sts t m) : PSs X sts (tM G E m) := ⟨fun pins s σ H D I ⟨r, hh, s', hR, sR, p⟩ => h.pe.run pins s σ H D I (h.rf.run r H hh s' σ D hR sR p)⟩
/-- try: body / except X: return constant -/
theorem ms_try (c : Nat) {e2 : Expr} {v : V} {y : Val} (C0 : XC G E X k) (hs : X.stack = X.env :: X.outer) (hf : X.env.frame = some X.env.locals) (hm : X.mg x = some (.ref C)) (tk : Tk X E) (hc : G.cls[c]? = some C) (hx : PySem.W.exmOne G.K (.ref C) (.ref C) = some true)
    (hv : ∀ r H, VR G r H y v) (h2 : ∀ X' : Cx, PE X' e2 (tC v)) {pos3 pos4 : Pos}
    (hb : ∀ (E' : XK) (pn : List (Addr × PySem.Obj)) (xe : Value → Shared → Prop), XC G E' (X.tr pn xe) k → ∃ t, MSs G E' (X.tr pn xe) sts t m) (hg : Gl X x := by rfl) (hdb : (x == ("__debug__" : Str)) = false := by decide) :
    MS G E X (.Try sts [.ExceptHandler (some (.Name x np)) none [.Return (some e2) pos3] pos4] [] [] pos) (tM G E (sTry c m (sRet (mK y)))) (sTry c m (sRet (mK y))) := by
  refine ⟨⟨fun pins s σ H D I ⟨r, h, s', hR, sR, p⟩ => ?_⟩, ⟨fun r H h s σ D hR sR p => ⟨r, h, s, hR, sR, p⟩⟩⟩
  have key := ps_try_only (X := X) (x := x) (c := .ref C) (body := sts) (suite := []) (b₀ := .Return (some e2) pos3) (np := np) (pos := pos) (pos' := pos4) (tb := fun W => tM G (fun cls d H' => ∀ σ', W cls d σ' H') m) (ts := fun _ _ _ => tRet (tC v)) (Wout := fun cls d _ H => E cls d H) hs hf ⟨hg, hdb, .inl hm⟩ tk
      (fun W pn xe tk' own => by
        obtain ⟨t, q⟩ := hb (fun cls d H' => ∀ σ', W cls d σ' H') pn xe ⟨C0.K, C0.calm, C0.nd, C0.room, passes_call tk' (fun cls d σ H q => q σ), own⟩
        exact pss_tM q)
      (fun a oe cls d pn _ _ => pss_one (ps_ret (h2 _)))
  refine key.run pins s σ H D I ⟨r, h, s', hR, sR, ?_⟩
  unfold sTry at p
  cases q : m s' h with
  | raised c' h' =>
    rw [q] at p
    simp only at p
    split at p
    · rename_i ec
      subst ec
      intro r' H' C' st hR' hC' σ'
      rw [hc] at hC'
      cases hC'
      refine ⟨true, by rw [C0.K]; exact hx, fun _ a ha => ?_, fun q => nomatch q⟩
      exact p r' H' v st hR' (hv _ _)
    · exact False.elim p
  | nx a b => rw [q] at p; exact p
  | rt a b => rw [q] at p; exact p
  | bk a b => rw [q] at p; exact p
  | ct a b => rw [q] at p; exact p
  | stuck => rw [q] at p; exact p
end

/-! ### defs -/
theorem SR_start {G : Cfg} {r : List Addr} {H : Hp} {n : Nat} : ∀ {xs : List Val} {vs : List V}, VRs G r H xs vs → SR G r H (xs.map some ++ List.replicate n none) (vs.map some ++ List.replicate n none)
  | _, _, .nil => by
    induction n with
    | zero => exact .nil
    | succ n ih => exact .no ih
  | _, _, .cons a b => .so a (SR_start b)
section
variable {P : Program} {w : World} {mg : Str → Option Value} {base : PySem.Heap} {G : Cfg}
theorem fn_m {x qual : Str} {st : Stmt} {f : Addr} {fd : FuncData} {N ps : List Str} {k np nl : Nat} {mb : En → Heap → RS} (F : Fun G.K x qual st f fd) (S : FnScope N ps (defScope st)) (hnp : ps.length = np) (hnl : N.length = nl)
    (hb : ∀ (cdv : Value) (A : Around) (outer : List Env) (s : Shared) (H : Hp) (E : XK), XC G E (cxOf (L2.CX P w) P w G.K mg base N qual (defScope st) f cdv A outer s H E) k → Tk (cxOf (L2.CX P w) P w G.K mg base N qual (defScope st) f cdv A outer s H E) E →
      ∃ t, MSs G E (cxOf (L2.CX P w) P w G.K mg base N qual (defScope st) f cdv A outer s H E) (defBody st) t mb) : FnM G P w mg base (k + 1) f fd ps (runB np nl mb) := by
  subst hnp hnl
  refine ⟨F.okX S (fun vs H Q E h => h.1) (fun cdv A outer s H vs Q E hr h => ?_), fun xs h hl => by unfold runB; rw [if_neg hl]⟩
  obtain ⟨hl, r, h, xs, hR, vR, p⟩ := h
  have tk : Tk (cxOf (L2.CX P w) P w G.K mg base N qual (defScope st) f cdv A outer s H E) E := takes_of rfl rfl rfl rfl
  obtain ⟨t, q⟩ := hb cdv A outer s H E ⟨rfl, rfl, S.nd, hr, passes_call tk (fun _ _ _ _ h => h), passes_of rfl⟩ tk
  have z := q.rf.run r H h _ _ { nx := fun _ H' => Q .non H', rt := Q } hR (SR_start (n := N.length - ps.length) vR) ?_
  · refine ⟨t, q.pe, ?_⟩
    rw [← hl] at z
    exact z
  · unfold runB at p
    rw [if_pos (by rw [vR.len]; exact hl)] at p
    cases e : mb (List.map some xs ++ List.replicate (N.length - ps.length) none) h with
    | nx a b =>
      rw [e] at p
      exact fun r' H' t st hR' _ => p r' H' _ st hR' .non
    | rt a b => rw [e] at p; exact p
    | raised a b => rw [e] at p; exact p
    | bk a b => rw [e] at p; exact p.elim
    | ct a b => rw [e] at p; exact p.elim
    | stuck => rw [e] at p; exact p.elim
/-- a def that is never run out of its levels -/
theorem fn_none {f : Addr} {fd : FuncData} {ps : List Str} {k : Nat} : FnM G P w mg base k f fd ps (fun _ _ => .stuck) :=
  ⟨⟨fun vs H Q E h => h.1, fun A outer s H args us vs Q E _ _ _ _ ⟨_, _, _, _, _, _, p⟩ => p.elim⟩, fun _ _ _ => rfl⟩
theorem FnM.mono {f : Addr} {fd : FuncData} {ps : List Str} {j k : Nat} {m : List Val → Heap → Res Val} (F : FnM G P w mg base j f fd ps m) (h : j ≤ k) : FnM G P w mg base k f fd ps m := ⟨F.ok.mono h, F.st⟩
/-- the law's own promise -/
def spLaw (K : PySem.W.Frag) : Sp := fun vs H Q _ => ∃ (a : Addr) (ns : List Int), vs = [.ref a] ∧ ns.length ≤ 63 ∧ Only H ∧ SqL K H a (ns.map V.int) ∧ ∀ H', Q (.bl true) H'
theorem vrs_ints {r : List Addr} {H : Hp} : ∀ ns : List Int, VRs G r H (ns.map Val.int) (ns.map V.int)
  | [] => .nil
  | n :: ns => .cons (.int n) (vrs_ints ns)
theorem law_of {f : Addr} {fd : FuncData} {x : Str} {k : Nat} {m : List Val → Heap → Res Val} (F : FnM G P w mg base k f fd [x] m) (h : ∀ ns : List Int, ns.length ≤ 63 → ∃ h', m [.ref 0] [.fls (ns.map Val.int)] = .ok (.bl true) h') (ht : G.tbs = [] := by rfl) :
    FnOk P w G.K mg base (L2.CX P w) k f fd [x] (spLaw G.K) := by
  refine F.ok.imp fun vs H Q E ⟨a, ns, e, hl, hO, hS, q⟩ => ?_
  subst e
  obtain ⟨h', e⟩ := h ns hl
  have fl : FL G.K H a (ns.map V.int) := by
    rcases hS with (hS | hS) | hS
    · rcases hO a with z | ⟨o, xs, z⟩
      · rw [z] at hS; cases hS
      · rw [z] at hS; cases hS
    · exact .inl hS
    · exact .inr hS
  refine ⟨rfl, [a], [.fls (ns.map Val.int)], [.ref 0], ⟨rfl, fun i j b x y e1 e2 e3 e4 f1 f2 => ?_, fun n o b e1 e2 => ?_, by rw [ht]; intro p hp; cases hp⟩, .cons (.ref rfl) .nil, ?_⟩
  · cases i with
    | zero => cases j with
      | zero => rfl
      | succ j => simp at e2
    | succ i => simp at e1
  · cases n with
    | zero =>
      simp at e1 e2
      subst e1 e2
      exact .fls fl (vrs_ints ns)
    | succ n => simp at e1
  · rw [e]
    intro r' H' b st hR v
    cases v
    exact q H'
end
end PyM

set_option Elab.async false
set_option linter.all false
set_option autoImplicit false
namespace PyM
open PySem L2
abbrev oFd : Val → Val → Heap → Res Val := oIC (fun _ j => decide (0 < j ∧ j < 1073741824)) fun i j => .int (i / j)
abbrev oMd : Val → Val → Heap → Res Val := oIC (fun _ j => decide (0 < j)) fun i j => .int (i % j)
abbrev oPw : Val → Val → Heap → Res Val := oIC cPow fun i j => .int (i ^ j.toNat)
abbrev oShl : Val → Val → Heap → Res Val := oIC cPow fun i j => .int (i * 2 ^ j.toNat)
abbrev oShr : Val → Val → Heap → Res Val := oIC (fun _ j => decide (0 ≤ j)) fun i j => .int (i / 2 ^ j.toNat)
abbrev oBa : Val → Val → Heap → Res Val := oI fun i j => .int (Builtin.bitAnd i j)
abbrev oBo : Val → Val → Heap → Res Val := oI fun i j => .int (Builtin.bitOr i j)
abbrev oBx : Val → Val → Heap → Res Val := oI fun i j => .int (Builtin.bitXor i j)
abbrev oLt : Val → Val → Heap → Res Val := oI fun i j => .bl (decide (i < j))
abbrev oLe : Val → Val → Heap → Res Val := oI fun i j => .bl (decide (i ≤ j))
abbrev oGt : Val → Val → Heap → Res Val := oI fun i j => .bl (decide (j < i))
abbrev oGe : Val → Val → Heap → Res Val := oI fun i j => .bl (decide (j ≤ i))
abbrev mChLeLe := mCh (fun i j => decide (i ≤ j)) (fun i j => decide (i ≤ j))
abbrev mChLeLt := mCh (fun i j => decide (i ≤ j)) (fun i j => decide (i < j))
theorem bt_ty_int : bootBuiltins "int" = some (.type Ty.int.nm) := by decide +kernel
theorem bt_ty_bool : bootBuiltins "bool" = some (.type Ty.bool.nm) := by decide +kernel
theorem bt_ty_str : bootBuiltins "str" = some (.type Ty.str.nm) := by decide +kernel
theorem bt_ty_tup : bootBuiltins "tuple" = some (.type Ty.tup.nm) := by decide +kernel
theorem bt_ty_lst : bootBuiltins "list" = some (.type Ty.lst.nm) := by decide +kernel
theorem bt_ty_dct : bootBuiltins "dict" = some (.type Ty.dct.nm) := by decide +kernel
/-- an error of the class at S is what «except S» names -/
theorem exm_self {K : PySem.W.Frag} {S : Addr} (h1 : PySem.W.subIn K (.ref S) (.type "BaseException") = some true) (h2 : PySem.W.isClsIn K S = true) (h3 : PySem.W.typeIn K (.ref S) = some (.type "type")) (h4 : PySem.W.subIn K (.ref S) (.ref S) = some true) :
    PySem.W.exmOne K (.ref S) (.ref S) = some true := by
  have e1 : (PySem.W.subIn K (.ref S) (.type "BaseException") == some true) = true := by rw [h1] <;> rfl
  have e2 : ((PySem.W.clsIn K S).isSome && PySem.W.typeIn K (.ref S) == some (.type "type")) = true := by
    have h2' : (PySem.W.clsIn K S).isSome = true := h2
    rw [h2', h3] <;> rfl
  show (if (PySem.W.subIn K (.ref S) (.type "BaseException") == some true) = true then (if ((PySem.W.clsIn K S).isSome && PySem.W.typeIn K (.ref S) == some (.type "type")) = true then PySem.W.subIn K (.ref S) (.ref S) else none) else none) = some true
  rw [if_pos e1, if_pos e2]
  exact h4
end PyM

set_option Elab.async false
set_option linter.all false
set_option autoImplicit false
set_option maxHeartbeats 4000000
/-! more rules: is True, is False -/
namespace PyM
open PySem L2
variable {G : Cfg} {E : XK} {X : Cx} {k : Nat} {a b c e : Expr} {ta tb tc : TE} {ma mb mc : En → Heap → Res Val} {pos : Pos} {u v w : TT} {mu mv : En → Heap → Res Bool}
def oIsB (neg : Bool) (x y : Val) (h : Heap) : Res Val := match x, y with
  | .bl a, .bl b => .ok (.bl (if neg then !decide (a = b) else decide (a = b))) h
  | .str _, .bl _ => .ok (.bl neg) h
  | _, _ => .stuck
theorem op_is_sb {X : Cx} : OpR X (compareOp .Is) (fun x y H Q => ∃ a b, x = .str a ∧ y = .bl b ∧ Q (.bl false) H) := by
  intro pins s σ H x y v u Q I rx ry h
  obtain ⟨a, b, rfl, rfl, q⟩ := h
  obtain ⟨t, rfl⟩ := rx
  cases (show u = Value.bool b from ry)
  exact wpAny_is_other rfl (fun z => by cases z) ⟨.bl false, H, I, rfl, q⟩
theorem op_isnot_sb {X : Cx} : OpR X (compareOp .IsNot) (fun x y H Q => ∃ a b, x = .str a ∧ y = .bl b ∧ Q (.bl true) H) := by
  intro pins s σ H x y v u Q I rx ry h
  obtain ⟨a, b, rfl, rfl, q⟩ := h
  obtain ⟨t, rfl⟩ := rx
  cases (show u = Value.bool b from ry)
  exact wpAny_isNot_other rfl (fun z => by cases z) ⟨.bl true, H, I, rfl, q⟩
abbrev rIsB : R2 := fun x y H Q => (∃ a b, x = V.bl a ∧ y = V.bl b ∧ Q (V.bl (decide (a = b))) H) ∨ (∃ a b, x = V.str a ∧ y = V.bl b ∧ Q (V.bl false) H)
abbrev rIsnB : R2 := fun x y H Q => (∃ a b, x = V.bl a ∧ y = V.bl b ∧ Q (V.bl (!decide (a = b))) H) ∨ (∃ a b, x = V.str a ∧ y = V.bl b ∧ Q (V.bl true) H)
theorem rf_isB : Rf2 G E rIsB (oIsB false) := by
  refine ⟨fun r H h x y v u Q hR a b p => ?_⟩
  cases a with
  | bl i => cases b with
    | bl j => exact .inl ⟨i, j, rfl, rfl, p.here hR (.bl _)⟩
    | _ => exact False.elim p
  | str hx => cases b with
    | bl j => exact .inr ⟨_, j, rfl, rfl, p.here hR (.bl _)⟩
    | _ => exact False.elim p
  | _ => exact False.elim p
theorem rf_isnB : Rf2 G E rIsnB (oIsB true) := by
  refine ⟨fun r H h x y v u Q hR a b p => ?_⟩
  cases a with
  | bl i => cases b with
    | bl j => exact .inl ⟨i, j, rfl, rfl, p.here hR (.bl _)⟩
    | _ => exact False.elim p
  | str hx => cases b with
    | bl j => exact .inr ⟨_, j, rfl, rfl, p.here hR (.bl _)⟩
    | _ => exact False.elim p
  | _ => exact False.elim p
theorem mc_isB (ha : ME G E X a ta ma) (hb : ME G E X b tb mb) : MC G E X .Is a b (tOp rIsB ta tb) (mB (oIsB false) ma mb) := ⟨pc_of (op_is_bl.or op_is_sb) ha.pe hb.pe, ha.rf.b2 hb.rf rf_isB⟩
theorem mc_isnB (ha : ME G E X a ta ma) (hb : ME G E X b tb mb) : MC G E X .IsNot a b (tOp rIsnB ta tb) (mB (oIsB true) ma mb) := ⟨pc_of (op_isnot_bl.or op_isnot_sb) ha.pe hb.pe, ha.rf.b2 hb.rf rf_isnB⟩
end PyM

set_option Elab.async false
set_option linter.all false
set_option autoImplicit false
set_option maxHeartbeats 4000000
/-! more rules: list.index -/
namespace PyM
open PySem L2
variable {G : Cfg} {E : XK} {X : Cx} {k : Nat} {r : List Addr} {H : Hp} {h : Heap}
def fix (d : D) : List D → Option Nat
  | [] => none
  | z :: ds => if deq z d = true then some 0 else (fix d ds).map (· + 1)
theorem fix_py (ok : G.Ok) {d : D} {n m : Nat} (hd : d.wf G.sts.length n = true) : ∀ {ds : List D} {j : Nat}, D.wfs G.sts.length m ds = true → fix d ds = some j →
    (∃ z, (D.pys G ds)[j]? = some z ∧ PyData.eqv z (d.py G) = true) ∧ ∀ (m : Nat) (z' : PyData), m < j → (D.pys G ds)[m]? = some z' → PyData.eqv z' (d.py G) = false
  | [], j, _, e => by cases e
  | x :: ds, j, f, e => by
    simp only [D.wfs, Bool.and_eq_true] at f
    have q := eqv_py ok x d _ _ f.1 hd
    rw [fix] at e
    split at e
    · rename_i c
      cases e
      exact ⟨⟨x.py G, by simp [D.pys], by rw [q]; exact c⟩, fun m z' hm => by omega⟩
    · rename_i c
      obtain ⟨i, ei, rfl⟩ := Option.map_eq_some_iff.mp e
      obtain ⟨⟨z, h1, h2⟩, h3⟩ := fix_py ok hd f.2 ei
      refine ⟨⟨z, by simpa [D.pys] using h1, h2⟩, fun m z' hm hz => ?_⟩
      cases m with
      | zero =>
        simp [D.pys] at hz
        subst hz
        rw [q]
        simpa using c
      | succ m => exact h3 m z' (by omega) (by simpa [D.pys] using hz)
def bIndex (x : Val) (xs : List Val) (h : Heap) : Res Val := match x, xs with
  | .ref a, [y] => match h[a]? with
    | some (.lst ys) => match conv 60 h y, optAll (conv 59 h) ys with
      | some d, some ds => match fix d ds with
        | some j => .ok (.int (j : Nat)) h
        | none => .stuck
      | _, _ => .stuck
    | _ => .stuck
  | _, _ => .stuck
theorem rm_index (ok : G.Ok) : RfM G E (rIndexD G.K) bIndex := by
  refine ⟨fun r H h x v xs vs Q hR vx vv p => ?_⟩
  unfold bIndex at p
  split at p
  · cases vx with
    | ref ea => cases vv with
      | cons q1 q2 =>
        cases q2
        split at p
        · rename_i ys eo
          split at p
          · rename_i d ds e1 e2
            split at p
            · rename_i j ej
              cases hR.ob _ _ _ eo ea with
              | lst hl hv =>
                obtain ⟨d1, w1⟩ := conv_dp hR _ _ _ _ q1 e1
                obtain ⟨d2, w2⟩ := optAll_dp (fun x v d => conv_dp hR 59 x v d) _ _ _ hv e2
                obtain ⟨⟨z, z1, z2⟩, z3⟩ := fix_py ok w1 w2 ej
                have sl : SeqAt.shaped (.list (D.pys G ds)) = true := by
                  have : (D.lst ds).wf G.sts.length 60 = true := by simpa [D.wf] using w2
                  have := shaped_py ok this (by decide)
                  simpa [D.py] using this
                exact ⟨_, _, _, _, j, z, rfl, rfl, .lst (SqL.of hl) d2, d1, sl, shaped_py ok w1 (by decide), z1, z2, z3, p.here hR (.int _)⟩
            · exact False.elim p
          · exact False.elim p
        · exact False.elim p
  · exact False.elim p
theorem cl_index (C : XC G E X k) : MtR X "list.index" (rIndexD G.K) := by
  have := mt_indexD (X := X) C.hu
  rwa [C.K] at this
/-! ### what stands written in the module: tuples, dicts with text keys -/
mutual
inductive CV (K : PySem.W.Frag) (sts : List Str) : Val → Value → Prop
  | non : CV K sts .non .none
  | int (i : Int) {t : Tok} : CV K sts (.int i) (.int i t)
  | str {n : Nat} {x : Str} {t : Tok} : sts[n]? = some x → CV K sts (.str n) (.str x t)
  | tup {xs : List Val} {a : Addr} {o : PySem.Obj} {its : Array Value} {n : Nat} : K.lookup a = some o → o.cls = .type "tuple" → o.data = .seq its n → its.size ≤ sizeLine → CVs K sts xs its.toList → CV K sts (.tup xs) (.ref a)
inductive CVs (K : PySem.W.Frag) (sts : List Str) : List Val → List Value → Prop
  | nil : CVs K sts [] []
  | cons {x : Val} {v : Value} {xs : List Val} {vs : List Value} : CV K sts x v → CVs K sts xs vs → CVs K sts (x :: xs) (v :: vs)
end
def noTup : Val → Bool
  | .tup _ => false
  | _ => true
mutual
theorem CV.vr0 {G : Cfg} (nt : G.tk = false) : ∀ {x : Val} {u : Value}, CV G.K G.sts x u → ∃ v, RelV v u ∧ ∀ r H, VR G r H x v
  | _, _, .non => ⟨.non, rfl, fun _ _ => .non⟩
  | _, _, .int i (t := t) => ⟨.int i, ⟨t, rfl⟩, fun _ _ => .int i⟩
  | _, _, .str e (t := t) => ⟨.str _, ⟨t, rfl⟩, fun _ _ => .str e⟩
  | _, _, .tup (a := a) h1 h2 h3 h4 h5 => by
    obtain ⟨vs, q1, q2⟩ := CVs.vrs nt h5
    exact ⟨.ref a, rfl, fun r H => .tup ⟨.inr ⟨_, _, _, h1, h2, h3, h4, q1⟩, fun z => by rw [nt] at z; cases z⟩ (q2 r H)⟩
theorem CVs.vrs {G : Cfg} (nt : G.tk = false) : ∀ {xs : List Val} {us : List Value}, CVs G.K G.sts xs us → ∃ vs, Vals vs us ∧ ∀ r H, VRs G r H xs vs
  | _, _, .nil => ⟨[], .nil, fun _ _ => .nil⟩
  | _, _, .cons a b => by
    obtain ⟨v, q1, q2⟩ := CV.vr0 nt a
    obtain ⟨vs, q3, q4⟩ := CVs.vrs nt b
    exact ⟨v :: vs, .cons q1 q3, fun r H => .cons (q2 r H) (q4 r H)⟩
end
theorem CV.vr {G : Cfg} {x : Val} {u : Value} (nt : G.tk = true → noTup x = true) (c : CV G.K G.sts x u) : ∃ v, RelV v u ∧ ∀ r H, VR G r H x v := by
  cases q : G.tk with
  | false => exact CV.vr0 q c
  | true =>
    have := nt q
    cases c with
    | non => exact ⟨.non, rfl, fun _ _ => .non⟩
    | @int i t => exact ⟨.int i, ⟨t, rfl⟩, fun _ _ => .int i⟩
    | @str n z t e => exact ⟨.str _, ⟨t, rfl⟩, fun _ _ => .str e⟩
    | tup => cases this
/-- a name of the module that holds a written value -/
def KT (K : PySem.W.Frag) (mg : Str → Option Value) (sts : List Str) (x : Str) (v : Val) : Prop := ∃ u, mg x = some u ∧ CV K sts v u
theorem me_globC {x : Str} {v : Val} {pos : Pos} (C : XC G E X k) (q : KT G.K X.mg G.sts x v) (nt : G.tk = true → noTup v = true := by first | exact fun _ => rfl | exact fun z => absurd (show false = true from z) (by decide)) (hg : Gl X x := by rfl) (hd : (x == ("__debug__" : Str)) = false := by decide) : ME G E X (.Name x pos) (fun σ H Q => ∀ u, RelV u ((X.mg x).getD .none) → (∀ r H, VR G r H v u) → Q u H) (mK v) := by
  obtain ⟨u, hm, hc⟩ := q
  obtain ⟨w, hw, hv⟩ := hc.vr nt
  refine ⟨?_, ⟨fun r H h s σ Q hR sR p u _ hu => p.here hR (hu r H)⟩⟩
  have := pe_glob (pos := pos) hg hm hw hd
  refine ⟨fun pins s σ H Q I z => this.run pins s σ H Q I (z w ?_ hv)⟩
  rw [hm]; exact hw
/-- entries of a written dict -/
inductive CE (w : World) (K : PySem.W.Frag) (sts : List Str) : List (Nat × Val) → List DictEntry → Prop
  | nil : CE w K sts [] []
  | cons {i : Nat} {v : Val} {z : Str} {t : Tok} {u : Value} {hh : Int} {l es} : sts[i]? = some z → hh = PyData.keyHash w.params z → CV K sts v u → CE w K sts l es → CE w K sts ((i, v) :: l) (⟨hh, .str z t, u⟩ :: es)
structure KD (w : World) (K : PySem.W.Frag) (mg : Str → Option Value) (sts : List Str) (x : Str) (a : Addr) (es : Array DictEntry) (n : Nat) (l : List (Nat × Val)) : Prop where
  mgx : mg x = some (.ref a)
  lk : K.lookup a = some ⟨.type "dict", none, .dict es n, #[]⟩
  low : (a == sysModules) = false
  ce : CE w K sts l es.toList
def lkN (l : List (Nat × Val)) (n : Nat) : Option Val := (l.find? fun kv => kv.1 == n).map (·.2)
theorem lkN_no {l : List (Nat × Val)} (h : l.all (fun kv => noTup kv.2) = true) {n : Nat} {v : Val} (e : lkN l n = some v) : noTup v = true := by
  unfold lkN at e
  obtain ⟨kv, e1, rfl⟩ := Option.map_eq_some_iff.mp e
  exact List.all_eq_true.mp h _ (List.mem_of_find?_eq_some e1)
theorem CE.lit {w : World} {K : PySem.W.Frag} {sts : List Str} : ∀ {l : List (Nat × Val)} {es : List DictEntry}, CE w K sts l es → PySem.W.KeysLit w.params es
  | _, _, .nil => trivial
  | _, _, .cons _ a _ b => ⟨⟨_, _, rfl, a⟩, CE.lit b⟩
theorem CE.nref {w : World} {K : PySem.W.Frag} {sts : List Str} : ∀ {l : List (Nat × Val)} {es : List DictEntry}, CE w K sts l es → es.any (·.refKey) = false
  | _, _, .nil => rfl
  | _, _, .cons _ _ _ b => by rw [List.any_cons, CE.nref b]; rfl
theorem CE.find (ok : G.Ok) {w : World} {n : Nat} {z : Str} (hz : G.sts[n]? = some z) : ∀ {l : List (Nat × Val)} {es : List DictEntry}, CE w G.K G.sts l es →
    (lkN l n = none ∧ es.find? (·.key.isStr z) = none) ∨ ∃ v e, lkN l n = some v ∧ es.find? (·.key.isStr z) = some e ∧ CV G.K G.sts v e.val
  | _, _, .nil => .inl ⟨rfl, rfl⟩
  | _, _, @CE.cons _ _ _ i v z' t u hh _ _ hi _ a b => by
    unfold lkN
    rw [List.find?_cons, List.find?_cons]
    by_cases e : i = n
    · subst e
      rw [hi] at hz
      cases hz
      right
      refine ⟨v, ⟨hh, Value.str z t, u⟩, ?_, ?_, a⟩
      · simp
      · have : (Value.str z t).isStr z = true := by simp [Value.isStr]
        simp only [this]
    · have hne : z' ≠ z := fun q => e (by subst q; exact sts_inj ok hi hz)
      have h1 : (i == n) = false := beq_eq_false_iff_ne.mpr e
      have h2 : (Value.str z' t).isStr z = false := by simp [Value.isStr, hne]
      simp only [h1, h2]
      exact CE.find ok hz b
theorem KD.ns (ok : G.Ok) {w : World} {a : Addr} {es : Array DictEntry} {m n : Nat} {z : Str} {l : List (Nat × Val)} (hl : G.K.lookup a = some ⟨.type "dict", none, .dict es m, #[]⟩) (ce : CE w G.K G.sts l es.toList) (hz : G.sts[n]? = some z) :
    (lkN l n = none ∧ PySem.W.nsIn G.K a z = some none) ∨ ∃ v u, lkN l n = some v ∧ PySem.W.nsIn G.K a z = some (some u) ∧ CV G.K G.sts v u := by
  unfold PySem.W.nsIn
  rw [hl]
  rcases ce.find ok hz with ⟨e1, e2⟩ | ⟨v, e, e1, e2, e3⟩
  · left
    refine ⟨e1, ?_⟩
    simp only [e2, ce.nref]
    simp
  · right
    refine ⟨v, e.val, e1, ?_, e3⟩
    simp only [e2]
/-- in, not in a written dict -/
def kIn (neg : Bool) (l : List (Nat × Val)) (x : Val) (h : Heap) : Res Val := match x with
  | .str n => .ok (.bl (if neg then !(lkN l n).isSome else (lkN l n).isSome)) h
  | _ => .stuck
def kIx (l : List (Nat × Val)) (x : Val) (h : Heap) : Res Val := match x with
  | .str n => match lkN l n with
    | some v => .ok v h
    | none => .stuck
  | _ => .stuck
def kGet (l : List (Nat × Val)) (x y : Val) (h : Heap) : Res Val := match x with
  | .str n => .ok ((lkN l n).getD y) h
  | _ => .stuck
section
variable {a b e f : Expr} {ta tb ty tx : TE} {ma mb : En → Heap → Res Val} {pos p p2 apos cpos : Pos} {x : Str} {l : List (Nat × Val)}
variable {d : Addr} {es : Array DictEntry} {n : Nat}
abbrev rKIn (K : PySem.W.Frag) (d : Addr) : R2 := fun x y H Q => ∃ (z : Str) (r : Option Value), x = .str z ∧ y = .ref d ∧ PySem.W.nsIn K d z = some r ∧ Q (.bl r.isSome) H
abbrev rKNotIn (K : PySem.W.Frag) (d : Addr) : R2 := fun x y H Q => ∃ (z : Str) (r : Option Value), x = .str z ∧ y = .ref d ∧ PySem.W.nsIn K d z = some r ∧ Q (.bl (!r.isSome)) H
theorem KD.kd (C : XC G E X k) (q : KD X.w G.K X.mg G.sts x d es n l) : KDict X.K X.w d es n := ⟨by rw [C.K]; exact q.lk, q.ce.lit, q.low⟩
theorem KD.pe (q : KD X.w G.K X.mg G.sts x d es n l) (hg : Gl X x) (hd : (x == ("__debug__" : Str)) = false) : PE X (.Name x p) (tC (.ref d)) := pe_glob (v := .ref d) hg q.mgx rfl hd
theorem mc_kin (ok : G.Ok) (C : XC G E X k) (q : KD X.w G.K X.mg G.sts x d es n l) (ha : ME G E X a ta ma) (hg : Gl X x := by rfl) (hd : (x == ("__debug__" : Str)) = false := by decide) : MC G E X .In a (.Name x p) (tOp (rKIn X.K d) ta (tC (.ref d))) (mU (kIn false l) ma) := by
  refine ⟨pc_of (op_in_kd (q.kd C)) ha.pe (q.pe hg hd), ⟨fun r H h s σ Q hR sR pp => ha.rf.run r H h s σ _ hR sR (pp.seq fun v h1 r1 H1 u s1 hR1 v1 p1 => ?_)⟩⟩
  cases v1 with
  | @str m z hz =>
    have p1' : PostR G (VR G) r1 H1 E (.ok (.bl (lkN l m).isSome) h1) Q := p1
    rcases KD.ns ok q.lk q.ce hz with ⟨e1, e2⟩ | ⟨v, w, e1, e2, e3⟩
    · rw [e1] at p1'
      exact ⟨z, none, rfl, rfl, by rw [C.K]; exact e2, p1'.here hR1 (.bl _)⟩
    · rw [e1] at p1'
      exact ⟨z, some w, rfl, rfl, by rw [C.K]; exact e2, p1'.here hR1 (.bl _)⟩
  | _ => exact False.elim p1
theorem mc_knotin (ok : G.Ok) (C : XC G E X k) (q : KD X.w G.K X.mg G.sts x d es n l) (ha : ME G E X a ta ma) (hg : Gl X x := by rfl) (hd : (x == ("__debug__" : Str)) = false := by decide) : MC G E X .NotIn a (.Name x p) (tOp (rKNotIn X.K d) ta (tC (.ref d))) (mU (kIn true l) ma) := by
  refine ⟨pc_of (op_notIn_kd (q.kd C)) ha.pe (q.pe hg hd), ⟨fun r H h s σ Q hR sR pp => ha.rf.run r H h s σ _ hR sR (pp.seq fun v h1 r1 H1 u s1 hR1 v1 p1 => ?_)⟩⟩
  cases v1 with
  | @str m z hz =>
    have p1' : PostR G (VR G) r1 H1 E (.ok (.bl (!(lkN l m).isSome)) h1) Q := p1
    rcases KD.ns ok q.lk q.ce hz with ⟨e1, e2⟩ | ⟨v, w, e1, e2, e3⟩
    · rw [e1] at p1'
      exact ⟨z, none, rfl, rfl, by rw [C.K]; exact e2, p1'.here hR1 (.bl _)⟩
    · rw [e1] at p1'
      exact ⟨z, some w, rfl, rfl, by rw [C.K]; exact e2, p1'.here hR1 (.bl _)⟩
  | _ => exact False.elim p1
/-- D[e] -/
theorem me_kix (ok : G.Ok) (C : XC G E X k) (q : KD X.w G.K X.mg G.sts x d es n l) (hb : ME G E X b tb mb) (nt : G.tk = true → l.all (fun kv => noTup kv.2) = true := by first | exact fun _ => rfl | exact fun z => absurd (show false = true from z) (by decide)) (hg : Gl X x := by rfl) (hd : (x == ("__debug__" : Str)) = false := by decide) (hs : PlainIx b := by exact fun _ _ => rfl) :
    ME G E X (.Subscript (.Name x p) b pos) (tOp (rIxD X.K X.w) (tC (.ref d)) tb) (mU (kIx l) mb) := by
  refine ⟨pe_ix ix_kdict (q.pe hg hd) hb.pe hs, ⟨fun r H h s σ Q hR sR pp => hb.rf.run r H h s σ _ hR sR (pp.seq fun v h1 r1 H1 u s1 hR1 v1 p1 => ?_)⟩⟩
  cases v1 with
  | @str m z hz =>
    rcases KD.ns ok q.lk q.ce hz with ⟨e1, e2⟩ | ⟨v, w, e1, e2, e3⟩
    · have : PostR G (VR G) r1 H1 E .stuck Q := by
        have p1' := p1
        unfold kIx at p1'; simp only [e1] at p1'
        exact p1'
      exact this.elim
    · have p1' : PostR G (VR G) r1 H1 E (.ok v h1) Q := by
        have p1' := p1
        unfold kIx at p1'; simp only [e1] at p1'
        exact p1'
      obtain ⟨w', hw, hv⟩ := e3.vr fun z => lkN_no (nt z) e1
      exact ⟨d, z, w', rfl, rfl, ⟨es, n, w, by rw [C.K]; exact q.lk, q.ce.lit, by rw [C.K]; exact e2, hw⟩, p1'.here hR1 (hv _ _)⟩
  | _ => exact False.elim p1
/-- D.get(e, f) -/
def tKGet (K : PySem.W.Frag) (d : Addr) (ty tx : TE) : TE := fun σ H Q => ty σ H fun y H2 => tx σ H2 fun z H3 => ∃ (z' : Str) (r : Option Value) (v : V), y = .str z' ∧ PySem.W.nsIn K d z' = some r ∧ (match r with | some u => RelV v u | none => v = z) ∧ Q v H3
theorem pe_kget2 {o : Expr} (D : KDict X.K X.w d es n) (ho : PE X o (tC (.ref d))) (he : PE X e ty) (hf : PE X f tx) (m : M2 X o "get" apos e f cpos) : PE X (.Call (.Attribute o "get" apos) [e, f] [] cpos) (tKGet X.K d ty tx) := by
  refine ⟨fun pins s σ H Q I hyp => ?_⟩
  have first := ho.run pins s σ H (fun v H' => v = .ref d ∧ tKGet X.K d ty tx σ H' Q) I ⟨rfl, hyp⟩
  refine wpAny_Call_method m.base m.few m.line PySem.F.plainAttrs_dict PySem.F.slot_dict_get PySem.F.type_dict_get (thn first fun ov sA ⟨xA, HA, IA, rA, eA, qA⟩ => ?_)
  subst eA
  obtain rfl : ov = Value.ref d := rA
  have mo := PySem.W.mapOf_K (prog := X.prog) (w := X.w) IA.kIn D.at_ D.lit
  refine ⟨mo.typeIs, fun b eb => ?_, ?_⟩
  · cases eb
    obtain ⟨ob, _, _, z1, z2, _⟩ := mo
    exact ⟨ob, z1, z2.2.1⟩
  · rw [m.trees]
    refine Calls.callWith_builtin rfl (Calls.evalArgs_plain (Calls.spliced_cons (thn (he.run pins sA σ HA _ IA qA) fun yv sB ⟨y, HB, IB, rB, qB⟩ => Calls.spliced_cons (thn (hf.run pins sB σ HB _ IB qB) fun zv sC ⟨z, HC, IC, rC, zz, rr, vv, ey, en, ev, qC⟩ => Calls.spliced_nil ?_))))
    subst ey
    obtain ⟨t, rfl⟩ := rB
    have mo2 := PySem.W.mapOf_K (prog := X.prog) (w := X.w) IC.kIn D.at_ D.lit
    refine call_meetsIn PySem.F.slot_dict_get mo2.typeIs PySem.F.entry_dict_get (PySem.F.args_dict_get_3 _ _ _) (meets_dict_get_default (strKind X.prog X.w) d (strKind_is X.prog X.w zz t) D.low zv) ⟨_, mo2, ?_⟩
    rw [PySem.W.find_K D.at_ en]
    refine ⟨vv, HC, IC.tok _, ?_, qC⟩
    cases rr with
    | none =>
      have : vv = z := ev
      subst this
      exact rC
    | some u0 => exact ev
theorem me_kget (ok : G.Ok) (C : XC G E X k) (q : KD X.w G.K X.mg G.sts x d es n l) (he : ME G E X e ty ma) (hf : ME G E X f tx mb) (nt : G.tk = true → l.all (fun kv => noTup kv.2) = true := by first | exact fun _ => rfl | exact fun z => absurd (show false = true from z) (by decide))
    (m : M2 X (.Name x p) "get" apos e f cpos := by exact ⟨rfl, rfl, rfl, rfl⟩) (hg : Gl X x := by rfl) (hd : (x == ("__debug__" : Str)) = false := by decide) :
    ME G E X (.Call (.Attribute (.Name x p) "get" apos) [e, f] [] cpos) (tKGet X.K d ty tx) (mB (kGet l) ma mb) := by
  refine ⟨pe_kget2 (q.kd C) (q.pe hg hd) he.pe hf.pe m, ⟨fun r H h s σ Q hR sR pp => ?_⟩⟩
  refine he.rf.run r H h s σ _ hR sR (pp.seq fun v h1 r1 H1 u s1 hR1 v1 p1 => ?_)
  refine hf.rf.run r1 H1 h1 s σ _ hR1 (sR.mono s1) (p1.seq fun y h2 r2 H2 w s2 hR2 v2 p2 => ?_)
  have v1' := v1.mono s2
  cases v1' with
  | @str m z hz =>
    have p2' : PostR G (VR G) r2 H2 E (.ok ((lkN l m).getD y) h2) Q := p2
    rcases KD.ns ok q.lk q.ce hz with ⟨e1, e2⟩ | ⟨v, u', e1, e2, e3⟩
    · rw [e1] at p2'
      exact ⟨z, none, w, rfl, by rw [C.K]; exact e2, rfl, p2'.here hR2 v2⟩
    · rw [e1] at p2'
      obtain ⟨w', hw, hv⟩ := e3.vr fun z => lkN_no (nt z) e1
      exact ⟨z, some u', w', rfl, by rw [C.K]; exact e2, hw, p2'.here hR2 (hv _ _)⟩
  | _ => exact False.elim p2
end
/-! ### texts: length, one sign, by a table -/
def lkS (tbl : List (Nat × List Nat)) (n : Nat) : Option (List Nat) := (tbl.find? fun kv => kv.1 == n).map (·.2)
def oIxS (tbl : List (Nat × List Nat)) (x y : Val) (h : Heap) : Res Val := match x, y with
  | .str n, .int i => match lkS tbl n with
    | some l => match L2.atI l i with
      | some c => .ok (.str c) h
      | none => .stuck
    | none => .stuck
  | _, _ => .stuck
def bLenS (tbl : List (Nat × List Nat)) (xs : List Val) (h : Heap) : Res Val := match xs with
  | [.str n] => match lkS tbl n with
    | some l => .ok (.int l.length) h
    | none => .stuck
  | _ => .stuck
def stOk (sts : List Str) (tbl : List (Nat × List Nat)) : Bool := tbl.all fun kv => match sts[kv.1]? with
  | some z => decide (z.cps.size ≤ 1000) && (z.cps.toList.map (fun c => some (⟨#[c]⟩ : Str)) == kv.2.map (fun c => sts[c]?))
  | none => false
theorem stOk_at {sts : List Str} {tbl : List (Nat × List Nat)} (o : stOk sts tbl = true) {n : Nat} {l : List Nat} (e : lkS tbl n = some l) {z : Str} (hz : sts[n]? = some z) : z.cps.size ≤ 1000 ∧ z.cps.toList.map (fun c => some (⟨#[c]⟩ : Str)) = l.map (fun c => sts[c]?) := by
  unfold lkS at e
  obtain ⟨kv, h1, rfl⟩ := Option.map_eq_some_iff.mp e
  have hm := List.mem_of_find?_eq_some h1
  have hn := List.find?_some h1
  have := List.all_eq_true.mp o kv hm
  have hn' : kv.1 = n := by simpa using hn
  rw [hn', hz] at this
  simp only [Bool.and_eq_true, decide_eq_true_eq, beq_iff_eq] at this
  exact this
theorem atI_map' {α β : Type} (f : α → β) (xs : List α) (i : Int) : L2.atI (xs.map f) i = (L2.atI xs i).map f := by
  unfold L2.atI
  rw [List.length_map]
  cases L2.ixN xs.length i with
  | none => rfl
  | some j => simp
section
variable {a b e : Expr} {ta tb : TE} {ma mb : En → Heap → Res Val} {pos p : Pos} {tbl : List (Nat × List Nat)}
theorem rf_ixS (o : stOk G.sts tbl = true) : Rf2 G E rIxS (oIxS tbl) := by
  refine ⟨fun r H h x y v u Q hR vx vy p => ?_⟩
  unfold oIxS at p
  split at p
  · rename_i nn i
    cases vx with
    | @str n z hz => cases vy with
      | int _ =>
        split at p
        · rename_i l el
          split at p
          · rename_i c ec
            obtain ⟨q1, q2⟩ := stOk_at o el hz
            have q3 := atI_map' (fun c => some (⟨#[c]⟩ : Str)) z.cps.toList i
            rw [q2, atI_map', ec] at q3
            obtain ⟨cp, e1, e2⟩ := Option.map_eq_some_iff.mp q3.symm
            exact ⟨z, i, cp, rfl, rfl, Nat.le_trans q1 (by rw [sizeLine_eq]; decide), e1, p.here hR (.str e2.symm)⟩
          · exact False.elim p
        · exact False.elim p
  · exact False.elim p
theorem me_ixS (o : stOk G.sts tbl = true) (ha : ME G E X a ta ma) (hb : ME G E X b tb mb) (hs : PlainIx b := by exact fun _ _ => rfl) : ME G E X (.Subscript a b pos) (tOp rIxS ta tb) (mB (oIxS tbl) ma mb) :=
  ⟨pe_ix ix_str ha.pe hb.pe hs, ha.rf.b2 hb.rf (rf_ixS o)⟩
theorem rl_lenS (o : stOk G.sts tbl = true) : RfL G E (rLenA G.K) (bLenS tbl) := by
  refine ⟨fun r H h xs vs Q hR v p => ?_⟩
  unfold bLenS at p
  split at p
  · cases v with
    | cons q1 q2 =>
      cases q1
      cases q2
      rename_i n z hz
      split at p
      · rename_i l el
        obtain ⟨q1, q2⟩ := stOk_at o el hz
        have ql := congrArg List.length q2
        simp only [List.length_map, Array.length_toList] at ql
        refine .inl ⟨_, z.length, rfl, ⟨Nat.le_trans q1 (by rw [sizeLine_eq]; decide), rfl⟩, ?_⟩
        have e : z.length = l.length := ql
        rw [e]
        exact p.here hR (.int _)
      · exact False.elim p
  · exact False.elim p
end
/-! ### a, b = x, y and a, b, c = x, y, z -/
def sPar2 (i j : Nat) (mA : En → Heap → Res (List Val)) (s : En) (h : Heap) : RS := (mA s h).thenS fun xs h1 => match xs with
  | [x, y] => .nx ((s.set i (some x)).set j (some y)) h1
  | _ => .stuck
def sPar3 (i j l : Nat) (mA : En → Heap → Res (List Val)) (s : En) (h : Heap) : RS := (mA s h).thenS fun xs h1 => match xs with
  | [x, y, z] => .nx (((s.set i (some x)).set j (some y)).set l (some z)) h1
  | _ => .stuck
section
variable {a b c : Expr} {tA : TA} {mA : En → Heap → Res (List Val)} {px py pz pt pos : Pos} {kt k2 pt2} {x y z : Str}
theorem ms_par2 (i j : Nat) (C : XC G E X k) (hi : X.N[i]? = some x) (hj : X.N[j]? = some y) (hij : i ≠ j) (hx : X.env.scope.names.lookup x = some .local) (hy : X.env.scope.names.lookup y = some .local) (ha : MA G E X [a, b] tA mA)
    (hw : swappedStores [.Tuple [.Name x px, .Name y py] kt pt] (.Tuple [a, b] k2 pt2) X.env = pure (some [x, y]))
    (hs : swapsWithSole [.Tuple [.Name x px, .Name y py] kt pt] (.Tuple [a, b] k2 pt2) pos.line X.env = pure false := by rfl) :
    MS G E X (.Assign [.Tuple [.Name x px, .Name y py] kt pt] (.Tuple [a, b] k2 pt2) pos) (tPar i j tA) (sPar2 i j mA) := by
  refine ⟨ps_par C.calm C.nd hi hj hij hx hy ha.pe hw hs, ⟨fun r H h s σ D hR sR p => ?_⟩⟩
  refine ha.rf.run r H h s σ _ hR sR (p.seqS fun xs h1 r1 H1 vs s1 hR1 v1 p1 => ?_)
  split at p1
  · rename_i u w
    cases v1 with
    | cons q1 q2 => cases q2 with
      | cons q3 q4 =>
        cases q4
        exact ⟨_, _, rfl, p1.here hR1 (((sR.mono s1).set q1 i).set q3 j)⟩
  · exact False.elim p1
theorem ms_par3 (i j l : Nat) (C : XC G E X k) (hi : X.N[i]? = some x) (hj : X.N[j]? = some y) (hl : X.N[l]? = some z) (hij : i ≠ j) (hil : i ≠ l) (hjl : j ≠ l) (hx : X.env.scope.names.lookup x = some .local) (hy : X.env.scope.names.lookup y = some .local) (hz : X.env.scope.names.lookup z = some .local) (ha : MA G E X [a, b, c] tA mA)
    (hw : swappedStores [.Tuple [.Name x px, .Name y py, .Name z pz] kt pt] (.Tuple [a, b, c] k2 pt2) X.env = pure (some [x, y, z]))
    (hs : swapsWithSole [.Tuple [.Name x px, .Name y py, .Name z pz] kt pt] (.Tuple [a, b, c] k2 pt2) pos.line X.env = pure false := by rfl) :
    MS G E X (.Assign [.Tuple [.Name x px, .Name y py, .Name z pz] kt pt] (.Tuple [a, b, c] k2 pt2) pos) (tPar3 i j l tA) (sPar3 i j l mA) := by
  refine ⟨ps_par3 C.calm C.nd hi hj hl hij hil hjl hx hy hz ha.pe hw hs, ⟨fun r H h s σ D hR sR p => ?_⟩⟩
  refine ha.rf.run r H h s σ _ hR sR (p.seqS fun xs h1 r1 H1 vs s1 hR1 v1 p1 => ?_)
  split at p1
  · rename_i u w w'
    cases v1 with
    | cons q1 q2 => cases q2 with
      | cons q3 q4 => cases q4 with
        | cons q5 q6 =>
          cases q6
          exact ⟨_, _, _, rfl, p1.here hR1 ((((sR.mono s1).set q1 i).set q3 j).set q5 l)⟩
  · exact False.elim p1
end
end PyM

set_option Elab.async false
set_option linter.all false
set_option autoImplicit false
set_option maxHeartbeats 4000000
set_option maxRecDepth 100000
/-! an end by facts at given places -/
namespace PyM
open PySem PySem.Spec PyProof.Rows L2 He
theorem funOf {K : PySem.W.Frag} {x qual : Str} {st : Stmt} {f : Addr} {fd : FuncData} (F : FunD K x qual (defArgs st) (defBody st) (defScope st) [] [] f fd) : Fun K x qual st f fd := by
  obtain ⟨oc, od, dV, kV, doc, pm, an, cdv, ct, osl, e, lk, hcd, df, _⟩ := F.ex
  rcases df with ⟨_, rfl⟩ | ⟨h, _⟩
  · subst e
    exact fun_mk (st := st) lk hcd F.kp
  · exact absurd rfl h
/-! defs with defaults, called with all -/
section
variable {P : Program} {w : World} {mg : Str → Option Value} {base : PySem.Heap} {G : Cfg}
theorem fnd_m {dvs : List V} {kws : List (Str × V)} {x qual : Str} {st : Stmt} {f : Addr} {fd : FuncData} {N ps : List Str} {k np nl : Nat} {mb : En → Heap → RS} (F : FunD G.K x qual (defArgs st) (defBody st) (defScope st) dvs kws f fd) (S : FnScope N ps (defScope st)) (hnp : ps.length = np) (hnl : N.length = nl)
    (hb : ∀ (cdv : Value) (A : Around) (outer : List Env) (s : Shared) (H : Hp) (E : XK), XC G E (cxOf (L2.CX P w) P w G.K mg base N qual (defScope st) f cdv A outer s H E) k → Tk (cxOf (L2.CX P w) P w G.K mg base N qual (defScope st) f cdv A outer s H E) E →
      ∃ t, MSs G E (cxOf (L2.CX P w) P w G.K mg base N qual (defScope st) f cdv A outer s H E) (defBody st) t mb) : FnM G P w mg base (k + 1) f fd ps (runB np nl mb) := by
  subst hnp hnl
  refine ⟨F.ok S (fun vs H Q E h => h.1) (fun cdv A outer s H vs Q E hr h => ?_), fun xs h hl => by unfold runB; rw [if_neg hl]⟩
  obtain ⟨hl, r, h, xs, hR, vR, p⟩ := h
  have tk : Tk (cxOf (L2.CX P w) P w G.K mg base N qual (defScope st) f cdv A outer s H E) E := takes_of rfl rfl rfl rfl
  obtain ⟨t, q⟩ := hb cdv A outer s H E ⟨rfl, rfl, S.nd, hr, passes_call tk (fun _ _ _ _ h => h), passes_of rfl⟩ tk
  have z := q.rf.run r H h _ _ { nx := fun _ H' => Q .non H', rt := Q } hR (SR_start (n := N.length - ps.length) vR) ?_
  · refine ⟨t, q.pe, ?_⟩
    rw [← hl] at z
    exact z
  · unfold runB at p
    rw [if_pos (by rw [vR.len]; exact hl)] at p
    cases e : mb (List.map some xs ++ List.replicate (N.length - ps.length) none) h with
    | nx a b =>
      rw [e] at p
      exact fun r' H' t st hR' _ => p r' H' _ st hR' .non
    | rt a b => rw [e] at p; exact p
    | raised a b => rw [e] at p; exact p
    | bk a b => rw [e] at p; exact p.elim
    | ct a b => rw [e] at p; exact p.elim
    | stuck => rw [e] at p; exact p.elim
end
theorem bindD {K : PySem.W.Frag} {x qual : Str} {params : Arguments} {body : List Stmt} {scope : Scope} {v : V} {f : Addr} {fd : FuncData} {ps : List Str} (F : FunD K x qual params body scope [v] [] f fd)
    (h : ∀ (T : Addr) (kV doc pm : Value) (an : Option Addr) (cdv ct : Value) (us its : List Value), us.length = ps.length → its.length = 1 →
      ∃ k, bindArgs (PySem.W.fnOf x qual params body scope (.ref T) kV doc pm an cdv ct) ⟨us, []⟩ = seqItems? (.ref T) >>= k ∧ k (some its.toArray) = pure (ps.zip (us ++ its.drop 1))) : Binds K fd ps [] := by
  obtain ⟨ds, hv, hb⟩ := FunD.binds1 F ps.length 1 (by simp) (by simp) h
  cases hv
  exact hb
mutual
theorem cvB_ok {K : PySem.W.Frag} {sts : List Str} : ∀ {x : Val} {u : Value}, cvB K sts x u = true → CV K sts x u
  | .non, u, h => by
    cases u with
    | none => exact .non
    | _ => simp [cvB] at h
  | .int i, u, h => by
    cases u with
    | int j t =>
      have e : i = j := by simpa [cvB] using h
      subst e
      exact .int i
    | _ => simp [cvB] at h
  | .str n, u, h => by
    cases u with
    | str x t => exact .str (by simpa [cvB] using h)
    | _ => simp [cvB] at h
  | .tup xs, u, h => by
    cases u with
    | ref a =>
      rw [cvB] at h
      cases q : K.lookup a with
      | none => rw [q] at h; cases h
      | some o =>
        rw [q] at h
        obtain ⟨h1, h2⟩ := ba h
        cases qc : o.cls with
        | type c =>
          rw [qc] at h1
          have e1 : c = "tuple" := of_decide_eq_true h1
          subst e1
          cases qd : o.data with
          | seq its n =>
            rw [qd] at h2
            obtain ⟨h3, h4⟩ := ba h2
            have ll : 1000 ≤ lim := by decide
            have hs := Nat.le_of_ble_eq_true h3
            exact .tup q qc qd (le_line (by omega)) (cvBs_ok h4)
          | _ => rw [qd] at h2; cases h2
        | _ => rw [qc] at h1; cases h1
    | _ => simp [cvB] at h
  | .bl _, u, h => by cases u <;> simp [cvB] at h
  | .ref _, u, h => by cases u <;> simp [cvB] at h
theorem cvBs_ok {K : PySem.W.Frag} {sts : List Str} : ∀ {xs : List Val} {us : List Value}, cvBs K sts xs us = true → CVs K sts xs us
  | [], us, h => by
    cases us with
    | nil => exact .nil
    | cons => simp [cvBs] at h
  | x :: xs, us, h => by
    cases us with
    | nil => simp [cvBs] at h
    | cons u us =>
      rw [cvBs] at h
      obtain ⟨h1, h2⟩ := ba h
      exact .cons (cvB_ok h1) (cvBs_ok h2)
end
theorem ktB_ok {K : PySem.W.Frag} {sts : List Str} {h : PySem.Heap} {mg : Str → Option Value} {x : Str} {v : Val} (X : K.In h) (G : h.Ns mainGlobals mg) (e : ktB K sts x v = true) : KT K mg sts x v := by
  unfold ktB at e
  cases q : PySem.W.nsIn K mainGlobals x with
  | none => rw [q] at e; cases e
  | some r =>
    rw [q] at e
    cases r with
    | none => cases e
    | some u => exact ⟨u, PySem.W.mg_of X G q, cvB_ok e⟩
theorem ceB_ok {w : World} {K : PySem.W.Frag} {sts : List Str} : ∀ {l : List (Nat × Val)} {es : List DictEntry} {ks : List Str}, ceB K sts l es = true → es.map He.keyOf = keysIn w.params ks → CE w K sts l es
  | [], [], _, _, _ => .nil
  | [], _ :: _, _, h, _ => by simp [ceB] at h
  | _ :: _, [], _, h, _ => by simp [ceB] at h
  | (i, v) :: l, e :: es, [], h, hk => by simp [keysIn] at hk
  | (i, v) :: l, e :: es, k :: ks, h, hk => by
    rw [ceB] at h
    obtain ⟨h1, h2⟩ := ba h
    obtain ⟨h3, h4⟩ := ba h2
    obtain ⟨hh, kk, u⟩ := e
    have hk' : He.keyOf ⟨hh, kk, u⟩ :: es.map He.keyOf = some (k, PyData.keyHash w.params k) :: keysIn w.params ks := hk
    injection hk' with e1 e2
    cases kk with
    | str z t =>
      have e3 : sts[i]? = some z := of_decide_eq_true h1
      have e4 : (some (z, hh) : Option (Str × Int)) = some (k, PyData.keyHash w.params k) := e1
      injection e4 with e5
      injection e5 with e6 e7
      exact .cons e3 (by rw [e7, e6]) (cvB_ok h3) (ceB_ok h4 e2)
    | _ => cases h1
theorem kdB_ok {w : World} {K : PySem.W.Frag} {sts : List Str} {h : PySem.Heap} {mg : Str → Option Value} {x : Str} {l : List (Nat × Val)} {ks : List Str} (X : K.In h) (G : h.Ns mainGlobals mg) (gl : (Fa.glo x).ok K = true) (e : kdB K sts x l = true) (d : dicW K (ga K x) = some (keysIn w.params ks)) : ∃ es n, KD w K mg sts x (ga K x) es n l := by
  unfold kdB at e
  unfold dicW at d
  cases q : K.lookup (ga K x) with
  | none => rw [q] at e; cases e
  | some o =>
    obtain ⟨oc, od, dt, sl⟩ := o
    rw [q] at e d
    cases oc with
    | type c =>
      cases od with
      | none =>
        cases dt with
        | dict es n =>
          obtain ⟨h1, h2⟩ := ba e
          obtain ⟨h3, h4⟩ := ba h2
          obtain ⟨h5, h6⟩ := ba h4
          have e1 : c = "dict" := of_decide_eq_true h1
          subst e1
          have e2 : sl = #[] := Array.isEmpty_iff.mp h3
          subst e2
          refine ⟨es, n, glo_ok X G gl, q, by simpa using h5, ceB_ok (w := w) (ks := ks) h6 ?_⟩
          have d1 : (match decide (("dict" : String) = "dict") && ((#[] : Array (Option Value)).isEmpty && !(ga K x == sysModules)) with
            | true => some (es.toList.map He.keyOf)
            | false => none) = some (keysIn w.params ks) := d
          have hb : (decide (("dict" : String) = "dict") && ((#[] : Array (Option Value)).isEmpty && !(ga K x == sysModules))) = true := by
            rw [h5]; rfl
          rw [hb] at d1
          exact Option.some.inj d1
        | _ => cases e
      | some d' => cases dt <;> cases e
    | _ => cases od <;> cases dt <;> cases e
end PyM

set_option Elab.async false
set_option linter.all false
set_option autoImplicit false
set_option maxHeartbeats 4000000
/-! dicts: get, pop; keys that are tuples, written where they are used; list.remove -/
namespace PyM
open PySem L2 L2.DX
variable {G : Cfg} {E : XK} {X : Cx} {k : Nat} {r r' : List Addr} {H H' : Hp} {h : Heap}
theorem KRs.eq (ok : G.Ok) : ∀ {ks ks' : List Val} {qs qs' : List Key}, KRs G ks qs → KRs G ks' qs' → decide (ks = ks') = decide (qs = qs')
  | _, _, _, _, .nil, .nil => rfl
  | _, _, _, _, .nil, .cons _ _ => by simp
  | _, _, _, _, .cons _ _, .nil => by simp
  | _, _, _, _, .cons a b, .cons c d => by
    have e1 := KR.eq ok a c
    have e2 := KRs.eq ok b d
    simp only [decide_eq_decide] at e1 e2
    simp only [List.cons.injEq, decide_eq_decide]
    rw [e1, e2]
theorem KRs.of : ∀ {ks : List Val} {vs : List V}, VRs G r H ks vs → ks.all isKey = true → ∃ qs, KRs G ks qs ∧ vs = qs.map kV
  | _, _, .nil, _ => ⟨[], .nil, rfl⟩
  | _, _, .cons a b, hk => by
    rw [List.all_cons, Bool.and_eq_true] at hk
    obtain ⟨q, q1, rfl⟩ := KR.of a hk.1
    obtain ⟨qs, q2, rfl⟩ := KRs.of b hk.2
    exact ⟨q :: qs, .cons q1 q2, rfl⟩
theorem DTR.len {d e} (a : DTR G r H d e) : d.length = e.length := by
  induction a with
  | nil => rfl
  | cons _ _ _ ih => simp [ih]
theorem DTR.keq (ok : G.Ok) {ks ks' : List Val} {qs qs' : List Key} (a : KRs G ks qs) (b : KRs G ks' qs') : (Val.tup ks = Val.tup ks') ↔ qs = qs' := by
  have := KRs.eq ok a b
  simp only [decide_eq_decide] at this
  rw [← this]
  exact ⟨fun e => by injection e, fun e => by rw [e]⟩
theorem DTR.look (ok : G.Ok) {d e} (a : DTR G r H d e) {ks : List Val} {qs : List Key} (b : KRs G ks qs) : (lookV d (.tup ks) = none ∧ valV e qs = none) ∨ ∃ x v, lookV d (.tup ks) = some x ∧ valV e qs = some v ∧ VR G r H x v := by
  induction a with
  | nil => exact .inl ⟨rfl, rfl⟩
  | @cons ks' x qs' v d e hk hv _ ih =>
    have e1 := DTR.keq ok hk b
    by_cases hh : qs' = qs
    · have h2 := e1.mpr hh
      exact .inr ⟨x, v, by simp [lookV, h2], by simp [valV, hh], hv⟩
    · have h2 : ¬ Val.tup ks' = Val.tup ks := fun q => hh (e1.mp q)
      have l1 : lookV ((Val.tup ks', x) :: d) (.tup ks) = lookV d (.tup ks) := by simp only [lookV, List.find?_cons, h2, decide_false]
      have l2 : valV ((qs', v) :: e) qs = valV e qs := by simp only [valV, List.find?_cons, hh, decide_false]
      rw [l1, l2]
      exact ih
theorem DTR.any (ok : G.Ok) {d e} (a : DTR G r H d e) {ks : List Val} {qs : List Key} (b : KRs G ks qs) : (d.any fun kv => decide (kv.1 = .tup ks)) = (e.any fun kv => decide (kv.1 = qs)) := by
  induction a with
  | nil => rfl
  | cons hk _ _ ih =>
    rw [List.any_cons, List.any_cons, ih]
    congr 1
    exact decide_eq_decide.mpr (DTR.keq ok hk b)
theorem DTR.app {d e d' e'} (a : DTR G r H d e) (b : DTR G r H d' e') : DTR G r H (d ++ d') (e ++ e') := by
  induction a with
  | nil => exact b
  | cons hk hv _ ih => exact .cons hk hv ih
theorem DTR.upd (ok : G.Ok) {d e} (a : DTR G r H d e) {ks : List Val} {x : Val} {qs : List Key} {v : V} (b : KRs G ks qs) (c : VR G r H x v) : DTR G r H (d.map (fun kv => if kv.1 = .tup ks then (kv.1, x) else kv)) (e.map (fun kv => if kv.1 = qs then (kv.1, v) else kv)) := by
  induction a with
  | nil => exact .nil
  | @cons ks' x' qs' v' d e hk hv _ ih =>
    have e1 := DTR.keq ok hk b
    rw [List.map_cons, List.map_cons]
    by_cases hh : qs' = qs
    · rw [if_pos (e1.mpr hh), if_pos hh]
      exact .cons hk c ih
    · rw [if_neg (fun q => hh (e1.mp q)), if_neg hh]
      exact .cons hk hv ih
theorem DTR.put (ok : G.Ok) {d e} (a : DTR G r H d e) {ks : List Val} {x : Val} {qs : List Key} {v : V} (b : KRs G ks qs) (c : VR G r H x v) : DTR G r H (putV d (.tup ks) x) (putK e qs v) := by
  unfold putV putK
  rw [a.any ok b]
  by_cases hh : (e.any fun kv => decide (kv.1 = qs)) = true
  · rw [if_pos hh, if_pos hh]
    exact a.upd ok b c
  · rw [if_neg hh, if_neg hh]
    exact a.app (.cons b c .nil)
theorem DTR.drop (ok : G.Ok) {d e} (a : DTR G r H d e) {ks : List Val} {qs : List Key} (b : KRs G ks qs) : DTR G r H (dropV d (.tup ks)) (dropK e qs) := by
  unfold dropV dropK
  induction a with
  | nil => exact .nil
  | @cons ks' x' qs' v' d e hk hv _ ih =>
    have e1 := DTR.keq ok hk b
    by_cases hh : qs' = qs
    · rw [List.filter_cons_of_neg (by simp [e1.mpr hh]), List.filter_cons_of_neg (by simp [hh])]
      exact ih
    · have h2 : ¬ Val.tup ks' = Val.tup ks := fun q => hh (e1.mp q)
      rw [List.filter_cons_of_pos (by simpa using h2), List.filter_cons_of_pos (by simpa using hh)]
      exact .cons hk hv ih
/-- a dict of an instance is written -/
theorem set_dct (hR : HR G r H h) {n : Nat} {ad : Addr} {d d' : List (Val × Val)} {e e' : List (Key × V)} {x : Val} {v : V} {Q : VK} (eo : h[n]? = some (.dct d)) (ea : r[n]? = some ad) (hl : H ad = some (.dK e)) (hv : DR G r H d' e') (hx : VR G r H x v) (p : PostR G (VR G) r H E (.ok x (h.set n (.dct d'))) Q) : Q v (upd H ad (.dK e')) := by
  have st : Stp G.K r H r (upd H ad (.dK e')) := Stp.upd fun o e => by rw [hl] at e; cases e; trivial
  exact p r _ _ st (hR.write eo rfl ea (fun o e => by rw [hl] at e; cases e; trivial) (.dct upd_same (hv.mono st)) rfl) (hx.mono st)
theorem set_dcT (hR : HR G r H h) {n : Nat} {ad : Addr} {d d' : List (Val × Val)} {e e' : List (List Key × V)} {x : Val} {v : V} {Q : VK} (eo : h[n]? = some (.dcT d)) (ea : r[n]? = some ad) (hl : H ad = some (.dT e)) (hv : DTR G r H d' e') (hx : VR G r H x v) (p : PostR G (VR G) r H E (.ok x (h.set n (.dcT d'))) Q) : Q v (upd H ad (.dT e')) := by
  have st : Stp G.K r H r (upd H ad (.dT e')) := Stp.upd fun o e => by rw [hl] at e; cases e; trivial
  exact p r _ _ st (hR.write eo rfl ea (fun o e => by rw [hl] at e; cases e; trivial) (.dcT upd_same (hv.mono st)) rfl) (hx.mono st)

/-! ### d.get, d.pop with int and text keys -/
def isD (x : Val) (h : Heap) : Bool := match x with
  | .ref a => match h[a]? with
    | some (.dct _) => true
    | some (.dcT _) => true
    | _ => false
  | _ => false
theorem isD_of (hR : HR G r H h) {x : Val} {v : V} (q : VR G r H x v) (e : isD x h = true) : ∃ a, v = .ref a ∧ IsD H a := by
  cases q with
  | ref ea =>
    simp only [isD] at e
    split at e
    · rename_i d eo
      cases hR.ob _ _ _ eo ea with
      | dct hl hv => exact ⟨_, rfl, .inl ⟨_, .inl hl⟩⟩
    · rename_i d eo
      cases hR.ob _ _ _ eo ea with
      | dcT hl hv => exact ⟨_, rfl, .inr ⟨_, .inl hl⟩⟩
    · cases e
  | _ => simp [isD] at e
def dGet (o y z : Val) (h : Heap) : Res Val := match o with
  | .ref a => match h[a]? with
    | some (.dct d) => if isKey y = true then .ok ((lookV d y).getD z) h else .stuck
    | _ => .stuck
  | _ => .stuck
def dPop1 (o y : Val) (h : Heap) : Res Val := match o with
  | .ref a => match h[a]? with
    | some (.dct d) => if isKey y = true then match lookV d y with
        | some x => .ok x (h.set a (.dct (dropV d y)))
        | none => .stuck
      else .stuck
    | _ => .stuck
  | _ => .stuck
def dPop2 (o y z : Val) (h : Heap) : Res Val := match o with
  | .ref a => match h[a]? with
    | some (.dct d) => if isKey y = true then match lookV d y with
        | some x => .ok x (h.set a (.dct (dropV d y)))
        | none => .ok z h
      else .stuck
    | _ => .stuck
  | _ => .stuck
def mGet1 (mo my : En → Heap → Res Val) (s : En) (h : Heap) : Res Val := (mo s h).bind fun o h1 => if isD o h1 = true then (my s h1).bind fun y h2 => dGet o y .non h2 else .stuck
def mGet2 (mo my mz : En → Heap → Res Val) (s : En) (h : Heap) : Res Val := (mo s h).bind fun o h1 => if isD o h1 = true then (my s h1).bind fun y h2 => (mz s h2).bind fun z h3 => dGet o y z h3 else .stuck
def mPop1 (mo my : En → Heap → Res Val) (s : En) (h : Heap) : Res Val := (mo s h).bind fun o h1 => if isD o h1 = true then (my s h1).bind fun y h2 => dPop1 o y h2 else .stuck
def mPop2 (mo my mz : En → Heap → Res Val) (s : En) (h : Heap) : Res Val := (mo s h).bind fun o h1 => if isD o h1 = true then (my s h1).bind fun y h2 => (mz s h2).bind fun z h3 => dPop2 o y z h3 else .stuck
theorem dGet_of (ok : G.Ok) (hR : HR G r H h) {o y z : Val} {v w u : V} {Q : VK} (vo : VR G r H o v) (vy : VR G r H y w) (vz : VR G r H z u) (p : PostR G (VR G) r H E (dGet o y z h) Q) : ∃ a oo, v = .ref a ∧ DGet H a w oo ∧ Q (oo.getD u) H := by
  unfold dGet at p
  split at p
  · cases vo with
    | ref ea =>
      split at p
      · rename_i d eo
        split at p
        · rename_i hk
          cases hR.ob _ _ _ eo ea with
          | dct hl hv =>
            obtain ⟨q, kq, rfl⟩ := KR.of vy hk
            rcases hv.look ok kq with ⟨e1, e2⟩ | ⟨x', v', e1, e2, v2⟩
            · rw [e1] at p
              exact ⟨_, none, rfl, by rw [← e2]; exact DGet.k hl, p.here hR vz⟩
            · rw [e1] at p
              exact ⟨_, some v', rfl, by rw [← e2]; exact DGet.k hl, p.here hR v2⟩
        · exact False.elim p
      · exact False.elim p
  · exact False.elim p
section
variable {o e f : Expr} {td ty tx : TE} {mo my mz : En → Heap → Res Val} {apos cpos : Pos}
theorem me_get1 (ok : G.Ok) (C : XC G E X k) (ho : ME G E X o td mo) (he : ME G E X e ty my) (m : M1 X o "get" apos e cpos := by exact ⟨rfl, rfl, rfl, rfl⟩) : ME G E X (.Call (.Attribute o "get" apos) [e] [] cpos) (tDGet1 td ty) (mGet1 mo my) := by
  refine ⟨pe_dget1 (by have := C.hu; omega) ho.pe he.pe m, ⟨fun r H h s σ Q hR sR p => ho.rf.run r H h s σ _ hR sR (p.seq fun x h1 r1 H1 v s1 hR1 v1 p1 => ?_)⟩⟩
  split at p1
  · rename_i hd
    obtain ⟨a, rfl, id⟩ := isD_of hR1 v1 hd
    refine ⟨a, rfl, id, he.rf.run r1 H1 h1 s σ _ hR1 (sR.mono s1) (p1.seq fun y h2 r2 H2 w s2 hR2 v2 p2 => ?_)⟩
    obtain ⟨a', oo, ea, g, q⟩ := dGet_of ok hR2 (v1.mono s2) v2 .non p2
    cases ea
    exact ⟨oo, g, q⟩
  · exact False.elim p1
theorem me_get2 (ok : G.Ok) (C : XC G E X k) (ho : ME G E X o td mo) (he : ME G E X e ty my) (hf : ME G E X f tx mz) (m : M2 X o "get" apos e f cpos := by exact ⟨rfl, rfl, rfl, rfl⟩) : ME G E X (.Call (.Attribute o "get" apos) [e, f] [] cpos) (tDGet2 td ty tx) (mGet2 mo my mz) := by
  refine ⟨pe_dget2 (by have := C.hu; omega) ho.pe he.pe hf.pe m, ⟨fun r H h s σ Q hR sR p => ho.rf.run r H h s σ _ hR sR (p.seq fun x h1 r1 H1 v s1 hR1 v1 p1 => ?_)⟩⟩
  split at p1
  · rename_i hd
    obtain ⟨a, rfl, id⟩ := isD_of hR1 v1 hd
    refine ⟨a, rfl, id, he.rf.run r1 H1 h1 s σ _ hR1 (sR.mono s1) (p1.seq fun y h2 r2 H2 w s2 hR2 v2 p2 => ?_)⟩
    refine hf.rf.run r2 H2 h2 s σ _ hR2 ((sR.mono s1).mono s2) (p2.seq fun z h3 r3 H3 u s3 hR3 v3 p3 => ?_)
    obtain ⟨a', oo, ea, g, q⟩ := dGet_of ok hR3 ((v1.mono s2).mono s3) (v2.mono s3) v3 p3
    cases ea
    exact ⟨oo, g, q⟩
  · exact False.elim p1
theorem me_pop1 (ok : G.Ok) (ho : ME G E X o td mo) (he : ME G E X e ty my) (m : M1 X o "pop" apos e cpos := by exact ⟨rfl, rfl, rfl, rfl⟩) : ME G E X (.Call (.Attribute o "pop" apos) [e] [] cpos) (tDPop1 td ty) (mPop1 mo my) := by
  refine ⟨pe_dpop1 ho.pe he.pe m, ⟨fun r H h s σ Q hR sR p => ho.rf.run r H h s σ _ hR sR (p.seq fun x h1 r1 H1 v s1 hR1 v1 p1 => ?_)⟩⟩
  split at p1
  · rename_i hd
    obtain ⟨a, rfl, id⟩ := isD_of hR1 v1 hd
    refine ⟨a, rfl, id, he.rf.run r1 H1 h1 s σ _ hR1 (sR.mono s1) (p1.seq fun y h2 r2 H2 w s2 hR2 v2 p2 => ?_)⟩
    have vo := v1.mono s2
    unfold dPop1 at p2
    split at p2
    · cases vo with
      | ref ea =>
        split at p2
        · rename_i d eo
          split at p2
          · rename_i hk
            cases hR2.ob _ _ _ eo ea with
            | dct hl hv =>
              obtain ⟨q, kq, rfl⟩ := KR.of v2 hk
              rcases hv.look ok kq with ⟨e1, e2⟩ | ⟨x', v', e1, e2, v3⟩
              · rw [e1] at p2; exact False.elim p2
              · rw [e1] at p2
                exact ⟨_, q, v', hl, rfl, e2, set_dct hR2 eo ea hl (hv.drop ok kq) v3 p2⟩
          · exact False.elim p2
        · exact False.elim p2
    · exact False.elim p2
  · exact False.elim p1
theorem me_pop2 (ok : G.Ok) (ho : ME G E X o td mo) (he : ME G E X e ty my) (hf : ME G E X f tx mz) (m : M2 X o "pop" apos e f cpos := by exact ⟨rfl, rfl, rfl, rfl⟩) : ME G E X (.Call (.Attribute o "pop" apos) [e, f] [] cpos) (tDPop2 td ty tx) (mPop2 mo my mz) := by
  refine ⟨pe_dpop2 ho.pe he.pe hf.pe m, ⟨fun r H h s σ Q hR sR p => ho.rf.run r H h s σ _ hR sR (p.seq fun x h1 r1 H1 v s1 hR1 v1 p1 => ?_)⟩⟩
  split at p1
  · rename_i hd
    obtain ⟨a, rfl, id⟩ := isD_of hR1 v1 hd
    refine ⟨a, rfl, id, he.rf.run r1 H1 h1 s σ _ hR1 (sR.mono s1) (p1.seq fun y h2 r2 H2 w s2 hR2 v2 p2 => ?_)⟩
    refine hf.rf.run r2 H2 h2 s σ _ hR2 ((sR.mono s1).mono s2) (p2.seq fun z h3 r3 H3 u s3 hR3 v3 p3 => ?_)
    have vo := (v1.mono s2).mono s3
    have vy := v2.mono s3
    unfold dPop2 at p3
    split at p3
    · cases vo with
      | ref ea =>
        split at p3
        · rename_i d eo
          split at p3
          · rename_i hk
            cases hR3.ob _ _ _ eo ea with
            | dct hl hv =>
              obtain ⟨q, kq, rfl⟩ := KR.of vy hk
              rcases hv.look ok kq with ⟨e1, e2⟩ | ⟨x', v', e1, e2, v4⟩
              · rw [e1] at p3
                exact ⟨_, q, hl, rfl, (fun v' e' => by rw [e2] at e'; cases e'), (fun _ => p3.here hR3 v3)⟩
              · rw [e1] at p3
                exact ⟨_, q, hl, rfl, (fun v'' e' => by rw [e2] at e'; cases e'; exact set_dct hR3 eo ea hl (hv.drop ok kq) v4 p3), (fun e' => by rw [e2] at e'; cases e')⟩
          · exact False.elim p3
        · exact False.elim p3
    · exact False.elim p3
  · exact False.elim p1
end

/-! ### keys that are tuples, written where they are used -/
def mDctT (_ : En) (h : Heap) : Res Val := .ok (.ref h.length) (h ++ [.dcT []])
theorem me_dictT {pos : Pos} : ME G E X (.Dict [] [] pos) tDNewT mDctT := by
  refine ⟨pe_dnewT, ⟨fun r H h s σ Q hR sR p q hq => ?_⟩⟩
  refine p (r ++ [q]) _ _ (Stp.new hq) (hR.push hq (.dcT upd_same .nil)) (.ref ?_)
  rw [← hR.len]
  simp
def keysOk (ks : List Val) : Bool := ks.all isKey && decide (ks.length ≤ 1000)
def tLook (o : Val) (ks : List Val) (h : Heap) : Option (Option Val) := match o with
  | .ref a => match h[a]? with
    | some (.dcT d) => if keysOk ks = true then some (lookV d (.tup ks)) else none
    | _ => none
  | _ => none
def tIx (o : Val) (ks : List Val) (h : Heap) : Res Val := match tLook o ks h with
  | some (some v) => .ok v h
  | _ => .stuck
def tIn (neg : Bool) (ks : List Val) (o : Val) (h : Heap) : Res Val := match tLook o ks h with
  | some v => .ok (.bl (if neg then !v.isSome else v.isSome)) h
  | none => .stuck
def tGet (o : Val) (ks : List Val) (z : Val) (h : Heap) : Res Val := match tLook o ks h with
  | some v => .ok (v.getD z) h
  | none => .stuck
def tDrop (o : Val) (ks : List Val) (h : Heap) : Heap := match o with
  | .ref a => match h[a]? with
    | some (.dcT d) => h.set a (.dcT (dropV d (.tup ks)))
    | _ => h
  | _ => h
def tPop1 (o : Val) (ks : List Val) (h : Heap) : Res Val := match tLook o ks h with
  | some (some v) => .ok v (tDrop o ks h)
  | _ => .stuck
def tPop2 (o : Val) (ks : List Val) (z : Val) (h : Heap) : Res Val := match tLook o ks h with
  | some (some v) => .ok v (tDrop o ks h)
  | some none => .ok z h
  | none => .stuck
def tSet (o : Val) (ks : List Val) (v : Val) (h : Heap) : Res Unit := match o with
  | .ref a => match h[a]? with
    | some (.dcT d) => if keysOk ks = true ∧ d.length < lim then .ok () (h.set a (.dcT (putV d (.tup ks) v))) else .stuck
    | _ => .stuck
  | _ => .stuck
def mIxT (mo : En → Heap → Res Val) (mk : En → Heap → Res (List Val)) (s : En) (h : Heap) : Res Val := (mo s h).bind fun o h1 => (mk s h1).bind fun ks h2 => tIx o ks h2
def mInT (neg : Bool) (mk : En → Heap → Res (List Val)) (mo : En → Heap → Res Val) (s : En) (h : Heap) : Res Val := (mk s h).bind fun ks h1 => if ks.length ≤ 1000 then (mo s h1).bind fun o h2 => tIn neg ks o h2 else .stuck
def mGetT1 (mo : En → Heap → Res Val) (mk : En → Heap → Res (List Val)) (s : En) (h : Heap) : Res Val := (mo s h).bind fun o h1 => if isD o h1 = true then (mk s h1).bind fun ks h2 => tGet o ks .non h2 else .stuck
def mGetT2 (mo : En → Heap → Res Val) (mk : En → Heap → Res (List Val)) (mz : En → Heap → Res Val) (s : En) (h : Heap) : Res Val := (mo s h).bind fun o h1 => if isD o h1 = true then (mk s h1).bind fun ks h2 => if ks.length ≤ 1000 then (mz s h2).bind fun z h3 => tGet o ks z h3 else .stuck else .stuck
def mPopT1 (mo : En → Heap → Res Val) (mk : En → Heap → Res (List Val)) (s : En) (h : Heap) : Res Val := (mo s h).bind fun o h1 => if isD o h1 = true then (mk s h1).bind fun ks h2 => tPop1 o ks h2 else .stuck
def mPopT2 (mo : En → Heap → Res Val) (mk : En → Heap → Res (List Val)) (mz : En → Heap → Res Val) (s : En) (h : Heap) : Res Val := (mo s h).bind fun o h1 => if isD o h1 = true then (mk s h1).bind fun ks h2 => if ks.length ≤ 1000 then (mz s h2).bind fun z h3 => tPop2 o ks z h3 else .stuck else .stuck
def sSubT (mo : En → Heap → Res Val) (mk : En → Heap → Res (List Val)) (me : En → Heap → Res Val) (s : En) (h : Heap) : RS := (me s h).thenS fun v h1 => (mo s h1).thenS fun o h2 => (mk s h2).thenS fun ks h3 => (tSet o ks v h3).thenS fun _ h4 => .nx s h4

/-- the tuple is laid -/
theorem lay_tup (hR : HR G r H h) {xs : List Val} {vs : List V} {p : Addr} (hp : H p = none) : HR G r (upd H p (.tup vs)) h ∧ Stp G.K r H r (upd H p (.tup vs)) := ⟨hR.lay hp, Stp.new0 hp⟩
theorem tLook_of (ok : G.Ok) (hR : HR G r H h) {o : Val} {ks : List Val} {v : V} {vs : List V} {z : Option Val} (vo : VR G r H o v) (vk : VRs G r H ks vs) (e : tLook o ks h = some z) {p : Addr} (hp : H p = some (.tup vs)) :
    ∃ n a d e qs, o = .ref n ∧ h[n]? = some (.dcT d) ∧ r[n]? = some a ∧ v = .ref a ∧ H a = some (.dT e) ∧ DTR G r H d e ∧ KRs G ks qs ∧ vs = qs.map kV ∧ DGet H a (.ref p) (valV e qs) ∧
      ((z = none ∧ lookV d (.tup ks) = none ∧ valV e qs = none) ∨ ∃ x w, z = some x ∧ lookV d (.tup ks) = some x ∧ valV e qs = some w ∧ VR G r H x w) := by
  unfold tLook at e
  split at e
  · cases vo with
    | ref ea =>
      split at e
      · rename_i d eo
        split at e
        · rename_i hk
          cases e
          simp only [keysOk, Bool.and_eq_true] at hk
          cases hR.ob _ _ _ eo ea with
          | dcT hl hv =>
            obtain ⟨qs, kq, rfl⟩ := KRs.of vk hk.1
            refine ⟨_, _, _, _, qs, rfl, eo, ea, rfl, hl, hv, kq, rfl, DGet.t hl hp, ?_⟩
            rcases hv.look ok kq with ⟨e1, e2⟩ | ⟨x', v', e1, e2, v2⟩
            · exact .inl ⟨e1, e1, e2⟩
            · exact .inr ⟨x', v', e1, e1, e2, v2⟩
        · cases e
      · cases e
  · cases e
theorem tLook_len {o : Val} {ks : List Val} {z : Option Val} (e : tLook o ks h = some z) : ks.length ≤ 1000 := by
  unfold tLook at e
  split at e
  · split at e
    · split at e
      · rename_i hk
        simp only [keysOk, Bool.and_eq_true, decide_eq_true_eq] at hk
        exact hk.2
      · cases e
    · cases e
  · cases e
theorem len1000 {n : Nat} (h : n ≤ 1000) : n ≤ sizeLine := le_line (Nat.le_trans h (by decide))
section
variable {o e f a b : Expr} {es : List Expr} {td ty tx : TE} {tA : TA} {mo my mz me : En → Heap → Res Val} {mk : En → Heap → Res (List Val)} {apos cpos pos pos' kpos : Pos} {kc : Nat}
theorem me_ixT (ok : G.Ok) (C : XC G E X k) {x1} (ho : ME G E X o td mo) (hk : MA G E X es tA mk) (hs : NoSl (.Tuple es x1 kpos) := by exact fun _ _ => rfl) : ME G E X (.Subscript o (.Tuple es x1 kpos) pos) (tDGet td (tTup tA)) (mIxT mo mk) := by
  refine ⟨pe_dget (by have := C.hu; omega) ho.pe (pe_tup hk.pe) hs, ⟨fun r H h s σ Q hR sR p => ho.rf.run r H h s σ _ hR sR (p.seq fun x h1 r1 H1 v s1 hR1 v1 p1 => ?_)⟩⟩
  refine hk.rf.run r1 H1 h1 s σ _ hR1 (sR.mono s1) (p1.seq fun ks h2 r2 H2 vs s2 hR2 v2 p2 => ?_)
  unfold tIx at p2
  split at p2
  · rename_i w ew
    refine ⟨len1000 (by rw [← v2.len]; exact tLook_len ew), fun q hq => ?_⟩
    have st := (lay_tup (xs := ks) (vs := vs) hR2 hq).2
    have hR3 := (lay_tup (xs := ks) (vs := vs) hR2 hq).1
    obtain ⟨n, ad, d, e', qs, rfl, eo, ea, rfl, hl, hv, kq, rfl, g, q'⟩ := tLook_of ok hR3 ((v1.mono s2).mono st) (v2.mono st) ew upd_same
    rcases q' with ⟨e1, _⟩ | ⟨x', w', e1, _, e3, v3⟩
    · cases e1
    · cases e1
      rw [e3] at g
      exact ⟨ad, w', rfl, g, (p2.shift st).here hR3 v3⟩
  · exact False.elim p2
theorem mc_inT (ok : G.Ok) (C : XC G E X k) {x1} (hk : MA G E X es tA mk) (ho : ME G E X o td mo) : MC G E X .In (.Tuple es x1 kpos) o (tDIn (tTup tA) td) (mInT false mk mo) := by
  refine ⟨pc_din (by have := C.hu; omega) (pe_tup hk.pe) ho.pe, ⟨fun r H h s σ Q hR sR p => hk.rf.run r H h s σ _ hR sR (p.seq fun ks h1 r1 H1 vs s1 hR1 v1 p1 => ?_)⟩⟩
  split at p1
  · rename_i hlen
    refine ⟨len1000 (by rw [← v1.len]; exact hlen), fun q hq => ?_⟩
    have st := (lay_tup (xs := ks) (vs := vs) hR1 hq).2
    have hR1' := (lay_tup (xs := ks) (vs := vs) hR1 hq).1
    refine ho.rf.run r1 _ h1 s σ _ hR1' ((sR.mono s1).mono st) ((p1.shift st).seq fun x h2 r2 H2 v s2 hR2 v2 p2 => ?_)
    have tq : H2 q = some (.tup vs) := s2.tpl _ _ upd_same
    unfold tIn at p2
    split at p2
    · rename_i w ew
      obtain ⟨n, ad, d, e', qs, rfl, eo, ea, rfl, hl, hv, kq, rfl, g, q'⟩ := tLook_of ok hR2 v2 ((v1.mono st).mono s2) ew tq
      refine ⟨ad, _, rfl, g, ?_⟩
      rcases q' with ⟨rfl, _, e3⟩ | ⟨x', w', rfl, _, e3, v3⟩
      · rw [e3]; exact p2.here hR2 (.bl _)
      · rw [e3]; exact p2.here hR2 (.bl _)
    · exact False.elim p2
  · exact False.elim p1
theorem mc_notinT (ok : G.Ok) (C : XC G E X k) {x1} (hk : MA G E X es tA mk) (ho : ME G E X o td mo) : MC G E X .NotIn (.Tuple es x1 kpos) o (tDNotIn (tTup tA) td) (mInT true mk mo) := by
  refine ⟨pc_dnotin (by have := C.hu; omega) (pe_tup hk.pe) ho.pe, ⟨fun r H h s σ Q hR sR p => hk.rf.run r H h s σ _ hR sR (p.seq fun ks h1 r1 H1 vs s1 hR1 v1 p1 => ?_)⟩⟩
  split at p1
  · rename_i hlen
    refine ⟨len1000 (by rw [← v1.len]; exact hlen), fun q hq => ?_⟩
    have st := (lay_tup (xs := ks) (vs := vs) hR1 hq).2
    have hR1' := (lay_tup (xs := ks) (vs := vs) hR1 hq).1
    refine ho.rf.run r1 _ h1 s σ _ hR1' ((sR.mono s1).mono st) ((p1.shift st).seq fun x h2 r2 H2 v s2 hR2 v2 p2 => ?_)
    have tq : H2 q = some (.tup vs) := s2.tpl _ _ upd_same
    unfold tIn at p2
    split at p2
    · rename_i w ew
      obtain ⟨n, ad, d, e', qs, rfl, eo, ea, rfl, hl, hv, kq, rfl, g, q'⟩ := tLook_of ok hR2 v2 ((v1.mono st).mono s2) ew tq
      refine ⟨ad, _, rfl, g, ?_⟩
      rcases q' with ⟨rfl, _, e3⟩ | ⟨x', w', rfl, _, e3, v3⟩
      · rw [e3]; exact p2.here hR2 (.bl _)
      · rw [e3]; exact p2.here hR2 (.bl _)
    · exact False.elim p2
  · exact False.elim p1
theorem me_getT1 (ok : G.Ok) (C : XC G E X k) {x1} (ho : ME G E X o td mo) (hk : MA G E X es tA mk) (m : M1 X o "get" apos (.Tuple es x1 kpos) cpos := by exact ⟨rfl, rfl, rfl, rfl⟩) :
    ME G E X (.Call (.Attribute o "get" apos) [.Tuple es x1 kpos] [] cpos) (tDGet1 td (tTup tA)) (mGetT1 mo mk) := by
  refine ⟨pe_dget1 (by have := C.hu; omega) ho.pe (pe_tup hk.pe) m, ⟨fun r H h s σ Q hR sR p => ho.rf.run r H h s σ _ hR sR (p.seq fun x h1 r1 H1 v s1 hR1 v1 p1 => ?_)⟩⟩
  split at p1
  · rename_i hd
    obtain ⟨a, rfl, id⟩ := isD_of hR1 v1 hd
    refine ⟨a, rfl, id, hk.rf.run r1 H1 h1 s σ _ hR1 (sR.mono s1) (p1.seq fun ks h2 r2 H2 vs s2 hR2 v2 p2 => ?_)⟩
    unfold tGet at p2
    split at p2
    · rename_i w ew
      refine ⟨len1000 (by rw [← v2.len]; exact tLook_len ew), fun q hq => ?_⟩
      have st := (lay_tup (xs := ks) (vs := vs) hR2 hq).2
      have hR3 := (lay_tup (xs := ks) (vs := vs) hR2 hq).1
      obtain ⟨n, ad, d, e', qs, rfl, eo, ea, e0, hl, hv, kq, rfl, g, q'⟩ := tLook_of ok hR3 ((v1.mono s2).mono st) (v2.mono st) ew upd_same
      cases e0
      rcases q' with ⟨rfl, _, e3⟩ | ⟨x', w', rfl, _, e3, v3⟩
      · rw [e3] at g
        exact ⟨_, g, (p2.shift st).here hR3 .non⟩
      · rw [e3] at g
        exact ⟨_, g, (p2.shift st).here hR3 v3⟩
    · exact False.elim p2
  · exact False.elim p1
theorem me_getT2 (ok : G.Ok) (C : XC G E X k) {x1} (ho : ME G E X o td mo) (hk : MA G E X es tA mk) (hf : ME G E X f tx mz) (m : M2 X o "get" apos (.Tuple es x1 kpos) f cpos := by exact ⟨rfl, rfl, rfl, rfl⟩) :
    ME G E X (.Call (.Attribute o "get" apos) [.Tuple es x1 kpos, f] [] cpos) (tDGet2 td (tTup tA) tx) (mGetT2 mo mk mz) := by
  refine ⟨pe_dget2 (by have := C.hu; omega) ho.pe (pe_tup hk.pe) hf.pe m, ⟨fun r H h s σ Q hR sR p => ho.rf.run r H h s σ _ hR sR (p.seq fun x h1 r1 H1 v s1 hR1 v1 p1 => ?_)⟩⟩
  split at p1
  · rename_i hd
    obtain ⟨a, rfl, id⟩ := isD_of hR1 v1 hd
    refine ⟨a, rfl, id, hk.rf.run r1 H1 h1 s σ _ hR1 (sR.mono s1) (p1.seq fun ks h2 r2 H2 vs s2 hR2 v2 p2 => ?_)⟩
    split at p2
    · rename_i hlen
      refine ⟨len1000 (by rw [← v2.len]; exact hlen), fun q hq => ?_⟩
      have st := (lay_tup (xs := ks) (vs := vs) hR2 hq).2
      have hR2' := (lay_tup (xs := ks) (vs := vs) hR2 hq).1
      refine hf.rf.run r2 _ h2 s σ _ hR2' (((sR.mono s1).mono s2).mono st) ((p2.shift st).seq fun z h3 r3 H3 u s3 hR3 v3 p3 => ?_)
      have tq : H3 q = some (.tup vs) := s3.tpl _ _ upd_same
      unfold tGet at p3
      split at p3
      · rename_i w ew
        obtain ⟨n, ad, d, e', qs, rfl, eo, ea, e0, hl, hv, kq, rfl, g, q'⟩ := tLook_of ok hR3 (((v1.mono s2).mono st).mono s3) ((v2.mono st).mono s3) ew tq
        cases e0
        rcases q' with ⟨rfl, _, e3⟩ | ⟨x', w', rfl, _, e3, v4⟩
        · rw [e3] at g
          exact ⟨_, g, p3.here hR3 v3⟩
        · rw [e3] at g
          exact ⟨_, g, p3.here hR3 v4⟩
      · exact False.elim p3
    · exact False.elim p2
  · exact False.elim p1
theorem ms_subT (ok : G.Ok) (C : XC G E X k) {x1} (ho : ME G E X o td mo) (hk : MA G E X es tA mk) (hv : ME G E X e tx me) (hs : swapsWith e (some (.Subscript o (.Tuple es x1 kpos) pos')) pos.line X.env = pure false := by rfl) :
    MS G E X (.Assign [.Subscript o (.Tuple es x1 kpos) pos'] e pos) (sDPut td (tTup tA) tx) (sSubT mo mk me) := by
  refine ⟨ps_dput (by have := C.hu; omega) ho.pe (pe_tup hk.pe) hv.pe hs, ⟨fun r H h s σ D hR sR p => ?_⟩⟩
  refine hv.rf.run r H h s σ _ hR sR (p.seqS fun v h1 r1 H1 vv s1 hR1 v1 p1 => ?_)
  refine ho.rf.run r1 H1 h1 s σ _ hR1 (sR.mono s1) (p1.seqS fun x h2 r2 H2 vo s2 hR2 v2 p2 => ?_)
  refine hk.rf.run r2 H2 h2 s σ _ hR2 ((sR.mono s1).mono s2) (p2.seqS fun ks h3 r3 H3 vs s3 hR3 v3 p3 => ?_)
  unfold tSet at p3
  split at p3
  · rename_i n
    split at p3
    · rename_i d eo
      split at p3
      · rename_i hc
        have hk' := hc.1
        simp only [keysOk, Bool.and_eq_true, decide_eq_true_eq] at hk'
        refine ⟨len1000 (by rw [← v3.len]; exact hk'.2), fun q hq => ?_⟩
        have st := (lay_tup (xs := ks) (vs := vs) hR3 hq).2
        have hR4 := (lay_tup (xs := ks) (vs := vs) hR3 hq).1
        have vo' := (v2.mono s3).mono st
        have vv' := ((v1.mono s2).mono s3).mono st
        cases vo' with
        | @ref _ ad ea =>
          cases hR4.ob _ _ _ eo ea with
          | @dcT _ e0 _ hl hdv =>
            obtain ⟨qs, kq, rfl⟩ := KRs.of (v3.mono st) hk'.1
            refine ⟨_, _, rfl, DPut.t hl upd_same (lt_line (by rw [← hdv.len]; exact hc.2)), ?_⟩
            have st2 : Stp G.K r3 (upd H3 q (.tup (qs.map kV))) r3 (upd (upd H3 q (.tup (qs.map kV))) ad (.dT (putK e0 qs vv))) := Stp.upd fun o e => by rw [hl] at e; cases e; trivial
            exact p3 _ _ _ (st.trans st2) (hR4.write eo rfl ea (fun o e => by rw [hl] at e; cases e; trivial) (.dcT upd_same ((hdv.put ok kq vv').mono st2)) rfl) (((((sR.mono s1).mono s2).mono s3).mono st).mono st2)
      · exact False.elim p3
    · exact False.elim p3
  · exact False.elim p3
/-- d.pop((..)), the key there -/
def rPopT1 : V → List V → Hp → VK → Prop := fun x xs H Q => ∃ (a : Addr) (kvs : List (List Key × V)) (ks : List Key) (b : Addr) (v : V), x = .ref a ∧ xs = [.ref b] ∧ H a = some (.dT kvs) ∧ H b = some (.tup (ks.map kV)) ∧ valV kvs ks = some v ∧ Q v (upd H a (.dT (dropK kvs ks)))
theorem mt_popT1 (hu : X.A.units + 1 < cLine) : MtR X "dict.pop" rPopT1 := by
  rintro pins s σ H x xs v us Q I rx rxs ⟨ad, kvs, ks, b, w, rfl, rfl, hA, hB, hw, wish⟩
  cases rx
  obtain ⟨ub, rfl, rb⟩ : ∃ ub, us = [ub] ∧ RelV (.ref b) ub := by
    cases rxs with
    | cons p q => cases q; exact ⟨_, rfl, p⟩
  cases rb
  obtain ⟨lz, lo, zs, rel, dd⟩ := dt_of I.hok hA
  have lz' : zs.length ≤ sizeLine := by rw [← Paired.length rel]; exact lz
  have rk := rel.val ks
  rw [hw] at rk
  obtain ⟨pz, ez, rz⟩ : ∃ pz, atKey zs ks = some pz ∧ RelV w pz.2 := by
    cases q : atKey zs ks with
    | none => rw [q] at rk; exact False.elim rk
    | some pz => rw [q] at rk; exact ⟨pz, rfl, rk⟩
  refine PySem.call_pop_heap (knd := tupleKind (mixKind X.prog X.w)) (.inl rfl) (PySem.F.args_dict_pop_2 _ _) (tupleKind_room_in1 hu) (key_of I.hok hB) lo dd ez (fun h' dd' sb => ?_) lz'
  obtain ⟨ob, es, ep, g1, g2, g3, g4, _, g5⟩ := dd'
  have J : Inv X pins σ (upd H ad (.dT (dropK kvs ks))) { s with heap := h', toks := s.toks + (tupleKind (mixKind X.prog X.w)).draws ks } :=
    d_write I (by rw [hA]; exact True.intro) sb ⟨ob, g1⟩ ⟨Nat.le_trans (dropK_le kvs ks) lz, lo, _, (KT_drop ks rel).keeps (fun c ys ec => (by rw [upd_ne (ne_of ec hA (fun z => nomatch z))]; exact ec)), ob, es, ep, g1, g2, g3, g4, g5⟩
  exact ⟨w, _, J, rz, wish⟩
theorem tyD_of (hR : HR G r H h) {x : Val} {v : V} (q : VR G r H x v) (e : isD x h = true) : tyV G.K "dict" v H := by
  cases q with
  | ref ea =>
    simp only [isD] at e
    split at e
    · rename_i d eo
      cases hR.ob _ _ _ eo ea with
      | dct hl hv => exact .inr (.inr (.inl ⟨rfl, .inl ⟨_, hl⟩⟩))
    · rename_i d eo
      cases hR.ob _ _ _ eo ea with
      | dcT hl hv => exact .inr (.inr (.inl ⟨rfl, .inr ⟨_, hl⟩⟩))
    · cases e
  | _ => simp [isD] at e
theorem me_popT1 (ok : G.Ok) (C : XC G E X k) {x1} (ho : ME G E X o td mo) (hk : MA G E X es tA mk) (hbase : attributeBase o "pop" X.env (eval o X.env) = eval o X.env := by rfl)
    (hfew : ((backTo cpos (starEach [.Tuple es x1 kpos] X.env)).all (fun x => !x.1) && (backToKw cpos (keywordEach [] X.env)).all (fun x => x.1.isSome)
      && decide (([.Tuple es x1 kpos] : List Expr).length + ([] : List Keyword).length + (if ([] : List Keyword).isEmpty then 0 else 1) < 30)) = true := by rfl)
    (hline : (apos.endLine == cpos.line) = true := by rfl) (hs : starEach [.Tuple es x1 kpos] X.env = (false, eval (.Tuple es x1 kpos) X.env) :: starEach [] X.env := by rfl) (hplain : (backTo cpos (starEach [] X.env)).any (·.1) = false := by rfl) :
    ME G E X (.Call (.Attribute o "pop" apos) [.Tuple es x1 kpos] [] cpos) (tBM X.K "dict" rPopT1 td (tCons (tTup tA) tNil)) (mPopT1 mo mk) := by
  refine ⟨pe_bm PySem.F.plainAttrs_dict PySem.F.slot_dict_pop PySem.F.type_dict_pop (mt_popT1 (by have := C.hu; omega)) ho.pe (pa_cons (pe_tup hk.pe) pa_nil hs) hbase hfew hline hs hplain, ⟨fun r H h s σ Q hR sR p => ho.rf.run r H h s σ _ hR sR (p.seq fun x h1 r1 H1 v s1 hR1 v1 p1 => ?_)⟩⟩
  split at p1
  · rename_i hd
    refine ⟨by rw [C.K]; exact tyD_of hR1 v1 hd, hk.rf.run r1 H1 h1 s σ _ hR1 (sR.mono s1) (p1.seq fun ks h2 r2 H2 vs s2 hR2 v2 p2 => ?_)⟩
    unfold tPop1 at p2
    split at p2
    · rename_i w ew
      refine ⟨len1000 (by rw [← v2.len]; exact tLook_len ew), fun q hq => ?_⟩
      have st := (lay_tup (xs := ks) (vs := vs) hR2 hq).2
      have hR3 := (lay_tup (xs := ks) (vs := vs) hR2 hq).1
      obtain ⟨n, ad, d, e', qs, rfl, eo, ea, rfl, hl, hv, kq, rfl, g, q'⟩ := tLook_of ok hR3 ((v1.mono s2).mono st) (v2.mono st) ew upd_same
      rcases q' with ⟨e1, _⟩ | ⟨x', w', e1, _, e3, v3⟩
      · cases e1
      · cases e1
        refine ⟨ad, e', qs, q, w', rfl, rfl, hl, upd_same, e3, ?_⟩
        have p3 := p2.shift st
        simp only [tDrop, eo] at p3
        exact set_dcT hR3 eo ea hl (hv.drop ok kq) v3 p3
    · exact False.elim p2
  · exact False.elim p1
theorem me_popT2 (ok : G.Ok) (C : XC G E X k) {x1} (ho : ME G E X o td mo) (hk : MA G E X es tA mk) (hf : ME G E X f tx mz) (hbase : attributeBase o "pop" X.env (eval o X.env) = eval o X.env := by rfl)
    (hfew : ((backTo cpos (starEach [.Tuple es x1 kpos, f] X.env)).all (fun x => !x.1) && (backToKw cpos (keywordEach [] X.env)).all (fun x => x.1.isSome)
      && decide (([.Tuple es x1 kpos, f] : List Expr).length + ([] : List Keyword).length + (if ([] : List Keyword).isEmpty then 0 else 1) < 30)) = true := by rfl)
    (hline : (apos.endLine == cpos.line) = true := by rfl) (hs : starEach [.Tuple es x1 kpos, f] X.env = (false, eval (.Tuple es x1 kpos) X.env) :: starEach [f] X.env := by rfl) (hs2 : starEach [f] X.env = (false, eval f X.env) :: starEach [] X.env := by rfl) (hplain : (backTo cpos (starEach [f] X.env)).any (·.1) = false := by rfl) :
    ME G E X (.Call (.Attribute o "pop" apos) [.Tuple es x1 kpos, f] [] cpos) (tBM X.K "dict" rPopT td (tCons (tTup tA) (tCons tx tNil))) (mPopT2 mo mk mz) := by
  refine ⟨pe_bm PySem.F.plainAttrs_dict PySem.F.slot_dict_pop PySem.F.type_dict_pop (mt_popT (by have := C.hu; omega)) ho.pe (pa_cons (pe_tup hk.pe) (pa_cons hf.pe pa_nil hs2) hs) hbase hfew hline hs hplain, ⟨fun r H h s σ Q hR sR p => ho.rf.run r H h s σ _ hR sR (p.seq fun x h1 r1 H1 v s1 hR1 v1 p1 => ?_)⟩⟩
  split at p1
  · rename_i hd
    refine ⟨by rw [C.K]; exact tyD_of hR1 v1 hd, hk.rf.run r1 H1 h1 s σ _ hR1 (sR.mono s1) (p1.seq fun ks h2 r2 H2 vs s2 hR2 v2 p2 => ?_)⟩
    split at p2
    · rename_i hlen
      refine ⟨len1000 (by rw [← v2.len]; exact hlen), fun q hq => ?_⟩
      have st := (lay_tup (xs := ks) (vs := vs) hR2 hq).2
      have hR2' := (lay_tup (xs := ks) (vs := vs) hR2 hq).1
      refine hf.rf.run r2 _ h2 s σ _ hR2' (((sR.mono s1).mono s2).mono st) ((p2.shift st).seq fun z h3 r3 H3 u s3 hR3 v3 p3 => ?_)
      have tq : H3 q = some (.tup vs) := s3.tpl _ _ upd_same
      unfold tPop2 at p3
      split at p3
      · rename_i w ew
        obtain ⟨n, ad, d, e', qs, rfl, eo, ea, rfl, hl, hv, kq, rfl, g, q'⟩ := tLook_of ok hR3 (((v1.mono s2).mono st).mono s3) ((v2.mono st).mono s3) ew tq
        rcases q' with ⟨e1, _⟩ | ⟨x', w', e1, _, e3, v4⟩
        · cases e1
        · cases e1
          refine ⟨ad, e', qs, q, u, rfl, rfl, hl, tq, (fun v'' e'' => ?_), (fun e'' => by rw [e3] at e''; cases e'')⟩
          rw [e3] at e''
          cases e''
          simp only [tDrop, eo] at p3
          exact set_dcT hR3 eo ea hl (hv.drop ok kq) v4 p3
      · rename_i ew
        obtain ⟨n, ad, d, e', qs, rfl, eo, ea, rfl, hl, hv, kq, rfl, g, q'⟩ := tLook_of ok hR3 (((v1.mono s2).mono st).mono s3) ((v2.mono st).mono s3) ew tq
        rcases q' with ⟨_, _, e3⟩ | ⟨x', w', e1, _, e3, v4⟩
        · exact ⟨ad, e', qs, q, u, rfl, rfl, hl, tq, (fun v'' e'' => by rw [e3] at e''; cases e''), (fun _ => p3.here hR3 v3)⟩
        · cases e1
      · exact False.elim p3
    · exact False.elim p2
  · exact False.elim p1
end

/-! ### list.remove of ints -/
def fixI (i : Int) : List Int → Option Nat
  | [] => none
  | z :: zs => if z = i then some 0 else (fixI i zs).map (· + 1)
theorem fixI_ok {i : Int} : ∀ {zs : List Int} {j : Nat}, fixI i zs = some j → zs[j]? = some i ∧ ∀ m : Nat, m < j → zs[m]? ≠ some i
  | [], j, e => by cases e
  | z :: zs, j, e => by
    rw [fixI] at e
    split at e
    · rename_i c
      cases e
      subst c
      exact ⟨rfl, fun m hm => by omega⟩
    · rename_i c
      obtain ⟨j', e', rfl⟩ := Option.map_eq_some_iff.mp e
      obtain ⟨h1, h2⟩ := fixI_ok e'
      refine ⟨by simpa using h1, fun m hm => ?_⟩
      cases m with
      | zero => simpa using c
      | succ m => simpa using h2 m (by omega)
def bRemove (x : Val) (xs : List Val) (h : Heap) : Res Val := match x, xs with
  | .ref a, [.int i] => match h[a]? with
    | some (.lst ys) => match optAll asInt ys with
      | some zs => match fixI i zs with
        | some j => .ok .non (h.set a (.lst (ys.eraseIdx j)))
        | none => .stuck
      | none => .stuck
    | _ => .stuck
  | _, _ => .stuck
theorem rm_remove : RfM G E rRemI bRemove := by
  refine ⟨fun r H h x v xs vs Q hR vx vv p => ?_⟩
  unfold bRemove at p
  split at p
  · cases vx with
    | ref ea => cases vv with
      | cons q1 q2 =>
        cases q2
        cases q1
        split at p
        · rename_i ys eo
          split at p
          · rename_i zs ez
            split at p
            · rename_i j ej
              cases hR.ob _ _ _ eo ea with
              | lst hl hv =>
                have ev := all_int hv ez
                subst ev
                obtain ⟨h1, h2⟩ := fixI_ok ej
                refine ⟨_, zs, _, j, rfl, rfl, hl, h1, h2, ?_⟩
                have hv' := hv.eraseIdx j
                rw [erase_mapI] at hv'
                exact set_lst hR eo ea hl hv' .non p
            · exact False.elim p
          · exact False.elim p
        · exact False.elim p
  · exact False.elim p
end PyM

set_option Elab.async false
set_option linter.all false
set_option maxRecDepth 100000
set_option autoImplicit false
/-! code that is never reached; loops over dicts -/
namespace PyM
open PySem L2
section
variable {G : Cfg} {E : XK} {X : Cx} {e : Expr} {es : List Expr} {st : Stmt} {sts : List Stmt}
def mDead (_ : En) (_ : Heap) : Res Val := .stuck
def aDead (_ : En) (_ : Heap) : Res (List Val) := .stuck
def tDead (_ : En) (_ : Heap) : Res Bool := .stuck
def sDead (_ : En) (_ : Heap) : RS := .stuck
theorem me_dead : ME G E X e (fun _ _ _ => False) mDead := ⟨⟨fun _ _ _ _ _ _ q => q.elim⟩, ⟨fun _ _ _ _ _ _ _ _ p => p⟩⟩
theorem ma_dead : MA G E X es (fun _ _ _ => False) aDead := ⟨⟨fun _ _ _ _ _ _ _ q => q.elim⟩, ⟨fun _ _ _ _ _ _ _ _ p => p⟩⟩
theorem mt_dead : MT G E X e (fun _ _ _ => False) tDead := ⟨⟨fun _ _ _ _ _ _ q => q.elim⟩, ⟨fun _ _ _ _ _ _ _ _ p => p⟩⟩
theorem ms_dead : MS G E X st (fun _ _ _ => False) sDead := ⟨⟨fun _ _ _ _ _ _ q => q.elim⟩, ⟨fun _ _ _ _ _ _ _ _ p => p⟩⟩
end

/-! ### for k in d -/
section
variable {X : Cx} {tg e : Expr} {td : TE}
/-- the dict is locked behind the reckoning of it -/
def iKeysL (X : Cx) (td : TE) : TI := fun σ H R => td σ H fun x H1 => ∃ d, x = .ref d ∧
  ((∃ kvs, H1 d = some (.dK kvs) ∧ ∀ od, (∀ o' u', X.H_0 d ≠ some (.frz o' u')) → R (Itk d od kvs) (upd H1 d (.frz od (.dK kvs)))) ∨
   (∃ kvs, H1 d = some (.dT kvs) ∧ ∀ od, (∀ o' u', X.H_0 d ≠ some (.frz o' u')) → R (Itkt d od kvs) (upd H1 d (.frz od (.dT kvs)))))
theorem pi_keysL (he : PE X e td) : PI X tg e (iKeysL X td) := by
  refine ⟨fun pins s σ H R I h => ?_⟩
  refine thn (he.run pins s σ H _ I h) fun u s1 ⟨x, H1, I1, rx, d, ex, q⟩ => ?_
  subst ex
  obtain rfl : u = Value.ref d := rx
  rcases q with ⟨kvs, hd, q⟩ | ⟨kvs, hd, q⟩
  · obtain ⟨od, I2⟩ := I1.lock hd trivial
    have nf := I1.nofrz hd trivial
    obtain ⟨hs, hgd, hx, es, ep, vs, hdt, hsz, kv, hm⟩ := I2.frzK upd_same
    refine iter_keys hs hgd hx hdt (pi_one (tk := s1.toks) I2 _ (turn_keys _ hdt) ⟨_, Heap.get?_push_size _ rfl, rfl, ?_⟩ (q od nf))
    rw [hsz] <;> rfl
  · obtain ⟨od, I2⟩ := I1.lock hd trivial
    have nf := I1.nofrz hd trivial
    obtain ⟨hs, hgd, hx, es, ep, hdt, hsz, ent⟩ := I2.frzT upd_same
    refine iter_keys hs hgd hx hdt (pi_one (tk := s1.toks) I2 _ (turn_keysT _ hdt) ⟨_, Heap.get?_push_size _ rfl, rfl, ?_⟩ (q od nf))
    rw [hsz] <;> rfl
/-- what is wanted behind the unlocking -/
def unV (X : Cx) (Q : VK) : VK := fun v H' => ∃ d od u, H' d = some (.frz od u) ∧ (∀ o' u', X.H_0 d ≠ some (.frz o' u')) ∧ Q v (upd H' d u)
def unS (X : Cx) (Q : St → Hp → Prop) : St → Hp → Prop := fun σ H' => ∃ d od u, H' d = some (.frz od u) ∧ (∀ o' u', X.H_0 d ≠ some (.frz o' u')) ∧ Q σ (upd H' d u)
def unD (X : Cx) (D : Ends) : Ends := ⟨unS X D.nx, unV X D.rt, unS X D.bk, unS X D.ct⟩
theorem ps_unlock {st : Stmt} {t : TS} (h : PS X st t) : PS X st (fun D σ H => t (unD X D) σ H) := by
  refine ⟨fun pins s σ H D I hw => ?_⟩
  refine thn (h.run pins s σ H _ I hw) fun f s1 q => ?_
  cases f with
  | next => obtain ⟨σ', H', I2, d, od, u, e, n, q⟩ := q; exact ⟨σ', _, I2.unlock e n, q⟩
  | brk => obtain ⟨σ', H', I2, d, od, u, e, n, q⟩ := q; exact ⟨σ', _, I2.unlock e n, q⟩
  | cont => obtain ⟨σ', H', I2, d, od, u, e, n, q⟩ := q; exact ⟨σ', _, I2.unlock e n, q⟩
  | ret v => obtain ⟨x, σ', H', I2, r, d, od, u, e, n, q⟩ := q; exact ⟨x, σ', _, I2.unlock e n, r, q⟩
theorem pe_unlock {t : TE} (h : PE X e t) : PE X e (fun σ H Q => t σ H (unV X Q)) := by
  refine ⟨fun pins s σ H Q I hw => ?_⟩
  refine thn (h.run pins s σ H _ I hw) fun v s1 ⟨x, H1, I2, r, d, od, u, e2, n, q⟩ => ?_
  exact ⟨x, _, I2.unlock e2 n, r, q⟩
end
def unlH (n : Nat) (h : Heap) : Option Heap := match h[n]? with
  | some (.fdc d) => some (h.set n (.dct d))
  | some (.fdT d) => some (h.set n (.dcT d))
  | _ => none
def unlS (n : Nat) : RS → RS
  | .nx s h => match unlH n h with
    | some h' => .nx s h'
    | none => .stuck
  | .rt v h => match unlH n h with
    | some h' => .rt v h'
    | none => .stuck
  | _ => .stuck
/-- the keys, and the heap with the dict locked -/
def lockD (n : Nat) (h : Heap) : Option (List Val × Heap) := match h[n]? with
  | some (.dct d) => some (d.map (·.1), h.set n (.fdc d))
  | some (.dcT d) => some (d.map (·.1), h.set n (.fdT d))
  | _ => none
def sForD (me : En → Heap → Res Val) (tg : Val → En → Option En) (body : En → Heap → RS) (s : En) (h : Heap) : RS := (me s h).thenS fun x h1 => match x with
  | .ref n => match lockD n h1 with
    | some (ks, h2) => unlS n (forM_ (fun _ => true) tg body ks s h2)
    | none => .stuck
  | _ => .stuck
section
variable {G : Cfg} {E : XK} {X : Cx} {k : Nat} {e tg iter : Expr} {te td : TE} {me : En → Heap → Res Val} {pos : Pos} {g : TG} {mg : Val → En → Option En} {sts : List Stmt} {t : TS} {m : En → Heap → RS} {r : List Addr} {H : Hp} {h : Heap}
/-- a loop's reading behind its iterator -/
theorem for_core {S : Src} {J : It} {r1 : List Addr} {H1 : Hp} {h1 : Heap} {s : En} {σ : L2.St} {D : Ends} (hg : RfG G g mg) (hb : RfS G E t m) (hR1 : HR G r1 H1 h1) (sR : SR G r1 H1 s σ) (J1 : ItOk G r1 H1 J S) (p1 : PostS G r1 H1 E (forM_ S.chk mg m S.items s h1) D) :
    ∃ W : Nat → Nat → L2.St → Hp → Prop, (∃ m, W 0 m σ H1) ∧ ∀ i m σ H, W i m σ H →
  (J.stop i H ∧ D.nx σ H) ∨ (J.go i H ∧ ∃ N : L2.St → Hp → Prop, (∀ σ' H', N σ' H' → ∃ m', m' < m ∧ W (i + 1) m' σ' H') ∧ ∀ x H', J.yld i H x H' → g x σ H' fun σ2 H2 => t { D with nx := N, ct := N, bk := D.nx } σ2 H2) := by
  refine ⟨fun i mm σ' H' => ∃ r' h' s', Stp G.K r1 H1 r' H' ∧ HR G r' H' h' ∧ SR G r' H' s' σ' ∧ mm = S.items.length - i ∧ i ≤ S.items.length ∧ PostS G r' H' E (forM_ S.chk mg m (S.items.drop i) s' h') D, ⟨_, r1, h1, s, Stp.refl, hR1, sR, rfl, Nat.zero_le _, p1⟩, ?_⟩
  rintro i mm σ' H' ⟨r', h', s', st, hR', sR', rfl, hle, p'⟩
  cases hd : S.items.drop i with
  | nil =>
    have hi : i = S.items.length := by
      have := List.drop_eq_nil_iff.mp hd
      omega
    rw [hd] at p'
    unfold forM_ at p'
    split at p'
    · rename_i hc
      subst hi
      exact .inl ⟨J1.stop r' H' h' st hR' hc, p'.here hR' sR'⟩
    · exact False.elim p'
  | cons x rest =>
    have hlt : i < S.items.length := by
      refine Decidable.byContradiction fun q => ?_
      rw [List.drop_eq_nil_of_le (by omega)] at hd
      cases hd
    have hx : S.items[i]? = some x := by
      have := congrArg (fun l => l[0]?) hd
      simpa using this
    have hr : S.items.drop (i + 1) = rest := by
      rw [← List.drop_drop (i := 1) (j := i), hd]
      rfl
    rw [hd] at p'
    unfold forM_ at p'
    split at p'
    · rename_i hc
      obtain ⟨hgo, hy⟩ := J1.go r' H' h' i x st hR' hc hx
      refine .inr ⟨hgo, fun σ2 H2 => ∃ r2 h2 s2, Stp G.K r1 H1 r2 H2 ∧ HR G r2 H2 h2 ∧ SR G r2 H2 s2 σ2 ∧ PostS G r2 H2 E (forM_ S.chk mg m rest s2 h2) D, ?_, ?_⟩
      · rintro σ2 H2 ⟨r2, h2, s2, q1, q2, q3, q4⟩
        exact ⟨_, by omega, r2, h2, s2, q1, q2, q3, rfl, by omega, by rw [hr]; exact q4⟩
      · intro v H3 hyl
        obtain ⟨r3, st3, hR3, vR⟩ := hy v H3 hyl
        cases e1 : mg x s' with
        | none => rw [e1] at p'; exact False.elim p'
        | some s1' =>
          rw [e1] at p'
          refine hg.run r3 H3 s' σ' x v _ (sR'.mono st3) vR ⟨s1', e1, fun σ1 sR1 => ?_⟩
          refine hb.run r3 H3 h' s1' σ1 _ hR3 sR1 ?_
          simp only at p'
          cases e2 : m s1' h' with
          | nx s2 h2 =>
            rw [e2] at p'
            exact fun r4 H4 t4 st4 hR4 sR4 => ⟨r4, h2, s2, st.trans (st3.trans st4), hR4, sR4, p'.shift (st3.trans st4)⟩
          | ct s2 h2 =>
            rw [e2] at p'
            exact fun r4 H4 t4 st4 hR4 sR4 => ⟨r4, h2, s2, st.trans (st3.trans st4), hR4, sR4, p'.shift (st3.trans st4)⟩
          | bk s2 h2 =>
            rw [e2] at p'
            exact fun r4 H4 t4 st4 hR4 sR4 => p' r4 H4 t4 (st3.trans st4) hR4 sR4
          | rt v2 h2 =>
            rw [e2] at p'
            exact fun r4 H4 t4 st4 hR4 sR4 => p' r4 H4 t4 (st3.trans st4) hR4 sR4
          | raised c2 h2 =>
            rw [e2] at p'
            exact fun r4 H4 t4 st4 hR4 sR4 => p' r4 H4 t4 (st3.trans st4) hR4 sR4
          | stuck =>
            rw [e2] at p'
            exact p'
    · exact False.elim p'
theorem HR.lock {r : List Addr} {H : Hp} {h : Heap} (R : HR G r H h) {n : Nat} {ks : List Val} {h2 : Heap} (e : lockD n h = some (ks, h2)) {a : Addr} (ea : r[n]? = some a) :
    (∃ d f, h[n]? = some (.dct d) ∧ H a = some (.dK f) ∧ DR G r H d f ∧ ks = d.map (·.1) ∧ ∀ od, Stp G.K r H r (upd H a (.frz od (.dK f))) ∧ HR G r (upd H a (.frz od (.dK f))) h2) ∨
    (∃ d f, h[n]? = some (.dcT d) ∧ H a = some (.dT f) ∧ DTR G r H d f ∧ ks = d.map (·.1) ∧ ∀ od, Stp G.K r H r (upd H a (.frz od (.dT f))) ∧ HR G r (upd H a (.frz od (.dT f))) h2) := by
  unfold lockD at e
  split at e
  · rename_i d eo
    cases e
    cases R.ob _ _ _ eo ea with
    | @dct _ f _ hl hv =>
      refine .inl ⟨d, f, eo, hl, hv, rfl, fun od => ?_⟩
      have hn : ∀ o, H a = some o → NotT o := fun o e => by rw [hl] at e; cases e; trivial
      have st : Stp G.K r H r (upd H a (.frz od (.dK f))) := Stp.upd hn
      exact ⟨st, R.write eo rfl ea hn (.fdc upd_same (hv.mono st)) rfl⟩
  · rename_i d eo
    cases e
    cases R.ob _ _ _ eo ea with
    | @dcT _ f _ hl hv =>
      refine .inr ⟨d, f, eo, hl, hv, rfl, fun od => ?_⟩
      have hn : ∀ o, H a = some o → NotT o := fun o e => by rw [hl] at e; cases e; trivial
      have st : Stp G.K r H r (upd H a (.frz od (.dT f))) := Stp.upd hn
      exact ⟨st, R.write eo rfl ea hn (.fdT upd_same (hv.mono st)) rfl⟩
  · cases e
/-- where a thing that is no tuple and not locked is written, whatever has been done to it -/
theorem Stp.unl {K : PySem.W.Frag} {r : List Addr} {H : Hp} {a : Addr} {v : HO} {r0 : List Addr} {H0 : Hp} {u : HO} (h0 : H0 a = some u) (hu : NotT u) (st : Stp K r0 H0 r H) : Stp K r0 H0 r (L2.upd H a v) := by
  have ne : ∀ b w, H0 b = some w → ¬ NotT w → b ≠ a := fun b w e hn z => by subst z; rw [h0] at e; cases e; exact hn hu
  refine ⟨st.pre, fun b xs q => ?_, fun b o x q => ?_, fun b xs q => ?_⟩
  · by_cases hb : b = a
    · subst hb
      rcases q with (z | ⟨o, z⟩) | z
      · exact absurd rfl (ne b _ z (fun z => z))
      · exact absurd rfl (ne b _ z (fun z => z))
      · exact .inr z
    · rcases st.tup b xs q with (z | ⟨o, z⟩) | z
      · exact .inl (.inl (by rw [upd_ne hb]; exact z))
      · exact .inl (.inr ⟨o, by rw [upd_ne hb]; exact z⟩)
      · exact .inr z
  · rw [upd_ne (ne b _ q (fun z => z))]; exact st.frl b o x q
  · rw [upd_ne (ne b _ q (fun z => z))]; exact st.tpl b xs q
theorem Stw.unl {K : PySem.W.Frag} {r : List Addr} {H : Hp} {a : Addr} {o : PySem.Obj} {u v : HO} (h : H a = some (.frz o u)) (hu : ∀ xs, u ≠ .tup xs) (hl : ∀ xs, u ≠ .lst xs) : Stw K r H r (upd H a v) := by
  refine ⟨fun _ _ e => e, fun b xs q => ?_, fun b o' x q => ?_, fun b xs z => by rw [upd_ne (fun e => by subst e; rw [h] at z; cases z)]; exact z⟩
  · rcases q with (z | ⟨o', z⟩) | z
    · exact .inl (.inl (by rw [upd_ne (fun e => by subst e; rw [h] at z; cases z)]; exact z))
    · exact .inl (.inr ⟨o', by rw [upd_ne (fun e => by subst e; rw [h] at z; cases z; exact hu _ rfl)]; exact z⟩)
    · exact .inr z
  · rw [upd_ne (fun e => by subst e; rw [h] at q; cases q; exact hl _ rfl)]; exact q
theorem HR.writew {r : List Addr} {H : Hp} {h : Heap} (R : HR G r H h) {n : Nat} {a : Addr} {u : HO} {o o0 : Obj} (e0 : h[n]? = some o0) (f0 : isFls o0 = false) (e : r[n]? = some a) (st : Stw G.K r H r (upd H a u)) (ho : OR G r (upd H a u) o a) (f : isFls o = false) : HR G r (upd H a u) (h.set n o) := by
  have hl : n < h.length := (List.getElem?_eq_some_iff.mp e0).1
  have at_ : ∀ (i : Nat) (x : Obj), (h.set n o)[i]? = some x → isFls x = false → ∃ y, h[i]? = some y ∧ isFls y = false := fun i x e1 f1 => by
    by_cases hm : i = n
    · subst hm
      exact ⟨o0, e0, f0⟩
    · rw [List.getElem?_set_ne (Ne.symm hm)] at e1
      exact ⟨x, e1, f1⟩
  refine ⟨by simp [R.len], fun i j b x y e1 e2 e3 e4 f1 f2 => ?_, fun m o' b e1 e2 => ?_, tabs_upd R.tb ((R.ob n o0 a e0 e).plain f0)⟩
  · obtain ⟨x', e1', f1'⟩ := at_ i x e1 f1
    obtain ⟨y', e2', f2'⟩ := at_ j y e2 f2
    exact R.nd i j b x' y' e1' e2' e3 e4 f1' f2'
  · by_cases hm : m = n
    · subst hm
      rw [e] at e2
      cases e2
      rw [List.getElem?_set_self hl] at e1
      cases e1
      exact ho
    · rw [List.getElem?_set_ne (Ne.symm hm)] at e1
      refine (R.ob m o' b e1 e2).monow st fun f' v q => ?_
      have hb : b ≠ a := fun q => by
        subst q
        exact hm (R.nd m n b o' o0 e1 e0 e2 e f' f0)
      rw [upd_ne hb]
      exact q
theorem HR.unl {r : List Addr} {H : Hp} {h h3 : Heap} (R : HR G r H h) {n : Nat} {a : Addr} (e : unlH n h = some h3) (ea : r[n]? = some a) : ∃ o u, H a = some (.frz o u) ∧ Stw G.K r H r (upd H a u) ∧ HR G r (upd H a u) h3 := by
  unfold unlH at e
  split at e
  · rename_i d eo
    cases e
    cases R.ob _ _ _ eo ea with
    | @fdc _ f o _ hl hv =>
      have st : Stw G.K r H r (upd H a (.dK f)) := Stw.unl hl (fun _ z => nomatch z) (fun _ z => nomatch z)
      exact ⟨o, _, hl, st, R.writew eo rfl ea st (.dct upd_same (hv.monow st)) rfl⟩
  · rename_i d eo
    cases e
    cases R.ob _ _ _ eo ea with
    | @fdT _ f o _ hl hv =>
      have st : Stw G.K r H r (upd H a (.dT f)) := Stw.unl hl (fun _ z => nomatch z) (fun _ z => nomatch z)
      exact ⟨o, _, hl, st, R.writew eo rfl ea st (.dcT upd_same (hv.monow st)) rfl⟩
  · cases e
/-- the walk of a locked dict -/
theorem dk_get {r : List Addr} {H : Hp} {d : List (Val × Val)} {f : List (Key × V)} (v : DR G r H d f) : ∀ {i : Nat} {x : Val}, (d.map (·.1))[i]? = some x → ∃ q w, f[i]? = some (q, w) ∧ KR G x q := by
  induction v with
  | nil => intro i x e; simp at e
  | cons hk hv _ ih =>
    intro i x e
    cases i with
    | zero => simp at e; subst e; exact ⟨_, _, rfl, hk⟩
    | succ i => simpa using ih (i := i) (x := x) (by simpa using e)
theorem dt_get {r : List Addr} {H : Hp} {d : List (Val × Val)} {f : List (List Key × V)} (v : DTR G r H d f) : ∀ {i : Nat} {x : Val}, (d.map (·.1))[i]? = some x → ∃ ks qs w, x = .tup ks ∧ f[i]? = some (qs, w) ∧ KRs G ks qs := by
  induction v with
  | nil => intro i x e; simp at e
  | cons hk hv _ ih =>
    intro i x e
    cases i with
    | zero => simp at e; subst e; exact ⟨_, _, _, rfl, rfl, hk⟩
    | succ i => simpa using ih (i := i) (x := x) (by simpa using e)
theorem KRs.vr {r : List Addr} {H : Hp} : ∀ {ks : List Val} {qs : List Key}, KRs G ks qs → VRs G r H ks (qs.map kV)
  | _, _, .nil => .nil
  | _, _, .cons a b => .cons a.vr (KRs.vr b)
theorem itk_ok {r1 : List Addr} {H1 : Hp} {a : Addr} {od : PySem.Obj} {d : List (Val × Val)} {f : List (Key × V)} (ha : H1 a = some (.frz od (.dK f))) (hv : DR G r1 H1 d f) : ItOk G r1 H1 (Itk a od f) ⟨d.map (·.1), fun _ => true⟩ := by
  refine ⟨fun r2 H2 h2 hp _ _ => ⟨hp.frl _ _ _ ha, by simp [hv.len]⟩, fun r2 H2 h2 i x hp hR2 _ hx => ?_⟩
  obtain ⟨q, w, ef, kq⟩ := dk_get hv hx
  refine ⟨⟨hp.frl _ _ _ ha, (List.getElem?_eq_some_iff.mp ef).1⟩, fun v' H3 hy => ?_⟩
  obtain ⟨rfl, k, v, e2, rfl⟩ := hy
  rw [ef] at e2
  cases e2
  exact ⟨r2, Stp.refl, hR2, kq.vr⟩
theorem itkt_ok {r1 : List Addr} {H1 : Hp} {a : Addr} {od : PySem.Obj} {d : List (Val × Val)} {f : List (List Key × V)} (ha : H1 a = some (.frz od (.dT f))) (hv : DTR G r1 H1 d f) : ItOk G r1 H1 (Itkt a od f) ⟨d.map (·.1), fun _ => true⟩ := by
  refine ⟨fun r2 H2 h2 hp _ _ => ⟨hp.frl _ _ _ ha, by simp [hv.len]⟩, fun r2 H2 h2 i x hp hR2 _ hx => ?_⟩
  obtain ⟨ks, q, w, rfl, ef, kq⟩ := dt_get hv hx
  refine ⟨⟨hp.frl _ _ _ ha, (List.getElem?_eq_some_iff.mp ef).1⟩, fun v' H3 hy => ?_⟩
  obtain ⟨rfl, k, v, p, e2, rfl, hp3⟩ := hy
  rw [ef] at e2
  cases e2
  exact ⟨r2, Stp.refl, hR2, .tup (TQ.of hp3) kq.vr⟩
theorem post_unl {r1 : List Addr} {H1 : Hp} {a : Addr} {n : Nat} {u w : HO} {x : RS} {D : Ends} (ea : r1[n]? = some a) (h0 : H1 a = some u) (hu : NotT u) (st : Stp G.K r1 H1 r1 (upd H1 a w)) (nf : ∀ o' u', X.H_0 a ≠ some (.frz o' u')) (p : PostS G r1 H1 E (unlS n x) D) : PostS G r1 (upd H1 a w) E x (unD X D) := by
  cases x with
  | nx s' h' =>
    intro r' H' t st' hR' sR'
    simp only [unlS] at p
    split at p
    · rename_i h3 e3
      obtain ⟨o, u', hl, sw, hR3⟩ := hR'.unl e3 (st'.pre _ _ ea)
      exact ⟨a, o, u', hl, nf, p r' _ t (Stp.unl h0 hu (st.trans st')) hR3 (sR'.monow sw)⟩
    · exact p.elim
  | rt v' h' =>
    intro r' H' t st' hR' vR'
    simp only [unlS] at p
    split at p
    · rename_i h3 e3
      obtain ⟨o, u', hl, sw, hR3⟩ := hR'.unl e3 (st'.pre _ _ ea)
      exact ⟨a, o, u', hl, nf, p r' _ t (Stp.unl h0 hu (st.trans st')) hR3 (vR'.monow sw)⟩
    · exact p.elim
  | bk _ _ => exact p.elim
  | ct _ _ => exact p.elim
  | raised _ _ => exact p.elim
  | stuck => exact p.elim
theorem ms_forD (C : XC G E X k) (he : ME G E X iter td me) (hg : MG G X tg g mg) (hb : MSs G E X sts t m) (hs : ∀ x, foldedSetIterable iter X.env x = pure x := by intro _; rfl) :
    MS G E X (.For tg iter sts [] pos) (fun D σ H => tFor (iKeysL X td) g t (unD X D) σ H) (sForD me mg m) := by
  refine ⟨ps_unlock (ps_for C.own C.calm (pi_keysL he.pe) hg.pe hb.pe hs), ⟨fun r H h s σ D hR sR p => ?_⟩⟩
  refine he.rf.run r H h s σ _ hR sR (p.seqS fun x h1 r1 H1 v s1 hR1 v1 p1 => ?_)
  cases v1 with
  | @ref n a ea =>
    simp only at p1
    split at p1
    · rename_i ks h2 e2
      refine ⟨a, rfl, ?_⟩
      rcases hR1.lock e2 ea with ⟨d, f, eo, hl, hv, rfl, z⟩ | ⟨d, f, eo, hl, hv, rfl, z⟩
      · refine .inl ⟨f, hl, fun od nf => ?_⟩
        obtain ⟨st, hR2⟩ := z od
        exact for_core (S := ⟨d.map (·.1), fun _ => true⟩) hg.rf hb.rf hR2 ((sR.mono s1).mono st) (itk_ok upd_same (hv.mono st)) (post_unl ea hl trivial st nf p1)
      · refine .inr ⟨f, hl, fun od nf => ?_⟩
        obtain ⟨st, hR2⟩ := z od
        exact for_core (S := ⟨d.map (·.1), fun _ => true⟩) hg.rf hb.rf hR2 ((sR.mono s1).mono st) (itkt_ok upd_same (hv.mono st)) (post_unl ea hl trivial st nf p1)
    · exact False.elim p1
  | _ => exact False.elim p1
end
end PyM

set_option Elab.async false
set_option linter.all false
set_option maxRecDepth 100000
set_option autoImplicit false
/-! sum of a tuple -/
namespace PyM
open PySem PySem.Spec PyProof.Rows L2
section
variable {prog : Program} {w : World} {A : Around} {E : Value → Shared → Prop} {s : Shared} {l : Addr} {its : List Value} {ns : List Int} {Q : Value → Shared → Prop} {xs : Array (Int × Tok)}
theorem sum_intTupG (hh : A.handled = none) (hT : s.heap.IsTuple l (intItems xs))
    (h : ∀ h' tk t', (∀ b o, s.heap.get? b = some o → h'.get? b = some o) → Q (.int (preSum (numAt xs) xs.size) t') { s with heap := h', toks := tk }) :
    wpAny (model prog w) A (call (.builtin "sum") [.ref l]) Q E s := by
  have hlt : l < s.heap.objs.size := by obtain ⟨_, e, _⟩ := hT; exact Heap.lt_size e
  refine call_sum_walkG (wpAny_pyIter_tuple hT ?_)
  refine ⟨_, [_, l], [_], _, _, _, numAt xs, rfl, Walks.tuple (A := A.in1) hh _ l (Nat.ne_of_lt hlt) (intItems xs), ⟨⟨_, Heap.get?_push_size _ rfl, rfl, rfl⟩, hT.push _⟩, fun b hb => ?_, (fun _ _ => intItems_at), fun h' tk t' hk => ?_⟩
  · show b < (s.heap.push _).objs.size
    rw [Heap.size_push]
    rcases List.mem_cons.mp hb with rfl | hb
    · exact Nat.lt_succ_self _
    · rcases List.mem_cons.mp hb with rfl | hb
      · exact Nat.lt_succ_of_lt hlt
      · cases hb
  · have := h h' tk t' (fun b o e => hk b o (fun hm => by
      rcases List.mem_cons.mp hm with e1 | hm
      · exact absurd (e1 ▸ Heap.lt_size e) (Nat.lt_irrefl _)
      · cases hm) (Heap.get?_push_of_some _ e))
    simpa [intItems] using this
theorem sum_rawT (hh : A.handled = none) (hl : s.heap.IsTuple l its.toArray) (hi : IntsAre its ns)
    (h : ∀ h' tk t', (∀ b o, s.heap.get? b = some o → h'.get? b = some o) → Q (.int ns.sum t') { s with heap := h', toks := tk }) : wpAny (model prog w) A (call (.builtin "sum") [.ref l]) Q E s := by
  obtain ⟨xs, e⟩ := hi.allInts.items
  have hn : numsOf (intItems xs).toList = ns := by rw [← e]; exact hi.numsOf
  rw [nums_intItems] at hn
  rw [e] at hl
  refine sum_intTupG hh hl fun h' tk t' hk => ?_
  have := h h' tk t' hk
  rw [preSum_eq, List.take_of_length_le (by simp), hn]; exact this
end
section
variable {X : Cx} {G : Cfg} {E : XK} {k : Nat}
def rSumT (K : PySem.W.Frag) : List V → Hp → VK → Prop := fun vs H Q => ∃ (a : Addr) (ns : List Int), vs = [V.ref a] ∧ SqT K H a (ns.map V.int) ∧ Q (.int ns.sum) H
theorem cr_sumT (hc : X.calm = true) : CallR X (.builtin "sum") (rSumT X.K) := by
  intro pins s σ H vs us Q I r h
  obtain ⟨a, ns, rfl, hs, q⟩ := h
  obtain ⟨its, rv, hl, _⟩ := I.tuple hs
  rw [Vals.ref1 r]
  exact sum_rawT (I.ok.hd hc) hl rv.ints fun h' tk t' hk => ⟨.int _, H, I.kept hk, ⟨_, rfl⟩, q⟩
def bSumT (xs : List Val) (h : Heap) : Res Val := match xs with
  | [.tup ys] => match optAll asInt ys with
    | some ns => .ok (.int ns.sum) h
    | none => .stuck
  | _ => .stuck
theorem cl_sumT (C : XC G E X k) : CallR X (.builtin "sum") (rSumT G.K) := by have := cr_sumT (X := X) C.calm; rwa [C.K] at this
theorem rl_sumT : RfL G E (rSumT G.K) bSumT := by
  refine ⟨fun r H h xs vs Q hR v p => ?_⟩
  unfold bSumT at p
  split at p
  · cases v with
    | cons q1 q2 =>
      cases q2
      split at p
      · rename_i bs e2
        cases q1 with
        | tup hs hv =>
          rw [all_int hv e2] at hs
          exact ⟨_, bs, rfl, hs.1, p.here hR (.int _)⟩
      · exact False.elim p
  · exact False.elim p
variable {a : Expr} {ta : TE} {ma : En → Heap → Res Val} {pos : Pos}
/-- what is true, as mt_tr has it -/
theorem tru_of {r1 : List Addr} {H1 : Hp} {h1 : Heap} {x : Val} {v : V} {b : Bool} (hR1 : HR G r1 H1 h1) (v1 : VR G r1 H1 x v) (e : truth x h1 = some b) : TruV G.K v H1 b := by
  cases v1 with
  | non => cases e; rfl
  | bl b => cases e; rfl
  | int i => cases e; rfl
  | str q => cases e
  | tup hs hv =>
    cases e
    cases hv with
    | nil => exact .inr (.inl ⟨_, hs.1, rfl⟩)
    | cons _ _ => exact .inr (.inl ⟨_, hs.1, rfl⟩)
  | @ref n a ea =>
    simp only [truth] at e
    split at e
    · rename_i xs eo
      cases e
      cases hR1.ob _ _ _ eo ea with
      | lst hl hv => cases hv <;> exact .inl ⟨_, SqL.of hl, rfl⟩
    · rename_i xs eo
      cases e
      cases hR1.ob _ _ _ eo ea with
      | fls hl hv => cases hv <;> exact .inl ⟨_, hl.sq, rfl⟩
    · rename_i xs eo
      cases e
      cases hR1.ob _ _ _ eo ea with
      | dct hl hv => cases hv <;> exact .inr (.inr ⟨_, hl, rfl⟩)
    · cases e
/-- not x, by truth -/
def mNoT (ma : En → Heap → Res Val) (s : En) (h : Heap) : Res Val := (ma s h).bind fun x h1 => match truth x h1 with
  | some b => .ok (.bl (!b)) h1
  | none => .stuck
theorem me_notT (C : XC G E X k) (h : ME G E X a ta ma) : ME G E X (.UnaryOp .Not a pos) (tNotT G.K ta) (mNoT ma) := by
  refine ⟨?_, ⟨fun r H h' s σ Q hR sR p => h.rf.run r H h' s σ _ hR sR (p.seq fun x h1' r1 H1 v s1 hR1 v1 p1 => ?_)⟩⟩
  · have := pe_notT (pos := pos) h.pe
    rwa [C.K] at this
  · split at p1
    · rename_i b e
      exact ⟨b, tru_of hR1 v1 e, p1.here hR1 (.bl _)⟩
    · exact False.elim p1
end
end PyM

set_option Elab.async false
set_option linter.all false
set_option autoImplicit false
/-! how a model program is reckoned: weakest wishes, as equations for simp -/
namespace PyM

structure K4 where
  nx : En → Heap → Prop
  rt : Val → Heap → Prop
  bk : En → Heap → Prop := fun _ _ => False
  ct : En → Heap → Prop := fun _ _ => False
  ex : Nat → Heap → Prop := fun _ _ => False
def wR {α : Type} (x : Res α) (E : Nat → Heap → Prop) (Q : α → Heap → Prop) : Prop := match x with
  | .ok a h => Q a h
  | .raised c h => E c h
  | .stuck => False
def wS (x : RS) (D : K4) : Prop := match x with
  | .nx s h => D.nx s h
  | .rt v h => D.rt v h
  | .bk s h => D.bk s h
  | .ct s h => D.ct s h
  | .raised c h => D.ex c h
  | .stuck => False
section
variable {α β : Type} {E : Nat → Heap → Prop} {Q : α → Heap → Prop} {D : K4} {s : En} {h : Heap}
@[simp ↓] theorem wR_ok {a : α} : wR (.ok a h) E Q = Q a h := rfl
@[simp ↓] theorem wR_raised {c : Nat} : wR (.raised c h : Res α) E Q = E c h := rfl
@[simp ↓] theorem wR_stuck : wR (.stuck : Res α) E Q = False := rfl
@[simp ↓] theorem wS_nx : wS (.nx s h) D = D.nx s h := rfl
@[simp ↓] theorem wS_rt {v : Val} : wS (.rt v h) D = D.rt v h := rfl
@[simp ↓] theorem wS_bk : wS (.bk s h) D = D.bk s h := rfl
@[simp ↓] theorem wS_ct : wS (.ct s h) D = D.ct s h := rfl
@[simp ↓] theorem wS_raised {c : Nat} : wS (.raised c h) D = D.ex c h := rfl
@[simp ↓] theorem wS_stuck : wS .stuck D = False := rfl
@[simp ↓] theorem wR_bind {x : Res β} {k : β → Heap → Res α} : wR (x.bind k) E Q = wR x E fun b h1 => wR (k b h1) E Q := by cases x <;> rfl
@[simp ↓] theorem wS_thenS {x : Res β} {k : β → Heap → RS} : wS (x.thenS k) D = wR x D.ex fun b h1 => wS (k b h1) D := by cases x <;> rfl
@[simp ↓] theorem wS_bind {x : RS} {k : En → Heap → RS} : wS (x.bind k) D = wS x { D with nx := fun s h => wS (k s h) D } := by cases x <;> rfl
@[simp ↓] theorem wR_ite {c : Prop} [Decidable c] {a b : Res α} : wR (if c then a else b) E Q = if c then wR a E Q else wR b E Q := by split <;> rfl
@[simp ↓] theorem wS_ite {c : Prop} [Decidable c] {a b : RS} : wS (if c then a else b) D = if c then wS a D else wS b D := by split <;> rfl
theorem wR_mono {x : Res α} {Q' : α → Heap → Prop} (w : wR x E Q) (f : ∀ a h, Q a h → Q' a h) : wR x E Q' := by cases x <;> first | exact f _ _ w | exact w
theorem wR_eq {x : Res α} {a : α} (e : x = .ok a h) (q : Q a h) : wR x E Q := by rw [e]; exact q
end
section
variable {E : Nat → Heap → Prop} {Q : Val → Heap → Prop} {QA : List Val → Heap → Prop} {QB : Bool → Heap → Prop} {D : K4} {s : En} {h : Heap} {ma mb mc mo mi me : En → Heap → Res Val} {mA : En → Heap → Res (List Val)} {tu tv : En → Heap → Res Bool} {a b : En → Heap → RS}
@[simp ↓] theorem wR_mK {x : Val} : wR (mK x s h) E Q = Q x h := rfl
@[simp ↓] theorem wR_mV0 {x : Val} : wR (mV 0 (some x :: s) h) E Q = Q x h := rfl
@[simp ↓] theorem wR_mV1 {i : Nat} {o : Option Val} : wR (mV (i + 1) (o :: s) h) E Q = wR (mV i s h) E Q := rfl
@[simp ↓] theorem wR_mB {f : Val → Val → Heap → Res Val} : wR (mB f ma mb s h) E Q = wR (ma s h) E fun x h1 => wR (mb s h1) E fun y h2 => wR (f x y h2) E Q := by unfold mB; simp
@[simp ↓] theorem wR_mU {f : Val → Heap → Res Val} : wR (mU f ma s h) E Q = wR (ma s h) E fun x h1 => wR (f x h1) E Q := by unfold mU; simp
@[simp ↓] theorem wR_mL {f : List Val → Heap → Res Val} : wR (mL f mA s h) E Q = wR (mA s h) E fun x h1 => wR (f x h1) E Q := by unfold mL; simp
@[simp ↓] theorem wR_mNil : wR (mNil s h) E QA = QA [] h := rfl
@[simp ↓] theorem wR_mCons : wR (mCons ma mA s h) E QA = wR (ma s h) E fun x h1 => wR (mA s h1) E fun xs h2 => QA (x :: xs) h2 := by unfold mCons; simp
@[simp ↓] theorem wR_tB : wR (tB_ ma s h) E QB = wR (ma s h) E fun x h1 => (match x with | .bl c => QB c h1 | _ => False) := by
  unfold tB_; simp only [wR_bind]; congr; funext x h1; split <;> simp_all
@[simp ↓] theorem wR_tTr : wR (tTr ma s h) E QB = wR (ma s h) E fun x h1 => (match truth x h1 with | some c => QB c h1 | none => False) := by
  unfold tTr; simp only [wR_bind]; congr; funext x h1; split <;> simp_all
@[simp ↓] theorem wR_tTrue : wR (tTrue s h) E QB = QB true h := rfl
@[simp ↓] theorem wR_tNo : wR (tNo tu s h) E QB = wR (tu s h) E fun c h1 => QB (!c) h1 := by unfold tNo; simp
@[simp ↓] theorem wR_tAn : wR (tAn tu tv s h) E QB = wR (tu s h) E fun c h1 => if c = true then wR (tv s h1) E QB else QB false h1 := by unfold tAn; simp
@[simp ↓] theorem wR_tOr : wR (tOr_ tu tv s h) E QB = wR (tu s h) E fun c h1 => if c = true then QB true h1 else wR (tv s h1) E QB := by unfold tOr_; simp
@[simp ↓] theorem wR_mAn : wR (mAn ma mb s h) E Q = wR (ma s h) E fun x h1 => (match x with | .bl c => if c = true then wR (mb s h1) E Q else Q (.bl false) h1 | _ => False) := by
  unfold mAn; simp only [wR_bind]; congr; funext x h1; split <;> simp_all
@[simp ↓] theorem wR_mOr : wR (mOr_ ma mb s h) E Q = wR (ma s h) E fun x h1 => (match x with | .bl c => if c = true then Q (.bl true) h1 else wR (mb s h1) E Q | _ => False) := by
  unfold mOr_; simp only [wR_bind]; congr; funext x h1; split <;> simp_all
@[simp ↓] theorem wR_mNo : wR (mNo ma s h) E Q = wR (ma s h) E fun x h1 => (match x with | .bl c => Q (.bl (!c)) h1 | _ => False) := by
  unfold mNo; simp only [wR_bind]; congr; funext x h1; split <;> simp_all
@[simp ↓] theorem wR_mIf : wR (mIf tu ma mb s h) E Q = wR (tu s h) E fun c h1 => if c = true then wR (ma s h1) E Q else wR (mb s h1) E Q := by unfold mIf; simp
@[simp ↓] theorem wR_mCh {p q : Int → Int → Bool} : wR (mCh p q ma mb mc s h) E Q = wR (ma s h) E fun x h1 => wR (mb s h1) E fun y h2 => (match x, y with
    | .int i, .int j => if p i j = true then wR (mc s h2) E fun z h3 => (match z with | .int k => Q (.bl (q j k)) h3 | _ => False) else Q (.bl false) h2
    | _, _ => False) := by
  unfold mCh; simp only [wR_bind]; congr; funext x h1; congr; funext y h2; split
  · simp only [wR_ite, wR_bind, wR_ok]
    split
    · congr; funext z h3; split <;> simp_all
    · rfl
  · simp_all
@[simp ↓] theorem wR_mTup : wR (mTup mA s h) E Q = wR (mA s h) E fun xs h1 => xs.length ≤ lim ∧ Q (.tup xs) h1 := by unfold mTup; simp only [wR_bind]; congr; funext x h1; split <;> (simp_all <;> (intros; omega))
@[simp ↓] theorem wR_mLst : wR (mLst mA s h) E Q = wR (mA s h) E fun xs h1 => xs.length ≤ lim ∧ Q (.ref h1.length) (h1 ++ [.lst xs]) := by unfold mLst; simp only [wR_bind]; congr; funext x h1; split <;> (simp_all <;> (intros; omega))
@[simp ↓] theorem wR_mDct : wR (mDct s h) E Q = Q (.ref h.length) (h ++ [.dct []]) := rfl
@[simp ↓] theorem wR_mCall {m : List Val → Heap → Res Val} {ds : List Val} : wR (mCall m ds mA s h) E Q = wR (mA s h) E fun xs h1 => wR (m (xs ++ ds) h1) E Q := by unfold mCall; simp
@[simp ↓] theorem wR_mMeth {c : Nat} {m : List Val → Heap → Res Val} {ds : List Val} : wR (mMeth c m ds mo mA s h) E Q = wR (mo s h) E fun x h1 => isIns c x h1 = true ∧ wR (mA s h1) E fun xs h2 => wR (m (x :: (xs ++ ds)) h2) E Q := by
  unfold mMeth; simp only [wR_bind]; congr; funext x h1; split <;> simp_all
@[simp ↓] theorem wR_mMake {c : Nat} {m : List Val → Heap → Res Val} {ds : List Val} : wR (mMake c m ds mA s h) E Q = wR (mA s h) E fun xs h1 => wR (m (.ref h1.length :: (xs ++ ds)) (h1 ++ [.ins c []])) E fun x h2 => (match x with | .non => Q (.ref h1.length) h2 | _ => False) := by
  unfold mMake; simp only [wR_bind]; congr; funext x h1; congr; funext y h2; split <;> simp_all
@[simp ↓] theorem wR_mSl {p q : En → Heap → Res (Option Int)} : wR (mSl ma p q s h) E Q = wR (ma s h) E fun x h1 => wR (p s h1) E fun lo h2 => wR (q s h2) E fun hi h3 => wR (oSl x lo hi h3) E Q := by unfold mSl; simp
@[simp ↓] theorem wR_pNo {QO : Option Int → Heap → Prop} : wR (pNo s h) E QO = QO none h := rfl
@[simp ↓] theorem wR_pSo {QO : Option Int → Heap → Prop} : wR (pSo ma s h) E QO = wR (ma s h) E fun x h1 => (match x with | .int i => QO (some i) h1 | _ => False) := by
  unfold pSo; simp only [wR_bind]; congr; funext x h1; split <;> simp_all
@[simp ↓] theorem wR_mIsi {T : Ty} : wR (mIsi T ma s h) E Q = wR (ma s h) E fun x h1 => (match isTy T (tyOf x h1) with | some c => Q (.bl c) h1 | none => False) := by
  unfold mIsi; simp only [wR_bind]; congr; funext x h1; split <;> simp_all
@[simp ↓] theorem wR_mBM {f : Val → List Val → Heap → Res Val} : wR (mBM f mo mA s h) E Q = wR (mo s h) E fun x h1 => (seqOf x h1).isSome = true ∧ wR (mA s h1) E fun xs h2 => wR (f x xs h2) E Q := by
  unfold mBM; simp only [wR_bind]; congr; funext x h1; split <;> simp_all
@[simp ↓] theorem wR_mBM0 {f : Val → List Val → Heap → Res Val} : wR (mBM0 f mo s h) E Q = wR (mo s h) E fun x h1 => (seqOf x h1).isSome = true ∧ wR (f x [] h1) E Q := by
  unfold mBM0; simp only [wR_bind]; congr; funext x h1; split <;> simp_all
@[simp ↓] theorem wS_sNx : wS (sNx s h) D = D.nx s h := rfl
@[simp ↓] theorem wS_sBk : wS (sBk s h) D = D.bk s h := rfl
@[simp ↓] theorem wS_sCt : wS (sCt s h) D = D.ct s h := rfl
@[simp ↓] theorem wS_sSeq : wS (sSeq a b s h) D = wS (a s h) { D with nx := fun s h => wS (b s h) D } := by unfold sSeq; simp
@[simp ↓] theorem wS_sDrop : wS (sDrop ma s h) D = wR (ma s h) D.ex fun _ h1 => D.nx s h1 := by unfold sDrop; simp
@[simp ↓] theorem wS_sRet : wS (sRet ma s h) D = wR (ma s h) D.ex fun x h1 => D.rt x h1 := by unfold sRet; simp
@[simp ↓] theorem wS_sRetN : wS (sRetN s h) D = D.rt .non h := rfl
@[simp ↓] theorem wS_sIf : wS (sIf tu a b s h) D = wR (tu s h) D.ex fun c h1 => if c = true then wS (a s h1) D else wS (b s h1) D := by unfold sIf; simp
@[simp ↓] theorem wS_sAsg {g : Val → En → Option En} : wS (sAsg g ma s h) D = wR (ma s h) D.ex fun x h1 => (match g x s with | some s1 => D.nx s1 h1 | none => False) := by
  unfold sAsg; simp only [wS_thenS]; congr; funext x h1; split <;> simp_all
@[simp ↓] theorem wS_sSub : wS (sSub mo mi me s h) D = wR (me s h) D.ex fun x h1 => wR (mo s h1) D.ex fun o h2 => wR (mi s h2) D.ex fun i h3 => wR (oSet o i x h3) D.ex fun _ h4 => D.nx s h4 := by unfold sSub; simp
@[simp ↓] theorem wS_sSubA {f : Val → Val → Heap → Res Val} : wS (sSubA f mo mi me s h) D = wR (mo s h) D.ex fun o h1 => wR (mi s h1) D.ex fun i h2 => wR (oIxM o i h2) D.ex fun x h3 => wR (me s h3) D.ex fun y h4 => wR (f x y h4) D.ex fun z h5 => wR (oSet o i z h5) D.ex fun _ h6 => D.nx s h6 := by unfold sSubA; simp
@[simp ↓] theorem wS_sFld {d f : Nat} : wS (sFld d f mo me s h) D = wR (me s h) D.ex fun x h1 => wR (mo s h1) D.ex fun o h2 => wR (oSetF d f o x h2) D.ex fun _ h3 => D.nx s h3 := by unfold sFld; simp
@[simp ↓] theorem wS_sFldA {d f : Nat} {g : Val → Val → Heap → Res Val} : wS (sFldA d f g mo me s h) D = wR (mo s h) D.ex fun o h1 => isIns d o h1 = true ∧ wR (getF f o h1) D.ex fun x h2 => wR (me s h2) D.ex fun y h3 => wR (g x y h3) D.ex fun z h4 => wR (oSetF d f o z h4) D.ex fun _ h5 => D.nx s h5 := by
  unfold sFldA; simp only [wS_thenS, wR_ite]; congr; funext x h1; split <;> simp_all
@[simp ↓] theorem wS_sAug {i : Nat} {g : Val → Val → Heap → Res Val} : wS (sAug i g me s h) D = (match s[i]? with | some (some x) => wR (me s h) D.ex fun y h1 => wR (g x y h1) D.ex fun z h2 => D.nx (s.set i (some z)) h2 | _ => False) := by
  unfold sAug; split <;> simp_all
@[simp ↓] theorem wS_sRaise {c : Nat} : wS (sRaise c s h) D = D.ex c h := rfl
@[simp ↓] theorem wS_sTry {c : Nat} : wS (sTry c a b s h) D = wS (a s h) { D with ex := fun c' h' => c' = c ∧ wS (b s h') D } := by
  unfold sTry; cases e : a s h <;> (simp <;> (split <;> simp_all))
@[simp ↓] theorem wS_sFor {mi : MI} {g : Val → En → Option En} : wS (sFor mi g a s h) D = wR (mi s h) D.ex fun S h1 => wS (forM_ S.chk g a S.items s h1) D := by unfold sFor; simp
@[simp ↓] theorem wR_iRng1 {QS : Src → Heap → Prop} : wR (iRng1 mA s h) E QS = wR (mA s h) E fun xs h1 => (match xs with | [.int j] => (-(2 ^ 62) ≤ j ∧ j < 2 ^ 62) ∧ QS ⟨rangeV 0 j.toNat, fun _ => true⟩ h1 | _ => False) := by
  unfold iRng1; simp only [wR_bind]; congr; funext x h1; split <;> (simp <;> (split <;> simp_all))
@[simp ↓] theorem wR_iRng2 {QS : Src → Heap → Prop} : wR (iRng2 mA s h) E QS = wR (mA s h) E fun xs h1 => (match xs with | [.int i, .int j] => (-(2 ^ 62) ≤ i ∧ i < 2 ^ 62 ∧ -(2 ^ 62) ≤ j ∧ j < 2 ^ 62) ∧ QS ⟨rangeV i (j - i).toNat, fun _ => true⟩ h1 | _ => False) := by
  unfold iRng2; simp only [wR_bind]; congr; funext x h1; split <;> (simp <;> (split <;> simp_all))
end
theorem ite_and' {c A : Prop} [Decidable c] : (if c then A else False) = (c ∧ A) := by
  by_cases h : c <;> simp [h]
/-! operations by values -/
section
variable {E : Nat → Heap → Prop} {Q : Val → Heap → Prop} {QU : Unit → Heap → Prop} {h : Heap} {a : Nat} {x y : Val} {xs ys : List Val} {i j : Int} {b c : Bool}
@[simp ↓] theorem wR_oI {g : Int → Int → Val} : wR (oI g (.int i) (.int j) h) E Q = Q (g i j) h := rfl
@[simp ↓] theorem wR_oIC {p : Int → Int → Bool} {g : Int → Int → Val} : wR (oIC p g (.int i) (.int j) h) E Q = (p i j = true ∧ Q (g i j) h) := by
  unfold oIC; simp only; split <;> simp_all
@[simp ↓] theorem wR_oAdd : wR (oAdd (.int i) (.int j) h) E Q = Q (.int (i + j)) h := rfl
@[simp ↓] theorem wR_oAddT : wR (oAdd (.tup xs) (.tup ys) h) E Q = (xs.length + ys.length ≤ lim ∧ Q (.tup (xs ++ ys)) h) := by
  unfold oAdd; simp only [wR_ite, wR_ok, wR_stuck, ite_and']
@[simp ↓] theorem wR_oMul : wR (oMul (.int i) (.int j) h) E Q = ((-(2 ^ 64) < j ∧ j < 2 ^ 64 ∨ -(2 ^ 64) < i ∧ i < 2 ^ 64) ∧ Q (.int (i * j)) h) := by
  unfold oMul; simp only [wR_ite, wR_ok, wR_stuck, ite_and']
@[simp ↓] theorem wR_oMulT : wR (oMul (.tup xs) (.int i) h) E Q = ((xs.length ≠ 0 ∧ 2 ≤ i ∧ i ≤ 1000 ∧ xs.length ≤ 1000) ∧ Q (.tup (repV i.toNat xs)) h) := by
  unfold oMul; simp only [wR_ite, wR_ok, wR_stuck, ite_and']
@[simp ↓] theorem wR_oMulL : wR (oMul (.ref a) (.int i) h) E Q = (match h[a]? with | some (.lst xs) => (i ≤ 100000 ∧ -100000 ≤ i ∧ xs.length * i.toNat ≤ lim) ∧ Q (.ref h.length) (h ++ [.lst (repV i.toNat xs)]) | _ => False) := by
  unfold oMul; simp only; split
  · simp only [wR_ite, wR_ok, wR_stuck, ite_and']
    all_goals simp_all
  · simp_all
@[simp ↓] theorem wR_oNeg : wR (oNeg (.int i) h) E Q = Q (.int (-i)) h := rfl
@[simp ↓] theorem wR_oIsN {neg : Bool} : wR (oIsN neg x h) E Q = Q (.bl (match x with | .non => !neg | _ => neg)) h := rfl
@[simp ↓] theorem wR_oEqI {neg : Bool} : wR (oEq neg (.int i) (.int j) h) E Q = Q (.bl (if neg then !(i == j) else i == j)) h := rfl
@[simp ↓] theorem wR_oEqB {neg : Bool} : wR (oEq neg (.bl b) (.bl c) h) E Q = Q (.bl (if neg then !(b == c) else b == c)) h := rfl
@[simp ↓] theorem wR_oEqS {neg : Bool} {m n : Nat} : wR (oEq neg (.str m) (.str n) h) E Q = Q (.bl (if neg then !(m == n) else m == n)) h := rfl
@[simp ↓] theorem wR_oIsB {neg : Bool} : wR (oIsB neg (.bl b) (.bl c) h) E Q = Q (.bl (if neg then !decide (b = c) else decide (b = c))) h := rfl
@[simp ↓] theorem wR_oIsBs {neg b : Bool} {i : Nat} : wR (oIsB neg (.str i) (.bl b) h) E Q = Q (.bl neg) h := rfl
@[simp ↓] theorem wR_oIxT : wR (oIx (.tup xs) (.int i) h) E Q = (match L2.atI xs i with | some v => Q v h | none => False) := by
  unfold oIx; simp only; split <;> simp_all
@[simp ↓] theorem wR_oIxL : wR (oIx (.ref a) (.int i) h) E Q = (match h[a]? with
    | some (.lst xs) => (match L2.atI xs i with | some v => Q v h | none => False)
    | some (.fls xs) => (match L2.atI xs i with | some v => Q v h | none => False)
    | some (.dct d) => (match lookV d (.int i) with | some v => Q v h | none => False)
    | some (.fdc d) => (match lookV d (.int i) with | some v => Q v h | none => False)
    | _ => False) := by
  unfold oIx; simp only [isKey]; split
  · split <;> simp_all
  · split <;> simp_all
  · simp only [if_true]
    split <;> simp_all
  · simp only [if_true]
    split <;> simp_all
  · simp_all
@[simp ↓] theorem wR_oIxM : wR (oIxM (.ref a) y h) E Q = wR (oIx (.ref a) y h) E Q := rfl
@[simp ↓] theorem wR_oSetI : wR (oSet (.ref a) (.int i) x h) E QU = (match h[a]? with
    | some (.lst xs) => (match L2.ixN xs.length i with | some j => QU () (h.set a (.lst (xs.set j x))) | none => False)
    | some (.dct d) => d.length < lim ∧ QU () (h.set a (.dct (putV d (.int i) x)))
    | _ => False) := by
  unfold oSet; simp only [isKey]; split
  · split <;> simp_all
  · simp only [wR_ite, wR_ok, wR_stuck, ite_and']
    all_goals simp_all
  · simp_all
@[simp ↓] theorem wR_getF {f : Nat} : wR (getF f (.ref a) h) E Q = (match h[a]? with | some (.ins _ fs) => (match lookF f fs with | some v => Q v h | none => False) | _ => False) := by
  unfold getF; simp only; split
  · split <;> simp_all
  · simp_all
@[simp ↓] theorem wR_oSetF {d f : Nat} : wR (oSetF d f (.ref a) x h) E QU = (match h[a]? with | some (.ins c fs) => (c = d ∧ fs.length < 1000) ∧ QU () (h.set a (.ins c (setF f x fs))) | _ => False) := by
  unfold oSetF; simp only; split
  · simp only [wR_ite, wR_ok, wR_stuck, ite_and']
    all_goals simp_all
  · simp_all
@[simp ↓] theorem wR_bInt : wR (bInt [.int i] h) E Q = Q (.int i) h := rfl
@[simp ↓] theorem wR_bIntB : wR (bInt [.bl b] h) E Q = Q (.int (if b then 1 else 0)) h := rfl
@[simp ↓] theorem wR_bAbs : wR (bAbs [.int i] h) E Q = Q (.int (if i < 0 then -i else i)) h := rfl
@[simp ↓] theorem wR_bLenT : wR (bLen [.tup xs] h) E Q = Q (.int xs.length) h := rfl
@[simp ↓] theorem wR_bLenL : wR (bLen [.ref a] h) E Q = (match h[a]? with | some (.lst xs) => Q (.int xs.length) h | some (.fls xs) => Q (.int xs.length) h | some (.dct d) => Q (.int d.length) h | _ => False) := by
  unfold bLen; simp only; split <;> simp_all
@[simp ↓] theorem wR_bListT : wR (bList [.tup xs] h) E Q = Q (.ref h.length) (h ++ [.lst xs]) := rfl
@[simp ↓] theorem wR_bListL : wR (bList [.ref a] h) E Q = (match h[a]? with | some (.lst xs) => Q (.ref h.length) (h ++ [.lst xs]) | some (.fls xs) => Q (.ref h.length) (h ++ [.lst xs]) | _ => False) := by
  unfold bList; simp only; split <;> simp_all
@[simp ↓] theorem wR_bTupleT : wR (bTuple [.tup xs] h) E Q = Q (.tup xs) h := rfl
@[simp ↓] theorem wR_bTupleL : wR (bTuple [.ref a] h) E Q = (match h[a]? with | some (.lst xs) => Q (.tup xs) h | some (.fls xs) => Q (.tup xs) h | _ => False) := by
  unfold bTuple; simp only; split <;> simp_all
@[simp ↓] theorem wR_bAppend : wR (bAppend (.ref a) [y] h) E Q = (match h[a]? with | some (.lst xs) => xs.length < lim ∧ Q .non (h.set a (.lst (xs ++ [y]))) | _ => False) := by
  unfold bAppend; simp only; split
  · simp only [wR_ite, wR_ok, wR_stuck, ite_and']
    all_goals simp_all
  · simp_all
end
theorem ixN_cast (n k : Nat) : L2.ixN n (k : Int) = if k < n then some k else none := by
  unfold L2.ixN
  rw [if_pos (by omega)]
  by_cases h : k < n
  · rw [if_pos (by omega), if_pos h]
    simp
  · rw [if_neg (by omega), if_neg h]
theorem atI_cast {α : Type} (xs : List α) (k : Nat) : L2.atI xs (k : Int) = xs[k]? := by
  unfold L2.atI
  rw [ixN_cast]
  split
  · rfl
  · rw [List.getElem?_eq_none (by omega)]
    rfl
theorem atI_nn {α : Type} {xs : List α} {i : Int} (h : 0 ≤ i) : L2.atI xs i = xs[i.toNat]? := by
  obtain ⟨k, rfl⟩ := Int.eq_ofNat_of_zero_le h
  exact atI_cast xs k
theorem ixN_nn {n : Nat} {i : Int} (h : 0 ≤ i) : L2.ixN n i = if i.toNat < n then some i.toNat else none := by
  obtain ⟨k, rfl⟩ := Int.eq_ofNat_of_zero_le h
  exact ixN_cast n k
@[simp] theorem atI_0 {α : Type} (xs : List α) : L2.atI xs 0 = xs[0]? := atI_cast xs 0
@[simp] theorem ixN_0 (n : Nat) : L2.ixN n 0 = if 0 < n then some 0 else none := ixN_cast n 0
@[simp] theorem atI_1 {α : Type} (xs : List α) : L2.atI xs 1 = xs[1]? := atI_cast xs 1
@[simp] theorem ixN_1 (n : Nat) : L2.ixN n 1 = if 1 < n then some 1 else none := ixN_cast n 1
@[simp] theorem atI_2 {α : Type} (xs : List α) : L2.atI xs 2 = xs[2]? := atI_cast xs 2
@[simp] theorem ixN_2 (n : Nat) : L2.ixN n 2 = if 2 < n then some 2 else none := ixN_cast n 2
@[simp] theorem atI_3 {α : Type} (xs : List α) : L2.atI xs 3 = xs[3]? := atI_cast xs 3
@[simp] theorem ixN_3 (n : Nat) : L2.ixN n 3 = if 3 < n then some 3 else none := ixN_cast n 3
@[simp] theorem atI_4 {α : Type} (xs : List α) : L2.atI xs 4 = xs[4]? := atI_cast xs 4
@[simp] theorem ixN_4 (n : Nat) : L2.ixN n 4 = if 4 < n then some 4 else none := ixN_cast n 4
@[simp] theorem atI_5 {α : Type} (xs : List α) : L2.atI xs 5 = xs[5]? := atI_cast xs 5
@[simp] theorem ixN_5 (n : Nat) : L2.ixN n 5 = if 5 < n then some 5 else none := ixN_cast n 5
@[simp] theorem atI_6 {α : Type} (xs : List α) : L2.atI xs 6 = xs[6]? := atI_cast xs 6
@[simp] theorem ixN_6 (n : Nat) : L2.ixN n 6 = if 6 < n then some 6 else none := ixN_cast n 6
@[simp] theorem atI_7 {α : Type} (xs : List α) : L2.atI xs 7 = xs[7]? := atI_cast xs 7
@[simp] theorem ixN_7 (n : Nat) : L2.ixN n 7 = if 7 < n then some 7 else none := ixN_cast n 7
@[simp] theorem atI_8 {α : Type} (xs : List α) : L2.atI xs 8 = xs[8]? := atI_cast xs 8
@[simp] theorem ixN_8 (n : Nat) : L2.ixN n 8 = if 8 < n then some 8 else none := ixN_cast n 8
@[simp] theorem atI_9 {α : Type} (xs : List α) : L2.atI xs 9 = xs[9]? := atI_cast xs 9
@[simp] theorem ixN_9 (n : Nat) : L2.ixN n 9 = if 9 < n then some 9 else none := ixN_cast n 9
/-- what stands at a place -/
theorem at_set {h : Heap} {p : Nat} {o o0 : Obj} (e : h[p]? = some o0) : (h.set p o)[p]? = some o := by
  rw [List.getElem?_set_self (List.getElem?_eq_some_iff.mp e).1]
theorem at_set_ne {h : Heap} {p q : Nat} {o : Obj} (e : p ≠ q) : (h.set p o)[q]? = h[q]? := List.getElem?_set_ne e
theorem at_push {h g : Heap} {p : Nat} {o0 : Obj} (e : h[p]? = some o0) : (h ++ g)[p]? = some o0 := by
  rw [List.getElem?_append_left (List.getElem?_eq_some_iff.mp e).1]
  exact e
/-- a body's run -/
theorem wR_runB {np nl : Nat} {mb : En → Heap → RS} {xs : List Val} {h : Heap} {E : Nat → Heap → Prop} {Q : Val → Heap → Prop} (hl : xs.length = np) :
    wR (runB np nl mb xs h) E Q = wS (mb (xs.map some ++ List.replicate (nl - np) none) h) { nx := fun _ h' => Q .non h', rt := Q, ex := E } := by
  unfold runB
  rw [if_pos hl]
  cases mb (xs.map some ++ List.replicate (nl - np) none) h <;> simp
/-- from the wish to the equation -/
theorem eq_of_wR {α : Type} {x : Res α} {a : α} {h : Heap} (w : wR x (fun _ _ => False) fun b h' => b = a ∧ h' = h) : x = .ok a h := by
  cases x with
  | ok b h' => obtain ⟨rfl, rfl⟩ := w; rfl
  | raised c h' => exact w.elim
  | stuck => exact w.elim
theorem ex_of_wR {α : Type} {x : Res α} {Q : α → Heap → Prop} (w : wR x (fun _ _ => False) Q) : ∃ a h, x = .ok a h ∧ Q a h := by
  cases x with
  | ok b h' => exact ⟨b, h', rfl, w⟩
  | raised c h' => exact w.elim
  | stuck => exact w.elim
/-- a loop by its invariant -/
theorem wS_forM {chk : Heap → Bool} {g : Val → En → Option En} {body : En → Heap → RS} {D : K4} (Inv : Nat → En → Heap → Prop) : ∀ (xs : List Val) (n : Nat) (s : En) (h : Heap), Inv n s h →
    (∀ i x s h, n ≤ i → xs[i - n]? = some x → Inv i s h → chk h = true ∧ ∃ s1, g x s = some s1 ∧ wS (body s1 h) { D with nx := Inv (i + 1), ct := Inv (i + 1), bk := D.nx }) →
    (∀ s h, Inv (n + xs.length) s h → chk h = true ∧ D.nx s h) → wS (forM_ chk g body xs s h) D
  | [], n, s, h, h0, _, hd => by
    unfold forM_
    obtain ⟨c, q⟩ := hd s h h0
    simp [c, q]
  | x :: xs, n, s, h, h0, hs, hd => by
    unfold forM_
    obtain ⟨c, s1, e, w⟩ := hs n x s h (Nat.le_refl _) (by simp) h0
    rw [if_pos c, e]
    have ih := fun s2 h2 q => wS_forM (D := D) Inv xs (n + 1) s2 h2 q (fun i x s h hi hx => hs i x s h (by omega) (by
      have : i - n = (i - (n + 1)) + 1 := by omega
      rw [this]
      simpa using hx)) (fun s h q => hd s h (by
        have : n + (x :: xs).length = n + 1 + xs.length := by simp; omega
        rw [this]
        exact q))
    simp only
    cases eb : body s1 h with
    | nx s2 h2 => rw [eb] at w; exact ih s2 h2 w
    | ct s2 h2 => rw [eb] at w; exact ih s2 h2 w
    | bk s2 h2 => rw [eb] at w; exact w
    | rt v h2 => rw [eb] at w; exact w
    | raised c h2 => rw [eb] at w; exact w
    | stuck => rw [eb] at w; exact w
end PyM
namespace PyM
theorem wRB {np nl : Nat} {mb : En → Heap → RS} {xs : List Val} {h : Heap} {E : Nat → Heap → Prop} {Q : Val → Heap → Prop} (hl : xs.length = np)
    (w : wS (mb (xs.map some ++ List.replicate (nl - np) none) h) { nx := fun _ h' => Q .non h', rt := Q, ex := E }) : wR (runB np nl mb xs h) E Q := by
  rw [wR_runB hl]
  exact w
end PyM
namespace PyM
theorem wS_forM_nil {chk : Heap → Bool} {g : Val → En → Option En} {body : En → Heap → RS} {D : K4} {s : En} {h : Heap} : wS (forM_ chk g body [] s h) D = (chk h = true ∧ D.nx s h) := by
  unfold forM_
  by_cases c : chk h = true <;> simp [c]
theorem wS_forM_cons {chk : Heap → Bool} {g : Val → En → Option En} {body : En → Heap → RS} {D : K4} {s : En} {h : Heap} {x : Val} {xs : List Val} :
    wS (forM_ chk g body (x :: xs) s h) D = (chk h = true ∧ match g x s with
      | some s1 => wS (body s1 h) { D with nx := fun s2 h2 => wS (forM_ chk g body xs s2 h2) D, ct := fun s2 h2 => wS (forM_ chk g body xs s2 h2) D, bk := D.nx }
      | none => False) := by
  rw [forM_]
  by_cases c : chk h = true
  · rw [if_pos c]
    cases e : g x s with
    | none => simp
    | some s1 =>
      simp only [c, true_and]
      cases body s1 h <;> rfl
  · simp [c]
theorem eq_nx {x : RS} {s : En} {h : Heap} (w : wS x { nx := fun s' h' => s' = s ∧ h' = h, rt := fun _ _ => False }) : x = .nx s h := by
  cases x with
  | nx a b => obtain ⟨rfl, rfl⟩ := w; rfl
  | _ => exact w.elim
theorem eq_rt {x : RS} {v : Val} {h : Heap} (w : wS x { nx := fun _ _ => False, rt := fun s' h' => s' = v ∧ h' = h }) : x = .rt v h := by
  cases x with
  | rt a b => obtain ⟨rfl, rfl⟩ := w; rfl
  | _ => exact w.elim
theorem wS_of {x y : RS} {D : K4} (e : x = y) (w : wS y D) : wS x D := by rw [e]; exact w
theorem set_set {h : Heap} {p : Nat} {a b : Obj} : (h.set p a).set p b = h.set p b := List.set_set ..
end PyM
namespace PyM
/-! ### comprehensions -/
theorem wR_lcM {chk : Heap → Bool} {tg : Val → En → Option En} {mt : En → Heap → Res Bool} {me : En → Heap → Res Val} {s0 : En} {n : Nat} {E : Nat → Heap → Prop} {QU : Unit → Heap → Prop} (Inv : Nat → List Val → Heap → Prop) : ∀ (xs : List Val) (k : Nat) (acc : List Val) (h : Heap), Inv k acc h →
    (∀ i x acc h, k ≤ i → xs[i - k]? = some x → Inv i acc h → chk h = true ∧ ∃ s2, tg x s0 = some s2 ∧ wR (mt s2 h) (fun _ _ => False) fun b h1 => if b = true then wR (me s2 h1) (fun _ _ => False) fun y h2 => h2[n]? = some (.lst acc) ∧ acc.length < lim ∧ Inv (i + 1) (acc ++ [y]) (h2.set n (.lst (acc ++ [y]))) else Inv (i + 1) acc h1) →
    (∀ acc h, Inv (k + xs.length) acc h → chk h = true ∧ QU () h) → wR (lcM chk tg mt me s0 n xs h) E QU
  | [], k, acc, h, h0, _, hd => by
    unfold lcM
    obtain ⟨c, q⟩ := hd acc h h0
    simp [c, q]
  | x :: xs, k, acc, h, h0, hs, hd => by
    rw [lcM]
    obtain ⟨c, s2, e, w⟩ := hs k x acc h (Nat.le_refl _) (by simp) h0
    have ih := fun acc h q => wR_lcM (E := E) (QU := QU) Inv xs (k + 1) acc h q (fun i x acc h hi hx => hs i x acc h (by omega) (by
      have : i - k = (i - (k + 1)) + 1 := by omega
      rw [this]
      simpa using hx)) (fun acc h q => hd acc h (by
        have : k + (x :: xs).length = k + 1 + xs.length := by simp; omega
        rw [this]
        exact q))
    rw [if_pos c, e]
    simp only
    cases em : mt s2 h with
    | ok b h1 =>
      rw [em] at w
      simp only [wR_ok] at w
      by_cases hb : b = true
      · subst hb
        rw [if_pos rfl] at w
        simp only [if_true]
        cases ee : me s2 h1 with
        | ok y h2 =>
          rw [ee] at w
          simp only [wR_ok] at w
          obtain ⟨w1, w2, w3⟩ := w
          simp only [w1, w2, if_true]
          exact ih _ _ w3
        | raised a b => rw [ee] at w; exact w.elim
        | stuck => rw [ee] at w; exact w.elim
      · rw [if_neg hb] at w
        simp only [if_neg hb]
        exact ih _ _ w
    | raised a b => rw [em] at w; exact w.elim
    | stuck => rw [em] at w; exact w.elim
@[simp ↓] theorem wR_mLc {mi : MI} {tg : Val → En → Option En} {mt : En → Heap → Res Bool} {me : En → Heap → Res Val} {vs : List Nat} {s : En} {h : Heap} {E : Nat → Heap → Prop} {Q : Val → Heap → Prop} :
    wR (mLc mi tg mt me vs s h) E Q = wR (mi s h) E fun S h1 => wR (lcM S.chk tg mt me (wipeE s vs) h1.length S.items (h1 ++ [.lst []])) E fun _ h2 => Q (.ref h1.length) h2 := by
  unfold mLc
  simp
theorem at_len {h : Heap} {o : Obj} : (h ++ [o])[h.length]? = some o := by simp
theorem set_len {h : Heap} {o o' : Obj} : (h ++ [o]).set h.length o' = h ++ [o'] := by simp
/-- .. where the items leave the heap as it is -/
theorem wR_lcPure {chk : Heap → Bool} {tg : Val → En → Option En} {mt : En → Heap → Res Bool} {me : En → Heap → Res Val} {s0 : En} {E : Nat → Heap → Prop} {QU : Unit → Heap → Prop} {h : Heap} (p : Val → Bool) (f : Val → Val) {xs : List Val} (hl : xs.length < lim)
    (hc : ∀ acc, chk (h ++ [.lst acc]) = true)
    (ht : ∀ x acc, x ∈ xs → ∃ s2, tg x s0 = some s2 ∧ wR (mt s2 (h ++ [.lst acc])) (fun _ _ => False) (fun b h1 => b = p x ∧ h1 = h ++ [.lst acc]) ∧ (p x = true → wR (me s2 (h ++ [.lst acc])) (fun _ _ => False) fun y h2 => y = f x ∧ h2 = h ++ [.lst acc]))
    (q : QU () (h ++ [.lst ((xs.filter p).map f)])) : wR (lcM chk tg mt me s0 h.length xs (h ++ [.lst []])) E QU := by
  refine wR_lcM (fun i acc h' => i ≤ xs.length ∧ acc = ((xs.take i).filter p).map f ∧ h' = h ++ [.lst acc]) xs 0 [] _ ⟨Nat.zero_le _, rfl, rfl⟩ ?_ ?_
  · rintro i x acc h' _ hx ⟨hi, ea, rfl⟩
    simp only [Nat.sub_zero] at hx
    have hlt : i < xs.length := (List.getElem?_eq_some_iff.mp hx).1
    obtain ⟨s2, e, w1, w2⟩ := ht x acc (List.mem_of_getElem? hx)
    refine ⟨hc acc, s2, e, wR_mono w1 ?_⟩
    rintro b h1 ⟨rfl, rfl⟩
    have tk : xs.take (i + 1) = xs.take i ++ [x] := by
      rw [List.take_add_one, hx]
      rfl
    have al : acc.length < lim := by
      rw [ea, List.length_map]
      have := List.length_filter_le p (xs.take i)
      have := List.length_take_le i xs
      omega
    by_cases hp : p x = true
    · rw [if_pos hp]
      refine wR_mono (w2 hp) ?_
      rintro y h2 ⟨rfl, rfl⟩
      refine ⟨at_len, al, hlt, ?_, set_len⟩
      rw [tk, List.filter_append, List.map_append, ← ea]
      simp [hp]
    · rw [if_neg hp]
      refine ⟨hlt, ?_, rfl⟩
      rw [tk, List.filter_append, List.map_append, ← ea]
      simp [hp]
  · rintro acc h' ⟨_, ea, rfl⟩
    refine ⟨hc _, ?_⟩
    rw [ea]
    simpa using q
@[simp ↓] theorem wR_iLst {m : En → Heap → Res Val} {s : En} {h : Heap} {E : Nat → Heap → Prop} {Q : Src → Heap → Prop} : wR (iLst m s h) E Q = wR (m s h) E fun x h1 => (match x with
    | .ref a => (match h1[a]? with | some (.lst xs) => Q ⟨xs, lstIs a xs⟩ h1 | some (.fls xs) => Q ⟨xs, lstIs a xs⟩ h1 | _ => False)
    | _ => False) := by
  unfold iLst
  simp only [wR_bind]
  congr; funext x h1
  split
  · split <;> simp_all
  · simp_all
theorem wR_iAlt {m n : MI} {s : En} {h : Heap} {E : Nat → Heap → Prop} {Q : Src → Heap → Prop} (w : wR (m s h) E Q ∨ (m s h = .stuck ∧ wR (n s h) E Q)) : wR (iAlt m n s h) E Q := by
  unfold iAlt
  rcases w with w | ⟨e, w⟩
  · cases e : m s h with
    | stuck => rw [e] at w; exact w.elim
    | ok a b => rw [e] at w; exact w
    | raised a b => rw [e] at w; exact w
  · rw [e]; exact w
/-- a walked name that holds a list -/
@[simp ↓] theorem wR_iAltV {i : Nat} {s : En} {h : Heap} {E : Nat → Heap → Prop} {Q : Src → Heap → Prop} : wR (iAlt (iLst (mV i)) (iTup_ (mV i)) s h) E Q = (match s[i]? with
    | some (some (.ref a)) => (match h[a]? with | some (.lst xs) => Q ⟨xs, lstIs a xs⟩ h | some (.fls xs) => Q ⟨xs, lstIs a xs⟩ h | _ => False)
    | some (some (.tup xs)) => Q ⟨xs, fun _ => true⟩ h
    | _ => False) := by
  unfold iAlt iLst iTup_ mV
  cases e : s[i]? with
  | none => simp [Res.bind]
  | some o => cases o with
    | none => simp [Res.bind]
    | some x => cases x with
      | ref a =>
        simp only [Res.bind]
        cases e2 : h[a]? with
        | none => simp
        | some o => cases o <;> simp
      | _ => simp [Res.bind]
theorem lstIs_at {a : Nat} {xs : List Val} {h : Heap} (e : h[a]? = some (.lst xs)) : lstIs a xs h = true := by simp [lstIs, e]
@[simp ↓] theorem wR_bAll {a : Nat} {h : Heap} {E : Nat → Heap → Prop} {Q : Val → Heap → Prop} : wR (bAll [.ref a] h) E Q = (match seqOf (.ref a) h with | some ys => (match optAll asBl ys with | some bs => Q (.bl (bs.all id)) h | none => False) | none => False) := by
  first | unfold bAll bSeq | unfold bAny bSeq | unfold bSum bSeq
  simp only
  split
  · split <;> simp_all
  · simp_all
@[simp ↓] theorem wR_bAny {a : Nat} {h : Heap} {E : Nat → Heap → Prop} {Q : Val → Heap → Prop} : wR (bAny [.ref a] h) E Q = (match seqOf (.ref a) h with | some ys => (match optAll asBl ys with | some bs => Q (.bl (bs.any id)) h | none => False) | none => False) := by
  first | unfold bAll bSeq | unfold bAny bSeq | unfold bSum bSeq
  simp only
  split
  · split <;> simp_all
  · simp_all
@[simp ↓] theorem wR_bSum {a : Nat} {h : Heap} {E : Nat → Heap → Prop} {Q : Val → Heap → Prop} : wR (bSum [.ref a] h) E Q = (match seqOf (.ref a) h with | some ys => (match optAll asInt ys with | some bs => Q (.int bs.sum) h | none => False) | none => False) := by
  first | unfold bAll bSeq | unfold bAny bSeq | unfold bSum bSeq
  simp only
  split
  · split <;> simp_all
  · simp_all
theorem optAll_map {α β γ : Type} {f : β → Option γ} {g : α → β} {k : α → γ} (h : ∀ x, f (g x) = some (k x)) : ∀ xs : List α, optAll f (xs.map g) = some (xs.map k)
  | [] => rfl
  | x :: xs => by simp [optAll, h, optAll_map h xs]
theorem seqOf_at {a : Nat} {xs : List Val} {h : Heap} (e : h[a]? = some (.lst xs)) : seqOf (.ref a) h = some xs := by simp [seqOf, e]
end PyM
namespace PyM
theorem wR_lcMap {chk : Heap → Bool} {tg : Val → En → Option En} {me : En → Heap → Res Val} {s0 : En} {E : Nat → Heap → Prop} {QU : Unit → Heap → Prop} {h : Heap} (f : Val → Val) {xs : List Val} (hl : xs.length < lim)
    (hc : ∀ acc, chk (h ++ [.lst acc]) = true)
    (ht : ∀ x acc, x ∈ xs → ∃ s2, tg x s0 = some s2 ∧ wR (me s2 (h ++ [.lst acc])) (fun _ _ => False) fun y h2 => y = f x ∧ h2 = h ++ [.lst acc])
    (q : QU () (h ++ [.lst (xs.map f)])) : wR (lcM chk tg tTrue me s0 h.length xs (h ++ [.lst []])) E QU := by
  refine wR_lcPure (fun _ => true) f hl hc (fun x acc hx => ?_) ?_
  · obtain ⟨s2, e, w⟩ := ht x acc hx
    exact ⟨s2, e, ⟨rfl, rfl⟩, fun _ => w⟩
  · have : xs.filter (fun _ => true) = xs := List.filter_eq_self.mpr (fun _ _ => rfl)
    rw [this]
    exact q
end PyM
namespace PyM
section
variable {E : Nat → Heap → Prop} {Q : Val → Heap → Prop} {h : Heap} {a b : Nat} {lo hi : Option Int} {xs : List Val} {y : Val}
@[simp ↓] theorem wR_oAddL : wR (oAdd (.ref a) (.ref b) h) E Q = (match h[a]?, h[b]? with | some (.lst xs), some (.lst ys) => xs.length + ys.length ≤ lim ∧ Q (.ref h.length) (h ++ [.lst (xs ++ ys)]) | _, _ => False) := by
  unfold oAdd; simp only; split
  · simp only [wR_ite, wR_ok, wR_stuck, ite_and']
    all_goals simp_all
  · simp_all
@[simp ↓] theorem wR_oSlT : wR (oSl (.tup xs) lo hi h) E Q = Q (.tup (cut xs lo hi)) h := rfl
@[simp ↓] theorem wR_oSlL : wR (oSl (.ref a) lo hi h) E Q = (match h[a]? with | some (.lst xs) => Q (.ref h.length) (h ++ [.lst (cut xs lo hi)]) | some (.fls xs) => Q (.ref h.length) (h ++ [.lst (cut xs lo hi)]) | _ => False) := by
  unfold oSl; simp only; split <;> simp_all
@[simp ↓] theorem wR_bCount : wR (bCount (.ref a) [y] h) E Q = (match h[a]? with | some (.lst ys) => (isFlat y = true ∧ ys.all isFlat = true) ∧ Q (.int ((ys.countP fun z => feq z y : Nat) : Int)) h | _ => False) := by
  unfold bCount; simp only; split
  · simp only [wR_ite, wR_ok, wR_stuck, ite_and']
    all_goals simp_all
  · simp_all
end
open PySem L2 in
theorem cut_from {k : Nat} (xs : List Val) : cut xs (some (k : Int)) none = xs.drop k := by
  unfold cut
  rw [HT.sIx_none, HT.sIx_nat]
  by_cases h : k ≤ xs.length
  · rw [Nat.min_eq_left h, List.take_of_length_le (by simp)]
  · rw [Nat.min_eq_right (by omega)]
    simp
    omega
theorem cut_from1 (xs : List Val) : cut xs (some 1) none = xs.drop 1 := cut_from (k := 1) xs
end PyM
namespace PyM
/-! ### == of plain values: no bools, no objects -/
mutual
def Val.d : Val → D
  | .non => .non
  | .bl b => .bl b
  | .int i => .int i
  | .str n => .str n
  | .tup xs => .tup (Val.ds xs)
  | .ref _ => .non
def Val.ds : List Val → List D
  | [] => []
  | x :: xs => x.d :: Val.ds xs
end
def pl : Nat → Val → Bool
  | 0, _ => false
  | n + 1, v => match v with
    | .non => true
    | .int _ => true
    | .str _ => true
    | .tup xs => xs.all (pl n)
    | .bl _ => false
    | .ref _ => false
theorem optAll_ds {f : Val → Option D} : ∀ {xs : List Val}, (∀ x ∈ xs, f x = some x.d) → optAll f xs = some (Val.ds xs)
  | [], _ => rfl
  | x :: xs, h => by
    rw [optAll, h x (by simp), optAll_ds (fun y hy => h y (by simp [hy]))]
    rfl
theorem conv_pl {h : Heap} : ∀ (n : Nat) (x : Val), pl n x = true → conv n h x = some x.d
  | 0, _, e => by simp [pl] at e
  | n + 1, x, e => by
    cases x with
    | tup xs =>
      simp only [pl, List.all_eq_true] at e
      simp only [conv, Val.d]
      rw [optAll_ds (fun y hy => conv_pl n y (e y hy))]
      rfl
    | bl b => simp [pl] at e
    | ref b => simp [pl] at e
    | _ => rfl
mutual
theorem deq_pl : ∀ (x y : Val) (n m : Nat), pl n x = true → pl m y = true → deq x.d y.d = decide (x = y)
  | x, y, 0, _, e, _ => by simp [pl] at e
  | x, y, _, 0, _, e => by simp [pl] at e
  | .tup xs, y, n + 1, m + 1, h1, h2 => by
    cases y with
    | tup ys =>
      simp only [pl] at h1 h2
      simp only [Val.d, deq]
      rw [deqs_pl xs ys n m h1 h2]
      by_cases e : xs = ys <;> simp [e]
    | _ => simp [Val.d, deq]
  | .non, y, n + 1, m + 1, h1, h2 => by cases y <;> simp [Val.d, deq, pl] at h2 ⊢
  | .int i, y, n + 1, m + 1, h1, h2 => by
    cases y with
    | int j => by_cases e : i = j <;> simp [Val.d, deq, e]
    | bl b => simp [pl] at h2
    | _ => simp [Val.d, deq, pl] at h2 ⊢
  | .str i, y, n + 1, m + 1, h1, h2 => by
    cases y with
    | str j => by_cases e : i = j <;> simp [Val.d, deq, e]
    | bl b => simp [pl] at h2
    | _ => simp [Val.d, deq, pl] at h2 ⊢
  | .bl _, y, n + 1, m + 1, h1, h2 => by simp [pl] at h1
  | .ref _, y, n + 1, m + 1, h1, h2 => by simp [pl] at h1
theorem deqs_pl : ∀ (xs ys : List Val) (n m : Nat), xs.all (pl n) = true → ys.all (pl m) = true → deqs (Val.ds xs) (Val.ds ys) = decide (xs = ys)
  | [], [], _, _, _, _ => rfl
  | [], _ :: _, _, _, _, _ => by simp [Val.ds, deqs]
  | _ :: _, [], _, _, _, _ => by simp [Val.ds, deqs]
  | x :: xs, y :: ys, n, m, h1, h2 => by
    rw [List.all_cons, Bool.and_eq_true] at h1 h2
    rw [Val.ds, Val.ds, deqs, deq_pl x y n m h1.1 h2.1, deqs_pl xs ys n m h1.2 h2.2]
    by_cases e : x = y <;> by_cases e2 : xs = ys <;> simp [e, e2]
end
theorem oEq_pl {neg : Bool} {x y : Val} {h : Heap} (hx : pl 60 x = true) (hy : pl 60 y = true) : oEq neg x y h = .ok (.bl (if neg then !decide (x = y) else decide (x = y))) h := by
  unfold oEq
  rw [conv_pl 60 x hx, conv_pl 60 y hy]
  simp only [deq_pl x y 60 60 hx hy]
theorem conv_lst {h : Heap} {a : Nat} {xs : List Val} (ea : h[a]? = some (.lst xs)) (hx : xs.all (pl 59) = true) : conv 60 h (.ref a) = some (.lst (Val.ds xs)) := by
  rw [conv]
  simp only [ea]
  rw [optAll_ds (fun x hx' => conv_pl 59 x (List.all_eq_true.mp hx x hx'))]
  rfl
theorem oEq_lst {neg : Bool} {a b : Nat} {xs ys : List Val} {h : Heap} (ea : h[a]? = some (.lst xs)) (eb : h[b]? = some (.lst ys)) (hx : xs.all (pl 59) = true) (hy : ys.all (pl 59) = true) :
    oEq neg (.ref a) (.ref b) h = .ok (.bl (if neg then !decide (xs = ys) else decide (xs = ys))) h := by
  unfold oEq
  rw [conv_lst ea hx, conv_lst eb hy]
  simp only [deq, deqs_pl xs ys 59 59 hx hy]
end PyM
namespace PyM
def Ext (h h' : Heap) : Prop := ∃ g, h' = h ++ g
theorem Ext.refl (h : Heap) : Ext h h := ⟨[], by simp⟩
theorem Ext.app {h h' : Heap} (e : Ext h h') (g : Heap) : Ext h (h' ++ g) := by
  obtain ⟨k, rfl⟩ := e
  exact ⟨k ++ g, by simp⟩
theorem Ext.set {h h' : Heap} (e : Ext h h') {p : Nat} (hp : h.length ≤ p) (o : Obj) : Ext h (h'.set p o) := by
  obtain ⟨k, rfl⟩ := e
  exact ⟨k.set (p - h.length) o, by rw [List.set_append_right _ _ hp]⟩
theorem Ext.at {h h' : Heap} (e : Ext h h') {p : Nat} {o : Obj} (hp : h[p]? = some o) : h'[p]? = some o := by
  obtain ⟨k, rfl⟩ := e
  exact at_push hp
theorem Ext.trans {a b c : Heap} (x : Ext a b) (y : Ext b c) : Ext a c := by
  obtain ⟨g, rfl⟩ := x
  obtain ⟨k, rfl⟩ := y
  exact ⟨g ++ k, List.append_assoc _ _ _⟩
theorem Ext.le {h h' : Heap} (e : Ext h h') : h.length ≤ h'.length := by
  obtain ⟨k, rfl⟩ := e
  simp
theorem rangeV_length {lo : Int} {n : Nat} : (rangeV lo n).length = n := by simp [rangeV]
/-- a loop over range(n) by its invariant -/
theorem wS_range {g : Val → En → Option En} {body : En → Heap → RS} {D : K4} {n : Nat} {s : En} {h : Heap} (Inv : Nat → En → Heap → Prop) (h0 : Inv 0 s h)
    (hs : ∀ (i : Nat) s h, i < n → Inv i s h → ∃ s1, g (.int (i : Int)) s = some s1 ∧ wS (body s1 h) { D with nx := Inv (i + 1), ct := Inv (i + 1), bk := D.nx })
    (hd : ∀ s h, Inv n s h → D.nx s h) : wS (forM_ (fun _ => true) g body (rangeV 0 n) s h) D := by
  refine wS_forM Inv _ 0 s h h0 (fun i x s h _ hx hi => ⟨rfl, ?_⟩) (fun s h hi => ⟨rfl, hd s h (by rw [Nat.zero_add, rangeV_length] at hi; exact hi)⟩)
  rw [Nat.sub_zero, rangeV_get] at hx
  split at hx
  · rename_i hlt
    cases hx
    rw [Int.zero_add]
    exact hs i s h hlt hi
  · cases hx
end PyM
namespace PyM
theorem lc_at {n : Nat} {h0 h : Heap} {chk : Heap → Bool} {tg : Val → En → Option En} {mt : En → Heap → Res Bool} {me : En → Heap → Res Val} {s0 : En} {E : Nat → Heap → Prop} {QU : Unit → Heap → Prop} {xs : List Val} (hn : n = h.length) (hh : h0 = h ++ [.lst []]) (w : wR (lcM chk tg mt me s0 h.length xs (h ++ [.lst []])) E QU) : wR (lcM chk tg mt me s0 n xs h0) E QU := by
  subst hn hh
  exact w
theorem at_app {h g : Heap} {n : Nat} {o : Obj} (k : Nat) (e : n = h.length + k) (q : g[k]? = some o) : (h ++ g)[n]? = some o := by
  subst e; rw [List.getElem?_append_right (by omega), Nat.add_sub_cancel_left]; exact q
theorem wS_mono {x : RS} {D D' : K4} (w : wS x D) (n : ∀ s h, D.nx s h → D'.nx s h) (r : ∀ v h, D.rt v h → D'.rt v h) (b : ∀ s h, D.bk s h → D'.bk s h) (c : ∀ s h, D.ct s h → D'.ct s h) (e : ∀ k h, D.ex k h → D'.ex k h) : wS x D' := by
  cases x
  · exact n _ _ w
  · exact r _ _ w
  · exact b _ _ w
  · exact c _ _ w
  · exact e _ _ w
  · exact w
end PyM

set_option Elab.async false
set_option linter.all false
set_option autoImplicit false
set_option maxHeartbeats 4000000
/-! frames of heaps, the tape, comprehensions that make room, bits -/
namespace PyM
/-- at most the object p has changed; there may be more objects -/
def Fr (p : Nat) (h h' : Heap) : Prop := h.length ≤ h'.length ∧ ∀ q, q ≠ p → q < h.length → h'[q]? = h[q]?
theorem Fr.refl (p : Nat) (h : Heap) : Fr p h h := ⟨Nat.le_refl _, fun _ _ _ => rfl⟩
theorem Fr.trans {p : Nat} {a b c : Heap} (x : Fr p a b) (y : Fr p b c) : Fr p a c := ⟨Nat.le_trans x.1 y.1, fun q h1 h2 => by rw [y.2 q h1 (Nat.lt_of_lt_of_le h2 x.1), x.2 q h1 h2]⟩
theorem Ext.fr {a b : Heap} (x : Ext a b) (p : Nat) : Fr p a b := by
  obtain ⟨g, rfl⟩ := x
  exact ⟨by simp, fun q _ h2 => List.getElem?_append_left h2⟩
theorem Fr.at {p : Nat} {h h' : Heap} (x : Fr p h h') {q : Nat} {o : Obj} (hq : q ≠ p) (e : h[q]? = some o) : h'[q]? = some o := by
  rw [x.2 q hq (List.getElem?_eq_some_iff.mp e).1]; exact e
theorem Fr.set {p : Nat} {h h' : Heap} (x : Fr p h h') (o : Obj) : Fr p h (h'.set p o) :=
  ⟨by rw [List.length_set]; exact x.1, fun q h1 h2 => by rw [at_set_ne (Ne.symm h1)]; exact x.2 q h1 h2⟩
theorem Fr.push {p : Nat} {h h' : Heap} (x : Fr p h h') (g : Heap) : Fr p h (h' ++ g) := x.trans (Ext.fr ⟨g, rfl⟩ p)
/-- a change of an object that is younger -/
theorem Fr.new {p : Nat} {h h' : Heap} (x : Fr p h h') {q : Nat} (hq : h.length ≤ q) (o : Obj) : Fr p h (h'.set q o) :=
  ⟨by rw [List.length_set]; exact x.1, fun r h1 h2 => by rw [at_set_ne (by omega)]; exact x.2 r h1 h2⟩
theorem at_lt {h : Heap} {q : Nat} {o : Obj} (e : h[q]? = some o) : q < h.length := (List.getElem?_eq_some_iff.mp e).1
/-- the tape of a script -/
def TP (p a : Nat) (ns : List Int) (h : Heap) : Prop := p ≠ a ∧ h[a]? = some (.lst (ns.map Val.int)) ∧ ∃ i r t, 0 ≤ i ∧ h[p]? = some (.lst [.ref a, .int i, .int r, .int t])
theorem TP.ext {p a : Nat} {ns : List Int} {h h' : Heap} (T : TP p a ns h) (x : Ext h h') : TP p a ns h' := by
  obtain ⟨ne, T, i, r, t, i0, e⟩ := T
  exact ⟨ne, x.at T, i, r, t, i0, x.at e⟩
theorem TP.push {p a : Nat} {ns : List Int} {h : Heap} (T : TP p a ns h) (g : Heap) : TP p a ns (h ++ g) := T.ext ⟨g, rfl⟩
theorem TP.fr {p a q : Nat} {ns : List Int} {h h' : Heap} (T : TP p a ns h) (x : Fr q h h') (h1 : p ≠ q) (h2 : a ≠ q) : TP p a ns h' := by
  obtain ⟨ne, T, i, r, t, i0, e⟩ := T
  exact ⟨ne, x.at h2 T, i, r, t, i0, x.at h1 e⟩
theorem TP.set {p a q : Nat} {ns : List Int} {h : Heap} (T : TP p a ns h) (h1 : p ≠ q) (h2 : a ≠ q) (o : Obj) : TP p a ns (h.set q o) := by
  obtain ⟨ne, T, i, r, t, i0, e⟩ := T
  exact ⟨ne, by rw [at_set_ne (Ne.symm h2)]; exact T, i, r, t, i0, by rw [at_set_ne (Ne.symm h1)]; exact e⟩
theorem TP.lt {p a : Nat} {ns : List Int} {h : Heap} (T : TP p a ns h) : p < h.length ∧ a < h.length := by
  obtain ⟨ne, T, i, r, t, i0, e⟩ := T
  exact ⟨at_lt e, at_lt T⟩
def m_next : List Val → Heap → Res Val := runB 2 4
    (sSeq (sAsg (gV 2) (mB oIx (mV 0) (mK (.int 2))))
    (sSeq (sIf (tB_ (mB oGt (mV 2) (mK (.int 0)))) (sSeq (sSub (mV 0) (mK (.int 2)) (mB oFd (mV 2) (mV 1)))
    (sRet (mB oMd (mL bInt (mCons (mV 2) (mNil))) (mV 1)))) (sNx))
    (sSeq (sAsg (gV 3) (mK (.int 0)))
    (sSeq (sIf (tB_ (mB oLt (mB oIx (mV 0) (mK (.int 1))) (mL bLen (mCons (mB oIx (mV 0) (mK (.int 0))) (mNil))))) (sSeq (sAsg (gV 3) (mL bAbs (mCons (mB oIx (mB oIx (mV 0) (mK (.int 0))) (mB oIx (mV 0) (mK (.int 1)))) (mNil))))
    (sSubA (oI fun i j => .int (i + j)) (mV 0) (mK (.int 1)) (mK (.int 1)))) (sNx))
    (sSeq (sIf (tB_ (mB oGe (mV 3) (mB oPw (mK (.int 10)) (mK (.int 18))))) (sSeq (sSub (mV 0) (mK (.int 2)) (mB oFd (mV 3) (mV 1)))
    (sRet (mB oMd (mL bInt (mCons (mV 3) (mNil))) (mV 1)))) (sNx))
    (sSeq (sSub (mV 0) (mK (.int 3)) (mB oMd (mL bInt (mCons (mB oAdd (mB oAdd (mB oMul (mB oIx (mV 0) (mK (.int 3))) (mK (.int 48271))) (mB oMul (mV 3) (mK (.int 69621)))) (mK (.int 11))) (mNil))) (mK (.int 2147483647))))
    (sRet (mB oMd (mL bInt (mCons (mB oFd (mB oMd (mB oMul (mB oIx (mV 0) (mK (.int 3))) (mK (.int 16807))) (mK (.int 2147483647))) (mK (.int 7))) (mNil))) (mV 1)))))))))
theorem TP.next {f : List Val → Heap → Res Val} (hf : f = m_next) {h : Heap} {p a : Nat} {ns : List Int} (T : TP p a ns h) {n : Int} (hn : 0 < n) (hn2 : n < 1073741824) :
    ∃ v h', 0 ≤ v ∧ v < n ∧ f [.ref p, .int n] h = .ok (.int v) h' ∧ TP p a ns h' ∧ Fr p h h' ∧ h'.length = h.length := by
  subst hf
  obtain ⟨ne, ha, i, r, t, hi, hp⟩ := T
  have md : ∀ x : Int, 0 ≤ x % n ∧ x % n < n := fun x => ⟨Int.emod_nonneg _ (by omega), Int.emod_lt_of_pos _ hn⟩
  have mk : ∀ (v i' r' t' : Int), 0 ≤ v → v < n → 0 ≤ i' → ∃ w : Int, 0 ≤ w ∧ w < n ∧ v = w ∧ TP p a ns (h.set p (.lst [.ref a, .int i', .int r', .int t'])) ∧ Fr p h (h.set p (.lst [.ref a, .int i', .int r', .int t'])) ∧ (h.set p (.lst [.ref a, .int i', .int r', .int t'])).length = h.length :=
    fun v i' r' t' v0 vn i0 => ⟨v, v0, vn, rfl, ⟨ne, by rw [at_set_ne ne]; exact ha, i', r', t', i0, at_set hp⟩, (Fr.refl p h).set _, by simp⟩
  have w : wR (m_next [.ref p, .int n] h) (fun _ _ => False) (fun x h' => ∃ w : Int, 0 ≤ w ∧ w < n ∧ x = .int w ∧ TP p a ns h' ∧ Fr p h h' ∧ h'.length = h.length) := by
    unfold m_next
    refine wRB rfl ?_
    have mk' : ∀ (v i' r' t' : Int), 0 ≤ v → v < n → 0 ≤ i' → ∃ w : Int, 0 ≤ w ∧ w < n ∧ Val.int v = .int w ∧ TP p a ns (h.set p (.lst [.ref a, .int i', .int r', .int t'])) ∧ Fr p h (h.set p (.lst [.ref a, .int i', .int r', .int t'])) ∧ (h.set p (.lst [.ref a, .int i', .int r', .int t'])).length = h.length :=
      fun v i' r' t' v0 vn i0 => by obtain ⟨w, a, b, c, d⟩ := mk v i' r' t' v0 vn i0; exact ⟨w, a, b, by rw [c], d⟩
    generalize hQ : (fun (x : Val) (h' : Heap) => ∃ w : Int, 0 ≤ w ∧ w < n ∧ x = .int w ∧ TP p a ns h' ∧ Fr p h h' ∧ h'.length = h.length) = Q
    have mq : ∀ (v i' r' t' : Int), 0 ≤ v → v < n → 0 ≤ i' → Q (.int v) (h.set p (.lst [.ref a, .int i', .int r', .int t'])) := by rw [← hQ]; exact mk'
    by_cases hr : 0 < r
    · simp [hp, ha, hn, hn2, gV, hr, at_set hp]
      exact mq _ _ _ _ (md _).1 (md _).2 hi
    · by_cases hl : i < (ns.length : Int)
      · obtain ⟨z, hz⟩ : ∃ z, ns[i.toNat]? = some z := ⟨_, List.getElem?_eq_getElem (by omega)⟩
        by_cases hc : 1000000000000000000 ≤ (if z < 0 then -z else z)
        · simp [hp, ha, hn, hn2, gV, hr, at_set hp, hl, atI_nn hi, hz, cPow, hc]
          exact mq _ _ _ _ (md _).1 (md _).2 (by omega)
        · simp [hp, ha, hn, hn2, gV, hr, at_set hp, hl, atI_nn hi, hz, cPow, hc]
          exact mq _ _ _ _ (md _).1 (md _).2 (by omega)
      · simp [hp, ha, hn, hn2, gV, hr, at_set hp, hl, cPow]
        exact mq _ _ _ _ (md _).1 (md _).2 (by omega)
  obtain ⟨x, h', e, v, h1, h2, rfl, h3⟩ := ex_of_wR w
  exact ⟨v, h', h1, h2, e, h3⟩
def m_next2 : List Val → Heap → Res Val := runB 2 4
    (sSeq (sAsg (gV 2) (mB oIx (mV 0) (mK (.int 2))))
    (sSeq (sIf (tB_ (mB (oEq false) (mV 2) (mK (.int 0)))) (sSeq (sAsg (gV 3) (mK (.int 0)))
    (sSeq (sIf (tB_ (mB oLt (mB oIx (mV 0) (mK (.int 1))) (mL bLen (mCons (mB oIx (mV 0) (mK (.int 0))) (mNil))))) (sSeq (sAsg (gV 3) (mL bAbs (mCons (mL bInt (mCons (mB oIx (mB oIx (mV 0) (mK (.int 0))) (mB oIx (mV 0) (mK (.int 1)))) (mNil))) (mNil))))
    (sSub (mV 0) (mK (.int 1)) (mB oAdd (mB oIx (mV 0) (mK (.int 1))) (mK (.int 1))))) (sNx))
    (sSeq (sAsg (gV 2) (mV 3))
    (sIf (tB_ (mB oLt (mV 3) (mB oPw (mK (.int 10)) (mK (.int 18))))) (sSeq (sSub (mV 0) (mK (.int 3)) (mB oMd (mL bInt (mCons (mB oAdd (mB oAdd (mB oMul (mB oIx (mV 0) (mK (.int 3))) (mK (.int 69621))) (mB oMul (mV 3) (mK (.int 40692)))) (mK (.int 17))) (mNil))) (mK (.int 2147483647))))
    (sRet (mB oMd (mB oMd (mL bInt (mCons (mB oMul (mB oFd (mB oIx (mV 0) (mK (.int 3))) (mK (.int 5))) (mK (.int 48271))) (mNil))) (mK (.int 2147483647))) (mV 1)))) (sNx))))) (sNx))
    (sSeq (sSub (mV 0) (mK (.int 2)) (mB oFd (mV 2) (mV 1)))
    (sRet (mB oMd (mL bInt (mCons (mV 2) (mNil))) (mV 1))))))
theorem TP.next2 {f : List Val → Heap → Res Val} (hf : f = m_next2) {h : Heap} {p a : Nat} {ns : List Int} (T : TP p a ns h) {n : Int} (hn : 0 < n) (hn2 : n < 1073741824) :
    ∃ v h', 0 ≤ v ∧ v < n ∧ f [.ref p, .int n] h = .ok (.int v) h' ∧ TP p a ns h' ∧ Fr p h h' ∧ h'.length = h.length := by
  subst hf
  obtain ⟨ne, ha, i, r, t, hi, hp⟩ := T
  have md : ∀ x : Int, 0 ≤ x % n ∧ x % n < n := fun x => ⟨Int.emod_nonneg _ (by omega), Int.emod_lt_of_pos _ hn⟩
  have w : wR (m_next2 [.ref p, .int n] h) (fun _ _ => False) (fun x h' => ∃ w : Int, 0 ≤ w ∧ w < n ∧ x = .int w ∧ TP p a ns h' ∧ Fr p h h' ∧ h'.length = h.length) := by
    unfold m_next2
    refine wRB rfl ?_
    have mk' : ∀ (v i' r' t' : Int), 0 ≤ v → v < n → 0 ≤ i' → ∃ w : Int, 0 ≤ w ∧ w < n ∧ Val.int v = .int w ∧ TP p a ns (h.set p (.lst [.ref a, .int i', .int r', .int t'])) ∧ Fr p h (h.set p (.lst [.ref a, .int i', .int r', .int t'])) ∧ (h.set p (.lst [.ref a, .int i', .int r', .int t'])).length = h.length :=
      fun v i' r' t' v0 vn i0 => ⟨v, v0, vn, rfl, ⟨ne, by rw [at_set_ne ne]; exact ha, i', r', t', i0, at_set hp⟩, (Fr.refl p h).set _, by simp⟩
    generalize hQ : (fun (x : Val) (h' : Heap) => ∃ w : Int, 0 ≤ w ∧ w < n ∧ x = .int w ∧ TP p a ns h' ∧ Fr p h h' ∧ h'.length = h.length) = Q
    have mq : ∀ (v i' r' t' : Int), 0 ≤ v → v < n → 0 ≤ i' → Q (.int v) (h.set p (.lst [.ref a, .int i', .int r', .int t'])) := by rw [← hQ]; exact mk'
    by_cases hr : r = 0
    · subst hr
      by_cases hl : i < (ns.length : Int)
      · obtain ⟨z, hz⟩ : ∃ z, ns[i.toNat]? = some z := ⟨_, List.getElem?_eq_getElem (by omega)⟩
        by_cases hc : (if z < 0 then -z else z) < 1000000000000000000
        · simp [hp, ha, hn, hn2, gV, at_set hp, hl, atI_nn hi, hz, cPow, hc]
          exact mq _ _ _ _ (md _).1 (md _).2 (by omega)
        · simp [hp, ha, hn, hn2, gV, at_set hp, hl, atI_nn hi, hz, cPow, hc]
          exact mq _ _ _ _ (md _).1 (md _).2 (by omega)
      · simp [hp, ha, hn, hn2, gV, at_set hp, hl, cPow]
        exact mq _ _ _ _ (md _).1 (md _).2 (by omega)
    · simp [hp, ha, hn, hn2, gV, hr, at_set hp]
      exact mq _ _ _ _ (md _).1 (md _).2 hi
  obtain ⟨x, h', e, v, h1, h2, rfl, h3⟩ := ex_of_wR w
  exact ⟨v, h', h1, h2, e, h3⟩
/-- comprehensions whose items make new objects -/
theorem wR_lcX {chk : Heap → Bool} {tg : Val → En → Option En} {mt : En → Heap → Res Bool} {me : En → Heap → Res Val} {s0 : En} {E : Nat → Heap → Prop} {QU : Unit → Heap → Prop} {h : Heap} (p : Val → Bool) (f : Val → Val) {xs : List Val} (hl : xs.length < lim)
    (hc : ∀ h', Ext h h' → chk h' = true)
    (ht : ∀ x h', x ∈ xs → Ext h h' → ∃ s2, tg x s0 = some s2 ∧ wR (mt s2 h') (fun _ _ => False) (fun b h1 => b = p x ∧ Ext h' h1 ∧ (p x = true → wR (me s2 h1) (fun _ _ => False) fun y h2 => y = f x ∧ Ext h1 h2)))
    (q : ∀ h', Ext h h' → h'[h.length]? = some (.lst ((xs.filter p).map f)) → QU () h') : wR (lcM chk tg mt me s0 h.length xs (h ++ [.lst []])) E QU := by
  refine wR_lcM (fun i acc h' => i ≤ xs.length ∧ acc = ((xs.take i).filter p).map f ∧ Ext h h' ∧ h'[h.length]? = some (.lst acc)) xs 0 [] _ ⟨Nat.zero_le _, rfl, ⟨_, rfl⟩, at_len⟩ ?_ ?_
  · rintro i x acc h' _ hx ⟨hi, ea, ex, el⟩
    simp only [Nat.sub_zero] at hx
    have hlt : i < xs.length := (List.getElem?_eq_some_iff.mp hx).1
    obtain ⟨s2, e, w1⟩ := ht x h' (List.mem_of_getElem? hx) ex
    refine ⟨hc h' ex, s2, e, wR_mono w1 ?_⟩
    rintro b h1 ⟨rfl, x1, w2⟩
    have tk : xs.take (i + 1) = xs.take i ++ [x] := by
      rw [List.take_add_one, hx]
      rfl
    have al : acc.length < lim := by
      rw [ea, List.length_map]
      have := List.length_filter_le p (xs.take i)
      have := List.length_take_le i xs
      omega
    by_cases hp : p x = true
    · rw [if_pos hp]
      refine wR_mono (w2 hp) ?_
      rintro y h2 ⟨rfl, x2⟩
      refine ⟨x2.at (x1.at el), al, hlt, ?_, ((ex.trans x1).trans x2).set (Nat.le_refl _) _, at_set (x2.at (x1.at el))⟩
      rw [tk, List.filter_append, List.map_append, ← ea]
      simp [hp]
    · rw [if_neg hp]
      refine ⟨hlt, ?_, ex.trans x1, x1.at el⟩
      rw [tk, List.filter_append, List.map_append, ← ea]
      simp [hp]
  · rintro acc h' ⟨_, ea, ex, el⟩
    refine ⟨hc _ ex, q h' ex ?_⟩
    rw [el, ea, Nat.zero_add, List.take_length]
theorem wR_lcXm {chk : Heap → Bool} {tg : Val → En → Option En} {me : En → Heap → Res Val} {s0 : En} {E : Nat → Heap → Prop} {QU : Unit → Heap → Prop} {h : Heap} (f : Val → Val) {xs : List Val} (hl : xs.length < lim)
    (hc : ∀ h', Ext h h' → chk h' = true)
    (ht : ∀ x h', x ∈ xs → Ext h h' → ∃ s2, tg x s0 = some s2 ∧ wR (me s2 h') (fun _ _ => False) fun y h2 => y = f x ∧ Ext h' h2)
    (q : ∀ h', Ext h h' → h'[h.length]? = some (.lst (xs.map f)) → QU () h') : wR (lcM chk tg tTrue me s0 h.length xs (h ++ [.lst []])) E QU := by
  refine wR_lcX (fun _ => true) f hl hc (fun x h' hx ex => ?_) ?_
  · obtain ⟨s2, e, w⟩ := ht x h' hx ex
    exact ⟨s2, e, by rw [wR_tTrue]; exact ⟨rfl, Ext.refl _, fun _ => w⟩⟩
  · have : xs.filter (fun _ => true) = xs := List.filter_eq_self.mpr (fun _ _ => rfl)
    rw [this]
    exact q
theorem oEq_self {x : Val} {neg : Bool} {h : Heap} (hx : pl 60 x = true) : oEq neg x x h = .ok (.bl (!neg)) h := by
  rw [oEq_pl hx hx]; cases neg <;> simp
theorem optAll_bl {α : Type} (b : α → Bool) (xs : List α) : optAll asBl (xs.map fun x => Val.bl (b x)) = some (xs.map b) := optAll_map (f := asBl) (g := fun x => Val.bl (b x)) (k := b) (fun _ => rfl) xs
theorem optAll_int {α : Type} (b : α → Int) (xs : List α) : optAll asInt (xs.map fun x => Val.int (b x)) = some (xs.map b) := optAll_map (f := asInt) (g := fun x => Val.int (b x)) (k := b) (fun _ => rfl) xs
/-! bits -/
theorem band (a b : Nat) : PySem.Builtin.bitAnd (a : Int) (b : Int) = ((a &&& b : Nat) : Int) := by
  rw [PyProof.Rows.bitAnd_pp (by omega) (by omega)]; simp
theorem bor (a b : Nat) : PySem.Builtin.bitOr (a : Int) (b : Int) = ((a ||| b : Nat) : Int) := by
  rw [Bits.bitOr_pp (by omega) (by omega)]; simp
theorem bxor (a b : Nat) : PySem.Builtin.bitXor (a : Int) (b : Int) = ((a ^^^ b : Nat) : Int) := by
  rw [Bits.bitXor_pp (by omega) (by omega)]; simp
theorem bit_eq (m b : Nat) : ((m : Int) / 2 ^ b) % 2 = if m.testBit b then 1 else 0 := by
  rw [Nat.testBit_eq_decide_div_mod_eq]
  have e : ((m : Int) / 2 ^ b) % 2 = ((m / 2 ^ b % 2 : Nat) : Int) := by simp
  rw [e]
  have := Nat.mod_two_eq_zero_or_one (m / 2 ^ b)
  rcases this with q | q <;> simp [q]
theorem wS_mono' {x : RS} {D D' : K4} (w : wS x D) (n : ∀ s h, D.nx s h → D'.nx s h) (r : ∀ v h, D.rt v h → D'.rt v h) (b : D.bk = fun _ _ => False) (c : D.ct = fun _ _ => False) (e : D.ex = fun _ _ => False) : wS x D' := by
  refine wS_mono w n r ?_ ?_ ?_
  · rw [b]; exact fun _ _ q => q.elim
  · rw [c]; exact fun _ _ q => q.elim
  · rw [e]; exact fun _ _ q => q.elim
/-- .. the items told by their place -/
theorem wR_lcXi {chk : Heap → Bool} {tg : Val → En → Option En} {me : En → Heap → Res Val} {s0 : En} {E : Nat → Heap → Prop} {QU : Unit → Heap → Prop} {h : Heap} (f : Nat → Val) {xs : List Val} (hl : xs.length < lim)
    (hc : ∀ h', Ext h h' → chk h' = true)
    (ht : ∀ i x h', xs[i]? = some x → Ext h h' → ∃ s2, tg x s0 = some s2 ∧ wR (me s2 h') (fun _ _ => False) fun y h2 => y = f i ∧ Ext h' h2)
    (q : ∀ h', Ext h h' → h'[h.length]? = some (.lst ((List.range xs.length).map f)) → QU () h') : wR (lcM chk tg tTrue me s0 h.length xs (h ++ [.lst []])) E QU := by
  refine wR_lcM (fun i acc h' => i ≤ xs.length ∧ acc = (List.range i).map f ∧ Ext h h' ∧ h'[h.length]? = some (.lst acc)) xs 0 [] _ ⟨Nat.zero_le _, rfl, ⟨_, rfl⟩, at_len⟩ ?_ ?_
  · rintro i x acc h' _ hx ⟨hi, ea, ex, el⟩
    simp only [Nat.sub_zero] at hx
    have hlt : i < xs.length := (List.getElem?_eq_some_iff.mp hx).1
    obtain ⟨s2, e, w1⟩ := ht i x h' hx ex
    refine ⟨hc h' ex, s2, e, ?_⟩
    rw [wR_tTrue, if_pos rfl]
    refine wR_mono w1 ?_
    rintro y h2 ⟨rfl, x2⟩
    have al : acc.length < lim := by
      rw [ea, List.length_map, List.length_range]
      omega
    refine ⟨x2.at el, al, hlt, ?_, (ex.trans x2).set (Nat.le_refl _) _, at_set (x2.at el)⟩
    rw [ea, List.range_succ, List.map_append]
    rfl
  · rintro acc h' ⟨_, ea, ex, el⟩
    refine ⟨hc _ ex, q h' ex ?_⟩
    rw [el, ea, Nat.zero_add]
theorem lookV_put {d : List (Val × Val)} {k v j : Val} : lookV (putV d k v) j = if j = k then some v else lookV d j := by
  unfold putV
  split
  · rename_i h
    induction d with
    | nil => simp at h
    | cons a d ih =>
      obtain ⟨a1, a2⟩ := a
      by_cases e1 : a1 = k
      · subst e1
        by_cases e2 : j = a1
        · subst e2; simp [lookV]
        · have hd : ∀ d : List (Val × Val), List.find? (fun kv => decide (kv.1 = j)) (d.map fun kv => if kv.1 = a1 then (kv.1, v) else kv) = List.find? (fun kv => decide (kv.1 = j)) d := by
            intro d
            induction d with
            | nil => rfl
            | cons b d ih2 =>
              obtain ⟨b1, b2⟩ := b
              by_cases e3 : b1 = a1
              · subst e3
                have hn : ¬ b1 = j := Ne.symm e2
                rw [List.map_cons, if_pos rfl, List.find?_cons, List.find?_cons]
                simp only [hn, decide_false]
                exact ih2
              · by_cases e4 : b1 = j
                · rw [List.map_cons, if_neg e3, List.find?_cons, List.find?_cons]
                  simp only [e4, decide_true]
                · rw [List.map_cons, if_neg e3, List.find?_cons, List.find?_cons]
                  simp only [e4, decide_false]
                  exact ih2
          simp only [lookV]
          rw [hd]
          rw [if_neg e2]
      · have h' : (d.any fun kv => decide (kv.1 = k)) = true := by simpa [e1] using h
        have := ih h'
        by_cases e2 : a1 = j
        · subst e2
          simp [lookV, e1]
        · simp only [lookV, List.map_cons, if_neg e1, List.find?_cons, e2, decide_false] at this ⊢
          exact this
  · rename_i h
    have hn : List.find? (fun kv : Val × Val => decide (kv.1 = k)) d = none := by
      rw [List.find?_eq_none]
      intro x hx hk
      exact h (List.any_eq_true.mpr ⟨x, hx, hk⟩)
    by_cases e2 : j = k
    · subst e2
      simp [lookV, hn]
    · rw [if_neg e2]
      unfold lookV
      rw [List.find?_append]
      simp [Ne.symm e2]
theorem putV_len {d : List (Val × Val)} {k v : Val} : (putV d k v).length ≤ d.length + 1 := by
  unfold putV; split <;> simp
section
variable {E : Nat → Heap → Prop} {Q : Val → Heap → Prop} {h : Heap} {neg : Bool} {x : Val}
@[simp ↓] theorem wR_bMin2 {i j : Int} : wR (bMin2 [.int i, .int j] h) E Q = Q (.int (if j < i then j else i)) h := rfl
@[simp ↓] theorem wR_bMax2 {i j : Int} : wR (bMax2 [.int i, .int j] h) E Q = Q (.int (if j > i then j else i)) h := rfl
theorem oIn_dct {a : Nat} {d : List (Val × Val)} (e : h[a]? = some (.dct d)) (hk : isKey x = true) : oIn neg x (.ref a) h = .ok (.bl (if neg then !(lookV d x).isSome else (lookV d x).isSome)) h := by
  unfold oIn; simp only [e, hk, if_true]
theorem oIn_tup {ys : List Val} (hx : isFlat x = true) (hy : ys.all isFlat = true) : oIn neg x (.tup ys) h = .ok (.bl (if neg then !(ys.any fun z => feq z x) else ys.any fun z => feq z x)) h := by
  unfold oIn; simp only [hx, hy, and_self, if_true]
theorem any_pl (hx : pl 60 x = true) : ∀ ys : List Val, ys.all (pl 59) = true → ((Val.ds ys).any fun z => deq z x.d) = decide (x ∈ ys)
  | [], _ => rfl
  | y :: ys, hy => by
    rw [List.all_cons, Bool.and_eq_true] at hy
    simp only [Val.ds, List.any_cons]
    rw [any_pl hx ys hy.2, deq_pl y x 59 60 hy.1 hx]
    by_cases q : x = y
    · simp [q]
    · simp [q, Ne.symm q]
theorem oIn_pl {a : Nat} {ys : List Val} (e : h[a]? = some (.lst ys)) (hx : pl 60 x = true) (hy : ys.all (pl 59) = true) : oIn neg x (.ref a) h = .ok (.bl (if neg then !decide (x ∈ ys) else decide (x ∈ ys))) h := by
  have e1 : inSeq x h ys = some (decide (x ∈ ys)) := by
    unfold inSeq
    rw [conv_pl 60 x hx, optAll_ds (fun y hy' => conv_pl 59 y (List.all_eq_true.mp hy y hy'))]
    exact congrArg some (any_pl hx ys hy)
  unfold oIn
  simp only [e, e1]
end
theorem cut_both {a b : Nat} (xs : List Val) : cut xs (some (a : Int)) (some (b : Int)) = (xs.take b).drop a := by
  unfold cut
  rw [HT.sIx_nat, HT.sIx_nat, List.drop_take]
  by_cases ha : a ≤ xs.length
  · have e1 : min a xs.length = a := by omega
    rw [e1]
    by_cases hb : b ≤ xs.length
    · rw [show min b xs.length = b by omega]
    · rw [show min b xs.length = xs.length by omega, List.take_of_length_le (by simp), List.take_of_length_le (by simp; omega)]
  · have e1 : min a xs.length = xs.length := by omega
    rw [e1, List.drop_of_length_le (Nat.le_refl _), List.drop_of_length_le (show xs.length ≤ a by omega)]
    simp
theorem cut_to {b : Nat} (xs : List Val) : cut xs none (some (b : Int)) = xs.take b := by
  unfold cut
  rw [HT.sIx_none, HT.sIx_nat]
  by_cases hb : b ≤ xs.length
  · rw [Nat.min_eq_left hb]; simp
  · rw [Nat.min_eq_right (by omega)]
    simp
    rw [List.take_of_length_le (by omega)]
theorem bAll_map {α : Type} {a : Nat} {h : Heap} {xs : List α} {b : α → Bool} (e : h[a]? = some (.lst (xs.map fun x => .bl (b x)))) : bAll [.ref a] h = .ok (.bl (xs.all b)) h := by
  refine eq_of_wR ?_
  rw [wR_bAll]
  simp only [seqOf_at e, optAll_bl]
  simp [List.all_map]
theorem bAny_map {α : Type} {a : Nat} {h : Heap} {xs : List α} {b : α → Bool} (e : h[a]? = some (.lst (xs.map fun x => .bl (b x)))) : bAny [.ref a] h = .ok (.bl (xs.any b)) h := by
  refine eq_of_wR ?_
  rw [wR_bAny]
  simp only [seqOf_at e, optAll_bl]
  simp [List.any_map]
theorem Fr.ext {p : Nat} {h h' : Heap} (x : Fr p h h') (hp : h.length ≤ p) : Ext h h' := by
  refine ⟨h'.drop h.length, ?_⟩
  apply List.ext_getElem?
  intro q
  by_cases hq : q < h.length
  · rw [List.getElem?_append_left hq, x.2 q (by omega) hq]
  · rw [List.getElem?_append_right (by omega), List.getElem?_drop]
    congr 1
    omega
theorem Fr.base {p : Nat} {h h1 h' : Heap} (x : Ext h h1) (y : Fr p h1 h') (hp : h.length ≤ p) : Ext h h' := ((x.fr p).trans y).ext hp
section
variable {E : Nat → Heap → Prop} {Q : Val → Heap → Prop} {h : Heap} {a : Nat} {i : Int}
theorem bPopAt_ok {ys : List Val} (e : h[a]? = some (.lst ys)) (h0 : 0 ≤ i) (h1 : i < ys.length) (h2 : i < 2 ^ 63) {y : Val} (hy : ys[i.toNat]? = some y) : bPopAt (.ref a) [.int i] h = .ok y (h.set a (.lst (ys.eraseIdx i.toNat))) := by
  have e1 : L2.ixN ys.length i = some i.toNat := by rw [ixN_nn h0, if_pos (by omega)]
  have c : -(2 ^ 63) ≤ i ∧ i < 2 ^ 63 := ⟨by omega, h2⟩
  unfold bPopAt
  simp only [e, if_pos c]
  rw [e1]
  simp only [hy]
end
theorem wR_iAltE {m : En → Heap → Res Val} {n : MI} {s : En} {h h1 : Heap} {a : Nat} {xs : List Val} {E : Nat → Heap → Prop} {Q : Src → Heap → Prop} (e : m s h = .ok (.ref a) h1) (el : h1[a]? = some (.lst xs)) (q : Q ⟨xs, lstIs a xs⟩ h1) : wR (iAlt (iLst m) n s h) E Q := by
  refine wR_iAlt (.inl ?_)
  rw [wR_iLst, e]
  simp only [wR_ok, el]
  exact q
end PyM

set_option Elab.async false
set_option linter.all false
set_option autoImplicit false
set_option maxHeartbeats 4000000
/-! frames over lists of places; comprehensions that use the tape -/
namespace PyM
/-- a comprehension whose items use the tape -/
theorem wR_lcT {chk : Heap → Bool} {tg : Val → En → Option En} {me : En → Heap → Res Val} {s0 : En} {E : Nat → Heap → Prop} {QU : Unit → Heap → Prop} {h : Heap} {p a : Nat} {ns : List Int} (T : TP p a ns h) (R : Val → Prop) {xs : List Val} (hl : xs.length < lim)
    (hc : ∀ h', Fr p h h' → chk h' = true)
    (ht : ∀ x h', x ∈ xs → TP p a ns h' → Fr p h h' → ∃ s2, tg x s0 = some s2 ∧ wR (me s2 h') (fun _ _ => False) fun y h2 => R y ∧ TP p a ns h2 ∧ Fr p h' h2)
    (q : ∀ ys h', ys.length = xs.length → (∀ y ∈ ys, R y) → TP p a ns h' → Fr p h h' → h'[h.length]? = some (.lst ys) → QU () h') : wR (lcM chk tg tTrue me s0 h.length xs (h ++ [.lst []])) E QU := by
  have lp := T.lt
  refine wR_lcM (fun i acc h' => i ≤ xs.length ∧ acc.length = i ∧ (∀ y ∈ acc, R y) ∧ TP p a ns h' ∧ Fr p h h' ∧ h'[h.length]? = some (.lst acc)) xs 0 [] _ ⟨Nat.zero_le _, rfl, by simp, T.push _, Ext.fr ⟨_, rfl⟩ p, at_len⟩ ?_ ?_
  · rintro i x acc h' _ hx ⟨hi, ea, hR, T', f', el⟩
    simp only [Nat.sub_zero] at hx
    have hlt : i < xs.length := (List.getElem?_eq_some_iff.mp hx).1
    obtain ⟨s2, e, w1⟩ := ht x h' (List.mem_of_getElem? hx) T' f'
    refine ⟨hc h' f', s2, e, ?_⟩
    rw [wR_tTrue, if_pos rfl]
    refine wR_mono w1 ?_
    rintro y h2 ⟨hy, T2, f2⟩
    have el2 := f2.at (show h.length ≠ p by omega) el
    refine ⟨el2, by omega, hlt, by simp [ea], fun z hz => ?_, T2.set (by omega) (by omega) _, (f'.trans f2).new (Nat.le_refl _) _, at_set el2⟩
    rcases List.mem_append.mp hz with hz | hz
    · exact hR z hz
    · rw [List.mem_singleton.mp hz]; exact hy
  · rintro acc h' ⟨_, ea, hR, T', f', el⟩
    exact ⟨hc _ f', q acc h' (by omega) hR T' f' el⟩
/-- at most the places of S have changed; there may be more objects -/
def Fs (S : List Nat) (h h' : Heap) : Prop := h.length ≤ h'.length ∧ ∀ q, q ∉ S → q < h.length → h'[q]? = h[q]?
theorem Fs.refl (S : List Nat) (h : Heap) : Fs S h h := ⟨Nat.le_refl _, fun _ _ _ => rfl⟩
theorem Fs.trans {S : List Nat} {a b c : Heap} (x : Fs S a b) (y : Fs S b c) : Fs S a c := ⟨Nat.le_trans x.1 y.1, fun q h1 h2 => by rw [y.2 q h1 (Nat.lt_of_lt_of_le h2 x.1), x.2 q h1 h2]⟩
theorem Fs.mono {S S' : List Nat} {a b : Heap} (x : Fs S a b) (s : ∀ q, q ∈ S → q ∈ S') : Fs S' a b := ⟨x.1, fun q h1 h2 => x.2 q (fun m => h1 (s q m)) h2⟩
theorem Ext.fs {a b : Heap} (x : Ext a b) (S : List Nat) : Fs S a b := by
  obtain ⟨g, rfl⟩ := x
  exact ⟨by simp, fun q _ h2 => List.getElem?_append_left h2⟩
theorem Fr.fs {p : Nat} {a b : Heap} (x : Fr p a b) {S : List Nat} (hp : p ∈ S) : Fs S a b := ⟨x.1, fun q h1 h2 => x.2 q (fun e => h1 (e ▸ hp)) h2⟩
theorem Fs.fr {p : Nat} {a b : Heap} (x : Fs [p] a b) : Fr p a b := ⟨x.1, fun q h1 h2 => x.2 q (by simpa using h1) h2⟩
theorem Fs.at {S : List Nat} {h h' : Heap} (x : Fs S h h') {q : Nat} {o : Obj} (hq : q ∉ S) (e : h[q]? = some o) : h'[q]? = some o := by
  rw [x.2 q hq (List.getElem?_eq_some_iff.mp e).1]; exact e
theorem Fs.set {S : List Nat} {h h' : Heap} (x : Fs S h h') {p : Nat} (hp : p ∈ S) (o : Obj) : Fs S h (h'.set p o) :=
  ⟨by rw [List.length_set]; exact x.1, fun q h1 h2 => by rw [at_set_ne (show p ≠ q from fun e => h1 (e ▸ hp))]; exact x.2 q h1 h2⟩
theorem Fs.push {S : List Nat} {h h' : Heap} (x : Fs S h h') (g : Heap) : Fs S h (h' ++ g) := x.trans (Ext.fs ⟨g, rfl⟩ S)
theorem Fs.new {S : List Nat} {h h' : Heap} (x : Fs S h h') {q : Nat} (hq : h.length ≤ q) (o : Obj) : Fs S h (h'.set q o) :=
  ⟨by rw [List.length_set]; exact x.1, fun r h1 h2 => by rw [at_set_ne (by omega)]; exact x.2 r h1 h2⟩
theorem Fs.le {S : List Nat} {h h' : Heap} (x : Fs S h h') : h.length ≤ h'.length := x.1
theorem TP.fs {p a : Nat} {S : List Nat} {ns : List Int} {h h' : Heap} (T : TP p a ns h) (x : Fs S h h') (h1 : p ∉ S) (h2 : a ∉ S) : TP p a ns h' := by
  obtain ⟨ne, T, i, r, t, i0, e⟩ := T
  exact ⟨ne, x.at h2 T, i, r, t, i0, x.at h1 e⟩
/-- frames over younger places close -/
theorem Fs.base {S : List Nat} {h h1 h' : Heap} (x : Ext h h1) (y : Fs S h1 h') (hS : ∀ q, q ∈ S → h.length ≤ q) : Ext h h' := by
  have z := (x.fs S).trans y
  refine ⟨h'.drop h.length, ?_⟩
  apply List.ext_getElem?
  intro q
  by_cases hq : q < h.length
  · rw [List.getElem?_append_left hq, z.2 q (fun m => by have := hS q m; omega) hq]
  · rw [List.getElem?_append_right (by omega), List.getElem?_drop]
    congr 1
    omega
theorem raised_of_wR {α : Type} {x : Res α} {P : Nat → Heap → Prop} (w : wR x P (fun _ _ => False)) : ∃ c h, x = .raised c h ∧ P c h := by
  cases x with
  | raised c h => exact ⟨c, h, rfl, w⟩
  | ok a h => exact w.elim
  | stuck => exact w.elim
@[simp ↓] theorem wR_iTup {m : En → Heap → Res Val} {s : En} {h : Heap} {E : Nat → Heap → Prop} {Q : Src → Heap → Prop} : wR (iTup_ m s h) E Q = wR (m s h) E fun x h1 => (match x with
    | .tup xs => Q ⟨xs, fun _ => true⟩ h1
    | _ => False) := by
  unfold iTup_
  simp only [wR_bind]
  congr; funext x h1
  split <;> simp_all
@[simp ↓] theorem wR_mAlt {a b : En → Heap → Res Val} {s : En} {h : Heap} {E : Nat → Heap → Prop} {Q : Val → Heap → Prop} : wR (mAlt a b s h) E Q = (match a s h with | .stuck => wR (b s h) E Q | x => wR x E Q) := by
  unfold mAlt
  cases a s h <;> rfl
theorem fix_pl {x : Val} (hx : pl 60 x = true) : ∀ {ys : List Val}, ys.all (pl 59) = true → x ∈ ys → fix x.d (Val.ds ys) = some (ys.idxOf x)
  | [], _, hm => by cases hm
  | y :: ys, hy, hm => by
    rw [List.all_cons, Bool.and_eq_true] at hy
    simp only [Val.ds, fix]
    rw [deq_pl y x 59 60 hy.1 hx]
    by_cases e : y = x
    · subst e; simp
    · have e' : ¬ (y == x) = true := by simpa using e
      rw [List.idxOf_cons, if_neg (by simpa using e)]
      have hm' : x ∈ ys := by
        rcases List.mem_cons.mp hm with q | q
        · exact absurd q.symm e
        · exact q
      simp only [fix_pl hx hy.2 hm', beq_eq_false_iff_ne.mpr e]
      rfl
theorem bIndex_pl {x : Val} {ys : List Val} {h : Heap} {a : Nat} (ea : h[a]? = some (.lst ys)) (hx : pl 60 x = true) (hy : ys.all (pl 59) = true) (hm : x ∈ ys) : bIndex (.ref a) [x] h = .ok (.int (ys.idxOf x : Nat)) h := by
  unfold bIndex
  simp only [ea]
  rw [conv_pl 60 x hx, optAll_ds (fun y hy' => conv_pl 59 y (List.all_eq_true.mp hy y hy'))]
  simp only [fix_pl hx hy hm]
end PyM
namespace PyM
section
variable {E : Nat → Heap → Prop} {Q : Val → Heap → Prop} {h : Heap} {D : K4} {s : En}
@[simp ↓] theorem wR_kIn {neg : Bool} {l : List (Nat × Val)} {n : Nat} : wR (kIn neg l (.str n) h) E Q = Q (.bl (if neg then !(lkN l n).isSome else (lkN l n).isSome)) h := rfl
@[simp ↓] theorem wR_kIx {l : List (Nat × Val)} {n : Nat} : wR (kIx l (.str n) h) E Q = (match lkN l n with | some v => Q v h | none => False) := by
  unfold kIx; simp only; split <;> simp_all
@[simp ↓] theorem wR_kGet {l : List (Nat × Val)} {n : Nat} {y : Val} : wR (kGet l (.str n) y h) E Q = Q ((lkN l n).getD y) h := rfl
@[simp ↓] theorem wR_oIxS {tbl : List (Nat × List Nat)} {n : Nat} {i : Int} : wR (oIxS tbl (.str n) (.int i) h) E Q = (match lkS tbl n with | some l => (match L2.atI l i with | some c => Q (.str c) h | none => False) | none => False) := by
  unfold oIxS; simp only; split
  · split <;> simp_all
  · simp_all
@[simp ↓] theorem wR_bLenS {tbl : List (Nat × List Nat)} {n : Nat} : wR (bLenS tbl [.str n] h) E Q = (match lkS tbl n with | some l => Q (.int l.length) h | none => False) := by
  unfold bLenS; simp only; split <;> simp_all
@[simp ↓] theorem wS_sPar2 {i j : Nat} {mA : En → Heap → Res (List Val)} : wS (sPar2 i j mA s h) D = wR (mA s h) D.ex fun xs h1 => (match xs with | [x, y] => D.nx ((s.set i (some x)).set j (some y)) h1 | _ => False) := by
  unfold sPar2; simp only [wS_thenS]; congr; funext xs h1; split <;> simp_all
@[simp ↓] theorem wS_sPar3 {i j l : Nat} {mA : En → Heap → Res (List Val)} : wS (sPar3 i j l mA s h) D = wR (mA s h) D.ex fun xs h1 => (match xs with | [x, y, z] => D.nx (((s.set i (some x)).set j (some y)).set l (some z)) h1 | _ => False) := by
  unfold sPar3; simp only [wS_thenS]; congr; funext xs h1; split <;> simp_all
end
mutual
theorem deq_refl : ∀ d : D, deq d d = true
  | .non => by simp [deq]
  | .bl b => by simp [deq]
  | .int i => by simp [deq]
  | .str n => by simp [deq]
  | .tup xs => by simp only [deq]; exact deqs_refl xs
  | .lst xs => by simp only [deq]; exact deqs_refl xs
theorem deqs_refl : ∀ ds : List D, deqs ds ds = true
  | [] => by simp [deqs]
  | d :: ds => by simp [deqs, deq_refl d, deqs_refl ds]
end
theorem oEq_conv {x y : Val} {h : Heap} {neg : Bool} {d : D} (hx : conv 60 h x = some d) (hy : conv 60 h y = some d) : oEq neg x y h = .ok (.bl (!neg)) h := by
  unfold oEq
  rw [hx, hy]
  simp only [deq_refl]
  cases neg <;> rfl
theorem pl_up {x : Val} : ∀ {n m : Nat}, n ≤ m → pl n x = true → pl m x = true := by
  intro n
  induction n generalizing x with
  | zero => intro m _ e; simp [pl] at e
  | succ n ih =>
    intro m hm e
    obtain ⟨m, rfl⟩ : ∃ k, m = k + 1 := ⟨m - 1, by omega⟩
    cases x with
    | tup xs =>
      simp only [pl, List.all_eq_true] at e ⊢
      exact fun y hy => ih (by omega) (e y hy)
    | bl b => simp [pl] at e
    | ref b => simp [pl] at e
    | _ => rfl
theorem pl_tup {n : Nat} {xs : List Val} (h : ∀ x ∈ xs, pl n x = true) : pl (n + 1) (.tup xs) = true := by
  show xs.all (pl n) = true
  exact List.all_eq_true.mpr h
end PyM

set_option Elab.async false
set_option linter.all false
set_option autoImplicit false
set_option maxHeartbeats 4000000
/-! heaps as lists of places and what stands there, with a frame; wishes for the rules of dicts -/
namespace PyM
abbrev Nodes := List (Nat × Obj)
structure On (l : Nodes) (h : Heap) : Prop where
  nd : (l.map (·.1)).Nodup
  at_ : ∀ p ∈ l, h[p.1]? = some p.2
theorem On.get {l : Nodes} {h : Heap} (o : On l h) {i a : Nat} {x : Obj} (e : l[i]? = some (a, x)) : h[a]? = some x := o.at_ _ (List.mem_of_getElem? e)
theorem On.ext {l : Nodes} {h h' : Heap} (o : On l h) (x : Ext h h') : On l h' := ⟨o.nd, fun p hp => x.at (o.at_ p hp)⟩
theorem On.perm {l l' : Nodes} {h : Heap} (o : On l h) (p : l.Perm l') : On l' h := ⟨(p.map _).nodup_iff.mp o.nd, fun q hq => o.at_ q (p.mem_iff.mpr hq)⟩
theorem On.sub {l l' : Nodes} {h : Heap} (o : On (l ++ l') h) : On l h := ⟨by
  have := o.nd
  rw [List.map_append] at this
  exact (List.nodup_append.mp this).1, fun q hq => o.at_ q (List.mem_append_left _ hq)⟩
theorem On.sub2 {l l' : Nodes} {h : Heap} (o : On (l ++ l') h) : On l' h := (o.perm List.perm_append_comm).sub
theorem On.drop1 {p : Nat × Obj} {l : Nodes} {h : Heap} (o : On (p :: l) h) : On l h := On.sub2 (l := [p]) o
theorem On.lt {l : Nodes} {h : Heap} (o : On l h) {p : Nat × Obj} (hp : p ∈ l) : p.1 < h.length := at_lt (o.at_ p hp)
theorem On.ne {l : Nodes} {h : Heap} (o : On l h) {i j a b : Nat} {x y : Obj} (ei : l[i]? = some (a, x)) (ej : l[j]? = some (b, y)) (hij : i ≠ j) : a ≠ b := fun e => by
  subst e
  have h1 : (l.map (·.1))[i]? = some a := by rw [List.getElem?_map, ei]; rfl
  have h2 : (l.map (·.1))[j]? = some a := by rw [List.getElem?_map, ej]; rfl
  obtain ⟨l1, e1⟩ := List.getElem?_eq_some_iff.mp h1
  obtain ⟨l2, e2⟩ := List.getElem?_eq_some_iff.mp h2
  exact hij ((List.getElem_inj o.nd).mp (e1.trans e2.symm))
/-- one place is written -/
theorem On.set {l : Nodes} {h : Heap} (o : On l h) {i a : Nat} {x : Obj} (e : l[i]? = some (a, x)) (y : Obj) : On (l.set i (a, y)) (h.set a y) := by
  refine ⟨?_, fun p hp => ?_⟩
  · have : (l.set i (a, y)).map (·.1) = l.map (·.1) := by
      apply List.ext_getElem?
      intro j
      rw [List.getElem?_map, List.getElem?_map, List.getElem?_set]
      split
      · rename_i hj
        subst hj
        split
        · rw [e]; rfl
        · rename_i hl
          rw [List.getElem?_eq_none (by omega)]
      · rfl
    rw [this]
    exact o.nd
  · obtain ⟨j, hj⟩ := List.mem_iff_getElem?.mp hp
    rw [List.getElem?_set] at hj
    split at hj
    · split at hj
      · cases hj
        exact at_set (o.get e)
      · cases hj
    · rename_i hij
      obtain ⟨b, z⟩ := p
      show (h.set a y)[b]? = some z
      rw [at_set_ne (o.ne e hj hij)]
      exact o.get hj
theorem nodup_set {α : Type} : ∀ {l : List α} {x : α}, l.Nodup → x ∉ l → ∀ i, (l.set i x).Nodup
  | [], _, _, _, _ => by simp
  | y :: l, x, n, hx, 0 => by
    rw [List.set_cons_zero, List.nodup_cons]
    exact ⟨fun h => hx (List.mem_cons_of_mem _ h), (List.nodup_cons.mp n).2⟩
  | y :: l, x, n, hx, i + 1 => by
    rw [List.set_cons_succ, List.nodup_cons]
    have n' := List.nodup_cons.mp n
    refine ⟨fun h => ?_, nodup_set n'.2 (fun h => hx (List.mem_cons_of_mem _ h)) i⟩
    rcases List.mem_or_eq_of_mem_set h with h | h
    · exact n'.1 h
    · exact hx (by rw [← h]; exact List.mem_cons_self)
/-- another place in the stead of one -/
theorem On.repl {l : Nodes} {h : Heap} (o : On l h) {i a a' : Nat} {x y : Obj} (e : l[i]? = some (a, x)) (ea : h[a']? = some y) (hn : ∀ p ∈ l, p.1 ≠ a') : On (l.set i (a', y)) h := by
  refine ⟨?_, fun p hp => ?_⟩
  · rw [List.map_set]
    have hm : a' ∉ l.map (·.1) := fun hm => by
      obtain ⟨p, hp, q⟩ := List.mem_map.mp hm
      exact hn p hp q
    exact nodup_set o.nd hm _
  · rcases List.mem_or_eq_of_mem_set hp with hp | rfl
    · exact o.at_ p hp
    · exact ea
/-- a new place -/
theorem On.new {l : Nodes} {h : Heap} (o : On l h) (x : Obj) : On ((h.length, x) :: l) (h ++ [x]) := by
  refine ⟨?_, fun p hp => ?_⟩
  · rw [List.map_cons, List.nodup_cons]
    refine ⟨fun hm => ?_, o.nd⟩
    obtain ⟨p, hp, e⟩ := List.mem_map.mp hm
    have := o.lt hp
    have e' : p.1 = h.length := e
    omega
  · rcases List.mem_cons.mp hp with rfl | hp
    · exact at_len
    · exact at_push (o.at_ p hp)
theorem On.newAt {l : Nodes} {h h0 : Heap} (o : On l h) {a : Nat} {x : Obj} (ea : h[a]? = some x) (hl : ∀ p ∈ l, p.1 < h0.length) (ha : h0.length ≤ a) : On ((a, x) :: l) h := by
  refine ⟨?_, fun p hp => ?_⟩
  · rw [List.map_cons, List.nodup_cons]
    refine ⟨fun hm => ?_, o.nd⟩
    obtain ⟨p, hp, e⟩ := List.mem_map.mp hm
    have := hl p hp
    have e' : p.1 = a := e
    omega
  · rcases List.mem_cons.mp hp with rfl | hp
    · exact ea
    · exact o.at_ p hp
/-- with the tape -/
structure Tn (p a : Nat) (ns : List Int) (l : Nodes) (h : Heap) : Prop where
  k : ∃ i r t, 0 ≤ i ∧ On ((p, .lst [.ref a, .int i, .int r, .int t]) :: (a, .lst (ns.map Val.int)) :: l) h
theorem Tn.on {p a : Nat} {ns : List Int} {l : Nodes} {h : Heap} (T : Tn p a ns l h) : On l h := by
  obtain ⟨i, r, t, _, o⟩ := T.k
  exact o.drop1.drop1
theorem Tn.ext {p a : Nat} {ns : List Int} {l : Nodes} {h h' : Heap} (T : Tn p a ns l h) (x : Ext h h') : Tn p a ns l h' := by
  obtain ⟨i, r, t, i0, o⟩ := T.k
  exact ⟨i, r, t, i0, o.ext x⟩
theorem Tn.perm {p a : Nat} {ns : List Int} {l l' : Nodes} {h : Heap} (T : Tn p a ns l h) (q : l.Perm l') : Tn p a ns l' h := by
  obtain ⟨i, r, t, i0, o⟩ := T.k
  exact ⟨i, r, t, i0, o.perm ((q.cons _).cons _)⟩
theorem Tn.tp {p a : Nat} {ns : List Int} {l : Nodes} {h : Heap} (T : Tn p a ns l h) : TP p a ns h := by
  obtain ⟨i, r, t, i0, o⟩ := T.k
  exact ⟨o.ne (i := 0) (j := 1) rfl rfl (by decide), o.get (i := 1) rfl, i, r, t, i0, o.get (i := 0) rfl⟩
theorem Tn.nep {p a : Nat} {ns : List Int} {l : Nodes} {h : Heap} (T : Tn p a ns l h) {q : Nat × Obj} (hq : q ∈ l) : q.1 ≠ p ∧ q.1 ≠ a := by
  obtain ⟨i, r, t, i0, o⟩ := T.k
  obtain ⟨j, hj⟩ := List.mem_iff_getElem?.mp hq
  obtain ⟨b, z⟩ := q
  exact ⟨o.ne (i := j + 2) (j := 0) (by simpa using hj) rfl (by omega), o.ne (i := j + 2) (j := 1) (by simpa using hj) rfl (by omega)⟩
theorem Tn.of {p a : Nat} {ns : List Int} {l : Nodes} {h : Heap} (T : TP p a ns h) (o : On l h) (n : ∀ q ∈ l, q.1 ≠ p ∧ q.1 ≠ a) : Tn p a ns l h := by
  obtain ⟨ne, ha, i, r, t, i0, hp⟩ := T
  refine ⟨i, r, t, i0, ?_, fun q hq => ?_⟩
  · rw [List.map_cons, List.map_cons, List.nodup_cons, List.nodup_cons]
    refine ⟨fun hm => ?_, fun hm => ?_, o.nd⟩
    · rcases List.mem_cons.mp hm with e | hm
      · exact ne e
      · obtain ⟨q, hq, e⟩ := List.mem_map.mp hm
        exact (n q hq).1 e
    · obtain ⟨q, hq, e⟩ := List.mem_map.mp hm
      exact (n q hq).2 e
  · rcases List.mem_cons.mp hq with rfl | hq
    · exact hp
    · rcases List.mem_cons.mp hq with rfl | hq
      · exact ha
      · exact o.at_ q hq
/-- what changes the places of A alone, under any frame -/
theorem Tn.op {p a : Nat} {ns : List Int} {A R : Nodes} {h : Heap} {α : Type} {P : α → Heap → Prop} {A' : α → Nodes} (T : Tn p a ns (A ++ R) h) (f : ∀ R, On (A ++ R) h → ∃ x h', P x h' ∧ On (A' x ++ R) h') : ∃ x h', P x h' ∧ Tn p a ns (A' x ++ R) h' := by
  obtain ⟨i, r, t, i0, o⟩ := T.k
  have pm : ∀ B : Nodes, ((p, Obj.lst [.ref a, .int i, .int r, .int t]) :: (a, .lst (ns.map Val.int)) :: (B ++ R)).Perm (B ++ ((p, .lst [.ref a, .int i, .int r, .int t]) :: (a, .lst (ns.map Val.int)) :: R)) := fun B =>
    (List.perm_append_comm_assoc [(p, Obj.lst [.ref a, .int i, .int r, .int t]), (a, .lst (ns.map Val.int))] B R)
  obtain ⟨x, h', q1, q2⟩ := f _ (o.perm (pm A))
  exact ⟨x, h', q1, i, r, t, i0, q2.perm (pm (A' x)).symm⟩
theorem Tn.nx {p a : Nat} {ns : List Int} {l : Nodes} {h h' : Heap} (T : Tn p a ns l h) (T' : TP p a ns h') (f : Fr p h h') : Tn p a ns l h' :=
  .of T' ⟨T.on.nd, fun q hq => f.at (T.nep hq).1 (T.on.at_ q hq)⟩ fun q hq => T.nep hq
theorem Tn.next {f : List Val → Heap → Res Val} (hf : f = m_next) {h : Heap} {p a : Nat} {ns : List Int} {l : Nodes} (T : Tn p a ns l h) {n : Int} (hn : 0 < n) (hn2 : n < 1073741824) :
    ∃ v h', 0 ≤ v ∧ v < n ∧ f [.ref p, .int n] h = .ok (.int v) h' ∧ Tn p a ns l h' := by
  obtain ⟨v, h', v0, v1, e, T', fr, _⟩ := T.tp.next hf hn hn2
  exact ⟨v, h', v0, v1, e, T.nx T' fr⟩
theorem Tn.next2 {f : List Val → Heap → Res Val} (hf : f = m_next2) {h : Heap} {p a : Nat} {ns : List Int} {l : Nodes} (T : Tn p a ns l h) {n : Int} (hn : 0 < n) (hn2 : n < 1073741824) :
    ∃ v h', 0 ≤ v ∧ v < n ∧ f [.ref p, .int n] h = .ok (.int v) h' ∧ Tn p a ns l h' := by
  obtain ⟨v, h', v0, v1, e, T', fr, _⟩ := T.tp.next2 hf hn hn2
  exact ⟨v, h', v0, v1, e, T.nx T' fr⟩
/-! wishes -/
section
variable {E : Nat → Heap → Prop} {Q : Val → Heap → Prop} {QU : Unit → Heap → Prop} {h : Heap} {D : K4} {s : En} {a : Nat} {x y z : Val} {ks : List Val} {mo my mz me : En → Heap → Res Val} {mk : En → Heap → Res (List Val)}
@[simp ↓] theorem wR_mDctT : wR (mDctT s h) E Q = Q (.ref h.length) (h ++ [.dcT []]) := rfl
@[simp ↓] theorem wR_mGet1 : wR (mGet1 mo my s h) E Q = wR (mo s h) E fun o h1 => isD o h1 = true ∧ wR (my s h1) E fun y h2 => wR (dGet o y .non h2) E Q := by
  unfold mGet1; simp only [wR_bind]; congr; funext o h1; split <;> simp_all
@[simp ↓] theorem wR_mGet2 : wR (mGet2 mo my mz s h) E Q = wR (mo s h) E fun o h1 => isD o h1 = true ∧ wR (my s h1) E fun y h2 => wR (mz s h2) E fun z h3 => wR (dGet o y z h3) E Q := by
  unfold mGet2; simp only [wR_bind]; congr; funext o h1; split <;> simp_all
@[simp ↓] theorem wR_mPop1 : wR (mPop1 mo my s h) E Q = wR (mo s h) E fun o h1 => isD o h1 = true ∧ wR (my s h1) E fun y h2 => wR (dPop1 o y h2) E Q := by
  unfold mPop1; simp only [wR_bind]; congr; funext o h1; split <;> simp_all
@[simp ↓] theorem wR_mPop2 : wR (mPop2 mo my mz s h) E Q = wR (mo s h) E fun o h1 => isD o h1 = true ∧ wR (my s h1) E fun y h2 => wR (mz s h2) E fun z h3 => wR (dPop2 o y z h3) E Q := by
  unfold mPop2; simp only [wR_bind]; congr; funext o h1; split <;> simp_all
@[simp ↓] theorem wR_mIxT : wR (mIxT mo mk s h) E Q = wR (mo s h) E fun o h1 => wR (mk s h1) E fun ks h2 => wR (tIx o ks h2) E Q := by unfold mIxT; simp
@[simp ↓] theorem wR_mInT {neg : Bool} : wR (mInT neg mk mo s h) E Q = wR (mk s h) E fun ks h1 => ks.length ≤ 1000 ∧ wR (mo s h1) E fun o h2 => wR (tIn neg ks o h2) E Q := by
  unfold mInT; simp only [wR_bind]; congr; funext o h1; split <;> (simp_all <;> (intros; omega))
@[simp ↓] theorem wR_mGetT1 : wR (mGetT1 mo mk s h) E Q = wR (mo s h) E fun o h1 => isD o h1 = true ∧ wR (mk s h1) E fun ks h2 => wR (tGet o ks .non h2) E Q := by
  unfold mGetT1; simp only [wR_bind]; congr; funext o h1; split <;> simp_all
@[simp ↓] theorem wR_mGetT2 : wR (mGetT2 mo mk mz s h) E Q = wR (mo s h) E fun o h1 => isD o h1 = true ∧ wR (mk s h1) E fun ks h2 => ks.length ≤ 1000 ∧ wR (mz s h2) E fun z h3 => wR (tGet o ks z h3) E Q := by
  unfold mGetT2; simp only [wR_bind]; congr; funext o h1; split
  · simp only [wR_bind, *, true_and]; congr; funext ks h2; split <;> (simp_all <;> (intros; omega))
  · simp_all
@[simp ↓] theorem wR_mPopT1 : wR (mPopT1 mo mk s h) E Q = wR (mo s h) E fun o h1 => isD o h1 = true ∧ wR (mk s h1) E fun ks h2 => wR (tPop1 o ks h2) E Q := by
  unfold mPopT1; simp only [wR_bind]; congr; funext o h1; split <;> simp_all
@[simp ↓] theorem wR_mPopT2 : wR (mPopT2 mo mk mz s h) E Q = wR (mo s h) E fun o h1 => isD o h1 = true ∧ wR (mk s h1) E fun ks h2 => ks.length ≤ 1000 ∧ wR (mz s h2) E fun z h3 => wR (tPop2 o ks z h3) E Q := by
  unfold mPopT2; simp only [wR_bind]; congr; funext o h1; split
  · simp only [wR_bind, *, true_and]; congr; funext ks h2; split <;> (simp_all <;> (intros; omega))
  · simp_all
@[simp ↓] theorem wS_sSubT : wS (sSubT mo mk me s h) D = wR (me s h) D.ex fun v h1 => wR (mo s h1) D.ex fun o h2 => wR (mk s h2) D.ex fun ks h3 => wR (tSet o ks v h3) D.ex fun _ h4 => D.nx s h4 := by unfold sSubT; simp
theorem isD_dct {d : List (Val × Val)} (e : h[a]? = some (.dct d)) : isD (.ref a) h = true := by simp [isD, e]
theorem isD_dcT {d : List (Val × Val)} (e : h[a]? = some (.dcT d)) : isD (.ref a) h = true := by simp [isD, e]
theorem dGet_at {d : List (Val × Val)} (e : h[a]? = some (.dct d)) (hk : isKey y = true) : dGet (.ref a) y z h = .ok ((lookV d y).getD z) h := by simp [dGet, e, hk]
theorem dPop1_at {d : List (Val × Val)} (e : h[a]? = some (.dct d)) (hk : isKey y = true) (hy : lookV d y = some x) : dPop1 (.ref a) y h = .ok x (h.set a (.dct (dropV d y))) := by simp [dPop1, e, hk, hy]
theorem tLook_at {d : List (Val × Val)} (e : h[a]? = some (.dcT d)) (hk : keysOk ks = true) : tLook (.ref a) ks h = some (lookV d (.tup ks)) := by simp [tLook, e, hk]
theorem tIx_at {d : List (Val × Val)} (e : h[a]? = some (.dcT d)) (hk : keysOk ks = true) (hy : lookV d (.tup ks) = some x) : tIx (.ref a) ks h = .ok x h := by simp [tIx, tLook_at e hk, hy]
theorem tIn_at {d : List (Val × Val)} {neg : Bool} (e : h[a]? = some (.dcT d)) (hk : keysOk ks = true) : tIn neg ks (.ref a) h = .ok (.bl (if neg then !(lookV d (.tup ks)).isSome else (lookV d (.tup ks)).isSome)) h := by simp [tIn, tLook_at e hk]
theorem tGet_at {d : List (Val × Val)} (e : h[a]? = some (.dcT d)) (hk : keysOk ks = true) : tGet (.ref a) ks z h = .ok ((lookV d (.tup ks)).getD z) h := by simp [tGet, tLook_at e hk]
theorem tPop1_at {d : List (Val × Val)} (e : h[a]? = some (.dcT d)) (hk : keysOk ks = true) (hy : lookV d (.tup ks) = some x) : tPop1 (.ref a) ks h = .ok x (h.set a (.dcT (dropV d (.tup ks)))) := by simp [tPop1, tLook_at e hk, hy, tDrop, e]
theorem tSet_at {d : List (Val × Val)} (e : h[a]? = some (.dcT d)) (hk : keysOk ks = true) (hl : d.length < lim) : tSet (.ref a) ks x h = .ok () (h.set a (.dcT (putV d (.tup ks) x))) := by simp [tSet, e, hk, hl]
end
theorem lookV_drop {d : List (Val × Val)} {k j : Val} : lookV (dropV d k) j = if j = k then none else lookV d j := by
  unfold lookV dropV
  by_cases e : j = k
  · rw [if_pos e, List.find?_eq_none.mpr]
    · rfl
    · intro x hx
      have := (List.mem_filter.mp hx).2
      simp only [decide_eq_true_eq] at this ⊢
      rw [e]; exact this
  · rw [if_neg e]
    congr 1
    rw [List.find?_filter]
    congr 1
    funext x
    by_cases q : x.1 = j
    · simp [q, e]
    · simp [q]
theorem dropV_none {d : List (Val × Val)} {k : Val} (e : lookV d k = none) : dropV d k = d := by
  unfold lookV at e
  unfold dropV
  rw [List.filter_eq_self]
  intro x hx
  simp only [Option.map_eq_none_iff, List.find?_eq_none] at e
  have := e x hx
  simpa using this
theorem dropV_len {d : List (Val × Val)} {k : Val} : (dropV d k).length ≤ d.length := List.length_filter_le ..
/-- d.pop(k, x): the dict without k, whether it was there or not -/
theorem tPop2_at {d : List (Val × Val)} {h : Heap} {a : Nat} {ks : List Val} {z : Val} (e : h[a]? = some (.dcT d)) (hk : keysOk ks = true) : tPop2 (.ref a) ks z h = .ok ((lookV d (.tup ks)).getD z) (h.set a (.dcT (dropV d (.tup ks)))) := by
  unfold tPop2
  rw [tLook_at e hk]
  cases q : lookV d (.tup ks) with
  | some v => simp [tDrop, e]
  | none =>
    have : h.set a (.dcT (dropV d (.tup ks))) = h := by
      rw [dropV_none q]
      apply List.ext_getElem?
      intro i
      rw [List.getElem?_set]
      split
      · rename_i hi
        subst hi
        rw [if_pos (at_lt e), e]
      · rfl
    simp [this]
end PyM
namespace PyM
/-- while, by an invariant with a measure -/
theorem wS_whM {c : En → Heap → Res Bool} {body : En → Heap → RS} {D : K4} (Inv : Nat → En → Heap → Prop)
    (hs : ∀ m s h, Inv m s h → wR (c s h) D.ex fun b h1 => if b = true then wS (body s h1) { D with nx := fun s' h' => ∃ m' < m, Inv m' s' h', ct := fun s' h' => ∃ m' < m, Inv m' s' h', bk := D.nx } else D.nx s h1) :
    ∀ (n m : Nat) (s : En) (h : Heap), m < n → Inv m s h → wS (whM c body n s h) D
  | 0, m, _, _, hm, _ => by omega
  | n + 1, m, s, h, hm, hi => by
    have w := hs m s h hi
    unfold whM
    cases e : c s h with
    | ok b h1 =>
      rw [e] at w
      simp only [wR_ok] at w
      cases b with
      | false => simpa using w
      | true =>
        simp only [Res.thenS, if_true] at w ⊢
        cases eb : body s h1 with
        | nx s2 h2 =>
          rw [eb] at w
          obtain ⟨m', h1, h2'⟩ := w
          exact wS_whM Inv hs n m' _ _ (by omega) h2'
        | ct s2 h2 =>
          rw [eb] at w
          obtain ⟨m', h1, h2'⟩ := w
          exact wS_whM Inv hs n m' _ _ (by omega) h2'
        | bk s2 h2 => rw [eb] at w; exact w
        | rt v h2 => rw [eb] at w; exact w
        | raised a h2 => rw [eb] at w; exact w
        | stuck => rw [eb] at w; exact w
    | raised a h1 => rw [e] at w; exact w
    | stuck => rw [e] at w; exact w
end PyM

set_option Elab.async false
set_option linter.all false
set_option autoImplicit false
set_option maxHeartbeats 4000000
/-! wishes for loops over dicts; heaps with a new end -/
namespace PyM
section
variable {h : Heap} {D : K4} {s : En} {me : En → Heap → Res Val} {tg : Val → En → Option En} {body : En → Heap → RS} {n : Nat}
theorem wS_unlS {x : RS} : wS (unlS n x) D = wS x { nx := fun s' h' => (match unlH n h' with | some h2 => D.nx s' h2 | none => False), rt := fun v h' => (match unlH n h' with | some h2 => D.rt v h2 | none => False) } := by
  cases x with
  | nx a b => simp only [unlS, wS_nx]; split <;> simp_all
  | rt a b => simp only [unlS, wS_rt]; split <;> simp_all
  | _ => rfl
@[simp ↓] theorem wS_sForD : wS (sForD me tg body s h) D = wR (me s h) D.ex fun x h1 => (match x with
    | .ref n => (match lockD n h1 with
      | some (ks, h2) => wS (forM_ (fun _ => true) tg body ks s h2) { nx := fun s' h' => (match unlH n h' with | some h2 => D.nx s' h2 | none => False), rt := fun v h' => (match unlH n h' with | some h2 => D.rt v h2 | none => False) }
      | none => False)
    | _ => False) := by
  unfold sForD
  simp only [wS_thenS]
  congr; funext x h1
  cases x with
  | ref m =>
    simp only
    cases e : lockD m h1 with
    | none => rfl
    | some p => obtain ⟨ks, h2⟩ := p; exact wS_unlS
  | _ => rfl
theorem lockD_dct {d : List (Val × Val)} (e : h[n]? = some (.dct d)) : lockD n h = some (d.map (·.1), h.set n (.fdc d)) := by simp [lockD, e]
theorem lockD_dcT {d : List (Val × Val)} (e : h[n]? = some (.dcT d)) : lockD n h = some (d.map (·.1), h.set n (.fdT d)) := by simp [lockD, e]
theorem unlH_fdc {d : List (Val × Val)} (e : h[n]? = some (.fdc d)) : unlH n h = some (h.set n (.dct d)) := by simp [unlH, e]
theorem unlH_fdT {d : List (Val × Val)} (e : h[n]? = some (.fdT d)) : unlH n h = some (h.set n (.dcT d)) := by simp [unlH, e]
end
end PyM

set_option Elab.async false
set_option linter.all false
set_option autoImplicit false
set_option maxRecDepth 100000
set_option maxHeartbeats 4000000
/-! == and != of lists, tuples and dicts (keys whole numbers) in one another; more rules for dicts and lists -/
namespace PyM
open PySem L2

def isIV : Val → Bool
  | .int _ => true
  | _ => false
def hitsM (f : Val → Val → Option Bool) (e : List (Val × Val)) : List (Val × Val) → Option Bool
  | [] => some true
  | (k, v) :: r => match lookV e k with
    | none => some false
    | some u => match f v u, hitsM f e r with
      | some b1, some b2 => some (b1 && b2)
      | _, _ => none
def eqStep (f : Val → Val → Option Bool) (h : Heap) (x y : Val) : Option Bool := match x, y with
  | .tup xs, .tup ys => match optAll (fun p : Val × Val => f p.1 p.2) (xs.zip ys) with
    | some bs => some (bs.all id && xs.length == ys.length)
    | none => none
  | .ref a, .ref b => match h[a]?, h[b]? with
    | some (.lst xs), some (.lst ys) => if xs.length = ys.length then (match optAll (fun p : Val × Val => f p.1 p.2) (xs.zip ys) with
      | some bs => some (bs.all id)
      | none => none) else some false
    | some (.dct d), some (.dct e) => if d.all (fun kv => isIV kv.1) = true ∧ e.all (fun kv => isIV kv.1) = true then (if d.length = e.length then hitsM f e d else some false) else none
    | _, _ => none
  | _, _ => none
def eqH : Nat → Heap → Val → Val → Option Bool
  | 0, _, _, _ => none
  | n + 1, h, x, y => match conv 40 h x, conv 40 h y with
    | some d, some e => some (deq d e)
    | _, _ => match x, y with
      | .ref a, .ref b => if a = b then some true else eqStep (eqH n h) h (.ref a) (.ref b)
      | x, y => eqStep (eqH n h) h x y
def nonD (h : Heap) (x y : Val) : Bool := match x, y with
  | .non, .ref a => match h[a]? with
    | some (.dct _) => true
    | _ => false
  | _, _ => false
def oEqH (neg : Bool) (x y : Val) (h : Heap) : Res Val := match conv 40 h x, conv 40 h y with
  | some d, some e => .ok (.bl (if neg then !deq d e else deq d e)) h
  | _, _ => match eqStep (eqH 20 h) h x y with
    | some b => .ok (.bl (if neg then !b else b)) h
    | none => if nonD h x y = true then .ok (.bl neg) h else .stuck

section
variable {G : Cfg} {r : List Addr} {H : Hp} {h : Heap} {X : Cx} {pins : List (Addr × PySem.Obj)} {s : Shared} {σ : St}
theorem same_all {α : Type} {g : Val → Option α} (k : ∀ x y v d e, VR G r H x v → VR G r H y v → g x = some d → g y = some e → d = e) : ∀ (xs ys : List Val) (vs : List V) (ds es : List α), VRs G r H xs vs → VRs G r H ys vs → optAll g xs = some ds → optAll g ys = some es → ds = es := by
  intro xs
  induction xs with
  | nil =>
    intro ys vs ds es a b e1 e2
    cases a
    cases b
    simp [optAll] at e1 e2
    subst e1; subst e2; rfl
  | cons x xs ih =>
    intro ys vs ds es a b e1 e2
    cases a with
    | cons a1 a2 =>
      cases b with
      | cons b1 b2 =>
        simp only [optAll] at e1 e2
        split at e1
        · rename_i d1 l1 q1 q2
          split at e2
          · rename_i d2 l2 q3 q4
            cases e1
            cases e2
            rw [k _ _ _ _ _ a1 b1 q1 q3, ih _ _ _ _ a2 b2 q2 q4]
          · cases e2
        · cases e1
/-- what stands at an address, if a list -/
theorem list_at (R : HR G r H h) {n : Nat} {a : Addr} {xs : List Val} (ha : r[n]? = some a) (e : h[n]? = some (.lst xs) ∨ h[n]? = some (.fls xs)) : ∃ vs, SqL G.K H a vs ∧ VRs G r H xs vs := by
  rcases e with e | e
  · cases R.ob _ _ _ e ha with
    | lst hl hv => exact ⟨_, SqL.of hl, hv⟩
  · cases R.ob _ _ _ e ha with
    | fls hl hv => exact ⟨_, hl.sq, hv⟩
theorem tl_not (I : Inv X pins σ H s) {a : Addr} {xs ys : List V} (h1 : SqT X.K H a xs) (h2 : SqL X.K H a ys) : False := by
  obtain ⟨_, _, ⟨o, e, c, _⟩, _⟩ := I.tuple h1
  obtain ⟨_, _, ⟨o', n, e', c', _⟩, _⟩ := I.list h2
  rw [e] at e'
  cases e'
  rw [c] at c'
  exact absurd (Value.type.inj c') (by decide)
theorem conv_same (ok : G.Ok) (hK : X.K = G.K) (I : Inv X pins σ H s) (R : HR G r H h) : ∀ (n : Nat) (x y : Val) (v : V) (d e : D), VR G r H x v → VR G r H y v → conv n h x = some d → conv n h y = some e → d = e
  | 0, _, _, _, _, _, _, _, e1, _ => by simp [conv] at e1
  | n + 1, x, y, v, d, e, q1, q2, e1, e2 => by
    have ih := fun x y v d e => conv_same ok hK I R n x y v d e
    have seqs : ∀ {xs ys : List Val} {vs : List V} {ds es : List D}, VRs G r H xs vs → VRs G r H ys vs → optAll (conv n h) xs = some ds → optAll (conv n h) ys = some es → ds = es := fun a b c d => same_all ih _ _ _ _ _ a b c d
    have reft : ∀ {m : Nat} {a : Addr} {d : D}, r[m]? = some a → conv (n + 1) h (.ref m) = some d → ∃ xs vs ds, SqL G.K H a vs ∧ VRs G r H xs vs ∧ optAll (conv n h) xs = some ds ∧ d = .lst ds := by
      intro m a d ha e
      simp only [conv] at e
      split at e
      · rename_i xs eo
        obtain ⟨ds, e1, rfl⟩ := Option.map_eq_some_iff.mp e
        obtain ⟨vs, p1, p2⟩ := list_at R ha (.inl eo)
        exact ⟨xs, vs, ds, p1, p2, e1, rfl⟩
      · rename_i xs eo
        obtain ⟨ds, e1, rfl⟩ := Option.map_eq_some_iff.mp e
        obtain ⟨vs, p1, p2⟩ := list_at R ha (.inr eo)
        exact ⟨xs, vs, ds, p1, p2, e1, rfl⟩
      · cases e
    cases q1 with
    | non => cases q2; rw [e1] at e2; cases e2; rfl
    | bl b => cases q2; rw [e1] at e2; cases e2; rfl
    | int b => cases q2; rw [e1] at e2; cases e2; rfl
    | @str m z hz =>
      cases q2 with
      | @str m' _ hz' =>
        have : m = m' := by
          obtain ⟨l1, g1⟩ := List.getElem?_eq_some_iff.mp hz
          obtain ⟨l2, g2⟩ := List.getElem?_eq_some_iff.mp hz'
          exact (List.getElem_inj ok.nd).mp (g1.trans g2.symm)
        subst this
        rw [e1] at e2; cases e2; rfl
    | @tup xs vs a hs hv =>
      cases q2 with
      | @tup ys us _ hs' hv' =>
        have : vs = us := by have hs := hs.1; have hs' := hs'.1; rw [← hK] at hs hs'; exact I.tuple_inj hs hs'
        subst this
        simp only [conv] at e1 e2
        obtain ⟨ds, k1, rfl⟩ := Option.map_eq_some_iff.mp e1
        obtain ⟨es, k2, rfl⟩ := Option.map_eq_some_iff.mp e2
        rw [seqs hv hv' k1 k2]
      | @ref m _ ha =>
        obtain ⟨_, _, _, p1, _⟩ := reft ha e2
        have hs := hs.1
        rw [← hK] at hs p1
        exact (tl_not I hs p1).elim
    | @ref m a ha =>
      obtain ⟨xs, vs, ds, p1, p2, p3, rfl⟩ := reft ha e1
      cases q2 with
      | @tup ys us _ hs' hv' =>
        have hs' := hs'.1
        rw [← hK] at hs' p1
        exact (tl_not I hs' p1).elim
      | @ref m' _ ha' =>
        obtain ⟨ys, us, es, p1', p2', p3', rfl⟩ := reft ha' e2
        have : vs = us := by rw [← hK] at p1 p1'; exact I.list_inj p1 p1'
        subst this
        rw [seqs p2 p2' p3 p3']

/-! the machine's == -/
theorem dictOf_any {P P' : Program} {w w' : World} {hp : PySem.Heap} {a : Addr} {vs : List (L2.Key × Value)} (hd : hp.DictOf (mixKind P w) a vs) (hk : ∀ p ∈ vs, ∃ i, p.1 = Sum.inl i) : hp.DictOf (mixKind P' w') a vs := by
  obtain ⟨o, es, ep, h1, h2, h3, h4, h5, h6⟩ := hd
  have ps : ∀ {l : List DictEntry} {m : List (L2.Key × Value)}, Pairs (mixKind P w) l m → Pairs (mixKind P' w') l m := by
    intro l m q
    induction q with
    | nil => exact .nil
    | cons a b _ ih => exact .cons a b ih
  refine ⟨o, es, ep, h1, h2, h3, fun e he => ?_, ps h5, h6⟩
  have key : ∀ {l : List DictEntry} {m : List (L2.Key × Value)}, Pairs (mixKind P w) l m → (∀ p ∈ m, ∃ i, p.1 = Sum.inl i) → ∀ e ∈ l, ∃ i, (mixKind P w).is (Sum.inl i) e.key = true := by
    intro l m q
    induction q with
    | nil => intro _ e he; exact nomatch he
    | @cons e0 kv es kvs a b _ ih =>
      intro hm e he
      rcases List.mem_cons.mp he with rfl | he
      · obtain ⟨i, hi⟩ := hm kv List.mem_cons_self
        exact ⟨i, hi ▸ a⟩
      · exact ih (fun p hp => hm p (List.mem_cons_of_mem _ hp)) e he
  obtain ⟨k, hk1, hk2⟩ := h4 e he
  obtain ⟨i, hi⟩ := key h5 hk e (Array.mem_def.mp he)
  have hki : k = Sum.inl i := (mixKind P w).inj _ _ _ hk1 hi
  subst hki
  exact ⟨Sum.inl i, hi, hk2⟩
theorem DR.isI {d : List (Val × Val)} {e : List (L2.Key × V)} (q : DR G r H d e) (hk : d.all (fun kv => isIV kv.1) = true) : ∀ p ∈ e, ∃ i, p.1 = Sum.inl i := by
  induction q with
  | nil => intro p hp; exact nomatch hp
  | @cons k x q' v d e a b _ ih =>
    rw [List.all_cons, Bool.and_eq_true] at hk
    intro p hp
    rcases List.mem_cons.mp hp with rfl | hp
    · cases a with
      | int i => exact ⟨i, rfl⟩
      | str _ => simp [isIV] at hk
    · exact ih hk.2 p hp
theorem KR_inj (ok : G.Ok) {k k' : Val} {q q' : L2.Key} (a : KR G k q) (b : KR G k' q') : (k = k') ↔ (q = q') := by
  cases a with
  | int i => cases b with
    | int j => simp
    | str _ => simp
  | @str n x e => cases b with
    | int j => simp
    | @str m y e' =>
      constructor
      · intro h; injection h with h; subst h; rw [e] at e'; cases e'; rfl
      · intro h; injection h with h; subst h
        obtain ⟨l1, g1⟩ := List.getElem?_eq_some_iff.mp e
        obtain ⟨l2, g2⟩ := List.getElem?_eq_some_iff.mp e'
        rw [(List.getElem_inj ok.nd).mp (g1.trans g2.symm)]
theorem DR.length {d : List (Val × Val)} {e : List (L2.Key × V)} (q : DR G r H d e) : d.length = e.length := by
  induction q with
  | nil => rfl
  | cons _ _ _ ih => simp [ih]
/-- equal things at one machine value -/
theorem RelV.ref_eq {a : Addr} {u : Value} (q : RelV (.ref a) u) : u = .ref a := by cases q; rfl
def EqF (A : Around) (s : Shared) (G : Cfg) (r : List Addr) (H : Hp) (f : Val → Val → Option Bool) : Prop := ∀ x y v u vv uu b, VR G r H x v → VR G r H y u → RelV v vv → RelV u uu → f x y = some b → SeqAt.EqAt A s vv uu b
theorem zip_eq {A : Around} {f : Val → Val → Option Bool} (F : EqF A s G r H f) : ∀ (xs ys : List Val) (vs us : List V) (its its' : List Value) (bs : List Bool), VRs G r H xs vs → VRs G r H ys us → Vals vs its → Vals us its' → optAll (fun p : Val × Val => f p.1 p.2) (xs.zip ys) = some bs →
    bs.length = min its.length its'.length ∧ ∀ (j : Nat) (h1 : j < its.length) (h2 : j < its'.length), SeqAt.EqAt A s its[j] its'[j] (bs.getD j false) := by
  intro xs
  induction xs with
  | nil =>
    intro ys vs us its its' bs a b c d e
    cases a
    cases c
    simp [optAll] at e
    subst e
    exact ⟨by simp, fun j h1 _ => by simp at h1⟩
  | cons x xs ih =>
    intro ys vs us its its' bs a b c d e
    cases a with
    | cons a1 a2 =>
      cases c with
      | cons c1 c2 =>
        cases b with
        | nil =>
          cases d
          simp [optAll] at e
          subst e
          exact ⟨by simp, fun j _ h2 => by simp at h2⟩
        | cons b1 b2 =>
          cases d with
          | cons d1 d2 =>
            rw [List.zip_cons_cons] at e
            simp only [optAll] at e
            split at e
            · rename_i q1 l1 k1 k2
              cases e
              obtain ⟨i1, i2⟩ := ih _ _ _ _ _ _ a2 b2 c2 d2 k2
              refine ⟨by simp [i1], fun j h1 h2 => ?_⟩
              cases j with
              | zero => exact F _ _ _ _ _ _ _ a1 b1 c1 d1 k1
              | succ j => simpa using i2 j (by simpa using h1) (by simpa using h2)
            · cases e
theorem all_getD {bs : List Bool} : (List.range bs.length).all (fun j => bs.getD j false) = bs.all id := by
  rw [Bool.eq_iff_iff, List.all_eq_true, List.all_eq_true]
  constructor
  · intro q b hb
    obtain ⟨j, hj⟩ := List.mem_iff_getElem?.mp hb
    have := q j (List.mem_range.mpr (List.getElem?_eq_some_iff.mp hj).1)
    rw [List.getD_eq_getElem?_getD, hj] at this
    exact this
  · intro q j hj
    have hl := List.mem_range.mp hj
    rw [List.getD_eq_getElem?_getD, List.getElem?_eq_getElem hl]
    exact q _ (List.getElem_mem hl)
theorem hits_eq (ok : G.Ok) {A : Around} {f : Val → Val → Option Bool} (F : EqF A s G r H f) {e : List (Val × Val)} {es : List (L2.Key × V)} {vb : List (L2.Key × Value)} (re : DR G r H e es) (rb : KV es vb) : ∀ (d : List (Val × Val)) (ds : List (L2.Key × V)) (va : List (L2.Key × Value)) (b : Bool), DR G r H d ds → KV ds va → hitsM f e d = some b → PySem.W.KeqHits A s vb va b := by
  intro d
  induction d with
  | nil =>
    intro ds va b a c q
    cases a
    cases c
    simp [hitsM] at q
    subst q
    exact .nil
  | cons p d ih =>
    intro ds va b a c q
    cases a with
    | @cons k x κ v _ _ a1 a2 a3 =>
      cases c with
      | @cons _ w _ _ c1 c2 =>
        obtain ⟨κ', vv⟩ := w
        obtain ⟨c3, c4⟩ := c1
        have c3' : κ = κ' := c3
        subst c3'
        simp only [hitsM] at q
        rcases re.look ok a1 with ⟨l0, l1⟩ | ⟨u, uv, l0, l1, l2⟩
        · rw [l0] at q
          cases q
          exact .miss (RelO.none_of (by rw [← l1]; exact rb.val κ))
        · rw [l0] at q
          obtain ⟨y, hy, ry⟩ := RelO.some_of (v := uv) (o := valueAt vb κ) (by rw [← l1]; exact rb.val κ)
          simp only at q
          split at q
          · rename_i b1 b2 k1 k2
            cases q
            exact .hit hy (F _ _ _ _ _ _ _ a2 l2 c4 ry k1) (ih _ _ _ a3 c2 k2)
          · cases q

theorem rl_ref {a : Addr} {u : Value} (q : RelV (.ref a) u) : u = .ref a := q
theorem vr_lst (R : HR G r H h) {n : Nat} {v : V} {vv : Value} {xs : List Val} (q : VR G r H (.ref n) v) (rl : RelV v vv) (e : h[n]? = some (.lst xs)) : ∃ a vs, vv = .ref a ∧ SqL G.K H a vs ∧ VRs G r H xs vs := by
  cases q with
  | @ref _ a ha =>
    obtain ⟨vs, p1, p2⟩ := list_at R ha (.inl e)
    exact ⟨a, vs, rl_ref rl, p1, p2⟩
theorem vr_dct (R : HR G r H h) {n : Nat} {v : V} {vv : Value} {d : List (Val × Val)} (q : VR G r H (.ref n) v) (rl : RelV v vv) (e : h[n]? = some (.dct d)) : ∃ a es, vv = .ref a ∧ H a = some (.dK es) ∧ DR G r H d es := by
  cases q with
  | @ref _ a ha =>
    cases R.ob _ _ _ e ha with
    | dct p1 p2 => exact ⟨a, _, rl_ref rl, p1, p2⟩
theorem plist {hp : PySem.Heap} {a : Addr} {its : Array Value} (q : PlainL hp a its) : hp.IsList a its := by
  obtain ⟨o, n, e, c, _, d⟩ := q
  exact ⟨o, e, c, n, d⟩
theorem min_len {a b : Nat} : min a b = a ∧ a ≤ b ∨ min a b = b ∧ b ≤ a := by omega
theorem step_eq (ok : G.Ok) (hK : X.K = G.K) (I : Inv X pins σ H s) (R : HR G r H h) {A : Around} {f : Val → Val → Option Bool} (F : EqF A.in1 s G r H f) (hu : A.units < cLine) {x y : Val} {v u : V} {vv uu : Value} {b : Bool} (q1 : VR G r H x v) (q2 : VR G r H y u) (r1 : RelV v vv) (r2 : RelV u uu) (e : eqStep f h x y = some b) :
    SeqAt.RcAt A s vv uu b ∧ SeqAt.RcNeAt A s vv uu (!b) := by
  unfold eqStep at e
  split at e
  · rename_i xs ys
    cases q1 with
    | @tup _ vs a hs hv => cases q2 with
      | @tup _ us a' hs' hv' =>
        split at e
        · rename_i bs hb
          cases e
          have hs := hs.1
          have hs' := hs'.1
          rw [← hK] at hs hs'
          obtain ⟨its, k1, k2, _⟩ := I.tuple hs
          obtain ⟨its', k3, k4, _⟩ := I.tuple hs'
          obtain ⟨z1, z2⟩ := zip_eq F _ _ _ _ _ _ _ hv hv' k1 k3 hb
          have l1 : xs.length = its.length := (hv.len).trans k1.length
          have l2 : ys.length = its'.length := (hv'.len).trans k3.length
          have e1 := rl_ref r1
          have e2 := rl_ref r2
          subst e1
          subst e2
          have hz : (bs.all id && xs.length == ys.length) = ((List.range (min its.toArray.size its'.toArray.size)).all (fun j => bs.getD j false) && its.toArray.size == its'.toArray.size) := by
            rw [List.size_toArray, List.size_toArray, ← z1, all_getD, l1, l2]
          rw [hz]
          have he : ∀ j (h1 : j < its.toArray.size) (h2 : j < its'.toArray.size), SeqAt.EqAt A.in1 s its.toArray[j] its'.toArray[j] ((fun j => bs.getD j false) j) := fun j h1 h2 => by
            simpa using z2 j (by simpa using h1) (by simpa using h2)
          exact ⟨SeqAt.RcAt.tuples k2 k4 hu he, SeqAt.RcNeAt.tuples k2 k4 hu he⟩
        · cases e
  · rename_i n m
    split at e
    · rename_i xs ys eo1 eo2
      obtain ⟨a, vs, e1, p1, hv⟩ := vr_lst R q1 r1 eo1
      obtain ⟨a', us, e2, p2, hv'⟩ := vr_lst R q2 r2 eo2
      rw [← hK] at p1 p2
      obtain ⟨its, k1, k2, _⟩ := I.list p1
      obtain ⟨its', k3, k4, _⟩ := I.list p2
      have l1 : xs.length = its.length := (hv.len).trans k1.length
      have l2 : ys.length = its'.length := (hv'.len).trans k3.length
      subst e1
      subst e2
      split at e
      · rename_i hl
        split at e
        · rename_i bs hb
          cases e
          obtain ⟨z1, z2⟩ := zip_eq F _ _ _ _ _ _ _ hv hv' k1 k3 hb
          have hsz : its.toArray.size = its'.toArray.size := by rw [List.size_toArray, List.size_toArray, ← l1, ← l2, hl]
          have hz : bs.all id = (List.range its.toArray.size).all (fun j => bs.getD j false) := by
            have : its.toArray.size = bs.length := by rw [List.size_toArray, z1]; omega
            rw [this, all_getD]
          rw [hz]
          have he : ∀ j (h1 : j < its.toArray.size) (h2 : j < its'.toArray.size), SeqAt.EqAt A.in1 s its.toArray[j] its'.toArray[j] ((fun j => bs.getD j false) j) := fun j h1 h2 => by
            simpa using z2 j (by simpa using h1) (by simpa using h2)
          exact ⟨SeqAt.RcAt.lists (plist k2) (plist k4) hsz hu he, SeqAt.RcNeAt.lists (plist k2) (plist k4) hsz hu he⟩
        · cases e
      · rename_i hl
        cases e
        have hsz : (its.toArray.size != its'.toArray.size) = true := by
          rw [List.size_toArray, List.size_toArray, ← l1, ← l2]; simpa using hl
        exact ⟨SeqAt.RcAt.lists_lengths (plist k2) (plist k4) hsz hu, SeqAt.RcNeAt.lists_lengths (plist k2) (plist k4) hsz hu⟩
    · rename_i d e' eo1 eo2
      obtain ⟨a, es, e1, p1, hv⟩ := vr_dct R q1 r1 eo1
      obtain ⟨a', es', e2, p2, hv'⟩ := vr_dct R q2 r2 eo2
      obtain ⟨_, ya, va, ra, da⟩ := dk_of I.hok p1
      obtain ⟨_, yb, vb, rb, db⟩ := dk_of I.hok p2
      have l1 := (hv.len).trans ra.length
      have l2 := (hv'.len).trans rb.length
      subst e1
      subst e2
      split at e
      · rename_i hi
        have ka : ∀ p ∈ va, ∃ i, p.1 = Sum.inl i := fun p hp => by
          have hm : p.1 ∈ es.map (·.1) := by rw [ra.keys]; exact List.mem_map_of_mem hp
          obtain ⟨p', hp', e'⟩ := List.mem_map.mp hm
          obtain ⟨i, hi'⟩ := hv.isI hi.1 p' hp'
          exact ⟨i, by rw [← e', hi']⟩
        have kb : ∀ p ∈ vb, ∃ i, p.1 = Sum.inl i := fun p hp => by
          have hm : p.1 ∈ es'.map (·.1) := by rw [rb.keys]; exact List.mem_map_of_mem hp
          obtain ⟨p', hp', e'⟩ := List.mem_map.mp hm
          obtain ⟨i, hi'⟩ := hv'.isI hi.2 p' hp'
          exact ⟨i, by rw [← e', hi']⟩
        have hits : va.length = vb.length → ∃ c, PySem.W.KeqHits A.in1 s vb va c ∧ c = b := fun hl => by
          rw [if_pos (by omega)] at e
          exact ⟨b, hits_eq ok F hv' rb _ _ _ _ hv ra e, rfl⟩
        have hb : b = (va.length == vb.length && b) := by
          by_cases hl : va.length = vb.length
          · simp [hl]
          · rw [if_neg (by omega)] at e
            cases e
            simp
        refine ⟨fun P w E Q h' => ?_, fun P w E Q h' => ?_⟩
        · refine PySem.W.keq_eq (knd := mixKind P w) (r := b) ya yb (dictOf_any da ka) (dictOf_any db kb) hu (fun hl => ?_) (by rw [← hb]; exact h')
          obtain ⟨c, k, rfl⟩ := hits hl
          exact k
        · refine PySem.W.keq_ne (knd := mixKind P w) (r := b) ya yb (dictOf_any da ka) (dictOf_any db kb) hu (fun hl => ?_) (by rw [← hb]; exact h')
          obtain ⟨c, k, rfl⟩ := hits hl
          exact k
      · cases e
    · cases e
  · cases e
theorem ref_nd (R : HR G r H h) {n m : Nat} {a : Addr} {f : Val → Val → Option Bool} {b : Bool} (e : eqStep f h (.ref n) (.ref m) = some b) (h1 : r[n]? = some a) (h2 : r[m]? = some a) : n = m := by
  have key : ∀ o o', h[n]? = some o → h[m]? = some o' → isFls o = false → isFls o' = false → n = m := fun o o' e1 e2 f1 f2 => R.nd _ _ _ _ _ e1 e2 h1 h2 f1 f2
  simp only [eqStep] at e
  split at e
  · rename_i e1 e2; exact key _ _ e1 e2 rfl rfl
  · rename_i e1 e2; exact key _ _ e1 e2 rfl rfl
  · cases e
theorem eqH_same (ok : G.Ok) (hK : X.K = G.K) (I : Inv X pins σ H s) (R : HR G r H h) : ∀ (n : Nat) (x y : Val) (v : V) (b : Bool), VR G r H x v → VR G r H y v → eqH n h x y = some b → b = true
  | 0, _, _, _, _, _, _, e => by simp [eqH] at e
  | n + 1, x, y, v, b, q1, q2, e => by
    have ih := eqH_same ok hK I R n
    have zips : ∀ (xs ys : List Val) (vs : List V) (bs : List Bool), VRs G r H xs vs → VRs G r H ys vs → optAll (fun p : Val × Val => eqH n h p.1 p.2) (xs.zip ys) = some bs → bs.all id = true ∧ xs.length = ys.length := by
      intro xs
      induction xs with
      | nil =>
        intro ys vs bs a c e
        cases a; cases c
        simp [optAll] at e
        subst e
        exact ⟨rfl, rfl⟩
      | cons x xs ih2 =>
        intro ys vs bs a c e
        cases a with
        | cons a1 a2 => cases c with
          | cons c1 c2 =>
            rw [List.zip_cons_cons] at e
            simp only [optAll] at e
            split at e
            · rename_i q1 l1 k1 k2
              cases e
              have z := ih2 _ _ _ a2 c2 k2
              have z1 := ih _ _ _ _ a1 c1 k1
              exact ⟨by rw [List.all_cons, z1, z.1]; rfl, by simp [z.2]⟩
            · cases e
    unfold eqH at e
    split at e
    · rename_i d d' h1 h2
      cases e
      rw [conv_same ok hK I R _ _ _ _ _ _ q1 q2 h1 h2]
      exact deq_refl _
    · split at e
      · rename_i n' m'
        split at e
        · cases e; rfl
        · rename_i hnm
          cases q1 with
          | ref h1 => cases q2 with
            | ref h2 => exact absurd (ref_nd R e h1 h2) hnm
      · rename_i hno
        cases q1 with
        | @tup xs vs a hs hv => cases q2 with
          | @tup ys us _ hs' hv' =>
            have : vs = us := by have hs := hs.1; have hs' := hs'.1; rw [← hK] at hs hs'; exact I.tuple_inj hs hs'
            subst this
            unfold eqStep at e
            simp only at e
            split at e
            · rename_i bs hb
              cases e
              obtain ⟨z1, z2⟩ := zips _ _ _ _ hv hv' hb
              simp [z1, z2]
            · cases e
          | ref h2 => simp [eqStep] at e
        | @ref m a h1 => cases q2 with
          | @tup ys us _ hs' hv' => simp [eqStep] at e
          | ref h2 => exact (hno _ _ rfl rfl).elim
        | non => simp [eqStep] at e
        | bl _ => simp [eqStep] at e
        | int _ => simp [eqStep] at e
        | str _ => simp [eqStep] at e
theorem eqH_at (ok : G.Ok) (hK : X.K = G.K) (I : Inv X pins σ H s) (R : HR G r H h) : ∀ (n : Nat) (A : Around), A.units + n + 66 < cLine → EqF A.in1 s G r H (eqH n h)
  | 0, A, _ => fun x y v u vv uu b _ _ _ _ e => by simp [eqH] at e
  | n + 1, A, hu => fun x y v u vv uu b q1 q2 r1 r2 e => by
    have ih : EqF A.in1.in1 s G r H (eqH n h) := eqH_at ok hK I R n A.in1 (by show A.units + 1 + n + 66 < cLine; omega)
    have hu1 : A.in1.units < cLine := by show A.units + 1 < cLine; omega
    have e0 := e
    unfold eqH at e
    split at e
    · rename_i d d' h1 h2
      cases e
      obtain ⟨d1, w1⟩ := conv_dp R _ _ _ _ q1 h1
      obtain ⟨d2, w2⟩ := conv_dp R _ _ _ _ q2 h2
      rw [← hK] at d1 d2
      obtain ⟨as, s1⟩ := Dp.reads I _ _ _ d1 r1
      obtain ⟨bs, s2⟩ := Dp.reads I _ _ _ d2 r2
      have := PySem.W.keq_at (A := A) s1 s2 (shaped_py ok w1 (by decide)) (shaped_py ok w2 (by decide)) (by show A.units + 1 + 64 < cLine; omega)
      rw [eqv_py ok _ _ _ _ w1 w2] at this
      exact this
    · have stp : ∀ b, eqStep (eqH n h) h x y = some b → SeqAt.RcAt A.in1 s vv uu b := fun b e => (step_eq ok hK I R ih hu1 q1 q2 r1 r2 e).1
      split at e
      · rename_i n' m'
        split at e
        · rename_i hnm
          cases e
          subst hnm
          cases q1 with
          | ref h1 => cases q2 with
            | ref h2 =>
              rw [h1] at h2
              cases h2
              have e1 := rl_ref r1
              have e2 := rl_ref r2
              subst e1
              subst e2
              exact SeqAt.EqAt.same _
        · rename_i hnm
          have k := stp b e
          cases q1 with
          | @ref _ a h1 => cases q2 with
            | @ref _ a' h2 =>
              have e1 := rl_ref r1
              have e2 := rl_ref r2
              subst e1
              subst e2
              refine SeqAt.EqAt.of_refs (fun ea => ?_) k
              subst ea
              exact hnm (ref_nd R e h1 h2)
      · rename_i hno
        have k := stp b e
        cases q1 with
        | @tup xs vs a hs hv => cases q2 with
          | @tup ys us a' hs' hv' =>
            have e1 := rl_ref r1
            have e2 := rl_ref r2
            subst e1
            subst e2
            by_cases ea : a = a'
            · subst ea
              have := eqH_same ok hK I R (n + 1) _ _ _ _ (.tup hs hv) (.tup hs' hv') e0
              subst this
              exact SeqAt.EqAt.same _
            · exact SeqAt.EqAt.of_refs ea k
          | _ => simp [eqStep] at e
        | @ref m a h1 => cases q2 with
          | ref h2 => exact (hno _ _ rfl rfl).elim
          | _ => simp [eqStep] at e
        | non => simp [eqStep] at e
        | bl _ => simp [eqStep] at e
        | int _ => simp [eqStep] at e
        | str _ => simp [eqStep] at e
end
/-! None == a dict -/
section
variable {A : Around} {s : Shared} {a : Addr}
theorem slotArgs_none {prog : Program} {w : World} {E : Value → Shared → Prop} {name : String} {Q : Value × Value → Shared → Prop} (hd : s.TypeIs (.ref a) "dict") (h : Q (.ref a, .none) s) :
    wpAny (model prog w) A (Builtin.Dict.dictSlotArgs name ⟨[.ref a, .none], []⟩) Q E s := by
  unfold Builtin.Dict.dictSlotArgs
  refine wpAny_bind (wpAny_notOrdered_dict hd ?_)
  show wpAny _ _ (pure (Value.ref a, Value.none)) _ _ s
  exact wpAny_pure h
theorem rc_none_dict (hd : s.TypeIs (.ref a) "dict") (hu : A.units < cLine) : SeqAt.RcAt A s .none (.ref a) false := fun prog w E Q h =>
  SeqAt.rc_eq_decline_or (k := false) rfl hd (by decide) F.sub_dict_NoneType F.slot_NoneType_eq F.slot_dict_eq_refl
    (fun _ hq => call_gives F.slot_NoneType_eq rfl F.entry_NoneType_eq (F.args_NoneType_eq_2 _ _) (SeqAt.NoneType___eq___none_ref_0 a) hq)
    (fun Q' hq => wpAny_call_entry F.slot_dict_eq_refl hd F.entry_dict_eq (by
      show wpAny _ _ (Builtin.Dict.dictSlotArgs "__eq__" ⟨[.ref a, .none], []⟩ >>= _) _ _ s
      refine wpAny_bind (slotArgs_none hd ?_)
      refine wpAny_bind (wpAny_isInstance (T := "NoneType") rfl F.sub_NoneType_dict ?_)
      simp only [Bool.not_false, if_true]
      exact wpAny_bind (wpAny_rule (wpAny_pure ⟨_, rfl, hq⟩))) (F.args_dict_eq_2 _ _))
    (fun _ hq => wpAny_of_eq (rfl : isSame .none (.ref a) = pure false) hq) (.inr hu) h
theorem rn_none_dict (hd : s.TypeIs (.ref a) "dict") (hu : A.units < cLine) : SeqAt.RcNeAt A s .none (.ref a) true := fun prog w E Q h =>
  SeqAt.rc_ne_decline_or (k := false) rfl hd (by decide) F.sub_dict_NoneType F.slot_NoneType_ne F.slot_dict_ne_refl
    (fun _ hq => call_gives F.slot_NoneType_ne rfl F.entry_NoneType_ne (F.args_NoneType_ne_2 _ _) (SeqAt.NoneType___ne___none_ref_0 a) hq)
    (fun Q' hq => wpAny_call_entry F.slot_dict_ne_refl hd F.entry_dict_ne (by
      show wpAny _ _ (Builtin.Dict.dictSlotArgs "__ne__" ⟨[.ref a, .none], []⟩ >>= _) _ _ s
      refine wpAny_bind (slotArgs_none hd ?_)
      refine wpAny_bind (wpAny_isInstance (T := "NoneType") rfl F.sub_NoneType_dict ?_)
      simp only [Bool.not_false, if_true]
      exact wpAny_bind (wpAny_rule (wpAny_pure ⟨_, rfl, hq⟩))) (F.args_dict_ne_2 _ _))
    (fun _ hq => wpAny_of_eq (rfl : isSame .none (.ref a) = pure false) hq) (.inr hu) h
end
/-! the rule -/
def rEqH (G : Cfg) (neg : Bool) : R2 := fun v u H Q => ∃ r h x y b, HR G r H h ∧ VR G r H x v ∧ VR G r H y u ∧ oEqH neg x y h = .ok (.bl b) h ∧ Q (.bl b) H
theorem nonD_of {h : Heap} {x y : Val} (e : nonD h x y = true) : x = .non ∧ ∃ a d, y = .ref a ∧ h[a]? = some (.dct d) := by
  unfold nonD at e
  split at e
  · split at e
    · rename_i a _ d q
      exact ⟨rfl, a, d, rfl, q⟩
    · cases e
  · cases e
theorem oEqH_top {x y : Val} {h : Heap} {neg c : Bool} (e : oEqH neg x y h = .ok (.bl c) h) : (∃ d d', conv 40 h x = some d ∧ conv 40 h y = some d' ∧ c = (if neg then !deq d d' else deq d d')) ∨ (∃ b, eqStep (eqH 20 h) h x y = some b ∧ c = (if neg then !b else b)) ∨ (nonD h x y = true ∧ c = neg) := by
  unfold oEqH at e
  split at e
  · rename_i d d' h1 h2
    cases e
    exact .inl ⟨d, d', h1, h2, rfl⟩
  · split at e
    · rename_i b hb
      cases e
      exact .inr (.inl ⟨b, hb, rfl⟩)
    · split at e
      · rename_i hn
        cases e
        exact .inr (.inr ⟨hn, rfl⟩)
      · cases e
theorem none_dict {G : Cfg} {r : List Addr} {H : Hp} {h : Heap} {X : Cx} {pins : List (Addr × PySem.Obj)} {s : Shared} {σ : St} (I : Inv X pins σ H s) (R : HR G r H h) {A : Around} (hu : A.units < cLine) {x y : Val} {v u : V} {vv uu : Value} (q1 : VR G r H x v) (q2 : VR G r H y u) (r1 : RelV v vv) (r2 : RelV u uu) (e : nonD h x y = true) :
    SeqAt.RcAt A s vv uu false ∧ SeqAt.RcNeAt A s vv uu true := by
  obtain ⟨rfl, a, d, rfl, eo⟩ := nonD_of e
  cases q1
  obtain ⟨b, es, e1, p1, _⟩ := vr_dct R q2 r2 eo
  obtain ⟨_, _, va, ra, da⟩ := dk_of I.hok p1
  subst e1
  have e2 : vv = .none := by cases r1; rfl
  subst e2
  exact ⟨rc_none_dict da.typeIs hu, rn_none_dict da.typeIs hu⟩
theorem op_eqH {G : Cfg} {X : Cx} (ok : G.Ok) (hK : X.K = G.K) (hu : X.A.units + 150 < cLine) : OpR X (compareOp .Eq) (rEqH G false) := by
  intro pins s σ H v u vv uu Q I rx ry hh
  obtain ⟨r, h, x, y, b, R, q1, q2, e, q⟩ := hh
  rcases oEqH_top e with ⟨d, d', h1, h2, rfl⟩ | ⟨c, h1, rfl⟩ | ⟨hn, rfl⟩
  · obtain ⟨d1, w1⟩ := conv_dp R _ _ _ _ q1 h1
    obtain ⟨d2, w2⟩ := conv_dp R _ _ _ _ q2 h2
    rw [← hK] at d1 d2
    obtain ⟨as, s1⟩ := Dp.reads I _ _ _ d1 rx
    obtain ⟨bs, s2⟩ := Dp.reads I _ _ _ d2 ry
    refine SeqAt.compareEq_shaped s1 s2 (shaped_py ok w1 (by decide)) (shaped_py ok w2 (by decide)) (by omega) ⟨.bl _, H, I, rfl, ?_⟩
    rw [eqv_py ok _ _ _ _ w1 w2]
    exact q
  · have F := eqH_at ok hK I R 20 X.A (by omega)
    exact (step_eq ok hK I R F (by omega) q1 q2 rx ry h1).1 _ _ _ _ ⟨.bl _, H, I, rfl, q⟩
  · exact (none_dict I R (by omega) q1 q2 rx ry hn).1 _ _ _ _ ⟨.bl _, H, I, rfl, q⟩
theorem op_neH {G : Cfg} {X : Cx} (ok : G.Ok) (hK : X.K = G.K) (hu : X.A.units + 150 < cLine) : OpR X (compareOp .NotEq) (rEqH G true) := by
  intro pins s σ H v u vv uu Q I rx ry hh
  obtain ⟨r, h, x, y, b, R, q1, q2, e, q⟩ := hh
  rcases oEqH_top e with ⟨d, d', h1, h2, rfl⟩ | ⟨c, h1, rfl⟩ | ⟨hn, rfl⟩
  · obtain ⟨d1, w1⟩ := conv_dp R _ _ _ _ q1 h1
    obtain ⟨d2, w2⟩ := conv_dp R _ _ _ _ q2 h2
    rw [← hK] at d1 d2
    obtain ⟨as, s1⟩ := Dp.reads I _ _ _ d1 rx
    obtain ⟨bs, s2⟩ := Dp.reads I _ _ _ d2 ry
    refine SeqAt.compareNe_shaped s1 s2 (shaped_py ok w1 (by decide)) (shaped_py ok w2 (by decide)) (by omega) ⟨.bl _, H, I, rfl, ?_⟩
    rw [eqv_py ok _ _ _ _ w1 w2]
    exact q
  · have F := eqH_at ok hK I R 20 X.A (by omega)
    exact (step_eq ok hK I R F (by omega) q1 q2 rx ry h1).2 _ _ _ _ ⟨.bl _, H, I, rfl, q⟩
  · exact (none_dict I R (by omega) q1 q2 rx ry hn).2 _ _ _ _ ⟨.bl _, H, I, rfl, q⟩
section
variable {G : Cfg} {E : XK} {X : Cx} {k : Nat} {a b : Expr} {ta tb : TE} {ma mb : En → Heap → Res Val}
theorem oEqH_ok {neg : Bool} {x y : Val} {h h' : Heap} {z : Val} (e : oEqH neg x y h = .ok z h') : h' = h ∧ ∃ b, z = .bl b := by
  unfold oEqH at e
  split at e
  · cases e; exact ⟨rfl, _, rfl⟩
  · split at e
    · cases e; exact ⟨rfl, _, rfl⟩
    · split at e
      · cases e; exact ⟨rfl, _, rfl⟩
      · cases e
theorem oEqH_nr {neg : Bool} {x y : Val} {h h' : Heap} {c : Nat} : oEqH neg x y h ≠ .raised c h' := by
  unfold oEqH
  intro e
  split at e
  · cases e
  · split at e
    · cases e
    · split at e <;> cases e
theorem rf_eqH {neg : Bool} : Rf2 G E (rEqH G neg) (oEqH neg) := by
  refine ⟨fun r H h x y v u Q hR a b p => ?_⟩
  cases e : oEqH neg x y h with
  | ok z h' =>
    obtain ⟨rfl, c, rfl⟩ := oEqH_ok e
    rw [e] at p
    exact ⟨r, h', x, y, c, hR, a, b, e, p.here hR (.bl _)⟩
  | raised c h' => exact (oEqH_nr e).elim
  | stuck => rw [e] at p; exact p.elim
theorem mc_eqH (ok : G.Ok) (C : XC G E X k) (ha : ME G E X a ta ma) (hb : ME G E X b tb mb) : MC G E X .Eq a b (tOp (rEqH G false) ta tb) (mB (oEqH false) ma mb) :=
  ⟨pc_of (op_eqH (X := X) ok C.K (by have := C.room.un; omega)) ha.pe hb.pe, ha.rf.b2 hb.rf rf_eqH⟩
theorem mc_neH (ok : G.Ok) (C : XC G E X k) (ha : ME G E X a ta ma) (hb : ME G E X b tb mb) : MC G E X .NotEq a b (tOp (rEqH G true) ta tb) (mB (oEqH true) ma mb) :=
  ⟨pc_of (op_neH (X := X) ok C.K (by have := C.room.un; omega)) ha.pe hb.pe, ha.rf.b2 hb.rf rf_eqH⟩
end
end PyM
namespace PyM
open PySem L2
/-! ### d.update(e), dict(d) -/
def mergeV (d e : List (Val × Val)) : List (Val × Val) := e.foldl (fun acc kv => putV acc kv.1 kv.2) d
def dUpd (o y : Val) (h : Heap) : Res Val := match o, y with
  | .ref a, .ref b => if a = b then .stuck else match h[a]?, h[b]? with
    | some (.dct d), some (.dct e) => if d.length + e.length ≤ lim then .ok .non (h.set a (.dct (mergeV d e))) else .stuck
    | _, _ => .stuck
  | _, _ => .stuck
def isU (x : Val) (h : Heap) : Bool := match x with
  | .ref a => match h[a]? with
    | some (.dct _) => true
    | _ => false
  | _ => false
def mUpd (mo my : En → Heap → Res Val) (s : En) (h : Heap) : Res Val := (mo s h).bind fun o h1 => if isU o h1 = true then (my s h1).bind fun y h2 => dUpd o y h2 else .stuck
def rUpd : V → List V → Hp → VK → Prop := fun x xs H Q => ∃ (a b : Addr) (kvs more : List (L2.Key × V)), x = .ref a ∧ xs = [.ref b] ∧ a ≠ b ∧ H a = some (.dK kvs) ∧ H b = some (.dK more) ∧ kvs.length + more.length ≤ sizeLine ∧ Q .non (upd H a (.dK (mergeK kvs more)))
theorem mt_update {X : Cx} : MtR X "dict.update" rUpd := by
  intro pins s σ H x xs v us Q I rx rv h
  obtain ⟨a, b, kvs, more, rfl, rfl, ne, e1, e2, hl, q⟩ := h
  obtain rfl : v = Value.ref a := rx
  obtain ⟨u, rfl, ru⟩ := vals1 rv
  obtain rfl : u = Value.ref b := ru
  obtain ⟨z, hd, vs, rel, dd⟩ := dk_of I.hok e1
  obtain ⟨z2, hd2, vs2, rel2, dd2⟩ := dk_of I.hok e2
  refine call_meetsIn PySem.F.slot_dict_update dd.typeIs PySem.F.entry_dict_update (PySem.F.args_dict_update_2 _ _) (meets_dict_update (mixKind X.prog X.w) a b ne hd2)
    ⟨vs, vs2, dd, dd2, by rw [← rel.length, ← rel2.length]; exact hl, fun h' dd' _ hs => ⟨.non, _, d_write (t' := s.toks) I (by rw [e1]; exact True.intro) hs (let ⟨q, _, _, hq, _⟩ := dd'; ⟨q, hq⟩) (dk_new ?_ hd (rel2.merge rel) dd'), rfl, q⟩⟩
  exact Nat.le_trans (length_mergeK more kvs) hl
section
variable {G : Cfg} {E : XK} {X : Cx} {k : Nat} {r : List Addr} {H : Hp} {h : Heap} {e o f : Expr} {td ty tx to : TE} {mo my mz : En → Heap → Res Val} {apos cpos : Pos}
theorem DR.merge (ok : G.Ok) : ∀ {e : List (Val × Val)} {es : List (L2.Key × V)} {d : List (Val × Val)} {ds : List (L2.Key × V)}, DR G r H d ds → DR G r H e es → DR G r H (mergeV d e) (mergeK ds es) := by
  intro e es d ds a b
  induction b generalizing d ds with
  | nil => exact a
  | cons k x _ ih => exact ih (a.put ok k x)
theorem me_update (ok : G.Ok) (C : XC G E X k) (ho : ME G E X o to mo) (he : ME G E X e ty my) (hbase : attributeBase o "update" X.env (eval o X.env) = eval o X.env := by rfl)
    (hfew : ((backTo cpos (starEach [e] X.env)).all (fun x => !x.1) && (backToKw cpos (keywordEach [] X.env)).all (fun x => x.1.isSome)
      && decide (([e] : List Expr).length + ([] : List Keyword).length + (if ([] : List Keyword).isEmpty then 0 else 1) < 30)) = true := by rfl)
    (hline : (apos.endLine == cpos.line) = true := by rfl) (hs : starEach [e] X.env = (false, eval e X.env) :: starEach [] X.env := by rfl) (hplain : (backTo cpos (starEach [] X.env)).any (·.1) = false := by rfl) :
    ME G E X (.Call (.Attribute o "update" apos) [e] [] cpos) (tBM G.K "dict" rUpd to (tCons ty tNil)) (mUpd mo my) := by
  refine ⟨?_, ⟨fun r H h s σ Q hR sR p => ho.rf.run r H h s σ _ hR sR (p.seq fun x h1 r1 H1 v s1 hR1 v1 p1 => ?_)⟩⟩
  · have := pe_bm PySem.F.plainAttrs_dict PySem.F.slot_dict_update PySem.F.type_dict_update (mt_update (X := X)) ho.pe (pa_cons he.pe pa_nil hs) hbase hfew hline hs hplain
    rwa [C.K] at this
  · split at p1
    · rename_i hd
      obtain ⟨a, rfl, kvs0, id⟩ : ∃ a, v = .ref a ∧ ∃ kvs, H1 a = some (.dK kvs) := by
        cases v1 with
        | @ref _ a ea =>
          unfold isU at hd
          simp only at hd
          split at hd
          · rename_i d eo
            cases hR1.ob _ _ _ eo ea with
            | dct hl _ => exact ⟨a, rfl, _, hl⟩
          · cases hd
        | _ => simp [isU] at hd
      refine ⟨.inr (.inr (.inl ⟨rfl, .inl ⟨_, id⟩⟩)), ?_⟩
      show ty σ H1 _
      refine he.rf.run r1 H1 h1 s σ _ hR1 (sR.mono s1) (p1.seq fun y h2 r2 H2 w s2 hR2 v2 p2 => ?_)
      have vo := v1.mono s2
      unfold dUpd at p2
      split at p2
      · rename_i n m
        cases vo with
        | ref ea => cases v2 with
          | @ref _ b eb =>
            split at p2
            · exact False.elim p2
            · rename_i hne
              split at p2
              · rename_i d e' eo1 eo2
                split at p2
                · rename_i hl
                  cases hR2.ob _ _ _ eo1 ea with
                  | dct hl1 hv1 => cases hR2.ob _ _ _ eo2 eb with
                    | dct hl2 hv2 =>
                      refine ⟨a, b, _, _, rfl, rfl, fun eab => ?_, hl1, hl2, by rw [← hv1.len, ← hv2.len]; exact le_line hl, set_dct hR2 eo1 ea hl1 (hv1.merge ok hv2) .non p2⟩
                      subst eab
                      exact hne (hR2.nd _ _ _ _ _ eo1 eo2 ea eb rfl rfl)
                · exact False.elim p2
              · exact False.elim p2
      · exact False.elim p2
    · exact False.elim p1
def bDictD (xs : List Val) (h : Heap) : Res Val := match xs with
  | [.ref a] => match h[a]? with
    | some (.dct d) => .ok (.ref h.length) (h ++ [.dct d])
    | _ => .stuck
  | _ => .stuck
theorem new_dct (hR : HR G r H h) {d : List (Val × Val)} {es : List (L2.Key × V)} {Q : VK} (hv : DR G r H d es) (p : PostR G (VR G) r H E (.ok (.ref h.length) (h ++ [.dct d])) Q) (l : Addr) (hl : H l = none) : Q (.ref l) (upd H l (.dK es)) := by
  refine p (r ++ [l]) _ _ (Stp.new hl) (hR.push hl (.dct upd_same (hv.mono (Stp.new hl)))) (.ref ?_)
  rw [← hR.len]
  simp
theorem rl_dictD : RfL G E (fun xs H Q => ∃ (a : Addr) (kvs : List (L2.Key × V)), xs = [.ref a] ∧ Rd H a (.dK kvs) ∧ ∀ p, H p = none → Q (.ref p) (upd H p (.dK kvs))) bDictD := by
  refine ⟨fun r H h xs vs Q hR v p => ?_⟩
  unfold bDictD at p
  split at p
  · cases v with
    | cons q1 q2 => cases q2; cases q1 with
      | ref ea =>
        split at p
        · rename_i d eo
          cases hR.ob _ _ _ eo ea with
          | dct hl hv => exact ⟨_, _, rfl, .inl hl, fun l hl' => new_dct hR hv p l hl'⟩
        · exact False.elim p
  · exact False.elim p
/-! ### sorted -/
def insI (x : Int) : List Int → List Int
  | [] => [x]
  | y :: ys => if x ≤ y then x :: y :: ys else y :: insI x ys
def sortI : List Int → List Int
  | [] => []
  | x :: xs => insI x (sortI xs)
theorem insI_perm (x : Int) : ∀ l, (insI x l).Perm (x :: l)
  | [] => .refl _
  | y :: ys => by
    unfold insI
    split
    · exact .refl _
    · exact ((insI_perm x ys).cons y).trans (.swap ..)
theorem sortI_perm : ∀ l, (sortI l).Perm l
  | [] => .refl _
  | x :: xs => (insI_perm x _).trans ((sortI_perm xs).cons x)
theorem insI_sorted (x : Int) : ∀ l : List Int, l.Pairwise (· ≤ ·) → (insI x l).Pairwise (· ≤ ·)
  | [], _ => by simp [insI]
  | y :: ys, h => by
    unfold insI
    have h' := List.pairwise_cons.mp h
    split
    · rename_i hxy
      refine List.pairwise_cons.mpr ⟨fun z hz => ?_, h⟩
      rcases List.mem_cons.mp hz with rfl | hz
      · exact hxy
      · exact Int.le_trans hxy (h'.1 z hz)
    · rename_i hxy
      refine List.pairwise_cons.mpr ⟨fun z hz => ?_, insI_sorted x ys h'.2⟩
      rcases List.mem_cons.mp ((insI_perm x ys).mem_iff.mp hz) with rfl | hz
      · omega
      · exact h'.1 z hz
theorem sortI_sorted : ∀ l : List Int, (sortI l).Pairwise (· ≤ ·)
  | [] => .nil
  | x :: xs => insI_sorted x _ (sortI_sorted xs)
theorem sorted_uniq : ∀ {l m : List Int}, l.Perm m → l.Pairwise (· ≤ ·) → m.Pairwise (· ≤ ·) → l = m
  | [], m, p, _, _ => (List.nil_perm.mp p).symm
  | x :: l, [], p, _, _ => absurd p.symm (by simp)
  | x :: l, y :: m, p, h1, h2 => by
    have h1' := List.pairwise_cons.mp h1
    have h2' := List.pairwise_cons.mp h2
    have hx : x ∈ y :: m := p.mem_iff.mp List.mem_cons_self
    have hy : y ∈ x :: l := p.mem_iff.mpr List.mem_cons_self
    have e : x = y := by
      rcases List.mem_cons.mp hx with e | hx
      · exact e
      · rcases List.mem_cons.mp hy with e | hy
        · exact e.symm
        · have a := h1'.1 y hy
          have b := h2'.1 x hx
          omega
    subst e
    rw [sorted_uniq (List.perm_cons x |>.mp p) h1'.2 h2'.2]
theorem sortI_uniq {l m : List Int} (p : l.Perm m) (h : l.Pairwise (· ≤ ·)) : l = sortI m := sorted_uniq (p.trans (sortI_perm m).symm) h (sortI_sorted m)
def bSorted (xs : List Val) (h : Heap) : Res Val := match xs with
  | [.ref a] => match h[a]? with
    | some (.lst ys) => match optAll asInt ys with
      | some ns => .ok (.ref h.length) (h ++ [.lst ((sortI ns).map .int)])
      | none => .stuck
    | some (.dct d) => match optAll (fun kv : Val × Val => asInt kv.1) d with
      | some ns => if ns.length < 64 then .ok (.ref h.length) (h ++ [.lst ((sortI ns).map .int)]) else .stuck
      | none => .stuck
    | _ => .stuck
  | _ => .stuck
def rSortedM (K : PySem.W.Frag) : List V → Hp → VK → Prop := fun xs H Q => rSortedI K xs H Q ∨ ∃ (a : Addr) (kvs : List (L2.Key × V)) (ks : List Int), xs = [.ref a] ∧ Rd H a (.dK kvs) ∧ kvs.map (·.1) = ks.map Sum.inl ∧ ks.length < 64 ∧ ∀ (ys : List Int) (p : Addr), ys.Perm ks → ys.Pairwise (· ≤ ·) → H p = none → Q (.ref p) (upd H p (.lst (ys.map V.int)))
theorem cl_sorted (C : XC G E X k) : CallR X (.builtin "sorted") (rSortedM G.K) := by
  have := callR_or (cr_sortedI (X := X)) (call_sortedDI C.calm)
  rw [C.K] at this
  exact this
theorem ints_vr (ns : List Int) : VRs G r H (ns.map .int) (ns.map V.int) := by
  induction ns with
  | nil => exact .nil
  | cons n ns ih => exact .cons (.int n) ih
theorem DR.ints {d : List (Val × Val)} {es : List (L2.Key × V)} (q : DR G r H d es) : ∀ {ns : List Int}, optAll (fun kv : Val × Val => asInt kv.1) d = some ns → es.map (·.1) = ns.map Sum.inl := by
  induction q with
  | nil => intro ns e; simp [optAll] at e; subst e; rfl
  | @cons k x κ v d es a b c ih =>
    intro ns e
    simp only [optAll] at e
    split at e
    · rename_i i l e1 e2
      cases e
      cases a with
      | int j =>
        simp [asInt] at e1
        subst e1
        simp [ih e2]
      | str _ => simp [asInt] at e1
    · cases e
theorem rl_sorted : RfL G E (rSortedM G.K) bSorted := by
  refine ⟨fun r H h xs vs Q hR v p => ?_⟩
  unfold bSorted at p
  split at p
  · cases v with
    | cons q1 q2 => cases q2; cases q1 with
      | @ref _ ad ea =>
        split at p
        · rename_i ys eo
          split at p
          · rename_i ns e2
            cases hR.ob _ _ _ eo ea with
            | lst hl hv =>
              refine .inl ⟨ad, ns, rfl, by rw [← all_int hv e2]; exact SqL.of hl, fun ns' l pm so hl' => ?_⟩
              rw [sortI_uniq pm so]
              exact new_lst hR (ints_vr _) p l hl'
          · exact False.elim p
        · rename_i d eo
          split at p
          · rename_i ns e2
            split at p
            · rename_i hlt
              cases hR.ob _ _ _ eo ea with
              | dct hl hv =>
                refine .inr ⟨ad, _, ns, rfl, .inl hl, hv.ints e2, hlt, fun ns' l pm so hl' => ?_⟩
                rw [sortI_uniq pm so]
                exact new_lst hR (ints_vr _) p l hl'
            · exact False.elim p
          · exact False.elim p
        · exact False.elim p
  · exact False.elim p
/-! ### min(xs), max(xs) -/
def minI : List Int → Int
  | [] => 0
  | [x] => x
  | x :: xs => min x (minI xs)
theorem minI_spec : ∀ {l : List Int} {m : Int}, m ∈ l → (∀ y ∈ l, m ≤ y) → m = minI l
  | [], _, h, _ => absurd h (by simp)
  | [x], m, h, _ => by simpa [minI] using h
  | x :: y :: l, m, h, k => by
    have hx := k x List.mem_cons_self
    rw [minI]
    · by_cases hm : m ∈ y :: l
      · rw [← minI_spec hm (fun z hz => k z (List.mem_cons_of_mem _ hz))]; omega
      · have e : m = x := (List.mem_cons.mp h).resolve_right hm
        have hmin : ∀ {l : List Int}, l ≠ [] → minI l ∈ l := by
          intro l
          induction l with
          | nil => intro z; exact absurd rfl z
          | cons a l ih =>
            intro _
            cases l with
            | nil => simp [minI]
            | cons b l =>
              rw [minI]
              · have := ih (by simp)
                rcases Int.le_total a (minI (b :: l)) with q | q
                · rw [Int.min_eq_left q]; exact List.mem_cons_self
                · rw [Int.min_eq_right q]; exact List.mem_cons_of_mem _ this
              · simp
        have := k _ (List.mem_cons_of_mem x (hmin (l := y :: l) (by simp)))
        omega
    · simp
def bMinL (xs : List Val) (h : Heap) : Res Val := match xs with
  | [.ref a] => match h[a]? with
    | some (.lst ys) => match optAll asInt ys with
      | some ns => if ns = [] then .stuck else .ok (.int (minI ns)) h
      | none => .stuck
    | _ => .stuck
  | _ => .stuck
theorem cl_min (C : XC G E X k) : CallR X (.builtin "min") (rMin G.K) := by
  have := cr_min (X := X) C.calm
  rw [C.K] at this
  exact this
theorem rl_min : RfL G E (rMin G.K) bMinL := by
  refine ⟨fun r H h xs vs Q hR v p => ?_⟩
  unfold bMinL at p
  split at p
  · cases v with
    | cons q1 q2 => cases q2; cases q1 with
      | @ref _ ad ea =>
        split at p
        · rename_i ys eo
          split at p
          · rename_i ns e2
            split at p
            · exact False.elim p
            · rename_i hne
              cases hR.ob _ _ _ eo ea with
              | lst hl hv =>
                refine ⟨ad, ns, rfl, by rw [← all_int hv e2]; exact SqL.of hl, List.length_pos_iff.mpr hne, fun m hm hle => ?_⟩
                rw [minI_spec hm hle]
                exact p.here hR (.int _)
          · exact False.elim p
        · exact False.elim p
  · exact False.elim p
/-! ### list(range(..)), tuple(range(..)), xs[::-1] -/
def rgL (x y : Val) (h : Heap) : Res Val := match x, y with
  | .int i, .int j => if -(2 ^ 62) ≤ i ∧ i < 2 ^ 62 ∧ -(2 ^ 62) ≤ j ∧ j < 2 ^ 62 ∧ (j - i).toNat ≤ lim then .ok (.ref h.length) (h ++ [.lst (rangeV i (j - i).toNat)]) else .stuck
  | _, _ => .stuck
def rgT (x y : Val) (h : Heap) : Res Val := match x, y with
  | .int i, .int j => if -(2 ^ 62) ≤ i ∧ i < 2 ^ 62 ∧ -(2 ^ 62) ≤ j ∧ j < 2 ^ 62 ∧ (j - i).toNat ≤ lim then .ok (.tup (rangeV i (j - i).toNat)) h else .stuck
  | _, _ => .stuck
theorem rangeV_vr (a b : Int) : VRs G r H (rangeV a (b - a).toNat) (rgV a b) := by
  unfold rangeV rgV
  generalize List.range (b - a).toNat = l
  induction l with
  | nil => exact .nil
  | cons n l ih => exact .cons (.int _) ih
theorem rgOk_of {i j : Int} (h1 : -(2 ^ 62) ≤ i ∧ i < 2 ^ 62 ∧ -(2 ^ 62) ≤ j ∧ j < 2 ^ 62 ∧ (j - i).toNat ≤ lim) : RgOk i j := ⟨h1.1, h1.2.1, h1.2.2.1, h1.2.2.2.1, by have := h1.2.2.2.2; unfold lim at this; omega⟩
variable {a b : Expr} {ta tb : TE} {ma mb : En → Heap → Res Val} {p p' pos pos' : Pos}
theorem rf_rgL : Rf2 G E (fun x y H Q => ∃ i j, x = .int i ∧ y = .int j ∧ RgOk i j ∧ ∀ q, H q = none → Q (.ref q) (upd H q (.lst (rgV i j)))) rgL := by
  refine ⟨fun r H h x y v u Q hR a b p => ?_⟩
  unfold rgL at p
  split at p
  · cases a; cases b
    split at p
    · rename_i hh
      exact ⟨_, _, rfl, rfl, rgOk_of hh, fun q hq => new_lst hR (rangeV_vr _ _) p q hq⟩
    · exact p.elim
  · exact p.elim
theorem rf_rgT : Rf2 G E (fun x y H Q => ∃ i j, x = .int i ∧ y = .int j ∧ RgOk i j ∧ ∀ q, H q = none → Q (.ref q) (upd H q (.tup (rgV i j)))) rgT := by
  refine ⟨fun r H h x y v u Q hR a b p => ?_⟩
  unfold rgT at p
  split at p
  · cases a; cases b
    split at p
    · rename_i hh
      exact ⟨_, _, rfl, rfl, rgOk_of hh, fun q hq => new_tup hR (rangeV_vr _ _) p q hq⟩
    · exact p.elim
  · exact p.elim
theorem me_rgL (C : XC G E X k) (hml : X.mg "list" = none) (hm : X.mg "range" = none) (ha : ME G E X a ta ma) (hb : ME G E X b tb mb) (hgl : Gl X "list" := by rfl) (hg : Gl X "range" := by rfl)
    (na : starEach [a, b] X.env = (false, eval a X.env) :: starEach [b] X.env := by rfl) (nb : starEach [b] X.env = (false, eval b X.env) :: starEach [] X.env := by rfl) (hp : (backTo pos (starEach [b] X.env)).any (·.1) = false := by rfl)
    (nr : starEach [.Call (.Name "range" p) [a, b] [] pos] X.env = (false, eval (.Call (.Name "range" p) [a, b] [] pos) X.env) :: starEach [] X.env := by rfl) :
    ME G E X (.Call (.Name "list" p') [.Call (.Name "range" p) [a, b] [] pos] [] pos') (tLstRg (tRg2 ta tb)) (mB rgL ma mb) :=
  ⟨pe_listRg C.calm hgl hml (prg_2 hg hm ha.pe hb.pe na nb hp) nr, ⟨fun r H h s σ Q hR sR p => (ha.rf.b2 hb.rf rf_rgL).run r H h s σ Q hR sR p⟩⟩
theorem me_rgT (C : XC G E X k) (hml : X.mg "tuple" = none) (hm : X.mg "range" = none) (ha : ME G E X a ta ma) (hb : ME G E X b tb mb) (hgl : Gl X "tuple" := by rfl) (hg : Gl X "range" := by rfl)
    (na : starEach [a, b] X.env = (false, eval a X.env) :: starEach [b] X.env := by rfl) (nb : starEach [b] X.env = (false, eval b X.env) :: starEach [] X.env := by rfl) (hp : (backTo pos (starEach [b] X.env)).any (·.1) = false := by rfl)
    (nr : starEach [.Call (.Name "range" p) [a, b] [] pos] X.env = (false, eval (.Call (.Name "range" p) [a, b] [] pos) X.env) :: starEach [] X.env := by rfl) :
    ME G E X (.Call (.Name "tuple" p') [.Call (.Name "range" p) [a, b] [] pos] [] pos') (tTupRg (tRg2 ta tb)) (mB rgT ma mb) :=
  ⟨pe_tupRg C.calm hgl hml (prg_2 hg hm ha.pe hb.pe na nb hp) nr, ⟨fun r H h s σ Q hR sR p => (ha.rf.b2 hb.rf rf_rgT).run r H h s σ Q hR sR p⟩⟩
def rgL1 (y : Val) (h : Heap) : Res Val := rgL (.int 0) y h
def rgT1 (y : Val) (h : Heap) : Res Val := rgT (.int 0) y h
theorem rf_rgL1 : Rf1 G E (fun y H Q => ∃ j, y = .int j ∧ RgOk 0 j ∧ ∀ q, H q = none → Q (.ref q) (upd H q (.lst (rgV 0 j)))) rgL1 := by
  refine ⟨fun r H h x v Q hR a p => ?_⟩
  obtain ⟨i, j, e1, e2, q⟩ := rf_rgL.run r H h (.int 0) x (.int 0) v Q hR (.int 0) a p
  cases e1
  exact ⟨j, e2, q⟩
theorem rf_rgT1 : Rf1 G E (fun y H Q => ∃ j, y = .int j ∧ RgOk 0 j ∧ ∀ q, H q = none → Q (.ref q) (upd H q (.tup (rgV 0 j)))) rgT1 := by
  refine ⟨fun r H h x v Q hR a p => ?_⟩
  obtain ⟨i, j, e1, e2, q⟩ := rf_rgT.run r H h (.int 0) x (.int 0) v Q hR (.int 0) a p
  cases e1
  exact ⟨j, e2, q⟩
theorem me_rgL1 (C : XC G E X k) (hml : X.mg "list" = none) (hm : X.mg "range" = none) (ha : ME G E X a ta ma) (hgl : Gl X "list" := by rfl) (hg : Gl X "range" := by rfl)
    (na : starEach [a] X.env = (false, eval a X.env) :: starEach [] X.env := by rfl)
    (nr : starEach [.Call (.Name "range" p) [a] [] pos] X.env = (false, eval (.Call (.Name "range" p) [a] [] pos) X.env) :: starEach [] X.env := by rfl) :
    ME G E X (.Call (.Name "list" p') [.Call (.Name "range" p) [a] [] pos] [] pos') (tLstRg (tRg1 ta)) (mU rgL1 ma) :=
  ⟨pe_listRg C.calm hgl hml (prg_1 hg hm ha.pe na) nr, ⟨fun r H h s σ Q hR sR p => (ha.rf.u1 rf_rgL1).run r H h s σ Q hR sR p⟩⟩
theorem me_rgT1 (C : XC G E X k) (hml : X.mg "tuple" = none) (hm : X.mg "range" = none) (ha : ME G E X a ta ma) (hgl : Gl X "tuple" := by rfl) (hg : Gl X "range" := by rfl)
    (na : starEach [a] X.env = (false, eval a X.env) :: starEach [] X.env := by rfl)
    (nr : starEach [.Call (.Name "range" p) [a] [] pos] X.env = (false, eval (.Call (.Name "range" p) [a] [] pos) X.env) :: starEach [] X.env := by rfl) :
    ME G E X (.Call (.Name "tuple" p') [.Call (.Name "range" p) [a] [] pos] [] pos') (tTupRg (tRg1 ta)) (mU rgT1 ma) :=
  ⟨pe_tupRg C.calm hgl hml (prg_1 hg hm ha.pe na) nr, ⟨fun r H h s σ Q hR sR p => (ha.rf.u1 rf_rgT1).run r H h s σ Q hR sR p⟩⟩
def revL (x : Val) (h : Heap) : Res Val := match x with
  | .ref a => match h[a]? with
    | some (.lst xs) => .ok (.ref h.length) (h ++ [.lst xs.reverse])
    | _ => .stuck
  | _ => .stuck
theorem VRs.reverse {xs : List Val} {vs : List V} (q : VRs G r H xs vs) : VRs G r H xs.reverse vs.reverse := by
  have : ∀ (xs : List Val) (vs : List V), VRs G r H xs vs → VRs G r H xs.reverse vs.reverse := by
    intro xs
    induction xs with
    | nil => intro vs q; cases q; exact .nil
    | cons x xs ih => intro vs q; cases q with
      | cons a b => rw [List.reverse_cons, List.reverse_cons]; exact (ih _ b).app (.cons a .nil)
  exact this _ _ q
theorem me_rev (C : XC G E X k) {i1 : Nat} {p1 p2 p3 : Pos} (he : ME G E X e ta ma) : ME G E X (.Subscript e (.Slice none none (some (.UnaryOp .USub (.Constant (.int 1) i1 p1) p2)) p3) pos) (tRevL G.K ta) (mU revL ma) := by
  refine ⟨?_, ⟨fun r H h s σ Q hR sR p => he.rf.run r H h s σ _ hR sR (p.seq fun x h1 r1 H1 v s1 hR1 v1 p1 => ?_)⟩⟩
  · have := pe_revL (k := i1) (p1 := p1) (p2 := p2) (p3 := p3) (pos := pos) he.pe
    rwa [C.K] at this
  · unfold revL at p1
    split at p1
    · cases v1 with
      | ref ea =>
        split at p1
        · rename_i xs eo
          cases hR1.ob _ _ _ eo ea with
          | lst hl hv => exact ⟨_, _, rfl, SqL.of hl, fun q hq => new_lst hR1 hv.reverse p1 q hq⟩
        · exact p1.elim
    · exact p1.elim
end
end PyM
namespace PyM
open PySem L2
/-! ### {k: v, ..} -/
abbrev ME2 := (En → Heap → Res Val) × (En → Heap → Res Val)
def mPs : List ME2 → En → Heap → Res (List (Val × Val))
  | [], _, h => .ok [] h
  | (mk, mv) :: r, s, h => (mk s h).bind fun k h1 => (mv s h1).bind fun v h2 => (mPs r s h2).bind fun ps h3 => .ok ((k, v) :: ps) h3
def mDisp (ms : List ME2) (s : En) (h : Heap) : Res Val := (mPs ms s (h ++ [.dct []])).bind fun ps h1 => match h1[h.length]? with
  | some (.dct []) => if ps.all (fun kv => isKey kv.1) = true ∧ ps.length ≤ 15 then .ok (.ref h.length) (h1.set h.length (.dct (mergeV [] ps))) else .stuck
  | _ => .stuck
section
variable {G : Cfg} {E : XK} {X : Cx} {k : Nat} {r : List Addr} {H : Hp} {h : Heap}
inductive VPs (G : Cfg) (r : List Addr) (H : Hp) : List (Val × Val) → List (V × V) → Prop
  | nil : VPs G r H [] []
  | cons {x y v u ps qs} : VR G r H x v → VR G r H y u → VPs G r H ps qs → VPs G r H ((x, y) :: ps) ((v, u) :: qs)
theorem VPs.mono {r' : List Addr} {H' : Hp} (q : Stp G.K r H r' H') {ps qs} (a : VPs G r H ps qs) : VPs G r' H' ps qs := by
  induction a with
  | nil => exact .nil
  | cons a b _ ih => exact .cons (a.mono q) (b.mono q) ih
structure MPs (G : Cfg) (E : XK) (X : Cx) (pos : Pos) (ks : List (Option Expr)) (vs : List Expr) (trs : List (TE × TE)) (ms : List ME2) : Prop where
  pe : PPs X pos ks vs trs
  rf : ∀ r H h s σ Q, HR G r H h → SR G r H s σ → PostR G (VPs G) r H E (mPs ms s h) Q → tPairs trs σ H Q
theorem mps_nil {pos : Pos} : MPs G E X pos [] [] [] [] := ⟨pps_nil, fun r H h s σ Q hR _ p => p.here hR .nil⟩
theorem mps_cons {pos : Pos} {a b : Expr} {ks : List (Option Expr)} {vs : List Expr} {ta tb : TE} {trs : List (TE × TE)} {ma mb : En → Heap → Res Val} {ms : List ME2} (ha : ME G E X a ta ma) (hb : ME G E X b tb mb) (hr : MPs G E X pos ks vs trs ms) :
    MPs G E X pos (some a :: ks) (b :: vs) ((ta, tb) :: trs) ((ma, mb) :: ms) := by
  refine ⟨pps_cons ha.pe hb.pe hr.pe, fun r H h s σ Q hR sR p => ?_⟩
  refine ha.rf.run r H h s σ _ hR sR (p.seq fun x h1 r1 H1 v s1 hR1 v1 p1 => ?_)
  refine hb.rf.run r1 H1 h1 s σ _ hR1 (sR.mono s1) (p1.seq fun y h2 r2 H2 u s2 hR2 v2 p2 => ?_)
  refine hr.rf r2 H2 h2 s σ _ hR2 ((sR.mono s1).mono s2) (p2.seq fun ps h3 r3 H3 qs s3 hR3 v3 p3 => ?_)
  exact p3.here hR3 (.cons ((v1.mono s2).mono s3) (v2.mono s3) v3)
theorem vps_dr {ps : List (Val × Val)} {qs : List (V × V)} (a : VPs G r H ps qs) (hk : ps.all (fun kv => isKey kv.1) = true) : ∃ es : List (L2.Key × V), qs = es.map (fun kv => (kV kv.1, kv.2)) ∧ DR G r H ps es := by
  induction a with
  | nil => exact ⟨[], rfl, .nil⟩
  | cons a b _ ih =>
    rw [List.all_cons, Bool.and_eq_true] at hk
    obtain ⟨es, rfl, d⟩ := ih hk.2
    obtain ⟨q, kq, rfl⟩ := KR.of a hk.1
    exact ⟨(q, _) :: es, rfl, .cons kq b d⟩
theorem me_disp {pos : Pos} {ks : List (Option Expr)} {vs : List Expr} {trs : List (TE × TE)} {ms : List ME2} (ok : G.Ok) (hp : MPs G E X pos ks vs trs ms) (hall : ks.all (·.isSome) = true := by rfl) (hl : ks.length = vs.length := by rfl) (h0 : ks ≠ [] := by intro z; cases z) (h15 : ks.length ≤ 15 := by decide) :
    ME G E X (.Dict ks vs pos) (tDisp trs) (mDisp ms) := by
  refine ⟨pe_disp hp.pe hall hl h0 h15, ⟨fun r H h s σ Q hR sR p => fun l hl' => ?_⟩⟩
  have st0 : Stp G.K r H (r ++ [l]) (upd H l (.dK [])) := Stp.new hl'
  have hR0 : HR G (r ++ [l]) (upd H l (.dK [])) (h ++ [.dct []]) := hR.push hl' (.dct upd_same .nil)
  have er : (r ++ [l])[h.length]? = some l := by rw [← hR.len]; simp
  refine hp.rf _ _ _ s σ _ hR0 (sR.mono st0) (PostR.seq (PostR.shift st0 p) fun ps h1 r1 H1 qs s1 hR1 v1 p1 => ?_)
  split at p1
  · rename_i eo
    split at p1
    · rename_i hc
      have ea := s1.pre _ _ er
      cases hR1.ob _ _ _ eo ea with
      | dct hl1 hv1 =>
        cases hv1
        obtain ⟨es, rfl, d⟩ := vps_dr v1 hc.1
        refine ⟨hl1, es, rfl, by have := hc.2; rw [d.len] at this; exact this, ?_⟩
        have st : Stp G.K r1 H1 r1 (upd H1 l (.dK (mergeK [] es))) := Stp.upd fun o e => by rw [hl1] at e; cases e; trivial
        exact p1 r1 _ _ st (hR1.write eo rfl ea (fun o e => by rw [hl1] at e; cases e; trivial) (.dct upd_same ((DR.merge ok (.nil) d).mono st)) rfl) (.ref ea)
    · exact p1.elim
  · exact p1.elim
end
/-! wishes -/
section
variable {E : Nat → Heap → Prop} {Q : Val → Heap → Prop} {QP : List (Val × Val) → Heap → Prop} {QU : Unit → Heap → Prop} {h : Heap} {D : K4} {s : En} {a b n : Nat} {x y z : Val} {mo my mk mv : En → Heap → Res Val} {ms : List ME2}
@[simp ↓] theorem wR_mPs0 : wR (mPs [] s h) E QP = QP [] h := rfl
@[simp ↓] theorem wR_mPs1 : wR (mPs ((mk, mv) :: ms) s h) E QP = wR (mk s h) E fun k h1 => wR (mv s h1) E fun v h2 => wR (mPs ms s h2) E fun ps h3 => QP ((k, v) :: ps) h3 := by simp [mPs]
@[simp ↓] theorem wR_mDisp : wR (mDisp ms s h) E Q = wR (mPs ms s (h ++ [.dct []])) E fun ps h1 => (match h1[h.length]? with
    | some (.dct []) => (ps.all (fun kv => isKey kv.1) = true ∧ ps.length ≤ 15) ∧ Q (.ref h.length) (h1.set h.length (.dct (mergeV [] ps)))
    | _ => False) := by
  unfold mDisp; simp only [wR_bind]; congr; funext ps h1; split
  · simp only [wR_ite, wR_ok, wR_stuck, ite_and']
    all_goals simp_all
  · simp_all
@[simp ↓] theorem wR_mUpd : wR (mUpd mo my s h) E Q = wR (mo s h) E fun o h1 => isU o h1 = true ∧ wR (my s h1) E fun y h2 => wR (dUpd o y h2) E Q := by
  unfold mUpd; simp only [wR_bind]; congr; funext o h1; split <;> simp_all
theorem dUpd_at {d e : List (Val × Val)} (e1 : h[a]? = some (.dct d)) (e2 : h[b]? = some (.dct e)) (ne : a ≠ b) (hl : d.length + e.length ≤ lim) : dUpd (.ref a) (.ref b) h = .ok .non (h.set a (.dct (mergeV d e))) := by simp [dUpd, e1, e2, ne, hl]
theorem isU_at {d : List (Val × Val)} (e1 : h[a]? = some (.dct d)) : isU (.ref a) h = true := by simp [isU, e1]
theorem bDictD_at {d : List (Val × Val)} (e1 : h[a]? = some (.dct d)) : bDictD [.ref a] h = .ok (.ref h.length) (h ++ [.dct d]) := by simp [bDictD, e1]
theorem bSorted_lst {ys : List Val} {ns : List Int} (e1 : h[a]? = some (.lst ys)) (e2 : optAll asInt ys = some ns) : bSorted [.ref a] h = .ok (.ref h.length) (h ++ [.lst ((sortI ns).map .int)]) := by simp [bSorted, e1, e2]
theorem bSorted_dct {d : List (Val × Val)} {ns : List Int} (e1 : h[a]? = some (.dct d)) (e2 : optAll (fun kv : Val × Val => asInt kv.1) d = some ns) (hl : ns.length < 64) : bSorted [.ref a] h = .ok (.ref h.length) (h ++ [.lst ((sortI ns).map .int)]) := by simp [bSorted, e1, e2, hl]
theorem bMinL_at {ys : List Val} {ns : List Int} (e1 : h[a]? = some (.lst ys)) (e2 : optAll asInt ys = some ns) (ne : ns ≠ []) : bMinL [.ref a] h = .ok (.int (minI ns)) h := by simp [bMinL, e1, e2, ne]
@[simp ↓] theorem wR_revL : wR (revL (.ref a) h) E Q = (match h[a]? with | some (.lst xs) => Q (.ref h.length) (h ++ [.lst xs.reverse]) | _ => False) := by
  unfold revL; simp only; split <;> simp_all
@[simp ↓] theorem wR_rgL {i j : Int} : wR (rgL (.int i) (.int j) h) E Q = ((-(2 ^ 62) ≤ i ∧ i < 2 ^ 62 ∧ -(2 ^ 62) ≤ j ∧ j < 2 ^ 62 ∧ (j - i).toNat ≤ lim) ∧ Q (.ref h.length) (h ++ [.lst (rangeV i (j - i).toNat)])) := by
  unfold rgL; simp only [wR_ite, wR_ok, wR_stuck, ite_and']
@[simp ↓] theorem wR_rgT {i j : Int} : wR (rgT (.int i) (.int j) h) E Q = ((-(2 ^ 62) ≤ i ∧ i < 2 ^ 62 ∧ -(2 ^ 62) ≤ j ∧ j < 2 ^ 62 ∧ (j - i).toNat ≤ lim) ∧ Q (.tup (rangeV i (j - i).toNat)) h) := by
  unfold rgT; simp only [wR_ite, wR_ok, wR_stuck, ite_and']
@[simp ↓] theorem wR_oIxLs {i : Nat} : wR (oIx (.ref a) (.str i) h) E Q = (match h[a]? with
    | some (.dct d) => (match lookV d (.str i) with | some v => Q v h | none => False)
    | some (.fdc d) => (match lookV d (.str i) with | some v => Q v h | none => False)
    | _ => False) := by
  unfold oIx; simp only [isKey]; split <;> simp_all
  all_goals (split <;> simp_all)
@[simp ↓] theorem wR_oSetS {i : Nat} : wR (oSet (.ref a) (.str i) x h) E QU = (match h[a]? with
    | some (.dct d) => d.length < lim ∧ QU () (h.set a (.dct (putV d (.str i) x)))
    | _ => False) := by
  unfold oSet; simp only [isKey]; split
  · simp_all
  · simp only [wR_ite, wR_ok, wR_stuck, ite_and']
    all_goals simp_all
  · simp_all
end
end PyM
namespace PyM
open PySem L2
/-! list(d) -/
def bListD (xs : List Val) (h : Heap) : Res Val := match xs with
  | [.ref a] => match h[a]? with
    | some (.dct d) => .ok (.ref h.length) (h ++ [.lst (d.map (·.1))])
    | _ => .stuck
  | _ => .stuck
section
variable {G : Cfg} {E : XK} {X : Cx} {k : Nat} {r : List Addr} {H : Hp} {h : Heap}
theorem DR.keys {d : List (Val × Val)} {es : List (L2.Key × V)} (q : DR G r H d es) : VRs G r H (d.map (·.1)) (es.map fun kv => kV kv.1) := by
  induction q with
  | nil => exact .nil
  | cons a b _ ih =>
    refine .cons ?_ ih
    cases a with
    | int i => exact .int i
    | str e => exact .str e
theorem rl_listD : RfL G E (fun xs H Q => ∃ (a : Addr) (kvs : List (L2.Key × V)), xs = [.ref a] ∧ L2.Rd H a (.dK kvs) ∧ ∀ p, H p = none → Q (.ref p) (upd H p (.lst (kvs.map fun kv => kV kv.1)))) bListD := by
  refine ⟨fun r H h xs vs Q hR v p => ?_⟩
  unfold bListD at p
  split at p
  · cases v with
    | cons q1 q2 => cases q2; cases q1 with
      | ref ea =>
        split at p
        · rename_i d eo
          cases hR.ob _ _ _ eo ea with
          | dct hl hv => exact ⟨_, _, rfl, .inl hl, fun l hl' => new_lst hR hv.keys p l hl'⟩
        · exact False.elim p
  · exact False.elim p
theorem bListD_at {a : Nat} {d : List (Val × Val)} (e : h[a]? = some (.dct d)) : bListD [.ref a] h = .ok (.ref h.length) (h ++ [.lst (d.map (·.1))]) := by simp [bListD, e]
/-- equal dicts, equal tuples of lists of dicts -/
theorem hitsM_self {f : Val → Val → Option Bool} {e : List (Val × Val)} : ∀ (d : List (Val × Val)), (∀ p ∈ d, lookV e p.1 = some p.2 ∧ f p.2 p.2 = some true) → hitsM f e d = some true
  | [], _ => rfl
  | (k, v) :: r, g => by
    obtain ⟨g1, g2⟩ := g (k, v) List.mem_cons_self
    simp only at g1 g2
    simp [hitsM, g1, g2, hitsM_self r fun p hp => g p (List.mem_cons_of_mem _ hp)]
theorem lookV_mem : ∀ {d : List (Val × Val)}, (d.map (·.1)).Nodup → ∀ p ∈ d, lookV d p.1 = some p.2
  | [], _, p, hp => by cases hp
  | (k, v) :: r, nd, p, hp => by
    rw [List.map_cons, List.nodup_cons] at nd
    rcases List.mem_cons.mp hp with rfl | hp
    · simp [lookV]
    · have hne : ¬ k = p.1 := fun e => nd.1 (by rw [e]; exact List.mem_map.mpr ⟨p, hp, rfl⟩)
      have := lookV_mem nd.2 p hp
      simp only [lookV, List.find?_cons, hne, decide_false] at this ⊢
      exact this
theorem eqH_pl {n : Nat} {x y : Val} (hx : pl 40 x = true) (hy : pl 40 y = true) : eqH (n + 1) h x y = some (decide (x = y)) := by
  unfold eqH
  rw [conv_pl 40 x hx, conv_pl 40 y hy]
  simp only [deq_pl x y 40 40 hx hy]
theorem conv_ref_dct {n a : Nat} {d : List (Val × Val)} (e : h[a]? = some (.dct d)) : conv n h (.ref a) = none := by
  cases n with
  | zero => rfl
  | succ n => simp [conv, e]
theorem eqH_dct {n a b : Nat} {d : List (Val × Val)} (ea : h[a]? = some (.dct d)) (eb : h[b]? = some (.dct d)) (hi : d.all (fun kv => isIV kv.1) = true) (nd : (d.map (·.1)).Nodup) (hp : ∀ p ∈ d, pl 40 p.2 = true) : eqH (n + 2) h (.ref a) (.ref b) = some true := by
  unfold eqH
  rw [conv_ref_dct ea]
  simp only
  by_cases q : a = b
  · simp [q]
  · simp only [q, if_false]
    unfold eqStep
    simp only [ea, eb, hi, and_self, if_true]
    refine hitsM_self d fun p hp' => ⟨lookV_mem nd p hp', ?_⟩
    rw [eqH_pl (hp p hp') (hp p hp')]
    simp
theorem optAll_true {α : Type} {f : α → Option Bool} : ∀ {l : List α}, (∀ x ∈ l, f x = some true) → optAll f l = some (List.replicate l.length true)
  | [], _ => rfl
  | x :: l, g => by
    rw [optAll, g x List.mem_cons_self, optAll_true fun y hy => g y (List.mem_cons_of_mem _ hy)]
    rfl
theorem all_rep (n : Nat) : (List.replicate n true).all id = true := by
  induction n with
  | zero => rfl
  | succ n ih => simp [List.replicate_succ]
theorem eqStep_lst {f : Val → Val → Option Bool} {a b : Nat} {xs ys : List Val} (ea : h[a]? = some (.lst xs)) (eb : h[b]? = some (.lst ys)) (hl : xs.length = ys.length) (g : ∀ p ∈ xs.zip ys, f p.1 p.2 = some true) : eqStep f h (.ref a) (.ref b) = some true := by
  unfold eqStep
  simp only [ea, eb, hl, if_true]
  rw [optAll_true g]
  simp [all_rep]
end
end PyM

set_option Elab.async false
set_option linter.all false
set_option autoImplicit false
set_option maxRecDepth 100000
set_option maxHeartbeats 4000000
/-! x or y by truth; // by great numbers -/
namespace PyM
open PySem L2
def mOrT (ma mb : En → Heap → Res Val) (s : En) (h : Heap) : Res Val := (ma s h).bind fun x h1 => match truth x h1 with
  | some b => if b = true then .ok x h1 else mb s h1
  | none => .stuck
abbrev oFdW : Val → Val → Heap → Res Val := oIC (fun _ j => decide (0 < j ∧ j < 18446744073709551616)) fun i j => .int (i / j)
section
variable {G : Cfg} {E : XK} {X : Cx} {k : Nat} {a b : Expr} {ta tb : TE} {ma mb : En → Heap → Res Val} {pos : Pos} {rest : List Expr}
theorem me_orT (C : XC G E X k) (ha : ME G E X a ta ma) (h2 : ME G E X (.BoolOp .Or (b :: rest) pos) tb mb) : ME G E X (.BoolOp .Or (a :: b :: rest) pos) (tOrT G.K ta tb) (mOrT ma mb) := by
  refine ⟨?_, ⟨fun r H h' s σ Q hR sR p => ha.rf.run r H h' s σ _ hR sR (p.seq fun x h1' r1 H1 v s1 hR1 v1 p1 => ?_)⟩⟩
  · have := pe_orT (pos := pos) ha.pe h2.pe
    rwa [C.K] at this
  · split at p1
    · rename_i c e
      refine ⟨c, tru_of hR1 v1 e, ?_⟩
      split at p1
      · rename_i hc
        rw [if_pos hc]
        exact p1.here hR1 v1
      · rename_i hc
        rw [if_neg hc]
        exact h2.rf.run r1 H1 h1' s σ _ hR1 (sR.mono s1) p1
    · exact False.elim p1
theorem me_fdivW (ha : ME G E X a ta ma) (hb : ME G E X b tb mb) : ME G E X (.BinOp a .FloorDiv b pos) (tOp (rI CDivW fun i j => .int (i / j)) ta tb) (mB oFdW ma mb) :=
  ⟨pe_op op_fdivW ha.pe hb.pe, ha.rf.b2 hb.rf (rf_IC (fun i j e => by
    have q : 0 < j ∧ j < 18446744073709551616 := by simpa using e
    exact wide_div (b := 64) q.1 (by omega) (by omega) (by omega)))⟩
end
section
variable {ma mb : En → Heap → Res Val} {s : En} {h : Heap} {E : Nat → Heap → Prop} {Q : Val → Heap → Prop}
@[simp ↓] theorem wR_mOrT : wR (mOrT ma mb s h) E Q = wR (ma s h) E fun x h1 => match truth x h1 with
    | some b => if b = true then Q x h1 else wR (mb s h1) E Q
    | none => False := by
  unfold mOrT
  simp only [wR_bind]
  congr
  funext x h1
  cases truth x h1 with
  | none => rfl
  | some b => cases b <;> rfl
end
end PyM

set_option Elab.async false
set_option linter.all false
set_option autoImplicit false
set_option maxRecDepth 100000
set_option maxHeartbeats 4000000
/-! comprehensions over dicts; dict comprehensions -/
namespace PyM
open PySem L2
section
variable {G : Cfg} {E : XK} {X : Cx} {k : Nat} {iter elt tg kx vx : Expr} {ifs : List Expr} {te tk tv td : TE} {me mk mv md : En → Heap → Res Val} {pos p : Pos} {wi : TI} {mi : MI} {g : TG} {mg : Val → En → Option En} {tt : TT} {mt : En → Heap → Res Bool}
/-- the walk of a list comprehension, the source given -/
theorem lc_rel {vs : List Nat} {S : Src} {J : It} {r1 : List Addr} {H1 : Hp} {h1 : Heap} {s : En} {σ : L2.St} {Hx : Hp} {Q : VK} (hg : RfG G g mg) (hw : TgW vs g) (ht : RfT G E0 tt mt) (he : Rf G E0 te me) (hR1 : HR G r1 H1 h1) (sRs : SR G r1 H1 s σ) (J1 : ItOk G r1 H1 J S)
    (p1 : PostR G (VR G) r1 H1 E ((lcM S.chk mg mt me (wipeE s vs) h1.length S.items (h1 ++ [.lst []])).bind fun _ h2 => .ok (.ref h1.length) h2) Q) : tLc (fun _ _ R => R J H1) g tt te vs σ Hx Q := by
  intro D hD
  have st0 : Stp G.K r1 H1 (r1 ++ [D]) (upd H1 D (.lst [])) := Stp.new hD
  have hR0 : HR G (r1 ++ [D]) (upd H1 D (.lst [])) (h1 ++ [.lst []]) := hR1.push hD (.lst upd_same .nil)
  have rD : (r1 ++ [D])[h1.length]? = some D := by rw [← hR1.len]; simp
  have sR1 := (sRs.mono st0).wipe vs
  refine ⟨fun i mm H' => ∃ r' h', Stp G.K (r1 ++ [D]) (upd H1 D (.lst [])) r' H' ∧ HR G r' H' h' ∧ mm = S.items.length - i ∧ i ≤ S.items.length ∧
    PostR G (VR G) r' H' E ((lcM S.chk mg mt me (wipeE s vs) h1.length (S.items.drop i) h').bind fun _ h2 => .ok (.ref h1.length) h2) Q, ⟨_, _, _, Stp.refl, hR0, rfl, Nat.zero_le _, p1.shift st0⟩, ?_⟩
  rintro i mm H' ⟨r', h', st, hR', rfl, hle, p'⟩
  have stA := st0.trans st
  cases hd : S.items.drop i with
  | nil =>
    have hi : i = S.items.length := by
      have := List.drop_eq_nil_iff.mp hd
      omega
    rw [hd] at p'
    unfold lcM at p'
    split at p'
    · rename_i hc
      subst hi
      exact .inl ⟨J1.stop r' H' h' stA hR' hc, p'.here hR' (.ref (st.pre _ _ rD))⟩
    · exact False.elim p'
  | cons x rest =>
    have hlt : i < S.items.length := by
      refine Decidable.byContradiction fun q => ?_
      rw [List.drop_eq_nil_of_le (by omega)] at hd
      cases hd
    have hx : S.items[i]? = some x := by
      have := congrArg (fun l => l[0]?) hd
      simpa using this
    have hr : S.items.drop (i + 1) = rest := by
      rw [← List.drop_drop (i := 1) (j := i), hd]
      rfl
    rw [hd] at p'
    unfold lcM at p'
    split at p'
    · rename_i hc
      obtain ⟨hgo, hy⟩ := J1.go r' H' h' i x stA hR' hc hx
      refine .inr ⟨hgo, fun H2 => ∃ r2 h2, Stp G.K (r1 ++ [D]) (upd H1 D (.lst [])) r2 H2 ∧ HR G r2 H2 h2 ∧ PostR G (VR G) r2 H2 E ((lcM S.chk mg mt me (wipeE s vs) h1.length rest h2).bind fun _ h2 => .ok (.ref h1.length) h2) Q, ?_, ?_⟩
      · rintro H2 ⟨r2, h2, q1, q2, q4⟩
        exact ⟨_, by omega, r2, h2, q1, q2, rfl, by omega, by rw [hr]; exact q4⟩
      · intro v H3 hyl
        obtain ⟨r3, st3, hR3, vR⟩ := hy v H3 hyl
        refine hw.run v _ _ H3 _ wipe_wipe ?_
        cases e1 : mg x (wipeE s vs) with
        | none => rw [e1] at p'; exact False.elim p'
        | some s2 =>
          rw [e1] at p'
          refine hg.run r3 H3 _ _ x v _ ((sR1.mono st).mono st3) vR ⟨s2, e1, fun σ2 sR2 => ?_⟩
          refine ht.run r3 H3 h' s2 σ2 _ hR3 sR2 ?_
          simp only at p'
          cases e2 : mt s2 h' with
          | ok b h4 =>
            rw [e2] at p'
            intro r4 H4 b' st4 hR4 eb
            subst eb
            simp only at p'
            split at p'
            · rename_i hb
              rw [if_pos hb]
              refine he.run r4 H4 h4 s2 σ2 _ hR4 (sR2.mono st4) ?_
              cases e3 : me s2 h4 with
              | ok y h5 =>
                rw [e3] at p'
                intro r5 H5 y' st5 hR5 vy
                simp only at p'
                split at p'
                · rename_i acc eacc
                  have st5' := (st3.trans st4).trans st5
                  have rD5 := (st.trans st5').pre _ _ rD
                  cases hR5.ob _ _ _ eacc rD5 with
                  | @lst _ us _ hl hv =>
                    split at p'
                    · rename_i hlen
                      have stU : ∀ u, Stp G.K r5 H5 r5 (upd H5 D u) := fun u => Stp.upd fun o e => by rw [hl] at e; cases e; trivial
                      refine ⟨us, hl, lt_line (by rw [← hv.len]; exact hlen), r5, _, (st.trans st5').trans (stU _), hR5.write eacc rfl rD5 (fun o e => by rw [hl] at e; cases e; trivial) (.lst upd_same ?_) rfl, p'.shift (st5'.trans (stU _))⟩
                      exact (hv.app (.cons vy .nil)).mono (stU _)
                    · exact False.elim p'
                · exact False.elim p'
              | raised c h5 => rw [e3] at p'; exact False.elim p'
              | stuck => rw [e3] at p'; exact False.elim p'
            · rename_i hb
              rw [if_neg hb]
              exact ⟨r4, h4, st.trans (st3.trans st4), hR4, p'.shift (st3.trans st4)⟩
          | raised c h4 => rw [e2] at p'; exact False.elim p'
          | stuck => rw [e2] at p'; exact False.elim p'
    · exact False.elim p'
/-- unlocking behind a value -/
def unlR (n : Nat) : Res Val → Res Val
  | .ok v h => match unlH n h with
    | some h2 => .ok v h2
    | none => .stuck
  | _ => .stuck
theorem postR_unl {r1 : List Addr} {H1 : Hp} {a : Addr} {n : Nat} {u w : HO} {x : Res Val} {Q : VK} (ea : r1[n]? = some a) (h0 : H1 a = some u) (hu : NotT u) (st : Stp G.K r1 H1 r1 (upd H1 a w)) (nf : ∀ o' u', X.H_0 a ≠ some (.frz o' u')) (p : PostR G (VR G) r1 H1 E (unlR n x) Q) : PostR G (VR G) r1 (upd H1 a w) E x (unV X Q) := by
  cases x with
  | ok v' h' =>
    intro r' H' t st' hR' vR'
    simp only [unlR] at p
    split at p
    · rename_i h3 e3
      obtain ⟨o, u', hl, sw, hR3⟩ := hR'.unl e3 (st'.pre _ _ ea)
      exact ⟨a, o, u', hl, nf, p r' _ t (Stp.unl h0 hu (st.trans st')) hR3 (vR'.monow sw)⟩
    · exact p.elim
  | raised _ _ => exact p.elim
  | stuck => exact p.elim
def mLcD (md : En → Heap → Res Val) (tg : Val → En → Option En) (mt : En → Heap → Res Bool) (me : En → Heap → Res Val) (vs : List Nat) (s : En) (h : Heap) : Res Val := (md s h).bind fun x h1 => match x with
  | .ref n => match lockD n h1 with
    | some (ks, h2) => unlR n ((lcM (fun _ => true) tg mt me (wipeE s vs) h2.length ks (h2 ++ [.lst []])).bind fun _ h3 => .ok (.ref h2.length) h3)
    | none => .stuck
  | _ => .stuck
theorem me_lcD {scope : Scope} (own : List (Str × Nat)) (C : XC G E X k) (hd : ME G E X iter td md) (ok : BlkOk X.N X.env.scope scope own)
    (hg : ∀ (s : Shared) (H : Hp) (D : Addr) (cl : List (Str × Addr)) (fp : List Addr), XC G E0 (X.blk s H scope (compEnvC scope cl D X.env) fp) k → MG G (X.blk s H scope (compEnvC scope cl D X.env) fp) tg g mg)
    (ht : ∀ (s : Shared) (H : Hp) (D : Addr) (cl : List (Str × Addr)) (fp : List Addr), XC G E0 (X.blk s H scope (compEnvC scope cl D X.env) fp) k → MTs G E0 (X.blk s H scope (compEnvC scope cl D X.env) fp) ifs tt mt)
    (he : ∀ (s : Shared) (H : Hp) (D : Addr) (cl : List (Str × Addr)) (fp : List Addr), XC G E0 (X.blk s H scope (compEnvC scope cl D X.env) fp) k → ME G E0 (X.blk s H scope (compEnvC scope cl D X.env) fp) elt te me)
    (hw : TgW (own.map (·.2)) g) (hs : ∀ x, foldedSetIterable iter X.env x = pure x := by intro _; rfl) :
    ME G E X (.ListComp elt [⟨tg, iter, ifs, 0⟩] scope pos) (fun σ H Q => tLc (iKeysL X td) g tt te (own.map (·.2)) σ H (unV X Q)) (mLcD md mg mt me (own.map (·.2))) := by
  refine ⟨pe_unlock (pe_lc C.calm C.nd (pi_keysL hd.pe) ok (fun s H D cl fp => (hg s H D cl fp (C.blk ..)).pe) (fun s H D cl fp => (ht s H D cl fp (C.blk ..)).pe) (fun s H D cl fp => (he s H D cl fp (C.blk ..)).pe) hs), ⟨fun r H h s σ Q hR sR p => ?_⟩⟩
  have rg := (hg X.s_0 X.H_0 0 [] [] (C.blk ..)).rf
  have rt := (ht X.s_0 X.H_0 0 [] [] (C.blk ..)).rf
  have re := (he X.s_0 X.H_0 0 [] [] (C.blk ..)).rf
  refine hd.rf.run r H h s σ _ hR sR (p.seq fun x h1 r1 H1 v s1 hR1 v1 p1 => ?_)
  cases v1 with
  | @ref n a ea =>
    simp only at p1
    split at p1
    · rename_i ks h2 e2
      refine ⟨a, rfl, ?_⟩
      rcases hR1.lock e2 ea with ⟨d, f, eo, hl, hv, rfl, z⟩ | ⟨d, f, eo, hl, hv, rfl, z⟩
      · refine .inl ⟨f, hl, fun od nf => ?_⟩
        obtain ⟨st, hR2⟩ := z od
        exact lc_rel (E := E) (S := ⟨d.map (·.1), fun _ => true⟩) (Hx := H1) rg hw rt re hR2 ((sR.mono s1).mono st) (itk_ok upd_same (hv.mono st)) (postR_unl ea hl trivial st nf p1)
      · refine .inr ⟨f, hl, fun od nf => ?_⟩
        obtain ⟨st, hR2⟩ := z od
        exact lc_rel (E := E) (S := ⟨d.map (·.1), fun _ => true⟩) (Hx := H1) rg hw rt re hR2 ((sR.mono s1).mono st) (itkt_ok upd_same (hv.mono st)) (postR_unl ea hl trivial st nf p1)
    · exact False.elim p1
  | _ => exact False.elim p1
def dcM (chk : Heap → Bool) (tg : Val → En → Option En) (mt : En → Heap → Res Bool) (mk mv : En → Heap → Res Val) (s0 : En) (n : Nat) : List Val → Heap → Res Unit
  | [], h => if chk h = true then .ok () h else .stuck
  | x :: xs, h => if chk h = true then match tg x s0 with
      | some s2 => match mt s2 h with
        | .ok b h1 => if b = true then match mk s2 h1 with
            | .ok y h2 => match mv s2 h2 with
              | .ok z h3 => match h3[n]? with
                | some (.dct acc) => if isKey y = true ∧ acc.length < lim then dcM chk tg mt mk mv s0 n xs (h3.set n (.dct (putV acc y z))) else .stuck
                | _ => .stuck
              | _ => .stuck
            | _ => .stuck
          else dcM chk tg mt mk mv s0 n xs h1
        | _ => .stuck
      | none => .stuck
    else .stuck
/-- the walk of a dict comprehension -/
theorem dc_rel {vs : List Nat} {S : Src} {J : It} {r1 : List Addr} {H1 : Hp} {h1 : Heap} {s : En} {σ : L2.St} {Hx : Hp} {Q : VK} (hg : RfG G g mg) (hw : TgW vs g) (ht : RfT G E0 tt mt) (hk : Rf G E0 tk mk) (he : Rf G E0 tv mv) (ok : G.Ok) (hR1 : HR G r1 H1 h1) (sRs : SR G r1 H1 s σ) (J1 : ItOk G r1 H1 J S)
    (p1 : PostR G (VR G) r1 H1 E ((dcM S.chk mg mt mk mv (wipeE s vs) h1.length S.items (h1 ++ [.dct []])).bind fun _ h2 => .ok (.ref h1.length) h2) Q) : tDc (fun _ _ R => R J H1) g tt tk tv vs σ Hx Q := by
  intro D hD
  have st0 : Stp G.K r1 H1 (r1 ++ [D]) (upd H1 D (.dK [])) := Stp.new hD
  have hR0 : HR G (r1 ++ [D]) (upd H1 D (.dK [])) (h1 ++ [.dct []]) := hR1.push hD (.dct upd_same .nil)
  have rD : (r1 ++ [D])[h1.length]? = some D := by rw [← hR1.len]; simp
  have sR1 := (sRs.mono st0).wipe vs
  refine ⟨fun i mm H' => ∃ r' h', Stp G.K (r1 ++ [D]) (upd H1 D (.dK [])) r' H' ∧ HR G r' H' h' ∧ mm = S.items.length - i ∧ i ≤ S.items.length ∧
    PostR G (VR G) r' H' E ((dcM S.chk mg mt mk mv (wipeE s vs) h1.length (S.items.drop i) h').bind fun _ h2 => .ok (.ref h1.length) h2) Q, ⟨_, _, _, Stp.refl, hR0, rfl, Nat.zero_le _, p1.shift st0⟩, ?_⟩
  rintro i mm H' ⟨r', h', st, hR', rfl, hle, p'⟩
  have stA := st0.trans st
  cases hd : S.items.drop i with
  | nil =>
    have hi : i = S.items.length := by
      have := List.drop_eq_nil_iff.mp hd
      omega
    rw [hd] at p'
    unfold dcM at p'
    split at p'
    · rename_i hc
      subst hi
      exact .inl ⟨J1.stop r' H' h' stA hR' hc, p'.here hR' (.ref (st.pre _ _ rD))⟩
    · exact False.elim p'
  | cons x rest =>
    have hlt : i < S.items.length := by
      refine Decidable.byContradiction fun q => ?_
      rw [List.drop_eq_nil_of_le (by omega)] at hd
      cases hd
    have hx : S.items[i]? = some x := by
      have := congrArg (fun l => l[0]?) hd
      simpa using this
    have hr : S.items.drop (i + 1) = rest := by
      rw [← List.drop_drop (i := 1) (j := i), hd]
      rfl
    rw [hd] at p'
    unfold dcM at p'
    split at p'
    · rename_i hc
      obtain ⟨hgo, hy⟩ := J1.go r' H' h' i x stA hR' hc hx
      refine .inr ⟨hgo, fun H2 => ∃ r2 h2, Stp G.K (r1 ++ [D]) (upd H1 D (.dK [])) r2 H2 ∧ HR G r2 H2 h2 ∧ PostR G (VR G) r2 H2 E ((dcM S.chk mg mt mk mv (wipeE s vs) h1.length rest h2).bind fun _ h2 => .ok (.ref h1.length) h2) Q, ?_, ?_⟩
      · rintro H2 ⟨r2, h2, q1, q2, q4⟩
        exact ⟨_, by omega, r2, h2, q1, q2, rfl, by omega, by rw [hr]; exact q4⟩
      · intro v H3 hyl
        obtain ⟨r3, st3, hR3, vR⟩ := hy v H3 hyl
        refine hw.run v _ _ H3 _ wipe_wipe ?_
        cases e1 : mg x (wipeE s vs) with
        | none => rw [e1] at p'; exact False.elim p'
        | some s2 =>
          rw [e1] at p'
          refine hg.run r3 H3 _ _ x v _ ((sR1.mono st).mono st3) vR ⟨s2, e1, fun σ2 sR2 => ?_⟩
          refine ht.run r3 H3 h' s2 σ2 _ hR3 sR2 ?_
          simp only at p'
          cases e2 : mt s2 h' with
          | ok b h4 =>
            rw [e2] at p'
            intro r4 H4 b' st4 hR4 eb
            subst eb
            simp only at p'
            split at p'
            · rename_i hb
              rw [if_pos hb]
              refine hk.run r4 H4 h4 s2 σ2 _ hR4 (sR2.mono st4) ?_
              cases e3 : mk s2 h4 with
              | ok y h5 =>
                rw [e3] at p'
                intro r5 H5 y' st5 hR5 vy
                simp only at p'
                refine he.run r5 H5 h5 s2 σ2 _ hR5 ((sR2.mono st4).mono st5) ?_
                cases e4 : mv s2 h5 with
                | ok z h6 =>
                  rw [e4] at p'
                  intro r6 H6 z' st6 hR6 vz
                  simp only at p'
                  split at p'
                  · rename_i acc eacc
                    have st6' := ((st3.trans st4).trans st5).trans st6
                    have rD6 := (st.trans st6').pre _ _ rD
                    cases hR6.ob _ _ _ eacc rD6 with
                    | @dct _ us _ hl hv =>
                      split at p'
                      · rename_i hlen
                        obtain ⟨q, kq, rfl⟩ := KR.of (vy.mono st6) hlen.1
                        have stU : ∀ u, Stp G.K r6 H6 r6 (upd H6 D u) := fun u => Stp.upd fun o e => by rw [hl] at e; cases e; trivial
                        refine ⟨us, q, rfl, hl, lt_line (by rw [← hv.len]; exact hlen.2), r6, _, (st.trans st6').trans (stU _), hR6.write eacc rfl rD6 (fun o e => by rw [hl] at e; cases e; trivial) (.dct upd_same ?_) rfl, p'.shift (st6'.trans (stU _))⟩
                        exact (hv.put ok kq vz).mono (stU _)
                      · exact False.elim p'
                  · exact False.elim p'
                | raised c h6 => rw [e4] at p'; exact False.elim p'
                | stuck => rw [e4] at p'; exact False.elim p'
              | raised c h5 => rw [e3] at p'; exact False.elim p'
              | stuck => rw [e3] at p'; exact False.elim p'
            · rename_i hb
              rw [if_neg hb]
              exact ⟨r4, h4, st.trans (st3.trans st4), hR4, p'.shift (st3.trans st4)⟩
          | raised c h4 => rw [e2] at p'; exact False.elim p'
          | stuck => rw [e2] at p'; exact False.elim p'
    · exact False.elim p'
def mDc (mi : MI) (tg : Val → En → Option En) (mt : En → Heap → Res Bool) (mk mv : En → Heap → Res Val) (vs : List Nat) (s : En) (h : Heap) : Res Val := (mi s h).bind fun S h1 => (dcM S.chk tg mt mk mv (wipeE s vs) h1.length S.items (h1 ++ [.dct []])).bind fun _ h2 => .ok (.ref h1.length) h2
def mDcD (md : En → Heap → Res Val) (tg : Val → En → Option En) (mt : En → Heap → Res Bool) (mk mv : En → Heap → Res Val) (vs : List Nat) (s : En) (h : Heap) : Res Val := (md s h).bind fun x h1 => match x with
  | .ref n => match lockD n h1 with
    | some (ks, h2) => unlR n ((dcM (fun _ => true) tg mt mk mv (wipeE s vs) h2.length ks (h2 ++ [.dct []])).bind fun _ h3 => .ok (.ref h2.length) h3)
    | none => .stuck
  | _ => .stuck
theorem me_dc {scope : Scope} (ok : G.Ok) (own : List (Str × Nat)) (C : XC G E X k) (hi : MIt G E X tg iter wi mi) (bok : BlkOk X.N X.env.scope scope own)
    (hg : ∀ (s : Shared) (H : Hp) (D : Addr) (cl : List (Str × Addr)) (fp : List Addr), XC G E0 (X.blk s H scope (compEnvC scope cl D X.env) fp) k → MG G (X.blk s H scope (compEnvC scope cl D X.env) fp) tg g mg)
    (ht : ∀ (s : Shared) (H : Hp) (D : Addr) (cl : List (Str × Addr)) (fp : List Addr), XC G E0 (X.blk s H scope (compEnvC scope cl D X.env) fp) k → MTs G E0 (X.blk s H scope (compEnvC scope cl D X.env) fp) ifs tt mt)
    (hk : ∀ (s : Shared) (H : Hp) (D : Addr) (cl : List (Str × Addr)) (fp : List Addr), XC G E0 (X.blk s H scope (compEnvC scope cl D X.env) fp) k → ME G E0 (X.blk s H scope (compEnvC scope cl D X.env) fp) kx tk mk)
    (he : ∀ (s : Shared) (H : Hp) (D : Addr) (cl : List (Str × Addr)) (fp : List Addr), XC G E0 (X.blk s H scope (compEnvC scope cl D X.env) fp) k → ME G E0 (X.blk s H scope (compEnvC scope cl D X.env) fp) vx tv mv)
    (hw : TgW (own.map (·.2)) g) (hs : ∀ x, foldedSetIterable iter X.env x = pure x := by intro _; rfl) :
    ME G E X (.DictComp kx vx [⟨tg, iter, ifs, 0⟩] scope pos) (tDc wi g tt tk tv (own.map (·.2))) (mDc mi mg mt mk mv (own.map (·.2))) := by
  refine ⟨pe_dc C.calm C.nd hi.pe bok (fun s H D cl fp => (hg s H D cl fp (C.blk ..)).pe) (fun s H D cl fp => (ht s H D cl fp (C.blk ..)).pe) (fun s H D cl fp => (hk s H D cl fp (C.blk ..)).pe) (fun s H D cl fp => (he s H D cl fp (C.blk ..)).pe) hs, ⟨fun r H h s σ Q hR sR p => ?_⟩⟩
  refine hi.rf.run r H h s σ _ hR sR (p.seq fun S h1 r1 H1 J s1 hR1 J1 p1 => ?_)
  exact dc_rel (E := E) (Hx := H1) (hg X.s_0 X.H_0 0 [] [] (C.blk ..)).rf hw (ht X.s_0 X.H_0 0 [] [] (C.blk ..)).rf (hk X.s_0 X.H_0 0 [] [] (C.blk ..)).rf (he X.s_0 X.H_0 0 [] [] (C.blk ..)).rf ok hR1 (sR.mono s1) J1 p1
theorem me_dcD {scope : Scope} (ok : G.Ok) (own : List (Str × Nat)) (C : XC G E X k) (hd : ME G E X iter td md) (bok : BlkOk X.N X.env.scope scope own)
    (hg : ∀ (s : Shared) (H : Hp) (D : Addr) (cl : List (Str × Addr)) (fp : List Addr), XC G E0 (X.blk s H scope (compEnvC scope cl D X.env) fp) k → MG G (X.blk s H scope (compEnvC scope cl D X.env) fp) tg g mg)
    (ht : ∀ (s : Shared) (H : Hp) (D : Addr) (cl : List (Str × Addr)) (fp : List Addr), XC G E0 (X.blk s H scope (compEnvC scope cl D X.env) fp) k → MTs G E0 (X.blk s H scope (compEnvC scope cl D X.env) fp) ifs tt mt)
    (hk : ∀ (s : Shared) (H : Hp) (D : Addr) (cl : List (Str × Addr)) (fp : List Addr), XC G E0 (X.blk s H scope (compEnvC scope cl D X.env) fp) k → ME G E0 (X.blk s H scope (compEnvC scope cl D X.env) fp) kx tk mk)
    (he : ∀ (s : Shared) (H : Hp) (D : Addr) (cl : List (Str × Addr)) (fp : List Addr), XC G E0 (X.blk s H scope (compEnvC scope cl D X.env) fp) k → ME G E0 (X.blk s H scope (compEnvC scope cl D X.env) fp) vx tv mv)
    (hw : TgW (own.map (·.2)) g) (hs : ∀ x, foldedSetIterable iter X.env x = pure x := by intro _; rfl) :
    ME G E X (.DictComp kx vx [⟨tg, iter, ifs, 0⟩] scope pos) (fun σ H Q => tDc (iKeysL X td) g tt tk tv (own.map (·.2)) σ H (unV X Q)) (mDcD md mg mt mk mv (own.map (·.2))) := by
  refine ⟨pe_unlock (pe_dc C.calm C.nd (pi_keysL hd.pe) bok (fun s H D cl fp => (hg s H D cl fp (C.blk ..)).pe) (fun s H D cl fp => (ht s H D cl fp (C.blk ..)).pe) (fun s H D cl fp => (hk s H D cl fp (C.blk ..)).pe) (fun s H D cl fp => (he s H D cl fp (C.blk ..)).pe) hs), ⟨fun r H h s σ Q hR sR p => ?_⟩⟩
  have rg := (hg X.s_0 X.H_0 0 [] [] (C.blk ..)).rf
  have rt := (ht X.s_0 X.H_0 0 [] [] (C.blk ..)).rf
  have rk := (hk X.s_0 X.H_0 0 [] [] (C.blk ..)).rf
  have re := (he X.s_0 X.H_0 0 [] [] (C.blk ..)).rf
  refine hd.rf.run r H h s σ _ hR sR (p.seq fun x h1 r1 H1 v s1 hR1 v1 p1 => ?_)
  cases v1 with
  | @ref n a ea =>
    simp only at p1
    split at p1
    · rename_i ks h2 e2
      refine ⟨a, rfl, ?_⟩
      rcases hR1.lock e2 ea with ⟨d, f, eo, hl, hv, rfl, z⟩ | ⟨d, f, eo, hl, hv, rfl, z⟩
      · refine .inl ⟨f, hl, fun od nf => ?_⟩
        obtain ⟨st, hR2⟩ := z od
        exact dc_rel (E := E) (S := ⟨d.map (·.1), fun _ => true⟩) (Hx := H1) rg hw rt rk re ok hR2 ((sR.mono s1).mono st) (itk_ok upd_same (hv.mono st)) (postR_unl ea hl trivial st nf p1)
      · refine .inr ⟨f, hl, fun od nf => ?_⟩
        obtain ⟨st, hR2⟩ := z od
        exact dc_rel (E := E) (S := ⟨d.map (·.1), fun _ => true⟩) (Hx := H1) rg hw rt rk re ok hR2 ((sR.mono s1).mono st) (itkt_ok upd_same (hv.mono st)) (postR_unl ea hl trivial st nf p1)
    · exact False.elim p1
  | _ => exact False.elim p1
theorem ms_setLcD {scope : Scope} {y : Str} {py spos : Pos} (i : Nat) (own : List (Str × Nat)) (C : XC G E X k) (hd : ME G E X iter td md) (ok : BlkOk X.N X.env.scope scope own)
    (hg : ∀ (s : Shared) (H : Hp) (D : Addr) (cl : List (Str × Addr)) (fp : List Addr), XC G E0 (X.blk s H scope (compEnvC scope cl D X.env) fp) k → MG G (X.blk s H scope (compEnvC scope cl D X.env) fp) tg g mg)
    (ht : ∀ (s : Shared) (H : Hp) (D : Addr) (cl : List (Str × Addr)) (fp : List Addr), XC G E0 (X.blk s H scope (compEnvC scope cl D X.env) fp) k → MTs G E0 (X.blk s H scope (compEnvC scope cl D X.env) fp) ifs tt mt)
    (he : ∀ (s : Shared) (H : Hp) (D : Addr) (cl : List (Str × Addr)) (fp : List Addr), XC G E0 (X.blk s H scope (compEnvC scope cl D X.env) fp) k → ME G E0 (X.blk s H scope (compEnvC scope cl D X.env) fp) elt te me)
    (hw : TgW (own.map (·.2)) g) (hsw : swapsWith (.ListComp elt [⟨tg, iter, ifs, 0⟩] scope pos) (some (.Name y py)) spos.line X.env = pure true) (hy : X.N[i]? = some y := by rfl) (hyl : X.env.scope.names.lookup y = some .local := by rfl) (hs : ∀ x, foldedSetIterable iter X.env x = pure x := by intro _; rfl) :
    MS G E X (.Assign [.Name y py] (.ListComp elt [⟨tg, iter, ifs, 0⟩] scope pos) spos) (fun D σ H => tAsg (tLc (iKeysL X td) g tt te (own.map (·.2))) (gName i) (unD X D) σ H) (sAsg (gV i) (mLcD md mg mt me (own.map (·.2)))) := by
  refine ⟨ps_unlock (ps_setLc C.calm C.nd hy hyl hsw (pi_keysL hd.pe) ok (fun s H D cl fp => (hg s H D cl fp (C.blk ..)).pe) (fun s H D cl fp => (ht s H D cl fp (C.blk ..)).pe) (fun s H D cl fp => (he s H D cl fp (C.blk ..)).pe) hs), ⟨fun r H h s σ D hR sR p => ?_⟩⟩
  have rf := (me_lcD (pos := pos) own C hd ok hg ht he hw hs).rf
  exact rf.run r H h s σ (fun x H1 => gName i x σ H1 D.nx) hR sR (p.seqS fun x h1' r1 H1 v s1 hR1 v1 p1 => p1.here hR1 ((sR.mono s1).set v1 i))
end
end PyM

set_option Elab.async false
set_option linter.all false
set_option autoImplicit false
set_option maxRecDepth 100000
set_option maxHeartbeats 4000000
/-! tuples that are known to have no dict of their own (objects tpl): displays, tuple(list), walks, dict(tuple of pairs) -/
namespace PyM
open PySem PySem.Spec L2
section
variable {X : Cx} {es : List Expr} {t : TA} {pos : Pos}
def tTupO (t : TA) : TE := fun σ H Q => t σ H fun xs H1 => xs.length ≤ sizeLine ∧ ∀ (p : Addr) (o : PySem.Obj), H1 p = none → o.dict = none → Q (.ref p) (upd H1 p (.frz o (.tup xs)))
theorem pe_tupO {x1} (h : PA X es t) : PE X (.Tuple es x1 pos) (tTupO t) := by
  refine ⟨fun pins s σ H Q I hq => ?_⟩
  refine wpAny_Tuple_spliced (thn (h.run pos pins s σ H _ I hq) fun us s1 ⟨xs, H1, I1, r, z, q⟩ => ⟨by rw [← r.length]; exact z, ?_⟩)
  have hf : H1 s1.heap.objs.size = none := I1.hok.fresh (Nat.le_refl _)
  refine ⟨.ref s1.heap.objs.size, upd H1 s1.heap.objs.size (.frz { cls := .type "tuple", data := .seq us.toArray } (.tup xs)), I1.laid (t' := s1.toks) (fun b u e => Heap.get?_push_of_some _ e) (Nat.le_refl _) ?_, rfl, q _ _ hf rfl⟩
  exact ⟨Heap.get?_push_size _ rfl, z, us, r, ⟨_, Heap.get?_push_size _ rfl, rfl, _, rfl⟩⟩
def rTupO (K : PySem.W.Frag) : List V → Hp → VK → Prop := fun xs H Q => ∃ p ys, xs = [.ref p] ∧ SqL K H p ys ∧ ∀ (l : Addr) (o : PySem.Obj), H l = none → o.dict = none → Q (.ref l) (upd H l (.frz o (.tup ys)))
theorem call_tupleO : CallR X (.type "tuple") (rTupO X.K) := by
  intro pins s σ H xs us Q I r q
  obtain ⟨p, ys, ex, hs, q⟩ := q
  subst ex
  obtain ⟨u, eu, rx⟩ := vals1 r
  subst eu
  obtain rfl : u = .ref p := rx
  obtain ⟨its, rv, pl, hz⟩ := I.list hs
  refine call_tuple_list pl.isList (fun h' hk => ?_) (by rw [List.size_toArray, ← rv.length]; exact hz)
  have I1 : Inv X pins σ H { s with heap := h' } := I.kept (t' := s.toks) hk
  have I2 : Inv X pins σ (upd H h'.objs.size (.frz { cls := .type "tuple", data := .seq its.toArray } (.tup ys))) { s with heap := h'.push { cls := .type "tuple", data := .seq its.toArray } } :=
    I1.laid (t' := s.toks) (fun b o e => Heap.get?_push_of_some _ e) (Nat.le_refl _) (show ObjOk X.prog X.w _ _ _ (.frz _ (.tup ys)) from ⟨Heap.get?_push_size _ rfl, hz, its, rv, PyProof.Rows.IsTup.new _ _⟩)
  exact ⟨.ref h'.objs.size, _, I2, rfl, q _ _ (I1.hok.fresh (Nat.le_refl _)) rfl⟩
/-- dict(t) of such a tuple of pairs -/
def rDictO (K : PySem.W.Frag) : List V → Hp → VK → Prop := fun xs H Q => ∃ (a : Addr) (o : PySem.Obj) (ps : List Addr) (kvs : List (Key × V)), xs = [.ref a] ∧ H a = some (.frz o (.tup (ps.map V.ref))) ∧ o.dict = none ∧ Paired (fun p kv => SqT K H p [kV kv.1, kv.2]) ps kvs ∧
    ∀ p, H p = none → Q (.ref p) (upd H p (.dK (mergeK [] kvs)))
theorem call_dictO (hcalm : X.calm = true) : CallR X (.type "dict") (rDictO X.K) := by
  intro pins s σ H xs us Q I r q
  obtain ⟨a, o, ps, kvs, ex, ha, hd, hp, q⟩ := q
  subst ex
  obtain ⟨u, eu, rx⟩ := vals1 r
  subst eu
  obtain rfl : u = .ref a := rx
  obtain ⟨ho, hz, its, rv, o', ho', hc, n, hdat⟩ := I.hok a _ ha
  rw [ho] at ho'
  cases ho'
  have ei := L2.refs_at rv
  subst ei
  rw [List.length_map] at hz
  obtain ⟨prs, rel, hl, hpr⟩ := L2.pairs_of I hp
  -- the pairs by their addresses
  have hu : ∀ j (h : j < prs.length), ∃ (b : Addr) (u : Value), ps[j]? = some b ∧ PyProof.Rows.IsTup s.heap b #[u, prs[j].2] ∧ keyIs prs[j].1 u = true := fun j h => hpr j prs[j] (List.getElem?_eq_getElem h)
  let key : Nat → Value := fun j => if h : j < prs.length then (hu j h).choose_spec.choose else .none
  let ws : List (Value × Value) := (List.range prs.length).map fun j => (key j, (prs.getD j (.inl 0, .none)).2)
  have hws : ws.length = prs.length := by simp [ws]
  have hwj : ∀ j k v, ws[j]? = some (k, v) → ∃ h : j < prs.length, k = key j ∧ v = prs[j].2 := fun j k v e => by
    have hj : j < prs.length := by rw [← hws]; exact (List.getElem?_eq_some_iff.mp e).1
    refine ⟨hj, ?_⟩
    simp only [ws, List.getElem?_map, List.getElem?_range hj, Option.map_some, Option.some.injEq, Prod.mk.injEq] at e
    refine ⟨e.1.symm, ?_⟩
    rw [← e.2, List.getD_eq_getElem?_getD, List.getElem?_eq_getElem hj]
    rfl
  have keyj : ∀ j (h : j < prs.length), ∃ b, ps[j]? = some b ∧ PyProof.Rows.IsTup s.heap b #[key j, prs[j].2] ∧ keyIs prs[j].1 (key j) = true := fun j h => by
    have := (hu j h).choose_spec.choose_spec
    refine ⟨(hu j h).choose, ?_⟩
    simp only [key, dif_pos h]
    exact this
  refine PySem.call_dict_pairs (knd := mixKind X.prog X.w) (kvs := prs) (PySem.PairArg.tuple a (ps.map Value.ref).toArray (fun j => ps.getD j 0) ws) (I.ok.hd hcalm) ⟨⟨o, n, ho, hc, hd, hdat⟩, by simp [hws, hl], fun j k v e => ?_⟩ ⟨hws.symm, fun j k v e => ?_⟩ (by rw [hws, hl]; exact hz) fun h' tk hd' k => ?_
  · obtain ⟨hj, rfl, rfl⟩ := hwj j k v e
    obtain ⟨b, hb, ht, _⟩ := keyj j hj
    have hg : ps.getD j 0 = b := by rw [List.getD_eq_getElem?_getD, hb]; rfl
    refine ⟨by simp [hb], .inl ?_⟩
    show s.heap.IsTuple (ps.getD j 0) _
    rw [hg]
    exact ht
  · obtain ⟨hj, rfl, rfl⟩ := hwj j k v e
    obtain ⟨b, hb, _, hk⟩ := keyj j hj
    exact ⟨prs[j].1, List.getElem?_eq_getElem hj, kV_is (P := X.prog) (w := X.w) (by exact keyIs_rel hk)⟩
  · have hm : (s.heap.objs.size == sysModules) = false := beq_eq_false_iff_ne.mpr (Nat.ne_of_gt I.big)
    have hlen : (mergeK [] kvs).length ≤ sizeLine := by
      refine Nat.le_trans (length_mergeK kvs []) ?_
      rw [List.length_nil, Nat.zero_add, rel.length, hl]
      exact hz
    exact ⟨.ref s.heap.objs.size, upd H s.heap.objs.size (.dK (mergeK [] kvs)), I.laid (t' := tk) (fun b o e => k b o (by simp) e) (Nat.le_refl _) (show ObjOk X.prog X.w _ _ _ (.dK (mergeK [] kvs)) from ⟨hlen, hm, merged [] prs, KV.merge rel .nil, hd'⟩), rfl, q _ (I.hok.fresh (Nat.le_refl _))⟩
end
section
variable {G : Cfg} {E : XK} {X : Cx} {k : Nat} {a tg : Expr} {es : List Expr} {tes : TA} {mas : En → Heap → Res (List Val)} {ta : TE} {ma : En → Heap → Res Val} {pos : Pos} {r : List Addr} {H : Hp} {h : Heap}
def mTupO (ma : En → Heap → Res (List Val)) (s : En) (h : Heap) : Res Val := (ma s h).bind fun xs h1 => if xs.length ≤ lim then .ok (.ref h1.length) (h1 ++ [.tpl xs]) else .stuck
theorem me_tupO {x1} (h : MA G E X es tes mas) : ME G E X (.Tuple es x1 pos) (tTupO tes) (mTupO mas) := by
  refine ⟨pe_tupO h.pe, ⟨fun r H h' s σ Q hR sR p => h.rf.run r H h' s σ _ hR sR (p.seq fun xs h1' r1 H1 vs s1 hR1 v1 p1 => ?_)⟩⟩
  split at p1
  · rename_i hl
    have := v1.len
    refine ⟨le_line (by omega), fun q o hq hd => ?_⟩
    refine p1 (r1 ++ [q]) _ _ (Stp.new hq) (hR1.push hq (.tpl upd_same hd (v1.mono (Stp.new hq)))) (.ref ?_)
    rw [← hR1.len]
    simp
  · exact False.elim p1
theorem new_tpl (hR : HR G r H h) {xs : List Val} {vs : List V} {Q : VK} (hv : VRs G r H xs vs) (p : PostR G (VR G) r H E (.ok (.ref h.length) (h ++ [.tpl xs])) Q) (l : Addr) (o : PySem.Obj) (hl : H l = none) (hd : o.dict = none) : Q (.ref l) (upd H l (.frz o (.tup vs))) := by
  refine p (r ++ [l]) _ _ (Stp.new hl) (hR.push hl (.tpl upd_same hd (hv.mono (Stp.new hl)))) (.ref ?_)
  rw [← hR.len]
  simp
/-- tuple(l) of a list -/
def bTupleO (xs : List Val) (h : Heap) : Res Val := match xs with
  | [.ref a] => match h[a]? with
    | some (.lst ys) => .ok (.ref h.length) (h ++ [.tpl ys])
    | _ => .stuck
  | _ => .stuck
theorem cl_tupleO (C : XC G E X k) : CallR X (.type "tuple") (rTupO G.K) := by
  have := call_tupleO (X := X)
  rw [C.K] at this
  exact this
theorem rl_tupleO : RfL G E (rTupO G.K) bTupleO := by
  refine ⟨fun r H h xs vs Q hR v p => ?_⟩
  unfold bTupleO at p
  split at p
  · cases v with
    | cons q1 q2 => cases q2; cases q1 with
      | ref ea =>
        split at p
        · rename_i ys eo
          cases hR.ob _ _ _ eo ea with
          | lst hl hv => exact ⟨_, _, rfl, SqL.of hl, new_tpl hR hv p⟩
        · exact False.elim p
  · exact False.elim p
/-- for x in such a tuple -/
def iTpl_ (m : En → Heap → Res Val) : MI := fun s h => (m s h).bind fun x h1 => match x with
  | .ref a => match h1[a]? with
    | some (.tpl xs) => .ok ⟨xs, fun _ => true⟩ h1
    | _ => .stuck
  | _ => .stuck
theorem mi_tpl (C : XC G E X k) (ha : ME G E X a ta ma) : MIt G E X tg a (iTup G.K ta) (iTpl_ ma) := by
  refine ⟨?_, ⟨fun r H h s σ R hR sR p => ha.rf.run r H h s σ _ hR sR (p.seq fun x h1 r1 H1 v s1 hR1 v1 p1 => ?_)⟩⟩
  · have := pi_tup (tg := tg) ha.pe
    rwa [C.K] at this
  · cases v1 with
    | @ref n ad ea =>
      simp only at p1
      split at p1
      · rename_i xs eo
        cases hR1.ob _ _ _ eo ea with
        | tpl hl hd hv => exact ⟨_, rfl, ⟨_, .inl (.inr ⟨_, hl⟩)⟩, p1.here hR1 (itt_ok (.inl (.inr ⟨_, hl⟩)) hv)⟩
      · exact False.elim p1
    | _ => exact False.elim p1
def asPair : Val → Option (Val × Val)
  | .tup [x, y] => if isKey x = true then some (x, y) else none
  | _ => none
theorem pairs_vr : ∀ {xs : List Val} {vs : List V} {ps : List (Val × Val)}, VRs G r H xs vs → optAll asPair xs = some ps → ∃ (as : List Addr) (kvs : List (Key × V)), vs = as.map V.ref ∧ Paired (fun p kv => SqT G.K H p [kV kv.1, kv.2]) as kvs ∧ DR G r H ps kvs
  | _, _, _, .nil, e => by
    simp only [optAll, Option.some.injEq] at e
    subst e
    exact ⟨[], [], rfl, .nil, .nil⟩
  | _, _, _, .cons a b, e => by
    simp only [optAll] at e
    split at e
    · rename_i d ds e1 e2
      cases e
      obtain ⟨as, kvs, rfl, q1, q2⟩ := pairs_vr b e2
      unfold asPair at e1
      split at e1
      · split at e1
        · rename_i x y hk
          cases e1
          cases a with
          | @tup _ vs ad hs hv =>
            cases hv with
            | cons v1 v2 => cases v2 with
              | cons v2 v3 =>
                cases v3
                obtain ⟨q, kq, rfl⟩ := KR.of v1 hk
                exact ⟨_ :: as, (q, _) :: kvs, rfl, .cons hs.1 q1, .cons kq v2 q2⟩
        · cases e1
      · cases e1
    · cases e
def bDictO (xs : List Val) (h : Heap) : Res Val := match xs with
  | [.ref a] => match h[a]? with
    | some (.tpl ys) => match optAll asPair ys with
      | some ps => .ok (.ref h.length) (h ++ [.dct (mergeV [] ps)])
      | none => .stuck
    | _ => .stuck
  | _ => .stuck
theorem cl_dictO (C : XC G E X k) : CallR X (.type "dict") (rDictO G.K) := by
  have := call_dictO (X := X) C.calm
  rw [C.K] at this
  exact this
theorem rl_dictO (ok : G.Ok) : RfL G E (rDictO G.K) bDictO := by
  refine ⟨fun r H h xs vs Q hR v p => ?_⟩
  unfold bDictO at p
  split at p
  · cases v with
    | cons q1 q2 => cases q2; cases q1 with
      | ref ea =>
        split at p
        · rename_i ys eo
          cases hR.ob _ _ _ eo ea with
          | tpl hl hd hv =>
            split at p
            · rename_i ps ep
              obtain ⟨as, kvs, rfl, q1, q2⟩ := pairs_vr hv ep
              exact ⟨_, _, as, kvs, rfl, hl, hd, q1, fun l hl' => new_dct hR (DR.merge ok .nil q2) p l hl'⟩
            · exact False.elim p
        · exact False.elim p
  · exact False.elim p
end
section
variable {E : Nat → Heap → Prop} {Q : Val → Heap → Prop} {h : Heap} {s : En} {a : Nat} {ma : En → Heap → Res (List Val)} {mv : En → Heap → Res Val} {xs : List Val} {ps : List (Val × Val)}
@[simp ↓] theorem wR_mTupO : wR (mTupO ma s h) E Q = wR (ma s h) E fun xs h1 => xs.length ≤ lim ∧ Q (.ref h1.length) (h1 ++ [.tpl xs]) := by
  unfold mTupO; simp only [wR_bind]; congr; funext xs h1; split <;> (simp_all <;> (intros; omega))
theorem bTupleO_at (e : h[a]? = some (.lst xs)) : bTupleO [.ref a] h = .ok (.ref h.length) (h ++ [.tpl xs]) := by simp [bTupleO, e]
theorem bDictO_at (e : h[a]? = some (.tpl xs)) (ep : optAll asPair xs = some ps) : bDictO [.ref a] h = .ok (.ref h.length) (h ++ [.dct (mergeV [] ps)]) := by simp [bDictO, e, ep]
theorem iTpl_at {h1 : Heap} (e : mv s h = .ok (.ref a) h1) (el : h1[a]? = some (.tpl xs)) : iTpl_ mv s h = .ok ⟨xs, fun _ => true⟩ h1 := by simp [iTpl_, e, Res.bind, el]
end
/-! list(d.values()), len(set(xs)) -/
section
variable {X : Cx} {e : Expr} {td : TE} {p apos cpos pos : Pos}
theorem kv_at {kvs : List (Key × V)} {vs : List (Key × Value)} (r : KV kvs vs) : ∀ {i : Nat} {k : Key} {v : Value}, vs[i]? = some (k, v) → ∃ x, kvs[i]? = some (k, x) ∧ RelV x v := by
  induction r with
  | nil => intro i k v e; simp at e
  | @cons a b l₁ l₂ h _ ih =>
    intro i k v e
    cases i with
    | zero =>
      simp at e
      subst e
      exact ⟨a.2, by obtain ⟨h1, h2⟩ := h; obtain ⟨a1, a2⟩ := a; simp at h1 ⊢; exact h1, h.2⟩
    | succ i => simpa using ih (by simpa using e)
def tListVals (td : TE) : TE := fun σ H Q => td σ H fun x H1 => ∃ (d : Addr) (kvs : List (Key × V)), x = .ref d ∧ H1 d = some (.dK kvs) ∧ ∀ p, H1 p = none → Q (.ref p) (upd H1 p (.lst (kvs.map (·.2))))
theorem pe_listVals (hc : X.calm = true) (hg : Gl X "list") (hm : X.mg "list" = none) (he : PE X e td) (hbase : attributeBase e "values" X.env (eval e X.env) = eval e X.env := by rfl) (hline : (apos.endLine == cpos.line) = true := by rfl)
    (na : starEach [Expr.Call (.Attribute e "values" apos) [] [] cpos] X.env = (false, eval (Expr.Call (.Attribute e "values" apos) [] [] cpos) X.env) :: starEach [] X.env := by rfl) :
    PE X (.Call (.Name "list" p) [.Call (.Attribute e "values" apos) [] [] cpos] [] pos) (tListVals td) := by
  refine ⟨fun pins s σ H Q I h => ?_⟩
  refine PyProof.Rows.Call_ (ld_blt I hg hm bt_list ?_)
  refine PyProof.Rows.callWith_type1 (PyProof.Rows.args_cons ?_ na) na rfl
  refine wpAny_Call_method (T := "dict") (id := "dict.values") hbase rfl hline PySem.F.plainAttrs_dict PySem.F.slot_dict_values PySem.F.type_dict_values (thn (he.run pins s σ H _ I h) fun u s1 ⟨x, H1, I1, rx, d, kvs, ex, hd, q⟩ => ?_)
  subst ex
  obtain rfl : u = Value.ref d := rx
  obtain ⟨z, lo, vs, rk, dd⟩ := dk_of I1.hok hd
  have hl : kvs.length = vs.length := Paired.length rk
  refine ⟨dd.typeIs, dd.mapOf.noDict, ?_⟩
  obtain ⟨ep, hat⟩ := dd.dictAt
  have k1 : ∀ b o, s1.heap.get? b = some o → (s1.heap.push { cls := .type "dict_values", data := .fields #[.ref d] }).get? b = some o := fun b o q => Heap.get?_push_of_some _ q
  have I2 : Inv X pins σ H1 { s1 with heap := s1.heap.push { cls := .type "dict_values", data := .fields #[.ref d] } } := I1.kept (t' := s1.toks) k1
  refine method_meetsIn PySem.F.slot_dict_values PySem.F.entry_dict_values rfl (PySem.evalArgs_none ⟨rfl, dd.typeIs, PySem.F.args_dict_values_1 _, _, meets_dict_values (mixKind X.prog X.w) d lo, ⟨vs, dd⟩, ?_⟩)
  refine PyProof.Rows.args_nil ?_
  refine PySem.W.kdl_call (PySem.W.kdl_values (knd := mixKind X.prog X.w) (kvs := vs) (ep := ep) (r := s1.heap.objs.size) (d := d)) (I2.ok.hd hc) ⟨⟨_, Heap.get?_push_size _ rfl, rfl, rfl⟩, hat.at' fun o q => k1 d o q⟩ (by rw [← hl]; exact z) fun h' tk acc' c' hkeep hS hacc => ?_
  refine ⟨.ref _, upd H1 _ (.lst (kvs.map (·.2))), I2.laid hkeep (Nat.le_refl _) (show ObjOk X.prog X.w _ _ _ (.lst (kvs.map (·.2))) from ⟨?_, acc'.toList, c', ?_, ?_⟩), rfl, q _ (I2.hok.fresh (Nat.le_refl _))⟩
  · rw [List.length_map]; exact z
  · have el : acc'.toList.length = acc'.size := by simp
    refine vals_of_at (by rw [List.length_map, el, hacc.1, hl]) fun j x w h1 h2 => ?_
    obtain ⟨k, hky⟩ := hacc.2 j w (by rw [← Array.getElem?_toList]; exact h2)
    obtain ⟨y, e1, e2⟩ := kv_at rk hky
    rw [List.getElem?_map, e1] at h1
    cases h1
    exact e2
  · rw [Array.toArray_toList]; exact hS
end
section
variable {G : Cfg} {E : XK} {X : Cx} {k : Nat} {a e : Expr} {ta td : TE} {ma : En → Heap → Res Val} {p p2 q apos cpos pos : Pos} {r : List Addr} {H : Hp} {h : Heap}
theorem DR.vals {d : List (Val × Val)} {f : List (Key × V)} (v : DR G r H d f) : VRs G r H (d.map (·.2)) (f.map (·.2)) := by
  induction v with
  | nil => exact .nil
  | cons _ hv _ ih => exact .cons hv ih
/-- list(d.values()) -/
def oVals (x : Val) (h : Heap) : Res Val := match x with
  | .ref n => match h[n]? with
    | some (.dct d) => .ok (.ref h.length) (h ++ [.lst (d.map (·.2))])
    | _ => .stuck
  | _ => .stuck
theorem me_listVals (C : XC G E X k) (hm : X.mg "list" = none) (ha : ME G E X e td ma) (hg : Gl X "list" := by rfl) (hbase : attributeBase e "values" X.env (eval e X.env) = eval e X.env := by rfl) (hline : (apos.endLine == cpos.line) = true := by rfl)
    (na : starEach [Expr.Call (.Attribute e "values" apos) [] [] cpos] X.env = (false, eval (Expr.Call (.Attribute e "values" apos) [] [] cpos) X.env) :: starEach [] X.env := by rfl) :
    ME G E X (.Call (.Name "list" p) [.Call (.Attribute e "values" apos) [] [] cpos] [] pos) (tListVals td) (mU oVals ma) := by
  refine ⟨pe_listVals C.calm hg hm ha.pe hbase hline na, ⟨fun r H h' s σ Q hR sR p => ha.rf.run r H h' s σ _ hR sR (p.seq fun x h1 r1 H1 v s1 hR1 v1 p1 => ?_)⟩⟩
  cases v1 with
  | @ref n ad ea =>
    unfold oVals at p1
    simp only at p1
    split at p1
    · rename_i d eo
      cases hR1.ob _ _ _ eo ea with
      | dct hl hv => exact ⟨_, _, rfl, hl, new_lst hR1 (DR.vals hv) p1⟩
    · exact False.elim p1
  | _ => exact False.elim p1
/-- len(set(l)), l of whole numbers that differ -/
def oLenSet (x : Val) (h : Heap) : Res Val := match x with
  | .ref n => match h[n]? with
    | some (.lst ys) => match optAll asInt ys with
      | some ns => if ns.Nodup ∧ ns.length ≤ 4000 then .ok (.int ns.length) h else .stuck
      | none => .stuck
    | _ => .stuck
  | _ => .stuck
theorem me_lenSet (C : XC G E X k) (hm : X.mg "len" = none) (hm2 : X.mg "set" = none) (ha : ME G E X a ta ma) (hg : Gl X "len" := by rfl) (hg2 : Gl X "set" := by rfl) (na : starEach [a] X.env = (false, eval a X.env) :: starEach [] X.env := by rfl) :
    ME G E X (.Call (.Name "len" p) [.Call (.Name "set" p2) [a] [] q] [] pos) (RZ.tLenSetI G.K ta) (mU oLenSet ma) := by
  refine ⟨?_, ⟨fun r H h' s σ Q hR sR p => ha.rf.run r H h' s σ _ hR sR (p.seq fun x h1 r1 H1 v s1 hR1 v1 p1 => ?_)⟩⟩
  · have := RZ.pe_lenSetI (p := p) (p2 := p2) (q := q) (pos := pos) hg hm hg2 hm2 ha.pe C.calm na
    rwa [C.K] at this
  · cases v1 with
    | @ref n ad ea =>
      unfold oLenSet at p1
      simp only at p1
      split at p1
      · rename_i ys eo
        cases hR1.ob _ _ _ eo ea with
        | lst hl hv =>
          split at p1
          · rename_i ns en
            split at p1
            · rename_i hn
              have ev := all_int hv en
              subst ev
              exact ⟨_, ns, rfl, SqL.of hl, hn.1, hn.2, p1.here hR1 (.int _)⟩
            · exact False.elim p1
          · exact False.elim p1
      · exact False.elim p1
    | _ => exact False.elim p1
end
section
variable {h : Heap} {a : Nat} {d : List (Val × Val)} {ys : List Val} {ns : List Int}
theorem oVals_at (e : h[a]? = some (.dct d)) : oVals (.ref a) h = .ok (.ref h.length) (h ++ [.lst (d.map (·.2))]) := by simp [oVals, e]
theorem oLenSet_at (e : h[a]? = some (.lst ys)) (en : optAll asInt ys = some ns) (nd : ns.Nodup) (hl : ns.length ≤ 4000) : oLenSet (.ref a) h = .ok (.int ns.length) h := by simp [oLenSet, e, en, nd, hl]
end
end PyM

set_option Elab.async false
set_option linter.all false
set_option maxRecDepth 100000
set_option autoImplicit false
set_option maxHeartbeats 4000000
/-! dicts with tuple keys where the key is any value (laws with tk) -/
namespace PyM
open PySem L2
def tIxV (x y : Val) (h : Heap) : Res Val := match y with
  | .tup ks => tIx x ks h
  | _ => .stuck
def tInV (neg : Bool) (y x : Val) (h : Heap) : Res Val := match y with
  | .tup ks => tIn neg ks x h
  | _ => .stuck
def mGetV1 (mo mk : En → Heap → Res Val) (s : En) (h : Heap) : Res Val := (mo s h).bind fun o h1 => if isD o h1 = true then (mk s h1).bind fun y h2 => match y with
  | .tup ks => tGet o ks .non h2
  | _ => .stuck
  else .stuck
def mPopV1 (mo mk : En → Heap → Res Val) (s : En) (h : Heap) : Res Val := (mo s h).bind fun o h1 => if isD o h1 = true then (mk s h1).bind fun y h2 => match y with
  | .tup ks => tPop1 o ks h2
  | _ => .stuck
  else .stuck
def sSubV (mo mk me : En → Heap → Res Val) (s : En) (h : Heap) : RS := (me s h).thenS fun v h1 => (mo s h1).thenS fun o h2 => (mk s h2).thenS fun y h3 => match y with
  | .tup ks => (tSet o ks v h3).thenS fun _ h4 => .nx s h4
  | _ => .stuck
section
variable {G : Cfg} {E : XK} {X : Cx} {k : Nat} {r : List Addr} {H : Hp} {h : Heap} {o e x : Expr} {td ty tx : TE} {mo mk me : En → Heap → Res Val} {pos pos' apos cpos : Pos}
theorem VR.tk (tk : G.tk = true) {ks : List Val} {v : V} (q : VR G r H (.tup ks) v) : ∃ p vs, v = .ref p ∧ H p = some (.tup vs) ∧ VRs G r H ks vs := by
  cases q with
  | tup hs hv => exact ⟨_, _, rfl, hs.2 tk, hv⟩
theorem me_ixV (tk : G.tk = true) (ok : G.Ok) (C : XC G E X k) (ho : ME G E X o td mo) (hk : ME G E X e ty mk) (hs : NoSl e := by exact fun _ _ => rfl) : ME G E X (.Subscript o e pos) (tDGet td ty) (mB tIxV mo mk) := by
  refine ⟨pe_dget (by have := C.hu; omega) ho.pe hk.pe hs, ⟨fun r H h s σ Q hR sR p => ho.rf.run r H h s σ _ hR sR (p.seq fun x h1 r1 H1 v s1 hR1 v1 p1 => ?_)⟩⟩
  refine hk.rf.run r1 H1 h1 s σ _ hR1 (sR.mono s1) (p1.seq fun y h2 r2 H2 u s2 hR2 v2 p2 => ?_)
  unfold tIxV at p2
  split at p2
  · obtain ⟨b, vs, rfl, hb, hv⟩ := v2.tk tk
    unfold tIx at p2
    split at p2
    · rename_i w ew
      obtain ⟨n, ad, d, e', qs, rfl, eo, ea, rfl, hl, hdv, kq, rfl, g, q'⟩ := tLook_of ok hR2 (v1.mono s2) hv ew hb
      rcases q' with ⟨e1, _⟩ | ⟨x', w', e1, _, e3, v3⟩
      · cases e1
      · cases e1
        rw [e3] at g
        exact ⟨ad, w', rfl, g, p2.here hR2 v3⟩
    · exact False.elim p2
  · exact False.elim p2
theorem mc_inV (tk : G.tk = true) (ok : G.Ok) (C : XC G E X k) (hk : ME G E X e ty mk) (ho : ME G E X o td mo) : MC G E X .In e o (tDIn ty td) (mB (tInV false) mk mo) := by
  refine ⟨pc_din (by have := C.hu; omega) hk.pe ho.pe, ⟨fun r H h s σ Q hR sR p => hk.rf.run r H h s σ _ hR sR (p.seq fun y h1 r1 H1 u s1 hR1 v1 p1 => ?_)⟩⟩
  refine ho.rf.run r1 H1 h1 s σ _ hR1 (sR.mono s1) (p1.seq fun x h2 r2 H2 v s2 hR2 v2 p2 => ?_)
  unfold tInV at p2
  split at p2
  · obtain ⟨b, vs, rfl, hb, hv⟩ := (v1.mono s2).tk tk
    unfold tIn at p2
    split at p2
    · rename_i w ew
      obtain ⟨n, ad, d, e', qs, rfl, eo, ea, rfl, hl, hdv, kq, rfl, g, q'⟩ := tLook_of ok hR2 v2 hv ew hb
      refine ⟨ad, _, rfl, g, ?_⟩
      rcases q' with ⟨rfl, _, e3⟩ | ⟨x', w', rfl, _, e3, v3⟩
      · rw [e3]
        exact p2.here hR2 (.bl _)
      · rw [e3]
        exact p2.here hR2 (.bl _)
    · exact False.elim p2
  · exact False.elim p2
theorem mc_notinV (tk : G.tk = true) (ok : G.Ok) (C : XC G E X k) (hk : ME G E X e ty mk) (ho : ME G E X o td mo) : MC G E X .NotIn e o (tDNotIn ty td) (mB (tInV true) mk mo) := by
  refine ⟨pc_dnotin (by have := C.hu; omega) hk.pe ho.pe, ⟨fun r H h s σ Q hR sR p => hk.rf.run r H h s σ _ hR sR (p.seq fun y h1 r1 H1 u s1 hR1 v1 p1 => ?_)⟩⟩
  refine ho.rf.run r1 H1 h1 s σ _ hR1 (sR.mono s1) (p1.seq fun x h2 r2 H2 v s2 hR2 v2 p2 => ?_)
  unfold tInV at p2
  split at p2
  · obtain ⟨b, vs, rfl, hb, hv⟩ := (v1.mono s2).tk tk
    unfold tIn at p2
    split at p2
    · rename_i w ew
      obtain ⟨n, ad, d, e', qs, rfl, eo, ea, rfl, hl, hdv, kq, rfl, g, q'⟩ := tLook_of ok hR2 v2 hv ew hb
      refine ⟨ad, _, rfl, g, ?_⟩
      rcases q' with ⟨rfl, _, e3⟩ | ⟨x', w', rfl, _, e3, v3⟩
      · rw [e3]
        exact p2.here hR2 (.bl _)
      · rw [e3]
        exact p2.here hR2 (.bl _)
    · exact False.elim p2
  · exact False.elim p2
theorem me_getV1 (tk : G.tk = true) (ok : G.Ok) (C : XC G E X k) (ho : ME G E X o td mo) (hk : ME G E X e ty mk) (m : M1 X o "get" apos e cpos := by exact ⟨rfl, rfl, rfl, rfl⟩) :
    ME G E X (.Call (.Attribute o "get" apos) [e] [] cpos) (tDGet1 td ty) (mGetV1 mo mk) := by
  refine ⟨pe_dget1 (by have := C.hu; omega) ho.pe hk.pe m, ⟨fun r H h s σ Q hR sR p => ho.rf.run r H h s σ _ hR sR (p.seq fun x h1 r1 H1 v s1 hR1 v1 p1 => ?_)⟩⟩
  split at p1
  · rename_i hd
    obtain ⟨a, rfl, id⟩ := isD_of hR1 v1 hd
    refine ⟨a, rfl, id, hk.rf.run r1 H1 h1 s σ _ hR1 (sR.mono s1) (p1.seq fun y h2 r2 H2 u s2 hR2 v2 p2 => ?_)⟩
    split at p2
    · obtain ⟨b, vs, rfl, hb, hv⟩ := v2.tk tk
      unfold tGet at p2
      split at p2
      · rename_i w ew
        obtain ⟨n, ad, d, e', qs, rfl, eo, ea, e0, hl, hdv, kq, rfl, g, q'⟩ := tLook_of ok hR2 (v1.mono s2) hv ew hb
        cases e0
        rcases q' with ⟨rfl, _, e3⟩ | ⟨x', w', rfl, _, e3, v3⟩
        · rw [e3] at g
          exact ⟨_, g, p2.here hR2 .non⟩
        · rw [e3] at g
          exact ⟨_, g, p2.here hR2 v3⟩
      · exact False.elim p2
    · exact False.elim p2
  · exact False.elim p1
theorem me_popV1 (tk : G.tk = true) (ok : G.Ok) (C : XC G E X k) (ho : ME G E X o td mo) (hk : ME G E X e ty mk) (hbase : attributeBase o "pop" X.env (eval o X.env) = eval o X.env := by rfl)
    (hfew : ((backTo cpos (starEach [e] X.env)).all (fun x => !x.1) && (backToKw cpos (keywordEach [] X.env)).all (fun x => x.1.isSome)
      && decide (([e] : List Expr).length + ([] : List Keyword).length + (if ([] : List Keyword).isEmpty then 0 else 1) < 30)) = true := by rfl)
    (hline : (apos.endLine == cpos.line) = true := by rfl) (hs : starEach [e] X.env = (false, eval e X.env) :: starEach [] X.env := by rfl) (hplain : (backTo cpos (starEach [] X.env)).any (·.1) = false := by rfl) :
    ME G E X (.Call (.Attribute o "pop" apos) [e] [] cpos) (tBM X.K "dict" rPopT1 td (tCons ty tNil)) (mPopV1 mo mk) := by
  refine ⟨pe_bm PySem.F.plainAttrs_dict PySem.F.slot_dict_pop PySem.F.type_dict_pop (mt_popT1 (by have := C.hu; omega)) ho.pe (pa_cons hk.pe pa_nil hs) hbase hfew hline hs hplain, ⟨fun r H h s σ Q hR sR p => ho.rf.run r H h s σ _ hR sR (p.seq fun x h1 r1 H1 v s1 hR1 v1 p1 => ?_)⟩⟩
  split at p1
  · rename_i hd
    refine ⟨by rw [C.K]; exact tyD_of hR1 v1 hd, hk.rf.run r1 H1 h1 s σ _ hR1 (sR.mono s1) (p1.seq fun y h2 r2 H2 u s2 hR2 v2 p2 => ?_)⟩
    split at p2
    · obtain ⟨b, vs, rfl, hb, hv⟩ := v2.tk tk
      unfold tPop1 at p2
      split at p2
      · rename_i w ew
        obtain ⟨n, ad, d, e', qs, rfl, eo, ea, rfl, hl, hdv, kq, rfl, g, q'⟩ := tLook_of ok hR2 (v1.mono s2) hv ew hb
        rcases q' with ⟨e1, _⟩ | ⟨x', w', e1, _, e3, v3⟩
        · cases e1
        · cases e1
          refine ⟨ad, e', qs, b, w', rfl, rfl, hl, hb, e3, ?_⟩
          simp only [tDrop, eo] at p2
          exact set_dcT hR2 eo ea hl (hdv.drop ok kq) v3 p2
      · exact False.elim p2
    · exact False.elim p2
  · exact False.elim p1
theorem ms_subV (tk : G.tk = true) (ok : G.Ok) (C : XC G E X k) (ho : ME G E X o td mo) (hk : ME G E X e ty mk) (hv : ME G E X x tx me) (hs : swapsWith x (some (.Subscript o e pos')) pos.line X.env = pure false := by rfl) :
    MS G E X (.Assign [.Subscript o e pos'] x pos) (sDPut td ty tx) (sSubV mo mk me) := by
  refine ⟨ps_dput (by have := C.hu; omega) ho.pe hk.pe hv.pe hs, ⟨fun r H h s σ D hR sR p => ?_⟩⟩
  refine hv.rf.run r H h s σ _ hR sR (p.seqS fun v h1 r1 H1 vv s1 hR1 v1 p1 => ?_)
  refine ho.rf.run r1 H1 h1 s σ _ hR1 (sR.mono s1) (p1.seqS fun z h2 r2 H2 vo s2 hR2 v2 p2 => ?_)
  refine hk.rf.run r2 H2 h2 s σ _ hR2 ((sR.mono s1).mono s2) (p2.seqS fun y h3 r3 H3 u s3 hR3 v3 p3 => ?_)
  split at p3
  · obtain ⟨b, vs, rfl, hb, hvs⟩ := v3.tk tk
    unfold tSet at p3
    split at p3
    · rename_i n
      split at p3
      · rename_i d eo
        split at p3
        · rename_i hc
          have hk' := hc.1
          simp only [keysOk, Bool.and_eq_true, decide_eq_true_eq] at hk'
          have vo' := v2.mono s3
          have vv' := (v1.mono s2).mono s3
          cases vo' with
          | @ref _ ad ea =>
            cases hR3.ob _ _ _ eo ea with
            | @dcT _ e0 _ hl hdv =>
              obtain ⟨qs, kq, rfl⟩ := KRs.of hvs hk'.1
              refine ⟨_, _, rfl, DPut.t hl hb (lt_line (by rw [← hdv.len]; exact hc.2)), ?_⟩
              have st2 : Stp G.K r3 H3 r3 (upd H3 ad (.dT (putK e0 qs vv))) := Stp.upd fun o e => by rw [hl] at e; cases e; trivial
              exact p3 _ _ _ st2 (hR3.write eo rfl ea (fun o e => by rw [hl] at e; cases e; trivial) (.dcT upd_same ((hdv.put ok kq vv').mono st2)) rfl) ((((sR.mono s1).mono s2).mono s3).mono st2)
        · exact False.elim p3
      · exact False.elim p3
    · exact False.elim p3
  · exact False.elim p3
end
end PyM

set_option Elab.async false
set_option linter.all false
set_option maxRecDepth 100000
set_option autoImplicit false
set_option maxHeartbeats 4000000
/-! dicts with tuple keys: a display of one pair, dict(d), == -/
namespace PyM
open PySem L2
def tDispT1 (ta tb : TE) : TE := fun σ H Q => ∀ p, H p = none → ta σ (upd H p (.dT [])) fun y H1 => tb σ H1 fun v H2 => ∃ (b : Addr) (ks : List L2.Key), y = .ref b ∧ H2 b = some (.tup (ks.map kV)) ∧ H2 p = some (.dT []) ∧ Q (.ref p) (upd H2 p (.dT [(ks, v)]))
theorem pe_dispT1 {X : Cx} {a b : Expr} {ta tb : TE} {pos : Pos} (hu : X.A.units + 1 < cLine) (ha : PE X a ta) (hb : PE X b tb) : PE X (.Dict [some a] [b] pos) (tDispT1 ta tb) := by
  refine ⟨fun pins s σ H Q I q => ?_⟩
  have fresh := I.hok.fresh (Nat.le_refl s.heap.objs.size)
  have I1 := I.laid (a := s.heap.objs.size) (o := .dT []) (h' := s.heap.push { cls := .type "dict", data := .dict #[] }) (t' := s.toks)
    (fun _ _ q => Heap.get?_push_of_some _ q) (Nat.le_refl _) (dt_empty s.heap I.big)
  rw [arm_eval_Dict, zip_pairTrees [some a] [b] X.env pos rfl rfl, dictDisplay_pairs _ (by simp [pairTrees]) (by simp [pairTrees])]
  refine wpAny_bind (wpAny_standAt (wpAny_bind ?_))
  refine wpAny_subDictH (knd := tupleKind (mixKind X.prog X.w)) (show X.A.units < cLine by omega) (by simp [pairTrees]) ?_
  refine pairTrees_cons_walk (thn (ha.run pins _ σ _ _ I1 (q _ fresh)) fun u s1 ⟨y, H1, I2, ry, q1⟩ => thn (hb.run pins s1 σ H1 _ I2 q1) fun w s2 ⟨v, H2, I3, rv, c, ks, ey, ec, ep, q2⟩ => pairTrees_nil_walk ?_)
  subst ey
  cases (show u = Value.ref c from ry)
  obtain ⟨_, lo, zs, rel, dd⟩ := dt_of I3.hok ep
  cases rel
  refine ⟨[(ks, c, w)], ⟨rfl, rfl, key_of I3.hok ec, trivial⟩, dd, fun h' tk dd' sb => wpAny_pure ?_⟩
  obtain ⟨ob, es, en, g1, g2, g3, g4, _, g5⟩ := dd'
  have ne : c ≠ s.heap.objs.size := fun e => by
    rw [e, ep] at ec
    cases ec
  have J : Inv X pins σ (upd H2 s.heap.objs.size (.dT [(ks, v)])) { s2 with heap := h', toks := tk } := by
    refine d_write I3 (by rw [ep]; exact True.intro) sb ⟨ob, g1⟩ ⟨le_line (by show 1 ≤ lim; decide), lo, [(ks, c, w)], .cons ⟨rfl, ?_, rv⟩ .nil, ob, es, en, g1, g2, g3, g4, g5⟩
    show upd H2 s.heap.objs.size (.dT [(ks, v)]) c = some (.tup (ks.map kV))
    rw [upd_ne ne]
    exact ec
  exact ⟨.ref s.heap.objs.size, _, J, rfl, q2⟩
section
variable {G : Cfg} {E : XK} {X : Cx} {k : Nat} {r : List Addr} {H : Hp} {h : Heap} {a b : Expr} {ta tb : TE} {ma mb : En → Heap → Res Val} {pos : Pos}
/-- {(..): v} -/
def mDispT1 (ma mb : En → Heap → Res Val) (s : En) (h : Heap) : Res Val := (ma s (h ++ [.dcT []])).bind fun y h1 => (mb s h1).bind fun v h2 => match y with
  | .tup ks => match h2[h.length]? with
    | some (.dcT []) => if keysOk ks = true then .ok (.ref h.length) (h2.set h.length (.dcT [(.tup ks, v)])) else .stuck
    | _ => .stuck
  | _ => .stuck
theorem me_dispT1 (tk : G.tk = true) (C : XC G E X k) (ha : ME G E X a ta ma) (hb : ME G E X b tb mb) : ME G E X (.Dict [some a] [b] pos) (tDispT1 ta tb) (mDispT1 ma mb) := by
  refine ⟨pe_dispT1 (by have := C.hu; omega) ha.pe hb.pe, ⟨fun r H h s σ Q hR sR p => fun l hl' => ?_⟩⟩
  have st0 : Stp G.K r H (r ++ [l]) (upd H l (.dT [])) := Stp.new hl'
  have hR0 : HR G (r ++ [l]) (upd H l (.dT [])) (h ++ [.dcT []]) := hR.push hl' (.dcT upd_same .nil)
  have er : (r ++ [l])[h.length]? = some l := by rw [← hR.len]; simp
  refine ha.rf.run _ _ _ s σ _ hR0 (sR.mono st0) ((PostR.shift st0 p).seq fun y h1 r1 H1 u s1 hR1 v1 p1 => ?_)
  refine hb.rf.run _ _ _ s σ _ hR1 ((sR.mono st0).mono s1) (p1.seq fun z h2 r2 H2 w s2 hR2 v2 p2 => ?_)
  split at p2
  · obtain ⟨c, vs, rfl, hc, hv⟩ := (v1.mono s2).tk tk
    split at p2
    · rename_i eo
      split at p2
      · rename_i hk
        simp only [keysOk, Bool.and_eq_true, decide_eq_true_eq] at hk
        obtain ⟨qs, kq, rfl⟩ := KRs.of hv hk.1
        have ea := s2.pre _ _ (s1.pre _ _ er)
        cases hR2.ob _ _ _ eo ea with
        | dcT hl1 hv1 =>
          cases hv1
          refine ⟨c, qs, rfl, hc, hl1, ?_⟩
          have st : Stp G.K r2 H2 r2 (upd H2 l (.dT [(qs, w)])) := Stp.upd fun o e => by rw [hl1] at e; cases e; trivial
          exact p2 r2 _ _ st (hR2.write eo rfl ea (fun o e => by rw [hl1] at e; cases e; trivial) (.dcT upd_same (.cons kq (v2.mono st) .nil)) rfl) (.ref ea)
      · exact False.elim p2
    · exact False.elim p2
  · exact False.elim p2
end
end PyM

set_option Elab.async false
set_option linter.all false
set_option maxRecDepth 100000
set_option autoImplicit false
set_option maxHeartbeats 4000000
/-! dict(d) and == of dicts whose keys are tuples -/
namespace PyM
open PySem L2 PyProof.Rows
section
variable {prog : Program} {w : World} {κ : Type} [DecidableEq κ] {kd : HeapKind prog w κ} {A : Around} {E : Value → Shared → Prop} {s : Shared}
abbrev Ent (κ : Type) := κ × Addr × Value
/-- entry by entry: what the second dict has -/
inductive HitH (prog : Program) (w : World) (A : Around) (s : Shared) (ys : List (Ent κ)) : List (Ent κ) → Bool → Prop
  | nil : HitH prog w A s ys [] true
  | no {k : κ} {a : Addr} {v : Value} {r : List (Ent κ)} : atKey ys k = none → HitH prog w A s ys ((k, a, v) :: r) false
  | yes {k : κ} {a b : Addr} {v u : Value} {r : List (Ent κ)} {e c : Bool} : atKey ys k = some (b, u) → SeqAt.EqP prog w A s v u e → HitH prog w A s ys r c → HitH prog w A s ys ((k, a, v) :: r) (e && c)
theorem at_of_get {ys : List (Ent κ)} (nd : (ys.map (·.1)).Nodup) {j : Nat} {k : κ} {p : Addr × Value} (e : ys[j]? = some (k, p)) : atKey ys k = some p := by
  induction ys generalizing j with
  | nil => simp at e
  | cons y ys ih =>
    rw [List.map_cons, List.nodup_cons] at nd
    unfold atKey
    rw [List.find?_cons]
    cases j with
    | zero =>
      simp at e
      subst e
      simp
    | succ j =>
      simp at e
      have hm : k ∈ ys.map (·.1) := List.mem_map.mpr ⟨_, List.mem_of_getElem? e, rfl⟩
      have ne : ¬ y.1 = k := fun z => nd.1 (z ▸ hm)
      simp only [ne, decide_false]
      exact ih nd.2 e
theorem at_none {ys : List (Ent κ)} {k : κ} (e : ∀ (j : Nat) (p : Addr × Value), ys[j]? ≠ some (k, p)) : atKey ys k = none := by
  unfold atKey
  rw [Option.map_eq_none_iff, List.find?_eq_none]
  intro y hy
  obtain ⟨j, hj⟩ := List.mem_iff_getElem?.mp hy
  have := e j y.2
  simp only [decide_eq_true_eq]
  intro z
  exact this (by rw [hj, ← z])
theorem sameH {nm : String} {a b : Addr} {xs ys : List (Ent κ)} {r : Bool} {Q : Bool → Shared → Prop} (room : kd.room A) (la : (a == sysModules) = false) (lb : (b == sysModules) = false) (dx : s.heap.DictOfH kd a xs) (dy : s.heap.DictOfH kd b ys)
    (hit : xs.length = ys.length → HitH prog w A s ys xs r) (fin : Q (xs.length == ys.length && r) s) : wpAny (model prog w) A (Builtin.Dict.samePairs nm a b) Q E s := by
  obtain ⟨o1, e1, p1, g1, _, t1, z1, i1, _⟩ := dx
  obtain ⟨o2, e2, p2, g2, _, t2, z2, i2, n2⟩ := dy
  have s1 := size_of_entries z1
  have s2 := size_of_entries z2
  unfold Builtin.Dict.samePairs
  unfold Builtin.Dict.showsAll
  rw [if_neg (by rw [la]; decide), if_neg (by rw [lb]; decide)]
  refine wpAny_bind (wpAny_pure ?_)
  refine wpAny_bind (wpAny_pure ?_)
  refine wpAny_bind (wpAny_dictEntries g1 t1 ?_)
  refine wpAny_bind (wpAny_dictEntries g2 t2 ?_)
  rw [← s1, ← s2] at fin hit
  by_cases q : e1.size = e2.size
  · have fin : Q r s := by simpa [q] using fin
    have hit := hit q
    rw [if_neg (by simp [q])]
    refine wpAny_bind (wpAny_dictEpoch g1 t1 ?_)
    refine wpAny_bind ?_
    rw [Std.Legacy.Range.forIn_eq_forIn_range']
    simp only [Std.Legacy.Range.size, Nat.sub_zero, Nat.add_sub_cancel, Nat.div_one]
    refine wpAny_forIn_list _ (fun todo c s' => s' = s ∧ c = (none, ()) ∧ ∃ n, todo = List.range' n (e1.size - n) ∧ n ≤ e1.size ∧ HitH prog w A s ys (xs.drop n) r) _ ?_ ?_ _ _ ⟨rfl, rfl, 0, by simp, Nat.zero_le _, hit⟩
    · rintro n todo c s' ⟨rfl, rfl, m, hr, hm, pre⟩
      have lt : m < e1.size := by
        apply Classical.byContradiction
        intro z
        rw [show e1.size - m = 0 by omega] at hr
        simp at hr
      rw [show e1.size - m = (e1.size - (m + 1)) + 1 by omega, List.range'_succ] at hr
      injection hr with h1 h2
      subst h1
      have lx : n < xs.length := by omega
      obtain ⟨k, c, v, ek⟩ : ∃ k c v, xs[n] = (k, c, v) := ⟨_, _, _, rfl⟩
      have dr : xs.drop n = (k, c, v) :: xs.drop (n + 1) := by rw [← ek]; exact List.drop_eq_getElem_cons lx
      have ge : e1[n]? = some (entryOfKey kd (k, c, v)) := by rw [entry_at z1 n, List.getElem?_eq_getElem lx, ek]; rfl
      have kc : kd.is s'.heap k c := i1 (k, c, v) (ek ▸ List.getElem_mem lx)
      rw [dr] at pre
      refine wpAny_bind (wpAny_dictEntries g1 t1 ?_)
      rw [ge]
      refine wpAny_bind (wpAny_holding (wpAny_bind ?_))
      refine wpAny_dictFind_heap room kc g2 t2 z2 i2 n2 (fun hno => ?_) fun j p hj => ?_
      · have hn := at_none hno
        cases pre with
        | no _ =>
          refine wpAny_pure ?_
          show wpAny _ _ (if (!false) = true then _ else _) _ _ _
          rw [if_pos (by decide)]
          exact wpAny_pure (wpAny_pure fin)
        | yes hy => rw [hn] at hy; cases hy
      · have hs := at_of_get n2 hj
        refine wpAny_bind (wpAny_dictEntries g2 t2 ?_)
        rw [entry_at z2 j, hj]
        refine wpAny_holding ?_
        cases pre with
        | no hy => rw [hs] at hy; cases hy
        | @yes _ _ b' _ u' _ ee cc hy he hr =>
          rw [hs] at hy
          cases hy
          refine he _ _ ?_
          cases ee with
          | false =>
            show wpAny _ _ (if (!false) = true then _ else _) _ _ _
            rw [if_pos (by decide)]
            exact wpAny_pure (wpAny_pure fin)
          | true =>
            rw [Bool.true_and] at fin ⊢
            show wpAny _ _ (if (!true) = true then _ else _) _ _ _
            rw [if_neg (by decide)]
            refine wpAny_bind (wpAny_dictEpoch g1 t1 ?_)
            rw [if_neg (by simp)]
            refine wpAny_pure ⟨rfl, rfl, n + 1, h2, lt, ?_⟩
            exact hr
    · rintro c s' ⟨rfl, rfl, m, hr, hm, pre⟩
      have em : m = e1.size := by
        apply Classical.byContradiction
        intro z
        rw [show e1.size - m = (e1.size - (m + 1)) + 1 by omega, List.range'_succ] at hr
        cases hr
      rw [em, s1, List.drop_length] at pre
      cases pre
      exact wpAny_pure fin
  · have fin : Q false s := by
      have : (e1.size == e2.size) = false := by simpa using q
      rw [this] at fin
      exact fin
    rw [if_pos (by simpa using q)]
    exact wpAny_bind (wpAny_rule (wpAny_pure fin))
end
end PyM

set_option Elab.async false
set_option linter.all false
set_option maxRecDepth 100000
set_option autoImplicit false
set_option maxHeartbeats 4000000
namespace PyM
open PySem L2
section
variable {prog : Program} {w : World} {κ : Type} [DecidableEq κ] {kd : HeapKind prog w κ} {A : Around} {s : Shared}
theorem rcH_eq {a b : Addr} {xs ys : List (Ent κ)} {r : Bool} (room : kd.room A.in1) (la : (a == sysModules) = false) (lb : (b == sysModules) = false) (dx : s.heap.DictOfH kd a xs) (dy : s.heap.DictOfH kd b ys) (hu : A.units < cLine)
    (hit : xs.length = ys.length → HitH prog w A.in1 s ys xs r) (E Q : Value → Shared → Prop) (fin : Q (.bool (xs.length == ys.length && r)) s) : wpAny (model prog w) A (richCompare .Eq (.ref a) (.ref b)) Q E s := by
  have tx := dx.typeIs
  have ty := dy.typeIs
  refine wpAny_richCompare_same_room (op := .Eq) tx ty PySem.F.slot_dict_eq ?_ hu
  refine wpAny_call_entry PySem.F.slot_dict_eq tx PySem.F.entry_dict_eq ?_ (PySem.F.args_dict_eq_2 _ _)
  change wpAny _ _ (Builtin.Dict.dictSlotArgs "__eq__" ⟨[.ref a, .ref b], []⟩ >>= _) _ _ s
  refine wpAny_bind ?_
  unfold Builtin.Dict.dictSlotArgs
  refine wpAny_bind (wpAny_notOrdered_dict tx ?_)
  change wpAny _ _ (pure (Value.ref a, Value.ref b)) _ _ s
  refine wpAny_pure (wpAny_bind (wpAny_isInstance (T := "dict") ty PySem.F.sub_dict_dict ?_))
  simp only [Bool.not_true, Bool.false_eq_true, if_false]
  refine wpAny_bind (wpAny_pure (wpAny_bind (wpAny_pure (wpAny_bind (sameH room la lb dx dy hit ?_)))))
  refine wpAny_pure ⟨_, rfl, (fun z => nomatch z), ?_⟩
  simpa using fin
theorem rcH_ne {a b : Addr} {xs ys : List (Ent κ)} {r : Bool} (room : kd.room A.in1) (la : (a == sysModules) = false) (lb : (b == sysModules) = false) (dx : s.heap.DictOfH kd a xs) (dy : s.heap.DictOfH kd b ys) (hu : A.units < cLine)
    (hit : xs.length = ys.length → HitH prog w A.in1 s ys xs r) (E Q : Value → Shared → Prop) (fin : Q (.bool (!(xs.length == ys.length && r))) s) : wpAny (model prog w) A (compareOp .NotEq (.ref a) (.ref b)) Q E s := by
  have tx := dx.typeIs
  have ty := dy.typeIs
  refine wpAny_richCompare_same_room (op := .NotEq) tx ty PySem.F.slot_dict_ne ?_ hu
  refine wpAny_call_entry PySem.F.slot_dict_ne tx PySem.F.entry_dict_ne ?_ (PySem.F.args_dict_ne_2 _ _)
  change wpAny _ _ (Builtin.Dict.dictSlotArgs "__ne__" ⟨[.ref a, .ref b], []⟩ >>= _) _ _ s
  refine wpAny_bind ?_
  unfold Builtin.Dict.dictSlotArgs
  refine wpAny_bind (wpAny_notOrdered_dict tx ?_)
  change wpAny _ _ (pure (Value.ref a, Value.ref b)) _ _ s
  refine wpAny_pure (wpAny_bind (wpAny_isInstance (T := "dict") ty PySem.F.sub_dict_dict ?_))
  simp only [Bool.not_true, Bool.false_eq_true, if_false]
  refine wpAny_bind (wpAny_pure (wpAny_bind (wpAny_pure (wpAny_bind (sameH room la lb dx dy hit ?_)))))
  refine wpAny_pure ⟨_, rfl, (fun z => nomatch z), ?_⟩
  simpa using fin
end
section
variable {G : Cfg} {X : Cx} {r : List Addr} {H : Hp} {h : Heap} {pins : List (Addr × PySem.Obj)} {s : Shared} {σ : St}
theorem KRs_len {ks : List Val} {qs : List L2.Key} (a : KRs G ks qs) : ks.length = qs.length := by
  induction a with
  | nil => rfl
  | cons _ _ ih => simp [ih]
theorem KRs_inj (ok : G.Ok) {ks js : List Val} {qs ps : List L2.Key} (a : KRs G ks qs) (b : KRs G js ps) : (ks = js) ↔ (qs = ps) := by
  induction a generalizing js ps with
  | nil => cases b <;> simp
  | cons x _ ih => cases b with
    | nil => simp
    | cons y t => rw [List.cons.injEq, List.cons.injEq, KR_inj ok x y, ih t]
theorem DTR_len {d : List (Val × Val)} {e : List (List L2.Key × V)} (q : DTR G r H d e) : d.length = e.length := by
  induction q with
  | nil => rfl
  | cons _ _ _ ih => simp [ih]
theorem DTR_look (ok : G.Ok) {d : List (Val × Val)} {e : List (List L2.Key × V)} (q : DTR G r H d e) {ks : List Val} {qs : List L2.Key} (hk : KRs G ks qs) :
    (lookV d (.tup ks) = none ∧ valV e qs = none) ∨ ∃ x v, lookV d (.tup ks) = some x ∧ valV e qs = some v ∧ VR G r H x v := by
  induction q with
  | nil => exact .inl ⟨rfl, rfl⟩
  | @cons js x ps v d e a b c ih =>
    by_cases e1 : js = ks
    · have e2 : ps = qs := (KRs_inj ok a hk).mp e1
      exact .inr ⟨x, v, by simp [lookV, e1], valV_pos e2, b⟩
    · have e2 : ¬ ps = qs := fun z => e1 ((KRs_inj ok a hk).mpr z)
      have e3 : lookV ((.tup js, x) :: d) (.tup ks) = lookV d (.tup ks) := by
        unfold lookV
        rw [List.find?_cons]
        simp [e1]
      rw [e3, valV_neg e2]
      exact ih
theorem hitT (ok : G.Ok) {A : Around} {f : Val → Val → Option Bool} (F : EqF A s G r H f) {e : List (Val × Val)} {es : List (List L2.Key × V)} {ys : List (Ent (List L2.Key))} (re : DTR G r H e es) (rb : L2.KT H es ys) : ∀ (d : List (Val × Val)) (ds : List (List L2.Key × V)) (xs : List (Ent (List L2.Key))) (b : Bool),
    DTR G r H d ds → L2.KT H ds xs → hitsM f e d = some b → HitH X.prog X.w A s ys xs b := by
  intro d
  induction d with
  | nil =>
    intro ds xs b a c q
    cases a
    cases c
    simp [hitsM] at q
    subst q
    exact .nil
  | cons p d ih =>
    intro ds xs b a c q
    cases a with
    | @cons k x κ v _ _ a1 a2 a3 =>
      cases c with
      | @cons _ w _ _ c1 c2 =>
        obtain ⟨κ', ad, vv⟩ := w
        obtain ⟨c3, _, c4⟩ := c1
        simp only at c3
        subst c3
        simp only [hitsM] at q
        have kv := rb.val κ
        rcases DTR_look ok re a1 with ⟨l0, l1⟩ | ⟨u, uv, l0, l1, l2⟩
        · rw [l0] at q
          cases q
          rw [l1] at kv
          refine .no ?_
          cases z : atKey ys κ with
          | none => rfl
          | some p => rw [z] at kv; exact kv.elim
        · rw [l0] at q
          rw [l1] at kv
          cases z : atKey ys κ with
          | none => rw [z] at kv; exact kv.elim
          | some p =>
            obtain ⟨pb, pu⟩ := p
            rw [z] at kv
            simp only at q
            split at q
            · rename_i b1 b2 k1 k2
              cases q
              exact .yes z (F _ _ _ _ _ _ _ a2 l2 c4 kv k1).eqP (ih _ _ _ a3 c2 k2)
            · cases q
/-- == of two dicts with tuple keys -/
def eqT (h : Heap) (x y : Val) : Option Bool := match x, y with
  | .ref n, .ref m => match h[n]?, h[m]? with
    | some (.dcT d), some (.dcT e) => if d.length = e.length then hitsM (eqH 20 h) e d else some false
    | _, _ => none
  | _, _ => none
def oEqT (neg : Bool) (x y : Val) (h : Heap) : Res Val := match eqT h x y with
  | some b => .ok (.bl (if neg then !b else b)) h
  | none => .stuck
def rEqT (G : Cfg) (neg : Bool) : R2 := fun v u H Q => ∃ r h x y b, HR G r H h ∧ VR G r H x v ∧ VR G r H y u ∧ eqT h x y = some b ∧ Q (.bl (if neg then !b else b)) H
theorem eqT_at (ok : G.Ok) (hK : X.K = G.K) (hu : X.A.units + 150 < cLine) (I : Inv X pins σ H s) (R : HR G r H h) {x y : Val} {v u : V} {vv uu : Value} {b : Bool} (q1 : VR G r H x v) (q2 : VR G r H y u) (r1 : RelV v vv) (r2 : RelV u uu) (e : eqT h x y = some b) :
    ∃ a c xs ys, vv = .ref a ∧ uu = .ref c ∧ (a == sysModules) = false ∧ (c == sysModules) = false ∧ s.heap.DictOfH (tupleKind (mixKind X.prog X.w)) a xs ∧ s.heap.DictOfH (tupleKind (mixKind X.prog X.w)) c ys ∧ ∃ k, (xs.length = ys.length → HitH X.prog X.w X.A.in1 s ys xs k) ∧ (xs.length == ys.length && k) = b := by
  have F := eqH_at ok hK I R 20 X.A (by omega)
  unfold eqT at e
  split at e
  · rename_i n m
    split at e
    · rename_i d d' eo1 eo2
      cases q1 with
      | @ref _ a ha =>
        cases q2 with
        | @ref _ c hc =>
          cases R.ob _ _ _ eo1 ha with
          | @dcT _ ds _ p1 v1 =>
            cases R.ob _ _ _ eo2 hc with
            | @dcT _ es _ p2 v2 =>
              obtain ⟨_, la, xs, k1, dx⟩ := dt_of I.hok p1
              obtain ⟨_, lc, ys, k2, dy⟩ := dt_of I.hok p2
              have l1 := (DTR_len v1).trans (Paired.length k1)
              have l2 := (DTR_len v2).trans (Paired.length k2)
              refine ⟨a, c, xs, ys, rl_ref r1, rl_ref r2, la, lc, dx, dy, ?_⟩
              split at e
              · rename_i hl
                refine ⟨b, fun _ => hitT ok F v2 k2 _ _ _ _ v1 k1 e, ?_⟩
                have : (xs.length == ys.length) = true := by simp; omega
                rw [this, Bool.true_and]
              · rename_i hl
                cases e
                refine ⟨true, fun z => absurd z (by omega), ?_⟩
                have : (xs.length == ys.length) = false := by simp; omega
                rw [this]
                rfl
    · cases e
  · cases e
theorem op_eqT (ok : G.Ok) (hK : X.K = G.K) (hu : X.A.units + 150 < cLine) : OpR X (compareOp .Eq) (rEqT G false) := by
  intro pins s σ H v u vv uu Q I rx ry hh
  obtain ⟨r, h, x, y, b, R, q1, q2, e, q⟩ := hh
  obtain ⟨a, c, xs, ys, rfl, rfl, la, lc, dx, dy, k, hk, rfl⟩ := eqT_at ok hK hu I R q1 q2 rx ry e
  exact rcH_eq (show X.A.in1.units < cLine by show X.A.units + 1 < cLine; omega) la lc dx dy (by omega) hk _ _ ⟨.bl _, H, I, rfl, q⟩
theorem op_neT (ok : G.Ok) (hK : X.K = G.K) (hu : X.A.units + 150 < cLine) : OpR X (compareOp .NotEq) (rEqT G true) := by
  intro pins s σ H v u vv uu Q I rx ry hh
  obtain ⟨r, h, x, y, b, R, q1, q2, e, q⟩ := hh
  obtain ⟨a, c, xs, ys, rfl, rfl, la, lc, dx, dy, k, hk, rfl⟩ := eqT_at ok hK hu I R q1 q2 rx ry e
  exact rcH_ne (show X.A.in1.units < cLine by show X.A.units + 1 < cLine; omega) la lc dx dy (by omega) hk _ _ ⟨.bl _, H, I, rfl, q⟩
end
section
variable {G : Cfg} {E : XK} {X : Cx} {k : Nat} {a b : Expr} {ta tb : TE} {ma mb : En → Heap → Res Val}
theorem rf_eqT {neg : Bool} : Rf2 G E (rEqT G neg) (oEqT neg) := by
  refine ⟨fun r H h x y v u Q hR a b p => ?_⟩
  unfold oEqT at p
  cases e : eqT h x y with
  | some c =>
    rw [e] at p
    exact ⟨r, h, x, y, c, hR, a, b, e, p.here hR (.bl _)⟩
  | none => rw [e] at p; exact p.elim
theorem mc_eqT (ok : G.Ok) (C : XC G E X k) (ha : ME G E X a ta ma) (hb : ME G E X b tb mb) : MC G E X .Eq a b (tOp (rEqT G false) ta tb) (mB (oEqT false) ma mb) :=
  ⟨pc_of (op_eqT (X := X) ok C.K (by have := C.room.un; omega)) ha.pe hb.pe, ha.rf.b2 hb.rf rf_eqT⟩
theorem mc_neT (ok : G.Ok) (C : XC G E X k) (ha : ME G E X a ta ma) (hb : ME G E X b tb mb) : MC G E X .NotEq a b (tOp (rEqT G true) ta tb) (mB (oEqT true) ma mb) :=
  ⟨pc_of (op_neT (X := X) ok C.K (by have := C.room.un; omega)) ha.pe hb.pe, ha.rf.b2 hb.rf rf_eqT⟩
end
end PyM

set_option Elab.async false
set_option linter.all false
set_option maxRecDepth 100000
set_option autoImplicit false
set_option maxHeartbeats 4000000
namespace PyM
open PySem L2
/-- the hash of a key of whole numbers -/
def kHash (ks : List Val) : Option Int := (optAll asInt ks).map fun is => reduceHash (Builtin.Tuple.tupleHashOf (is.map hashInt))
def hashOk (d : List (Val × Val)) : Bool := match optAll (fun kv : Val × Val => match kv.1 with | .tup ks => kHash ks | _ => none) d with
  | some hs => decide hs.Nodup
  | none => false
def bDictT (xs : List Val) (h : Heap) : Res Val := match xs with
  | [.ref a] => match h[a]? with
    | some (.dcT d) => if hashOk d = true ∧ d.length ≤ lim then .ok (.ref h.length) (h ++ [.dcT d]) else .stuck
    | _ => .stuck
  | _ => .stuck
section
variable {G : Cfg} {E : XK} {X : Cx} {k : Nat} {r : List Addr} {H : Hp} {h : Heap}
def rDictT (X : Cx) : List V → Hp → VK → Prop := fun xs H Q => ∃ (a : Addr) (kvs : List (List L2.Key × V)), xs = [.ref a] ∧ H a = some (.dT kvs) ∧ (kvs.map fun p => (tupleKind (mixKind X.prog X.w)).hash p.1).Nodup ∧ ∀ p, H p = none → Q (.ref p) (upd H p (.dT kvs))
theorem KT_hash {X : Cx} {H : Hp} {kvs : List (List L2.Key × V)} {xs : List (Ent (List L2.Key))} (r : L2.KT H kvs xs) : (kvs.map fun p => (tupleKind (mixKind X.prog X.w)).hash p.1) = xs.map fun x => (tupleKind (mixKind X.prog X.w)).hash x.1 := by
  induction r with
  | nil => rfl
  | cons a _ ih => rw [List.map_cons, List.map_cons, ih, a.1]
theorem call_dictT (hu : X.A.units + 20 < cLine) : CallR X (.type "dict") (rDictT X) := by
  intro pins s σ H xs us Q I rv hh
  obtain ⟨a, kvs, rfl, ha, hn, q⟩ := hh
  obtain ⟨u, rfl, ru⟩ := vals1 rv
  cases ru
  obtain ⟨lz, lo, zs, rel, dd⟩ := dt_of I.hok ha
  have fresh := I.hok.fresh (Nat.le_refl s.heap.objs.size)
  have I1 := I.laid (a := s.heap.objs.size) (o := .dT []) (h' := s.heap.push { cls := .type "dict", data := .dict #[] }) (t' := s.toks)
    (fun _ _ q => Heap.get?_push_of_some _ q) (Nat.le_refl _) (dt_empty s.heap I.big)
  obtain ⟨_, _, z0, rel0, dd0⟩ := dt_of I1.hok (a := s.heap.objs.size) (kvs := []) upd_same
  cases rel0
  have na : a ≠ s.heap.objs.size := fun e => by rw [e, fresh] at ha; cases ha
  obtain ⟨_, _, zs1, rel1, dd1⟩ := dt_of I1.hok (a := a) (kvs := kvs) (by rw [upd_ne na]; exact ha)
  have nd1 : (zs1.map (·.1)).Nodup := let ⟨_, _, _, _, _, _, _, _, n⟩ := dd1; n
  have lz1 : zs1.length ≤ sizeLine := by rw [← Paired.length rel1]; exact lz
  refine callType_codes (Q₁ := fun obj s₁ => obj = .ref s.heap.objs.size ∧ s₁ = { s with heap := s.heap.push { cls := .type "dict", data := .dict #[] } }) PySem.F.kt_called_dict (PySem.F.kt_typeCall_dict_1 _) PySem.F.entry_dict_init (kt_code_dict_new _ ⟨rfl, rfl⟩) ?_
  rintro obj s1 ⟨rfl, rfl⟩
  refine ⟨dd0.typeIs, PySem.F.args_dict_init_2 _ _, ?_⟩
  unfold Builtin.«dict.__init__»
  refine wpAny_bind ?_
  unfold Builtin.Dict.selfAndRest
  refine wpAny_bind (wpAny_notOrdered_dict dd0.typeIs ?_)
  change wpAny _ _ (pure (s.heap.objs.size, [Value.ref a])) _ _ _
  refine wpAny_pure ?_
  change wpAny _ _ (Builtin.Dict.updateFrom "dict.__init__" s.heap.objs.size (.ref a) [] .none) _ _ _
  refine updateFrom_dictH (knd := tupleKind (mixKind X.prog X.w)) .none (show X.A.units + 2 < cLine by omega) (fun e => na e.symm) lo dd0 dd1 (.inr ⟨fun x hx => ?_, ?_⟩) (by simpa using lz1) fun h' dd' _ sb => ?_
  · obtain ⟨_, _, _, _, _, _, _, his, _⟩ := dd1
    exact tupleKind_stays.tuple (his x hx)
  · rw [← KT_hash rel1]
    exact hn
  · rw [storedAllH_nil_of_nodup zs1 nd1] at dd'
    obtain ⟨ob, es, ep, g1, g2, g3, g4, _, g5⟩ := dd'
    have J : Inv X pins σ (upd (upd H s.heap.objs.size (.dT [])) s.heap.objs.size (.dT kvs)) { s with heap := h' } :=
      d_write (s := { s with heap := s.heap.push { cls := .type "dict", data := .dict #[] } }) (t' := s.toks) I1 (by rw [upd_same]; exact True.intro) sb ⟨ob, g1⟩ ⟨lz, beq_eq_false_iff_ne.mpr (Nat.ne_of_gt I.big), zs1, (KT.keeps rel1 fun b ys e => by
        rw [upd_ne (fun z => by subst z; rw [upd_same] at e; cases e)]
        exact e), ob, es, ep, g1, g2, g3, g4, g5⟩
    have eH : upd (upd H s.heap.objs.size (.dT [])) s.heap.objs.size (.dT kvs) = upd H s.heap.objs.size (.dT kvs) := by
      funext b
      unfold upd
      split <;> rfl
    rw [eH] at J
    exact ⟨rfl, .ref s.heap.objs.size, _, J, rfl, q _ fresh⟩
theorem KRs_ints {ks : List Val} {qs : List L2.Key} (a : KRs G ks qs) {is : List Int} (e : optAll asInt ks = some is) : qs = is.map Sum.inl := by
  induction a generalizing is with
  | nil => simp [optAll] at e; subst e; rfl
  | @cons x q xs qs a b ih =>
    simp only [optAll] at e
    split at e
    · rename_i i js e1 e2
      cases e
      cases a with
      | int j =>
        cases e1
        rw [ih e2]
        rfl
      | str _ => cases e1
    · cases e
theorem hashes {d : List (Val × Val)} {e : List (List L2.Key × V)} (q : DTR G r H d e) : ∀ {hs : List Int}, optAll (fun kv : Val × Val => match kv.1 with | .tup ks => kHash ks | _ => none) d = some hs → (e.map fun p => (tupleKind (mixKind X.prog X.w)).hash p.1) = hs := by
  induction q with
  | nil => intro hs h; simp [optAll] at h; subst h; rfl
  | @cons ks x qs v d e a b c ih =>
    intro hs h
    simp only [optAll] at h
    split at h
    · rename_i z zs e1 e2
      cases h
      unfold kHash at e1
      obtain ⟨is, e3, rfl⟩ := Option.map_eq_some_iff.mp e1
      rw [List.map_cons, ih e2, KRs_ints a e3]
      congr 1
      show reduceHash (Builtin.Tuple.tupleHashOf ((is.map Sum.inl).map (keyH X.w))) = _
      rw [List.map_map]
      rfl
    · cases h
theorem rl_dictT (hX : True) : RfL G E (rDictT X) bDictT := by
  refine ⟨fun r H h xs vs Q hR v p => ?_⟩
  unfold bDictT at p
  split at p
  · cases v with
    | cons q1 q2 => cases q2; cases q1 with
      | ref ea =>
        split at p
        · rename_i d eo
          split at p
          · rename_i hk
            cases hR.ob _ _ _ eo ea with
            | @dcT _ es _ hl hv =>
              refine ⟨_, _, rfl, hl, ?_, fun l hl' => ?_⟩
              · have := hk.1
                unfold hashOk at this
                split at this
                · rename_i hs e1
                  rw [hashes hv e1]
                  simpa using this
                · cases this
              · refine p (r ++ [l]) _ _ (Stp.new hl') (hR.push hl' (.dcT upd_same (hv.mono (Stp.new hl')))) (.ref ?_)
                rw [← hR.len]
                simp
          · exact False.elim p
        · exact False.elim p
  · exact False.elim p
theorem cl_dictT (C : XC G E X k) : CallR X (.type "dict") (rDictT X) := call_dictT (by have := C.room.un; omega)
end
end PyM

set_option Elab.async false
set_option linter.all false
set_option autoImplicit false
set_option maxHeartbeats 4000000
set_option maxRecDepth 100000
namespace PyM
open PySem PySem.Spec PyProof.Rows L2 He
/-- a law over a head by facts, where what may be let out hangs on the world -/
theorem walk_ofC {l : PySem.W.OpenLaw} {n k : Nat} {q : Program} {loose : List Str} {XP : (Str → Option Value) → PySem.Heap → Prop} {YP : World → PySem.Heap → Prop} {d : DefRec} {CX : World → CXT} {x : Str}
    (hn : l.most = some n) (hn2 : n ≤ sizeLine) (hdf : d.params.defaults = []) (hr : Room k callerA)
    (F : ∀ (w : World) (mg : Str → Option Value) (fa : Addr) (h : PySem.Heap), YP w h → h.Ns mainGlobals mg → mg d.name = some (.ref fa) →
      ∃ (K : PySem.W.Frag) (fd : FuncData) (sp : Sp), K.In h ∧ (∀ (s : Shared) (u : Value), BindsTo s fd ⟨[u], []⟩ [(x, u)]) ∧
        (∀ (H : Hp) (a : Addr) (ns : List Int), ns.length ≤ n → Only H → SqL K H a (ns.map V.int) → sp [.ref a] H (fun v _ => v = .bl true) fun _ _ _ => False) ∧
        ∀ base : PySem.Heap, K.In base → base.Ns mainGlobals mg → FnOk l.prog w K mg base (CX w) k fa fd [x] sp)
    (hCX : ∀ (w : World) (H : Hp) (s : Shared) (e : Value) (s' : Shared), CX w [] H s (fun _ _ _ => False) e s' → False) :
    PySem.W.WalkO q loose XP YP l.row.toRowW d [] (fun f vs => PySem.call f vs) := by
  refine Att.attach_call hn hdf fun w s0 s1 m1 m2 f1 o1 p1 c1 d1 a1 vs ns G Y y1 y2 y3 y4 y5 y6 y7 y8 => ?_
  obtain ⟨K', fd', sp', z1, z2, z3, z4⟩ := F w m1 f1 _ Y G.T.g y4
  exact law_call z1 G.T.g G.T.b G.T.builtins G.T.nolimit y8 y5 y6 (Nat.le_trans y7 hn2) hr z4 z2 (fun H q1 q2 => z3 H a1 ns y7 q1 q2) fun H e1 e2 => hCX w H s1 e1 e2
end PyM

set_option Elab.async false
set_option linter.all false
set_option maxRecDepth 100000
set_option maxHeartbeats 4000000
namespace Lw
open PyM
def m_new_tree : List Val → Heap → Res Val := runB 0 0
    (sRet (mDisp (((mK (.str 0)), (mDct)) :: [])))
def m_copied_ (self_ : List Val → Heap → Res Val) : List Val → Heap → Res Val := runB 1 3
    (sSeq (sIf (tB_ (mB (oIn false) (mK (.str 1)) (mV 0))) (sRet (mDisp (((mK (.str 1)), (mL bList (mCons (mB oIx (mV 0) (mK (.str 1))) (mNil)))) :: []))) (sNx))
    (sSeq (sAsg (gV 1) (mB oIx (mV 0) (mK (.str 0))))
    (sRet (mDisp (((mK (.str 0)), (mDcD (mV 1) (gV 2) (tTrue) (mV 2) (mCall self_ [] (mCons (mB oIx (mV 1) (mV 2)) (mNil))) [2])) :: [])))))
def m_copied_n : Nat → List Val → Heap → Res Val
  | 0 => fun _ _ => .stuck
  | n + 1 => m_copied_ (m_copied_n n)
def m_copied : List Val → Heap → Res Val := m_copied_n 6
def m__law_next : List Val → Heap → Res Val := runB 2 4
    (sSeq (sAsg (gV 2) (mB oIx (mV 0) (mK (.int 2))))
    (sSeq (sIf (tB_ (mB (oEq false) (mV 2) (mK (.int 0)))) (sSeq (sAsg (gV 3) (mK (.int 0)))
    (sSeq (sIf (tB_ (mB oLt (mB oIx (mV 0) (mK (.int 1))) (mL bLen (mCons (mB oIx (mV 0) (mK (.int 0))) (mNil))))) (sSeq (sAsg (gV 3) (mL bAbs (mCons (mL bInt (mCons (mB oIx (mB oIx (mV 0) (mK (.int 0))) (mB oIx (mV 0) (mK (.int 1)))) (mNil))) (mNil))))
    (sSub (mV 0) (mK (.int 1)) (mB oAdd (mB oIx (mV 0) (mK (.int 1))) (mK (.int 1))))) (sNx))
    (sSeq (sAsg (gV 2) (mV 3))
    (sIf (tB_ (mB oLt (mV 3) (mB oPw (mK (.int 10)) (mK (.int 18))))) (sSeq (sSub (mV 0) (mK (.int 3)) (mB oMd (mL bInt (mCons (mB oAdd (mB oAdd (mB oMul (mB oIx (mV 0) (mK (.int 3))) (mK (.int 69621))) (mB oMul (mV 3) (mK (.int 40692)))) (mK (.int 17))) (mNil))) (mK (.int 2147483647))))
    (sRet (mB oMd (mB oMd (mL bInt (mCons (mB oMul (mB oFd (mB oIx (mV 0) (mK (.int 3))) (mK (.int 5))) (mK (.int 48271))) (mNil))) (mK (.int 2147483647))) (mV 1)))) (sNx))))) (sNx))
    (sSeq (sSub (mV 0) (mK (.int 2)) (mB oFd (mV 2) (mV 1)))
    (sRet (mB oMd (mL bInt (mCons (mV 2) (mNil))) (mV 1))))))
def m__law_path : List Val → Heap → Res Val := runB 1 2
    (sRet (mL bTuple (mCons (mLc (iRng1 (mCons (mB oIx (mLst (mCons (mK (.int 1)) (mCons (mK (.int 1)) (mCons (mK (.int 2)) (mCons (mK (.int 2)) (mCons (mK (.int 3)) (mCons (mK (.int 0)) (mNil)))))))) (mCall m__law_next [] (mCons (mV 0) (mCons (mK (.int 6)) (mNil))))) (mNil))) (gV 1) (tTrue) (mB oAdd (mK (.int 1)) (mCall m__law_next [] (mCons (mV 0) (mCons (mK (.int 4)) (mNil))))) [1]) (mNil))))
def m__law_request : List Val → Heap → Res Val := runB 1 4
    (sSeq (sAsg (gV 1) (mCall m__law_path [] (mCons (mV 0) (mNil))))
    (sSeq (sAsg (gV 2) (mCall m__law_next [] (mCons (mV 0) (mCons (mK (.int 10)) (mNil)))))
    (sSeq (sIf (tB_ (mB oLt (mV 2) (mK (.int 3)))) (sRet (mTup (mCons (mK (.str 2)) (mCons (mV 1) (mCons (mB oIx (mLst (mCons (mK (.str 9)) (mCons (mK (.str 10)) (mNil)))) (mCall m__law_next [] (mCons (mV 0) (mCons (mK (.int 2)) (mNil))))) (mNil)))))) (sNx))
    (sSeq (sIf (tB_ (mB oLt (mV 2) (mK (.int 6)))) (sSeq (sAsg (gV 3) (mB oIx (mLst (mCons (mB oAdd (mK (.int 1)) (mCall m__law_next [] (mCons (mV 0) (mCons (mK (.int 4)) (mNil))))) (mCons (mB oAdd (mK (.int 1)) (mCall m__law_next [] (mCons (mV 0) (mCons (mK (.int 48)) (mNil))))) (mNil)))) (mCall m__law_next [] (mCons (mV 0) (mCons (mK (.int 2)) (mNil))))))
    (sRet (mTup (mCons (mK (.str 3)) (mCons (mV 1) (mCons (mB oIx (mLst (mCons (mK (.int 0)) (mCons (mCall m__law_next [] (mCons (mV 0) (mCons (mK (.int 8)) (mNil)))) (mCons (mCall m__law_next [] (mCons (mV 0) (mCons (mK (.int 49)) (mNil)))) (mNil))))) (mCall m__law_next [] (mCons (mV 0) (mCons (mK (.int 3)) (mNil))))) (mCons (mB rgT (mK (.int 1)) (mB oAdd (mK (.int 1)) (mV 3))) (mNil)))))))) (sNx))
    (sSeq (sIf (tB_ (mB (oEq false) (mV 2) (mK (.int 6)))) (sRet (mTup (mCons (mK (.str 4)) (mCons (mV 1) (mCons (mCall m__law_next [] (mCons (mV 0) (mCons (mK (.int 49)) (mNil)))) (mCons (mCall m__law_next [] (mCons (mV 0) (mCons (mK (.int 49)) (mNil)))) (mNil))))))) (sNx))
    (sSeq (sIf (tB_ (mB (oEq false) (mV 2) (mK (.int 7)))) (sRet (mTup (mCons (mK (.str 6)) (mCons (mV 1) (mCons (mB oIx (mLst (mCons (mK (.int 0)) (mCons (mCall m__law_next [] (mCons (mV 0) (mCons (mK (.int 49)) (mNil)))) (mNil)))) (mCall m__law_next [] (mCons (mV 0) (mCons (mK (.int 2)) (mNil))))) (mNil)))))) (sNx))
    (sRet (mB oIx (mLst (mCons (mTup (mCons (mK (.str 5)) (mCons (mV 1) (mNil)))) (mCons (mTup (mCons (mK (.str 7)) (mCons (mV 1) (mNil)))) (mCons (mTup (mCons (mK (.str 7)) (mCons (mV 1) (mNil)))) (mCons (mTup (mCons (mK (.str 8)) (mCons (mV 1) (mNil)))) (mNil)))))) (mCall m__law_next [] (mCons (mV 0) (mCons (mK (.int 4)) (mNil))))))))))))
def m_is_number : List Val → Heap → Res Val := runB 1 1
    (sRet (mAn (mIsi .int (mV 0)) (mNo (mIsi .bool (mV 0)))))
def m_is_word : List Val → Heap → Res Val := runB 1 1
    (sRet (mAn (mCall m_is_number [] (mCons (mV 0) (mNil))) (mChLeLe (mK (.int 0)) (mV 0) (mK (.int 4294967295)))))
def m_is_path : List Val → Heap → Res Val := runB 1 2
    (sRet (mAn (mIsi .tup (mV 0)) (mL bAll (mCons (mLc (iAlt (iLst (mV 0)) (iTup_ (mV 0))) (gV 1) (tTrue) (mAn (mCall m_is_word [] (mCons (mV 1) (mNil))) (mB (oEq true) (mV 1) (mK (.int 0)))) [1]) (mNil)))))
def m_is_size : List Val → Heap → Res Val := runB 1 1
    (sRet (mAn (mCall m_is_number [] (mCons (mV 0) (mNil))) (mChLeLe (mK (.int 0)) (mV 0) (mK (.int 48)))))
def m_is_content : List Val → Heap → Res Val := runB 1 2
    (sRet (mAn (mIsi .tup (mV 0)) (mAn (mChLeLe (mK (.int 1)) (mL bLen (mCons (mV 0) (mNil))) (mK (.int 48))) (mL bAll (mCons (mLc (iAlt (iLst (mV 0)) (iTup_ (mV 0))) (gV 1) (tTrue) (mCall m_is_word [] (mCons (mV 1) (mNil))) [1]) (mNil))))))
def m_is_request : List Val → Heap → Res Val := runB 1 1
    (sSeq (sIf (tOr_ (tNo (tTr (mIsi .tup (mV 0)))) (tOr_ (tB_ (mB oLt (mL bLen (mCons (mV 0) (mNil))) (mK (.int 2)))) (tNo (tTr (mIsi .str (mB oIx (mV 0) (mK (.int 0)))))))) (sRet (mK (.bl false))) (sNx))
    (sSeq (sIf (tOr_ (tB_ (mU (kIn true c_LENGTHS) (mB oIx (mV 0) (mK (.int 0))))) (tOr_ (tB_ (mB (oEq true) (mL bLen (mCons (mV 0) (mNil))) (mU (kIx c_LENGTHS) (mB oIx (mV 0) (mK (.int 0)))))) (tNo (tTr (mCall m_is_path [] (mCons (mB oIx (mV 0) (mK (.int 1))) (mNil))))))) (sRet (mK (.bl false))) (sNx))
    (sSeq (sIf (tB_ (mB (oEq false) (mB oIx (mV 0) (mK (.int 0))) (mK (.str 2)))) (sRet (mOr_ (mB (oEq false) (mB oIx (mV 0) (mK (.int 2))) (mK (.str 9))) (mB (oEq false) (mB oIx (mV 0) (mK (.int 2))) (mK (.str 10))))) (sNx))
    (sSeq (sIf (tB_ (mB (oEq false) (mB oIx (mV 0) (mK (.int 0))) (mK (.str 3)))) (sRet (mAn (mCall m_is_size [] (mCons (mB oIx (mV 0) (mK (.int 2))) (mNil))) (mCall m_is_content [] (mCons (mB oIx (mV 0) (mK (.int 3))) (mNil))))) (sNx))
    (sSeq (sIf (tB_ (mB (oEq false) (mB oIx (mV 0) (mK (.int 0))) (mK (.str 4)))) (sRet (mAn (mCall m_is_size [] (mCons (mB oIx (mV 0) (mK (.int 2))) (mNil))) (mCall m_is_size [] (mCons (mB oIx (mV 0) (mK (.int 3))) (mNil))))) (sNx))
    (sRet (mOr_ (mB (oEq true) (mB oIx (mV 0) (mK (.int 0))) (mK (.str 6))) (mCall m_is_size [] (mCons (mB oIx (mV 0) (mK (.int 2))) (mNil))))))))))
def m__law_flat_ (self_ : List Val → Heap → Res Val) : List Val → Heap → Res Val := runB 3 4
    (sSeq (sIf (tB_ (mB (oIn false) (mK (.str 1)) (mV 0))) (sSubV (mV 2) (mV 1) (mB oIx (mV 0) (mK (.str 1)))) (sSeq (sSubV (mV 2) (mV 1) (mK (.str 9)))
    (sForD (mB oIx (mV 0) (mK (.str 0))) (gV 3) (sDrop (mCall self_ [] (mCons (mB oIx (mB oIx (mV 0) (mK (.str 0))) (mV 3)) (mCons (mB oAdd (mV 1) (mTup (mCons (mV 3) (mNil)))) (mCons (mV 2) (mNil)))))))))
    (sRet (mV 2)))
def m__law_flat_n : Nat → List Val → Heap → Res Val
  | 0 => fun _ _ => .stuck
  | n + 1 => m__law_flat_ (m__law_flat_n n)
def m__law_flat : List Val → Heap → Res Val := m__law_flat_n 6
def m_part_at : List Val → Heap → Res Val := runB 2 3
    (sSeq (sFor (iAlt (iLst (mV 1)) (iTup_ (mV 1))) (gV 2) (sSeq (sIf (tOr_ (tB_ (mB (oIn false) (mK (.str 1)) (mV 0))) (tB_ (mB (oIn true) (mV 2) (mB oIx (mV 0) (mK (.str 0)))))) (sRet (mK .non)) (sNx))
    (sAsg (gV 0) (mB oIx (mB oIx (mV 0) (mK (.str 0))) (mV 2)))))
    (sRet (mV 0)))
def m_directory_of : List Val → Heap → Res Val := runB 2 3
    (sSeq (sIf (tB_ (mB (oEq false) (mL bLen (mCons (mV 1) (mNil))) (mK (.int 0)))) (sRet (mK .non)) (sNx))
    (sSeq (sAsg (gV 2) (mCall m_part_at [] (mCons (mV 0) (mCons (mSl (mV 1) (pNo) (pSo (mU oNeg (mK (.int 1))))) (mNil)))))
    (sSeq (sIf (tOr_ (tB_ (mU (oIsN false) (mV 2))) (tB_ (mB (oIn false) (mK (.str 1)) (mV 2)))) (sRet (mK .non)) (sNx))
    (sRet (mV 2)))))
def m_ask_directory : List Val → Heap → Res Val := runB 3 3
    (sSeq (sIf (tB_ (mB (oEq false) (mB oIx (mV 2) (mK (.int 0))) (mK (.str 2)))) (sSeq (sIf (tB_ (mB (oIn false) (mV 1) (mV 0))) (sRet (mTup (mCons (mK (.str 11)) (mCons (mK (.str 14)) (mNil))))) (sNx))
    (sSeq (sSub (mV 0) (mV 1) (mDisp (((mK (.str 1)), (mLst (mNil))) :: [])))
    (sSeq (sIf (tB_ (mB (oEq false) (mB oIx (mV 2) (mK (.int 2))) (mK (.str 9)))) (sSub (mV 0) (mV 1) (mCall m_new_tree [] (mNil))) (sNx))
    (sRet (mTup (mCons (mK (.str 13)) (mCons (mK .non) (mNil)))))))) (sNx))
    (sSeq (sIf (tB_ (mB (oIn true) (mV 1) (mV 0))) (sRet (mTup (mCons (mK (.str 11)) (mCons (mK (.str 12)) (mNil))))) (sNx))
    (sSeq (sIf (tAn (tB_ (mB (oIn false) (mK (.str 0)) (mB oIx (mV 0) (mV 1)))) (tB_ (mB oGt (mL bLen (mCons (mB oIx (mB oIx (mV 0) (mV 1)) (mK (.str 0))) (mNil))) (mK (.int 0))))) (sRet (mTup (mCons (mK (.str 11)) (mCons (mK (.str 15)) (mNil))))) (sNx))
    (sSeq (sDrop (mAlt (mBM bPopAt (mV 0) (mCons (mV 1) (mNil))) (mPop1 (mV 0) (mV 1))))
    (sRet (mTup (mCons (mK (.str 13)) (mCons (mK .non) (mNil)))))))))
def m_ask_file : List Val → Heap → Res Val := runB 2 8
    (sSeq (sAsg (gV 2) (mB oIx (mV 1) (mK (.int 0))))
    (sSeq (sAsg (gV 3) (mB oIx (mV 0) (mK (.str 1))))
    (sSeq (sIf (tB_ (mB (oEq false) (mV 2) (mK (.str 5)))) (sRet (mTup (mCons (mK (.str 13)) (mCons (mL bLen (mCons (mV 3) (mNil))) (mNil))))) (sNx))
    (sSeq (sIf (tB_ (mB (oEq false) (mV 2) (mK (.str 4)))) (sRet (mTup (mCons (mK (.str 13)) (mCons (mL bTuple (mCons (mSl (mV 3) (pSo (mB oIx (mV 1) (mK (.int 2)))) (pSo (mB oAdd (mB oIx (mV 1) (mK (.int 2))) (mB oIx (mV 1) (mK (.int 3)))))) (mNil))) (mNil))))) (sNx))
    (sSeq (sIf (tB_ (mB (oEq false) (mV 2) (mK (.str 6)))) (sSeq (sSub (mV 0) (mK (.str 1)) (mSl (mV 3) (pNo) (pSo (mB oIx (mV 1) (mK (.int 2))))))
    (sRet (mTup (mCons (mK (.str 13)) (mCons (mK .non) (mNil)))))) (sNx))
    (sSeq (sAsg (gT (gsCons (gV 4) (gsCons (gV 5) (gsNil)))) (mSl (mV 1) (pSo (mK (.int 2))) (pSo (mK (.int 4)))))
    (sSeq (sAsg (gV 6) (mB oAdd (mV 4) (mL bLen (mCons (mV 5) (mNil)))))
    (sSeq (sIf (tB_ (mB oGt (mV 6) (mK (.int 48)))) (sRet (mTup (mCons (mK (.str 11)) (mCons (mK (.str 16)) (mNil))))) (sNx))
    (sSeq (sAsg (gV 7) (mB oAdd (mV 3) (mB oMul (mLst (mCons (mK (.int 0)) (mNil))) (mL bMax2 (mCons (mK (.int 0)) (mCons (mB (oI fun i j => .int (i - j)) (mV 6) (mL bLen (mCons (mV 3) (mNil)))) (mNil)))))))
    (sSeq (sSub (mV 0) (mK (.str 1)) (mB oAdd (mB oAdd (mSl (mV 7) (pNo) (pSo (mV 4))) (mL bList (mCons (mV 5) (mNil)))) (mSl (mV 7) (pSo (mV 6)) (pNo))))
    (sRet (mTup (mCons (mK (.str 13)) (mCons (mK .non) (mNil)))))))))))))))
def m_ask : List Val → Heap → Res Val := runB 2 6
    (sSeq (sAsg (gT (gsCons (gV 2) (gsCons (gV 3) (gsNil)))) (mSl (mV 1) (pNo) (pSo (mK (.int 2)))))
    (sSeq (sIf (tOr_ (tB_ (mB (oEq false) (mV 2) (mK (.str 2)))) (tB_ (mB (oEq false) (mV 2) (mK (.str 7))))) (sSeq (sAsg (gV 4) (mCall m_directory_of [] (mCons (mV 0) (mCons (mV 3) (mNil)))))
    (sSeq (sIf (tB_ (mU (oIsN false) (mV 4))) (sRet (mTup (mCons (mK (.str 11)) (mCons (mK (.str 12)) (mNil))))) (sNx))
    (sRet (mCall m_ask_directory [] (mCons (mB oIx (mV 4) (mK (.str 0))) (mCons (mB oIx (mV 3) (mU oNeg (mK (.int 1)))) (mCons (mV 1) (mNil)))))))) (sNx))
    (sSeq (sAsg (gV 5) (mCall m_part_at [] (mCons (mV 0) (mCons (mV 3) (mNil)))))
    (sSeq (sIf (tB_ (mU (oIsN false) (mV 5))) (sRet (mTup (mCons (mK (.str 11)) (mCons (mK (.str 12)) (mNil))))) (sNx))
    (sSeq (sIf (tB_ (mB (oEq false) (mV 2) (mK (.str 8)))) (sSeq (sIf (tB_ (mB (oIn false) (mK (.str 1)) (mV 5))) (sRet (mTup (mCons (mK (.str 11)) (mCons (mK (.str 10)) (mNil))))) (sNx))
    (sRet (mTup (mCons (mK (.str 13)) (mCons (mL bTuple (mCons (mL bSorted (mCons (mB oIx (mV 5) (mK (.str 0))) (mNil))) (mNil))) (mNil)))))) (sNx))
    (sSeq (sIf (tB_ (mB (oIn false) (mK (.str 0)) (mV 5))) (sRet (mTup (mCons (mK (.str 11)) (mCons (mK (.str 9)) (mNil))))) (sNx))
    (sRet (mCall m_ask_file [] (mCons (mV 5) (mCons (mV 1) (mNil)))))))))))
def m__law_names : List Val → Heap → Res Val := runB 2 3
    (sRet (mL bSorted (mCons (mLcD (mV 0) (gV 2) (tAn (tB_ (mB (oEq false) (mL bLen (mCons (mV 2) (mNil))) (mB oAdd (mL bLen (mCons (mV 1) (mNil))) (mK (.int 1))))) (tB_ (mB (oEq false) (mSl (mV 2) (pNo) (pSo (mL bLen (mCons (mV 1) (mNil))))) (mV 1)))) (mB oIx (mV 2) (mU oNeg (mK (.int 1)))) [2]) (mNil))))
def m__law_file : List Val → Heap → Res Val := runB 2 5
    (sSeq (sAsg (gV 2) (mB tIxV (mV 0) (mB oIx (mV 1) (mK (.int 1)))))
    (sSeq (sIf (tB_ (mB (oEq false) (mB oIx (mV 1) (mK (.int 0))) (mK (.str 5)))) (sRet (mTup (mCons (mK (.str 13)) (mCons (mL bLen (mCons (mV 2) (mNil))) (mNil))))) (sNx))
    (sSeq (sIf (tB_ (mB (oEq false) (mB oIx (mV 1) (mK (.int 0))) (mK (.str 4)))) (sRet (mTup (mCons (mK (.str 13)) (mCons (mL bTuple (mCons (mSl (mV 2) (pSo (mB oIx (mV 1) (mK (.int 2)))) (pSo (mB oAdd (mB oIx (mV 1) (mK (.int 2))) (mB oIx (mV 1) (mK (.int 3)))))) (mNil))) (mNil))))) (sNx))
    (sSeq (sIf (tB_ (mB (oEq false) (mB oIx (mV 1) (mK (.int 0))) (mK (.str 6)))) (sSeq (sSubV (mV 0) (mB oIx (mV 1) (mK (.int 1))) (mSl (mV 2) (pNo) (pSo (mB oIx (mV 1) (mK (.int 2))))))
    (sRet (mTup (mCons (mK (.str 13)) (mCons (mK .non) (mNil)))))) (sNx))
    (sSeq (sIf (tB_ (mB oGt (mB oAdd (mB oIx (mV 1) (mK (.int 2))) (mL bLen (mCons (mB oIx (mV 1) (mK (.int 3))) (mNil)))) (mK (.int 48)))) (sRet (mTup (mCons (mK (.str 11)) (mCons (mK (.str 16)) (mNil))))) (sNx))
    (sSeq (sAsg (gV 3) (mB oAdd (mV 2) (mB oMul (mLst (mCons (mK (.int 0)) (mNil))) (mK (.int 48)))))
    (sSeq (sFor (iRng1 (mCons (mL bLen (mCons (mB oIx (mV 1) (mK (.int 3))) (mNil))) (mNil))) (gV 4) (sSub (mV 3) (mB oAdd (mB oIx (mV 1) (mK (.int 2))) (mV 4)) (mB oIx (mB oIx (mV 1) (mK (.int 3))) (mV 4))))
    (sSeq (sSubV (mV 0) (mB oIx (mV 1) (mK (.int 1))) (mSl (mV 3) (pNo) (pSo (mL bMax2 (mCons (mL bLen (mCons (mV 2) (mNil))) (mCons (mB oAdd (mB oIx (mV 1) (mK (.int 2))) (mL bLen (mCons (mB oIx (mV 1) (mK (.int 3))) (mNil)))) (mNil)))))))
    (sRet (mTup (mCons (mK (.str 13)) (mCons (mK .non) (mNil)))))))))))))
def m__law_due : List Val → Heap → Res Val := runB 2 4
    (sSeq (sPar2 2 3 (mCons (mB oIx (mV 1) (mK (.int 0))) (mCons (mB oIx (mV 1) (mK (.int 1))) (mNil))))
    (sSeq (sIf (tB_ (mB (oIn false) (mV 2) (mTup (mCons (mK (.str 2)) (mCons (mK (.str 7)) (mNil)))))) (sSeq (sIf (tOr_ (tB_ (mB (oEq false) (mV 3) (mTup (mNil)))) (tB_ (mB (oEq true) (mGetV1 (mV 0) (mSl (mV 3) (pNo) (pSo (mU oNeg (mK (.int 1)))))) (mK (.str 9))))) (sRet (mTup (mCons (mK (.str 11)) (mCons (mK (.str 12)) (mNil))))) (sNx))
    (sSeq (sIf (tB_ (mB (oEq false) (mV 2) (mK (.str 2)))) (sSeq (sIf (tB_ (mB (tInV false) (mV 3) (mV 0))) (sRet (mTup (mCons (mK (.str 11)) (mCons (mK (.str 14)) (mNil))))) (sNx))
    (sSeq (sSubV (mV 0) (mV 3) (mB oIx (mLst (mCons (mK (.str 9)) (mCons (mLst (mNil)) (mNil)))) (mL bInt (mCons (mB (oEq false) (mB oIx (mV 1) (mK (.int 2))) (mK (.str 10))) (mNil)))))
    (sRet (mTup (mCons (mK (.str 13)) (mCons (mK .non) (mNil))))))) (sNx))
    (sSeq (sIf (tB_ (mB (tInV true) (mV 3) (mV 0))) (sRet (mTup (mCons (mK (.str 11)) (mCons (mK (.str 12)) (mNil))))) (sNx))
    (sSeq (sIf (tB_ (mB (oEq true) (mCall m__law_names [] (mCons (mV 0) (mCons (mV 3) (mNil)))) (mLst (mNil)))) (sRet (mTup (mCons (mK (.str 11)) (mCons (mK (.str 15)) (mNil))))) (sNx))
    (sSeq (sDrop (mPopV1 (mV 0) (mV 3)))
    (sRet (mTup (mCons (mK (.str 13)) (mCons (mK .non) (mNil)))))))))) (sNx))
    (sSeq (sIf (tB_ (mB (tInV true) (mV 3) (mV 0))) (sRet (mTup (mCons (mK (.str 11)) (mCons (mK (.str 12)) (mNil))))) (sNx))
    (sSeq (sIf (tB_ (mB (oEq false) (mV 2) (mK (.str 8)))) (sSeq (sIf (tB_ (mB (oEq true) (mB tIxV (mV 0) (mV 3)) (mK (.str 9)))) (sRet (mTup (mCons (mK (.str 11)) (mCons (mK (.str 10)) (mNil))))) (sNx))
    (sRet (mTup (mCons (mK (.str 13)) (mCons (mL bTuple (mCons (mCall m__law_names [] (mCons (mV 0) (mCons (mV 3) (mNil)))) (mNil))) (mNil)))))) (sNx))
    (sSeq (sIf (tB_ (mB (oEq false) (mB tIxV (mV 0) (mV 3)) (mK (.str 9)))) (sRet (mTup (mCons (mK (.str 11)) (mCons (mK (.str 9)) (mNil))))) (sNx))
    (sRet (mCall m__law_file [] (mCons (mV 0) (mCons (mV 1) (mNil))))))))))
def m_law : List Val → Heap → Res Val := runB 1 10
    (sSeq (sAsg (gV 1) (mLst (mCons (mL bList (mCons (mV 0) (mNil))) (mCons (mK (.int 0)) (mCons (mK (.int 0)) (mCons (mK (.int 9)) (mNil)))))))
    (sSeq (sAsg (gV 2) (mCall m_new_tree [] (mNil)))
    (sSeq (sAsg (gV 3) (mDispT1 (mTup (mNil)) (mK (.str 9))))
    (sSeq (sAsg (gV 4) (mCall m_copied [] (mCons (mV 2) (mNil))))
    (sSeq (sFor (iRng1 (mCons (mCall m__law_next [] (mCons (mV 1) (mCons (mK (.int 60)) (mNil)))) (mNil))) (gV 5) (sSeq (sAsg (gV 6) (mCall m__law_request [] (mCons (mV 1) (mNil))))
    (sSeq (sIf (tB_ (mB (oIsB true) (mCall m_is_request [] (mCons (mV 6) (mNil))) (mK (.bl true)))) (sRet (mK (.bl false))) (sNx))
    (sSeq (sIf (tB_ (mB (oEq false) (mCall m__law_next [] (mCons (mV 1) (mCons (mK (.int 9)) (mNil)))) (mK (.int 0)))) (sSeq (sAsg (gV 4) (mCall m_copied [] (mCons (mV 2) (mNil))))
    (sSeq (sAsg (gV 7) (mL bDictT (mCons (mV 3) (mNil))))
    (sIf (tB_ (mB (oEqT true) (mCall m__law_flat [] (mCons (mV 4) (mCons (mTup (mNil)) (mCons (mDctT) (mNil))))) (mV 7))) (sRet (mK (.bl false))) (sNx)))) (sNx))
    (sIf (tOr_ (tB_ (mB (oEq true) (mCall m_ask [] (mCons (mV 2) (mCons (mV 6) (mNil)))) (mCall m__law_due [] (mCons (mV 3) (mCons (mV 6) (mNil)))))) (tB_ (mB (oEqT true) (mCall m__law_flat [] (mCons (mV 2) (mCons (mTup (mNil)) (mCons (mDctT) (mNil))))) (mV 3)))) (sRet (mK (.bl false))) (sNx))))))
    (sSeq (sAsg (gV 8) (mLst (mCons (mK .non) (mCons (mTup (mNil)) (mCons (mTup (mCons (mK (.str 2)) (mCons (mTup (mCons (mK (.int 1)) (mNil))) (mNil)))) (mCons (mTup (mCons (mK (.str 2)) (mCons (mTup (mCons (mK (.int 0)) (mNil))) (mCons (mK (.str 9)) (mNil))))) (mCons (mTup (mCons (mK (.str 2)) (mCons (mLst (mCons (mK (.int 1)) (mNil))) (mCons (mK (.str 9)) (mNil))))) (mCons (mTup (mCons (mK (.str 2)) (mCons (mTup (mCons (mK (.int 1)) (mNil))) (mCons (mK (.str 17)) (mNil))))) (mCons (mTup (mCons (mK (.str 3)) (mCons (mTup (mCons (mK (.int 1)) (mNil))) (mCons (mK (.int 0)) (mCons (mTup (mNil)) (mNil)))))) (mNil))))))))))
    (sSeq (sAsg (gV 8) (mB oAdd (mV 8) (mLst (mCons (mTup (mCons (mK (.str 3)) (mCons (mTup (mCons (mK (.int 1)) (mNil))) (mCons (mK (.int 49)) (mCons (mTup (mCons (mK (.int 1)) (mNil))) (mNil)))))) (mCons (mTup (mCons (mK (.str 3)) (mCons (mTup (mCons (mK (.int 1)) (mNil))) (mCons (mK (.int 0)) (mCons (mTup (mCons (mU oNeg (mK (.int 1))) (mNil))) (mNil)))))) (mCons (mTup (mCons (mK (.str 4)) (mCons (mTup (mCons (mK (.int 1)) (mNil))) (mCons (mK (.bl true)) (mCons (mK (.int 1)) (mNil)))))) (mCons (mTup (mCons (mK (.str 6)) (mCons (mTup (mCons (mK (.int 1)) (mNil))) (mCons (mU oNeg (mK (.int 1))) (mNil))))) (mCons (mTup (mCons (mK (.str 5)) (mCons (mTup (mCons (mB oPw (mK (.int 2)) (mK (.int 32))) (mNil))) (mNil)))) (mNil)))))))))
    (sSeq (sAsg (gV 8) (mB oAdd (mV 8) (mLst (mCons (mLst (mCons (mK (.str 5)) (mCons (mTup (mCons (mK (.int 1)) (mNil))) (mNil)))) (mCons (mTup (mCons (mK (.str 18)) (mNil))) (mCons (mTup (mCons (mK (.str 3)) (mCons (mTup (mCons (mK (.int 1)) (mNil))) (mCons (mK (.int 0)) (mCons (mB oMul (mTup (mCons (mK (.int 1)) (mNil))) (mK (.int 49))) (mNil)))))) (mCons (mTup (mCons (mK (.str 8)) (mCons (mTup (mCons (mK (.int 1)) (mNil))) (mCons (mK (.int 0)) (mNil))))) (mNil))))))))
    (sRet (mB (oEq false) (mL bLen (mCons (mLc (iAlt (iLst (mV 8)) (iTup_ (mV 8))) (gV 9) (tB_ (mB (oIsB true) (mCall m_is_request [] (mCons (mV 9) (mNil))) (mK (.bl false)))) (mV 9) [9]) (mNil))) (mK (.int 0))))))))))))
end Lw

set_option Elab.async false
set_option linter.all false
set_option autoImplicit false
set_option maxHeartbeats 4000000
namespace PyM
/-- comprehensions over the images of a list; the items leave the heap longer at most -/
theorem wR_lcXL {α : Type} {chk : Heap → Bool} {tg : Val → En → Option En} {mt : En → Heap → Res Bool} {me : En → Heap → Res Val} {s0 : En} {E : Nat → Heap → Prop} {QU : Unit → Heap → Prop} {h : Heap} (enc : α → Val) (p : α → Bool) (f : α → Val) {L : List α} (hl : L.length < lim)
    (hc : ∀ h', Ext h h' → chk h' = true)
    (ht : ∀ x h', x ∈ L → Ext h h' → ∃ s2, tg (enc x) s0 = some s2 ∧ wR (mt s2 h') (fun _ _ => False) (fun b h1 => b = p x ∧ Ext h' h1 ∧ (p x = true → wR (me s2 h1) (fun _ _ => False) fun y h2 => y = f x ∧ Ext h1 h2)))
    (q : ∀ h', Ext h h' → h'[h.length]? = some (.lst ((L.filter p).map f)) → QU () h') : wR (lcM chk tg mt me s0 h.length (L.map enc) (h ++ [.lst []])) E QU := by
  refine wR_lcM (fun i acc h' => i ≤ L.length ∧ acc = ((L.take i).filter p).map f ∧ Ext h h' ∧ h'[h.length]? = some (.lst acc)) (L.map enc) 0 [] _ ⟨Nat.zero_le _, rfl, ⟨_, rfl⟩, at_len⟩ ?_ ?_
  · rintro i x0 acc h' _ hx0 ⟨hi, ea, ex, el⟩
    simp only [Nat.sub_zero, List.getElem?_map] at hx0
    obtain ⟨x, hx, rfl⟩ := Option.map_eq_some_iff.mp hx0
    have hlt : i < L.length := (List.getElem?_eq_some_iff.mp hx).1
    obtain ⟨s2, e, w1⟩ := ht x h' (List.mem_of_getElem? hx) ex
    refine ⟨hc h' ex, s2, e, wR_mono w1 ?_⟩
    rintro b h1 ⟨rfl, x1, w2⟩
    have tk : L.take (i + 1) = L.take i ++ [x] := by
      rw [List.take_add_one, hx]
      rfl
    have al : acc.length < lim := by
      rw [ea, List.length_map]
      have := List.length_filter_le p (L.take i)
      have := List.length_take_le i L
      omega
    by_cases hp : p x = true
    · rw [if_pos hp]
      refine wR_mono (w2 hp) ?_
      rintro y h2 ⟨rfl, x2⟩
      refine ⟨x2.at (x1.at el), al, hlt, ?_, ((ex.trans x1).trans x2).set (Nat.le_refl _) _, at_set (x2.at (x1.at el))⟩
      rw [tk, List.filter_append, List.map_append, ← ea]
      simp [hp]
    · rw [if_neg hp]
      refine ⟨hlt, ?_, ex.trans x1, x1.at el⟩
      rw [tk, List.filter_append, List.map_append, ← ea]
      simp [hp]
  · rintro acc h' ⟨_, ea, ex, el⟩
    refine ⟨hc _ ex, q h' ex ?_⟩
    rw [el, ea, Nat.zero_add, List.length_map, List.take_length]
end PyM
namespace Lw
open PyM
/-! dicts by encoded keys -/
section
variable {κ : Type} [DecidableEq κ] {enc : κ → Val} {f g : κ → Val} {k : κ} {l : List κ} {x : Val}
def dG (enc : κ → Val) (f : κ → Val) (l : List κ) : List (Val × Val) := l.map fun k => (enc k, f k)
def Inj (enc : κ → Val) : Prop := ∀ a b, enc a = enc b → a = b
def fu {α : Type} (g : κ → α) (k : κ) (v : α) : κ → α := fun y => if y = k then v else g y
theorem fu_at {α : Type} {g : κ → α} {v : α} : fu g k v k = v := if_pos rfl
theorem fu_ne {α : Type} {g : κ → α} {y : κ} {v : α} (h : y ≠ k) : fu g k v y = g y := if_neg h
theorem lookG (hi : Inj enc) : ∀ {l : List κ}, lookV (dG enc f l) (enc k) = if k ∈ l then some (f k) else none
  | [] => rfl
  | y :: l => by
    have ih := lookG hi (l := l)
    unfold dG lookV at *
    simp only [List.map_cons, List.find?_cons]
    by_cases e : y = k
    · subst e
      simp
    · have e2 : ¬ k = y := fun q => e q.symm
      have e3 : decide (enc y = enc k) = false := by simpa using fun z => e (hi _ _ z)
      rw [e3]
      simp only [ih, List.mem_cons, e2, false_or]
theorem lookG_in (hi : Inj enc) (h : k ∈ l) : lookV (dG enc f l) (enc k) = some (f k) := by rw [lookG hi, if_pos h]
theorem lookG_no (hi : Inj enc) (h : k ∉ l) : lookV (dG enc f l) (enc k) = none := by rw [lookG hi, if_neg h]
theorem dG_len : (dG enc f l).length = l.length := by simp [dG]
theorem dG_congr (h : ∀ k ∈ l, f k = g k) : dG enc f l = dG enc g l := List.map_congr_left fun k hk => by rw [h k hk]
theorem dG_app {m : List κ} : dG enc f (l ++ m) = dG enc f l ++ dG enc f m := List.map_append
theorem anyG (hi : Inj enc) : ((dG enc f l).any fun kv => decide (kv.1 = enc k)) = decide (k ∈ l) := by
  rw [Bool.eq_iff_iff]
  simp only [dG, List.any_map, List.any_eq_true, Function.comp, decide_eq_true_eq]
  exact ⟨fun ⟨y, h, e⟩ => hi _ _ e ▸ h, fun h => ⟨k, h, rfl⟩⟩
theorem putG_new (hi : Inj enc) (h : k ∉ l) : putV (dG enc f l) (enc k) x = dG enc (fu f k x) (l ++ [k]) := by
  unfold putV
  rw [anyG hi, if_neg (by simpa using h), dG_app]
  congr 1
  · exact dG_congr fun y hy => (fu_ne fun z => h (by rw [← z]; exact hy)).symm
  · simp [dG, fu_at]
theorem putG_app (hi : Inj enc) {d : List (Val × Val)} (h : lookV d (enc k) = none) : putV d (enc k) x = d ++ [(enc k, x)] := by
  unfold putV
  rw [if_neg]
  intro z
  obtain ⟨kv, h1, h2⟩ := List.any_eq_true.mp z
  unfold lookV at h
  rw [Option.map_eq_none_iff, List.find?_eq_none] at h
  exact h kv h1 h2
theorem putG_in (hi : Inj enc) (h : k ∈ l) : putV (dG enc f l) (enc k) x = dG enc (fu f k x) l := by
  unfold putV
  rw [anyG hi, if_pos (by simpa using h)]
  unfold dG
  rw [List.map_map]
  refine List.map_congr_left fun y _ => ?_
  by_cases q : y = k
  · subst q
    simp [fu]
  · have : ¬ enc y = enc k := fun z => q (hi _ _ z)
    simp [fu, q, this]
theorem dropG (hi : Inj enc) : dropV (dG enc f l) (enc k) = dG enc f (l.filter fun y => decide (y ≠ k)) := by
  unfold dropV dG
  rw [List.filter_map]
  congr 1
  refine List.filter_congr fun y _ => ?_
  simp only [Function.comp, ne_eq]
  congr 1
  exact propext ⟨fun z e => z (by rw [e]), fun z e => z (hi _ _ e)⟩
theorem dG_keys : (dG enc f l).map (·.1) = l.map enc := by simp [dG]
end
abbrev Pa := List Nat
def eN (n : Nat) : Val := .int (n : Nat)
def eP (p : Pa) : Val := .tup (p.map eN)
theorem eN_inj : Inj eN := fun a b h => by
  unfold eN at h
  injection h with h
  omega
theorem map_inj : ∀ {p q : Pa}, p.map eN = q.map eN → p = q
  | [], [], _ => rfl
  | [], _ :: _, h => by cases h
  | _ :: _, [], h => by cases h
  | a :: p, b :: q, h => by
    rw [List.map_cons, List.map_cons, List.cons.injEq] at h
    rw [eN_inj _ _ h.1, map_inj h.2]
theorem eP_inj : Inj eP := fun a b h => by
  unfold eP at h
  injection h with h
  exact map_inj h
/-! the state -/
structure S where
  L : List Pa
  D : Pa → Bool
  W : Pa → List Nat
  C : Pa → List Nat
structure Inv (s : S) : Prop where
  nd : s.L.Nodup
  top : [] ∈ s.L ∧ s.D [] = true
  up : ∀ p n, p ++ [n] ∈ s.L → p ∈ s.L ∧ s.D p = true ∧ n ∈ s.C p
  dn : ∀ p n, p ∈ s.L → n ∈ s.C p → p ++ [n] ∈ s.L
  cn : ∀ p, (s.C p).Nodup
  fl : ∀ p, p ∈ s.L → s.D p = false → s.C p = []
  rg : ∀ p ∈ s.L, p.length ≤ 3 ∧ ∀ n ∈ p, 1 ≤ n ∧ n ≤ 4
  w48 : ∀ p, (s.W p).length ≤ 48
structure Ad where
  A : Pa → Nat
  B : Pa → Nat
def wl (ws : List Nat) : List Val := ws.map eN
def oA (a : Ad) (s : S) (p : Pa) : Obj := if s.D p = true then .dct [(.str 0, .ref (a.B p))] else .dct [(.str 1, .ref (a.B p))]
def oN (a : Ad) (s : S) (p : Pa) : Obj := .dct (dG eN (fun n => .ref (a.A (p ++ [n]))) (s.C p))
/-- what stands at the part p -/
structure Pt (a : Ad) (s : S) (h : Heap) (p : Pa) : Prop where
  pa : h[a.A p]? = some (oA a s p)
  pb : h[a.B p]? = some (if s.D p = true then oN a s p else .lst (wl (s.W p)))
theorem Pt.ext {a : Ad} {s : S} {h h' : Heap} {p : Pa} (t : Pt a s h p) (x : Ext h h') : Pt a s h' p := ⟨x.at t.pa, x.at t.pb⟩
def Tree (a : Ad) (s : S) (h : Heap) : Prop := ∀ p ∈ s.L, Pt a s h p
theorem Pt.d {a : Ad} {s : S} {h : Heap} {p : Pa} (t : Pt a s h p) (d : s.D p = true) : h[a.A p]? = some (.dct [(.str 0, .ref (a.B p))]) ∧ h[a.B p]? = some (oN a s p) := by
  have h1 := t.pa
  have h2 := t.pb
  unfold oA at h1
  rw [if_pos d] at h1 h2
  exact ⟨h1, h2⟩
theorem Pt.f {a : Ad} {s : S} {h : Heap} {p : Pa} (t : Pt a s h p) (d : s.D p = false) : h[a.A p]? = some (.dct [(.str 1, .ref (a.B p))]) ∧ h[a.B p]? = some (.lst (wl (s.W p))) := by
  have h1 := t.pa
  have h2 := t.pb
  have d' : ¬ s.D p = true := by rw [d]; decide
  unfold oA at h1
  rw [if_neg d'] at h1 h2
  exact ⟨h1, h2⟩
section
variable {a : Ad} {s : S} {h : Heap} {p q : Pa} {n : Nat}
theorem snoc_cases (r : Pa) : r = [] ∨ ∃ q n, r = q ++ [n] := by
  rcases List.eq_nil_or_concat r with h | ⟨q, n, h⟩
  · exact .inl h
  · exact .inr ⟨q, n, by rw [h, List.concat_eq_append]⟩
theorem Inv.pre (i : Inv s) : ∀ (k : Nat) (r p : Pa), r.length = k → p ++ r ∈ s.L → p ∈ s.L
  | 0, r, p, hl, h => by
    have : r = [] := List.length_eq_zero_iff.mp hl
    subst this
    simpa using h
  | k + 1, r, p, hl, h => by
    rcases snoc_cases r with rfl | ⟨r', n, rfl⟩
    · simp at hl
    · rw [← List.append_assoc] at h
      exact Inv.pre i k r' p (by simpa using hl) (i.up _ _ h).1
/-! part_at -/
def paB : En → Heap → RS := (sSeq (sIf (tOr_ (tB_ (mB (oIn false) (mK (.str 1)) (mV 0))) (tB_ (mB (oIn true) (mV 2) (mB oIx (mV 0) (mK (.str 0)))))) (sRet (mK .non)) (sNx))
    (sAsg (gV 0) (mB oIx (mB oIx (mV 0) (mK (.str 0))) (mV 2))))
theorem pa_cut : m_part_at = runB 2 3 (sSeq (sFor (iAlt (iLst (mV 1)) (iTup_ (mV 1))) (gV 2) paB) (sRet (mV 0))) := rfl
theorem oIn_str {neg : Bool} {d : List (Val × Val)} {b : Nat} {i : Nat} (e : h[b]? = some (.dct d)) : oIn neg (.str i) (.ref b) h = .ok (.bl (if neg then !(lookV d (.str i)).isSome else (lookV d (.str i)).isSome)) h := oIn_dct e rfl
theorem pa_loop (i : Inv s) (t : Tree a s h) {x1 : Val} : ∀ (r p : Pa) (x2 : Option Val), p ∈ s.L →
    wS (forM_ (fun _ => true) (gV 2) paB (r.map eN) [some (.ref (a.A p)), some x1, x2] h) { nx := fun s' h' => p ++ r ∈ s.L ∧ h' = h ∧ ∃ x2, s' = [some (.ref (a.A (p ++ r))), some x1, x2], rt := fun v h' => p ++ r ∉ s.L ∧ v = .non ∧ h' = h }
  | [], p, x2, hp => by
    rw [List.map_nil, wS_forM_nil, List.append_nil]
    exact ⟨rfl, hp, rfl, x2, rfl⟩
  | n :: r, p, x2, hp => by
    rw [List.map_cons, wS_forM_cons]
    refine ⟨rfl, ?_⟩
    have hg : gV 2 (eN n) [some (.ref (a.A p)), some x1, x2] = some [some (.ref (a.A p)), some x1, some (eN n)] := rfl
    rw [hg]
    dsimp only
    have ap : p ++ n :: r = (p ++ [n]) ++ r := by simp
    have no : p ++ [n] ∉ s.L → p ++ n :: r ∉ s.L := fun z m => z (i.pre _ r _ rfl (by rw [← ap]; exact m))
    cases d : s.D p with
    | false =>
      obtain ⟨h1, _⟩ := (t p hp).f d
      have hn : p ++ [n] ∉ s.L := fun m => by
        have := (i.up _ _ m).2.1
        rw [d] at this
        cases this
      have eb : paB [some (.ref (a.A p)), some x1, some (eN n)] h = .rt .non h := by
        refine eq_rt ?_
        unfold paB
        have e1 := oIn_str (neg := false) (i := 1) h1
        have l1 : lookV [(Val.str 1, Val.ref (a.B p))] (.str 1) = some (.ref (a.B p)) := rfl
        rw [l1] at e1
        simp [e1]
      rw [eb]
      exact ⟨no hn, rfl, rfl⟩
    | true =>
      obtain ⟨h1, h2⟩ := (t p hp).d d
      have e1 := oIn_str (neg := false) (i := 1) h1
      have l1 : lookV [(Val.str 0, Val.ref (a.B p))] (.str 1) = none := rfl
      have l0 : lookV [(Val.str 0, Val.ref (a.B p))] (.str 0) = some (.ref (a.B p)) := rfl
      rw [l1] at e1
      unfold oN at h2
      have e2 := oIn_dct (neg := true) (x := eN n) h2 rfl
      rw [lookG eN_inj] at e2
      by_cases hc : n ∈ s.C p
      · have hm := i.dn _ _ hp hc
        rw [if_pos hc] at e2
        have l2 := lookG_in (f := fun n => Val.ref (a.A (p ++ [n]))) eN_inj hc
        have eb : paB [some (.ref (a.A p)), some x1, some (eN n)] h = .nx [some (.ref (a.A (p ++ [n]))), some x1, some (eN n)] h := by
          refine eq_nx ?_
          unfold paB
          have l2' : lookV (dG eN (fun n => Val.ref (a.A (p ++ [n]))) (s.C p)) (.int (n : Nat)) = some (.ref (a.A (p ++ [n]))) := l2
          have e2' : oIn true (.int (n : Nat)) (.ref (a.B p)) h = _ := e2
          simp [e1, h1, l0, eN, e2', h2, gV, l2']
        rw [eb]
        have ih := pa_loop i t r (p ++ [n]) (some (eN n)) (x1 := x1) hm
        rw [← ap] at ih
        exact ih
      · have hn : p ++ [n] ∉ s.L := fun m => hc (i.up _ _ m).2.2
        rw [if_neg hc] at e2
        have eb : paB [some (.ref (a.A p)), some x1, some (eN n)] h = .rt .non h := by
          refine eq_rt ?_
          unfold paB
          have e2' : oIn true (.int (n : Nat)) (.ref (a.B p)) h = _ := e2
          simp [e1, h1, l0, eN, e2']
        rw [eb]
        exact ⟨no hn, rfl, rfl⟩
theorem pa_ok (i : Inv s) (t : Tree a s h) (p : Pa) : m_part_at [.ref (a.A []), eP p] h = .ok (if p ∈ s.L then .ref (a.A p) else .non) h := by
  refine eq_of_wR ?_
  rw [pa_cut]
  refine wRB rfl ?_
  obtain ⟨B, hB⟩ : ∃ X, X = paB := ⟨_, rfl⟩
  rw [← hB]
  simp -implicitDefEqProofs [eP]
  rw [hB]
  have w := pa_loop i t p [] none (x1 := .tup (p.map eN)) i.top.1
  rw [List.nil_append] at w
  refine wS_mono' w (fun s' h' q => ?_) (fun v h' q => ?_) rfl rfl rfl
  · obtain ⟨h1, rfl, x2, rfl⟩ := q
    rw [if_pos h1]
    simp
  · obtain ⟨h1, rfl, rfl⟩ := q
    rw [if_neg h1]
    exact ⟨rfl, rfl⟩
end
end Lw

set_option Elab.async false
set_option linter.all false
set_option autoImplicit false
set_option maxHeartbeats 4000000
namespace Lw
open PyM
inductive Rq where
  | mk (p : Pa) (d : Bool)
  | pt (p : Pa) (o : Nat) (ws : List Nat)
  | gt (p : Pa) (o n : Nat)
  | sh (p : Pa) (n : Nat)
  | sz (p : Pa)
  | dp (p : Pa)
  | ls (p : Pa)
def Rq.p : Rq → Pa
  | .mk p _ => p
  | .pt p _ _ => p
  | .gt p _ _ => p
  | .sh p _ => p
  | .sz p => p
  | .dp p => p
  | .ls p => p
def kD (d : Bool) : Nat := if d = true then 9 else 10
def Rq.enc : Rq → Val
  | .mk p d => .tup [.str 2, eP p, .str (kD d)]
  | .pt p o ws => .tup [.str 3, eP p, eN o, .tup (wl ws)]
  | .gt p o n => .tup [.str 4, eP p, eN o, eN n]
  | .sh p n => .tup [.str 6, eP p, eN n]
  | .sz p => .tup [.str 5, eP p]
  | .dp p => .tup [.str 7, eP p]
  | .ls p => .tup [.str 8, eP p]
def PaOk (p : Pa) : Prop := p.length ≤ 3 ∧ ∀ n ∈ p, 1 ≤ n ∧ n ≤ 4
def Rq.Ok : Rq → Prop
  | .mk p _ => PaOk p
  | .pt p o ws => PaOk p ∧ o ≤ 48 ∧ 1 ≤ ws.length ∧ ws.length ≤ 48 ∧ ∀ w ∈ ws, w < 2 ^ 32
  | .gt p o n => PaOk p ∧ o ≤ 48 ∧ n ≤ 48
  | .sh p n => PaOk p ∧ n ≤ 48
  | .sz p => PaOk p
  | .dp p => PaOk p
  | .ls p => PaOk p
theorem Rq.Ok.path {r : Rq} (k : r.Ok) : PaOk r.p := by
  cases r <;> first | exact k | exact k.1
def par (p : Pa) : Pa := p.dropLast
def las (p : Pa) : Nat := p.getLast?.getD 0
theorem par_snoc {p : Pa} {n : Nat} : par (p ++ [n]) = p := by simp [par]
theorem las_snoc {p : Pa} {n : Nat} : las (p ++ [n]) = n := by simp [las]
def no (k : Nat) : Val := .tup [.str 11, .str k]
def ok (v : Val) : Val := .tup [.str 13, v]
def wide (ws : List Nat) (o : Nat) (xs : List Nat) : List Nat :=
  let w := ws ++ List.replicate (o + xs.length - ws.length) 0
  w.take o ++ xs ++ w.drop (o + xs.length)
def dirB (s : S) (p : Pa) : Bool := decide (p ≠ [] ∧ par p ∈ s.L) && s.D (par p)
def sortN (l : List Nat) : List Int := sortI (l.map fun n : Nat => (n : Int))
def ansV (s : S) : Rq → Val
  | .mk p _ => if dirB s p = true then if p ∈ s.L then no 14 else ok .non else no 12
  | .dp p => if dirB s p = true then if p ∈ s.L then if s.C p = [] then ok .non else no 15 else no 12 else no 12
  | .ls p => if p ∈ s.L then if s.D p = true then ok (.tup ((sortN (s.C p)).map .int)) else no 10 else no 12
  | .sz p => if p ∈ s.L then if s.D p = true then no 9 else ok (eN (s.W p).length) else no 12
  | .gt p o n => if p ∈ s.L then if s.D p = true then no 9 else ok (.tup (wl (((s.W p).take (o + n)).drop o))) else no 12
  | .sh p _ => if p ∈ s.L then if s.D p = true then no 9 else ok .non else no 12
  | .pt p o ws => if p ∈ s.L then if s.D p = true then no 9 else if o + ws.length ≤ 48 then ok .non else no 16 else no 12
def addS (s : S) (p : Pa) (d : Bool) : S := { L := s.L ++ [p], D := fu s.D p d, W := fu s.W p [], C := fu (fu s.C (par p) (s.C (par p) ++ [las p])) p [] }
def delS (s : S) (p : Pa) : S := { s with L := s.L.filter fun q => decide (q ≠ p), C := fu s.C (par p) ((s.C (par p)).filter fun n => decide (n ≠ las p)) }
def setW (s : S) (p : Pa) (ws : List Nat) : S := { s with W := fu s.W p ws }
def nxt (s : S) : Rq → S
  | .mk p d => if dirB s p = true then if p ∈ s.L then s else addS s p d else s
  | .dp p => if dirB s p = true then if p ∈ s.L then if s.C p = [] then delS s p else s else s else s
  | .sh p n => if p ∈ s.L then if s.D p = true then s else setW s p ((s.W p).take n) else s
  | .pt p o ws => if p ∈ s.L then if s.D p = true then s else if o + ws.length ≤ 48 then setW s p (wide (s.W p) o ws) else s else s
  | _ => s
theorem wide_len (ws : List Nat) (o : Nat) (xs : List Nat) : (wide ws o xs).length = max ws.length (o + xs.length) := by
  unfold wide
  simp
  omega
theorem Inv.setW {s : S} (i : Inv s) {p : Pa} {ws : List Nat} (h : ws.length ≤ 48) : Inv (setW s p ws) := ⟨i.nd, i.top, i.up, i.dn, i.cn, i.fl, i.rg, fun q => by
  show (fu s.W p ws q).length ≤ 48
  unfold fu
  split
  · exact h
  · exact i.w48 q⟩
theorem dirB_snoc {s : S} {p : Pa} (h : dirB s p = true) : ∃ q n, p = q ++ [n] ∧ q ∈ s.L ∧ s.D q = true := by
  unfold dirB at h
  rw [Bool.and_eq_true, decide_eq_true_eq] at h
  obtain ⟨⟨h1, h2⟩, h3⟩ := h
  rcases snoc_cases p with rfl | ⟨q, n, rfl⟩
  · exact absurd rfl h1
  · rw [par_snoc] at h2 h3
    exact ⟨q, n, rfl, h2, h3⟩
theorem snoc_ne {q : Pa} {n : Nat} : q ++ [n] ≠ q := fun e => by
  have := congrArg List.length e
  simp at this
theorem snoc_inj {p q : Pa} {n m : Nat} (e : p ++ [n] = q ++ [m]) : p = q ∧ n = m := by
  have := List.append_inj' e rfl
  exact ⟨this.1, by simpa using this.2⟩
theorem Inv.add {s : S} (i : Inv s) {q : Pa} {n : Nat} {d : Bool} (hq : q ∈ s.L) (hd : s.D q = true) (hn : q ++ [n] ∉ s.L) (hk : PaOk (q ++ [n])) : Inv (addS s (q ++ [n]) d) := by
  have qn : q ≠ q ++ [n] := fun e => hn (e ▸ hq)
  have nc : n ∉ s.C q := fun m => hn (i.dn _ _ hq m)
  have eD : ∀ p, p ≠ q ++ [n] → (addS s (q ++ [n]) d).D p = s.D p := fun p h => fu_ne h
  have eC : ∀ p, p ≠ q ++ [n] → p ≠ q → (addS s (q ++ [n]) d).C p = s.C p := fun p h1 h2 => by
    show fu (fu s.C (par (q ++ [n])) _) (q ++ [n]) [] p = _
    rw [fu_ne h1, par_snoc, fu_ne h2]
  have eCq : (addS s (q ++ [n]) d).C q = s.C q ++ [n] := by
    show fu (fu s.C (par (q ++ [n])) _) (q ++ [n]) [] q = _
    rw [fu_ne qn, par_snoc, fu_at, las_snoc]
  have eCn : (addS s (q ++ [n]) d).C (q ++ [n]) = [] := fu_at
  have mL : ∀ p, p ∈ (addS s (q ++ [n]) d).L ↔ p ∈ s.L ∨ p = q ++ [n] := fun p => by
    show p ∈ s.L ++ [q ++ [n]] ↔ _
    simp
  refine ⟨?_, ⟨(mL _).mpr (.inl i.top.1), ?_⟩, ?_, ?_, ?_, ?_, ?_, ?_⟩
  · show (s.L ++ [q ++ [n]]).Nodup
    rw [List.nodup_append]
    exact ⟨i.nd, by simp, fun x hx y hy e => hn (by rw [List.mem_singleton] at hy; rw [← hy, ← e]; exact hx)⟩
  · rw [eD _ (by simp)]
    exact i.top.2
  · intro p m h
    rcases (mL _).mp h with h | h
    · obtain ⟨h1, h2, h3⟩ := i.up _ _ h
      have np : p ≠ q ++ [n] := fun e => hn (e ▸ h1)
      refine ⟨(mL _).mpr (.inl h1), by rw [eD _ np]; exact h2, ?_⟩
      by_cases e : p = q
      · subst e
        rw [eCq]
        exact List.mem_append_left _ h3
      · rw [eC _ np e]
        exact h3
    · obtain ⟨rfl, rfl⟩ := snoc_inj h
      exact ⟨(mL _).mpr (.inl hq), by rw [eD _ qn]; exact hd, by rw [eCq]; simp⟩
  · intro p m hp hm
    rcases (mL _).mp hp with h | rfl
    · have np : p ≠ q ++ [n] := fun e => hn (e ▸ h)
      by_cases e : p = q
      · subst e
        rw [eCq] at hm
        rcases List.mem_append.mp hm with hm | hm
        · exact (mL _).mpr (.inl (i.dn _ _ h hm))
        · rw [List.mem_singleton.mp hm]
          exact (mL _).mpr (.inr rfl)
      · rw [eC _ np e] at hm
        exact (mL _).mpr (.inl (i.dn _ _ h hm))
    · rw [eCn] at hm
      cases hm
  · intro p
    by_cases h1 : p = q ++ [n]
    · subst h1
      rw [eCn]
      exact List.nodup_nil
    · by_cases e : p = q
      · subst e
        rw [eCq, List.nodup_append]
        exact ⟨i.cn _, by simp, fun x hx y hy e => nc (by rw [List.mem_singleton] at hy; rw [← hy, ← e]; exact hx)⟩
      · rw [eC _ h1 e]
        exact i.cn p
  · intro p hp h
    by_cases h1 : p = q ++ [n]
    · subst h1
      exact eCn
    · rcases (mL _).mp hp with hp | hp
      · rw [eD _ h1] at h
        have e : p ≠ q := fun e => by
          subst e
          rw [hd] at h
          cases h
        rw [eC _ h1 e]
        exact i.fl _ hp h
      · exact absurd hp h1
  · intro p hp
    rcases (mL _).mp hp with hp | rfl
    · exact i.rg p hp
    · exact hk
  · intro p
    show (fu s.W (q ++ [n]) [] p).length ≤ 48
    unfold fu
    split
    · simp
    · exact i.w48 p
theorem Inv.del {s : S} (i : Inv s) {q : Pa} {n : Nat} (hm : q ++ [n] ∈ s.L) (hc : s.C (q ++ [n]) = []) : Inv (delS s (q ++ [n])) := by
  obtain ⟨hq, hd, hn⟩ := i.up _ _ hm
  have mL : ∀ p, p ∈ (delS s (q ++ [n])).L ↔ p ∈ s.L ∧ p ≠ q ++ [n] := fun p => by
    show p ∈ s.L.filter _ ↔ _
    simp [List.mem_filter]
  have eC : ∀ p, p ≠ q → (delS s (q ++ [n])).C p = s.C p := fun p h => by
    show fu s.C (par (q ++ [n])) _ p = _
    rw [par_snoc, fu_ne h]
  have eCq : ∀ m, m ∈ (delS s (q ++ [n])).C q ↔ m ∈ s.C q ∧ m ≠ n := fun m => by
    show m ∈ fu s.C (par (q ++ [n])) _ q ↔ _
    rw [par_snoc, fu_at, las_snoc]
    simp [List.mem_filter]
  refine ⟨i.nd.filter _, ⟨(mL _).mpr ⟨i.top.1, by simp⟩, i.top.2⟩, ?_, ?_, ?_, ?_, ?_, i.w48⟩
  · intro p m h
    obtain ⟨h, hne⟩ := (mL _).mp h
    obtain ⟨h1, h2, h3⟩ := i.up _ _ h
    refine ⟨(mL _).mpr ⟨h1, fun e => ?_⟩, h2, ?_⟩
    · subst e
      rw [hc] at h3
      cases h3
    · by_cases e : p = q
      · subst e
        exact (eCq _).mpr ⟨h3, fun e => hne (by rw [e])⟩
      · rw [eC _ e]
        exact h3
  · intro p m hp hm'
    obtain ⟨hp', hne⟩ := (mL _).mp hp
    by_cases e : p = q
    · subst e
      obtain ⟨h1, h2⟩ := (eCq _).mp hm'
      exact (mL _).mpr ⟨i.dn _ _ hp' h1, fun e => h2 (snoc_inj e).2⟩
    · rw [eC _ e] at hm'
      exact (mL _).mpr ⟨i.dn _ _ hp' hm', fun z => e (snoc_inj z).1⟩
  · intro p
    by_cases e : p = q
    · subst e
      show (fu s.C (par (p ++ [n])) _ p).Nodup
      rw [par_snoc, fu_at]
      exact (i.cn _).filter _
    · rw [eC _ e]
      exact i.cn p
  · intro p hp h
    obtain ⟨hp', _⟩ := (mL _).mp hp
    have h' : s.D p = false := h
    have e : p ≠ q := fun e => by
      rw [e, hd] at h'
      cases h'
    rw [eC _ e]
    exact i.fl _ hp' h'
  · intro p hp
    exact i.rg p ((mL _).mp hp).1
theorem Inv.nxt {s : S} (i : Inv s) {r : Rq} (k : r.Ok) : Inv (nxt s r) := by
  cases r with
  | mk p d =>
    show Inv (if _ then if _ then s else _ else s)
    split
    · rename_i h
      split
      · exact i
      · rename_i hn
        obtain ⟨q, n, rfl, h1, h2⟩ := dirB_snoc h
        exact i.add h1 h2 hn k
    · exact i
  | dp p =>
    show Inv (if _ then if _ then if _ then _ else s else s else s)
    split
    · rename_i h
      split
      · rename_i hm
        split
        · rename_i hc
          obtain ⟨q, n, rfl, h1, h2⟩ := dirB_snoc h
          exact i.del hm hc
        · exact i
      · exact i
    · exact i
  | sh p n =>
    show Inv (if _ then if _ then s else _ else s)
    split
    · split
      · exact i
      · exact i.setW (by have := i.w48 p; rw [List.length_take]; omega)
    · exact i
  | pt p o ws =>
    show Inv (if _ then if _ then s else if _ then _ else s else s)
    split
    · split
      · exact i
      · split
        · rename_i h
          exact i.setW (by have := i.w48 p; rw [wide_len]; omega)
        · exact i
    · exact i
  | gt p o n => exact i
  | sz p => exact i
  | ls p => exact i
theorem nxt_len (s : S) (r : Rq) : (nxt s r).L.length ≤ s.L.length + 1 := by
  cases r with
  | mk p d =>
    show (if _ then if _ then s else addS s p d else s).L.length ≤ _
    split
    · split
      · omega
      · simp [addS]
    · omega
  | dp p =>
    show (if _ then if _ then if _ then delS s p else s else s else s).L.length ≤ _
    split
    · split
      · split
        · have := List.length_filter_le (fun q => decide (q ≠ p)) s.L
          show (s.L.filter _).length ≤ _
          omega
        · omega
      · omega
    · omega
  | sh p n =>
    show (if _ then if _ then s else setW s p _ else s).L.length ≤ _
    split
    · split
      · omega
      · exact Nat.le_succ _
    · omega
  | pt p o ws =>
    show (if _ then if _ then s else if _ then setW s p _ else s else s).L.length ≤ _
    split
    · split
      · omega
      · split
        · exact Nat.le_succ _
        · omega
    · omega
  | gt p o n => exact Nat.le_succ _
  | sz p => exact Nat.le_succ _
  | ls p => exact Nat.le_succ _
end Lw

set_option Elab.async false
set_option linter.all false
set_option autoImplicit false
set_option maxHeartbeats 4000000
namespace Lw
open PyM
section
variable {h h' : Heap} {pp aa : Nat} {ns : List Int} {l R : Nodes}
theorem nx_eq : m__law_next = m_next2 := rfl
theorem On_subl {l l' : Nodes} {h : Heap} (o : On l h) (s : l'.Sublist l) : On l' h := ⟨(s.map _).nodup o.nd, fun q hq => o.at_ q (s.subset hq)⟩
theorem Tn_new (T : Tn pp aa ns l h) (x : Obj) : Tn pp aa ns ((h.length, x) :: l) (h ++ [x]) := by
  obtain ⟨i, r, t, i0, o⟩ := T.k
  exact ⟨i, r, t, i0, ((o.new x).perm (List.Perm.swap _ _ _)).perm ((List.Perm.swap _ _ _).cons _)⟩
theorem Tn_sub {l' : Nodes} (T : Tn pp aa ns l h) (s : l'.Sublist l) : Tn pp aa ns l' h := by
  obtain ⟨i, r, t, i0, o⟩ := T.k
  exact ⟨i, r, t, i0, On_subl o ((s.cons₂ _).cons₂ _)⟩
theorem Tn_set (T : Tn pp aa ns l h) {j b : Nat} {x : Obj} (e : l[j]? = some (b, x)) (y : Obj) : Tn pp aa ns (l.set j (b, y)) (h.set b y) := by
  obtain ⟨i, r, t, i0, o⟩ := T.k
  exact ⟨i, r, t, i0, o.set (i := j + 2) (by simpa using e) y⟩
theorem Tn_lt (T : Tn pp aa ns l h) {z : Nat × Obj} (hz : z ∈ l) : z.1 < h.length := at_lt (T.on.at_ _ hz)
/-- a place that is younger than all of them -/
theorem Tn_newAt (T : Tn pp aa ns l h) {m x : Nat} {o : Obj} (hl : ∀ z ∈ l, z.1 < m) (hp : pp < m ∧ aa < m) (hx : m ≤ x) (ex : h[x]? = some o) : Tn pp aa ns ((x, o) :: l) h := by
  obtain ⟨i, r, t, i0, q⟩ := T.k
  refine ⟨i, r, t, i0, ?_, ?_⟩
  · have nd := q.nd
    simp only [List.map_cons, List.nodup_cons, List.mem_cons, List.mem_map, not_or] at nd ⊢
    refine ⟨⟨nd.1.1, by omega, nd.1.2⟩, ⟨by omega, nd.2.1⟩, fun z => ?_, nd.2.2⟩
    obtain ⟨y, hy, e⟩ := z
    have := hl y hy
    omega
  · intro z hz
    rcases List.mem_cons.mp hz with rfl | hz
    · exact q.at_ _ List.mem_cons_self
    · rcases List.mem_cons.mp hz with rfl | hz
      · exact q.at_ _ (List.mem_cons_of_mem _ List.mem_cons_self)
      · rcases List.mem_cons.mp hz with rfl | hz
        · exact ex
        · exact q.at_ _ (List.mem_cons_of_mem _ (List.mem_cons_of_mem _ hz))
theorem nat_ok (T : Tn pp aa ns l h) {n : Nat} (h0 : 0 < n) (hl : n ≤ 1000) : ∃ (v : Nat) (h' : Heap), v < n ∧ m__law_next [.ref pp, .int (n : Nat)] h = .ok (.int (v : Nat)) h' ∧ Tn pp aa ns l h' := by
  obtain ⟨v, h', v0, v1, e, T'⟩ := T.next2 nx_eq (n := (n : Nat)) (by omega) (by omega)
  obtain ⟨k, rfl⟩ := Int.eq_ofNat_of_zero_le v0
  exact ⟨k, h', by omega, e, T'⟩
end
theorem map_set_nd {α β : Type} {N : List α} (nd : N.Nodup) {i : Nat} {x : α} (hx : N[i]? = some x) {f f' : α → β} (hf : ∀ y ∈ N, y ≠ x → f' y = f y) : (N.map f).set i (f' x) = N.map f' := by
  apply List.ext_getElem?
  intro j
  rw [List.getElem?_set, List.getElem?_map, List.getElem?_map]
  have hi : i < N.length := (List.getElem?_eq_some_iff.mp hx).1
  by_cases e : i = j
  · subst e
    rw [if_pos rfl, if_pos (by simpa using hi), hx]
    rfl
  · simp only [e, if_false]
    cases q : N[j]? with
    | none => rfl
    | some y =>
      have : y ≠ x := fun z => by
        subst z
        obtain ⟨l1, e1⟩ := List.getElem?_eq_some_iff.mp hx
        obtain ⟨l2, e2⟩ := List.getElem?_eq_some_iff.mp q
        exact e ((List.getElem_inj nd).mp (e1.trans e2.symm))
      show some (f y) = some (f' y)
      rw [hf y (List.mem_of_getElem? q) this]
section
variable {α : Type} {h : Heap} {pp aa : Nat} {ns : List Int} {R : Nodes} {z : Nat × Obj} {N : List α} {f f' : α → Nat × Obj} {x : α}
theorem Tn_setA (T : Tn pp aa ns (z :: (N.map f ++ R)) h) (nd : N.Nodup) (hx : x ∈ N) (hf : ∀ y ∈ N, y ≠ x → f' y = f y) (h1 : (f' x).1 = (f x).1) : Tn pp aa ns (z :: (N.map f' ++ R)) (h.set (f x).1 (f' x).2) := by
  obtain ⟨i, hi⟩ := List.mem_iff_getElem?.mp hx
  have lt : i < N.length := (List.getElem?_eq_some_iff.mp hi).1
  have e : (z :: (N.map f ++ R))[i + 1]? = some ((f x).1, (f x).2) := by
    rw [List.getElem?_cons_succ, List.getElem?_append_left (by simpa using lt), List.getElem?_map, hi]
    rfl
  have T1 := Tn_set T e (f' x).2
  rw [List.set_cons_succ, List.set_append_left _ _ (by simpa using lt)] at T1
  have e2 : ((f x).1, (f' x).2) = f' x := by rw [← h1]
  rw [e2, map_set_nd nd hi hf] at T1
  exact T1
theorem Tn_setB (T : Tn pp aa ns (z :: (R ++ N.map f)) h) (nd : N.Nodup) (hx : x ∈ N) (hf : ∀ y ∈ N, y ≠ x → f' y = f y) (h1 : (f' x).1 = (f x).1) : Tn pp aa ns (z :: (R ++ N.map f')) (h.set (f x).1 (f' x).2) := by
  obtain ⟨i, hi⟩ := List.mem_iff_getElem?.mp hx
  have e : (z :: (R ++ N.map f))[R.length + i + 1]? = some ((f x).1, (f x).2) := by
    rw [List.getElem?_cons_succ, List.getElem?_append_right (by omega), Nat.add_sub_cancel_left, List.getElem?_map, hi]
    rfl
  have T1 := Tn_set T e (f' x).2
  rw [List.set_cons_succ, List.set_append_right _ _ (by omega), Nat.add_sub_cancel_left] at T1
  have e2 : ((f x).1, (f' x).2) = f' x := by rw [← h1]
  rw [e2, map_set_nd nd hi hf] at T1
  exact T1
end
/-! the state in the heap -/
def pv (s : S) (lw : Pa → Nat) (p : Pa) : Val := if s.D p = true then .str 9 else .ref (lw p)
def fA (a : Ad) (s : S) (p : Pa) : Nat × Obj := (a.A p, oA a s p)
def fB (a : Ad) (s : S) (p : Pa) : Nat × Obj := (a.B p, oN a s p)
def tn (a : Ad) (s : S) : Nodes := s.L.map (fA a s) ++ (s.L.filter s.D).map (fB a s)
def lawO (s : S) (lw : Pa → Nat) : Obj := .dcT (dG eP (pv s lw) s.L)
def Fl (g : Pa → Nat) (s : S) (h : Heap) : Prop := ∀ q ∈ s.L, s.D q = false → h[g q]? = some (.lst (wl (s.W q)))
structure St (pp aa : Nat) (ns : List Int) (a : Ad) (lw : Pa → Nat) (d : Nat) (s sl : S) (h : Heap) : Prop where
  t : Tn pp aa ns ((d, lawO sl lw) :: tn a s) h
  f1 : Fl a.B s h
  f2 : Fl lw sl h
theorem Fl.ext {g : Pa → Nat} {s : S} {h h' : Heap} (f : Fl g s h) (x : Ext h h') : Fl g s h' := fun q hq d => x.at (f q hq d)
theorem Fl.set {g : Pa → Nat} {s : S} {h : Heap} (f : Fl g s h) {b : Nat} {o : Obj} (hb : ∀ l, h[b]? ≠ some (.lst l)) : Fl g s (h.set b o) := fun q hq d => by
  have := f q hq d
  rw [at_set_ne (fun e => hb _ (by rw [e]; exact this))]
  exact this
section
variable {pp aa : Nat} {ns : List Int} {a : Ad} {lw : Pa → Nat} {d : Nat} {s sl : S} {h h' : Heap}
theorem St.ext (k : St pp aa ns a lw d s sl h) (x : Ext h h') : St pp aa ns a lw d s sl h' := ⟨k.t.ext x, k.f1.ext x, k.f2.ext x⟩
theorem St.tree (k : St pp aa ns a lw d s sl h) : Tree a s h := fun p hp => by
  have h1 : h[a.A p]? = some (oA a s p) := k.t.on.at_ (a.A p, oA a s p) (List.mem_cons_of_mem _ (List.mem_append_left _ (List.mem_map.mpr ⟨p, hp, rfl⟩)))
  refine ⟨h1, ?_⟩
  cases e : s.D p with
  | true =>
    rw [if_pos rfl]
    exact k.t.on.at_ (a.B p, oN a s p) (List.mem_cons_of_mem _ (List.mem_append_right _ (List.mem_map.mpr ⟨p, List.mem_filter.mpr ⟨hp, e⟩, rfl⟩)))
  | false =>
    rw [if_neg (by decide)]
    exact k.f1 p hp e
theorem St.law (k : St pp aa ns a lw d s sl h) : h[d]? = some (lawO sl lw) := k.t.on.get (i := 0) rfl
theorem St.lt (k : St pp aa ns a lw d s sl h) : ∀ z ∈ ((d, lawO sl lw) :: tn a s), z.1 < h.length := fun z hz => Tn_lt k.t hz
/-! directory_of -/
theorem atI_last {xs : List Val} {x : Val} : L2.atI (xs ++ [x]) (-1) = some x := by
  have e : L2.ixN (xs ++ [x]).length (-1) = some xs.length := by
    unfold L2.ixN
    simp
    try omega
  unfold L2.atI
  rw [e]
  simp
theorem cut_last {xs : List Val} {x : Val} : cut (xs ++ [x]) none (some (-1)) = xs := by
  have e : HT.sIx (xs ++ [x]).length (xs ++ [x]).length (some (-1)) = xs.length := by
    unfold HT.sIx
    simp
    try omega
  unfold cut
  rw [e]
  simp [HT.sIx]
end
end Lw

set_option Elab.async false
set_option linter.all false
set_option autoImplicit false
set_option maxHeartbeats 4000000
namespace Lw
open PyM
section
variable {pp aa : Nat} {ns : List Int} {a : Ad} {lw : Pa → Nat} {d : Nat} {s sl : S} {h h' : Heap}
theorem eP_snoc {q : Pa} {n : Nat} : eP (q ++ [n]) = .tup (q.map eN ++ [eN n]) := by simp [eP]
theorem do_ok (i : Inv s) (t : Tree a s h) (p : Pa) : m_directory_of [.ref (a.A []), eP p] h = .ok (if dirB s p = true then .ref (a.A (par p)) else .non) h := by
  refine eq_of_wR ?_
  unfold m_directory_of
  refine wRB rfl ?_
  rcases snoc_cases p with rfl | ⟨q, n, rfl⟩
  · simp [eP, dirB]
  · have e0 : ((q.map eN).length : Int) + 1 ≠ 0 := by omega
    have ep := pa_ok i t q
    have ep' : m_part_at [.ref (a.A []), .tup (q.map eN)] h = _ := ep
    rw [eP_snoc]
    simp -implicitDefEqProofs [cut_last, gV]
    rw [if_neg (by omega)]
    simp -implicitDefEqProofs [cut_last, gV, ep']
    unfold dirB
    rw [par_snoc]
    by_cases hq : q ∈ s.L
    · rw [if_pos hq]
      cases hd : s.D q with
      | true =>
        obtain ⟨h1, _⟩ := (t q hq).d hd
        have e1 := oIn_str (neg := false) (i := 1) h1
        have l1 : lookV [(Val.str 0, Val.ref (a.B q))] (.str 1) = none := rfl
        rw [l1] at e1
        simp [e1, hq]
      | false =>
        obtain ⟨h1, _⟩ := (t q hq).f hd
        have e1 := oIn_str (neg := false) (i := 1) h1
        have l1 : lookV [(Val.str 1, Val.ref (a.B q))] (.str 1) = some (.ref (a.B q)) := rfl
        rw [l1] at e1
        simp [e1]
    · rw [if_neg hq]
      simp [hq]
theorem dispW {st : En} : mDisp (((mK (.str 1)), (mLst (mNil))) :: []) st h = .ok (.ref h.length) (h ++ [.dct [(.str 1, .ref (h.length + 1))], .lst []]) := by
  refine eq_of_wR ?_
  have l0 : 0 ≤ lim := Nat.zero_le _
  have e : (h ++ [Obj.dct [], Obj.lst []])[h.length]? = some (.dct []) := at_app 0 rfl rfl
  simp [l0, e, isKey, mergeV, putV]
theorem dispT {st : En} : mDisp (((mK (.str 0)), (mDct)) :: []) st h = .ok (.ref h.length) (h ++ [.dct [(.str 0, .ref (h.length + 1))], .dct []]) := by
  refine eq_of_wR ?_
  have e : (h ++ [Obj.dct [], Obj.dct []])[h.length]? = some (.dct []) := at_app 0 rfl rfl
  simp [e, isKey, mergeV, putV]
theorem newtree_ok : m_new_tree [] h = .ok (.ref h.length) (h ++ [.dct [(.str 0, .ref (h.length + 1))], .dct []]) := by
  refine eq_of_wR ?_
  unfold m_new_tree
  refine wRB rfl ?_
  obtain ⟨M, hM⟩ : ∃ X, X = mDisp (((mK (.str 0)), (mDct)) :: []) := ⟨_, rfl⟩
  rw [← hM]
  have := dispT (h := h) (st := ([] : List Val).map some ++ List.replicate 0 none)
  rw [← hM] at this
  simp -implicitDefEqProofs
  rw [show ([] : En) = (([] : List Val).map some ++ List.replicate 0 none) from rfl, this]
  exact ⟨rfl, rfl⟩
/-- a part more -/
theorem St.add (i : Inv s) (k : St pp aa ns a lw d s sl h) {q : Pa} {n x : Nat} {dr : Bool} (hq : q ∈ s.L) (hd : s.D q = true) (hn : q ++ [n] ∉ s.L) {H : Heap}
    (T : Tn pp aa ns ((d, lawO sl lw) :: (s.L.map (fA a s) ++ (s.L.filter s.D).map fun p => (a.B p, if p = q then .dct (dG eN (fu (fun n => .ref (a.A (q ++ [n]))) n (.ref x)) (s.C q ++ [n])) else oN a s p))) H)
    (e1 : H[x]? = some (.dct [(.str (if dr = true then 0 else 1), .ref (x + 1))])) (e2 : H[x + 1]? = some (if dr = true then .dct [] else .lst [])) (hx : h.length ≤ x) (f1 : Fl a.B s H) (f2 : Fl lw sl H) :
    St pp aa ns ⟨fu a.A (q ++ [n]) x, fu a.B (q ++ [n]) (x + 1)⟩ lw d (addS s (q ++ [n]) dr) sl H := by
  have nL : ∀ p ∈ s.L, p ≠ q ++ [n] := fun p hp e => hn (e ▸ hp)
  have qn : q ≠ q ++ [n] := nL q hq
  have hl : ∀ z ∈ ((d, lawO sl lw) :: (s.L.map (fA a s) ++ (s.L.filter s.D).map fun p => (a.B p, if p = q then Obj.dct (dG eN (fu (fun n => Val.ref (a.A (q ++ [n]))) n (.ref x)) (s.C q ++ [n])) else oN a s p))), z.1 < h.length := by
    intro z hz
    have kl := k.lt
    rcases List.mem_cons.mp hz with rfl | hz
    · exact kl _ List.mem_cons_self
    · rcases List.mem_append.mp hz with hz | hz
      · exact kl _ (List.mem_cons_of_mem _ (List.mem_append_left _ hz))
      · obtain ⟨p, hp, rfl⟩ := List.mem_map.mp hz
        exact kl (a.B p, oN a s p) (List.mem_cons_of_mem _ (List.mem_append_right _ (List.mem_map.mpr ⟨p, hp, rfl⟩)))
  have hp := k.t.tp.lt
  have T1 := Tn_newAt T hl hp hx e1
  obtain ⟨a', ea⟩ : ∃ a' : Ad, a' = ⟨fu a.A (q ++ [n]) x, fu a.B (q ++ [n]) (x + 1)⟩ := ⟨_, rfl⟩
  obtain ⟨s', es⟩ : ∃ s', s' = addS s (q ++ [n]) dr := ⟨_, rfl⟩
  have aA : ∀ p, p ≠ q ++ [n] → a'.A p = a.A p := fun p h => by rw [ea]; exact fu_ne h
  have aB : ∀ p, p ≠ q ++ [n] → a'.B p = a.B p := fun p h => by rw [ea]; exact fu_ne h
  have aAn : a'.A (q ++ [n]) = x := by rw [ea]; exact fu_at
  have aBn : a'.B (q ++ [n]) = x + 1 := by rw [ea]; exact fu_at
  have sD : ∀ p, p ≠ q ++ [n] → s'.D p = s.D p := fun p h => by rw [es]; exact fu_ne h
  have sDn : s'.D (q ++ [n]) = dr := by rw [es]; exact fu_at
  have sC : ∀ p, p ≠ q ++ [n] → p ≠ q → s'.C p = s.C p := fun p h1 h2 => by
    rw [es]
    show fu (fu s.C (par (q ++ [n])) _) (q ++ [n]) [] p = _
    rw [fu_ne h1, par_snoc, fu_ne h2]
  have sCq : s'.C q = s.C q ++ [n] := by
    rw [es]
    show fu (fu s.C (par (q ++ [n])) _) (q ++ [n]) [] q = _
    rw [fu_ne qn, par_snoc, fu_at, las_snoc]
  have sCn : s'.C (q ++ [n]) = [] := by rw [es]; exact fu_at
  have sL : s'.L = s.L ++ [q ++ [n]] := by rw [es]; rfl
  have sW : ∀ p, p ≠ q ++ [n] → s'.W p = s.W p := fun p h => by rw [es]; exact fu_ne h
  have sWn : s'.W (q ++ [n]) = [] := by rw [es]; exact fu_at
  have eA : s'.L.map (fA a' s') = s.L.map (fA a s) ++ [(x, .dct [(.str (if dr = true then 0 else 1), .ref (x + 1))])] := by
    rw [sL, List.map_append]
    congr 1
    · refine List.map_congr_left fun p hp => ?_
      unfold fA oA
      rw [aA p (nL p hp), aB p (nL p hp), sD p (nL p hp)]
    · show [fA a' s' (q ++ [n])] = _
      unfold fA oA
      rw [aAn, aBn, sDn]
      cases dr <;> rfl
  have eBl : (s.L.filter s'.D).map (fB a' s') = (s.L.filter s.D).map fun p => (a.B p, if p = q then .dct (dG eN (fu (fun n => .ref (a.A (q ++ [n]))) n (.ref x)) (s.C q ++ [n])) else oN a s p) := by
    rw [List.filter_congr (q := s.D) fun p hp => by rw [sD p (nL p hp)]]
    refine List.map_congr_left fun p hp => ?_
    have hp := (List.mem_filter.mp hp).1
    unfold fB oN
    rw [aB p (nL p hp)]
    by_cases e : p = q
    · subst e
      rw [if_pos rfl, sCq]
      congr 2
      refine dG_congr fun m hm => ?_
      by_cases e : m = n
      · subst e
        rw [aAn, fu_at]
      · rw [fu_ne e, aA _ (fun z => e (snoc_inj z).2)]
    · rw [if_neg e, sC p (nL p hp) e]
      congr 2
      refine dG_congr fun m hm => ?_
      rw [aA _ (fun z => e (snoc_inj z).1)]
  rw [← ea, ← es]
  refine ⟨?_, fun p hp hd => ?_, f2⟩
  · cases dr with
    | false =>
      have eB : (s'.L.filter s'.D).map (fB a' s') = (s.L.filter s'.D).map (fB a' s') := by
        rw [sL, List.filter_append]
        have : [q ++ [n]].filter s'.D = [] := by
          rw [List.filter_cons_of_neg (by rw [sDn]; decide)]
          rfl
        rw [this, List.append_nil]
      unfold tn
      rw [eA, eB, eBl]
      refine T1.perm ?_
      refine List.Perm.trans (List.Perm.swap _ _ _) (List.Perm.cons _ ?_)
      rw [List.append_assoc]
      exact List.perm_middle.symm
    | true =>
      have T2 := Tn_newAt T1 (m := x + 1) (fun z hz => by
        rcases List.mem_cons.mp hz with rfl | hz
        · exact Nat.lt_succ_self _
        · have := hl z hz
          omega) (by omega) (Nat.le_refl _) e2
      have eB : (s'.L.filter s'.D).map (fB a' s') = (s.L.filter s'.D).map (fB a' s') ++ [(x + 1, .dct [])] := by
        rw [sL, List.filter_append, List.map_append]
        have : [q ++ [n]].filter s'.D = [q ++ [n]] := by
          rw [List.filter_cons_of_pos (by rw [sDn])]
          rfl
        rw [this]
        show _ ++ [fB a' s' (q ++ [n])] = _
        unfold fB oN
        rw [aBn, sCn]
        rfl
      unfold tn
      rw [eA, eB, eBl]
      refine T2.perm ?_
      rw [if_pos rfl]
      classical
      rw [List.perm_iff_count]
      intro z
      simp only [List.count_cons, List.count_append, List.count_nil]
      omega
  · by_cases e : p = q ++ [n]
    · subst e
      rw [sDn] at hd
      subst hd
      rw [aBn, sWn]
      exact e2
    · have hp' : p ∈ s.L := by
        rw [sL] at hp
        simpa [e] using hp
      rw [aB p e, sW p e]
      exact f1 p hp' (by rw [← sD p e]; exact hd)
end
end Lw

set_option Elab.async false
set_option linter.all false
set_option autoImplicit false
set_option maxHeartbeats 4000000
namespace Lw
open PyM
section
variable {pp aa : Nat} {ns : List Int} {a : Ad} {lw : Pa → Nat} {d : Nat} {s sl : S} {h h' : Heap}
theorem nd_len {α : Type} [DecidableEq α] : ∀ {l m : List α}, l.Nodup → (∀ x ∈ l, x ∈ m) → l.length ≤ m.length
  | [], _, _, _ => Nat.zero_le _
  | x :: l, m, nd, h => by
    rw [List.nodup_cons] at nd
    have hx := h x List.mem_cons_self
    have ih := nd_len (m := m.erase x) nd.2 fun y hy => (List.mem_erase_of_ne (fun e => nd.1 (by rw [← e]; exact hy))).mpr (h y (List.mem_cons_of_mem _ hy))
    rw [List.length_erase_of_mem hx] at ih
    have := List.length_pos_of_mem hx
    simp only [List.length_cons]
    omega
theorem Inv.c64 (i : Inv s) {p : Pa} (hp : p ∈ s.L) : (s.C p).length ≤ 4 := by
  refine nd_len (m := [1, 2, 3, 4]) (i.cn p) fun n hn => ?_
  have := (i.rg _ (i.dn _ _ hp hn)).2 n (by simp)
  simp
  omega
def ssA : En → Heap → RS := (sSub (mV 0) (mV 1) (mDisp (((mK (.str 1)), (mLst (mNil))) :: [])))
def ssB : En → Heap → RS := (sSub (mV 0) (mV 1) (mCall m_new_tree [] (mNil)))
theorem ssA_ok {b : Nat} {n : Nat} {x2 : Option Val} {f : Nat → Val} {C : List Nat} (e : h[b]? = some (.dct (dG eN f C))) (hn : n ∉ C) (hl : C.length < 1000) :
    ssA [some (.ref b), some (eN n), x2] h = .nx [some (.ref b), some (eN n), x2] ((h ++ [Obj.dct [(.str 1, .ref (h.length + 1))], Obj.lst []]).set b (.dct (dG eN (fu f n (.ref h.length)) (C ++ [n])))) := by
  refine eq_nx ?_
  unfold ssA
  have ed := dispW (h := h) (st := [some (.ref b), some (.int (n : Nat)), x2])
  obtain ⟨M, hM⟩ : ∃ X, X = mDisp (((mK (.str 1)), (mLst (mNil))) :: []) := ⟨_, rfl⟩
  rw [← hM] at ed ⊢
  have e1 : (h ++ [Obj.dct [(.str 1, .ref (h.length + 1))], .lst []])[b]? = some (.dct (dG eN f C)) := at_push e
  have pn := putG_new (x := .ref h.length) (f := f) eN_inj hn
  have pn' : putV (dG eN f C) (.int (n : Nat)) (.ref h.length) = _ := pn
  have ll : (dG eN f C).length < lim := by
    rw [dG_len]
    have : 1000 < lim := by decide
    omega
  simp -implicitDefEqProofs [ed, eN, e1, ll]
  rw [pn']
theorem ssB_ok {b : Nat} {n : Nat} {x2 : Option Val} {f : Nat → Val} {C : List Nat} (e : h[b]? = some (.dct (dG eN f C))) (hn : n ∈ C) (hl : C.length < 1000) :
    ssB [some (.ref b), some (eN n), x2] h = .nx [some (.ref b), some (eN n), x2] ((h ++ [Obj.dct [(.str 0, .ref (h.length + 1))], Obj.dct []]).set b (.dct (dG eN (fu f n (.ref h.length)) C))) := by
  refine eq_nx ?_
  unfold ssB
  have ed := newtree_ok (h := h)
  have e1 : (h ++ [Obj.dct [(.str 0, .ref (h.length + 1))], .dct []])[b]? = some (.dct (dG eN f C)) := at_push e
  have pn := putG_in (x := .ref h.length) (f := f) eN_inj hn
  have pn' : putV (dG eN f C) (.int (n : Nat)) (.ref h.length) = _ := pn
  have ll : (dG eN f C).length < lim := by
    rw [dG_len]
    have : 1000 < lim := by decide
    omega
  simp -implicitDefEqProofs [ed, eN, e1, ll]
  rw [pn']
theorem ad_cut : m_ask_directory = runB 3 3
    (sSeq (sIf (tB_ (mB (oEq false) (mB oIx (mV 2) (mK (.int 0))) (mK (.str 2)))) (sSeq (sIf (tB_ (mB (oIn false) (mV 1) (mV 0))) (sRet (mTup (mCons (mK (.str 11)) (mCons (mK (.str 14)) (mNil))))) (sNx))
    (sSeq ssA
    (sSeq (sIf (tB_ (mB (oEq false) (mB oIx (mV 2) (mK (.int 2))) (mK (.str 9)))) ssB (sNx))
    (sRet (mTup (mCons (mK (.str 13)) (mCons (mK .non) (mNil)))))))) (sNx))
    (sSeq (sIf (tB_ (mB (oIn true) (mV 1) (mV 0))) (sRet (mTup (mCons (mK (.str 11)) (mCons (mK (.str 12)) (mNil))))) (sNx))
    (sSeq (sIf (tAn (tB_ (mB (oIn false) (mK (.str 0)) (mB oIx (mV 0) (mV 1)))) (tB_ (mB oGt (mL bLen (mCons (mB oIx (mB oIx (mV 0) (mV 1)) (mK (.str 0))) (mNil))) (mK (.int 0))))) (sRet (mTup (mCons (mK (.str 11)) (mCons (mK (.str 15)) (mNil))))) (sNx))
    (sSeq (sDrop (mAlt (mBM bPopAt (mV 0) (mCons (mV 1) (mNil))) (mPop1 (mV 0) (mV 1))))
    (sRet (mTup (mCons (mK (.str 13)) (mCons (mK .non) (mNil))))))))) := rfl
theorem oIn_names {neg : Bool} {b n : Nat} {f : Nat → Val} {C : List Nat} (e : h[b]? = some (.dct (dG eN f C))) : oIn neg (eN n) (.ref b) h = .ok (.bl (if neg then !decide (n ∈ C) else decide (n ∈ C))) h := by
  rw [oIn_dct e rfl, lookG eN_inj]
  by_cases q : n ∈ C <;> simp [q]
/-- make -/
theorem adm_ok (i : Inv s) (k : St pp aa ns a lw d s sl h) {q : Pa} {n : Nat} {dr : Bool} (hq : q ∈ s.L) (hd : s.D q = true) :
    ∃ a' h', m_ask_directory [.ref (a.B q), eN n, (Rq.mk (q ++ [n]) dr).enc] h = .ok (if q ++ [n] ∈ s.L then no 14 else ok .non) h' ∧ St pp aa ns a' lw d (if q ++ [n] ∈ s.L then s else addS s (q ++ [n]) dr) sl h' ∧ a'.A [] = a.A [] := by
  obtain ⟨h1, h2⟩ := (k.tree q hq).d hd
  unfold oN at h2
  have c4 := i.c64 hq
  have l2 : 2 ≤ lim := by decide
  by_cases hm : q ++ [n] ∈ s.L
  · have hc := (i.up _ _ hm).2.2
    have e1 := oIn_names (neg := false) (n := n) h2
    rw [if_pos hm, if_pos hm]
    refine ⟨a, h, eq_of_wR ?_, k, rfl⟩
    rw [ad_cut]
    refine wRB rfl ?_
    obtain ⟨SA, hA⟩ : ∃ X, X = ssA := ⟨_, rfl⟩
    obtain ⟨SB, hB⟩ : ∃ X, X = ssB := ⟨_, rfl⟩
    rw [← hA, ← hB]
    simp -implicitDefEqProofs [Rq.enc, e1, hc, l2, no]
  · have hc : n ∉ s.C q := fun z => hm (i.dn _ _ hq z)
    have e1 := oIn_names (neg := false) (n := n) h2
    rw [if_neg hm, if_neg hm]
    obtain ⟨v, hv⟩ : ∃ v, v = (Rq.mk (q ++ [n]) dr).enc := ⟨_, rfl⟩
    have a1 := ssA_ok (x2 := some v) h2 hc (by omega)
    obtain ⟨H1, E1⟩ : ∃ H : Heap, H = h ++ [.dct [(.str 1, .ref (h.length + 1))], .lst []] := ⟨_, rfl⟩
    obtain ⟨f1, hf1⟩ : ∃ f, f = fu (fun n => Val.ref (a.A (q ++ [n]))) n (.ref h.length) := ⟨_, rfl⟩
    obtain ⟨H2, E2⟩ : ∃ H : Heap, H = H1.set (a.B q) (.dct (dG eN f1 (s.C q ++ [n]))) := ⟨_, rfl⟩
    rw [← E1, ← hf1, ← E2] at a1
    have x1 : Ext h H1 := ⟨_, E1⟩
    have k1 := k.ext x1
    have fnd : (s.L.filter s.D).Nodup := i.nd.filter _
    have qf : q ∈ s.L.filter s.D := List.mem_filter.mpr ⟨hq, hd⟩
    have nb : ∀ l, H1[a.B q]? ≠ some (.lst l) := fun l e => by
      rw [x1.at h2] at e
      cases e
    have T2 := Tn_setB (f' := fun p => (a.B p, if p = q then .dct (dG eN f1 (s.C q ++ [n])) else oN a s p)) k1.t fnd qf (fun y _ hy => by
      show (a.B y, _) = fB a s y
      rw [if_neg hy]
      rfl) rfl
    have T2 : Tn pp aa ns ((d, lawO sl lw) :: (s.L.map (fA a s) ++ (s.L.filter s.D).map fun p => (a.B p, if p = q then .dct (dG eN f1 (s.C q ++ [n])) else oN a s p))) H2 := by
      rw [E2]
      have e : ((fun p => (a.B p, if p = q then Obj.dct (dG eN f1 (s.C q ++ [n])) else oN a s p)) q).2 = .dct (dG eN f1 (s.C q ++ [n])) := if_pos rfl
      rw [e] at T2
      exact T2
    have nB : a.B q < h.length := at_lt h2
    have g1 : H2[h.length]? = some (.dct [(.str 1, .ref (h.length + 1))]) := by
      rw [E2, at_set_ne (by omega), E1]
      exact at_app 0 rfl rfl
    have g2 : H2[h.length + 1]? = some (.lst []) := by
      rw [E2, at_set_ne (by omega), E1]
      exact at_app 1 rfl rfl
    have F1 : Fl a.B s H2 := by rw [E2]; exact k1.f1.set nb
    have F2 : Fl lw sl H2 := by rw [E2]; exact k1.f2.set nb
    cases dr with
    | false =>
      have K := St.add (dr := false) i k hq hd hm (by rw [← hf1]; exact T2) g1 g2 (Nat.le_refl _) F1 F2
      refine ⟨_, H2, eq_of_wR ?_, K, fu_ne (by simp)⟩
      rw [ad_cut, ← hv]
      refine wRB rfl ?_
      obtain ⟨SA, hA⟩ : ∃ X, X = ssA := ⟨_, rfl⟩
      obtain ⟨SB, hB⟩ : ∃ X, X = ssB := ⟨_, rfl⟩
      rw [← hA] at a1 ⊢
      rw [← hB]
      have a1' := a1
      rw [hv] at a1' ⊢
      simp -implicitDefEqProofs [Rq.enc, e1, hc, l2, ok, kD] at a1' ⊢
      rw [a1']
      simp -implicitDefEqProofs [l2]
    | true =>
      have g3 : H2[a.B q]? = some (.dct (dG eN f1 (s.C q ++ [n]))) := by
        rw [E2]
        exact at_set (x1.at h2)
      have a2 := ssB_ok (n := n) (x2 := some v) g3 (by simp) (by simp; omega)
      obtain ⟨H3, E3⟩ : ∃ H : Heap, H = H2 ++ [.dct [(.str 0, .ref (H2.length + 1))], .dct []] := ⟨_, rfl⟩
      have ef : fu f1 n (Val.ref H2.length) = fu (fun n => Val.ref (a.A (q ++ [n]))) n (.ref H2.length) := by
        rw [hf1]
        funext y
        unfold fu
        split <;> rfl
      obtain ⟨f2, hf2⟩ : ∃ f, f = fu (fun n => Val.ref (a.A (q ++ [n]))) n (.ref H2.length) := ⟨_, rfl⟩
      rw [ef, ← hf2, ← E3] at a2
      obtain ⟨H4, E4⟩ : ∃ H : Heap, H = H3.set (a.B q) (.dct (dG eN f2 (s.C q ++ [n]))) := ⟨_, rfl⟩
      rw [← E4] at a2
      have x3 : Ext H2 H3 := ⟨_, E3⟩
      have T4 := Tn_setB (f' := fun p => (a.B p, if p = q then .dct (dG eN f2 (s.C q ++ [n])) else oN a s p)) (T2.ext x3) fnd qf (fun y _ hy => by
        show (a.B y, if y = q then _ else _) = (a.B y, if y = q then _ else _)
        rw [if_neg hy, if_neg hy]) rfl
      have T4 : Tn pp aa ns ((d, lawO sl lw) :: (s.L.map (fA a s) ++ (s.L.filter s.D).map fun p => (a.B p, if p = q then .dct (dG eN f2 (s.C q ++ [n])) else oN a s p))) H4 := by
        rw [E4]
        have e : ((fun p => (a.B p, if p = q then Obj.dct (dG eN f2 (s.C q ++ [n])) else oN a s p)) q).2 = .dct (dG eN f2 (s.C q ++ [n])) := if_pos rfl
        rw [e] at T4
        exact T4
      have nb3 : ∀ l, H3[a.B q]? ≠ some (.lst l) := fun l e => by
        rw [x3.at g3] at e
        cases e
      have lH : h.length + 2 = H2.length := by rw [E2, List.length_set, E1]; simp
      have g4 : H4[H2.length]? = some (.dct [(.str 0, .ref (H2.length + 1))]) := by
        rw [E4, at_set_ne (by omega), E3]
        exact at_app 0 rfl rfl
      have g5 : H4[H2.length + 1]? = some (.dct []) := by
        rw [E4, at_set_ne (by omega), E3]
        exact at_app 1 rfl rfl
      have K := St.add (dr := true) i k hq hd hm (by rw [← hf2]; exact T4) g4 g5 (by omega) (by rw [E4]; exact (F1.ext x3).set nb3) (by rw [E4]; exact (F2.ext x3).set nb3)
      refine ⟨_, H4, eq_of_wR ?_, K, fu_ne (by simp)⟩
      rw [ad_cut, ← hv]
      refine wRB rfl ?_
      obtain ⟨SA, hA⟩ : ∃ X, X = ssA := ⟨_, rfl⟩
      obtain ⟨SB, hB⟩ : ∃ X, X = ssB := ⟨_, rfl⟩
      rw [← hA] at a1 ⊢
      rw [← hB] at a2 ⊢
      have a1' := a1
      have a2' := a2
      rw [hv] at a1' a2' ⊢
      simp -implicitDefEqProofs [Rq.enc, e1, hc, l2, ok, kD] at a1' a2' ⊢
      rw [a1']
      simp -implicitDefEqProofs [l2]
      rw [a2']
      simp -implicitDefEqProofs [l2]
end
end Lw

set_option Elab.async false
set_option linter.all false
set_option autoImplicit false
set_option maxHeartbeats 4000000
namespace Lw
open PyM
section
variable {pp aa : Nat} {ns : List Int} {a : Ad} {lw : Pa → Nat} {d : Nat} {s sl : S} {h h' : Heap}
/-- a part less -/
theorem St.del (i : Inv s) (k : St pp aa ns a lw d s sl h) {q : Pa} {n : Nat} (hq : q ∈ s.L) (hd : s.D q = true) (hm : q ++ [n] ∈ s.L) :
    St pp aa ns a lw d (delS s (q ++ [n])) sl (h.set (a.B q) (.dct (dG eN (fun n => .ref (a.A (q ++ [n]))) ((s.C q).filter fun m => decide (m ≠ n))))) := by
  obtain ⟨h1, h2⟩ := (k.tree q hq).d hd
  unfold oN at h2
  have fnd : (s.L.filter s.D).Nodup := i.nd.filter _
  have qf : q ∈ s.L.filter s.D := List.mem_filter.mpr ⟨hq, hd⟩
  have nb : ∀ l, h[a.B q]? ≠ some (.lst l) := fun l e => by rw [h2] at e; cases e
  obtain ⟨s', es⟩ : ∃ s', s' = delS s (q ++ [n]) := ⟨_, rfl⟩
  have sC : ∀ p, p ≠ q → s'.C p = s.C p := fun p h => by
    rw [es]
    show fu s.C (par (q ++ [n])) _ p = _
    rw [par_snoc, fu_ne h]
  have sCq : s'.C q = (s.C q).filter fun m => decide (m ≠ n) := by
    rw [es]
    show fu s.C (par (q ++ [n])) _ q = _
    rw [par_snoc, fu_at, las_snoc]
  have T1 := Tn_setB (f' := fB a s') k.t fnd qf (fun y _ hy => by
    unfold fB oN
    rw [sC y hy]) rfl
  have e2 : (fB a s' q).2 = .dct (dG eN (fun n => .ref (a.A (q ++ [n]))) ((s.C q).filter fun m => decide (m ≠ n))) := by
    unfold fB oN
    rw [sCq]
  rw [e2] at T1
  have mL : ∀ p ∈ s'.L, p ∈ s.L := fun p hp => by
    rw [es] at hp
    exact (List.mem_filter.mp hp).1
  rw [← es]
  refine ⟨Tn_sub T1 (List.Sublist.cons₂ _ ?_), fun p hp hd => ?_, k.f2.set nb⟩
  · have e3 : s'.L.map (fA a s') = s'.L.map (fA a s) := by
      refine List.map_congr_left fun p _ => ?_
      rw [es]
      rfl
    unfold tn
    rw [e3]
    refine List.Sublist.append (List.Sublist.map _ ?_) (List.Sublist.map _ ?_)
    · rw [es]
      exact List.filter_sublist
    · have : s'.D = s.D := by rw [es]; rfl
      rw [this]
      refine List.Sublist.filter _ ?_
      rw [es]
      exact List.filter_sublist
  · have hd' : s.D p = false := by rw [es] at hd; exact hd
    have hW : s'.W p = s.W p := by rw [es]; rfl
    rw [hW]
    exact (k.f1.set nb) p (mL p hp) hd'
theorem popN {m mx : En → Heap → Res Val} {st : En} {b n : Nat} {f : Nat → Val} {C : List Nat} (em : m st h = .ok (.ref b) h) (ex : mx st h = .ok (eN n) h) (e : h[b]? = some (.dct (dG eN f C))) (hn : n ∈ C) : mAlt (mBM bPopAt m (mCons mx (mNil))) (mPop1 m mx) st h = .ok (f n) (h.set b (.dct (dG eN f (C.filter fun y => decide (y ≠ n))))) := by
  have h1 : mBM bPopAt m (mCons mx (mNil)) st h = .stuck := by
    unfold mBM
    rw [em]
    simp [Res.bind, seqOf, e]
  have h2 : mPop1 m mx st h = .ok (f n) (h.set b (.dct (dG eN f (C.filter fun y => decide (y ≠ n))))) := by
    refine eq_of_wR ?_
    have := dPop1_at (y := eN n) e rfl (lookG_in (f := f) eN_inj hn)
    rw [dropG eN_inj] at this
    simp [em, ex, isD_dct e, this]
  unfold mAlt
  rw [h1, h2]
/-- drop -/
theorem add_ok (i : Inv s) (k : St pp aa ns a lw d s sl h) {q : Pa} {n : Nat} (hq : q ∈ s.L) (hd : s.D q = true) :
    ∃ h', m_ask_directory [.ref (a.B q), eN n, (Rq.dp (q ++ [n])).enc] h = .ok (if q ++ [n] ∈ s.L then if s.C (q ++ [n]) = [] then ok .non else no 15 else no 12) h' ∧ St pp aa ns a lw d (if q ++ [n] ∈ s.L then if s.C (q ++ [n]) = [] then delS s (q ++ [n]) else s else s) sl h' := by
  obtain ⟨h1, h2⟩ := (k.tree q hq).d hd
  unfold oN at h2
  have l2 : 2 ≤ lim := by decide
  have e1 := oIn_names (neg := true) (n := n) h2
  by_cases hm : q ++ [n] ∈ s.L
  · have hc := (i.up _ _ hm).2.2
    have lk := lookG_in (f := fun n => Val.ref (a.A (q ++ [n]))) eN_inj hc
    have lk' : lookV (dG eN (fun n => Val.ref (a.A (q ++ [n]))) (s.C q)) (.int (n : Nat)) = some (.ref (a.A (q ++ [n]))) := lk
    have e1' : oIn true (.int (n : Nat)) (.ref (a.B q)) h = _ := e1
    rw [if_pos hm, if_pos hm]
    have pop := popN (h := h) (m := mV 0) (mx := mV 1) (st := [some (.ref (a.B q)), some (eN n), some (Rq.dp (q ++ [n])).enc]) rfl rfl h2 hc
    obtain ⟨PA, hP⟩ : ∃ X, X = (mAlt (mBM bPopAt (mV 0) (mCons (mV 1) (mNil))) (mPop1 (mV 0) (mV 1))) := ⟨_, rfl⟩
    rw [← hP] at pop
    obtain ⟨SA, hA⟩ : ∃ X, X = ssA := ⟨_, rfl⟩
    obtain ⟨SB, hB⟩ : ∃ X, X = ssB := ⟨_, rfl⟩
    have go : ∀ b : Bool, tAn (tB_ (mB (oIn false) (mK (.str 0)) (mB oIx (mV 0) (mV 1)))) (tB_ (mB oGt (mL bLen (mCons (mB oIx (mB oIx (mV 0) (mV 1)) (mK (.str 0))) (mNil))) (mK (.int 0)))) [some (.ref (a.B q)), some (eN n), some (Rq.dp (q ++ [n])).enc] h = .ok b h →
        m_ask_directory [.ref (a.B q), eN n, (Rq.dp (q ++ [n])).enc] h = .ok (if b = true then no 15 else ok .non) (if b = true then h else h.set (a.B q) (.dct (dG eN (fun n => .ref (a.A (q ++ [n]))) ((s.C q).filter fun m => decide (m ≠ n))))) := fun b et => by
      refine eq_of_wR ?_
      rw [ad_cut]
      refine wRB rfl ?_
      rw [← hA, ← hB, ← hP]
      obtain ⟨TT, hT⟩ : ∃ X, X = tAn (tB_ (mB (oIn false) (mK (.str 0)) (mB oIx (mV 0) (mV 1)))) (tB_ (mB oGt (mL bLen (mCons (mB oIx (mB oIx (mV 0) (mV 1)) (mK (.str 0))) (mNil))) (mK (.int 0)))) := ⟨_, rfl⟩
      rw [← hT] at et ⊢
      have et' := et
      have pop' := pop
      simp only [Rq.enc, eN] at et' pop'
      cases b <;> simp -implicitDefEqProofs [Rq.enc, eN, e1', hc, l2, ok, no, et', pop']
    by_cases hC : s.C (q ++ [n]) = []
    · rw [if_pos hC, if_pos hC]
      refine ⟨_, go false ?_, St.del i k hq hd hm⟩
      refine eq_of_wR ?_
      cases dp : s.D (q ++ [n]) with
      | true =>
        obtain ⟨g1, g2⟩ := (k.tree _ hm).d dp
        unfold oN at g2
        rw [hC] at g2
        have e3 := oIn_str (neg := false) (i := 0) g1
        have l3 : lookV [(Val.str 0, Val.ref (a.B (q ++ [n])))] (.str 0) = some (.ref (a.B (q ++ [n]))) := rfl
        rw [l3] at e3
        have g2 : h[a.B (q ++ [n])]? = some (.dct []) := g2
        simp [eN, h2, lk', e3, g1, l3, g2]
      | false =>
        obtain ⟨g1, g2⟩ := (k.tree _ hm).f dp
        have e3 := oIn_str (neg := false) (i := 0) g1
        have l3 : lookV [(Val.str 1, Val.ref (a.B (q ++ [n])))] (.str 0) = none := rfl
        rw [l3] at e3
        simp [eN, h2, lk', e3]
    · rw [if_neg hC, if_neg hC]
      refine ⟨_, go true ?_, k⟩
      refine eq_of_wR ?_
      have dp : s.D (q ++ [n]) = true := by
        cases z : s.D (q ++ [n]) with
        | true => rfl
        | false => exact absurd (i.fl _ hm z) hC
      obtain ⟨g1, g2⟩ := (k.tree _ hm).d dp
      unfold oN at g2
      have e3 := oIn_str (neg := false) (i := 0) g1
      have l3 : lookV [(Val.str 0, Val.ref (a.B (q ++ [n])))] (.str 0) = some (.ref (a.B (q ++ [n]))) := rfl
      rw [l3] at e3
      have pos : 0 < (s.C (q ++ [n])).length := List.length_pos_iff.mpr hC
      simp [eN, h2, lk', e3, g1, l3, g2, dG_len, pos]
  · have hc : n ∉ s.C q := fun z => hm (i.dn _ _ hq z)
    have e1' : oIn true (.int (n : Nat)) (.ref (a.B q)) h = _ := e1
    rw [if_neg hm, if_neg hm]
    refine ⟨h, eq_of_wR ?_, k⟩
    rw [ad_cut]
    refine wRB rfl ?_
    obtain ⟨SA, hA⟩ : ∃ X, X = ssA := ⟨_, rfl⟩
    obtain ⟨SB, hB⟩ : ∃ X, X = ssB := ⟨_, rfl⟩
    rw [← hA, ← hB]
    simp -implicitDefEqProofs [Rq.enc, eN, e1', hc, l2, no]
/-- other words of a file -/
theorem St.word (i : Inv s) (k : St pp aa ns a lw d s sl h) {p : Pa} (hp : p ∈ s.L) (hd : s.D p = false) {x : Nat} {ws : List Nat} (ex : h[x]? = some (.lst (wl ws))) :
    St pp aa ns { a with B := fu a.B p x } lw d (setW s p ws) sl (h.set (a.A p) (.dct [(.str 1, .ref x)])) := by
  obtain ⟨h1, h2⟩ := (k.tree p hp).f hd
  have nb : ∀ l, h[a.A p]? ≠ some (.lst l) := fun l e => by rw [h1] at e; cases e
  obtain ⟨a', ea⟩ : ∃ a' : Ad, a' = { a with B := fu a.B p x } := ⟨_, rfl⟩
  have aB : ∀ q, q ≠ p → a'.B q = a.B q := fun q hq => by rw [ea]; exact fu_ne hq
  have aBp : a'.B p = x := by rw [ea]; exact fu_at
  have aA : a'.A = a.A := by rw [ea]
  have dn : ¬ s.D p = true := by rw [hd]; decide
  have T1 := Tn_setA (f' := fA a' (setW s p ws)) k.t i.nd hp (fun y _ hy => by
    unfold fA oA
    rw [aB y hy, aA]
    rfl) (by unfold fA; rw [aA])
  have e2 : (fA a' (setW s p ws) p).2 = .dct [(.str 1, .ref x)] := by
    unfold fA oA
    rw [aBp]
    exact if_neg dn
  rw [e2] at T1
  rw [← ea]
  refine ⟨?_, fun q hq hd' => ?_, k.f2.set nb⟩
  · have e3 : ((setW s p ws).L.filter (setW s p ws).D).map (fB a' (setW s p ws)) = (s.L.filter s.D).map (fB a s) := by
      refine List.map_congr_left fun q hq => ?_
      have hq := (List.mem_filter.mp hq).2
      have ne : q ≠ p := fun e => by
        subst e
        exact dn hq
      unfold fB oN
      rw [aB q ne, aA]
      rfl
    unfold tn
    rw [e3]
    exact T1
  · by_cases e : q = p
    · subst e
      rw [aBp]
      show _ = some (Obj.lst (wl (fu s.W q ws q)))
      rw [fu_at, at_set_ne (fun e => nb _ (by rw [e]; exact ex))]
      exact ex
    · rw [aB q e]
      show _ = some (Obj.lst (wl (fu s.W p ws q)))
      rw [fu_ne e]
      exact (k.f1.set nb) q hq hd'
end
end Lw

set_option Elab.async false
set_option linter.all false
set_option autoImplicit false
set_option maxHeartbeats 4000000
namespace Lw
open PyM
def onFile : Rq → Bool
  | .sz _ => true
  | .gt _ _ _ => true
  | .sh _ _ => true
  | .pt _ _ _ => true
  | _ => false
section
variable {pp aa : Nat} {ns : List Int} {a : Ad} {lw : Pa → Nat} {d : Nat} {s sl : S} {h h' : Heap}
theorem cut_wl_both {ws : List Nat} {o n : Nat} : cut (wl ws) (some (o : Int)) (some ((o : Int) + (n : Int))) = wl ((ws.take (o + n)).drop o) := by
  have : ((o : Int) + (n : Int)) = ((o + n : Nat) : Int) := by omega
  rw [this, cut_both]
  unfold wl
  rw [List.map_drop, List.map_take]
theorem cut_wl_to {ws : List Nat} {n : Nat} : cut (wl ws) none (some (n : Int)) = wl (ws.take n) := by
  rw [cut_to]
  unfold wl
  rw [List.map_take]
theorem cut_wl_from {ws : List Nat} {n : Nat} : cut (wl ws) (some (n : Int)) none = wl (ws.drop n) := by
  rw [cut_from]
  unfold wl
  rw [List.map_drop]
theorem wl_len {ws : List Nat} : (wl ws).length = ws.length := by simp [wl]
theorem repV_wl (n : Nat) : repV n [Val.int 0] = wl (List.replicate n 0) := by
  unfold repV wl
  induction n with
  | zero => rfl
  | succ n ih => simp_all [List.replicate_succ, eN]
theorem wl_app {xs ys : List Nat} : wl (xs ++ ys) = wl xs ++ wl ys := List.map_append
theorem max0 (a b : Nat) : (if (a : Int) - (b : Int) > 0 then (a : Int) - (b : Int) else 0) = ((a - b : Nat) : Int) := by
  split <;> omega
theorem put1 {x y : Nat} : putV [(Val.str 1, Val.ref x)] (.str 1) (.ref y) = [(.str 1, .ref y)] := rfl
def afX : En → Heap → Res Val := (mB oAdd (mV 3) (mB oMul (mLst (mCons (mK (.int 0)) (mNil))) (mL bMax2 (mCons (mK (.int 0)) (mCons (mB (oI fun i j => .int (i - j)) (mV 6) (mL bLen (mCons (mV 3) (mNil)))) (mNil))))))
def afY : En → Heap → Res Val := (mB oAdd (mB oAdd (mSl (mV 7) (pNo) (pSo (mV 4))) (mL bList (mCons (mV 5) (mNil)))) (mSl (mV 7) (pSo (mV 6)) (pNo)))
def afP : En → Heap → RS := (sSeq (sAsg (gV 7) afX) (sSeq (sSub (mV 0) (mK (.str 1)) afY) (sRet (mTup (mCons (mK (.str 13)) (mCons (mK .non) (mNil)))))))
theorem af_cut : m_ask_file = runB 2 8
    (sSeq (sAsg (gV 2) (mB oIx (mV 1) (mK (.int 0))))
    (sSeq (sAsg (gV 3) (mB oIx (mV 0) (mK (.str 1))))
    (sSeq (sIf (tB_ (mB (oEq false) (mV 2) (mK (.str 5)))) (sRet (mTup (mCons (mK (.str 13)) (mCons (mL bLen (mCons (mV 3) (mNil))) (mNil))))) (sNx))
    (sSeq (sIf (tB_ (mB (oEq false) (mV 2) (mK (.str 4)))) (sRet (mTup (mCons (mK (.str 13)) (mCons (mL bTuple (mCons (mSl (mV 3) (pSo (mB oIx (mV 1) (mK (.int 2)))) (pSo (mB oAdd (mB oIx (mV 1) (mK (.int 2))) (mB oIx (mV 1) (mK (.int 3)))))) (mNil))) (mNil))))) (sNx))
    (sSeq (sIf (tB_ (mB (oEq false) (mV 2) (mK (.str 6)))) (sSeq (sSub (mV 0) (mK (.str 1)) (mSl (mV 3) (pNo) (pSo (mB oIx (mV 1) (mK (.int 2))))))
    (sRet (mTup (mCons (mK (.str 13)) (mCons (mK .non) (mNil)))))) (sNx))
    (sSeq (sAsg (gT (gsCons (gV 4) (gsCons (gV 5) (gsNil)))) (mSl (mV 1) (pSo (mK (.int 2))) (pSo (mK (.int 4)))))
    (sSeq (sAsg (gV 6) (mB oAdd (mV 4) (mL bLen (mCons (mV 5) (mNil)))))
    (sSeq (sIf (tB_ (mB oGt (mV 6) (mK (.int 48)))) (sRet (mTup (mCons (mK (.str 11)) (mCons (mK (.str 16)) (mNil))))) (sNx))
    afP)))))))) := rfl
theorem afX_ok {b k e : Nat} {ws : List Nat} (h2 : h[b]? = some (.lst (wl ws))) (hk : k = e - ws.length) (hl : ws.length ≤ 48) (he : e ≤ 48) {x0 x1 x2 x4 x5 x7 : Option Val} :
    afX [x0, x1, x2, some (.ref b), x4, x5, some (.int (e : Nat)), x7] h = .ok (.ref (h.length + 2)) (h ++ [.lst [.int 0], .lst (wl (List.replicate k 0)), .lst (wl (ws ++ List.replicate k 0))]) := by
  have l1 : 1 ≤ lim := by decide
  have l200 : 200 ≤ lim := by decide
  have g1 : (h ++ [Obj.lst [.int 0]])[b]? = some (.lst (wl ws)) := at_push h2
  have g2 : (h ++ [Obj.lst [.int 0], Obj.lst (wl (List.replicate k 0))])[b]? = some (.lst (wl ws)) := at_push h2
  have q0 : (h ++ [Obj.lst [.int 0]])[h.length]? = some (.lst [.int 0]) := at_len
  have q1 : (h ++ [Obj.lst [.int 0], Obj.lst (wl (List.replicate k 0))])[h.length + 1]? = some (.lst (wl (List.replicate k 0))) := at_app 1 rfl rfl
  have e1 : (if (e : Int) - (ws.length : Int) > 0 then (e : Int) - (ws.length : Int) else 0) = (k : Int) := by
    split <;> omega
  have m1 : ws.length + k ≤ lim := by omega
  have m2 : k ≤ lim := by omega
  have c1 : (k : Int) ≤ 100000 := by omega
  have c2 : -100000 ≤ (k : Int) := by omega
  refine eq_of_wR ?_
  unfold afX
  simp -implicitDefEqProofs only [wR_mB, wR_mV1, wR_mV0, wR_mLst, wR_mCons, wR_mK, wR_mNil, wR_mL, wR_bMax2]
  have lb : bLen [.ref b] (h ++ [Obj.lst [.int 0]]) = .ok (.int ws.length) (h ++ [Obj.lst [.int 0]]) := eq_of_wR (by simp [g1, wl_len])
  refine ⟨by simpa using l1, ?_⟩
  simp -implicitDefEqProofs only [lb, wR_ok, wR_oI, wR_bMax2, e1, wR_oMulL, q0]
  refine ⟨⟨c1, c2, by simpa using m2⟩, ?_⟩
  rw [show ((k : Int).toNat) = k from Int.toNat_natCast k, repV_wl]
  simp -implicitDefEqProofs [g2, q1, wl_len, wl_app, m1]
theorem afY_ok {w o e : Nat} {W xs : List Nat} (h2 : h[w]? = some (.lst (wl W))) (hl : W.length ≤ 100) (hx : xs.length ≤ 48) {x0 x1 x2 x3 : Option Val} :
    afY [x0, x1, x2, x3, some (.int (o : Nat)), some (.tup (wl xs)), some (.int (e : Nat)), some (.ref w)] h = .ok (.ref (h.length + 4)) (h ++ [.lst (wl (W.take o)), .lst (wl xs), .lst (wl (W.take o ++ xs)), .lst (wl (W.drop e)), .lst (wl (W.take o ++ xs ++ W.drop e))]) := by
  have l400 : 400 ≤ lim := by decide
  have ct := cut_wl_to (ws := W) (n := o)
  have cf := cut_wl_from (ws := W) (n := e)
  have q0 : (h ++ [Obj.lst (wl (W.take o)), Obj.lst (wl xs)])[h.length]? = some (.lst (wl (W.take o))) := at_app 0 rfl rfl
  have q1 : (h ++ [Obj.lst (wl (W.take o)), Obj.lst (wl xs)])[h.length + 1]? = some (.lst (wl xs)) := at_app 1 rfl rfl
  have g1 : (h ++ [Obj.lst (wl (W.take o)), Obj.lst (wl xs), Obj.lst (wl (W.take o ++ xs))])[w]? = some (.lst (wl W)) := at_push h2
  have q2 : (h ++ [Obj.lst (wl (W.take o)), Obj.lst (wl xs), Obj.lst (wl (W.take o ++ xs)), Obj.lst (wl (W.drop e))])[h.length + 2]? = some (.lst (wl (W.take o ++ xs))) := at_app 2 rfl rfl
  have q3 : (h ++ [Obj.lst (wl (W.take o)), Obj.lst (wl xs), Obj.lst (wl (W.take o ++ xs)), Obj.lst (wl (W.drop e))])[h.length + 3]? = some (.lst (wl (W.drop e))) := at_app 3 rfl rfl
  have a1 : (wl (W.take o)).length + (wl xs).length ≤ lim := by
    rw [wl_len, wl_len, List.length_take]
    omega
  have a2 : (wl (W.take o ++ xs)).length + (wl (W.drop e)).length ≤ lim := by
    rw [wl_len, wl_len, List.length_append, List.length_take, List.length_drop]
    omega
  refine eq_of_wR ?_
  unfold afY
  simp -implicitDefEqProofs only [wR_mB, wR_mSl, wR_pNo, wR_pSo, wR_mV1, wR_mV0, wR_mCons, wR_mNil, wR_mL, wR_oSlL, h2, ct, wR_bListT]
  rw [List.append_assoc]
  simp -implicitDefEqProofs only [List.cons_append, List.nil_append, wR_oAddL, List.length_append, List.length_cons, List.length_nil]
  simp -implicitDefEqProofs only [q0, Nat.zero_add, q1]
  refine ⟨a1, ?_⟩
  rw [← wl_app]
  rw [List.append_assoc]
  simp -implicitDefEqProofs only [List.cons_append, List.nil_append, g1, cf]
  rw [List.append_assoc]
  simp -implicitDefEqProofs only [List.cons_append, List.nil_append, wR_oAddL, List.length_append, List.length_cons, List.length_nil]
  simp -implicitDefEqProofs only [Nat.zero_add, q2, q3, Nat.reduceAdd]
  refine ⟨a2, ?_⟩
  rw [← wl_app]
  rw [List.append_assoc]
  simp -implicitDefEqProofs only [List.cons_append, List.nil_append]
  exact ⟨trivial, trivial⟩
theorem afP_ok (i : Inv s) (k : St pp aa ns a lw d s sl h) {p : Pa} (hp : p ∈ s.L) (hd : s.D p = false) {o : Nat} {xs : List Nat} (ho : o + xs.length ≤ 48) {x1 x2 : Option Val} :
    ∃ x H, afP [some (.ref (a.A p)), x1, x2, some (.ref (a.B p)), some (.int (o : Nat)), some (.tup (wl xs)), some (.int (o + xs.length : Nat)), none] h = .rt (ok .non) H ∧ St pp aa ns { a with B := fu a.B p x } lw d (setW s p (wide (s.W p) o xs)) sl H := by
  obtain ⟨h1, h2⟩ := (k.tree p hp).f hd
  have w48 := i.w48 p
  have l2 : 2 ≤ lim := by decide
  have a1 := afX_ok (x0 := some (.ref (a.A p))) (x1 := x1) (x2 := x2) (x4 := some (.int (o : Nat))) (x5 := some (.tup (wl xs))) (x7 := none) (e := o + xs.length) h2 rfl w48 ho
  obtain ⟨W, hW⟩ : ∃ W, W = s.W p ++ List.replicate (o + xs.length - (s.W p).length) 0 := ⟨_, rfl⟩
  obtain ⟨H1, E1⟩ : ∃ H : Heap, H = h ++ [.lst [.int 0], .lst (wl (List.replicate (o + xs.length - (s.W p).length) 0)), .lst (wl (s.W p ++ List.replicate (o + xs.length - (s.W p).length) 0))] := ⟨_, rfl⟩
  have g1 : H1[h.length + 2]? = some (.lst (wl W)) := by
    rw [E1, hW]
    exact at_app 2 rfl rfl
  rw [← E1] at a1
  have lW : W.length ≤ 100 := by
    rw [hW, List.length_append, List.length_replicate]
    omega
  have a2 := afY_ok (x0 := some (.ref (a.A p))) (x1 := x1) (x2 := x2) (x3 := some (.ref (a.B p))) (o := o) (e := o + xs.length) (xs := xs) g1 lW (by omega)
  obtain ⟨H2, E2⟩ : ∃ H : Heap, H = H1 ++ [.lst (wl (W.take o)), .lst (wl xs), .lst (wl (W.take o ++ xs)), .lst (wl (W.drop (o + xs.length))), .lst (wl (W.take o ++ xs ++ W.drop (o + xs.length)))] := ⟨_, rfl⟩
  have g2 : H2[H1.length + 4]? = some (.lst (wl (wide (s.W p) o xs))) := by
    rw [E2]
    have : wide (s.W p) o xs = W.take o ++ xs ++ W.drop (o + xs.length) := by
      unfold wide
      rw [← hW]
    rw [this]
    exact at_app 4 rfl rfl
  rw [← E2] at a2
  have x12 : Ext h H2 := Ext.trans ⟨_, E1⟩ ⟨_, E2⟩
  have k2 := k.ext x12
  have K := k2.word i hp hd g2
  have g3 := x12.at h1
  refine ⟨H1.length + 4, _, eq_rt ?_, K⟩
  unfold afP
  obtain ⟨X1, hX⟩ : ∃ X, X = afX := ⟨_, rfl⟩
  obtain ⟨Y1, hY⟩ : ∃ X, X = afY := ⟨_, rfl⟩
  rw [← hX] at a1 ⊢
  rw [← hY] at a2 ⊢
  have l1 : 1 < lim := by decide
  simp -implicitDefEqProofs at a1 a2 ⊢
  rw [a1]
  simp -implicitDefEqProofs [gV]
  rw [a2]
  simp -implicitDefEqProofs [g3, put1, l1, l2, ok]
theorem gT45 {x y : Val} {x0 x1 x2 x3 : Val} : gT (gsCons (gV 4) (gsCons (gV 5) gsNil)) (.tup [x, y]) [some x0, some x1, some x2, some x3, none, none, none, none] = some [some x0, some x1, some x2, some x3, some x, some y, none, none] := rfl
theorem cut24 {x y z u : Val} : cut [x, y, z, u] (some 2) (some 4) = [z, u] := rfl
theorem af_ok (i : Inv s) (k : St pp aa ns a lw d s sl h) {r : Rq} (hr : r.Ok) (ho : onFile r = true) (hp : r.p ∈ s.L) (hd : s.D r.p = false) :
    ∃ a' h', m_ask_file [.ref (a.A r.p), r.enc] h = .ok (ansV s r) h' ∧ St pp aa ns a' lw d (nxt s r) sl h' ∧ a'.A [] = a.A [] := by
  obtain ⟨h1, h2⟩ := (k.tree _ hp).f hd
  have l2 : 2 ≤ lim := by decide
  have l60 : 60 ≤ lim := by decide
  have w48 := i.w48 r.p
  have dn : ¬ s.D r.p = true := by rw [hd]; decide
  have lk : lookV [(Val.str 1, Val.ref (a.B r.p))] (.str 1) = some (.ref (a.B r.p)) := rfl
  obtain ⟨AP, hA⟩ : ∃ X, X = afP := ⟨_, rfl⟩
  cases r with
  | sz p =>
    refine ⟨a, h, eq_of_wR ?_, k, rfl⟩
    rw [af_cut]
    refine wRB rfl ?_
    rw [← hA]
    simp only [Rq.p] at h1 h2 hp dn lk
    simp -implicitDefEqProofs [Rq.enc, Rq.p, gV, h1, lk, h2, l2, ansV, hp, dn, ok, eN, wl_len]
  | gt p o n =>
    simp only [Rq.p] at h1 h2 hp dn lk w48
    refine ⟨a, h ++ [.lst (wl (((s.W p).take (o + n)).drop o))], eq_of_wR ?_, k.ext ⟨_, rfl⟩, rfl⟩
    rw [af_cut]
    refine wRB rfl ?_
    rw [← hA]
    have lc : (((s.W p).take (o + n)).drop o).length ≤ lim := by
      rw [List.length_drop, List.length_take]
      omega
    simp -implicitDefEqProofs [Rq.enc, Rq.p, gV, h1, lk, h2, l2, ansV, hp, dn, ok, eN, cut_wl_both, wl_len]
    try omega
  | sh p n =>
    simp only [Rq.p] at h1 h2 hp dn lk w48 hd
    have x1 : Ext h (h ++ [Obj.lst (wl ((s.W p).take n))]) := ⟨_, rfl⟩
    have K := (k.ext x1).word i hp hd (x := h.length) (ws := (s.W p).take n) at_len
    have g1 := x1.at h1
    have l1 : 1 < lim := by decide
    have en : nxt s (.sh p n) = setW s p ((s.W p).take n) := by
      show (if p ∈ s.L then if s.D p = true then s else _ else s) = _
      rw [if_pos hp, if_neg dn]
    rw [en]
    refine ⟨_, _, eq_of_wR ?_, K, rfl⟩
    rw [af_cut]
    refine wRB rfl ?_
    rw [← hA]
    simp -implicitDefEqProofs [Rq.enc, Rq.p, gV, h1, lk, h2, l2, ansV, hp, dn, ok, eN, cut_wl_to, g1, put1, l1]
  | pt p o ws =>
    simp only [Rq.p] at h1 h2 hp dn lk w48 hd
    by_cases h48 : o + ws.length ≤ 48
    · obtain ⟨x, H, e, K⟩ := afP_ok i k hp hd (o := o) (xs := ws) h48 (x1 := some (Rq.pt p o ws).enc) (x2 := some (.str 3))
      have en : nxt s (.pt p o ws) = setW s p (wide (s.W p) o ws) := by
        show (if p ∈ s.L then if s.D p = true then s else if _ then _ else s else s) = _
        rw [if_pos hp, if_neg dn, if_pos h48]
      rw [en]
      refine ⟨_, H, eq_of_wR ?_, K, rfl⟩
      rw [af_cut]
      refine wRB rfl ?_
      rw [← hA] at e ⊢
      have e48 : ¬ (48 : Int) < (o : Int) + (ws.length : Int) := by omega
      have e' := e
      simp -implicitDefEqProofs [Rq.enc, eN] at e'
      simp -implicitDefEqProofs [Rq.enc, Rq.p, gV, h1, lk, h2, l2, ansV, hp, dn, ok, eN, cut24, gT45, wl_len, e48, h48, e']
    · have en : nxt s (.pt p o ws) = s := by
        show (if p ∈ s.L then if s.D p = true then s else if _ then _ else s else s) = _
        rw [if_pos hp, if_neg dn, if_neg h48]
      rw [en]
      refine ⟨a, h, eq_of_wR ?_, k, rfl⟩
      rw [af_cut]
      refine wRB rfl ?_
      rw [← hA]
      have e48 : (48 : Int) < (o : Int) + (ws.length : Int) := by omega
      simp -implicitDefEqProofs [Rq.enc, Rq.p, gV, h1, lk, h2, l2, ansV, hp, dn, no, eN, cut24, gT45, wl_len, e48, h48]
  | mk p dr => cases ho
  | dp p => cases ho
  | ls p => cases ho
end
end Lw

set_option Elab.async false
set_option linter.all false
set_option autoImplicit false
set_option maxHeartbeats 4000000
namespace Lw
open PyM
section
variable {pp aa : Nat} {ns : List Int} {a : Ad} {lw : Pa → Nat} {d : Nat} {s sl : S} {h h' : Heap}
def akD : En → Heap → RS := (sSeq (sAsg (gV 4) (mCall m_directory_of [] (mCons (mV 0) (mCons (mV 3) (mNil)))))
    (sSeq (sIf (tB_ (mU (oIsN false) (mV 4))) (sRet (mTup (mCons (mK (.str 11)) (mCons (mK (.str 12)) (mNil))))) (sNx))
    (sRet (mCall m_ask_directory [] (mCons (mB oIx (mV 4) (mK (.str 0))) (mCons (mB oIx (mV 3) (mU oNeg (mK (.int 1)))) (mCons (mV 1) (mNil))))))))
def akP : En → Heap → RS := (sSeq (sAsg (gV 5) (mCall m_part_at [] (mCons (mV 0) (mCons (mV 3) (mNil)))))
    (sSeq (sIf (tB_ (mU (oIsN false) (mV 5))) (sRet (mTup (mCons (mK (.str 11)) (mCons (mK (.str 12)) (mNil))))) (sNx))
    (sSeq (sIf (tB_ (mB (oEq false) (mV 2) (mK (.str 8)))) (sSeq (sIf (tB_ (mB (oIn false) (mK (.str 1)) (mV 5))) (sRet (mTup (mCons (mK (.str 11)) (mCons (mK (.str 10)) (mNil))))) (sNx))
    (sRet (mTup (mCons (mK (.str 13)) (mCons (mL bTuple (mCons (mL bSorted (mCons (mB oIx (mV 5) (mK (.str 0))) (mNil))) (mNil))) (mNil)))))) (sNx))
    (sSeq (sIf (tB_ (mB (oIn false) (mK (.str 0)) (mV 5))) (sRet (mTup (mCons (mK (.str 11)) (mCons (mK (.str 9)) (mNil))))) (sNx))
    (sRet (mCall m_ask_file [] (mCons (mV 5) (mCons (mV 1) (mNil)))))))))
theorem ak_cut : m_ask = runB 2 6
    (sSeq (sAsg (gT (gsCons (gV 2) (gsCons (gV 3) (gsNil)))) (mSl (mV 1) (pNo) (pSo (mK (.int 2)))))
    (sSeq (sIf (tOr_ (tB_ (mB (oEq false) (mV 2) (mK (.str 2)))) (tB_ (mB (oEq false) (mV 2) (mK (.str 7))))) akD (sNx))
    akP)) := rfl
def wd : Rq → Nat
  | .mk _ _ => 2
  | .pt _ _ _ => 3
  | .gt _ _ _ => 4
  | .sz _ => 5
  | .sh _ _ => 6
  | .dp _ => 7
  | .ls _ => 8
theorem enc_two (r : Rq) : ∃ xs, r.enc = .tup xs ∧ cut xs none (some 2) = [.str (wd r), eP r.p] := by
  cases r <;> exact ⟨_, rfl, rfl⟩
theorem gT23 {x y : Val} {x0 x1 : Val} : gT (gsCons (gV 2) (gsCons (gV 3) gsNil)) (.tup [x, y]) [some x0, some x1, none, none, none, none] = some [some x0, some x1, some x, some y, none, none] := rfl
theorem ak_start {r : Rq} {E : Nat → Heap → Prop} {Q : Val → Heap → Prop} {t : Nat} (w : wS ((sSeq (sIf (tOr_ (tB_ (mB (oEq false) (mV 2) (mK (.str 2)))) (tB_ (mB (oEq false) (mV 2) (mK (.str 7))))) akD (sNx)) akP) [some (.ref t), some r.enc, some (.str (wd r)), some (eP r.p), none, none] h) { nx := fun s h => Q .non h, rt := Q, ex := E }) : wR (m_ask [.ref t, r.enc] h) E Q := by
  obtain ⟨xs, e1, e2⟩ := enc_two r
  rw [ak_cut]
  refine wRB rfl ?_
  rw [e1] at w ⊢
  obtain ⟨XX, hX⟩ : ∃ X, X = (sSeq (sIf (tOr_ (tB_ (mB (oEq false) (mV 2) (mK (.str 2)))) (tB_ (mB (oEq false) (mV 2) (mK (.str 7))))) akD (sNx)) akP) := ⟨_, rfl⟩
  rw [← hX] at w ⊢
  simp -implicitDefEqProofs [e2, gT23]
  exact w
theorem ints_dG {f : Nat → Val} : ∀ C : List Nat, optAll (fun kv : Val × Val => asInt kv.1) (dG eN f C) = some (C.map fun n : Nat => (n : Int))
  | [] => rfl
  | n :: C => by
    have ih := ints_dG (f := f) C
    unfold dG at ih ⊢
    simp only [List.map_cons, optAll]
    rw [ih]
    rfl
theorem ask_ok (i : Inv s) (k : St pp aa ns a lw d s sl h) {r : Rq} (hr : r.Ok) :
    ∃ a' h', m_ask [.ref (a.A []), r.enc] h = .ok (ansV s r) h' ∧ St pp aa ns a' lw d (nxt s r) sl h' ∧ a'.A [] = a.A [] := by
  have l2 : 2 ≤ lim := by decide
  have tr := k.tree
  obtain ⟨LD, hD⟩ : ∃ X, X = akD := ⟨_, rfl⟩
  obtain ⟨LP, hP⟩ : ∃ X, X = akP := ⟨_, rfl⟩
  have ed := do_ok i tr r.p
  have ep := pa_ok i tr r.p
  have file : onFile r = true → ∃ a' h', m_ask [.ref (a.A []), r.enc] h = .ok (ansV s r) h' ∧ St pp aa ns a' lw d (nxt s r) sl h' ∧ a'.A [] = a.A [] := fun ho => by
    have w2 : ¬ wd r = 2 := by cases r <;> first | (cases ho; done) | simp [wd]
    have w7 : ¬ wd r = 7 := by cases r <;> first | (cases ho; done) | simp [wd]
    have w8 : ¬ wd r = 8 := by cases r <;> first | (cases ho; done) | simp [wd]
    by_cases hp : r.p ∈ s.L
    · rw [if_pos hp] at ep
      cases hd : s.D r.p with
      | true =>
        obtain ⟨g1, _⟩ := (tr _ hp).d hd
        have e3 := oIn_str (neg := false) (i := 0) g1
        have l3 : lookV [(Val.str 0, Val.ref (a.B r.p))] (.str 0) = some (.ref (a.B r.p)) := rfl
        rw [l3] at e3
        have ea : ansV s r = no 9 := by cases r <;> first | (cases ho; done) | (simp only [Rq.p] at hp hd; simp [ansV, hp, hd])
        have en : nxt s r = s := by cases r <;> first | (cases ho; done) | (simp only [Rq.p] at hp hd; simp [nxt, hp, hd])
        rw [ea, en]
        refine ⟨a, h, eq_of_wR (ak_start ?_), k, rfl⟩
        rw [← hD]
        unfold akP
        simp -implicitDefEqProofs [w2, w7, w8, ep, gV, e3, l2, no]
      | false =>
        obtain ⟨g1, _⟩ := (tr _ hp).f hd
        have e3 := oIn_str (neg := false) (i := 0) g1
        have l3 : lookV [(Val.str 1, Val.ref (a.B r.p))] (.str 0) = none := rfl
        rw [l3] at e3
        obtain ⟨a', h', e, K, ha⟩ := af_ok i k hr ho hp hd
        refine ⟨a', h', eq_of_wR (ak_start ?_), K, ha⟩
        rw [← hD]
        unfold akP
        simp -implicitDefEqProofs [w2, w7, w8, ep, gV, e3, l2, no, e]
    · rw [if_neg hp] at ep
      have ea : ansV s r = no 12 := by cases r <;> first | (cases ho; done) | (simp only [Rq.p] at hp; simp [ansV, hp])
      have en : nxt s r = s := by cases r <;> first | (cases ho; done) | (simp only [Rq.p] at hp; simp [nxt, hp])
      rw [ea, en]
      refine ⟨a, h, eq_of_wR (ak_start ?_), k, rfl⟩
      rw [← hD]
      unfold akP
      simp -implicitDefEqProofs [w2, w7, w8, ep, gV, l2, no]
  cases r with
  | pt p o ws => exact file rfl
  | gt p o n => exact file rfl
  | sh p n => exact file rfl
  | sz p => exact file rfl
  | ls p =>
    have ep := pa_ok i tr p
    by_cases hp : p ∈ s.L
    · rw [if_pos hp] at ep
      cases hd : s.D p with
      | true =>
        obtain ⟨g1, g2⟩ := (tr _ hp).d hd
        unfold oN at g2
        have e3 := oIn_str (neg := false) (i := 1) g1
        have l3 : lookV [(Val.str 0, Val.ref (a.B p))] (.str 1) = none := rfl
        have l4 : lookV [(Val.str 0, Val.ref (a.B p))] (.str 0) = some (.ref (a.B p)) := rfl
        rw [l3] at e3
        have c4 := i.c64 hp
        have es := bSorted_dct g2 (ints_dG (s.C p)) (by rw [List.length_map]; omega)
        have l4' : (sortN (s.C p)).length ≤ lim := by
          unfold sortN
          rw [(sortI_perm _).length_eq, List.length_map]
          have : 4 ≤ lim := by decide
          omega
        have ea : ansV s (.ls p) = ok (.tup ((sortN (s.C p)).map .int)) := by simp [ansV, hp, hd]
        rw [ea]
        refine ⟨a, h ++ [.lst ((sortN (s.C p)).map .int)], eq_of_wR (ak_start ?_), k.ext ⟨_, rfl⟩, rfl⟩
        rw [← hD]
        have es' : bSorted [.ref (a.B p)] h = .ok (.ref h.length) (h ++ [.lst ((sortN (s.C p)).map .int)]) := es
        unfold akP
        simp -implicitDefEqProofs [wd, ep, gV, e3, l2, ok, g1, l4, es', Rq.p, l4']
      | false =>
        obtain ⟨g1, _⟩ := (tr _ hp).f hd
        have e3 := oIn_str (neg := false) (i := 1) g1
        have l3 : lookV [(Val.str 1, Val.ref (a.B p))] (.str 1) = some (.ref (a.B p)) := rfl
        rw [l3] at e3
        have ea : ansV s (.ls p) = no 10 := by simp [ansV, hp, hd]
        rw [ea]
        refine ⟨a, h, eq_of_wR (ak_start ?_), k, rfl⟩
        rw [← hD]
        unfold akP
        simp -implicitDefEqProofs [wd, ep, gV, e3, l2, no, Rq.p]
    · rw [if_neg hp] at ep
      have ea : ansV s (.ls p) = no 12 := by simp [ansV, hp]
      rw [ea]
      refine ⟨a, h, eq_of_wR (ak_start ?_), k, rfl⟩
      rw [← hD]
      unfold akP
      simp -implicitDefEqProofs [wd, ep, gV, l2, no, Rq.p]
  | mk p dr =>
    have ed := do_ok i tr p
    by_cases hb : dirB s p = true
    · rw [if_pos hb] at ed
      obtain ⟨q, n, rfl, hq, hd⟩ := dirB_snoc hb
      rw [par_snoc] at ed
      obtain ⟨g1, _⟩ := (tr _ hq).d hd
      have l4 : lookV [(Val.str 0, Val.ref (a.B q))] (.str 0) = some (.ref (a.B q)) := rfl
      obtain ⟨a', h', e, K, ha⟩ := adm_ok (n := n) (dr := dr) i k hq hd
      have ea : ansV s (.mk (q ++ [n]) dr) = if q ++ [n] ∈ s.L then no 14 else ok .non := by
        show (if _ then _ else _) = _
        rw [if_pos hb]
      have en : nxt s (.mk (q ++ [n]) dr) = if q ++ [n] ∈ s.L then s else addS s (q ++ [n]) dr := by
        show (if _ then _ else _) = _
        rw [if_pos hb]
      rw [ea, en]
      refine ⟨a', h', eq_of_wR (ak_start ?_), K, ha⟩
      rw [← hP]
      unfold akD
      have ed' : m_directory_of [.ref (a.A []), .tup (q.map eN ++ [eN n])] h = .ok (.ref (a.A q)) h := by rw [← eP_snoc]; exact ed
      simp -implicitDefEqProofs [wd, Rq.p, eP_snoc, ed', gV, g1, l4, atI_last, e]
    · rw [if_neg hb] at ed
      have ea : ansV s (.mk p dr) = no 12 := by
        show (if _ then _ else _) = _
        rw [if_neg hb]
      have en : nxt s (.mk p dr) = s := by
        show (if _ then _ else _) = _
        rw [if_neg hb]
      rw [ea, en]
      refine ⟨a, h, eq_of_wR (ak_start ?_), k, rfl⟩
      rw [← hP]
      unfold akD
      simp -implicitDefEqProofs [wd, Rq.p, ed, gV, l2, no]
  | dp p =>
    have ed := do_ok i tr p
    by_cases hb : dirB s p = true
    · rw [if_pos hb] at ed
      obtain ⟨q, n, rfl, hq, hd⟩ := dirB_snoc hb
      rw [par_snoc] at ed
      obtain ⟨g1, _⟩ := (tr _ hq).d hd
      have l4 : lookV [(Val.str 0, Val.ref (a.B q))] (.str 0) = some (.ref (a.B q)) := rfl
      obtain ⟨h', e, K⟩ := add_ok (n := n) i k hq hd
      have ea : ansV s (.dp (q ++ [n])) = if q ++ [n] ∈ s.L then if s.C (q ++ [n]) = [] then ok .non else no 15 else no 12 := by
        show (if _ then _ else _) = _
        rw [if_pos hb]
      have en : nxt s (.dp (q ++ [n])) = if q ++ [n] ∈ s.L then if s.C (q ++ [n]) = [] then delS s (q ++ [n]) else s else s := by
        show (if _ then _ else _) = _
        rw [if_pos hb]
      rw [ea, en]
      refine ⟨a, h', eq_of_wR (ak_start ?_), K, rfl⟩
      rw [← hP]
      unfold akD
      have ed' : m_directory_of [.ref (a.A []), .tup (q.map eN ++ [eN n])] h = .ok (.ref (a.A q)) h := by rw [← eP_snoc]; exact ed
      simp -implicitDefEqProofs [wd, Rq.p, eP_snoc, ed', gV, g1, l4, atI_last, e]
    · rw [if_neg hb] at ed
      have ea : ansV s (.dp p) = no 12 := by
        show (if _ then _ else _) = _
        rw [if_neg hb]
      have en : nxt s (.dp p) = s := by
        show (if _ then _ else _) = _
        rw [if_neg hb]
      rw [ea, en]
      refine ⟨a, h, eq_of_wR (ak_start ?_), k, rfl⟩
      rw [← hP]
      unfold akD
      simp -implicitDefEqProofs [wd, Rq.p, ed, gV, l2, no]
end
end Lw

set_option Elab.async false
set_option linter.all false
set_option autoImplicit false
set_option maxHeartbeats 4000000
namespace PyM
section
variable {h : Heap} {n : Nat} {d : List (Val × Val)} {s : En} {md me : En → Heap → Res Val} {mt : En → Heap → Res Bool} {tg : Val → En → Option En} {vs : List Nat}
theorem set_same {o : Obj} {x : Obj} (e : h[n]? = some o) : (h.set n x).set n o = h := by
  rw [List.set_set]
  apply List.ext_getElem?
  intro i
  rw [List.getElem?_set]
  split
  · rename_i hi
    subst hi
    rw [if_pos (at_lt e)]
    exact e.symm
  · rfl
theorem unl_T {g : Heap} (e : h[n]? = some (.dcT d)) : unlH n ((h.set n (.fdT d)) ++ g) = some (h ++ g) := by
  have hn : n < h.length := at_lt e
  have : ((h.set n (.fdT d)) ++ g)[n]? = some (.fdT d) := by
    rw [List.getElem?_append_left (by simpa using hn)]
    simp [hn]
  unfold unlH
  rw [this]
  simp only
  rw [List.set_append_left _ _ (by simpa using hn), set_same e]
theorem unl_K {g : Heap} (e : h[n]? = some (.dct d)) : unlH n ((h.set n (.fdc d)) ++ g) = some (h ++ g) := by
  have hn : n < h.length := at_lt e
  have : ((h.set n (.fdc d)) ++ g)[n]? = some (.fdc d) := by
    rw [List.getElem?_append_left (by simpa using hn)]
    simp [hn]
  unfold unlH
  rw [this]
  simp only
  rw [List.set_append_left _ _ (by simpa using hn), set_same e]
/-- a comprehension over a dict with tuple keys; the items leave the heap as it is -/
theorem lcT_pure {α : Type} (enc : α → Val) (p : α → Bool) (f : α → Val) {L : List α} (em : md s h = .ok (.ref n) h) (e : h[n]? = some (.dcT d)) (ek : d.map (·.1) = L.map enc) (hl : L.length < lim)
    (ht : ∀ x ∈ L, ∀ acc, ∃ s2, tg (enc x) (wipeE s vs) = some s2 ∧ mt s2 (h.set n (.fdT d) ++ [.lst acc]) = .ok (p x) (h.set n (.fdT d) ++ [.lst acc]) ∧ (p x = true → me s2 (h.set n (.fdT d) ++ [.lst acc]) = .ok (f x) (h.set n (.fdT d) ++ [.lst acc]))) :
    mLcD md tg mt me vs s h = .ok (.ref h.length) (h ++ [.lst ((L.filter p).map f)]) := by
  unfold mLcD
  rw [em]
  have lk : lockD n h = some (L.map enc, h.set n (.fdT d)) := by simp [lockD, e, ek]
  obtain ⟨g, hg⟩ : ∃ g : Heap, g = h.set n (.fdT d) := ⟨_, rfl⟩
  have w : wR (lcM (fun _ => true) tg mt me (wipeE s vs) g.length (L.map enc) (g ++ [.lst []])) (fun _ _ => False) fun _ h2 => h2 = g ++ [.lst ((L.filter p).map f)] := by
    refine wR_lcM (fun i acc h' => acc = ((L.take i).filter p).map f ∧ h' = g ++ [.lst acc]) (L.map enc) 0 [] _ ⟨rfl, rfl⟩ ?_ ?_
    · rintro i x0 acc h' _ hx0 ⟨ea, rfl⟩
      simp only [Nat.sub_zero, List.getElem?_map] at hx0
      obtain ⟨x, hx, rfl⟩ := Option.map_eq_some_iff.mp hx0
      obtain ⟨s2, q1, q2, q3⟩ := ht x (List.mem_of_getElem? hx) acc
      rw [← hg] at q2 q3
      have tk : L.take (i + 1) = L.take i ++ [x] := by
        rw [List.take_add_one, hx]
        rfl
      have al : acc.length < lim := by
        rw [ea, List.length_map]
        have := List.length_filter_le p (L.take i)
        have := List.length_take_le' i L
        omega
      refine ⟨rfl, s2, q1, ?_⟩
      rw [q2, wR_ok]
      by_cases hp : p x = true
      · rw [if_pos hp, q3 hp, wR_ok]
        refine ⟨at_len, al, ?_, set_len⟩
        rw [tk, List.filter_append, List.map_append, ← ea]
        simp [hp]
      · rw [if_neg hp]
        refine ⟨?_, rfl⟩
        rw [tk, List.filter_append, List.map_append, ← ea]
        simp [hp]
    · rintro acc h' ⟨ea, rfl⟩
      rw [Nat.zero_add, List.length_map, List.take_length] at ea
      exact ⟨rfl, by rw [ea]⟩
  obtain ⟨v, h', e1, rfl⟩ := ex_of_wR w
  have lg : g.length = h.length := by rw [hg, List.length_set]
  simp only [Res.bind, lk]
  rw [← hg, e1]
  simp only [unlR]
  rw [hg, unl_T e, List.length_set]
end
end PyM
namespace Lw
open PyM
section
variable {pp aa : Nat} {ns : List Int} {a : Ad} {lw : Pa → Nat} {d : Nat} {s sl : S} {h h' : Heap}
def kid (p o : Pa) : Bool := decide (o.length = p.length + 1) && decide (o.take p.length = p)
theorem kid_iff {p o : Pa} : kid p o = true ↔ ∃ n, o = p ++ [n] := by
  unfold kid
  rw [Bool.and_eq_true, decide_eq_true_eq, decide_eq_true_eq]
  constructor
  · rintro ⟨h1, h2⟩
    rcases snoc_cases o with rfl | ⟨q, n, rfl⟩
    · simp at h1
    · have hl : q.length = p.length := by simpa using h1
      rw [← hl, List.take_left] at h2
      exact ⟨n, by rw [h2]⟩
  · rintro ⟨n, rfl⟩
    simp
theorem sort_kids (i : Inv s) {p : Pa} (hp : p ∈ s.L) : sortI (((s.L.filter (kid p)).map las).map fun n : Nat => (n : Int)) = sortN (s.C p) := by
  unfold sortN
  have perm : ((s.L.filter (kid p)).map las).Perm (s.C p) := by
    have nd1 : ((s.L.filter (kid p)).map las).Nodup := by
      rw [List.nodup_iff_pairwise_ne, List.pairwise_map]
      refine List.Pairwise.imp_of_mem ?_ (i.nd.filter _)
      intro x y hx hy hne e
      obtain ⟨n, rfl⟩ := kid_iff.mp (List.mem_filter.mp hx).2
      obtain ⟨m, rfl⟩ := kid_iff.mp (List.mem_filter.mp hy).2
      rw [las_snoc, las_snoc] at e
      exact hne (by rw [e])
    refine (List.perm_ext_iff_of_nodup nd1 (i.cn p)).mpr fun n => ?_
    rw [List.mem_map]
    constructor
    · rintro ⟨o, ho, rfl⟩
      obtain ⟨m, rfl⟩ := kid_iff.mp (List.mem_filter.mp ho).2
      rw [las_snoc]
      exact (i.up _ _ (List.mem_filter.mp ho).1).2.2
    · intro hn
      exact ⟨p ++ [n], List.mem_filter.mpr ⟨i.dn _ _ hp hn, kid_iff.mpr ⟨n, rfl⟩⟩, las_snoc⟩
  have q := perm.map (fun n : Nat => (n : Int))
  exact (sortI_uniq ((sortI_perm _).trans q) (sortI_sorted _))
theorem wl_cut {o : Pa} {k : Nat} : cut (o.map eN) none (some (k : Int)) = (o.take k).map eN := cut_wl_to (ws := o)
theorem names_ok (i : Inv s) (hd : h[d]? = some (lawO s lw)) (hl : s.L.length < 1000) {p : Pa} (hp : p ∈ s.L) : ∃ q h', m__law_names [.ref d, eP p] h = .ok (.ref q) h' ∧ Ext h h' ∧ h'[q]? = some (.lst ((sortN (s.C p)).map .int)) := by
  have l1 : 1000 < lim := by decide
  unfold lawO at hd
  have e1 := lcT_pure (md := mV 0) (tg := gV 2) (mt := (tAn (tB_ (mB (oEq false) (mL bLen (mCons (mV 2) (mNil))) (mB oAdd (mL bLen (mCons (mV 1) (mNil))) (mK (.int 1))))) (tB_ (mB (oEq false) (mSl (mV 2) (pNo) (pSo (mL bLen (mCons (mV 1) (mNil))))) (mV 1))))) (me := (mB oIx (mV 2) (mU oNeg (mK (.int 1))))) (vs := [2]) (s := [some (.ref d), some (eP p), none])
    eP (kid p) (fun o => eN (las o)) (L := s.L) rfl hd dG_keys (by omega) fun o ho acc => by
      refine ⟨[some (.ref d), some (eP p), some (eP o)], rfl, ?_, fun hk => ?_⟩
      · refine eq_of_wR ?_
        have el : (((o.length : Nat) : Int) == (p.length : Int) + 1) = decide (o.length = p.length + 1) := by
          rw [Bool.eq_iff_iff]; simp; omega
        have ee : ∀ H : Heap, oEq false (.tup ((o.take p.length).map eN)) (.tup (p.map eN)) H = .ok (.bl (decide (o.take p.length = p))) H := fun H => by
          have pa : ∀ q : Pa, pl 60 (.tup (q.map eN)) = true := fun q => pl_tup fun x hx => by
            obtain ⟨n, _, rfl⟩ := List.mem_map.mp hx
            rfl
          rw [oEq_pl (pa _) (pa _)]
          congr 2
          rw [Bool.eq_iff_iff]
          simp
          exact ⟨fun z => map_inj (by rw [List.map_take]; exact z), fun z => by rw [← List.map_take, z]⟩
        simp only [List.map_take] at ee
        have ec := wl_cut (o := o) (k := p.length)
        unfold kid
        by_cases hq : o.length = p.length + 1
        · have hq' : ((o.length : Nat) : Int) = (p.length : Int) + 1 := by omega
          simp -implicitDefEqProofs [eP, hq', ec, ee, hq]
        · have hq' : ¬ ((o.length : Nat) : Int) = (p.length : Int) + 1 := by omega
          simp -implicitDefEqProofs [eP, hq', hq]
      · obtain ⟨n, rfl⟩ := kid_iff.mp hk
        refine eq_of_wR ?_
        rw [las_snoc, eP_snoc]
        simp -implicitDefEqProofs [atI_last]
  have ei : optAll asInt ((s.L.filter (kid p)).map fun o => eN (las o)) = some (((s.L.filter (kid p)).map las).map fun n : Nat => (n : Int)) := by
    have := optAll_int (fun o : Pa => ((las o : Nat) : Int)) (s.L.filter (kid p))
    rw [List.map_map]
    exact this
  have e2 := bSorted_lst (h := h ++ [.lst ((s.L.filter (kid p)).map fun o => eN (las o))]) (a := h.length) at_len ei
  rw [sort_kids i hp] at e2
  refine ⟨_, h ++ [.lst ((s.L.filter (kid p)).map fun o => eN (las o))] ++ [.lst ((sortN (s.C p)).map .int)], eq_of_wR ?_, ⟨_, by rw [List.append_assoc]⟩, at_len⟩
  unfold m__law_names
  refine wRB rfl ?_
  obtain ⟨MM, hM⟩ : ∃ X, X = (mLcD (mV 0) (gV 2) (tAn (tB_ (mB (oEq false) (mL bLen (mCons (mV 2) (mNil))) (mB oAdd (mL bLen (mCons (mV 1) (mNil))) (mK (.int 1))))) (tB_ (mB (oEq false) (mSl (mV 2) (pNo) (pSo (mL bLen (mCons (mV 1) (mNil))))) (mV 1)))) (mB oIx (mV 2) (mU oNeg (mK (.int 1)))) [2]) := ⟨_, rfl⟩
  rw [← hM] at e1 ⊢
  have e1' := e1
  simp -implicitDefEqProofs at e1' ⊢
  rw [e1']
  simp only [wR_ok]
  rw [e2]
  simp -implicitDefEqProofs
end
end Lw

set_option Elab.async false
set_option linter.all false
set_option autoImplicit false
set_option maxHeartbeats 4000000
namespace PyM
section
variable {E : Nat → Heap → Prop} {Q : Val → Heap → Prop} {h : Heap} {D : K4} {s : En} {mo mk me : En → Heap → Res Val}
@[simp ↓] theorem wR_mGetV1 : wR (mGetV1 mo mk s h) E Q = wR (mo s h) E fun o h1 => isD o h1 = true ∧ wR (mk s h1) E fun y h2 => (match y with | .tup ks => wR (tGet o ks .non h2) E Q | _ => False) := by
  unfold mGetV1; simp only [wR_bind]; congr; funext o h1; split
  · simp only [wR_bind, *, true_and]; congr; funext y h2; split <;> simp_all
  · simp_all
@[simp ↓] theorem wR_mPopV1 : wR (mPopV1 mo mk s h) E Q = wR (mo s h) E fun o h1 => isD o h1 = true ∧ wR (mk s h1) E fun y h2 => (match y with | .tup ks => wR (tPop1 o ks h2) E Q | _ => False) := by
  unfold mPopV1; simp only [wR_bind]; congr; funext o h1; split
  · simp only [wR_bind, *, true_and]; congr; funext y h2; split <;> simp_all
  · simp_all
@[simp ↓] theorem wS_sSubV : wS (sSubV mo mk me s h) D = wR (me s h) D.ex fun v h1 => wR (mo s h1) D.ex fun o h2 => wR (mk s h2) D.ex fun y h3 => (match y with | .tup ks => wR (tSet o ks v h3) D.ex fun _ h4 => D.nx s h4 | _ => False) := by
  unfold sSubV; simp only [wS_thenS]; congr; funext v h1; congr; funext o h2; congr; funext y h3; split <;> simp_all
end
end PyM
namespace Lw
open PyM
section
variable {pp aa : Nat} {ns : List Int} {a : Ad} {lw : Pa → Nat} {d : Nat} {s sl : S} {h h' : Heap}
theorem kOk {p : Pa} (hp : p.length ≤ 1000) : keysOk (p.map eN) = true := by
  unfold keysOk
  rw [Bool.and_eq_true, decide_eq_true_eq, List.length_map]
  refine ⟨?_, hp⟩
  rw [List.all_map]
  exact List.all_eq_true.mpr fun n _ => rfl
theorem tIxV_at (hd : h[d]? = some (lawO s lw)) {p : Pa} (hk : p.length ≤ 1000) (hp : p ∈ s.L) : tIxV (.ref d) (eP p) h = .ok (pv s lw p) h := tIx_at hd (kOk hk) (lookG_in (f := pv s lw) eP_inj hp)
theorem tInV_at {neg : Bool} (hd : h[d]? = some (lawO s lw)) {p : Pa} (hk : p.length ≤ 1000) : tInV neg (eP p) (.ref d) h = .ok (.bl (if neg then !decide (p ∈ s.L) else decide (p ∈ s.L))) h := by
  have := tIn_at (neg := neg) hd (kOk hk)
  have l := lookG (f := pv s lw) (k := p) eP_inj (l := s.L)
  have l' : lookV (dG eP (pv s lw) s.L) (.tup (p.map eN)) = _ := l
  rw [l'] at this
  show tIn neg (p.map eN) (.ref d) h = _
  rw [this]
  by_cases q : p ∈ s.L <;> simp [q]
theorem isD_law (hd : h[d]? = some (lawO s lw)) : isD (.ref d) h = true := isD_dcT hd
theorem tGet_law (hd : h[d]? = some (lawO s lw)) {p : Pa} (hk : p.length ≤ 1000) : tGet (.ref d) (p.map eN) .non h = .ok (if p ∈ s.L then pv s lw p else .non) h := by
  rw [tGet_at hd (kOk hk)]
  have l' : lookV (dG eP (pv s lw) s.L) (.tup (p.map eN)) = _ := lookG (f := pv s lw) (k := p) eP_inj (l := s.L)
  rw [l']
  by_cases q : p ∈ s.L <;> simp [q]
theorem neDir (k2 : Fl lw s h) {p : Pa} : oEq true (if p ∈ s.L then pv s lw p else .non) (.str 9) h = .ok (.bl (!(decide (p ∈ s.L) && s.D p))) h := by
  by_cases q : p ∈ s.L
  · rw [if_pos q]
    unfold pv
    cases hd : s.D p with
    | true => rw [if_pos rfl, oEq_pl rfl rfl]; simp [q]
    | false =>
      rw [if_neg (by decide)]
      have e := k2 p q hd
      unfold oEq
      rw [conv_lst e (List.all_eq_true.mpr fun x hx => by
        obtain ⟨n, _, rfl⟩ := List.mem_map.mp hx
        rfl), conv_pl 60 _ (show pl 60 (.str 9) = true from rfl)]
      simp [deq, Val.d]
  · rw [if_neg q, oEq_pl rfl rfl]
    simp [q]
theorem eqDir (k2 : Fl lw s h) {p : Pa} (q : p ∈ s.L) {neg : Bool} : oEq neg (pv s lw p) (.str 9) h = .ok (.bl (if neg then !s.D p else s.D p)) h := by
  unfold pv
  cases hd : s.D p with
  | true => rw [if_pos rfl, oEq_pl rfl rfl]; simp
  | false =>
    rw [if_neg (by decide)]
    have e := k2 p q hd
    unfold oEq
    rw [conv_lst e (List.all_eq_true.mpr fun x hx => by
      obtain ⟨n, _, rfl⟩ := List.mem_map.mp hx
      rfl), conv_pl 60 _ (show pl 60 (.str 9) = true from rfl)]
    simp [deq, Val.d]
/-! what the law's dict becomes -/
theorem tSet_new (hd : h[d]? = some (lawO sl lw)) {p : Pa} (hk : p.length ≤ 1000) (hp : p ∉ sl.L) (hl : sl.L.length < 1000) {dr : Bool} {x : Nat} :
    tSet (.ref d) (p.map eN) (if dr = true then .str 9 else .ref x) h = .ok () (h.set d (lawO (addS sl p dr) (fu lw p x))) := by
  have l1 : 1000 < lim := by decide
  unfold lawO at hd
  rw [tSet_at hd (kOk hk) (by rw [dG_len]; omega)]
  have e := putG_new (f := pv sl lw) (x := if dr = true then .str 9 else .ref x) eP_inj hp
  have e' : putV (dG eP (pv sl lw) sl.L) (.tup (p.map eN)) (if dr = true then .str 9 else .ref x) = _ := e
  rw [e']
  congr 3
  show dG eP _ (sl.L ++ [p]) = dG eP _ (sl.L ++ [p])
  refine dG_congr fun q _ => ?_
  unfold pv
  show _ = if fu sl.D p dr q = true then _ else _
  by_cases e : q = p
  · subst e
    rw [fu_at, fu_at, fu_at]
  · rw [fu_ne e, fu_ne e, fu_ne e]
theorem tSet_word (hd : h[d]? = some (lawO sl lw)) {p : Pa} (hk : p.length ≤ 1000) (hp : p ∈ sl.L) (hf : sl.D p = false) (hl : sl.L.length < 1000) {x : Nat} {ws : List Nat} :
    tSet (.ref d) (p.map eN) (.ref x) h = .ok () (h.set d (lawO (setW sl p ws) (fu lw p x))) := by
  have l1 : 1000 < lim := by decide
  unfold lawO at hd
  rw [tSet_at hd (kOk hk) (by rw [dG_len]; omega)]
  have e := putG_in (f := pv sl lw) (x := .ref x) eP_inj hp
  have e' : putV (dG eP (pv sl lw) sl.L) (.tup (p.map eN)) (.ref x) = _ := e
  rw [e']
  congr 3
  refine dG_congr fun q _ => ?_
  unfold pv
  show _ = if sl.D q = true then _ else _
  by_cases e : q = p
  · subst e
    rw [fu_at, fu_at, hf]
    rfl
  · rw [fu_ne e, fu_ne e]
theorem St.law_ (k : St pp aa ns a lw d s sl h) {sl' : S} {lw' : Pa → Nat} (f2 : Fl lw' sl' (h.set d (lawO sl' lw'))) : St pp aa ns a lw' d s sl' (h.set d (lawO sl' lw')) := by
  have hd := k.law
  have nb : ∀ l, h[d]? ≠ some (.lst l) := fun l e => by rw [hd] at e; cases e
  exact ⟨Tn_set (j := 0) k.t rfl _, k.f1.set nb, f2⟩
theorem law_nb (hd : h[d]? = some (lawO s lw)) : ∀ l, h[d]? ≠ some (.lst l) := fun l e => by rw [hd] at e; cases e
theorem Fl.add (f : Fl lw sl h) {p : Pa} {dr : Bool} {x : Nat} (hp : p ∉ sl.L) (ex : dr = false → h[x]? = some (.lst [])) : Fl (fu lw p x) (addS sl p dr) h := fun q hq hd => by
  by_cases e : q = p
  · subst e
    have hd : fu sl.D q dr q = false := hd
    rw [fu_at] at hd
    show h[fu lw q x q]? = some (Obj.lst (wl (fu sl.W q [] q)))
    rw [fu_at, fu_at]
    exact ex hd
  · have hd : fu sl.D p dr q = false := hd
    rw [fu_ne e] at hd
    show h[fu lw p x q]? = some (Obj.lst (wl (fu sl.W p [] q)))
    rw [fu_ne e, fu_ne e]
    exact f q (by
      have : q ∈ sl.L ++ [p] := hq
      simpa [e] using this) hd
theorem Fl.word (f : Fl lw sl h) {p : Pa} {x : Nat} {ws : List Nat} (ex : h[x]? = some (.lst (wl ws))) : Fl (fu lw p x) (setW sl p ws) h := fun q hq hd => by
  by_cases e : q = p
  · subst e
    show h[fu lw q x q]? = some (Obj.lst (wl (fu sl.W q ws q)))
    rw [fu_at, fu_at]
    exact ex
  · show h[fu lw p x q]? = some (Obj.lst (wl (fu sl.W p ws q)))
    rw [fu_ne e, fu_ne e]
    exact f q hq hd
theorem Fl.del (f : Fl lw sl h) {p : Pa} : Fl lw (delS sl p) h := fun q hq hd => f q (List.mem_filter.mp hq).1 hd
theorem tPop_law (hd : h[d]? = some (lawO sl lw)) {p : Pa} (hk : p.length ≤ 1000) (hp : p ∈ sl.L) : tPop1 (.ref d) (p.map eN) h = .ok (pv sl lw p) (h.set d (lawO (delS sl p) lw)) := by
  unfold lawO at hd
  have l' : lookV (dG eP (pv sl lw) sl.L) (.tup (p.map eN)) = some (pv sl lw p) := lookG_in (f := pv sl lw) eP_inj hp
  rw [tPop1_at hd (kOk hk) l']
  have e' : dropV (dG eP (pv sl lw) sl.L) (.tup (p.map eN)) = _ := dropG (f := pv sl lw) (k := p) eP_inj
  rw [e']
  rfl
end
end Lw

set_option Elab.async false
set_option linter.all false
set_option autoImplicit false
set_option maxHeartbeats 4000000
namespace Lw
open PyM
section
variable {pp aa : Nat} {ns : List Int} {a : Ad} {lw : Pa → Nat} {d : Nat} {s sl : S} {h h' : Heap}
/-! the law's own writing of words -/
def ovr (V xs : List Nat) (o k : Nat) : List Nat := V.take o ++ xs.take k ++ V.drop (o + k)
theorem ovr_len {V xs : List Nat} {o k : Nat} (ho : o + k ≤ V.length) (hk : k ≤ xs.length) : (ovr V xs o k).length = V.length := by
  unfold ovr
  rw [List.length_append, List.length_append, List.length_take, List.length_take, List.length_drop]
  omega
theorem ovr_zero {V xs : List Nat} {o : Nat} : ovr V xs o 0 = V := by simp [ovr]
theorem ovr_set {V xs : List Nat} {o k : Nat} (ho : o + k < V.length) (hk : k < xs.length) : (ovr V xs o k).set (o + k) xs[k] = ovr V xs o (k + 1) := by
  unfold ovr
  have l1 : (V.take o ++ xs.take k).length = o + k := by
    rw [List.length_append, List.length_take, List.length_take]
    omega
  rw [List.set_append_right _ _ (by omega), l1, Nat.sub_self]
  have e1 : V.drop (o + k) = V[o + k] :: V.drop (o + k + 1) := List.drop_eq_getElem_cons ho
  have tk : xs.take (k + 1) = xs.take k ++ [xs[k]] := by
    rw [List.take_add_one, List.getElem?_eq_getElem hk]
    rfl
  rw [e1, List.set_cons_zero, tk, ← Nat.add_assoc]
  simp only [List.append_assoc, List.singleton_append]
theorem wide_eq {ws xs : List Nat} {o : Nat} (ho : o + xs.length ≤ 48) (hw : ws.length ≤ 48) : (ovr (ws ++ List.replicate 48 0) xs o xs.length).take (max ws.length (o + xs.length)) = wide ws o xs := by
  unfold ovr wide
  simp only
  have lt : (xs.take xs.length) = xs := List.take_length
  rw [lt]
  apply List.ext_getElem?
  intro i
  have l1 : ((ws ++ List.replicate 48 0).take o).length = o := by
    rw [List.length_take, List.length_append, List.length_replicate]
    omega
  have l2 : ((ws ++ List.replicate (o + xs.length - ws.length) 0).take o).length = o := by
    rw [List.length_take, List.length_append, List.length_replicate]
    omega
  have g1 : ∀ i, i < 48 → i < ws.length + 48 → (ws ++ List.replicate 48 0)[i]? = some (ws.getD i 0) := fun i h1 h2 => by
    by_cases q : i < ws.length
    · rw [List.getElem?_append_left q, List.getD_eq_getElem?_getD, List.getElem?_eq_getElem q]
      rfl
    · rw [List.getElem?_append_right (by omega), List.getElem?_replicate, if_pos (by omega), List.getD_eq_getElem?_getD, List.getElem?_eq_none (by omega)]
      rfl
  have g2 : ∀ i, i < max ws.length (o + xs.length) → (ws ++ List.replicate (o + xs.length - ws.length) 0)[i]? = some (ws.getD i 0) := fun i h1 => by
    by_cases q : i < ws.length
    · rw [List.getElem?_append_left q, List.getD_eq_getElem?_getD, List.getElem?_eq_getElem q]
      rfl
    · rw [List.getElem?_append_right (by omega), List.getElem?_replicate, if_pos (by omega), List.getD_eq_getElem?_getD, List.getElem?_eq_none (by omega)]
      rfl
  rw [List.getElem?_take]
  by_cases hi : i < max ws.length (o + xs.length)
  · rw [if_pos hi]
    by_cases q1 : i < o
    · rw [List.getElem?_append_left (by rw [List.length_append, l1]; omega), List.getElem?_append_left (by omega), List.getElem?_append_left (by rw [List.length_append, l2]; omega), List.getElem?_append_left (by omega), List.getElem?_take, List.getElem?_take, if_pos q1, if_pos q1, g1 i (by omega) (by omega), g2 i hi]
    · by_cases q2 : i < o + xs.length
      · rw [List.getElem?_append_left (by rw [List.length_append, l1]; omega), List.getElem?_append_right (by omega), List.getElem?_append_left (by rw [List.length_append, l2]; omega), List.getElem?_append_right (by omega), l1, l2]
      · rw [List.getElem?_append_right (by rw [List.length_append, l1]; omega), List.getElem?_append_right (by rw [List.length_append, l2]; omega), List.getElem?_drop, List.getElem?_drop, List.length_append, List.length_append, l1, l2]
        have e : o + xs.length + (i - (o + xs.length)) = i := by omega
        rw [e, g1 i (by omega) (by omega), g2 i hi]
  · rw [if_neg hi, List.getElem?_eq_none]
    simp only [List.length_append, List.length_take, List.length_drop, List.length_replicate]
    omega
def lfB : En → Heap → RS := (sSub (mV 3) (mB oAdd (mB oIx (mV 1) (mK (.int 2))) (mV 4)) (mB oIx (mB oIx (mV 1) (mK (.int 3))) (mV 4)))
def lfP : En → Heap → RS := (sSeq (sAsg (gV 3) (mB oAdd (mV 2) (mB oMul (mLst (mCons (mK (.int 0)) (mNil))) (mK (.int 48)))))
    (sSeq (sFor (iRng1 (mCons (mL bLen (mCons (mB oIx (mV 1) (mK (.int 3))) (mNil))) (mNil))) (gV 4) lfB)
    (sSeq (sSubV (mV 0) (mB oIx (mV 1) (mK (.int 1))) (mSl (mV 3) (pNo) (pSo (mL bMax2 (mCons (mL bLen (mCons (mV 2) (mNil))) (mCons (mB oAdd (mB oIx (mV 1) (mK (.int 2))) (mL bLen (mCons (mB oIx (mV 1) (mK (.int 3))) (mNil)))) (mNil)))))))
    (sRet (mTup (mCons (mK (.str 13)) (mCons (mK .non) (mNil))))))))
theorem lf_cut : m__law_file = runB 2 5
    (sSeq (sAsg (gV 2) (mB tIxV (mV 0) (mB oIx (mV 1) (mK (.int 1)))))
    (sSeq (sIf (tB_ (mB (oEq false) (mB oIx (mV 1) (mK (.int 0))) (mK (.str 5)))) (sRet (mTup (mCons (mK (.str 13)) (mCons (mL bLen (mCons (mV 2) (mNil))) (mNil))))) (sNx))
    (sSeq (sIf (tB_ (mB (oEq false) (mB oIx (mV 1) (mK (.int 0))) (mK (.str 4)))) (sRet (mTup (mCons (mK (.str 13)) (mCons (mL bTuple (mCons (mSl (mV 2) (pSo (mB oIx (mV 1) (mK (.int 2)))) (pSo (mB oAdd (mB oIx (mV 1) (mK (.int 2))) (mB oIx (mV 1) (mK (.int 3)))))) (mNil))) (mNil))))) (sNx))
    (sSeq (sIf (tB_ (mB (oEq false) (mB oIx (mV 1) (mK (.int 0))) (mK (.str 6)))) (sSeq (sSubV (mV 0) (mB oIx (mV 1) (mK (.int 1))) (mSl (mV 2) (pNo) (pSo (mB oIx (mV 1) (mK (.int 2))))))
    (sRet (mTup (mCons (mK (.str 13)) (mCons (mK .non) (mNil)))))) (sNx))
    (sSeq (sIf (tB_ (mB oGt (mB oAdd (mB oIx (mV 1) (mK (.int 2))) (mL bLen (mCons (mB oIx (mV 1) (mK (.int 3))) (mNil)))) (mK (.int 48)))) (sRet (mTup (mCons (mK (.str 11)) (mCons (mK (.str 16)) (mNil))))) (sNx))
    lfP))))) := rfl
theorem lfB_loop {D : K4} {V xs : List Nat} {o : Nat} {q : Nat} {x0 x2 : Option Val} {p : Pa} (ho : o + xs.length ≤ V.length) {h0 : Heap} (hq : h0.length ≤ q) :
    ∀ (n k : Nat) (x4 : Option Val) (h : Heap), k + n = xs.length → Ext h0 h → h[q]? = some (.lst (wl (ovr V xs o k))) →
    (∀ x4 h', Ext h0 h' → h'[q]? = some (.lst (wl (ovr V xs o xs.length))) → D.nx [x0, some (Rq.pt p o xs).enc, x2, some (.ref q), x4] h') →
    wS (forM_ (fun _ => true) (gV 4) lfB ((List.range' k n).map fun i : Nat => .int (i : Nat)) [x0, some (Rq.pt p o xs).enc, x2, some (.ref q), x4] h) D
  | 0, k, x4, h, hk, ex, el, fin => by
    rw [List.range'_zero, List.map_nil, wS_forM_nil]
    have : k = xs.length := by omega
    subst this
    exact ⟨rfl, fin _ _ ex el⟩
  | n + 1, k, x4, h, hk, ex, el, fin => by
    rw [List.range'_succ, List.map_cons, wS_forM_cons]
    refine ⟨rfl, ?_⟩
    have hg : gV 4 (.int (k : Nat)) [x0, some (Rq.pt p o xs).enc, x2, some (.ref q), x4] = some [x0, some (Rq.pt p o xs).enc, x2, some (.ref q), some (.int (k : Nat))] := rfl
    rw [hg]
    dsimp only
    have kl : k < xs.length := by omega
    have eb : lfB [x0, some (Rq.pt p o xs).enc, x2, some (.ref q), some (.int (k : Nat))] h = .nx [x0, some (Rq.pt p o xs).enc, x2, some (.ref q), some (.int (k : Nat))] (h.set q (.lst (wl (ovr V xs o (k + 1))))) := by
      refine eq_nx ?_
      unfold lfB
      have l1 : (wl (ovr V xs o k)).length = V.length := by rw [wl_len, ovr_len (by omega) (by omega)]
      have e1 : L2.ixN (wl (ovr V xs o k)).length ((o : Int) + (k : Int)) = some (o + k) := by
        have : ((o : Int) + (k : Int)) = ((o + k : Nat) : Int) := by omega
        rw [this, ixN_cast, l1, if_pos (by omega)]
      have e2 : L2.atI (wl xs) (k : Int) = some (.int (xs[k] : Nat)) := by
        rw [atI_cast]
        unfold wl
        rw [List.getElem?_map, List.getElem?_eq_getElem kl]
        rfl
      have e3 : (wl (ovr V xs o k)).set (o + k) (.int (xs[k] : Nat)) = wl (ovr V xs o (k + 1)) := by
        rw [← ovr_set (by omega) kl]
        unfold wl
        rw [List.map_set]
        rfl
      simp -implicitDefEqProofs [Rq.enc, eN, e2, el, e1, e3]
    rw [eb]
    exact lfB_loop ho hq n (k + 1) _ _ (by omega) (ex.set hq _) (at_set el) fin
end
end Lw

set_option Elab.async false
set_option linter.all false
set_option autoImplicit false
set_option maxHeartbeats 4000000
namespace Lw
open PyM
section
variable {pp aa : Nat} {ns : List Int} {a : Ad} {lw : Pa → Nat} {d : Nat} {s sl : S} {h h' : Heap}
theorem lfP_ok (i : Inv sl) (k : St pp aa ns a lw d s sl h) (hl : sl.L.length < 1000) {p : Pa} (hp : p ∈ sl.L) (hf : sl.D p = false) {o : Nat} {xs : List Nat} (ho : o + xs.length ≤ 48) :
    ∃ x H, wS (lfP [some (.ref d), some (Rq.pt p o xs).enc, some (.ref (lw p)), none, none] h) { nx := fun _ _ => False, rt := fun v h' => v = ok .non ∧ ∃ x, St pp aa ns a (fu lw p x) d s (setW sl p (wide (sl.W p) o xs)) h' } ∧ x = 0 ∧ H = h := by
  refine ⟨0, h, ?_, rfl, rfl⟩
  have h2 := k.f2 p hp hf
  have w48 := i.w48 p
  have pk : p.length ≤ 1000 := by have := (i.rg p hp).1; omega
  have l2 : 2 ≤ lim := by decide
  have l1 : 1 ≤ lim := by decide
  have l48 : 48 ≤ lim := by decide
  have l100 : 100 ≤ lim := by decide
  obtain ⟨V, hV⟩ : ∃ V, V = sl.W p ++ List.replicate 48 0 := ⟨_, rfl⟩
  have lV : V.length = (sl.W p).length + 48 := by rw [hV, List.length_append, List.length_replicate]
  obtain ⟨B, hB⟩ : ∃ X, X = lfB := ⟨_, rfl⟩
  unfold lfP
  rw [← hB]
  obtain ⟨MY, hY⟩ : ∃ X, X = (mSl (mV 3) (pNo) (pSo (mL bMax2 (mCons (mL bLen (mCons (mV 2) (mNil))) (mCons (mB oAdd (mB oIx (mV 1) (mK (.int 2))) (mL bLen (mCons (mB oIx (mV 1) (mK (.int 3))) (mNil)))) (mNil)))))) := ⟨_, rfl⟩
  rw [← hY]
  have g0 : (h ++ [Obj.lst [.int 0]])[lw p]? = some (.lst (wl (sl.W p))) := at_push h2
  have q0 : (h ++ [Obj.lst [.int 0]])[h.length]? = some (.lst [.int 0]) := at_len
  have g1 : (h ++ [Obj.lst [.int 0], Obj.lst (wl (List.replicate 48 0))])[lw p]? = some (.lst (wl (sl.W p))) := at_push h2
  have q1 : (h ++ [Obj.lst [.int 0], Obj.lst (wl (List.replicate 48 0))])[h.length + 1]? = some (.lst (wl (List.replicate 48 0))) := at_app 1 rfl rfl
  have a1 : (mB oAdd (mV 2) (mB oMul (mLst (mCons (mK (.int 0)) (mNil))) (mK (.int 48)))) [some (.ref d), some (Rq.pt p o xs).enc, some (.ref (lw p)), none, none] h = .ok (.ref (h.length + 2)) (h ++ [.lst [.int 0], .lst (wl (List.replicate 48 0)), .lst (wl V)]) := by
    refine eq_of_wR ?_
    have rv : repV ((48 : Int).toNat) [Val.int 0] = wl (List.replicate 48 0) := repV_wl 48
    have m1 : (sl.W p).length + 48 ≤ lim := by omega
    simp -implicitDefEqProofs only [wR_mB, wR_mV1, wR_mV0, wR_mLst, wR_mCons, wR_mK, wR_mNil]
    refine ⟨by simpa using l1, ?_⟩
    simp -implicitDefEqProofs only [wR_oMulL, q0, rv]
    refine ⟨⟨by decide, by decide, by simpa using l48⟩, ?_⟩
    rw [List.append_assoc]
    simp -implicitDefEqProofs only [List.cons_append, List.nil_append, wR_oAddL, g1, List.length_append, List.length_cons, List.length_nil, Nat.zero_add, q1, wl_len, List.length_replicate]
    refine ⟨m1, ?_⟩
    rw [← wl_app, ← hV, List.append_assoc]
    simp -implicitDefEqProofs only [List.cons_append, List.nil_append]
    exact ⟨trivial, trivial⟩
  obtain ⟨H1, E1⟩ : ∃ H : Heap, H = h ++ [.lst [.int 0], .lst (wl (List.replicate 48 0)), .lst (wl V)] := ⟨_, rfl⟩
  rw [← E1] at a1
  have x1 : Ext h H1 := ⟨_, E1⟩
  have gV1 : H1[h.length + 2]? = some (.lst (wl V)) := by rw [E1]; exact at_app 2 rfl rfl
  obtain ⟨MX, hM⟩ : ∃ X, X = (mB oAdd (mV 2) (mB oMul (mLst (mCons (mK (.int 0)) (mNil))) (mK (.int 48)))) := ⟨_, rfl⟩
  rw [← hM] at a1 ⊢
  have ex3 : mB oIx (mV 1) (mK (.int 3)) [some (.ref d), some (Rq.pt p o xs).enc, some (.ref (lw p)), some (.ref (h.length + 2)), none] H1 = .ok (.tup (wl xs)) H1 := eq_of_wR (by simp [Rq.enc])
  have hw0 : ((wl xs).length : Int).toNat = xs.length := by rw [wl_len]; omega
  have hw1 : ((wl xs).length : Int) = xs.length := by rw [wl_len]
  simp -implicitDefEqProofs [a1, gV, ex3, hw0, hw1]
  refine ⟨by omega, ?_⟩
  have hz : ∀ z, z = xs.length → rangeV 0 z = rangeV 0 xs.length := fun z e => by rw [e]
  rw [hz _ hw0, show rangeV 0 xs.length = (List.range' 0 xs.length).map fun i : Nat => Val.int (i : Nat) by rw [← List.range_eq_range']; simp [rangeV], hB]
  refine lfB_loop (V := V) (h0 := h) (q := h.length + 2) (by omega) (by omega) xs.length 0 none H1 (by omega) x1 (by rw [ovr_zero]; exact gV1) fun x4 h3 ex el => ?_
  have k3 := k.ext ex
  have g3 := ex.at h2
  have hd3 := k3.law
  have em : (if ((o : Int) + (xs.length : Int)) > ((sl.W p).length : Int) then ((o : Int) + (xs.length : Int)) else ((sl.W p).length : Int)) = ((max (sl.W p).length (o + xs.length) : Nat) : Int) := by
    split <;> omega
  have ec : cut (wl (ovr V xs o xs.length)) none (some ((max (sl.W p).length (o + xs.length) : Nat) : Int)) = wl (wide (sl.W p) o xs) := by
    rw [cut_wl_to, ← wide_eq ho w48, ← hV]
  obtain ⟨H4, E4⟩ : ∃ H : Heap, H = h3 ++ [.lst (wl (wide (sl.W p) o xs))] := ⟨_, rfl⟩
  have k4 := k3.ext (h' := H4) ⟨_, E4⟩
  have hd4 := k4.law
  have g4 : H4[h3.length]? = some (.lst (wl (wide (sl.W p) o xs))) := by rw [E4]; exact at_len
  have es := tSet_word (ws := wide (sl.W p) o xs) hd4 pk hp hf hl (x := h3.length)
  have ev : (mSl (mV 3) (pNo) (pSo (mL bMax2 (mCons (mL bLen (mCons (mV 2) (mNil))) (mCons (mB oAdd (mB oIx (mV 1) (mK (.int 2))) (mL bLen (mCons (mB oIx (mV 1) (mK (.int 3))) (mNil)))) (mNil)))))) [some (.ref d), some (Rq.pt p o xs).enc, some (.ref (lw p)), some (.ref (h.length + 2)), x4] h3 = .ok (.ref h3.length) H4 := by
    refine eq_of_wR ?_
    rw [E4]
    simp -implicitDefEqProofs only [wR_mSl, wR_pNo, wR_pSo, wR_mV1, wR_mV0, wR_mCons, wR_mK, wR_mNil, wR_mL, wR_mB, wR_bLenL, g3, Rq.enc, wR_oIxT]
    simp -implicitDefEqProofs [eN, wl_len, em, el, ec]
  rw [← hY] at ev
  have K := k4.law_ (sl' := setW sl p (wide (sl.W p) o xs)) (lw' := fu lw p h3.length) ((k4.f2.word g4).set (law_nb hd4))
  have ex2 : oIx (Rq.pt p o xs).enc (Val.int 1) H4 = .ok (.tup (p.map eN)) H4 := by
    refine eq_of_wR ?_
    simp -implicitDefEqProofs only [Rq.enc, wR_oIxT]
    simp [eP]
  simp -implicitDefEqProofs [ev, ex2]
  rw [es]
  simp -implicitDefEqProofs [l2, ok]
  exact ⟨h3.length, K⟩
theorem lf_ok (i : Inv sl) (k : St pp aa ns a lw d s sl h) (hl : sl.L.length < 1000) {r : Rq} (hr : r.Ok) (ho : onFile r = true) (hp : r.p ∈ sl.L) (hf : sl.D r.p = false) :
    ∃ lw' h', m__law_file [.ref d, r.enc] h = .ok (ansV sl r) h' ∧ St pp aa ns a lw' d s (nxt sl r) h' := by
  have hd := k.law
  have h2 := k.f2 _ hp hf
  have w48 := i.w48 r.p
  have pk : r.p.length ≤ 1000 := by have := (i.rg _ hp).1; omega
  have l2 : 2 ≤ lim := by decide
  have l60 : 60 ≤ lim := by decide
  have dn : ¬ sl.D r.p = true := by rw [hf]; decide
  have et := tIxV_at hd pk hp
  have ep : pv sl lw r.p = .ref (lw r.p) := if_neg dn
  rw [ep] at et
  obtain ⟨LP, hP⟩ : ∃ X, X = lfP := ⟨_, rfl⟩
  cases r with
  | sz p =>
    simp only [Rq.p] at hp dn h2 et pk hf
    have ea : ansV sl (.sz p) = ok (eN (sl.W p).length) := by simp [ansV, hp, hf]
    rw [ea]
    refine ⟨lw, h, eq_of_wR ?_, k⟩
    rw [lf_cut]
    refine wRB rfl ?_
    rw [← hP]
    simp -implicitDefEqProofs [Rq.enc, gV, et, h2, l2, ok, eN, wl_len]
  | gt p o n =>
    simp only [Rq.p] at hp dn h2 et pk hf w48
    have ea : ansV sl (.gt p o n) = ok (.tup (wl (((sl.W p).take (o + n)).drop o))) := by simp [ansV, hp, hf]
    rw [ea]
    refine ⟨lw, h ++ [.lst (wl (((sl.W p).take (o + n)).drop o))], eq_of_wR ?_, k.ext ⟨_, rfl⟩⟩
    rw [lf_cut]
    refine wRB rfl ?_
    rw [← hP]
    simp -implicitDefEqProofs [Rq.enc, gV, et, h2, l2, ok, eN, cut_wl_both, wl_len]
    try omega
  | sh p n =>
    simp only [Rq.p] at hp dn h2 et pk hf w48
    have ea : ansV sl (.sh p n) = ok .non := by simp [ansV, hp, hf]
    have en : nxt sl (.sh p n) = setW sl p ((sl.W p).take n) := by simp [nxt, hp, hf]
    rw [ea, en]
    obtain ⟨H4, E4⟩ : ∃ H : Heap, H = h ++ [.lst (wl ((sl.W p).take n))] := ⟨_, rfl⟩
    have k4 := k.ext (h' := H4) ⟨_, E4⟩
    have hd4 := k4.law
    have g4 : H4[h.length]? = some (.lst (wl ((sl.W p).take n))) := by rw [E4]; exact at_len
    have es := tSet_word (ws := (sl.W p).take n) hd4 pk hp hf hl (x := h.length)
    have K := k4.law_ (sl' := setW sl p ((sl.W p).take n)) (lw' := fu lw p h.length) ((k4.f2.word g4).set (law_nb hd4))
    refine ⟨fu lw p h.length, _, eq_of_wR ?_, K⟩
    rw [lf_cut]
    refine wRB rfl ?_
    rw [← hP]
    rw [E4] at es
    simp -implicitDefEqProofs [Rq.enc, gV, et, h2, l2, ok, eN, cut_wl_to]
    unfold eP
    simp -implicitDefEqProofs only
    rw [es]
    simp -implicitDefEqProofs [l2, E4]
  | pt p o ws =>
    simp only [Rq.p] at hp dn h2 et pk hf w48
    by_cases h48 : o + ws.length ≤ 48
    · have ea : ansV sl (.pt p o ws) = ok .non := by simp [ansV, hp, hf, h48]
      have en : nxt sl (.pt p o ws) = setW sl p (wide (sl.W p) o ws) := by simp [nxt, hp, hf, h48]
      rw [ea, en]
      obtain ⟨_, _, w, _, _⟩ := lfP_ok i k hl hp hf h48
      have w2 : wR (m__law_file [.ref d, (Rq.pt p o ws).enc] h) (fun _ _ => False) fun v h' => v = ok .non ∧ ∃ x, St pp aa ns a (fu lw p x) d s (setW sl p (wide (sl.W p) o ws)) h' := by
        rw [lf_cut]
        refine wRB rfl ?_
        rw [← hP] at w ⊢
        have e48 : ¬ (48 : Int) < (o : Int) + (ws.length : Int) := by omega
        have w' := w
        simp only [Rq.enc] at w'
        simp -implicitDefEqProofs [Rq.enc, gV, et, h2, l2, eN, wl_len, e48]
        simp only [eN] at w'
        exact wS_mono' w' (fun _ _ q => q.elim) (fun v h' q => q) rfl rfl rfl
      obtain ⟨v, h', e, rfl, x, K⟩ := ex_of_wR w2
      exact ⟨_, h', e, K⟩
    · have ea : ansV sl (.pt p o ws) = no 16 := by simp [ansV, hp, hf, h48]
      have en : nxt sl (.pt p o ws) = sl := by simp [nxt, hp, hf, h48]
      rw [ea, en]
      refine ⟨lw, h, eq_of_wR ?_, k⟩
      rw [lf_cut]
      refine wRB rfl ?_
      rw [← hP]
      have e48 : (48 : Int) < (o : Int) + (ws.length : Int) := by omega
      simp -implicitDefEqProofs [Rq.enc, gV, et, h2, l2, no, eN, wl_len, e48]
  | mk p dr => cases ho
  | dp p => cases ho
  | ls p => cases ho
end
end Lw

set_option Elab.async false
set_option linter.all false
set_option autoImplicit false
set_option maxHeartbeats 4000000
namespace Lw
open PyM
section
variable {pp aa : Nat} {ns : List Int} {a : Ad} {lw : Pa → Nat} {d : Nat} {s sl : S} {h h' : Heap}
def ldA : En → Heap → RS := (sSeq (sIf (tOr_ (tB_ (mB (oEq false) (mV 3) (mTup (mNil)))) (tB_ (mB (oEq true) (mGetV1 (mV 0) (mSl (mV 3) (pNo) (pSo (mU oNeg (mK (.int 1)))))) (mK (.str 9))))) (sRet (mTup (mCons (mK (.str 11)) (mCons (mK (.str 12)) (mNil))))) (sNx))
    (sSeq (sIf (tB_ (mB (oEq false) (mV 2) (mK (.str 2)))) (sSeq (sIf (tB_ (mB (tInV false) (mV 3) (mV 0))) (sRet (mTup (mCons (mK (.str 11)) (mCons (mK (.str 14)) (mNil))))) (sNx))
    (sSeq (sSubV (mV 0) (mV 3) (mB oIx (mLst (mCons (mK (.str 9)) (mCons (mLst (mNil)) (mNil)))) (mL bInt (mCons (mB (oEq false) (mB oIx (mV 1) (mK (.int 2))) (mK (.str 10))) (mNil)))))
    (sRet (mTup (mCons (mK (.str 13)) (mCons (mK .non) (mNil))))))) (sNx))
    (sSeq (sIf (tB_ (mB (tInV true) (mV 3) (mV 0))) (sRet (mTup (mCons (mK (.str 11)) (mCons (mK (.str 12)) (mNil))))) (sNx))
    (sSeq (sIf (tB_ (mB (oEq true) (mCall m__law_names [] (mCons (mV 0) (mCons (mV 3) (mNil)))) (mLst (mNil)))) (sRet (mTup (mCons (mK (.str 11)) (mCons (mK (.str 15)) (mNil))))) (sNx))
    (sSeq (sDrop (mPopV1 (mV 0) (mV 3)))
    (sRet (mTup (mCons (mK (.str 13)) (mCons (mK .non) (mNil))))))))))
def ldB : En → Heap → RS := (sSeq (sIf (tB_ (mB (tInV true) (mV 3) (mV 0))) (sRet (mTup (mCons (mK (.str 11)) (mCons (mK (.str 12)) (mNil))))) (sNx))
    (sSeq (sIf (tB_ (mB (oEq false) (mV 2) (mK (.str 8)))) (sSeq (sIf (tB_ (mB (oEq true) (mB tIxV (mV 0) (mV 3)) (mK (.str 9)))) (sRet (mTup (mCons (mK (.str 11)) (mCons (mK (.str 10)) (mNil))))) (sNx))
    (sRet (mTup (mCons (mK (.str 13)) (mCons (mL bTuple (mCons (mCall m__law_names [] (mCons (mV 0) (mCons (mV 3) (mNil)))) (mNil))) (mNil)))))) (sNx))
    (sSeq (sIf (tB_ (mB (oEq false) (mB tIxV (mV 0) (mV 3)) (mK (.str 9)))) (sRet (mTup (mCons (mK (.str 11)) (mCons (mK (.str 9)) (mNil))))) (sNx))
    (sRet (mCall m__law_file [] (mCons (mV 0) (mCons (mV 1) (mNil))))))))
theorem ld_cut : m__law_due = runB 2 4
    (sSeq (sPar2 2 3 (mCons (mB oIx (mV 1) (mK (.int 0))) (mCons (mB oIx (mV 1) (mK (.int 1))) (mNil))))
    (sSeq (sIf (tB_ (mB (oIn false) (mV 2) (mTup (mCons (mK (.str 2)) (mCons (mK (.str 7)) (mNil)))))) ldA (sNx)) ldB)) := rfl
theorem enc_ix (r : Rq) : ∃ xs, r.enc = .tup xs ∧ L2.atI xs 0 = some (.str (wd r)) ∧ L2.atI xs 1 = some (eP r.p) := by
  cases r <;> exact ⟨_, rfl, rfl, rfl⟩
theorem in27 {i : Nat} {H : Heap} : oIn false (.str i) (.tup [.str 2, .str 7]) H = .ok (.bl (decide (i = 2) || decide (i = 7))) H := by
  rw [oIn_tup rfl rfl]
  congr 2
  by_cases q : i = 2
  · subst q; rfl
  · by_cases q7 : i = 7
    · subst q7; rfl
    · have e2 : ¬ 2 = i := fun z => q z.symm
      have e7 : ¬ 7 = i := fun z => q7 z.symm
      simp [feq, q, q7, e2, e7]
theorem ld_start {r : Rq} {E : Nat → Heap → Prop} {Q : Val → Heap → Prop} {t : Val} (w : (wd r = 2 ∨ wd r = 7 → wS (sSeq ldA ldB [some t, some r.enc, some (.str (wd r)), some (eP r.p)] h) { nx := fun s h => Q .non h, rt := Q, ex := E }) ∧ (¬ (wd r = 2 ∨ wd r = 7) → wS (ldB [some t, some r.enc, some (.str (wd r)), some (eP r.p)] h) { nx := fun s h => Q .non h, rt := Q, ex := E })) : wR (m__law_due [t, r.enc] h) E Q := by
  obtain ⟨xs, e1, e2, e3⟩ := enc_ix r
  have l2 : 2 ≤ lim := by decide
  rw [ld_cut]
  refine wRB rfl ?_
  rw [e1] at w ⊢
  obtain ⟨XA, hA⟩ : ∃ X, X = ldA := ⟨_, rfl⟩
  obtain ⟨XB, hB⟩ : ∃ X, X = ldB := ⟨_, rfl⟩
  rw [← hA, ← hB] at w ⊢
  by_cases q : wd r = 2 ∨ wd r = 7
  · have qb : (decide (wd r = 2) || decide (wd r = 7)) = true := by simpa using q
    have w1 := w.1 q
    simp -implicitDefEqProofs [e2, e3, in27, l2, qb] at w1 ⊢
    exact w1
  · have qb : (decide (wd r = 2) || decide (wd r = 7)) = false := by simpa using q
    have w1 := w.2 q
    simp -implicitDefEqProofs [e2, e3, in27, l2, qb]
    exact w1
end
end Lw

set_option Elab.async false
set_option linter.all false
set_option autoImplicit false
set_option maxHeartbeats 4000000
namespace Lw
open PyM
section
variable {pp aa : Nat} {ns : List Int} {a : Ad} {lw : Pa → Nat} {d : Nat} {s sl : S} {h h' : Heap}
def ldC : En → Heap → RS := (sSeq (sIf (tB_ (mB (oEq false) (mV 2) (mK (.str 2)))) (sSeq (sIf (tB_ (mB (tInV false) (mV 3) (mV 0))) (sRet (mTup (mCons (mK (.str 11)) (mCons (mK (.str 14)) (mNil))))) (sNx))
    (sSeq (sSubV (mV 0) (mV 3) (mB oIx (mLst (mCons (mK (.str 9)) (mCons (mLst (mNil)) (mNil)))) (mL bInt (mCons (mB (oEq false) (mB oIx (mV 1) (mK (.int 2))) (mK (.str 10))) (mNil)))))
    (sRet (mTup (mCons (mK (.str 13)) (mCons (mK .non) (mNil))))))) (sNx))
    (sSeq (sIf (tB_ (mB (tInV true) (mV 3) (mV 0))) (sRet (mTup (mCons (mK (.str 11)) (mCons (mK (.str 12)) (mNil))))) (sNx))
    (sSeq (sIf (tB_ (mB (oEq true) (mCall m__law_names [] (mCons (mV 0) (mCons (mV 3) (mNil)))) (mLst (mNil)))) (sRet (mTup (mCons (mK (.str 11)) (mCons (mK (.str 15)) (mNil))))) (sNx))
    (sSeq (sDrop (mPopV1 (mV 0) (mV 3)))
    (sRet (mTup (mCons (mK (.str 13)) (mCons (mK .non) (mNil)))))))))
theorem ldA_eq : ldA = sSeq (sIf (tOr_ (tB_ (mB (oEq false) (mV 3) (mTup (mNil)))) (tB_ (mB (oEq true) (mGetV1 (mV 0) (mSl (mV 3) (pNo) (pSo (mU oNeg (mK (.int 1)))))) (mK (.str 9))))) (sRet (mTup (mCons (mK (.str 11)) (mCons (mK (.str 12)) (mNil))))) (sNx)) ldC := rfl
theorem pl_eP {p : Pa} : pl 60 (.tup (p.map eN)) = true := pl_tup fun x hx => by
  obtain ⟨n, _, rfl⟩ := List.mem_map.mp hx
  rfl
theorem eqTop {p : Pa} {H : Heap} : oEq false (.tup (p.map eN)) (.tup []) H = .ok (.bl (decide (p = []))) H := by
  rw [oEq_pl pl_eP rfl]
  congr 2
  rw [Bool.eq_iff_iff]
  simp
theorem dirB_no {p : Pa} (h : dirB sl p = false) : p = [] ∨ ∃ q n, p = q ++ [n] ∧ (decide (q ∈ sl.L) && sl.D q) = false := by
  rcases snoc_cases p with rfl | ⟨q, n, rfl⟩
  · exact .inl rfl
  · refine .inr ⟨q, n, rfl, ?_⟩
    unfold dirB at h
    rw [par_snoc] at h
    simpa using h
theorem snoc_nil {q : Pa} {n : Nat} : ¬ q ++ [n] = [] := by simp
theorem eqEmp {q b : Nat} {xs : List Int} {H : Heap} (e1 : H[q]? = some (.lst (xs.map .int))) (e2 : H[b]? = some (.lst [])) : oEq true (.ref q) (.ref b) H = .ok (.bl (decide (xs ≠ []))) H := by
  unfold oEq
  rw [conv_lst e1 (List.all_eq_true.mpr fun x hx => by
      obtain ⟨n, _, rfl⟩ := List.mem_map.mp hx
      rfl), conv_lst e2 rfl]
  cases xs with
  | nil => simp [deq, deqs, Val.ds]
  | cons x t => simp [deq, deqs, Val.ds]
theorem sortN_nil {C : List Nat} : sortN C = [] ↔ C = [] := by
  have : (sortN C).length = C.length := by
    unfold sortN
    rw [(sortI_perm _).length_eq, List.length_map]
  rw [← List.length_eq_zero_iff, this, List.length_eq_zero_iff]
theorem eqTopS {q : Pa} {n : Nat} {H : Heap} : oEq false (.tup (q.map eN ++ [eN n])) (.tup []) H = .ok (.bl false) H := by
  have e := eqTop (p := q ++ [n]) (H := H)
  rw [List.map_append] at e
  have e2 : decide (q ++ [n] = []) = false := decide_eq_false snoc_nil
  rw [e2] at e
  exact e
theorem ld_dir {r : Rq} {E : Nat → Heap → Prop} {Q : Val → Heap → Prop} (k : St pp aa ns a lw d s sl h) (hr : r.Ok) (hw : wd r = 2 ∨ wd r = 7)
    (no12 : dirB sl r.p = false → Q (no 12) h)
    (yes : dirB sl r.p = true → wS (sSeq ldC ldB [some (.ref d), some r.enc, some (.str (wd r)), some (eP r.p)] h) { nx := fun s h => Q .non h, rt := Q, ex := E }) : wR (m__law_due [.ref d, r.enc] h) E Q := by
  have l2 : 2 ≤ lim := by decide
  refine ld_start ⟨fun _ => ?_, fun q => absurd hw q⟩
  obtain ⟨XB, hB⟩ : ∃ X, X = ldB := ⟨_, rfl⟩
  rw [← hB] at yes ⊢
  have hd := k.law
  have pk := hr.path
  obtain ⟨XR, hR⟩ : ∃ X, X = r.enc := ⟨_, rfl⟩
  obtain ⟨p, hp⟩ : ∃ p, p = r.p := ⟨_, rfl⟩
  rw [← hp] at no12 yes pk ⊢
  rw [← hR] at yes ⊢
  rw [ldA_eq]
  obtain ⟨XY, hY⟩ : ∃ X, X = ldC := ⟨_, rfl⟩
  rw [← hY] at yes ⊢
  have et := fun (q : Pa) (hq : q.length ≤ 1000) => tGet_law (p := q) hd hq
  cases hb : dirB sl p with
  | false =>
    have w := no12 hb
    rcases dirB_no hb with rfl | ⟨q, n, rfl, hq⟩
    · simp -implicitDefEqProofs [eP, eqTop, l2]
      exact w
    · have nd := neDir k.f2 (p := q)
      rw [hq] at nd
      have ql : q.length ≤ 1000 := by have := pk.1; simp at this; omega
      simp -implicitDefEqProofs [eP_snoc, eqTopS, isD_law hd, cut_last, et q ql, nd, l2]
      exact w
  | true =>
    have w := yes hb
    obtain ⟨q, n, rfl, hq, hdq⟩ := dirB_snoc hb
    have nd := neDir k.f2 (p := q)
    have ql : q.length ≤ 1000 := by have := pk.1; simp at this; omega
    have hz : (decide (q ∈ sl.L) && sl.D q) = true := by simp [hq, hdq]
    rw [hz] at nd
    rw [wS_sSeq] at w
    simp -implicitDefEqProofs [eP_snoc, eqTopS, isD_law hd, cut_last, et q ql, nd, l2]
    rw [eP_snoc] at w
    exact w
theorem ld_mk (i : Inv sl) (k : St pp aa ns a lw d s sl h) (hl : sl.L.length < 1000) {p : Pa} {dr : Bool} (hr : (Rq.mk p dr).Ok) :
    ∃ lw' h', m__law_due [.ref d, (Rq.mk p dr).enc] h = .ok (ansV sl (.mk p dr)) h' ∧ St pp aa ns a lw' d s (nxt sl (.mk p dr)) h' := by
  have l2 : 2 ≤ lim := by decide
  have l0 : 0 ≤ lim := by decide
  have hd := k.law
  have pk : p.length ≤ 1000 := by have := hr.1; omega
  have ea : ansV sl (.mk p dr) = if dirB sl p = true then if p ∈ sl.L then no 14 else ok .non else no 12 := rfl
  have en : nxt sl (.mk p dr) = if dirB sl p = true then if p ∈ sl.L then sl else addS sl p dr else sl := rfl
  cases hb : dirB sl p with
  | false =>
    have nb : ¬ dirB sl p = true := by rw [hb]; decide
    rw [ea, en, if_neg nb, if_neg nb]
    refine ⟨lw, h, eq_of_wR (ld_dir k hr (.inl rfl) (fun _ => ⟨rfl, rfl⟩) fun q => absurd q nb), k⟩
  | true =>
    rw [ea, en, if_pos hb, if_pos hb]
    have ei := tInV_at (neg := false) hd pk
    by_cases hp : p ∈ sl.L
    · rw [if_pos hp, if_pos hp]
      refine ⟨lw, h, eq_of_wR (ld_dir k hr (.inl rfl) (fun q => ?_) fun q => ?_), k⟩
      · have : dirB sl p = false := q
        rw [hb] at this
        cases this
      · obtain ⟨XB, hB⟩ : ∃ X, X = ldB := ⟨_, rfl⟩
        rw [← hB]
        unfold ldC
        simp -implicitDefEqProofs [wd, Rq.p, ei, hp, l2, no]
    · rw [if_neg hp, if_neg hp]
      obtain ⟨H4, E4⟩ : ∃ H : Heap, H = h ++ [.lst [], .lst [.str 9, .ref h.length]] := ⟨_, rfl⟩
      have k4 := k.ext (h' := H4) ⟨_, E4⟩
      have hd4 := k4.law
      have g4 : H4[h.length]? = some (.lst []) := by rw [E4]; exact at_app 0 rfl rfl
      have g5 : H4[h.length + 1]? = some (.lst [.str 9, .ref h.length]) := by rw [E4]; exact at_app 1 rfl rfl
      have es := tSet_new (dr := dr) hd4 pk hp hl (x := h.length)
      have K := k4.law_ (sl' := addS sl p dr) (lw' := fu lw p h.length) ((k4.f2.add hp fun _ => g4).set (law_nb hd4))
      have ev : (mB oIx (mLst (mCons (mK (.str 9)) (mCons (mLst (mNil)) (mNil)))) (mL bInt (mCons (mB (oEq false) (mB oIx (mV 1) (mK (.int 2))) (mK (.str 10))) (mNil)))) [some (.ref d), some (Rq.mk p dr).enc, some (.str 2), some (eP p)] h = .ok (if dr = true then .str 9 else .ref h.length) H4 := by
        refine eq_of_wR ?_
        have ap : h ++ [Obj.lst [], Obj.lst [Val.str 9, Val.ref h.length]] = (h ++ [Obj.lst []]) ++ [Obj.lst [Val.str 9, Val.ref h.length]] := by simp
        rw [E4, ap]
        have gg : ((h ++ [Obj.lst []]) ++ [Obj.lst [Val.str 9, Val.ref h.length]])[h.length + 1]? = some (Obj.lst [Val.str 9, Val.ref h.length]) := by rw [← ap]; exact at_app 1 rfl rfl
        cases dr <;> simp -implicitDefEqProofs [Rq.enc, kD, l2, l0] <;> try simp -implicitDefEqProofs [gg]
      refine ⟨fu lw p h.length, _, eq_of_wR (ld_dir k hr (.inl rfl) (fun q => ?_) fun q => ?_), K⟩
      · have : dirB sl p = false := q
        rw [hb] at this
        cases this
      · obtain ⟨XB, hB⟩ : ∃ X, X = ldB := ⟨_, rfl⟩
        rw [← hB]
        unfold ldC
        obtain ⟨XV, hV⟩ : ∃ X, X = (mB oIx (mLst (mCons (mK (.str 9)) (mCons (mLst (mNil)) (mNil)))) (mL bInt (mCons (mB (oEq false) (mB oIx (mV 1) (mK (.int 2))) (mK (.str 10))) (mNil)))) := ⟨_, rfl⟩
        rw [← hV] at ev ⊢
        unfold eP at ev ei
        simp -implicitDefEqProofs [wd, Rq.p, eP, ei, hp, l2, ev]
        rw [es]
        simp -implicitDefEqProofs [l2, ok]
end
end Lw

set_option Elab.async false
set_option linter.all false
set_option autoImplicit false
set_option maxHeartbeats 4000000
namespace Lw
open PyM
section
variable {pp aa : Nat} {ns : List Int} {a : Ad} {lw : Pa → Nat} {d : Nat} {s sl : S} {h h' : Heap}
theorem ld_dp (i : Inv sl) (k : St pp aa ns a lw d s sl h) (hl : sl.L.length < 1000) {p : Pa} (hr : (Rq.dp p).Ok) :
    ∃ lw' h', m__law_due [.ref d, (Rq.dp p).enc] h = .ok (ansV sl (.dp p)) h' ∧ St pp aa ns a lw' d s (nxt sl (.dp p)) h' := by
  have l2 : 2 ≤ lim := by decide
  have l0 : 0 ≤ lim := by decide
  have hd := k.law
  have pk : p.length ≤ 1000 := by have := hr.1; omega
  have ea : ansV sl (.dp p) = if dirB sl p = true then if p ∈ sl.L then if sl.C p = [] then ok .non else no 15 else no 12 else no 12 := rfl
  have en : nxt sl (.dp p) = if dirB sl p = true then if p ∈ sl.L then if sl.C p = [] then delS sl p else sl else sl else sl := rfl
  cases hb : dirB sl p with
  | false =>
    have nb : ¬ dirB sl p = true := by rw [hb]; decide
    rw [ea, en, if_neg nb, if_neg nb]
    refine ⟨lw, h, eq_of_wR (ld_dir k hr (.inr rfl) (fun _ => ⟨rfl, rfl⟩) fun q => absurd q nb), k⟩
  | true =>
    rw [ea, en, if_pos hb, if_pos hb]
    have hf : ∀ {P : Prop}, dirB sl (Rq.dp p).p = false → P := fun {P} q => by
      have : dirB sl p = false := q
      rw [hb] at this
      cases this
    have ei := tInV_at (neg := true) hd pk
    unfold eP at ei
    by_cases hp : p ∈ sl.L
    · rw [if_pos hp, if_pos hp]
      obtain ⟨q, h1, e1, x1, g1⟩ := names_ok i hd hl hp
      obtain ⟨H4, E4⟩ : ∃ H : Heap, H = h1 ++ [.lst []] := ⟨_, rfl⟩
      have k4 := (k.ext x1).ext (h' := H4) ⟨_, E4⟩
      have hd4 := k4.law
      have g4 : H4[q]? = some (.lst ((sortN (sl.C p)).map .int)) := by rw [E4]; exact at_push g1
      have g5 : H4[h1.length]? = some (.lst []) := by rw [E4]; exact at_len
      have ee := eqEmp g4 g5
      unfold eP at e1
      have lz : ((List.length ([] : List Val)) ≤ lim) := l0
      by_cases hc : sl.C p = []
      · rw [if_pos hc, if_pos hc]
        have hs : sortN (sl.C p) = [] := sortN_nil.mpr hc
        have hs' : decide (sortN (sl.C p) ≠ []) = false := by simp [hs]
        rw [hs'] at ee
        have tp := tPop_law hd4 pk hp
        have K := k4.law_ (sl' := delS sl p) (lw' := lw) (k4.f2.del.set (law_nb hd4))
        have id4 := isD_law hd4
        have e1' := e1
        refine ⟨lw, _, eq_of_wR (ld_dir k hr (.inr rfl) hf fun _ => ?_), K⟩
        obtain ⟨XB, hB⟩ : ∃ X, X = ldB := ⟨_, rfl⟩
        rw [← hB]
        unfold ldC
        rw [E4] at ee tp id4 ⊢
        simp -implicitDefEqProofs [wd, Rq.p, ei, hp, l2, l0, eP, e1', ee, tp, id4, ok]
      · rw [if_neg hc, if_neg hc]
        have hs : ¬ sortN (sl.C p) = [] := fun z => hc (sortN_nil.mp z)
        have hs' : decide (sortN (sl.C p) ≠ []) = true := by simp [hs]
        rw [hs'] at ee
        refine ⟨lw, H4, eq_of_wR (ld_dir k hr (.inr rfl) hf fun _ => ?_), k4⟩
        obtain ⟨XB, hB⟩ : ∃ X, X = ldB := ⟨_, rfl⟩
        rw [← hB]
        unfold ldC
        rw [E4] at ee ⊢
        simp -implicitDefEqProofs [wd, Rq.p, ei, hp, l2, l0, eP, e1, ee, no]
    · rw [if_neg hp, if_neg hp]
      refine ⟨lw, h, eq_of_wR (ld_dir k hr (.inr rfl) hf fun _ => ?_), k⟩
      obtain ⟨XB, hB⟩ : ∃ X, X = ldB := ⟨_, rfl⟩
      rw [← hB]
      unfold ldC
      simp -implicitDefEqProofs [wd, Rq.p, ei, hp, l2, l0, eP, no]
theorem ld_in {r : Rq} {E : Nat → Heap → Prop} {Q : Val → Heap → Prop} {t : Val} (q2 : ¬ wd r = 2) (q7 : ¬ wd r = 7) (w : wS (ldB [some t, some r.enc, some (.str (wd r)), some (eP r.p)] h) { nx := fun s h => Q .non h, rt := Q, ex := E }) : wR (m__law_due [t, r.enc] h) E Q :=
  ld_start ⟨fun z => by rcases z with z | z; exact absurd z q2; exact absurd z q7, fun _ => w⟩
theorem ld_ls (i : Inv sl) (k : St pp aa ns a lw d s sl h) (hl : sl.L.length < 1000) {p : Pa} (hr : (Rq.ls p).Ok) :
    ∃ lw' h', m__law_due [.ref d, (Rq.ls p).enc] h = .ok (ansV sl (.ls p)) h' ∧ St pp aa ns a lw' d s (nxt sl (.ls p)) h' := by
  have l2 : 2 ≤ lim := by decide
  have l0 : 0 ≤ lim := by decide
  have hd := k.law
  have pk : p.length ≤ 1000 := by have := hr.1; omega
  have ea : ansV sl (.ls p) = if p ∈ sl.L then if sl.D p = true then ok (.tup ((sortN (sl.C p)).map .int)) else no 10 else no 12 := rfl
  have ei := tInV_at (neg := true) hd pk
  unfold eP at ei
  rw [ea]
  by_cases hp : p ∈ sl.L
  · rw [if_pos hp]
    have et := tIxV_at hd pk hp
    have ed := fun neg => eqDir k.f2 hp (neg := neg)
    unfold eP at et
    have ed1 := ed true
    rw [if_pos rfl] at ed1
    by_cases hc : sl.D p = true
    · rw [if_pos hc]
      rw [hc] at ed1
      obtain ⟨q, h1, e1, x1, g1⟩ := names_ok i hd hl hp
      unfold eP at e1
      have l4' : (sortN (sl.C p)).length ≤ lim := by
        unfold sortN
        rw [(sortI_perm _).length_eq, List.length_map]
        have := i.c64 hp
        have : 4 ≤ lim := by decide
        omega
      refine ⟨lw, h1, eq_of_wR (ld_in (by simp [wd]) (by simp [wd]) ?_), k.ext x1⟩
      unfold ldB
      simp -implicitDefEqProofs [wd, Rq.p, ei, hp, l2, l0, eP, et, ed1, e1, g1, l4', ok]
    · rw [if_neg hc]
      have hc' : sl.D p = false := by simpa using hc
      rw [hc'] at ed1
      refine ⟨lw, h, eq_of_wR (ld_in (by simp [wd]) (by simp [wd]) ?_), k⟩
      unfold ldB
      simp -implicitDefEqProofs [wd, Rq.p, ei, hp, l2, l0, eP, et, ed1, no]
  · rw [if_neg hp]
    refine ⟨lw, h, eq_of_wR (ld_in (by simp [wd]) (by simp [wd]) ?_), k⟩
    unfold ldB
    simp -implicitDefEqProofs [wd, Rq.p, ei, hp, l2, l0, eP, no]
theorem ld_ok (i : Inv sl) (k : St pp aa ns a lw d s sl h) (hl : sl.L.length < 1000) {r : Rq} (hr : r.Ok) :
    ∃ lw' h', m__law_due [.ref d, r.enc] h = .ok (ansV sl r) h' ∧ St pp aa ns a lw' d s (nxt sl r) h' := by
  have file : onFile r = true → ∃ lw' h', m__law_due [.ref d, r.enc] h = .ok (ansV sl r) h' ∧ St pp aa ns a lw' d s (nxt sl r) h' := fun ho => by
    have w2 : ¬ wd r = 2 := by cases r <;> first | (cases ho; done) | simp [wd]
    have w7 : ¬ wd r = 7 := by cases r <;> first | (cases ho; done) | simp [wd]
    have w8 : ¬ wd r = 8 := by cases r <;> first | (cases ho; done) | simp [wd]
    have l2 : 2 ≤ lim := by decide
    have hd := k.law
    have pk : r.p.length ≤ 1000 := by have := hr.path.1; omega
    have ei := tInV_at (neg := true) hd pk
    unfold eP at ei
    by_cases hp : r.p ∈ sl.L
    · have et := tIxV_at hd pk hp
      unfold eP at et
      have ed1 := eqDir k.f2 hp (neg := false)
      cases hc : sl.D r.p with
      | true =>
        rw [hc] at ed1
        have ea : ansV sl r = no 9 := by cases r <;> first | (cases ho; done) | (simp only [Rq.p] at hp hc; simp [ansV, hp, hc])
        have en : nxt sl r = sl := by cases r <;> first | (cases ho; done) | (simp only [Rq.p] at hp hc; simp [nxt, hp, hc])
        rw [ea, en]
        refine ⟨lw, h, eq_of_wR (ld_in w2 w7 ?_), k⟩
        unfold ldB
        simp -implicitDefEqProofs [w8, ei, hp, l2, eP, et, ed1, no]
      | false =>
        rw [hc] at ed1
        obtain ⟨lw', h', e, K⟩ := lf_ok i k hl hr ho hp hc
        refine ⟨lw', h', eq_of_wR (ld_in w2 w7 ?_), K⟩
        unfold ldB
        simp -implicitDefEqProofs [w8, ei, hp, l2, eP, et, ed1, e]
    · have ea : ansV sl r = no 12 := by cases r <;> first | (cases ho; done) | (simp only [Rq.p] at hp; simp [ansV, hp])
      have en : nxt sl r = sl := by cases r <;> first | (cases ho; done) | (simp only [Rq.p] at hp; simp [nxt, hp])
      rw [ea, en]
      refine ⟨lw, h, eq_of_wR (ld_in w2 w7 ?_), k⟩
      unfold ldB
      simp -implicitDefEqProofs [w8, ei, hp, l2, eP, no]
  cases r with
  | pt p o ws => exact file rfl
  | gt p o n => exact file rfl
  | sh p n => exact file rfl
  | sz p => exact file rfl
  | ls p => exact ld_ls i k hl hr
  | mk p dr => exact ld_mk i k hl hr
  | dp p => exact ld_dp i k hl hr
end
end Lw

set_option Elab.async false
set_option linter.all false
set_option autoImplicit false
set_option maxHeartbeats 4000000
namespace Lw
open PyM
section
variable {pp aa : Nat} {ns : List Int} {a : Ad} {lw : Pa → Nat} {d : Nat} {s sl : S} {h h' : Heap}
def flatL (s : S) : Nat → Pa → List Pa
  | 0, _ => []
  | n + 1, p => p :: (s.C p).flatMap fun m => flatL s n (p ++ [m])
structure Sp (a : Ad) (s : S) (h : Heap) (p : Pa) : Prop where
  pa : ∀ q ∈ s.L, p <+: q → h[a.A q]? = some (oA a s q)
  pb : ∀ q ∈ s.L, p <+: q → s.D q = true → h[a.B q]? = some (oN a s q)
structure Dj (a : Ad) (s : S) : Prop where
  ab : ∀ q ∈ s.L, s.D q = true → ∀ r ∈ s.L, a.B q ≠ a.A r
  bb : ∀ q ∈ s.L, s.D q = true → ∀ r ∈ s.L, s.D r = true → r ≠ q → a.B r ≠ a.B q
theorem oA_ne {p : Pa} {e : List (Val × Val)} : oA a s p ≠ .dcT e := by
  unfold oA
  split <;> exact fun z => by cases z
theorem Sp.kid {p : Pa} {m : Nat} (k : Sp a s h p) : Sp a s h (p ++ [m]) := ⟨fun q hq e => k.pa q hq ((List.prefix_append p [m]).trans e), fun q hq e => k.pb q hq ((List.prefix_append p [m]).trans e)⟩
theorem Sp.setT {p : Pa} {f : Nat} {e : List (Val × Val)} {o : Obj} (k : Sp a s h p) (ef : h[f]? = some (.dcT e)) : Sp a s (h.set f o) p := ⟨fun q hq z => by
  have := k.pa q hq z
  rw [at_set_ne (fun y => by rw [← y, ef] at this; injection this with this; exact oA_ne this.symm)]
  exact this, fun q hq z dq => by
  have := k.pb q hq z dq
  rw [at_set_ne (fun y => by rw [← y, ef] at this; cases this)]
  exact this⟩
theorem Sp.lock {p : Pa} {m : Nat} {o : Obj} (dj : Dj a s) (hp : p ∈ s.L) (hd : s.D p = true) (k : Sp a s h (p ++ [m])) : Sp a s (h.set (a.B p) o) (p ++ [m]) := ⟨fun q hq z => by
  rw [at_set_ne (dj.ab p hp hd q hq)]
  exact k.pa q hq z, fun q hq z dq => by
  rw [at_set_ne fun y => dj.bb p hp hd q hq dq (fun e => by
    have := z.length_le
    have h2 : (p ++ [m]).length = p.length + 1 := by simp
    rw [e] at this
    omega) y.symm]
  exact k.pb q hq z dq⟩
def flB (self_ : List Val → Heap → Res Val) : En → Heap → RS := (sDrop (mCall self_ [] (mCons (mB oIx (mB oIx (mV 0) (mK (.str 0))) (mV 3)) (mCons (mB oAdd (mV 1) (mTup (mCons (mV 3) (mNil)))) (mCons (mV 2) (mNil))))))
theorem fl_cut {self_ : List Val → Heap → Res Val} : m__law_flat_ self_ = runB 3 4
    (sSeq (sIf (tB_ (mB (oIn false) (mK (.str 1)) (mV 0))) (sSubV (mV 2) (mV 1) (mB oIx (mV 0) (mK (.str 1)))) (sSeq (sSubV (mV 2) (mV 1) (mK (.str 9)))
    (sForD (mB oIx (mV 0) (mK (.str 0))) (gV 3) (flB self_))))
    (sRet (mV 2))) := rfl
theorem fl_loop (dj : Dj a s) {self_ : List Val → Heap → Res Val} {F : Nat → List Pa} {f : Nat} {p : Pa} (hp : p ∈ s.L) (hd : s.D p = true) (pk : p.length ≤ 1000)
    (ih : ∀ m ∈ s.C p, ∀ (l : List Pa) (h : Heap), Sp a s h (p ++ [m]) → h[f]? = some (.dcT (dG eP (pv s a.B) l)) → (l ++ F m).Nodup → (l ++ F m).length ≤ 1000 → self_ [.ref (a.A (p ++ [m])), eP (p ++ [m]), .ref f] h = .ok (.ref f) (h.set f (.dcT (dG eP (pv s a.B) (l ++ F m))))) :
    ∀ (cs : List Nat) (l : List Pa) (x3 : Option Val) (h : Heap), (∀ m ∈ cs, m ∈ s.C p) → (∀ m, Sp a s h (p ++ [m])) → h[a.A p]? = some (oA a s p) → h[a.B p]? = some (.fdc (dG eN (fun n => .ref (a.A (p ++ [n]))) (s.C p))) → h[f]? = some (.dcT (dG eP (pv s a.B) l)) → (l ++ cs.flatMap F).Nodup → (l ++ cs.flatMap F).length ≤ 1000 →
      wS (forM_ (fun _ => true) (gV 3) (flB self_) (cs.map eN) [some (.ref (a.A p)), some (eP p), some (.ref f), x3] h) { nx := fun s' h' => (∃ x3, s' = [some (.ref (a.A p)), some (eP p), some (.ref f), x3]) ∧ h' = h.set f (.dcT (dG eP (pv s a.B) (l ++ cs.flatMap F))), rt := fun _ _ => False }
  | [], l, x3, h, _, _, _, _, hf, _, _ => by
    rw [List.map_nil, wS_forM_nil]
    refine ⟨rfl, ⟨x3, rfl⟩, ?_⟩
    rw [List.flatMap_nil, List.append_nil]
    have := set_same (x := .lst []) hf
    rw [List.set_set] at this
    exact this.symm
  | m :: cs, l, x3, h, hc, sp, h0, hb, hf, nd, ln => by
    rw [List.map_cons, wS_forM_cons]
    refine ⟨rfl, ?_⟩
    have hg : gV 3 (eN m) [some (.ref (a.A p)), some (eP p), some (.ref f), x3] = some [some (.ref (a.A p)), some (eP p), some (.ref f), some (eN m)] := rfl
    rw [hg]
    dsimp only
    rw [List.flatMap_cons, ← List.append_assoc] at nd ln ⊢
    have l1000 : 1000 < lim := by decide
    have lp : p.length + 1 ≤ lim := by omega
    have l1 : 1 ≤ lim := by omega
    have hm := hc m List.mem_cons_self
    have ihm := ih m hm l h (sp m) hf (List.nodup_append.mp nd).1 (by rw [List.length_append] at ln; omega)
    have lk : lookV (dG eN (fun n => Val.ref (a.A (p ++ [n]))) (s.C p)) (.int (m : Nat)) = some (.ref (a.A (p ++ [m]))) := lookG_in (f := fun n => Val.ref (a.A (p ++ [n]))) eN_inj hm
    have l0 : lookV [(Val.str 0, Val.ref (a.B p))] (.str 0) = some (.ref (a.B p)) := rfl
    have h0' : h[a.A p]? = some (.dct [(.str 0, .ref (a.B p))]) := by
      rw [h0]
      unfold oA
      rw [if_pos hd]
    obtain ⟨H1, E1⟩ : ∃ H : Heap, H = h.set f (.dcT (dG eP (pv s a.B) (l ++ F m))) := ⟨_, rfl⟩
    have eb : flB self_ [some (.ref (a.A p)), some (eP p), some (.ref f), some (eN m)] h = .nx [some (.ref (a.A p)), some (eP p), some (.ref f), some (eN m)] H1 := by
      refine eq_nx ?_
      unfold flB
      have ihm' : self_ [.ref (a.A (p ++ [m])), .tup (p.map eN ++ [.int (m : Nat)]), .ref f] h = .ok (.ref f) H1 := by
        rw [E1, ← ihm, eP_snoc]
        rfl
      simp -implicitDefEqProofs [eP, eN, h0', l0, hb, lk, lp, l1, ihm']
    rw [eb]
    have lt := at_lt hf
    have sp1 : ∀ m, Sp a s H1 (p ++ [m]) := fun m => by
      rw [E1]
      exact (sp m).setT hf
    have hf1 : H1[f]? = some (.dcT (dG eP (pv s a.B) (l ++ F m))) := by
      rw [E1]
      exact at_set hf
    have w := fl_loop dj hp hd pk ih cs (l ++ F m) (some (eN m)) H1 (fun m hm => hc m (List.mem_cons_of_mem _ hm)) sp1 (by
      rw [E1, at_set_ne (fun y => by rw [← y, hf] at h0'; cases h0')]
      exact h0) (by
      rw [E1, at_set_ne (fun y => by rw [← y, hf] at hb; cases hb)]
      exact hb) hf1 nd ln
    have es : ∀ o, H1.set f o = h.set f o := fun o => by rw [E1, List.set_set]
    rw [es] at w
    exact w
theorem pv_put {l : List Pa} {p : Pa} (hn : p ∉ l) {x : Val} (hx : x = pv s a.B p) : putV (dG eP (pv s a.B) l) (.tup (p.map eN)) x = dG eP (pv s a.B) (l ++ [p]) := by
  have e := putG_new (f := pv s a.B) (x := x) eP_inj hn
  have e' : putV (dG eP (pv s a.B) l) (.tup (p.map eN)) x = _ := e
  rw [e']
  refine dG_congr fun q _ => ?_
  by_cases z : q = p
  · subst z
    rw [fu_at, hx]
  · rw [fu_ne z]
theorem fl_ok (i : Inv s) (dj : Dj a s) {f : Nat} : ∀ (n : Nat) (p : Pa) (l : List Pa) (h : Heap), p ∈ s.L → 4 ≤ n + p.length → Sp a s h p → h[f]? = some (.dcT (dG eP (pv s a.B) l)) → (l ++ flatL s n p).Nodup → (l ++ flatL s n p).length ≤ 1000 →
    m__law_flat_n n [.ref (a.A p), eP p, .ref f] h = .ok (.ref f) (h.set f (.dcT (dG eP (pv s a.B) (l ++ flatL s n p))))
  | 0, p, l, h, hp, hn, _, _, _, _ => by
    have := (i.rg p hp).1
    omega
  | n + 1, p, l, h, hp, hn, sp, hf, nd, ln => by
    have pk := (i.rg p hp).1
    have pk' : p.length ≤ 1000 := by omega
    have l1000 : 1000 < lim := by decide
    unfold flatL at nd ln ⊢
    have h0 := sp.pa p hp List.prefix_rfl
    have hnl : p ∉ l := fun z => (List.nodup_append.mp nd).2.2 p z p List.mem_cons_self rfl
    rw [List.length_append, List.length_cons] at ln
    refine eq_of_wR ?_
    unfold m__law_flat_n
    rw [fl_cut]
    refine wRB rfl ?_
    obtain ⟨BB, hB⟩ : ∃ X, X = flB (m__law_flat_n n) := ⟨_, rfl⟩
    rw [← hB]
    have ts : ∀ x, x = pv s a.B p → tSet (.ref f) (p.map eN) x h = .ok () (h.set f (.dcT (dG eP (pv s a.B) (l ++ [p])))) := fun x hx => by
      rw [tSet_at hf (kOk pk') (by rw [dG_len]; omega), pv_put hnl hx]
    cases hd : s.D p with
    | false =>
      have hd' : ¬ s.D p = true := by rw [hd]; decide
      have hc := i.fl p hp hd
      rw [hc, List.flatMap_nil] at nd ln ⊢
      unfold oA at h0
      rw [if_neg hd'] at h0
      have e1 := oIn_str (neg := false) (i := 1) h0
      have l1 : lookV [(Val.str 1, Val.ref (a.B p))] (.str 1) = some (.ref (a.B p)) := rfl
      rw [l1] at e1
      have tsx := ts (.ref (a.B p)) (by unfold pv; rw [if_neg hd'])
      simp -implicitDefEqProofs [e1, h0, l1, eP]
      rw [tsx]
      simp -implicitDefEqProofs
    | true =>
      unfold oA at h0
      rw [if_pos hd] at h0
      have hb := sp.pb p hp List.prefix_rfl hd
      have hb0 := hb
      unfold oN at hb
      have e1 := oIn_str (neg := false) (i := 1) h0
      have l1 : lookV [(Val.str 0, Val.ref (a.B p))] (.str 1) = none := rfl
      have l0 : lookV [(Val.str 0, Val.ref (a.B p))] (.str 0) = some (.ref (a.B p)) := rfl
      rw [l1] at e1
      have tsx := ts (.str 9) (by unfold pv; rw [if_pos hd])
      obtain ⟨H1, E1⟩ : ∃ H : Heap, H = h.set f (.dcT (dG eP (pv s a.B) (l ++ [p]))) := ⟨_, rfl⟩
      rw [← E1] at tsx
      have fb : f ≠ a.B p := fun y => by rw [← y, hf] at hb; cases hb
      have fa : f ≠ a.A p := fun y => by rw [← y, hf] at h0; cases h0
      have h01 : H1[a.A p]? = some (.dct [(.str 0, .ref (a.B p))]) := by rw [E1, at_set_ne fa]; exact h0
      have hb1 : H1[a.B p]? = some (.dct (dG eN (fun n => .ref (a.A (p ++ [n]))) (s.C p))) := by rw [E1, at_set_ne fb]; exact hb
      have hf1 : H1[f]? = some (.dcT (dG eP (pv s a.B) (l ++ [p]))) := by rw [E1]; exact at_set hf
      have lkd := lockD_dct hb1
      rw [dG_keys] at lkd
      obtain ⟨H2, E2⟩ : ∃ H : Heap, H = H1.set (a.B p) (.fdc (dG eN (fun n => .ref (a.A (p ++ [n]))) (s.C p))) := ⟨_, rfl⟩
      rw [← E2] at lkd
      have sp2 : ∀ m, Sp a s H2 (p ++ [m]) := fun m => by
        rw [E2, E1]
        exact (sp.kid.setT hf).lock dj hp hd
      have assoc : l ++ p :: (s.C p).flatMap (fun m => flatL s n (p ++ [m])) = (l ++ [p]) ++ (s.C p).flatMap fun m => flatL s n (p ++ [m]) := by simp
      have w := fl_loop dj (self_ := m__law_flat_n n) (F := fun m => flatL s n (p ++ [m])) (f := f) hp hd pk' (fun m hm l' h' sp' hf' nd' ln' =>
          fl_ok i dj n (p ++ [m]) l' h' (i.dn _ _ hp hm) (by simp; omega) sp' hf' nd' ln') (s.C p) (l ++ [p]) none H2 (fun m hm => hm) sp2
        (by
          rw [E2, at_set_ne (fun y => dj.ab p hp hd p hp y), h01]
          unfold oA
          rw [if_pos hd])
        (by rw [E2]; exact at_set hb1)
        (by rw [E2, at_set_ne fb.symm]; exact hf1) (by rw [← assoc]; exact nd) (by rw [← assoc, List.length_append, List.length_cons]; exact ln)
      rw [← hB] at w
      simp -implicitDefEqProofs [e1, h0, l1, eP]
      rw [tsx]
      simp -implicitDefEqProofs [h01, l0, lkd]
      refine wS_mono' w (fun s' h' q => ?_) (fun v h' q => q.elim) rfl rfl rfl
      obtain ⟨⟨x3, rfl⟩, rfl⟩ := q
      have eu : unlH (a.B p) (H2.set f (.dcT (dG eP (pv s a.B) (l ++ [p] ++ (s.C p).flatMap fun m => flatL s n (p ++ [m]))))) = some (h.set f (.dcT (dG eP (pv s a.B) (l ++ p :: (s.C p).flatMap fun m => flatL s n (p ++ [m]))))) := by
        rw [assoc]
        have hx : (H1.set f (.dcT (dG eP (pv s a.B) (l ++ [p] ++ (s.C p).flatMap fun m => flatL s n (p ++ [m])))))[a.B p]? = some (.dct (dG eN (fun n => .ref (a.A (p ++ [n]))) (s.C p))) := by
          rw [at_set_ne fb]
          exact hb1
        have := unl_K (g := []) hx
        rw [List.append_nil, List.append_nil] at this
        rw [E2, List.set_comm _ _ fb.symm, this, E1, List.set_set]
      dsimp only
      rw [eu]
      simp -implicitDefEqProofs
end
end Lw

set_option Elab.async false
set_option linter.all false
set_option autoImplicit false
set_option maxHeartbeats 4000000
namespace Lw
open PyM
section
variable {pp aa : Nat} {ns : List Int} {a b : Ad} {lw : Pa → Nat} {d lo lo' : Nat} {s sl : S} {h h' : Heap} {U V : Pa → Prop}
/-- a copy of a region, all of it at lo or behind -/
structure Cp (a : Ad) (s : S) (h : Heap) (lo : Nat) (U : Pa → Prop) : Prop where
  pa : ∀ q ∈ s.L, U q → lo ≤ a.A q ∧ h[a.A q]? = some (oA a s q)
  pb : ∀ q ∈ s.L, U q → lo ≤ a.B q ∧ h[a.B q]? = some (if s.D q = true then oN a s q else .lst (wl (s.W q)))
  ab : ∀ q ∈ s.L, ∀ r ∈ s.L, U q → U r → a.B q ≠ a.A r
  bb : ∀ q ∈ s.L, ∀ r ∈ s.L, U q → U r → r ≠ q → a.B r ≠ a.B q
theorem Cp.ext' (k : Cp a s h lo U) (hl : lo' ≤ lo) (x : ∀ i o, lo ≤ i → h[i]? = some o → h'[i]? = some o) : Cp a s h' lo' U :=
  ⟨fun q hq u => ⟨Nat.le_trans hl (k.pa q hq u).1, x _ _ (k.pa q hq u).1 (k.pa q hq u).2⟩, fun q hq u => ⟨Nat.le_trans hl (k.pb q hq u).1, x _ _ (k.pb q hq u).1 (k.pb q hq u).2⟩, k.ab, k.bb⟩
theorem Cp.ext (k : Cp a s h lo U) (x : Ext h h') : Cp a s h' lo U := k.ext' (Nat.le_refl _) fun _ _ _ e => x.at e
theorem Cp.lt (k : Cp a s h lo U) {q : Pa} (hq : q ∈ s.L) (u : U q) : a.A q < h.length ∧ a.B q < h.length := ⟨at_lt (k.pa q hq u).2, at_lt (k.pb q hq u).2⟩
open Classical in
noncomputable def mix (U : Pa → Prop) (a b : Ad) : Ad := ⟨fun q => if U q then a.A q else b.A q, fun q => if U q then a.B q else b.B q⟩
theorem mixA {q : Pa} (u : U q) : (mix U a b).A q = a.A q := if_pos u
theorem mixB {q : Pa} (u : U q) : (mix U a b).B q = a.B q := if_pos u
theorem mixA' {q : Pa} (u : ¬ U q) : (mix U a b).A q = b.A q := if_neg u
theorem mixB' {q : Pa} (u : ¬ U q) : (mix U a b).B q = b.B q := if_neg u
theorem oA_congr {q : Pa} (e : a.B q = b.B q) : oA a s q = oA b s q := by unfold oA; rw [e]
theorem oN_congr {q : Pa} (e : ∀ n ∈ s.C q, a.A (q ++ [n]) = b.A (q ++ [n])) : oN a s q = oN b s q := by
  unfold oN
  congr 1
  exact dG_congr fun n hn => by rw [e n hn]
theorem Cp.congr (k : Cp a s h lo U) (cl : ∀ q ∈ s.L, U q → ∀ n ∈ s.C q, U (q ++ [n])) (eA : ∀ q, U q → b.A q = a.A q) (eB : ∀ q, U q → b.B q = a.B q) : Cp b s h lo U := by
  refine ⟨fun q hq u => ?_, fun q hq u => ?_, fun q hq r hr u v => ?_, fun q hq r hr u v => ?_⟩
  · rw [eA q u, oA_congr (eB q u)]
    exact k.pa q hq u
  · rw [eB q u, oN_congr fun n hn => eA _ (cl q hq u n hn)]
    exact k.pb q hq u
  · rw [eB q u, eA r v]
    exact k.ab q hq r hr u v
  · rw [eB q u, eB r v]
    exact k.bb q hq r hr u v
/-- two of them, the second one younger -/
theorem Cp.join (k : Cp a s h lo U) (k2 : Cp a s h lo' V) (lt : ∀ q ∈ s.L, U q → a.A q < lo' ∧ a.B q < lo') (hl : lo ≤ lo') : Cp a s h lo fun q => U q ∨ V q := by
  refine ⟨fun q hq u => ?_, fun q hq u => ?_, fun q hq r hr u v => ?_, fun q hq r hr u v e => ?_⟩
  · rcases u with u | u
    · exact k.pa q hq u
    · exact ⟨Nat.le_trans hl (k2.pa q hq u).1, (k2.pa q hq u).2⟩
  · rcases u with u | u
    · exact k.pb q hq u
    · exact ⟨Nat.le_trans hl (k2.pb q hq u).1, (k2.pb q hq u).2⟩
  · rcases u with u | u <;> rcases v with v | v
    · exact k.ab q hq r hr u v
    · have := (lt q hq u).2
      have := (k2.pa r hr v).1
      omega
    · have := (k2.pb q hq u).1
      have := (lt r hr v).1
      omega
    · exact k2.ab q hq r hr u v
  · rcases u with u | u <;> rcases v with v | v
    · exact k.bb q hq r hr u v e
    · have := (lt q hq u).2
      have := (k2.pb r hr v).1
      omega
    · have := (k2.pb q hq u).1
      have := (lt r hr v).2
      omega
    · exact k2.bb q hq r hr u v e
theorem Cp.imp (k : Cp a s h lo U) (x : ∀ q ∈ s.L, V q → U q) : Cp a s h lo V :=
  ⟨fun q hq u => k.pa q hq (x q hq u), fun q hq u => k.pb q hq (x q hq u), fun q hq r hr u v => k.ab q hq r hr (x q hq u) (x r hr v), fun q hq r hr u v => k.bb q hq r hr (x q hq u) (x r hr v)⟩
theorem pre_cases (i : Inv s) {p q : Pa} (hq : q ∈ s.L) (e : p <+: q) : q = p ∨ ∃ m ∈ s.C p, p ++ [m] <+: q := by
  obtain ⟨r, rfl⟩ := e
  cases r with
  | nil => exact .inl (by simp)
  | cons m r =>
    have e : p ++ m :: r = (p ++ [m]) ++ r := by simp
    rw [e] at hq ⊢
    exact .inr ⟨m, (i.up _ _ (i.pre _ r _ rfl hq)).2.2, List.prefix_append _ _⟩
theorem pre_one {p q : Pa} {m n : Nat} (e1 : p ++ [m] <+: q) (e2 : p ++ [n] <+: q) : m = n := by
  have := List.prefix_of_prefix_length_le e1 e2 (by simp)
  have := this.eq_of_length (by simp)
  exact (snoc_inj this).2
theorem disp1 {mk mv : En → Heap → Res Val} {st : En} {i : Nat} {v : Val} {h1 : Heap} (ek : mk st (h ++ [.dct []]) = .ok (.str i) (h ++ [.dct []])) (ev : mv st (h ++ [.dct []]) = .ok v h1) (e0 : h1[h.length]? = some (.dct [])) : mDisp [(mk, mv)] st h = .ok (.ref h.length) (h1.set h.length (.dct [(.str i, v)])) := by
  unfold mDisp
  simp only [mPs, ek, Res.bind, ev, e0]
  rfl
/-- a file's copy -/
theorem cp_file (i : Inv s) {n : Nat} {p : Pa} (hp : p ∈ s.L) (hd : s.D p = false) (ha : h[a.A p]? = some (oA a s p)) (hb : h[a.B p]? = some (.lst (wl (s.W p)))) : ∃ b h', m_copied_n (n + 1) [.ref (a.A p)] h = .ok (.ref (b.A p)) h' ∧ Ext h h' ∧ Cp b s h' h.length fun q => p <+: q := by
  have hd' : ¬ s.D p = true := by rw [hd]; decide
  unfold oA at ha
  rw [if_neg hd'] at ha
  have e1 := oIn_str (neg := false) (i := 1) ha
  have l1 : lookV [(Val.str 1, Val.ref (a.B p))] (.str 1) = some (.ref (a.B p)) := rfl
  rw [l1] at e1
  have ha1 : (h ++ [Obj.dct []])[a.A p]? = some (.dct [(.str 1, .ref (a.B p))]) := at_push ha
  have hb1 : (h ++ [Obj.dct []])[a.B p]? = some (.lst (wl (s.W p))) := at_push hb
  have ev : (mL bList (mCons (mB oIx (mV 0) (mK (.str 1))) (mNil))) [some (.ref (a.A p)), none, none] (h ++ [.dct []]) = .ok (.ref (h.length + 1)) (h ++ [.dct []] ++ [.lst (wl (s.W p))]) := by
    refine eq_of_wR ?_
    simp -implicitDefEqProofs [ha1, l1, hb1]
  have eD := disp1 (mk := mK (.str 1)) (i := 1) rfl ev (by rw [List.append_assoc]; exact at_app 0 rfl rfl)
  obtain ⟨H, eH⟩ : ∃ H : Heap, H = (h ++ [Obj.dct []] ++ [Obj.lst (wl (s.W p))]).set h.length (Obj.dct [(.str 1, .ref (h.length + 1))]) := ⟨_, rfl⟩
  rw [← eH] at eD
  have eH' : H = h ++ [.dct [(.str 1, .ref (h.length + 1))], .lst (wl (s.W p))] := by
    rw [eH, List.append_assoc]
    simp
  obtain ⟨MD, hM⟩ : ∃ X, X = mDisp [(mK (.str 1), mL bList (mCons (mB oIx (mV 0) (mK (.str 1))) (mNil)))] := ⟨_, rfl⟩
  rw [← hM] at eD
  have one : ∀ q ∈ s.L, p <+: q → q = p := fun q hq e => by
    rcases pre_cases i hq e with e | ⟨m, hm, _⟩
    · exact e
    · rw [i.fl p hp hd] at hm
      cases hm
  refine ⟨⟨fun _ => h.length, fun _ => h.length + 1⟩, H, eq_of_wR ?_, ⟨_, eH'⟩, ?_⟩
  · unfold m_copied_n
    unfold m_copied_
    refine wRB rfl ?_
    rw [← hM]
    simp -implicitDefEqProofs [e1, eD]
  · have g0 : H[h.length]? = some (.dct [(.str 1, .ref (h.length + 1))]) := by rw [eH']; exact at_app 0 rfl rfl
    have g1 : H[h.length + 1]? = some (.lst (wl (s.W p))) := by rw [eH']; exact at_app 1 rfl rfl
    refine ⟨fun q hq u => ?_, fun q hq u => ?_, fun q hq r hr u v => ?_, fun q hq r hr u v e => ?_⟩
    · obtain rfl := one q hq u
      refine ⟨Nat.le_refl _, ?_⟩
      unfold oA
      rw [if_neg hd']
      exact g0
    · obtain rfl := one q hq u
      refine ⟨Nat.le_succ _, ?_⟩
      rw [if_neg hd']
      exact g1
    · simp
    · exact absurd (by rw [one q hq u, one r hr v]) e
end
end Lw

set_option Elab.async false
set_option linter.all false
set_option autoImplicit false
set_option maxHeartbeats 4000000
namespace Lw
open PyM
section
variable {pp aa : Nat} {ns : List Int} {a b : Ad} {lw : Pa → Nat} {d lo lo' : Nat} {s sl : S} {h h' : Heap} {U V : Pa → Prop}
/-- what the copy reads -/
structure Rd (a : Ad) (s : S) (h : Heap) (p : Pa) : Prop where
  pa : ∀ q ∈ s.L, p <+: q → h[a.A q]? = some (oA a s q)
  pb : ∀ q ∈ s.L, p <+: q → h[a.B q]? = some (if s.D q = true then oN a s q else .lst (wl (s.W q)))
theorem Rd.ext {p : Pa} (k : Rd a s h p) (x : Ext h h') : Rd a s h' p := ⟨fun q hq u => x.at (k.pa q hq u), fun q hq u => x.at (k.pb q hq u)⟩
def cpV (self_ : List Val → Heap → Res Val) : En → Heap → Res Val := mCall self_ [] (mCons (mB oIx (mV 1) (mV 2)) (mNil))
theorem cp_loop (i : Inv s) {self_ : List Val → Heap → Res Val} {p : Pa} (hp : p ∈ s.L) {x : Nat} {hl : Heap} (hx : hl.length = x + 1) (hb : hl[a.B p]? = some (.fdc (dG eN (fun n => .ref (a.A (p ++ [n]))) (s.C p))))
    (ih : ∀ m ∈ s.C p, ∀ h, Ext hl h → ∃ b h', self_ [.ref (a.A (p ++ [m]))] h = .ok (.ref (b.A (p ++ [m]))) h' ∧ Ext h h' ∧ Cp b s h' h.length fun q => p ++ [m] <+: q) :
    ∀ (cs dn : List Nat) (b : Ad) (h : Heap), s.C p = dn ++ cs → Ext hl h → h[x + 1]? = some (.dct (dG eN (fun n => .ref (b.A (p ++ [n]))) dn)) → Cp b s h (x + 2) (fun q => ∃ m ∈ dn, p ++ [m] <+: q) →
      ∃ b' h', dcM (fun _ => true) (gV 2) tTrue (mV 2) (cpV self_) [some (.ref (a.A p)), some (.ref (a.B p)), none] (x + 1) (cs.map eN) h = .ok () h' ∧ Ext hl h' ∧ h'[x + 1]? = some (.dct (dG eN (fun n => .ref (b'.A (p ++ [n]))) (s.C p))) ∧ Cp b' s h' (x + 2) (fun q => ∃ m ∈ s.C p, p ++ [m] <+: q)
  | [], dn, b, h, e, ex, eh, k => by
    rw [List.append_nil] at e
    refine ⟨b, h, ?_, ex, by rw [e]; exact eh, by rw [e]; exact k⟩
    rfl
  | m :: cs, dn, b, h, e, ex, eh, k => by
    have hm : m ∈ s.C p := by rw [e]; simp
    have nd := i.cn p
    rw [e] at nd
    have hn : m ∉ dn := fun z => (List.nodup_append.mp nd).2.2 m z m List.mem_cons_self rfl
    obtain ⟨b2, h2, e2, x2, k2⟩ := ih m hm h ex
    have lh := at_lt eh
    have hbh := ex.at hb
    have lk : lookV (dG eN (fun n => Val.ref (a.A (p ++ [n]))) (s.C p)) (.int (m : Nat)) = some (.ref (a.A (p ++ [m]))) := lookG_in (f := fun n => Val.ref (a.A (p ++ [n]))) eN_inj hm
    have ev : cpV self_ [some (.ref (a.A p)), some (.ref (a.B p)), some (eN m)] h = .ok (.ref (b2.A (p ++ [m]))) h2 := by
      refine eq_of_wR ?_
      unfold cpV
      simp -implicitDefEqProofs [eN, hbh, lk, e2]
    have eh2 := x2.at eh
    have pn : p ++ [m] ∈ s.L := i.dn _ _ hp hm
    obtain ⟨b3, e3⟩ : ∃ b3 : Ad, b3 = mix (fun q => p ++ [m] <+: q) b2 b := ⟨_, rfl⟩
    have dj : ∀ q ∈ s.L, (∃ m ∈ dn, p ++ [m] <+: q) → ¬ p ++ [m] <+: q := fun q _ ⟨n, hn', z⟩ y => hn (by rw [pre_one y z]; exact hn')
    have ep : putV (dG eN (fun n => Val.ref (b.A (p ++ [n]))) dn) (eN m) (.ref (b2.A (p ++ [m]))) = dG eN (fun n => .ref (b3.A (p ++ [n]))) (dn ++ [m]) := by
      rw [putG_new eN_inj hn]
      refine dG_congr fun n hn' => ?_
      rw [e3]
      by_cases q : n = m
      · subst q
        rw [fu_at, mixA List.prefix_rfl]
      · rw [fu_ne q, mixA' fun z => q (pre_one z List.prefix_rfl).symm]
    have dl : dn.length ≤ 4 := by
      have := i.c64 hp
      rw [e, List.length_append] at this
      omega
    have l4 : 4 < lim := by decide
    obtain ⟨h3, eh3⟩ : ∃ h3 : Heap, h3 = h2.set (x + 1) (.dct (dG eN (fun n => .ref (b3.A (p ++ [n]))) (dn ++ [m]))) := ⟨_, rfl⟩
    have ex2 : Ext hl h2 := ex.trans x2
    have ex3 : Ext hl h3 := by rw [eh3]; exact ex2.set (by omega) _
    have keep : ∀ i o, x + 2 ≤ i → h2[i]? = some o → h3[i]? = some o := fun i o hi z => by
      rw [eh3, at_set_ne (by omega)]
      exact z
    have K1 : Cp b3 s h3 (x + 2) (fun q => ∃ m ∈ dn, p ++ [m] <+: q) := by
      have K0 := (k.ext x2).congr (b := ⟨fun q => b.A q, fun q => b.B q⟩) (fun q _ ⟨m, hm, z⟩ n _ => ⟨m, hm, z.trans (List.prefix_append _ _)⟩) (fun _ _ => rfl) fun _ _ => rfl
      have K1 : Cp b3 s h2 (x + 2) (fun q => (∃ m ∈ dn, p ++ [m] <+: q) ∧ q ∈ s.L) := by
        refine (K0.imp (V := fun q => (∃ m ∈ dn, p ++ [m] <+: q) ∧ q ∈ s.L) fun q _ u => u.1).congr (fun q hq ⟨⟨m, hm, z⟩, _⟩ n hn => ⟨⟨m, hm, z.trans (List.prefix_append _ _)⟩, i.dn _ _ hq hn⟩) (fun q u => ?_) fun q u => ?_
        · rw [e3, mixA' (dj q u.2 u.1)]
        · rw [e3, mixB' (dj q u.2 u.1)]
      exact (K1.imp fun q hq u => ⟨u, hq⟩).ext' (Nat.le_refl _) keep
    have K2 : Cp b3 s h3 h.length (fun q => p ++ [m] <+: q) := by
      refine (k2.congr (fun q _ u n _ => u.trans (List.prefix_append _ _)) (fun q u => ?_) fun q u => ?_).ext' (Nat.le_refl _) fun i o hi => keep i o (by omega)
      · rw [e3, mixA u]
      · rw [e3, mixB u]
    have K := K1.join K2 (fun q hq u => by
      have := k.lt hq u
      rw [e3, mixA' (dj q hq u), mixB' (dj q hq u)]
      exact this) (by omega)
    obtain ⟨b', h', e4, ex4, eh4, k4⟩ := cp_loop i hp hx hb ih cs (dn ++ [m]) b3 h3 (by rw [e]; simp) ex3 (by rw [eh3]; exact at_set eh2) (K.imp fun q _ ⟨n, hn, z⟩ => by
      rcases List.mem_append.mp hn with hn | hn
      · exact .inl ⟨n, hn, z⟩
      · rw [List.mem_singleton.mp hn] at z
        exact .inr z)
    refine ⟨b', h', ?_, ex4, eh4, k4⟩
    rw [List.map_cons]
    unfold dcM
    have eg : gV 2 (eN m) [some (.ref (a.A p)), some (.ref (a.B p)), none] = some [some (.ref (a.A p)), some (.ref (a.B p)), some (eN m)] := rfl
    have em : mV 2 [some (.ref (a.A p)), some (.ref (a.B p)), some (eN m)] h = .ok (eN m) h := rfl
    simp only [eg, tTrue, if_true, em, ev, eh2, ep]
    rw [if_pos ⟨rfl, by rw [dG_len]; omega⟩, ← eh3, e4]
end
end Lw

set_option Elab.async false
set_option linter.all false
set_option autoImplicit false
set_option maxHeartbeats 4000000
namespace Lw
open PyM
section
variable {pp aa : Nat} {ns : List Int} {a b : Ad} {lw : Pa → Nat} {d lo lo' : Nat} {s sl : S} {h h' : Heap} {U V : Pa → Prop}
def cpD (self_ : List Val → Heap → Res Val) : En → Heap → Res Val := mDcD (mV 1) (gV 2) (tTrue) (mV 2) (cpV self_) [2]
theorem cp_cut {self_ : List Val → Heap → Res Val} : m_copied_ self_ = runB 1 3
    (sSeq (sIf (tB_ (mB (oIn false) (mK (.str 1)) (mV 0))) (sRet (mDisp (((mK (.str 1)), (mL bList (mCons (mB oIx (mV 0) (mK (.str 1))) (mNil)))) :: []))) (sNx))
    (sSeq (sAsg (gV 1) (mB oIx (mV 0) (mK (.str 0))))
    (sRet (mDisp (((mK (.str 0)), (cpD self_)) :: []))))) := rfl
theorem cp_dcd (i : Inv s) (dj : Dj a s) {n : Nat} {p : Pa} (hp : p ∈ s.L) (hd : s.D p = true) (rd : Rd a s h p)
    (ih : ∀ m ∈ s.C p, ∀ h, Rd a s h (p ++ [m]) → ∃ b h', m_copied_n n [.ref (a.A (p ++ [m]))] h = .ok (.ref (b.A (p ++ [m]))) h' ∧ Ext h h' ∧ Cp b s h' h.length fun q => p ++ [m] <+: q) :
    ∃ b h', cpD (m_copied_n n) [some (.ref (a.A p)), some (.ref (a.B p)), none] (h ++ [.dct []]) = .ok (.ref (h.length + 1)) h' ∧ Ext (h ++ [.dct []]) h' ∧ h'[h.length + 1]? = some (.dct (dG eN (fun n => .ref (b.A (p ++ [n]))) (s.C p))) ∧ Cp b s h' (h.length + 2) (fun q => ∃ m ∈ s.C p, p ++ [m] <+: q) := by
  have hb := rd.pb p hp List.prefix_rfl
  rw [if_pos hd] at hb
  unfold oN at hb
  have lb := at_lt hb
  obtain ⟨H0, e0⟩ : ∃ H : Heap, H = h ++ [.dct []] := ⟨_, rfl⟩
  have hb0 : H0[a.B p]? = some (.dct (dG eN (fun n => .ref (a.A (p ++ [n]))) (s.C p))) := by rw [e0]; exact at_push hb
  have lkd := lockD_dct hb0
  rw [dG_keys] at lkd
  obtain ⟨H1, e1⟩ : ∃ H : Heap, H = H0.set (a.B p) (.fdc (dG eN (fun n => .ref (a.A (p ++ [n]))) (s.C p))) := ⟨_, rfl⟩
  rw [← e1] at lkd
  have n1 : H1.length = h.length + 1 := by rw [e1, List.length_set, e0]; simp
  have hb1 : H1[a.B p]? = some (.fdc (dG eN (fun n => .ref (a.A (p ++ [n]))) (s.C p))) := by rw [e1]; exact at_set hb0
  have rd1 : ∀ m, Rd a s H1 (p ++ [m]) := fun m => by
    refine ⟨fun q hq z => ?_, fun q hq z => ?_⟩
    · have := rd.pa q hq ((List.prefix_append p [m]).trans z)
      rw [e1, at_set_ne (dj.ab p hp hd q hq), e0]
      exact at_push this
    · have w := rd.pb q hq ((List.prefix_append p [m]).trans z)
      have ne : a.B p ≠ a.B q := fun y => by
        have np : q ≠ p := fun e => by
          have := z.length_le
          have h2 : (p ++ [m]).length = p.length + 1 := by simp
          rw [e] at this
          omega
        cases hq2 : s.D q with
        | true => exact dj.bb p hp hd q hq hq2 np y.symm
        | false =>
          rw [← y, hb, hq2] at w
          cases w
      rw [e1, at_set_ne ne, e0]
      exact at_push w
  obtain ⟨b, h2, q1, q2, q3, q4⟩ := cp_loop i (self_ := m_copied_n n) (x := h.length) (hl := H1) hp n1 hb1 (fun m hm h' ex => ih m hm h' ((rd1 m).ext ex)) (s.C p) [] a (H1 ++ [.dct []]) rfl ⟨_, rfl⟩ (by rw [← n1]; exact at_len)
    ⟨fun q _ ⟨m, hm, _⟩ => (by cases hm), fun q _ ⟨m, hm, _⟩ => (by cases hm), fun q _ r _ ⟨m, hm, _⟩ => (by cases hm), fun q _ r _ ⟨m, hm, _⟩ => (by cases hm)⟩
  obtain ⟨g, rfl⟩ := q2
  have bx : a.B p < H0.length := at_lt hb0
  refine ⟨b, H0 ++ g, ?_, by rw [e0]; exact ⟨g, rfl⟩, ?_, q4.ext' (Nat.le_refl _) fun i o hi z => ?_⟩
  · rw [← e0]
    unfold cpD mDcD
    have em : mV 1 [some (.ref (a.A p)), some (.ref (a.B p)), none] H0 = .ok (.ref (a.B p)) H0 := rfl
    have ew : wipeE [some (.ref (a.A p)), some (.ref (a.B p)), none] [2] = [some (.ref (a.A p)), some (.ref (a.B p)), none] := rfl
    simp only [em, Res.bind, lkd, ew]
    rw [n1, q1]
    simp only [unlR]
    rw [e1, unl_K hb0]
  · rw [List.getElem?_append_right (by rw [e0]; simp)] 
    rw [List.getElem?_append_right (by omega)] at q3
    have : H0.length = H1.length := by rw [e1, List.length_set]
    rw [this]
    exact q3
  · have : H0.length = H1.length := by rw [e1, List.length_set]
    rw [List.getElem?_append_right (by omega)]
    rw [List.getElem?_append_right (by omega)] at z
    rw [this]
    exact z
theorem cp_ok (i : Inv s) (dj : Dj a s) : ∀ (n : Nat) (p : Pa) (h : Heap), p ∈ s.L → 4 ≤ n + p.length → Rd a s h p →
    ∃ b h', m_copied_n n [.ref (a.A p)] h = .ok (.ref (b.A p)) h' ∧ Ext h h' ∧ Cp b s h' h.length fun q => p <+: q
  | 0, p, h, hp, hn, _ => by
    have := (i.rg p hp).1
    omega
  | n + 1, p, h, hp, hn, rd => by
    have ha := rd.pa p hp List.prefix_rfl
    have hb := rd.pb p hp List.prefix_rfl
    cases hd : s.D p with
    | false =>
      rw [if_neg (by rw [hd]; decide)] at hb
      exact cp_file i hp hd ha hb
    | true =>
      obtain ⟨b, h1, q1, q2, q3, q4⟩ := cp_dcd i dj (n := n) hp hd rd fun m hm h' r => cp_ok i dj n (p ++ [m]) h' (i.dn _ _ hp hm) (by simp; omega) r
      unfold oA at ha
      rw [if_pos hd] at ha
      have e1 := oIn_str (neg := false) (i := 1) ha
      have l1 : lookV [(Val.str 0, Val.ref (a.B p))] (.str 1) = none := rfl
      have l0 : lookV [(Val.str 0, Val.ref (a.B p))] (.str 0) = some (.ref (a.B p)) := rfl
      rw [l1] at e1
      have g0 : (h ++ [Obj.dct []])[h.length]? = some (.dct []) := at_len
      have eD := disp1 (mk := mK (.str 0)) (mv := cpD (m_copied_n n)) (st := [some (.ref (a.A p)), some (.ref (a.B p)), none]) (i := 0) rfl q1 (q2.at g0)
      obtain ⟨MD, hM⟩ : ∃ X, X = mDisp [(mK (.str 0), cpD (m_copied_n n))] := ⟨_, rfl⟩
      rw [← hM] at eD
      obtain ⟨H, eH⟩ : ∃ H : Heap, H = h1.set h.length (.dct [(.str 0, .ref (h.length + 1))]) := ⟨_, rfl⟩
      rw [← eH] at eD
      obtain ⟨c, ec⟩ : ∃ c : Ad, c = ⟨fu b.A p h.length, fu b.B p (h.length + 1)⟩ := ⟨_, rfl⟩
      have cA : c.A p = h.length := by rw [ec]; exact fu_at
      have cB : c.B p = h.length + 1 := by rw [ec]; exact fu_at
      have cA' : ∀ q, q ≠ p → c.A q = b.A q := fun q z => by rw [ec]; exact fu_ne z
      have cB' : ∀ q, q ≠ p → c.B q = b.B q := fun q z => by rw [ec]; exact fu_ne z
      have np : ∀ q, (∃ m ∈ s.C p, p ++ [m] <+: q) → q ≠ p := fun q ⟨m, _, z⟩ e => by
        have := z.length_le
        have h2 : (p ++ [m]).length = p.length + 1 := by simp
        rw [e] at this
        omega
      have K := (q4.congr (b := c) (fun q _ ⟨m, hm, z⟩ n _ => ⟨m, hm, z.trans (List.prefix_append _ _)⟩) (fun q u => cA' q (np q u)) fun q u => cB' q (np q u)).ext' (h' := H) (Nat.le_refl _) fun j o hj z => by
        rw [eH, at_set_ne (by omega)]
        exact z
      have g1 : H[h.length]? = some (.dct [(.str 0, .ref (h.length + 1))]) := by rw [eH]; exact at_set (q2.at g0)
      have g2 : H[h.length + 1]? = some (oN c s p) := by
        rw [eH, at_set_ne (by omega), q3]
        unfold oN
        congr 2
        exact dG_congr fun m hm => by rw [cA' _ (np _ ⟨m, hm, List.prefix_rfl⟩)]
      have Kp : Cp c s H h.length fun q => q = p := by
        refine ⟨fun q hq u => ?_, fun q hq u => ?_, fun q hq r hr u v => ?_, fun q hq r hr u v e => ?_⟩
        · subst u
          rw [cA]
          refine ⟨Nat.le_refl _, ?_⟩
          unfold oA
          rw [if_pos hd, cB]
          exact g1
        · subst u
          rw [cB, if_pos hd]
          exact ⟨Nat.le_succ _, g2⟩
        · subst u
          subst v
          rw [cA, cB]
          omega
        · exact absurd (v.trans u.symm) e
      refine ⟨c, H, eq_of_wR ?_, by
        rw [eH]
        exact (Ext.trans ⟨_, rfl⟩ q2).set (Nat.le_refl _) _, (Kp.join K (fun q hq u => by
          subst u
          rw [cA, cB]
          omega) (by omega)).imp fun q hq u => pre_cases i hq u⟩
      unfold m_copied_n
      rw [cp_cut]
      refine wRB rfl ?_
      rw [← hM]
      simp -implicitDefEqProofs [e1, ha, l0, gV]
      rw [eD, cA]
      simp -implicitDefEqProofs
end
end Lw

set_option Elab.async false
set_option linter.all false
set_option autoImplicit false
set_option maxHeartbeats 4000000
namespace Lw
open PyM
section
variable {pp aa : Nat} {ns : List Int} {a b : Ad} {lw : Pa → Nat} {d lo lo' : Nat} {s sl : S} {h h' : Heap}
theorem St.rd (k : St pp aa ns a lw d s sl h) : Rd a s h [] := ⟨fun q hq _ => (k.tree q hq).pa, fun q hq _ => (k.tree q hq).pb⟩
theorem Rd.sp {p : Pa} (k : Rd a s h p) : Sp a s h p := ⟨k.pa, fun q hq u dq => by
  have := k.pb q hq u
  rw [if_pos dq] at this
  exact this⟩
theorem St.dj (k : St pp aa ns a lw d s sl h) : Dj a s := by
  have nd := k.t.on.nd
  rw [List.map_cons, List.nodup_cons] at nd
  have nd := nd.2
  unfold tn at nd
  rw [List.map_append, List.map_map, List.map_map] at nd
  obtain ⟨n1, n2, n3⟩ := List.nodup_append.mp nd
  refine ⟨fun q hq dq r hr e => ?_, fun q hq dq r hr dr ne e => ?_⟩
  · exact n3 (a.A r) (List.mem_map.mpr ⟨r, hr, rfl⟩) (a.B q) (List.mem_map.mpr ⟨q, List.mem_filter.mpr ⟨hq, dq⟩, rfl⟩) e.symm
  · obtain ⟨i, hi⟩ := List.mem_iff_getElem?.mp (List.mem_filter.mpr ⟨hr, dr⟩ : r ∈ s.L.filter s.D)
    obtain ⟨j, hj⟩ := List.mem_iff_getElem?.mp (List.mem_filter.mpr ⟨hq, dq⟩ : q ∈ s.L.filter s.D)
    have li := (List.getElem?_eq_some_iff.mp hi).1
    have ei : ((s.L.filter s.D).map ((·.1) ∘ fB a s))[i]? = some (a.B r) := by rw [List.getElem?_map, hi]; rfl
    have ej : ((s.L.filter s.D).map ((·.1) ∘ fB a s))[j]? = some (a.B q) := by rw [List.getElem?_map, hj]; rfl
    rw [e] at ei
    obtain ⟨l1, x1⟩ := List.getElem?_eq_some_iff.mp ei
    obtain ⟨l2, x2⟩ := List.getElem?_eq_some_iff.mp ej
    have ij := (List.getElem_inj n2).mp (x1.trans x2.symm)
    subst ij
    rw [hi] at hj
    injection hj with hj
    exact ne hj
theorem Cp.rd {p : Pa} {lo : Nat} (k : Cp a s h lo fun q => p <+: q) : Rd a s h p := ⟨fun q hq u => (k.pa q hq u).2, fun q hq u => (k.pb q hq u).2⟩
theorem Cp.dj {lo : Nat} (k : Cp a s h lo fun q => [] <+: q) : Dj a s := ⟨fun q hq _ r hr => k.ab q hq r hr List.nil_prefix List.nil_prefix, fun q hq _ r hr _ ne => k.bb q hq r hr List.nil_prefix List.nil_prefix ne⟩
theorem Rd.fl (k : Rd a s h []) : Fl a.B s h := fun q hq dq => by
  have := k.pb q hq List.nil_prefix
  rw [if_neg (by rw [dq]; decide)] at this
  exact this
theorem mem_flat (i : Inv s) : ∀ (n : Nat) (p q : Pa), p ∈ s.L → 4 ≤ n + p.length → (q ∈ flatL s n p ↔ q ∈ s.L ∧ p <+: q)
  | 0, p, q, hp, hn => by
    have := (i.rg p hp).1
    omega
  | n + 1, p, q, hp, hn => by
    unfold flatL
    rw [List.mem_cons, List.mem_flatMap]
    constructor
    · rintro (rfl | ⟨m, hm, hq⟩)
      · exact ⟨hp, List.prefix_rfl⟩
      · obtain ⟨h1, h2⟩ := (mem_flat i n (p ++ [m]) q (i.dn _ _ hp hm) (by simp; omega)).mp hq
        exact ⟨h1, (List.prefix_append p [m]).trans h2⟩
    · rintro ⟨h1, h2⟩
      rcases pre_cases i h1 h2 with rfl | ⟨m, hm, z⟩
      · exact .inl rfl
      · exact .inr ⟨m, hm, (mem_flat i n (p ++ [m]) q (i.dn _ _ hp hm) (by simp; omega)).mpr ⟨h1, z⟩⟩
theorem nd_flat (i : Inv s) : ∀ (n : Nat) (p : Pa), p ∈ s.L → 4 ≤ n + p.length → (flatL s n p).Nodup
  | 0, p, hp, hn => by
    have := (i.rg p hp).1
    omega
  | n + 1, p, hp, hn => by
    unfold flatL
    have mm : ∀ m ∈ s.C p, ∀ q, q ∈ flatL s n (p ++ [m]) → p ++ [m] <+: q := fun m hm q hq => ((mem_flat i n (p ++ [m]) q (i.dn _ _ hp hm) (by simp; omega)).mp hq).2
    rw [List.nodup_cons]
    refine ⟨fun z => ?_, ?_⟩
    · obtain ⟨m, hm, hq⟩ := List.mem_flatMap.mp z
      have := (mm m hm p hq).length_le
      simp at this
      try omega
    · have key : ∀ cs : List Nat, cs.Nodup → (∀ m ∈ cs, m ∈ s.C p) → (cs.flatMap fun m => flatL s n (p ++ [m])).Nodup := by
        intro cs
        induction cs with
        | nil => intro _ _; exact List.nodup_nil
        | cons m cs ih =>
          intro nd hc
          rw [List.nodup_cons] at nd
          rw [List.flatMap_cons, List.nodup_append]
          refine ⟨nd_flat i n (p ++ [m]) (i.dn _ _ hp (hc m List.mem_cons_self)) (by simp; omega), ih nd.2 fun m hm => hc m (List.mem_cons_of_mem _ hm), fun x hx y hy e => ?_⟩
          subst e
          obtain ⟨m', hm', hy⟩ := List.mem_flatMap.mp hy
          have e1 := mm m (hc m List.mem_cons_self) x hx
          have e2 := mm m' (hc m' (List.mem_cons_of_mem _ hm')) x hy
          exact nd.1 (by rw [pre_one e1 e2]; exact hm')
      exact key _ (i.cn p) fun m hm => hm
def P0 : List Pa := [[]]
def P1 : List Pa := [1, 2, 3, 4].map fun n => [n]
def P2 : List Pa := P1.flatMap fun p => [1, 2, 3, 4].map fun n => n :: p
def P3 : List Pa := P2.flatMap fun p => [1, 2, 3, 4].map fun n => n :: p
def allP : List Pa := P0 ++ P1 ++ P2 ++ P3
theorem allP_len : allP.length = 85 := by decide +kernel
theorem mem4 {n : Nat} (h : 1 ≤ n ∧ n ≤ 4) : n ∈ [1, 2, 3, 4] := by
  simp
  omega
theorem mem_all {p : Pa} (k : PaOk p) : p ∈ allP := by
  obtain ⟨hl, hr⟩ := k
  unfold allP
  match p, hl, hr with
  | [], _, _ => simp [P0]
  | [x], _, hr =>
    have hx := mem4 (hr x (by simp))
    refine List.mem_append_left _ (List.mem_append_left _ (List.mem_append_right _ ?_))
    exact List.mem_map.mpr ⟨x, hx, rfl⟩
  | [x, y], _, hr =>
    have hx := mem4 (hr x (by simp))
    have hy := mem4 (hr y (by simp))
    refine List.mem_append_left _ (List.mem_append_right _ ?_)
    exact List.mem_flatMap.mpr ⟨[y], List.mem_map.mpr ⟨y, hy, rfl⟩, List.mem_map.mpr ⟨x, hx, rfl⟩⟩
  | [x, y, z], _, hr =>
    have hx := mem4 (hr x (by simp))
    have hy := mem4 (hr y (by simp))
    have hz := mem4 (hr z (by simp))
    refine List.mem_append_right _ ?_
    exact List.mem_flatMap.mpr ⟨[y, z], List.mem_flatMap.mpr ⟨[z], List.mem_map.mpr ⟨z, hz, rfl⟩, List.mem_map.mpr ⟨y, hy, rfl⟩⟩, List.mem_map.mpr ⟨x, hx, rfl⟩⟩
  | x :: y :: z :: w :: r, hl, _ => simp at hl
theorem Inv.l85 (i : Inv s) : s.L.length ≤ 85 := by
  have := nd_len (m := allP) i.nd fun p hp => mem_all (i.rg p hp)
  rw [allP_len] at this
  exact this
def hP (p : Pa) : Option Int := kHash (p.map eN)
def hI (p : Pa) : Int := (hP p).getD 0
theorem hash_nd : (allP.map hI).Nodup := by decide +kernel
theorem hash_some : ∀ p ∈ allP, (hP p).isSome = true := by decide +kernel
theorem hI_inj : ∀ {l : List Pa}, (l.map hI).Nodup → ∀ x ∈ l, ∀ y ∈ l, hI x = hI y → x = y
  | [], _, x, hx, _, _, _ => by cases hx
  | z :: l, nd, x, hx, y, hy, e => by
    rw [List.map_cons, List.nodup_cons] at nd
    rcases List.mem_cons.mp hx with ex | hx <;> rcases List.mem_cons.mp hy with ey | hy
    · rw [ex, ey]
    · exact absurd (List.mem_map.mpr ⟨y, hy, by rw [← e, ex]⟩) nd.1
    · exact absurd (List.mem_map.mpr ⟨x, hx, by rw [e, ey]⟩) nd.1
    · exact hI_inj nd.2 x hx y hy e
def kf (kv : Val × Val) : Option Int := match kv.1 with | .tup ks => kHash ks | _ => none
theorem hashOk_eq (d : List (Val × Val)) : hashOk d = match optAll kf d with
  | some hs => decide hs.Nodup
  | none => false := rfl
theorem hash_ok (i : Inv s) {f : Pa → Val} : hashOk (dG eP f s.L) = true := by
  have key : ∀ l : List Pa, (∀ p ∈ l, p ∈ allP) → optAll kf (dG eP f l) = some (l.map hI) := by
    intro l
    induction l with
    | nil => intro _; rfl
    | cons p l ih =>
      intro hl
      have e := hash_some p (hl p List.mem_cons_self)
      obtain ⟨x, hx⟩ := Option.isSome_iff_exists.mp e
      have ih := ih fun q hq => hl q (List.mem_cons_of_mem _ hq)
      have hI' : hI p = x := by unfold hI; rw [hx]; rfl
      unfold dG at ih ⊢
      rw [List.map_cons, List.map_cons, hI']
      unfold hP at hx
      have e0 : kf (eP p, f p) = some x := hx
      simp only [optAll, e0, ih]
  rw [hashOk_eq]
  have al : ∀ p ∈ s.L, p ∈ allP := fun p hp => mem_all (i.rg p hp)
  rw [key s.L al]
  rw [decide_eq_true_eq, List.nodup_iff_pairwise_ne, List.pairwise_map]
  exact List.Pairwise.imp_of_mem (fun {x y} hx hy ne e => ne (hI_inj hash_nd x (al x hx) y (al y hy) e)) i.nd
end
end Lw

set_option Elab.async false
set_option linter.all false
set_option autoImplicit false
set_option maxHeartbeats 4000000
namespace Lw
open PyM
section
variable {pp aa : Nat} {ns : List Int} {a b : Ad} {lw : Pa → Nat} {d lo lo' : Nat} {s sl : S} {h h' : Heap}
theorem conv40 {xs : List Nat} {a : Nat} (ea : h[a]? = some (.lst (wl xs))) : conv 40 h (.ref a) = some (.lst (Val.ds (wl xs))) := by
  rw [conv]
  simp only [ea]
  rw [optAll_ds fun x hx => conv_pl 39 x (by
    obtain ⟨n, _, rfl⟩ := List.mem_map.mp hx
    rfl)]
  rfl
theorem eqH_pv {g1 g2 : Pa → Nat} {p : Pa} (hp : p ∈ s.L) (f1 : Fl g1 s h) (f2 : Fl g2 s h) : eqH 20 h (pv s g1 p) (pv s g2 p) = some true := by
  unfold pv
  cases hd : s.D p with
  | true =>
    rw [if_pos rfl, if_pos rfl]
    unfold eqH
    rw [conv_pl 40 _ (show pl 40 (.str 9) = true from rfl)]
    simp only [deq_refl]
  | false =>
    rw [if_neg (by decide), if_neg (by decide)]
    unfold eqH
    rw [conv40 (f1 p hp hd), conv40 (f2 p hp hd)]
    simp only [deq_refl]
theorem hits_all {g1 g2 : Pa → Nat} {l2 : List Pa} (f1 : Fl g1 s h) (f2 : Fl g2 s h) : ∀ l : List Pa, (∀ p ∈ l, p ∈ s.L) → (∀ p ∈ l, p ∈ l2) → hitsM (eqH 20 h) (dG eP (pv s g2) l2) (dG eP (pv s g1) l) = some true
  | [], _, _ => rfl
  | p :: l, hl, h2 => by
    have ih := hits_all f1 f2 l (fun q hq => hl q (List.mem_cons_of_mem _ hq)) fun q hq => h2 q (List.mem_cons_of_mem _ hq)
    have e1 := lookG_in (f := pv s g2) eP_inj (h2 p List.mem_cons_self)
    have e2 := eqH_pv (hl p List.mem_cons_self) f1 f2
    unfold dG at ih e1 ⊢
    rw [List.map_cons]
    simp only [hitsM, e1, e2]
    rw [ih]
    rfl
theorem cmp_ok {g1 g2 : Pa → Nat} {l1 l2 : List Pa} {x y : Nat} (n1 : l1.Nodup) (n2 : l2.Nodup) (m1 : ∀ q, q ∈ l1 ↔ q ∈ s.L) (m2 : ∀ q, q ∈ l2 ↔ q ∈ s.L) (f1 : Fl g1 s h) (f2 : Fl g2 s h) (e1 : h[x]? = some (.dcT (dG eP (pv s g1) l1))) (e2 : h[y]? = some (.dcT (dG eP (pv s g2) l2))) :
    oEqT true (.ref x) (.ref y) h = .ok (.bl false) h := by
  have hl : l1.length = l2.length := ((List.perm_ext_iff_of_nodup n1 n2).mpr fun q => by rw [m1, m2]).length_eq
  have e : eqT h (.ref x) (.ref y) = some true := by
    unfold eqT
    simp only [e1, e2]
    rw [if_pos (by rw [dG_len, dG_len, hl]), hits_all f1 f2 l1 (fun q hq => (m1 q).mp hq) fun q hq => (m2 q).mpr ((m1 q).mp hq)]
  unfold oEqT
  rw [e]
  rfl
theorem flat_e (i : Inv s) (dj : Dj a s) (rd : Rd a s h []) : m__law_flat [.ref (a.A []), .tup [], .ref h.length] (h ++ [.dcT []]) = .ok (.ref h.length) (h ++ [.dcT (dG eP (pv s a.B) (flatL s 6 []))]) := by
  have nd := nd_flat i 6 [] i.top.1 (by simp)
  have ln : (flatL s 6 []).length ≤ 1000 := by
    have := nd_len (m := s.L) nd fun q hq => ((mem_flat i 6 [] q i.top.1 (by simp)).mp hq).1
    have := i.l85
    omega
  have e := fl_ok i dj (f := h.length) 6 [] [] (h ++ [.dcT []]) i.top.1 (by simp) ((rd.ext ⟨_, rfl⟩).sp) at_len (by simpa using nd) (by simpa using ln)
  rw [List.nil_append] at e
  rw [set_len] at e
  exact e
def mFl (v : Nat) : En → Heap → Res Val := (mCall m__law_flat [] (mCons (mV v) (mCons (mTup (mNil)) (mCons (mDctT) (mNil)))))
/-- the whole look: the tree's parts are the law's -/
theorem look_ok (i : Inv s) (dj : Dj a s) (rd : Rd a s h []) {v w : Nat} {st : En} {x : Nat} {g : Pa → Nat} (ev : mV v st h = .ok (.ref (a.A [])) h) (ew : ∀ H, mV w st H = .ok (.ref x) H) (ex : h[x]? = some (.dcT (dG eP (pv s g) s.L))) (fl : Fl g s h) :
    mB (oEqT true) (mFl v) (mV w) st h = .ok (.bl false) (h ++ [.dcT (dG eP (pv s a.B) (flatL s 6 []))]) := by
  have l0 : 0 ≤ lim := Nat.zero_le _
  have ef := flat_e i dj rd
  have eF : mFl v st h = .ok (.ref h.length) (h ++ [.dcT (dG eP (pv s a.B) (flatL s 6 []))]) := by
    refine eq_of_wR ?_
    unfold mFl
    simp -implicitDefEqProofs [mDctT]
    rw [ev]
    simp -implicitDefEqProofs [l0]
    rw [ef]
    simp -implicitDefEqProofs
  obtain ⟨H, eH⟩ : ∃ H : Heap, H = h ++ [.dcT (dG eP (pv s a.B) (flatL s 6 []))] := ⟨_, rfl⟩
  have x1 : Ext h H := ⟨_, eH⟩
  have mf := fun q => mem_flat i 6 [] q i.top.1 (by simp)
  have ec := cmp_ok (h := H) (s := s) (x := h.length) (y := x) (nd_flat i 6 [] i.top.1 (by simp)) i.nd (fun q => (mf q).trans ⟨fun z => z.1, fun z => ⟨z, List.nil_prefix⟩⟩) (fun q => Iff.rfl) (rd.fl.ext x1) (fl.ext x1) (by rw [eH]; exact at_len) (x1.at ex)
  rw [← eH] at eF
  rw [← eH]
  refine eq_of_wR ?_
  simp -implicitDefEqProofs
  rw [eF]
  simp -implicitDefEqProofs
  rw [ew]
  simp -implicitDefEqProofs
  rw [ec]
  simp -implicitDefEqProofs
end
end Lw

set_option Elab.async false
set_option linter.all false
set_option autoImplicit false
set_option maxHeartbeats 4000000
namespace Lw
open PyM
section
variable {pp aa : Nat} {ns : List Int} {a b : Ad} {lw : Pa → Nat} {d lo lo' : Nat} {s sl : S} {h h' : Heap}
theorem St.fr (k : St pp aa ns a lw d s sl h) (T : TP pp aa ns h') (f : Fr pp h h') : St pp aa ns a lw d s sl h' := by
  have hp : ∃ i r t, h[pp]? = some (.lst [.ref aa, .int i, .int r, .int t]) := by
    obtain ⟨i, r, t, _, o⟩ := k.t.k
    exact ⟨i, r, t, o.get (i := 0) rfl⟩
  obtain ⟨i, r, t, hp⟩ := hp
  have ne : ∀ {x : Nat} {ws : List Nat}, h[x]? = some (.lst (wl ws)) → x ≠ pp := fun {x ws} e z => by
    rw [z, hp] at e
    injection e with e
    injection e with e
    cases ws with
    | nil => cases e
    | cons w ws =>
      injection e with e
      cases e
  exact ⟨k.t.nx T f, fun q hq dq => f.at (ne (k.f1 q hq dq)) (k.f1 q hq dq), fun q hq dq => f.at (ne (k.f2 q hq dq)) (k.f2 q hq dq)⟩
theorem nat_tp (T : TP pp aa ns h) {n : Nat} (h0 : 0 < n) (hl : n ≤ 1000) : ∃ (v : Nat) (h' : Heap), v < n ∧ m__law_next [.ref pp, .int (n : Nat)] h = .ok (.int (v : Nat)) h' ∧ TP pp aa ns h' ∧ Fr pp h h' := by
  obtain ⟨v, h', v0, v1, e, T', f, _⟩ := T.next2 nx_eq (n := (n : Nat)) (by omega) (by omega)
  obtain ⟨k, rfl⟩ := Int.eq_ofNat_of_zero_le v0
  exact ⟨k, h', by omega, e, T', f⟩
theorem pick_ok (T : TP pp aa ns h) (xs : List Val) {n : Nat} (hn : n = xs.length) (h0 : 0 < n) (hl : n ≤ 1000) : ∃ (v : Nat) (x : Val) (h' : Heap), x ∈ xs ∧ m__law_next [.ref pp, .int (n : Nat)] (h ++ [.lst xs]) = .ok (.int (v : Nat)) h' ∧ h'[h.length]? = some (.lst xs) ∧ L2.atI xs (v : Nat) = some x ∧ TP pp aa ns h' ∧ Fr pp h h' := by
  have lt := T.lt
  obtain ⟨v, h', hv, e, T', f⟩ := nat_tp (T.push [Obj.lst xs]) h0 hl
  have hv' : v < xs.length := by omega
  refine ⟨v, xs[v], h', List.getElem_mem hv', e, f.at (by omega) at_len, ?_, T', (Ext.fr ⟨_, rfl⟩ _).trans f⟩
  rw [atI_cast, List.getElem?_eq_getElem hv']
theorem nats_of {P : Nat → Prop} : ∀ {ys : List Val}, (∀ y ∈ ys, ∃ n : Nat, y = eN n ∧ P n) → ∃ X : List Nat, ys = X.map eN ∧ ∀ n ∈ X, P n
  | [], _ => ⟨[], rfl, by simp⟩
  | y :: ys, h => by
    obtain ⟨X, h1, h2⟩ := nats_of (ys := ys) fun z hz => h z (List.mem_cons_of_mem _ hz)
    obtain ⟨n, h3, h4⟩ := h y List.mem_cons_self
    refine ⟨n :: X, by rw [h1, h3]; rfl, fun z hz => ?_⟩
    rcases List.mem_cons.mp hz with rfl | hz
    · exact h4
    · exact h2 z hz
theorem path_ok (T : TP pp aa ns h) : ∃ (p : Pa) (h' : Heap), m__law_path [.ref pp] h = .ok (eP p) h' ∧ PaOk p ∧ TP pp aa ns h' ∧ Fr pp h h' := by
  have w : wR (m__law_path [.ref pp] h) (fun _ _ => False) fun x h' => ∃ p : Pa, x = eP p ∧ PaOk p ∧ TP pp aa ns h' ∧ Fr pp h h' := by
    unfold m__law_path
    refine wRB rfl ?_
    have l6 : 6 ≤ lim := by decide
    have l4 : 4 < lim := by decide
    obtain ⟨v, x, h1, hx, e1, g1, a1, T1, f1⟩ := pick_ok T [.int 1, .int 1, .int 2, .int 2, .int 3, .int 0] (n := 6) rfl (by decide) (by decide)
    have e1 : m__law_next [.ref pp, .int 6] (h ++ [.lst [.int 1, .int 1, .int 2, .int 2, .int 3, .int 0]]) = .ok (.int (v : Nat)) h1 := e1
    obtain ⟨k, rfl, hk⟩ : ∃ k : Nat, x = .int (k : Nat) ∧ k ≤ 3 := by
      simp only [List.mem_cons, List.not_mem_nil, or_false] at hx
      rcases hx with rfl | rfl | rfl | rfl | rfl | rfl
      · exact ⟨1, rfl, by decide⟩
      · exact ⟨1, rfl, by decide⟩
      · exact ⟨2, rfl, by decide⟩
      · exact ⟨2, rfl, by decide⟩
      · exact ⟨3, rfl, by decide⟩
      · exact ⟨0, rfl, by decide⟩
    simp -implicitDefEqProofs [e1, g1, a1, l6]
    refine ⟨by omega, ?_⟩
    refine wR_lcT T1 (fun y => ∃ n : Nat, y = eN n ∧ 1 ≤ n ∧ n ≤ 4) (by rw [rangeV_length]; omega) (fun _ _ => rfl) (fun x h' hx T' f' => ?_) fun ys h' hl hR T' f' el => ?_
    · refine ⟨_, rfl, ?_⟩
      obtain ⟨u, h2, hu, e2, T2, f2⟩ := nat_tp T' (n := 4) (by decide) (by decide)
      have e2 : m__law_next [.ref pp, .int 4] h' = .ok (.int (u : Nat)) h2 := e2
      simp -implicitDefEqProofs [wipeE, e2]
      exact ⟨⟨1 + u, by unfold eN; simp, by omega, by omega⟩, T2, f2⟩
    · obtain ⟨p, rfl, hp⟩ := nats_of hR
      rw [List.length_map, rangeV_length] at hl
      have hl : p.length = k := by omega
      have l3 : p.length ≤ lim := by omega
      simp -implicitDefEqProofs [el, l3]
      exact ⟨p, rfl, ⟨by omega, hp⟩, T', f1.trans f'⟩
  obtain ⟨x, h', e, p, rfl, r⟩ := ex_of_wR w
  exact ⟨p, h', e, r⟩
end
end Lw

set_option Elab.async false
set_option linter.all false
set_option autoImplicit false
set_option maxHeartbeats 4000000
namespace Lw
open PyM
section
variable {pp aa : Nat} {ns : List Int} {a b : Ad} {lw : Pa → Nat} {d lo lo' : Nat} {s sl : S} {h h' : Heap}
theorem rangeV_wl {k : Nat} : rangeV 1 k = wl (List.range' 1 k) := by
  unfold rangeV wl eN
  rw [List.range'_eq_map_range, List.map_map]
  refine List.map_congr_left fun i _ => ?_
  simp
def RqT (pp aa : Nat) (ns : List Int) (h : Heap) (x : Val) (h' : Heap) : Prop := ∃ r : Rq, x = r.enc ∧ r.Ok ∧ TP pp aa ns h' ∧ Fr pp h h'
theorem request_ok (T0 : TP pp aa ns h) : ∃ (r : Rq) (h' : Heap), m__law_request [.ref pp] h = .ok r.enc h' ∧ r.Ok ∧ TP pp aa ns h' ∧ Fr pp h h' := by
  have w : wR (m__law_request [.ref pp] h) (fun _ _ => False) (RqT pp aa ns h) := by
    have l2 : 2 ≤ lim := by decide
    have l3 : 3 ≤ lim := by decide
    have l4 : 4 ≤ lim := by decide
    have l48 : 48 ≤ lim := by decide
    obtain ⟨p, h1, e1, hp, T1, f1⟩ := path_ok T0
    obtain ⟨v, h2, hv, e2, T2, f2⟩ := nat_tp T1 (n := 10) (by decide) (by decide)
    have e2 : m__law_next [.ref pp, .int 10] h1 = .ok (.int (v : Nat)) h2 := e2
    have f2 := f1.trans f2
    unfold m__law_request
    refine wRB rfl ?_
    by_cases c3 : v < 3
    · obtain ⟨u, x, h3, hx, e3, g3, a3, T3, f3⟩ := pick_ok T2 [.str 9, .str 10] (n := 2) rfl (by decide) (by decide)
      have e3 : m__law_next [.ref pp, .int 2] (h2 ++ [.lst [.str 9, .str 10]]) = .ok (.int (u : Nat)) h3 := e3
      have c3' : (v : Int) < 3 := by omega
      obtain ⟨dr, rfl⟩ : ∃ dr, x = .str (kD dr) := by
        simp only [List.mem_cons, List.not_mem_nil, or_false] at hx
        rcases hx with rfl | rfl
        · exact ⟨true, rfl⟩
        · exact ⟨false, rfl⟩
      simp -implicitDefEqProofs [e1, e2, c3', gV, l2, l3, e3, g3, a3]
      exact ⟨.mk p dr, rfl, hp, T3, f2.trans f3⟩
    · have c3' : ¬ (v : Int) < 3 := by omega
      by_cases c6 : v < 6
      · have c6' : (v : Int) < 6 := by omega
        obtain ⟨u1, h3, hu1, e3, T3, f3⟩ := nat_tp T2 (n := 4) (by decide) (by decide)
        have e3 : m__law_next [.ref pp, .int 4] h2 = .ok (.int (u1 : Nat)) h3 := e3
        obtain ⟨u2, h4, hu2, e4, T4, f4⟩ := nat_tp T3 (n := 48) (by decide) (by decide)
        have e4 : m__law_next [.ref pp, .int 48] h3 = .ok (.int (u2 : Nat)) h4 := e4
        obtain ⟨u, x, h5, hx, e5, g5, a5, T5, f5⟩ := pick_ok T4 [.int (1 + (u1 : Nat)), .int (1 + (u2 : Nat))] (n := 2) rfl (by decide) (by decide)
        have e5 : m__law_next [.ref pp, .int 2] (h4 ++ [.lst [.int (1 + (u1 : Nat)), .int (1 + (u2 : Nat))]]) = .ok (.int (u : Nat)) h5 := e5
        obtain ⟨k, rfl, hk1, hk⟩ : ∃ k : Nat, x = .int (k : Nat) ∧ 1 ≤ k ∧ k ≤ 48 := by
          simp only [List.mem_cons, List.not_mem_nil, or_false] at hx
          rcases hx with rfl | rfl
          · exact ⟨1 + u1, by simp, by omega, by omega⟩
          · exact ⟨1 + u2, by simp, by omega, by omega⟩
        obtain ⟨o1, h6, ho1, e6, T6, f6⟩ := nat_tp T5 (n := 8) (by decide) (by decide)
        have e6 : m__law_next [.ref pp, .int 8] h5 = .ok (.int (o1 : Nat)) h6 := e6
        obtain ⟨o2, h7, ho2, e7, T7, f7⟩ := nat_tp T6 (n := 49) (by decide) (by decide)
        have e7 : m__law_next [.ref pp, .int 49] h6 = .ok (.int (o2 : Nat)) h7 := e7
        obtain ⟨u', x', h8, hx', e8, g8, a8, T8, f8⟩ := pick_ok T7 [.int 0, .int (o1 : Nat), .int (o2 : Nat)] (n := 3) rfl (by decide) (by decide)
        have e8 : m__law_next [.ref pp, .int 3] (h7 ++ [.lst [.int 0, .int (o1 : Nat), .int (o2 : Nat)]]) = .ok (.int (u' : Nat)) h8 := e8
        obtain ⟨o, rfl, ho⟩ : ∃ k : Nat, x' = .int (k : Nat) ∧ k ≤ 48 := by
          simp only [List.mem_cons, List.not_mem_nil, or_false] at hx'
          rcases hx' with rfl | rfl | rfl
          · exact ⟨0, rfl, by omega⟩
          · exact ⟨o1, rfl, by omega⟩
          · exact ⟨o2, rfl, by omega⟩
        simp -implicitDefEqProofs [e1, e2, c3', c6', gV, l2, l3, l4, e3, e4, e5, g5, a5, e6, e7, e8, g8, a8]
        refine ⟨by omega, .pt p o (List.range' 1 k), ?_, ⟨hp, ho, by simp; omega, by simp; omega, fun w hw => ?_⟩, T8, f2.trans (f3.trans (f4.trans (f5.trans (f6.trans (f7.trans f8)))))⟩
        · rw [show ((1 : Int) + (k : Nat)).toNat - 1 = k by omega, rangeV_wl]
          rfl
        · have := List.mem_range'_1.mp hw
          omega
      · have c6' : ¬ (v : Int) < 6 := by omega
        by_cases q6 : v = 6
        · subst q6
          obtain ⟨o1, h3, ho1, e3, T3, f3⟩ := nat_tp T2 (n := 49) (by decide) (by decide)
          have e3 : m__law_next [.ref pp, .int 49] h2 = .ok (.int (o1 : Nat)) h3 := e3
          obtain ⟨o2, h4, ho2, e4, T4, f4⟩ := nat_tp T3 (n := 49) (by decide) (by decide)
          have e4 : m__law_next [.ref pp, .int 49] h3 = .ok (.int (o2 : Nat)) h4 := e4
          simp -implicitDefEqProofs [e1, e2, gV, l4, e3, e4]
          exact ⟨.gt p o1 o2, rfl, ⟨hp, by omega, by omega⟩, T4, f2.trans (f3.trans f4)⟩
        · have q6' : ¬ (v : Int) = 6 := by omega
          by_cases q7 : v = 7
          · subst q7
            obtain ⟨o1, h3, ho1, e3, T3, f3⟩ := nat_tp T2 (n := 49) (by decide) (by decide)
            have e3 : m__law_next [.ref pp, .int 49] h2 = .ok (.int (o1 : Nat)) h3 := e3
            obtain ⟨u, x, h4, hx, e4, g4, a4, T4, f4⟩ := pick_ok T3 [.int 0, .int (o1 : Nat)] (n := 2) rfl (by decide) (by decide)
            have e4 : m__law_next [.ref pp, .int 2] (h3 ++ [.lst [.int 0, .int (o1 : Nat)]]) = .ok (.int (u : Nat)) h4 := e4
            obtain ⟨o, rfl, ho⟩ : ∃ k : Nat, x = .int (k : Nat) ∧ k ≤ 48 := by
              simp only [List.mem_cons, List.not_mem_nil, or_false] at hx
              rcases hx with rfl | rfl
              · exact ⟨0, rfl, by omega⟩
              · exact ⟨o1, rfl, by omega⟩
            simp -implicitDefEqProofs [e1, e2, gV, l2, l3, e3, e4, g4, a4]
            exact ⟨.sh p o, rfl, ⟨hp, by omega⟩, T4, f2.trans (f3.trans f4)⟩
          · have q7' : ¬ (v : Int) = 7 := by omega
            obtain ⟨u, x, h4, hx, e4, g4, a4, T4, f4⟩ := pick_ok T2 [.tup [.str 5, eP p], .tup [.str 7, eP p], .tup [.str 7, eP p], .tup [.str 8, eP p]] (n := 4) rfl (by decide) (by decide)
            have e4 : m__law_next [.ref pp, .int 4] (h2 ++ [.lst [.tup [.str 5, eP p], .tup [.str 7, eP p], .tup [.str 7, eP p], .tup [.str 8, eP p]]]) = .ok (.int (u : Nat)) h4 := e4
            simp -implicitDefEqProofs [e1, e2, c3', c6', q6', q7', gV, l2, l4, e4, g4, a4]
            simp only [List.mem_cons, List.not_mem_nil, or_false] at hx
            rcases hx with rfl | rfl | rfl | rfl
            · exact ⟨.sz p, rfl, hp, T4, f2.trans f4⟩
            · exact ⟨.dp p, rfl, hp, T4, f2.trans f4⟩
            · exact ⟨.dp p, rfl, hp, T4, f2.trans f4⟩
            · exact ⟨.ls p, rfl, hp, T4, f2.trans f4⟩
  obtain ⟨x, h', e, r, rfl, q⟩ := ex_of_wR w
  exact ⟨r, h', e, q⟩
end
end Lw

set_option Elab.async false
set_option linter.all false
set_option autoImplicit false
set_option maxHeartbeats 4000000
namespace Lw
open PyM
section
variable {pp aa : Nat} {ns : List Int} {a b : Ad} {lw : Pa → Nat} {d lo lo' : Nat} {s sl : S} {h h' : Heap}
def wB (i : Int) : Bool := decide (0 ≤ i) && decide (i ≤ 4294967295)
theorem isnum_i {i : Int} : m_is_number [.int i] h = .ok (.bl true) h := rfl
theorem isnum_b {i : Bool} : m_is_number [.bl i] h = .ok (.bl false) h := rfl
theorem isword_i {i : Int} : m_is_word [.int i] h = .ok (.bl (wB i)) h := by
  refine eq_of_wR ?_
  unfold m_is_word
  refine wRB rfl ?_
  have e : m_is_number [.int i] h = .ok (.bl true) h := isnum_i
  simp -implicitDefEqProofs [e]
  unfold wB
  by_cases c : 0 ≤ i <;> simp [c]
def sB (i : Int) : Bool := decide (0 ≤ i) && decide (i ≤ 48)
theorem issize_i {i : Int} : m_is_size [.int i] h = .ok (.bl (sB i)) h := by
  refine eq_of_wR ?_
  unfold m_is_size
  refine wRB rfl ?_
  have e : m_is_number [.int i] h = .ok (.bl true) h := isnum_i
  simp -implicitDefEqProofs [e]
  unfold sB
  by_cases c : 0 ≤ i <;> simp [c]
theorem issize_b {i : Bool} : m_is_size [.bl i] h = .ok (.bl false) h := by
  refine eq_of_wR ?_
  unfold m_is_size
  refine wRB rfl ?_
  have e : m_is_number [.bl i] h = .ok (.bl false) h := isnum_b
  simp -implicitDefEqProofs [e]
theorem bls {α : Type} (f : α → Bool) : ∀ l : List α, optAll asBl (l.map fun x => Val.bl (f x)) = some (l.map f)
  | [] => rfl
  | x :: l => by
    have := bls f l
    simp only [List.map_cons, optAll, this]
    rfl
theorem ispath_t {xs : List Int} (hl : xs.length ≤ 1000) : ∃ h', m_is_path [.tup (xs.map .int)] h = .ok (.bl (xs.all fun i => wB i && decide (i ≠ 0))) h' ∧ Ext h h' := by
  have l1 : 1000 < lim := by decide
  have w : wR (m_is_path [.tup (xs.map .int)] h) (fun _ _ => False) fun v h' => v = .bl (xs.all fun i => wB i && decide (i ≠ 0)) ∧ Ext h h' := by
    unfold m_is_path
    refine wRB rfl ?_
    simp -implicitDefEqProofs [isTy, tyOf]
    refine wR_lcMap (fun x => match x with | .int i => .bl (wB i && decide (i ≠ 0)) | _ => .non) (by rw [List.length_map]; omega) (fun _ => rfl) (fun x acc hx => ?_) ?_
    · obtain ⟨i, _, rfl⟩ := List.mem_map.mp hx
      refine ⟨_, rfl, ?_⟩
      have e : ∀ H : Heap, m_is_word [.int i] H = .ok (.bl (wB i)) H := fun _ => isword_i
      simp -implicitDefEqProofs [wipeE, gV, e]
      cases wB i <;> simp <;> (try rw [Bool.eq_iff_iff]) <;> simp
    · have e : (xs.map Val.int).map (fun x => match x with | .int i => Val.bl (wB i && decide (i ≠ 0)) | _ => .non) = xs.map fun i => Val.bl (wB i && decide (i ≠ 0)) := by
        rw [List.map_map]
        rfl
      rw [e]
      have g : (h ++ [Obj.lst (xs.map fun i => Val.bl (wB i && decide (i ≠ 0)))])[h.length]? = some (.lst (xs.map fun i => Val.bl (wB i && decide (i ≠ 0)))) := at_len
      simp -implicitDefEqProofs [seqOf, g, bls]
      exact ⟨_, rfl⟩
  obtain ⟨v, h', e, rfl, x⟩ := ex_of_wR w
  exact ⟨h', e, x⟩
theorem ispath_r {n : Nat} {xs : List Val} (e : h[n]? = some (.lst xs)) : m_is_path [.ref n] h = .ok (.bl false) h := by
  refine eq_of_wR ?_
  unfold m_is_path
  refine wRB rfl ?_
  have t : tyOf (.ref n) h = some .lst := by simp [tyOf, e]
  simp -implicitDefEqProofs [isTy, t]
theorem iscont_t {xs : List Int} (hl : xs.length ≤ 1000) : ∃ h', m_is_content [.tup (xs.map .int)] h = .ok (.bl (decide (1 ≤ xs.length ∧ xs.length ≤ 48) && xs.all wB)) h' ∧ Ext h h' := by
  have l1 : 1000 < lim := by decide
  have w : wR (m_is_content [.tup (xs.map .int)] h) (fun _ _ => False) fun v h' => v = .bl (decide (1 ≤ xs.length ∧ xs.length ≤ 48) && xs.all wB) ∧ Ext h h' := by
    unfold m_is_content
    refine wRB rfl ?_
    simp -implicitDefEqProofs [isTy, tyOf]
    by_cases c : 1 ≤ xs.length ∧ xs.length ≤ 48
    · have c1 : (1 : Int) ≤ (xs.length : Int) ∧ (xs.length : Int) ≤ 48 := by omega
      simp -implicitDefEqProofs [c1, c]
      refine wR_lcMap (fun x => match x with | .int i => .bl (wB i) | _ => .non) (by rw [List.length_map]; omega) (fun _ => rfl) (fun x acc hx => ?_) ?_
      · obtain ⟨i, _, rfl⟩ := List.mem_map.mp hx
        refine ⟨_, rfl, ?_⟩
        have e : ∀ H : Heap, m_is_word [.int i] H = .ok (.bl (wB i)) H := fun _ => isword_i
        simp -implicitDefEqProofs [wipeE, gV, e]
      · have e : (xs.map Val.int).map (fun x => match x with | .int i => Val.bl (wB i) | _ => .non) = xs.map fun i => Val.bl (wB i) := by
          rw [List.map_map]
          rfl
        rw [e]
        have g : (h ++ [Obj.lst (xs.map fun i => Val.bl (wB i))])[h.length]? = some (.lst (xs.map fun i => Val.bl (wB i))) := at_len
        simp -implicitDefEqProofs [seqOf, g, bls]
        exact ⟨_, rfl⟩
    · by_cases c1 : (1 : Int) ≤ (xs.length : Int)
      · have c2 : ¬ (xs.length : Int) ≤ 48 := by omega
        rw [if_pos c1, if_neg c2]
        exact ⟨fun _ q => absurd q (by omega), Ext.refl _⟩
      · rw [if_neg c1]
        exact ⟨fun q => absurd q (by omega), Ext.refl _⟩
  obtain ⟨v, h', e, rfl, x⟩ := ex_of_wR w
  exact ⟨h', e, x⟩
end
end Lw

set_option Elab.async false
set_option linter.all false
set_option autoImplicit false
set_option maxHeartbeats 4000000
namespace Lw
open PyM
section
variable {pp aa : Nat} {ns : List Int} {a b : Ad} {lw : Pa → Nat} {d lo lo' : Nat} {s sl : S} {h h' : Heap}
theorem eN_ints (p : List Nat) : p.map eN = (p.map fun n : Nat => (n : Int)).map .int := by
  rw [List.map_map]
  rfl
theorem path_good {p : Pa} (k : PaOk p) (h : Heap) : ∃ h', m_is_path [.tup (p.map eN)] h = .ok (.bl true) h' ∧ Ext h h' := by
  obtain ⟨h', e, x⟩ := ispath_t (h := h) (xs := p.map fun n : Nat => (n : Int)) (by rw [List.length_map]; have := k.1; omega)
  rw [← eN_ints] at e
  have t : ((p.map fun n : Nat => (n : Int)).all fun i => wB i && decide (i ≠ 0)) = true := by
    rw [List.all_map]
    refine List.all_eq_true.mpr fun n hn => ?_
    have := k.2 n hn
    simp only [Function.comp]
    unfold wB
    rw [Bool.and_eq_true, Bool.and_eq_true, decide_eq_true_eq, decide_eq_true_eq, decide_eq_true_eq]
    omega
  rw [t] at e
  exact ⟨h', e, x⟩
theorem cont_good {ws : List Nat} (h1 : 1 ≤ ws.length) (h2 : ws.length ≤ 48) (hw : ∀ w ∈ ws, w < 2 ^ 32) (h : Heap) : ∃ h', m_is_content [.tup (wl ws)] h = .ok (.bl true) h' ∧ Ext h h' := by
  obtain ⟨h', e, x⟩ := iscont_t (h := h) (xs := ws.map fun n : Nat => (n : Int)) (by rw [List.length_map]; omega)
  rw [← eN_ints] at e
  have t : (decide (1 ≤ (ws.map fun n : Nat => (n : Int)).length ∧ (ws.map fun n : Nat => (n : Int)).length ≤ 48) && (ws.map fun n : Nat => (n : Int)).all wB) = true := by
    rw [List.length_map, List.all_map, Bool.and_eq_true, decide_eq_true_eq]
    refine ⟨⟨h1, h2⟩, List.all_eq_true.mpr fun n hn => ?_⟩
    have := hw n hn
    simp only [Function.comp]
    unfold wB
    rw [Bool.and_eq_true, decide_eq_true_eq, decide_eq_true_eq]
    omega
  rw [t] at e
  exact ⟨h', e, x⟩
theorem size_good {n : Nat} (hn : n ≤ 48) (h : Heap) : m_is_size [.int (n : Nat)] h = .ok (.bl true) h := by
  rw [issize_i]
  have : sB (n : Nat) = true := by
    unfold sB
    rw [Bool.and_eq_true, decide_eq_true_eq, decide_eq_true_eq]
    omega
  rw [this]
/-- the three first looks, passed or not -/
def irB : En → Heap → RS := (sSeq (sIf (tB_ (mB (oEq false) (mB oIx (mV 0) (mK (.int 0))) (mK (.str 2)))) (sRet (mOr_ (mB (oEq false) (mB oIx (mV 0) (mK (.int 2))) (mK (.str 9))) (mB (oEq false) (mB oIx (mV 0) (mK (.int 2))) (mK (.str 10))))) (sNx))
    (sSeq (sIf (tB_ (mB (oEq false) (mB oIx (mV 0) (mK (.int 0))) (mK (.str 3)))) (sRet (mAn (mCall m_is_size [] (mCons (mB oIx (mV 0) (mK (.int 2))) (mNil))) (mCall m_is_content [] (mCons (mB oIx (mV 0) (mK (.int 3))) (mNil))))) (sNx))
    (sSeq (sIf (tB_ (mB (oEq false) (mB oIx (mV 0) (mK (.int 0))) (mK (.str 4)))) (sRet (mAn (mCall m_is_size [] (mCons (mB oIx (mV 0) (mK (.int 2))) (mNil))) (mCall m_is_size [] (mCons (mB oIx (mV 0) (mK (.int 3))) (mNil))))) (sNx))
    (sRet (mOr_ (mB (oEq true) (mB oIx (mV 0) (mK (.int 0))) (mK (.str 6))) (mCall m_is_size [] (mCons (mB oIx (mV 0) (mK (.int 2))) (mNil))))))))
theorem ir_cut : m_is_request = runB 1 1
    (sSeq (sIf (tOr_ (tNo (tTr (mIsi .tup (mV 0)))) (tOr_ (tB_ (mB oLt (mL bLen (mCons (mV 0) (mNil))) (mK (.int 2)))) (tNo (tTr (mIsi .str (mB oIx (mV 0) (mK (.int 0)))))))) (sRet (mK (.bl false))) (sNx))
    (sSeq (sIf (tOr_ (tB_ (mU (kIn true c_LENGTHS) (mB oIx (mV 0) (mK (.int 0))))) (tOr_ (tB_ (mB (oEq true) (mL bLen (mCons (mV 0) (mNil))) (mU (kIx c_LENGTHS) (mB oIx (mV 0) (mK (.int 0)))))) (tNo (tTr (mCall m_is_path [] (mCons (mB oIx (mV 0) (mK (.int 1))) (mNil))))))) (sRet (mK (.bl false))) (sNx))
    irB)) := rfl
theorem ir_core {E : Nat → Heap → Prop} {Q : Val → Heap → Prop} {w : Nat} {x : Val} {rest : List Val} {h1 : Heap} {pb : Bool} (hk : lkN c_LENGTHS w = some (.int ((rest.length : Int) + 2))) (ep : m_is_path [x] h = .ok (.bl pb) h1)
    (q : if pb = true then wS (irB [some (.tup (.str w :: x :: rest))] h1) { nx := fun s h => Q .non h, rt := Q, ex := E } else Q (.bl false) h1) : wR (m_is_request [.tup (.str w :: x :: rest)] h) E Q := by
  rw [ir_cut]
  refine wRB rfl ?_
  obtain ⟨B, hB⟩ : ∃ X, X = irB := ⟨_, rfl⟩
  rw [← hB] at q ⊢
  have e0 : L2.atI (Val.str w :: x :: rest) 0 = some (.str w) := atI_cast (Val.str w :: x :: rest) 0
  have e1 : L2.atI (Val.str w :: x :: rest) 1 = some x := atI_cast (Val.str w :: x :: rest) 1
  have l2' : ¬ (rest.length : Int) + 2 < 2 := by omega
  have l2 : ¬ (((Val.str w :: x :: rest).length : Nat) : Int) < 2 := by simp only [List.length_cons]; omega
  have ln : (((Val.str w :: x :: rest).length : Nat) : Int) = (rest.length : Int) + 2 := by simp only [List.length_cons]; omega
  obtain ⟨XS, hX⟩ : ∃ X, X = Val.str w :: x :: rest := ⟨_, rfl⟩
  rw [← hX] at q e0 e1 l2 ln ⊢
  cases pb with
  | true =>
    rw [if_pos rfl] at q
    simp -implicitDefEqProofs [isTy, tyOf, e0, e1, hk, l2', ep, truth, ln]
    exact q
  | false =>
    rw [if_neg (by decide)] at q
    simp -implicitDefEqProofs [isTy, tyOf, e0, e1, hk, l2', ep, truth, ln]
    exact q
end
end Lw

set_option Elab.async false
set_option linter.all false
set_option autoImplicit false
set_option maxHeartbeats 4000000
namespace Lw
open PyM
section
variable {pp aa : Nat} {ns : List Int} {a b : Ad} {lw : Pa → Nat} {d lo lo' : Nat} {s sl : S} {h h' : Heap}
def IsR (x : Val) (c : Bool) (h : Heap) : Prop := ∃ h', m_is_request [x] h = .ok (.bl c) h' ∧ Ext h h'
theorem isr_of {x : Val} {c : Bool} (w : wR (m_is_request [x] h) (fun _ _ => False) fun v h' => v = .bl c ∧ Ext h h') : IsR x c h := by
  obtain ⟨v, h', e, rfl, x⟩ := ex_of_wR w
  exact ⟨h', e, x⟩
theorem isr_ok {r : Rq} (k : r.Ok) : IsR r.enc true h := by
  obtain ⟨h1, e1, x1⟩ := path_good k.path h
  refine isr_of ?_
  cases r with
  | mk p dr =>
    refine ir_core (pb := true) (by rfl) e1 ?_
    rw [if_pos rfl]
    unfold irB
    cases dr <;> simp -implicitDefEqProofs [kD] <;> exact x1
  | pt p o ws =>
    obtain ⟨h2, e2, x2⟩ := cont_good k.2.2.1 k.2.2.2.1 k.2.2.2.2 h1
    have e3 := size_good k.2.1 h1
    refine ir_core (pb := true) (by rfl) e1 ?_
    rw [if_pos rfl]
    unfold irB
    simp -implicitDefEqProofs [eN, e2, e3]
    exact x1.trans x2
  | gt p o n =>
    have e3 := size_good k.2.1 h1
    have e4 := size_good k.2.2 h1
    refine ir_core (pb := true) (by rfl) e1 ?_
    rw [if_pos rfl]
    unfold irB
    simp -implicitDefEqProofs [eN, e3, e4]
    exact x1
  | sh p n =>
    have e3 := size_good k.2 h1
    refine ir_core (pb := true) (by rfl) e1 ?_
    rw [if_pos rfl]
    unfold irB
    simp -implicitDefEqProofs [eN, e3]
    exact x1
  | sz p =>
    refine ir_core (pb := true) (by rfl) e1 ?_
    rw [if_pos rfl]
    unfold irB
    simp -implicitDefEqProofs
    exact x1
  | dp p =>
    refine ir_core (pb := true) (by rfl) e1 ?_
    rw [if_pos rfl]
    unfold irB
    simp -implicitDefEqProofs
    exact x1
  | ls p =>
    refine ir_core (pb := true) (by rfl) e1 ?_
    rw [if_pos rfl]
    unfold irB
    simp -implicitDefEqProofs
    exact x1
/-! what is no request -/
theorem bad_non : IsR .non false h := isr_of (by
  rw [ir_cut]
  refine wRB rfl ?_
  obtain ⟨B, hB⟩ : ∃ X, X = irB := ⟨_, rfl⟩
  rw [← hB]
  simp -implicitDefEqProofs [isTy, tyOf]
  exact Ext.refl _)
theorem bad_lst {n : Nat} {xs : List Val} (e : h[n]? = some (.lst xs)) : IsR (.ref n) false h := isr_of (by
  have t : tyOf (.ref n) h = some .lst := by simp [tyOf, e]
  rw [ir_cut]
  refine wRB rfl ?_
  obtain ⟨B, hB⟩ : ∃ X, X = irB := ⟨_, rfl⟩
  rw [← hB]
  simp -implicitDefEqProofs [isTy, t]
  exact Ext.refl _)
theorem bad_0 : IsR (.tup []) false h := isr_of (by
  rw [ir_cut]
  refine wRB rfl ?_
  obtain ⟨B, hB⟩ : ∃ X, X = irB := ⟨_, rfl⟩
  rw [← hB]
  simp -implicitDefEqProofs [isTy, tyOf]
  exact Ext.refl _)
theorem bad_1 {w : Nat} : IsR (.tup [.str w]) false h := isr_of (by
  rw [ir_cut]
  refine wRB rfl ?_
  obtain ⟨B, hB⟩ : ∃ X, X = irB := ⟨_, rfl⟩
  rw [← hB]
  simp -implicitDefEqProofs [isTy, tyOf]
  exact Ext.refl _)
theorem bad_len {w : Nat} {x : Val} {rest : List Val} {n : Int} (hk : lkN c_LENGTHS w = some (.int n)) (hn : n ≠ (rest.length : Int) + 2) : IsR (.tup (.str w :: x :: rest)) false h := isr_of (by
  rw [ir_cut]
  refine wRB rfl ?_
  obtain ⟨B, hB⟩ : ∃ X, X = irB := ⟨_, rfl⟩
  rw [← hB]
  have e0 : L2.atI (Val.str w :: x :: rest) 0 = some (.str w) := atI_cast (Val.str w :: x :: rest) 0
  have l2' : ¬ (rest.length : Int) + 2 < 2 := by omega
  have ln : (((Val.str w :: x :: rest).length : Nat) : Int) = (rest.length : Int) + 2 := by simp only [List.length_cons]; omega
  have hn' : ¬ (rest.length : Int) + 2 = n := fun z => hn z.symm
  obtain ⟨XS, hX⟩ : ∃ X, X = Val.str w :: x :: rest := ⟨_, rfl⟩
  rw [← hX] at e0 ln ⊢
  simp -implicitDefEqProofs [isTy, tyOf, e0, hk, l2', truth, ln, hn']
  exact Ext.refl _)
theorem path_is {xs : List Int} {c : Bool} (hl : xs.length ≤ 1000) (e : (xs.all fun i => wB i && decide (i ≠ 0)) = c) (h : Heap) : ∃ h', m_is_path [.tup (xs.map .int)] h = .ok (.bl c) h' ∧ Ext h h' := by
  subst e
  exact ispath_t hl
theorem cont_is {xs : List Int} {c : Bool} (hl : xs.length ≤ 1000) (e : (decide (1 ≤ xs.length ∧ xs.length ≤ 48) && xs.all wB) = c) (h : Heap) : ∃ h', m_is_content [.tup (xs.map .int)] h = .ok (.bl c) h' ∧ Ext h h' := by
  subst e
  exact iscont_t hl
theorem bad_path {w : Nat} {xs : List Int} {rest : List Val} (hk : lkN c_LENGTHS w = some (.int ((rest.length : Int) + 2))) (hl : xs.length ≤ 1000) (e : (xs.all fun i => wB i && decide (i ≠ 0)) = false) : IsR (.tup (.str w :: .tup (xs.map .int) :: rest)) false h := by
  obtain ⟨h1, e1, x1⟩ := path_is hl e h
  refine isr_of (ir_core hk e1 ?_)
  rw [if_neg (by decide)]
  exact ⟨rfl, x1⟩
theorem bad_pref {w n : Nat} {xs : List Val} {rest : List Val} (hk : lkN c_LENGTHS w = some (.int ((rest.length : Int) + 2))) (e : h[n]? = some (.lst xs)) : IsR (.tup (.str w :: .ref n :: rest)) false h := by
  refine isr_of (ir_core hk (ispath_r e) ?_)
  rw [if_neg (by decide)]
  exact ⟨rfl, Ext.refl _⟩
theorem one_path (h : Heap) : ∃ h', m_is_path [.tup [.int 1]] h = .ok (.bl true) h' ∧ Ext h h' := path_is (xs := [1]) (by decide) (by decide) h
theorem bad_kind : IsR (.tup [.str 2, .tup [.int 1], .str 17]) false h := by
  obtain ⟨h1, e1, x1⟩ := one_path h
  refine isr_of (ir_core (pb := true) (by rfl) e1 ?_)
  rw [if_pos rfl]
  unfold irB
  simp -implicitDefEqProofs
  exact x1
theorem bad_put {o : Int} {xs : List Int} {c : Bool} (hl : xs.length ≤ 1000) (ho : sB o = c) (e : c = false ∨ (decide (1 ≤ xs.length ∧ xs.length ≤ 48) && xs.all wB) = false) : IsR (.tup [.str 3, .tup [.int 1], .int o, .tup (xs.map .int)]) false h := by
  obtain ⟨h1, e1, x1⟩ := one_path h
  have e3 : m_is_size [.int o] h1 = .ok (.bl c) h1 := by rw [issize_i, ho]
  refine isr_of (ir_core (pb := true) (by rfl) e1 ?_)
  rw [if_pos rfl]
  unfold irB
  cases c with
  | false =>
    simp -implicitDefEqProofs [e3]
    exact x1
  | true =>
    obtain ⟨h2, e2, x2⟩ := cont_is (c := false) hl (by simpa using e) h1
    simp -implicitDefEqProofs [e3, e2]
    exact x1.trans x2
theorem bad_get : IsR (.tup [.str 4, .tup [.int 1], .bl true, .int 1]) false h := by
  obtain ⟨h1, e1, x1⟩ := one_path h
  have e3 : m_is_size [.bl true] h1 = .ok (.bl false) h1 := issize_b
  refine isr_of (ir_core (pb := true) (by rfl) e1 ?_)
  rw [if_pos rfl]
  unfold irB
  simp -implicitDefEqProofs [e3]
  exact x1
theorem bad_shr : IsR (.tup [.str 6, .tup [.int 1], .int (-1)]) false h := by
  obtain ⟨h1, e1, x1⟩ := one_path h
  have e3 : m_is_size [.int (-1)] h1 = .ok (.bl false) h1 := by rw [issize_i]; rfl
  refine isr_of (ir_core (pb := true) (by rfl) e1 ?_)
  rw [if_pos rfl]
  unfold irB
  simp -implicitDefEqProofs [e3]
  exact x1
end
end Lw

set_option Elab.async false
set_option linter.all false
set_option autoImplicit false
set_option maxHeartbeats 4000000
namespace Lw
open PyM
section
variable {pp aa : Nat} {ns : List Int} {a b : Ad} {lw : Pa → Nat} {d lo lo' : Nat} {s sl : S} {h h' : Heap} {x0 x4 x5 x6 x7 x8 x9 : Option Val}
def lwK : En → Heap → RS := (sSeq (sAsg (gV 4) (mCall m_copied [] (mCons (mV 2) (mNil))))
    (sSeq (sAsg (gV 7) (mL bDictT (mCons (mV 3) (mNil))))
    (sIf (tB_ (mB (oEqT true) (mFl 4) (mV 7))) (sRet (mK (.bl false))) (sNx))))
def lwA : En → Heap → RS := (sIf (tOr_ (tB_ (mB (oEq true) (mCall m_ask [] (mCons (mV 2) (mCons (mV 6) (mNil)))) (mCall m__law_due [] (mCons (mV 3) (mCons (mV 6) (mNil)))))) (tB_ (mB (oEqT true) (mFl 2) (mV 3)))) (sRet (mK (.bl false))) (sNx))
def lwB : En → Heap → RS := (sSeq (sAsg (gV 6) (mCall m__law_request [] (mCons (mV 1) (mNil))))
    (sSeq (sIf (tB_ (mB (oIsB true) (mCall m_is_request [] (mCons (mV 6) (mNil))) (mK (.bl true)))) (sRet (mK (.bl false))) (sNx))
    (sSeq (sIf (tB_ (mB (oEq false) (mCall m__law_next [] (mCons (mV 1) (mCons (mK (.int 9)) (mNil)))) (mK (.int 0)))) lwK (sNx))
    lwA)))
theorem ansV_pl {r : Rq} : pl 60 (ansV s r) = true := by
  have pn : ∀ k, pl 60 (no k) = true := fun _ => rfl
  have p0 : pl 60 (ok .non) = true := rfl
  have pe : ∀ n, pl 60 (ok (eN n)) = true := fun _ => rfl
  have pt : ∀ ws : List Nat, pl 60 (ok (.tup (wl ws))) = true := fun ws => pl_tup fun x hx => by
    simp only [List.mem_cons, List.not_mem_nil, or_false] at hx
    rcases hx with rfl | rfl
    · rfl
    · refine pl_tup fun y hy => ?_
      obtain ⟨n, _, rfl⟩ := List.mem_map.mp hy
      rfl
  have pz : ∀ ws : List Int, pl 60 (ok (.tup (ws.map .int))) = true := fun ws => pl_tup fun x hx => by
    simp only [List.mem_cons, List.not_mem_nil, or_false] at hx
    rcases hx with rfl | rfl
    · rfl
    · refine pl_tup fun y hy => ?_
      obtain ⟨n, _, rfl⟩ := List.mem_map.mp hy
      rfl
  cases r <;> unfold ansV <;> (repeat' split) <;> first | exact pn _ | exact p0 | exact pe _ | exact pt _ | exact pz _
theorem lwK_ok (i : Inv s) (k : St pp aa ns a lw d s s h) : ∃ x4' x7' h', lwK [x0, some (.ref pp), some (.ref (a.A [])), some (.ref d), x4, x5, x6, x7, x8, x9] h = .nx [x0, some (.ref pp), some (.ref (a.A [])), some (.ref d), x4', x5, x6, x7', x8, x9] h' ∧ Ext h h' := by
  obtain ⟨b, h1, e1, x1, c1⟩ := cp_ok i k.dj 6 [] h i.top.1 (by simp) k.rd
  have k1 := k.ext x1
  have hd := k1.law
  have ho := hash_ok i (f := pv s lw)
  have ll : (dG eP (pv s lw) s.L).length ≤ lim := by
    rw [dG_len]
    have := i.l85
    have : 85 ≤ lim := by decide
    omega
  have e2 : bDictT [.ref d] h1 = .ok (.ref h1.length) (h1 ++ [lawO s lw]) := by
    unfold lawO at hd ⊢
    simp only [bDictT, hd]
    rw [if_pos ⟨ho, ll⟩]
  obtain ⟨H2, E2⟩ : ∃ H : Heap, H = h1 ++ [lawO s lw] := ⟨_, rfl⟩
  have x2 : Ext h1 H2 := ⟨_, E2⟩
  rw [← E2] at e2
  have e3 := look_ok (a := b) (h := H2) i (Cp.dj c1) ((Cp.rd c1).ext x2) (v := 4) (w := 7) (st := [x0, some (.ref pp), some (.ref (a.A [])), some (.ref d), some (.ref (b.A [])), x5, x6, some (.ref h1.length), x8, x9]) (x := h1.length) (g := lw) rfl (fun _ => rfl) (by rw [E2]; exact at_len) (k1.ext x2).f2
  refine ⟨some (.ref (b.A [])), some (.ref h1.length), H2 ++ [.dcT (dG eP (pv s b.B) (flatL s 6 []))], eq_nx ?_, x1.trans (x2.trans ⟨_, rfl⟩)⟩
  unfold lwK
  obtain ⟨MX, hM⟩ : ∃ X, X = mB (oEqT true) (mFl 4) (mV 7) := ⟨_, rfl⟩
  rw [← hM] at e3 ⊢
  have e1' : m_copied [.ref (a.A [])] h = .ok (.ref (b.A [])) h1 := e1
  simp -implicitDefEqProofs [e1', gV, e2, e3]
theorem lwA_ok (i : Inv s) (k : St pp aa ns a lw d s s h) {r : Rq} (hr : r.Ok) : ∃ a' lw' h', lwA [x0, some (.ref pp), some (.ref (a.A [])), some (.ref d), x4, x5, some r.enc, x7, x8, x9] h = .nx [x0, some (.ref pp), some (.ref (a.A [])), some (.ref d), x4, x5, some r.enc, x7, x8, x9] h' ∧ St pp aa ns a' lw' d (nxt s r) (nxt s r) h' ∧ a'.A [] = a.A [] := by
  obtain ⟨a', h1, e1, k1, ea⟩ := ask_ok i k hr
  have il := i.l85
  obtain ⟨lw', h2, e2, k2⟩ := ld_ok i k1 (by omega) hr
  have i2 := i.nxt hr
  have eq := oEq_self (neg := true) (h := h2) (ansV_pl (s := s) (r := r))
  have e3 := look_ok (a := a') (h := h2) i2 k2.dj k2.rd (v := 2) (w := 3) (st := [x0, some (.ref pp), some (.ref (a.A [])), some (.ref d), x4, x5, some r.enc, x7, x8, x9]) (x := d) (g := lw') (by rw [ea]; rfl) (fun _ => rfl) k2.law k2.f2
  refine ⟨a', lw', h2 ++ [.dcT (dG eP (pv (nxt s r) a'.B) (flatL (nxt s r) 6 []))], eq_nx ?_, k2.ext ⟨_, rfl⟩, ea⟩
  unfold lwA
  obtain ⟨MX, hM⟩ : ∃ X, X = mB (oEqT true) (mFl 2) (mV 3) := ⟨_, rfl⟩
  rw [← hM] at e3 ⊢
  simp -implicitDefEqProofs [e1, e2, eq, e3]
theorem lwB_ok (i : Inv s) (k : St pp aa ns a lw d s s h) : ∃ s' a' lw' x4' x6' x7' h', lwB [x0, some (.ref pp), some (.ref (a.A [])), some (.ref d), x4, x5, x6, x7, x8, x9] h = .nx [x0, some (.ref pp), some (.ref (a.A [])), some (.ref d), x4', x5, x6', x7', x8, x9] h' ∧ Inv s' ∧ St pp aa ns a' lw' d s' s' h' ∧ a'.A [] = a.A [] := by
  obtain ⟨r, h1, e1, hr, T1, f1⟩ := request_ok k.t.tp
  have k1 := k.fr T1 f1
  obtain ⟨h2, e2, y2⟩ := isr_ok (h := h1) hr
  have k2 := k1.ext y2
  obtain ⟨v, h3, hv, e3, T3, f3⟩ := nat_tp k2.t.tp (n := 9) (by decide) (by decide)
  have e3 : m__law_next [.ref pp, .int 9] h2 = .ok (.int (v : Nat)) h3 := e3
  have k3 := k2.fr T3 f3
  have i2 := i.nxt hr
  obtain ⟨K, hK⟩ : ∃ X, X = lwK := ⟨_, rfl⟩
  obtain ⟨A, hA⟩ : ∃ X, X = lwA := ⟨_, rfl⟩
  by_cases z : v = 0
  · subst z
    obtain ⟨x4', x7', h4, e4, y4⟩ := lwK_ok i k3 (x0 := x0) (x4 := x4) (x5 := x5) (x6 := some r.enc) (x7 := x7) (x8 := x8) (x9 := x9)
    obtain ⟨a', lw', h5, e5, k5, ea⟩ := lwA_ok i (k3.ext y4) hr (x0 := x0) (x4 := x4') (x5 := x5) (x7 := x7') (x8 := x8) (x9 := x9)
    refine ⟨nxt s r, a', lw', x4', some r.enc, x7', h5, eq_nx ?_, i2, k5, ea⟩
    unfold lwB
    rw [← hK] at e4 ⊢
    rw [← hA] at e5 ⊢
    have e3' : m__law_next [.ref pp, .int 9] h2 = .ok (.int 0) h3 := e3
    simp -implicitDefEqProofs [e1, gV, e2, e3', e4, e5]
  · obtain ⟨a', lw', h5, e5, k5, ea⟩ := lwA_ok i k3 hr (x0 := x0) (x4 := x4) (x5 := x5) (x7 := x7) (x8 := x8) (x9 := x9)
    refine ⟨nxt s r, a', lw', x4, some r.enc, x7, h5, eq_nx ?_, i2, k5, ea⟩
    unfold lwB
    rw [← hK]
    rw [← hA] at e5 ⊢
    have z' : ¬ (v : Int) = 0 := by omega
    simp -implicitDefEqProofs [e1, gV, e2, e3, z, e5]
end
end Lw

set_option Elab.async false
set_option linter.all false
set_option autoImplicit false
set_option maxHeartbeats 4000000
namespace Lw
open PyM
section
variable {pp aa : Nat} {ns : List Int} {a b : Ad} {lw : Pa → Nat} {d lo lo' : Nat} {s sl : S} {h h' : Heap} {x0 x1 x2 x3 x4 x5 x6 x7 x8 x9 : Option Val}
def lwX1 : En → Heap → RS := (sAsg (gV 8) (mLst (mCons (mK .non) (mCons (mTup (mNil)) (mCons (mTup (mCons (mK (.str 2)) (mCons (mTup (mCons (mK (.int 1)) (mNil))) (mNil)))) (mCons (mTup (mCons (mK (.str 2)) (mCons (mTup (mCons (mK (.int 0)) (mNil))) (mCons (mK (.str 9)) (mNil))))) (mCons (mTup (mCons (mK (.str 2)) (mCons (mLst (mCons (mK (.int 1)) (mNil))) (mCons (mK (.str 9)) (mNil))))) (mCons (mTup (mCons (mK (.str 2)) (mCons (mTup (mCons (mK (.int 1)) (mNil))) (mCons (mK (.str 17)) (mNil))))) (mCons (mTup (mCons (mK (.str 3)) (mCons (mTup (mCons (mK (.int 1)) (mNil))) (mCons (mK (.int 0)) (mCons (mTup (mNil)) (mNil)))))) (mNil))))))))))
def lwX2 : En → Heap → RS := (sAsg (gV 8) (mB oAdd (mV 8) (mLst (mCons (mTup (mCons (mK (.str 3)) (mCons (mTup (mCons (mK (.int 1)) (mNil))) (mCons (mK (.int 49)) (mCons (mTup (mCons (mK (.int 1)) (mNil))) (mNil)))))) (mCons (mTup (mCons (mK (.str 3)) (mCons (mTup (mCons (mK (.int 1)) (mNil))) (mCons (mK (.int 0)) (mCons (mTup (mCons (mU oNeg (mK (.int 1))) (mNil))) (mNil)))))) (mCons (mTup (mCons (mK (.str 4)) (mCons (mTup (mCons (mK (.int 1)) (mNil))) (mCons (mK (.bl true)) (mCons (mK (.int 1)) (mNil)))))) (mCons (mTup (mCons (mK (.str 6)) (mCons (mTup (mCons (mK (.int 1)) (mNil))) (mCons (mU oNeg (mK (.int 1))) (mNil))))) (mCons (mTup (mCons (mK (.str 5)) (mCons (mTup (mCons (mB oPw (mK (.int 2)) (mK (.int 32))) (mNil))) (mNil)))) (mNil)))))))))
def lwX3 : En → Heap → RS := (sAsg (gV 8) (mB oAdd (mV 8) (mLst (mCons (mLst (mCons (mK (.str 5)) (mCons (mTup (mCons (mK (.int 1)) (mNil))) (mNil)))) (mCons (mTup (mCons (mK (.str 18)) (mNil))) (mCons (mTup (mCons (mK (.str 3)) (mCons (mTup (mCons (mK (.int 1)) (mNil))) (mCons (mK (.int 0)) (mCons (mB oMul (mTup (mCons (mK (.int 1)) (mNil))) (mK (.int 49))) (mNil)))))) (mCons (mTup (mCons (mK (.str 8)) (mCons (mTup (mCons (mK (.int 1)) (mNil))) (mCons (mK (.int 0)) (mNil))))) (mNil))))))))
def lwX4 : En → Heap → RS := (sRet (mB (oEq false) (mL bLen (mCons (mLc (iAlt (iLst (mV 8)) (iTup_ (mV 8))) (gV 9) (tB_ (mB (oIsB true) (mCall m_is_request [] (mCons (mV 9) (mNil))) (mK (.bl false)))) (mV 9) [9]) (mNil))) (mK (.int 0))))
def bd1 (n : Nat) : List Val := [.non, .tup [], .tup [.str 2, .tup [.int 1]], .tup [.str 2, .tup [.int 0], .str 9], .tup [.str 2, .ref n, .str 9], .tup [.str 2, .tup [.int 1], .str 17], .tup [.str 3, .tup [.int 1], .int 0, .tup []]]
def bd2 : List Val := [.tup [.str 3, .tup [.int 1], .int 49, .tup [.int 1]], .tup [.str 3, .tup [.int 1], .int 0, .tup [.int (-1)]], .tup [.str 4, .tup [.int 1], .bl true, .int 1], .tup [.str 6, .tup [.int 1], .int (-1)], .tup [.str 5, .tup [.int 4294967296]]]
def bd3 (m : Nat) : List Val := [.ref m, .tup [.str 18], .tup [.str 3, .tup [.int 1], .int 0, .tup ((List.replicate 49 (1 : Int)).map .int)], .tup [.str 8, .tup [.int 1], .int 0]]
theorem x1_ok : lwX1 [x0, x1, x2, x3, x4, x5, x6, x7, x8, x9] h = .nx [x0, x1, x2, x3, x4, x5, x6, x7, some (.ref (h.length + 1)), x9] (h ++ [.lst [.int 1], .lst (bd1 h.length)]) := by
  have l7 : 7 ≤ lim := by decide
  have l4 : 4 ≤ lim := by decide
  have l3 : 3 ≤ lim := by decide
  have l2 : 2 ≤ lim := by decide
  have l1 : 1 ≤ lim := by decide
  refine eq_nx ?_
  unfold lwX1
  simp -implicitDefEqProofs [gV, l7, l4, l3, l2, l1]
  rfl
theorem x2_ok {n : Nat} {xs : List Val} (e : h[n]? = some (.lst xs)) (hl : xs.length ≤ 100) : ∃ g, lwX2 [x0, x1, x2, x3, x4, x5, x6, x7, some (.ref n), x9] h = .nx [x0, x1, x2, x3, x4, x5, x6, x7, some (.ref (h.length + 1)), x9] (h ++ g) ∧ (h ++ g)[h.length + 1]? = some (.lst (xs ++ bd2)) := by
  have l7 : 105 ≤ lim := by decide
  have l5 : 5 ≤ lim := by decide
  have l4 : 4 ≤ lim := by decide
  have l3 : 3 ≤ lim := by decide
  have l2 : 2 ≤ lim := by decide
  have l1 : 1 ≤ lim := by decide
  have e1 : (h ++ [Obj.lst bd2])[n]? = some (.lst xs) := at_push e
  have e2 : (h ++ [Obj.lst bd2])[h.length]? = some (.lst bd2) := at_len
  have lb : xs.length + bd2.length ≤ lim := by
    have : bd2.length = 5 := rfl
    omega
  refine ⟨[.lst bd2, .lst (xs ++ bd2)], eq_nx ?_, at_app 1 rfl rfl⟩
  unfold lwX2
  simp -implicitDefEqProofs [gV, l7, l5, l4, l3, l2, l1]
  have eb : [Val.tup [Val.str 3, Val.tup [Val.int 1], Val.int 49, Val.tup [Val.int 1]], Val.tup [Val.str 3, Val.tup [Val.int 1], Val.int 0, Val.tup [Val.int (-1)]], Val.tup [Val.str 4, Val.tup [Val.int 1], Val.bl true, Val.int 1], Val.tup [Val.str 6, Val.tup [Val.int 1], Val.int (-1)], Val.tup [Val.str 5, Val.tup [Val.int 4294967296]]] = bd2 := rfl
  rw [eb]
  simp -implicitDefEqProofs [e1, e2, lb]
  decide
theorem x3_ok {n : Nat} {xs : List Val} (e : h[n]? = some (.lst xs)) (hl : xs.length ≤ 100) : ∃ g m, lwX3 [x0, x1, x2, x3, x4, x5, x6, x7, some (.ref n), x9] h = .nx [x0, x1, x2, x3, x4, x5, x6, x7, some (.ref (h.length + 2)), x9] (h ++ g) ∧ (h ++ g)[h.length + 2]? = some (.lst (xs ++ bd3 m)) ∧ (h ++ g)[m]? = some (.lst [.str 5, .tup [.int 1]]) := by
  have l7 : 105 ≤ lim := by decide
  have l49 : 49 ≤ lim := by decide
  have l5 : 5 ≤ lim := by decide
  have l4 : 4 ≤ lim := by decide
  have l3 : 3 ≤ lim := by decide
  have l2 : 2 ≤ lim := by decide
  have l1 : 1 ≤ lim := by decide
  have e1 : (h ++ [Obj.lst [.str 5, .tup [.int 1]], Obj.lst (bd3 h.length)])[n]? = some (.lst xs) := at_push e
  have e2 : (h ++ [Obj.lst [.str 5, .tup [.int 1]], Obj.lst (bd3 h.length)])[h.length + 1]? = some (.lst (bd3 h.length)) := at_app 1 rfl rfl
  have lb : xs.length + (bd3 h.length).length ≤ lim := by
    have : (bd3 h.length).length = 4 := rfl
    omega
  refine ⟨[.lst [.str 5, .tup [.int 1]], .lst (bd3 h.length), .lst (xs ++ bd3 h.length)], h.length, eq_nx ?_, at_app 2 rfl rfl, at_app 0 rfl rfl⟩
  unfold lwX3
  simp -implicitDefEqProofs [gV, l7, l5, l4, l3, l2, l1, l49]
  have er : repV 49 [Val.int 1] = (List.replicate 49 (1 : Int)).map .int := rfl
  rw [er]
  have eb : [Val.ref h.length, Val.tup [Val.str 18], Val.tup [Val.str 3, Val.tup [Val.int 1], Val.int 0, Val.tup ((List.replicate 49 (1 : Int)).map .int)], Val.tup [Val.str 8, Val.tup [Val.int 1], Val.int 0]] = bd3 h.length := rfl
  rw [eb]
  simp -implicitDefEqProofs [e1, e2, lb]
end
end Lw

set_option Elab.async false
set_option linter.all false
set_option autoImplicit false
set_option maxHeartbeats 4000000
namespace Lw
open PyM
section
variable {pp aa : Nat} {ns : List Int} {a b : Ad} {lw : Pa → Nat} {d lo lo' : Nat} {s sl : S} {h h' : Heap} {x0 x1 x2 x3 x4 x5 x6 x7 x8 x9 : Option Val}
theorem bads {n m : Nat} (e1 : h[n]? = some (.lst [.int 1])) (e2 : h[m]? = some (.lst [.str 5, .tup [.int 1]])) : ∀ x ∈ bd1 n ++ bd2 ++ bd3 m, IsR x false h := by
  intro x hx
  have one : Val.tup [Val.int 1] = .tup (([1] : List Int).map .int) := rfl
  rw [List.mem_append, List.mem_append] at hx
  rcases hx with (hx | hx) | hx
  · unfold bd1 at hx
    simp only [List.mem_cons, List.not_mem_nil, or_false] at hx
    rcases hx with rfl | rfl | rfl | rfl | rfl | rfl | rfl
    · exact bad_non
    · exact bad_0
    · exact bad_len (rest := []) (n := 3) rfl (by decide)
    · exact bad_path (xs := [0]) rfl (by decide) (by decide)
    · exact bad_pref rfl e1
    · exact bad_kind
    · exact bad_put (o := 0) (xs := []) (c := true) (by decide) (by decide) (.inr (by decide))
  · unfold bd2 at hx
    simp only [List.mem_cons, List.not_mem_nil, or_false] at hx
    rcases hx with rfl | rfl | rfl | rfl | rfl
    · exact bad_put (o := 49) (xs := [1]) (c := false) (by decide) (by decide) (.inl rfl)
    · exact bad_put (o := 0) (xs := [-1]) (c := true) (by decide) (by decide) (.inr (by decide))
    · exact bad_get
    · exact bad_shr
    · exact bad_path (xs := [4294967296]) rfl (by decide) (by decide)
  · unfold bd3 at hx
    simp only [List.mem_cons, List.not_mem_nil, or_false] at hx
    rcases hx with rfl | rfl | rfl | rfl
    · exact bad_lst e2
    · exact bad_1
    · exact bad_put (o := 0) (xs := List.replicate 49 1) (c := true) (by decide) (by decide) (.inr (by decide))
    · exact bad_len (rest := [.int 0]) (n := 2) rfl (by decide)
theorem x4_ok {q n m : Nat} (e : h[q]? = some (.lst (bd1 n ++ bd2 ++ bd3 m))) (e1 : h[n]? = some (.lst [.int 1])) (e2 : h[m]? = some (.lst [.str 5, .tup [.int 1]])) : ∃ h', lwX4 [x0, x1, x2, x3, x4, x5, x6, x7, some (.ref q), x9] h = .rt (.bl true) h' := by
  have w : wS (lwX4 [x0, x1, x2, x3, x4, x5, x6, x7, some (.ref q), x9] h) { nx := fun _ _ => False, rt := fun v h' => v = .bl true } := by
    obtain ⟨XS, hX⟩ : ∃ X, X = bd1 n ++ bd2 ++ bd3 m := ⟨_, rfl⟩
    have hl : XS.length = 16 := by rw [hX]; rfl
    have hb : ∀ h', Ext h h' → ∀ x ∈ XS, IsR x false h' := fun h' y x hx => bads (y.at e1) (y.at e2) x (by rw [← hX]; exact hx)
    have l16 : 16 < lim := by decide
    rw [← hX] at e
    unfold lwX4
    simp -implicitDefEqProofs [e]
    refine wR_lcX (fun _ => false) id (by omega) (fun h' ex => lstIs_at (ex.at e)) (fun x h' hx ex => ?_) fun h' ex el => ?_
    · obtain ⟨h1, q1, q2⟩ := hb h' ex x hx
      refine ⟨_, rfl, ?_⟩
      simp -implicitDefEqProofs [wipeE, gV, q1]
      exact q2
    · have z : XS.filter (fun _ => false) = [] := List.filter_eq_nil_iff.mpr fun _ _ => by simp
      rw [z] at el
      have el : h'[h.length]? = some (.lst []) := el
      simp -implicitDefEqProofs [el]
  generalize hr : lwX4 [x0, x1, x2, x3, x4, x5, x6, x7, some (.ref q), x9] h = r at w
  cases r with
  | rt v h' =>
    have w : v = .bl true := w
    rw [w]
    exact ⟨h', rfl⟩
  | _ => exact absurd w (by simp [wS])
def s0 : S := { L := [[]], D := fun _ => true, W := fun _ => [], C := fun _ => [] }
theorem s0_ok : Inv s0 := by
  refine ⟨by simp [s0], ⟨by simp [s0], rfl⟩, fun p n h => ?_, fun p n _ h => ?_, fun _ => List.nodup_nil, fun p _ h => ?_, fun p hp => ?_, fun _ => by simp [s0]⟩
  · simp [s0] at h
  · cases h
  · cases h
  · simp [s0] at hp
    subst hp
    simp
def a0 : Ad := ⟨fun _ => 3, fun _ => 4⟩
theorem st0 : St 2 1 ns a0 (fun _ => 0) 5 s0 s0 [.fls (ns.map Val.int), .lst (ns.map Val.int), .lst [.ref 1, .int 0, .int 0, .int 9], .dct [(.str 0, .ref 4)], .dct [], .dcT [(.tup [], .str 9)]] := by
  refine ⟨⟨0, 0, 9, by decide, ?_, ?_⟩, fun q _ h => (by cases h), fun q _ h => (by cases h)⟩
  · show ([2, 1, 5, 3, 4] : List Nat).Nodup
    decide
  · intro p hp
    have hp : p ∈ [((2 : Nat), Obj.lst [.ref 1, .int 0, .int 0, .int 9]), (1, .lst (ns.map Val.int)), (5, .dcT [(.tup [], .str 9)]), (3, .dct [(.str 0, .ref 4)]), (4, .dct [])] := hp
    simp only [List.mem_cons, List.not_mem_nil, or_false] at hp
    rcases hp with rfl | rfl | rfl | rfl | rfl <;> rfl
def lwC : En → Heap → RS := sSeq (sFor (iRng1 (mCons (mCall m__law_next [] (mCons (mV 1) (mCons (mK (.int 60)) (mNil)))) (mNil))) (gV 5) lwB) (sSeq lwX1 (sSeq lwX2 (sSeq lwX3 lwX4)))
def lwI : En → Heap → RS := (sAsg (gV 4) (mCall m_copied [] (mCons (mV 2) (mNil))))
theorem law_cut : m_law = runB 1 10
    (sSeq (sAsg (gV 1) (mLst (mCons (mL bList (mCons (mV 0) (mNil))) (mCons (mK (.int 0)) (mCons (mK (.int 0)) (mCons (mK (.int 9)) (mNil)))))))
    (sSeq (sAsg (gV 2) (mCall m_new_tree [] (mNil)))
    (sSeq (sAsg (gV 3) (mDispT1 (mTup (mNil)) (mK (.str 9))))
    (sSeq lwI lwC)))) := rfl
theorem lwC_ok {t : Nat} (i : Inv s) (k : St pp aa ns a lw d s s h) (ht : a.A [] = t) : ∃ h', lwC [x0, some (.ref pp), some (.ref t), some (.ref d), x4, x5, x6, x7, x8, x9] h = .rt (.bl true) h' := by
  have w : wS (lwC [x0, some (.ref pp), some (.ref t), some (.ref d), x4, x5, x6, x7, x8, x9] h) { nx := fun _ _ => False, rt := fun v h' => v = .bl true } := by
    obtain ⟨n, h1, hn, e1, T1, f1⟩ := nat_tp k.t.tp (n := 60) (by decide) (by decide)
    have e1 : m__law_next [.ref pp, .int 60] h = .ok (.int (n : Nat)) h1 := e1
    have k1 := k.fr T1 f1
    obtain ⟨B, hB⟩ : ∃ X, X = lwB := ⟨_, rfl⟩
    obtain ⟨R, hR⟩ : ∃ X, X = (sSeq lwX1 (sSeq lwX2 (sSeq lwX3 lwX4))) := ⟨_, rfl⟩
    unfold lwC
    rw [← hB, ← hR]
    simp -implicitDefEqProofs [e1]
    refine ⟨by omega, ?_⟩
    refine wS_range (fun _ st H => ∃ s a lw x4 x5 x6 x7, st = [x0, some (.ref pp), some (.ref t), some (.ref d), x4, x5, x6, x7, x8, x9] ∧ Inv s ∧ St pp aa ns a lw d s s H ∧ a.A [] = t) ⟨s, a, lw, x4, x5, x6, x7, rfl, i, k1, ht⟩ ?_ ?_
    · rintro j st H hj ⟨s, a, lw, x4, x5, x6, x7, rfl, i, k, ht⟩
      refine ⟨[x0, some (.ref pp), some (.ref t), some (.ref d), x4, some (.int (j : Nat)), x6, x7, x8, x9], rfl, ?_⟩
      subst ht
      obtain ⟨s', a', lw', y4, y6, y7, h', e, i', k', ea⟩ := lwB_ok i k (x0 := x0) (x4 := x4) (x5 := some (.int (j : Nat))) (x6 := x6) (x7 := x7) (x8 := x8) (x9 := x9)
      rw [hB, e]
      exact ⟨s', a', lw', y4, _, y6, y7, rfl, i', k', ea⟩
    · rintro st H ⟨s, a, lw, x4, x5, x6, x7, rfl, i, k, ht⟩
      rw [hR]
      obtain ⟨HA, eA⟩ : ∃ X : Heap, X = H ++ [.lst [.int 1], .lst (bd1 H.length)] := ⟨_, rfl⟩
      have q1 := x1_ok (h := H) (x0 := x0) (x1 := some (.ref pp)) (x2 := some (.ref t)) (x3 := some (.ref d)) (x4 := x4) (x5 := x5) (x6 := x6) (x7 := x7) (x8 := x8) (x9 := x9)
      rw [← eA] at q1
      have g1 : HA[H.length]? = some (.lst [.int 1]) := by rw [eA]; exact at_app 0 rfl rfl
      have g2 : HA[H.length + 1]? = some (.lst (bd1 H.length)) := by rw [eA]; exact at_app 1 rfl rfl
      obtain ⟨gb, q2, r2⟩ := x2_ok (x0 := x0) (x1 := some (.ref pp)) (x2 := some (.ref t)) (x3 := some (.ref d)) (x4 := x4) (x5 := x5) (x6 := x6) (x7 := x7) (x9 := x9) g2 (by show (7 : Nat) ≤ 100; decide)
      obtain ⟨gc, m, q3, r3, r4⟩ := x3_ok (x0 := x0) (x1 := some (.ref pp)) (x2 := some (.ref t)) (x3 := some (.ref d)) (x4 := x4) (x5 := x5) (x6 := x6) (x7 := x7) (x9 := x9) r2 (by show (12 : Nat) ≤ 100; decide)
      obtain ⟨h', q4⟩ := x4_ok (x0 := x0) (x1 := some (.ref pp)) (x2 := some (.ref t)) (x3 := some (.ref d)) (x4 := x4) (x5 := x5) (x6 := x6) (x7 := x7) (x9 := x9) r3 (at_push (at_push g1)) r4
      show wS (sSeq lwX1 (sSeq lwX2 (sSeq lwX3 lwX4)) _ H) { nx := fun _ _ => False, rt := fun v h' => v = .bl true }
      rw [wS_sSeq, q1]
      show wS (sSeq lwX2 _ _ _) _
      rw [wS_sSeq, q2]
      show wS (sSeq lwX3 _ _ _) _
      rw [wS_sSeq, q3]
      show wS (lwX4 _ _) _
      rw [q4]
      exact rfl
  generalize hr : lwC [x0, some (.ref pp), some (.ref t), some (.ref d), x4, x5, x6, x7, x8, x9] h = r at w
  cases r with
  | rt v h' =>
    have w : v = .bl true := w
    rw [w]
    exact ⟨h', rfl⟩
  | _ => exact absurd w (by simp [wS])
theorem law_true : ∀ ns : List Int, ns.length ≤ 63 → ∃ h', m_law [.ref 0] [.fls (ns.map Val.int)] = .ok (.bl true) h' := by
  intro ns hn
  have k := st0 (ns := ns)
  obtain ⟨H0, eH⟩ : ∃ X : Heap, X = [.fls (ns.map Val.int), .lst (ns.map Val.int), .lst [.ref 1, .int 0, .int 0, .int 9], .dct [(.str 0, .ref 4)], .dct [], .dcT [(.tup [], .str 9)]] := ⟨_, rfl⟩
  rw [← eH] at k
  obtain ⟨b, h1, e1, x1, c1⟩ := cp_ok s0_ok k.dj 6 [] H0 s0_ok.top.1 (by simp) k.rd
  obtain ⟨h', e2⟩ := lwC_ok (t := 3) (x0 := some (.ref 0)) (x4 := some (.ref (b.A []))) (x5 := none) (x6 := none) (x7 := none) (x8 := none) (x9 := none) s0_ok (k.ext x1) rfl
  refine ⟨h', ?_⟩
  have e1' : m_copied [.ref 3] H0 = .ok (.ref (b.A [])) h1 := e1
  have eI : lwI [some (.ref 0), some (.ref 2), some (.ref 3), some (.ref 5), none, none, none, none, none, none] H0 = .nx [some (.ref 0), some (.ref 2), some (.ref 3), some (.ref 5), some (.ref (b.A [])), none, none, none, none, none] h1 := by
    refine eq_nx ?_
    unfold lwI
    simp -implicitDefEqProofs [e1', gV]
  have l4 : 4 ≤ lim := by decide
  refine eq_of_wR ?_
  rw [law_cut]
  refine wRB rfl ?_
  obtain ⟨I, hI⟩ : ∃ X, X = lwI := ⟨_, rfl⟩
  obtain ⟨C, hC⟩ : ∃ X, X = lwC := ⟨_, rfl⟩
  rw [← hI] at eI ⊢
  rw [← hC] at e2 ⊢
  have eD : ∀ st : En, mDispT1 (mTup (mNil)) (mK (.str 9)) st [.fls (ns.map Val.int), .lst (ns.map Val.int), .lst [.ref 1, .int 0, .int 0, .int 9], .dct [(.str 0, .ref 4)], .dct []] = .ok (.ref 5) H0 := fun st => by
    rw [eH]
    rfl
  have eN : m_new_tree [] [.fls (ns.map Val.int), .lst (ns.map Val.int), .lst [.ref 1, .int 0, .int 0, .int 9]] = .ok (.ref 3) [.fls (ns.map Val.int), .lst (ns.map Val.int), .lst [.ref 1, .int 0, .int 0, .int 9], .dct [(.str 0, .ref 4)], .dct []] := newtree_ok
  obtain ⟨MD, hMD⟩ : ∃ X, X = mDispT1 (mTup (mNil)) (mK (.str 9)) := ⟨_, rfl⟩
  rw [← hMD] at eD ⊢
  simp -implicitDefEqProofs [gV, l4, eN]
  rw [eD]
  simp -implicitDefEqProofs [gV, eI, e2]
end
end Lw

set_option Elab.async false
set_option linter.all false
set_option maxRecDepth 100000
set_option maxHeartbeats 4000000
namespace Lw
open PySem L2 PyM
abbrev N_new_tree : List Str := []
abbrev N_copied : List Str := ["tree", "names", "name"]
abbrev N__law_next : List Str := ["_law_tape", "_law_many", "_law_rest", "_law_cell"]
abbrev N__law_path : List Str := ["_law_tape", "_law_k"]
abbrev N__law_request : List Str := ["_law_tape", "_law_path_here", "_law_kind", "_law_many"]
abbrev N_is_number : List Str := ["value"]
abbrev N_is_word : List Str := ["value"]
abbrev N_is_path : List Str := ["value", "name"]
abbrev N_is_size : List Str := ["value"]
abbrev N_is_content : List Str := ["value", "word"]
abbrev N_is_request : List Str := ["value"]
abbrev N__law_flat : List Str := ["_law_tree", "_law_path_here", "_law_found", "_law_name"]
abbrev N_part_at : List Str := ["tree", "path", "name"]
abbrev N_directory_of : List Str := ["tree", "path", "part"]
abbrev N_ask_directory : List Str := ["names", "name", "request"]
abbrev N_ask_file : List Str := ["part", "request", "word", "words", "offset", "content", "end", "wide"]
abbrev N_ask : List Str := ["tree", "request", "word", "path", "directory", "part"]
abbrev N__law_names : List Str := ["_law_parts", "_law_path_here", "_law_other"]
abbrev N__law_file : List Str := ["_law_parts", "_law_request_here", "_law_words", "_law_wide", "_law_k"]
abbrev N__law_due : List Str := ["_law_parts", "_law_request_here", "_law_word", "_law_path_here"]
abbrev N_law : List Str := ["_law_script", "_law_tape", "_law_tree", "_law_parts", "_law_kept", "_law_turn", "_law_request_here", "_law_before", "_law_bad", "_law_one"]
def nms : List Str := []
structure Tx where
  f_new_tree : Addr
  d_new_tree : FuncData
  f_copied : Addr
  d_copied : FuncData
  f__law_next : Addr
  d__law_next : FuncData
  f__law_path : Addr
  d__law_path : FuncData
  f__law_request : Addr
  d__law_request : FuncData
  f_is_number : Addr
  d_is_number : FuncData
  f_is_word : Addr
  d_is_word : FuncData
  f_is_path : Addr
  d_is_path : FuncData
  f_is_size : Addr
  d_is_size : FuncData
  f_is_content : Addr
  d_is_content : FuncData
  f_is_request : Addr
  d_is_request : FuncData
  f__law_flat : Addr
  d__law_flat : FuncData
  f_part_at : Addr
  d_part_at : FuncData
  f_directory_of : Addr
  d_directory_of : FuncData
  f_ask_directory : Addr
  d_ask_directory : FuncData
  f_ask_file : Addr
  d_ask_file : FuncData
  f_ask : Addr
  d_ask : FuncData
  f__law_names : Addr
  d__law_names : FuncData
  f__law_file : Addr
  d__law_file : FuncData
  f__law_due : Addr
  d__law_due : FuncData
  f_law : Addr
  d_law : FuncData
  a_LENGTHS : Addr
  e_LENGTHS : Array DictEntry
  n_LENGTHS : Nat
  t_MOST_WORDS : Tok
  t_TOP : Tok
def Tx.G (T : Tx) (K : PySem.W.Frag) : Cfg := { K := K, cls := [], nms := nms, sts := sts, tk := true }
structure TxOk (w : World) (K : PySem.W.Frag) (mg : Str → Option Value) (T : Tx) : Prop where
  F_new_tree : Fun K "new_tree" "new_tree" s_new_tree T.f_new_tree T.d_new_tree
  b_new_tree : Binds K T.d_new_tree [] []
  g_new_tree : mg "new_tree" = some (.ref T.f_new_tree)
  F_copied : Fun K "copied" "copied" s_copied T.f_copied T.d_copied
  b_copied : Binds K T.d_copied ["tree"] []
  g_copied : mg "copied" = some (.ref T.f_copied)
  F__law_next : Fun K "_law_next" "_law_next" s__law_next T.f__law_next T.d__law_next
  b__law_next : Binds K T.d__law_next ["_law_tape", "_law_many"] []
  g__law_next : mg "_law_next" = some (.ref T.f__law_next)
  F__law_path : Fun K "_law_path" "_law_path" s__law_path T.f__law_path T.d__law_path
  b__law_path : Binds K T.d__law_path ["_law_tape"] []
  g__law_path : mg "_law_path" = some (.ref T.f__law_path)
  F__law_request : Fun K "_law_request" "_law_request" s__law_request T.f__law_request T.d__law_request
  b__law_request : Binds K T.d__law_request ["_law_tape"] []
  g__law_request : mg "_law_request" = some (.ref T.f__law_request)
  F_is_number : Fun K "is_number" "is_number" s_is_number T.f_is_number T.d_is_number
  b_is_number : Binds K T.d_is_number ["value"] []
  g_is_number : mg "is_number" = some (.ref T.f_is_number)
  F_is_word : Fun K "is_word" "is_word" s_is_word T.f_is_word T.d_is_word
  b_is_word : Binds K T.d_is_word ["value"] []
  g_is_word : mg "is_word" = some (.ref T.f_is_word)
  F_is_path : Fun K "is_path" "is_path" s_is_path T.f_is_path T.d_is_path
  b_is_path : Binds K T.d_is_path ["value"] []
  g_is_path : mg "is_path" = some (.ref T.f_is_path)
  F_is_size : Fun K "is_size" "is_size" s_is_size T.f_is_size T.d_is_size
  b_is_size : Binds K T.d_is_size ["value"] []
  g_is_size : mg "is_size" = some (.ref T.f_is_size)
  F_is_content : Fun K "is_content" "is_content" s_is_content T.f_is_content T.d_is_content
  b_is_content : Binds K T.d_is_content ["value"] []
  g_is_content : mg "is_content" = some (.ref T.f_is_content)
  F_is_request : Fun K "is_request" "is_request" s_is_request T.f_is_request T.d_is_request
  b_is_request : Binds K T.d_is_request ["value"] []
  g_is_request : mg "is_request" = some (.ref T.f_is_request)
  F__law_flat : Fun K "_law_flat" "_law_flat" s__law_flat T.f__law_flat T.d__law_flat
  b__law_flat : Binds K T.d__law_flat ["_law_tree", "_law_path_here", "_law_found"] []
  g__law_flat : mg "_law_flat" = some (.ref T.f__law_flat)
  F_part_at : Fun K "part_at" "part_at" s_part_at T.f_part_at T.d_part_at
  b_part_at : Binds K T.d_part_at ["tree", "path"] []
  g_part_at : mg "part_at" = some (.ref T.f_part_at)
  F_directory_of : Fun K "directory_of" "directory_of" s_directory_of T.f_directory_of T.d_directory_of
  b_directory_of : Binds K T.d_directory_of ["tree", "path"] []
  g_directory_of : mg "directory_of" = some (.ref T.f_directory_of)
  F_ask_directory : Fun K "ask_directory" "ask_directory" s_ask_directory T.f_ask_directory T.d_ask_directory
  b_ask_directory : Binds K T.d_ask_directory ["names", "name", "request"] []
  g_ask_directory : mg "ask_directory" = some (.ref T.f_ask_directory)
  F_ask_file : Fun K "ask_file" "ask_file" s_ask_file T.f_ask_file T.d_ask_file
  b_ask_file : Binds K T.d_ask_file ["part", "request"] []
  g_ask_file : mg "ask_file" = some (.ref T.f_ask_file)
  F_ask : Fun K "ask" "ask" s_ask T.f_ask T.d_ask
  b_ask : Binds K T.d_ask ["tree", "request"] []
  g_ask : mg "ask" = some (.ref T.f_ask)
  F__law_names : Fun K "_law_names" "_law_names" s__law_names T.f__law_names T.d__law_names
  b__law_names : Binds K T.d__law_names ["_law_parts", "_law_path_here"] []
  g__law_names : mg "_law_names" = some (.ref T.f__law_names)
  F__law_file : Fun K "_law_file" "_law_file" s__law_file T.f__law_file T.d__law_file
  b__law_file : Binds K T.d__law_file ["_law_parts", "_law_request_here"] []
  g__law_file : mg "_law_file" = some (.ref T.f__law_file)
  F__law_due : Fun K "_law_due" "_law_due" s__law_due T.f__law_due T.d__law_due
  b__law_due : Binds K T.d__law_due ["_law_parts", "_law_request_here"] []
  g__law_due : mg "_law_due" = some (.ref T.f__law_due)
  F_law : Fun K "law" "law" s_law T.f_law T.d_law
  b_law : Binds K T.d_law ["_law_script"] []
  g_law : mg "law" = some (.ref T.f_law)
  n_abs : mg "abs" = none
  n_all : mg "all" = none
  n_bool : mg "bool" = none
  n_dict : mg "dict" = none
  n_int : mg "int" = none
  n_isinstance : mg "isinstance" = none
  n_len : mg "len" = none
  n_list : mg "list" = none
  n_max : mg "max" = none
  n_range : mg "range" = none
  n_sorted : mg "sorted" = none
  n_str : mg "str" = none
  n_tuple : mg "tuple" = none
  k_LENGTHS : KD w K mg sts "LENGTHS" T.a_LENGTHS T.e_LENGTHS T.n_LENGTHS c_LENGTHS
  k_MOST_WORDS : mg "MOST_WORDS" = some (.int 48 T.t_MOST_WORDS)
  k_TOP : mg "TOP" = some (.int 4294967295 T.t_TOP)
section
variable {P : Program} {w : World} {K : PySem.W.Frag} {mg : Str → Option Value} {base : PySem.Heap} {T : Tx}
theorem gok : (T.G K).Ok := ⟨(by decide +kernel : nms.Nodup), (by decide +kernel : sts.Nodup), (by decide +kernel : ∀ x ∈ sts, PySem.PyData.strOk x = true)⟩
theorem sc_new_tree : FnScope N_new_tree [] (defScope s_new_tree) := ⟨rfl, rfl, rfl, by decide +kernel, rfl, by decide +kernel, by decide +kernel⟩
theorem ok_new_tree (O : TxOk w K mg T) : FnM (T.G K) P w mg base 1 T.f_new_tree T.d_new_tree [] m_new_tree := by
  refine fn_m O.F_new_tree sc_new_tree rfl rfl (fun cdv A outer s H E C tk => ?_)
  exact ⟨_, mss_one (ms_ret (me_disp gok (mps_cons (me_str 0 rfl) (me_dict) (mps_nil))))⟩
theorem sc_copied : FnScope N_copied ["tree"] (defScope s_copied) := ⟨rfl, rfl, rfl, by decide +kernel, rfl, by decide +kernel, by decide +kernel⟩
theorem okn_copied (O : TxOk w K mg T) : ∀ n : Nat, FnM (T.G K) P w mg base (0 + n) T.f_copied T.d_copied ["tree"] (m_copied_n n)
  | 0 => fn_none
  | n + 1 => by
    have ih := okn_copied O n
    refine fn_m (k := 0 + n) O.F_copied sc_copied rfl rfl (fun cdv A outer s H E C tk => ?_)
    exact ⟨_, mss_cons (ms_if (mt_cmp (mc_in gok C (me_str 1 rfl) (me_var 0))) (mss_one (ms_ret (me_disp gok (mps_cons (me_str 1 rfl) (me_bty (cl_list C) rl_list O.n_list bt_list (ma_cons (me_ix gok C (me_var 0) (me_str 1 rfl)) (ma_nil))) (mps_nil))))) (mss_nil))
    (mss_cons (ms_asg (me_ix gok C (me_var 0) (me_str 0 rfl)) (mg_name 1 C.nd))
    (mss_one (ms_ret (me_disp gok (mps_cons (me_str 0 rfl) (me_dcD gok [("name", 2)] C (me_var 1) (blkOk_by (N := N_copied) (sc := defScope s_copied) (by decide +kernel)) (fun _ _ _ _ _ C => mg_name 2 C.nd) (fun _ _ _ _ _ C => mts_nil) (fun _ _ _ _ _ C => me_var 2) (fun _ _ _ _ _ C => me_call C ih df_nil (by omega) O.g_copied O.F_copied.kp O.b_copied (ma_cons (me_ix gok C (me_var 1) (me_var 2)) (ma_nil))) (tgw_name (by decide))) (mps_nil))))))⟩
theorem ok_copied (O : TxOk w K mg T) : FnM (T.G K) P w mg base 6 T.f_copied T.d_copied ["tree"] m_copied := okn_copied O 6
theorem sc__law_next : FnScope N__law_next ["_law_tape", "_law_many"] (defScope s__law_next) := ⟨rfl, rfl, rfl, by decide +kernel, rfl, by decide +kernel, by decide +kernel⟩
theorem ok__law_next (O : TxOk w K mg T) : FnM (T.G K) P w mg base 1 T.f__law_next T.d__law_next ["_law_tape", "_law_many"] m__law_next := by
  refine fn_m O.F__law_next sc__law_next rfl rfl (fun cdv A outer s H E C tk => ?_)
  exact ⟨_, mss_cons (ms_asg (me_ix gok C (me_var 0) (me_int)) (mg_name 2 C.nd))
    (mss_cons (ms_if (mt_cmp (mc_eq gok C (me_var 2) (me_int))) (mss_cons (ms_asg (me_int) (mg_name 3 C.nd))
    (mss_cons (ms_if (mt_cmp (mc_lt (me_ix gok C (me_var 0) (me_int)) (me_blt (cl_len C) rl_len O.n_len bt_len (ma_cons (me_ix gok C (me_var 0) (me_int)) (ma_nil))))) (mss_cons (ms_asg (me_blt call_abs rl_abs O.n_abs bt_abs (ma_cons (me_bty call_int1 rl_int O.n_int bt_int (ma_cons (me_ix gok C (me_ix gok C (me_var 0) (me_int)) (me_ix gok C (me_var 0) (me_int))) (ma_nil))) (ma_nil))) (mg_name 3 C.nd))
    (mss_one (ms_sub gok C (me_var 0) (me_int) (me_add C (me_ix gok C (me_var 0) (me_int)) (me_int))))) (mss_nil))
    (mss_cons (ms_asg (me_var 3) (mg_name 2 C.nd))
    (mss_one (ms_if (mt_cmp (mc_lt (me_var 3) (me_pow (me_int) (me_int)))) (mss_cons (ms_sub gok C (me_var 0) (me_int) (me_mod (me_bty call_int1 rl_int O.n_int bt_int (ma_cons (me_add C (me_add C (me_mul C (me_ix gok C (me_var 0) (me_int)) (me_int)) (me_mul C (me_var 3) (me_int))) (me_int)) (ma_nil))) (me_int)))
    (mss_one (ms_ret (me_mod (me_mod (me_bty call_int1 rl_int O.n_int bt_int (ma_cons (me_mul C (me_fdiv (me_ix gok C (me_var 0) (me_int)) (me_int)) (me_int)) (ma_nil))) (me_int)) (me_var 1))))) (mss_nil)))))) (mss_nil))
    (mss_cons (ms_sub gok C (me_var 0) (me_int) (me_fdiv (me_var 2) (me_var 1)))
    (mss_one (ms_ret (me_mod (me_bty call_int1 rl_int O.n_int bt_int (ma_cons (me_var 2) (ma_nil))) (me_var 1))))))⟩
theorem sc__law_path : FnScope N__law_path ["_law_tape"] (defScope s__law_path) := ⟨rfl, rfl, rfl, by decide +kernel, rfl, by decide +kernel, by decide +kernel⟩
theorem ok__law_path (O : TxOk w K mg T) : FnM (T.G K) P w mg base 2 T.f__law_path T.d__law_path ["_law_tape"] m__law_path := by
  refine fn_m O.F__law_path sc__law_path rfl rfl (fun cdv A outer s H E C tk => ?_)
  exact ⟨_, mss_one (ms_ret (me_bty (cl_tuple C) rl_tuple O.n_tuple bt_tuple (ma_cons (me_lc [("_law_k", 1)] C (mi_rng1 O.n_range (ma_cons (me_ix gok C (me_lst (ma_cons (me_int) (ma_cons (me_int) (ma_cons (me_int) (ma_cons (me_int) (ma_cons (me_int) (ma_cons (me_int) (ma_nil)))))))) (me_call C (ok__law_next O) df_nil (by decide) O.g__law_next O.F__law_next.kp O.b__law_next (ma_cons (me_var 0) (ma_cons (me_int) (ma_nil))))) (ma_nil))) (blkOk_by (N := N__law_path) (sc := defScope s__law_path) (by decide +kernel)) (fun _ _ _ _ _ C => mg_name 1 C.nd) (fun _ _ _ _ _ C => mts_nil) (fun _ _ _ _ _ C => me_add C (me_int) (me_call C (ok__law_next O) df_nil (by decide) O.g__law_next O.F__law_next.kp O.b__law_next (ma_cons (me_var 0) (ma_cons (me_int) (ma_nil))))) (tgw_name (by decide))) (ma_nil))))⟩
theorem sc__law_request : FnScope N__law_request ["_law_tape"] (defScope s__law_request) := ⟨rfl, rfl, rfl, by decide +kernel, rfl, by decide +kernel, by decide +kernel⟩
theorem ok__law_request (O : TxOk w K mg T) : FnM (T.G K) P w mg base 3 T.f__law_request T.d__law_request ["_law_tape"] m__law_request := by
  refine fn_m O.F__law_request sc__law_request rfl rfl (fun cdv A outer s H E C tk => ?_)
  exact ⟨_, mss_cons (ms_asg (me_call C (ok__law_path O) df_nil (by decide) O.g__law_path O.F__law_path.kp O.b__law_path (ma_cons (me_var 0) (ma_nil))) (mg_name 1 C.nd))
    (mss_cons (ms_asg (me_call C (ok__law_next O) df_nil (by decide) O.g__law_next O.F__law_next.kp O.b__law_next (ma_cons (me_var 0) (ma_cons (me_int) (ma_nil)))) (mg_name 2 C.nd))
    (mss_cons (ms_if (mt_cmp (mc_lt (me_var 2) (me_int))) (mss_one (ms_ret (me_tup (ma_cons (me_str 2 rfl) (ma_cons (me_var 1) (ma_cons (me_ix gok C (me_lst (ma_cons (me_str 9 rfl) (ma_cons (me_str 10 rfl) (ma_nil)))) (me_call C (ok__law_next O) df_nil (by decide) O.g__law_next O.F__law_next.kp O.b__law_next (ma_cons (me_var 0) (ma_cons (me_int) (ma_nil))))) (ma_nil))))))) (mss_nil))
    (mss_cons (ms_if (mt_cmp (mc_lt (me_var 2) (me_int))) (mss_cons (ms_asg (me_ix gok C (me_lst (ma_cons (me_add C (me_int) (me_call C (ok__law_next O) df_nil (by decide) O.g__law_next O.F__law_next.kp O.b__law_next (ma_cons (me_var 0) (ma_cons (me_int) (ma_nil))))) (ma_cons (me_add C (me_int) (me_call C (ok__law_next O) df_nil (by decide) O.g__law_next O.F__law_next.kp O.b__law_next (ma_cons (me_var 0) (ma_cons (me_int) (ma_nil))))) (ma_nil)))) (me_call C (ok__law_next O) df_nil (by decide) O.g__law_next O.F__law_next.kp O.b__law_next (ma_cons (me_var 0) (ma_cons (me_int) (ma_nil))))) (mg_name 3 C.nd))
    (mss_one (ms_ret (me_tup (ma_cons (me_str 3 rfl) (ma_cons (me_var 1) (ma_cons (me_ix gok C (me_lst (ma_cons (me_int) (ma_cons (me_call C (ok__law_next O) df_nil (by decide) O.g__law_next O.F__law_next.kp O.b__law_next (ma_cons (me_var 0) (ma_cons (me_int) (ma_nil)))) (ma_cons (me_call C (ok__law_next O) df_nil (by decide) O.g__law_next O.F__law_next.kp O.b__law_next (ma_cons (me_var 0) (ma_cons (me_int) (ma_nil)))) (ma_nil))))) (me_call C (ok__law_next O) df_nil (by decide) O.g__law_next O.F__law_next.kp O.b__law_next (ma_cons (me_var 0) (ma_cons (me_int) (ma_nil))))) (ma_cons (me_rgT C O.n_tuple O.n_range (me_int) (me_add C (me_int) (me_var 3))) (ma_nil))))))))) (mss_nil))
    (mss_cons (ms_if (mt_cmp (mc_eq gok C (me_var 2) (me_int))) (mss_one (ms_ret (me_tup (ma_cons (me_str 4 rfl) (ma_cons (me_var 1) (ma_cons (me_call C (ok__law_next O) df_nil (by decide) O.g__law_next O.F__law_next.kp O.b__law_next (ma_cons (me_var 0) (ma_cons (me_int) (ma_nil)))) (ma_cons (me_call C (ok__law_next O) df_nil (by decide) O.g__law_next O.F__law_next.kp O.b__law_next (ma_cons (me_var 0) (ma_cons (me_int) (ma_nil)))) (ma_nil)))))))) (mss_nil))
    (mss_cons (ms_if (mt_cmp (mc_eq gok C (me_var 2) (me_int))) (mss_one (ms_ret (me_tup (ma_cons (me_str 6 rfl) (ma_cons (me_var 1) (ma_cons (me_ix gok C (me_lst (ma_cons (me_int) (ma_cons (me_call C (ok__law_next O) df_nil (by decide) O.g__law_next O.F__law_next.kp O.b__law_next (ma_cons (me_var 0) (ma_cons (me_int) (ma_nil)))) (ma_nil)))) (me_call C (ok__law_next O) df_nil (by decide) O.g__law_next O.F__law_next.kp O.b__law_next (ma_cons (me_var 0) (ma_cons (me_int) (ma_nil))))) (ma_nil))))))) (mss_nil))
    (mss_one (ms_ret (me_ix gok C (me_lst (ma_cons (me_tup (ma_cons (me_str 5 rfl) (ma_cons (me_var 1) (ma_nil)))) (ma_cons (me_tup (ma_cons (me_str 7 rfl) (ma_cons (me_var 1) (ma_nil)))) (ma_cons (me_tup (ma_cons (me_str 7 rfl) (ma_cons (me_var 1) (ma_nil)))) (ma_cons (me_tup (ma_cons (me_str 8 rfl) (ma_cons (me_var 1) (ma_nil)))) (ma_nil)))))) (me_call C (ok__law_next O) df_nil (by decide) O.g__law_next O.F__law_next.kp O.b__law_next (ma_cons (me_var 0) (ma_cons (me_int) (ma_nil))))))))))))⟩
theorem sc_is_number : FnScope N_is_number ["value"] (defScope s_is_number) := ⟨rfl, rfl, rfl, by decide +kernel, rfl, by decide +kernel, by decide +kernel⟩
theorem ok_is_number (O : TxOk w K mg T) : FnM (T.G K) P w mg base 1 T.f_is_number T.d_is_number ["value"] m_is_number := by
  refine fn_m O.F_is_number sc_is_number rfl rfl (fun cdv A outer s H E C tk => ?_)
  exact ⟨_, mss_one (ms_ret (me_andV (me_isi C .int (by decide) O.n_isinstance O.n_int bt_ty_int (me_var 0)) (me_one (me_notV (me_isi C .bool (by decide) O.n_isinstance O.n_bool bt_ty_bool (me_var 0))))))⟩
theorem sc_is_word : FnScope N_is_word ["value"] (defScope s_is_word) := ⟨rfl, rfl, rfl, by decide +kernel, rfl, by decide +kernel, by decide +kernel⟩
theorem ok_is_word (O : TxOk w K mg T) : FnM (T.G K) P w mg base 2 T.f_is_word T.d_is_word ["value"] m_is_word := by
  refine fn_m O.F_is_word sc_is_word rfl rfl (fun cdv A outer s H E C tk => ?_)
  exact ⟨_, mss_one (ms_ret (me_andV (me_call C (ok_is_number O) df_nil (by decide) O.g_is_number O.F_is_number.kp O.b_is_number (ma_cons (me_var 0) (ma_nil))) (me_one (me_chLeLe (me_int) (me_var 0) (me_glob 4294967295 O.k_TOP)))))⟩
theorem sc_is_path : FnScope N_is_path ["value"] (defScope s_is_path) := ⟨rfl, rfl, rfl, by decide +kernel, rfl, by decide +kernel, by decide +kernel⟩
theorem ok_is_path (O : TxOk w K mg T) : FnM (T.G K) P w mg base 3 T.f_is_path T.d_is_path ["value"] m_is_path := by
  refine fn_m O.F_is_path sc_is_path rfl rfl (fun cdv A outer s H E C tk => ?_)
  exact ⟨_, mss_one (ms_ret (me_andV (me_isi C .tup (by decide) O.n_isinstance O.n_tuple bt_ty_tup (me_var 0)) (me_one (me_blt (cl_all C) rl_all O.n_all bt_all (ma_cons (me_lc [("name", 1)] C (mi_alt (mi_lst C (me_var 0)) (mi_tup C (me_var 0))) (blkOk_by (N := N_is_path) (sc := defScope s_is_path) (by decide +kernel)) (fun _ _ _ _ _ C => mg_name 1 C.nd) (fun _ _ _ _ _ C => mts_nil) (fun _ _ _ _ _ C => me_andV (me_call C (ok_is_word O) df_nil (by decide) O.g_is_word O.F_is_word.kp O.b_is_word (ma_cons (me_var 1) (ma_nil))) (me_one (me_cmp (mc_ne gok C (me_var 1) (me_int))))) (tgw_name (by decide))) (ma_nil))))))⟩
theorem sc_is_size : FnScope N_is_size ["value"] (defScope s_is_size) := ⟨rfl, rfl, rfl, by decide +kernel, rfl, by decide +kernel, by decide +kernel⟩
theorem ok_is_size (O : TxOk w K mg T) : FnM (T.G K) P w mg base 2 T.f_is_size T.d_is_size ["value"] m_is_size := by
  refine fn_m O.F_is_size sc_is_size rfl rfl (fun cdv A outer s H E C tk => ?_)
  exact ⟨_, mss_one (ms_ret (me_andV (me_call C (ok_is_number O) df_nil (by decide) O.g_is_number O.F_is_number.kp O.b_is_number (ma_cons (me_var 0) (ma_nil))) (me_one (me_chLeLe (me_int) (me_var 0) (me_glob 48 O.k_MOST_WORDS)))))⟩
theorem sc_is_content : FnScope N_is_content ["value"] (defScope s_is_content) := ⟨rfl, rfl, rfl, by decide +kernel, rfl, by decide +kernel, by decide +kernel⟩
theorem ok_is_content (O : TxOk w K mg T) : FnM (T.G K) P w mg base 3 T.f_is_content T.d_is_content ["value"] m_is_content := by
  refine fn_m O.F_is_content sc_is_content rfl rfl (fun cdv A outer s H E C tk => ?_)
  exact ⟨_, mss_one (ms_ret (me_andV (me_isi C .tup (by decide) O.n_isinstance O.n_tuple bt_ty_tup (me_var 0)) (me_andV (me_chLeLe (me_int) (me_blt (cl_len C) rl_len O.n_len bt_len (ma_cons (me_var 0) (ma_nil))) (me_glob 48 O.k_MOST_WORDS)) (me_one (me_blt (cl_all C) rl_all O.n_all bt_all (ma_cons (me_lc [("word", 1)] C (mi_alt (mi_lst C (me_var 0)) (mi_tup C (me_var 0))) (blkOk_by (N := N_is_content) (sc := defScope s_is_content) (by decide +kernel)) (fun _ _ _ _ _ C => mg_name 1 C.nd) (fun _ _ _ _ _ C => mts_nil) (fun _ _ _ _ _ C => me_call C (ok_is_word O) df_nil (by decide) O.g_is_word O.F_is_word.kp O.b_is_word (ma_cons (me_var 1) (ma_nil))) (tgw_name (by decide))) (ma_nil)))))))⟩
theorem sc_is_request : FnScope N_is_request ["value"] (defScope s_is_request) := ⟨rfl, rfl, rfl, by decide +kernel, rfl, by decide +kernel, by decide +kernel⟩
theorem ok_is_request (O : TxOk w K mg T) : FnM (T.G K) P w mg base 4 T.f_is_request T.d_is_request ["value"] m_is_request := by
  refine fn_m O.F_is_request sc_is_request rfl rfl (fun cdv A outer s H E C tk => ?_)
  exact ⟨_, mss_cons (ms_if ((mw_or (mt_not (mt_tr C (me_isi C .tup (by decide) O.n_isinstance O.n_tuple bt_ty_tup (me_var 0)))) (mw_or (mt_cmp (mc_lt (me_blt (cl_len C) rl_len O.n_len bt_len (ma_cons (me_var 0) (ma_nil))) (me_int))) (mw_or1 (mt_not (mt_tr C (me_isi C .str (by decide) O.n_isinstance O.n_str bt_ty_str (me_ix gok C (me_var 0) (me_int)))))))).mt) (mss_one (ms_ret (me_bl))) (mss_nil))
    (mss_cons (ms_if ((mw_or (mt_cmp (mc_knotin gok C O.k_LENGTHS (me_ix gok C (me_var 0) (me_int)))) (mw_or (mt_cmp (mc_ne gok C (me_blt (cl_len C) rl_len O.n_len bt_len (ma_cons (me_var 0) (ma_nil))) (me_kix gok C O.k_LENGTHS (me_ix gok C (me_var 0) (me_int))))) (mw_or1 (mt_not (mt_tr C (me_call C (ok_is_path O) df_nil (by decide) O.g_is_path O.F_is_path.kp O.b_is_path (ma_cons (me_ix gok C (me_var 0) (me_int)) (ma_nil)))))))).mt) (mss_one (ms_ret (me_bl))) (mss_nil))
    (mss_cons (ms_if (mt_cmp (mc_eq gok C (me_ix gok C (me_var 0) (me_int)) (me_str 2 rfl))) (mss_one (ms_ret (me_orV (me_cmp (mc_eq gok C (me_ix gok C (me_var 0) (me_int)) (me_str 9 rfl))) (me_one (me_cmp (mc_eq gok C (me_ix gok C (me_var 0) (me_int)) (me_str 10 rfl))))))) (mss_nil))
    (mss_cons (ms_if (mt_cmp (mc_eq gok C (me_ix gok C (me_var 0) (me_int)) (me_str 3 rfl))) (mss_one (ms_ret (me_andV (me_call C (ok_is_size O) df_nil (by decide) O.g_is_size O.F_is_size.kp O.b_is_size (ma_cons (me_ix gok C (me_var 0) (me_int)) (ma_nil))) (me_one (me_call C (ok_is_content O) df_nil (by decide) O.g_is_content O.F_is_content.kp O.b_is_content (ma_cons (me_ix gok C (me_var 0) (me_int)) (ma_nil))))))) (mss_nil))
    (mss_cons (ms_if (mt_cmp (mc_eq gok C (me_ix gok C (me_var 0) (me_int)) (me_str 4 rfl))) (mss_one (ms_ret (me_andV (me_call C (ok_is_size O) df_nil (by decide) O.g_is_size O.F_is_size.kp O.b_is_size (ma_cons (me_ix gok C (me_var 0) (me_int)) (ma_nil))) (me_one (me_call C (ok_is_size O) df_nil (by decide) O.g_is_size O.F_is_size.kp O.b_is_size (ma_cons (me_ix gok C (me_var 0) (me_int)) (ma_nil))))))) (mss_nil))
    (mss_one (ms_ret (me_orV (me_cmp (mc_ne gok C (me_ix gok C (me_var 0) (me_int)) (me_str 6 rfl))) (me_one (me_call C (ok_is_size O) df_nil (by decide) O.g_is_size O.F_is_size.kp O.b_is_size (ma_cons (me_ix gok C (me_var 0) (me_int)) (ma_nil)))))))))))⟩
theorem sc__law_flat : FnScope N__law_flat ["_law_tree", "_law_path_here", "_law_found"] (defScope s__law_flat) := ⟨rfl, rfl, rfl, by decide +kernel, rfl, by decide +kernel, by decide +kernel⟩
theorem okn__law_flat (O : TxOk w K mg T) : ∀ n : Nat, FnM (T.G K) P w mg base (0 + n) T.f__law_flat T.d__law_flat ["_law_tree", "_law_path_here", "_law_found"] (m__law_flat_n n)
  | 0 => fn_none
  | n + 1 => by
    have ih := okn__law_flat O n
    refine fn_m (k := 0 + n) O.F__law_flat sc__law_flat rfl rfl (fun cdv A outer s H E C tk => ?_)
    exact ⟨_, mss_cons (ms_if (mt_cmp (mc_in gok C (me_str 1 rfl) (me_var 0))) (mss_one (ms_subV rfl gok C (me_var 2) (me_var 1) (me_ix gok C (me_var 0) (me_str 1 rfl)))) (mss_cons (ms_subV rfl gok C (me_var 2) (me_var 1) (me_str 9 rfl))
    (mss_one (ms_forD C (me_ix gok C (me_var 0) (me_str 0 rfl)) (mg_name 3 C.nd) (mss_one (ms_expr (me_call C ih df_nil (by omega) O.g__law_flat O.F__law_flat.kp O.b__law_flat (ma_cons (me_ix gok C (me_ix gok C (me_var 0) (me_str 0 rfl)) (me_var 3)) (ma_cons (me_add C (me_var 1) (me_tup (ma_cons (me_var 3) (ma_nil)))) (ma_cons (me_var 2) (ma_nil)))))))))))
    (mss_one (ms_ret (me_var 2)))⟩
theorem ok__law_flat (O : TxOk w K mg T) : FnM (T.G K) P w mg base 6 T.f__law_flat T.d__law_flat ["_law_tree", "_law_path_here", "_law_found"] m__law_flat := okn__law_flat O 6
theorem sc_part_at : FnScope N_part_at ["tree", "path"] (defScope s_part_at) := ⟨rfl, rfl, rfl, by decide +kernel, rfl, by decide +kernel, by decide +kernel⟩
theorem ok_part_at (O : TxOk w K mg T) : FnM (T.G K) P w mg base 1 T.f_part_at T.d_part_at ["tree", "path"] m_part_at := by
  refine fn_m O.F_part_at sc_part_at rfl rfl (fun cdv A outer s H E C tk => ?_)
  exact ⟨_, mss_cons (ms_for C (mi_alt (mi_lst C (me_var 1)) (mi_tup C (me_var 1))) (mg_name 2 C.nd) (mss_cons (ms_if ((mw_or (mt_cmp (mc_in gok C (me_str 1 rfl) (me_var 0))) (mw_or1 (mt_cmp (mc_notin gok C (me_var 2) (me_ix gok C (me_var 0) (me_str 0 rfl)))))).mt) (mss_one (ms_ret (me_non))) (mss_nil))
    (mss_one (ms_asg (me_ix gok C (me_ix gok C (me_var 0) (me_str 0 rfl)) (me_var 2)) (mg_name 0 C.nd)))))
    (mss_one (ms_ret (me_var 0)))⟩
theorem sc_directory_of : FnScope N_directory_of ["tree", "path"] (defScope s_directory_of) := ⟨rfl, rfl, rfl, by decide +kernel, rfl, by decide +kernel, by decide +kernel⟩
theorem ok_directory_of (O : TxOk w K mg T) : FnM (T.G K) P w mg base 2 T.f_directory_of T.d_directory_of ["tree", "path"] m_directory_of := by
  refine fn_m O.F_directory_of sc_directory_of rfl rfl (fun cdv A outer s H E C tk => ?_)
  exact ⟨_, mss_cons (ms_if (mt_cmp (mc_eq gok C (me_blt (cl_len C) rl_len O.n_len bt_len (ma_cons (me_var 1) (ma_nil))) (me_int))) (mss_one (ms_ret (me_non))) (mss_nil))
    (mss_cons (ms_asg (me_call C (ok_part_at O) df_nil (by decide) O.g_part_at O.F_part_at.kp O.b_part_at (ma_cons (me_var 0) (ma_cons (me_sl C (me_var 1) (mo_no) (mo_so (me_neg (me_int)))) (ma_nil)))) (mg_name 2 C.nd))
    (mss_cons (ms_if ((mw_or (mt_cmp (mc_isN (me_var 2))) (mw_or1 (mt_cmp (mc_in gok C (me_str 1 rfl) (me_var 2))))).mt) (mss_one (ms_ret (me_non))) (mss_nil))
    (mss_one (ms_ret (me_var 2)))))⟩
theorem sc_ask_directory : FnScope N_ask_directory ["names", "name", "request"] (defScope s_ask_directory) := ⟨rfl, rfl, rfl, by decide +kernel, rfl, by decide +kernel, by decide +kernel⟩
theorem ok_ask_directory (O : TxOk w K mg T) : FnM (T.G K) P w mg base 2 T.f_ask_directory T.d_ask_directory ["names", "name", "request"] m_ask_directory := by
  refine fn_m O.F_ask_directory sc_ask_directory rfl rfl (fun cdv A outer s H E C tk => ?_)
  exact ⟨_, mss_cons (ms_if (mt_cmp (mc_eq gok C (me_ix gok C (me_var 2) (me_int)) (me_str 2 rfl))) (mss_cons (ms_if (mt_cmp (mc_in gok C (me_var 1) (me_var 0))) (mss_one (ms_ret (me_tup (ma_cons (me_str 11 rfl) (ma_cons (me_str 14 rfl) (ma_nil)))))) (mss_nil))
    (mss_cons (ms_sub gok C (me_var 0) (me_var 1) (me_disp gok (mps_cons (me_str 1 rfl) (me_lst (ma_nil)) (mps_nil))))
    (mss_cons (ms_if (mt_cmp (mc_eq gok C (me_ix gok C (me_var 2) (me_int)) (me_str 9 rfl))) (mss_one (ms_sub gok C (me_var 0) (me_var 1) (me_call0 C (ok_new_tree O) df_nil (by decide) O.g_new_tree O.F_new_tree.kp O.b_new_tree))) (mss_nil))
    (mss_one (ms_ret (me_tup (ma_cons (me_str 13 rfl) (ma_cons (me_non) (ma_nil))))))))) (mss_nil))
    (mss_cons (ms_if (mt_cmp (mc_notin gok C (me_var 1) (me_var 0))) (mss_one (ms_ret (me_tup (ma_cons (me_str 11 rfl) (ma_cons (me_str 12 rfl) (ma_nil)))))) (mss_nil))
    (mss_cons (ms_if ((mw_and (mt_cmp (mc_in gok C (me_str 0 rfl) (me_ix gok C (me_var 0) (me_var 1)))) (mw_and1 (mt_cmp (mc_gt (me_blt (cl_len C) rl_len O.n_len bt_len (ma_cons (me_ix gok C (me_ix gok C (me_var 0) (me_var 1)) (me_str 0 rfl)) (ma_nil))) (me_int))))).mt) (mss_one (ms_ret (me_tup (ma_cons (me_str 11 rfl) (ma_cons (me_str 15 rfl) (ma_nil)))))) (mss_nil))
    (mss_cons (ms_expr (me_alt (me_bm C PySem.F.slot_list_pop PySem.F.type_list_pop mt_popAt rm_popAt (me_var 0) (ma_cons (me_var 1) (ma_nil))) (me_pop1 gok (me_var 0) (me_var 1))))
    (mss_one (ms_ret (me_tup (ma_cons (me_str 13 rfl) (ma_cons (me_non) (ma_nil)))))))))⟩
theorem sc_ask_file : FnScope N_ask_file ["part", "request"] (defScope s_ask_file) := ⟨rfl, rfl, rfl, by decide +kernel, rfl, by decide +kernel, by decide +kernel⟩
theorem ok_ask_file (O : TxOk w K mg T) : FnM (T.G K) P w mg base 1 T.f_ask_file T.d_ask_file ["part", "request"] m_ask_file := by
  refine fn_m O.F_ask_file sc_ask_file rfl rfl (fun cdv A outer s H E C tk => ?_)
  exact ⟨_, mss_cons (ms_asg (me_ix gok C (me_var 1) (me_int)) (mg_name 2 C.nd))
    (mss_cons (ms_asg (me_ix gok C (me_var 0) (me_str 1 rfl)) (mg_name 3 C.nd))
    (mss_cons (ms_if (mt_cmp (mc_eq gok C (me_var 2) (me_str 5 rfl))) (mss_one (ms_ret (me_tup (ma_cons (me_str 13 rfl) (ma_cons (me_blt (cl_len C) rl_len O.n_len bt_len (ma_cons (me_var 3) (ma_nil))) (ma_nil)))))) (mss_nil))
    (mss_cons (ms_if (mt_cmp (mc_eq gok C (me_var 2) (me_str 4 rfl))) (mss_one (ms_ret (me_tup (ma_cons (me_str 13 rfl) (ma_cons (me_bty (cl_tuple C) rl_tuple O.n_tuple bt_tuple (ma_cons (me_sl C (me_var 3) (mo_so (me_ix gok C (me_var 1) (me_int))) (mo_so (me_add C (me_ix gok C (me_var 1) (me_int)) (me_ix gok C (me_var 1) (me_int))))) (ma_nil))) (ma_nil)))))) (mss_nil))
    (mss_cons (ms_if (mt_cmp (mc_eq gok C (me_var 2) (me_str 6 rfl))) (mss_cons (ms_sub gok C (me_var 0) (me_str 1 rfl) (me_sl C (me_var 3) (mo_no) (mo_so (me_ix gok C (me_var 1) (me_int)))))
    (mss_one (ms_ret (me_tup (ma_cons (me_str 13 rfl) (ma_cons (me_non) (ma_nil))))))) (mss_nil))
    (mss_cons (ms_asg (me_sl C (me_var 1) (mo_so (me_int)) (mo_so (me_int))) (mg_tup C (mgs_cons (mg_name 4 C.nd) (mgs_cons (mg_name 5 C.nd) (mgs_nil))) (gs_lenS (gs_lenS gs_len0))))
    (mss_cons (ms_asg (me_add C (me_var 4) (me_blt (cl_len C) rl_len O.n_len bt_len (ma_cons (me_var 5) (ma_nil)))) (mg_name 6 C.nd))
    (mss_cons (ms_if (mt_cmp (mc_gt (me_var 6) (me_glob 48 O.k_MOST_WORDS))) (mss_one (ms_ret (me_tup (ma_cons (me_str 11 rfl) (ma_cons (me_str 16 rfl) (ma_nil)))))) (mss_nil))
    (mss_cons (ms_asg (me_add C (me_var 3) (me_mul C (me_lst (ma_cons (me_int) (ma_nil))) (me_blt (call_max2 rfl) rl_max2 O.n_max bt_max (ma_cons (me_int) (ma_cons (me_sub (me_var 6) (me_blt (cl_len C) rl_len O.n_len bt_len (ma_cons (me_var 3) (ma_nil)))) (ma_nil)))))) (mg_name 7 C.nd))
    (mss_cons (ms_sub gok C (me_var 0) (me_str 1 rfl) (me_add C (me_add C (me_sl C (me_var 7) (mo_no) (mo_so (me_var 4))) (me_bty (cl_list C) rl_list O.n_list bt_list (ma_cons (me_var 5) (ma_nil)))) (me_sl C (me_var 7) (mo_so (me_var 6)) (mo_no))))
    (mss_one (ms_ret (me_tup (ma_cons (me_str 13 rfl) (ma_cons (me_non) (ma_nil)))))))))))))))⟩
theorem sc_ask : FnScope N_ask ["tree", "request"] (defScope s_ask) := ⟨rfl, rfl, rfl, by decide +kernel, rfl, by decide +kernel, by decide +kernel⟩
theorem ok_ask (O : TxOk w K mg T) : FnM (T.G K) P w mg base 3 T.f_ask T.d_ask ["tree", "request"] m_ask := by
  refine fn_m O.F_ask sc_ask rfl rfl (fun cdv A outer s H E C tk => ?_)
  exact ⟨_, mss_cons (ms_asg (me_sl C (me_var 1) (mo_no) (mo_so (me_int))) (mg_tup C (mgs_cons (mg_name 2 C.nd) (mgs_cons (mg_name 3 C.nd) (mgs_nil))) (gs_lenS (gs_lenS gs_len0))))
    (mss_cons (ms_if ((mw_or (mt_cmp (mc_eq gok C (me_var 2) (me_str 2 rfl))) (mw_or1 (mt_cmp (mc_eq gok C (me_var 2) (me_str 7 rfl))))).mt) (mss_cons (ms_asg (me_call C (ok_directory_of O) df_nil (by decide) O.g_directory_of O.F_directory_of.kp O.b_directory_of (ma_cons (me_var 0) (ma_cons (me_var 3) (ma_nil)))) (mg_name 4 C.nd))
    (mss_cons (ms_if (mt_cmp (mc_isN (me_var 4))) (mss_one (ms_ret (me_tup (ma_cons (me_str 11 rfl) (ma_cons (me_str 12 rfl) (ma_nil)))))) (mss_nil))
    (mss_one (ms_ret (me_call C (ok_ask_directory O) df_nil (by decide) O.g_ask_directory O.F_ask_directory.kp O.b_ask_directory (ma_cons (me_ix gok C (me_var 4) (me_str 0 rfl)) (ma_cons (me_ix gok C (me_var 3) (me_neg (me_int))) (ma_cons (me_var 1) (ma_nil))))))))) (mss_nil))
    (mss_cons (ms_asg (me_call C (ok_part_at O) df_nil (by decide) O.g_part_at O.F_part_at.kp O.b_part_at (ma_cons (me_var 0) (ma_cons (me_var 3) (ma_nil)))) (mg_name 5 C.nd))
    (mss_cons (ms_if (mt_cmp (mc_isN (me_var 5))) (mss_one (ms_ret (me_tup (ma_cons (me_str 11 rfl) (ma_cons (me_str 12 rfl) (ma_nil)))))) (mss_nil))
    (mss_cons (ms_if (mt_cmp (mc_eq gok C (me_var 2) (me_str 8 rfl))) (mss_cons (ms_if (mt_cmp (mc_in gok C (me_str 1 rfl) (me_var 5))) (mss_one (ms_ret (me_tup (ma_cons (me_str 11 rfl) (ma_cons (me_str 10 rfl) (ma_nil)))))) (mss_nil))
    (mss_one (ms_ret (me_tup (ma_cons (me_str 13 rfl) (ma_cons (me_bty (cl_tuple C) rl_tuple O.n_tuple bt_tuple (ma_cons (me_blt (cl_sorted C) rl_sorted O.n_sorted bt_sorted (ma_cons (me_ix gok C (me_var 5) (me_str 0 rfl)) (ma_nil))) (ma_nil))) (ma_nil))))))) (mss_nil))
    (mss_cons (ms_if (mt_cmp (mc_in gok C (me_str 0 rfl) (me_var 5))) (mss_one (ms_ret (me_tup (ma_cons (me_str 11 rfl) (ma_cons (me_str 9 rfl) (ma_nil)))))) (mss_nil))
    (mss_one (ms_ret (me_call C (ok_ask_file O) df_nil (by decide) O.g_ask_file O.F_ask_file.kp O.b_ask_file (ma_cons (me_var 5) (ma_cons (me_var 1) (ma_nil)))))))))))⟩
theorem sc__law_names : FnScope N__law_names ["_law_parts", "_law_path_here"] (defScope s__law_names) := ⟨rfl, rfl, rfl, by decide +kernel, rfl, by decide +kernel, by decide +kernel⟩
theorem ok__law_names (O : TxOk w K mg T) : FnM (T.G K) P w mg base 1 T.f__law_names T.d__law_names ["_law_parts", "_law_path_here"] m__law_names := by
  refine fn_m O.F__law_names sc__law_names rfl rfl (fun cdv A outer s H E C tk => ?_)
  exact ⟨_, mss_one (ms_ret (me_blt (cl_sorted C) rl_sorted O.n_sorted bt_sorted (ma_cons (me_lcD [("_law_other", 2)] C (me_var 0) (blkOk_by (N := N__law_names) (sc := defScope s__law_names) (by decide +kernel)) (fun _ _ _ _ _ C => mg_name 2 C.nd) (fun _ _ _ _ _ C => mts_one ((mw_and (mt_cmp (mc_eq gok C (me_blt (cl_len C) rl_len O.n_len bt_len (ma_cons (me_var 2) (ma_nil))) (me_add C (me_blt (cl_len C) rl_len O.n_len bt_len (ma_cons (me_var 1) (ma_nil))) (me_int)))) (mw_and1 (mt_cmp (mc_eq gok C (me_sl C (me_var 2) (mo_no) (mo_so (me_blt (cl_len C) rl_len O.n_len bt_len (ma_cons (me_var 1) (ma_nil))))) (me_var 1))))).mt)) (fun _ _ _ _ _ C => me_ix gok C (me_var 2) (me_neg (me_int))) (tgw_name (by decide))) (ma_nil))))⟩
theorem sc__law_file : FnScope N__law_file ["_law_parts", "_law_request_here"] (defScope s__law_file) := ⟨rfl, rfl, rfl, by decide +kernel, rfl, by decide +kernel, by decide +kernel⟩
theorem ok__law_file (O : TxOk w K mg T) : FnM (T.G K) P w mg base 1 T.f__law_file T.d__law_file ["_law_parts", "_law_request_here"] m__law_file := by
  refine fn_m O.F__law_file sc__law_file rfl rfl (fun cdv A outer s H E C tk => ?_)
  exact ⟨_, mss_cons (ms_asg (me_ixV rfl gok C (me_var 0) (me_ix gok C (me_var 1) (me_int))) (mg_name 2 C.nd))
    (mss_cons (ms_if (mt_cmp (mc_eq gok C (me_ix gok C (me_var 1) (me_int)) (me_str 5 rfl))) (mss_one (ms_ret (me_tup (ma_cons (me_str 13 rfl) (ma_cons (me_blt (cl_len C) rl_len O.n_len bt_len (ma_cons (me_var 2) (ma_nil))) (ma_nil)))))) (mss_nil))
    (mss_cons (ms_if (mt_cmp (mc_eq gok C (me_ix gok C (me_var 1) (me_int)) (me_str 4 rfl))) (mss_one (ms_ret (me_tup (ma_cons (me_str 13 rfl) (ma_cons (me_bty (cl_tuple C) rl_tuple O.n_tuple bt_tuple (ma_cons (me_sl C (me_var 2) (mo_so (me_ix gok C (me_var 1) (me_int))) (mo_so (me_add C (me_ix gok C (me_var 1) (me_int)) (me_ix gok C (me_var 1) (me_int))))) (ma_nil))) (ma_nil)))))) (mss_nil))
    (mss_cons (ms_if (mt_cmp (mc_eq gok C (me_ix gok C (me_var 1) (me_int)) (me_str 6 rfl))) (mss_cons (ms_subV rfl gok C (me_var 0) (me_ix gok C (me_var 1) (me_int)) (me_sl C (me_var 2) (mo_no) (mo_so (me_ix gok C (me_var 1) (me_int)))))
    (mss_one (ms_ret (me_tup (ma_cons (me_str 13 rfl) (ma_cons (me_non) (ma_nil))))))) (mss_nil))
    (mss_cons (ms_if (mt_cmp (mc_gt (me_add C (me_ix gok C (me_var 1) (me_int)) (me_blt (cl_len C) rl_len O.n_len bt_len (ma_cons (me_ix gok C (me_var 1) (me_int)) (ma_nil)))) (me_int))) (mss_one (ms_ret (me_tup (ma_cons (me_str 11 rfl) (ma_cons (me_str 16 rfl) (ma_nil)))))) (mss_nil))
    (mss_cons (ms_asg (me_add C (me_var 2) (me_mul C (me_lst (ma_cons (me_int) (ma_nil))) (me_int))) (mg_name 3 C.nd))
    (mss_cons (ms_for C (mi_rng1 O.n_range (ma_cons (me_blt (cl_len C) rl_len O.n_len bt_len (ma_cons (me_ix gok C (me_var 1) (me_int)) (ma_nil))) (ma_nil))) (mg_name 4 C.nd) (mss_one (ms_sub gok C (me_var 3) (me_add C (me_ix gok C (me_var 1) (me_int)) (me_var 4)) (me_ix gok C (me_ix gok C (me_var 1) (me_int)) (me_var 4)))))
    (mss_cons (ms_subV rfl gok C (me_var 0) (me_ix gok C (me_var 1) (me_int)) (me_sl C (me_var 3) (mo_no) (mo_so (me_blt (call_max2 rfl) rl_max2 O.n_max bt_max (ma_cons (me_blt (cl_len C) rl_len O.n_len bt_len (ma_cons (me_var 2) (ma_nil))) (ma_cons (me_add C (me_ix gok C (me_var 1) (me_int)) (me_blt (cl_len C) rl_len O.n_len bt_len (ma_cons (me_ix gok C (me_var 1) (me_int)) (ma_nil)))) (ma_nil)))))))
    (mss_one (ms_ret (me_tup (ma_cons (me_str 13 rfl) (ma_cons (me_non) (ma_nil)))))))))))))⟩
theorem sc__law_due : FnScope N__law_due ["_law_parts", "_law_request_here"] (defScope s__law_due) := ⟨rfl, rfl, rfl, by decide +kernel, rfl, by decide +kernel, by decide +kernel⟩
theorem ok__law_due (O : TxOk w K mg T) : FnM (T.G K) P w mg base 2 T.f__law_due T.d__law_due ["_law_parts", "_law_request_here"] m__law_due := by
  refine fn_m O.F__law_due sc__law_due rfl rfl (fun cdv A outer s H E C tk => ?_)
  exact ⟨_, mss_cons (ms_par2 2 3 C rfl rfl (by decide) rfl rfl (ma_cons (me_ix gok C (me_var 1) (me_int)) (ma_cons (me_ix gok C (me_var 1) (me_int)) (ma_nil))) rfl)
    (mss_cons (ms_if (mt_cmp (mc_in gok C (me_var 2) (me_tup (ma_cons (me_str 2 rfl) (ma_cons (me_str 7 rfl) (ma_nil)))))) (mss_cons (ms_if ((mw_or (mt_cmp (mc_eq gok C (me_var 3) (me_tup (ma_nil)))) (mw_or1 (mt_cmp (mc_ne gok C (me_getV1 rfl gok C (me_var 0) (me_sl C (me_var 3) (mo_no) (mo_so (me_neg (me_int))))) (me_str 9 rfl))))).mt) (mss_one (ms_ret (me_tup (ma_cons (me_str 11 rfl) (ma_cons (me_str 12 rfl) (ma_nil)))))) (mss_nil))
    (mss_cons (ms_if (mt_cmp (mc_eq gok C (me_var 2) (me_str 2 rfl))) (mss_cons (ms_if (mt_cmp (mc_inV rfl gok C (me_var 3) (me_var 0))) (mss_one (ms_ret (me_tup (ma_cons (me_str 11 rfl) (ma_cons (me_str 14 rfl) (ma_nil)))))) (mss_nil))
    (mss_cons (ms_subV rfl gok C (me_var 0) (me_var 3) (me_ix gok C (me_lst (ma_cons (me_str 9 rfl) (ma_cons (me_lst (ma_nil)) (ma_nil)))) (me_bty call_int1 rl_int O.n_int bt_int (ma_cons (me_cmp (mc_eq gok C (me_ix gok C (me_var 1) (me_int)) (me_str 10 rfl))) (ma_nil)))))
    (mss_one (ms_ret (me_tup (ma_cons (me_str 13 rfl) (ma_cons (me_non) (ma_nil)))))))) (mss_nil))
    (mss_cons (ms_if (mt_cmp (mc_notinV rfl gok C (me_var 3) (me_var 0))) (mss_one (ms_ret (me_tup (ma_cons (me_str 11 rfl) (ma_cons (me_str 12 rfl) (ma_nil)))))) (mss_nil))
    (mss_cons (ms_if (mt_cmp (mc_ne gok C (me_call C (ok__law_names O) df_nil (by decide) O.g__law_names O.F__law_names.kp O.b__law_names (ma_cons (me_var 0) (ma_cons (me_var 3) (ma_nil)))) (me_lst (ma_nil)))) (mss_one (ms_ret (me_tup (ma_cons (me_str 11 rfl) (ma_cons (me_str 15 rfl) (ma_nil)))))) (mss_nil))
    (mss_cons (ms_expr (me_popV1 rfl gok C (me_var 0) (me_var 3)))
    (mss_one (ms_ret (me_tup (ma_cons (me_str 13 rfl) (ma_cons (me_non) (ma_nil))))))))))) (mss_nil))
    (mss_cons (ms_if (mt_cmp (mc_notinV rfl gok C (me_var 3) (me_var 0))) (mss_one (ms_ret (me_tup (ma_cons (me_str 11 rfl) (ma_cons (me_str 12 rfl) (ma_nil)))))) (mss_nil))
    (mss_cons (ms_if (mt_cmp (mc_eq gok C (me_var 2) (me_str 8 rfl))) (mss_cons (ms_if (mt_cmp (mc_ne gok C (me_ixV rfl gok C (me_var 0) (me_var 3)) (me_str 9 rfl))) (mss_one (ms_ret (me_tup (ma_cons (me_str 11 rfl) (ma_cons (me_str 10 rfl) (ma_nil)))))) (mss_nil))
    (mss_one (ms_ret (me_tup (ma_cons (me_str 13 rfl) (ma_cons (me_bty (cl_tuple C) rl_tuple O.n_tuple bt_tuple (ma_cons (me_call C (ok__law_names O) df_nil (by decide) O.g__law_names O.F__law_names.kp O.b__law_names (ma_cons (me_var 0) (ma_cons (me_var 3) (ma_nil)))) (ma_nil))) (ma_nil))))))) (mss_nil))
    (mss_cons (ms_if (mt_cmp (mc_eq gok C (me_ixV rfl gok C (me_var 0) (me_var 3)) (me_str 9 rfl))) (mss_one (ms_ret (me_tup (ma_cons (me_str 11 rfl) (ma_cons (me_str 9 rfl) (ma_nil)))))) (mss_nil))
    (mss_one (ms_ret (me_call C (ok__law_file O) df_nil (by decide) O.g__law_file O.F__law_file.kp O.b__law_file (ma_cons (me_var 0) (ma_cons (me_var 1) (ma_nil))))))))))⟩
theorem sc_law : FnScope N_law ["_law_script"] (defScope s_law) := ⟨rfl, rfl, rfl, by decide +kernel, rfl, by decide +kernel, by decide +kernel⟩
theorem ok_law (O : TxOk w K mg T) : FnM (T.G K) P w mg base 7 T.f_law T.d_law ["_law_script"] m_law := by
  refine fn_m O.F_law sc_law rfl rfl (fun cdv A outer s H E C tk => ?_)
  exact ⟨_, mss_cons (ms_asg (me_lst (ma_cons (me_bty (cl_list C) rl_list O.n_list bt_list (ma_cons (me_var 0) (ma_nil))) (ma_cons (me_int) (ma_cons (me_int) (ma_cons (me_int) (ma_nil)))))) (mg_name 1 C.nd))
    (mss_cons (ms_asg (me_call0 C (ok_new_tree O) df_nil (by decide) O.g_new_tree O.F_new_tree.kp O.b_new_tree) (mg_name 2 C.nd))
    (mss_cons (ms_asg (me_dispT1 rfl C (me_tup (ma_nil)) (me_str 9 rfl)) (mg_name 3 C.nd))
    (mss_cons (ms_asg (me_call C (ok_copied O) df_nil (by decide) O.g_copied O.F_copied.kp O.b_copied (ma_cons (me_var 2) (ma_nil))) (mg_name 4 C.nd))
    (mss_cons (ms_for C (mi_rng1 O.n_range (ma_cons (me_call C (ok__law_next O) df_nil (by decide) O.g__law_next O.F__law_next.kp O.b__law_next (ma_cons (me_var 1) (ma_cons (me_int) (ma_nil)))) (ma_nil))) (mg_name 5 C.nd) (mss_cons (ms_asg (me_call C (ok__law_request O) df_nil (by decide) O.g__law_request O.F__law_request.kp O.b__law_request (ma_cons (me_var 1) (ma_nil))) (mg_name 6 C.nd))
    (mss_cons (ms_if (mt_cmp (mc_isnB (me_call C (ok_is_request O) df_nil (by decide) O.g_is_request O.F_is_request.kp O.b_is_request (ma_cons (me_var 6) (ma_nil))) (me_bl))) (mss_one (ms_ret (me_bl))) (mss_nil))
    (mss_cons (ms_if (mt_cmp (mc_eq gok C (me_call C (ok__law_next O) df_nil (by decide) O.g__law_next O.F__law_next.kp O.b__law_next (ma_cons (me_var 1) (ma_cons (me_int) (ma_nil)))) (me_int))) (mss_cons (ms_asg (me_call C (ok_copied O) df_nil (by decide) O.g_copied O.F_copied.kp O.b_copied (ma_cons (me_var 2) (ma_nil))) (mg_name 4 C.nd))
    (mss_cons (ms_asg (me_bty (cl_dictT C) (rl_dictT trivial) O.n_dict bt_ty_dct (ma_cons (me_var 3) (ma_nil))) (mg_name 7 C.nd))
    (mss_one (ms_if (mt_cmp (mc_neT gok C (me_call C (ok__law_flat O) df_nil (by decide) O.g__law_flat O.F__law_flat.kp O.b__law_flat (ma_cons (me_var 4) (ma_cons (me_tup (ma_nil)) (ma_cons (me_dictT) (ma_nil))))) (me_var 7))) (mss_one (ms_ret (me_bl))) (mss_nil))))) (mss_nil))
    (mss_one (ms_if ((mw_or (mt_cmp (mc_ne gok C (me_call C (ok_ask O) df_nil (by decide) O.g_ask O.F_ask.kp O.b_ask (ma_cons (me_var 2) (ma_cons (me_var 6) (ma_nil)))) (me_call C (ok__law_due O) df_nil (by decide) O.g__law_due O.F__law_due.kp O.b__law_due (ma_cons (me_var 3) (ma_cons (me_var 6) (ma_nil)))))) (mw_or1 (mt_cmp (mc_neT gok C (me_call C (ok__law_flat O) df_nil (by decide) O.g__law_flat O.F__law_flat.kp O.b__law_flat (ma_cons (me_var 2) (ma_cons (me_tup (ma_nil)) (ma_cons (me_dictT) (ma_nil))))) (me_var 3))))).mt) (mss_one (ms_ret (me_bl))) (mss_nil)))))))
    (mss_cons (ms_asg (me_lst (ma_cons (me_non) (ma_cons (me_tup (ma_nil)) (ma_cons (me_tup (ma_cons (me_str 2 rfl) (ma_cons (me_tup (ma_cons (me_int) (ma_nil))) (ma_nil)))) (ma_cons (me_tup (ma_cons (me_str 2 rfl) (ma_cons (me_tup (ma_cons (me_int) (ma_nil))) (ma_cons (me_str 9 rfl) (ma_nil))))) (ma_cons (me_tup (ma_cons (me_str 2 rfl) (ma_cons (me_lst (ma_cons (me_int) (ma_nil))) (ma_cons (me_str 9 rfl) (ma_nil))))) (ma_cons (me_tup (ma_cons (me_str 2 rfl) (ma_cons (me_tup (ma_cons (me_int) (ma_nil))) (ma_cons (me_str 17 rfl) (ma_nil))))) (ma_cons (me_tup (ma_cons (me_str 3 rfl) (ma_cons (me_tup (ma_cons (me_int) (ma_nil))) (ma_cons (me_int) (ma_cons (me_tup (ma_nil)) (ma_nil)))))) (ma_nil))))))))) (mg_name 8 C.nd))
    (mss_cons (ms_asg (me_add C (me_var 8) (me_lst (ma_cons (me_tup (ma_cons (me_str 3 rfl) (ma_cons (me_tup (ma_cons (me_int) (ma_nil))) (ma_cons (me_int) (ma_cons (me_tup (ma_cons (me_int) (ma_nil))) (ma_nil)))))) (ma_cons (me_tup (ma_cons (me_str 3 rfl) (ma_cons (me_tup (ma_cons (me_int) (ma_nil))) (ma_cons (me_int) (ma_cons (me_tup (ma_cons (me_neg (me_int)) (ma_nil))) (ma_nil)))))) (ma_cons (me_tup (ma_cons (me_str 4 rfl) (ma_cons (me_tup (ma_cons (me_int) (ma_nil))) (ma_cons (me_bl) (ma_cons (me_int) (ma_nil)))))) (ma_cons (me_tup (ma_cons (me_str 6 rfl) (ma_cons (me_tup (ma_cons (me_int) (ma_nil))) (ma_cons (me_neg (me_int)) (ma_nil))))) (ma_cons (me_tup (ma_cons (me_str 5 rfl) (ma_cons (me_tup (ma_cons (me_pow (me_int) (me_int)) (ma_nil))) (ma_nil)))) (ma_nil)))))))) (mg_name 8 C.nd))
    (mss_cons (ms_asg (me_add C (me_var 8) (me_lst (ma_cons (me_lst (ma_cons (me_str 5 rfl) (ma_cons (me_tup (ma_cons (me_int) (ma_nil))) (ma_nil)))) (ma_cons (me_tup (ma_cons (me_str 18 rfl) (ma_nil))) (ma_cons (me_tup (ma_cons (me_str 3 rfl) (ma_cons (me_tup (ma_cons (me_int) (ma_nil))) (ma_cons (me_int) (ma_cons (me_mul C (me_tup (ma_cons (me_int) (ma_nil))) (me_int)) (ma_nil)))))) (ma_cons (me_tup (ma_cons (me_str 8 rfl) (ma_cons (me_tup (ma_cons (me_int) (ma_nil))) (ma_cons (me_int) (ma_nil))))) (ma_nil))))))) (mg_name 8 C.nd))
    (mss_one (ms_ret (me_cmp (mc_eq gok C (me_blt (cl_len C) rl_len O.n_len bt_len (ma_cons (me_lc [("_law_one", 9)] C (mi_alt (mi_lst C (me_var 8)) (mi_tup C (me_var 8))) (blkOk_by (N := N_law) (sc := defScope s_law) (by decide +kernel)) (fun _ _ _ _ _ C => mg_name 9 C.nd) (fun _ _ _ _ _ C => mts_one (mt_cmp (mc_isnB (me_call C (ok_is_request O) df_nil (by decide) O.g_is_request O.F_is_request.kp O.b_is_request (ma_cons (me_var 9) (ma_nil))) (me_bl)))) (fun _ _ _ _ _ C => me_var 9) (tgw_name (by decide))) (ma_nil))) (me_int))))))))))))⟩
end
end Lw

set_option maxHeartbeats 0
namespace Lw
open PySem L2 PyM
theorem facts {P : Program} {w : World} {K : PySem.W.Frag} {h : PySem.Heap} {mg : Str → Option Value} {f : Addr} (X : K.In h) (G : h.Ns mainGlobals mg) (hfa : mg "law" = some (.ref f)) (c : He.SaysT eFa eFn eTs w K) (cx : eX K = true) :
    ∃ fd : FuncData, (∀ (s : Shared) (v : Value), BindsTo s fd ⟨[v], []⟩ [("_law_script", v)]) ∧ ∀ base : PySem.Heap, K.In base → base.Ns mainGlobals mg → FnOk P w K mg base (L2.CX P w) 7 f fd ["_law_script"] (spLaw K) := by
  unfold eX at cx
  have ex0 := cx
  obtain ⟨d0, F0⟩ := c.d.def_ 0 (d := ⟨("new_tree", none), "new_tree", "new_tree", defArgs s_new_tree, defBody s_new_tree, defScope s_new_tree, [], []⟩) rfl
  obtain ⟨d1, F1⟩ := c.d.def_ 1 (d := ⟨("copied", none), "copied", "copied", defArgs s_copied, defBody s_copied, defScope s_copied, [], []⟩) rfl
  obtain ⟨d2, F2⟩ := c.d.def_ 2 (d := ⟨("_law_next", none), "_law_next", "_law_next", defArgs s__law_next, defBody s__law_next, defScope s__law_next, [], []⟩) rfl
  obtain ⟨d3, F3⟩ := c.d.def_ 3 (d := ⟨("_law_path", none), "_law_path", "_law_path", defArgs s__law_path, defBody s__law_path, defScope s__law_path, [], []⟩) rfl
  obtain ⟨d4, F4⟩ := c.d.def_ 4 (d := ⟨("_law_request", none), "_law_request", "_law_request", defArgs s__law_request, defBody s__law_request, defScope s__law_request, [], []⟩) rfl
  obtain ⟨d5, F5⟩ := c.d.def_ 5 (d := ⟨("is_number", none), "is_number", "is_number", defArgs s_is_number, defBody s_is_number, defScope s_is_number, [], []⟩) rfl
  obtain ⟨d6, F6⟩ := c.d.def_ 6 (d := ⟨("is_word", none), "is_word", "is_word", defArgs s_is_word, defBody s_is_word, defScope s_is_word, [], []⟩) rfl
  obtain ⟨d7, F7⟩ := c.d.def_ 7 (d := ⟨("is_path", none), "is_path", "is_path", defArgs s_is_path, defBody s_is_path, defScope s_is_path, [], []⟩) rfl
  obtain ⟨d8, F8⟩ := c.d.def_ 8 (d := ⟨("is_size", none), "is_size", "is_size", defArgs s_is_size, defBody s_is_size, defScope s_is_size, [], []⟩) rfl
  obtain ⟨d9, F9⟩ := c.d.def_ 9 (d := ⟨("is_content", none), "is_content", "is_content", defArgs s_is_content, defBody s_is_content, defScope s_is_content, [], []⟩) rfl
  obtain ⟨d10, F10⟩ := c.d.def_ 10 (d := ⟨("is_request", none), "is_request", "is_request", defArgs s_is_request, defBody s_is_request, defScope s_is_request, [], []⟩) rfl
  obtain ⟨d11, F11⟩ := c.d.def_ 11 (d := ⟨("_law_flat", none), "_law_flat", "_law_flat", defArgs s__law_flat, defBody s__law_flat, defScope s__law_flat, [], []⟩) rfl
  obtain ⟨d12, F12⟩ := c.d.def_ 12 (d := ⟨("part_at", none), "part_at", "part_at", defArgs s_part_at, defBody s_part_at, defScope s_part_at, [], []⟩) rfl
  obtain ⟨d13, F13⟩ := c.d.def_ 13 (d := ⟨("directory_of", none), "directory_of", "directory_of", defArgs s_directory_of, defBody s_directory_of, defScope s_directory_of, [], []⟩) rfl
  obtain ⟨d14, F14⟩ := c.d.def_ 14 (d := ⟨("ask_directory", none), "ask_directory", "ask_directory", defArgs s_ask_directory, defBody s_ask_directory, defScope s_ask_directory, [], []⟩) rfl
  obtain ⟨d15, F15⟩ := c.d.def_ 15 (d := ⟨("ask_file", none), "ask_file", "ask_file", defArgs s_ask_file, defBody s_ask_file, defScope s_ask_file, [], []⟩) rfl
  obtain ⟨d16, F16⟩ := c.d.def_ 16 (d := ⟨("ask", none), "ask", "ask", defArgs s_ask, defBody s_ask, defScope s_ask, [], []⟩) rfl
  obtain ⟨d17, F17⟩ := c.d.def_ 17 (d := ⟨("_law_names", none), "_law_names", "_law_names", defArgs s__law_names, defBody s__law_names, defScope s__law_names, [], []⟩) rfl
  obtain ⟨d18, F18⟩ := c.d.def_ 18 (d := ⟨("_law_file", none), "_law_file", "_law_file", defArgs s__law_file, defBody s__law_file, defScope s__law_file, [], []⟩) rfl
  obtain ⟨d19, F19⟩ := c.d.def_ 19 (d := ⟨("_law_due", none), "_law_due", "_law_due", defArgs s__law_due, defBody s__law_due, defScope s__law_due, [], []⟩) rfl
  obtain ⟨d20, F20⟩ := c.d.def_ 20 (d := ⟨("law", none), "law", "law", defArgs s_law, defBody s_law, defScope s_law, [], []⟩) rfl
  obtain ⟨eLENGTHS, nLENGTHS, qLENGTHS⟩ := kdB_ok (w := w) (ks := eK0) X G (c.d.fact 34 (f := .glo "LENGTHS") rfl) (ex0) (tabAt c 0 rfl)
  obtain ⟨tMOST_WORDS, qMOST_WORDS⟩ := He.int_ok X G (c.d.fact 35 (f := .int "MOST_WORDS" 48) rfl)
  obtain ⟨tTOP, qTOP⟩ := He.int_ok X G (c.d.fact 36 (f := .int "TOP" 4294967295) rfl)
  have e := hfa.symm.trans (He.glo_ok X G (c.d.fact 20 (f := .glo "law") rfl))
  cases e
  have O : TxOk w K mg {
      f_new_tree := He.fAd K ("new_tree", none),
      d_new_tree := d0,
      f_copied := He.fAd K ("copied", none),
      d_copied := d1,
      f__law_next := He.fAd K ("_law_next", none),
      d__law_next := d2,
      f__law_path := He.fAd K ("_law_path", none),
      d__law_path := d3,
      f__law_request := He.fAd K ("_law_request", none),
      d__law_request := d4,
      f_is_number := He.fAd K ("is_number", none),
      d_is_number := d5,
      f_is_word := He.fAd K ("is_word", none),
      d_is_word := d6,
      f_is_path := He.fAd K ("is_path", none),
      d_is_path := d7,
      f_is_size := He.fAd K ("is_size", none),
      d_is_size := d8,
      f_is_content := He.fAd K ("is_content", none),
      d_is_content := d9,
      f_is_request := He.fAd K ("is_request", none),
      d_is_request := d10,
      f__law_flat := He.fAd K ("_law_flat", none),
      d__law_flat := d11,
      f_part_at := He.fAd K ("part_at", none),
      d_part_at := d12,
      f_directory_of := He.fAd K ("directory_of", none),
      d_directory_of := d13,
      f_ask_directory := He.fAd K ("ask_directory", none),
      d_ask_directory := d14,
      f_ask_file := He.fAd K ("ask_file", none),
      d_ask_file := d15,
      f_ask := He.fAd K ("ask", none),
      d_ask := d16,
      f__law_names := He.fAd K ("_law_names", none),
      d__law_names := d17,
      f__law_file := He.fAd K ("_law_file", none),
      d__law_file := d18,
      f__law_due := He.fAd K ("_law_due", none),
      d__law_due := d19,
      f_law := He.fAd K ("law", none),
      d_law := d20,
      a_LENGTHS := He.ga K "LENGTHS",
      e_LENGTHS := eLENGTHS,
      n_LENGTHS := nLENGTHS,
      t_MOST_WORDS := tMOST_WORDS,
      t_TOP := tTOP } :=
    { F_new_tree := funOf (st := s_new_tree) F0,
      b_new_tree := (funOf (st := s_new_tree) F0).binds (ps := []) fun _ _ _ _ _ _ us hl => match us, hl with | [], _ => rfl,
      g_new_tree := He.glo_ok X G (c.d.fact 0 (f := .glo "new_tree") rfl),
      F_copied := funOf (st := s_copied) F1,
      b_copied := (funOf (st := s_copied) F1).binds (ps := ["tree"]) fun _ _ _ _ _ _ us hl => match us, hl with | [_], _ => rfl,
      g_copied := He.glo_ok X G (c.d.fact 1 (f := .glo "copied") rfl),
      F__law_next := funOf (st := s__law_next) F2,
      b__law_next := (funOf (st := s__law_next) F2).binds (ps := ["_law_tape", "_law_many"]) fun _ _ _ _ _ _ us hl => match us, hl with | [_, _], _ => rfl,
      g__law_next := He.glo_ok X G (c.d.fact 2 (f := .glo "_law_next") rfl),
      F__law_path := funOf (st := s__law_path) F3,
      b__law_path := (funOf (st := s__law_path) F3).binds (ps := ["_law_tape"]) fun _ _ _ _ _ _ us hl => match us, hl with | [_], _ => rfl,
      g__law_path := He.glo_ok X G (c.d.fact 3 (f := .glo "_law_path") rfl),
      F__law_request := funOf (st := s__law_request) F4,
      b__law_request := (funOf (st := s__law_request) F4).binds (ps := ["_law_tape"]) fun _ _ _ _ _ _ us hl => match us, hl with | [_], _ => rfl,
      g__law_request := He.glo_ok X G (c.d.fact 4 (f := .glo "_law_request") rfl),
      F_is_number := funOf (st := s_is_number) F5,
      b_is_number := (funOf (st := s_is_number) F5).binds (ps := ["value"]) fun _ _ _ _ _ _ us hl => match us, hl with | [_], _ => rfl,
      g_is_number := He.glo_ok X G (c.d.fact 5 (f := .glo "is_number") rfl),
      F_is_word := funOf (st := s_is_word) F6,
      b_is_word := (funOf (st := s_is_word) F6).binds (ps := ["value"]) fun _ _ _ _ _ _ us hl => match us, hl with | [_], _ => rfl,
      g_is_word := He.glo_ok X G (c.d.fact 6 (f := .glo "is_word") rfl),
      F_is_path := funOf (st := s_is_path) F7,
      b_is_path := (funOf (st := s_is_path) F7).binds (ps := ["value"]) fun _ _ _ _ _ _ us hl => match us, hl with | [_], _ => rfl,
      g_is_path := He.glo_ok X G (c.d.fact 7 (f := .glo "is_path") rfl),
      F_is_size := funOf (st := s_is_size) F8,
      b_is_size := (funOf (st := s_is_size) F8).binds (ps := ["value"]) fun _ _ _ _ _ _ us hl => match us, hl with | [_], _ => rfl,
      g_is_size := He.glo_ok X G (c.d.fact 8 (f := .glo "is_size") rfl),
      F_is_content := funOf (st := s_is_content) F9,
      b_is_content := (funOf (st := s_is_content) F9).binds (ps := ["value"]) fun _ _ _ _ _ _ us hl => match us, hl with | [_], _ => rfl,
      g_is_content := He.glo_ok X G (c.d.fact 9 (f := .glo "is_content") rfl),
      F_is_request := funOf (st := s_is_request) F10,
      b_is_request := (funOf (st := s_is_request) F10).binds (ps := ["value"]) fun _ _ _ _ _ _ us hl => match us, hl with | [_], _ => rfl,
      g_is_request := He.glo_ok X G (c.d.fact 10 (f := .glo "is_request") rfl),
      F__law_flat := funOf (st := s__law_flat) F11,
      b__law_flat := (funOf (st := s__law_flat) F11).binds (ps := ["_law_tree", "_law_path_here", "_law_found"]) fun _ _ _ _ _ _ us hl => match us, hl with | [_, _, _], _ => rfl,
      g__law_flat := He.glo_ok X G (c.d.fact 11 (f := .glo "_law_flat") rfl),
      F_part_at := funOf (st := s_part_at) F12,
      b_part_at := (funOf (st := s_part_at) F12).binds (ps := ["tree", "path"]) fun _ _ _ _ _ _ us hl => match us, hl with | [_, _], _ => rfl,
      g_part_at := He.glo_ok X G (c.d.fact 12 (f := .glo "part_at") rfl),
      F_directory_of := funOf (st := s_directory_of) F13,
      b_directory_of := (funOf (st := s_directory_of) F13).binds (ps := ["tree", "path"]) fun _ _ _ _ _ _ us hl => match us, hl with | [_, _], _ => rfl,
      g_directory_of := He.glo_ok X G (c.d.fact 13 (f := .glo "directory_of") rfl),
      F_ask_directory := funOf (st := s_ask_directory) F14,
      b_ask_directory := (funOf (st := s_ask_directory) F14).binds (ps := ["names", "name", "request"]) fun _ _ _ _ _ _ us hl => match us, hl with | [_, _, _], _ => rfl,
      g_ask_directory := He.glo_ok X G (c.d.fact 14 (f := .glo "ask_directory") rfl),
      F_ask_file := funOf (st := s_ask_file) F15,
      b_ask_file := (funOf (st := s_ask_file) F15).binds (ps := ["part", "request"]) fun _ _ _ _ _ _ us hl => match us, hl with | [_, _], _ => rfl,
      g_ask_file := He.glo_ok X G (c.d.fact 15 (f := .glo "ask_file") rfl),
      F_ask := funOf (st := s_ask) F16,
      b_ask := (funOf (st := s_ask) F16).binds (ps := ["tree", "request"]) fun _ _ _ _ _ _ us hl => match us, hl with | [_, _], _ => rfl,
      g_ask := He.glo_ok X G (c.d.fact 16 (f := .glo "ask") rfl),
      F__law_names := funOf (st := s__law_names) F17,
      b__law_names := (funOf (st := s__law_names) F17).binds (ps := ["_law_parts", "_law_path_here"]) fun _ _ _ _ _ _ us hl => match us, hl with | [_, _], _ => rfl,
      g__law_names := He.glo_ok X G (c.d.fact 17 (f := .glo "_law_names") rfl),
      F__law_file := funOf (st := s__law_file) F18,
      b__law_file := (funOf (st := s__law_file) F18).binds (ps := ["_law_parts", "_law_request_here"]) fun _ _ _ _ _ _ us hl => match us, hl with | [_, _], _ => rfl,
      g__law_file := He.glo_ok X G (c.d.fact 18 (f := .glo "_law_file") rfl),
      F__law_due := funOf (st := s__law_due) F19,
      b__law_due := (funOf (st := s__law_due) F19).binds (ps := ["_law_parts", "_law_request_here"]) fun _ _ _ _ _ _ us hl => match us, hl with | [_, _], _ => rfl,
      g__law_due := He.glo_ok X G (c.d.fact 19 (f := .glo "_law_due") rfl),
      F_law := funOf (st := s_law) F20,
      b_law := (funOf (st := s_law) F20).binds (ps := ["_law_script"]) fun _ _ _ _ _ _ us hl => match us, hl with | [_], _ => rfl,
      g_law := He.glo_ok X G (c.d.fact 20 (f := .glo "law") rfl),
      n_abs := He.free_ok X G (c.d.fact 21 (f := .free "abs") rfl),
      n_all := He.free_ok X G (c.d.fact 22 (f := .free "all") rfl),
      n_bool := He.free_ok X G (c.d.fact 23 (f := .free "bool") rfl),
      n_dict := He.free_ok X G (c.d.fact 24 (f := .free "dict") rfl),
      n_int := He.free_ok X G (c.d.fact 25 (f := .free "int") rfl),
      n_isinstance := He.free_ok X G (c.d.fact 26 (f := .free "isinstance") rfl),
      n_len := He.free_ok X G (c.d.fact 27 (f := .free "len") rfl),
      n_list := He.free_ok X G (c.d.fact 28 (f := .free "list") rfl),
      n_max := He.free_ok X G (c.d.fact 29 (f := .free "max") rfl),
      n_range := He.free_ok X G (c.d.fact 30 (f := .free "range") rfl),
      n_sorted := He.free_ok X G (c.d.fact 31 (f := .free "sorted") rfl),
      n_str := He.free_ok X G (c.d.fact 32 (f := .free "str") rfl),
      n_tuple := He.free_ok X G (c.d.fact 33 (f := .free "tuple") rfl),
      k_LENGTHS := qLENGTHS,
      k_MOST_WORDS := qMOST_WORDS,
      k_TOP := qTOP }
  have b := FunD.bindsA (ps := ["_law_script"]) F20 fun _ _ _ _ _ _ us hl => match us, hl with | [_], _ => rfl
  exact ⟨_, fun s v => b s [v] rfl, fun base _ _ => law_of (ok_law (P := P) (w := w) (base := base) O) law_true⟩
end Lw
open PySem PySem.W PySem.Calls PyProof.Rows
theorem PySem.Challenge.cw_steadhold_k04_trees_holds : PySem.Challenge.rw_steadhold_k04_trees.Holds := by
  w_on; o_law
  refine HandSHeadRun.head_any (r := OpenLaw.row PySem.Challenge.rw_steadhold_k04_trees) (q := Lw.eQ) (H := Lw.eH) (ob := Lw.eO) (M := 12000) (loose := Lw.eNm) (d := HandSHeadRun.topDef (OpenLaw.row PySem.Challenge.rw_steadhold_k04_trees).prog 27) (kwd := []) Lw.eO_eq
    (by kernel_rfl) (fun s => by kernel_rfl) Lw.run_w (by kernel_rfl) (by kernel_rfl) (by kernel_rfl) (by rfl) (by first | assumption | decide +kernel) (by decide +kernel) ⟨rfl, rfl, rfl, rfl, rfl, by decide +kernel⟩ ?hw ?hc
  case hw => w_witness2
  case hc =>
    refine PyM.walk_ofC (l := PySem.Challenge.rw_steadhold_k04_trees) (n := 63) (k := 7) (x := "_law_script") (CX := fun w => L2.CX (PySem.Challenge.rw_steadhold_k04_trees).prog w) rfl (by decide) (by kernel_rfl) ⟨rfl, by decide, by decide⟩ ?F (fun _ _ _ _ _ z => by
      obtain ⟨_, _, _, _, _, _, _, _, _, _, _, _, z⟩ := z
      exact z)
    intro w mg fa h Y G hmg0
    obtain ⟨K, KX, c, cx⟩ := Y
    have hmg : mg ("law" : PySem.Str) = some (.ref fa) := by
      have e : (HandSHeadRun.topDef (OpenLaw.row PySem.Challenge.rw_steadhold_k04_trees).prog 27).name = ("law" : PySem.Str) := by kernel_rfl
      rw [← e]
      exact hmg0
    obtain ⟨fd, hb, hF⟩ := Lw.facts (P := (PySem.Challenge.rw_steadhold_k04_trees).prog) (w := w) KX G hmg c cx
    exact ⟨K, fd, PyM.spLaw K, KX, hb, fun H a ns hl hO hS => ⟨a, ns, rfl, hl, hO, hS, fun _ => rfl⟩, hF⟩
