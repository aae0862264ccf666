import PyProof.Rows.All
import Wide.All
import OpenK.AllK
import Wide.FinOn
import HandS.ForMost
import HandS.Exc
import HandS.TryOnly
import HandS.ExcOwn
import HandS.WordsExc
import HandS.TupAny
import HandS.Deep
import HandS.TupMul
import HandS.IsInst
import HandS.Small
import HandS.SortInts
import HandS.TupLe
import HandS.More
import HandS.Style
import PyProof.DictMoreH
import HandS.DictTup
import HandS.SetFor
import HandS.Flow
import HandS.Text
import PySem.Challenge.RW_steadhold_k33_pages_never_give_more_than
set_option Elab.async false
set_option linter.all false
set_option maxRecDepth 100000
set_option autoImplicit false
/-! PyM: a plain model of the program: values, heap, results; and how it stands to the layer's readings. -/
namespace PyM
open PySem L2

inductive Val where
  | non | bl (b : Bool) | int (i : Int) | str (n : Nat) | tup (xs : List Val) | ref (n : Nat)
inductive Obj where
  | lst (xs : List Val) | fls (xs : List Val) | dct (kvs : List (Val × Val)) | dcT (kvs : List (Val × Val)) | fdc (kvs : List (Val × Val)) | fdT (kvs : List (Val × Val)) | ins (c : Nat) (fs : List (Nat × Val))
abbrev Heap := List Obj
inductive Res (α : Type) where
  | ok (a : α) (h : Heap) | raised (c : Nat) (h : Heap) | stuck
abbrev En := List (Option Val)
inductive RS where
  | nx (s : En) (h : Heap) | rt (v : Val) (h : Heap) | bk (s : En) (h : Heap) | ct (s : En) (h : Heap) | raised (c : Nat) (h : Heap) | stuck

structure Cfg where
  K : PySem.W.Frag
  cls : List Addr
  nms : List Str
  sts : List Str

section
variable (G : Cfg) (r : List Addr) (H : Hp)
mutual
inductive VR : Val → V → Prop
  | non : VR .non .non
  | bl (b : Bool) : VR (.bl b) (.bl b)
  | int (i : Int) : VR (.int i) (.int i)
  | str {n : Nat} {x : Str} : G.sts[n]? = some x → VR (.str n) (.str x)
  | tup {xs : List Val} {vs : List V} {a : Addr} : SqT G.K H a vs → VRs xs vs → VR (.tup xs) (.ref a)
  | ref {n : Nat} {a : Addr} : r[n]? = some a → VR (.ref n) (.ref a)
inductive VRs : List Val → List V → Prop
  | nil : VRs [] []
  | cons {x : Val} {v : V} {xs : List Val} {vs : List V} : VR x v → VRs xs vs → VRs (x :: xs) (v :: vs)
end
/-- slots -/
inductive SR : En → St → Prop
  | nil : SR [] []
  | no {o : Option V} {s : En} {t : St} : SR s t → SR (none :: s) (o :: t)
  | so {x : Val} {v : V} {s : En} {t : St} : VR G r H x v → SR s t → SR (some x :: s) (some v :: t)
inductive FR (C : Addr) : List (Nat × Val) → List (Str × V) → Prop
  | nil : FR C [] []
  | cons {f : Nat} {z : Str} {x : Val} {v : V} {fs gs} : G.nms[f]? = some z → NoAttr G.K C z → VR G r H x v → FR C fs gs → FR C ((f, x) :: fs) ((z, v) :: gs)
/-- keys of a dict -/
inductive KR : Val → Key → Prop
  | int (i : Int) : KR (.int i) (.inl i)
  | str {n : Nat} {x : Str} : G.sts[n]? = some x → KR (.str n) (.inr x)
inductive KRs : List Val → List Key → Prop
  | nil : KRs [] []
  | cons {x k xs ks} : KR G x k → KRs xs ks → KRs (x :: xs) (k :: ks)
inductive DR : List (Val × Val) → List (Key × V) → Prop
  | nil : DR [] []
  | cons {k x : Val} {q : Key} {v : V} {d e} : KR G k q → VR G r H x v → DR d e → DR ((k, x) :: d) ((q, v) :: e)
inductive DTR : List (Val × Val) → List (List Key × V) → Prop
  | nil : DTR [] []
  | cons {ks : List Val} {x : Val} {qs : List Key} {v : V} {d e} : KRs G ks qs → VR G r H x v → DTR d e → DTR ((.tup ks, x) :: d) ((qs, v) :: e)
/-- a list that is read alone: the script's -/
def FL (K : PySem.W.Frag) (H : Hp) (a : Addr) (xs : List V) : Prop := (∃ o, H a = some (.frz o (.lst xs))) ∨
  ∃ (o : PySem.Obj) (its : Array Value) (n : Nat), K.lookup a = some o ∧ o.cls = .type "list" ∧ o.dict = none ∧ o.data = .seq its n ∧ its.size ≤ sizeLine ∧ Vals xs its.toList
def isFls : Obj → Bool
  | .fls _ => true
  | _ => false
inductive OR : Obj → Addr → Prop
  | lst {xs vs a} : H a = some (.lst vs) → VRs G r H xs vs → OR (.lst xs) a
  | fls {xs vs a} : FL G.K H a vs → VRs G r H xs vs → OR (.fls xs) a
  | dct {d e a} : H a = some (.dK e) → DR G r H d e → OR (.dct d) a
  | dcT {d e a} : H a = some (.dT e) → DTR G r H d e → OR (.dcT d) a
  | fdc {d e o a} : H a = some (.frz o (.dK e)) → DR G r H d e → OR (.fdc d) a
  | fdT {d e o a} : H a = some (.frz o (.dT e)) → DTR G r H d e → OR (.fdT d) a
  | ins {c C dx fs gs a} : G.cls[c]? = some C → Cls G.K C → H a = some (.ins C dx gs) → FR G r H C fs gs → OR (.ins c fs) a
structure HR (h : Heap) : Prop where
  len : r.length = h.length
  nd : ∀ (i j : Nat) (a : Addr) (x y : Obj), h[i]? = some x → h[j]? = some y → r[i]? = some a → r[j]? = some a → isFls x = false → isFls y = false → i = j
  ob : ∀ (n : Nat) (o : Obj) (a : Addr), h[n]? = some o → r[n]? = some a → OR G r H o a
end

/-- tuples stay -/
structure Stp (K : PySem.W.Frag) (r : List Addr) (H : Hp) (r' : List Addr) (H' : Hp) : Prop where
  pre : ∀ (n : Nat) (a : Addr), r[n]? = some a → r'[n]? = some a
  tup : ∀ a xs, SqT K H a xs → SqT K H' a xs
  frl : ∀ a o xs, H a = some (.frz o xs) → H' a = some (.frz o xs)
  tpl : ∀ a xs, H a = some (.tup xs) → H' a = some (.tup xs)
theorem Stp.refl {K : PySem.W.Frag} {r : List Addr} {H : Hp} : Stp K r H r H := ⟨fun _ _ h => h, fun _ _ h => h, fun _ _ _ h => h, fun _ _ h => h⟩
theorem Stp.trans {K : PySem.W.Frag} {r r1 r2 : List Addr} {H H1 H2 : Hp} (a : Stp K r H r1 H1) (b : Stp K r1 H1 r2 H2) : Stp K r H r2 H2 :=
  ⟨fun n x h => b.pre n x (a.pre n x h), fun x xs h => b.tup x xs (a.tup x xs h), fun x o xs h => b.frl x o xs (a.frl x o xs h), fun x xs h => b.tpl x xs (a.tpl x xs h)⟩

/-- .. weaker: a dict may be unlocked -/
structure Stw (K : PySem.W.Frag) (r : List Addr) (H : Hp) (r' : List Addr) (H' : Hp) : Prop where
  pre : ∀ (n : Nat) (a : Addr), r[n]? = some a → r'[n]? = some a
  tup : ∀ a xs, SqT K H a xs → SqT K H' a xs
  frl : ∀ a o xs, H a = some (.frz o (.lst xs)) → H' a = some (.frz o (.lst xs))
theorem Stp.w {K : PySem.W.Frag} {r r' : List Addr} {H H' : Hp} (s : Stp K r H r' H') : Stw K r H r' H' := ⟨s.pre, s.tup, fun a o xs h => s.frl a o _ h⟩

section
variable {G : Cfg} {r r' : List Addr} {H H' : Hp}
mutual
theorem VR.monow (q : Stw G.K r H r' H') : ∀ (x : Val) (v : V), VR G r H x v → VR G r' H' x v
  | .non, _, .non => .non
  | .bl _, _, .bl b => .bl b
  | .int _, _, .int b => .int b
  | .str _, _, .str e => .str e
  | .tup xs, _, .tup e k => .tup (q.tup _ _ e) (VRs.monow q xs _ k)
  | .ref _, _, .ref e => .ref (q.pre _ _ e)
theorem VRs.monow (q : Stw G.K r H r' H') : ∀ (xs : List Val) (vs : List V), VRs G r H xs vs → VRs G r' H' xs vs
  | [], _, .nil => .nil
  | x :: xs, _, .cons a b => .cons (VR.monow q x _ a) (VRs.monow q xs _ b)
end
theorem SR.monow (q : Stw G.K r H r' H') {s t} (a : SR G r H s t) : SR G r' H' s t := by
  induction a with
  | nil => exact .nil
  | no _ ih => exact .no ih
  | so x _ ih => exact .so (x.monow q) ih
theorem FR.monow (q : Stw G.K r H r' H') {C s t} (a : FR G r H C s t) : FR G r' H' C s t := by
  induction a with
  | nil => exact .nil
  | cons a b c _ ih => exact .cons a b (c.monow q) ih
theorem DR.monow (q : Stw G.K r H r' H') {s t} (a : DR G r H s t) : DR G r' H' s t := by
  induction a with
  | nil => exact .nil
  | cons a c _ ih => exact .cons a (c.monow q) ih
theorem DTR.monow (q : Stw G.K r H r' H') {s t} (a : DTR G r H s t) : DTR G r' H' s t := by
  induction a with
  | nil => exact .nil
  | cons a c _ ih => exact .cons a (c.monow q) ih
theorem FL.sq {K : PySem.W.Frag} {a : Addr} {xs : List V} (f : FL K H a xs) : SqL K H a xs := f.elim (fun q => .inl (.inr q)) .inr
theorem FL.monow (q : Stw G.K r H r' H') {a : Addr} {xs : List V} (f : FL G.K H a xs) : FL G.K H' a xs := f.elim (fun ⟨o, e⟩ => .inl ⟨o, q.frl _ _ _ e⟩) .inr
/-- an object that stands where it stood -/
theorem OR.monow (q : Stw G.K r H r' H') {o a} (x : OR G r H o a) (h : isFls o = false → ∀ u, H a = some u → H' a = some u) : OR G r' H' o a := by
  cases x with
  | lst e k => exact .lst (h rfl _ e) (k.monow q)
  | fls e k => exact .fls (e.monow q) (k.monow q)
  | dct e k => exact .dct (h rfl _ e) (k.monow q)
  | dcT e k => exact .dcT (h rfl _ e) (k.monow q)
  | fdc e k => exact .fdc (h rfl _ e) (k.monow q)
  | fdT e k => exact .fdT (h rfl _ e) (k.monow q)
  | ins a b e k => exact .ins a b (h rfl _ e) (k.monow q)
theorem VR.mono (q : Stp G.K r H r' H') : ∀ (x : Val) (v : V), VR G r H x v → VR G r' H' x v := VR.monow q.w
theorem VRs.mono (q : Stp G.K r H r' H') : ∀ (xs : List Val) (vs : List V), VRs G r H xs vs → VRs G r' H' xs vs := VRs.monow q.w
theorem SR.mono (q : Stp G.K r H r' H') {s t} (a : SR G r H s t) : SR G r' H' s t := a.monow q.w
theorem FR.mono (q : Stp G.K r H r' H') {C s t} (a : FR G r H C s t) : FR G r' H' C s t := a.monow q.w
theorem DR.mono (q : Stp G.K r H r' H') {s t} (a : DR G r H s t) : DR G r' H' s t := a.monow q.w
theorem DTR.mono (q : Stp G.K r H r' H') {s t} (a : DTR G r H s t) : DTR G r' H' s t := a.monow q.w
theorem FL.mono (q : Stp G.K r H r' H') {a : Addr} {xs : List V} (f : FL G.K H a xs) : FL G.K H' a xs := f.monow q.w
theorem OR.mono (q : Stp G.K r H r' H') {o a} (x : OR G r H o a) (h : isFls o = false → ∀ u, H a = some u → H' a = some u) : OR G r' H' o a := x.monow q.w h
theorem OR.there {o a} (x : OR G r H o a) (f : isFls o = false) : ∃ u, H a = some u := by
  cases x with
  | lst e k => exact ⟨_, e⟩
  | fls e k => cases f
  | dct e k => exact ⟨_, e⟩
  | dcT e k => exact ⟨_, e⟩
  | fdc e k => exact ⟨_, e⟩
  | fdT e k => exact ⟨_, e⟩
  | ins a b e k => exact ⟨_, e⟩

theorem HR.at {h : Heap} (R : HR G r H h) {n : Nat} {o : Obj} (e : h[n]? = some o) : ∃ a, r[n]? = some a ∧ OR G r H o a := by
  have hl : n < r.length := by
    rw [R.len]
    exact (List.getElem?_eq_some_iff.mp e).1
  exact ⟨r[n], List.getElem?_eq_getElem hl, R.ob n o _ e (List.getElem?_eq_getElem hl)⟩

/-- tuples and what is frozen stay, where what is written is another thing -/
def NotT : HO → Prop
  | .tup _ => False
  | .frz _ _ => False
  | _ => True
theorem notT_ne {a b : Addr} {o : HO} (hn : ∀ o, H a = some o → NotT o) (h : H b = some o) (hf : ¬ NotT o) : b ≠ a := fun e => by
  subst e
  exact hf (hn _ h)
theorem sqt_upd {K : PySem.W.Frag} {a b : Addr} {u : HO} {xs : List V} (hn : ∀ o, H a = some o → NotT o) (h : SqT K H b xs) : SqT K (upd H a u) b xs := by
  rcases h with (h | ⟨o, h⟩) | h
  · exact .inl (.inl (by rw [upd_ne (notT_ne hn h (fun z => z))]; exact h))
  · exact .inl (.inr ⟨o, by rw [upd_ne (notT_ne hn h (fun z => z))]; exact h⟩)
  · exact .inr h
theorem Stp.upd {K : PySem.W.Frag} {a : Addr} {u : HO} (hn : ∀ o, H a = some o → NotT o) : Stp K r H r (upd H a u) := ⟨fun _ _ h => h, fun _ _ h => sqt_upd hn h, fun b o xs h => by rw [upd_ne (notT_ne hn h (fun z => z))]; exact h, fun b xs h => by rw [upd_ne (notT_ne hn h (fun z => z))]; exact h⟩
theorem notT_none {a : Addr} (hn : H a = none) : ∀ o, H a = some o → NotT o := fun o e => by rw [hn] at e; cases e
theorem Stp.new {K : PySem.W.Frag} {a p : Addr} {u : HO} (hn : H a = none) : Stp K r H (r ++ [p]) (L2.upd H a u) :=
  ⟨fun n a h => by rw [List.getElem?_append_left (List.getElem?_eq_some_iff.mp h).1]; exact h, fun _ _ h => sqt_upd (notT_none hn) h, fun b o xs h => by rw [upd_ne (notT_ne (notT_none hn) h (fun z => z))]; exact h, fun b xs h => by rw [upd_ne (notT_ne (notT_none hn) h (fun z => z))]; exact h⟩
theorem Stp.new0 {K : PySem.W.Frag} {a : Addr} {u : HO} (hn : H a = none) : Stp K r H r (L2.upd H a u) :=
  ⟨fun n a h => h, fun _ _ h => sqt_upd (notT_none hn) h, fun b o xs h => by rw [upd_ne (notT_ne (notT_none hn) h (fun z => z))]; exact h, fun b xs h => by rw [upd_ne (notT_ne (notT_none hn) h (fun z => z))]; exact h⟩

/-- a thing that is no object of ours is laid -/
theorem HR.lay {h : Heap} (R : HR G r H h) {p : Addr} {u : HO} (hp : H p = none) : HR G r (upd H p u) h :=
  ⟨R.len, R.nd, fun n o a e1 e2 => (R.ob n o a e1 e2).mono (Stp.new0 hp) fun _ v e => by rw [upd_ne (ne_of_none e hp)]; exact e⟩
theorem get_snoc {α : Type} {l : List α} {x y : α} {n : Nat} (e : (l ++ [x])[n]? = some y) : (n < l.length ∧ l[n]? = some y) ∨ (n = l.length ∧ x = y) := by
  by_cases h : n < l.length
  · rw [List.getElem?_append_left h] at e
    exact .inl ⟨h, e⟩
  · have := (List.getElem?_eq_some_iff.mp e).1
    have hn : n = l.length := by
      simp at this
      omega
    subst hn
    simp at e
    exact .inr ⟨rfl, e⟩
/-- a new object -/
theorem HR.push {h : Heap} (R : HR G r H h) {p : Addr} {u : HO} {o : Obj} (hp : H p = none) (ho : OR G (r ++ [p]) (upd H p u) o p) : HR G (r ++ [p]) (upd H p u) (h ++ [o]) := by
  have no : ∀ (i : Nat) (x : Obj), h[i]? = some x → r[i]? = some p → isFls x = false → False := fun i x e1 e2 f => by
    obtain ⟨v, hv⟩ := (R.ob i x p e1 e2).there f
    rw [hp] at hv
    cases hv
  refine ⟨by simp [R.len], fun i j a x y e1 e2 e3 e4 f1 f2 => ?_, fun n o' a e1 e2 => ?_⟩
  · rcases get_snoc e1 with ⟨l1, e1⟩ | ⟨l1, e1⟩ <;> rcases get_snoc e2 with ⟨l2, e2⟩ | ⟨l2, e2⟩ <;> rcases get_snoc e3 with ⟨l3, e3⟩ | ⟨l3, e3⟩ <;> rcases get_snoc e4 with ⟨l4, e4⟩ | ⟨l4, e4⟩
    all_goals (have hl := R.len)
    all_goals first
      | omega
      | exact R.nd i j a x y e1 e2 e3 e4 f1 f2
      | (subst e4; exact (no i x e1 e3 f1).elim)
      | (subst e3; exact (no j y e2 e4 f2).elim)
  · have e1' := e1
    clear e1
    rcases get_snoc e1' with ⟨l1, e1⟩ | ⟨l1, e1⟩
    · rcases get_snoc e2 with ⟨l2, e2⟩ | ⟨l2, e2⟩
      · exact (R.ob n o' a e1 e2).mono (Stp.new hp) fun _ v e => by rw [upd_ne (ne_of_none e hp)]; exact e
      · have := R.len
        omega
    · clear e1'
      subst l1
      subst e1
      rw [← R.len] at e2
      simp at e2
      subst e2
      exact ho
/-- an object is written -/
theorem HR.write {h : Heap} (R : HR G r H h) {n : Nat} {a : Addr} {u : HO} {o o0 : Obj} (e0 : h[n]? = some o0) (f0 : isFls o0 = false) (e : r[n]? = some a) (hn : ∀ o, H a = some o → NotT o) (ho : OR G r (upd H a u) o a) (f : isFls o = false) : HR G r (upd H a u) (h.set n o) := by
  have hl : n < h.length := (List.getElem?_eq_some_iff.mp e0).1
  have at_ : ∀ (i : Nat) (x : Obj), (h.set n o)[i]? = some x → isFls x = false → ∃ y, h[i]? = some y ∧ isFls y = false := fun i x e1 f1 => by
    by_cases hm : i = n
    · subst hm
      exact ⟨o0, e0, f0⟩
    · rw [List.getElem?_set_ne (Ne.symm hm)] at e1
      exact ⟨x, e1, f1⟩
  refine ⟨by simp [R.len], fun i j b x y e1 e2 e3 e4 f1 f2 => ?_, fun m o' b e1 e2 => ?_⟩
  · obtain ⟨x', e1', f1'⟩ := at_ i x e1 f1
    obtain ⟨y', e2', f2'⟩ := at_ j y e2 f2
    exact R.nd i j b x' y' e1' e2' e3 e4 f1' f2'
  · by_cases hm : m = n
    · subst hm
      rw [e] at e2
      cases e2
      rw [List.getElem?_set_self hl] at e1
      cases e1
      exact ho
    · rw [List.getElem?_set_ne (Ne.symm hm)] at e1
      refine (R.ob m o' b e1 e2).mono (Stp.upd hn) fun f' v q => ?_
      have hb : b ≠ a := fun q => by
        subst q
        exact hm (R.nd m n b o' o0 e1 e0 e2 e f' f0)
      rw [upd_ne hb]
      exact q
end
end PyM

set_option Elab.async false
set_option linter.all false
set_option maxRecDepth 100000
set_option autoImplicit false
namespace PyM
open PySem L2

/-! ### results -/
def Res.bind {α β : Type} (x : Res α) (k : α → Heap → Res β) : Res β := match x with
  | .ok a h => k a h
  | .raised c h => .raised c h
  | .stuck => .stuck
/-- what is wanted of a result, over all ways in which the heap may lie -/
def PostR {α β : Type} (G : Cfg) (R : List Addr → Hp → α → β → Prop) (r : List Addr) (H : Hp) (E : XK) (x : Res α) (Q : β → Hp → Prop) : Prop := match x with
  | .ok a h' => ∀ r' H' b, Stp G.K r H r' H' → HR G r' H' h' → R r' H' a b → Q b H'
  | .raised c h' => ∀ r' H' C, Stp G.K r H r' H' → HR G r' H' h' → G.cls[c]? = some C → E (.ref C) none H'
  | .stuck => False
def PostS (G : Cfg) (r : List Addr) (H : Hp) (E : XK) (x : RS) (D : Ends) : Prop := match x with
  | .nx s h' => ∀ r' H' t, Stp G.K r H r' H' → HR G r' H' h' → SR G r' H' s t → D.nx t H'
  | .bk s h' => ∀ r' H' t, Stp G.K r H r' H' → HR G r' H' h' → SR G r' H' s t → D.bk t H'
  | .ct s h' => ∀ r' H' t, Stp G.K r H r' H' → HR G r' H' h' → SR G r' H' s t → D.ct t H'
  | .rt x h' => ∀ r' H' v, Stp G.K r H r' H' → HR G r' H' h' → VR G r' H' x v → D.rt v H'
  | .raised c h' => ∀ r' H' C, Stp G.K r H r' H' → HR G r' H' h' → G.cls[c]? = some C → E (.ref C) none H'
  | .stuck => False
abbrev BR : List Addr → Hp → Bool → Bool → Prop := fun _ _ a b => a = b
section
variable {G : Cfg} {E : XK} {α β γ δ : Type}
theorem PostR.shift {R : List Addr → Hp → α → β → Prop} {r r1 : List Addr} {H H1 : Hp} {x : Res α} {Q : β → Hp → Prop} (s : Stp G.K r H r1 H1) (p : PostR G R r H E x Q) : PostR G R r1 H1 E x Q := by
  cases x with
  | ok a h => exact fun r' H' b s' => p r' H' b (s.trans s')
  | raised c h => exact fun r' H' C s' => p r' H' C (s.trans s')
  | stuck => exact p
theorem PostS.shift {r r1 : List Addr} {H H1 : Hp} {x : RS} {D : Ends} (s : Stp G.K r H r1 H1) (p : PostS G r H E x D) : PostS G r1 H1 E x D := by
  cases x with
  | nx a h => exact fun r' H' b s' => p r' H' b (s.trans s')
  | bk a h => exact fun r' H' b s' => p r' H' b (s.trans s')
  | ct a h => exact fun r' H' b s' => p r' H' b (s.trans s')
  | rt a h => exact fun r' H' b s' => p r' H' b (s.trans s')
  | raised c h => exact fun r' H' C s' => p r' H' C (s.trans s')
  | stuck => exact p
theorem PostR.seq {R1 : List Addr → Hp → α → β → Prop} {R2 : List Addr → Hp → γ → δ → Prop} {r : List Addr} {H : Hp} {x : Res α} {k : α → Heap → Res γ} {Q : δ → Hp → Prop} {Q' : β → Hp → Prop}
    (p : PostR G R2 r H E (x.bind k) Q) (f : ∀ a h1 r1 H1 b, Stp G.K r H r1 H1 → HR G r1 H1 h1 → R1 r1 H1 a b → PostR G R2 r1 H1 E (k a h1) Q → Q' b H1) : PostR G R1 r H E x Q' := by
  cases x with
  | ok a h => exact fun r' H' b s' hR vR => f a h r' H' b s' hR vR (p.shift s')
  | raised c h => exact p
  | stuck => exact p
theorem PostR.here {R : List Addr → Hp → α → β → Prop} {r : List Addr} {H : Hp} {a : α} {b : β} {h : Heap} {Q : β → Hp → Prop} (p : PostR G R r H E (.ok a h) Q) (hR : HR G r H h) (v : R r H a b) : Q b H := p r H b Stp.refl hR v
end

/-! ### the judgements -/
section
variable (G : Cfg) (E : XK)
structure Rf (t : TE) (m : En → Heap → Res Val) : Prop where
  run : ∀ r H h s σ Q, HR G r H h → SR G r H s σ → PostR G (VR G) r H E (m s h) Q → t σ H Q
structure RfT (t : TT) (m : En → Heap → Res Bool) : Prop where
  run : ∀ r H h s σ Q, HR G r H h → SR G r H s σ → PostR G BR r H E (m s h) Q → t σ H Q
structure RfA (t : TA) (m : En → Heap → Res (List Val)) : Prop where
  run : ∀ r H h s σ Q, HR G r H h → SR G r H s σ → PostR G (VRs G) r H E (m s h) Q → t σ H Q
structure RfS (t : TS) (m : En → Heap → RS) : Prop where
  run : ∀ r H h s σ D, HR G r H h → SR G r H s σ → PostS G r H E (m s h) D → t D σ H
/-- operations by values -/
structure Rf2 (t : R2) (m : Val → Val → Heap → Res Val) : Prop where
  run : ∀ r H h x y v u Q, HR G r H h → VR G r H x v → VR G r H y u → PostR G (VR G) r H E (m x y h) Q → t v u H Q
structure Rf1 (t : V → Hp → VK → Prop) (m : Val → Heap → Res Val) : Prop where
  run : ∀ r H h x v Q, HR G r H h → VR G r H x v → PostR G (VR G) r H E (m x h) Q → t v H Q
structure RfL (t : List V → Hp → VK → Prop) (m : List Val → Heap → Res Val) : Prop where
  run : ∀ r H h xs vs Q, HR G r H h → VRs G r H xs vs → PostR G (VR G) r H E (m xs h) Q → t vs H Q
structure RfM (t : V → List V → Hp → VK → Prop) (m : Val → List Val → Heap → Res Val) : Prop where
  run : ∀ r H h x v xs vs Q, HR G r H h → VR G r H x v → VRs G r H xs vs → PostR G (VR G) r H E (m x xs h) Q → t v vs H Q
variable (X : Cx)
structure ME (e : Expr) (t : TE) (m : En → Heap → Res Val) : Prop where
  pe : PE X e t
  rf : Rf G E t m
structure MT (e : Expr) (t : TT) (m : En → Heap → Res Bool) : Prop where
  pe : PT X e t
  rf : RfT G E t m
structure MW (e : Expr) (t : TT) (m : En → Heap → Res Bool) : Prop where
  pe : PW X e t
  rf : RfT G E t m
structure MA (e : List Expr) (t : TA) (m : En → Heap → Res (List Val)) : Prop where
  pe : PA X e t
  rf : RfA G E t m
structure MC (op : CmpOp) (a b : Expr) (t : TE) (m : En → Heap → Res Val) : Prop where
  pe : PC X op a b t
  rf : Rf G E t m
structure MS (st : Stmt) (t : TS) (m : En → Heap → RS) : Prop where
  pe : PS X st t
  rf : RfS G E t m
structure MSs (st : List Stmt) (t : TS) (m : En → Heap → RS) : Prop where
  pe : PSs X st t
  rf : RfS G E t m
/-- what is known of the context -/
structure XC (k : Nat) : Prop where
  K : X.K = G.K
  calm : X.calm = true
  nd : X.N.Nodup
  room : Room k X.A
  pass : Passes (L2.CX X.prog X.w) X E
  own : PassesOwn (model X.prog X.w) X.A X.env X.xe
end
/-- .. of the strings' table -/
structure Cfg.Ok (G : Cfg) : Prop where
  nn : G.nms.Nodup
  nd : G.sts.Nodup
  ok : ∀ x ∈ G.sts, PySem.PyData.strOk x = true

theorem VRs.len {G : Cfg} {r : List Addr} {H : Hp} : ∀ (xs : List Val) (vs : List V), VRs G r H xs vs → xs.length = vs.length
  | [], _, .nil => rfl
  | _ :: xs, _, .cons _ b => congrArg (· + 1) (VRs.len xs _ b)
theorem VRs.get {G : Cfg} {r : List Addr} {H : Hp} : ∀ {xs : List Val} {vs : List V}, VRs G r H xs vs → ∀ {i : Nat} {x : Val}, xs[i]? = some x → ∃ v, vs[i]? = some v ∧ VR G r H x v
  | _, _, .nil, i, x, e => by simp at e
  | _, _, .cons a b, 0, x, e => by
    simp at e
    subst e
    exact ⟨_, rfl, a⟩
  | _, _, .cons a b, i + 1, x, e => by
    obtain ⟨v, h1, h2⟩ := VRs.get b (i := i) (x := x) (by simpa using e)
    exact ⟨v, by simpa using h1, h2⟩
theorem VRs.app {G : Cfg} {r : List Addr} {H : Hp} : ∀ {xs ys : List Val} {vs us : List V}, VRs G r H xs vs → VRs G r H ys us → VRs G r H (xs ++ ys) (vs ++ us)
  | _, _, _, _, .nil, q => q
  | _, _, _, _, .cons a b, q => .cons a (VRs.app b q)
theorem VRs.drop {G : Cfg} {r : List Addr} {H : Hp} : ∀ (n : Nat) {xs : List Val} {vs : List V}, VRs G r H xs vs → VRs G r H (xs.drop n) (vs.drop n)
  | 0, _, _, q => q
  | _ + 1, _, _, .nil => .nil
  | n + 1, _, _, .cons _ b => VRs.drop n b
theorem VRs.take {G : Cfg} {r : List Addr} {H : Hp} : ∀ (n : Nat) {xs : List Val} {vs : List V}, VRs G r H xs vs → VRs G r H (xs.take n) (vs.take n)
  | 0, _, _, q => .nil
  | _ + 1, _, _, .nil => .nil
  | n + 1, _, _, .cons a b => .cons a (VRs.take n b)
theorem VRs.set {G : Cfg} {r : List Addr} {H : Hp} {x : Val} {v : V} (q : VR G r H x v) : ∀ (n : Nat) {xs : List Val} {vs : List V}, VRs G r H xs vs → VRs G r H (xs.set n x) (vs.set n v)
  | _, _, _, .nil => .nil
  | 0, _, _, .cons a b => .cons q b
  | n + 1, _, _, .cons a b => .cons a (VRs.set q n b)
theorem VRs.eraseIdx {G : Cfg} {r : List Addr} {H : Hp} : ∀ (n : Nat) {xs : List Val} {vs : List V}, VRs G r H xs vs → VRs G r H (xs.eraseIdx n) (vs.eraseIdx n)
  | _, _, _, .nil => .nil
  | 0, _, _, .cons a b => b
  | n + 1, _, _, .cons a b => .cons a (VRs.eraseIdx n b)
theorem VRs.dropLast {G : Cfg} {r : List Addr} {H : Hp} : ∀ {xs : List Val} {vs : List V}, VRs G r H xs vs → VRs G r H xs.dropLast vs.dropLast
  | _, _, .nil => .nil
  | _, _, .cons a .nil => .nil
  | _, _, .cons a (.cons b c) => .cons a (VRs.dropLast (.cons b c))
theorem SR.get {G : Cfg} {r : List Addr} {H : Hp} {s : En} {t : St} (q : SR G r H s t) : ∀ {i : Nat} {x : Val}, s[i]? = some (some x) → ∃ v, t[i]? = some (some v) ∧ VR G r H x v := by
  induction q with
  | nil =>
    intro i x e
    simp at e
  | no q ih =>
    intro i x e
    cases i with
    | zero => simp at e
    | succ i => simpa using ih (i := i) (x := x) (by simpa using e)
  | so a q ih =>
    intro i x e
    cases i with
    | zero =>
      simp at e
      subst e
      exact ⟨_, rfl, a⟩
    | succ i => simpa using ih (i := i) (x := x) (by simpa using e)
theorem SR.set {G : Cfg} {r : List Addr} {H : Hp} {s : En} {t : St} (q : SR G r H s t) {x : Val} {v : V} (a : VR G r H x v) : ∀ (i : Nat), SR G r H (s.set i (some x)) (t.set i (some v)) := by
  induction q with
  | nil => exact fun _ => .nil
  | no q ih => exact fun i => match i with
    | 0 => .so a q
    | i + 1 => .no (ih i)
  | so b q ih => exact fun i => match i with
    | 0 => .so a q
    | i + 1 => .so b (ih i)

/-- the most items of a list, a tuple, a dict -/
def lim : Nat := 1000000
theorem lim_le : lim ≤ sizeLine := by rw [sizeLine_eq]; decide
theorem lt_line {n : Nat} (h : n < lim) : n < sizeLine := Nat.lt_of_lt_of_le h lim_le
theorem le_line {n : Nat} (h : n ≤ lim) : n ≤ sizeLine := Nat.le_trans h lim_le

/-! ### the model's words -/
def mV (i : Nat) (s : En) (h : Heap) : Res Val := match s[i]? with
  | some (some x) => .ok x h
  | _ => .stuck
def mK (x : Val) (_ : En) (h : Heap) : Res Val := .ok x h
def mB (f : Val → Val → Heap → Res Val) (ma mb : En → Heap → Res Val) (s : En) (h : Heap) : Res Val := (ma s h).bind fun x h1 => (mb s h1).bind fun y h2 => f x y h2
def mU (f : Val → Heap → Res Val) (ma : En → Heap → Res Val) (s : En) (h : Heap) : Res Val := (ma s h).bind fun x h1 => f x h1
def mL (f : List Val → Heap → Res Val) (ma : En → Heap → Res (List Val)) (s : En) (h : Heap) : Res Val := (ma s h).bind fun x h1 => f x h1
def mM (f : Val → List Val → Heap → Res Val) (mo : En → Heap → Res Val) (ma : En → Heap → Res (List Val)) (s : En) (h : Heap) : Res Val := (mo s h).bind fun x h1 => (ma s h1).bind fun xs h2 => f x xs h2
def mNil (_ : En) (h : Heap) : Res (List Val) := .ok [] h
def mCons (ma : En → Heap → Res Val) (mr : En → Heap → Res (List Val)) (s : En) (h : Heap) : Res (List Val) := (ma s h).bind fun x h1 => (mr s h1).bind fun xs h2 => .ok (x :: xs) h2

section
variable {G : Cfg} {E : XK} {X : Cx} {k : Nat} {a b c e : Expr} {ta tb tc : TE} {ma mb mc : En → Heap → Res Val} {pos : Pos}

/-! ### names and constants -/
theorem me_var (i : Nat) {x : Str} (hN : X.N[i]? = some x := by rfl) (hv : Vis X.env.scope x := by first | exact Or.inl rfl | exact Or.inr (Or.inl rfl) | exact Or.inr (Or.inr rfl)) (hd : (x == ("__debug__" : Str)) = false := by decide) (hcd : (x == ("__classdict__" : Str)) = false := by decide) :
    ME G E X (.Name x pos) (tVar i) (mV i) := by
  refine ⟨pe_var hN hv hd hcd, ⟨fun r H h s σ Q hR sR p => ?_⟩⟩
  unfold mV at p
  split at p
  · rename_i x e
    obtain ⟨v, e', q⟩ := sR.get e
    exact ⟨v, e', p.here hR q⟩
  · exact p.elim
theorem me_int {i : Int} {j} : ME G E X (.Constant (.int i) j pos) (tC (.int i)) (mK (.int i)) := ⟨pe_int, ⟨fun _ _ _ _ _ _ hR _ p => p.here hR (.int i)⟩⟩
theorem me_bl {i : Bool} {j} : ME G E X (.Constant (.bool i) j pos) (tC (.bl i)) (mK (.bl i)) := ⟨pe_bl, ⟨fun _ _ _ _ _ _ hR _ p => p.here hR (.bl i)⟩⟩
theorem me_non {j} : ME G E X (.Constant .none j pos) (tC .non) (mK .non) := ⟨pe_non, ⟨fun _ _ _ _ _ _ hR _ p => p.here hR .non⟩⟩
theorem me_str (n : Nat) {x : Str} {j} (hx : G.sts[n]? = some x) : ME G E X (.Constant (.str x) j pos) (tC (.str x)) (mK (.str n)) := ⟨pe_str, ⟨fun _ _ _ _ _ _ hR _ p => p.here hR (.str hx)⟩⟩
theorem me_glob (i : Int) {x : Str} {t : Tok} (hm : X.mg x = some (.int i t)) (hg : Gl X x := by rfl) (hd : (x == ("__debug__" : Str)) = false := by decide) : ME G E X (.Name x pos) (tC (.int i)) (mK (.int i)) :=
  ⟨pe_glob hg hm ⟨_, rfl⟩ hd, ⟨fun _ _ _ _ _ _ hR _ p => p.here hR (.int i)⟩⟩
theorem me_globS (n : Nat) {x z : Str} {t : Tok} (hm : X.mg x = some (.str z t)) (hx : G.sts[n]? = some z) (hg : Gl X x := by rfl) (hd : (x == ("__debug__" : Str)) = false := by decide) : ME G E X (.Name x pos) (tC (.str z)) (mK (.str n)) :=
  ⟨pe_glob hg hm ⟨_, rfl⟩ hd, ⟨fun _ _ _ _ _ _ hR _ p => p.here hR (.str hx)⟩⟩

/-! ### composition -/
theorem Rf.b2 {r2 : R2} {f : Val → Val → Heap → Res Val} (h1 : Rf G E ta ma) (h2 : Rf G E tb mb) (hf : Rf2 G E r2 f) : Rf G E (tOp r2 ta tb) (mB f ma mb) := by
  refine ⟨fun r H h s σ Q hR sR p => ?_⟩
  refine h1.run r H h s σ _ hR sR (p.seq fun x h1' r1 H1 v s1 hR1 v1 p1 => ?_)
  refine h2.run r1 H1 h1' s σ _ hR1 (sR.mono s1) (p1.seq fun y h2' r2 H2 u s2 hR2 v2 p2 => ?_)
  exact hf.run r2 H2 h2' x y v u Q hR2 (v1.mono s2) v2 p2
theorem Rf.u1 {t : V → Hp → VK → Prop} {f : Val → Heap → Res Val} (h1 : Rf G E ta ma) (hf : Rf1 G E t f) : Rf G E (tUn t ta) (mU f ma) := by
  refine ⟨fun r H h s σ Q hR sR p => ?_⟩
  exact h1.run r H h s σ _ hR sR (p.seq fun x h1' r1 H1 v s1 hR1 v1 p1 => hf.run r1 H1 h1' x v Q hR1 v1 p1)
theorem Rf2.orL {t t' : R2} {f : Val → Val → Heap → Res Val} (h : Rf2 G E t f) : Rf2 G E (fun x y H Q => t x y H Q ∨ t' x y H Q) f := ⟨fun r H h' x y v u Q a b c p => .inl (h.run r H h' x y v u Q a b c p)⟩
theorem ma_nil : MA G E X [] tNil mNil := ⟨pa_nil, ⟨fun _ _ _ _ _ _ hR _ p => p.here hR .nil⟩⟩
theorem ma_cons {es : List Expr} {tr : TA} {mr : En → Heap → Res (List Val)} (ha : ME G E X e ta ma) (hr : MA G E X es tr mr) (hs : starEach (e :: es) X.env = (false, eval e X.env) :: starEach es X.env := by rfl) : MA G E X (e :: es) (tCons ta tr) (mCons ma mr) := by
  refine ⟨pa_cons ha.pe hr.pe hs, ⟨fun r H h s σ Q hR sR p => ?_⟩⟩
  refine ha.rf.run r H h s σ _ hR sR (p.seq fun x h1' r1 H1 v s1 hR1 v1 p1 => ?_)
  refine hr.rf.run r1 H1 h1' s σ _ hR1 (sR.mono s1) (p1.seq fun xs h2' r2 H2 vs s2 hR2 v2 p2 => ?_)
  exact p2.here hR2 (.cons (v1.mono s2) v2)
theorem RfA.l {t : List V → Hp → VK → Prop} {f : List Val → Heap → Res Val} {tA : TA} {mA : En → Heap → Res (List Val)} (h1 : RfA G E tA mA) (hf : RfL G E t f) : Rf G E (fun σ H Q => tA σ H fun vs H1 => t vs H1 Q) (mL f mA) := by
  refine ⟨fun r H h s σ Q hR sR p => ?_⟩
  exact h1.run r H h s σ _ hR sR (p.seq fun x h1' r1 H1 v s1 hR1 v1 p1 => hf.run r1 H1 h1' x v Q hR1 v1 p1)
end
end PyM

set_option Elab.async false
set_option linter.all false
set_option maxRecDepth 100000
set_option autoImplicit false
namespace PyM
open PySem L2

/-! ### data, for == -/
inductive D where
  | non | bl (b : Bool) | int (i : Int) | str (n : Nat) | tup (xs : List D) | lst (xs : List D)
mutual
def deq : D → D → Bool
  | .non, .non => true
  | .bl a, .bl b => a == b
  | .bl a, .int j => (if a then 1 else 0) == j
  | .int i, .bl b => i == (if b then 1 else 0)
  | .int i, .int j => i == j
  | .str x, .str y => x == y
  | .tup xs, .tup ys => deqs xs ys
  | .lst xs, .lst ys => deqs xs ys
  | _, _ => false
def deqs : List D → List D → Bool
  | [], [] => true
  | x :: xs, y :: ys => deq x y && deqs xs ys
  | _, _ => false
end
def optAll {α β : Type} (f : α → Option β) : List α → Option (List β)
  | [] => some []
  | x :: xs => match f x, optAll f xs with
    | some d, some ds => some (d :: ds)
    | _, _ => none
def conv : Nat → Heap → Val → Option D
  | 0, _, _ => none
  | n + 1, h, v => match v with
    | .non => some .non
    | .bl b => some (.bl b)
    | .int i => some (.int i)
    | .str x => some (.str x)
    | .tup xs => (optAll (conv n h) xs).map .tup
    | .ref a => match h[a]? with
      | some (.lst xs) => (optAll (conv n h) xs).map .lst
      | some (.fls xs) => (optAll (conv n h) xs).map .lst
      | _ => none
mutual
def D.py (G : Cfg) : D → PyData
  | .non => .none
  | .bl b => .bool b
  | .int i => .int i
  | .str n => .str (G.sts.getD n ⟨#[]⟩)
  | .tup xs => .tuple (D.pys G xs)
  | .lst xs => .list (D.pys G xs)
def D.pys (G : Cfg) : List D → List PyData
  | [] => []
  | x :: xs => D.py G x :: D.pys G xs
end
mutual
def D.wf (m n : Nat) : D → Bool
  | .str i => decide (i < m)
  | .tup xs => match n with
    | 0 => false
    | n + 1 => D.wfs m n xs
  | .lst xs => match n with
    | 0 => false
    | n + 1 => D.wfs m n xs
  | _ => true
def D.wfs (m n : Nat) : List D → Bool
  | [] => true
  | x :: xs => D.wf m n x && D.wfs m n xs
end
section
variable {G : Cfg}
theorem getD_at {α : Type} {l : List α} {i : Nat} {d : α} (h : i < l.length) : l.getD i d = l[i] := by simp [List.getD, h]
theorem getD_inj (ok : G.Ok) {i j : Nat} (hi : i < G.sts.length) (hj : j < G.sts.length) : (G.sts.getD i ⟨#[]⟩ == G.sts.getD j ⟨#[]⟩) = (i == j) := by
  rw [getD_at hi, getD_at hj]
  by_cases e : i = j
  · subst e
    simp
  · have : G.sts[i] ≠ G.sts[j] := fun q => e ((List.getElem_inj ok.nd).mp q)
    rw [beq_eq_false_iff_ne.mpr this, beq_eq_false_iff_ne.mpr e]
mutual
theorem eqv_py (ok : G.Ok) : ∀ (d e : D) (n m : Nat), d.wf G.sts.length n = true → e.wf G.sts.length m = true → PyData.eqv (d.py G) (e.py G) = deq d e
  | .non, e, n, m, h1, h2 => by cases e <;> simp [D.py, PyData.eqv, deq]
  | .bl a, e, n, m, h1, h2 => by cases e <;> simp [D.py, PyData.eqv, deq]
  | .int a, e, n, m, h1, h2 => by cases e <;> simp [D.py, PyData.eqv, deq]
  | .str a, e, n, m, h1, h2 => by
    cases e with
    | str b =>
      simp only [D.wf, decide_eq_true_eq] at h1 h2
      simp only [D.py, PyData.eqv, deq]
      exact getD_inj ok h1 h2
    | _ => simp [D.py, PyData.eqv, deq]
  | .tup xs, e, n, m, h1, h2 => by
    cases e with
    | tup ys =>
      cases n with
      | zero => simp [D.wf] at h1
      | succ n =>
        cases m with
        | zero => simp [D.wf] at h2
        | succ m =>
          simp only [D.py, PyData.eqv, deq]
          exact eqv_pys ok xs ys n m (by simpa [D.wf] using h1) (by simpa [D.wf] using h2)
    | _ => simp [D.py, PyData.eqv, deq]
  | .lst xs, e, n, m, h1, h2 => by
    cases e with
    | lst ys =>
      cases n with
      | zero => simp [D.wf] at h1
      | succ n =>
        cases m with
        | zero => simp [D.wf] at h2
        | succ m =>
          simp only [D.py, PyData.eqv, deq]
          exact eqv_pys ok xs ys n m (by simpa [D.wf] using h1) (by simpa [D.wf] using h2)
    | _ => simp [D.py, PyData.eqv, deq]
theorem eqv_pys (ok : G.Ok) : ∀ (d e : List D) (n m : Nat), D.wfs G.sts.length n d = true → D.wfs G.sts.length m e = true → PyData.eqvAll (D.pys G d) (D.pys G e) = deqs d e
  | [], [], _, _, _, _ => by simp [D.pys, PyData.eqvAll, deqs]
  | [], _ :: _, _, _, _, _ => by simp [D.pys, PyData.eqvAll, deqs]
  | _ :: _, [], _, _, _, _ => by simp [D.pys, PyData.eqvAll, deqs]
  | x :: xs, y :: ys, n, m, h1, h2 => by
    simp only [D.wfs, Bool.and_eq_true] at h1 h2
    simp only [D.pys, PyData.eqvAll, deqs]
    rw [eqv_py ok x y n m h1.1 h2.1, eqv_pys ok xs ys n m h1.2 h2.2]
end
mutual
theorem lay_py (ok : G.Ok) : ∀ (d : D) (n : Nat), d.wf G.sts.length n = true → (d.py G).canLay0 = true ∧ (d.py G).depth ≤ n
  | .non, n, _ => by simp [D.py, PyData.canLay0, PyData.depth]
  | .bl _, n, _ => by simp [D.py, PyData.canLay0, PyData.depth]
  | .int _, n, _ => by simp [D.py, PyData.canLay0, PyData.depth]
  | .str i, n, h => by
    simp only [D.wf, decide_eq_true_eq] at h
    simp only [D.py, PyData.canLay0, PyData.depth]
    refine ⟨?_, Nat.zero_le _⟩
    rw [getD_at h]
    exact ok.ok _ (List.getElem_mem _)
  | .tup xs, 0, h => by simp [D.wf] at h
  | .lst xs, 0, h => by simp [D.wf] at h
  | .tup xs, n + 1, h => by
    have := lay_pys ok xs n (by simpa [D.wf] using h)
    simp only [D.py, PyData.canLay0, PyData.depth]
    exact ⟨this.1, by omega⟩
  | .lst xs, n + 1, h => by
    have := lay_pys ok xs n (by simpa [D.wf] using h)
    simp only [D.py, PyData.canLay0, PyData.depth]
    exact ⟨this.1, by omega⟩
theorem lay_pys (ok : G.Ok) : ∀ (d : List D) (n : Nat), D.wfs G.sts.length n d = true → PyData.canLayAll0 (D.pys G d) = true ∧ PyData.depthAll (D.pys G d) ≤ n
  | [], n, _ => by simp [D.pys, PyData.canLayAll0, PyData.depthAll]
  | x :: xs, n, h => by
    simp only [D.wfs, Bool.and_eq_true] at h
    have h1 := lay_py ok x n h.1
    have h2 := lay_pys ok xs n h.2
    simp only [D.pys, PyData.canLayAll0, PyData.depthAll, Bool.and_eq_true]
    exact ⟨⟨h1.1, h2.1⟩, by omega⟩
end
theorem shaped_py (ok : G.Ok) {d : D} {n : Nat} (h : d.wf G.sts.length n = true) (hn : n ≤ 64) : SeqAt.shaped (d.py G) = true := by
  have := lay_py ok d n h
  simp only [SeqAt.shaped, Bool.and_eq_true, decide_eq_true_eq]
  exact ⟨this.1, by omega⟩
variable {r : List Addr} {H : Hp} {h : Heap}
theorem optAll_dp {n : Nat} (ih : ∀ x v d, VR G r H x v → conv n h x = some d → Dp G.K H v (d.py G) ∧ d.wf G.sts.length n = true) :
    ∀ (xs : List Val) (vs : List V) (ds : List D), VRs G r H xs vs → optAll (conv n h) xs = some ds → DpAll G.K H vs (D.pys G ds) ∧ D.wfs G.sts.length n ds = true
  | [], _, ds, .nil, e => by
    simp only [optAll, Option.some.injEq] at e
    subst e
    exact ⟨.nil, rfl⟩
  | x :: xs, _, ds, .cons a b, e => by
    simp only [optAll] at e
    split at e
    · rename_i d ds' e1 e2
      cases e
      obtain ⟨h1, h2⟩ := ih _ _ _ a e1
      obtain ⟨h3, h4⟩ := optAll_dp ih xs _ _ b e2
      refine ⟨by rw [D.pys]; exact .cons h1 h3, by simp [D.wfs, h2, h4]⟩
    · cases e
theorem conv_dp (R : HR G r H h) : ∀ (n : Nat) (x : Val) (v : V) (d : D), VR G r H x v → conv n h x = some d → Dp G.K H v (d.py G) ∧ d.wf G.sts.length n = true
  | 0, x, v, d, _, e => by simp [conv] at e
  | n + 1, x, v, d, q, e => by
    have ih := fun x v d => conv_dp R n x v d
    cases q with
    | non => simp only [conv, Option.some.injEq] at e; subst e; exact ⟨by rw [D.py]; exact .non, by simp [D.wf]⟩
    | bl b => simp only [conv, Option.some.injEq] at e; subst e; exact ⟨by rw [D.py]; exact .bl _, by simp [D.wf]⟩
    | int i => simp only [conv, Option.some.injEq] at e; subst e; exact ⟨by rw [D.py]; exact .int _, by simp [D.wf]⟩
    | @str n' z hz =>
      simp only [conv, Option.some.injEq] at e
      subst e
      have hl := (List.getElem?_eq_some_iff.mp hz)
      refine ⟨?_, by simp [D.wf, hl.1]⟩
      rw [D.py, getD_at hl.1, hl.2]
      exact .str _
    | tup hs hv =>
      simp only [conv] at e
      obtain ⟨ds, e1, rfl⟩ := Option.map_eq_some_iff.mp e
      obtain ⟨h1, h2⟩ := optAll_dp ih _ _ _ hv e1
      exact ⟨by rw [D.py]; exact .tup hs h1, by simpa [D.wf] using h2⟩
    | @ref m a ha =>
      simp only [conv] at e
      split at e
      · rename_i xs eo
        obtain ⟨ds, e1, rfl⟩ := Option.map_eq_some_iff.mp e
        cases R.ob _ _ _ eo ha with
        | lst hl hv =>
          obtain ⟨h1, h2⟩ := optAll_dp ih _ _ _ hv e1
          exact ⟨by rw [D.py]; exact .lst (SqL.of hl) h1, by simpa [D.wf] using h2⟩
      · rename_i xs eo
        obtain ⟨ds, e1, rfl⟩ := Option.map_eq_some_iff.mp e
        cases R.ob _ _ _ eo ha with
        | fls hl hv =>
          obtain ⟨h1, h2⟩ := optAll_dp ih _ _ _ hv e1
          exact ⟨by rw [D.py]; exact .lst hl.sq h1, by simpa [D.wf] using h2⟩
      · cases e
end

/-! ### operators by values -/
def oI (g : Int → Int → Val) (x y : Val) (h : Heap) : Res Val := match x, y with
  | .int i, .int j => .ok (g i j) h
  | _, _ => .stuck
def oIC (c : Int → Int → Bool) (g : Int → Int → Val) (x y : Val) (h : Heap) : Res Val := match x, y with
  | .int i, .int j => if c i j = true then .ok (g i j) h else .stuck
  | _, _ => .stuck
def oNeg (x : Val) (h : Heap) : Res Val := match x with
  | .int i => .ok (.int (-i)) h
  | _ => .stuck
def oAdd (x y : Val) (h : Heap) : Res Val := match x, y with
  | .int i, .int j => .ok (.int (i + j)) h
  | .tup xs, .tup ys => if xs.length + ys.length ≤ lim then .ok (.tup (xs ++ ys)) h else .stuck
  | .ref a, .ref b => match h[a]?, h[b]? with
    | some (.lst xs), some (.lst ys) => if xs.length + ys.length ≤ lim then .ok (.ref h.length) (h ++ [.lst (xs ++ ys)]) else .stuck
    | _, _ => .stuck
  | _, _ => .stuck
def repV {α : Type} (n : Nat) (xs : List α) : List α := (List.replicate n xs).flatten
def oMul (x y : Val) (h : Heap) : Res Val := match x, y with
  | .int i, .int j => if -(2 ^ 64) < j ∧ j < 2 ^ 64 ∨ -(2 ^ 64) < i ∧ i < 2 ^ 64 then .ok (.int (i * j)) h else .stuck
  | .tup xs, .int k => if xs.length ≠ 0 ∧ 2 ≤ k ∧ k ≤ 1000 ∧ xs.length ≤ 1000 then .ok (.tup (repV k.toNat xs)) h else .stuck
  | .ref a, .int k => match h[a]? with
    | some (.lst xs) => if k ≤ 100000 ∧ -100000 ≤ k ∧ xs.length * k.toNat ≤ lim then .ok (.ref h.length) (h ++ [.lst (repV k.toNat xs)]) else .stuck
    | _ => .stuck
  | _, _ => .stuck
def oEq (neg : Bool) (x y : Val) (h : Heap) : Res Val := match conv 60 h x, conv 60 h y with
  | some d, some e => .ok (.bl (if neg then !deq d e else deq d e)) h
  | _, _ => .stuck
def oIsN (neg : Bool) (x : Val) (h : Heap) : Res Val := .ok (.bl (match x with
  | .non => !neg
  | _ => neg)) h
section
variable {G : Cfg} {E : XK}
theorem rf_I0 {g : Int → Int → Int} : Rf2 G E (rI0 fun i j => .int (g i j)) (oI fun i j => .int (g i j)) := by
  refine ⟨fun r H h x y v u Q hR a b p => ?_⟩
  cases a with
  | int i => cases b with
    | int j => exact ⟨i, j, rfl, rfl, p.here hR (.int _)⟩
    | _ => exact False.elim p
  | _ => exact False.elim p
theorem rf_B0 {g : Int → Int → Bool} : Rf2 G E (rI0 fun i j => .bl (g i j)) (oI fun i j => .bl (g i j)) := by
  refine ⟨fun r H h x y v u Q hR a b p => ?_⟩
  cases a with
  | int i => cases b with
    | int j => exact ⟨i, j, rfl, rfl, p.here hR (.bl _)⟩
    | _ => exact False.elim p
  | _ => exact False.elim p
theorem rf_IC {C : Int → Int → Prop} {c : Int → Int → Bool} (hc : ∀ i j, c i j = true → C i j) {g : Int → Int → Int} : Rf2 G E (rI C fun i j => .int (g i j)) (oIC c fun i j => .int (g i j)) := by
  refine ⟨fun r H h x y v u Q hR a b p => ?_⟩
  cases a with
  | int i => cases b with
    | int j =>
      simp only [oIC] at p
      split at p
      · rename_i e
        exact ⟨i, j, rfl, rfl, hc _ _ e, p.here hR (.int _)⟩
      · exact p.elim
    | _ => exact False.elim p
  | _ => exact False.elim p
def rAdd (K : PySem.W.Frag) : R2 := fun x y H Q => rI0 (fun i j => .int (i + j)) x y H Q ∨ rCatA K x y H Q ∨ rCat x y H Q
theorem op_addM {X : Cx} : OpR X (binaryOp .Add) (rAdd X.K) := op_add.or (op_catA.or op_cat)
theorem rf_add : Rf2 G E (rAdd G.K) oAdd := by
  refine ⟨fun r H h x y v u Q hR a b p => ?_⟩
  cases a with
  | int i => cases b with
    | int j => exact .inl ⟨i, j, rfl, rfl, p.here hR (.int _)⟩
    | _ => exact False.elim p
  | tup ha va => cases b with
    | tup hb vb =>
      simp only [oAdd] at p
      split at p
      · rename_i hl
        have e1 := va.len
        have e2 := vb.len
        refine .inr (.inl ⟨_, _, _, _, rfl, rfl, ha, hb, le_line (by omega), fun e => ?_, fun _ e => ?_, fun _ _ q hq => ?_⟩)
        · subst e
          cases va
          exact p.here hR (.tup hb vb)
        · subst e
          cases vb
          exact p.here hR (.tup ha (by simpa using va))
        · refine p r _ _ (Stp.new0 hq) (hR.lay hq) (.tup (SqT.of upd_same) ?_)
          exact (va.app vb).mono (Stp.new0 hq)
      · exact p.elim
    | _ => exact False.elim p
  | @ref n a' ea => cases b with
    | @ref m b' eb =>
      simp only [oAdd] at p
      split at p
      · rename_i xs ys h1 h2
        split at p
        · rename_i hl
          cases hR.ob _ _ _ h1 ea with
          | lst ha va => cases hR.ob _ _ _ h2 eb with
            | lst hb vb =>
              have e1 := va.len
              have e2 := vb.len
              refine .inr (.inr ⟨_, _, _, _, rfl, rfl, ha, hb, le_line (by omega), fun q hq => ?_⟩)
              refine p (r ++ [q]) _ _ (Stp.new hq) (hR.push hq (.lst upd_same ((va.app vb).mono (Stp.new hq)))) (.ref ?_)
              rw [← hR.len]
              simp
        · exact p.elim
      · exact p.elim
    | _ => exact False.elim p
  | _ => exact False.elim p
theorem VRs.rep {r : List Addr} {H : Hp} {xs : List Val} {vs : List V} (a : VRs G r H xs vs) : ∀ n : Nat, VRs G r H (repV n xs) ((List.replicate n vs).flatten)
  | 0 => .nil
  | n + 1 => by
    unfold repV
    rw [List.replicate_succ, List.replicate_succ, List.flatten_cons, List.flatten_cons]
    exact a.app (VRs.rep a n)
def rMulA (K : PySem.W.Frag) : R2 := fun x y H Q => rI CMul (fun i j => .int (i * j)) x y H Q ∨ rRep x y H Q ∨ rRepT K x y H Q
theorem op_mulA {X : Cx} : OpR X (binaryOp .Mult) (rMulA X.K) := op_mul.or (op_rep.or op_repT)
theorem rf_mul : Rf2 G E (rMulA G.K) oMul := by
  refine ⟨fun r H h x y v u Q hR a b p => ?_⟩
  cases a with
  | int i => cases b with
    | int j =>
      simp only [oMul] at p
      split at p
      · rename_i e
        exact .inl ⟨i, j, rfl, rfl, e.symm, p.here hR (.int _)⟩
      · exact p.elim
    | _ => exact False.elim p
  | tup ha va => cases b with
    | int k =>
      simp only [oMul] at p
      split at p
      · rename_i e
        have e1 := va.len
        refine .inr (.inr ⟨_, k, _, rfl, rfl, ha, fun z => ?_, e.2.1, e.2.2.1, by rw [← e1]; exact e.2.2.2, fun q hq => ?_⟩)
        · subst z
          exact e.1 e1
        · exact p r _ _ (Stp.new0 hq) (hR.lay hq) (.tup (SqT.of upd_same) ((va.rep _).mono (Stp.new0 hq)))
      · exact p.elim
    | _ => exact False.elim p
  | @ref n a' ea => cases b with
    | int k =>
      simp only [oMul] at p
      split at p
      · rename_i xs h1
        split at p
        · rename_i hl
          cases hR.ob _ _ _ h1 ea with
          | lst ha va =>
            have e1 := va.len
            refine .inr (.inl ⟨_, k, _, rfl, rfl, ha, by omega, by omega, le_line (by rw [← e1]; exact hl.2.2), fun q hq => ?_⟩)
            refine p (r ++ [q]) _ _ (Stp.new hq) (hR.push hq (.lst upd_same ((va.rep _).mono (Stp.new hq)))) (.ref ?_)
            rw [← hR.len]
            simp
        · exact p.elim
      · exact p.elim
    | _ => exact False.elim p
  | _ => exact False.elim p
theorem rf_eq (ok : G.Ok) : Rf2 G E (rEqD G.K) (oEq false) := by
  refine ⟨fun r H h x y v u Q hR a b p => ?_⟩
  simp only [oEq] at p
  split at p
  · rename_i d e h1 h2
    obtain ⟨d1, w1⟩ := conv_dp hR _ _ _ _ a h1
    obtain ⟨d2, w2⟩ := conv_dp hR _ _ _ _ b h2
    refine ⟨_, _, d1, d2, shaped_py ok w1 (by decide), shaped_py ok w2 (by decide), ?_⟩
    rw [eqv_py ok d e _ _ w1 w2]
    exact p.here hR (.bl _)
  · exact p.elim
theorem rf_ne (ok : G.Ok) : Rf2 G E (rNeD G.K) (oEq true) := by
  refine ⟨fun r H h x y v u Q hR a b p => ?_⟩
  simp only [oEq] at p
  split at p
  · rename_i d e h1 h2
    obtain ⟨d1, w1⟩ := conv_dp hR _ _ _ _ a h1
    obtain ⟨d2, w2⟩ := conv_dp hR _ _ _ _ b h2
    refine ⟨_, _, d1, d2, shaped_py ok w1 (by decide), shaped_py ok w2 (by decide), ?_⟩
    rw [eqv_py ok d e _ _ w1 w2]
    exact p.here hR (.bl _)
  · exact p.elim
end
end PyM

set_option Elab.async false
set_option linter.all false
set_option maxRecDepth 100000
set_option autoImplicit false
namespace PyM
open PySem L2

mutual
def Val.dec : (a b : Val) → Decidable (a = b)
  | .non, b => match b with
    | .non => Decidable.isTrue rfl
    | .bl _ | .int _ | .str _ | .tup _ | .ref _ => Decidable.isFalse (fun h => by cases h)
  | .bl x, b => match b with
    | .bl y => if h : x = y then Decidable.isTrue (by rw [h]) else Decidable.isFalse (fun e => by cases e; exact h rfl)
    | .non | .int _ | .str _ | .tup _ | .ref _ => Decidable.isFalse (fun h => by cases h)
  | .int x, b => match b with
    | .int y => if h : x = y then Decidable.isTrue (by rw [h]) else Decidable.isFalse (fun e => by cases e; exact h rfl)
    | .non | .bl _ | .str _ | .tup _ | .ref _ => Decidable.isFalse (fun h => by cases h)
  | .str x, b => match b with
    | .str y => if h : x = y then Decidable.isTrue (by rw [h]) else Decidable.isFalse (fun e => by cases e; exact h rfl)
    | .non | .bl _ | .int _ | .tup _ | .ref _ => Decidable.isFalse (fun h => by cases h)
  | .ref x, b => match b with
    | .ref y => if h : x = y then Decidable.isTrue (by rw [h]) else Decidable.isFalse (fun e => by cases e; exact h rfl)
    | .non | .bl _ | .int _ | .tup _ | .str _ => Decidable.isFalse (fun h => by cases h)
  | .tup xs, b => match b with
    | .tup ys => match Val.decs xs ys with
      | Decidable.isTrue h => Decidable.isTrue (by rw [h])
      | Decidable.isFalse h => Decidable.isFalse (fun e => by cases e; exact h rfl)
    | .non | .bl _ | .int _ | .ref _ | .str _ => Decidable.isFalse (fun h => by cases h)
def Val.decs : (a b : List Val) → Decidable (a = b)
  | [], [] => Decidable.isTrue rfl
  | [], _ :: _ => Decidable.isFalse (fun h => by cases h)
  | _ :: _, [] => Decidable.isFalse (fun h => by cases h)
  | x :: xs, y :: ys => match Val.dec x y, Val.decs xs ys with
    | Decidable.isTrue h, Decidable.isTrue k => Decidable.isTrue (by rw [h, k])
    | Decidable.isFalse h, _ => Decidable.isFalse (fun e => by cases e; exact h rfl)
    | _, Decidable.isFalse k => Decidable.isFalse (fun e => by cases e; exact k rfl)
end
instance : DecidableEq Val := Val.dec

/-! ### dicts with keys that are ints or texts -/
def lookV (d : List (Val × Val)) (k : Val) : Option Val := (d.find? fun kv => decide (kv.1 = k)).map (·.2)
def putV (d : List (Val × Val)) (k v : Val) : List (Val × Val) := if (d.any fun kv => decide (kv.1 = k)) = true then d.map (fun kv => if kv.1 = k then (kv.1, v) else kv) else d ++ [(k, v)]
def dropV (d : List (Val × Val)) (k : Val) : List (Val × Val) := d.filter fun kv => decide (kv.1 ≠ k)
def isKey : Val → Bool
  | .int _ => true
  | .str _ => true
  | _ => false
section
variable {G : Cfg} {r : List Addr} {H : Hp} {h : Heap}
theorem sts_inj (ok : G.Ok) {i j : Nat} {x : Str} (hi : G.sts[i]? = some x) (hj : G.sts[j]? = some x) : i = j := by
  obtain ⟨h1, e1⟩ := List.getElem?_eq_some_iff.mp hi
  obtain ⟨h2, e2⟩ := List.getElem?_eq_some_iff.mp hj
  exact (List.getElem_inj ok.nd).mp (e1.trans e2.symm)
theorem KR.eq (ok : G.Ok) {k k' : Val} {q q' : Key} (a : KR G k q) (b : KR G k' q') : decide (k = k') = decide (q = q') := by
  cases a with
  | int i => cases b with
    | int j => by_cases e : i = j <;> simp [e]
    | str _ => simp
  | str hi => cases b with
    | int j => simp
    | @str m y hj =>
      rename_i n x
      by_cases e : n = m
      · subst e
        rw [hi] at hj
        cases hj
        simp
      · have : x ≠ y := fun z => e (by subst z; exact sts_inj ok hi hj)
        simp [e, this]
theorem KR.of {x : Val} {v : V} (a : VR G r H x v) (hk : isKey x = true) : ∃ q, KR G x q ∧ v = kV q := by
  cases a with
  | int i => exact ⟨_, .int i, rfl⟩
  | str e => exact ⟨_, .str e, rfl⟩
  | _ => simp [isKey] at hk
theorem KR.vr {x : Val} {q : Key} (a : KR G x q) : VR G r H x (kV q) := by
  cases a with
  | int i => exact .int i
  | str e => exact .str e
theorem DR.len {d e} (a : DR G r H d e) : d.length = e.length := by
  induction a with
  | nil => rfl
  | cons _ _ _ ih => simp [ih]
/-- what a key finds -/
theorem DR.look (ok : G.Ok) {d e} (a : DR G r H d e) {k : Val} {q : Key} (b : KR G k q) : (lookV d k = none ∧ valV e q = none) ∨ ∃ x v, lookV d k = some x ∧ valV e q = some v ∧ VR G r H x v := by
  induction a with
  | nil => exact .inl ⟨rfl, rfl⟩
  | @cons k' x q' v d e hk hv _ ih =>
    have e1 := KR.eq ok hk b
    by_cases hh : k' = k
    · have : q' = q := by simpa [hh] using e1
      exact .inr ⟨x, v, by simp [lookV, hh], by simp [valV, this], hv⟩
    · have : ¬ q' = q := by simpa [hh] using e1
      simpa [lookV, valV, List.find?_cons, hh, this] using ih
theorem DR.any (ok : G.Ok) {d e} (a : DR G r H d e) {k : Val} {q : Key} (b : KR G k q) : (d.any fun kv => decide (kv.1 = k)) = (e.any fun kv => decide (kv.1 = q)) := by
  induction a with
  | nil => rfl
  | cons hk _ _ ih => rw [List.any_cons, List.any_cons, ih, KR.eq ok hk b]
theorem DR.app {d e d' e'} (a : DR G r H d e) (b : DR G r H d' e') : DR G r H (d ++ d') (e ++ e') := by
  induction a with
  | nil => exact b
  | cons hk hv _ ih => exact .cons hk hv ih
theorem DR.upd (ok : G.Ok) {d e} (a : DR G r H d e) {k x : Val} {q : Key} {v : V} (b : KR G k q) (c : VR G r H x v) : DR G r H (d.map (fun kv => if kv.1 = k then (kv.1, x) else kv)) (e.map (fun kv => if kv.1 = q then (kv.1, v) else kv)) := by
  induction a with
  | nil => exact .nil
  | @cons k' x' q' v' d e hk hv _ ih =>
    have e1 := KR.eq ok hk b
    rw [List.map_cons, List.map_cons]
    by_cases hh : k' = k
    · have h2 : q' = q := by simpa [hh] using e1
      rw [if_pos hh, if_pos h2]
      exact .cons hk c ih
    · have h2 : ¬ q' = q := by simpa [hh] using e1
      rw [if_neg hh, if_neg h2]
      exact .cons hk hv ih
theorem DR.put (ok : G.Ok) {d e} (a : DR G r H d e) {k x : Val} {q : Key} {v : V} (b : KR G k q) (c : VR G r H x v) : DR G r H (putV d k x) (putK e q v) := by
  unfold putV putK
  rw [a.any ok b]
  by_cases hh : (e.any fun kv => decide (kv.1 = q)) = true
  · rw [if_pos hh, if_pos hh]
    exact a.upd ok b c
  · rw [if_neg hh, if_neg hh]
    exact a.app (.cons b c .nil)
theorem DR.drop (ok : G.Ok) {d e} (a : DR G r H d e) {k : Val} {q : Key} (b : KR G k q) : DR G r H (dropV d k) (dropK e q) := by
  unfold dropV dropK
  induction a with
  | nil => exact .nil
  | @cons k' x' q' v' d e hk hv _ ih =>
    have e1 := KR.eq ok hk b
    by_cases hh : k' = k
    · have h2 : q' = q := by simpa [hh] using e1
      rw [List.filter_cons_of_neg (by simp [hh]), List.filter_cons_of_neg (by simp [h2])]
      exact ih
    · have h2 : ¬ q' = q := by simpa [hh] using e1
      rw [List.filter_cons_of_pos (by simp [hh]), List.filter_cons_of_pos (by simp [h2])]
      exact .cons hk hv ih
end

/-! ### in -/
theorem DGet_kf {H : Hp} {a : Addr} {o : PySem.Obj} {kvs : List (Key × V)} {k : Key} (e : H a = some (.frz o (.dK kvs))) : DGet H a (kV k) (valV kvs k) := .inl ⟨kvs, k, .inr ⟨o, e⟩, rfl, rfl⟩
def rDIn : R2 := fun y x H Q => ∃ a o, x = .ref a ∧ DGet H a y o ∧ Q (.bl o.isSome) H
def rDNotIn : R2 := fun y x H Q => ∃ a o, x = .ref a ∧ DGet H a y o ∧ Q (.bl (!o.isSome)) H
theorem op_din {X : Cx} (hu : X.A.units + 1 < cLine) : OpR X (compareOp .In) rDIn := by
  intro pins s σ H x y v u Q I rx ry ⟨a, o, e, g, q⟩
  subst e
  obtain rfl : u = Value.ref a := ry
  exact d_in hu I g rx fun s3 I3 => ⟨.bl o.isSome, H, I3, rfl, q⟩
theorem op_dnotin {X : Cx} (hu : X.A.units + 1 < cLine) : OpR X (compareOp .NotIn) rDNotIn := by
  intro pins s σ H x y v u Q I rx ry ⟨a, o, e, g, q⟩
  subst e
  obtain rfl : u = Value.ref a := ry
  exact d_notIn hu I g rx fun s3 I3 => ⟨.bl (!o.isSome), H, I3, rfl, q⟩
def isFlat : Val → Bool
  | .non => true
  | .bl _ => true
  | .int _ => true
  | .str _ => true
  | _ => false
def feq : Val → Val → Bool
  | .non, .non => true
  | .bl a, .bl b => a == b
  | .bl a, .int j => (if a then 1 else 0) == j
  | .int i, .bl b => i == (if b then 1 else 0)
  | .int i, .int j => i == j
  | .str x, .str y => x == y
  | _, _ => false
def inSeq (x : Val) (h : Heap) (ys : List Val) : Option Bool := match conv 60 h x, optAll (conv 59 h) ys with
  | some d, some ds => some (ds.any fun z => deq z d)
  | _, _ => none
def oIn (neg : Bool) (x y : Val) (h : Heap) : Res Val := match y with
  | .tup ys => if isFlat x = true ∧ ys.all isFlat = true then .ok (.bl (if neg then !(ys.any fun z => feq z x) else ys.any fun z => feq z x)) h else .stuck
  | .ref a => match h[a]? with
    | some (.lst ys) => match inSeq x h ys with
      | some b => .ok (.bl (if neg then !b else b)) h
      | none => .stuck
    | some (.dct d) => if isKey x = true then .ok (.bl (if neg then !(lookV d x).isSome else (lookV d x).isSome)) h else .stuck
    | some (.fdc d) => if isKey x = true then .ok (.bl (if neg then !(lookV d x).isSome else (lookV d x).isSome)) h else .stuck
    | _ => .stuck
  | _ => .stuck
section
variable {G : Cfg} {E : XK} {r : List Addr} {H : Hp} {h : Heap}
theorem flat_of {x : Val} {v : V} (a : VR G r H x v) (f : isFlat x = true) : flatV v = true := by
  cases a <;> first | rfl | (simp [isFlat] at f)
theorem all_flat : ∀ {xs : List Val} {vs : List V}, VRs G r H xs vs → xs.all isFlat = true → vs.all flatV = true
  | _, _, .nil, _ => rfl
  | _, _, .cons a b, f => by
    rw [List.all_cons, Bool.and_eq_true] at f ⊢
    exact ⟨flat_of a f.1, all_flat b f.2⟩
theorem feq_of (ok : G.Ok) {x y : Val} {v u : V} (a : VR G r H x v) (b : VR G r H y u) (f : isFlat x = true) : feq x y = eqV v u := by
  cases a with
  | str hi => cases b with
    | str hj =>
      rename_i n z n' z'
      show (n == n') = (z == z')
      by_cases e : n = n'
      · subst e
        rw [hi] at hj
        cases hj
        simp
      · have : z ≠ z' := fun q => e (by subst q; exact sts_inj ok hi hj)
        rw [beq_eq_false_iff_ne.mpr e, beq_eq_false_iff_ne.mpr this]
    | _ => rfl
  | tup _ _ => simp [isFlat] at f
  | ref _ => simp [isFlat] at f
  | _ => cases b <;> rfl
theorem any_feq (ok : G.Ok) {y : Val} {u : V} (b : VR G r H y u) : ∀ {xs : List Val} {vs : List V}, VRs G r H xs vs → xs.all isFlat = true → (xs.any fun z => feq z y) = inV u vs
  | _, _, .nil, _ => rfl
  | _, _, .cons a c, f => by
    rw [List.all_cons, Bool.and_eq_true] at f
    unfold inV
    rw [List.any_cons, List.any_cons, feq_of ok a b f.1, any_feq ok b c f.2]
    rfl
theorem any_py (ok : G.Ok) {d : D} {n m : Nat} (hd : d.wf G.sts.length n = true) : ∀ (ds : List D), D.wfs G.sts.length m ds = true → ((D.pys G ds).any fun z => PyData.eqv z (d.py G)) = ds.any fun z => deq z d
  | [], _ => by simp [D.pys]
  | x :: xs, f => by
    simp only [D.wfs, Bool.and_eq_true] at f
    rw [D.pys, List.any_cons, List.any_cons, eqv_py ok x d _ _ f.1 hd, any_py ok hd xs f.2]
/-- in, not in -/
def rInA (K : PySem.W.Frag) : R2 := fun x y H Q => rIn K false x y H Q ∨ rInD K x y H Q ∨ rDIn x y H Q
def rNotInA (K : PySem.W.Frag) : R2 := fun x y H Q => rIn K true x y H Q ∨ rNotInD K x y H Q ∨ rDNotIn x y H Q
theorem op_inA {X : Cx} (hu : X.A.units + 65 < cLine) : OpR X (compareOp .In) (rInA X.K) := op_in_seq.or ((op_inD hu).or (op_din (by omega)))
theorem op_notInA {X : Cx} (hu : X.A.units + 65 < cLine) : OpR X (compareOp .NotIn) (rNotInA X.K) := op_notIn_seq.or ((op_notInD hu).or (op_dnotin (by omega)))
theorem inSeq_of (ok : G.Ok) (hR : HR G r H h) {x : Val} {v : V} {ys : List Val} {us : List V} {b : Bool} {a : Addr} (hx : VR G r H x v) (hs : SqL G.K H a us) (hy : VRs G r H ys us) (e : inSeq x h ys = some b) :
    ∃ (d : PyData) (ds : List PyData), Dp G.K H v d ∧ Dp G.K H (.ref a) (.list ds) ∧ SeqAt.shaped d = true ∧ SeqAt.shaped (.list ds) = true ∧ (ds.any fun z => PyData.eqv z d) = b := by
  unfold inSeq at e
  split at e
  · rename_i d ds e1 e2
    cases e
    obtain ⟨d1, w1⟩ := conv_dp hR _ _ _ _ hx e1
    obtain ⟨d2, w2⟩ := optAll_dp (fun x v d => conv_dp hR 59 x v d) _ _ _ hy e2
    refine ⟨_, _, d1, .lst hs d2, shaped_py ok w1 (by decide), ?_, any_py ok w1 ds w2⟩
    have : (D.lst ds).wf G.sts.length 60 = true := by simpa [D.wf] using w2
    have := shaped_py ok this (by decide)
    simpa [D.py] using this
  · cases e
theorem rf_in (ok : G.Ok) : Rf2 G E (rInA G.K) (oIn false) := by
  refine ⟨fun r H h x y v u Q hR a b p => ?_⟩
  cases b with
  | tup hb vb =>
    simp only [oIn] at p
    split at p
    · rename_i f
      refine .inl ⟨_, _, rfl, .inr hb, flat_of a f.1, all_flat vb f.2, ?_⟩
      rw [if_neg (by decide), ← any_feq ok a vb f.2]
      exact p.here hR (.bl _)
    · exact p.elim
  | @ref n c ec =>
    simp only [oIn] at p
    split at p
    · rename_i ys ey
      cases hR.ob _ _ _ ey ec with
      | lst hl hv =>
        split at p
        · rename_i z ez
          obtain ⟨d, ds, q1, q2, q3, q4, q5⟩ := inSeq_of ok hR a (SqL.of hl) hv ez
          refine .inr (.inl ⟨d, ds, q1, q2, q3, q4, ?_⟩)
          rw [q5]
          exact p.here hR (.bl _)
        · exact p.elim
    · rename_i d ed
      cases hR.ob _ _ _ ed ec with
      | dct hd hv =>
        split at p
        · rename_i hk
          obtain ⟨q, kq, rfl⟩ := KR.of a hk
          refine .inr (.inr ⟨_, _, rfl, DGet.k hd, ?_⟩)
          have := p.here hR (.bl _)
          rcases hv.look ok kq with ⟨e1, e2⟩ | ⟨x', v', e1, e2, _⟩
          · rw [e2]
            rw [e1] at this
            exact this
          · rw [e2]
            rw [e1] at this
            exact this
        · exact p.elim
    · rename_i d ed
      cases hR.ob _ _ _ ed ec with
      | fdc hd hv =>
        split at p
        · rename_i hk
          obtain ⟨q, kq, rfl⟩ := KR.of a hk
          refine .inr (.inr ⟨_, _, rfl, DGet_kf hd, ?_⟩)
          have := p.here hR (.bl _)
          rcases hv.look ok kq with ⟨e1, e2⟩ | ⟨x', v', e1, e2, _⟩
          · rw [e2]
            rw [e1] at this
            exact this
          · rw [e2]
            rw [e1] at this
            exact this
        · exact p.elim
    · exact p.elim
  | _ => exact False.elim p
theorem rf_notin (ok : G.Ok) : Rf2 G E (rNotInA G.K) (oIn true) := by
  refine ⟨fun r H h x y v u Q hR a b p => ?_⟩
  cases b with
  | tup hb vb =>
    simp only [oIn] at p
    split at p
    · rename_i f
      refine .inl ⟨_, _, rfl, .inr hb, flat_of a f.1, all_flat vb f.2, ?_⟩
      rw [if_pos rfl, ← any_feq ok a vb f.2]
      exact p.here hR (.bl _)
    · exact p.elim
  | @ref n c ec =>
    simp only [oIn] at p
    split at p
    · rename_i ys ey
      cases hR.ob _ _ _ ey ec with
      | lst hl hv =>
        split at p
        · rename_i z ez
          obtain ⟨d, ds, q1, q2, q3, q4, q5⟩ := inSeq_of ok hR a (SqL.of hl) hv ez
          refine .inr (.inl ⟨d, ds, q1, q2, q3, q4, ?_⟩)
          rw [q5]
          exact p.here hR (.bl _)
        · exact p.elim
    · rename_i d ed
      cases hR.ob _ _ _ ed ec with
      | dct hd hv =>
        split at p
        · rename_i hk
          obtain ⟨q, kq, rfl⟩ := KR.of a hk
          refine .inr (.inr ⟨_, _, rfl, DGet.k hd, ?_⟩)
          have := p.here hR (.bl _)
          rcases hv.look ok kq with ⟨e1, e2⟩ | ⟨x', v', e1, e2, _⟩
          · rw [e2]
            rw [e1] at this
            exact this
          · rw [e2]
            rw [e1] at this
            exact this
        · exact p.elim
    · rename_i d ed
      cases hR.ob _ _ _ ed ec with
      | fdc hd hv =>
        split at p
        · rename_i hk
          obtain ⟨q, kq, rfl⟩ := KR.of a hk
          refine .inr (.inr ⟨_, _, rfl, DGet_kf hd, ?_⟩)
          have := p.here hR (.bl _)
          rcases hv.look ok kq with ⟨e1, e2⟩ | ⟨x', v', e1, e2, _⟩
          · rw [e2]
            rw [e1] at this
            exact this
          · rw [e2]
            rw [e1] at this
            exact this
        · exact p.elim
    · exact p.elim
  | _ => exact False.elim p
end
end PyM

set_option Elab.async false
set_option linter.all false
set_option maxRecDepth 100000
set_option autoImplicit false
namespace PyM
open PySem L2

theorem pc_of {X : Cx} {a b : Expr} {ta tb : TE} {op : CmpOp} {r : R2} (ho : OpR X (compareOp op) r) (ha : PE X a ta) (hb : PE X b tb) : PC X op a b (tOp r ta tb) :=
  ⟨fun pins s σ H Q I h => bin ha hb I h fun v u s2 x y H2 I2 rx ry q => ho pins s2 σ H2 x y v u Q I2 rx ry q⟩

/-- truth -/
def truth (x : Val) (h : Heap) : Option Bool := match x with
  | .non => some false
  | .bl b => some b
  | .int i => some (i != 0)
  | .tup xs => some (!xs.isEmpty)
  | .ref a => match h[a]? with
    | some (.lst xs) => some (!xs.isEmpty)
    | some (.fls xs) => some (!xs.isEmpty)
    | some (.dct d) => some (!d.isEmpty)
    | _ => none
  | .str _ => none
def tB_ (ma : En → Heap → Res Val) (s : En) (h : Heap) : Res Bool := (ma s h).bind fun x h1 => match x with
  | .bl b => .ok b h1
  | _ => .stuck
def tTr (ma : En → Heap → Res Val) (s : En) (h : Heap) : Res Bool := (ma s h).bind fun x h1 => match truth x h1 with
  | some b => .ok b h1
  | none => .stuck
def tNo (m : En → Heap → Res Bool) (s : En) (h : Heap) : Res Bool := (m s h).bind fun b h1 => .ok (!b) h1
def tAn (m n : En → Heap → Res Bool) (s : En) (h : Heap) : Res Bool := (m s h).bind fun b h1 => if b = true then n s h1 else .ok false h1
def tOr_ (m n : En → Heap → Res Bool) (s : En) (h : Heap) : Res Bool := (m s h).bind fun b h1 => if b = true then .ok true h1 else n s h1
def mAn (m n : En → Heap → Res Val) (s : En) (h : Heap) : Res Val := (m s h).bind fun x h1 => match x with
  | .bl b => if b = true then n s h1 else .ok (.bl false) h1
  | _ => .stuck
def mOr_ (m n : En → Heap → Res Val) (s : En) (h : Heap) : Res Val := (m s h).bind fun x h1 => match x with
  | .bl b => if b = true then .ok (.bl true) h1 else n s h1
  | _ => .stuck
def mNo (m : En → Heap → Res Val) (s : En) (h : Heap) : Res Val := (m s h).bind fun x h1 => match x with
  | .bl b => .ok (.bl (!b)) h1
  | _ => .stuck
def mIf (t : En → Heap → Res Bool) (m n : En → Heap → Res Val) (s : En) (h : Heap) : Res Val := (t s h).bind fun b h1 => if b = true then m s h1 else n s h1
/-- a op b op' c, over ints -/
def mCh (p q : Int → Int → Bool) (ma mb mc : En → Heap → Res Val) (s : En) (h : Heap) : Res Val := (ma s h).bind fun x h1 => (mb s h1).bind fun y h2 => match x, y with
  | .int i, .int j => if p i j = true then (mc s h2).bind fun z h3 => match z with
      | .int k => .ok (.bl (q j k)) h3
      | _ => .stuck
    else .ok (.bl false) h2
  | _, _ => .stuck
def mTup (ma : En → Heap → Res (List Val)) (s : En) (h : Heap) : Res Val := (ma s h).bind fun xs h1 => if xs.length ≤ lim then .ok (.tup xs) h1 else .stuck
def mLst (ma : En → Heap → Res (List Val)) (s : En) (h : Heap) : Res Val := (ma s h).bind fun xs h1 => if xs.length ≤ lim then .ok (.ref h1.length) (h1 ++ [.lst xs]) else .stuck
def mDct (_ : En) (h : Heap) : Res Val := .ok (.ref h.length) (h ++ [.dct []])
def lookF (f : Nat) : List (Nat × Val) → Option Val
  | [] => none
  | (g, x) :: r => if g = f then some x else lookF f r
def setF (f : Nat) (x : Val) : List (Nat × Val) → List (Nat × Val)
  | [] => [(f, x)]
  | (g, y) :: r => if g = f then (f, x) :: r else (g, y) :: setF f x r
def getF (f : Nat) (x : Val) (h : Heap) : Res Val := match x with
  | .ref a => match h[a]? with
    | some (.ins c fs) => match lookF f fs with
      | some v => .ok v h
      | none => .stuck
    | _ => .stuck
  | _ => .stuck
/-- a[i]: a list, a tuple, a dict with keys that are ints or texts -/
def oIx (x y : Val) (h : Heap) : Res Val := match x with
  | .tup xs => match y with
    | .int i => match atI xs i with
      | some v => .ok v h
      | none => .stuck
    | _ => .stuck
  | .ref a => match h[a]? with
    | some (.lst xs) => match y with
      | .int i => match atI xs i with
        | some v => .ok v h
        | none => .stuck
      | _ => .stuck
    | some (.fls xs) => match y with
      | .int i => match atI xs i with
        | some v => .ok v h
        | none => .stuck
      | _ => .stuck
    | some (.dct d) => if isKey y = true then match lookV d y with
        | some v => .ok v h
        | none => .stuck
      else .stuck
    | some (.fdc d) => if isKey y = true then match lookV d y with
        | some v => .ok v h
        | none => .stuck
      else .stuck
    | _ => .stuck
  | _ => .stuck
def cut (xs : List Val) (lo hi : Option Int) : List Val := (xs.drop (HT.sIx xs.length 0 lo)).take (HT.sIx xs.length xs.length hi - HT.sIx xs.length 0 lo)
def oSl (x : Val) (lo hi : Option Int) (h : Heap) : Res Val := match x with
  | .tup xs => .ok (.tup (cut xs lo hi)) h
  | .ref a => match h[a]? with
    | some (.lst xs) => .ok (.ref h.length) (h ++ [.lst (cut xs lo hi)])
    | some (.fls xs) => .ok (.ref h.length) (h ++ [.lst (cut xs lo hi)])
    | _ => .stuck
  | _ => .stuck
def pNo (_ : En) (h : Heap) : Res (Option Int) := .ok none h
def pSo (m : En → Heap → Res Val) (s : En) (h : Heap) : Res (Option Int) := (m s h).bind fun x h1 => match x with
  | .int i => .ok (some i) h1
  | _ => .stuck
def mSl (m : En → Heap → Res Val) (p q : En → Heap → Res (Option Int)) (s : En) (h : Heap) : Res Val := (m s h).bind fun x h1 => (p s h1).bind fun lo h2 => (q s h2).bind fun hi h3 => oSl x lo hi h3
/-- the second way where the first is stuck -/
def mAlt (m n : En → Heap → Res Val) (s : En) (h : Heap) : Res Val := match m s h with
  | .stuck => n s h
  | x => x

section
variable {G : Cfg} {E : XK} {X : Cx} {k : Nat} {a b c e : Expr} {ta tb tc : TE} {ma mb mc : En → Heap → Res Val} {pos : Pos} {u v w : TT} {mu mv : En → Heap → Res Bool}
abbrev XCu (G : Cfg) (E : XK) (X : Cx) (k : Nat) := XC G E X k
theorem XC.hu (C : XC G E X k) : X.A.units + 65 < cLine := by have := C.room.un; omega

/-! ### two-place operators -/
theorem me_add (C : XC G E X k) (ha : ME G E X a ta ma) (hb : ME G E X b tb mb) : ME G E X (.BinOp a .Add b pos) (tOp (rAdd G.K) ta tb) (mB oAdd ma mb) := by
  refine ⟨?_, ha.rf.b2 hb.rf rf_add⟩
  have := pe_op (pos := pos) (op_addM (X := X)) ha.pe hb.pe
  rwa [C.K] at this
theorem me_sub (ha : ME G E X a ta ma) (hb : ME G E X b tb mb) : ME G E X (.BinOp a .Sub b pos) (tOp (rI0 fun i j => .int (i - j)) ta tb) (mB (oI fun i j => .int (i - j)) ma mb) := ⟨pe_op op_sub ha.pe hb.pe, ha.rf.b2 hb.rf (rf_I0 (g := fun i j => i - j))⟩
theorem me_mul (C : XC G E X k) (ha : ME G E X a ta ma) (hb : ME G E X b tb mb) : ME G E X (.BinOp a .Mult b pos) (tOp (rMulA G.K) ta tb) (mB oMul ma mb) := by
  refine ⟨?_, ha.rf.b2 hb.rf rf_mul⟩
  have := pe_op (pos := pos) (op_mulA (X := X)) ha.pe hb.pe
  rwa [C.K] at this
theorem me_fdiv (ha : ME G E X a ta ma) (hb : ME G E X b tb mb) : ME G E X (.BinOp a .FloorDiv b pos) (tOp (rI CDiv fun i j => .int (i / j)) ta tb) (mB (oIC (fun _ j => decide (0 < j ∧ j < 1073741824)) fun i j => .int (i / j)) ma mb) :=
  ⟨pe_op op_fdiv ha.pe hb.pe, ha.rf.b2 hb.rf (rf_IC (fun i j e => by simpa [CDiv] using e))⟩
theorem me_mod (ha : ME G E X a ta ma) (hb : ME G E X b tb mb) : ME G E X (.BinOp a .Mod b pos) (tOp (rI (fun _ j => 0 < j) fun i j => .int (i % j)) ta tb) (mB (oIC (fun _ j => decide (0 < j)) fun i j => .int (i % j)) ma mb) :=
  ⟨pe_op op_mod ha.pe hb.pe, ha.rf.b2 hb.rf (rf_IC (fun i j e => by simpa using e))⟩
def cPow (i j : Int) : Bool := decide (0 ≤ j ∧ j ≤ 1000000 ∧ i.natAbs < 2 ^ 64)
theorem me_pow (ha : ME G E X a ta ma) (hb : ME G E X b tb mb) : ME G E X (.BinOp a .Pow b pos) (tOp (rI CPow fun i j => .int (i ^ j.toNat)) ta tb) (mB (oIC cPow fun i j => .int (i ^ j.toNat)) ma mb) :=
  ⟨pe_op op_pow ha.pe hb.pe, ha.rf.b2 hb.rf (rf_IC (fun i j e => by simpa [CPow, cPow] using e))⟩
theorem me_shl (ha : ME G E X a ta ma) (hb : ME G E X b tb mb) : ME G E X (.BinOp a .LShift b pos) (tOp (rI CPow fun i j => .int (i * 2 ^ j.toNat)) ta tb) (mB (oIC cPow fun i j => .int (i * 2 ^ j.toNat)) ma mb) :=
  ⟨pe_op op_shl ha.pe hb.pe, ha.rf.b2 hb.rf (rf_IC (fun i j e => by simpa [CPow, cPow] using e))⟩
theorem me_shr (ha : ME G E X a ta ma) (hb : ME G E X b tb mb) : ME G E X (.BinOp a .RShift b pos) (tOp (rI (fun _ j => 0 ≤ j) fun i j => .int (i / 2 ^ j.toNat)) ta tb) (mB (oIC (fun _ j => decide (0 ≤ j)) fun i j => .int (i / 2 ^ j.toNat)) ma mb) :=
  ⟨pe_op op_shr ha.pe hb.pe, ha.rf.b2 hb.rf (rf_IC (fun i j e => by simpa using e))⟩
theorem me_and (ha : ME G E X a ta ma) (hb : ME G E X b tb mb) : ME G E X (.BinOp a .BitAnd b pos) (tOp (rI0 fun i j => .int (Builtin.bitAnd i j)) ta tb) (mB (oI fun i j => .int (Builtin.bitAnd i j)) ma mb) := ⟨pe_op op_and ha.pe hb.pe, ha.rf.b2 hb.rf rf_I0⟩
theorem me_or (ha : ME G E X a ta ma) (hb : ME G E X b tb mb) : ME G E X (.BinOp a .BitOr b pos) (tOp (rI0 fun i j => .int (Builtin.bitOr i j)) ta tb) (mB (oI fun i j => .int (Builtin.bitOr i j)) ma mb) := ⟨pe_op op_or ha.pe hb.pe, ha.rf.b2 hb.rf rf_I0⟩
theorem me_xor (ha : ME G E X a ta ma) (hb : ME G E X b tb mb) : ME G E X (.BinOp a .BitXor b pos) (tOp (rI0 fun i j => .int (Builtin.bitXor i j)) ta tb) (mB (oI fun i j => .int (Builtin.bitXor i j)) ma mb) := ⟨pe_op op_xor ha.pe hb.pe, ha.rf.b2 hb.rf rf_I0⟩
theorem me_neg (ha : ME G E X a ta ma) : ME G E X (.UnaryOp .USub a pos) (tUn (rU fun i => .int (-i)) ta) (mU oNeg ma) := by
  refine ⟨pe_un un_neg ha.pe, ha.rf.u1 ⟨fun r H h x v Q hR q p => ?_⟩⟩
  cases q with
  | int i => exact ⟨i, rfl, p.here hR (.int _)⟩
  | _ => exact False.elim p

/-! ### comparisons -/
theorem mc_eq (ok : G.Ok) (C : XC G E X k) (ha : ME G E X a ta ma) (hb : ME G E X b tb mb) : MC G E X .Eq a b (tOp (rEqD G.K) ta tb) (mB (oEq false) ma mb) := by
  refine ⟨?_, ha.rf.b2 hb.rf (rf_eq ok)⟩
  have := pc_of (op_eqD (X := X) (by have := C.hu; omega)) ha.pe hb.pe
  rwa [C.K] at this
theorem mc_ne (ok : G.Ok) (C : XC G E X k) (ha : ME G E X a ta ma) (hb : ME G E X b tb mb) : MC G E X .NotEq a b (tOp (rNeD G.K) ta tb) (mB (oEq true) ma mb) := by
  refine ⟨?_, ha.rf.b2 hb.rf (rf_ne ok)⟩
  have := pc_of (op_neD (X := X) (by have := C.hu; omega)) ha.pe hb.pe
  rwa [C.K] at this
theorem mc_lt (ha : ME G E X a ta ma) (hb : ME G E X b tb mb) : MC G E X .Lt a b (tOp (rI0 fun i j => .bl (decide (i < j))) ta tb) (mB (oI fun i j => .bl (decide (i < j))) ma mb) := ⟨pc_of op_lt ha.pe hb.pe, ha.rf.b2 hb.rf rf_B0⟩
theorem mc_le (ha : ME G E X a ta ma) (hb : ME G E X b tb mb) : MC G E X .LtE a b (tOp (rI0 fun i j => .bl (decide (i ≤ j))) ta tb) (mB (oI fun i j => .bl (decide (i ≤ j))) ma mb) := ⟨pc_of op_le ha.pe hb.pe, ha.rf.b2 hb.rf rf_B0⟩
theorem mc_gt (ha : ME G E X a ta ma) (hb : ME G E X b tb mb) : MC G E X .Gt a b (tOp (rI0 fun i j => .bl (decide (j < i))) ta tb) (mB (oI fun i j => .bl (decide (j < i))) ma mb) := ⟨pc_of op_gt ha.pe hb.pe, ha.rf.b2 hb.rf (rf_B0 (g := fun i j => decide (j < i)))⟩
theorem mc_ge (ha : ME G E X a ta ma) (hb : ME G E X b tb mb) : MC G E X .GtE a b (tOp (rI0 fun i j => .bl (decide (j ≤ i))) ta tb) (mB (oI fun i j => .bl (decide (j ≤ i))) ma mb) := ⟨pc_of op_ge ha.pe hb.pe, ha.rf.b2 hb.rf (rf_B0 (g := fun i j => decide (j ≤ i)))⟩
theorem mc_in (ok : G.Ok) (C : XC G E X k) (ha : ME G E X a ta ma) (hb : ME G E X b tb mb) : MC G E X .In a b (tOp (rInA G.K) ta tb) (mB (oIn false) ma mb) := by
  refine ⟨?_, ha.rf.b2 hb.rf (rf_in ok)⟩
  have := pc_of (op_inA (X := X) C.hu) ha.pe hb.pe
  rwa [C.K] at this
theorem mc_notin (ok : G.Ok) (C : XC G E X k) (ha : ME G E X a ta ma) (hb : ME G E X b tb mb) : MC G E X .NotIn a b (tOp (rNotInA G.K) ta tb) (mB (oIn true) ma mb) := by
  refine ⟨?_, ha.rf.b2 hb.rf (rf_notin ok)⟩
  have := pc_of (op_notInA (X := X) C.hu) ha.pe hb.pe
  rwa [C.K] at this
theorem rf_isN (h1 : Rf G E ta ma) : Rf G E (tIsN ta) (mU (oIsN false) ma) := by
  refine ⟨fun r H h s σ Q hR sR p => h1.run r H h s σ _ hR sR (p.seq fun x h1' r1 H1 v s1 hR1 v1 p1 => ?_)⟩
  have := p1.here hR1 (.bl _)
  cases v1 <;> exact this
theorem rf_notN (h1 : Rf G E ta ma) : Rf G E (tNotN ta) (mU (oIsN true) ma) := by
  refine ⟨fun r H h s σ Q hR sR p => h1.run r H h s σ _ hR sR (p.seq fun x h1' r1 H1 v s1 hR1 v1 p1 => ?_)⟩
  have := p1.here hR1 (.bl _)
  cases v1 <;> exact this
theorem mc_isN {j pos'} (ha : ME G E X a ta ma) : MC G E X .Is a (.Constant .none j pos') (tIsN ta) (mU (oIsN false) ma) := ⟨pc_isN ha.pe, rf_isN ha.rf⟩
theorem mc_notN {j pos'} (ha : ME G E X a ta ma) : MC G E X .IsNot a (.Constant .none j pos') (tNotN ta) (mU (oIsN true) ma) := ⟨pc_notN ha.pe, rf_notN ha.rf⟩
theorem me_cmp {op : CmpOp} {t : TE} {m} (h : MC G E X op a b t m) (h1 : behindInMarks op b = false := by first | exact nobehind _ (by decide) (by decide) | rfl) : ME G E X (.Compare a [op] [b] pos) t m := ⟨pe_cmp h.pe h1, h.rf⟩
theorem rf_tB {t : TE} {m} (h : Rf G E t m) : RfT G E (tB t) (tB_ m) := by
  refine ⟨fun r H h' s σ Q hR sR p => h.run r H h' s σ _ hR sR (p.seq fun x h1' r1 H1 v s1 hR1 v1 p1 => ?_)⟩
  cases v1 with
  | bl b => exact ⟨b, rfl, p1.here hR1 rfl⟩
  | _ => exact False.elim p1
theorem mt_cmp {op : CmpOp} {t : TE} {m} (h : MC G E X op a b t m) (h1 : behindInMarks op b = false := by first | exact nobehind _ (by decide) (by decide) | rfl) : MT G E X (.Compare a [op] [b] pos) (tB t) (tB_ m) := ⟨pt_cmp h.pe h1, rf_tB h.rf⟩
/-- a chain over ints -/
theorem rf_ch {p q : Int → Int → Bool} (h1 : Rf G E ta ma) (h2 : Rf G E tb mb) (h3 : Rf G E tc mc) : Rf G E (tChain (rI0 fun i j => .bl (p i j)) (rI0 fun i j => .bl (q i j)) ta tb tc) (mCh p q ma mb mc) := by
  refine ⟨fun r H h s σ Q hR sR z => ?_⟩
  refine h1.run r H h s σ _ hR sR (z.seq fun x h1' r1 H1 v s1 hR1 v1 p1 => ?_)
  refine h2.run r1 H1 h1' s σ _ hR1 (sR.mono s1) (p1.seq fun y h2' r2 H2 u s2 hR2 v2 p2 => ?_)
  have v1' := v1.mono s2
  cases v1' with
  | int i => cases v2 with
    | int j =>
      refine ⟨i, j, rfl, rfl, _, rfl, ?_⟩
      simp only at p2
      split at p2
      · rename_i hp
        rw [if_pos hp]
        refine h3.run r2 H2 h2' s σ _ hR2 (sR.mono (s1.trans s2)) (p2.seq fun z h3' r3 H3 w s3 hR3 v3 p3 => ?_)
        cases v3 with
        | int k => exact ⟨j, k, rfl, rfl, p3.here hR3 (.bl _)⟩
        | _ => exact False.elim p3
      · rename_i hp
        rw [if_neg hp]
        exact p2.here hR2 (.bl _)
    | _ => exact False.elim p2
  | _ => exact False.elim p2
theorem op_leB : OpR X (compareOp .LtE) (rI0 fun i j => .bl (decide (i ≤ j))) := op_le
theorem me_chLeLe (ha : ME G E X a ta ma) (hb : ME G E X b tb mb) (hc : ME G E X c tc mc) (hm : lastMarks [.LtE, .LtE] [b, c] = false := by with_unfolding_all rfl) : ME G E X (.Compare a [.LtE, .LtE] [b, c] pos) (tChain (rI0 fun i j => .bl (decide (i ≤ j))) (rI0 fun i j => .bl (decide (i ≤ j))) ta tb tc) (mCh (fun i j => decide (i ≤ j)) (fun i j => decide (i ≤ j)) ma mb mc) :=
  ⟨pe_chain op_le op_le ha.pe hb.pe hc.pe hm, rf_ch ha.rf hb.rf hc.rf⟩
theorem me_chLeLt (ha : ME G E X a ta ma) (hb : ME G E X b tb mb) (hc : ME G E X c tc mc) (hm : lastMarks [.LtE, .Lt] [b, c] = false := by with_unfolding_all rfl) : ME G E X (.Compare a [.LtE, .Lt] [b, c] pos) (tChain (rI0 fun i j => .bl (decide (i ≤ j))) (rI0 fun i j => .bl (decide (i < j))) ta tb tc) (mCh (fun i j => decide (i ≤ j)) (fun i j => decide (i < j)) ma mb mc) :=
  ⟨pe_chain op_le op_lt ha.pe hb.pe hc.pe hm, rf_ch ha.rf hb.rf hc.rf⟩
theorem rf_tT {t : TE} {m} (h : Rf G E t m) : RfT G E (tTest t) (tB_ m) := by
  refine ⟨fun r H h' s σ Q hR sR p => h.run r H h' s σ _ hR sR (p.seq fun x h1' r1 H1 v s1 hR1 v1 p1 => ?_)⟩
  cases v1 with
  | bl b => exact ⟨b, rfl, p1.here hR1 rfl⟩
  | _ => exact False.elim p1
theorem mt_chLeLe (ha : ME G E X a ta ma) (hb : ME G E X b tb mb) (hc : ME G E X c tc mc) (hm : lastMarks [.LtE, .LtE] [b, c] = false := by with_unfolding_all rfl) : MT G E X (.Compare a [.LtE, .LtE] [b, c] pos) (tTest (tChain (rI0 fun i j => .bl (decide (i ≤ j))) (rI0 fun i j => .bl (decide (i ≤ j))) ta tb tc)) (tB_ (mCh (fun i j => decide (i ≤ j)) (fun i j => decide (i ≤ j)) ma mb mc)) :=
  ⟨pt_chain op_le op_le ha.pe hb.pe hc.pe hm, rf_tT (rf_ch ha.rf hb.rf hc.rf)⟩
theorem mt_chLeLt (ha : ME G E X a ta ma) (hb : ME G E X b tb mb) (hc : ME G E X c tc mc) (hm : lastMarks [.LtE, .Lt] [b, c] = false := by with_unfolding_all rfl) : MT G E X (.Compare a [.LtE, .Lt] [b, c] pos) (tTest (tChain (rI0 fun i j => .bl (decide (i ≤ j))) (rI0 fun i j => .bl (decide (i < j))) ta tb tc)) (tB_ (mCh (fun i j => decide (i ≤ j)) (fun i j => decide (i < j)) ma mb mc)) :=
  ⟨pt_chain op_le op_lt ha.pe hb.pe hc.pe hm, rf_tT (rf_ch ha.rf hb.rf hc.rf)⟩

/-! ### truth, and, or, not, if -/
theorem mt_tr (C : XC G E X k) (ha : ME G E X a ta ma) (he : ∀ whole, isTrue a X.env whole = (do let v ← whole; standAt a.pos; holding [v] (truthy v)) := by intro _; rfl) : MT G E X a (fun σ H Q => ta σ H fun x H' => ∃ k, TruV G.K x H' k ∧ Q k H') (tTr ma) := by
  refine ⟨?_, ⟨fun r H h s σ Q hR sR p => ?_⟩⟩
  · have := pt_truth ha.pe he
    rwa [C.K] at this
  · refine ha.rf.run r H h s σ _ hR sR (p.seq fun x h1' r1 H1 v s1 hR1 v1 p1 => ?_)
    cases v1 with
    | non => exact ⟨_, rfl, p1.here hR1 rfl⟩
    | bl b => exact ⟨_, rfl, p1.here hR1 rfl⟩
    | int i => exact ⟨_, rfl, p1.here hR1 rfl⟩
    | str e => exact False.elim p1
    | tup hs hv =>
      have q := p1.here hR1 rfl
      cases hv with
      | nil => exact ⟨_, .inr (.inl ⟨_, hs, rfl⟩), q⟩
      | cons _ _ => exact ⟨_, .inr (.inl ⟨_, hs, rfl⟩), q⟩
    | @ref n a ea =>
      simp only [truth] at p1
      cases eo : h1'[n]? with
      | none => rw [eo] at p1; exact False.elim p1
      | some o =>
        rw [eo] at p1
        cases o with
        | lst xs => cases hR1.ob _ _ _ eo ea with
          | lst hl hv =>
            have q := p1.here hR1 rfl
            cases hv with
            | nil => exact ⟨_, .inl ⟨_, SqL.of hl, rfl⟩, q⟩
            | cons _ _ => exact ⟨_, .inl ⟨_, SqL.of hl, rfl⟩, q⟩
        | fls xs => cases hR1.ob _ _ _ eo ea with
          | fls hl hv =>
            have q := p1.here hR1 rfl
            cases hv with
            | nil => exact ⟨_, .inl ⟨_, hl.sq, rfl⟩, q⟩
            | cons _ _ => exact ⟨_, .inl ⟨_, hl.sq, rfl⟩, q⟩
        | dct d => cases hR1.ob _ _ _ eo ea with
          | dct hl hv =>
            have q := p1.here hR1 rfl
            cases hv with
            | nil => exact ⟨_, .inr (.inr ⟨_, hl, rfl⟩), q⟩
            | cons _ _ => exact ⟨_, .inr (.inr ⟨_, hl, rfl⟩), q⟩
        | dcT d => exact False.elim p1
        | fdc d => exact False.elim p1
        | fdT d => exact False.elim p1
        | ins _ _ => exact False.elim p1
variable {rest : List Expr}
theorem MW.mt (h : MW G E X a u mu) : MT G E X a u mu := ⟨h.pe.pt, h.rf⟩
theorem mw_and1 (h : MT G E X a u mu) : MW G E X (.BoolOp .And [a] pos) u mu := ⟨pw_and1 h.pe, h.rf⟩
theorem mw_or1 (h : MT G E X a u mu) : MW G E X (.BoolOp .Or [a] pos) u mu := ⟨pw_or1 h.pe, h.rf⟩
theorem mw_and (h : MT G E X a u mu) (h2 : MW G E X (.BoolOp .And (b :: rest) pos) v mv) : MW G E X (.BoolOp .And (a :: b :: rest) pos) (tAnd u v) (tAn mu mv) := by
  refine ⟨pw_and h.pe h2.pe, ⟨fun r H h' s σ Q hR sR p => h.rf.run r H h' s σ _ hR sR (p.seq fun x h1' r1 H1 v s1 hR1 v1 p1 => ?_)⟩⟩
  subst v1
  split at p1
  · rename_i e
    rw [if_pos e]
    exact h2.rf.run r1 H1 h1' s σ _ hR1 (sR.mono s1) p1
  · rename_i e
    rw [if_neg e]
    exact p1.here hR1 rfl
theorem mw_or (h : MT G E X a u mu) (h2 : MW G E X (.BoolOp .Or (b :: rest) pos) v mv) : MW G E X (.BoolOp .Or (a :: b :: rest) pos) (tOr u v) (tOr_ mu mv) := by
  refine ⟨pw_or h.pe h2.pe, ⟨fun r H h' s σ Q hR sR p => h.rf.run r H h' s σ _ hR sR (p.seq fun x h1' r1 H1 v s1 hR1 v1 p1 => ?_)⟩⟩
  subst v1
  split at p1
  · rename_i e
    rw [if_pos e]
    exact p1.here hR1 rfl
  · rename_i e
    rw [if_neg e]
    exact h2.rf.run r1 H1 h1' s σ _ hR1 (sR.mono s1) p1
theorem mt_not (h : MT G E X a u mu) : MT G E X (.UnaryOp .Not a pos) (tNot u) (tNo mu) := 
  ⟨pt_not h.pe, ⟨fun r H h' s σ Q hR sR p => h.rf.run r H h' s σ _ hR sR (p.seq fun x h1' r1 H1 v s1 hR1 v1 p1 => by subst v1; exact p1.here hR1 rfl)⟩⟩
theorem me_one {op} (h : ME G E X a ta ma) : ME G E X (.BoolOp op [a] pos) ta ma := ⟨pe_one h.pe, h.rf⟩
theorem me_andV (h : ME G E X a ta ma) (h2 : ME G E X (.BoolOp .And (b :: rest) pos) tb mb) : ME G E X (.BoolOp .And (a :: b :: rest) pos) (tAndV ta tb) (mAn ma mb) := by
  refine ⟨pe_and h.pe h2.pe, ⟨fun r H h' s σ Q hR sR p => h.rf.run r H h' s σ _ hR sR (p.seq fun x h1' r1 H1 v s1 hR1 v1 p1 => ?_)⟩⟩
  cases v1 with
  | bl c =>
    refine ⟨c, rfl, ?_⟩
    simp only at p1
    split at p1
    · rename_i e
      rw [if_pos e]
      exact h2.rf.run r1 H1 h1' s σ _ hR1 (sR.mono s1) p1
    · rename_i e
      rw [if_neg e]
      exact p1.here hR1 (.bl _)
  | _ => exact False.elim p1
theorem me_orV (h : ME G E X a ta ma) (h2 : ME G E X (.BoolOp .Or (b :: rest) pos) tb mb) : ME G E X (.BoolOp .Or (a :: b :: rest) pos) (tOrV ta tb) (mOr_ ma mb) := by
  refine ⟨pe_or h.pe h2.pe, ⟨fun r H h' s σ Q hR sR p => h.rf.run r H h' s σ _ hR sR (p.seq fun x h1' r1 H1 v s1 hR1 v1 p1 => ?_)⟩⟩
  cases v1 with
  | bl c =>
    refine ⟨c, rfl, ?_⟩
    simp only at p1
    split at p1
    · rename_i e
      rw [if_pos e]
      exact p1.here hR1 (.bl _)
    · rename_i e
      rw [if_neg e]
      exact h2.rf.run r1 H1 h1' s σ _ hR1 (sR.mono s1) p1
  | _ => exact False.elim p1
theorem me_notV (h : ME G E X a ta ma) : ME G E X (.UnaryOp .Not a pos) (tNotV ta) (mNo ma) := by
  refine ⟨pe_not h.pe, ⟨fun r H h' s σ Q hR sR p => h.rf.run r H h' s σ _ hR sR (p.seq fun x h1' r1 H1 v s1 hR1 v1 p1 => ?_)⟩⟩
  cases v1 with
  | bl c => exact ⟨c, rfl, p1.here hR1 (.bl _)⟩
  | _ => exact False.elim p1
theorem me_if (ht : MT G E X c u mu) (h : ME G E X a ta ma) (h2 : ME G E X b tb mb) : ME G E X (.IfExp c a b pos) (tIf u ta tb) (mIf mu ma mb) := by
  refine ⟨pe_ifExp ht.pe h.pe h2.pe, ⟨fun r H h' s σ Q hR sR p => ht.rf.run r H h' s σ _ hR sR (p.seq fun x h1' r1 H1 v s1 hR1 v1 p1 => ?_)⟩⟩
  subst v1
  split at p1
  · rename_i e
    rw [if_pos e]
    exact h.rf.run r1 H1 h1' s σ _ hR1 (sR.mono s1) p1
  · rename_i e
    rw [if_neg e]
    exact h2.rf.run r1 H1 h1' s σ _ hR1 (sR.mono s1) p1

/-! ### displays, attributes, subscripts -/
variable {es : List Expr} {tes : TA} {mas : En → Heap → Res (List Val)}
theorem me_tup {x1} (h : MA G E X es tes mas) : ME G E X (.Tuple es x1 pos) (tTup tes) (mTup mas) := by
  refine ⟨pe_tup h.pe, ⟨fun r H h' s σ Q hR sR p => h.rf.run r H h' s σ _ hR sR (p.seq fun xs h1' r1 H1 vs s1 hR1 v1 p1 => ?_)⟩⟩
  split at p1
  · rename_i hl
    have := v1.len
    refine ⟨le_line (by omega), fun q hq => ?_⟩
    exact p1 r1 _ _ (Stp.new0 hq) (hR1.lay hq) (.tup (SqT.of upd_same) (v1.mono (Stp.new0 hq)))
  · exact False.elim p1
theorem me_lst (h : MA G E X es tes mas) : ME G E X (.List es pos) (tLst tes) (mLst mas) := by
  refine ⟨pe_lst h.pe, ⟨fun r H h' s σ Q hR sR p => h.rf.run r H h' s σ _ hR sR (p.seq fun xs h1' r1 H1 vs s1 hR1 v1 p1 => ?_)⟩⟩
  split at p1
  · rename_i hl
    have := v1.len
    refine ⟨le_line (by omega), fun q hq => ?_⟩
    refine p1 (r1 ++ [q]) _ _ (Stp.new hq) (hR1.push hq (.lst upd_same (v1.mono (Stp.new hq)))) (.ref ?_)
    rw [← hR1.len]
    simp
  · exact False.elim p1
theorem me_dict : ME G E X (.Dict [] [] pos) tDNewK mDct := by
  refine ⟨pe_dnewK, ⟨fun r H h s σ Q hR sR p q hq => ?_⟩⟩
  refine p (r ++ [q]) _ _ (Stp.new hq) (hR.push hq (.dct upd_same .nil)) (.ref ?_)
  rw [← hR.len]
  simp
theorem FR.look (ok : G.Ok) {r : List Addr} {H : Hp} {D : Addr} {fs gs} (q : FR G r H D fs gs) {f : Nat} {z : Str} (hz : G.nms[f]? = some z) : (lookF f fs = none ∧ gs.lookup z = none) ∨ ∃ x v, lookF f fs = some x ∧ gs.lookup z = some v ∧ VR G r H x v ∧ NoAttr G.K D z := by
  induction q with
  | nil => exact .inl ⟨rfl, rfl⟩
  | @cons g y x v fs gs hy na hv _ ih =>
    by_cases e : g = f
    · subst e
      rw [hz] at hy
      cases hy
      exact .inr ⟨x, v, by simp [lookF], by simp [List.lookup], hv, na⟩
    · have : z ≠ y := fun q => e (by
        subst q
        obtain ⟨h1, e1⟩ := List.getElem?_eq_some_iff.mp hy
        obtain ⟨h2, e2⟩ := List.getElem?_eq_some_iff.mp hz
        exact (List.getElem_inj ok.nn).mp (e1.trans e2.symm))
      have : (z == y) = false := beq_eq_false_iff_ne.mpr this
      simpa [lookF, List.lookup, e, this] using ih
theorem me_fld (ok : G.Ok) (C : XC G E X k) (f : Nat) {z : Str} (hz : G.nms[f]? = some z) (h : ME G E X a ta ma) (hb : attributeBase a z X.env (eval a X.env) = eval a X.env := by rfl) : ME G E X (.Attribute a z pos) (tFld G.K ta z) (mU (getF f) ma) := by
  refine ⟨?_, ⟨fun r H h' s σ Q hR sR p => h.rf.run r H h' s σ _ hR sR (p.seq fun x h1' r1 H1 v s1 hR1 v1 p1 => ?_)⟩⟩
  · have := pe_fld (pos := pos) h.pe hb
    rwa [C.K] at this
  · cases v1 with
    | @ref n a ea =>
      simp only [getF] at p1
      split at p1
      · rename_i c fs eo
        split at p1
        · rename_i y ey
          cases hR1.ob _ _ _ eo ea with
          | ins hc hC ho hf =>
            rcases hf.look ok hz with ⟨e1, _⟩ | ⟨x', v', e1, e2, v2, na⟩
            · rw [e1] at ey
              cases ey
            · rw [e1] at ey
              cases ey
              exact ⟨_, _, _, _, _, rfl, ho, hC, na, e2, p1.here hR1 v2⟩
        · exact False.elim p1
      · exact False.elim p1
    | _ => exact False.elim p1
end
end PyM

set_option Elab.async false
set_option linter.all false
set_option maxRecDepth 100000
set_option autoImplicit false
namespace PyM
open PySem L2 PyProof.Rows

/-! ### subscripts -/
def rDGetR : R2 := fun x y H Q => ∃ a v, x = .ref a ∧ DGet H a y (some v) ∧ Q v H
theorem ix_dict {X : Cx} (hu : X.A.units + 1 < cLine) : IxR X rDGetR := by
  intro value slice pins s σ H x y v u Q I rx ry h hs
  obtain ⟨a, z, rfl, g, q⟩ := h
  obtain rfl : v = Value.ref a := rx
  have hT := dict_typeIs I g
  unfold subscriptTail
  refine wpAny_bind ?_
  rw [getitemInPython_of_ne hT.not_modules]
  refine wpAny_bind (wpAny_specialOf hT PySem.F.slot_dict_getitem.lookup ?_)
  have fin : wpAny (model X.prog X.w) X.A (subscripted slice false (.ref a) u) (fun r s₃ => wpAny (model X.prog X.w) X.A (letTemporaryGo value (.ref a) r >>= fun _ => pure r) (EP X pins σ Q) X.xe s₃) X.xe s := by
    rw [hs]
    exact wpAny_operating (wpAny_mono (d_getItem hu I g ry (Q := EP X pins σ Q) fun w' s3 I3 rw' => ⟨z, H, I3, rw', q⟩) (fun r s₃ h₃ => wpAny_bind (wpAny_letTemporaryGo (wpAny_pure h₃))) fun _ _ x => x)
  first
    | exact wpAny_pure (wpAny_bind fin)
    | exact wpAny_bind (wpAny_pure (wpAny_bind fin))
    | exact wpAny_bind fin
def rIxA (K : PySem.W.Frag) : R2 := fun x y H Q => rIxL K x y H Q ∨ rIxT K x y H Q ∨ rDGetR x y H Q
theorem ix_all {X : Cx} (hu : X.A.units + 1 < cLine) : IxR X (rIxA X.K) := ix_list.or (ix_tup.or (ix_dict hu))
theorem atI_len {α β : Type} {xs : List α} {ys : List β} (e : xs.length = ys.length) {i : Int} {v : α} (h : atI xs i = some v) : ∃ j : Nat, xs[j]? = some v ∧ ∀ u, ys[j]? = some u → atI ys i = some u := by
  unfold atI at h ⊢
  rw [e] at h
  cases q : ixN ys.length i with
  | none => rw [q] at h; cases h
  | some j =>
    rw [q] at h
    exact ⟨j, h, fun u hu => hu⟩
section
variable {G : Cfg} {E : XK}
theorem rf_ix (ok : G.Ok) : Rf2 G E (rIxA G.K) oIx := by
  refine ⟨fun r H h x y v u Q hR a b p => ?_⟩
  cases a with
  | tup ha va =>
    simp only [oIx] at p
    split at p
    · split at p
      · rename_i z ez
        cases b
        obtain ⟨j, e1, e2⟩ := atI_len va.len ez
        obtain ⟨w, e3, vw⟩ := va.get e1
        exact .inr (.inl ⟨_, _, _, _, rfl, rfl, ha, e2 _ e3, p.here hR vw⟩)
      · exact False.elim p
    · exact False.elim p
  | @ref n a ea =>
    simp only [oIx] at p
    split at p
    · rename_i xs eo
      split at p
      · split at p
        · rename_i z ez
          cases b
          cases hR.ob _ _ _ eo ea with
          | lst hl va =>
            obtain ⟨j, e1, e2⟩ := atI_len va.len ez
            obtain ⟨w, e3, vw⟩ := va.get e1
            exact .inl ⟨_, _, _, _, rfl, rfl, SqL.of hl, e2 _ e3, p.here hR vw⟩
        · exact False.elim p
      · exact False.elim p
    · rename_i xs eo
      split at p
      · split at p
        · rename_i z ez
          cases b
          cases hR.ob _ _ _ eo ea with
          | fls hl va =>
            obtain ⟨j, e1, e2⟩ := atI_len va.len ez
            obtain ⟨w, e3, vw⟩ := va.get e1
            exact .inl ⟨_, _, _, _, rfl, rfl, hl.sq, e2 _ e3, p.here hR vw⟩
        · exact False.elim p
      · exact False.elim p
    · rename_i d eo
      split at p
      · rename_i hk
        split at p
        · rename_i z ez
          cases hR.ob _ _ _ eo ea with
          | dct hd hv =>
            obtain ⟨q, kq, rfl⟩ := KR.of b hk
            rcases hv.look ok kq with ⟨e1, _⟩ | ⟨x', v', e1, e2, v2⟩
            · rw [e1] at ez
              cases ez
            · rw [e1] at ez
              cases ez
              exact .inr (.inr ⟨_, _, rfl, by rw [← e2]; exact DGet.k hd, p.here hR v2⟩)
        · exact False.elim p
      · exact False.elim p
    · rename_i d eo
      split at p
      · rename_i hk
        split at p
        · rename_i z ez
          cases hR.ob _ _ _ eo ea with
          | fdc hd hv =>
            obtain ⟨q, kq, rfl⟩ := KR.of b hk
            rcases hv.look ok kq with ⟨e1, _⟩ | ⟨x', v', e1, e2, v2⟩
            · rw [e1] at ez
              cases ez
            · rw [e1] at ez
              cases ez
              exact .inr (.inr ⟨_, _, rfl, by rw [← e2]; exact DGet_kf hd, p.here hR v2⟩)
        · exact False.elim p
      · exact False.elim p
    · exact False.elim p
  | _ => exact False.elim p
theorem VRs.cut {r : List Addr} {H : Hp} {xs : List Val} {vs : List V} (a : VRs G r H xs vs) (lo hi : Option Int) : VRs G r H (PyM.cut xs lo hi) (cutV vs lo hi) := by
  unfold PyM.cut cutV
  rw [a.len]
  exact (a.drop _).take _
structure RfO (G : Cfg) (E : XK) (t : TO) (m : En → Heap → Res (Option Int)) : Prop where
  run : ∀ r H h s σ Q, HR G r H h → SR G r H s σ → PostR G (fun _ _ a b => a = b) r H E (m s h) Q → t σ H Q
structure MO (G : Cfg) (E : XK) (X : Cx) (e : Option Expr) (t : TO) (m : En → Heap → Res (Option Int)) : Prop where
  pe : PO X e t
  rf : RfO G E t m
def rSlAll (K : PySem.W.Frag) : V → Option Int → Option Int → Hp → VK → Prop := fun x lo hi H Q => rSlL K x lo hi H Q ∨ rSlA K x lo hi H Q
theorem rf_sl {r : List Addr} {H : Hp} {h : Heap} {x : Val} {v : V} {lo hi : Option Int} {Q : VK} (hR : HR G r H h) (a : VR G r H x v) (p : PostR G (VR G) r H E (oSl x lo hi h) Q) : rSlAll G.K v lo hi H Q := by
  cases a with
  | tup ha va =>
    refine .inr ⟨_, _, rfl, ha, fun e => ?_, fun _ q hq => ?_⟩
    · refine p.here hR (.tup ha ?_)
      unfold PyM.cut
      rw [va.len, e.1, e.2, ← va.len]
      simpa using va
    · exact p r _ _ (Stp.new0 hq) (hR.lay hq) (.tup (SqT.of upd_same) ((va.cut lo hi).mono (Stp.new0 hq)))
  | @ref n a ea =>
    simp only [oSl] at p
    split at p
    · rename_i xs eo
      cases hR.ob _ _ _ eo ea with
      | lst hl va =>
        refine .inl ⟨_, _, rfl, SqL.of hl, fun q hq => ?_⟩
        refine p (r ++ [q]) _ _ (Stp.new hq) (hR.push hq (.lst upd_same ((va.cut lo hi).mono (Stp.new hq)))) (.ref ?_)
        rw [← hR.len]
        simp
    · rename_i xs eo
      cases hR.ob _ _ _ eo ea with
      | fls hl va =>
        refine .inl ⟨_, _, rfl, hl.sq, fun q hq => ?_⟩
        refine p (r ++ [q]) _ _ (Stp.new hq) (hR.push hq (.lst upd_same ((va.cut lo hi).mono (Stp.new hq)))) (.ref ?_)
        rw [← hR.len]
        simp
    · exact False.elim p
  | _ => exact False.elim p
variable {X : Cx} {k : Nat} {a b c e : Expr} {ta tb tc : TE} {ma mb mc : En → Heap → Res Val} {pos p2 : Pos}
theorem me_ix (ok : G.Ok) (C : XC G E X k) (ha : ME G E X a ta ma) (hb : ME G E X b tb mb) (hs : PlainIx b := by exact fun _ _ => rfl) : ME G E X (.Subscript a b pos) (tOp (rIxA G.K) ta tb) (mB oIx ma mb) := by
  refine ⟨?_, ha.rf.b2 hb.rf (rf_ix ok)⟩
  have := pe_ix (pos := pos) (ix_all (X := X) (by have := C.hu; omega)) ha.pe hb.pe hs
  rwa [C.K] at this
theorem mo_no : MO G E X none tNoPart pNo := ⟨po_none, ⟨fun r H h s σ Q hR sR p => p.here hR rfl⟩⟩
theorem mo_so (ha : ME G E X a ta ma) : MO G E X (some a) (tPart ta) (pSo ma) := by
  refine ⟨po_some ha.pe, ⟨fun r H h s σ Q hR sR p => ha.rf.run r H h s σ _ hR sR (p.seq fun x h1' r1 H1 v s1 hR1 v1 p1 => ?_)⟩⟩
  cases v1 with
  | int i => exact ⟨i, rfl, p1.here hR1 rfl⟩
  | _ => exact False.elim p1
theorem me_sl {lo hi : Option Expr} {tl th : TO} {ml mh : En → Heap → Res (Option Int)} (C : XC G E X k) (ha : ME G E X a ta ma) (hl : MO G E X lo tl ml) (hh : MO G E X hi th mh) : ME G E X (.Subscript a (.Slice lo hi none p2) pos) (tSl (rSlAll G.K) ta tl th) (mSl ma ml mh) := by
  refine ⟨?_, ⟨fun r H h s σ Q hR sR p => ha.rf.run r H h s σ _ hR sR (p.seq fun x h1 r1 H1 v s1 hR1 v1 p1 => ?_)⟩⟩
  · have := pe_slice (p2 := p2) (pos := pos) ((sl_list (X := X)).or sl_tupA) ha.pe hl.pe hh.pe
    rw [C.K] at this
    exact this
  · refine hl.rf.run r1 H1 h1 s σ _ hR1 (sR.mono s1) (p1.seq fun lo' h2 r2 H2 _ s2 hR2 e2 p2 => ?_)
    refine hh.rf.run r2 H2 h2 s σ _ hR2 (sR.mono (s1.trans s2)) (p2.seq fun hi' h3 r3 H3 _ s3 hR3 e3 p3 => ?_)
    subst e2 e3
    exact rf_sl hR3 (v1.mono (s2.trans s3)) p3

/-! ### two ways -/
theorem pe_or2 {t t' : TE} (h : PE X e t) (h' : PE X e t') : PE X e (fun σ H Q => t σ H Q ∨ t' σ H Q) := ⟨fun pins s σ H Q I q => q.elim (h.run pins s σ H Q I) (h'.run pins s σ H Q I)⟩
theorem me_alt {t t' : TE} {m m' : En → Heap → Res Val} (h : ME G E X e t m) (h' : ME G E X e t' m') : ME G E X e (fun σ H Q => t σ H Q ∨ t' σ H Q) (mAlt m m') := by
  refine ⟨pe_or2 h.pe h'.pe, ⟨fun r H hh s σ Q hR sR p => ?_⟩⟩
  unfold mAlt at p
  cases q : m s hh with
  | stuck => rw [q] at p; exact .inr (h'.rf.run r H hh s σ Q hR sR p)
  | ok x y => rw [q] at p; exact .inl (h.rf.run r H hh s σ Q hR sR (by rw [q]; exact p))
  | raised x y => rw [q] at p; exact .inl (h.rf.run r H hh s σ Q hR sR (by rw [q]; exact p))
end

/-! ### calls -/
def spM (G : Cfg) (n : Nat) (m : List Val → Heap → Res Val) : Sp := fun vs H Q E => vs.length = n ∧ ∃ r h xs, HR G r H h ∧ VRs G r H xs vs ∧ PostR G (VR G) r H E (m xs h) Q
structure FnM (G : Cfg) (P : Program) (w : World) (mg : Str → Option Value) (base : PySem.Heap) (k : Nat) (f : Addr) (fd : FuncData) (ps : List Str) (m : List Val → Heap → Res Val) : Prop where
  ok : FnOk P w G.K mg base (L2.CX P w) k f fd ps (spM G ps.length m)
  st : ∀ xs h, xs.length ≠ ps.length → m xs h = .stuck
/-- the defaults of a def -/
structure DfM (G : Cfg) (xs : List Val) (vs : List V) (us : List Value) : Prop where
  v : Vals vs us
  r : ∀ r H, VRs G r H xs vs
theorem df_nil {G : Cfg} : DfM G [] [] [] := ⟨.nil, fun _ _ => .nil⟩
theorem df_non {G : Cfg} : DfM G [.non] [.non] [.none] := ⟨.cons rfl .nil, fun _ _ => .cons .non .nil⟩
def mCall (m : List Val → Heap → Res Val) (ds : List Val) (ma : En → Heap → Res (List Val)) (s : En) (h : Heap) : Res Val := (ma s h).bind fun xs h1 => m (xs ++ ds) h1
def isIns (c : Nat) (x : Val) (h : Heap) : Bool := match x with
  | .ref a => match h[a]? with
    | some (.ins c' _) => c == c'
    | _ => false
  | _ => false
def mMeth (c : Nat) (m : List Val → Heap → Res Val) (ds : List Val) (mo : En → Heap → Res Val) (ma : En → Heap → Res (List Val)) (s : En) (h : Heap) : Res Val := (mo s h).bind fun x h1 => if isIns c x h1 = true then (ma s h1).bind fun xs h2 => m (x :: (xs ++ ds)) h2 else .stuck
def mMake (c : Nat) (m : List Val → Heap → Res Val) (ds : List Val) (ma : En → Heap → Res (List Val)) (s : En) (h : Heap) : Res Val := (ma s h).bind fun xs h1 => (m (.ref h1.length :: (xs ++ ds)) (h1 ++ [.ins c []])).bind fun x h2 => match x with
  | .non => .ok (.ref h1.length) h2
  | _ => .stuck
section
variable {G : Cfg} {E : XK} {X : Cx} {k j : Nat} {a b c e o : Expr} {es : List Expr} {ta tb tc : TE} {ma mb mc mo : En → Heap → Res Val} {pos p2 p apos : Pos} {f D : Addr} {fd : FuncData} {ps : List Str} {m : List Val → Heap → Res Val} {x y : Str}
  {dx : List Val} {dv : List V} {du : List Value} {tA : TA} {mA : En → Heap → Res (List Val)}
theorem FnM.run (F : FnM G X.prog X.w X.mg X.base j f fd ps m) {r : List Addr} {H : Hp} {h : Heap} {xs : List Val} {vs : List V} {Q : VK} (hR : HR G r H h) (v : VRs G r H xs vs) (p : PostR G (VR G) r H E (m xs h) Q) : spM G ps.length m vs H Q E := by
  refine ⟨?_, r, h, xs, hR, v, p⟩
  rw [← v.len]
  refine Decidable.byContradiction fun q => ?_
  rw [F.st xs h q] at p
  exact p
theorem rf_call (F : FnM G X.prog X.w X.mg X.base j f fd ps m) (d : DfM G dx dv du) (ha : RfA G E tA mA) : Rf G E (tCall (spM G ps.length m) dv E tA) (mCall m dx mA) := by
  refine ⟨fun r H h s σ Q hR sR p => ha.run r H h s σ _ hR sR (p.seq fun x h1 r1 H1 v s1 hR1 v1 p1 => ?_)⟩
  exact F.run hR1 (v1.app (d.r _ _)) p1
theorem me_call (C : XC G E X k) (F : FnM G X.prog X.w X.mg X.base j f fd ps m) (d : DfM G dx dv du) (hj : j ≤ k) (hm : X.mg x = some (.ref f)) (hk : PySem.W.keepIn X.K (.ref f) = true) (hb : Binds X.K fd ps du) (ha : MA G E X (e :: es) tA mA) (hg : Gl X x := by rfl)
    (hdb : (x == ("__debug__" : Str)) = false := by decide) (he : starEach (e :: es) X.env = (false, eval e X.env) :: starEach es X.env := by rfl) (hpl : (backTo pos (starEach es X.env)).any (·.1) = false := by rfl) :
    ME G E X (.Call (.Name x p) (e :: es) [] pos) (tCall (spM G ps.length m) dv E tA) (mCall m dx mA) :=
  ⟨pe_call (by rw [C.K]; exact F.ok) (C.room.mono hj) hg hm hk hb d.v C.pass ha.pe hdb he hpl, rf_call F d ha.rf⟩
theorem me_call0 (C : XC G E X k) (F : FnM G X.prog X.w X.mg X.base j f fd ps m) (d : DfM G dx dv du) (hj : j ≤ k) (hm : X.mg x = some (.ref f)) (hk : PySem.W.keepIn X.K (.ref f) = true) (hb : Binds X.K fd ps du) (hg : Gl X x := by rfl)
    (hdb : (x == ("__debug__" : Str)) = false := by decide) :
    ME G E X (.Call (.Name x p) [] [] pos) (tCall (spM G ps.length m) dv E tNil) (mCall m dx mNil) :=
  ⟨pe_call0 (by rw [C.K]; exact F.ok) (C.room.mono hj) hg hm hk hb d.v C.pass hdb, rf_call F d (ma_nil (X := X)).rf⟩
theorem rf_meth (F : FnM G X.prog X.w X.mg X.base j f fd ps m) {c : Nat} (hc : G.cls[c]? = some D) (hm : Meth G.K D y f) (d : DfM G dx dv du) (ho : Rf G E ta mo) (ha : RfA G E tA mA) : Rf G E (tMeth D y (spM G ps.length m) dv E ta tA) (mMeth c m dx mo mA) := by
  refine ⟨fun r H h s σ Q hR sR p => ho.run r H h s σ _ hR sR (p.seq fun x h1 r1 H1 v s1 hR1 v1 p1 => ?_)⟩
  split at p1
  · rename_i hi
    cases v1 with
    | @ref n a ea =>
      simp only [isIns] at hi
      split at hi
      · rename_i c' fs eo
        have : c = c' := by simpa using hi
        subst this
        cases hR1.ob _ _ _ eo ea with
        | @ins _ D' _ _ _ _ hc' hC hH hf =>
          rw [hc] at hc'
          cases hc'
          refine ⟨_, _, _, rfl, hH, ?_, ?_⟩
          · have key : ∀ {fs : List (Nat × Val)} {gs : List (Str × V)}, FR G r1 H1 D fs gs → gs.lookup y = none := by
              intro fs gs hf
              induction hf with
              | nil => rfl
              | @cons f' z x' v' fs gs hz na _ _ ih =>
                have : y ≠ z := fun q => by
                  subst q
                  have h1 := hm.at_
                  have h2 : PySem.W.findIn G.K (.ref D) y = some none := na
                  rw [h2] at h1
                  cases h1
                rw [List.lookup_cons, beq_eq_false_iff_ne.mpr this]
                exact ih
            exact key hf
          · refine ha.run r1 H1 h1 s σ _ hR1 (sR.mono s1) (p1.seq fun xs h2 r2 H2 vs s2 hR2 v2 p2 => ?_)
            exact F.run hR2 (.cons (.ref (s2.pre _ _ ea)) (v2.app (d.r _ _))) p2
      · cases hi
    | _ => simp [isIns] at hi
  · exact False.elim p1
theorem me_meth {pl : Sem Bool} (C : XC G E X k) (F : FnM G X.prog X.w X.mg X.base j f fd ps m) (c : Nat) (hc : G.cls[c]? = some D) (hC : Cls X.K D) (hm : Meth X.K D y f) (d : DfM G dx dv du) (hj : j ≤ k) (hb : Binds X.K fd ps du) (ho : ME G E X o ta mo) (ha : MA G E X (e :: es) tA mA)
    (hst : starEach (e :: es) X.env = (false, eval e X.env) :: starEach es X.env := by rfl) (hpl : (backTo pos (starEach es X.env)).any (·.1) = false := by rfl)
    (ht : eval (.Call (.Attribute o y apos) (e :: es) [] pos) X.env = (do
      let ov ← eval o X.env
      standAt apos.atName
      let (f, first) ← holding [ov] (getMethod ov y pl)
      callWith pos f first (backTo pos (starEach (e :: es) X.env)) (backToKw pos (keywordEach [] X.env))) := by rfl) :
    ME G E X (.Call (.Attribute o y apos) (e :: es) [] pos) (tMeth D y (spM G ps.length m) dv E ta tA) (mMeth c m dx mo mA) := by
  refine ⟨pe_meth ho.pe hC hm (by rw [C.K]; exact F.ok) (C.room.mono hj) hb d.v C.pass ha.pe hst hpl ht, rf_meth F hc (by rw [← C.K]; exact hm) d ho.rf ha.rf⟩
theorem me_meth0 {pl : Sem Bool} (C : XC G E X k) (F : FnM G X.prog X.w X.mg X.base j f fd ps m) (c : Nat) (hc : G.cls[c]? = some D) (hC : Cls X.K D) (hm : Meth X.K D y f) (d : DfM G dx dv du) (hj : j ≤ k) (hb : Binds X.K fd ps du) (ho : ME G E X o ta mo)
    (ht : eval (.Call (.Attribute o y apos) [] [] pos) X.env = (do
      let ov ← eval o X.env
      standAt apos.atName
      let (f, first) ← holding [ov] (getMethod ov y pl)
      callWith pos f first (backTo pos (starEach [] X.env)) (backToKw pos (keywordEach [] X.env))) := by rfl) :
    ME G E X (.Call (.Attribute o y apos) [] [] pos) (tMeth D y (spM G ps.length m) dv E ta tNil) (mMeth c m dx mo mNil) := by
  refine ⟨pe_meth0 ho.pe hC hm (by rw [C.K]; exact F.ok) (C.room.mono hj) hb d.v C.pass ht, rf_meth F hc (by rw [← C.K]; exact hm) d ho.rf (ma_nil (X := X)).rf⟩
theorem rf_make (F : FnM G X.prog X.w X.mg X.base j f fd ps m) {c : Nat} (hc : G.cls[c]? = some D) (hC : Cls G.K D) (d : DfM G dx dv du) (ha : RfA G E tA mA) : Rf G E (tMake D (spM G ps.length m) dv E tA) (mMake c m dx mA) := by
  refine ⟨fun r H h s σ Q hR sR p => ha.run r H h s σ _ hR sR (p.seq fun xs h1 r1 H1 vs s1 hR1 v1 p1 => ?_)⟩
  intro x ex nx nex ne
  have hx : (upd H1 ex (.own x)) x = none := by rw [upd_ne (Ne.symm ne)]; exact nx
  have st : Stp G.K r1 H1 (r1 ++ [x]) (upd (upd H1 ex (.own x)) x (.ins D ex [])) := (Stp.new0 (K := G.K) (r := r1) (u := .own x) nex).trans (Stp.new hx)
  have hR2 : HR G (r1 ++ [x]) (upd (upd H1 ex (.own x)) x (.ins D ex [])) (h1 ++ [.ins c []]) := (hR1.lay nex).push hx (.ins hc hC upd_same .nil)
  refine F.run hR2 (.cons (.ref (n := h1.length) ?_) ((v1.mono st).app (d.r _ _))) ?_
  · rw [← hR1.len]
    simp
  · have p2 := p1.shift st
    refine p2.seq fun z h2 r2 H2 v s2 hR3 v2 p3 => ?_
    cases v2 with
    | non =>
      refine ⟨rfl, p3.here hR3 (.ref (s2.pre _ _ ?_))⟩
      rw [← hR1.len]
      simp
    | _ => exact False.elim p3
theorem me_make (C : XC G E X k) (F : FnM G X.prog X.w X.mg X.base j f fd ps m) (c : Nat) (hc : G.cls[c]? = some D) (hC : Cls G.K D) (M : Mk X.K D f) (d : DfM G dx dv du) (hj : j + 1 ≤ k) (hm : X.mg x = some (.ref D)) (hb : Binds X.K fd ps du) (ha : MA G E X (e :: es) tA mA) (hg : Gl X x := by rfl)
    (hdb : (x == ("__debug__" : Str)) = false := by decide) (he : starEach (e :: es) X.env = (false, eval e X.env) :: starEach es X.env := by rfl) (hpl : (backTo pos (starEach es X.env)).any (·.1) = false := by rfl) :
    ME G E X (.Call (.Name x p) (e :: es) [] pos) (tMake D (spM G ps.length m) dv E tA) (mMake c m dx mA) :=
  ⟨pe_make M (by rw [C.K]; exact F.ok) (C.room.mono hj) hg hm hb d.v C.pass ha.pe hdb he hpl, rf_make F hc hC d ha.rf⟩
theorem me_make0 (C : XC G E X k) (F : FnM G X.prog X.w X.mg X.base j f fd ps m) (c : Nat) (hc : G.cls[c]? = some D) (hC : Cls G.K D) (M : Mk X.K D f) (d : DfM G dx dv du) (hj : j + 1 ≤ k) (hm : X.mg x = some (.ref D)) (hb : Binds X.K fd ps du) (hg : Gl X x := by rfl)
    (hdb : (x == ("__debug__" : Str)) = false := by decide) :
    ME G E X (.Call (.Name x p) [] [] pos) (tMake D (spM G ps.length m) dv E tNil) (mMake c m dx mNil) :=
  ⟨pe_make0 M (by rw [C.K]; exact F.ok) (C.room.mono hj) hg hm hb d.v C.pass hdb, rf_make F hc hC d (ma_nil (X := X)).rf⟩
end
end PyM

set_option Elab.async false
set_option linter.all false
set_option maxRecDepth 100000
set_option autoImplicit false
namespace PyM
open PySem L2

/-! ### statements -/
def RS.bind (x : RS) (k : En → Heap → RS) : RS := match x with
  | .nx s h => k s h
  | x => x
def Res.thenS {α : Type} (x : Res α) (k : α → Heap → RS) : RS := match x with
  | .ok a h => k a h
  | .raised c h => .raised c h
  | .stuck => .stuck
def sNx (s : En) (h : Heap) : RS := .nx s h
def sBk (s : En) (h : Heap) : RS := .bk s h
def sCt (s : En) (h : Heap) : RS := .ct s h
def sNever (_ : En) (_ : Heap) : RS := .stuck
def sSeq (a b : En → Heap → RS) (s : En) (h : Heap) : RS := (a s h).bind b
def sDrop (m : En → Heap → Res Val) (s : En) (h : Heap) : RS := (m s h).thenS fun _ h1 => .nx s h1
def sRet (m : En → Heap → Res Val) (s : En) (h : Heap) : RS := (m s h).thenS fun x h1 => .rt x h1
def sRetN (_ : En) (h : Heap) : RS := .rt .non h
def sIf (c : En → Heap → Res Bool) (a b : En → Heap → RS) (s : En) (h : Heap) : RS := (c s h).thenS fun x h1 => if x = true then a s h1 else b s h1
/-- targets -/
def gV (i : Nat) (x : Val) (s : En) : Option En := some (s.set i (some x))
def gsNil (xs : List Val) (s : En) : Option En := if xs.isEmpty = true then some s else none
def gsCons (g : Val → En → Option En) (gs : List Val → En → Option En) (xs : List Val) (s : En) : Option En := match xs with
  | x :: r => (g x s).bind fun s1 => gs r s1
  | [] => none
def gT (gs : List Val → En → Option En) (x : Val) (s : En) : Option En := match x with
  | .tup xs => gs xs s
  | _ => none
def sAsg (g : Val → En → Option En) (m : En → Heap → Res Val) (s : En) (h : Heap) : RS := (m s h).thenS fun x h1 => match g x s with
  | some s1 => .nx s1 h1
  | none => .stuck
def oSet (o i x : Val) (h : Heap) : Res Unit := match o with
  | .ref a => match h[a]? with
    | some (.lst xs) => match i with
      | .int k => match ixN xs.length k with
        | some j => .ok () (h.set a (.lst (xs.set j x)))
        | none => .stuck
      | _ => .stuck
    | some (.dct d) => if isKey i = true ∧ d.length < lim then .ok () (h.set a (.dct (putV d i x))) else .stuck
    | _ => .stuck
  | _ => .stuck
/-- o[i] = e: the value first -/
def sSub (mo mi me : En → Heap → Res Val) (s : En) (h : Heap) : RS := (me s h).thenS fun x h1 => (mo s h1).thenS fun o h2 => (mi s h2).thenS fun i h3 => (oSet o i x h3).thenS fun _ h4 => .nx s h4
/-- o[i], by values: a list's, a dict's -/
def oIxM (x y : Val) (h : Heap) : Res Val := match x with
  | .ref _ => oIx x y h
  | _ => .stuck
/-- o[i] op= e -/
def sSubA (f : Val → Val → Heap → Res Val) (mo mi me : En → Heap → Res Val) (s : En) (h : Heap) : RS := (mo s h).thenS fun o h1 => (mi s h1).thenS fun i h2 => (oIxM o i h2).thenS fun x h3 => (me s h3).thenS fun y h4 => (f x y h4).thenS fun z h5 => (oSet o i z h5).thenS fun _ h6 => .nx s h6
def oSetF (d f : Nat) (o x : Val) (h : Heap) : Res Unit := match o with
  | .ref a => match h[a]? with
    | some (.ins c fs) => if c = d ∧ fs.length < 1000 then .ok () (h.set a (.ins c (setF f x fs))) else .stuck
    | _ => .stuck
  | _ => .stuck
def sFld (d f : Nat) (mo me : En → Heap → Res Val) (s : En) (h : Heap) : RS := (me s h).thenS fun x h1 => (mo s h1).thenS fun o h2 => (oSetF d f o x h2).thenS fun _ h3 => .nx s h3
def sFldA (d f : Nat) (g : Val → Val → Heap → Res Val) (mo me : En → Heap → Res Val) (s : En) (h : Heap) : RS := (mo s h).thenS fun o h1 => (if isIns d o h1 = true then getF f o h1 else .stuck).thenS fun x h2 => (me s h2).thenS fun y h3 => (g x y h3).thenS fun z h4 => (oSetF d f o z h4).thenS fun _ h5 => .nx s h5
def sAug (i : Nat) (g : Val → Val → Heap → Res Val) (me : En → Heap → Res Val) (s : En) (h : Heap) : RS := match s[i]? with
  | some (some x) => (me s h).thenS fun y h1 => (g x y h1).thenS fun z h2 => .nx (s.set i (some z)) h2
  | _ => .stuck

section
variable {G : Cfg} {E : XK}
theorem PostS.seqS {α β : Type} {R1 : List Addr → Hp → α → β → Prop} {r : List Addr} {H : Hp} {x : Res α} {k : α → Heap → RS} {D : Ends} {Q' : β → Hp → Prop}
    (p : PostS G r H E (x.thenS k) D) (f : ∀ a h1 r1 H1 b, Stp G.K r H r1 H1 → HR G r1 H1 h1 → R1 r1 H1 a b → PostS G r1 H1 E (k a h1) D → Q' b H1) : PostR G R1 r H E x Q' := by
  cases x with
  | ok a h => exact fun r' H' b s' hR vR => f a h r' H' b s' hR vR (p.shift s')
  | raised c h => exact p
  | stuck => exact p
theorem PostS.here {r : List Addr} {H : Hp} {s : En} {t : St} {h : Heap} {D : Ends} (p : PostS G r H E (.nx s h) D) (hR : HR G r H h) (v : SR G r H s t) : D.nx t H := p r H t Stp.refl hR v
structure RfG (G : Cfg) (g : TG) (m : Val → En → Option En) : Prop where
  run : ∀ r H s σ x v (Q : St → Hp → Prop), SR G r H s σ → VR G r H x v → (∃ s1, m x s = some s1 ∧ ∀ σ1, SR G r H s1 σ1 → Q σ1 H) → g v σ H Q
structure RfGs (G : Cfg) (g : TGs) (m : List Val → En → Option En) : Prop where
  run : ∀ r H s σ xs vs (Q : St → Hp → Prop), SR G r H s σ → VRs G r H xs vs → (∃ s1, m xs s = some s1 ∧ ∀ σ1, SR G r H s1 σ1 → Q σ1 H) → g vs σ H Q
structure MG (G : Cfg) (X : Cx) (e : Expr) (g : TG) (m : Val → En → Option En) : Prop where
  pe : PG X e g
  rf : RfG G g m
structure MGs (G : Cfg) (X : Cx) (es : List Expr) (g : TGs) (m : List Val → En → Option En) : Prop where
  pe : PGs X es g
  rf : RfGs G g m
variable {X : Cx} {k : Nat} {a b c e o : Expr} {es : List Expr} {ta tb tc to ti : TE} {ma mb mc mo mi me : En → Heap → Res Val} {pos pos' p2 : Pos} {st : Stmt} {sts sts2 : List Stmt} {t u : TS} {m n : En → Heap → RS} {tt : TT} {mt : En → Heap → Res Bool}
theorem mg_name (i : Nat) {x : Str} (hN : X.N.Nodup) (hi : X.N[i]? = some x := by rfl) (hx : Loc X.env.scope x := by first | exact Or.inl rfl | exact Or.inr rfl) (hf : X.fn x = true ∨ X.env.scope.names.lookup x = some .local := by first | exact .inl rfl | exact .inr rfl | assumption) : MG G X (.Name x pos) (gName i) (gV i) :=
  ⟨pg_name hN hi hx hf, ⟨fun r H s σ x v Q sR vR ⟨s1, e1, q⟩ => by cases e1; exact q _ (sR.set vR i)⟩⟩
theorem mgs_nil : MGs G X [] gNil gsNil := ⟨pgs_nil, ⟨fun r H s σ xs vs Q sR vR ⟨s1, e1, q⟩ => by
  cases vR with
  | nil => cases e1; exact ⟨rfl, q _ sR⟩
  | cons _ _ => simp [gsNil] at e1⟩⟩
theorem mgs_cons {g : TG} {gs : TGs} {mg : Val → En → Option En} {mgs : List Val → En → Option En} (h : MG G X e g mg) (hs : MGs G X es gs mgs) (hx : (assignEach (e :: es) X.env).map (·.2) = assign e X.env :: (assignEach es X.env).map (·.2) := by rfl) : MGs G X (e :: es) (gCons g gs) (gsCons mg mgs) := by
  refine ⟨pgs_cons h.pe hs.pe hx, ⟨fun r H s σ xs vs Q sR vR ⟨s1, e1, q⟩ => ?_⟩⟩
  cases vR with
  | nil => simp [gsCons] at e1
  | cons v1 v2 =>
    simp only [gsCons] at e1
    cases hq : mg _ s with
    | none => rw [hq] at e1; cases e1
    | some s2 =>
      rw [hq] at e1
      exact ⟨_, _, rfl, h.rf.run r H s σ _ _ _ sR v1 ⟨s2, hq, fun σ1 sR1 => hs.rf.run r H s2 σ1 _ _ _ sR1 v2 ⟨s1, e1, q⟩⟩⟩
theorem mg_tup {gs : TGs} {mgs : List Val → En → Option En} {n : Nat} (C : XC G E X k) (h : MGs G X es gs mgs) (hl : ∀ xs s s1, mgs xs s = some s1 → xs.length = n) {kk : Nat}
    (hn : (assignEach es X.env).length = n := by rfl) (hst : (assignEach es X.env).findIdx? (·.1) = none := by rfl) : MG G X (.Tuple es kk pos) (gTup G.K n gs) (gT mgs) := by
  refine ⟨?_, ⟨fun r H s σ x v Q sR vR ⟨s1, e1, q⟩ => ?_⟩⟩
  · have := pg_tup (pos := pos) (k := kk) C.calm h.pe hn hst
    rwa [C.K] at this
  · cases vR with
    | tup hs hv => exact ⟨_, _, rfl, hs, by rw [← hv.len]; exact hl _ _ _ e1, h.rf.run r H s σ _ _ _ sR hv ⟨s1, e1, q⟩⟩
    | _ => cases e1
theorem gs_len0 (xs : List Val) (s s1 : En) (h : gsNil xs s = some s1) : xs.length = 0 := by
  cases xs with
  | nil => rfl
  | cons _ _ => simp [gsNil] at h
theorem gs_lenS {g : Val → En → Option En} {gs : List Val → En → Option En} {n : Nat} (ih : ∀ xs s s1, gs xs s = some s1 → xs.length = n) (xs : List Val) (s s1 : En) (h : gsCons g gs xs s = some s1) : xs.length = n + 1 := by
  cases xs with
  | nil => simp [gsCons] at h
  | cons x r =>
    simp only [gsCons] at h
    cases q : g x s with
    | none => rw [q] at h; cases h
    | some s2 => rw [q] at h; rw [List.length_cons, ih _ _ _ h]

/-! ### rules -/
theorem mss_nil : MSs G E X [] tNext sNx := ⟨pss_nil, ⟨fun r H h s σ D hR sR p => p.here hR sR⟩⟩
theorem PostS.ends {r : List Addr} {H : Hp} {x : RS} {D D' : Ends} (p : PostS G r H E x D) (h1 : D'.rt = D.rt) (h2 : D'.bk = D.bk) (h3 : D'.ct = D.ct) (h4 : ∀ s h, x ≠ .nx s h) : PostS G r H E x D' := by
  cases x with
  | nx s h => exact absurd rfl (h4 s h)
  | rt v h => intro r' H' v'; rw [h1]; exact p r' H' v'
  | bk s h => intro r' H' v'; rw [h2]; exact p r' H' v'
  | ct s h => intro r' H' v'; rw [h3]; exact p r' H' v'
  | raised c h => exact p
  | stuck => exact p
theorem mss_cons (h : MS G E X st t m) (h2 : MSs G E X sts u n) : MSs G E X (st :: sts) (tSeq t u) (sSeq m n) := by
  refine ⟨pss_cons h.pe h2.pe, ⟨fun r H hh s σ D hR sR p => h.rf.run r H hh s σ _ hR sR ?_⟩⟩
  unfold sSeq at p
  cases q : m s hh with
  | nx s1 h1 =>
    rw [q] at p
    exact fun r1 H1 σ1 s1' hR1 sR1 => h2.rf.run r1 H1 h1 s1 σ1 D hR1 sR1 (PostS.shift s1' p)
  | rt v h => rw [q] at p; exact p
  | bk v h => rw [q] at p; exact p
  | ct v h => rw [q] at p; exact p
  | raised v h => rw [q] at p; exact p
  | stuck => rw [q] at p; exact p
theorem mss_one (h : MS G E X st t m) : MSs G E X [st] t m := ⟨pss_one h.pe, h.rf⟩
theorem ms_pass : MS G E X (.Pass pos) tNext sNx := ⟨ps_pass, ⟨fun r H h s σ D hR sR p => p.here hR sR⟩⟩
theorem ms_break : MS G E X (.Break pos) tBreak sBk := ⟨ps_break, ⟨fun r H h s σ D hR sR p => p r H σ Stp.refl hR sR⟩⟩
theorem ms_continue : MS G E X (.Continue pos) tCont sCt := ⟨ps_continue, ⟨fun r H h s σ D hR sR p => p r H σ Stp.refl hR sR⟩⟩
theorem ms_never : MS G E X st tNever sNever := ⟨ps_never, ⟨fun r H h s σ D hR sR p => p⟩⟩
theorem ms_expr (ha : ME G E X a ta ma) (hs : swapsWith a none pos.line X.env = pure false := by rfl) : MS G E X (.Expr a pos) (tDrop ta) (sDrop ma) :=
  ⟨ps_expr ha.pe hs, ⟨fun r H h s σ D hR sR p => ha.rf.run r H h s σ _ hR sR (p.seqS fun x h1 r1 H1 v s1 hR1 v1 p1 => p1.here hR1 (sR.mono s1))⟩⟩
theorem ms_ret (ha : ME G E X a ta ma) : MS G E X (.Return (some a) pos) (tRet ta) (sRet ma) :=
  ⟨ps_ret ha.pe, ⟨fun r H h s σ D hR sR p => ha.rf.run r H h s σ _ hR sR (p.seqS fun x h1 r1 H1 v s1 hR1 v1 p1 => p1 r1 H1 v Stp.refl hR1 v1)⟩⟩
theorem ms_retN : MS G E X (.Return none pos) tRetN sRetN := ⟨ps_retN, ⟨fun r H h s σ D hR sR p => p r H _ Stp.refl hR .non⟩⟩
theorem ms_if (hc : MT G E X c tt mt) (h1 : MSs G E X sts t m) (h2 : MSs G E X sts2 u n) : MS G E X (.If c sts sts2 pos) (tIfS tt t u) (sIf mt m n) := by
  refine ⟨ps_if hc.pe h1.pe h2.pe, ⟨fun r H h s σ D hR sR p => hc.rf.run r H h s σ _ hR sR (p.seqS fun x h1' r1 H1 v s1 hR1 v1 p1 => ?_)⟩⟩
  subst v1
  split at p1
  · rename_i q
    rw [if_pos q]
    exact h1.rf.run r1 H1 h1' s σ D hR1 (sR.mono s1) p1
  · rename_i q
    rw [if_neg q]
    exact h2.rf.run r1 H1 h1' s σ D hR1 (sR.mono s1) p1
theorem ms_asg {tg : Expr} {g : TG} {mg : Val → En → Option En} (ha : ME G E X a ta ma) (hg : MG G X tg g mg) (hs : swapsWithSole [tg] a pos.line X.env = pure false := by rfl) (hw : swappedStores [tg] a X.env = pure none := by rfl) (h1 : (assignEach [tg] X.env).map (·.2) = [assign tg X.env] := by rfl) : MS G E X (.Assign [tg] a pos) (tAsg ta g) (sAsg mg ma) := by
  refine ⟨ps_asg ha.pe hg.pe hs hw h1, ⟨fun r H h s σ D hR sR p => ha.rf.run r H h s σ _ hR sR (p.seqS fun x h1' r1 H1 v s1 hR1 v1 p1 => ?_)⟩⟩
  cases q : mg x s with
  | none => rw [q] at p1; exact False.elim p1
  | some s2 => rw [q] at p1; exact hg.rf.run r1 H1 s σ x v _ (sR.mono s1) v1 ⟨s2, q, fun σ1 sR1 => p1.here hR1 sR1⟩
/-- a store to a list's place, to a dict's key -/
def rSetA : TSet := fun o i v H Q => rSetL o i v H Q ∨ ∃ a H1, o = .ref a ∧ DPut H a i v H1 ∧ Q H1
theorem set_all (hu : X.A.units + 1 < cLine) : PSet X rSetA := by
  intro pins s σ H o i v ov iv u Q I r1 r2 r3 q
  rcases q with q | ⟨a, H1, e, g, q⟩
  · exact set_list pins s σ H o i v ov iv u Q I r1 r2 r3 q
  · subst e
    obtain rfl : ov = Value.ref a := r1
    exact d_setItem hu I g r2 r3 fun s4 I4 => ⟨H1, I4, q⟩
theorem rf_set (ok : G.Ok) {r : List Addr} {H : Hp} {h : Heap} {o i x : Val} {ov iv v : V} {Q : Hp → Prop} (hR : HR G r H h) (r1 : VR G r H o ov) (r2 : VR G r H i iv) (r3 : VR G r H x v)
    (p : ∃ h1, oSet o i x h = .ok () h1 ∧ ∀ H1, Stp G.K r H r H1 → HR G r H1 h1 → Q H1) : rSetA ov iv v H Q := by
  obtain ⟨h1, p, q⟩ := p
  cases r1 with
  | @ref n a ea =>
    simp only [oSet] at p
    split at p
    · rename_i xs eo
      split at p
      · rename_i kk
        cases r2
        split at p
        · rename_i j ej
          cases p
          cases hR.ob _ _ _ eo ea with
          | lst hl hv =>
            refine .inl ⟨_, _, _, j, rfl, rfl, hl, by rw [← hv.len]; exact ej, q _ (Stp.upd fun o e => by rw [hl] at e; cases e; trivial) ?_⟩
            refine hR.write eo rfl ea (fun o e => by rw [hl] at e; cases e; trivial) (.lst upd_same ?_) rfl
            exact VRs.mono (Stp.upd fun o e => by rw [hl] at e; cases e; trivial) _ _ (VRs.set r3 j hv)
        · cases p
      · cases p
    · rename_i d eo
      split at p
      · rename_i hk
        cases p
        cases hR.ob _ _ _ eo ea with
        | dct hd hv =>
          obtain ⟨kq, hkq, rfl⟩ := KR.of r2 hk.1
          have st : ∀ u, Stp G.K r H r (upd H a u) := fun u => Stp.upd fun o e => by rw [hd] at e; cases e; trivial
          refine .inr ⟨_, _, rfl, DPut.k hd (lt_line (by rw [← hv.len]; exact hk.2)), q _ (st _) ?_⟩
          refine hR.write eo rfl ea (fun o e => by rw [hd] at e; cases e; trivial) (.dct upd_same ?_) rfl
          exact (hv.put ok hkq r3).mono (st _)
      · cases p
    · cases p
  | _ => cases p
theorem thenS_ok {α : Type} {r : List Addr} {H : Hp} {x : Res α} {k : α → Heap → RS} {D : Ends} (p : PostS G r H E (x.thenS k) D) (hn : ∀ c h, x ≠ .raised c h) : ∃ a h1, x = .ok a h1 ∧ PostS G r H E (k a h1) D := by
  cases x with
  | ok a h => exact ⟨a, h, rfl, p⟩
  | raised c h => exact absurd rfl (hn c h)
  | stuck => exact False.elim p
theorem oSet_nr (o i x : Val) (h : Heap) : ∀ c h1, oSet o i x h ≠ .raised c h1 := by
  intro c h1 e
  unfold oSet at e
  (repeat' split at e) <;> cases e
theorem ms_sub (ok : G.Ok) (C : XC G E X k) (ho : ME G E X o to mo) (hi : ME G E X b ti mi) (ha : ME G E X a ta ma) (hs : swapsWithSole [.Subscript o b pos'] a pos.line X.env = pure false := by rfl) (hw : swappedStores [.Subscript o b pos'] a X.env = pure none := by rfl)
    (hx : ∀ v, assign (.Subscript o b pos') X.env v = (do
      let ov ← holding [v] (eval o X.env)
      let iv ← holding [v, ov] (eval b X.env)
      standAt pos'
      holding [v, ov, iv] (setItem ov iv v)
      release [v, ov, iv] []) := by intro _; rfl) (h1 : (assignEach [.Subscript o b pos'] X.env).map (·.2) = [assign (.Subscript o b pos') X.env] := by rfl) :
    MS G E X (.Assign [.Subscript o b pos'] a pos) (tAsg ta (gSub to ti rSetA)) (sSub mo mi ma) := by
  refine ⟨ps_asg ha.pe (pg_sub ho.pe hi.pe (set_all (by have := C.hu; omega)) hx) hs hw h1, ⟨fun r H h s σ D hR sR p => ha.rf.run r H h s σ _ hR sR (p.seqS fun x h1 r1 H1 v s1 hR1 v1 p1 => ?_)⟩⟩
  refine ho.rf.run r1 H1 h1 s σ _ hR1 (sR.mono s1) (p1.seqS fun y h2 r2 H2 w s2 hR2 v2 p2 => ?_)
  refine hi.rf.run r2 H2 h2 s σ _ hR2 (sR.mono (s1.trans s2)) (p2.seqS fun z h3 r3 H3 w3 s3 hR3 v3 p3 => ?_)
  obtain ⟨_, h4, e4, p4⟩ := thenS_ok p3 (oSet_nr _ _ _ _)
  refine rf_set ok hR3 (v2.mono s3) v3 (v1.mono (s2.trans s3)) ⟨h4, e4, fun H4 s4 hR4 => ?_⟩
  exact (p4.shift s4).here hR4 (sR.mono ((s1.trans s2).trans (s3.trans s4)))
def rGetA (K : PySem.W.Frag) : V → V → Hp → VK → Prop := fun x y H Q => rIxL K x y H Q ∨ rDGetR x y H Q
theorem get_all (hu : X.A.units + 1 < cLine) : PGet X (rGetA X.K) := by
  intro pins s σ H x y v u Q I rx ry q
  rcases q with h | ⟨a, z, rfl, g, q⟩
  · obtain ⟨p, xs, i, z, rfl, rfl, hq, he, q⟩ := h
    cases rx
    obtain ⟨t, rfl⟩ := ry
    obtain ⟨its, r, pl, hz⟩ := I.list hq
    obtain ⟨j, h1, h2, h3, h4, h5⟩ := atI_get he
    obtain ⟨w, ew, rw'⟩ := r.get h2
    have hl := r.length
    have hn := line63
    have fin : EP X pins σ Q w s := ⟨z, H, I, rw', q⟩
    by_cases h0 : 0 ≤ i
    · have hj : i.toNat = j := by
        rw [seqIndex_of h0 h5] at h1
        exact Option.some.inj h1
      exact wpAny_getItem_list pl.isList h0 (by omega) (by rw [hj]; simpa using ew) fin
    · have hj : (i + (its.toArray.size : Int)).toNat = j := by
        rw [seqIndex_neg (by omega) h4] at h1
        rw [List.size_toArray, ← hl]
        exact Option.some.inj h1
      exact wpAny_getItem_list_neg pl.isList (by omega) (by rw [List.size_toArray] <;> omega) (by omega) (by rw [hj]; simpa using ew) fin
  · obtain rfl : v = Value.ref a := rx
    exact d_getItem hu I g ry fun w' s3 I3 rw' => ⟨z, H, I3, rw', q⟩
theorem rf_get (ok : G.Ok) {r : List Addr} {H : Hp} {h : Heap} {x y : Val} {v u : V} {Q : VK} (hR : HR G r H h) (a : VR G r H x v) (b : VR G r H y u) (p : PostR G (VR G) r H E (oIxM x y h) Q) : rGetA G.K v u H Q := by
  cases a with
  | @ref n a ea =>
    simp only [oIxM, oIx] at p
    split at p
    · rename_i xs eo
      split at p
      · split at p
        · rename_i z ez
          cases b
          cases hR.ob _ _ _ eo ea with
          | lst hl va =>
            obtain ⟨j, e1, e2⟩ := atI_len va.len ez
            obtain ⟨w, e3, vw⟩ := va.get e1
            exact .inl ⟨_, _, _, _, rfl, rfl, SqL.of hl, e2 _ e3, p.here hR vw⟩
        · exact False.elim p
      · exact False.elim p
    · rename_i xs eo
      split at p
      · split at p
        · rename_i z ez
          cases b
          cases hR.ob _ _ _ eo ea with
          | fls hl va =>
            obtain ⟨j, e1, e2⟩ := atI_len va.len ez
            obtain ⟨w, e3, vw⟩ := va.get e1
            exact .inl ⟨_, _, _, _, rfl, rfl, hl.sq, e2 _ e3, p.here hR vw⟩
        · exact False.elim p
      · exact False.elim p
    · rename_i d eo
      split at p
      · rename_i hk
        split at p
        · rename_i z ez
          cases hR.ob _ _ _ eo ea with
          | dct hd hv =>
            obtain ⟨q, kq, rfl⟩ := KR.of b hk
            rcases hv.look ok kq with ⟨e1, _⟩ | ⟨x', v', e1, e2, v2⟩
            · rw [e1] at ez
              cases ez
            · rw [e1] at ez
              cases ez
              exact .inr ⟨_, _, rfl, by rw [← e2]; exact DGet.k hd, p.here hR v2⟩
        · exact False.elim p
      · exact False.elim p
    · rename_i d eo
      split at p
      · rename_i hk
        split at p
        · rename_i z ez
          cases hR.ob _ _ _ eo ea with
          | fdc hd hv =>
            obtain ⟨q, kq, rfl⟩ := KR.of b hk
            rcases hv.look ok kq with ⟨e1, _⟩ | ⟨x', v', e1, e2, v2⟩
            · rw [e1] at ez
              cases ez
            · rw [e1] at ez
              cases ez
              exact .inr ⟨_, _, rfl, by rw [← e2]; exact DGet_kf hd, p.here hR v2⟩
        · exact False.elim p
      · exact False.elim p
    · exact False.elim p
  | _ => exact False.elim p
theorem ia_add : PIp X .Add (rI0 fun i j => .int (i + j)) := fun pins s σ H x y v u Q I r1 r2 h => iop_add pins s σ H x y v u Q I r1 r2 h
theorem ia_sub : PIp X .Sub (rI0 fun i j => .int (i - j)) := fun pins s σ H x y v u Q I r1 r2 h => iop_sub pins s σ H x y v u Q I r1 r2 h
theorem ms_subA (ok : G.Ok) (C : XC G E X k) {op : Operator} {t : TIp} {f : Val → Val → Heap → Res Val} (hop : PIp X op t) (hf : Rf2 G E t f) (ho : ME G E X o to mo) (hi : ME G E X b ti mi) (ha : ME G E X a ta ma)
    (hs : ∀ ov iv new, augStore b ov iv new = (do holding [new, ov, iv] (setItem ov iv new); release [new, ov, iv] []; pure .next) := by intros; rfl) :
    MS G E X (.AugAssign (.Subscript o b pos') op a pos) (tAugS to ti ta (rGetA G.K) t rSetA) (sSubA f mo mi ma) := by
  refine ⟨?_, ⟨fun r H h s σ D hR sR p => ho.rf.run r H h s σ _ hR sR (PostS.seqS (sSub_eq p) fun x h1 r1 H1 v s1 hR1 v1 p1 => ?_)⟩⟩
  · have := ps_augS (pos := pos) (tpos := pos') ho.pe hi.pe (get_all (X := X) (by have := C.hu; omega)) ha.pe hop (set_all (by have := C.hu; omega)) hs
    rwa [C.K] at this
  · refine hi.rf.run r1 H1 h1 s σ _ hR1 (sR.mono s1) (p1.seqS fun y h2 r2 H2 w s2 hR2 v2 p2 => ?_)
    refine rf_get (E := E) ok hR2 (v1.mono s2) v2 (p2.seqS fun z h3 r3 H3 w3 s3 hR3 v3 p3 => ?_)
    refine ha.rf.run r3 H3 h3 s σ _ hR3 (sR.mono ((s1.trans s2).trans s3)) (p3.seqS fun y' h4 r4 H4 w4 s4 hR4 v4 p4 => ?_)
    refine hf.run r4 H4 h4 z y' w3 w4 _ hR4 (v3.mono s4) v4 (p4.seqS fun z' h5 r5 H5 w5 s5 hR5 v5 p5 => ?_)
    obtain ⟨_, h6, e6, p6⟩ := thenS_ok p5 (oSet_nr _ _ _ _)
    have sA := (s3.trans s4).trans s5
    refine rf_set ok hR5 (v1.mono (s2.trans sA)) (v2.mono sA) v5 ⟨h6, e6, fun H6 s6 hR6 => ?_⟩
    exact (p6.shift s6).here hR6 (sR.mono (((s1.trans s2).trans sA).trans s6))
where
  sSub_eq {r H s h D} {mo mi me : En → Heap → Res Val} {f : Val → Val → Heap → Res Val} (p : PostS G r H E (sSubA f mo mi me s h) D) : PostS G r H E ((mo s h).thenS fun o h1 => (mi s h1).thenS fun i h2 => (oIxM o i h2).thenS fun x h3 => (me s h3).thenS fun y h4 => (f x y h4).thenS fun z h5 => (oSet o i z h5).thenS fun _ h6 => .nx s h6) D := p
/-! fields -/
theorem FR.len {r : List Addr} {H : Hp} {D : Addr} {fs gs} (q : FR G r H D fs gs) : fs.length = gs.length := by
  induction q with
  | nil => rfl
  | cons _ _ _ _ ih => simp [ih]
theorem FR.put (ok : G.Ok) {r : List Addr} {H : Hp} {D : Addr} {fs gs} (q : FR G r H D fs gs) {f : Nat} {z : Str} {x : Val} {v : V} (hz : G.nms[f]? = some z) (na : NoAttr G.K D z) (hv : VR G r H x v) : FR G r H D (setF f x fs) (putF z v gs) := by
  induction q with
  | nil => exact .cons hz na hv .nil
  | @cons g y x' v' fs gs hy na' hv' _ ih =>
    unfold setF putF
    by_cases e : g = f
    · subst e
      rw [hz] at hy
      cases hy
      rw [if_pos rfl, if_pos rfl]
      exact .cons hz na hv (by assumption)
    · have : ¬ y = z := fun q => e (by
        subst q
        obtain ⟨h1, e1⟩ := List.getElem?_eq_some_iff.mp hy
        obtain ⟨h2, e2⟩ := List.getElem?_eq_some_iff.mp hz
        exact (List.getElem_inj ok.nn).mp (e1.trans e2.symm))
      rw [if_neg e, if_neg this]
      exact .cons hy na' hv' ih
theorem oSetF_nr (d f : Nat) (o x : Val) (h : Heap) : ∀ c h1, oSetF d f o x h ≠ .raised c h1 := by
  intro c h1 e
  unfold oSetF at e
  (repeat' split at e) <;> cases e
theorem rf_setF (ok : G.Ok) {r : List Addr} {H : Hp} {h h1 : Heap} {o x : Val} {ov v : V} {d f : Nat} {B : Addr} {z : Str} (hz : G.nms[f]? = some z) (hB : G.cls[d]? = some B) (na : NoAttr G.K B z) {Q : Hp → Prop} (hR : HR G r H h) (r1 : VR G r H o ov) (r3 : VR G r H x v) (p : oSetF d f o x h = .ok () h1)
    (q : ∀ H1, Stp G.K r H r H1 → HR G r H1 h1 → Q H1) : ∃ a dx fs, ov = .ref a ∧ H a = some (.ins B dx fs) ∧ Cls G.K B ∧ NoAttr G.K B z ∧ fs.length < 1000 ∧ Q (upd H a (.ins B dx (putF z v fs))) := by
  cases r1 with
  | @ref n a ea =>
    simp only [oSetF] at p
    split at p
    · rename_i c fs eo
      split at p
      · rename_i hl
        obtain ⟨rfl, hl⟩ := hl
        cases p
        cases hR.ob _ _ _ eo ea with
        | ins hc hC hH hf =>
          rw [hB] at hc
          cases hc
          have st : ∀ u, Stp G.K r H r (upd H a u) := fun u => Stp.upd fun o e => by rw [hH] at e; cases e; trivial
          refine ⟨_, _, _, rfl, hH, hC, na, by rw [← hf.len]; exact hl, q _ (st _) ?_⟩
          exact hR.write eo rfl ea (fun o e => by rw [hH] at e; cases e; trivial) (.ins hB hC upd_same ((hf.put ok hz na r3).mono (st _))) rfl
      · cases p
    · cases p
  | _ => cases p
theorem ms_fld (ok : G.Ok) (C : XC G E X k) (d f : Nat) {B : Addr} {z : Str} (hz : G.nms[f]? = some z) (hB : G.cls[d]? = some B) (na : NoAttr G.K B z) (ho : ME G E X o to mo) (ha : ME G E X a ta ma) (hs : swapsWith a (some (.Attribute o z pos')) pos.line X.env = pure false := by rfl) :
    MS G E X (.Assign [.Attribute o z pos'] a pos) (L2.sFld G.K to ta z) (sFld d f mo ma) := by
  refine ⟨?_, ⟨fun r H h s σ D hR sR p => ha.rf.run r H h s σ _ hR sR (p.seqS fun x h1 r1 H1 v s1 hR1 v1 p1 => ?_)⟩⟩
  · have := ps_fld ho.pe ha.pe hs
    rwa [C.K] at this
  · refine ho.rf.run r1 H1 h1 s σ _ hR1 (sR.mono s1) (p1.seqS fun y h2 r2 H2 w s2 hR2 v2 p2 => ?_)
    obtain ⟨_, h3, e3, p3⟩ := thenS_ok p2 (oSetF_nr _ _ _ _ _)
    obtain ⟨a', dx', fs', q1, q2, q3, q4, q5, q6⟩ := rf_setF (Q := fun H3 => D.nx σ H3) ok hz hB na hR2 v2 (v1.mono s2) e3 fun H3 s3 hR3 => (p3.shift s3).here hR3 (sR.mono ((s1.trans s2).trans s3))
    exact ⟨a', B, dx', fs', q1, q2, q3, q4, q5, q6⟩
theorem getF_nr (f : Nat) (o : Val) (h : Heap) : ∀ c h1, getF f o h ≠ .raised c h1 := by
  intro c h1 e
  unfold getF at e
  (repeat' split at e) <;> cases e
theorem getF_ok {f : Nat} {o x : Val} {h h1 : Heap} (p : getF f o h = .ok x h1) : ∃ n c fs, o = .ref n ∧ h[n]? = some (.ins c fs) ∧ lookF f fs = some x ∧ h1 = h := by
  unfold getF at p
  split at p
  · split at p
    · rename_i c fs eo
      split at p
      · rename_i v ev
        cases p
        exact ⟨_, c, fs, rfl, eo, ev, rfl⟩
      · cases p
    · cases p
  · cases p
theorem ms_fldA (ok : G.Ok) (C : XC G E X k) (d f : Nat) {B : Addr} {z : Str} (hz : G.nms[f]? = some z) (hB : G.cls[d]? = some B) (na : NoAttr G.K B z) {op : Operator} {t : TIp} {g : Val → Val → Heap → Res Val} (hop : PIp X op t) (hg : Rf2 G E t g)
    (ho : ME G E X o to mo) (ha : ME G E X a ta ma) : MS G E X (.AugAssign (.Attribute o z pos') op a pos) (sFldAug G.K to ta t z) (sFldA d f g mo ma) := by
  refine ⟨?_, ⟨fun r H h s σ D hR sR p => ho.rf.run r H h s σ _ hR sR (p.seqS fun x h1 r1 H1 v s1 hR1 v1 p1 => ?_)⟩⟩
  · have := ps_fldaug (pos := pos) (tpos := pos') (f := z) (rd := t) ho.pe ha.pe (fun pins s σ H x y u v Q I r1 r2 h => hop pins s σ H x y u v Q I r1 r2 h)
    rwa [C.K] at this
  · obtain ⟨y, h2, e2, p2⟩ := thenS_ok p1 (by
      intro c h
      split
      · exact getF_nr _ _ _ _ _
      · exact fun q => by cases q)
    split at e2
    · rename_i hi
      obtain ⟨n, c, fs, rfl, eo, el, rfl⟩ := getF_ok e2
      simp only [isIns, eo, beq_iff_eq] at hi
      subst hi
      cases v1 with
      | ref ea =>
        cases hR1.ob _ _ _ eo ea with
        | ins hc hC hH hf =>
          rw [hB] at hc
          cases hc
          rcases hf.look ok hz with ⟨e1, _⟩ | ⟨x', v', e1, e2', v2, na'⟩
          · rw [e1] at el
            cases el
          · rw [e1] at el
            cases el
            refine ⟨_, _, _, _, _, rfl, hH, hC, na', e2', ?_⟩
            refine ha.rf.run r1 H1 h2 s σ _ hR1 (sR.mono s1) (p2.seqS fun y' h4 r4 H4 w4 s4 hR4 v4 p4 => ?_)
            refine hg.run r4 H4 h4 _ y' v' w4 _ hR4 (v2.mono s4) v4 (p4.seqS fun z' h5 r5 H5 w5 s5 hR5 v5 p5 => ?_)
            obtain ⟨_, h6, e6, p6⟩ := thenS_ok p5 (oSetF_nr _ _ _ _ _)
            obtain ⟨a', dx', fs', q1, q2, q3, q4, q5, q6⟩ := rf_setF (Q := fun H6 => D.nx σ H6) ok hz hB na hR5 (.ref ((s4.trans s5).pre _ _ ea)) v5 e6 fun H6 s6 hR6 => (p6.shift s6).here hR6 (sR.mono (s1.trans (s4.trans (s5.trans s6))))
            cases q1
            exact ⟨dx', fs', q2, q5, q6⟩
    · cases e2
theorem ms_aug (i : Nat) {x : Str} {op : Operator} {t : TIp} {g : Val → Val → Heap → Res Val} (hop : PIp X op t) (hg : Rf2 G E t g) (hN : X.N.Nodup) (ha : ME G E X a ta ma) (hi : X.N[i]? = some x := by rfl) (hx : Loc X.env.scope x := by first | exact Or.inl rfl | exact Or.inr rfl)
    (hf : X.fn x = true ∨ X.env.scope.names.lookup x = some .local := by first | exact .inl rfl | exact .inr rfl | assumption) : MS G E X (.AugAssign (.Name x pos') op a pos) (tAug i ta t) (sAug i g ma) := by
  refine ⟨ps_aug hN hi hx ha.pe hop hf, ⟨fun r H h s σ D hR sR p => ?_⟩⟩
  unfold sAug at p
  split at p
  · rename_i x' e
    obtain ⟨v, ev, vR⟩ := sR.get e
    refine ⟨v, ev, ?_⟩
    refine ha.rf.run r H h s σ _ hR sR (p.seqS fun y h1 r1 H1 w s1 hR1 v1 p1 => ?_)
    refine hg.run r1 H1 h1 _ y v w _ hR1 (vR.mono s1) v1 (p1.seqS fun z h2 r2 H2 w2 s2 hR2 v2 p2 => ?_)
    exact p2.here hR2 ((sR.mono (s1.trans s2)).set v2 i)
  · exact False.elim p
end
end PyM

set_option Elab.async false
set_option linter.all false
set_option maxRecDepth 100000
set_option autoImplicit false
namespace PyM
open PySem L2

/-! ### what a loop walks -/
structure Src where
  items : List Val
  chk : Heap → Bool
abbrev MI := En → Heap → Res Src
/-- the source lies under the layer's iterator J -/
structure ItOk (G : Cfg) (r : List Addr) (H : Hp) (J : It) (S : Src) : Prop where
  stop : ∀ r2 H2 h2, Stp G.K r H r2 H2 → HR G r2 H2 h2 → S.chk h2 = true → J.stop S.items.length H2
  go : ∀ r2 H2 h2 (i : Nat) (x : Val), Stp G.K r H r2 H2 → HR G r2 H2 h2 → S.chk h2 = true → S.items[i]? = some x →
    J.go i H2 ∧ ∀ v H3, J.yld i H2 v H3 → ∃ r3, Stp G.K r2 H2 r3 H3 ∧ HR G r3 H3 h2 ∧ VR G r3 H3 x v
structure RfI (G : Cfg) (E : XK) (t : TI) (m : MI) : Prop where
  run : ∀ r H h s σ (R : It → Hp → Prop), HR G r H h → SR G r H s σ → PostR G (fun r1 H1 (S : Src) (J : It) => ItOk G r1 H1 J S) r H E (m s h) R → t σ H R
structure MIt (G : Cfg) (E : XK) (X : Cx) (tg e : Expr) (t : TI) (m : MI) : Prop where
  pe : PI X tg e t
  rf : RfI G E t m
def lstIs (a : Nat) (xs : List Val) (h : Heap) : Bool := match h[a]? with
  | some (.lst ys) => decide (ys = xs)
  | some (.fls ys) => decide (ys = xs)
  | _ => false
def iSeq (m : En → Heap → Res Val) : MI := fun s h => (m s h).bind fun x h1 => match x with
  | .tup xs => .ok ⟨xs, fun _ => true⟩ h1
  | .ref a => match h1[a]? with
    | some (.lst xs) => .ok ⟨xs, lstIs a xs⟩ h1
    | some (.fls xs) => .ok ⟨xs, lstIs a xs⟩ h1
    | _ => .stuck
  | _ => .stuck
def iLst (m : En → Heap → Res Val) : MI := fun s h => (m s h).bind fun x h1 => match x with
  | .ref a => match h1[a]? with
    | some (.lst xs) => .ok ⟨xs, lstIs a xs⟩ h1
    | some (.fls xs) => .ok ⟨xs, lstIs a xs⟩ h1
    | _ => .stuck
  | _ => .stuck
def iTup_ (m : En → Heap → Res Val) : MI := fun s h => (m s h).bind fun x h1 => match x with
  | .tup xs => .ok ⟨xs, fun _ => true⟩ h1
  | _ => .stuck
def rangeV (lo : Int) (n : Nat) : List Val := (List.range n).map fun (i : Nat) => Val.int (lo + (i : Int))
def iRng1 (m : En → Heap → Res (List Val)) : MI := fun s h => (m s h).bind fun xs h1 => match xs with
  | [.int j] => if -(2 ^ 62) ≤ j ∧ j < 2 ^ 62 then .ok ⟨rangeV 0 j.toNat, fun _ => true⟩ h1 else .stuck
  | _ => .stuck
def iRng2 (m : En → Heap → Res (List Val)) : MI := fun s h => (m s h).bind fun xs h1 => match xs with
  | [.int i, .int j] => if -(2 ^ 62) ≤ i ∧ i < 2 ^ 62 ∧ -(2 ^ 62) ≤ j ∧ j < 2 ^ 62 then .ok ⟨rangeV i (j - i).toNat, fun _ => true⟩ h1 else .stuck
  | _ => .stuck
def iAlt (m n : MI) : MI := fun s h => match m s h with
  | .stuck => n s h
  | x => x
section
variable {G : Cfg} {E : XK} {X : Cx} {k : Nat} {a b c e tg : Expr} {es : List Expr} {ta tb tc : TE} {ma mb mc : En → Heap → Res Val} {pos p : Pos} {tA : TA} {mA : En → Heap → Res (List Val)}
theorem rangeV_get {lo : Int} {n i : Nat} : (rangeV lo n)[i]? = if i < n then some (.int (lo + (i : Int))) else none := by
  unfold rangeV
  rw [List.getElem?_map]
  by_cases h : i < n
  · rw [if_pos h, List.getElem?_range h]
    rfl
  · rw [if_neg h, List.getElem?_eq_none (by simpa using h)]
    rfl
theorem itl_ok {r1 : List Addr} {H1 : Hp} {ad : Addr} {xs : List Val} {n : Nat} (ea : r1[n]? = some ad) : ItOk G r1 H1 (Itl G.K ad) ⟨xs, lstIs n xs⟩ := by
  have key : ∀ r2 H2 h2, Stp G.K r1 H1 r2 H2 → HR G r2 H2 h2 → lstIs n xs h2 = true → ∃ vs, SqL G.K H2 ad vs ∧ VRs G r2 H2 xs vs := by
    intro r2 H2 h2 hp hR hc
    unfold lstIs at hc
    split at hc
    · rename_i ys eo
      have : ys = xs := by simpa using hc
      subst this
      cases hR.ob _ _ _ eo (hp.pre _ _ ea) with
      | lst hl hv => exact ⟨_, SqL.of hl, hv⟩
    · rename_i ys eo
      have : ys = xs := by simpa using hc
      subst this
      cases hR.ob _ _ _ eo (hp.pre _ _ ea) with
      | fls hl hv => exact ⟨_, hl.sq, hv⟩
    · cases hc
  refine ⟨fun r2 H2 h2 hp hR hc => ?_, fun r2 H2 h2 i x hp hR hc hx => ?_⟩
  · obtain ⟨vs, h1, h2⟩ := key r2 H2 h2 hp hR hc
    exact ⟨vs, h1, Nat.le_of_eq h2.len.symm⟩
  · obtain ⟨vs, h1, h2⟩ := key r2 H2 h2 hp hR hc
    obtain ⟨v, ev, vv⟩ := h2.get hx
    refine ⟨⟨vs, v, h1, ev⟩, fun v' H3 hy => ?_⟩
    obtain ⟨rfl, hy⟩ := hy
    have := hy vs h1
    rw [ev] at this
    cases this
    exact ⟨r2, Stp.refl, hR, vv⟩
theorem mi_lst (C : XC G E X k) (ha : ME G E X a ta ma) : MIt G E X tg a (iList G.K ta) (iLst ma) := by
  refine ⟨?_, ⟨fun r H h s σ R hR sR p => ha.rf.run r H h s σ _ hR sR (p.seq fun x h1 r1 H1 v s1 hR1 v1 p1 => ?_)⟩⟩
  · have := pi_list (tg := tg) ha.pe
    rwa [C.K] at this
  · cases v1 with
    | @ref n ad ea =>
      simp only at p1
      split at p1
      · rename_i xs eo
        cases hR1.ob _ _ _ eo ea with
        | lst hl hv => exact ⟨_, rfl, ⟨_, SqL.of hl⟩, p1.here hR1 (itl_ok ea)⟩
      · rename_i xs eo
        cases hR1.ob _ _ _ eo ea with
        | fls hl hv => exact ⟨_, rfl, ⟨_, hl.sq⟩, p1.here hR1 (itl_ok ea)⟩
      · exact False.elim p1
    | _ => exact False.elim p1
theorem itr_ok {r1 : List Addr} {H1 : Hp} {lo : Int} {n : Nat} : ItOk G r1 H1 (Itr lo n) ⟨rangeV lo n, fun _ => true⟩ := by
  refine ⟨fun r2 H2 h2 _ _ _ => ?_, fun r2 H2 h2 i x _ hR2 _ hx => ?_⟩
  · show n ≤ (rangeV lo n).length
    simp [rangeV]
  · have hx : (rangeV lo n)[i]? = some x := hx
    rw [rangeV_get] at hx
    split at hx
    · rename_i hi
      cases hx
      refine ⟨hi, fun v H3 hy => ?_⟩
      obtain ⟨rfl, rfl⟩ := hy
      exact ⟨r2, Stp.refl, hR2, .int _⟩
    · cases hx
theorem mi_rng1 (hm : X.mg "range" = none) (ha : MA G E X [a] tA mA) (hg : Gl X "range" := by rfl) (hs : starEach [a] X.env = [(false, eval a X.env)] := by rfl) : MIt G E X tg (.Call (.Name "range" p) [a] [] pos) (L2.iRng1 tA) (iRng1 mA) := by
  refine ⟨pi_range1 hg hm ha.pe hs, ⟨fun r H h s σ R hR sR p => ha.rf.run r H h s σ _ hR sR (p.seq fun x h1 r1 H1 v s1 hR1 v1 p1 => ?_)⟩⟩
  split at p1
  · rename_i j
    cases v1 with
    | cons q1 q2 =>
      cases q1
      cases q2
      split at p1
      · rename_i hj
        exact ⟨j, rfl, hj.1, hj.2, p1.here hR1 itr_ok⟩
      · exact False.elim p1
  · exact False.elim p1
theorem mi_rng2 (hm : X.mg "range" = none) (ha : MA G E X [a, b] tA mA) (hg : Gl X "range" := by rfl) (hs : starEach [a, b] X.env = [(false, eval a X.env), (false, eval b X.env)] := by rfl) (hs2 : starEach [b] X.env = [(false, eval b X.env)] := by rfl) :
    MIt G E X tg (.Call (.Name "range" p) [a, b] [] pos) (L2.iRng2 tA) (iRng2 mA) := by
  refine ⟨pi_range2 hg hm ha.pe hs hs2, ⟨fun r H h s σ R hR sR p => ha.rf.run r H h s σ _ hR sR (p.seq fun x h1 r1 H1 v s1 hR1 v1 p1 => ?_)⟩⟩
  split at p1
  · rename_i i j
    cases v1 with
    | cons q1 q2 => cases q2 with
      | cons q3 q4 =>
        cases q1
        cases q3
        cases q4
        split at p1
        · rename_i hj
          exact ⟨i, j, rfl, hj, p1.here hR1 itr_ok⟩
        · exact False.elim p1
  · exact False.elim p1
theorem itt_ok {r1 : List Addr} {H1 : Hp} {ad : Addr} {xs : List Val} {vs : List V} (hs : SqT G.K H1 ad vs) (hv : VRs G r1 H1 xs vs) : ItOk G r1 H1 (Itt G.K ad) ⟨xs, fun _ => true⟩ := by
  refine ⟨fun r2 H2 h2 hp _ _ => ⟨vs, hp.tup _ _ hs, Nat.le_of_eq hv.len.symm⟩, fun r2 H2 h2 i x hp hR2 _ hx => ?_⟩
  obtain ⟨v, ev, vv⟩ := hv.get hx
  refine ⟨⟨vs, v, hp.tup _ _ hs, ev⟩, fun v' H3 hy => ?_⟩
  obtain ⟨rfl, hy⟩ := hy
  have := hy vs (hp.tup _ _ hs)
  rw [ev] at this
  cases this
  exact ⟨r2, Stp.refl, hR2, vv.mono hp⟩
theorem mi_tup (C : XC G E X k) (ha : ME G E X a ta ma) : MIt G E X tg a (iTup G.K ta) (iTup_ ma) := by
  refine ⟨?_, ⟨fun r H h s σ R hR sR p => ha.rf.run r H h s σ _ hR sR (p.seq fun x h1 r1 H1 v s1 hR1 v1 p1 => ?_)⟩⟩
  · have := pi_tup (tg := tg) ha.pe
    rwa [C.K] at this
  · cases v1 with
    | tup hs hv => exact ⟨_, rfl, ⟨_, hs⟩, p1.here hR1 (itt_ok hs hv)⟩
    | _ => exact False.elim p1
theorem pi_or {tg e : Expr} {t t' : TI} (h : PI X tg e t) (h' : PI X tg e t') : PI X tg e (fun σ H R => t σ H R ∨ t' σ H R) := ⟨fun pins s σ H R I q => q.elim (h.run pins s σ H R I) (h'.run pins s σ H R I)⟩
theorem mi_alt {t t' : TI} {m m' : MI} (h : MIt G E X tg e t m) (h' : MIt G E X tg e t' m') : MIt G E X tg e (fun σ H R => t σ H R ∨ t' σ H R) (iAlt m m') := by
  refine ⟨pi_or h.pe h'.pe, ⟨fun r H hh s σ Q hR sR p => ?_⟩⟩
  unfold iAlt at p
  cases q : m s hh with
  | stuck => rw [q] at p; exact .inr (h'.rf.run r H hh s σ Q hR sR p)
  | ok x y => rw [q] at p; exact .inl (h.rf.run r H hh s σ Q hR sR (by rw [q]; exact p))
  | raised x y => rw [q] at p; exact .inl (h.rf.run r H hh s σ Q hR sR (by rw [q]; exact p))

/-! ### for -/
end
def forM_ (chk : Heap → Bool) (tg : Val → En → Option En) (body : En → Heap → RS) : List Val → En → Heap → RS
  | [], s, h => if chk h = true then .nx s h else .stuck
  | x :: xs, s, h => if chk h = true then match tg x s with
      | some s1 => match body s1 h with
        | .nx s2 h2 => forM_ chk tg body xs s2 h2
        | .ct s2 h2 => forM_ chk tg body xs s2 h2
        | .bk s2 h2 => .nx s2 h2
        | y => y
      | none => .stuck
    else .stuck
def sFor (mi : MI) (tg : Val → En → Option En) (body : En → Heap → RS) (s : En) (h : Heap) : RS := (mi s h).thenS fun S h1 => forM_ S.chk tg body S.items s h1
def whM (c : En → Heap → Res Bool) (body : En → Heap → RS) : Nat → En → Heap → RS
  | 0, _, _ => .stuck
  | n + 1, s, h => (c s h).thenS fun b h1 => if b = true then match body s h1 with
      | .nx s2 h2 => whM c body n s2 h2
      | .ct s2 h2 => whM c body n s2 h2
      | .bk s2 h2 => .nx s2 h2
      | y => y
    else .nx s h1
def wipeE (s : En) : List Nat → En
  | [] => s
  | v :: vs => (wipeE s vs).set v none
def lcM (chk : Heap → Bool) (tg : Val → En → Option En) (mt : En → Heap → Res Bool) (me : En → Heap → Res Val) (s0 : En) (n : Nat) : List Val → Heap → Res Unit
  | [], h => if chk h = true then .ok () h else .stuck
  | x :: xs, h => if chk h = true then match tg x s0 with
      | some s2 => match mt s2 h with
        | .ok b h1 => if b = true then match me s2 h1 with
            | .ok y h2 => match h2[n]? with
              | some (.lst acc) => if acc.length < lim then lcM chk tg mt me s0 n xs (h2.set n (.lst (acc ++ [y]))) else .stuck
              | _ => .stuck
            | _ => .stuck
          else lcM chk tg mt me s0 n xs h1
        | _ => .stuck
      | none => .stuck
    else .stuck
def mLc (mi : MI) (tg : Val → En → Option En) (mt : En → Heap → Res Bool) (me : En → Heap → Res Val) (vs : List Nat) (s : En) (h : Heap) : Res Val := (mi s h).bind fun S h1 => (lcM S.chk tg mt me (wipeE s vs) h1.length S.items (h1 ++ [.lst []])).bind fun _ h2 => .ok (.ref h1.length) h2
section
variable {G : Cfg} {E : XK} {X : Cx} {k : Nat} {a b c e tg iter elt : Expr} {es ifs : List Expr} {ta tb te : TE} {ma mb me : En → Heap → Res Val} {pos p : Pos} {tA : TA} {mA : En → Heap → Res (List Val)} {wi : TI} {mi : MI} {g : TG} {mg : Val → En → Option En}
  {sts : List Stmt} {t : TS} {m : En → Heap → RS} {tt : TT} {mt : En → Heap → Res Bool}
theorem rf_for (hi : RfI G E wi mi) (hg : RfG G g mg) (hb : RfS G E t m) : RfS G E (tFor wi g t) (sFor mi mg m) := by
  refine ⟨fun r H h s σ D hR sR p => hi.run r H h s σ _ hR sR (p.seqS fun S h1 r1 H1 J s1 hR1 J1 p1 => ?_)⟩
  refine ⟨fun i mm σ' H' => ∃ r' h' s', Stp G.K r1 H1 r' H' ∧ HR G r' H' h' ∧ SR G r' H' s' σ' ∧ mm = S.items.length - i ∧ i ≤ S.items.length ∧ PostS G r' H' E (forM_ S.chk mg m (S.items.drop i) s' h') D, ⟨_, r1, h1, s, Stp.refl, hR1, sR.mono s1, rfl, Nat.zero_le _, p1⟩, ?_⟩
  rintro i mm σ' H' ⟨r', h', s', st, hR', sR', rfl, hle, p'⟩
  cases hd : S.items.drop i with
  | nil =>
    have hi : i = S.items.length := by
      have := List.drop_eq_nil_iff.mp hd
      omega
    rw [hd] at p'
    unfold forM_ at p'
    split at p'
    · rename_i hc
      subst hi
      exact .inl ⟨J1.stop r' H' h' st hR' hc, p'.here hR' sR'⟩
    · exact False.elim p'
  | cons x rest =>
    have hlt : i < S.items.length := by
      refine Decidable.byContradiction fun q => ?_
      rw [List.drop_eq_nil_of_le (by omega)] at hd
      cases hd
    have hx : S.items[i]? = some x := by
      have := congrArg (fun l => l[0]?) hd
      simpa using this
    have hr : S.items.drop (i + 1) = rest := by
      rw [← List.drop_drop (i := 1) (j := i), hd]
      rfl
    rw [hd] at p'
    unfold forM_ at p'
    split at p'
    · rename_i hc
      obtain ⟨hgo, hy⟩ := J1.go r' H' h' i x st hR' hc hx
      refine .inr ⟨hgo, fun σ2 H2 => ∃ r2 h2 s2, Stp G.K r1 H1 r2 H2 ∧ HR G r2 H2 h2 ∧ SR G r2 H2 s2 σ2 ∧ PostS G r2 H2 E (forM_ S.chk mg m rest s2 h2) D, ?_, ?_⟩
      · rintro σ2 H2 ⟨r2, h2, s2, q1, q2, q3, q4⟩
        exact ⟨_, by omega, r2, h2, s2, q1, q2, q3, rfl, by omega, by rw [hr]; exact q4⟩
      · intro v H3 hyl
        obtain ⟨r3, st3, hR3, vR⟩ := hy v H3 hyl
        cases e1 : mg x s' with
        | none => rw [e1] at p'; exact False.elim p'
        | some s1' =>
          rw [e1] at p'
          refine hg.run r3 H3 s' σ' x v _ (sR'.mono st3) vR ⟨s1', e1, fun σ1 sR1 => ?_⟩
          refine hb.run r3 H3 h' s1' σ1 _ hR3 sR1 ?_
          simp only at p'
          cases e2 : m s1' h' with
          | nx s2 h2 =>
            rw [e2] at p'
            exact fun r4 H4 t4 st4 hR4 sR4 => ⟨r4, h2, s2, st.trans (st3.trans st4), hR4, sR4, p'.shift (st3.trans st4)⟩
          | ct s2 h2 =>
            rw [e2] at p'
            exact fun r4 H4 t4 st4 hR4 sR4 => ⟨r4, h2, s2, st.trans (st3.trans st4), hR4, sR4, p'.shift (st3.trans st4)⟩
          | bk s2 h2 =>
            rw [e2] at p'
            exact fun r4 H4 t4 st4 hR4 sR4 => p' r4 H4 t4 (st3.trans st4) hR4 sR4
          | rt v2 h2 =>
            rw [e2] at p'
            exact fun r4 H4 t4 st4 hR4 sR4 => p' r4 H4 t4 (st3.trans st4) hR4 sR4
          | raised c2 h2 =>
            rw [e2] at p'
            exact fun r4 H4 t4 st4 hR4 sR4 => p' r4 H4 t4 (st3.trans st4) hR4 sR4
          | stuck =>
            rw [e2] at p'
            exact p'
    · exact False.elim p'
theorem ms_for (C : XC G E X k) (hi : MIt G E X tg iter wi mi) (hg : MG G X tg g mg) (hb : MSs G E X sts t m) (hs : ∀ x, foldedSetIterable iter X.env x = pure x := by intro _; rfl) : MS G E X (.For tg iter sts [] pos) (tFor wi g t) (sFor mi mg m) :=
  ⟨ps_for C.own C.calm hi.pe hg.pe hb.pe hs, rf_for hi.rf hg.rf hb.rf⟩
theorem rf_while (n : Nat) (hc : RfT G E tt mt) (hb : RfS G E t m) : RfS G E (tWhile tt t) (whM mt m n) := by
  refine ⟨fun r H h s σ D hR sR p => ?_⟩
  refine ⟨fun mm σ' H' => ∃ r' h' s', Stp G.K r H r' H' ∧ HR G r' H' h' ∧ SR G r' H' s' σ' ∧ PostS G r' H' E (whM mt m mm s' h') D, ⟨n, r, h, s, Stp.refl, hR, sR, p⟩, ?_⟩
  rintro mm σ' H' ⟨r', h', s', st, hR', sR', p'⟩
  cases mm with
  | zero => exact False.elim p'
  | succ mm =>
    unfold whM at p'
    refine hc.run r' H' h' s' σ' _ hR' sR' (p'.seqS fun b h1 r1 H1 v s1 hR1 v1 p1 => ?_)
    subst v1
    split at p1
    · rename_i hb1
      rw [if_pos hb1]
      refine ⟨fun σ2 H2 => ∃ r2 h2 s2, Stp G.K r H r2 H2 ∧ HR G r2 H2 h2 ∧ SR G r2 H2 s2 σ2 ∧ PostS G r2 H2 E (whM mt m mm s2 h2) D, fun σ2 H2 q => ⟨mm, Nat.lt_succ_self _, q⟩, ?_⟩
      refine hb.run r1 H1 h1 s' σ' _ hR1 (sR'.mono s1) ?_
      cases e2 : m s' h1 with
      | nx s2 h2 =>
        rw [e2] at p1
        exact fun r4 H4 t4 st4 hR4 sR4 => ⟨r4, h2, s2, st.trans (s1.trans st4), hR4, sR4, PostS.shift st4 p1⟩
      | ct s2 h2 =>
        rw [e2] at p1
        exact fun r4 H4 t4 st4 hR4 sR4 => ⟨r4, h2, s2, st.trans (s1.trans st4), hR4, sR4, PostS.shift st4 p1⟩
      | bk s2 h2 =>
        rw [e2] at p1
        exact p1
      | rt v2 h2 =>
        rw [e2] at p1
        exact p1
      | raised c2 h2 =>
        rw [e2] at p1
        exact p1
      | stuck =>
        rw [e2] at p1
        exact p1
    · rename_i hb1
      rw [if_neg hb1]
      exact p1.here hR1 (sR'.mono s1)
theorem ms_while (n : Nat) (C : XC G E X k) (hc : MT G E X c tt mt) (hb : MSs G E X sts t m) : MS G E X (.While c sts [] pos) (tWhile tt t) (whM mt m n) :=
  ⟨ps_while C.own hc.pe hb.pe, rf_while n hc.rf hb.rf⟩

/-! ### list comprehensions -/
theorem SR.setN {r : List Addr} {H : Hp} {s : En} {t : L2.St} (q : SR G r H s t) : ∀ (i : Nat), SR G r H (s.set i none) (t.set i none) := by
  induction q with
  | nil => exact fun _ => .nil
  | no q ih => exact fun i => match i with
    | 0 => .no q
    | i + 1 => .no (ih i)
  | so b q ih => exact fun i => match i with
    | 0 => .no q
    | i + 1 => .so b (ih i)
theorem SR.wipe {r : List Addr} {H : Hp} {s : En} {t : L2.St} (q : SR G r H s t) : ∀ vs : List Nat, SR G r H (wipeE s vs) (L2.wipe t vs)
  | [] => q
  | v :: vs => (SR.wipe q vs).setN v
/-- a comprehension's target stores its own slots alone -/
structure TgW (vs : List Nat) (g : TG) : Prop where
  run : ∀ v σ σ0 H (Q : L2.St → Hp → Prop), L2.wipe σ vs = σ0 → g v σ H Q → g v σ H fun σ2 H2 => L2.wipe σ2 vs = σ0 ∧ Q σ2 H2
structure TgWs (vs : List Nat) (g : TGs) : Prop where
  run : ∀ v σ σ0 H (Q : L2.St → Hp → Prop), L2.wipe σ vs = σ0 → g v σ H Q → g v σ H fun σ2 H2 => L2.wipe σ2 vs = σ0 ∧ Q σ2 H2
theorem wipe_get (σ : L2.St) : ∀ (vs : List Nat) (i : Nat), (L2.wipe σ vs)[i]? = if i ∈ vs then (if i < σ.length then some none else none) else σ[i]?
  | [], i => by simp [L2.wipe]
  | v :: vs, i => by
    unfold L2.wipe
    rw [List.getElem?_set, wipe_length]
    by_cases h : v = i
    · subst h
      simp
    · have h' : ¬ i = v := fun e => h e.symm
      rw [if_neg h, wipe_get σ vs i]
      simp [h']
theorem wipe_set {σ : L2.St} {vs : List Nat} {i : Nat} {o : Option V} (hi : i ∈ vs) : L2.wipe (σ.set i o) vs = L2.wipe σ vs := by
  apply List.ext_getElem?
  intro j
  rw [wipe_get, wipe_get, List.length_set]
  by_cases h : j ∈ vs
  · rw [if_pos h, if_pos h]
  · rw [if_neg h, if_neg h, List.getElem?_set_ne (fun e => h (by rw [← e]; exact hi))]
theorem wipe_wipe {σ : L2.St} {vs : List Nat} : L2.wipe (L2.wipe σ vs) vs = L2.wipe σ vs := by
  apply List.ext_getElem?
  intro j
  rw [wipe_get, wipe_get, wipe_length]
  by_cases h : j ∈ vs <;> simp [h]
theorem tgw_name {vs : List Nat} {i : Nat} (hi : i ∈ vs) : TgW vs (gName i) := ⟨fun v σ σ0 H Q e q => ⟨by rw [wipe_set hi]; exact e, q⟩⟩
theorem tgws_nil {vs : List Nat} : TgWs vs gNil := ⟨fun v σ σ0 H Q e q => ⟨q.1, e, q.2⟩⟩
theorem tgws_cons {vs : List Nat} {g : TG} {gs : TGs} (h : TgW vs g) (hs : TgWs vs gs) (mono : ∀ v σ H (Q Q' : L2.St → Hp → Prop), (∀ σ H, Q σ H → Q' σ H) → g v σ H Q → g v σ H Q') : TgWs vs (gCons g gs) := by
  refine ⟨fun v σ σ0 H Q e ⟨x, r, e1, q⟩ => ⟨x, r, e1, ?_⟩⟩
  exact mono _ _ _ _ _ (fun σ2 H2 z => hs.run r σ2 σ0 H2 Q z.1 z.2) (h.run x σ σ0 H _ e q)
theorem tgw_tup {K : PySem.W.Frag} {vs : List Nat} {n : Nat} {gs : TGs} (h : TgWs vs gs) : TgW vs (gTup K n gs) := ⟨fun v σ σ0 H Q e ⟨a, xs, e1, e2, e3, q⟩ => ⟨a, xs, e1, e2, e3, h.run xs σ σ0 H Q e q⟩⟩
theorem mono_name {i : Nat} : ∀ v σ H (Q Q' : L2.St → Hp → Prop), (∀ σ H, Q σ H → Q' σ H) → gName i v σ H Q → gName i v σ H Q' := fun _ _ _ _ _ f q => f _ _ q
abbrev E0 : XK := L2.E0
theorem rf_lc {vs : List Nat} (hi : RfI G E wi mi) (hg : RfG G g mg) (hw : TgW vs g) (ht : RfT G E0 tt mt) (he : Rf G E0 te me) : Rf G E (tLc wi g tt te vs) (mLc mi mg mt me vs) := by
  refine ⟨fun r H h s σ Q hR sR p => hi.run r H h s σ _ hR sR (p.seq fun S h1 r1 H1 J s1 hR1 J1 p1 => ?_)⟩
  intro D hD
  have st0 : Stp G.K r1 H1 (r1 ++ [D]) (upd H1 D (.lst [])) := Stp.new hD
  have hR0 : HR G (r1 ++ [D]) (upd H1 D (.lst [])) (h1 ++ [.lst []]) := hR1.push hD (.lst upd_same .nil)
  have rD : (r1 ++ [D])[h1.length]? = some D := by rw [← hR1.len]; simp
  have sR1 := ((sR.mono s1).mono st0).wipe vs
  refine ⟨fun i mm H' => ∃ r' h', Stp G.K (r1 ++ [D]) (upd H1 D (.lst [])) r' H' ∧ HR G r' H' h' ∧ mm = S.items.length - i ∧ i ≤ S.items.length ∧
    PostR G (VR G) r' H' E ((lcM S.chk mg mt me (wipeE s vs) h1.length (S.items.drop i) h').bind fun _ h2 => .ok (.ref h1.length) h2) Q, ⟨_, _, _, Stp.refl, hR0, rfl, Nat.zero_le _, p1.shift st0⟩, ?_⟩
  rintro i mm H' ⟨r', h', st, hR', rfl, hle, p'⟩
  have stA := st0.trans st
  cases hd : S.items.drop i with
  | nil =>
    have hi : i = S.items.length := by
      have := List.drop_eq_nil_iff.mp hd
      omega
    rw [hd] at p'
    unfold lcM at p'
    split at p'
    · rename_i hc
      subst hi
      exact .inl ⟨J1.stop r' H' h' stA hR' hc, p'.here hR' (.ref (st.pre _ _ rD))⟩
    · exact False.elim p'
  | cons x rest =>
    have hlt : i < S.items.length := by
      refine Decidable.byContradiction fun q => ?_
      rw [List.drop_eq_nil_of_le (by omega)] at hd
      cases hd
    have hx : S.items[i]? = some x := by
      have := congrArg (fun l => l[0]?) hd
      simpa using this
    have hr : S.items.drop (i + 1) = rest := by
      rw [← List.drop_drop (i := 1) (j := i), hd]
      rfl
    rw [hd] at p'
    unfold lcM at p'
    split at p'
    · rename_i hc
      obtain ⟨hgo, hy⟩ := J1.go r' H' h' i x stA hR' hc hx
      refine .inr ⟨hgo, fun H2 => ∃ r2 h2, Stp G.K (r1 ++ [D]) (upd H1 D (.lst [])) r2 H2 ∧ HR G r2 H2 h2 ∧ PostR G (VR G) r2 H2 E ((lcM S.chk mg mt me (wipeE s vs) h1.length rest h2).bind fun _ h2 => .ok (.ref h1.length) h2) Q, ?_, ?_⟩
      · rintro H2 ⟨r2, h2, q1, q2, q4⟩
        exact ⟨_, by omega, r2, h2, q1, q2, rfl, by omega, by rw [hr]; exact q4⟩
      · intro v H3 hyl
        obtain ⟨r3, st3, hR3, vR⟩ := hy v H3 hyl
        refine hw.run v _ _ H3 _ wipe_wipe ?_
        cases e1 : mg x (wipeE s vs) with
        | none => rw [e1] at p'; exact False.elim p'
        | some s2 =>
          rw [e1] at p'
          refine hg.run r3 H3 _ _ x v _ ((sR1.mono st).mono st3) vR ⟨s2, e1, fun σ2 sR2 => ?_⟩
          refine ht.run r3 H3 h' s2 σ2 _ hR3 sR2 ?_
          simp only at p'
          cases e2 : mt s2 h' with
          | ok b h4 =>
            rw [e2] at p'
            intro r4 H4 b' st4 hR4 eb
            subst eb
            simp only at p'
            split at p'
            · rename_i hb
              rw [if_pos hb]
              refine he.run r4 H4 h4 s2 σ2 _ hR4 (sR2.mono st4) ?_
              cases e3 : me s2 h4 with
              | ok y h5 =>
                rw [e3] at p'
                intro r5 H5 y' st5 hR5 vy
                simp only at p'
                split at p'
                · rename_i acc eacc
                  have st5' := (st3.trans st4).trans st5
                  have rD5 := (st.trans st5').pre _ _ rD
                  cases hR5.ob _ _ _ eacc rD5 with
                  | @lst _ us _ hl hv =>
                    split at p'
                    · rename_i hlen
                      have stU : ∀ u, Stp G.K r5 H5 r5 (upd H5 D u) := fun u => Stp.upd fun o e => by rw [hl] at e; cases e; trivial
                      refine ⟨us, hl, lt_line (by rw [← hv.len]; exact hlen), r5, _, (st.trans st5').trans (stU _), hR5.write eacc rfl rD5 (fun o e => by rw [hl] at e; cases e; trivial) (.lst upd_same ?_) rfl, p'.shift (st5'.trans (stU _))⟩
                      exact (hv.app (.cons vy .nil)).mono (stU _)
                    · exact False.elim p'
                · exact False.elim p'
              | raised c h5 => rw [e3] at p'; exact False.elim p'
              | stuck => rw [e3] at p'; exact False.elim p'
            · rename_i hb
              rw [if_neg hb]
              exact ⟨r4, h4, st.trans (st3.trans st4), hR4, p'.shift (st3.trans st4)⟩
          | raised c h4 => rw [e2] at p'; exact False.elim p'
          | stuck => rw [e2] at p'; exact False.elim p'
    · exact False.elim p'
structure MTs (G : Cfg) (E : XK) (X : Cx) (es : List Expr) (t : TT) (m : En → Heap → Res Bool) : Prop where
  pe : PTs X es t
  rf : RfT G E t m
def tTrue (_ : En) (h : Heap) : Res Bool := .ok true h
theorem mts_nil : MTs G E X [] tYes tTrue := ⟨pts_nil, ⟨fun r H h s σ Q hR sR p => p.here hR rfl⟩⟩
theorem mts_one (h : MT G E X c tt mt) : MTs G E X [c] tt mt := ⟨pts_one h.pe, h.rf⟩
theorem XC.blk (C : XC G E X k) (s : Shared) (H : Hp) (scope : Scope) (cenv : Env) (fp : List Addr) : XC G E0 (X.blk s H scope cenv fp) k := ⟨C.K, C.calm, C.nd, C.room, passL, PassesOwn.never⟩
theorem me_lc {scope : Scope} (own : List (Str × Nat)) (C : XC G E X k) (hi : MIt G E X tg iter wi mi) (ok : BlkOk X.N X.env.scope scope own)
    (hg : ∀ (s : Shared) (H : Hp) (D : Addr) (cl : List (Str × Addr)) (fp : List Addr), XC G E0 (X.blk s H scope (compEnvC scope cl D X.env) fp) k → MG G (X.blk s H scope (compEnvC scope cl D X.env) fp) tg g mg)
    (ht : ∀ (s : Shared) (H : Hp) (D : Addr) (cl : List (Str × Addr)) (fp : List Addr), XC G E0 (X.blk s H scope (compEnvC scope cl D X.env) fp) k → MTs G E0 (X.blk s H scope (compEnvC scope cl D X.env) fp) ifs tt mt)
    (he : ∀ (s : Shared) (H : Hp) (D : Addr) (cl : List (Str × Addr)) (fp : List Addr), XC G E0 (X.blk s H scope (compEnvC scope cl D X.env) fp) k → ME G E0 (X.blk s H scope (compEnvC scope cl D X.env) fp) elt te me)
    (hw : TgW (own.map (·.2)) g) (hs : ∀ x, foldedSetIterable iter X.env x = pure x := by intro _; rfl) :
    ME G E X (.ListComp elt [⟨tg, iter, ifs, 0⟩] scope pos) (tLc wi g tt te (own.map (·.2))) (mLc mi mg mt me (own.map (·.2))) :=
  ⟨pe_lc C.calm C.nd hi.pe ok (fun s H D cl fp => (hg s H D cl fp (C.blk ..)).pe) (fun s H D cl fp => (ht s H D cl fp (C.blk ..)).pe) (fun s H D cl fp => (he s H D cl fp (C.blk ..)).pe) hs,
    rf_lc hi.rf (hg X.s_0 X.H_0 0 [] [] (C.blk ..)).rf hw (ht X.s_0 X.H_0 0 [] [] (C.blk ..)).rf (he X.s_0 X.H_0 0 [] [] (C.blk ..)).rf⟩
theorem ms_setLc {scope : Scope} {y : Str} {py spos : Pos} (i : Nat) (own : List (Str × Nat)) (C : XC G E X k) (hi : MIt G E X tg iter wi mi) (ok : BlkOk X.N X.env.scope scope own)
    (hg : ∀ (s : Shared) (H : Hp) (D : Addr) (cl : List (Str × Addr)) (fp : List Addr), XC G E0 (X.blk s H scope (compEnvC scope cl D X.env) fp) k → MG G (X.blk s H scope (compEnvC scope cl D X.env) fp) tg g mg)
    (ht : ∀ (s : Shared) (H : Hp) (D : Addr) (cl : List (Str × Addr)) (fp : List Addr), XC G E0 (X.blk s H scope (compEnvC scope cl D X.env) fp) k → MTs G E0 (X.blk s H scope (compEnvC scope cl D X.env) fp) ifs tt mt)
    (he : ∀ (s : Shared) (H : Hp) (D : Addr) (cl : List (Str × Addr)) (fp : List Addr), XC G E0 (X.blk s H scope (compEnvC scope cl D X.env) fp) k → ME G E0 (X.blk s H scope (compEnvC scope cl D X.env) fp) elt te me)
    (hw : TgW (own.map (·.2)) g) (hsw : swapsWith (.ListComp elt [⟨tg, iter, ifs, 0⟩] scope pos) (some (.Name y py)) spos.line X.env = pure true) (hy : X.N[i]? = some y := by rfl) (hyl : X.env.scope.names.lookup y = some .local := by rfl) (hs : ∀ x, foldedSetIterable iter X.env x = pure x := by intro _; rfl) :
    MS G E X (.Assign [.Name y py] (.ListComp elt [⟨tg, iter, ifs, 0⟩] scope pos) spos) (tAsg (tLc wi g tt te (own.map (·.2))) (gName i)) (sAsg (gV i) (mLc mi mg mt me (own.map (·.2)))) := by
  refine ⟨ps_setLc C.calm C.nd hy hyl hsw hi.pe ok (fun s H D cl fp => (hg s H D cl fp (C.blk ..)).pe) (fun s H D cl fp => (ht s H D cl fp (C.blk ..)).pe) (fun s H D cl fp => (he s H D cl fp (C.blk ..)).pe) hs, ⟨fun r H h s σ D hR sR p => ?_⟩⟩
  have rf := rf_lc (E := E) (vs := own.map (·.2)) hi.rf (hg X.s_0 X.H_0 0 [] [] (C.blk ..)).rf hw (ht X.s_0 X.H_0 0 [] [] (C.blk ..)).rf (he X.s_0 X.H_0 0 [] [] (C.blk ..)).rf
  exact rf.run r H h s σ _ hR sR (p.seqS fun x h1' r1 H1 v s1 hR1 v1 p1 => p1.here hR1 ((sR.mono s1).set v1 i))
end
end PyM

set_option Elab.async false
set_option linter.all false
set_option maxRecDepth 100000
set_option autoImplicit false
namespace PyM
open PySem L2

/-! ### built-ins by their names -/
theorem callR_or {X : Cx} {f : Value} {r r' : List V → Hp → VK → Prop} (h : CallR X f r) (h' : CallR X f r') : CallR X f (fun xs H Q => r xs H Q ∨ r' xs H Q) :=
  fun pins s σ H xs us Q I rv q => q.elim (h pins s σ H xs us Q I rv) (h' pins s σ H xs us Q I rv)
def bAbs (xs : List Val) (h : Heap) : Res Val := match xs with
  | [.int i] => .ok (.int (if i < 0 then -i else i)) h
  | _ => .stuck
def bInt (xs : List Val) (h : Heap) : Res Val := match xs with
  | [.int i] => .ok (.int i) h
  | [.bl b] => .ok (.int (if b then 1 else 0)) h
  | _ => .stuck
def bLen (xs : List Val) (h : Heap) : Res Val := match xs with
  | [.tup ys] => .ok (.int ys.length) h
  | [.ref a] => match h[a]? with
    | some (.lst ys) => .ok (.int ys.length) h
    | some (.fls ys) => .ok (.int ys.length) h
    | some (.dct d) => .ok (.int d.length) h
    | _ => .stuck
  | _ => .stuck
def bList (xs : List Val) (h : Heap) : Res Val := match xs with
  | [.tup ys] => .ok (.ref h.length) (h ++ [.lst ys])
  | [.ref a] => match h[a]? with
    | some (.lst ys) => .ok (.ref h.length) (h ++ [.lst ys])
    | some (.fls ys) => .ok (.ref h.length) (h ++ [.lst ys])
    | _ => .stuck
  | _ => .stuck
def bTuple (xs : List Val) (h : Heap) : Res Val := match xs with
  | [.tup ys] => .ok (.tup ys) h
  | [.ref a] => match h[a]? with
    | some (.lst ys) => .ok (.tup ys) h
    | some (.fls ys) => .ok (.tup ys) h
    | _ => .stuck
  | _ => .stuck
def asBl : Val → Option Bool
  | .bl b => some b
  | _ => none
def asInt : Val → Option Int
  | .int b => some b
  | _ => none
def seqOf (x : Val) (h : Heap) : Option (List Val) := match x with
  | .ref a => match h[a]? with
    | some (.lst ys) => some ys
    | some (.fls ys) => some ys
    | _ => none
  | _ => none
def bSeq {α : Type} (f : Val → Option α) (g : List α → Val) (xs : List Val) (h : Heap) : Res Val := match xs with
  | [x] => match seqOf x h with
    | some ys => match optAll f ys with
      | some bs => .ok (g bs) h
      | none => .stuck
    | none => .stuck
  | _ => .stuck
abbrev bAll := bSeq asBl fun bs => .bl (bs.all id)
abbrev bAny := bSeq asBl fun bs => .bl (bs.any id)
abbrev bSum := bSeq asInt fun bs => .int bs.sum
def bMax2 (xs : List Val) (h : Heap) : Res Val := match xs with
  | [.int i, .int j] => .ok (.int (if j > i then j else i)) h
  | _ => .stuck
def bMin2 (xs : List Val) (h : Heap) : Res Val := match xs with
  | [.int i, .int j] => .ok (.int (if j < i then j else i)) h
  | _ => .stuck
inductive Ty where
  | int | bool | str | tup | lst | dct | non
  deriving DecidableEq
def Ty.nm : Ty → String
  | .int => "int" | .bool => "bool" | .str => "str" | .tup => "tuple" | .lst => "list" | .dct => "dict" | .non => "NoneType"
def tyOf (x : Val) (h : Heap) : Option Ty := match x with
  | .non => some .non
  | .bl _ => some .bool
  | .int _ => some .int
  | .str _ => some .str
  | .tup _ => some .tup
  | .ref a => match h[a]? with
    | some (.lst _) => some .lst
    | some (.dct _) => some .dct
    | some (.dcT _) => some .dct
    | _ => none
def isTy (T : Ty) : Option Ty → Option Bool
  | some t => some (decide (t = T) || (decide (t = .bool) && decide (T = .int)))
  | none => none
def mIsi (T : Ty) (m : En → Heap → Res Val) (s : En) (h : Heap) : Res Val := (m s h).bind fun x h1 => match isTy T (tyOf x h1) with
  | some b => .ok (.bl b) h1
  | none => .stuck

section
variable {G : Cfg} {E : XK} {X : Cx} {k : Nat} {a b c e o e2 : Expr} {es : List Expr} {ta tb tc to : TE} {ma mb mc mo : En → Heap → Res Val} {pos p p2 apos : Pos} {tA : TA} {mA : En → Heap → Res (List Val)} {x : Str} {r : List Addr} {H : Hp} {h : Heap}
theorem me_blt {id : String} {t : List V → Hp → VK → Prop} {f : List Val → Heap → Res Val} (hc : CallR X (.builtin id) t) (hr : RfL G E t f) (hm : X.mg x = none) (hv : bootBuiltins x = some (.builtin id)) (ha : MA G E X (e :: es) tA mA) (hg : Gl X x := by rfl) (hn : x ≠ "__name__" := by decide) (hdb : (x == ("__debug__" : Str)) = false := by decide)
    (he : starEach (e :: es) X.env = (false, eval e X.env) :: starEach es X.env := by rfl) (hpl : (backTo pos (starEach es X.env)).any (·.1) = false := by rfl) : ME G E X (.Call (.Name x p) (e :: es) [] pos) (tCB t tA) (mL f mA) :=
  ⟨pe_callB hc hg hm hv ha.pe hn hdb he hpl, ha.rf.l hr⟩
theorem me_bty {id : String} {t : List V → Hp → VK → Prop} {f : List Val → Heap → Res Val} (hc : CallR X (.type id) t) (hr : RfL G E t f) (hm : X.mg x = none) (hv : bootBuiltins x = some (.type id)) (ha : MA G E X (e :: es) tA mA) (hg : Gl X x := by rfl) (hn : x ≠ "__name__" := by decide) (hdb : (x == ("__debug__" : Str)) = false := by decide)
    (he : starEach (e :: es) X.env = (false, eval e X.env) :: starEach es X.env := by rfl) (hpl : (backTo pos (starEach es X.env)).any (·.1) = false := by rfl) : ME G E X (.Call (.Name x p) (e :: es) [] pos) (tCB t tA) (mL f mA) :=
  ⟨pe_callTy hc hg hm hv ha.pe hn hdb he hpl, ha.rf.l hr⟩
theorem bt_abs : bootBuiltins "abs" = some (.builtin "abs") := by decide +kernel
theorem bt_int : bootBuiltins "int" = some (.type "int") := by decide +kernel
theorem bt_len : bootBuiltins "len" = some (.builtin "len") := by decide +kernel
theorem bt_list : bootBuiltins "list" = some (.type "list") := by decide +kernel
theorem bt_tuple : bootBuiltins "tuple" = some (.type "tuple") := by decide +kernel
theorem bt_all : bootBuiltins "all" = some (.builtin "all") := by decide +kernel
theorem bt_any : bootBuiltins "any" = some (.builtin "any") := by decide +kernel
theorem bt_sum : bootBuiltins "sum" = some (.builtin "sum") := by decide +kernel
theorem bt_max : bootBuiltins "max" = some (.builtin "max") := by decide +kernel
theorem bt_min : bootBuiltins "min" = some (.builtin "min") := by decide +kernel
theorem bt_sorted : bootBuiltins "sorted" = some (.builtin "sorted") := by decide +kernel
theorem bt_isi : bootBuiltins "isinstance" = some (.builtin "isinstance") := by decide +kernel

theorem vrs1 {xs : List Val} {v : V} {y : Val} (q : VRs G r H [y] [v]) : VR G r H y v := by cases q; assumption
theorem rl_abs : RfL G E (fun xs H Q => ∃ i, xs = [.int i] ∧ Q (.int (if i < 0 then -i else i)) H) bAbs := by
  refine ⟨fun r H h xs vs Q hR v p => ?_⟩
  unfold bAbs at p
  split at p
  · cases v with
    | cons q1 q2 => cases q1; cases q2; exact ⟨_, rfl, p.here hR (.int _)⟩
  · exact False.elim p
theorem rl_int : RfL G E (fun xs H Q => (∃ i, xs = [.int i] ∧ Q (.int i) H) ∨ ∃ k, xs = [.bl k] ∧ Q (.int (if k then 1 else 0)) H) bInt := by
  refine ⟨fun r H h xs vs Q hR v p => ?_⟩
  unfold bInt at p
  split at p
  · cases v with
    | cons q1 q2 => cases q1; cases q2; exact .inl ⟨_, rfl, p.here hR (.int _)⟩
  · cases v with
    | cons q1 q2 => cases q1; cases q2; exact .inr ⟨_, rfl, p.here hR (.int _)⟩
  · exact False.elim p
def rLenA (K : PySem.W.Frag) : List V → Hp → VK → Prop := fun xs H Q => (∃ x n, xs = [x] ∧ LenV K x H n ∧ Q (.int n) H) ∨ ∃ a kvs, xs = [V.ref a] ∧ H a = some (.dK kvs) ∧ Q (.int kvs.length) H
theorem cl_len (C : XC G E X k) : CallR X (.builtin "len") (rLenA G.K) := by
  have := callR_or (call_len (X := X)) call_lenD
  rw [C.K] at this
  exact this
theorem rl_len : RfL G E (rLenA G.K) bLen := by
  refine ⟨fun r H h xs vs Q hR v p => ?_⟩
  unfold bLen at p
  split at p
  · cases v with
    | cons q1 q2 => cases q2; cases q1 with
      | tup hs hv => exact .inl ⟨_, _, rfl, .inr ⟨_, hs, rfl⟩, by have := p.here hR (.int _); rw [hv.len] at this; exact this⟩
  · cases v with
    | cons q1 q2 => cases q2; cases q1 with
      | ref ea =>
        split at p
        · rename_i ys eo
          cases hR.ob _ _ _ eo ea with
          | lst hl hv => exact .inl ⟨_, _, rfl, .inl ⟨_, SqL.of hl, rfl⟩, by have := p.here hR (.int _); rw [hv.len] at this; exact this⟩
        · rename_i ys eo
          cases hR.ob _ _ _ eo ea with
          | fls hl hv => exact .inl ⟨_, _, rfl, .inl ⟨_, hl.sq, rfl⟩, by have := p.here hR (.int _); rw [hv.len] at this; exact this⟩
        · rename_i ys eo
          cases hR.ob _ _ _ eo ea with
          | dct hl hv => exact .inr ⟨_, _, rfl, hl, by have := p.here hR (.int _); rw [hv.len] at this; exact this⟩
        · exact False.elim p
  · exact False.elim p
def rListA (K : PySem.W.Frag) : List V → Hp → VK → Prop := fun xs H Q => ∃ p ys, xs = [.ref p] ∧ (SqL K H p ys ∨ SqT K H p ys) ∧ ∀ l, H l = none → Q (.ref l) (upd H l (.lst ys))
theorem cl_list (C : XC G E X k) : CallR X (.type "list") (rListA G.K) := by
  have := call_list_of (X := X)
  rw [C.K] at this
  exact this
theorem new_lst (hR : HR G r H h) {xs : List Val} {vs : List V} {Q : VK} (hv : VRs G r H xs vs) (p : PostR G (VR G) r H E (.ok (.ref h.length) (h ++ [.lst xs])) Q) (l : Addr) (hl : H l = none) : Q (.ref l) (upd H l (.lst vs)) := by
  refine p (r ++ [l]) _ _ (Stp.new hl) (hR.push hl (.lst upd_same (hv.mono (Stp.new hl)))) (.ref ?_)
  rw [← hR.len]
  simp
theorem rl_list : RfL G E (rListA G.K) bList := by
  refine ⟨fun r H h xs vs Q hR v p => ?_⟩
  unfold bList at p
  split at p
  · cases v with
    | cons q1 q2 => cases q2; cases q1 with
      | tup hs hv => exact ⟨_, _, rfl, .inr hs, new_lst hR hv p⟩
  · cases v with
    | cons q1 q2 => cases q2; cases q1 with
      | ref ea =>
        split at p
        · rename_i ys eo
          cases hR.ob _ _ _ eo ea with
          | lst hl hv => exact ⟨_, _, rfl, .inl (SqL.of hl), new_lst hR hv p⟩
        · rename_i ys eo
          cases hR.ob _ _ _ eo ea with
          | fls hl hv => exact ⟨_, _, rfl, .inl hl.sq, new_lst hR hv p⟩
        · exact False.elim p
  · exact False.elim p
def rTupA (K : PySem.W.Frag) : List V → Hp → VK → Prop := fun xs H Q => ∃ p ys, xs = [.ref p] ∧ ((SqL K H p ys ∧ ∀ l, H l = none → Q (.ref l) (upd H l (.tup ys))) ∨ (SqT K H p ys ∧ Q (.ref p) H))
theorem cl_tuple (C : XC G E X k) : CallR X (.type "tuple") (rTupA G.K) := by
  have := call_tuple_of (X := X)
  rw [C.K] at this
  exact this
theorem new_tup (hR : HR G r H h) {xs : List Val} {vs : List V} {Q : VK} (hv : VRs G r H xs vs) (p : PostR G (VR G) r H E (.ok (.tup xs) h) Q) (l : Addr) (hl : H l = none) : Q (.ref l) (upd H l (.tup vs)) :=
  p r _ _ (Stp.new0 hl) (hR.lay hl) (.tup (SqT.of upd_same) (hv.mono (Stp.new0 hl)))
theorem rl_tuple : RfL G E (rTupA G.K) bTuple := by
  refine ⟨fun r H h xs vs Q hR v p => ?_⟩
  unfold bTuple at p
  split at p
  · cases v with
    | cons q1 q2 => cases q2; cases q1 with
      | tup hs hv => exact ⟨_, _, rfl, .inr ⟨hs, p.here hR (.tup hs hv)⟩⟩
  · cases v with
    | cons q1 q2 => cases q2; cases q1 with
      | ref ea =>
        split at p
        · rename_i ys eo
          cases hR.ob _ _ _ eo ea with
          | lst hl hv => exact ⟨_, _, rfl, .inl ⟨SqL.of hl, new_tup hR hv p⟩⟩
        · rename_i ys eo
          cases hR.ob _ _ _ eo ea with
          | fls hl hv => exact ⟨_, _, rfl, .inl ⟨hl.sq, new_tup hR hv p⟩⟩
        · exact False.elim p
  · exact False.elim p
theorem seqOf_sq (hR : HR G r H h) {x : Val} {v : V} {ys : List Val} (q : VR G r H x v) (e : seqOf x h = some ys) : ∃ ad vs, v = .ref ad ∧ SqL G.K H ad vs ∧ VRs G r H ys vs := by
  cases q with
  | ref ea =>
    simp only [seqOf] at e
    split at e
    · rename_i zs eo
      cases e
      cases hR.ob _ _ _ eo ea with
      | lst hl hv => exact ⟨_, _, rfl, SqL.of hl, hv⟩
    · rename_i zs eo
      cases e
      cases hR.ob _ _ _ eo ea with
      | fls hl hv => exact ⟨_, _, rfl, hl.sq, hv⟩
    · cases e
  | _ => cases e
theorem all_bl : ∀ {ys : List Val} {vs : List V} {bs : List Bool}, VRs G r H ys vs → optAll asBl ys = some bs → vs = bs.map V.bl
  | _, _, _, .nil, e => by simp only [optAll, Option.some.injEq] at e; subst e; rfl
  | _, _, _, .cons a b, e => by
    simp only [optAll] at e
    split at e
    · rename_i d ds e1 e2
      cases e
      cases a with
      | bl b' => cases e1; rw [all_bl b e2]; rfl
      | _ => cases e1
    · cases e
theorem all_int : ∀ {ys : List Val} {vs : List V} {bs : List Int}, VRs G r H ys vs → optAll asInt ys = some bs → vs = bs.map V.int
  | _, _, _, .nil, e => by simp only [optAll, Option.some.injEq] at e; subst e; rfl
  | _, _, _, .cons a b, e => by
    simp only [optAll] at e
    split at e
    · rename_i d ds e1 e2
      cases e
      cases a with
      | int b' => cases e1; rw [all_int b e2]; rfl
      | _ => cases e1
    · cases e
theorem bSeq_ok {α : Type} {f : Val → Option α} {g : List α → Val} {xs : List Val} {vs : List V} {Q : VK} (hR : HR G r H h) (v : VRs G r H xs vs) (p : PostR G (VR G) r H E (bSeq f g xs h) Q) :
    ∃ ad us ys bs, vs = [V.ref ad] ∧ SqL G.K H ad us ∧ VRs G r H ys us ∧ optAll f ys = some bs ∧ PostR G (VR G) r H E (.ok (g bs) h) Q := by
  unfold bSeq at p
  split at p
  · cases v with
    | cons q1 q2 =>
      cases q2
      split at p
      · rename_i ys e1
        split at p
        · rename_i bs e2
          obtain ⟨ad, us, rfl, h1, h2⟩ := seqOf_sq hR q1 e1
          exact ⟨ad, us, ys, bs, rfl, h1, h2, e2, p⟩
        · exact False.elim p
      · exact False.elim p
  · exact False.elim p
theorem cl_all (C : XC G E X k) : CallR X (.builtin "all") (rAll G.K) := by have := cr_all (X := X) C.calm; rwa [C.K] at this
theorem cl_any (C : XC G E X k) : CallR X (.builtin "any") (rAny G.K) := by have := cr_any (X := X) C.calm; rwa [C.K] at this
theorem cl_sum (C : XC G E X k) : CallR X (.builtin "sum") (rSum G.K) := by have := cr_sum (X := X) C.calm; rwa [C.K] at this
theorem rl_all : RfL G E (rAll G.K) bAll := ⟨fun r H h xs vs Q hR v p => by
  obtain ⟨ad, us, ys, bs, rfl, h1, h2, e2, p⟩ := bSeq_ok hR v p
  rw [all_bl h2 e2] at h1
  exact ⟨ad, bs, rfl, h1, p.here hR (.bl _)⟩⟩
theorem rl_any : RfL G E (rAny G.K) bAny := ⟨fun r H h xs vs Q hR v p => by
  obtain ⟨ad, us, ys, bs, rfl, h1, h2, e2, p⟩ := bSeq_ok hR v p
  rw [all_bl h2 e2] at h1
  exact ⟨ad, bs, rfl, h1, p.here hR (.bl _)⟩⟩
theorem rl_sum : RfL G E (rSum G.K) bSum := ⟨fun r H h xs vs Q hR v p => by
  obtain ⟨ad, us, ys, bs, rfl, h1, h2, e2, p⟩ := bSeq_ok hR v p
  rw [all_int h2 e2] at h1
  exact ⟨ad, bs, rfl, h1, p.here hR (.int _)⟩⟩
theorem rl_max2 : RfL G E (fun xs H Q => ∃ i j, xs = [.int i, .int j] ∧ Q (.int (if j > i then j else i)) H) bMax2 := by
  refine ⟨fun r H h xs vs Q hR v p => ?_⟩
  unfold bMax2 at p
  split at p
  · cases v with
    | cons q1 q2 => cases q2 with
      | cons q3 q4 => cases q1; cases q3; cases q4; exact ⟨_, _, rfl, p.here hR (.int _)⟩
  · exact False.elim p
theorem rl_min2 : RfL G E (fun xs H Q => ∃ i j, xs = [.int i, .int j] ∧ Q (.int (if j < i then j else i)) H) bMin2 := by
  refine ⟨fun r H h xs vs Q hR v p => ?_⟩
  unfold bMin2 at p
  split at p
  · cases v with
    | cons q1 q2 => cases q2 with
      | cons q3 q4 => cases q1; cases q3; cases q4; exact ⟨_, _, rfl, p.here hR (.int _)⟩
  · exact False.elim p

/-! ### isinstance of a built-in class -/
theorem kit_all : ∀ t ∈ [Ty.int, Ty.bool, Ty.str, Ty.tup, Ty.lst, Ty.dct, Ty.non], ∀ T ∈ [Ty.int, Ty.bool, Ty.str, Ty.tup, Ty.lst, Ty.dct], kitB t.nm T.nm = some (decide (t = T) || (decide (t = .bool) && decide (T = .int))) := by decide +kernel
theorem tyOf_tyx (hR : HR G r H h) {x : Val} {v : V} {t : Ty} (q : VR G r H x v) (e : tyOf x h = some t) : TyX G.K H v (.type t.nm) := by
  cases q with
  | non => cases e; exact .base .non
  | bl b => cases e; exact .base (.bl _)
  | int b => cases e; exact .base (.int _)
  | str b => cases e; exact .base (.str _)
  | tup hs hv =>
    cases e
    rcases hs with (hs | ⟨o, hs⟩) | ⟨o, its, n, hk, hc, _⟩
    · exact .base (.tup hs)
    · exact .fTuple hs
    · exact .kTuple hk hc
  | ref ea =>
    simp only [tyOf] at e
    split at e
    · rename_i ys eo
      cases e
      cases hR.ob _ _ _ eo ea with
      | lst hl hv => exact .base (.lst hl)
    · rename_i ys eo
      cases e
      cases hR.ob _ _ _ eo ea with
      | dct hl hv => exact .base (.dK hl)
    · rename_i ys eo
      cases e
      cases hR.ob _ _ _ eo ea with
      | dcT hl hv => exact .base (.dT hl)
    · cases e
theorem me_isi (C : XC G E X k) (T : Ty) {y : Str} (hT : T ≠ .non) (hm : X.mg "isinstance" = none) (hy : X.mg y = none) (hb : bootBuiltins y = some (.type T.nm)) (ha : ME G E X a ta ma) (hg : Gl X "isinstance" := by rfl) (hgy : Gl X y := by rfl) (hn : y ≠ "__name__" := by decide) (hdb : (y == ("__debug__" : Str)) = false := by decide)
    (he : starEach (a :: [.Name y p2]) X.env = (false, eval a X.env) :: starEach [.Name y p2] X.env := by rfl) (he2 : starEach [.Name y p2] X.env = (false, eval (.Name y p2) X.env) :: starEach [] X.env := by rfl) (hpl : (backTo pos (starEach [.Name y p2] X.env)).any (·.1) = false := by rfl) :
    ME G E X (.Call (.Name "isinstance" p) [a, .Name y p2] [] pos) (tCB (rIsi G.K) (tCons ta (tCons (tC (.ty T.nm)) tNil))) (mIsi T ma) := by
  refine ⟨?_, ⟨fun r H h s σ Q hR sR p => ha.rf.run r H h s σ _ hR sR (p.seq fun x h1 r1 H1 v s1 hR1 v1 p1 => ?_)⟩⟩
  · have pa := pa_cons ha.pe (pa_cons (pe_bltn (v := .ty T.nm) (pos := p2) hgy hy hb rfl hn hdb) pa_nil he2) he
    have := pe_callB (pos := pos) (p := p) (call_isi (X := X)) hg hm bt_isi pa (by decide) (by decide) he hpl
    rw [C.K] at this
    exact this
  · split at p1
    · rename_i bb eb
      cases et : tyOf x h1 with
      | none => rw [et] at eb; cases eb
      | some t =>
        rw [et] at eb
        cases eb
        refine ⟨v, .ty T.nm, .type t.nm, .type T.nm, _, rfl, .ty _, tyOf_tyx hR1 v1 et, kit_ty (kit_all t ?_ T ?_), p1.here hR1 (.bl _)⟩
        · cases t <;> simp
        · cases T <;> first | (simp; done) | exact absurd rfl hT
    · exact False.elim p1

/-! ### methods of lists -/
def bAppend (x : Val) (xs : List Val) (h : Heap) : Res Val := match x, xs with
  | .ref a, [y] => match h[a]? with
    | some (.lst ys) => if ys.length < lim then .ok .non (h.set a (.lst (ys ++ [y]))) else .stuck
    | _ => .stuck
  | _, _ => .stuck
def bExtend (x : Val) (xs : List Val) (h : Heap) : Res Val := match x, xs with
  | .ref a, [.ref b] => match h[a]?, h[b]? with
    | some (.lst ys), some (.lst zs) => if ys.length + zs.length ≤ lim then .ok .non (h.set a (.lst (ys ++ zs))) else .stuck
    | _, _ => .stuck
  | _, _ => .stuck
def bPop (x : Val) (xs : List Val) (h : Heap) : Res Val := match x, xs with
  | .ref a, [] => match h[a]? with
    | some (.lst ys) => match ys[ys.length - 1]? with
      | some y => .ok y (h.set a (.lst ys.dropLast))
      | none => .stuck
    | _ => .stuck
  | _, _ => .stuck
def bPopAt (x : Val) (xs : List Val) (h : Heap) : Res Val := match x, xs with
  | .ref a, [.int i] => match h[a]? with
    | some (.lst ys) => if -(2 ^ 63) ≤ i ∧ i < 2 ^ 63 then match ixN ys.length i with
        | some j => match ys[j]? with
          | some y => .ok y (h.set a (.lst (ys.eraseIdx j)))
          | none => .stuck
        | none => .stuck
      else .stuck
    | _ => .stuck
  | _, _ => .stuck
def bCount (x : Val) (xs : List Val) (h : Heap) : Res Val := match x, xs with
  | .ref a, [y] => match h[a]? with
    | some (.lst ys) => if isFlat y = true ∧ ys.all isFlat = true then .ok (.int ((ys.countP fun z => feq z y : Nat) : Int)) h else .stuck
    | _ => .stuck
  | _, _ => .stuck
def mtOf (K : PySem.W.Frag) (x : V) (H : Hp) : Prop := tyV K "list" x H
def mBM (f : Val → List Val → Heap → Res Val) (mo : En → Heap → Res Val) (ma : En → Heap → Res (List Val)) (s : En) (h : Heap) : Res Val := (mo s h).bind fun x h1 => match seqOf x h1 with
  | some _ => (ma s h1).bind fun xs h2 => f x xs h2
  | none => .stuck
def mBM0 (f : Val → List Val → Heap → Res Val) (mo : En → Heap → Res Val) (s : En) (h : Heap) : Res Val := (mo s h).bind fun x h1 => match seqOf x h1 with
  | some _ => f x [] h1
  | none => .stuck
theorem tyL_of (hR : HR G r H h) {x : Val} {v : V} {ys : List Val} (q : VR G r H x v) (e : seqOf x h = some ys) : tyV G.K "list" v H := by
  obtain ⟨ad, vs, rfl, h1, _⟩ := seqOf_sq hR q e
  exact .inl ⟨rfl, _, h1⟩
theorem rf_bm {t : V → List V → Hp → VK → Prop} {f : Val → List Val → Heap → Res Val} (hf : RfM G E t f) (ho : Rf G E to mo) (ha : RfA G E tA mA) : Rf G E (tBM G.K "list" t to tA) (mBM f mo mA) := by
  refine ⟨fun r H h s σ Q hR sR p => ho.run r H h s σ _ hR sR (p.seq fun x h1 r1 H1 v s1 hR1 v1 p1 => ?_)⟩
  split at p1
  · rename_i ys ey
    refine ⟨tyL_of hR1 v1 ey, ha.run r1 H1 h1 s σ _ hR1 (sR.mono s1) (p1.seq fun xs h2 r2 H2 vs s2 hR2 v2 p2 => ?_)⟩
    exact hf.run r2 H2 h2 x v xs vs Q hR2 (v1.mono s2) v2 p2
  · exact False.elim p1
theorem rf_bm0 {t : V → List V → Hp → VK → Prop} {f : Val → List Val → Heap → Res Val} (hf : RfM G E t f) (ho : Rf G E to mo) : Rf G E (tBM0 G.K "list" t to) (mBM0 f mo) := by
  refine ⟨fun r H h s σ Q hR sR p => ho.run r H h s σ _ hR sR (p.seq fun x h1 r1 H1 v s1 hR1 v1 p1 => ?_)⟩
  split at p1
  · rename_i ys ey
    exact ⟨tyL_of hR1 v1 ey, hf.run r1 H1 h1 x v [] [] Q hR1 v1 .nil p1⟩
  · exact False.elim p1
theorem me_bm {name : Str} {id : String} {t : V → List V → Hp → VK → Prop} {f : Val → List Val → Heap → Res Val} (C : XC G E X k) (slot : Slot "list" name id) (hty : typeOf (.builtin id) = pure (.type "method_descriptor")) (hm : MtR X id t) (hf : RfM G E t f) (ho : ME G E X o to mo) (ha : MA G E X (e :: es) tA mA)
    (hbase : attributeBase o name X.env (eval o X.env) = eval o X.env := by rfl)
    (hfew : ((backTo pos (starEach (e :: es) X.env)).all (fun x => !x.1) && (backToKw pos (keywordEach [] X.env)).all (fun x => x.1.isSome)
      && decide ((e :: es).length + ([] : List Keyword).length + (if ([] : List Keyword).isEmpty then 0 else 1) < 30)) = true := by rfl)
    (hline : (apos.endLine == pos.line) = true := by rfl) (hs : starEach (e :: es) X.env = (false, eval e X.env) :: starEach es X.env := by rfl) (hplain : (backTo pos (starEach es X.env)).any (·.1) = false := by rfl) :
    ME G E X (.Call (.Attribute o name apos) (e :: es) [] pos) (tBM G.K "list" t to tA) (mBM f mo mA) := by
  refine ⟨?_, rf_bm hf ho.rf ha.rf⟩
  have := pe_bm PySem.F.plainAttrs_list slot hty hm ho.pe ha.pe hbase hfew hline hs hplain
  rwa [C.K] at this
theorem me_bm0 {name : Str} {id : String} {t : V → List V → Hp → VK → Prop} {f : Val → List Val → Heap → Res Val} (C : XC G E X k) (slot : Slot "list" name id) (hty : typeOf (.builtin id) = pure (.type "method_descriptor")) (hm : MtR X id t) (hf : RfM G E t f) (ho : ME G E X o to mo)
    (hbase : attributeBase o name X.env (eval o X.env) = eval o X.env := by rfl) (hline : (apos.endLine == pos.line) = true := by rfl) :
    ME G E X (.Call (.Attribute o name apos) [] [] pos) (tBM0 G.K "list" t to) (mBM0 f mo) := by
  refine ⟨?_, rf_bm0 hf ho.rf⟩
  have := pe_bm0 PySem.F.plainAttrs_list slot hty hm ho.pe hbase hline
  rwa [C.K] at this
theorem set_lst (hR : HR G r H h) {n : Nat} {ad : Addr} {xs ys : List Val} {us vs : List V} {x : Val} {v : V} {Q : VK} (eo : h[n]? = some (.lst xs)) (ea : r[n]? = some ad) (hl : H ad = some (.lst us)) (hv : VRs G r H ys vs) (hx : VR G r H x v) (p : PostR G (VR G) r H E (.ok x (h.set n (.lst ys))) Q) : Q v (upd H ad (.lst vs)) := by
  have st : Stp G.K r H r (upd H ad (.lst vs)) := Stp.upd fun o e => by rw [hl] at e; cases e; trivial
  exact p r _ _ st (hR.write eo rfl ea (fun o e => by rw [hl] at e; cases e; trivial) (.lst upd_same (hv.mono st)) rfl) (hx.mono st)
theorem rm_append : RfM G E rAppend bAppend := by
  refine ⟨fun r H h x v xs vs Q hR vx vv p => ?_⟩
  unfold bAppend at p
  split at p
  · cases vx with
    | ref ea => cases vv with
      | cons q1 q2 =>
        cases q2
        split at p
        · rename_i ys eo
          split at p
          · rename_i hlen
            cases hR.ob _ _ _ eo ea with
            | lst hl hv => exact ⟨_, _, _, rfl, rfl, hl, lt_line (by rw [← hv.len]; exact hlen), set_lst hR eo ea hl (hv.app (.cons q1 .nil)) .non p⟩
          · exact False.elim p
        · exact False.elim p
  · exact False.elim p
theorem rm_extend : RfM G E rExtend bExtend := by
  refine ⟨fun r H h x v xs vs Q hR vx vv p => ?_⟩
  unfold bExtend at p
  split at p
  · cases vx with
    | ref ea => cases vv with
      | cons q1 q2 =>
        cases q2
        cases q1 with
        | ref eb =>
          split at p
          · rename_i ys zs eo eo2
            split at p
            · rename_i hlen
              cases hR.ob _ _ _ eo ea with
              | lst hl hv => cases hR.ob _ _ _ eo2 eb with
                | lst hl2 hv2 => exact ⟨_, _, _, _, rfl, rfl, hl, hl2, le_line (by rw [← hv.len, ← hv2.len]; exact hlen), set_lst hR eo ea hl (hv.app hv2) .non p⟩
            · exact False.elim p
          · exact False.elim p
  · exact False.elim p
theorem rm_pop : RfM G E rPop bPop := by
  refine ⟨fun r H h x v xs vs Q hR vx vv p => ?_⟩
  unfold bPop at p
  split at p
  · cases vx with
    | ref ea =>
      cases vv
      split at p
      · rename_i ys eo
        split at p
        · rename_i y ey
          cases hR.ob _ _ _ eo ea with
          | lst hl hv =>
            obtain ⟨u, eu, vu⟩ := hv.get ey
            rw [hv.len] at eu
            exact ⟨_, _, _, rfl, rfl, hl, eu, set_lst hR eo ea hl hv.dropLast vu p⟩
        · exact False.elim p
      · exact False.elim p
  · exact False.elim p
theorem rm_popAt : RfM G E rPopAt bPopAt := by
  refine ⟨fun r H h x v xs vs Q hR vx vv p => ?_⟩
  unfold bPopAt at p
  split at p
  · cases vx with
    | ref ea => cases vv with
      | cons q1 q2 =>
        cases q2
        cases q1
        split at p
        · rename_i ys eo
          split at p
          · rename_i hb
            split at p
            · rename_i j ej
              split at p
              · rename_i y ey
                cases hR.ob _ _ _ eo ea with
                | lst hl hv =>
                  obtain ⟨u, eu, vu⟩ := hv.get ey
                  rw [hv.len] at ej
                  exact ⟨_, _, _, j, u, rfl, rfl, hl, hb.1, hb.2, (ixN_seq ej).1, eu, set_lst hR eo ea hl (hv.eraseIdx j) vu p⟩
              · exact False.elim p
            · exact False.elim p
          · exact False.elim p
        · exact False.elim p
  · exact False.elim p
def rCntF (K : PySem.W.Frag) : V → List V → Hp → VK → Prop := fun x xs H Q => ∃ (a : Addr) (ys : List V) (y : V), x = V.ref a ∧ xs = [y] ∧ SqL K H a ys ∧ flatV y = true ∧ ys.all flatV = true ∧ Q (.int ((ys.countP fun z => eqV z y : Nat) : Int)) H
theorem countU {y : V} : ∀ {ys : List V} {us : List Value}, Vals ys us → ys.all flatV = true → us.countP (eqU y) = ys.countP fun z => eqV z y
  | _, _, .nil, _ => rfl
  | _, _, .cons a b, f => by
    rw [List.all_cons, Bool.and_eq_true] at f
    rw [List.countP_cons, List.countP_cons, eqU_of a f.1, countU b f.2]
theorem mt_countF : MtR X "list.count" (rCntF X.K) := by
  intro pins s σ H x xs v us Q I rx rxs h
  obtain ⟨a, ys, y, rfl, rfl, hs, fy, fys, q⟩ := h
  cases rx
  cases rxs with
  | cons ry rt =>
    rename_i uy ut
    cases rt
    obtain ⟨its, rv, ⟨⟨cls, dd, data, sl⟩, n, ho, hc, hdn, hd⟩, hlen⟩ := I.list hs
    simp only at hc hd
    subst hc hd
    refine call_meets PySem.F.slot_list_count ⟨_, ho, rfl⟩ PySem.F.entry_list_count (PySem.F.args_list_count_2 _ _)
      (SeqAt.list_countAt a its.toArray n dd sl uy (eqU y)) ⟨ho, fun u' hu' => mem_eqAt ry fy rv fys u' (by simpa using hu'), ?_⟩
    have ec : its.toArray.toList.countP (eqU y) = ys.countP fun z => eqV z y := countU rv fys
    refine ⟨.int ((ys.countP fun z => eqV z y : Nat) : Int), H, I.tok _, ⟨s.toks, ?_⟩, q⟩
    rw [ec]
theorem countF (ok : G.Ok) {y : Val} {u : V} (b : VR G r H y u) : ∀ {xs : List Val} {vs : List V}, VRs G r H xs vs → xs.all isFlat = true → (xs.countP fun z => feq z y) = vs.countP fun z => eqV z u
  | _, _, .nil, _ => rfl
  | _, _, .cons a c, f => by
    rw [List.all_cons, Bool.and_eq_true] at f
    rw [List.countP_cons, List.countP_cons, feq_of ok a b f.1, countF ok b c f.2]
theorem rm_count (ok : G.Ok) : RfM G E (rCntF G.K) bCount := by
  refine ⟨fun r H h x v xs vs Q hR vx vv p => ?_⟩
  unfold bCount at p
  split at p
  · cases vx with
    | ref ea => cases vv with
      | cons q1 q2 =>
        cases q2
        split at p
        · rename_i ys eo
          split at p
          · rename_i hf
            cases hR.ob _ _ _ eo ea with
            | lst hl hv =>
              refine ⟨_, _, _, rfl, rfl, SqL.of hl, flat_of q1 hf.1, all_flat hv hf.2, ?_⟩
              rw [← countF ok q1 hv hf.2]
              exact p.here hR (.int _)
          · exact False.elim p
        · exact False.elim p
  · exact False.elim p
theorem cl_count (C : XC G E X k) : MtR X "list.count" (rCntF G.K) := by have := mt_countF (X := X); rwa [C.K] at this
end
end PyM

set_option Elab.async false
set_option linter.all false
set_option maxRecDepth 100000
set_option autoImplicit false
namespace PyM
open PySem L2

/-! ### exceptions of the program's own, without arguments -/
section
variable {X : Cx} {C : Addr} {bmB : List Value} {B newId initId : String}
theorem pmk_own0 {x : Str} {p pos : Pos} (F : ExcBaseFacts B newId initId bmB) (q : PySem.W.excIn X.K C bmB newId = true) (gC : X.mg x = some (.ref C)) (kC : PySem.W.keepIn X.K (.ref C) = true) (r : Raises X (.ref C)) (hg : Gl X x)
    (hdb : (x == ("__debug__" : Str)) = false := by decide) : PMk X (.Call (.Name x p) [] [] pos) (fun _ H Q => Q (.ref C) none H) := by
  intro pins s σ H Q I h
  refine wpAny_Call_Name_kw (ld_glob I hg gC ?_ hdb)
  refine PySem.W.callWith_K0 I.kIn kC ?_
  show wpAny _ _ (call (.ref C) []) _ _ _
  obtain ⟨bm, N, nm, qn, bs, hdct, sn, sub, ab, col, dd, k0, k1, k2, k3, k5, mN, hC, hN, hni, T⟩ := exc_obj I.kIn q
  refine wpAny_call_exc_subT F T hC hN hni (fun h' e hm => ?_) (Nat.zero_le _)
  exact mk_of I hm r h (I.hok.gone hm.new)
end
def sRaise (c : Nat) (_ : En) (h : Heap) : RS := .raised c h
def sTry (c : Nat) (mb ms : En → Heap → RS) (s : En) (h : Heap) : RS := match mb s h with
  | .raised c' h' => if c' = c then ms s h' else .stuck
  | x => x
/-- a def's body, run -/
def runB (np nl : Nat) (mb : En → Heap → RS) (xs : List Val) (h : Heap) : Res Val := if xs.length = np then
    match mb (xs.map some ++ List.replicate (nl - np) none) h with
    | .nx _ h' => .ok .non h'
    | .rt v h' => .ok v h'
    | .raised c h' => .raised c h'
    | _ => .stuck
  else .stuck
section
variable {G : Cfg} {E : XK} {X : Cx} {k : Nat} {e : Expr} {pos p pos2 np : Pos} {sts : List Stmt} {t : TS} {m : En → Heap → RS} {x : Str} {C : Addr}
abbrev Tk (X : Cx) (E : XK) : Prop := Takes X (fun cls d _ H => E cls d H)
theorem ms_raise (c : Nat) (XC_ : XC G E X k) (tk : Tk X E) (hc : G.cls[c]? = some C) (hp : PMk X (.Call (.Name x p) [] [] pos) (fun _ H Q => Q (.ref C) none H)) : MS G E X (.Raise (some (.Call (.Name x p) [] [] pos)) none pos2) (fun _ _ H => E (.ref C) none H) (sRaise c) :=
  ⟨ps_raise XC_.calm tk hp, ⟨fun r H h s σ D hR sR q => q r H C Stp.refl hR hc⟩⟩
/-- what the model says, as a reading -/
def tM (G : Cfg) (E : XK) (m : En → Heap → RS) : TS := fun D σ H => ∃ r h s, HR G r H h ∧ SR G r H s σ ∧ PostS G r H E (m s h) D
theorem pss_tM (h : MSs G E X sts t m) : PSs X sts (tM G E m) := ⟨fun pins s σ H D I ⟨r, hh, s', hR, sR, p⟩ => h.pe.run pins s σ H D I (h.rf.run r H hh s' σ D hR sR p)⟩
/-- try: body / except X: return constant -/
theorem ms_try (c : Nat) {e2 : Expr} {v : V} {y : Val} (C0 : XC G E X k) (hs : X.stack = X.env :: X.outer) (hf : X.env.frame = some X.env.locals) (hm : X.mg x = some (.ref C)) (tk : Tk X E) (hc : G.cls[c]? = some C) (hx : PySem.W.exmOne G.K (.ref C) (.ref C) = some true)
    (hv : ∀ r H, VR G r H y v) (h2 : ∀ X' : Cx, PE X' e2 (tC v)) {pos3 pos4 : Pos}
    (hb : ∀ (E' : XK) (pn : List (Addr × PySem.Obj)) (xe : Value → Shared → Prop), XC G E' (X.tr pn xe) k → ∃ t, MSs G E' (X.tr pn xe) sts t m) (hg : Gl X x := by rfl) (hdb : (x == ("__debug__" : Str)) = false := by decide) :
    MS G E X (.Try sts [.ExceptHandler (some (.Name x np)) none [.Return (some e2) pos3] pos4] [] [] pos) (tM G E (sTry c m (sRet (mK y)))) (sTry c m (sRet (mK y))) := by
  refine ⟨⟨fun pins s σ H D I ⟨r, h, s', hR, sR, p⟩ => ?_⟩, ⟨fun r H h s σ D hR sR p => ⟨r, h, s, hR, sR, p⟩⟩⟩
  have key := ps_try_only (X := X) (x := x) (c := .ref C) (body := sts) (suite := []) (b₀ := .Return (some e2) pos3) (np := np) (pos := pos) (pos' := pos4) (tb := fun W => tM G (fun cls d H' => ∀ σ', W cls d σ' H') m) (ts := fun _ _ _ => tRet (tC v)) (Wout := fun cls d _ H => E cls d H) hs hf ⟨hg, hdb, .inl hm⟩ tk
      (fun W pn xe tk' own => by
        obtain ⟨t, q⟩ := hb (fun cls d H' => ∀ σ', W cls d σ' H') pn xe ⟨C0.K, C0.calm, C0.nd, C0.room, passes_call tk' (fun cls d σ H q => q σ), own⟩
        exact pss_tM q)
      (fun a oe cls d pn _ _ => pss_one (ps_ret (h2 _)))
  refine key.run pins s σ H D I ⟨r, h, s', hR, sR, ?_⟩
  unfold sTry at p
  cases q : m s' h with
  | raised c' h' =>
    rw [q] at p
    simp only at p
    split at p
    · rename_i ec
      subst ec
      intro r' H' C' st hR' hC' σ'
      rw [hc] at hC'
      cases hC'
      refine ⟨true, by rw [C0.K]; exact hx, fun _ a ha => ?_, fun q => nomatch q⟩
      exact p r' H' v st hR' (hv _ _)
    · exact False.elim p
  | nx a b => rw [q] at p; exact p
  | rt a b => rw [q] at p; exact p
  | bk a b => rw [q] at p; exact p
  | ct a b => rw [q] at p; exact p
  | stuck => rw [q] at p; exact p
end

/-! ### defs -/
theorem SR_start {G : Cfg} {r : List Addr} {H : Hp} {n : Nat} : ∀ {xs : List Val} {vs : List V}, VRs G r H xs vs → SR G r H (xs.map some ++ List.replicate n none) (vs.map some ++ List.replicate n none)
  | _, _, .nil => by
    induction n with
    | zero => exact .nil
    | succ n ih => exact .no ih
  | _, _, .cons a b => .so a (SR_start b)
section
variable {P : Program} {w : World} {mg : Str → Option Value} {base : PySem.Heap} {G : Cfg}
theorem fn_m {x qual : Str} {st : Stmt} {f : Addr} {fd : FuncData} {N ps : List Str} {k np nl : Nat} {mb : En → Heap → RS} (F : Fun G.K x qual st f fd) (S : FnScope N ps (defScope st)) (hnp : ps.length = np) (hnl : N.length = nl)
    (hb : ∀ (cdv : Value) (A : Around) (outer : List Env) (s : Shared) (H : Hp) (E : XK), XC G E (cxOf (L2.CX P w) P w G.K mg base N qual (defScope st) f cdv A outer s H E) k → Tk (cxOf (L2.CX P w) P w G.K mg base N qual (defScope st) f cdv A outer s H E) E →
      ∃ t, MSs G E (cxOf (L2.CX P w) P w G.K mg base N qual (defScope st) f cdv A outer s H E) (defBody st) t mb) : FnM G P w mg base (k + 1) f fd ps (runB np nl mb) := by
  subst hnp hnl
  refine ⟨F.okX S (fun vs H Q E h => h.1) (fun cdv A outer s H vs Q E hr h => ?_), fun xs h hl => by unfold runB; rw [if_neg hl]⟩
  obtain ⟨hl, r, h, xs, hR, vR, p⟩ := h
  have tk : Tk (cxOf (L2.CX P w) P w G.K mg base N qual (defScope st) f cdv A outer s H E) E := takes_of rfl rfl rfl rfl
  obtain ⟨t, q⟩ := hb cdv A outer s H E ⟨rfl, rfl, S.nd, hr, passes_call tk (fun _ _ _ _ h => h), passes_of rfl⟩ tk
  have z := q.rf.run r H h _ _ { nx := fun _ H' => Q .non H', rt := Q } hR (SR_start (n := N.length - ps.length) vR) ?_
  · refine ⟨t, q.pe, ?_⟩
    rw [← hl] at z
    exact z
  · unfold runB at p
    rw [if_pos (by rw [vR.len]; exact hl)] at p
    cases e : mb (List.map some xs ++ List.replicate (N.length - ps.length) none) h with
    | nx a b =>
      rw [e] at p
      exact fun r' H' t st hR' _ => p r' H' _ st hR' .non
    | rt a b => rw [e] at p; exact p
    | raised a b => rw [e] at p; exact p
    | bk a b => rw [e] at p; exact p.elim
    | ct a b => rw [e] at p; exact p.elim
    | stuck => rw [e] at p; exact p.elim
/-- a def that is never run out of its levels -/
theorem fn_none {f : Addr} {fd : FuncData} {ps : List Str} {k : Nat} : FnM G P w mg base k f fd ps (fun _ _ => .stuck) :=
  ⟨⟨fun vs H Q E h => h.1, fun A outer s H args us vs Q E _ _ _ _ ⟨_, _, _, _, _, _, p⟩ => p.elim⟩, fun _ _ _ => rfl⟩
theorem FnM.mono {f : Addr} {fd : FuncData} {ps : List Str} {j k : Nat} {m : List Val → Heap → Res Val} (F : FnM G P w mg base j f fd ps m) (h : j ≤ k) : FnM G P w mg base k f fd ps m := ⟨F.ok.mono h, F.st⟩
/-- the law's own promise -/
def spLaw (K : PySem.W.Frag) : Sp := fun vs H Q _ => ∃ (a : Addr) (ns : List Int), vs = [.ref a] ∧ ns.length ≤ 63 ∧ Only H ∧ SqL K H a (ns.map V.int) ∧ ∀ H', Q (.bl true) H'
theorem vrs_ints {r : List Addr} {H : Hp} : ∀ ns : List Int, VRs G r H (ns.map Val.int) (ns.map V.int)
  | [] => .nil
  | n :: ns => .cons (.int n) (vrs_ints ns)
theorem law_of {f : Addr} {fd : FuncData} {x : Str} {k : Nat} {m : List Val → Heap → Res Val} (F : FnM G P w mg base k f fd [x] m) (h : ∀ ns : List Int, ns.length ≤ 63 → ∃ h', m [.ref 0] [.fls (ns.map Val.int)] = .ok (.bl true) h') :
    FnOk P w G.K mg base (L2.CX P w) k f fd [x] (spLaw G.K) := by
  refine F.ok.imp fun vs H Q E ⟨a, ns, e, hl, hO, hS, q⟩ => ?_
  subst e
  obtain ⟨h', e⟩ := h ns hl
  have fl : FL G.K H a (ns.map V.int) := by
    rcases hS with (hS | hS) | hS
    · rcases hO a with z | ⟨o, xs, z⟩
      · rw [z] at hS; cases hS
      · rw [z] at hS; cases hS
    · exact .inl hS
    · exact .inr hS
  refine ⟨rfl, [a], [.fls (ns.map Val.int)], [.ref 0], ⟨rfl, fun i j b x y e1 e2 e3 e4 f1 f2 => ?_, fun n o b e1 e2 => ?_⟩, .cons (.ref rfl) .nil, ?_⟩
  · cases i with
    | zero => cases j with
      | zero => rfl
      | succ j => simp at e2
    | succ i => simp at e1
  · cases n with
    | zero =>
      simp at e1 e2
      subst e1 e2
      exact .fls fl (vrs_ints ns)
    | succ n => simp at e1
  · rw [e]
    intro r' H' b st hR v
    cases v
    exact q H'
end
end PyM

set_option Elab.async false
set_option linter.all false
set_option autoImplicit false
namespace PyM
open PySem L2
abbrev oFd : Val → Val → Heap → Res Val := oIC (fun _ j => decide (0 < j ∧ j < 1073741824)) fun i j => .int (i / j)
abbrev oMd : Val → Val → Heap → Res Val := oIC (fun _ j => decide (0 < j)) fun i j => .int (i % j)
abbrev oPw : Val → Val → Heap → Res Val := oIC cPow fun i j => .int (i ^ j.toNat)
abbrev oShl : Val → Val → Heap → Res Val := oIC cPow fun i j => .int (i * 2 ^ j.toNat)
abbrev oShr : Val → Val → Heap → Res Val := oIC (fun _ j => decide (0 ≤ j)) fun i j => .int (i / 2 ^ j.toNat)
abbrev oBa : Val → Val → Heap → Res Val := oI fun i j => .int (Builtin.bitAnd i j)
abbrev oBo : Val → Val → Heap → Res Val := oI fun i j => .int (Builtin.bitOr i j)
abbrev oBx : Val → Val → Heap → Res Val := oI fun i j => .int (Builtin.bitXor i j)
abbrev oLt : Val → Val → Heap → Res Val := oI fun i j => .bl (decide (i < j))
abbrev oLe : Val → Val → Heap → Res Val := oI fun i j => .bl (decide (i ≤ j))
abbrev oGt : Val → Val → Heap → Res Val := oI fun i j => .bl (decide (j < i))
abbrev oGe : Val → Val → Heap → Res Val := oI fun i j => .bl (decide (j ≤ i))
abbrev mChLeLe := mCh (fun i j => decide (i ≤ j)) (fun i j => decide (i ≤ j))
abbrev mChLeLt := mCh (fun i j => decide (i ≤ j)) (fun i j => decide (i < j))
theorem bt_ty_int : bootBuiltins "int" = some (.type Ty.int.nm) := by decide +kernel
theorem bt_ty_bool : bootBuiltins "bool" = some (.type Ty.bool.nm) := by decide +kernel
theorem bt_ty_str : bootBuiltins "str" = some (.type Ty.str.nm) := by decide +kernel
theorem bt_ty_tup : bootBuiltins "tuple" = some (.type Ty.tup.nm) := by decide +kernel
theorem bt_ty_lst : bootBuiltins "list" = some (.type Ty.lst.nm) := by decide +kernel
theorem bt_ty_dct : bootBuiltins "dict" = some (.type Ty.dct.nm) := by decide +kernel
/-- an error of the class at S is what «except S» names -/
theorem exm_self {K : PySem.W.Frag} {S : Addr} (h1 : PySem.W.subIn K (.ref S) (.type "BaseException") = some true) (h2 : PySem.W.isClsIn K S = true) (h3 : PySem.W.typeIn K (.ref S) = some (.type "type")) (h4 : PySem.W.subIn K (.ref S) (.ref S) = some true) :
    PySem.W.exmOne K (.ref S) (.ref S) = some true := by
  have e1 : (PySem.W.subIn K (.ref S) (.type "BaseException") == some true) = true := by rw [h1] <;> rfl
  have e2 : ((PySem.W.clsIn K S).isSome && PySem.W.typeIn K (.ref S) == some (.type "type")) = true := by
    have h2' : (PySem.W.clsIn K S).isSome = true := h2
    rw [h2', h3] <;> rfl
  show (if (PySem.W.subIn K (.ref S) (.type "BaseException") == some true) = true then (if ((PySem.W.clsIn K S).isSome && PySem.W.typeIn K (.ref S) == some (.type "type")) = true then PySem.W.subIn K (.ref S) (.ref S) else none) else none) = some true
  rw [if_pos e1, if_pos e2]
  exact h4
end PyM

set_option Elab.async false
set_option linter.all false
set_option autoImplicit false
set_option maxHeartbeats 4000000
/-! more rules: is True, is False -/
namespace PyM
open PySem L2
variable {G : Cfg} {E : XK} {X : Cx} {k : Nat} {a b c e : Expr} {ta tb tc : TE} {ma mb mc : En → Heap → Res Val} {pos : Pos} {u v w : TT} {mu mv : En → Heap → Res Bool}
def oIsB (neg : Bool) (x y : Val) (h : Heap) : Res Val := match x, y with
  | .bl a, .bl b => .ok (.bl (if neg then !decide (a = b) else decide (a = b))) h
  | _, _ => .stuck
theorem rf_isB : Rf2 G E (fun x y H Q => ∃ a b, x = V.bl a ∧ y = V.bl b ∧ Q (V.bl (decide (a = b))) H) (oIsB false) := by
  refine ⟨fun r H h x y v u Q hR a b p => ?_⟩
  cases a with
  | bl i => cases b with
    | bl j => exact ⟨i, j, rfl, rfl, p.here hR (.bl _)⟩
    | _ => exact False.elim p
  | _ => exact False.elim p
theorem rf_isnB : Rf2 G E (fun x y H Q => ∃ a b, x = V.bl a ∧ y = V.bl b ∧ Q (V.bl (!decide (a = b))) H) (oIsB true) := by
  refine ⟨fun r H h x y v u Q hR a b p => ?_⟩
  cases a with
  | bl i => cases b with
    | bl j => exact ⟨i, j, rfl, rfl, p.here hR (.bl _)⟩
    | _ => exact False.elim p
  | _ => exact False.elim p
theorem mc_isB (ha : ME G E X a ta ma) (hb : ME G E X b tb mb) : MC G E X .Is a b (tOp (fun x y H Q => ∃ a b, x = V.bl a ∧ y = V.bl b ∧ Q (V.bl (decide (a = b))) H) ta tb) (mB (oIsB false) ma mb) := ⟨pc_of op_is_bl ha.pe hb.pe, ha.rf.b2 hb.rf rf_isB⟩
theorem mc_isnB (ha : ME G E X a ta ma) (hb : ME G E X b tb mb) : MC G E X .IsNot a b (tOp (fun x y H Q => ∃ a b, x = V.bl a ∧ y = V.bl b ∧ Q (V.bl (!decide (a = b))) H) ta tb) (mB (oIsB true) ma mb) := ⟨pc_of op_isnot_bl ha.pe hb.pe, ha.rf.b2 hb.rf rf_isnB⟩
end PyM

set_option Elab.async false
set_option linter.all false
set_option autoImplicit false
set_option maxHeartbeats 4000000
/-! more rules: list.index -/
namespace PyM
open PySem L2
variable {G : Cfg} {E : XK} {X : Cx} {k : Nat} {r : List Addr} {H : Hp} {h : Heap}
def fix (d : D) : List D → Option Nat
  | [] => none
  | z :: ds => if deq z d = true then some 0 else (fix d ds).map (· + 1)
theorem fix_py (ok : G.Ok) {d : D} {n m : Nat} (hd : d.wf G.sts.length n = true) : ∀ {ds : List D} {j : Nat}, D.wfs G.sts.length m ds = true → fix d ds = some j →
    (∃ z, (D.pys G ds)[j]? = some z ∧ PyData.eqv z (d.py G) = true) ∧ ∀ (m : Nat) (z' : PyData), m < j → (D.pys G ds)[m]? = some z' → PyData.eqv z' (d.py G) = false
  | [], j, _, e => by cases e
  | x :: ds, j, f, e => by
    simp only [D.wfs, Bool.and_eq_true] at f
    have q := eqv_py ok x d _ _ f.1 hd
    rw [fix] at e
    split at e
    · rename_i c
      cases e
      exact ⟨⟨x.py G, by simp [D.pys], by rw [q]; exact c⟩, fun m z' hm => by omega⟩
    · rename_i c
      obtain ⟨i, ei, rfl⟩ := Option.map_eq_some_iff.mp e
      obtain ⟨⟨z, h1, h2⟩, h3⟩ := fix_py ok hd f.2 ei
      refine ⟨⟨z, by simpa [D.pys] using h1, h2⟩, fun m z' hm hz => ?_⟩
      cases m with
      | zero =>
        simp [D.pys] at hz
        subst hz
        rw [q]
        simpa using c
      | succ m => exact h3 m z' (by omega) (by simpa [D.pys] using hz)
def bIndex (x : Val) (xs : List Val) (h : Heap) : Res Val := match x, xs with
  | .ref a, [y] => match h[a]? with
    | some (.lst ys) => match conv 60 h y, optAll (conv 59 h) ys with
      | some d, some ds => match fix d ds with
        | some j => .ok (.int (j : Nat)) h
        | none => .stuck
      | _, _ => .stuck
    | _ => .stuck
  | _, _ => .stuck
theorem rm_index (ok : G.Ok) : RfM G E (rIndexD G.K) bIndex := by
  refine ⟨fun r H h x v xs vs Q hR vx vv p => ?_⟩
  unfold bIndex at p
  split at p
  · cases vx with
    | ref ea => cases vv with
      | cons q1 q2 =>
        cases q2
        split at p
        · rename_i ys eo
          split at p
          · rename_i d ds e1 e2
            split at p
            · rename_i j ej
              cases hR.ob _ _ _ eo ea with
              | lst hl hv =>
                obtain ⟨d1, w1⟩ := conv_dp hR _ _ _ _ q1 e1
                obtain ⟨d2, w2⟩ := optAll_dp (fun x v d => conv_dp hR 59 x v d) _ _ _ hv e2
                obtain ⟨⟨z, z1, z2⟩, z3⟩ := fix_py ok w1 w2 ej
                have sl : SeqAt.shaped (.list (D.pys G ds)) = true := by
                  have : (D.lst ds).wf G.sts.length 60 = true := by simpa [D.wf] using w2
                  have := shaped_py ok this (by decide)
                  simpa [D.py] using this
                exact ⟨_, _, _, _, j, z, rfl, rfl, .lst (SqL.of hl) d2, d1, sl, shaped_py ok w1 (by decide), z1, z2, z3, p.here hR (.int _)⟩
            · exact False.elim p
          · exact False.elim p
        · exact False.elim p
  · exact False.elim p
theorem cl_index (C : XC G E X k) : MtR X "list.index" (rIndexD G.K) := by
  have := mt_indexD (X := X) C.hu
  rwa [C.K] at this
/-! ### what stands written in the module: tuples, dicts with text keys -/
mutual
inductive CV (K : PySem.W.Frag) (sts : List Str) : Val → Value → Prop
  | non : CV K sts .non .none
  | int (i : Int) {t : Tok} : CV K sts (.int i) (.int i t)
  | str {n : Nat} {x : Str} {t : Tok} : sts[n]? = some x → CV K sts (.str n) (.str x t)
  | tup {xs : List Val} {a : Addr} {o : PySem.Obj} {its : Array Value} {n : Nat} : K.lookup a = some o → o.cls = .type "tuple" → o.data = .seq its n → its.size ≤ sizeLine → CVs K sts xs its.toList → CV K sts (.tup xs) (.ref a)
inductive CVs (K : PySem.W.Frag) (sts : List Str) : List Val → List Value → Prop
  | nil : CVs K sts [] []
  | cons {x : Val} {v : Value} {xs : List Val} {vs : List Value} : CV K sts x v → CVs K sts xs vs → CVs K sts (x :: xs) (v :: vs)
end
mutual
theorem CV.vr {G : Cfg} : ∀ {x : Val} {u : Value}, CV G.K G.sts x u → ∃ v, RelV v u ∧ ∀ r H, VR G r H x v
  | _, _, .non => ⟨.non, rfl, fun _ _ => .non⟩
  | _, _, .int i (t := t) => ⟨.int i, ⟨t, rfl⟩, fun _ _ => .int i⟩
  | _, _, .str e (t := t) => ⟨.str _, ⟨t, rfl⟩, fun _ _ => .str e⟩
  | _, _, .tup (a := a) h1 h2 h3 h4 h5 => by
    obtain ⟨vs, q1, q2⟩ := CVs.vrs h5
    exact ⟨.ref a, rfl, fun r H => .tup (.inr ⟨_, _, _, h1, h2, h3, h4, q1⟩) (q2 r H)⟩
theorem CVs.vrs {G : Cfg} : ∀ {xs : List Val} {us : List Value}, CVs G.K G.sts xs us → ∃ vs, Vals vs us ∧ ∀ r H, VRs G r H xs vs
  | _, _, .nil => ⟨[], .nil, fun _ _ => .nil⟩
  | _, _, .cons a b => by
    obtain ⟨v, q1, q2⟩ := CV.vr a
    obtain ⟨vs, q3, q4⟩ := CVs.vrs b
    exact ⟨v :: vs, .cons q1 q3, fun r H => .cons (q2 r H) (q4 r H)⟩
end
/-- a name of the module that holds a written value -/
def KT (K : PySem.W.Frag) (mg : Str → Option Value) (sts : List Str) (x : Str) (v : Val) : Prop := ∃ u, mg x = some u ∧ CV K sts v u
theorem me_globC {x : Str} {v : Val} {pos : Pos} (C : XC G E X k) (q : KT G.K X.mg G.sts x v) (hg : Gl X x := by rfl) (hd : (x == ("__debug__" : Str)) = false := by decide) : ME G E X (.Name x pos) (fun σ H Q => ∀ u, RelV u ((X.mg x).getD .none) → (∀ r H, VR G r H v u) → Q u H) (mK v) := by
  obtain ⟨u, hm, hc⟩ := q
  obtain ⟨w, hw, hv⟩ := hc.vr
  refine ⟨?_, ⟨fun r H h s σ Q hR sR p u _ hu => p.here hR (hu r H)⟩⟩
  have := pe_glob (pos := pos) hg hm hw hd
  refine ⟨fun pins s σ H Q I z => this.run pins s σ H Q I (z w ?_ hv)⟩
  rw [hm]; exact hw
/-- entries of a written dict -/
inductive CE (w : World) (K : PySem.W.Frag) (sts : List Str) : List (Nat × Val) → List DictEntry → Prop
  | nil : CE w K sts [] []
  | cons {i : Nat} {v : Val} {z : Str} {t : Tok} {u : Value} {hh : Int} {l es} : sts[i]? = some z → hh = PyData.keyHash w.params z → CV K sts v u → CE w K sts l es → CE w K sts ((i, v) :: l) (⟨hh, .str z t, u⟩ :: es)
structure KD (w : World) (K : PySem.W.Frag) (mg : Str → Option Value) (sts : List Str) (x : Str) (a : Addr) (es : Array DictEntry) (n : Nat) (l : List (Nat × Val)) : Prop where
  mgx : mg x = some (.ref a)
  lk : K.lookup a = some ⟨.type "dict", none, .dict es n, #[]⟩
  low : (a == sysModules) = false
  ce : CE w K sts l es.toList
def lkN (l : List (Nat × Val)) (n : Nat) : Option Val := (l.find? fun kv => kv.1 == n).map (·.2)
theorem CE.lit {w : World} {K : PySem.W.Frag} {sts : List Str} : ∀ {l : List (Nat × Val)} {es : List DictEntry}, CE w K sts l es → PySem.W.KeysLit w.params es
  | _, _, .nil => trivial
  | _, _, .cons _ a _ b => ⟨⟨_, _, rfl, a⟩, CE.lit b⟩
theorem CE.nref {w : World} {K : PySem.W.Frag} {sts : List Str} : ∀ {l : List (Nat × Val)} {es : List DictEntry}, CE w K sts l es → es.any (·.refKey) = false
  | _, _, .nil => rfl
  | _, _, .cons _ _ _ b => by rw [List.any_cons, CE.nref b]; rfl
theorem CE.find (ok : G.Ok) {w : World} {n : Nat} {z : Str} (hz : G.sts[n]? = some z) : ∀ {l : List (Nat × Val)} {es : List DictEntry}, CE w G.K G.sts l es →
    (lkN l n = none ∧ es.find? (·.key.isStr z) = none) ∨ ∃ v e, lkN l n = some v ∧ es.find? (·.key.isStr z) = some e ∧ CV G.K G.sts v e.val
  | _, _, .nil => .inl ⟨rfl, rfl⟩
  | _, _, @CE.cons _ _ _ i v z' t u hh _ _ hi _ a b => by
    unfold lkN
    rw [List.find?_cons, List.find?_cons]
    by_cases e : i = n
    · subst e
      rw [hi] at hz
      cases hz
      right
      refine ⟨v, ⟨hh, Value.str z t, u⟩, ?_, ?_, a⟩
      · simp
      · have : (Value.str z t).isStr z = true := by simp [Value.isStr]
        simp only [this]
    · have hne : z' ≠ z := fun q => e (by subst q; exact sts_inj ok hi hz)
      have h1 : (i == n) = false := beq_eq_false_iff_ne.mpr e
      have h2 : (Value.str z' t).isStr z = false := by simp [Value.isStr, hne]
      simp only [h1, h2]
      exact CE.find ok hz b
theorem KD.ns (ok : G.Ok) {w : World} {a : Addr} {es : Array DictEntry} {m n : Nat} {z : Str} {l : List (Nat × Val)} (hl : G.K.lookup a = some ⟨.type "dict", none, .dict es m, #[]⟩) (ce : CE w G.K G.sts l es.toList) (hz : G.sts[n]? = some z) :
    (lkN l n = none ∧ PySem.W.nsIn G.K a z = some none) ∨ ∃ v u, lkN l n = some v ∧ PySem.W.nsIn G.K a z = some (some u) ∧ CV G.K G.sts v u := by
  unfold PySem.W.nsIn
  rw [hl]
  rcases ce.find ok hz with ⟨e1, e2⟩ | ⟨v, e, e1, e2, e3⟩
  · left
    refine ⟨e1, ?_⟩
    simp only [e2, ce.nref]
    simp
  · right
    refine ⟨v, e.val, e1, ?_, e3⟩
    simp only [e2]
/-- in, not in a written dict -/
def kIn (neg : Bool) (l : List (Nat × Val)) (x : Val) (h : Heap) : Res Val := match x with
  | .str n => .ok (.bl (if neg then !(lkN l n).isSome else (lkN l n).isSome)) h
  | _ => .stuck
def kIx (l : List (Nat × Val)) (x : Val) (h : Heap) : Res Val := match x with
  | .str n => match lkN l n with
    | some v => .ok v h
    | none => .stuck
  | _ => .stuck
def kGet (l : List (Nat × Val)) (x y : Val) (h : Heap) : Res Val := match x with
  | .str n => .ok ((lkN l n).getD y) h
  | _ => .stuck
section
variable {a b e f : Expr} {ta tb ty tx : TE} {ma mb : En → Heap → Res Val} {pos p p2 apos cpos : Pos} {x : Str} {l : List (Nat × Val)}
variable {d : Addr} {es : Array DictEntry} {n : Nat}
abbrev rKIn (K : PySem.W.Frag) (d : Addr) : R2 := fun x y H Q => ∃ (z : Str) (r : Option Value), x = .str z ∧ y = .ref d ∧ PySem.W.nsIn K d z = some r ∧ Q (.bl r.isSome) H
abbrev rKNotIn (K : PySem.W.Frag) (d : Addr) : R2 := fun x y H Q => ∃ (z : Str) (r : Option Value), x = .str z ∧ y = .ref d ∧ PySem.W.nsIn K d z = some r ∧ Q (.bl (!r.isSome)) H
theorem KD.kd (C : XC G E X k) (q : KD X.w G.K X.mg G.sts x d es n l) : KDict X.K X.w d es n := ⟨by rw [C.K]; exact q.lk, q.ce.lit, q.low⟩
theorem KD.pe (q : KD X.w G.K X.mg G.sts x d es n l) (hg : Gl X x) (hd : (x == ("__debug__" : Str)) = false) : PE X (.Name x p) (tC (.ref d)) := pe_glob (v := .ref d) hg q.mgx rfl hd
theorem mc_kin (ok : G.Ok) (C : XC G E X k) (q : KD X.w G.K X.mg G.sts x d es n l) (ha : ME G E X a ta ma) (hg : Gl X x := by rfl) (hd : (x == ("__debug__" : Str)) = false := by decide) : MC G E X .In a (.Name x p) (tOp (rKIn X.K d) ta (tC (.ref d))) (mU (kIn false l) ma) := by
  refine ⟨pc_of (op_in_kd (q.kd C)) ha.pe (q.pe hg hd), ⟨fun r H h s σ Q hR sR pp => ha.rf.run r H h s σ _ hR sR (pp.seq fun v h1 r1 H1 u s1 hR1 v1 p1 => ?_)⟩⟩
  cases v1 with
  | @str m z hz =>
    have p1' : PostR G (VR G) r1 H1 E (.ok (.bl (lkN l m).isSome) h1) Q := p1
    rcases KD.ns ok q.lk q.ce hz with ⟨e1, e2⟩ | ⟨v, w, e1, e2, e3⟩
    · rw [e1] at p1'
      exact ⟨z, none, rfl, rfl, by rw [C.K]; exact e2, p1'.here hR1 (.bl _)⟩
    · rw [e1] at p1'
      exact ⟨z, some w, rfl, rfl, by rw [C.K]; exact e2, p1'.here hR1 (.bl _)⟩
  | _ => exact False.elim p1
theorem mc_knotin (ok : G.Ok) (C : XC G E X k) (q : KD X.w G.K X.mg G.sts x d es n l) (ha : ME G E X a ta ma) (hg : Gl X x := by rfl) (hd : (x == ("__debug__" : Str)) = false := by decide) : MC G E X .NotIn a (.Name x p) (tOp (rKNotIn X.K d) ta (tC (.ref d))) (mU (kIn true l) ma) := by
  refine ⟨pc_of (op_notIn_kd (q.kd C)) ha.pe (q.pe hg hd), ⟨fun r H h s σ Q hR sR pp => ha.rf.run r H h s σ _ hR sR (pp.seq fun v h1 r1 H1 u s1 hR1 v1 p1 => ?_)⟩⟩
  cases v1 with
  | @str m z hz =>
    have p1' : PostR G (VR G) r1 H1 E (.ok (.bl (!(lkN l m).isSome)) h1) Q := p1
    rcases KD.ns ok q.lk q.ce hz with ⟨e1, e2⟩ | ⟨v, w, e1, e2, e3⟩
    · rw [e1] at p1'
      exact ⟨z, none, rfl, rfl, by rw [C.K]; exact e2, p1'.here hR1 (.bl _)⟩
    · rw [e1] at p1'
      exact ⟨z, some w, rfl, rfl, by rw [C.K]; exact e2, p1'.here hR1 (.bl _)⟩
  | _ => exact False.elim p1
/-- D[e] -/
theorem me_kix (ok : G.Ok) (C : XC G E X k) (q : KD X.w G.K X.mg G.sts x d es n l) (hb : ME G E X b tb mb) (hg : Gl X x := by rfl) (hd : (x == ("__debug__" : Str)) = false := by decide) (hs : PlainIx b := by exact fun _ _ => rfl) :
    ME G E X (.Subscript (.Name x p) b pos) (tOp (rIxD X.K X.w) (tC (.ref d)) tb) (mU (kIx l) mb) := by
  refine ⟨pe_ix ix_kdict (q.pe hg hd) hb.pe hs, ⟨fun r H h s σ Q hR sR pp => hb.rf.run r H h s σ _ hR sR (pp.seq fun v h1 r1 H1 u s1 hR1 v1 p1 => ?_)⟩⟩
  cases v1 with
  | @str m z hz =>
    rcases KD.ns ok q.lk q.ce hz with ⟨e1, e2⟩ | ⟨v, w, e1, e2, e3⟩
    · have : PostR G (VR G) r1 H1 E .stuck Q := by
        have p1' := p1
        unfold kIx at p1'; simp only [e1] at p1'
        exact p1'
      exact this.elim
    · have p1' : PostR G (VR G) r1 H1 E (.ok v h1) Q := by
        have p1' := p1
        unfold kIx at p1'; simp only [e1] at p1'
        exact p1'
      obtain ⟨w', hw, hv⟩ := e3.vr
      exact ⟨d, z, w', rfl, rfl, ⟨es, n, w, by rw [C.K]; exact q.lk, q.ce.lit, by rw [C.K]; exact e2, hw⟩, p1'.here hR1 (hv _ _)⟩
  | _ => exact False.elim p1
/-- D.get(e, f) -/
def tKGet (K : PySem.W.Frag) (d : Addr) (ty tx : TE) : TE := fun σ H Q => ty σ H fun y H2 => tx σ H2 fun z H3 => ∃ (z' : Str) (r : Option Value) (v : V), y = .str z' ∧ PySem.W.nsIn K d z' = some r ∧ (match r with | some u => RelV v u | none => v = z) ∧ Q v H3
theorem pe_kget2 {o : Expr} (D : KDict X.K X.w d es n) (ho : PE X o (tC (.ref d))) (he : PE X e ty) (hf : PE X f tx) (m : M2 X o "get" apos e f cpos) : PE X (.Call (.Attribute o "get" apos) [e, f] [] cpos) (tKGet X.K d ty tx) := by
  refine ⟨fun pins s σ H Q I hyp => ?_⟩
  have first := ho.run pins s σ H (fun v H' => v = .ref d ∧ tKGet X.K d ty tx σ H' Q) I ⟨rfl, hyp⟩
  refine wpAny_Call_method m.base m.few m.line PySem.F.plainAttrs_dict PySem.F.slot_dict_get PySem.F.type_dict_get (thn first fun ov sA ⟨xA, HA, IA, rA, eA, qA⟩ => ?_)
  subst eA
  obtain rfl : ov = Value.ref d := rA
  have mo := PySem.W.mapOf_K (prog := X.prog) (w := X.w) IA.kIn D.at_ D.lit
  refine ⟨mo.typeIs, fun b eb => ?_, ?_⟩
  · cases eb
    obtain ⟨ob, _, _, z1, z2, _⟩ := mo
    exact ⟨ob, z1, z2.2.1⟩
  · rw [m.trees]
    refine Calls.callWith_builtin rfl (Calls.evalArgs_plain (Calls.spliced_cons (thn (he.run pins sA σ HA _ IA qA) fun yv sB ⟨y, HB, IB, rB, qB⟩ => Calls.spliced_cons (thn (hf.run pins sB σ HB _ IB qB) fun zv sC ⟨z, HC, IC, rC, zz, rr, vv, ey, en, ev, qC⟩ => Calls.spliced_nil ?_))))
    subst ey
    obtain ⟨t, rfl⟩ := rB
    have mo2 := PySem.W.mapOf_K (prog := X.prog) (w := X.w) IC.kIn D.at_ D.lit
    refine call_meetsIn PySem.F.slot_dict_get mo2.typeIs PySem.F.entry_dict_get (PySem.F.args_dict_get_3 _ _ _) (meets_dict_get_default (strKind X.prog X.w) d (strKind_is X.prog X.w zz t) D.low zv) ⟨_, mo2, ?_⟩
    rw [PySem.W.find_K D.at_ en]
    refine ⟨vv, HC, IC.tok _, ?_, qC⟩
    cases rr with
    | none =>
      have : vv = z := ev
      subst this
      exact rC
    | some u0 => exact ev
theorem me_kget (ok : G.Ok) (C : XC G E X k) (q : KD X.w G.K X.mg G.sts x d es n l) (he : ME G E X e ty ma) (hf : ME G E X f tx mb)
    (m : M2 X (.Name x p) "get" apos e f cpos := by exact ⟨rfl, rfl, rfl, rfl⟩) (hg : Gl X x := by rfl) (hd : (x == ("__debug__" : Str)) = false := by decide) :
    ME G E X (.Call (.Attribute (.Name x p) "get" apos) [e, f] [] cpos) (tKGet X.K d ty tx) (mB (kGet l) ma mb) := by
  refine ⟨pe_kget2 (q.kd C) (q.pe hg hd) he.pe hf.pe m, ⟨fun r H h s σ Q hR sR pp => ?_⟩⟩
  refine he.rf.run r H h s σ _ hR sR (pp.seq fun v h1 r1 H1 u s1 hR1 v1 p1 => ?_)
  refine hf.rf.run r1 H1 h1 s σ _ hR1 (sR.mono s1) (p1.seq fun y h2 r2 H2 w s2 hR2 v2 p2 => ?_)
  have v1' := v1.mono s2
  cases v1' with
  | @str m z hz =>
    have p2' : PostR G (VR G) r2 H2 E (.ok ((lkN l m).getD y) h2) Q := p2
    rcases KD.ns ok q.lk q.ce hz with ⟨e1, e2⟩ | ⟨v, u', e1, e2, e3⟩
    · rw [e1] at p2'
      exact ⟨z, none, w, rfl, by rw [C.K]; exact e2, rfl, p2'.here hR2 v2⟩
    · rw [e1] at p2'
      obtain ⟨w', hw, hv⟩ := e3.vr
      exact ⟨z, some u', w', rfl, by rw [C.K]; exact e2, hw, p2'.here hR2 (hv _ _)⟩
  | _ => exact False.elim p2
end
/-! ### texts: length, one sign, by a table -/
def lkS (tbl : List (Nat × List Nat)) (n : Nat) : Option (List Nat) := (tbl.find? fun kv => kv.1 == n).map (·.2)
def oIxS (tbl : List (Nat × List Nat)) (x y : Val) (h : Heap) : Res Val := match x, y with
  | .str n, .int i => match lkS tbl n with
    | some l => match L2.atI l i with
      | some c => .ok (.str c) h
      | none => .stuck
    | none => .stuck
  | _, _ => .stuck
def bLenS (tbl : List (Nat × List Nat)) (xs : List Val) (h : Heap) : Res Val := match xs with
  | [.str n] => match lkS tbl n with
    | some l => .ok (.int l.length) h
    | none => .stuck
  | _ => .stuck
def stOk (sts : List Str) (tbl : List (Nat × List Nat)) : Bool := tbl.all fun kv => match sts[kv.1]? with
  | some z => decide (z.cps.size ≤ 1000) && (z.cps.toList.map (fun c => some (⟨#[c]⟩ : Str)) == kv.2.map (fun c => sts[c]?))
  | none => false
theorem stOk_at {sts : List Str} {tbl : List (Nat × List Nat)} (o : stOk sts tbl = true) {n : Nat} {l : List Nat} (e : lkS tbl n = some l) {z : Str} (hz : sts[n]? = some z) : z.cps.size ≤ 1000 ∧ z.cps.toList.map (fun c => some (⟨#[c]⟩ : Str)) = l.map (fun c => sts[c]?) := by
  unfold lkS at e
  obtain ⟨kv, h1, rfl⟩ := Option.map_eq_some_iff.mp e
  have hm := List.mem_of_find?_eq_some h1
  have hn := List.find?_some h1
  have := List.all_eq_true.mp o kv hm
  have hn' : kv.1 = n := by simpa using hn
  rw [hn', hz] at this
  simp only [Bool.and_eq_true, decide_eq_true_eq, beq_iff_eq] at this
  exact this
theorem atI_map' {α β : Type} (f : α → β) (xs : List α) (i : Int) : L2.atI (xs.map f) i = (L2.atI xs i).map f := by
  unfold L2.atI
  rw [List.length_map]
  cases L2.ixN xs.length i with
  | none => rfl
  | some j => simp
section
variable {a b e : Expr} {ta tb : TE} {ma mb : En → Heap → Res Val} {pos p : Pos} {tbl : List (Nat × List Nat)}
theorem rf_ixS (o : stOk G.sts tbl = true) : Rf2 G E rIxS (oIxS tbl) := by
  refine ⟨fun r H h x y v u Q hR vx vy p => ?_⟩
  unfold oIxS at p
  split at p
  · rename_i nn i
    cases vx with
    | @str n z hz => cases vy with
      | int _ =>
        split at p
        · rename_i l el
          split at p
          · rename_i c ec
            obtain ⟨q1, q2⟩ := stOk_at o el hz
            have q3 := atI_map' (fun c => some (⟨#[c]⟩ : Str)) z.cps.toList i
            rw [q2, atI_map', ec] at q3
            obtain ⟨cp, e1, e2⟩ := Option.map_eq_some_iff.mp q3.symm
            exact ⟨z, i, cp, rfl, rfl, Nat.le_trans q1 (by rw [sizeLine_eq]; decide), e1, p.here hR (.str e2.symm)⟩
          · exact False.elim p
        · exact False.elim p
  · exact False.elim p
theorem me_ixS (o : stOk G.sts tbl = true) (ha : ME G E X a ta ma) (hb : ME G E X b tb mb) (hs : PlainIx b := by exact fun _ _ => rfl) : ME G E X (.Subscript a b pos) (tOp rIxS ta tb) (mB (oIxS tbl) ma mb) :=
  ⟨pe_ix ix_str ha.pe hb.pe hs, ha.rf.b2 hb.rf (rf_ixS o)⟩
theorem rl_lenS (o : stOk G.sts tbl = true) : RfL G E (rLenA G.K) (bLenS tbl) := by
  refine ⟨fun r H h xs vs Q hR v p => ?_⟩
  unfold bLenS at p
  split at p
  · cases v with
    | cons q1 q2 =>
      cases q1
      cases q2
      rename_i n z hz
      split at p
      · rename_i l el
        obtain ⟨q1, q2⟩ := stOk_at o el hz
        have ql := congrArg List.length q2
        simp only [List.length_map, Array.length_toList] at ql
        refine .inl ⟨_, z.length, rfl, ⟨Nat.le_trans q1 (by rw [sizeLine_eq]; decide), rfl⟩, ?_⟩
        have e : z.length = l.length := ql
        rw [e]
        exact p.here hR (.int _)
      · exact False.elim p
  · exact False.elim p
end
/-! ### a, b = x, y and a, b, c = x, y, z -/
def sPar2 (i j : Nat) (mA : En → Heap → Res (List Val)) (s : En) (h : Heap) : RS := (mA s h).thenS fun xs h1 => match xs with
  | [x, y] => .nx ((s.set i (some x)).set j (some y)) h1
  | _ => .stuck
def sPar3 (i j l : Nat) (mA : En → Heap → Res (List Val)) (s : En) (h : Heap) : RS := (mA s h).thenS fun xs h1 => match xs with
  | [x, y, z] => .nx (((s.set i (some x)).set j (some y)).set l (some z)) h1
  | _ => .stuck
section
variable {a b c : Expr} {tA : TA} {mA : En → Heap → Res (List Val)} {px py pz pt pos : Pos} {kt k2 pt2} {x y z : Str}
theorem ms_par2 (i j : Nat) (C : XC G E X k) (hi : X.N[i]? = some x) (hj : X.N[j]? = some y) (hij : i ≠ j) (hx : X.env.scope.names.lookup x = some .local) (hy : X.env.scope.names.lookup y = some .local) (ha : MA G E X [a, b] tA mA)
    (hw : swappedStores [.Tuple [.Name x px, .Name y py] kt pt] (.Tuple [a, b] k2 pt2) X.env = pure (some [x, y]))
    (hs : swapsWithSole [.Tuple [.Name x px, .Name y py] kt pt] (.Tuple [a, b] k2 pt2) pos.line X.env = pure false := by rfl) :
    MS G E X (.Assign [.Tuple [.Name x px, .Name y py] kt pt] (.Tuple [a, b] k2 pt2) pos) (tPar i j tA) (sPar2 i j mA) := by
  refine ⟨ps_par C.calm C.nd hi hj hij hx hy ha.pe hw hs, ⟨fun r H h s σ D hR sR p => ?_⟩⟩
  refine ha.rf.run r H h s σ _ hR sR (p.seqS fun xs h1 r1 H1 vs s1 hR1 v1 p1 => ?_)
  split at p1
  · rename_i u w
    cases v1 with
    | cons q1 q2 => cases q2 with
      | cons q3 q4 =>
        cases q4
        exact ⟨_, _, rfl, p1.here hR1 (((sR.mono s1).set q1 i).set q3 j)⟩
  · exact False.elim p1
theorem ms_par3 (i j l : Nat) (C : XC G E X k) (hi : X.N[i]? = some x) (hj : X.N[j]? = some y) (hl : X.N[l]? = some z) (hij : i ≠ j) (hil : i ≠ l) (hjl : j ≠ l) (hx : X.env.scope.names.lookup x = some .local) (hy : X.env.scope.names.lookup y = some .local) (hz : X.env.scope.names.lookup z = some .local) (ha : MA G E X [a, b, c] tA mA)
    (hw : swappedStores [.Tuple [.Name x px, .Name y py, .Name z pz] kt pt] (.Tuple [a, b, c] k2 pt2) X.env = pure (some [x, y, z]))
    (hs : swapsWithSole [.Tuple [.Name x px, .Name y py, .Name z pz] kt pt] (.Tuple [a, b, c] k2 pt2) pos.line X.env = pure false := by rfl) :
    MS G E X (.Assign [.Tuple [.Name x px, .Name y py, .Name z pz] kt pt] (.Tuple [a, b, c] k2 pt2) pos) (tPar3 i j l tA) (sPar3 i j l mA) := by
  refine ⟨ps_par3 C.calm C.nd hi hj hl hij hil hjl hx hy hz ha.pe hw hs, ⟨fun r H h s σ D hR sR p => ?_⟩⟩
  refine ha.rf.run r H h s σ _ hR sR (p.seqS fun xs h1 r1 H1 vs s1 hR1 v1 p1 => ?_)
  split at p1
  · rename_i u w w'
    cases v1 with
    | cons q1 q2 => cases q2 with
      | cons q3 q4 => cases q4 with
        | cons q5 q6 =>
          cases q6
          exact ⟨_, _, _, rfl, p1.here hR1 ((((sR.mono s1).set q1 i).set q3 j).set q5 l)⟩
  · exact False.elim p1
end
end PyM

set_option Elab.async false
set_option linter.all false
set_option autoImplicit false
set_option maxHeartbeats 4000000
/-! dicts: get, pop; keys that are tuples, written where they are used; list.remove -/
namespace PyM
open PySem L2 L2.DX
variable {G : Cfg} {E : XK} {X : Cx} {k : Nat} {r r' : List Addr} {H H' : Hp} {h : Heap}
theorem KRs.eq (ok : G.Ok) : ∀ {ks ks' : List Val} {qs qs' : List Key}, KRs G ks qs → KRs G ks' qs' → decide (ks = ks') = decide (qs = qs')
  | _, _, _, _, .nil, .nil => rfl
  | _, _, _, _, .nil, .cons _ _ => by simp
  | _, _, _, _, .cons _ _, .nil => by simp
  | _, _, _, _, .cons a b, .cons c d => by
    have e1 := KR.eq ok a c
    have e2 := KRs.eq ok b d
    simp only [decide_eq_decide] at e1 e2
    simp only [List.cons.injEq, decide_eq_decide]
    rw [e1, e2]
theorem KRs.of : ∀ {ks : List Val} {vs : List V}, VRs G r H ks vs → ks.all isKey = true → ∃ qs, KRs G ks qs ∧ vs = qs.map kV
  | _, _, .nil, _ => ⟨[], .nil, rfl⟩
  | _, _, .cons a b, hk => by
    rw [List.all_cons, Bool.and_eq_true] at hk
    obtain ⟨q, q1, rfl⟩ := KR.of a hk.1
    obtain ⟨qs, q2, rfl⟩ := KRs.of b hk.2
    exact ⟨q :: qs, .cons q1 q2, rfl⟩
theorem DTR.len {d e} (a : DTR G r H d e) : d.length = e.length := by
  induction a with
  | nil => rfl
  | cons _ _ _ ih => simp [ih]
theorem DTR.keq (ok : G.Ok) {ks ks' : List Val} {qs qs' : List Key} (a : KRs G ks qs) (b : KRs G ks' qs') : (Val.tup ks = Val.tup ks') ↔ qs = qs' := by
  have := KRs.eq ok a b
  simp only [decide_eq_decide] at this
  rw [← this]
  exact ⟨fun e => by injection e, fun e => by rw [e]⟩
theorem DTR.look (ok : G.Ok) {d e} (a : DTR G r H d e) {ks : List Val} {qs : List Key} (b : KRs G ks qs) : (lookV d (.tup ks) = none ∧ valV e qs = none) ∨ ∃ x v, lookV d (.tup ks) = some x ∧ valV e qs = some v ∧ VR G r H x v := by
  induction a with
  | nil => exact .inl ⟨rfl, rfl⟩
  | @cons ks' x qs' v d e hk hv _ ih =>
    have e1 := DTR.keq ok hk b
    by_cases hh : qs' = qs
    · have h2 := e1.mpr hh
      exact .inr ⟨x, v, by simp [lookV, h2], by simp [valV, hh], hv⟩
    · have h2 : ¬ Val.tup ks' = Val.tup ks := fun q => hh (e1.mp q)
      have l1 : lookV ((Val.tup ks', x) :: d) (.tup ks) = lookV d (.tup ks) := by simp only [lookV, List.find?_cons, h2, decide_false]
      have l2 : valV ((qs', v) :: e) qs = valV e qs := by simp only [valV, List.find?_cons, hh, decide_false]
      rw [l1, l2]
      exact ih
theorem DTR.any (ok : G.Ok) {d e} (a : DTR G r H d e) {ks : List Val} {qs : List Key} (b : KRs G ks qs) : (d.any fun kv => decide (kv.1 = .tup ks)) = (e.any fun kv => decide (kv.1 = qs)) := by
  induction a with
  | nil => rfl
  | cons hk _ _ ih =>
    rw [List.any_cons, List.any_cons, ih]
    congr 1
    exact decide_eq_decide.mpr (DTR.keq ok hk b)
theorem DTR.app {d e d' e'} (a : DTR G r H d e) (b : DTR G r H d' e') : DTR G r H (d ++ d') (e ++ e') := by
  induction a with
  | nil => exact b
  | cons hk hv _ ih => exact .cons hk hv ih
theorem DTR.upd (ok : G.Ok) {d e} (a : DTR G r H d e) {ks : List Val} {x : Val} {qs : List Key} {v : V} (b : KRs G ks qs) (c : VR G r H x v) : DTR G r H (d.map (fun kv => if kv.1 = .tup ks then (kv.1, x) else kv)) (e.map (fun kv => if kv.1 = qs then (kv.1, v) else kv)) := by
  induction a with
  | nil => exact .nil
  | @cons ks' x' qs' v' d e hk hv _ ih =>
    have e1 := DTR.keq ok hk b
    rw [List.map_cons, List.map_cons]
    by_cases hh : qs' = qs
    · rw [if_pos (e1.mpr hh), if_pos hh]
      exact .cons hk c ih
    · rw [if_neg (fun q => hh (e1.mp q)), if_neg hh]
      exact .cons hk hv ih
theorem DTR.put (ok : G.Ok) {d e} (a : DTR G r H d e) {ks : List Val} {x : Val} {qs : List Key} {v : V} (b : KRs G ks qs) (c : VR G r H x v) : DTR G r H (putV d (.tup ks) x) (putK e qs v) := by
  unfold putV putK
  rw [a.any ok b]
  by_cases hh : (e.any fun kv => decide (kv.1 = qs)) = true
  · rw [if_pos hh, if_pos hh]
    exact a.upd ok b c
  · rw [if_neg hh, if_neg hh]
    exact a.app (.cons b c .nil)
theorem DTR.drop (ok : G.Ok) {d e} (a : DTR G r H d e) {ks : List Val} {qs : List Key} (b : KRs G ks qs) : DTR G r H (dropV d (.tup ks)) (dropK e qs) := by
  unfold dropV dropK
  induction a with
  | nil => exact .nil
  | @cons ks' x' qs' v' d e hk hv _ ih =>
    have e1 := DTR.keq ok hk b
    by_cases hh : qs' = qs
    · rw [List.filter_cons_of_neg (by simp [e1.mpr hh]), List.filter_cons_of_neg (by simp [hh])]
      exact ih
    · have h2 : ¬ Val.tup ks' = Val.tup ks := fun q => hh (e1.mp q)
      rw [List.filter_cons_of_pos (by simpa using h2), List.filter_cons_of_pos (by simpa using hh)]
      exact .cons hk hv ih
/-- a dict of an instance is written -/
theorem set_dct (hR : HR G r H h) {n : Nat} {ad : Addr} {d d' : List (Val × Val)} {e e' : List (Key × V)} {x : Val} {v : V} {Q : VK} (eo : h[n]? = some (.dct d)) (ea : r[n]? = some ad) (hl : H ad = some (.dK e)) (hv : DR G r H d' e') (hx : VR G r H x v) (p : PostR G (VR G) r H E (.ok x (h.set n (.dct d'))) Q) : Q v (upd H ad (.dK e')) := by
  have st : Stp G.K r H r (upd H ad (.dK e')) := Stp.upd fun o e => by rw [hl] at e; cases e; trivial
  exact p r _ _ st (hR.write eo rfl ea (fun o e => by rw [hl] at e; cases e; trivial) (.dct upd_same (hv.mono st)) rfl) (hx.mono st)
theorem set_dcT (hR : HR G r H h) {n : Nat} {ad : Addr} {d d' : List (Val × Val)} {e e' : List (List Key × V)} {x : Val} {v : V} {Q : VK} (eo : h[n]? = some (.dcT d)) (ea : r[n]? = some ad) (hl : H ad = some (.dT e)) (hv : DTR G r H d' e') (hx : VR G r H x v) (p : PostR G (VR G) r H E (.ok x (h.set n (.dcT d'))) Q) : Q v (upd H ad (.dT e')) := by
  have st : Stp G.K r H r (upd H ad (.dT e')) := Stp.upd fun o e => by rw [hl] at e; cases e; trivial
  exact p r _ _ st (hR.write eo rfl ea (fun o e => by rw [hl] at e; cases e; trivial) (.dcT upd_same (hv.mono st)) rfl) (hx.mono st)

/-! ### d.get, d.pop with int and text keys -/
def isD (x : Val) (h : Heap) : Bool := match x with
  | .ref a => match h[a]? with
    | some (.dct _) => true
    | some (.dcT _) => true
    | _ => false
  | _ => false
theorem isD_of (hR : HR G r H h) {x : Val} {v : V} (q : VR G r H x v) (e : isD x h = true) : ∃ a, v = .ref a ∧ IsD H a := by
  cases q with
  | ref ea =>
    simp only [isD] at e
    split at e
    · rename_i d eo
      cases hR.ob _ _ _ eo ea with
      | dct hl hv => exact ⟨_, rfl, .inl ⟨_, .inl hl⟩⟩
    · rename_i d eo
      cases hR.ob _ _ _ eo ea with
      | dcT hl hv => exact ⟨_, rfl, .inr ⟨_, .inl hl⟩⟩
    · cases e
  | _ => simp [isD] at e
def dGet (o y z : Val) (h : Heap) : Res Val := match o with
  | .ref a => match h[a]? with
    | some (.dct d) => if isKey y = true then .ok ((lookV d y).getD z) h else .stuck
    | _ => .stuck
  | _ => .stuck
def dPop1 (o y : Val) (h : Heap) : Res Val := match o with
  | .ref a => match h[a]? with
    | some (.dct d) => if isKey y = true then match lookV d y with
        | some x => .ok x (h.set a (.dct (dropV d y)))
        | none => .stuck
      else .stuck
    | _ => .stuck
  | _ => .stuck
def dPop2 (o y z : Val) (h : Heap) : Res Val := match o with
  | .ref a => match h[a]? with
    | some (.dct d) => if isKey y = true then match lookV d y with
        | some x => .ok x (h.set a (.dct (dropV d y)))
        | none => .ok z h
      else .stuck
    | _ => .stuck
  | _ => .stuck
def mGet1 (mo my : En → Heap → Res Val) (s : En) (h : Heap) : Res Val := (mo s h).bind fun o h1 => if isD o h1 = true then (my s h1).bind fun y h2 => dGet o y .non h2 else .stuck
def mGet2 (mo my mz : En → Heap → Res Val) (s : En) (h : Heap) : Res Val := (mo s h).bind fun o h1 => if isD o h1 = true then (my s h1).bind fun y h2 => (mz s h2).bind fun z h3 => dGet o y z h3 else .stuck
def mPop1 (mo my : En → Heap → Res Val) (s : En) (h : Heap) : Res Val := (mo s h).bind fun o h1 => if isD o h1 = true then (my s h1).bind fun y h2 => dPop1 o y h2 else .stuck
def mPop2 (mo my mz : En → Heap → Res Val) (s : En) (h : Heap) : Res Val := (mo s h).bind fun o h1 => if isD o h1 = true then (my s h1).bind fun y h2 => (mz s h2).bind fun z h3 => dPop2 o y z h3 else .stuck
theorem dGet_of (ok : G.Ok) (hR : HR G r H h) {o y z : Val} {v w u : V} {Q : VK} (vo : VR G r H o v) (vy : VR G r H y w) (vz : VR G r H z u) (p : PostR G (VR G) r H E (dGet o y z h) Q) : ∃ a oo, v = .ref a ∧ DGet H a w oo ∧ Q (oo.getD u) H := by
  unfold dGet at p
  split at p
  · cases vo with
    | ref ea =>
      split at p
      · rename_i d eo
        split at p
        · rename_i hk
          cases hR.ob _ _ _ eo ea with
          | dct hl hv =>
            obtain ⟨q, kq, rfl⟩ := KR.of vy hk
            rcases hv.look ok kq with ⟨e1, e2⟩ | ⟨x', v', e1, e2, v2⟩
            · rw [e1] at p
              exact ⟨_, none, rfl, by rw [← e2]; exact DGet.k hl, p.here hR vz⟩
            · rw [e1] at p
              exact ⟨_, some v', rfl, by rw [← e2]; exact DGet.k hl, p.here hR v2⟩
        · exact False.elim p
      · exact False.elim p
  · exact False.elim p
section
variable {o e f : Expr} {td ty tx : TE} {mo my mz : En → Heap → Res Val} {apos cpos : Pos}
theorem me_get1 (ok : G.Ok) (C : XC G E X k) (ho : ME G E X o td mo) (he : ME G E X e ty my) (m : M1 X o "get" apos e cpos := by exact ⟨rfl, rfl, rfl, rfl⟩) : ME G E X (.Call (.Attribute o "get" apos) [e] [] cpos) (tDGet1 td ty) (mGet1 mo my) := by
  refine ⟨pe_dget1 (by have := C.hu; omega) ho.pe he.pe m, ⟨fun r H h s σ Q hR sR p => ho.rf.run r H h s σ _ hR sR (p.seq fun x h1 r1 H1 v s1 hR1 v1 p1 => ?_)⟩⟩
  split at p1
  · rename_i hd
    obtain ⟨a, rfl, id⟩ := isD_of hR1 v1 hd
    refine ⟨a, rfl, id, he.rf.run r1 H1 h1 s σ _ hR1 (sR.mono s1) (p1.seq fun y h2 r2 H2 w s2 hR2 v2 p2 => ?_)⟩
    obtain ⟨a', oo, ea, g, q⟩ := dGet_of ok hR2 (v1.mono s2) v2 .non p2
    cases ea
    exact ⟨oo, g, q⟩
  · exact False.elim p1
theorem me_get2 (ok : G.Ok) (C : XC G E X k) (ho : ME G E X o td mo) (he : ME G E X e ty my) (hf : ME G E X f tx mz) (m : M2 X o "get" apos e f cpos := by exact ⟨rfl, rfl, rfl, rfl⟩) : ME G E X (.Call (.Attribute o "get" apos) [e, f] [] cpos) (tDGet2 td ty tx) (mGet2 mo my mz) := by
  refine ⟨pe_dget2 (by have := C.hu; omega) ho.pe he.pe hf.pe m, ⟨fun r H h s σ Q hR sR p => ho.rf.run r H h s σ _ hR sR (p.seq fun x h1 r1 H1 v s1 hR1 v1 p1 => ?_)⟩⟩
  split at p1
  · rename_i hd
    obtain ⟨a, rfl, id⟩ := isD_of hR1 v1 hd
    refine ⟨a, rfl, id, he.rf.run r1 H1 h1 s σ _ hR1 (sR.mono s1) (p1.seq fun y h2 r2 H2 w s2 hR2 v2 p2 => ?_)⟩
    refine hf.rf.run r2 H2 h2 s σ _ hR2 ((sR.mono s1).mono s2) (p2.seq fun z h3 r3 H3 u s3 hR3 v3 p3 => ?_)
    obtain ⟨a', oo, ea, g, q⟩ := dGet_of ok hR3 ((v1.mono s2).mono s3) (v2.mono s3) v3 p3
    cases ea
    exact ⟨oo, g, q⟩
  · exact False.elim p1
theorem me_pop1 (ok : G.Ok) (ho : ME G E X o td mo) (he : ME G E X e ty my) (m : M1 X o "pop" apos e cpos := by exact ⟨rfl, rfl, rfl, rfl⟩) : ME G E X (.Call (.Attribute o "pop" apos) [e] [] cpos) (tDPop1 td ty) (mPop1 mo my) := by
  refine ⟨pe_dpop1 ho.pe he.pe m, ⟨fun r H h s σ Q hR sR p => ho.rf.run r H h s σ _ hR sR (p.seq fun x h1 r1 H1 v s1 hR1 v1 p1 => ?_)⟩⟩
  split at p1
  · rename_i hd
    obtain ⟨a, rfl, id⟩ := isD_of hR1 v1 hd
    refine ⟨a, rfl, id, he.rf.run r1 H1 h1 s σ _ hR1 (sR.mono s1) (p1.seq fun y h2 r2 H2 w s2 hR2 v2 p2 => ?_)⟩
    have vo := v1.mono s2
    unfold dPop1 at p2
    split at p2
    · cases vo with
      | ref ea =>
        split at p2
        · rename_i d eo
          split at p2
          · rename_i hk
            cases hR2.ob _ _ _ eo ea with
            | dct hl hv =>
              obtain ⟨q, kq, rfl⟩ := KR.of v2 hk
              rcases hv.look ok kq with ⟨e1, e2⟩ | ⟨x', v', e1, e2, v3⟩
              · rw [e1] at p2; exact False.elim p2
              · rw [e1] at p2
                exact ⟨_, q, v', hl, rfl, e2, set_dct hR2 eo ea hl (hv.drop ok kq) v3 p2⟩
          · exact False.elim p2
        · exact False.elim p2
    · exact False.elim p2
  · exact False.elim p1
theorem me_pop2 (ok : G.Ok) (ho : ME G E X o td mo) (he : ME G E X e ty my) (hf : ME G E X f tx mz) (m : M2 X o "pop" apos e f cpos := by exact ⟨rfl, rfl, rfl, rfl⟩) : ME G E X (.Call (.Attribute o "pop" apos) [e, f] [] cpos) (tDPop2 td ty tx) (mPop2 mo my mz) := by
  refine ⟨pe_dpop2 ho.pe he.pe hf.pe m, ⟨fun r H h s σ Q hR sR p => ho.rf.run r H h s σ _ hR sR (p.seq fun x h1 r1 H1 v s1 hR1 v1 p1 => ?_)⟩⟩
  split at p1
  · rename_i hd
    obtain ⟨a, rfl, id⟩ := isD_of hR1 v1 hd
    refine ⟨a, rfl, id, he.rf.run r1 H1 h1 s σ _ hR1 (sR.mono s1) (p1.seq fun y h2 r2 H2 w s2 hR2 v2 p2 => ?_)⟩
    refine hf.rf.run r2 H2 h2 s σ _ hR2 ((sR.mono s1).mono s2) (p2.seq fun z h3 r3 H3 u s3 hR3 v3 p3 => ?_)
    have vo := (v1.mono s2).mono s3
    have vy := v2.mono s3
    unfold dPop2 at p3
    split at p3
    · cases vo with
      | ref ea =>
        split at p3
        · rename_i d eo
          split at p3
          · rename_i hk
            cases hR3.ob _ _ _ eo ea with
            | dct hl hv =>
              obtain ⟨q, kq, rfl⟩ := KR.of vy hk
              rcases hv.look ok kq with ⟨e1, e2⟩ | ⟨x', v', e1, e2, v4⟩
              · rw [e1] at p3
                exact ⟨_, q, hl, rfl, (fun v' e' => by rw [e2] at e'; cases e'), (fun _ => p3.here hR3 v3)⟩
              · rw [e1] at p3
                exact ⟨_, q, hl, rfl, (fun v'' e' => by rw [e2] at e'; cases e'; exact set_dct hR3 eo ea hl (hv.drop ok kq) v4 p3), (fun e' => by rw [e2] at e'; cases e')⟩
          · exact False.elim p3
        · exact False.elim p3
    · exact False.elim p3
  · exact False.elim p1
end

/-! ### keys that are tuples, written where they are used -/
def mDctT (_ : En) (h : Heap) : Res Val := .ok (.ref h.length) (h ++ [.dcT []])
theorem me_dictT {pos : Pos} : ME G E X (.Dict [] [] pos) tDNewT mDctT := by
  refine ⟨pe_dnewT, ⟨fun r H h s σ Q hR sR p q hq => ?_⟩⟩
  refine p (r ++ [q]) _ _ (Stp.new hq) (hR.push hq (.dcT upd_same .nil)) (.ref ?_)
  rw [← hR.len]
  simp
def keysOk (ks : List Val) : Bool := ks.all isKey && decide (ks.length ≤ 1000)
def tLook (o : Val) (ks : List Val) (h : Heap) : Option (Option Val) := match o with
  | .ref a => match h[a]? with
    | some (.dcT d) => if keysOk ks = true then some (lookV d (.tup ks)) else none
    | _ => none
  | _ => none
def tIx (o : Val) (ks : List Val) (h : Heap) : Res Val := match tLook o ks h with
  | some (some v) => .ok v h
  | _ => .stuck
def tIn (neg : Bool) (ks : List Val) (o : Val) (h : Heap) : Res Val := match tLook o ks h with
  | some v => .ok (.bl (if neg then !v.isSome else v.isSome)) h
  | none => .stuck
def tGet (o : Val) (ks : List Val) (z : Val) (h : Heap) : Res Val := match tLook o ks h with
  | some v => .ok (v.getD z) h
  | none => .stuck
def tDrop (o : Val) (ks : List Val) (h : Heap) : Heap := match o with
  | .ref a => match h[a]? with
    | some (.dcT d) => h.set a (.dcT (dropV d (.tup ks)))
    | _ => h
  | _ => h
def tPop1 (o : Val) (ks : List Val) (h : Heap) : Res Val := match tLook o ks h with
  | some (some v) => .ok v (tDrop o ks h)
  | _ => .stuck
def tPop2 (o : Val) (ks : List Val) (z : Val) (h : Heap) : Res Val := match tLook o ks h with
  | some (some v) => .ok v (tDrop o ks h)
  | some none => .ok z h
  | none => .stuck
def tSet (o : Val) (ks : List Val) (v : Val) (h : Heap) : Res Unit := match o with
  | .ref a => match h[a]? with
    | some (.dcT d) => if keysOk ks = true ∧ d.length < lim then .ok () (h.set a (.dcT (putV d (.tup ks) v))) else .stuck
    | _ => .stuck
  | _ => .stuck
def mIxT (mo : En → Heap → Res Val) (mk : En → Heap → Res (List Val)) (s : En) (h : Heap) : Res Val := (mo s h).bind fun o h1 => (mk s h1).bind fun ks h2 => tIx o ks h2
def mInT (neg : Bool) (mk : En → Heap → Res (List Val)) (mo : En → Heap → Res Val) (s : En) (h : Heap) : Res Val := (mk s h).bind fun ks h1 => if ks.length ≤ 1000 then (mo s h1).bind fun o h2 => tIn neg ks o h2 else .stuck
def mGetT1 (mo : En → Heap → Res Val) (mk : En → Heap → Res (List Val)) (s : En) (h : Heap) : Res Val := (mo s h).bind fun o h1 => if isD o h1 = true then (mk s h1).bind fun ks h2 => tGet o ks .non h2 else .stuck
def mGetT2 (mo : En → Heap → Res Val) (mk : En → Heap → Res (List Val)) (mz : En → Heap → Res Val) (s : En) (h : Heap) : Res Val := (mo s h).bind fun o h1 => if isD o h1 = true then (mk s h1).bind fun ks h2 => if ks.length ≤ 1000 then (mz s h2).bind fun z h3 => tGet o ks z h3 else .stuck else .stuck
def mPopT1 (mo : En → Heap → Res Val) (mk : En → Heap → Res (List Val)) (s : En) (h : Heap) : Res Val := (mo s h).bind fun o h1 => if isD o h1 = true then (mk s h1).bind fun ks h2 => tPop1 o ks h2 else .stuck
def mPopT2 (mo : En → Heap → Res Val) (mk : En → Heap → Res (List Val)) (mz : En → Heap → Res Val) (s : En) (h : Heap) : Res Val := (mo s h).bind fun o h1 => if isD o h1 = true then (mk s h1).bind fun ks h2 => if ks.length ≤ 1000 then (mz s h2).bind fun z h3 => tPop2 o ks z h3 else .stuck else .stuck
def sSubT (mo : En → Heap → Res Val) (mk : En → Heap → Res (List Val)) (me : En → Heap → Res Val) (s : En) (h : Heap) : RS := (me s h).thenS fun v h1 => (mo s h1).thenS fun o h2 => (mk s h2).thenS fun ks h3 => (tSet o ks v h3).thenS fun _ h4 => .nx s h4

/-- the tuple is laid -/
theorem lay_tup (hR : HR G r H h) {xs : List Val} {vs : List V} {p : Addr} (hp : H p = none) : HR G r (upd H p (.tup vs)) h ∧ Stp G.K r H r (upd H p (.tup vs)) := ⟨hR.lay hp, Stp.new0 hp⟩
theorem tLook_of (ok : G.Ok) (hR : HR G r H h) {o : Val} {ks : List Val} {v : V} {vs : List V} {z : Option Val} (vo : VR G r H o v) (vk : VRs G r H ks vs) (e : tLook o ks h = some z) {p : Addr} (hp : H p = some (.tup vs)) :
    ∃ n a d e qs, o = .ref n ∧ h[n]? = some (.dcT d) ∧ r[n]? = some a ∧ v = .ref a ∧ H a = some (.dT e) ∧ DTR G r H d e ∧ KRs G ks qs ∧ vs = qs.map kV ∧ DGet H a (.ref p) (valV e qs) ∧
      ((z = none ∧ lookV d (.tup ks) = none ∧ valV e qs = none) ∨ ∃ x w, z = some x ∧ lookV d (.tup ks) = some x ∧ valV e qs = some w ∧ VR G r H x w) := by
  unfold tLook at e
  split at e
  · cases vo with
    | ref ea =>
      split at e
      · rename_i d eo
        split at e
        · rename_i hk
          cases e
          simp only [keysOk, Bool.and_eq_true] at hk
          cases hR.ob _ _ _ eo ea with
          | dcT hl hv =>
            obtain ⟨qs, kq, rfl⟩ := KRs.of vk hk.1
            refine ⟨_, _, _, _, qs, rfl, eo, ea, rfl, hl, hv, kq, rfl, DGet.t hl hp, ?_⟩
            rcases hv.look ok kq with ⟨e1, e2⟩ | ⟨x', v', e1, e2, v2⟩
            · exact .inl ⟨e1, e1, e2⟩
            · exact .inr ⟨x', v', e1, e1, e2, v2⟩
        · cases e
      · cases e
  · cases e
theorem tLook_len {o : Val} {ks : List Val} {z : Option Val} (e : tLook o ks h = some z) : ks.length ≤ 1000 := by
  unfold tLook at e
  split at e
  · split at e
    · split at e
      · rename_i hk
        simp only [keysOk, Bool.and_eq_true, decide_eq_true_eq] at hk
        exact hk.2
      · cases e
    · cases e
  · cases e
theorem len1000 {n : Nat} (h : n ≤ 1000) : n ≤ sizeLine := le_line (Nat.le_trans h (by decide))
section
variable {o e f a b : Expr} {es : List Expr} {td ty tx : TE} {tA : TA} {mo my mz me : En → Heap → Res Val} {mk : En → Heap → Res (List Val)} {apos cpos pos pos' kpos : Pos} {kc : Nat}
theorem me_ixT (ok : G.Ok) (C : XC G E X k) {x1} (ho : ME G E X o td mo) (hk : MA G E X es tA mk) (hs : NoSl (.Tuple es x1 kpos) := by exact fun _ _ => rfl) : ME G E X (.Subscript o (.Tuple es x1 kpos) pos) (tDGet td (tTup tA)) (mIxT mo mk) := by
  refine ⟨pe_dget (by have := C.hu; omega) ho.pe (pe_tup hk.pe) hs, ⟨fun r H h s σ Q hR sR p => ho.rf.run r H h s σ _ hR sR (p.seq fun x h1 r1 H1 v s1 hR1 v1 p1 => ?_)⟩⟩
  refine hk.rf.run r1 H1 h1 s σ _ hR1 (sR.mono s1) (p1.seq fun ks h2 r2 H2 vs s2 hR2 v2 p2 => ?_)
  unfold tIx at p2
  split at p2
  · rename_i w ew
    refine ⟨len1000 (by rw [← v2.len]; exact tLook_len ew), fun q hq => ?_⟩
    have st := (lay_tup (xs := ks) (vs := vs) hR2 hq).2
    have hR3 := (lay_tup (xs := ks) (vs := vs) hR2 hq).1
    obtain ⟨n, ad, d, e', qs, rfl, eo, ea, rfl, hl, hv, kq, rfl, g, q'⟩ := tLook_of ok hR3 ((v1.mono s2).mono st) (v2.mono st) ew upd_same
    rcases q' with ⟨e1, _⟩ | ⟨x', w', e1, _, e3, v3⟩
    · cases e1
    · cases e1
      rw [e3] at g
      exact ⟨ad, w', rfl, g, (p2.shift st).here hR3 v3⟩
  · exact False.elim p2
theorem mc_inT (ok : G.Ok) (C : XC G E X k) {x1} (hk : MA G E X es tA mk) (ho : ME G E X o td mo) : MC G E X .In (.Tuple es x1 kpos) o (tDIn (tTup tA) td) (mInT false mk mo) := by
  refine ⟨pc_din (by have := C.hu; omega) (pe_tup hk.pe) ho.pe, ⟨fun r H h s σ Q hR sR p => hk.rf.run r H h s σ _ hR sR (p.seq fun ks h1 r1 H1 vs s1 hR1 v1 p1 => ?_)⟩⟩
  split at p1
  · rename_i hlen
    refine ⟨len1000 (by rw [← v1.len]; exact hlen), fun q hq => ?_⟩
    have st := (lay_tup (xs := ks) (vs := vs) hR1 hq).2
    have hR1' := (lay_tup (xs := ks) (vs := vs) hR1 hq).1
    refine ho.rf.run r1 _ h1 s σ _ hR1' ((sR.mono s1).mono st) ((p1.shift st).seq fun x h2 r2 H2 v s2 hR2 v2 p2 => ?_)
    have tq : H2 q = some (.tup vs) := s2.tpl _ _ upd_same
    unfold tIn at p2
    split at p2
    · rename_i w ew
      obtain ⟨n, ad, d, e', qs, rfl, eo, ea, rfl, hl, hv, kq, rfl, g, q'⟩ := tLook_of ok hR2 v2 ((v1.mono st).mono s2) ew tq
      refine ⟨ad, _, rfl, g, ?_⟩
      rcases q' with ⟨rfl, _, e3⟩ | ⟨x', w', rfl, _, e3, v3⟩
      · rw [e3]; exact p2.here hR2 (.bl _)
      · rw [e3]; exact p2.here hR2 (.bl _)
    · exact False.elim p2
  · exact False.elim p1
theorem mc_notinT (ok : G.Ok) (C : XC G E X k) {x1} (hk : MA G E X es tA mk) (ho : ME G E X o td mo) : MC G E X .NotIn (.Tuple es x1 kpos) o (tDNotIn (tTup tA) td) (mInT true mk mo) := by
  refine ⟨pc_dnotin (by have := C.hu; omega) (pe_tup hk.pe) ho.pe, ⟨fun r H h s σ Q hR sR p => hk.rf.run r H h s σ _ hR sR (p.seq fun ks h1 r1 H1 vs s1 hR1 v1 p1 => ?_)⟩⟩
  split at p1
  · rename_i hlen
    refine ⟨len1000 (by rw [← v1.len]; exact hlen), fun q hq => ?_⟩
    have st := (lay_tup (xs := ks) (vs := vs) hR1 hq).2
    have hR1' := (lay_tup (xs := ks) (vs := vs) hR1 hq).1
    refine ho.rf.run r1 _ h1 s σ _ hR1' ((sR.mono s1).mono st) ((p1.shift st).seq fun x h2 r2 H2 v s2 hR2 v2 p2 => ?_)
    have tq : H2 q = some (.tup vs) := s2.tpl _ _ upd_same
    unfold tIn at p2
    split at p2
    · rename_i w ew
      obtain ⟨n, ad, d, e', qs, rfl, eo, ea, rfl, hl, hv, kq, rfl, g, q'⟩ := tLook_of ok hR2 v2 ((v1.mono st).mono s2) ew tq
      refine ⟨ad, _, rfl, g, ?_⟩
      rcases q' with ⟨rfl, _, e3⟩ | ⟨x', w', rfl, _, e3, v3⟩
      · rw [e3]; exact p2.here hR2 (.bl _)
      · rw [e3]; exact p2.here hR2 (.bl _)
    · exact False.elim p2
  · exact False.elim p1
theorem me_getT1 (ok : G.Ok) (C : XC G E X k) {x1} (ho : ME G E X o td mo) (hk : MA G E X es tA mk) (m : M1 X o "get" apos (.Tuple es x1 kpos) cpos := by exact ⟨rfl, rfl, rfl, rfl⟩) :
    ME G E X (.Call (.Attribute o "get" apos) [.Tuple es x1 kpos] [] cpos) (tDGet1 td (tTup tA)) (mGetT1 mo mk) := by
  refine ⟨pe_dget1 (by have := C.hu; omega) ho.pe (pe_tup hk.pe) m, ⟨fun r H h s σ Q hR sR p => ho.rf.run r H h s σ _ hR sR (p.seq fun x h1 r1 H1 v s1 hR1 v1 p1 => ?_)⟩⟩
  split at p1
  · rename_i hd
    obtain ⟨a, rfl, id⟩ := isD_of hR1 v1 hd
    refine ⟨a, rfl, id, hk.rf.run r1 H1 h1 s σ _ hR1 (sR.mono s1) (p1.seq fun ks h2 r2 H2 vs s2 hR2 v2 p2 => ?_)⟩
    unfold tGet at p2
    split at p2
    · rename_i w ew
      refine ⟨len1000 (by rw [← v2.len]; exact tLook_len ew), fun q hq => ?_⟩
      have st := (lay_tup (xs := ks) (vs := vs) hR2 hq).2
      have hR3 := (lay_tup (xs := ks) (vs := vs) hR2 hq).1
      obtain ⟨n, ad, d, e', qs, rfl, eo, ea, e0, hl, hv, kq, rfl, g, q'⟩ := tLook_of ok hR3 ((v1.mono s2).mono st) (v2.mono st) ew upd_same
      cases e0
      rcases q' with ⟨rfl, _, e3⟩ | ⟨x', w', rfl, _, e3, v3⟩
      · rw [e3] at g
        exact ⟨_, g, (p2.shift st).here hR3 .non⟩
      · rw [e3] at g
        exact ⟨_, g, (p2.shift st).here hR3 v3⟩
    · exact False.elim p2
  · exact False.elim p1
theorem me_getT2 (ok : G.Ok) (C : XC G E X k) {x1} (ho : ME G E X o td mo) (hk : MA G E X es tA mk) (hf : ME G E X f tx mz) (m : M2 X o "get" apos (.Tuple es x1 kpos) f cpos := by exact ⟨rfl, rfl, rfl, rfl⟩) :
    ME G E X (.Call (.Attribute o "get" apos) [.Tuple es x1 kpos, f] [] cpos) (tDGet2 td (tTup tA) tx) (mGetT2 mo mk mz) := by
  refine ⟨pe_dget2 (by have := C.hu; omega) ho.pe (pe_tup hk.pe) hf.pe m, ⟨fun r H h s σ Q hR sR p => ho.rf.run r H h s σ _ hR sR (p.seq fun x h1 r1 H1 v s1 hR1 v1 p1 => ?_)⟩⟩
  split at p1
  · rename_i hd
    obtain ⟨a, rfl, id⟩ := isD_of hR1 v1 hd
    refine ⟨a, rfl, id, hk.rf.run r1 H1 h1 s σ _ hR1 (sR.mono s1) (p1.seq fun ks h2 r2 H2 vs s2 hR2 v2 p2 => ?_)⟩
    split at p2
    · rename_i hlen
      refine ⟨len1000 (by rw [← v2.len]; exact hlen), fun q hq => ?_⟩
      have st := (lay_tup (xs := ks) (vs := vs) hR2 hq).2
      have hR2' := (lay_tup (xs := ks) (vs := vs) hR2 hq).1
      refine hf.rf.run r2 _ h2 s σ _ hR2' (((sR.mono s1).mono s2).mono st) ((p2.shift st).seq fun z h3 r3 H3 u s3 hR3 v3 p3 => ?_)
      have tq : H3 q = some (.tup vs) := s3.tpl _ _ upd_same
      unfold tGet at p3
      split at p3
      · rename_i w ew
        obtain ⟨n, ad, d, e', qs, rfl, eo, ea, e0, hl, hv, kq, rfl, g, q'⟩ := tLook_of ok hR3 (((v1.mono s2).mono st).mono s3) ((v2.mono st).mono s3) ew tq
        cases e0
        rcases q' with ⟨rfl, _, e3⟩ | ⟨x', w', rfl, _, e3, v4⟩
        · rw [e3] at g
          exact ⟨_, g, p3.here hR3 v3⟩
        · rw [e3] at g
          exact ⟨_, g, p3.here hR3 v4⟩
      · exact False.elim p3
    · exact False.elim p2
  · exact False.elim p1
theorem ms_subT (ok : G.Ok) (C : XC G E X k) {x1} (ho : ME G E X o td mo) (hk : MA G E X es tA mk) (hv : ME G E X e tx me) (hs : swapsWith e (some (.Subscript o (.Tuple es x1 kpos) pos')) pos.line X.env = pure false := by rfl) :
    MS G E X (.Assign [.Subscript o (.Tuple es x1 kpos) pos'] e pos) (sDPut td (tTup tA) tx) (sSubT mo mk me) := by
  refine ⟨ps_dput (by have := C.hu; omega) ho.pe (pe_tup hk.pe) hv.pe hs, ⟨fun r H h s σ D hR sR p => ?_⟩⟩
  refine hv.rf.run r H h s σ _ hR sR (p.seqS fun v h1 r1 H1 vv s1 hR1 v1 p1 => ?_)
  refine ho.rf.run r1 H1 h1 s σ _ hR1 (sR.mono s1) (p1.seqS fun x h2 r2 H2 vo s2 hR2 v2 p2 => ?_)
  refine hk.rf.run r2 H2 h2 s σ _ hR2 ((sR.mono s1).mono s2) (p2.seqS fun ks h3 r3 H3 vs s3 hR3 v3 p3 => ?_)
  unfold tSet at p3
  split at p3
  · rename_i n
    split at p3
    · rename_i d eo
      split at p3
      · rename_i hc
        have hk' := hc.1
        simp only [keysOk, Bool.and_eq_true, decide_eq_true_eq] at hk'
        refine ⟨len1000 (by rw [← v3.len]; exact hk'.2), fun q hq => ?_⟩
        have st := (lay_tup (xs := ks) (vs := vs) hR3 hq).2
        have hR4 := (lay_tup (xs := ks) (vs := vs) hR3 hq).1
        have vo' := (v2.mono s3).mono st
        have vv' := ((v1.mono s2).mono s3).mono st
        cases vo' with
        | @ref _ ad ea =>
          cases hR4.ob _ _ _ eo ea with
          | @dcT _ e0 _ hl hdv =>
            obtain ⟨qs, kq, rfl⟩ := KRs.of (v3.mono st) hk'.1
            refine ⟨_, _, rfl, DPut.t hl upd_same (lt_line (by rw [← hdv.len]; exact hc.2)), ?_⟩
            have st2 : Stp G.K r3 (upd H3 q (.tup (qs.map kV))) r3 (upd (upd H3 q (.tup (qs.map kV))) ad (.dT (putK e0 qs vv))) := Stp.upd fun o e => by rw [hl] at e; cases e; trivial
            exact p3 _ _ _ (st.trans st2) (hR4.write eo rfl ea (fun o e => by rw [hl] at e; cases e; trivial) (.dcT upd_same ((hdv.put ok kq vv').mono st2)) rfl) (((((sR.mono s1).mono s2).mono s3).mono st).mono st2)
      · exact False.elim p3
    · exact False.elim p3
  · exact False.elim p3
/-- d.pop((..)), the key there -/
def rPopT1 : V → List V → Hp → VK → Prop := fun x xs H Q => ∃ (a : Addr) (kvs : List (List Key × V)) (ks : List Key) (b : Addr) (v : V), x = .ref a ∧ xs = [.ref b] ∧ H a = some (.dT kvs) ∧ H b = some (.tup (ks.map kV)) ∧ valV kvs ks = some v ∧ Q v (upd H a (.dT (dropK kvs ks)))
theorem mt_popT1 (hu : X.A.units + 1 < cLine) : MtR X "dict.pop" rPopT1 := by
  rintro pins s σ H x xs v us Q I rx rxs ⟨ad, kvs, ks, b, w, rfl, rfl, hA, hB, hw, wish⟩
  cases rx
  obtain ⟨ub, rfl, rb⟩ : ∃ ub, us = [ub] ∧ RelV (.ref b) ub := by
    cases rxs with
    | cons p q => cases q; exact ⟨_, rfl, p⟩
  cases rb
  obtain ⟨lz, lo, zs, rel, dd⟩ := dt_of I.hok hA
  have lz' : zs.length ≤ sizeLine := by rw [← Paired.length rel]; exact lz
  have rk := rel.val ks
  rw [hw] at rk
  obtain ⟨pz, ez, rz⟩ : ∃ pz, atKey zs ks = some pz ∧ RelV w pz.2 := by
    cases q : atKey zs ks with
    | none => rw [q] at rk; exact False.elim rk
    | some pz => rw [q] at rk; exact ⟨pz, rfl, rk⟩
  refine PySem.call_pop_heap (knd := tupleKind (mixKind X.prog X.w)) (.inl rfl) (PySem.F.args_dict_pop_2 _ _) (tupleKind_room_in1 hu) (key_of I.hok hB) lo dd ez (fun h' dd' sb => ?_) lz'
  obtain ⟨ob, es, ep, g1, g2, g3, g4, _, g5⟩ := dd'
  have J : Inv X pins σ (upd H ad (.dT (dropK kvs ks))) { s with heap := h', toks := s.toks + (tupleKind (mixKind X.prog X.w)).draws ks } :=
    d_write I (by rw [hA]; exact True.intro) sb ⟨ob, g1⟩ ⟨Nat.le_trans (dropK_le kvs ks) lz, lo, _, (KT_drop ks rel).keeps (fun c ys ec => (by rw [upd_ne (ne_of ec hA (fun z => nomatch z))]; exact ec)), ob, es, ep, g1, g2, g3, g4, g5⟩
  exact ⟨w, _, J, rz, wish⟩
theorem tyD_of (hR : HR G r H h) {x : Val} {v : V} (q : VR G r H x v) (e : isD x h = true) : tyV G.K "dict" v H := by
  cases q with
  | ref ea =>
    simp only [isD] at e
    split at e
    · rename_i d eo
      cases hR.ob _ _ _ eo ea with
      | dct hl hv => exact .inr (.inr (.inl ⟨rfl, .inl ⟨_, hl⟩⟩))
    · rename_i d eo
      cases hR.ob _ _ _ eo ea with
      | dcT hl hv => exact .inr (.inr (.inl ⟨rfl, .inr ⟨_, hl⟩⟩))
    · cases e
  | _ => simp [isD] at e
theorem me_popT1 (ok : G.Ok) (C : XC G E X k) {x1} (ho : ME G E X o td mo) (hk : MA G E X es tA mk) (hbase : attributeBase o "pop" X.env (eval o X.env) = eval o X.env := by rfl)
    (hfew : ((backTo cpos (starEach [.Tuple es x1 kpos] X.env)).all (fun x => !x.1) && (backToKw cpos (keywordEach [] X.env)).all (fun x => x.1.isSome)
      && decide (([.Tuple es x1 kpos] : List Expr).length + ([] : List Keyword).length + (if ([] : List Keyword).isEmpty then 0 else 1) < 30)) = true := by rfl)
    (hline : (apos.endLine == cpos.line) = true := by rfl) (hs : starEach [.Tuple es x1 kpos] X.env = (false, eval (.Tuple es x1 kpos) X.env) :: starEach [] X.env := by rfl) (hplain : (backTo cpos (starEach [] X.env)).any (·.1) = false := by rfl) :
    ME G E X (.Call (.Attribute o "pop" apos) [.Tuple es x1 kpos] [] cpos) (tBM X.K "dict" rPopT1 td (tCons (tTup tA) tNil)) (mPopT1 mo mk) := by
  refine ⟨pe_bm PySem.F.plainAttrs_dict PySem.F.slot_dict_pop PySem.F.type_dict_pop (mt_popT1 (by have := C.hu; omega)) ho.pe (pa_cons (pe_tup hk.pe) pa_nil hs) hbase hfew hline hs hplain, ⟨fun r H h s σ Q hR sR p => ho.rf.run r H h s σ _ hR sR (p.seq fun x h1 r1 H1 v s1 hR1 v1 p1 => ?_)⟩⟩
  split at p1
  · rename_i hd
    refine ⟨by rw [C.K]; exact tyD_of hR1 v1 hd, hk.rf.run r1 H1 h1 s σ _ hR1 (sR.mono s1) (p1.seq fun ks h2 r2 H2 vs s2 hR2 v2 p2 => ?_)⟩
    unfold tPop1 at p2
    split at p2
    · rename_i w ew
      refine ⟨len1000 (by rw [← v2.len]; exact tLook_len ew), fun q hq => ?_⟩
      have st := (lay_tup (xs := ks) (vs := vs) hR2 hq).2
      have hR3 := (lay_tup (xs := ks) (vs := vs) hR2 hq).1
      obtain ⟨n, ad, d, e', qs, rfl, eo, ea, rfl, hl, hv, kq, rfl, g, q'⟩ := tLook_of ok hR3 ((v1.mono s2).mono st) (v2.mono st) ew upd_same
      rcases q' with ⟨e1, _⟩ | ⟨x', w', e1, _, e3, v3⟩
      · cases e1
      · cases e1
        refine ⟨ad, e', qs, q, w', rfl, rfl, hl, upd_same, e3, ?_⟩
        have p3 := p2.shift st
        simp only [tDrop, eo] at p3
        exact set_dcT hR3 eo ea hl (hv.drop ok kq) v3 p3
    · exact False.elim p2
  · exact False.elim p1
theorem me_popT2 (ok : G.Ok) (C : XC G E X k) {x1} (ho : ME G E X o td mo) (hk : MA G E X es tA mk) (hf : ME G E X f tx mz) (hbase : attributeBase o "pop" X.env (eval o X.env) = eval o X.env := by rfl)
    (hfew : ((backTo cpos (starEach [.Tuple es x1 kpos, f] X.env)).all (fun x => !x.1) && (backToKw cpos (keywordEach [] X.env)).all (fun x => x.1.isSome)
      && decide (([.Tuple es x1 kpos, f] : List Expr).length + ([] : List Keyword).length + (if ([] : List Keyword).isEmpty then 0 else 1) < 30)) = true := by rfl)
    (hline : (apos.endLine == cpos.line) = true := by rfl) (hs : starEach [.Tuple es x1 kpos, f] X.env = (false, eval (.Tuple es x1 kpos) X.env) :: starEach [f] X.env := by rfl) (hs2 : starEach [f] X.env = (false, eval f X.env) :: starEach [] X.env := by rfl) (hplain : (backTo cpos (starEach [f] X.env)).any (·.1) = false := by rfl) :
    ME G E X (.Call (.Attribute o "pop" apos) [.Tuple es x1 kpos, f] [] cpos) (tBM X.K "dict" rPopT td (tCons (tTup tA) (tCons tx tNil))) (mPopT2 mo mk mz) := by
  refine ⟨pe_bm PySem.F.plainAttrs_dict PySem.F.slot_dict_pop PySem.F.type_dict_pop (mt_popT (by have := C.hu; omega)) ho.pe (pa_cons (pe_tup hk.pe) (pa_cons hf.pe pa_nil hs2) hs) hbase hfew hline hs hplain, ⟨fun r H h s σ Q hR sR p => ho.rf.run r H h s σ _ hR sR (p.seq fun x h1 r1 H1 v s1 hR1 v1 p1 => ?_)⟩⟩
  split at p1
  · rename_i hd
    refine ⟨by rw [C.K]; exact tyD_of hR1 v1 hd, hk.rf.run r1 H1 h1 s σ _ hR1 (sR.mono s1) (p1.seq fun ks h2 r2 H2 vs s2 hR2 v2 p2 => ?_)⟩
    split at p2
    · rename_i hlen
      refine ⟨len1000 (by rw [← v2.len]; exact hlen), fun q hq => ?_⟩
      have st := (lay_tup (xs := ks) (vs := vs) hR2 hq).2
      have hR2' := (lay_tup (xs := ks) (vs := vs) hR2 hq).1
      refine hf.rf.run r2 _ h2 s σ _ hR2' (((sR.mono s1).mono s2).mono st) ((p2.shift st).seq fun z h3 r3 H3 u s3 hR3 v3 p3 => ?_)
      have tq : H3 q = some (.tup vs) := s3.tpl _ _ upd_same
      unfold tPop2 at p3
      split at p3
      · rename_i w ew
        obtain ⟨n, ad, d, e', qs, rfl, eo, ea, rfl, hl, hv, kq, rfl, g, q'⟩ := tLook_of ok hR3 (((v1.mono s2).mono st).mono s3) ((v2.mono st).mono s3) ew tq
        rcases q' with ⟨e1, _⟩ | ⟨x', w', e1, _, e3, v4⟩
        · cases e1
        · cases e1
          refine ⟨ad, e', qs, q, u, rfl, rfl, hl, tq, (fun v'' e'' => ?_), (fun e'' => by rw [e3] at e''; cases e'')⟩
          rw [e3] at e''
          cases e''
          simp only [tDrop, eo] at p3
          exact set_dcT hR3 eo ea hl (hv.drop ok kq) v4 p3
      · rename_i ew
        obtain ⟨n, ad, d, e', qs, rfl, eo, ea, rfl, hl, hv, kq, rfl, g, q'⟩ := tLook_of ok hR3 (((v1.mono s2).mono st).mono s3) ((v2.mono st).mono s3) ew tq
        rcases q' with ⟨_, _, e3⟩ | ⟨x', w', e1, _, e3, v4⟩
        · exact ⟨ad, e', qs, q, u, rfl, rfl, hl, tq, (fun v'' e'' => by rw [e3] at e''; cases e''), (fun _ => p3.here hR3 v3)⟩
        · cases e1
      · exact False.elim p3
    · exact False.elim p2
  · exact False.elim p1
end

/-! ### list.remove of ints -/
def fixI (i : Int) : List Int → Option Nat
  | [] => none
  | z :: zs => if z = i then some 0 else (fixI i zs).map (· + 1)
theorem fixI_ok {i : Int} : ∀ {zs : List Int} {j : Nat}, fixI i zs = some j → zs[j]? = some i ∧ ∀ m : Nat, m < j → zs[m]? ≠ some i
  | [], j, e => by cases e
  | z :: zs, j, e => by
    rw [fixI] at e
    split at e
    · rename_i c
      cases e
      subst c
      exact ⟨rfl, fun m hm => by omega⟩
    · rename_i c
      obtain ⟨j', e', rfl⟩ := Option.map_eq_some_iff.mp e
      obtain ⟨h1, h2⟩ := fixI_ok e'
      refine ⟨by simpa using h1, fun m hm => ?_⟩
      cases m with
      | zero => simpa using c
      | succ m => simpa using h2 m (by omega)
def bRemove (x : Val) (xs : List Val) (h : Heap) : Res Val := match x, xs with
  | .ref a, [.int i] => match h[a]? with
    | some (.lst ys) => match optAll asInt ys with
      | some zs => match fixI i zs with
        | some j => .ok .non (h.set a (.lst (ys.eraseIdx j)))
        | none => .stuck
      | none => .stuck
    | _ => .stuck
  | _, _ => .stuck
theorem rm_remove : RfM G E rRemI bRemove := by
  refine ⟨fun r H h x v xs vs Q hR vx vv p => ?_⟩
  unfold bRemove at p
  split at p
  · cases vx with
    | ref ea => cases vv with
      | cons q1 q2 =>
        cases q2
        cases q1
        split at p
        · rename_i ys eo
          split at p
          · rename_i zs ez
            split at p
            · rename_i j ej
              cases hR.ob _ _ _ eo ea with
              | lst hl hv =>
                have ev := all_int hv ez
                subst ev
                obtain ⟨h1, h2⟩ := fixI_ok ej
                refine ⟨_, zs, _, j, rfl, rfl, hl, h1, h2, ?_⟩
                have hv' := hv.eraseIdx j
                rw [erase_mapI] at hv'
                exact set_lst hR eo ea hl hv' .non p
            · exact False.elim p
          · exact False.elim p
        · exact False.elim p
  · exact False.elim p
end PyM

set_option Elab.async false
set_option linter.all false
set_option maxRecDepth 100000
set_option autoImplicit false
/-! code that is never reached; loops over dicts -/
namespace PyM
open PySem L2
section
variable {G : Cfg} {E : XK} {X : Cx} {e : Expr} {es : List Expr} {st : Stmt} {sts : List Stmt}
def mDead (_ : En) (_ : Heap) : Res Val := .stuck
def aDead (_ : En) (_ : Heap) : Res (List Val) := .stuck
def tDead (_ : En) (_ : Heap) : Res Bool := .stuck
def sDead (_ : En) (_ : Heap) : RS := .stuck
theorem me_dead : ME G E X e (fun _ _ _ => False) mDead := ⟨⟨fun _ _ _ _ _ _ q => q.elim⟩, ⟨fun _ _ _ _ _ _ _ _ p => p⟩⟩
theorem ma_dead : MA G E X es (fun _ _ _ => False) aDead := ⟨⟨fun _ _ _ _ _ _ _ q => q.elim⟩, ⟨fun _ _ _ _ _ _ _ _ p => p⟩⟩
theorem mt_dead : MT G E X e (fun _ _ _ => False) tDead := ⟨⟨fun _ _ _ _ _ _ q => q.elim⟩, ⟨fun _ _ _ _ _ _ _ _ p => p⟩⟩
theorem ms_dead : MS G E X st (fun _ _ _ => False) sDead := ⟨⟨fun _ _ _ _ _ _ q => q.elim⟩, ⟨fun _ _ _ _ _ _ _ _ p => p⟩⟩
end

/-! ### for k in d -/
section
variable {X : Cx} {tg e : Expr} {td : TE}
/-- the dict is locked behind the reckoning of it -/
def iKeysL (X : Cx) (td : TE) : TI := fun σ H R => td σ H fun x H1 => ∃ d, x = .ref d ∧
  ((∃ kvs, H1 d = some (.dK kvs) ∧ ∀ od, (∀ o' u', X.H_0 d ≠ some (.frz o' u')) → R (Itk d od kvs) (upd H1 d (.frz od (.dK kvs)))) ∨
   (∃ kvs, H1 d = some (.dT kvs) ∧ ∀ od, (∀ o' u', X.H_0 d ≠ some (.frz o' u')) → R (Itkt d od kvs) (upd H1 d (.frz od (.dT kvs)))))
theorem pi_keysL (he : PE X e td) : PI X tg e (iKeysL X td) := by
  refine ⟨fun pins s σ H R I h => ?_⟩
  refine thn (he.run pins s σ H _ I h) fun u s1 ⟨x, H1, I1, rx, d, ex, q⟩ => ?_
  subst ex
  obtain rfl : u = Value.ref d := rx
  rcases q with ⟨kvs, hd, q⟩ | ⟨kvs, hd, q⟩
  · obtain ⟨od, I2⟩ := I1.lock hd trivial
    have nf := I1.nofrz hd trivial
    obtain ⟨hs, hgd, hx, es, ep, vs, hdt, hsz, kv, hm⟩ := I2.frzK upd_same
    refine iter_keys hs hgd hx hdt (pi_one (tk := s1.toks) I2 _ (turn_keys _ hdt) ⟨_, Heap.get?_push_size _ rfl, rfl, ?_⟩ (q od nf))
    rw [hsz] <;> rfl
  · obtain ⟨od, I2⟩ := I1.lock hd trivial
    have nf := I1.nofrz hd trivial
    obtain ⟨hs, hgd, hx, es, ep, hdt, hsz, ent⟩ := I2.frzT upd_same
    refine iter_keys hs hgd hx hdt (pi_one (tk := s1.toks) I2 _ (turn_keysT _ hdt) ⟨_, Heap.get?_push_size _ rfl, rfl, ?_⟩ (q od nf))
    rw [hsz] <;> rfl
/-- what is wanted behind the unlocking -/
def unV (X : Cx) (Q : VK) : VK := fun v H' => ∃ d od u, H' d = some (.frz od u) ∧ (∀ o' u', X.H_0 d ≠ some (.frz o' u')) ∧ Q v (upd H' d u)
def unS (X : Cx) (Q : St → Hp → Prop) : St → Hp → Prop := fun σ H' => ∃ d od u, H' d = some (.frz od u) ∧ (∀ o' u', X.H_0 d ≠ some (.frz o' u')) ∧ Q σ (upd H' d u)
def unD (X : Cx) (D : Ends) : Ends := ⟨unS X D.nx, unV X D.rt, unS X D.bk, unS X D.ct⟩
theorem ps_unlock {st : Stmt} {t : TS} (h : PS X st t) : PS X st (fun D σ H => t (unD X D) σ H) := by
  refine ⟨fun pins s σ H D I hw => ?_⟩
  refine thn (h.run pins s σ H _ I hw) fun f s1 q => ?_
  cases f with
  | next => obtain ⟨σ', H', I2, d, od, u, e, n, q⟩ := q; exact ⟨σ', _, I2.unlock e n, q⟩
  | brk => obtain ⟨σ', H', I2, d, od, u, e, n, q⟩ := q; exact ⟨σ', _, I2.unlock e n, q⟩
  | cont => obtain ⟨σ', H', I2, d, od, u, e, n, q⟩ := q; exact ⟨σ', _, I2.unlock e n, q⟩
  | ret v => obtain ⟨x, σ', H', I2, r, d, od, u, e, n, q⟩ := q; exact ⟨x, σ', _, I2.unlock e n, r, q⟩
theorem pe_unlock {t : TE} (h : PE X e t) : PE X e (fun σ H Q => t σ H (unV X Q)) := by
  refine ⟨fun pins s σ H Q I hw => ?_⟩
  refine thn (h.run pins s σ H _ I hw) fun v s1 ⟨x, H1, I2, r, d, od, u, e2, n, q⟩ => ?_
  exact ⟨x, _, I2.unlock e2 n, r, q⟩
end
def unlH (n : Nat) (h : Heap) : Option Heap := match h[n]? with
  | some (.fdc d) => some (h.set n (.dct d))
  | some (.fdT d) => some (h.set n (.dcT d))
  | _ => none
def unlS (n : Nat) : RS → RS
  | .nx s h => match unlH n h with
    | some h' => .nx s h'
    | none => .stuck
  | .rt v h => match unlH n h with
    | some h' => .rt v h'
    | none => .stuck
  | _ => .stuck
/-- the keys, and the heap with the dict locked -/
def lockD (n : Nat) (h : Heap) : Option (List Val × Heap) := match h[n]? with
  | some (.dct d) => some (d.map (·.1), h.set n (.fdc d))
  | some (.dcT d) => some (d.map (·.1), h.set n (.fdT d))
  | _ => none
def sForD (me : En → Heap → Res Val) (tg : Val → En → Option En) (body : En → Heap → RS) (s : En) (h : Heap) : RS := (me s h).thenS fun x h1 => match x with
  | .ref n => match lockD n h1 with
    | some (ks, h2) => unlS n (forM_ (fun _ => true) tg body ks s h2)
    | none => .stuck
  | _ => .stuck
section
variable {G : Cfg} {E : XK} {X : Cx} {k : Nat} {e tg iter : Expr} {te td : TE} {me : En → Heap → Res Val} {pos : Pos} {g : TG} {mg : Val → En → Option En} {sts : List Stmt} {t : TS} {m : En → Heap → RS} {r : List Addr} {H : Hp} {h : Heap}
/-- a loop's reading behind its iterator -/
theorem for_core {S : Src} {J : It} {r1 : List Addr} {H1 : Hp} {h1 : Heap} {s : En} {σ : L2.St} {D : Ends} (hg : RfG G g mg) (hb : RfS G E t m) (hR1 : HR G r1 H1 h1) (sR : SR G r1 H1 s σ) (J1 : ItOk G r1 H1 J S) (p1 : PostS G r1 H1 E (forM_ S.chk mg m S.items s h1) D) :
    ∃ W : Nat → Nat → L2.St → Hp → Prop, (∃ m, W 0 m σ H1) ∧ ∀ i m σ H, W i m σ H →
  (J.stop i H ∧ D.nx σ H) ∨ (J.go i H ∧ ∃ N : L2.St → Hp → Prop, (∀ σ' H', N σ' H' → ∃ m', m' < m ∧ W (i + 1) m' σ' H') ∧ ∀ x H', J.yld i H x H' → g x σ H' fun σ2 H2 => t { D with nx := N, ct := N, bk := D.nx } σ2 H2) := by
  refine ⟨fun i mm σ' H' => ∃ r' h' s', Stp G.K r1 H1 r' H' ∧ HR G r' H' h' ∧ SR G r' H' s' σ' ∧ mm = S.items.length - i ∧ i ≤ S.items.length ∧ PostS G r' H' E (forM_ S.chk mg m (S.items.drop i) s' h') D, ⟨_, r1, h1, s, Stp.refl, hR1, sR, rfl, Nat.zero_le _, p1⟩, ?_⟩
  rintro i mm σ' H' ⟨r', h', s', st, hR', sR', rfl, hle, p'⟩
  cases hd : S.items.drop i with
  | nil =>
    have hi : i = S.items.length := by
      have := List.drop_eq_nil_iff.mp hd
      omega
    rw [hd] at p'
    unfold forM_ at p'
    split at p'
    · rename_i hc
      subst hi
      exact .inl ⟨J1.stop r' H' h' st hR' hc, p'.here hR' sR'⟩
    · exact False.elim p'
  | cons x rest =>
    have hlt : i < S.items.length := by
      refine Decidable.byContradiction fun q => ?_
      rw [List.drop_eq_nil_of_le (by omega)] at hd
      cases hd
    have hx : S.items[i]? = some x := by
      have := congrArg (fun l => l[0]?) hd
      simpa using this
    have hr : S.items.drop (i + 1) = rest := by
      rw [← List.drop_drop (i := 1) (j := i), hd]
      rfl
    rw [hd] at p'
    unfold forM_ at p'
    split at p'
    · rename_i hc
      obtain ⟨hgo, hy⟩ := J1.go r' H' h' i x st hR' hc hx
      refine .inr ⟨hgo, fun σ2 H2 => ∃ r2 h2 s2, Stp G.K r1 H1 r2 H2 ∧ HR G r2 H2 h2 ∧ SR G r2 H2 s2 σ2 ∧ PostS G r2 H2 E (forM_ S.chk mg m rest s2 h2) D, ?_, ?_⟩
      · rintro σ2 H2 ⟨r2, h2, s2, q1, q2, q3, q4⟩
        exact ⟨_, by omega, r2, h2, s2, q1, q2, q3, rfl, by omega, by rw [hr]; exact q4⟩
      · intro v H3 hyl
        obtain ⟨r3, st3, hR3, vR⟩ := hy v H3 hyl
        cases e1 : mg x s' with
        | none => rw [e1] at p'; exact False.elim p'
        | some s1' =>
          rw [e1] at p'
          refine hg.run r3 H3 s' σ' x v _ (sR'.mono st3) vR ⟨s1', e1, fun σ1 sR1 => ?_⟩
          refine hb.run r3 H3 h' s1' σ1 _ hR3 sR1 ?_
          simp only at p'
          cases e2 : m s1' h' with
          | nx s2 h2 =>
            rw [e2] at p'
            exact fun r4 H4 t4 st4 hR4 sR4 => ⟨r4, h2, s2, st.trans (st3.trans st4), hR4, sR4, p'.shift (st3.trans st4)⟩
          | ct s2 h2 =>
            rw [e2] at p'
            exact fun r4 H4 t4 st4 hR4 sR4 => ⟨r4, h2, s2, st.trans (st3.trans st4), hR4, sR4, p'.shift (st3.trans st4)⟩
          | bk s2 h2 =>
            rw [e2] at p'
            exact fun r4 H4 t4 st4 hR4 sR4 => p' r4 H4 t4 (st3.trans st4) hR4 sR4
          | rt v2 h2 =>
            rw [e2] at p'
            exact fun r4 H4 t4 st4 hR4 sR4 => p' r4 H4 t4 (st3.trans st4) hR4 sR4
          | raised c2 h2 =>
            rw [e2] at p'
            exact fun r4 H4 t4 st4 hR4 sR4 => p' r4 H4 t4 (st3.trans st4) hR4 sR4
          | stuck =>
            rw [e2] at p'
            exact p'
    · exact False.elim p'
theorem HR.lock {r : List Addr} {H : Hp} {h : Heap} (R : HR G r H h) {n : Nat} {ks : List Val} {h2 : Heap} (e : lockD n h = some (ks, h2)) {a : Addr} (ea : r[n]? = some a) :
    (∃ d f, h[n]? = some (.dct d) ∧ H a = some (.dK f) ∧ DR G r H d f ∧ ks = d.map (·.1) ∧ ∀ od, Stp G.K r H r (upd H a (.frz od (.dK f))) ∧ HR G r (upd H a (.frz od (.dK f))) h2) ∨
    (∃ d f, h[n]? = some (.dcT d) ∧ H a = some (.dT f) ∧ DTR G r H d f ∧ ks = d.map (·.1) ∧ ∀ od, Stp G.K r H r (upd H a (.frz od (.dT f))) ∧ HR G r (upd H a (.frz od (.dT f))) h2) := by
  unfold lockD at e
  split at e
  · rename_i d eo
    cases e
    cases R.ob _ _ _ eo ea with
    | @dct _ f _ hl hv =>
      refine .inl ⟨d, f, eo, hl, hv, rfl, fun od => ?_⟩
      have hn : ∀ o, H a = some o → NotT o := fun o e => by rw [hl] at e; cases e; trivial
      have st : Stp G.K r H r (upd H a (.frz od (.dK f))) := Stp.upd hn
      exact ⟨st, R.write eo rfl ea hn (.fdc upd_same (hv.mono st)) rfl⟩
  · rename_i d eo
    cases e
    cases R.ob _ _ _ eo ea with
    | @dcT _ f _ hl hv =>
      refine .inr ⟨d, f, eo, hl, hv, rfl, fun od => ?_⟩
      have hn : ∀ o, H a = some o → NotT o := fun o e => by rw [hl] at e; cases e; trivial
      have st : Stp G.K r H r (upd H a (.frz od (.dT f))) := Stp.upd hn
      exact ⟨st, R.write eo rfl ea hn (.fdT upd_same (hv.mono st)) rfl⟩
  · cases e
/-- where a thing that is no tuple and not locked is written, whatever has been done to it -/
theorem Stp.unl {K : PySem.W.Frag} {r : List Addr} {H : Hp} {a : Addr} {v : HO} {r0 : List Addr} {H0 : Hp} {u : HO} (h0 : H0 a = some u) (hu : NotT u) (st : Stp K r0 H0 r H) : Stp K r0 H0 r (L2.upd H a v) := by
  have ne : ∀ b w, H0 b = some w → ¬ NotT w → b ≠ a := fun b w e hn z => by subst z; rw [h0] at e; cases e; exact hn hu
  refine ⟨st.pre, fun b xs q => ?_, fun b o x q => ?_, fun b xs q => ?_⟩
  · by_cases hb : b = a
    · subst hb
      rcases q with (z | ⟨o, z⟩) | z
      · exact absurd rfl (ne b _ z (fun z => z))
      · exact absurd rfl (ne b _ z (fun z => z))
      · exact .inr z
    · rcases st.tup b xs q with (z | ⟨o, z⟩) | z
      · exact .inl (.inl (by rw [upd_ne hb]; exact z))
      · exact .inl (.inr ⟨o, by rw [upd_ne hb]; exact z⟩)
      · exact .inr z
  · rw [upd_ne (ne b _ q (fun z => z))]; exact st.frl b o x q
  · rw [upd_ne (ne b _ q (fun z => z))]; exact st.tpl b xs q
theorem Stw.unl {K : PySem.W.Frag} {r : List Addr} {H : Hp} {a : Addr} {o : PySem.Obj} {u v : HO} (h : H a = some (.frz o u)) (hu : ∀ xs, u ≠ .tup xs) (hl : ∀ xs, u ≠ .lst xs) : Stw K r H r (upd H a v) := by
  refine ⟨fun _ _ e => e, fun b xs q => ?_, fun b o' x q => ?_⟩
  · rcases q with (z | ⟨o', z⟩) | z
    · exact .inl (.inl (by rw [upd_ne (fun e => by subst e; rw [h] at z; cases z)]; exact z))
    · exact .inl (.inr ⟨o', by rw [upd_ne (fun e => by subst e; rw [h] at z; cases z; exact hu _ rfl)]; exact z⟩)
    · exact .inr z
  · rw [upd_ne (fun e => by subst e; rw [h] at q; cases q; exact hl _ rfl)]; exact q
theorem HR.writew {r : List Addr} {H : Hp} {h : Heap} (R : HR G r H h) {n : Nat} {a : Addr} {u : HO} {o o0 : Obj} (e0 : h[n]? = some o0) (f0 : isFls o0 = false) (e : r[n]? = some a) (st : Stw G.K r H r (upd H a u)) (ho : OR G r (upd H a u) o a) (f : isFls o = false) : HR G r (upd H a u) (h.set n o) := by
  have hl : n < h.length := (List.getElem?_eq_some_iff.mp e0).1
  have at_ : ∀ (i : Nat) (x : Obj), (h.set n o)[i]? = some x → isFls x = false → ∃ y, h[i]? = some y ∧ isFls y = false := fun i x e1 f1 => by
    by_cases hm : i = n
    · subst hm
      exact ⟨o0, e0, f0⟩
    · rw [List.getElem?_set_ne (Ne.symm hm)] at e1
      exact ⟨x, e1, f1⟩
  refine ⟨by simp [R.len], fun i j b x y e1 e2 e3 e4 f1 f2 => ?_, fun m o' b e1 e2 => ?_⟩
  · obtain ⟨x', e1', f1'⟩ := at_ i x e1 f1
    obtain ⟨y', e2', f2'⟩ := at_ j y e2 f2
    exact R.nd i j b x' y' e1' e2' e3 e4 f1' f2'
  · by_cases hm : m = n
    · subst hm
      rw [e] at e2
      cases e2
      rw [List.getElem?_set_self hl] at e1
      cases e1
      exact ho
    · rw [List.getElem?_set_ne (Ne.symm hm)] at e1
      refine (R.ob m o' b e1 e2).monow st fun f' v q => ?_
      have hb : b ≠ a := fun q => by
        subst q
        exact hm (R.nd m n b o' o0 e1 e0 e2 e f' f0)
      rw [upd_ne hb]
      exact q
theorem HR.unl {r : List Addr} {H : Hp} {h h3 : Heap} (R : HR G r H h) {n : Nat} {a : Addr} (e : unlH n h = some h3) (ea : r[n]? = some a) : ∃ o u, H a = some (.frz o u) ∧ Stw G.K r H r (upd H a u) ∧ HR G r (upd H a u) h3 := by
  unfold unlH at e
  split at e
  · rename_i d eo
    cases e
    cases R.ob _ _ _ eo ea with
    | @fdc _ f o _ hl hv =>
      have st : Stw G.K r H r (upd H a (.dK f)) := Stw.unl hl (fun _ z => nomatch z) (fun _ z => nomatch z)
      exact ⟨o, _, hl, st, R.writew eo rfl ea st (.dct upd_same (hv.monow st)) rfl⟩
  · rename_i d eo
    cases e
    cases R.ob _ _ _ eo ea with
    | @fdT _ f o _ hl hv =>
      have st : Stw G.K r H r (upd H a (.dT f)) := Stw.unl hl (fun _ z => nomatch z) (fun _ z => nomatch z)
      exact ⟨o, _, hl, st, R.writew eo rfl ea st (.dcT upd_same (hv.monow st)) rfl⟩
  · cases e
/-- the walk of a locked dict -/
theorem dk_get {r : List Addr} {H : Hp} {d : List (Val × Val)} {f : List (Key × V)} (v : DR G r H d f) : ∀ {i : Nat} {x : Val}, (d.map (·.1))[i]? = some x → ∃ q w, f[i]? = some (q, w) ∧ KR G x q := by
  induction v with
  | nil => intro i x e; simp at e
  | cons hk hv _ ih =>
    intro i x e
    cases i with
    | zero => simp at e; subst e; exact ⟨_, _, rfl, hk⟩
    | succ i => simpa using ih (i := i) (x := x) (by simpa using e)
theorem dt_get {r : List Addr} {H : Hp} {d : List (Val × Val)} {f : List (List Key × V)} (v : DTR G r H d f) : ∀ {i : Nat} {x : Val}, (d.map (·.1))[i]? = some x → ∃ ks qs w, x = .tup ks ∧ f[i]? = some (qs, w) ∧ KRs G ks qs := by
  induction v with
  | nil => intro i x e; simp at e
  | cons hk hv _ ih =>
    intro i x e
    cases i with
    | zero => simp at e; subst e; exact ⟨_, _, _, rfl, rfl, hk⟩
    | succ i => simpa using ih (i := i) (x := x) (by simpa using e)
theorem KRs.vr {r : List Addr} {H : Hp} : ∀ {ks : List Val} {qs : List Key}, KRs G ks qs → VRs G r H ks (qs.map kV)
  | _, _, .nil => .nil
  | _, _, .cons a b => .cons a.vr (KRs.vr b)
theorem itk_ok {r1 : List Addr} {H1 : Hp} {a : Addr} {od : PySem.Obj} {d : List (Val × Val)} {f : List (Key × V)} (ha : H1 a = some (.frz od (.dK f))) (hv : DR G r1 H1 d f) : ItOk G r1 H1 (Itk a od f) ⟨d.map (·.1), fun _ => true⟩ := by
  refine ⟨fun r2 H2 h2 hp _ _ => ⟨hp.frl _ _ _ ha, by simp [hv.len]⟩, fun r2 H2 h2 i x hp hR2 _ hx => ?_⟩
  obtain ⟨q, w, ef, kq⟩ := dk_get hv hx
  refine ⟨⟨hp.frl _ _ _ ha, (List.getElem?_eq_some_iff.mp ef).1⟩, fun v' H3 hy => ?_⟩
  obtain ⟨rfl, k, v, e2, rfl⟩ := hy
  rw [ef] at e2
  cases e2
  exact ⟨r2, Stp.refl, hR2, kq.vr⟩
theorem itkt_ok {r1 : List Addr} {H1 : Hp} {a : Addr} {od : PySem.Obj} {d : List (Val × Val)} {f : List (List Key × V)} (ha : H1 a = some (.frz od (.dT f))) (hv : DTR G r1 H1 d f) : ItOk G r1 H1 (Itkt a od f) ⟨d.map (·.1), fun _ => true⟩ := by
  refine ⟨fun r2 H2 h2 hp _ _ => ⟨hp.frl _ _ _ ha, by simp [hv.len]⟩, fun r2 H2 h2 i x hp hR2 _ hx => ?_⟩
  obtain ⟨ks, q, w, rfl, ef, kq⟩ := dt_get hv hx
  refine ⟨⟨hp.frl _ _ _ ha, (List.getElem?_eq_some_iff.mp ef).1⟩, fun v' H3 hy => ?_⟩
  obtain ⟨rfl, k, v, p, e2, rfl, hp3⟩ := hy
  rw [ef] at e2
  cases e2
  exact ⟨r2, Stp.refl, hR2, .tup (SqT.of hp3) kq.vr⟩
theorem post_unl {r1 : List Addr} {H1 : Hp} {a : Addr} {n : Nat} {u w : HO} {x : RS} {D : Ends} (ea : r1[n]? = some a) (h0 : H1 a = some u) (hu : NotT u) (st : Stp G.K r1 H1 r1 (upd H1 a w)) (nf : ∀ o' u', X.H_0 a ≠ some (.frz o' u')) (p : PostS G r1 H1 E (unlS n x) D) : PostS G r1 (upd H1 a w) E x (unD X D) := by
  cases x with
  | nx s' h' =>
    intro r' H' t st' hR' sR'
    simp only [unlS] at p
    split at p
    · rename_i h3 e3
      obtain ⟨o, u', hl, sw, hR3⟩ := hR'.unl e3 (st'.pre _ _ ea)
      exact ⟨a, o, u', hl, nf, p r' _ t (Stp.unl h0 hu (st.trans st')) hR3 (sR'.monow sw)⟩
    · exact p.elim
  | rt v' h' =>
    intro r' H' t st' hR' vR'
    simp only [unlS] at p
    split at p
    · rename_i h3 e3
      obtain ⟨o, u', hl, sw, hR3⟩ := hR'.unl e3 (st'.pre _ _ ea)
      exact ⟨a, o, u', hl, nf, p r' _ t (Stp.unl h0 hu (st.trans st')) hR3 (vR'.monow sw)⟩
    · exact p.elim
  | bk _ _ => exact p.elim
  | ct _ _ => exact p.elim
  | raised _ _ => exact p.elim
  | stuck => exact p.elim
theorem ms_forD (C : XC G E X k) (he : ME G E X iter td me) (hg : MG G X tg g mg) (hb : MSs G E X sts t m) (hs : ∀ x, foldedSetIterable iter X.env x = pure x := by intro _; rfl) :
    MS G E X (.For tg iter sts [] pos) (fun D σ H => tFor (iKeysL X td) g t (unD X D) σ H) (sForD me mg m) := by
  refine ⟨ps_unlock (ps_for C.own C.calm (pi_keysL he.pe) hg.pe hb.pe hs), ⟨fun r H h s σ D hR sR p => ?_⟩⟩
  refine he.rf.run r H h s σ _ hR sR (p.seqS fun x h1 r1 H1 v s1 hR1 v1 p1 => ?_)
  cases v1 with
  | @ref n a ea =>
    simp only at p1
    split at p1
    · rename_i ks h2 e2
      refine ⟨a, rfl, ?_⟩
      rcases hR1.lock e2 ea with ⟨d, f, eo, hl, hv, rfl, z⟩ | ⟨d, f, eo, hl, hv, rfl, z⟩
      · refine .inl ⟨f, hl, fun od nf => ?_⟩
        obtain ⟨st, hR2⟩ := z od
        exact for_core (S := ⟨d.map (·.1), fun _ => true⟩) hg.rf hb.rf hR2 ((sR.mono s1).mono st) (itk_ok upd_same (hv.mono st)) (post_unl ea hl trivial st nf p1)
      · refine .inr ⟨f, hl, fun od nf => ?_⟩
        obtain ⟨st, hR2⟩ := z od
        exact for_core (S := ⟨d.map (·.1), fun _ => true⟩) hg.rf hb.rf hR2 ((sR.mono s1).mono st) (itkt_ok upd_same (hv.mono st)) (post_unl ea hl trivial st nf p1)
    · exact False.elim p1
  | _ => exact False.elim p1
end
end PyM

set_option Elab.async false
set_option linter.all false
set_option maxRecDepth 100000
set_option autoImplicit false
/-! sum of a tuple -/
namespace PyM
open PySem PySem.Spec PyProof.Rows L2
section
variable {prog : Program} {w : World} {A : Around} {E : Value → Shared → Prop} {s : Shared} {l : Addr} {its : List Value} {ns : List Int} {Q : Value → Shared → Prop} {xs : Array (Int × Tok)}
theorem sum_intTupG (hh : A.handled = none) (hT : s.heap.IsTuple l (intItems xs))
    (h : ∀ h' tk t', (∀ b o, s.heap.get? b = some o → h'.get? b = some o) → Q (.int (preSum (numAt xs) xs.size) t') { s with heap := h', toks := tk }) :
    wpAny (model prog w) A (call (.builtin "sum") [.ref l]) Q E s := by
  have hlt : l < s.heap.objs.size := by obtain ⟨_, e, _⟩ := hT; exact Heap.lt_size e
  refine call_sum_walkG (wpAny_pyIter_tuple hT ?_)
  refine ⟨_, [_, l], [_], _, _, _, numAt xs, rfl, Walks.tuple (A := A.in1) hh _ l (Nat.ne_of_lt hlt) (intItems xs), ⟨⟨_, Heap.get?_push_size _ rfl, rfl, rfl⟩, hT.push _⟩, fun b hb => ?_, (fun _ _ => intItems_at), fun h' tk t' hk => ?_⟩
  · show b < (s.heap.push _).objs.size
    rw [Heap.size_push]
    rcases List.mem_cons.mp hb with rfl | hb
    · exact Nat.lt_succ_self _
    · rcases List.mem_cons.mp hb with rfl | hb
      · exact Nat.lt_succ_of_lt hlt
      · cases hb
  · have := h h' tk t' (fun b o e => hk b o (fun hm => by
      rcases List.mem_cons.mp hm with e1 | hm
      · exact absurd (e1 ▸ Heap.lt_size e) (Nat.lt_irrefl _)
      · cases hm) (Heap.get?_push_of_some _ e))
    simpa [intItems] using this
theorem sum_rawT (hh : A.handled = none) (hl : s.heap.IsTuple l its.toArray) (hi : IntsAre its ns)
    (h : ∀ h' tk t', (∀ b o, s.heap.get? b = some o → h'.get? b = some o) → Q (.int ns.sum t') { s with heap := h', toks := tk }) : wpAny (model prog w) A (call (.builtin "sum") [.ref l]) Q E s := by
  obtain ⟨xs, e⟩ := hi.allInts.items
  have hn : numsOf (intItems xs).toList = ns := by rw [← e]; exact hi.numsOf
  rw [nums_intItems] at hn
  rw [e] at hl
  refine sum_intTupG hh hl fun h' tk t' hk => ?_
  have := h h' tk t' hk
  rw [preSum_eq, List.take_of_length_le (by simp), hn]; exact this
end
section
variable {X : Cx} {G : Cfg} {E : XK} {k : Nat}
def rSumT (K : PySem.W.Frag) : List V → Hp → VK → Prop := fun vs H Q => ∃ (a : Addr) (ns : List Int), vs = [V.ref a] ∧ SqT K H a (ns.map V.int) ∧ Q (.int ns.sum) H
theorem cr_sumT (hc : X.calm = true) : CallR X (.builtin "sum") (rSumT X.K) := by
  intro pins s σ H vs us Q I r h
  obtain ⟨a, ns, rfl, hs, q⟩ := h
  obtain ⟨its, rv, hl, _⟩ := I.tuple hs
  rw [Vals.ref1 r]
  exact sum_rawT (I.ok.hd hc) hl rv.ints fun h' tk t' hk => ⟨.int _, H, I.kept hk, ⟨_, rfl⟩, q⟩
def bSumT (xs : List Val) (h : Heap) : Res Val := match xs with
  | [.tup ys] => match optAll asInt ys with
    | some ns => .ok (.int ns.sum) h
    | none => .stuck
  | _ => .stuck
theorem cl_sumT (C : XC G E X k) : CallR X (.builtin "sum") (rSumT G.K) := by have := cr_sumT (X := X) C.calm; rwa [C.K] at this
theorem rl_sumT : RfL G E (rSumT G.K) bSumT := by
  refine ⟨fun r H h xs vs Q hR v p => ?_⟩
  unfold bSumT at p
  split at p
  · cases v with
    | cons q1 q2 =>
      cases q2
      split at p
      · rename_i bs e2
        cases q1 with
        | tup hs hv =>
          rw [all_int hv e2] at hs
          exact ⟨_, bs, rfl, hs, p.here hR (.int _)⟩
      · exact False.elim p
  · exact False.elim p
variable {a : Expr} {ta : TE} {ma : En → Heap → Res Val} {pos : Pos}
/-- what is true, as mt_tr has it -/
theorem tru_of {r1 : List Addr} {H1 : Hp} {h1 : Heap} {x : Val} {v : V} {b : Bool} (hR1 : HR G r1 H1 h1) (v1 : VR G r1 H1 x v) (e : truth x h1 = some b) : TruV G.K v H1 b := by
  cases v1 with
  | non => cases e; rfl
  | bl b => cases e; rfl
  | int i => cases e; rfl
  | str q => cases e
  | tup hs hv =>
    cases e
    cases hv with
    | nil => exact .inr (.inl ⟨_, hs, rfl⟩)
    | cons _ _ => exact .inr (.inl ⟨_, hs, rfl⟩)
  | @ref n a ea =>
    simp only [truth] at e
    split at e
    · rename_i xs eo
      cases e
      cases hR1.ob _ _ _ eo ea with
      | lst hl hv => cases hv <;> exact .inl ⟨_, SqL.of hl, rfl⟩
    · rename_i xs eo
      cases e
      cases hR1.ob _ _ _ eo ea with
      | fls hl hv => cases hv <;> exact .inl ⟨_, hl.sq, rfl⟩
    · rename_i xs eo
      cases e
      cases hR1.ob _ _ _ eo ea with
      | dct hl hv => cases hv <;> exact .inr (.inr ⟨_, hl, rfl⟩)
    · cases e
/-- not x, by truth -/
def mNoT (ma : En → Heap → Res Val) (s : En) (h : Heap) : Res Val := (ma s h).bind fun x h1 => match truth x h1 with
  | some b => .ok (.bl (!b)) h1
  | none => .stuck
theorem me_notT (C : XC G E X k) (h : ME G E X a ta ma) : ME G E X (.UnaryOp .Not a pos) (tNotT G.K ta) (mNoT ma) := by
  refine ⟨?_, ⟨fun r H h' s σ Q hR sR p => h.rf.run r H h' s σ _ hR sR (p.seq fun x h1' r1 H1 v s1 hR1 v1 p1 => ?_)⟩⟩
  · have := pe_notT (pos := pos) h.pe
    rwa [C.K] at this
  · split at p1
    · rename_i b e
      exact ⟨b, tru_of hR1 v1 e, p1.here hR1 (.bl _)⟩
    · exact False.elim p1
end
end PyM

set_option Elab.async false
set_option linter.all false
set_option autoImplicit false
/-! how a model program is reckoned: weakest wishes, as equations for simp -/
namespace PyM

structure K4 where
  nx : En → Heap → Prop
  rt : Val → Heap → Prop
  bk : En → Heap → Prop := fun _ _ => False
  ct : En → Heap → Prop := fun _ _ => False
  ex : Nat → Heap → Prop := fun _ _ => False
def wR {α : Type} (x : Res α) (E : Nat → Heap → Prop) (Q : α → Heap → Prop) : Prop := match x with
  | .ok a h => Q a h
  | .raised c h => E c h
  | .stuck => False
def wS (x : RS) (D : K4) : Prop := match x with
  | .nx s h => D.nx s h
  | .rt v h => D.rt v h
  | .bk s h => D.bk s h
  | .ct s h => D.ct s h
  | .raised c h => D.ex c h
  | .stuck => False
section
variable {α β : Type} {E : Nat → Heap → Prop} {Q : α → Heap → Prop} {D : K4} {s : En} {h : Heap}
@[simp ↓] theorem wR_ok {a : α} : wR (.ok a h) E Q = Q a h := rfl
@[simp ↓] theorem wR_raised {c : Nat} : wR (.raised c h : Res α) E Q = E c h := rfl
@[simp ↓] theorem wR_stuck : wR (.stuck : Res α) E Q = False := rfl
@[simp ↓] theorem wS_nx : wS (.nx s h) D = D.nx s h := rfl
@[simp ↓] theorem wS_rt {v : Val} : wS (.rt v h) D = D.rt v h := rfl
@[simp ↓] theorem wS_bk : wS (.bk s h) D = D.bk s h := rfl
@[simp ↓] theorem wS_ct : wS (.ct s h) D = D.ct s h := rfl
@[simp ↓] theorem wS_raised {c : Nat} : wS (.raised c h) D = D.ex c h := rfl
@[simp ↓] theorem wS_stuck : wS .stuck D = False := rfl
@[simp ↓] theorem wR_bind {x : Res β} {k : β → Heap → Res α} : wR (x.bind k) E Q = wR x E fun b h1 => wR (k b h1) E Q := by cases x <;> rfl
@[simp ↓] theorem wS_thenS {x : Res β} {k : β → Heap → RS} : wS (x.thenS k) D = wR x D.ex fun b h1 => wS (k b h1) D := by cases x <;> rfl
@[simp ↓] theorem wS_bind {x : RS} {k : En → Heap → RS} : wS (x.bind k) D = wS x { D with nx := fun s h => wS (k s h) D } := by cases x <;> rfl
@[simp ↓] theorem wR_ite {c : Prop} [Decidable c] {a b : Res α} : wR (if c then a else b) E Q = if c then wR a E Q else wR b E Q := by split <;> rfl
@[simp ↓] theorem wS_ite {c : Prop} [Decidable c] {a b : RS} : wS (if c then a else b) D = if c then wS a D else wS b D := by split <;> rfl
theorem wR_mono {x : Res α} {Q' : α → Heap → Prop} (w : wR x E Q) (f : ∀ a h, Q a h → Q' a h) : wR x E Q' := by cases x <;> first | exact f _ _ w | exact w
theorem wR_eq {x : Res α} {a : α} (e : x = .ok a h) (q : Q a h) : wR x E Q := by rw [e]; exact q
end
section
variable {E : Nat → Heap → Prop} {Q : Val → Heap → Prop} {QA : List Val → Heap → Prop} {QB : Bool → Heap → Prop} {D : K4} {s : En} {h : Heap} {ma mb mc mo mi me : En → Heap → Res Val} {mA : En → Heap → Res (List Val)} {tu tv : En → Heap → Res Bool} {a b : En → Heap → RS}
@[simp ↓] theorem wR_mK {x : Val} : wR (mK x s h) E Q = Q x h := rfl
@[simp ↓] theorem wR_mV0 {x : Val} : wR (mV 0 (some x :: s) h) E Q = Q x h := rfl
@[simp ↓] theorem wR_mV1 {i : Nat} {o : Option Val} : wR (mV (i + 1) (o :: s) h) E Q = wR (mV i s h) E Q := rfl
@[simp ↓] theorem wR_mB {f : Val → Val → Heap → Res Val} : wR (mB f ma mb s h) E Q = wR (ma s h) E fun x h1 => wR (mb s h1) E fun y h2 => wR (f x y h2) E Q := by unfold mB; simp
@[simp ↓] theorem wR_mU {f : Val → Heap → Res Val} : wR (mU f ma s h) E Q = wR (ma s h) E fun x h1 => wR (f x h1) E Q := by unfold mU; simp
@[simp ↓] theorem wR_mL {f : List Val → Heap → Res Val} : wR (mL f mA s h) E Q = wR (mA s h) E fun x h1 => wR (f x h1) E Q := by unfold mL; simp
@[simp ↓] theorem wR_mNil : wR (mNil s h) E QA = QA [] h := rfl
@[simp ↓] theorem wR_mCons : wR (mCons ma mA s h) E QA = wR (ma s h) E fun x h1 => wR (mA s h1) E fun xs h2 => QA (x :: xs) h2 := by unfold mCons; simp
@[simp ↓] theorem wR_tB : wR (tB_ ma s h) E QB = wR (ma s h) E fun x h1 => (match x with | .bl c => QB c h1 | _ => False) := by
  unfold tB_; simp only [wR_bind]; congr; funext x h1; split <;> simp_all
@[simp ↓] theorem wR_tTr : wR (tTr ma s h) E QB = wR (ma s h) E fun x h1 => (match truth x h1 with | some c => QB c h1 | none => False) := by
  unfold tTr; simp only [wR_bind]; congr; funext x h1; split <;> simp_all
@[simp ↓] theorem wR_tTrue : wR (tTrue s h) E QB = QB true h := rfl
@[simp ↓] theorem wR_tNo : wR (tNo tu s h) E QB = wR (tu s h) E fun c h1 => QB (!c) h1 := by unfold tNo; simp
@[simp ↓] theorem wR_tAn : wR (tAn tu tv s h) E QB = wR (tu s h) E fun c h1 => if c = true then wR (tv s h1) E QB else QB false h1 := by unfold tAn; simp
@[simp ↓] theorem wR_tOr : wR (tOr_ tu tv s h) E QB = wR (tu s h) E fun c h1 => if c = true then QB true h1 else wR (tv s h1) E QB := by unfold tOr_; simp
@[simp ↓] theorem wR_mAn : wR (mAn ma mb s h) E Q = wR (ma s h) E fun x h1 => (match x with | .bl c => if c = true then wR (mb s h1) E Q else Q (.bl false) h1 | _ => False) := by
  unfold mAn; simp only [wR_bind]; congr; funext x h1; split <;> simp_all
@[simp ↓] theorem wR_mOr : wR (mOr_ ma mb s h) E Q = wR (ma s h) E fun x h1 => (match x with | .bl c => if c = true then Q (.bl true) h1 else wR (mb s h1) E Q | _ => False) := by
  unfold mOr_; simp only [wR_bind]; congr; funext x h1; split <;> simp_all
@[simp ↓] theorem wR_mNo : wR (mNo ma s h) E Q = wR (ma s h) E fun x h1 => (match x with | .bl c => Q (.bl (!c)) h1 | _ => False) := by
  unfold mNo; simp only [wR_bind]; congr; funext x h1; split <;> simp_all
@[simp ↓] theorem wR_mIf : wR (mIf tu ma mb s h) E Q = wR (tu s h) E fun c h1 => if c = true then wR (ma s h1) E Q else wR (mb s h1) E Q := by unfold mIf; simp
@[simp ↓] theorem wR_mCh {p q : Int → Int → Bool} : wR (mCh p q ma mb mc s h) E Q = wR (ma s h) E fun x h1 => wR (mb s h1) E fun y h2 => (match x, y with
    | .int i, .int j => if p i j = true then wR (mc s h2) E fun z h3 => (match z with | .int k => Q (.bl (q j k)) h3 | _ => False) else Q (.bl false) h2
    | _, _ => False) := by
  unfold mCh; simp only [wR_bind]; congr; funext x h1; congr; funext y h2; split
  · simp only [wR_ite, wR_bind, wR_ok]
    split
    · congr; funext z h3; split <;> simp_all
    · rfl
  · simp_all
@[simp ↓] theorem wR_mTup : wR (mTup mA s h) E Q = wR (mA s h) E fun xs h1 => xs.length ≤ lim ∧ Q (.tup xs) h1 := by unfold mTup; simp only [wR_bind]; congr; funext x h1; split <;> (simp_all <;> (intros; omega))
@[simp ↓] theorem wR_mLst : wR (mLst mA s h) E Q = wR (mA s h) E fun xs h1 => xs.length ≤ lim ∧ Q (.ref h1.length) (h1 ++ [.lst xs]) := by unfold mLst; simp only [wR_bind]; congr; funext x h1; split <;> (simp_all <;> (intros; omega))
@[simp ↓] theorem wR_mDct : wR (mDct s h) E Q = Q (.ref h.length) (h ++ [.dct []]) := rfl
@[simp ↓] theorem wR_mCall {m : List Val → Heap → Res Val} {ds : List Val} : wR (mCall m ds mA s h) E Q = wR (mA s h) E fun xs h1 => wR (m (xs ++ ds) h1) E Q := by unfold mCall; simp
@[simp ↓] theorem wR_mMeth {c : Nat} {m : List Val → Heap → Res Val} {ds : List Val} : wR (mMeth c m ds mo mA s h) E Q = wR (mo s h) E fun x h1 => isIns c x h1 = true ∧ wR (mA s h1) E fun xs h2 => wR (m (x :: (xs ++ ds)) h2) E Q := by
  unfold mMeth; simp only [wR_bind]; congr; funext x h1; split <;> simp_all
@[simp ↓] theorem wR_mMake {c : Nat} {m : List Val → Heap → Res Val} {ds : List Val} : wR (mMake c m ds mA s h) E Q = wR (mA s h) E fun xs h1 => wR (m (.ref h1.length :: (xs ++ ds)) (h1 ++ [.ins c []])) E fun x h2 => (match x with | .non => Q (.ref h1.length) h2 | _ => False) := by
  unfold mMake; simp only [wR_bind]; congr; funext x h1; congr; funext y h2; split <;> simp_all
@[simp ↓] theorem wR_mSl {p q : En → Heap → Res (Option Int)} : wR (mSl ma p q s h) E Q = wR (ma s h) E fun x h1 => wR (p s h1) E fun lo h2 => wR (q s h2) E fun hi h3 => wR (oSl x lo hi h3) E Q := by unfold mSl; simp
@[simp ↓] theorem wR_pNo {QO : Option Int → Heap → Prop} : wR (pNo s h) E QO = QO none h := rfl
@[simp ↓] theorem wR_pSo {QO : Option Int → Heap → Prop} : wR (pSo ma s h) E QO = wR (ma s h) E fun x h1 => (match x with | .int i => QO (some i) h1 | _ => False) := by
  unfold pSo; simp only [wR_bind]; congr; funext x h1; split <;> simp_all
@[simp ↓] theorem wR_mIsi {T : Ty} : wR (mIsi T ma s h) E Q = wR (ma s h) E fun x h1 => (match isTy T (tyOf x h1) with | some c => Q (.bl c) h1 | none => False) := by
  unfold mIsi; simp only [wR_bind]; congr; funext x h1; split <;> simp_all
@[simp ↓] theorem wR_mBM {f : Val → List Val → Heap → Res Val} : wR (mBM f mo mA s h) E Q = wR (mo s h) E fun x h1 => (seqOf x h1).isSome = true ∧ wR (mA s h1) E fun xs h2 => wR (f x xs h2) E Q := by
  unfold mBM; simp only [wR_bind]; congr; funext x h1; split <;> simp_all
@[simp ↓] theorem wR_mBM0 {f : Val → List Val → Heap → Res Val} : wR (mBM0 f mo s h) E Q = wR (mo s h) E fun x h1 => (seqOf x h1).isSome = true ∧ wR (f x [] h1) E Q := by
  unfold mBM0; simp only [wR_bind]; congr; funext x h1; split <;> simp_all
@[simp ↓] theorem wS_sNx : wS (sNx s h) D = D.nx s h := rfl
@[simp ↓] theorem wS_sBk : wS (sBk s h) D = D.bk s h := rfl
@[simp ↓] theorem wS_sCt : wS (sCt s h) D = D.ct s h := rfl
@[simp ↓] theorem wS_sSeq : wS (sSeq a b s h) D = wS (a s h) { D with nx := fun s h => wS (b s h) D } := by unfold sSeq; simp
@[simp ↓] theorem wS_sDrop : wS (sDrop ma s h) D = wR (ma s h) D.ex fun _ h1 => D.nx s h1 := by unfold sDrop; simp
@[simp ↓] theorem wS_sRet : wS (sRet ma s h) D = wR (ma s h) D.ex fun x h1 => D.rt x h1 := by unfold sRet; simp
@[simp ↓] theorem wS_sRetN : wS (sRetN s h) D = D.rt .non h := rfl
@[simp ↓] theorem wS_sIf : wS (sIf tu a b s h) D = wR (tu s h) D.ex fun c h1 => if c = true then wS (a s h1) D else wS (b s h1) D := by unfold sIf; simp
@[simp ↓] theorem wS_sAsg {g : Val → En → Option En} : wS (sAsg g ma s h) D = wR (ma s h) D.ex fun x h1 => (match g x s with | some s1 => D.nx s1 h1 | none => False) := by
  unfold sAsg; simp only [wS_thenS]; congr; funext x h1; split <;> simp_all
@[simp ↓] theorem wS_sSub : wS (sSub mo mi me s h) D = wR (me s h) D.ex fun x h1 => wR (mo s h1) D.ex fun o h2 => wR (mi s h2) D.ex fun i h3 => wR (oSet o i x h3) D.ex fun _ h4 => D.nx s h4 := by unfold sSub; simp
@[simp ↓] theorem wS_sSubA {f : Val → Val → Heap → Res Val} : wS (sSubA f mo mi me s h) D = wR (mo s h) D.ex fun o h1 => wR (mi s h1) D.ex fun i h2 => wR (oIxM o i h2) D.ex fun x h3 => wR (me s h3) D.ex fun y h4 => wR (f x y h4) D.ex fun z h5 => wR (oSet o i z h5) D.ex fun _ h6 => D.nx s h6 := by unfold sSubA; simp
@[simp ↓] theorem wS_sFld {d f : Nat} : wS (sFld d f mo me s h) D = wR (me s h) D.ex fun x h1 => wR (mo s h1) D.ex fun o h2 => wR (oSetF d f o x h2) D.ex fun _ h3 => D.nx s h3 := by unfold sFld; simp
@[simp ↓] theorem wS_sFldA {d f : Nat} {g : Val → Val → Heap → Res Val} : wS (sFldA d f g mo me s h) D = wR (mo s h) D.ex fun o h1 => isIns d o h1 = true ∧ wR (getF f o h1) D.ex fun x h2 => wR (me s h2) D.ex fun y h3 => wR (g x y h3) D.ex fun z h4 => wR (oSetF d f o z h4) D.ex fun _ h5 => D.nx s h5 := by
  unfold sFldA; simp only [wS_thenS, wR_ite]; congr; funext x h1; split <;> simp_all
@[simp ↓] theorem wS_sAug {i : Nat} {g : Val → Val → Heap → Res Val} : wS (sAug i g me s h) D = (match s[i]? with | some (some x) => wR (me s h) D.ex fun y h1 => wR (g x y h1) D.ex fun z h2 => D.nx (s.set i (some z)) h2 | _ => False) := by
  unfold sAug; split <;> simp_all
@[simp ↓] theorem wS_sRaise {c : Nat} : wS (sRaise c s h) D = D.ex c h := rfl
@[simp ↓] theorem wS_sTry {c : Nat} : wS (sTry c a b s h) D = wS (a s h) { D with ex := fun c' h' => c' = c ∧ wS (b s h') D } := by
  unfold sTry; cases e : a s h <;> (simp <;> (split <;> simp_all))
@[simp ↓] theorem wS_sFor {mi : MI} {g : Val → En → Option En} : wS (sFor mi g a s h) D = wR (mi s h) D.ex fun S h1 => wS (forM_ S.chk g a S.items s h1) D := by unfold sFor; simp
@[simp ↓] theorem wR_iRng1 {QS : Src → Heap → Prop} : wR (iRng1 mA s h) E QS = wR (mA s h) E fun xs h1 => (match xs with | [.int j] => (-(2 ^ 62) ≤ j ∧ j < 2 ^ 62) ∧ QS ⟨rangeV 0 j.toNat, fun _ => true⟩ h1 | _ => False) := by
  unfold iRng1; simp only [wR_bind]; congr; funext x h1; split <;> (simp <;> (split <;> simp_all))
@[simp ↓] theorem wR_iRng2 {QS : Src → Heap → Prop} : wR (iRng2 mA s h) E QS = wR (mA s h) E fun xs h1 => (match xs with | [.int i, .int j] => (-(2 ^ 62) ≤ i ∧ i < 2 ^ 62 ∧ -(2 ^ 62) ≤ j ∧ j < 2 ^ 62) ∧ QS ⟨rangeV i (j - i).toNat, fun _ => true⟩ h1 | _ => False) := by
  unfold iRng2; simp only [wR_bind]; congr; funext x h1; split <;> (simp <;> (split <;> simp_all))
end
theorem ite_and' {c A : Prop} [Decidable c] : (if c then A else False) = (c ∧ A) := by
  by_cases h : c <;> simp [h]
/-! operations by values -/
section
variable {E : Nat → Heap → Prop} {Q : Val → Heap → Prop} {QU : Unit → Heap → Prop} {h : Heap} {a : Nat} {x y : Val} {xs ys : List Val} {i j : Int} {b c : Bool}
@[simp ↓] theorem wR_oI {g : Int → Int → Val} : wR (oI g (.int i) (.int j) h) E Q = Q (g i j) h := rfl
@[simp ↓] theorem wR_oIC {p : Int → Int → Bool} {g : Int → Int → Val} : wR (oIC p g (.int i) (.int j) h) E Q = (p i j = true ∧ Q (g i j) h) := by
  unfold oIC; simp only; split <;> simp_all
@[simp ↓] theorem wR_oAdd : wR (oAdd (.int i) (.int j) h) E Q = Q (.int (i + j)) h := rfl
@[simp ↓] theorem wR_oAddT : wR (oAdd (.tup xs) (.tup ys) h) E Q = (xs.length + ys.length ≤ lim ∧ Q (.tup (xs ++ ys)) h) := by
  unfold oAdd; simp only [wR_ite, wR_ok, wR_stuck, ite_and']
@[simp ↓] theorem wR_oMul : wR (oMul (.int i) (.int j) h) E Q = ((-(2 ^ 64) < j ∧ j < 2 ^ 64 ∨ -(2 ^ 64) < i ∧ i < 2 ^ 64) ∧ Q (.int (i * j)) h) := by
  unfold oMul; simp only [wR_ite, wR_ok, wR_stuck, ite_and']
@[simp ↓] theorem wR_oMulT : wR (oMul (.tup xs) (.int i) h) E Q = ((xs.length ≠ 0 ∧ 2 ≤ i ∧ i ≤ 1000 ∧ xs.length ≤ 1000) ∧ Q (.tup (repV i.toNat xs)) h) := by
  unfold oMul; simp only [wR_ite, wR_ok, wR_stuck, ite_and']
@[simp ↓] theorem wR_oMulL : wR (oMul (.ref a) (.int i) h) E Q = (match h[a]? with | some (.lst xs) => (i ≤ 100000 ∧ -100000 ≤ i ∧ xs.length * i.toNat ≤ lim) ∧ Q (.ref h.length) (h ++ [.lst (repV i.toNat xs)]) | _ => False) := by
  unfold oMul; simp only; split
  · simp only [wR_ite, wR_ok, wR_stuck, ite_and']
    all_goals simp_all
  · simp_all
@[simp ↓] theorem wR_oNeg : wR (oNeg (.int i) h) E Q = Q (.int (-i)) h := rfl
@[simp ↓] theorem wR_oIsN {neg : Bool} : wR (oIsN neg x h) E Q = Q (.bl (match x with | .non => !neg | _ => neg)) h := rfl
@[simp ↓] theorem wR_oEqI {neg : Bool} : wR (oEq neg (.int i) (.int j) h) E Q = Q (.bl (if neg then !(i == j) else i == j)) h := rfl
@[simp ↓] theorem wR_oEqB {neg : Bool} : wR (oEq neg (.bl b) (.bl c) h) E Q = Q (.bl (if neg then !(b == c) else b == c)) h := rfl
@[simp ↓] theorem wR_oEqS {neg : Bool} {m n : Nat} : wR (oEq neg (.str m) (.str n) h) E Q = Q (.bl (if neg then !(m == n) else m == n)) h := rfl
@[simp ↓] theorem wR_oIsB {neg : Bool} : wR (oIsB neg (.bl b) (.bl c) h) E Q = Q (.bl (if neg then !decide (b = c) else decide (b = c))) h := rfl
@[simp ↓] theorem wR_oIxT : wR (oIx (.tup xs) (.int i) h) E Q = (match L2.atI xs i with | some v => Q v h | none => False) := by
  unfold oIx; simp only; split <;> simp_all
@[simp ↓] theorem wR_oIxL : wR (oIx (.ref a) (.int i) h) E Q = (match h[a]? with
    | some (.lst xs) => (match L2.atI xs i with | some v => Q v h | none => False)
    | some (.fls xs) => (match L2.atI xs i with | some v => Q v h | none => False)
    | some (.dct d) => (match lookV d (.int i) with | some v => Q v h | none => False)
    | some (.fdc d) => (match lookV d (.int i) with | some v => Q v h | none => False)
    | _ => False) := by
  unfold oIx; simp only [isKey]; split
  · split <;> simp_all
  · split <;> simp_all
  · simp only [if_true]
    split <;> simp_all
  · simp only [if_true]
    split <;> simp_all
  · simp_all
@[simp ↓] theorem wR_oIxM : wR (oIxM (.ref a) y h) E Q = wR (oIx (.ref a) y h) E Q := rfl
@[simp ↓] theorem wR_oSetI : wR (oSet (.ref a) (.int i) x h) E QU = (match h[a]? with
    | some (.lst xs) => (match L2.ixN xs.length i with | some j => QU () (h.set a (.lst (xs.set j x))) | none => False)
    | some (.dct d) => d.length < lim ∧ QU () (h.set a (.dct (putV d (.int i) x)))
    | _ => False) := by
  unfold oSet; simp only [isKey]; split
  · split <;> simp_all
  · simp only [wR_ite, wR_ok, wR_stuck, ite_and']
    all_goals simp_all
  · simp_all
@[simp ↓] theorem wR_getF {f : Nat} : wR (getF f (.ref a) h) E Q = (match h[a]? with | some (.ins _ fs) => (match lookF f fs with | some v => Q v h | none => False) | _ => False) := by
  unfold getF; simp only; split
  · split <;> simp_all
  · simp_all
@[simp ↓] theorem wR_oSetF {d f : Nat} : wR (oSetF d f (.ref a) x h) E QU = (match h[a]? with | some (.ins c fs) => (c = d ∧ fs.length < 1000) ∧ QU () (h.set a (.ins c (setF f x fs))) | _ => False) := by
  unfold oSetF; simp only; split
  · simp only [wR_ite, wR_ok, wR_stuck, ite_and']
    all_goals simp_all
  · simp_all
@[simp ↓] theorem wR_bInt : wR (bInt [.int i] h) E Q = Q (.int i) h := rfl
@[simp ↓] theorem wR_bIntB : wR (bInt [.bl b] h) E Q = Q (.int (if b then 1 else 0)) h := rfl
@[simp ↓] theorem wR_bAbs : wR (bAbs [.int i] h) E Q = Q (.int (if i < 0 then -i else i)) h := rfl
@[simp ↓] theorem wR_bLenT : wR (bLen [.tup xs] h) E Q = Q (.int xs.length) h := rfl
@[simp ↓] theorem wR_bLenL : wR (bLen [.ref a] h) E Q = (match h[a]? with | some (.lst xs) => Q (.int xs.length) h | some (.fls xs) => Q (.int xs.length) h | some (.dct d) => Q (.int d.length) h | _ => False) := by
  unfold bLen; simp only; split <;> simp_all
@[simp ↓] theorem wR_bListT : wR (bList [.tup xs] h) E Q = Q (.ref h.length) (h ++ [.lst xs]) := rfl
@[simp ↓] theorem wR_bListL : wR (bList [.ref a] h) E Q = (match h[a]? with | some (.lst xs) => Q (.ref h.length) (h ++ [.lst xs]) | some (.fls xs) => Q (.ref h.length) (h ++ [.lst xs]) | _ => False) := by
  unfold bList; simp only; split <;> simp_all
@[simp ↓] theorem wR_bTupleT : wR (bTuple [.tup xs] h) E Q = Q (.tup xs) h := rfl
@[simp ↓] theorem wR_bTupleL : wR (bTuple [.ref a] h) E Q = (match h[a]? with | some (.lst xs) => Q (.tup xs) h | some (.fls xs) => Q (.tup xs) h | _ => False) := by
  unfold bTuple; simp only; split <;> simp_all
@[simp ↓] theorem wR_bAppend : wR (bAppend (.ref a) [y] h) E Q = (match h[a]? with | some (.lst xs) => xs.length < lim ∧ Q .non (h.set a (.lst (xs ++ [y]))) | _ => False) := by
  unfold bAppend; simp only; split
  · simp only [wR_ite, wR_ok, wR_stuck, ite_and']
    all_goals simp_all
  · simp_all
end
theorem ixN_cast (n k : Nat) : L2.ixN n (k : Int) = if k < n then some k else none := by
  unfold L2.ixN
  rw [if_pos (by omega)]
  by_cases h : k < n
  · rw [if_pos (by omega), if_pos h]
    simp
  · rw [if_neg (by omega), if_neg h]
theorem atI_cast {α : Type} (xs : List α) (k : Nat) : L2.atI xs (k : Int) = xs[k]? := by
  unfold L2.atI
  rw [ixN_cast]
  split
  · rfl
  · rw [List.getElem?_eq_none (by omega)]
    rfl
theorem atI_nn {α : Type} {xs : List α} {i : Int} (h : 0 ≤ i) : L2.atI xs i = xs[i.toNat]? := by
  obtain ⟨k, rfl⟩ := Int.eq_ofNat_of_zero_le h
  exact atI_cast xs k
theorem ixN_nn {n : Nat} {i : Int} (h : 0 ≤ i) : L2.ixN n i = if i.toNat < n then some i.toNat else none := by
  obtain ⟨k, rfl⟩ := Int.eq_ofNat_of_zero_le h
  exact ixN_cast n k
@[simp] theorem atI_0 {α : Type} (xs : List α) : L2.atI xs 0 = xs[0]? := atI_cast xs 0
@[simp] theorem ixN_0 (n : Nat) : L2.ixN n 0 = if 0 < n then some 0 else none := ixN_cast n 0
@[simp] theorem atI_1 {α : Type} (xs : List α) : L2.atI xs 1 = xs[1]? := atI_cast xs 1
@[simp] theorem ixN_1 (n : Nat) : L2.ixN n 1 = if 1 < n then some 1 else none := ixN_cast n 1
@[simp] theorem atI_2 {α : Type} (xs : List α) : L2.atI xs 2 = xs[2]? := atI_cast xs 2
@[simp] theorem ixN_2 (n : Nat) : L2.ixN n 2 = if 2 < n then some 2 else none := ixN_cast n 2
@[simp] theorem atI_3 {α : Type} (xs : List α) : L2.atI xs 3 = xs[3]? := atI_cast xs 3
@[simp] theorem ixN_3 (n : Nat) : L2.ixN n 3 = if 3 < n then some 3 else none := ixN_cast n 3
@[simp] theorem atI_4 {α : Type} (xs : List α) : L2.atI xs 4 = xs[4]? := atI_cast xs 4
@[simp] theorem ixN_4 (n : Nat) : L2.ixN n 4 = if 4 < n then some 4 else none := ixN_cast n 4
@[simp] theorem atI_5 {α : Type} (xs : List α) : L2.atI xs 5 = xs[5]? := atI_cast xs 5
@[simp] theorem ixN_5 (n : Nat) : L2.ixN n 5 = if 5 < n then some 5 else none := ixN_cast n 5
@[simp] theorem atI_6 {α : Type} (xs : List α) : L2.atI xs 6 = xs[6]? := atI_cast xs 6
@[simp] theorem ixN_6 (n : Nat) : L2.ixN n 6 = if 6 < n then some 6 else none := ixN_cast n 6
@[simp] theorem atI_7 {α : Type} (xs : List α) : L2.atI xs 7 = xs[7]? := atI_cast xs 7
@[simp] theorem ixN_7 (n : Nat) : L2.ixN n 7 = if 7 < n then some 7 else none := ixN_cast n 7
@[simp] theorem atI_8 {α : Type} (xs : List α) : L2.atI xs 8 = xs[8]? := atI_cast xs 8
@[simp] theorem ixN_8 (n : Nat) : L2.ixN n 8 = if 8 < n then some 8 else none := ixN_cast n 8
@[simp] theorem atI_9 {α : Type} (xs : List α) : L2.atI xs 9 = xs[9]? := atI_cast xs 9
@[simp] theorem ixN_9 (n : Nat) : L2.ixN n 9 = if 9 < n then some 9 else none := ixN_cast n 9
/-- what stands at a place -/
theorem at_set {h : Heap} {p : Nat} {o o0 : Obj} (e : h[p]? = some o0) : (h.set p o)[p]? = some o := by
  rw [List.getElem?_set_self (List.getElem?_eq_some_iff.mp e).1]
theorem at_set_ne {h : Heap} {p q : Nat} {o : Obj} (e : p ≠ q) : (h.set p o)[q]? = h[q]? := List.getElem?_set_ne e
theorem at_push {h g : Heap} {p : Nat} {o0 : Obj} (e : h[p]? = some o0) : (h ++ g)[p]? = some o0 := by
  rw [List.getElem?_append_left (List.getElem?_eq_some_iff.mp e).1]
  exact e
/-- a body's run -/
theorem wR_runB {np nl : Nat} {mb : En → Heap → RS} {xs : List Val} {h : Heap} {E : Nat → Heap → Prop} {Q : Val → Heap → Prop} (hl : xs.length = np) :
    wR (runB np nl mb xs h) E Q = wS (mb (xs.map some ++ List.replicate (nl - np) none) h) { nx := fun _ h' => Q .non h', rt := Q, ex := E } := by
  unfold runB
  rw [if_pos hl]
  cases mb (xs.map some ++ List.replicate (nl - np) none) h <;> simp
/-- from the wish to the equation -/
theorem eq_of_wR {α : Type} {x : Res α} {a : α} {h : Heap} (w : wR x (fun _ _ => False) fun b h' => b = a ∧ h' = h) : x = .ok a h := by
  cases x with
  | ok b h' => obtain ⟨rfl, rfl⟩ := w; rfl
  | raised c h' => exact w.elim
  | stuck => exact w.elim
theorem ex_of_wR {α : Type} {x : Res α} {Q : α → Heap → Prop} (w : wR x (fun _ _ => False) Q) : ∃ a h, x = .ok a h ∧ Q a h := by
  cases x with
  | ok b h' => exact ⟨b, h', rfl, w⟩
  | raised c h' => exact w.elim
  | stuck => exact w.elim
/-- a loop by its invariant -/
theorem wS_forM {chk : Heap → Bool} {g : Val → En → Option En} {body : En → Heap → RS} {D : K4} (Inv : Nat → En → Heap → Prop) : ∀ (xs : List Val) (n : Nat) (s : En) (h : Heap), Inv n s h →
    (∀ i x s h, n ≤ i → xs[i - n]? = some x → Inv i s h → chk h = true ∧ ∃ s1, g x s = some s1 ∧ wS (body s1 h) { D with nx := Inv (i + 1), ct := Inv (i + 1), bk := D.nx }) →
    (∀ s h, Inv (n + xs.length) s h → chk h = true ∧ D.nx s h) → wS (forM_ chk g body xs s h) D
  | [], n, s, h, h0, _, hd => by
    unfold forM_
    obtain ⟨c, q⟩ := hd s h h0
    simp [c, q]
  | x :: xs, n, s, h, h0, hs, hd => by
    unfold forM_
    obtain ⟨c, s1, e, w⟩ := hs n x s h (Nat.le_refl _) (by simp) h0
    rw [if_pos c, e]
    have ih := fun s2 h2 q => wS_forM (D := D) Inv xs (n + 1) s2 h2 q (fun i x s h hi hx => hs i x s h (by omega) (by
      have : i - n = (i - (n + 1)) + 1 := by omega
      rw [this]
      simpa using hx)) (fun s h q => hd s h (by
        have : n + (x :: xs).length = n + 1 + xs.length := by simp; omega
        rw [this]
        exact q))
    simp only
    cases eb : body s1 h with
    | nx s2 h2 => rw [eb] at w; exact ih s2 h2 w
    | ct s2 h2 => rw [eb] at w; exact ih s2 h2 w
    | bk s2 h2 => rw [eb] at w; exact w
    | rt v h2 => rw [eb] at w; exact w
    | raised c h2 => rw [eb] at w; exact w
    | stuck => rw [eb] at w; exact w
end PyM
namespace PyM
theorem wRB {np nl : Nat} {mb : En → Heap → RS} {xs : List Val} {h : Heap} {E : Nat → Heap → Prop} {Q : Val → Heap → Prop} (hl : xs.length = np)
    (w : wS (mb (xs.map some ++ List.replicate (nl - np) none) h) { nx := fun _ h' => Q .non h', rt := Q, ex := E }) : wR (runB np nl mb xs h) E Q := by
  rw [wR_runB hl]
  exact w
end PyM
namespace PyM
theorem wS_forM_nil {chk : Heap → Bool} {g : Val → En → Option En} {body : En → Heap → RS} {D : K4} {s : En} {h : Heap} : wS (forM_ chk g body [] s h) D = (chk h = true ∧ D.nx s h) := by
  unfold forM_
  by_cases c : chk h = true <;> simp [c]
theorem wS_forM_cons {chk : Heap → Bool} {g : Val → En → Option En} {body : En → Heap → RS} {D : K4} {s : En} {h : Heap} {x : Val} {xs : List Val} :
    wS (forM_ chk g body (x :: xs) s h) D = (chk h = true ∧ match g x s with
      | some s1 => wS (body s1 h) { D with nx := fun s2 h2 => wS (forM_ chk g body xs s2 h2) D, ct := fun s2 h2 => wS (forM_ chk g body xs s2 h2) D, bk := D.nx }
      | none => False) := by
  rw [forM_]
  by_cases c : chk h = true
  · rw [if_pos c]
    cases e : g x s with
    | none => simp
    | some s1 =>
      simp only [c, true_and]
      cases body s1 h <;> rfl
  · simp [c]
theorem eq_nx {x : RS} {s : En} {h : Heap} (w : wS x { nx := fun s' h' => s' = s ∧ h' = h, rt := fun _ _ => False }) : x = .nx s h := by
  cases x with
  | nx a b => obtain ⟨rfl, rfl⟩ := w; rfl
  | _ => exact w.elim
theorem eq_rt {x : RS} {v : Val} {h : Heap} (w : wS x { nx := fun _ _ => False, rt := fun s' h' => s' = v ∧ h' = h }) : x = .rt v h := by
  cases x with
  | rt a b => obtain ⟨rfl, rfl⟩ := w; rfl
  | _ => exact w.elim
theorem wS_of {x y : RS} {D : K4} (e : x = y) (w : wS y D) : wS x D := by rw [e]; exact w
theorem set_set {h : Heap} {p : Nat} {a b : Obj} : (h.set p a).set p b = h.set p b := List.set_set ..
end PyM
namespace PyM
/-! ### comprehensions -/
theorem wR_lcM {chk : Heap → Bool} {tg : Val → En → Option En} {mt : En → Heap → Res Bool} {me : En → Heap → Res Val} {s0 : En} {n : Nat} {E : Nat → Heap → Prop} {QU : Unit → Heap → Prop} (Inv : Nat → List Val → Heap → Prop) : ∀ (xs : List Val) (k : Nat) (acc : List Val) (h : Heap), Inv k acc h →
    (∀ i x acc h, k ≤ i → xs[i - k]? = some x → Inv i acc h → chk h = true ∧ ∃ s2, tg x s0 = some s2 ∧ wR (mt s2 h) (fun _ _ => False) fun b h1 => if b = true then wR (me s2 h1) (fun _ _ => False) fun y h2 => h2[n]? = some (.lst acc) ∧ acc.length < lim ∧ Inv (i + 1) (acc ++ [y]) (h2.set n (.lst (acc ++ [y]))) else Inv (i + 1) acc h1) →
    (∀ acc h, Inv (k + xs.length) acc h → chk h = true ∧ QU () h) → wR (lcM chk tg mt me s0 n xs h) E QU
  | [], k, acc, h, h0, _, hd => by
    unfold lcM
    obtain ⟨c, q⟩ := hd acc h h0
    simp [c, q]
  | x :: xs, k, acc, h, h0, hs, hd => by
    rw [lcM]
    obtain ⟨c, s2, e, w⟩ := hs k x acc h (Nat.le_refl _) (by simp) h0
    have ih := fun acc h q => wR_lcM (E := E) (QU := QU) Inv xs (k + 1) acc h q (fun i x acc h hi hx => hs i x acc h (by omega) (by
      have : i - k = (i - (k + 1)) + 1 := by omega
      rw [this]
      simpa using hx)) (fun acc h q => hd acc h (by
        have : k + (x :: xs).length = k + 1 + xs.length := by simp; omega
        rw [this]
        exact q))
    rw [if_pos c, e]
    simp only
    cases em : mt s2 h with
    | ok b h1 =>
      rw [em] at w
      simp only [wR_ok] at w
      by_cases hb : b = true
      · subst hb
        rw [if_pos rfl] at w
        simp only [if_true]
        cases ee : me s2 h1 with
        | ok y h2 =>
          rw [ee] at w
          simp only [wR_ok] at w
          obtain ⟨w1, w2, w3⟩ := w
          simp only [w1, w2, if_true]
          exact ih _ _ w3
        | raised a b => rw [ee] at w; exact w.elim
        | stuck => rw [ee] at w; exact w.elim
      · rw [if_neg hb] at w
        simp only [if_neg hb]
        exact ih _ _ w
    | raised a b => rw [em] at w; exact w.elim
    | stuck => rw [em] at w; exact w.elim
@[simp ↓] theorem wR_mLc {mi : MI} {tg : Val → En → Option En} {mt : En → Heap → Res Bool} {me : En → Heap → Res Val} {vs : List Nat} {s : En} {h : Heap} {E : Nat → Heap → Prop} {Q : Val → Heap → Prop} :
    wR (mLc mi tg mt me vs s h) E Q = wR (mi s h) E fun S h1 => wR (lcM S.chk tg mt me (wipeE s vs) h1.length S.items (h1 ++ [.lst []])) E fun _ h2 => Q (.ref h1.length) h2 := by
  unfold mLc
  simp
theorem at_len {h : Heap} {o : Obj} : (h ++ [o])[h.length]? = some o := by simp
theorem set_len {h : Heap} {o o' : Obj} : (h ++ [o]).set h.length o' = h ++ [o'] := by simp
/-- .. where the items leave the heap as it is -/
theorem wR_lcPure {chk : Heap → Bool} {tg : Val → En → Option En} {mt : En → Heap → Res Bool} {me : En → Heap → Res Val} {s0 : En} {E : Nat → Heap → Prop} {QU : Unit → Heap → Prop} {h : Heap} (p : Val → Bool) (f : Val → Val) {xs : List Val} (hl : xs.length < lim)
    (hc : ∀ acc, chk (h ++ [.lst acc]) = true)
    (ht : ∀ x acc, x ∈ xs → ∃ s2, tg x s0 = some s2 ∧ wR (mt s2 (h ++ [.lst acc])) (fun _ _ => False) (fun b h1 => b = p x ∧ h1 = h ++ [.lst acc]) ∧ (p x = true → wR (me s2 (h ++ [.lst acc])) (fun _ _ => False) fun y h2 => y = f x ∧ h2 = h ++ [.lst acc]))
    (q : QU () (h ++ [.lst ((xs.filter p).map f)])) : wR (lcM chk tg mt me s0 h.length xs (h ++ [.lst []])) E QU := by
  refine wR_lcM (fun i acc h' => i ≤ xs.length ∧ acc = ((xs.take i).filter p).map f ∧ h' = h ++ [.lst acc]) xs 0 [] _ ⟨Nat.zero_le _, rfl, rfl⟩ ?_ ?_
  · rintro i x acc h' _ hx ⟨hi, ea, rfl⟩
    simp only [Nat.sub_zero] at hx
    have hlt : i < xs.length := (List.getElem?_eq_some_iff.mp hx).1
    obtain ⟨s2, e, w1, w2⟩ := ht x acc (List.mem_of_getElem? hx)
    refine ⟨hc acc, s2, e, wR_mono w1 ?_⟩
    rintro b h1 ⟨rfl, rfl⟩
    have tk : xs.take (i + 1) = xs.take i ++ [x] := by
      rw [List.take_add_one, hx]
      rfl
    have al : acc.length < lim := by
      rw [ea, List.length_map]
      have := List.length_filter_le p (xs.take i)
      have := List.length_take_le i xs
      omega
    by_cases hp : p x = true
    · rw [if_pos hp]
      refine wR_mono (w2 hp) ?_
      rintro y h2 ⟨rfl, rfl⟩
      refine ⟨at_len, al, hlt, ?_, set_len⟩
      rw [tk, List.filter_append, List.map_append, ← ea]
      simp [hp]
    · rw [if_neg hp]
      refine ⟨hlt, ?_, rfl⟩
      rw [tk, List.filter_append, List.map_append, ← ea]
      simp [hp]
  · rintro acc h' ⟨_, ea, rfl⟩
    refine ⟨hc _, ?_⟩
    rw [ea]
    simpa using q
@[simp ↓] theorem wR_iLst {m : En → Heap → Res Val} {s : En} {h : Heap} {E : Nat → Heap → Prop} {Q : Src → Heap → Prop} : wR (iLst m s h) E Q = wR (m s h) E fun x h1 => (match x with
    | .ref a => (match h1[a]? with | some (.lst xs) => Q ⟨xs, lstIs a xs⟩ h1 | some (.fls xs) => Q ⟨xs, lstIs a xs⟩ h1 | _ => False)
    | _ => False) := by
  unfold iLst
  simp only [wR_bind]
  congr; funext x h1
  split
  · split <;> simp_all
  · simp_all
theorem wR_iAlt {m n : MI} {s : En} {h : Heap} {E : Nat → Heap → Prop} {Q : Src → Heap → Prop} (w : wR (m s h) E Q ∨ (m s h = .stuck ∧ wR (n s h) E Q)) : wR (iAlt m n s h) E Q := by
  unfold iAlt
  rcases w with w | ⟨e, w⟩
  · cases e : m s h with
    | stuck => rw [e] at w; exact w.elim
    | ok a b => rw [e] at w; exact w
    | raised a b => rw [e] at w; exact w
  · rw [e]; exact w
/-- a walked name that holds a list -/
@[simp ↓] theorem wR_iAltV {i : Nat} {s : En} {h : Heap} {E : Nat → Heap → Prop} {Q : Src → Heap → Prop} : wR (iAlt (iLst (mV i)) (iTup_ (mV i)) s h) E Q = (match s[i]? with
    | some (some (.ref a)) => (match h[a]? with | some (.lst xs) => Q ⟨xs, lstIs a xs⟩ h | some (.fls xs) => Q ⟨xs, lstIs a xs⟩ h | _ => False)
    | some (some (.tup xs)) => Q ⟨xs, fun _ => true⟩ h
    | _ => False) := by
  unfold iAlt iLst iTup_ mV
  cases e : s[i]? with
  | none => simp [Res.bind]
  | some o => cases o with
    | none => simp [Res.bind]
    | some x => cases x with
      | ref a =>
        simp only [Res.bind]
        cases e2 : h[a]? with
        | none => simp
        | some o => cases o <;> simp
      | _ => simp [Res.bind]
theorem lstIs_at {a : Nat} {xs : List Val} {h : Heap} (e : h[a]? = some (.lst xs)) : lstIs a xs h = true := by simp [lstIs, e]
@[simp ↓] theorem wR_bAll {a : Nat} {h : Heap} {E : Nat → Heap → Prop} {Q : Val → Heap → Prop} : wR (bAll [.ref a] h) E Q = (match seqOf (.ref a) h with | some ys => (match optAll asBl ys with | some bs => Q (.bl (bs.all id)) h | none => False) | none => False) := by
  first | unfold bAll bSeq | unfold bAny bSeq | unfold bSum bSeq
  simp only
  split
  · split <;> simp_all
  · simp_all
@[simp ↓] theorem wR_bAny {a : Nat} {h : Heap} {E : Nat → Heap → Prop} {Q : Val → Heap → Prop} : wR (bAny [.ref a] h) E Q = (match seqOf (.ref a) h with | some ys => (match optAll asBl ys with | some bs => Q (.bl (bs.any id)) h | none => False) | none => False) := by
  first | unfold bAll bSeq | unfold bAny bSeq | unfold bSum bSeq
  simp only
  split
  · split <;> simp_all
  · simp_all
@[simp ↓] theorem wR_bSum {a : Nat} {h : Heap} {E : Nat → Heap → Prop} {Q : Val → Heap → Prop} : wR (bSum [.ref a] h) E Q = (match seqOf (.ref a) h with | some ys => (match optAll asInt ys with | some bs => Q (.int bs.sum) h | none => False) | none => False) := by
  first | unfold bAll bSeq | unfold bAny bSeq | unfold bSum bSeq
  simp only
  split
  · split <;> simp_all
  · simp_all
theorem optAll_map {α β γ : Type} {f : β → Option γ} {g : α → β} {k : α → γ} (h : ∀ x, f (g x) = some (k x)) : ∀ xs : List α, optAll f (xs.map g) = some (xs.map k)
  | [] => rfl
  | x :: xs => by simp [optAll, h, optAll_map h xs]
theorem seqOf_at {a : Nat} {xs : List Val} {h : Heap} (e : h[a]? = some (.lst xs)) : seqOf (.ref a) h = some xs := by simp [seqOf, e]
end PyM
namespace PyM
theorem wR_lcMap {chk : Heap → Bool} {tg : Val → En → Option En} {me : En → Heap → Res Val} {s0 : En} {E : Nat → Heap → Prop} {QU : Unit → Heap → Prop} {h : Heap} (f : Val → Val) {xs : List Val} (hl : xs.length < lim)
    (hc : ∀ acc, chk (h ++ [.lst acc]) = true)
    (ht : ∀ x acc, x ∈ xs → ∃ s2, tg x s0 = some s2 ∧ wR (me s2 (h ++ [.lst acc])) (fun _ _ => False) fun y h2 => y = f x ∧ h2 = h ++ [.lst acc])
    (q : QU () (h ++ [.lst (xs.map f)])) : wR (lcM chk tg tTrue me s0 h.length xs (h ++ [.lst []])) E QU := by
  refine wR_lcPure (fun _ => true) f hl hc (fun x acc hx => ?_) ?_
  · obtain ⟨s2, e, w⟩ := ht x acc hx
    exact ⟨s2, e, ⟨rfl, rfl⟩, fun _ => w⟩
  · have : xs.filter (fun _ => true) = xs := List.filter_eq_self.mpr (fun _ _ => rfl)
    rw [this]
    exact q
end PyM
namespace PyM
section
variable {E : Nat → Heap → Prop} {Q : Val → Heap → Prop} {h : Heap} {a b : Nat} {lo hi : Option Int} {xs : List Val} {y : Val}
@[simp ↓] theorem wR_oAddL : wR (oAdd (.ref a) (.ref b) h) E Q = (match h[a]?, h[b]? with | some (.lst xs), some (.lst ys) => xs.length + ys.length ≤ lim ∧ Q (.ref h.length) (h ++ [.lst (xs ++ ys)]) | _, _ => False) := by
  unfold oAdd; simp only; split
  · simp only [wR_ite, wR_ok, wR_stuck, ite_and']
    all_goals simp_all
  · simp_all
@[simp ↓] theorem wR_oSlT : wR (oSl (.tup xs) lo hi h) E Q = Q (.tup (cut xs lo hi)) h := rfl
@[simp ↓] theorem wR_oSlL : wR (oSl (.ref a) lo hi h) E Q = (match h[a]? with | some (.lst xs) => Q (.ref h.length) (h ++ [.lst (cut xs lo hi)]) | some (.fls xs) => Q (.ref h.length) (h ++ [.lst (cut xs lo hi)]) | _ => False) := by
  unfold oSl; simp only; split <;> simp_all
@[simp ↓] theorem wR_bCount : wR (bCount (.ref a) [y] h) E Q = (match h[a]? with | some (.lst ys) => (isFlat y = true ∧ ys.all isFlat = true) ∧ Q (.int ((ys.countP fun z => feq z y : Nat) : Int)) h | _ => False) := by
  unfold bCount; simp only; split
  · simp only [wR_ite, wR_ok, wR_stuck, ite_and']
    all_goals simp_all
  · simp_all
end
open PySem L2 in
theorem cut_from {k : Nat} (xs : List Val) : cut xs (some (k : Int)) none = xs.drop k := by
  unfold cut
  rw [HT.sIx_none, HT.sIx_nat]
  by_cases h : k ≤ xs.length
  · rw [Nat.min_eq_left h, List.take_of_length_le (by simp)]
  · rw [Nat.min_eq_right (by omega)]
    simp
    omega
theorem cut_from1 (xs : List Val) : cut xs (some 1) none = xs.drop 1 := cut_from (k := 1) xs
end PyM
namespace PyM
/-! ### == of plain values: no bools, no objects -/
mutual
def Val.d : Val → D
  | .non => .non
  | .bl b => .bl b
  | .int i => .int i
  | .str n => .str n
  | .tup xs => .tup (Val.ds xs)
  | .ref _ => .non
def Val.ds : List Val → List D
  | [] => []
  | x :: xs => x.d :: Val.ds xs
end
def pl : Nat → Val → Bool
  | 0, _ => false
  | n + 1, v => match v with
    | .non => true
    | .int _ => true
    | .str _ => true
    | .tup xs => xs.all (pl n)
    | .bl _ => false
    | .ref _ => false
theorem optAll_ds {f : Val → Option D} : ∀ {xs : List Val}, (∀ x ∈ xs, f x = some x.d) → optAll f xs = some (Val.ds xs)
  | [], _ => rfl
  | x :: xs, h => by
    rw [optAll, h x (by simp), optAll_ds (fun y hy => h y (by simp [hy]))]
    rfl
theorem conv_pl {h : Heap} : ∀ (n : Nat) (x : Val), pl n x = true → conv n h x = some x.d
  | 0, _, e => by simp [pl] at e
  | n + 1, x, e => by
    cases x with
    | tup xs =>
      simp only [pl, List.all_eq_true] at e
      simp only [conv, Val.d]
      rw [optAll_ds (fun y hy => conv_pl n y (e y hy))]
      rfl
    | bl b => simp [pl] at e
    | ref b => simp [pl] at e
    | _ => rfl
mutual
theorem deq_pl : ∀ (x y : Val) (n m : Nat), pl n x = true → pl m y = true → deq x.d y.d = decide (x = y)
  | x, y, 0, _, e, _ => by simp [pl] at e
  | x, y, _, 0, _, e => by simp [pl] at e
  | .tup xs, y, n + 1, m + 1, h1, h2 => by
    cases y with
    | tup ys =>
      simp only [pl] at h1 h2
      simp only [Val.d, deq]
      rw [deqs_pl xs ys n m h1 h2]
      by_cases e : xs = ys <;> simp [e]
    | _ => simp [Val.d, deq]
  | .non, y, n + 1, m + 1, h1, h2 => by cases y <;> simp [Val.d, deq, pl] at h2 ⊢
  | .int i, y, n + 1, m + 1, h1, h2 => by
    cases y with
    | int j => by_cases e : i = j <;> simp [Val.d, deq, e]
    | bl b => simp [pl] at h2
    | _ => simp [Val.d, deq, pl] at h2 ⊢
  | .str i, y, n + 1, m + 1, h1, h2 => by
    cases y with
    | str j => by_cases e : i = j <;> simp [Val.d, deq, e]
    | bl b => simp [pl] at h2
    | _ => simp [Val.d, deq, pl] at h2 ⊢
  | .bl _, y, n + 1, m + 1, h1, h2 => by simp [pl] at h1
  | .ref _, y, n + 1, m + 1, h1, h2 => by simp [pl] at h1
theorem deqs_pl : ∀ (xs ys : List Val) (n m : Nat), xs.all (pl n) = true → ys.all (pl m) = true → deqs (Val.ds xs) (Val.ds ys) = decide (xs = ys)
  | [], [], _, _, _, _ => rfl
  | [], _ :: _, _, _, _, _ => by simp [Val.ds, deqs]
  | _ :: _, [], _, _, _, _ => by simp [Val.ds, deqs]
  | x :: xs, y :: ys, n, m, h1, h2 => by
    rw [List.all_cons, Bool.and_eq_true] at h1 h2
    rw [Val.ds, Val.ds, deqs, deq_pl x y n m h1.1 h2.1, deqs_pl xs ys n m h1.2 h2.2]
    by_cases e : x = y <;> by_cases e2 : xs = ys <;> simp [e, e2]
end
theorem oEq_pl {neg : Bool} {x y : Val} {h : Heap} (hx : pl 60 x = true) (hy : pl 60 y = true) : oEq neg x y h = .ok (.bl (if neg then !decide (x = y) else decide (x = y))) h := by
  unfold oEq
  rw [conv_pl 60 x hx, conv_pl 60 y hy]
  simp only [deq_pl x y 60 60 hx hy]
theorem conv_lst {h : Heap} {a : Nat} {xs : List Val} (ea : h[a]? = some (.lst xs)) (hx : xs.all (pl 59) = true) : conv 60 h (.ref a) = some (.lst (Val.ds xs)) := by
  rw [conv]
  simp only [ea]
  rw [optAll_ds (fun x hx' => conv_pl 59 x (List.all_eq_true.mp hx x hx'))]
  rfl
theorem oEq_lst {neg : Bool} {a b : Nat} {xs ys : List Val} {h : Heap} (ea : h[a]? = some (.lst xs)) (eb : h[b]? = some (.lst ys)) (hx : xs.all (pl 59) = true) (hy : ys.all (pl 59) = true) :
    oEq neg (.ref a) (.ref b) h = .ok (.bl (if neg then !decide (xs = ys) else decide (xs = ys))) h := by
  unfold oEq
  rw [conv_lst ea hx, conv_lst eb hy]
  simp only [deq, deqs_pl xs ys 59 59 hx hy]
end PyM
namespace PyM
def Ext (h h' : Heap) : Prop := ∃ g, h' = h ++ g
theorem Ext.refl (h : Heap) : Ext h h := ⟨[], by simp⟩
theorem Ext.app {h h' : Heap} (e : Ext h h') (g : Heap) : Ext h (h' ++ g) := by
  obtain ⟨k, rfl⟩ := e
  exact ⟨k ++ g, by simp⟩
theorem Ext.set {h h' : Heap} (e : Ext h h') {p : Nat} (hp : h.length ≤ p) (o : Obj) : Ext h (h'.set p o) := by
  obtain ⟨k, rfl⟩ := e
  exact ⟨k.set (p - h.length) o, by rw [List.set_append_right _ _ hp]⟩
theorem Ext.at {h h' : Heap} (e : Ext h h') {p : Nat} {o : Obj} (hp : h[p]? = some o) : h'[p]? = some o := by
  obtain ⟨k, rfl⟩ := e
  exact at_push hp
theorem Ext.trans {a b c : Heap} (x : Ext a b) (y : Ext b c) : Ext a c := by
  obtain ⟨g, rfl⟩ := x
  obtain ⟨k, rfl⟩ := y
  exact ⟨g ++ k, List.append_assoc _ _ _⟩
theorem Ext.le {h h' : Heap} (e : Ext h h') : h.length ≤ h'.length := by
  obtain ⟨k, rfl⟩ := e
  simp
theorem rangeV_length {lo : Int} {n : Nat} : (rangeV lo n).length = n := by simp [rangeV]
/-- a loop over range(n) by its invariant -/
theorem wS_range {g : Val → En → Option En} {body : En → Heap → RS} {D : K4} {n : Nat} {s : En} {h : Heap} (Inv : Nat → En → Heap → Prop) (h0 : Inv 0 s h)
    (hs : ∀ (i : Nat) s h, i < n → Inv i s h → ∃ s1, g (.int (i : Int)) s = some s1 ∧ wS (body s1 h) { D with nx := Inv (i + 1), ct := Inv (i + 1), bk := D.nx })
    (hd : ∀ s h, Inv n s h → D.nx s h) : wS (forM_ (fun _ => true) g body (rangeV 0 n) s h) D := by
  refine wS_forM Inv _ 0 s h h0 (fun i x s h _ hx hi => ⟨rfl, ?_⟩) (fun s h hi => ⟨rfl, hd s h (by rw [Nat.zero_add, rangeV_length] at hi; exact hi)⟩)
  rw [Nat.sub_zero, rangeV_get] at hx
  split at hx
  · rename_i hlt
    cases hx
    rw [Int.zero_add]
    exact hs i s h hlt hi
  · cases hx
end PyM
namespace PyM
theorem lc_at {n : Nat} {h0 h : Heap} {chk : Heap → Bool} {tg : Val → En → Option En} {mt : En → Heap → Res Bool} {me : En → Heap → Res Val} {s0 : En} {E : Nat → Heap → Prop} {QU : Unit → Heap → Prop} {xs : List Val} (hn : n = h.length) (hh : h0 = h ++ [.lst []]) (w : wR (lcM chk tg mt me s0 h.length xs (h ++ [.lst []])) E QU) : wR (lcM chk tg mt me s0 n xs h0) E QU := by
  subst hn hh
  exact w
theorem at_app {h g : Heap} {n : Nat} {o : Obj} (k : Nat) (e : n = h.length + k) (q : g[k]? = some o) : (h ++ g)[n]? = some o := by
  subst e; rw [List.getElem?_append_right (by omega), Nat.add_sub_cancel_left]; exact q
theorem wS_mono {x : RS} {D D' : K4} (w : wS x D) (n : ∀ s h, D.nx s h → D'.nx s h) (r : ∀ v h, D.rt v h → D'.rt v h) (b : ∀ s h, D.bk s h → D'.bk s h) (c : ∀ s h, D.ct s h → D'.ct s h) (e : ∀ k h, D.ex k h → D'.ex k h) : wS x D' := by
  cases x
  · exact n _ _ w
  · exact r _ _ w
  · exact b _ _ w
  · exact c _ _ w
  · exact e _ _ w
  · exact w
end PyM

set_option Elab.async false
set_option linter.all false
set_option autoImplicit false
set_option maxHeartbeats 4000000
/-! frames of heaps, the tape, comprehensions that make room, bits -/
namespace PyM
/-- at most the object p has changed; there may be more objects -/
def Fr (p : Nat) (h h' : Heap) : Prop := h.length ≤ h'.length ∧ ∀ q, q ≠ p → q < h.length → h'[q]? = h[q]?
theorem Fr.refl (p : Nat) (h : Heap) : Fr p h h := ⟨Nat.le_refl _, fun _ _ _ => rfl⟩
theorem Fr.trans {p : Nat} {a b c : Heap} (x : Fr p a b) (y : Fr p b c) : Fr p a c := ⟨Nat.le_trans x.1 y.1, fun q h1 h2 => by rw [y.2 q h1 (Nat.lt_of_lt_of_le h2 x.1), x.2 q h1 h2]⟩
theorem Ext.fr {a b : Heap} (x : Ext a b) (p : Nat) : Fr p a b := by
  obtain ⟨g, rfl⟩ := x
  exact ⟨by simp, fun q _ h2 => List.getElem?_append_left h2⟩
theorem Fr.at {p : Nat} {h h' : Heap} (x : Fr p h h') {q : Nat} {o : Obj} (hq : q ≠ p) (e : h[q]? = some o) : h'[q]? = some o := by
  rw [x.2 q hq (List.getElem?_eq_some_iff.mp e).1]; exact e
theorem Fr.set {p : Nat} {h h' : Heap} (x : Fr p h h') (o : Obj) : Fr p h (h'.set p o) :=
  ⟨by rw [List.length_set]; exact x.1, fun q h1 h2 => by rw [at_set_ne (Ne.symm h1)]; exact x.2 q h1 h2⟩
theorem Fr.push {p : Nat} {h h' : Heap} (x : Fr p h h') (g : Heap) : Fr p h (h' ++ g) := x.trans (Ext.fr ⟨g, rfl⟩ p)
/-- a change of an object that is younger -/
theorem Fr.new {p : Nat} {h h' : Heap} (x : Fr p h h') {q : Nat} (hq : h.length ≤ q) (o : Obj) : Fr p h (h'.set q o) :=
  ⟨by rw [List.length_set]; exact x.1, fun r h1 h2 => by rw [at_set_ne (by omega)]; exact x.2 r h1 h2⟩
theorem at_lt {h : Heap} {q : Nat} {o : Obj} (e : h[q]? = some o) : q < h.length := (List.getElem?_eq_some_iff.mp e).1
/-- the tape of a script -/
def TP (p a : Nat) (ns : List Int) (h : Heap) : Prop := p ≠ a ∧ h[a]? = some (.lst (ns.map Val.int)) ∧ ∃ i r t, 0 ≤ i ∧ h[p]? = some (.lst [.ref a, .int i, .int r, .int t])
theorem TP.ext {p a : Nat} {ns : List Int} {h h' : Heap} (T : TP p a ns h) (x : Ext h h') : TP p a ns h' := by
  obtain ⟨ne, T, i, r, t, i0, e⟩ := T
  exact ⟨ne, x.at T, i, r, t, i0, x.at e⟩
theorem TP.push {p a : Nat} {ns : List Int} {h : Heap} (T : TP p a ns h) (g : Heap) : TP p a ns (h ++ g) := T.ext ⟨g, rfl⟩
theorem TP.fr {p a q : Nat} {ns : List Int} {h h' : Heap} (T : TP p a ns h) (x : Fr q h h') (h1 : p ≠ q) (h2 : a ≠ q) : TP p a ns h' := by
  obtain ⟨ne, T, i, r, t, i0, e⟩ := T
  exact ⟨ne, x.at h2 T, i, r, t, i0, x.at h1 e⟩
theorem TP.set {p a q : Nat} {ns : List Int} {h : Heap} (T : TP p a ns h) (h1 : p ≠ q) (h2 : a ≠ q) (o : Obj) : TP p a ns (h.set q o) := by
  obtain ⟨ne, T, i, r, t, i0, e⟩ := T
  exact ⟨ne, by rw [at_set_ne (Ne.symm h2)]; exact T, i, r, t, i0, by rw [at_set_ne (Ne.symm h1)]; exact e⟩
theorem TP.lt {p a : Nat} {ns : List Int} {h : Heap} (T : TP p a ns h) : p < h.length ∧ a < h.length := by
  obtain ⟨ne, T, i, r, t, i0, e⟩ := T
  exact ⟨at_lt e, at_lt T⟩
def m_next : List Val → Heap → Res Val := runB 2 4
    (sSeq (sAsg (gV 2) (mB oIx (mV 0) (mK (.int 2))))
    (sSeq (sIf (tB_ (mB oGt (mV 2) (mK (.int 0)))) (sSeq (sSub (mV 0) (mK (.int 2)) (mB oFd (mV 2) (mV 1)))
    (sRet (mB oMd (mL bInt (mCons (mV 2) (mNil))) (mV 1)))) (sNx))
    (sSeq (sAsg (gV 3) (mK (.int 0)))
    (sSeq (sIf (tB_ (mB oLt (mB oIx (mV 0) (mK (.int 1))) (mL bLen (mCons (mB oIx (mV 0) (mK (.int 0))) (mNil))))) (sSeq (sAsg (gV 3) (mL bAbs (mCons (mB oIx (mB oIx (mV 0) (mK (.int 0))) (mB oIx (mV 0) (mK (.int 1)))) (mNil))))
    (sSubA (oI fun i j => .int (i + j)) (mV 0) (mK (.int 1)) (mK (.int 1)))) (sNx))
    (sSeq (sIf (tB_ (mB oGe (mV 3) (mB oPw (mK (.int 10)) (mK (.int 18))))) (sSeq (sSub (mV 0) (mK (.int 2)) (mB oFd (mV 3) (mV 1)))
    (sRet (mB oMd (mL bInt (mCons (mV 3) (mNil))) (mV 1)))) (sNx))
    (sSeq (sSub (mV 0) (mK (.int 3)) (mB oMd (mL bInt (mCons (mB oAdd (mB oAdd (mB oMul (mB oIx (mV 0) (mK (.int 3))) (mK (.int 48271))) (mB oMul (mV 3) (mK (.int 69621)))) (mK (.int 11))) (mNil))) (mK (.int 2147483647))))
    (sRet (mB oMd (mL bInt (mCons (mB oFd (mB oMd (mB oMul (mB oIx (mV 0) (mK (.int 3))) (mK (.int 16807))) (mK (.int 2147483647))) (mK (.int 7))) (mNil))) (mV 1)))))))))
theorem TP.next {f : List Val → Heap → Res Val} (hf : f = m_next) {h : Heap} {p a : Nat} {ns : List Int} (T : TP p a ns h) {n : Int} (hn : 0 < n) (hn2 : n < 1073741824) :
    ∃ v h', 0 ≤ v ∧ v < n ∧ f [.ref p, .int n] h = .ok (.int v) h' ∧ TP p a ns h' ∧ Fr p h h' ∧ h'.length = h.length := by
  subst hf
  obtain ⟨ne, ha, i, r, t, hi, hp⟩ := T
  have md : ∀ x : Int, 0 ≤ x % n ∧ x % n < n := fun x => ⟨Int.emod_nonneg _ (by omega), Int.emod_lt_of_pos _ hn⟩
  have mk : ∀ (v i' r' t' : Int), 0 ≤ v → v < n → 0 ≤ i' → ∃ w : Int, 0 ≤ w ∧ w < n ∧ v = w ∧ TP p a ns (h.set p (.lst [.ref a, .int i', .int r', .int t'])) ∧ Fr p h (h.set p (.lst [.ref a, .int i', .int r', .int t'])) ∧ (h.set p (.lst [.ref a, .int i', .int r', .int t'])).length = h.length :=
    fun v i' r' t' v0 vn i0 => ⟨v, v0, vn, rfl, ⟨ne, by rw [at_set_ne ne]; exact ha, i', r', t', i0, at_set hp⟩, (Fr.refl p h).set _, by simp⟩
  have w : wR (m_next [.ref p, .int n] h) (fun _ _ => False) (fun x h' => ∃ w : Int, 0 ≤ w ∧ w < n ∧ x = .int w ∧ TP p a ns h' ∧ Fr p h h' ∧ h'.length = h.length) := by
    unfold m_next
    refine wRB rfl ?_
    have mk' : ∀ (v i' r' t' : Int), 0 ≤ v → v < n → 0 ≤ i' → ∃ w : Int, 0 ≤ w ∧ w < n ∧ Val.int v = .int w ∧ TP p a ns (h.set p (.lst [.ref a, .int i', .int r', .int t'])) ∧ Fr p h (h.set p (.lst [.ref a, .int i', .int r', .int t'])) ∧ (h.set p (.lst [.ref a, .int i', .int r', .int t'])).length = h.length :=
      fun v i' r' t' v0 vn i0 => by obtain ⟨w, a, b, c, d⟩ := mk v i' r' t' v0 vn i0; exact ⟨w, a, b, by rw [c], d⟩
    generalize hQ : (fun (x : Val) (h' : Heap) => ∃ w : Int, 0 ≤ w ∧ w < n ∧ x = .int w ∧ TP p a ns h' ∧ Fr p h h' ∧ h'.length = h.length) = Q
    have mq : ∀ (v i' r' t' : Int), 0 ≤ v → v < n → 0 ≤ i' → Q (.int v) (h.set p (.lst [.ref a, .int i', .int r', .int t'])) := by rw [← hQ]; exact mk'
    by_cases hr : 0 < r
    · simp [hp, ha, hn, hn2, gV, hr, at_set hp]
      exact mq _ _ _ _ (md _).1 (md _).2 hi
    · by_cases hl : i < (ns.length : Int)
      · obtain ⟨z, hz⟩ : ∃ z, ns[i.toNat]? = some z := ⟨_, List.getElem?_eq_getElem (by omega)⟩
        by_cases hc : 1000000000000000000 ≤ (if z < 0 then -z else z)
        · simp [hp, ha, hn, hn2, gV, hr, at_set hp, hl, atI_nn hi, hz, cPow, hc]
          exact mq _ _ _ _ (md _).1 (md _).2 (by omega)
        · simp [hp, ha, hn, hn2, gV, hr, at_set hp, hl, atI_nn hi, hz, cPow, hc]
          exact mq _ _ _ _ (md _).1 (md _).2 (by omega)
      · simp [hp, ha, hn, hn2, gV, hr, at_set hp, hl, cPow]
        exact mq _ _ _ _ (md _).1 (md _).2 (by omega)
  obtain ⟨x, h', e, v, h1, h2, rfl, h3⟩ := ex_of_wR w
  exact ⟨v, h', h1, h2, e, h3⟩
def m_next2 : List Val → Heap → Res Val := runB 2 4
    (sSeq (sAsg (gV 2) (mB oIx (mV 0) (mK (.int 2))))
    (sSeq (sIf (tB_ (mB (oEq false) (mV 2) (mK (.int 0)))) (sSeq (sAsg (gV 3) (mK (.int 0)))
    (sSeq (sIf (tB_ (mB oLt (mB oIx (mV 0) (mK (.int 1))) (mL bLen (mCons (mB oIx (mV 0) (mK (.int 0))) (mNil))))) (sSeq (sAsg (gV 3) (mL bAbs (mCons (mL bInt (mCons (mB oIx (mB oIx (mV 0) (mK (.int 0))) (mB oIx (mV 0) (mK (.int 1)))) (mNil))) (mNil))))
    (sSub (mV 0) (mK (.int 1)) (mB oAdd (mB oIx (mV 0) (mK (.int 1))) (mK (.int 1))))) (sNx))
    (sSeq (sAsg (gV 2) (mV 3))
    (sIf (tB_ (mB oLt (mV 3) (mB oPw (mK (.int 10)) (mK (.int 18))))) (sSeq (sSub (mV 0) (mK (.int 3)) (mB oMd (mL bInt (mCons (mB oAdd (mB oAdd (mB oMul (mB oIx (mV 0) (mK (.int 3))) (mK (.int 69621))) (mB oMul (mV 3) (mK (.int 40692)))) (mK (.int 17))) (mNil))) (mK (.int 2147483647))))
    (sRet (mB oMd (mB oMd (mL bInt (mCons (mB oMul (mB oFd (mB oIx (mV 0) (mK (.int 3))) (mK (.int 5))) (mK (.int 48271))) (mNil))) (mK (.int 2147483647))) (mV 1)))) (sNx))))) (sNx))
    (sSeq (sSub (mV 0) (mK (.int 2)) (mB oFd (mV 2) (mV 1)))
    (sRet (mB oMd (mL bInt (mCons (mV 2) (mNil))) (mV 1))))))
theorem TP.next2 {f : List Val → Heap → Res Val} (hf : f = m_next2) {h : Heap} {p a : Nat} {ns : List Int} (T : TP p a ns h) {n : Int} (hn : 0 < n) (hn2 : n < 1073741824) :
    ∃ v h', 0 ≤ v ∧ v < n ∧ f [.ref p, .int n] h = .ok (.int v) h' ∧ TP p a ns h' ∧ Fr p h h' ∧ h'.length = h.length := by
  subst hf
  obtain ⟨ne, ha, i, r, t, hi, hp⟩ := T
  have md : ∀ x : Int, 0 ≤ x % n ∧ x % n < n := fun x => ⟨Int.emod_nonneg _ (by omega), Int.emod_lt_of_pos _ hn⟩
  have w : wR (m_next2 [.ref p, .int n] h) (fun _ _ => False) (fun x h' => ∃ w : Int, 0 ≤ w ∧ w < n ∧ x = .int w ∧ TP p a ns h' ∧ Fr p h h' ∧ h'.length = h.length) := by
    unfold m_next2
    refine wRB rfl ?_
    have mk' : ∀ (v i' r' t' : Int), 0 ≤ v → v < n → 0 ≤ i' → ∃ w : Int, 0 ≤ w ∧ w < n ∧ Val.int v = .int w ∧ TP p a ns (h.set p (.lst [.ref a, .int i', .int r', .int t'])) ∧ Fr p h (h.set p (.lst [.ref a, .int i', .int r', .int t'])) ∧ (h.set p (.lst [.ref a, .int i', .int r', .int t'])).length = h.length :=
      fun v i' r' t' v0 vn i0 => ⟨v, v0, vn, rfl, ⟨ne, by rw [at_set_ne ne]; exact ha, i', r', t', i0, at_set hp⟩, (Fr.refl p h).set _, by simp⟩
    generalize hQ : (fun (x : Val) (h' : Heap) => ∃ w : Int, 0 ≤ w ∧ w < n ∧ x = .int w ∧ TP p a ns h' ∧ Fr p h h' ∧ h'.length = h.length) = Q
    have mq : ∀ (v i' r' t' : Int), 0 ≤ v → v < n → 0 ≤ i' → Q (.int v) (h.set p (.lst [.ref a, .int i', .int r', .int t'])) := by rw [← hQ]; exact mk'
    by_cases hr : r = 0
    · subst hr
      by_cases hl : i < (ns.length : Int)
      · obtain ⟨z, hz⟩ : ∃ z, ns[i.toNat]? = some z := ⟨_, List.getElem?_eq_getElem (by omega)⟩
        by_cases hc : (if z < 0 then -z else z) < 1000000000000000000
        · simp [hp, ha, hn, hn2, gV, at_set hp, hl, atI_nn hi, hz, cPow, hc]
          exact mq _ _ _ _ (md _).1 (md _).2 (by omega)
        · simp [hp, ha, hn, hn2, gV, at_set hp, hl, atI_nn hi, hz, cPow, hc]
          exact mq _ _ _ _ (md _).1 (md _).2 (by omega)
      · simp [hp, ha, hn, hn2, gV, at_set hp, hl, cPow]
        exact mq _ _ _ _ (md _).1 (md _).2 (by omega)
    · simp [hp, ha, hn, hn2, gV, hr, at_set hp]
      exact mq _ _ _ _ (md _).1 (md _).2 hi
  obtain ⟨x, h', e, v, h1, h2, rfl, h3⟩ := ex_of_wR w
  exact ⟨v, h', h1, h2, e, h3⟩
/-- comprehensions whose items make new objects -/
theorem wR_lcX {chk : Heap → Bool} {tg : Val → En → Option En} {mt : En → Heap → Res Bool} {me : En → Heap → Res Val} {s0 : En} {E : Nat → Heap → Prop} {QU : Unit → Heap → Prop} {h : Heap} (p : Val → Bool) (f : Val → Val) {xs : List Val} (hl : xs.length < lim)
    (hc : ∀ h', Ext h h' → chk h' = true)
    (ht : ∀ x h', x ∈ xs → Ext h h' → ∃ s2, tg x s0 = some s2 ∧ wR (mt s2 h') (fun _ _ => False) (fun b h1 => b = p x ∧ Ext h' h1 ∧ (p x = true → wR (me s2 h1) (fun _ _ => False) fun y h2 => y = f x ∧ Ext h1 h2)))
    (q : ∀ h', Ext h h' → h'[h.length]? = some (.lst ((xs.filter p).map f)) → QU () h') : wR (lcM chk tg mt me s0 h.length xs (h ++ [.lst []])) E QU := by
  refine wR_lcM (fun i acc h' => i ≤ xs.length ∧ acc = ((xs.take i).filter p).map f ∧ Ext h h' ∧ h'[h.length]? = some (.lst acc)) xs 0 [] _ ⟨Nat.zero_le _, rfl, ⟨_, rfl⟩, at_len⟩ ?_ ?_
  · rintro i x acc h' _ hx ⟨hi, ea, ex, el⟩
    simp only [Nat.sub_zero] at hx
    have hlt : i < xs.length := (List.getElem?_eq_some_iff.mp hx).1
    obtain ⟨s2, e, w1⟩ := ht x h' (List.mem_of_getElem? hx) ex
    refine ⟨hc h' ex, s2, e, wR_mono w1 ?_⟩
    rintro b h1 ⟨rfl, x1, w2⟩
    have tk : xs.take (i + 1) = xs.take i ++ [x] := by
      rw [List.take_add_one, hx]
      rfl
    have al : acc.length < lim := by
      rw [ea, List.length_map]
      have := List.length_filter_le p (xs.take i)
      have := List.length_take_le i xs
      omega
    by_cases hp : p x = true
    · rw [if_pos hp]
      refine wR_mono (w2 hp) ?_
      rintro y h2 ⟨rfl, x2⟩
      refine ⟨x2.at (x1.at el), al, hlt, ?_, ((ex.trans x1).trans x2).set (Nat.le_refl _) _, at_set (x2.at (x1.at el))⟩
      rw [tk, List.filter_append, List.map_append, ← ea]
      simp [hp]
    · rw [if_neg hp]
      refine ⟨hlt, ?_, ex.trans x1, x1.at el⟩
      rw [tk, List.filter_append, List.map_append, ← ea]
      simp [hp]
  · rintro acc h' ⟨_, ea, ex, el⟩
    refine ⟨hc _ ex, q h' ex ?_⟩
    rw [el, ea, Nat.zero_add, List.take_length]
theorem wR_lcXm {chk : Heap → Bool} {tg : Val → En → Option En} {me : En → Heap → Res Val} {s0 : En} {E : Nat → Heap → Prop} {QU : Unit → Heap → Prop} {h : Heap} (f : Val → Val) {xs : List Val} (hl : xs.length < lim)
    (hc : ∀ h', Ext h h' → chk h' = true)
    (ht : ∀ x h', x ∈ xs → Ext h h' → ∃ s2, tg x s0 = some s2 ∧ wR (me s2 h') (fun _ _ => False) fun y h2 => y = f x ∧ Ext h' h2)
    (q : ∀ h', Ext h h' → h'[h.length]? = some (.lst (xs.map f)) → QU () h') : wR (lcM chk tg tTrue me s0 h.length xs (h ++ [.lst []])) E QU := by
  refine wR_lcX (fun _ => true) f hl hc (fun x h' hx ex => ?_) ?_
  · obtain ⟨s2, e, w⟩ := ht x h' hx ex
    exact ⟨s2, e, by rw [wR_tTrue]; exact ⟨rfl, Ext.refl _, fun _ => w⟩⟩
  · have : xs.filter (fun _ => true) = xs := List.filter_eq_self.mpr (fun _ _ => rfl)
    rw [this]
    exact q
theorem oEq_self {x : Val} {neg : Bool} {h : Heap} (hx : pl 60 x = true) : oEq neg x x h = .ok (.bl (!neg)) h := by
  rw [oEq_pl hx hx]; cases neg <;> simp
theorem optAll_bl {α : Type} (b : α → Bool) (xs : List α) : optAll asBl (xs.map fun x => Val.bl (b x)) = some (xs.map b) := optAll_map (f := asBl) (g := fun x => Val.bl (b x)) (k := b) (fun _ => rfl) xs
theorem optAll_int {α : Type} (b : α → Int) (xs : List α) : optAll asInt (xs.map fun x => Val.int (b x)) = some (xs.map b) := optAll_map (f := asInt) (g := fun x => Val.int (b x)) (k := b) (fun _ => rfl) xs
/-! bits -/
theorem band (a b : Nat) : PySem.Builtin.bitAnd (a : Int) (b : Int) = ((a &&& b : Nat) : Int) := by
  rw [PyProof.Rows.bitAnd_pp (by omega) (by omega)]; simp
theorem bor (a b : Nat) : PySem.Builtin.bitOr (a : Int) (b : Int) = ((a ||| b : Nat) : Int) := by
  rw [Bits.bitOr_pp (by omega) (by omega)]; simp
theorem bxor (a b : Nat) : PySem.Builtin.bitXor (a : Int) (b : Int) = ((a ^^^ b : Nat) : Int) := by
  rw [Bits.bitXor_pp (by omega) (by omega)]; simp
theorem bit_eq (m b : Nat) : ((m : Int) / 2 ^ b) % 2 = if m.testBit b then 1 else 0 := by
  rw [Nat.testBit_eq_decide_div_mod_eq]
  have e : ((m : Int) / 2 ^ b) % 2 = ((m / 2 ^ b % 2 : Nat) : Int) := by simp
  rw [e]
  have := Nat.mod_two_eq_zero_or_one (m / 2 ^ b)
  rcases this with q | q <;> simp [q]
theorem wS_mono' {x : RS} {D D' : K4} (w : wS x D) (n : ∀ s h, D.nx s h → D'.nx s h) (r : ∀ v h, D.rt v h → D'.rt v h) (b : D.bk = fun _ _ => False) (c : D.ct = fun _ _ => False) (e : D.ex = fun _ _ => False) : wS x D' := by
  refine wS_mono w n r ?_ ?_ ?_
  · rw [b]; exact fun _ _ q => q.elim
  · rw [c]; exact fun _ _ q => q.elim
  · rw [e]; exact fun _ _ q => q.elim
/-- .. the items told by their place -/
theorem wR_lcXi {chk : Heap → Bool} {tg : Val → En → Option En} {me : En → Heap → Res Val} {s0 : En} {E : Nat → Heap → Prop} {QU : Unit → Heap → Prop} {h : Heap} (f : Nat → Val) {xs : List Val} (hl : xs.length < lim)
    (hc : ∀ h', Ext h h' → chk h' = true)
    (ht : ∀ i x h', xs[i]? = some x → Ext h h' → ∃ s2, tg x s0 = some s2 ∧ wR (me s2 h') (fun _ _ => False) fun y h2 => y = f i ∧ Ext h' h2)
    (q : ∀ h', Ext h h' → h'[h.length]? = some (.lst ((List.range xs.length).map f)) → QU () h') : wR (lcM chk tg tTrue me s0 h.length xs (h ++ [.lst []])) E QU := by
  refine wR_lcM (fun i acc h' => i ≤ xs.length ∧ acc = (List.range i).map f ∧ Ext h h' ∧ h'[h.length]? = some (.lst acc)) xs 0 [] _ ⟨Nat.zero_le _, rfl, ⟨_, rfl⟩, at_len⟩ ?_ ?_
  · rintro i x acc h' _ hx ⟨hi, ea, ex, el⟩
    simp only [Nat.sub_zero] at hx
    have hlt : i < xs.length := (List.getElem?_eq_some_iff.mp hx).1
    obtain ⟨s2, e, w1⟩ := ht i x h' hx ex
    refine ⟨hc h' ex, s2, e, ?_⟩
    rw [wR_tTrue, if_pos rfl]
    refine wR_mono w1 ?_
    rintro y h2 ⟨rfl, x2⟩
    have al : acc.length < lim := by
      rw [ea, List.length_map, List.length_range]
      omega
    refine ⟨x2.at el, al, hlt, ?_, (ex.trans x2).set (Nat.le_refl _) _, at_set (x2.at el)⟩
    rw [ea, List.range_succ, List.map_append]
    rfl
  · rintro acc h' ⟨_, ea, ex, el⟩
    refine ⟨hc _ ex, q h' ex ?_⟩
    rw [el, ea, Nat.zero_add]
theorem lookV_put {d : List (Val × Val)} {k v j : Val} : lookV (putV d k v) j = if j = k then some v else lookV d j := by
  unfold putV
  split
  · rename_i h
    induction d with
    | nil => simp at h
    | cons a d ih =>
      obtain ⟨a1, a2⟩ := a
      by_cases e1 : a1 = k
      · subst e1
        by_cases e2 : j = a1
        · subst e2; simp [lookV]
        · have hd : ∀ d : List (Val × Val), List.find? (fun kv => decide (kv.1 = j)) (d.map fun kv => if kv.1 = a1 then (kv.1, v) else kv) = List.find? (fun kv => decide (kv.1 = j)) d := by
            intro d
            induction d with
            | nil => rfl
            | cons b d ih2 =>
              obtain ⟨b1, b2⟩ := b
              by_cases e3 : b1 = a1
              · subst e3
                have hn : ¬ b1 = j := Ne.symm e2
                rw [List.map_cons, if_pos rfl, List.find?_cons, List.find?_cons]
                simp only [hn, decide_false]
                exact ih2
              · by_cases e4 : b1 = j
                · rw [List.map_cons, if_neg e3, List.find?_cons, List.find?_cons]
                  simp only [e4, decide_true]
                · rw [List.map_cons, if_neg e3, List.find?_cons, List.find?_cons]
                  simp only [e4, decide_false]
                  exact ih2
          simp only [lookV]
          rw [hd]
          rw [if_neg e2]
      · have h' : (d.any fun kv => decide (kv.1 = k)) = true := by simpa [e1] using h
        have := ih h'
        by_cases e2 : a1 = j
        · subst e2
          simp [lookV, e1]
        · simp only [lookV, List.map_cons, if_neg e1, List.find?_cons, e2, decide_false] at this ⊢
          exact this
  · rename_i h
    have hn : List.find? (fun kv : Val × Val => decide (kv.1 = k)) d = none := by
      rw [List.find?_eq_none]
      intro x hx hk
      exact h (List.any_eq_true.mpr ⟨x, hx, hk⟩)
    by_cases e2 : j = k
    · subst e2
      simp [lookV, hn]
    · rw [if_neg e2]
      unfold lookV
      rw [List.find?_append]
      simp [Ne.symm e2]
theorem putV_len {d : List (Val × Val)} {k v : Val} : (putV d k v).length ≤ d.length + 1 := by
  unfold putV; split <;> simp
section
variable {E : Nat → Heap → Prop} {Q : Val → Heap → Prop} {h : Heap} {neg : Bool} {x : Val}
@[simp ↓] theorem wR_bMin2 {i j : Int} : wR (bMin2 [.int i, .int j] h) E Q = Q (.int (if j < i then j else i)) h := rfl
@[simp ↓] theorem wR_bMax2 {i j : Int} : wR (bMax2 [.int i, .int j] h) E Q = Q (.int (if j > i then j else i)) h := rfl
theorem oIn_dct {a : Nat} {d : List (Val × Val)} (e : h[a]? = some (.dct d)) (hk : isKey x = true) : oIn neg x (.ref a) h = .ok (.bl (if neg then !(lookV d x).isSome else (lookV d x).isSome)) h := by
  unfold oIn; simp only [e, hk, if_true]
theorem oIn_tup {ys : List Val} (hx : isFlat x = true) (hy : ys.all isFlat = true) : oIn neg x (.tup ys) h = .ok (.bl (if neg then !(ys.any fun z => feq z x) else ys.any fun z => feq z x)) h := by
  unfold oIn; simp only [hx, hy, and_self, if_true]
theorem any_pl (hx : pl 60 x = true) : ∀ ys : List Val, ys.all (pl 59) = true → ((Val.ds ys).any fun z => deq z x.d) = decide (x ∈ ys)
  | [], _ => rfl
  | y :: ys, hy => by
    rw [List.all_cons, Bool.and_eq_true] at hy
    simp only [Val.ds, List.any_cons]
    rw [any_pl hx ys hy.2, deq_pl y x 59 60 hy.1 hx]
    by_cases q : x = y
    · simp [q]
    · simp [q, Ne.symm q]
theorem oIn_pl {a : Nat} {ys : List Val} (e : h[a]? = some (.lst ys)) (hx : pl 60 x = true) (hy : ys.all (pl 59) = true) : oIn neg x (.ref a) h = .ok (.bl (if neg then !decide (x ∈ ys) else decide (x ∈ ys))) h := by
  have e1 : inSeq x h ys = some (decide (x ∈ ys)) := by
    unfold inSeq
    rw [conv_pl 60 x hx, optAll_ds (fun y hy' => conv_pl 59 y (List.all_eq_true.mp hy y hy'))]
    exact congrArg some (any_pl hx ys hy)
  unfold oIn
  simp only [e, e1]
end
theorem cut_both {a b : Nat} (xs : List Val) : cut xs (some (a : Int)) (some (b : Int)) = (xs.take b).drop a := by
  unfold cut
  rw [HT.sIx_nat, HT.sIx_nat, List.drop_take]
  by_cases ha : a ≤ xs.length
  · have e1 : min a xs.length = a := by omega
    rw [e1]
    by_cases hb : b ≤ xs.length
    · rw [show min b xs.length = b by omega]
    · rw [show min b xs.length = xs.length by omega, List.take_of_length_le (by simp), List.take_of_length_le (by simp; omega)]
  · have e1 : min a xs.length = xs.length := by omega
    rw [e1, List.drop_of_length_le (Nat.le_refl _), List.drop_of_length_le (show xs.length ≤ a by omega)]
    simp
theorem cut_to {b : Nat} (xs : List Val) : cut xs none (some (b : Int)) = xs.take b := by
  unfold cut
  rw [HT.sIx_none, HT.sIx_nat]
  by_cases hb : b ≤ xs.length
  · rw [Nat.min_eq_left hb]; simp
  · rw [Nat.min_eq_right (by omega)]
    simp
    rw [List.take_of_length_le (by omega)]
theorem bAll_map {α : Type} {a : Nat} {h : Heap} {xs : List α} {b : α → Bool} (e : h[a]? = some (.lst (xs.map fun x => .bl (b x)))) : bAll [.ref a] h = .ok (.bl (xs.all b)) h := by
  refine eq_of_wR ?_
  rw [wR_bAll]
  simp only [seqOf_at e, optAll_bl]
  simp [List.all_map]
theorem bAny_map {α : Type} {a : Nat} {h : Heap} {xs : List α} {b : α → Bool} (e : h[a]? = some (.lst (xs.map fun x => .bl (b x)))) : bAny [.ref a] h = .ok (.bl (xs.any b)) h := by
  refine eq_of_wR ?_
  rw [wR_bAny]
  simp only [seqOf_at e, optAll_bl]
  simp [List.any_map]
theorem Fr.ext {p : Nat} {h h' : Heap} (x : Fr p h h') (hp : h.length ≤ p) : Ext h h' := by
  refine ⟨h'.drop h.length, ?_⟩
  apply List.ext_getElem?
  intro q
  by_cases hq : q < h.length
  · rw [List.getElem?_append_left hq, x.2 q (by omega) hq]
  · rw [List.getElem?_append_right (by omega), List.getElem?_drop]
    congr 1
    omega
theorem Fr.base {p : Nat} {h h1 h' : Heap} (x : Ext h h1) (y : Fr p h1 h') (hp : h.length ≤ p) : Ext h h' := ((x.fr p).trans y).ext hp
section
variable {E : Nat → Heap → Prop} {Q : Val → Heap → Prop} {h : Heap} {a : Nat} {i : Int}
theorem bPopAt_ok {ys : List Val} (e : h[a]? = some (.lst ys)) (h0 : 0 ≤ i) (h1 : i < ys.length) (h2 : i < 2 ^ 63) {y : Val} (hy : ys[i.toNat]? = some y) : bPopAt (.ref a) [.int i] h = .ok y (h.set a (.lst (ys.eraseIdx i.toNat))) := by
  have e1 : L2.ixN ys.length i = some i.toNat := by rw [ixN_nn h0, if_pos (by omega)]
  have c : -(2 ^ 63) ≤ i ∧ i < 2 ^ 63 := ⟨by omega, h2⟩
  unfold bPopAt
  simp only [e, if_pos c]
  rw [e1]
  simp only [hy]
end
theorem wR_iAltE {m : En → Heap → Res Val} {n : MI} {s : En} {h h1 : Heap} {a : Nat} {xs : List Val} {E : Nat → Heap → Prop} {Q : Src → Heap → Prop} (e : m s h = .ok (.ref a) h1) (el : h1[a]? = some (.lst xs)) (q : Q ⟨xs, lstIs a xs⟩ h1) : wR (iAlt (iLst m) n s h) E Q := by
  refine wR_iAlt (.inl ?_)
  rw [wR_iLst, e]
  simp only [wR_ok, el]
  exact q
end PyM

set_option Elab.async false
set_option linter.all false
set_option autoImplicit false
set_option maxHeartbeats 4000000
/-! frames over lists of places; comprehensions that use the tape -/
namespace PyM
/-- a comprehension whose items use the tape -/
theorem wR_lcT {chk : Heap → Bool} {tg : Val → En → Option En} {me : En → Heap → Res Val} {s0 : En} {E : Nat → Heap → Prop} {QU : Unit → Heap → Prop} {h : Heap} {p a : Nat} {ns : List Int} (T : TP p a ns h) (R : Val → Prop) {xs : List Val} (hl : xs.length < lim)
    (hc : ∀ h', Fr p h h' → chk h' = true)
    (ht : ∀ x h', x ∈ xs → TP p a ns h' → Fr p h h' → ∃ s2, tg x s0 = some s2 ∧ wR (me s2 h') (fun _ _ => False) fun y h2 => R y ∧ TP p a ns h2 ∧ Fr p h' h2)
    (q : ∀ ys h', ys.length = xs.length → (∀ y ∈ ys, R y) → TP p a ns h' → Fr p h h' → h'[h.length]? = some (.lst ys) → QU () h') : wR (lcM chk tg tTrue me s0 h.length xs (h ++ [.lst []])) E QU := by
  have lp := T.lt
  refine wR_lcM (fun i acc h' => i ≤ xs.length ∧ acc.length = i ∧ (∀ y ∈ acc, R y) ∧ TP p a ns h' ∧ Fr p h h' ∧ h'[h.length]? = some (.lst acc)) xs 0 [] _ ⟨Nat.zero_le _, rfl, by simp, T.push _, Ext.fr ⟨_, rfl⟩ p, at_len⟩ ?_ ?_
  · rintro i x acc h' _ hx ⟨hi, ea, hR, T', f', el⟩
    simp only [Nat.sub_zero] at hx
    have hlt : i < xs.length := (List.getElem?_eq_some_iff.mp hx).1
    obtain ⟨s2, e, w1⟩ := ht x h' (List.mem_of_getElem? hx) T' f'
    refine ⟨hc h' f', s2, e, ?_⟩
    rw [wR_tTrue, if_pos rfl]
    refine wR_mono w1 ?_
    rintro y h2 ⟨hy, T2, f2⟩
    have el2 := f2.at (show h.length ≠ p by omega) el
    refine ⟨el2, by omega, hlt, by simp [ea], fun z hz => ?_, T2.set (by omega) (by omega) _, (f'.trans f2).new (Nat.le_refl _) _, at_set el2⟩
    rcases List.mem_append.mp hz with hz | hz
    · exact hR z hz
    · rw [List.mem_singleton.mp hz]; exact hy
  · rintro acc h' ⟨_, ea, hR, T', f', el⟩
    exact ⟨hc _ f', q acc h' (by omega) hR T' f' el⟩
/-- at most the places of S have changed; there may be more objects -/
def Fs (S : List Nat) (h h' : Heap) : Prop := h.length ≤ h'.length ∧ ∀ q, q ∉ S → q < h.length → h'[q]? = h[q]?
theorem Fs.refl (S : List Nat) (h : Heap) : Fs S h h := ⟨Nat.le_refl _, fun _ _ _ => rfl⟩
theorem Fs.trans {S : List Nat} {a b c : Heap} (x : Fs S a b) (y : Fs S b c) : Fs S a c := ⟨Nat.le_trans x.1 y.1, fun q h1 h2 => by rw [y.2 q h1 (Nat.lt_of_lt_of_le h2 x.1), x.2 q h1 h2]⟩
theorem Fs.mono {S S' : List Nat} {a b : Heap} (x : Fs S a b) (s : ∀ q, q ∈ S → q ∈ S') : Fs S' a b := ⟨x.1, fun q h1 h2 => x.2 q (fun m => h1 (s q m)) h2⟩
theorem Ext.fs {a b : Heap} (x : Ext a b) (S : List Nat) : Fs S a b := by
  obtain ⟨g, rfl⟩ := x
  exact ⟨by simp, fun q _ h2 => List.getElem?_append_left h2⟩
theorem Fr.fs {p : Nat} {a b : Heap} (x : Fr p a b) {S : List Nat} (hp : p ∈ S) : Fs S a b := ⟨x.1, fun q h1 h2 => x.2 q (fun e => h1 (e ▸ hp)) h2⟩
theorem Fs.fr {p : Nat} {a b : Heap} (x : Fs [p] a b) : Fr p a b := ⟨x.1, fun q h1 h2 => x.2 q (by simpa using h1) h2⟩
theorem Fs.at {S : List Nat} {h h' : Heap} (x : Fs S h h') {q : Nat} {o : Obj} (hq : q ∉ S) (e : h[q]? = some o) : h'[q]? = some o := by
  rw [x.2 q hq (List.getElem?_eq_some_iff.mp e).1]; exact e
theorem Fs.set {S : List Nat} {h h' : Heap} (x : Fs S h h') {p : Nat} (hp : p ∈ S) (o : Obj) : Fs S h (h'.set p o) :=
  ⟨by rw [List.length_set]; exact x.1, fun q h1 h2 => by rw [at_set_ne (show p ≠ q from fun e => h1 (e ▸ hp))]; exact x.2 q h1 h2⟩
theorem Fs.push {S : List Nat} {h h' : Heap} (x : Fs S h h') (g : Heap) : Fs S h (h' ++ g) := x.trans (Ext.fs ⟨g, rfl⟩ S)
theorem Fs.new {S : List Nat} {h h' : Heap} (x : Fs S h h') {q : Nat} (hq : h.length ≤ q) (o : Obj) : Fs S h (h'.set q o) :=
  ⟨by rw [List.length_set]; exact x.1, fun r h1 h2 => by rw [at_set_ne (by omega)]; exact x.2 r h1 h2⟩
theorem Fs.le {S : List Nat} {h h' : Heap} (x : Fs S h h') : h.length ≤ h'.length := x.1
theorem TP.fs {p a : Nat} {S : List Nat} {ns : List Int} {h h' : Heap} (T : TP p a ns h) (x : Fs S h h') (h1 : p ∉ S) (h2 : a ∉ S) : TP p a ns h' := by
  obtain ⟨ne, T, i, r, t, i0, e⟩ := T
  exact ⟨ne, x.at h2 T, i, r, t, i0, x.at h1 e⟩
/-- frames over younger places close -/
theorem Fs.base {S : List Nat} {h h1 h' : Heap} (x : Ext h h1) (y : Fs S h1 h') (hS : ∀ q, q ∈ S → h.length ≤ q) : Ext h h' := by
  have z := (x.fs S).trans y
  refine ⟨h'.drop h.length, ?_⟩
  apply List.ext_getElem?
  intro q
  by_cases hq : q < h.length
  · rw [List.getElem?_append_left hq, z.2 q (fun m => by have := hS q m; omega) hq]
  · rw [List.getElem?_append_right (by omega), List.getElem?_drop]
    congr 1
    omega
theorem raised_of_wR {α : Type} {x : Res α} {P : Nat → Heap → Prop} (w : wR x P (fun _ _ => False)) : ∃ c h, x = .raised c h ∧ P c h := by
  cases x with
  | raised c h => exact ⟨c, h, rfl, w⟩
  | ok a h => exact w.elim
  | stuck => exact w.elim
@[simp ↓] theorem wR_iTup {m : En → Heap → Res Val} {s : En} {h : Heap} {E : Nat → Heap → Prop} {Q : Src → Heap → Prop} : wR (iTup_ m s h) E Q = wR (m s h) E fun x h1 => (match x with
    | .tup xs => Q ⟨xs, fun _ => true⟩ h1
    | _ => False) := by
  unfold iTup_
  simp only [wR_bind]
  congr; funext x h1
  split <;> simp_all
@[simp ↓] theorem wR_mAlt {a b : En → Heap → Res Val} {s : En} {h : Heap} {E : Nat → Heap → Prop} {Q : Val → Heap → Prop} : wR (mAlt a b s h) E Q = (match a s h with | .stuck => wR (b s h) E Q | x => wR x E Q) := by
  unfold mAlt
  cases a s h <;> rfl
theorem fix_pl {x : Val} (hx : pl 60 x = true) : ∀ {ys : List Val}, ys.all (pl 59) = true → x ∈ ys → fix x.d (Val.ds ys) = some (ys.idxOf x)
  | [], _, hm => by cases hm
  | y :: ys, hy, hm => by
    rw [List.all_cons, Bool.and_eq_true] at hy
    simp only [Val.ds, fix]
    rw [deq_pl y x 59 60 hy.1 hx]
    by_cases e : y = x
    · subst e; simp
    · have e' : ¬ (y == x) = true := by simpa using e
      rw [List.idxOf_cons, if_neg (by simpa using e)]
      have hm' : x ∈ ys := by
        rcases List.mem_cons.mp hm with q | q
        · exact absurd q.symm e
        · exact q
      simp only [fix_pl hx hy.2 hm', beq_eq_false_iff_ne.mpr e]
      rfl
theorem bIndex_pl {x : Val} {ys : List Val} {h : Heap} {a : Nat} (ea : h[a]? = some (.lst ys)) (hx : pl 60 x = true) (hy : ys.all (pl 59) = true) (hm : x ∈ ys) : bIndex (.ref a) [x] h = .ok (.int (ys.idxOf x : Nat)) h := by
  unfold bIndex
  simp only [ea]
  rw [conv_pl 60 x hx, optAll_ds (fun y hy' => conv_pl 59 y (List.all_eq_true.mp hy y hy'))]
  simp only [fix_pl hx hy hm]
end PyM
namespace PyM
section
variable {E : Nat → Heap → Prop} {Q : Val → Heap → Prop} {h : Heap} {D : K4} {s : En}
@[simp ↓] theorem wR_kIn {neg : Bool} {l : List (Nat × Val)} {n : Nat} : wR (kIn neg l (.str n) h) E Q = Q (.bl (if neg then !(lkN l n).isSome else (lkN l n).isSome)) h := rfl
@[simp ↓] theorem wR_kIx {l : List (Nat × Val)} {n : Nat} : wR (kIx l (.str n) h) E Q = (match lkN l n with | some v => Q v h | none => False) := by
  unfold kIx; simp only; split <;> simp_all
@[simp ↓] theorem wR_kGet {l : List (Nat × Val)} {n : Nat} {y : Val} : wR (kGet l (.str n) y h) E Q = Q ((lkN l n).getD y) h := rfl
@[simp ↓] theorem wR_oIxS {tbl : List (Nat × List Nat)} {n : Nat} {i : Int} : wR (oIxS tbl (.str n) (.int i) h) E Q = (match lkS tbl n with | some l => (match L2.atI l i with | some c => Q (.str c) h | none => False) | none => False) := by
  unfold oIxS; simp only; split
  · split <;> simp_all
  · simp_all
@[simp ↓] theorem wR_bLenS {tbl : List (Nat × List Nat)} {n : Nat} : wR (bLenS tbl [.str n] h) E Q = (match lkS tbl n with | some l => Q (.int l.length) h | none => False) := by
  unfold bLenS; simp only; split <;> simp_all
@[simp ↓] theorem wS_sPar2 {i j : Nat} {mA : En → Heap → Res (List Val)} : wS (sPar2 i j mA s h) D = wR (mA s h) D.ex fun xs h1 => (match xs with | [x, y] => D.nx ((s.set i (some x)).set j (some y)) h1 | _ => False) := by
  unfold sPar2; simp only [wS_thenS]; congr; funext xs h1; split <;> simp_all
@[simp ↓] theorem wS_sPar3 {i j l : Nat} {mA : En → Heap → Res (List Val)} : wS (sPar3 i j l mA s h) D = wR (mA s h) D.ex fun xs h1 => (match xs with | [x, y, z] => D.nx (((s.set i (some x)).set j (some y)).set l (some z)) h1 | _ => False) := by
  unfold sPar3; simp only [wS_thenS]; congr; funext xs h1; split <;> simp_all
end
mutual
theorem deq_refl : ∀ d : D, deq d d = true
  | .non => by simp [deq]
  | .bl b => by simp [deq]
  | .int i => by simp [deq]
  | .str n => by simp [deq]
  | .tup xs => by simp only [deq]; exact deqs_refl xs
  | .lst xs => by simp only [deq]; exact deqs_refl xs
theorem deqs_refl : ∀ ds : List D, deqs ds ds = true
  | [] => by simp [deqs]
  | d :: ds => by simp [deqs, deq_refl d, deqs_refl ds]
end
theorem oEq_conv {x y : Val} {h : Heap} {neg : Bool} {d : D} (hx : conv 60 h x = some d) (hy : conv 60 h y = some d) : oEq neg x y h = .ok (.bl (!neg)) h := by
  unfold oEq
  rw [hx, hy]
  simp only [deq_refl]
  cases neg <;> rfl
theorem pl_up {x : Val} : ∀ {n m : Nat}, n ≤ m → pl n x = true → pl m x = true := by
  intro n
  induction n generalizing x with
  | zero => intro m _ e; simp [pl] at e
  | succ n ih =>
    intro m hm e
    obtain ⟨m, rfl⟩ : ∃ k, m = k + 1 := ⟨m - 1, by omega⟩
    cases x with
    | tup xs =>
      simp only [pl, List.all_eq_true] at e ⊢
      exact fun y hy => ih (by omega) (e y hy)
    | bl b => simp [pl] at e
    | ref b => simp [pl] at e
    | _ => rfl
theorem pl_tup {n : Nat} {xs : List Val} (h : ∀ x ∈ xs, pl n x = true) : pl (n + 1) (.tup xs) = true := by
  show xs.all (pl n) = true
  exact List.all_eq_true.mpr h
end PyM

set_option Elab.async false
set_option linter.all false
set_option autoImplicit false
set_option maxHeartbeats 4000000
/-! heaps as lists of places and what stands there, with a frame; wishes for the rules of dicts -/
namespace PyM
abbrev Nodes := List (Nat × Obj)
structure On (l : Nodes) (h : Heap) : Prop where
  nd : (l.map (·.1)).Nodup
  at_ : ∀ p ∈ l, h[p.1]? = some p.2
theorem On.get {l : Nodes} {h : Heap} (o : On l h) {i a : Nat} {x : Obj} (e : l[i]? = some (a, x)) : h[a]? = some x := o.at_ _ (List.mem_of_getElem? e)
theorem On.ext {l : Nodes} {h h' : Heap} (o : On l h) (x : Ext h h') : On l h' := ⟨o.nd, fun p hp => x.at (o.at_ p hp)⟩
theorem On.perm {l l' : Nodes} {h : Heap} (o : On l h) (p : l.Perm l') : On l' h := ⟨(p.map _).nodup_iff.mp o.nd, fun q hq => o.at_ q (p.mem_iff.mpr hq)⟩
theorem On.sub {l l' : Nodes} {h : Heap} (o : On (l ++ l') h) : On l h := ⟨by
  have := o.nd
  rw [List.map_append] at this
  exact (List.nodup_append.mp this).1, fun q hq => o.at_ q (List.mem_append_left _ hq)⟩
theorem On.sub2 {l l' : Nodes} {h : Heap} (o : On (l ++ l') h) : On l' h := (o.perm List.perm_append_comm).sub
theorem On.drop1 {p : Nat × Obj} {l : Nodes} {h : Heap} (o : On (p :: l) h) : On l h := On.sub2 (l := [p]) o
theorem On.lt {l : Nodes} {h : Heap} (o : On l h) {p : Nat × Obj} (hp : p ∈ l) : p.1 < h.length := at_lt (o.at_ p hp)
theorem On.ne {l : Nodes} {h : Heap} (o : On l h) {i j a b : Nat} {x y : Obj} (ei : l[i]? = some (a, x)) (ej : l[j]? = some (b, y)) (hij : i ≠ j) : a ≠ b := fun e => by
  subst e
  have h1 : (l.map (·.1))[i]? = some a := by rw [List.getElem?_map, ei]; rfl
  have h2 : (l.map (·.1))[j]? = some a := by rw [List.getElem?_map, ej]; rfl
  obtain ⟨l1, e1⟩ := List.getElem?_eq_some_iff.mp h1
  obtain ⟨l2, e2⟩ := List.getElem?_eq_some_iff.mp h2
  exact hij ((List.getElem_inj o.nd).mp (e1.trans e2.symm))
/-- one place is written -/
theorem On.set {l : Nodes} {h : Heap} (o : On l h) {i a : Nat} {x : Obj} (e : l[i]? = some (a, x)) (y : Obj) : On (l.set i (a, y)) (h.set a y) := by
  refine ⟨?_, fun p hp => ?_⟩
  · have : (l.set i (a, y)).map (·.1) = l.map (·.1) := by
      apply List.ext_getElem?
      intro j
      rw [List.getElem?_map, List.getElem?_map, List.getElem?_set]
      split
      · rename_i hj
        subst hj
        split
        · rw [e]; rfl
        · rename_i hl
          rw [List.getElem?_eq_none (by omega)]
      · rfl
    rw [this]
    exact o.nd
  · obtain ⟨j, hj⟩ := List.mem_iff_getElem?.mp hp
    rw [List.getElem?_set] at hj
    split at hj
    · split at hj
      · cases hj
        exact at_set (o.get e)
      · cases hj
    · rename_i hij
      obtain ⟨b, z⟩ := p
      show (h.set a y)[b]? = some z
      rw [at_set_ne (o.ne e hj hij)]
      exact o.get hj
theorem nodup_set {α : Type} : ∀ {l : List α} {x : α}, l.Nodup → x ∉ l → ∀ i, (l.set i x).Nodup
  | [], _, _, _, _ => by simp
  | y :: l, x, n, hx, 0 => by
    rw [List.set_cons_zero, List.nodup_cons]
    exact ⟨fun h => hx (List.mem_cons_of_mem _ h), (List.nodup_cons.mp n).2⟩
  | y :: l, x, n, hx, i + 1 => by
    rw [List.set_cons_succ, List.nodup_cons]
    have n' := List.nodup_cons.mp n
    refine ⟨fun h => ?_, nodup_set n'.2 (fun h => hx (List.mem_cons_of_mem _ h)) i⟩
    rcases List.mem_or_eq_of_mem_set h with h | h
    · exact n'.1 h
    · exact hx (by rw [← h]; exact List.mem_cons_self)
/-- another place in the stead of one -/
theorem On.repl {l : Nodes} {h : Heap} (o : On l h) {i a a' : Nat} {x y : Obj} (e : l[i]? = some (a, x)) (ea : h[a']? = some y) (hn : ∀ p ∈ l, p.1 ≠ a') : On (l.set i (a', y)) h := by
  refine ⟨?_, fun p hp => ?_⟩
  · rw [List.map_set]
    have hm : a' ∉ l.map (·.1) := fun hm => by
      obtain ⟨p, hp, q⟩ := List.mem_map.mp hm
      exact hn p hp q
    exact nodup_set o.nd hm _
  · rcases List.mem_or_eq_of_mem_set hp with hp | rfl
    · exact o.at_ p hp
    · exact ea
/-- a new place -/
theorem On.new {l : Nodes} {h : Heap} (o : On l h) (x : Obj) : On ((h.length, x) :: l) (h ++ [x]) := by
  refine ⟨?_, fun p hp => ?_⟩
  · rw [List.map_cons, List.nodup_cons]
    refine ⟨fun hm => ?_, o.nd⟩
    obtain ⟨p, hp, e⟩ := List.mem_map.mp hm
    have := o.lt hp
    have e' : p.1 = h.length := e
    omega
  · rcases List.mem_cons.mp hp with rfl | hp
    · exact at_len
    · exact at_push (o.at_ p hp)
theorem On.newAt {l : Nodes} {h h0 : Heap} (o : On l h) {a : Nat} {x : Obj} (ea : h[a]? = some x) (hl : ∀ p ∈ l, p.1 < h0.length) (ha : h0.length ≤ a) : On ((a, x) :: l) h := by
  refine ⟨?_, fun p hp => ?_⟩
  · rw [List.map_cons, List.nodup_cons]
    refine ⟨fun hm => ?_, o.nd⟩
    obtain ⟨p, hp, e⟩ := List.mem_map.mp hm
    have := hl p hp
    have e' : p.1 = a := e
    omega
  · rcases List.mem_cons.mp hp with rfl | hp
    · exact ea
    · exact o.at_ p hp
/-- with the tape -/
structure Tn (p a : Nat) (ns : List Int) (l : Nodes) (h : Heap) : Prop where
  k : ∃ i r t, 0 ≤ i ∧ On ((p, .lst [.ref a, .int i, .int r, .int t]) :: (a, .lst (ns.map Val.int)) :: l) h
theorem Tn.on {p a : Nat} {ns : List Int} {l : Nodes} {h : Heap} (T : Tn p a ns l h) : On l h := by
  obtain ⟨i, r, t, _, o⟩ := T.k
  exact o.drop1.drop1
theorem Tn.ext {p a : Nat} {ns : List Int} {l : Nodes} {h h' : Heap} (T : Tn p a ns l h) (x : Ext h h') : Tn p a ns l h' := by
  obtain ⟨i, r, t, i0, o⟩ := T.k
  exact ⟨i, r, t, i0, o.ext x⟩
theorem Tn.perm {p a : Nat} {ns : List Int} {l l' : Nodes} {h : Heap} (T : Tn p a ns l h) (q : l.Perm l') : Tn p a ns l' h := by
  obtain ⟨i, r, t, i0, o⟩ := T.k
  exact ⟨i, r, t, i0, o.perm ((q.cons _).cons _)⟩
theorem Tn.tp {p a : Nat} {ns : List Int} {l : Nodes} {h : Heap} (T : Tn p a ns l h) : TP p a ns h := by
  obtain ⟨i, r, t, i0, o⟩ := T.k
  exact ⟨o.ne (i := 0) (j := 1) rfl rfl (by decide), o.get (i := 1) rfl, i, r, t, i0, o.get (i := 0) rfl⟩
theorem Tn.nep {p a : Nat} {ns : List Int} {l : Nodes} {h : Heap} (T : Tn p a ns l h) {q : Nat × Obj} (hq : q ∈ l) : q.1 ≠ p ∧ q.1 ≠ a := by
  obtain ⟨i, r, t, i0, o⟩ := T.k
  obtain ⟨j, hj⟩ := List.mem_iff_getElem?.mp hq
  obtain ⟨b, z⟩ := q
  exact ⟨o.ne (i := j + 2) (j := 0) (by simpa using hj) rfl (by omega), o.ne (i := j + 2) (j := 1) (by simpa using hj) rfl (by omega)⟩
theorem Tn.of {p a : Nat} {ns : List Int} {l : Nodes} {h : Heap} (T : TP p a ns h) (o : On l h) (n : ∀ q ∈ l, q.1 ≠ p ∧ q.1 ≠ a) : Tn p a ns l h := by
  obtain ⟨ne, ha, i, r, t, i0, hp⟩ := T
  refine ⟨i, r, t, i0, ?_, fun q hq => ?_⟩
  · rw [List.map_cons, List.map_cons, List.nodup_cons, List.nodup_cons]
    refine ⟨fun hm => ?_, fun hm => ?_, o.nd⟩
    · rcases List.mem_cons.mp hm with e | hm
      · exact ne e
      · obtain ⟨q, hq, e⟩ := List.mem_map.mp hm
        exact (n q hq).1 e
    · obtain ⟨q, hq, e⟩ := List.mem_map.mp hm
      exact (n q hq).2 e
  · rcases List.mem_cons.mp hq with rfl | hq
    · exact hp
    · rcases List.mem_cons.mp hq with rfl | hq
      · exact ha
      · exact o.at_ q hq
/-- what changes the places of A alone, under any frame -/
theorem Tn.op {p a : Nat} {ns : List Int} {A R : Nodes} {h : Heap} {α : Type} {P : α → Heap → Prop} {A' : α → Nodes} (T : Tn p a ns (A ++ R) h) (f : ∀ R, On (A ++ R) h → ∃ x h', P x h' ∧ On (A' x ++ R) h') : ∃ x h', P x h' ∧ Tn p a ns (A' x ++ R) h' := by
  obtain ⟨i, r, t, i0, o⟩ := T.k
  have pm : ∀ B : Nodes, ((p, Obj.lst [.ref a, .int i, .int r, .int t]) :: (a, .lst (ns.map Val.int)) :: (B ++ R)).Perm (B ++ ((p, .lst [.ref a, .int i, .int r, .int t]) :: (a, .lst (ns.map Val.int)) :: R)) := fun B =>
    (List.perm_append_comm_assoc [(p, Obj.lst [.ref a, .int i, .int r, .int t]), (a, .lst (ns.map Val.int))] B R)
  obtain ⟨x, h', q1, q2⟩ := f _ (o.perm (pm A))
  exact ⟨x, h', q1, i, r, t, i0, q2.perm (pm (A' x)).symm⟩
theorem Tn.nx {p a : Nat} {ns : List Int} {l : Nodes} {h h' : Heap} (T : Tn p a ns l h) (T' : TP p a ns h') (f : Fr p h h') : Tn p a ns l h' :=
  .of T' ⟨T.on.nd, fun q hq => f.at (T.nep hq).1 (T.on.at_ q hq)⟩ fun q hq => T.nep hq
theorem Tn.next {f : List Val → Heap → Res Val} (hf : f = m_next) {h : Heap} {p a : Nat} {ns : List Int} {l : Nodes} (T : Tn p a ns l h) {n : Int} (hn : 0 < n) (hn2 : n < 1073741824) :
    ∃ v h', 0 ≤ v ∧ v < n ∧ f [.ref p, .int n] h = .ok (.int v) h' ∧ Tn p a ns l h' := by
  obtain ⟨v, h', v0, v1, e, T', fr, _⟩ := T.tp.next hf hn hn2
  exact ⟨v, h', v0, v1, e, T.nx T' fr⟩
theorem Tn.next2 {f : List Val → Heap → Res Val} (hf : f = m_next2) {h : Heap} {p a : Nat} {ns : List Int} {l : Nodes} (T : Tn p a ns l h) {n : Int} (hn : 0 < n) (hn2 : n < 1073741824) :
    ∃ v h', 0 ≤ v ∧ v < n ∧ f [.ref p, .int n] h = .ok (.int v) h' ∧ Tn p a ns l h' := by
  obtain ⟨v, h', v0, v1, e, T', fr, _⟩ := T.tp.next2 hf hn hn2
  exact ⟨v, h', v0, v1, e, T.nx T' fr⟩
/-! wishes -/
section
variable {E : Nat → Heap → Prop} {Q : Val → Heap → Prop} {QU : Unit → Heap → Prop} {h : Heap} {D : K4} {s : En} {a : Nat} {x y z : Val} {ks : List Val} {mo my mz me : En → Heap → Res Val} {mk : En → Heap → Res (List Val)}
@[simp ↓] theorem wR_mDctT : wR (mDctT s h) E Q = Q (.ref h.length) (h ++ [.dcT []]) := rfl
@[simp ↓] theorem wR_mGet1 : wR (mGet1 mo my s h) E Q = wR (mo s h) E fun o h1 => isD o h1 = true ∧ wR (my s h1) E fun y h2 => wR (dGet o y .non h2) E Q := by
  unfold mGet1; simp only [wR_bind]; congr; funext o h1; split <;> simp_all
@[simp ↓] theorem wR_mGet2 : wR (mGet2 mo my mz s h) E Q = wR (mo s h) E fun o h1 => isD o h1 = true ∧ wR (my s h1) E fun y h2 => wR (mz s h2) E fun z h3 => wR (dGet o y z h3) E Q := by
  unfold mGet2; simp only [wR_bind]; congr; funext o h1; split <;> simp_all
@[simp ↓] theorem wR_mPop1 : wR (mPop1 mo my s h) E Q = wR (mo s h) E fun o h1 => isD o h1 = true ∧ wR (my s h1) E fun y h2 => wR (dPop1 o y h2) E Q := by
  unfold mPop1; simp only [wR_bind]; congr; funext o h1; split <;> simp_all
@[simp ↓] theorem wR_mPop2 : wR (mPop2 mo my mz s h) E Q = wR (mo s h) E fun o h1 => isD o h1 = true ∧ wR (my s h1) E fun y h2 => wR (mz s h2) E fun z h3 => wR (dPop2 o y z h3) E Q := by
  unfold mPop2; simp only [wR_bind]; congr; funext o h1; split <;> simp_all
@[simp ↓] theorem wR_mIxT : wR (mIxT mo mk s h) E Q = wR (mo s h) E fun o h1 => wR (mk s h1) E fun ks h2 => wR (tIx o ks h2) E Q := by unfold mIxT; simp
@[simp ↓] theorem wR_mInT {neg : Bool} : wR (mInT neg mk mo s h) E Q = wR (mk s h) E fun ks h1 => ks.length ≤ 1000 ∧ wR (mo s h1) E fun o h2 => wR (tIn neg ks o h2) E Q := by
  unfold mInT; simp only [wR_bind]; congr; funext o h1; split <;> (simp_all <;> (intros; omega))
@[simp ↓] theorem wR_mGetT1 : wR (mGetT1 mo mk s h) E Q = wR (mo s h) E fun o h1 => isD o h1 = true ∧ wR (mk s h1) E fun ks h2 => wR (tGet o ks .non h2) E Q := by
  unfold mGetT1; simp only [wR_bind]; congr; funext o h1; split <;> simp_all
@[simp ↓] theorem wR_mGetT2 : wR (mGetT2 mo mk mz s h) E Q = wR (mo s h) E fun o h1 => isD o h1 = true ∧ wR (mk s h1) E fun ks h2 => ks.length ≤ 1000 ∧ wR (mz s h2) E fun z h3 => wR (tGet o ks z h3) E Q := by
  unfold mGetT2; simp only [wR_bind]; congr; funext o h1; split
  · simp only [wR_bind, *, true_and]; congr; funext ks h2; split <;> (simp_all <;> (intros; omega))
  · simp_all
@[simp ↓] theorem wR_mPopT1 : wR (mPopT1 mo mk s h) E Q = wR (mo s h) E fun o h1 => isD o h1 = true ∧ wR (mk s h1) E fun ks h2 => wR (tPop1 o ks h2) E Q := by
  unfold mPopT1; simp only [wR_bind]; congr; funext o h1; split <;> simp_all
@[simp ↓] theorem wR_mPopT2 : wR (mPopT2 mo mk mz s h) E Q = wR (mo s h) E fun o h1 => isD o h1 = true ∧ wR (mk s h1) E fun ks h2 => ks.length ≤ 1000 ∧ wR (mz s h2) E fun z h3 => wR (tPop2 o ks z h3) E Q := by
  unfold mPopT2; simp only [wR_bind]; congr; funext o h1; split
  · simp only [wR_bind, *, true_and]; congr; funext ks h2; split <;> (simp_all <;> (intros; omega))
  · simp_all
@[simp ↓] theorem wS_sSubT : wS (sSubT mo mk me s h) D = wR (me s h) D.ex fun v h1 => wR (mo s h1) D.ex fun o h2 => wR (mk s h2) D.ex fun ks h3 => wR (tSet o ks v h3) D.ex fun _ h4 => D.nx s h4 := by unfold sSubT; simp
theorem isD_dct {d : List (Val × Val)} (e : h[a]? = some (.dct d)) : isD (.ref a) h = true := by simp [isD, e]
theorem isD_dcT {d : List (Val × Val)} (e : h[a]? = some (.dcT d)) : isD (.ref a) h = true := by simp [isD, e]
theorem dGet_at {d : List (Val × Val)} (e : h[a]? = some (.dct d)) (hk : isKey y = true) : dGet (.ref a) y z h = .ok ((lookV d y).getD z) h := by simp [dGet, e, hk]
theorem dPop1_at {d : List (Val × Val)} (e : h[a]? = some (.dct d)) (hk : isKey y = true) (hy : lookV d y = some x) : dPop1 (.ref a) y h = .ok x (h.set a (.dct (dropV d y))) := by simp [dPop1, e, hk, hy]
theorem tLook_at {d : List (Val × Val)} (e : h[a]? = some (.dcT d)) (hk : keysOk ks = true) : tLook (.ref a) ks h = some (lookV d (.tup ks)) := by simp [tLook, e, hk]
theorem tIx_at {d : List (Val × Val)} (e : h[a]? = some (.dcT d)) (hk : keysOk ks = true) (hy : lookV d (.tup ks) = some x) : tIx (.ref a) ks h = .ok x h := by simp [tIx, tLook_at e hk, hy]
theorem tIn_at {d : List (Val × Val)} {neg : Bool} (e : h[a]? = some (.dcT d)) (hk : keysOk ks = true) : tIn neg ks (.ref a) h = .ok (.bl (if neg then !(lookV d (.tup ks)).isSome else (lookV d (.tup ks)).isSome)) h := by simp [tIn, tLook_at e hk]
theorem tGet_at {d : List (Val × Val)} (e : h[a]? = some (.dcT d)) (hk : keysOk ks = true) : tGet (.ref a) ks z h = .ok ((lookV d (.tup ks)).getD z) h := by simp [tGet, tLook_at e hk]
theorem tPop1_at {d : List (Val × Val)} (e : h[a]? = some (.dcT d)) (hk : keysOk ks = true) (hy : lookV d (.tup ks) = some x) : tPop1 (.ref a) ks h = .ok x (h.set a (.dcT (dropV d (.tup ks)))) := by simp [tPop1, tLook_at e hk, hy, tDrop, e]
theorem tSet_at {d : List (Val × Val)} (e : h[a]? = some (.dcT d)) (hk : keysOk ks = true) (hl : d.length < lim) : tSet (.ref a) ks x h = .ok () (h.set a (.dcT (putV d (.tup ks) x))) := by simp [tSet, e, hk, hl]
end
theorem lookV_drop {d : List (Val × Val)} {k j : Val} : lookV (dropV d k) j = if j = k then none else lookV d j := by
  unfold lookV dropV
  by_cases e : j = k
  · rw [if_pos e, List.find?_eq_none.mpr]
    · rfl
    · intro x hx
      have := (List.mem_filter.mp hx).2
      simp only [decide_eq_true_eq] at this ⊢
      rw [e]; exact this
  · rw [if_neg e]
    congr 1
    rw [List.find?_filter]
    congr 1
    funext x
    by_cases q : x.1 = j
    · simp [q, e]
    · simp [q]
theorem dropV_none {d : List (Val × Val)} {k : Val} (e : lookV d k = none) : dropV d k = d := by
  unfold lookV at e
  unfold dropV
  rw [List.filter_eq_self]
  intro x hx
  simp only [Option.map_eq_none_iff, List.find?_eq_none] at e
  have := e x hx
  simpa using this
theorem dropV_len {d : List (Val × Val)} {k : Val} : (dropV d k).length ≤ d.length := List.length_filter_le ..
/-- d.pop(k, x): the dict without k, whether it was there or not -/
theorem tPop2_at {d : List (Val × Val)} {h : Heap} {a : Nat} {ks : List Val} {z : Val} (e : h[a]? = some (.dcT d)) (hk : keysOk ks = true) : tPop2 (.ref a) ks z h = .ok ((lookV d (.tup ks)).getD z) (h.set a (.dcT (dropV d (.tup ks)))) := by
  unfold tPop2
  rw [tLook_at e hk]
  cases q : lookV d (.tup ks) with
  | some v => simp [tDrop, e]
  | none =>
    have : h.set a (.dcT (dropV d (.tup ks))) = h := by
      rw [dropV_none q]
      apply List.ext_getElem?
      intro i
      rw [List.getElem?_set]
      split
      · rename_i hi
        subst hi
        rw [if_pos (at_lt e), e]
      · rfl
    simp [this]
end PyM
namespace PyM
/-- while, by an invariant with a measure -/
theorem wS_whM {c : En → Heap → Res Bool} {body : En → Heap → RS} {D : K4} (Inv : Nat → En → Heap → Prop)
    (hs : ∀ m s h, Inv m s h → wR (c s h) D.ex fun b h1 => if b = true then wS (body s h1) { D with nx := fun s' h' => ∃ m' < m, Inv m' s' h', ct := fun s' h' => ∃ m' < m, Inv m' s' h', bk := D.nx } else D.nx s h1) :
    ∀ (n m : Nat) (s : En) (h : Heap), m < n → Inv m s h → wS (whM c body n s h) D
  | 0, m, _, _, hm, _ => by omega
  | n + 1, m, s, h, hm, hi => by
    have w := hs m s h hi
    unfold whM
    cases e : c s h with
    | ok b h1 =>
      rw [e] at w
      simp only [wR_ok] at w
      cases b with
      | false => simpa using w
      | true =>
        simp only [Res.thenS, if_true] at w ⊢
        cases eb : body s h1 with
        | nx s2 h2 =>
          rw [eb] at w
          obtain ⟨m', h1, h2'⟩ := w
          exact wS_whM Inv hs n m' _ _ (by omega) h2'
        | ct s2 h2 =>
          rw [eb] at w
          obtain ⟨m', h1, h2'⟩ := w
          exact wS_whM Inv hs n m' _ _ (by omega) h2'
        | bk s2 h2 => rw [eb] at w; exact w
        | rt v h2 => rw [eb] at w; exact w
        | raised a h2 => rw [eb] at w; exact w
        | stuck => rw [eb] at w; exact w
    | raised a h1 => rw [e] at w; exact w
    | stuck => rw [e] at w; exact w
end PyM

set_option Elab.async false
set_option linter.all false
set_option maxRecDepth 100000
set_option maxHeartbeats 4000000
namespace Lw
open PyM
def c_RIGHTS : Val := .tup [.str 1, .str 0]
def m_is_number : List Val → Heap → Res Val := runB 1 1
    (sRet (mAn (mIsi .int (mV 0)) (mNo (mIsi .bool (mV 0)))))
def m_Frames___init__ : List Val → Heap → Res Val := runB 3 5
    (sSeq (sIf (tOr_ (tNo (tTr (mCall m_is_number [] (mCons (mV 1) (mNil))))) (tNo (tB_ (mChLeLe (mK (.int 8)) (mV 1) (mK (.int 64)))))) (sRaise 3) (sNx))
    (sSeq (sIf (tOr_ (tNo (tTr (mIsi .lst (mV 2)))) (tB_ (mB (oEq true) (mL bLen (mCons (mV 2) (mNil))) (mK (.int 4))))) (sRaise 3) (sNx))
    (sSeq (sIf (tOr_ (tNo (tTr (mL bAll (mCons (mLc (iAlt (iLst (mV 2)) (iTup_ (mV 2))) (gV 3) (tTrue) (mAn (mCall m_is_number [] (mCons (mV 3) (mNil))) (mB oGe (mV 3) (mK (.int 0)))) [3]) (mNil))))) (tB_ (mB oGt (mL bSum (mCons (mV 2) (mNil))) (mV 1)))) (sRaise 3) (sNx))
    (sSeq (sFld 0 0 (mV 0) (mV 1))
    (sSeq (sFld 0 1 (mV 0) (mL bList (mCons (mV 2) (mNil))))
    (sSeq (sFld 0 2 (mV 0) (mLc (iRng1 (mCons (mV 1) (mNil))) (gV 4) (tTrue) (mDct) [4]))
    (sSeq (sFld 0 3 (mV 0) (mLc (iRng1 (mCons (mV 1) (mNil))) (gV 4) (tTrue) (mB oMul (mLst (mCons (mK (.int 0)) (mNil))) (mK (.int 8))) [4]))
    (sSeq (sFld 0 4 (mV 0) (mLc (iRng1 (mCons (mK (.int 4)) (mNil))) (gV 4) (tTrue) (mLst (mNil)) [4]))
    (sSeq (sFld 0 5 (mV 0) (mDctT))
    (sSeq (sFld 0 6 (mV 0) (mLc (iRng1 (mCons (mK (.int 4)) (mNil))) (gV 4) (tTrue) (mK .non) [4]))
    (sFld 0 7 (mV 0) (mLc (iRng1 (mCons (mK (.int 4)) (mNil))) (gV 4) (tTrue) (mLst (mNil)) [4]))))))))))))
def m_Pages___init__ : List Val → Heap → Res Val := runB 2 3
    (sSeq (sFld 1 8 (mV 0) (mV 1))
    (sFld 1 9 (mV 0) (mLc (iRng1 (mCons (mK (.int 4)) (mNil))) (gV 2) (tTrue) (mDct) [2])))
def m__law_next : List Val → Heap → Res Val := runB 2 4
    (sSeq (sAsg (gV 2) (mB oIx (mV 0) (mK (.int 2))))
    (sSeq (sIf (tB_ (mB oGt (mV 2) (mK (.int 0)))) (sSeq (sSub (mV 0) (mK (.int 2)) (mB oFd (mV 2) (mV 1)))
    (sRet (mB oMd (mL bInt (mCons (mV 2) (mNil))) (mV 1)))) (sNx))
    (sSeq (sAsg (gV 3) (mK (.int 0)))
    (sSeq (sIf (tB_ (mB oLt (mB oIx (mV 0) (mK (.int 1))) (mL bLen (mCons (mB oIx (mV 0) (mK (.int 0))) (mNil))))) (sSeq (sAsg (gV 3) (mL bAbs (mCons (mB oIx (mB oIx (mV 0) (mK (.int 0))) (mB oIx (mV 0) (mK (.int 1)))) (mNil))))
    (sSubA (oI fun i j => .int (i + j)) (mV 0) (mK (.int 1)) (mK (.int 1)))) (sNx))
    (sSeq (sIf (tB_ (mB oGe (mV 3) (mB oPw (mK (.int 10)) (mK (.int 18))))) (sSeq (sSub (mV 0) (mK (.int 2)) (mB oFd (mV 3) (mV 1)))
    (sRet (mB oMd (mL bInt (mCons (mV 3) (mNil))) (mV 1)))) (sNx))
    (sSeq (sSub (mV 0) (mK (.int 3)) (mB oMd (mL bInt (mCons (mB oAdd (mB oAdd (mB oMul (mB oIx (mV 0) (mK (.int 3))) (mK (.int 48271))) (mB oMul (mV 3) (mK (.int 69621)))) (mK (.int 11))) (mNil))) (mK (.int 2147483647))))
    (sRet (mB oMd (mL bInt (mCons (mB oFd (mB oMd (mB oMul (mB oIx (mV 0) (mK (.int 3))) (mK (.int 16807))) (mK (.int 2147483647))) (mK (.int 7))) (mNil))) (mV 1)))))))))
def m_Frames_free : List Val → Heap → Res Val := runB 1 2
    (sRet (mLc (iRng1 (mCons (mU (getF 0) (mV 0)) (mNil))) (gV 1) (tNo (tTr (mB oIx (mU (getF 2) (mV 0)) (mV 1)))) (mV 1) [1]))
def m_Frames_charge : List Val → Heap → Res Val := runB 2 2
    (sRet (mL bLen (mCons (mB oIx (mU (getF 4) (mV 0)) (mV 1)) (mNil))))
def m_Frames_share : List Val → Heap → Res Val := runB 2 2
    (sRet (mB oIx (mU (getF 1) (mV 0)) (mV 1)))
def m_Frames_left : List Val → Heap → Res Val := runB 1 2
    (sRet (mB (oI fun i j => .int (i - j)) (mU (getF 0) (mV 0)) (mL bSum (mCons (mLc (iAlt (iLst (mU (getF 4) (mV 0))) (iTup_ (mU (getF 4) (mV 0)))) (gV 1) (tTrue) (mL bLen (mCons (mV 1) (mNil))) [1]) (mNil)))))
def m_Frames_may_hold_more : List Val → Heap → Res Val := runB 2 4
    (sSeq (sIf (tB_ (mB oLt (mMeth 0 m_Frames_charge [] (mV 0) (mCons (mV 1) (mNil))) (mMeth 0 m_Frames_share [] (mV 0) (mCons (mV 1) (mNil))))) (sRet (mK (.bl true))) (sNx))
    (sSeq (sAsg (gV 2) (mLc (iRng1 (mCons (mK (.int 4)) (mNil))) (gV 3) (tTrue) (mL bMax2 (mCons (mK (.int 0)) (mCons (mB (oI fun i j => .int (i - j)) (mB oIx (mU (getF 1) (mV 0)) (mV 3)) (mMeth 0 m_Frames_charge [] (mV 0) (mCons (mV 3) (mNil)))) (mNil)))) [3]))
    (sRet (mB oGt (mMeth 0 m_Frames_left [] (mV 0) (mNil)) (mL bSum (mCons (mV 2) (mNil)))))))
def m_Frames_take : List Val → Heap → Res Val := runB 2 4
    (sSeq (sAsg (gV 2) (mMeth 0 m_Frames_free [] (mV 0) (mNil)))
    (sSeq (sIf (tOr_ (tNo (tTr (mV 2))) (tNo (tTr (mMeth 0 m_Frames_may_hold_more [] (mV 0) (mCons (mV 1) (mNil)))))) (sRet (mK .non)) (sNx))
    (sSeq (sAsg (gV 3) (mB oIx (mV 2) (mK (.int 0))))
    (sSeq (sSub (mU (getF 3) (mV 0)) (mV 3) (mB oMul (mLst (mCons (mK (.int 0)) (mNil))) (mK (.int 8))))
    (sSeq (sSub (mB oIx (mU (getF 2) (mV 0)) (mV 3)) (mV 1) (mK (.str 0)))
    (sSeq (sDrop (mBM bAppend (mB oIx (mU (getF 4) (mV 0)) (mV 1)) (mCons (mV 3) (mNil))))
    (sRet (mV 3))))))))
def m_is_environment : List Val → Heap → Res Val := runB 1 1
    (sRet (mAn (mCall m_is_number [] (mCons (mV 0) (mNil))) (mChLeLt (mK (.int 0)) (mV 0) (mK (.int 4)))))
def m_Frames_is_frame : List Val → Heap → Res Val := runB 2 2
    (sRet (mAn (mCall m_is_number [] (mCons (mV 1) (mNil))) (mChLeLt (mK (.int 0)) (mV 1) (mU (getF 0) (mV 0)))))
def m_Frames_right : List Val → Heap → Res Val := runB 3 3
    (sSeq (sIf (tNo (tTr (mMeth 0 m_Frames_is_frame [] (mV 0) (mCons (mV 2) (mNil))))) (sRet (mK .non)) (sNx))
    (sRet (mGet2 (mB oIx (mU (getF 2) (mV 0)) (mV 2)) (mV 1) (mK .non))))
def m_includes : List Val → Heap → Res Val := runB 2 2
    (sRet (mOr_ (mB (oEq false) (mV 0) (mV 1)) (mAn (mB (oEq false) (mV 0) (mK (.str 0))) (mB (oEq false) (mV 1) (mK (.str 1))))))
def m_Frames_offer : List Val → Heap → Res Val := runB 5 6
    (sSeq (sIf (tOr_ (tNo (tTr (mCall m_is_environment [] (mCons (mV 3) (mNil))))) (tOr_ (tB_ (mB (oEq false) (mV 3) (mV 1))) (tB_ (mB (oIn true) (mV 4) (mK c_RIGHTS))))) (sRet (mK (.bl false))) (sNx))
    (sSeq (sAsg (gV 5) (mMeth 0 m_Frames_right [] (mV 0) (mCons (mV 1) (mCons (mV 2) (mNil)))))
    (sSeq (sIf (tOr_ (tB_ (mU (oIsN false) (mV 5))) (tNo (tTr (mCall m_includes [] (mCons (mV 5) (mCons (mV 4) (mNil))))))) (sRet (mK (.bl false))) (sNx))
    (sSeq (sSubT (mU (getF 5) (mV 0)) (mCons (mV 1) (mCons (mV 2) (mCons (mV 3) (mNil)))) (mV 4))
    (sRet (mK (.bl true)))))))
def m_Frames_accept : List Val → Heap → Res Val := runB 4 6
    (sSeq (sIf (tOr_ (tNo (tTr (mMeth 0 m_Frames_is_frame [] (mV 0) (mCons (mV 2) (mNil))))) (tNo (tTr (mCall m_is_environment [] (mCons (mV 3) (mNil)))))) (sRet (mK (.bl false))) (sNx))
    (sSeq (sAsg (gV 4) (mGetT2 (mU (getF 5) (mV 0)) (mCons (mV 3) (mCons (mV 2) (mCons (mV 1) (mNil)))) (mK .non)))
    (sSeq (sAsg (gV 5) (mMeth 0 m_Frames_right [] (mV 0) (mCons (mV 3) (mCons (mV 2) (mNil)))))
    (sSeq (sIf (tOr_ (tB_ (mU (oIsN false) (mV 4))) (tOr_ (tB_ (mU (oIsN false) (mV 5))) (tNo (tTr (mCall m_includes [] (mCons (mV 5) (mCons (mV 4) (mNil)))))))) (sRet (mK (.bl false))) (sNx))
    (sSeq (sIf (tOr_ (tB_ (mU (oIsN true) (mMeth 0 m_Frames_right [] (mV 0) (mCons (mV 1) (mCons (mV 2) (mNil)))))) (tNo (tTr (mMeth 0 m_Frames_may_hold_more [] (mV 0) (mCons (mV 1) (mNil)))))) (sRet (mK (.bl false))) (sNx))
    (sSeq (sDrop (mPopT1 (mU (getF 5) (mV 0)) (mCons (mV 3) (mCons (mV 2) (mCons (mV 1) (mNil))))))
    (sSeq (sSub (mB oIx (mU (getF 2) (mV 0)) (mV 2)) (mV 1) (mV 4))
    (sSeq (sDrop (mBM bAppend (mB oIx (mU (getF 4) (mV 0)) (mV 1)) (mCons (mV 2) (mNil))))
    (sRet (mK (.bl true)))))))))))
def m_Frames_narrow : List Val → Heap → Res Val := runB 3 3
    (sSeq (sIf (tB_ (mB (oEq true) (mMeth 0 m_Frames_right [] (mV 0) (mCons (mV 1) (mCons (mV 2) (mNil)))) (mK (.str 0)))) (sRet (mK (.bl false))) (sNx))
    (sSeq (sSub (mB oIx (mU (getF 2) (mV 0)) (mV 2)) (mV 1) (mK (.str 1)))
    (sRet (mK (.bl true)))))
def m_is_page : List Val → Heap → Res Val := runB 1 1
    (sRet (mAn (mCall m_is_number [] (mCons (mV 0) (mNil))) (mChLeLt (mK (.int 0)) (mV 0) (mK (.int 32)))))
def m_Pages_entry : List Val → Heap → Res Val := runB 3 3
    (sSeq (sIf (tNo (tTr (mCall m_is_page [] (mCons (mV 2) (mNil))))) (sRet (mK .non)) (sNx))
    (sRet (mGet2 (mB oIx (mU (getF 9) (mV 0)) (mV 1)) (mV 2) (mK .non))))
def m_Pages__fall : List Val → Heap → Res Val := runB 4 6
    (sFor (iRng1 (mCons (mK (.int 32)) (mNil))) (gV 4) (sSeq (sAsg (gV 5) (mMeth 1 m_Pages_entry [] (mV 0) (mCons (mV 1) (mCons (mV 4) (mNil)))))
    (sIf (tAn (tB_ (mU (oIsN true) (mV 5))) (tAn (tB_ (mB (oEq false) (mB oIx (mV 5) (mK (.int 0))) (mV 2))) (tB_ (mB (oIn false) (mB oIx (mV 5) (mK (.int 1))) (mV 3))))) (sDrop (mPop1 (mB oIx (mU (getF 9) (mV 0)) (mV 1)) (mV 4))) (sNx))))
def m_Pages_narrowed : List Val → Heap → Res Val := runB 3 3
    (sDrop (mMeth 1 m_Pages__fall [] (mV 0) (mCons (mV 1) (mCons (mV 2) (mCons (mTup (mCons (mK (.str 0)) (mNil))) (mNil))))))
def m__law_narrow : List Val → Heap → Res Val := runB 5 6
    (sSeq (sIf (tNo (tTr (mMeth 0 m_Frames_narrow [] (mV 0) (mCons (mV 3) (mCons (mV 4) (mNil)))))) (sRetN) (sNx))
    (sSeq (sDrop (mMeth 1 m_Pages_narrowed [] (mV 1) (mCons (mV 3) (mCons (mV 4) (mNil)))))
    (sFor (iRng1 (mCons (mK (.int 32)) (mNil))) (gV 5) (sIf (tB_ (mB (oEq false) (mGetT1 (mV 2) (mCons (mV 3) (mCons (mV 5) (mNil)))) (mTup (mCons (mV 4) (mCons (mK (.str 0)) (mNil)))))) (sDrop (mPopT1 (mV 2) (mCons (mV 3) (mCons (mV 5) (mNil))))) (sNx)))))
def m_Frames__end_holding : List Val → Heap → Res Val := runB 3 4
    (sSeq (sDrop (mPop1 (mB oIx (mU (getF 2) (mV 0)) (mV 2)) (mV 1)))
    (sSeq (sDrop (mBM bRemove (mB oIx (mU (getF 4) (mV 0)) (mV 1)) (mCons (mV 2) (mNil))))
    (sFor (iRng1 (mCons (mK (.int 4)) (mNil))) (gV 3) (sDrop (mPopT2 (mU (getF 5) (mV 0)) (mCons (mV 1) (mCons (mV 2) (mCons (mV 3) (mNil)))) (mK .non))))))
def m_Frames_drop : List Val → Heap → Res Val := runB 3 5
    (sSeq (sIf (tB_ (mU (oIsN false) (mMeth 0 m_Frames_right [] (mV 0) (mCons (mV 1) (mCons (mV 2) (mNil)))))) (sRet (mK (.bl false))) (sNx))
    (sSeq (sDrop (mMeth 0 m_Frames__end_holding [] (mV 0) (mCons (mV 1) (mCons (mV 2) (mNil)))))
    (sSeq (sIf (tB_ (mU (oIsN true) (mB oIx (mU (getF 6) (mV 0)) (mV 1)))) (sSeq (sAsg (gT (gsCons (gV 3) (gsCons (gV 4) (gsNil)))) (mB oIx (mU (getF 6) (mV 0)) (mV 1)))
    (sSub (mU (getF 6) (mV 0)) (mV 1) (mIf (tB_ (mB oGt (mV 3) (mK (.int 1)))) (mTup (mCons (mB (oI fun i j => .int (i - j)) (mV 3) (mK (.int 1))) (mCons (mV 4) (mNil)))) (mK .non)))) (sNx))
    (sRet (mK (.bl true))))))
def m_Pages_ended : List Val → Heap → Res Val := runB 3 3
    (sDrop (mMeth 1 m_Pages__fall [] (mV 0) (mCons (mV 1) (mCons (mV 2) (mCons (mK c_RIGHTS) (mNil))))))
def m__law_drop : List Val → Heap → Res Val := runB 5 6
    (sSeq (sIf (tNo (tTr (mMeth 0 m_Frames_drop [] (mV 0) (mCons (mV 3) (mCons (mV 4) (mNil)))))) (sRetN) (sNx))
    (sSeq (sDrop (mMeth 1 m_Pages_ended [] (mV 1) (mCons (mV 3) (mCons (mV 4) (mNil)))))
    (sFor (iRng1 (mCons (mK (.int 32)) (mNil))) (gV 5) (sIf (tB_ (mB (oEq false) (mB oIx (mGetT2 (mV 2) (mCons (mV 3) (mCons (mV 5) (mNil))) (mTup (mCons (mU oNeg (mK (.int 1))) (mCons (mK (.str 2)) (mNil))))) (mK (.int 0))) (mV 4))) (sDrop (mPopT1 (mV 2) (mCons (mV 3) (mCons (mV 5) (mNil))))) (sNx)))))
def m__law_book : List Val → Heap → Res Val := runB 5 9
    (sSeq (sAsg (gV 5) (mCall m__law_next [] (mCons (mV 0) (mCons (mK (.int 4)) (mNil)))))
    (sSeq (sAsg (gV 6) (mCall m__law_next [] (mCons (mV 0) (mCons (mK (.int 10)) (mNil)))))
    (sSeq (sAsg (gV 7) (mCall m__law_next [] (mCons (mV 0) (mCons (mK (.int 6)) (mNil)))))
    (sIf (tB_ (mB oLt (mV 7) (mK (.int 2)))) (sSeq (sAsg (gV 8) (mMeth 0 m_Frames_take [] (mV 1) (mCons (mV 5) (mNil))))
    (sIf (tB_ (mU (oIsN true) (mV 8))) (sSub (mV 4) (mV 8) (mB oMul (mLst (mCons (mK (.int 0)) (mNil))) (mK (.int 8)))) (sNx))) (sIf (tB_ (mB (oEq false) (mV 7) (mK (.int 2)))) (sDrop (mMeth 0 m_Frames_offer [] (mV 1) (mCons (mV 5) (mCons (mV 6) (mCons (mCall m__law_next [] (mCons (mV 0) (mCons (mK (.int 4)) (mNil)))) (mCons (mB oIx (mLst (mCons (mK (.str 1)) (mCons (mK (.str 0)) (mNil)))) (mCall m__law_next [] (mCons (mV 0) (mCons (mK (.int 2)) (mNil))))) (mNil))))))) (sIf (tB_ (mB (oEq false) (mV 7) (mK (.int 3)))) (sDrop (mMeth 0 m_Frames_accept [] (mV 1) (mCons (mV 5) (mCons (mV 6) (mCons (mCall m__law_next [] (mCons (mV 0) (mCons (mK (.int 4)) (mNil)))) (mNil)))))) (sIf (tB_ (mB (oEq false) (mV 7) (mK (.int 4)))) (sDrop (mCall m__law_narrow [] (mCons (mV 1) (mCons (mV 2) (mCons (mV 3) (mCons (mV 5) (mCons (mV 6) (mNil)))))))) (sDrop (mCall m__law_drop [] (mCons (mV 1) (mCons (mV 2) (mCons (mV 3) (mCons (mV 5) (mCons (mV 6) (mNil)))))))))))))))
def m_Pages_map : List Val → Heap → Res Val := runB 5 6
    (sSeq (sIf (tOr_ (tNo (tTr (mCall m_is_page [] (mCons (mV 2) (mNil))))) (tB_ (mB (oIn true) (mV 4) (mK c_RIGHTS)))) (sRet (mK (.bl false))) (sNx))
    (sSeq (sAsg (gV 5) (mMeth 0 m_Frames_right [] (mU (getF 8) (mV 0)) (mCons (mV 1) (mCons (mV 3) (mNil)))))
    (sSeq (sIf (tOr_ (tB_ (mU (oIsN false) (mV 5))) (tNo (tTr (mCall m_includes [] (mCons (mV 5) (mCons (mV 4) (mNil))))))) (sRet (mK (.bl false))) (sNx))
    (sSeq (sSub (mB oIx (mU (getF 9) (mV 0)) (mV 1)) (mV 2) (mTup (mCons (mV 3) (mCons (mV 4) (mNil)))))
    (sRet (mK (.bl true)))))))
def m__law_map : List Val → Heap → Res Val := runB 4 10
    (sSeq (sAsg (gV 4) (mCall m__law_next [] (mCons (mV 0) (mCons (mK (.int 4)) (mNil)))))
    (sSeq (sAsg (gV 5) (mB (oI fun i j => .int (i - j)) (mCall m__law_next [] (mCons (mV 0) (mCons (mK (.int 34)) (mNil)))) (mK (.int 1))))
    (sSeq (sAsg (gV 6) (mB (oI fun i j => .int (i - j)) (mCall m__law_next [] (mCons (mV 0) (mCons (mK (.int 12)) (mNil)))) (mK (.int 1))))
    (sSeq (sAsg (gV 7) (mB oIx (mLst (mCons (mK (.str 1)) (mCons (mK (.str 0)) (mCons (mK (.str 3)) (mNil))))) (mCall m__law_next [] (mCons (mV 0) (mCons (mK (.int 3)) (mNil))))))
    (sSeq (sAsg (gV 8) (mMeth 0 m_Frames_right [] (mV 1) (mCons (mV 4) (mCons (mV 6) (mNil)))))
    (sSeq (sAsg (gV 9) (mAn (mChLeLt (mK (.int 0)) (mV 5) (mK (.int 32))) (mOr_ (mAn (mB (oEq false) (mV 8) (mK (.str 0))) (mB (oEq true) (mV 7) (mK (.str 3)))) (mAn (mB (oEq false) (mV 8) (mK (.str 1))) (mB (oEq false) (mV 7) (mK (.str 1)))))))
    (sSeq (sIf (tTr (mV 9)) (sSubT (mV 3) (mCons (mV 4) (mCons (mV 5) (mNil))) (mTup (mCons (mV 6) (mCons (mV 7) (mNil))))) (sNx))
    (sRet (mB (oEq false) (mMeth 1 m_Pages_map [] (mV 2) (mCons (mV 4) (mCons (mV 5) (mCons (mV 6) (mCons (mV 7) (mNil)))))) (mV 9))))))))))
def m_Pages_unmap : List Val → Heap → Res Val := runB 3 3
    (sSeq (sIf (tNo (tTr (mCall m_is_page [] (mCons (mV 2) (mNil))))) (sRet (mK (.bl false))) (sNx))
    (sRet (mU (oIsN true) (mPop2 (mB oIx (mU (getF 9) (mV 0)) (mV 1)) (mV 2) (mK .non)))))
def m_is_word : List Val → Heap → Res Val := runB 1 1
    (sRet (mAn (mCall m_is_number [] (mCons (mV 0) (mNil))) (mChLeLe (mK (.int 0)) (mV 0) (mK (.int 4294967295)))))
def m_Frames_write : List Val → Heap → Res Val := runB 4 4
    (sSub (mB oIx (mU (getF 3) (mV 0)) (mV 1)) (mV 2) (mV 3))
def m_Pages_store : List Val → Heap → Res Val := runB 5 6
    (sSeq (sAsg (gV 5) (mMeth 1 m_Pages_entry [] (mV 0) (mCons (mV 1) (mCons (mV 2) (mNil)))))
    (sSeq (sIf (tOr_ (tB_ (mU (oIsN false) (mV 5))) (tOr_ (tB_ (mB (oEq true) (mB oIx (mV 5) (mK (.int 1))) (mK (.str 0)))) (tNo (tTr (mCall m_is_word [] (mCons (mV 4) (mNil))))))) (sRet (mK (.bl false))) (sNx))
    (sSeq (sIf (tOr_ (tNo (tTr (mCall m_is_number [] (mCons (mV 3) (mNil))))) (tNo (tB_ (mChLeLt (mK (.int 0)) (mV 3) (mK (.int 8)))))) (sRet (mK (.bl false))) (sNx))
    (sSeq (sDrop (mMeth 0 m_Frames_write [] (mU (getF 8) (mV 0)) (mCons (mB oIx (mV 5) (mK (.int 0))) (mCons (mV 3) (mCons (mV 4) (mNil))))))
    (sRet (mK (.bl true)))))))
def m__law_store : List Val → Heap → Res Val := runB 4 10
    (sSeq (sAsg (gV 4) (mCall m__law_next [] (mCons (mV 0) (mCons (mK (.int 4)) (mNil)))))
    (sSeq (sAsg (gV 5) (mCall m__law_next [] (mCons (mV 0) (mCons (mK (.int 33)) (mNil)))))
    (sSeq (sAsg (gV 6) (mB (oI fun i j => .int (i - j)) (mCall m__law_next [] (mCons (mV 0) (mCons (mK (.int 10)) (mNil)))) (mK (.int 1))))
    (sSeq (sAsg (gV 7) (mB oIx (mLst (mCons (mCall m__law_next [] (mCons (mV 0) (mCons (mK (.int 9)) (mNil)))) (mCons (mB (oI fun i j => .int (i - j)) (mB oPw (mK (.int 2)) (mK (.int 32))) (mK (.int 1))) (mCons (mB oPw (mK (.int 2)) (mK (.int 32))) (mCons (mU oNeg (mK (.int 1))) (mNil)))))) (mCall m__law_next [] (mCons (mV 0) (mCons (mK (.int 4)) (mNil))))))
    (sSeq (sAsg (gV 8) (mGetT1 (mV 2) (mCons (mV 4) (mCons (mV 5) (mNil)))))
    (sSeq (sAsg (gV 9) (mAn (mU (oIsN true) (mV 8)) (mAn (mB (oEq false) (mB oIx (mV 8) (mK (.int 1))) (mK (.str 0))) (mAn (mChLeLt (mK (.int 0)) (mV 6) (mK (.int 8))) (mChLeLt (mK (.int 0)) (mV 7) (mB oPw (mK (.int 2)) (mK (.int 32))))))))
    (sSeq (sIf (tTr (mV 9)) (sSub (mB oIx (mV 3) (mB oIx (mV 8) (mK (.int 0)))) (mV 6) (mV 7)) (sNx))
    (sRet (mB (oEq false) (mMeth 1 m_Pages_store [] (mV 1) (mCons (mV 4) (mCons (mV 5) (mCons (mV 6) (mCons (mV 7) (mNil)))))) (mV 9))))))))))
def m_Frames_read : List Val → Heap → Res Val := runB 3 3
    (sRet (mB oIx (mB oIx (mU (getF 3) (mV 0)) (mV 1)) (mV 2)))
def m_Pages_load : List Val → Heap → Res Val := runB 4 5
    (sSeq (sAsg (gV 4) (mMeth 1 m_Pages_entry [] (mV 0) (mCons (mV 1) (mCons (mV 2) (mNil)))))
    (sSeq (sIf (tOr_ (tB_ (mU (oIsN false) (mV 4))) (tOr_ (tNo (tTr (mCall m_is_number [] (mCons (mV 3) (mNil))))) (tNo (tB_ (mChLeLt (mK (.int 0)) (mV 3) (mK (.int 8))))))) (sRet (mK .non)) (sNx))
    (sRet (mMeth 0 m_Frames_read [] (mU (getF 8) (mV 0)) (mCons (mB oIx (mV 4) (mK (.int 0))) (mCons (mV 3) (mNil)))))))
def m__law_load : List Val → Heap → Res Val := runB 4 9
    (sSeq (sAsg (gV 4) (mCall m__law_next [] (mCons (mV 0) (mCons (mK (.int 4)) (mNil)))))
    (sSeq (sAsg (gV 5) (mCall m__law_next [] (mCons (mV 0) (mCons (mK (.int 33)) (mNil)))))
    (sSeq (sAsg (gV 6) (mB (oI fun i j => .int (i - j)) (mCall m__law_next [] (mCons (mV 0) (mCons (mK (.int 10)) (mNil)))) (mK (.int 1))))
    (sSeq (sAsg (gV 7) (mGetT1 (mV 2) (mCons (mV 4) (mCons (mV 5) (mNil)))))
    (sSeq (sAsg (gV 8) (mK .non))
    (sSeq (sIf (tAn (tB_ (mU (oIsN true) (mV 7))) (tB_ (mChLeLt (mK (.int 0)) (mV 6) (mK (.int 8))))) (sAsg (gV 8) (mB oIx (mB oIx (mV 3) (mB oIx (mV 7) (mK (.int 0)))) (mV 6))) (sNx))
    (sRet (mB (oEq false) (mMeth 1 m_Pages_load [] (mV 1) (mCons (mV 4) (mCons (mV 5) (mCons (mV 6) (mNil))))) (mV 8)))))))))
def m__law_shown : List Val → Heap → Res Val := runB 3 6
    (sSeq (sFor (iRng1 (mCons (mK (.int 4)) (mNil))) (gV 3) (sFor (iRng1 (mCons (mK (.int 32)) (mNil))) (gV 4) (sSeq (sAsg (gV 5) (mMeth 1 m_Pages_entry [] (mV 1) (mCons (mV 3) (mCons (mV 4) (mNil)))))
    (sSeq (sIf (tB_ (mB (oEq true) (mV 5) (mGetT1 (mV 2) (mCons (mV 3) (mCons (mV 4) (mNil)))))) (sRet (mK (.bl false))) (sNx))
    (sIf (tAn (tB_ (mU (oIsN true) (mV 5))) (tB_ (mB (oIn true) (mMeth 0 m_Frames_right [] (mV 0) (mCons (mV 3) (mCons (mB oIx (mV 5) (mK (.int 0))) (mNil)))) (mTup (mCons (mB oIx (mV 5) (mK (.int 1))) (mCons (mK (.str 0)) (mNil))))))) (sRet (mK (.bl false))) (sNx))))))
    (sRet (mK (.bl true))))
def m_law : List Val → Heap → Res Val := runB 1 11
    (sSeq (sAsg (gV 1) (mLst (mCons (mL bList (mCons (mV 0) (mNil))) (mCons (mK (.int 0)) (mCons (mK (.int 0)) (mCons (mK (.int 17)) (mNil)))))))
    (sSeq (sAsg (gV 2) (mMake 0 m_Frames___init__ [] (mCons (mK (.int 10)) (mCons (mLst (mCons (mK (.int 2)) (mCons (mK (.int 2)) (mCons (mK (.int 1)) (mCons (mK (.int 0)) (mNil)))))) (mNil)))))
    (sSeq (sAsg (gV 3) (mMake 1 m_Pages___init__ [] (mCons (mV 2) (mNil))))
    (sSeq (sAsg (gV 4) (mDctT))
    (sSeq (sAsg (gV 5) (mDct))
    (sSeq (sFor (iRng1 (mCons (mCall m__law_next [] (mCons (mV 1) (mCons (mB oIx (mLst (mCons (mK (.int 40)) (mCons (mK (.int 40)) (mCons (mK (.int 101)) (mNil))))) (mCall m__law_next [] (mCons (mV 1) (mCons (mK (.int 3)) (mNil))))) (mNil)))) (mNil))) (gV 6) (sSeq (sAsg (gV 7) (mCall m__law_next [] (mCons (mV 1) (mCons (mK (.int 7)) (mNil)))))
    (sSeq (sAsg (gV 8) (mK (.bl true)))
    (sSeq (sIf (tB_ (mB oLt (mV 7) (mK (.int 2)))) (sDrop (mCall m__law_book [] (mCons (mV 1) (mCons (mV 2) (mCons (mV 3) (mCons (mV 4) (mCons (mV 5) (mNil)))))))) (sIf (tB_ (mB oLt (mV 7) (mK (.int 4)))) (sAsg (gV 8) (mCall m__law_map [] (mCons (mV 1) (mCons (mV 2) (mCons (mV 3) (mCons (mV 4) (mNil))))))) (sIf (tB_ (mB (oEq false) (mV 7) (mK (.int 4)))) (sSeq (sAsg (gV 9) (mCall m__law_next [] (mCons (mV 1) (mCons (mK (.int 4)) (mNil)))))
    (sSeq (sAsg (gV 10) (mCall m__law_next [] (mCons (mV 1) (mCons (mK (.int 33)) (mNil)))))
    (sAsg (gV 8) (mB (oEq false) (mMeth 1 m_Pages_unmap [] (mV 3) (mCons (mV 9) (mCons (mV 10) (mNil)))) (mU (oIsN true) (mPopT2 (mV 4) (mCons (mV 9) (mCons (mV 10) (mNil))) (mK .non))))))) (sIf (tB_ (mB (oEq false) (mV 7) (mK (.int 5)))) (sAsg (gV 8) (mCall m__law_store [] (mCons (mV 1) (mCons (mV 3) (mCons (mV 4) (mCons (mV 5) (mNil))))))) (sAsg (gV 8) (mCall m__law_load [] (mCons (mV 1) (mCons (mV 3) (mCons (mV 4) (mCons (mV 5) (mNil)))))))))))
    (sIf (tOr_ (tNo (tTr (mV 8))) (tAn (tB_ (mB (oEq false) (mB oMd (mV 6) (mK (.int 8))) (mK (.int 0)))) (tNo (tTr (mCall m__law_shown [] (mCons (mV 2) (mCons (mV 3) (mCons (mV 4) (mNil))))))))) (sRet (mK (.bl false))) (sNx))))))
    (sRet (mCall m__law_shown [] (mCons (mV 2) (mCons (mV 3) (mCons (mV 4) (mNil))))))))))))
end Lw

set_option Elab.async false
set_option linter.all false
set_option autoImplicit false
set_option maxHeartbeats 4000000
set_option maxRecDepth 100000
namespace Lw
open PyM
theorem lim8 : 100000 < lim := by decide
structure FS where
  F : Nat
  sh : Nat
  HL : Nat
  WL : Nat
  OL : Nat
  OF : Nat
  WA : Nat
  LO : Nat
  many : Nat
  shares : List Int
  hd : List (Nat × List (Val × Val))
  ws : List (Nat × List Val)
  os : List (Nat × List Int)
  offers : List (Val × Val)
  wanted : List Val
  ls : List (Nat × List Int)
def refs {α : Type} (l : List (Nat × α)) : List Val := l.map fun p => .ref p.1
def FS.obj (s : FS) : Obj := .ins 0 [(0, .int s.many), (1, .ref s.sh), (2, .ref s.HL), (3, .ref s.WL), (4, .ref s.OL), (5, .ref s.OF), (6, .ref s.WA), (7, .ref s.LO)]
def FS.base (s : FS) : Nodes := [(s.F, s.obj), (s.sh, .lst (s.shares.map Val.int)), (s.HL, .lst (refs s.hd)), (s.WL, .lst (refs s.ws)), (s.OL, .lst (refs s.os)), (s.OF, .dcT s.offers), (s.WA, .lst s.wanted), (s.LO, .lst (refs s.ls))]
def dN (p : Nat × List (Val × Val)) : Nat × Obj := (p.1, .dct p.2)
def vN (p : Nat × List Val) : Nat × Obj := (p.1, .lst p.2)
def iN (p : Nat × List Int) : Nat × Obj := (p.1, .lst (p.2.map Val.int))
def FS.nodes (s : FS) : Nodes := s.base ++ (s.hd.map dN ++ (s.ws.map vN ++ (s.os.map iN ++ s.ls.map iN)))
structure FOk (s : FS) : Prop where
  m0 : 8 ≤ s.many
  m1 : s.many ≤ 64
  sh : s.shares.length = 4
  hd : s.hd.length = s.many
  ws : s.ws.length = s.many
  os : s.os.length = 4
  wa : s.wanted.length = 4
  ls : s.ls.length = 4
structure Fd (s : FS) (h : Heap) : Prop where
  eF : h[s.F]? = some s.obj
  eS : h[s.sh]? = some (.lst (s.shares.map Val.int))
  eH : h[s.HL]? = some (.lst (refs s.hd))
  eW : h[s.WL]? = some (.lst (refs s.ws))
  eO : h[s.OL]? = some (.lst (refs s.os))
  eF5 : h[s.OF]? = some (.dcT s.offers)
  eA : h[s.WA]? = some (.lst s.wanted)
  eL : h[s.LO]? = some (.lst (refs s.ls))
  hd : ∀ (f a : Nat) (k : List (Val × Val)), s.hd[f]? = some (a, k) → h[a]? = some (.dct k)
  ws : ∀ (f a : Nat) (k : List Val), s.ws[f]? = some (a, k) → h[a]? = some (.lst k)
  os : ∀ (f a : Nat) (k : List Int), s.os[f]? = some (a, k) → h[a]? = some (.lst (k.map Val.int))
  ls : ∀ (f a : Nat) (k : List Int), s.ls[f]? = some (a, k) → h[a]? = some (.lst (k.map Val.int))
theorem Fd.ext {s : FS} {h h' : Heap} (r : Fd s h) (x : Ext h h') : Fd s h' :=
  ⟨x.at r.eF, x.at r.eS, x.at r.eH, x.at r.eW, x.at r.eO, x.at r.eF5, x.at r.eA, x.at r.eL, fun f a k e => x.at (r.hd f a k e), fun f a k e => x.at (r.ws f a k e), fun f a k e => x.at (r.os f a k e), fun f a k e => x.at (r.ls f a k e)⟩
theorem mem_map_at {α : Type} {g : α → Nat × Obj} {l : List α} {i : Nat} {x : α} (e : l[i]? = some x) : g x ∈ l.map g := List.mem_map_of_mem (List.mem_of_getElem? e)
theorem fr_of {s : FS} {R : Nodes} {h : Heap} (o : On (s.nodes ++ R) h) : Fd s h := by
  have b : ∀ (i : Nat) (x : Nat × Obj), s.base[i]? = some x → h[x.1]? = some x.2 := fun i x e => o.at_ x (List.mem_append_left _ (List.mem_append_left _ (List.mem_of_getElem? e)))
  refine ⟨b 0 _ rfl, b 1 _ rfl, b 2 _ rfl, b 3 _ rfl, b 4 _ rfl, b 5 _ rfl, b 6 _ rfl, b 7 _ rfl, fun f a k e => ?_, fun f a k e => ?_, fun f a k e => ?_, fun f a k e => ?_⟩
  · exact o.at_ _ (List.mem_append_left _ (List.mem_append_right _ (List.mem_append_left _ (mem_map_at (g := dN) e))))
  · exact o.at_ _ (List.mem_append_left _ (List.mem_append_right _ (List.mem_append_right _ (List.mem_append_left _ (mem_map_at (g := vN) e)))))
  · exact o.at_ _ (List.mem_append_left _ (List.mem_append_right _ (List.mem_append_right _ (List.mem_append_right _ (List.mem_append_left _ (mem_map_at (g := iN) e))))))
  · exact o.at_ _ (List.mem_append_left _ (List.mem_append_right _ (List.mem_append_right _ (List.mem_append_right _ (List.mem_append_right _ (mem_map_at (g := iN) e))))))
/-! places of the families -/
theorem app_at {α : Type} {A B : List α} {i n : Nat} {x : α} (hn : A.length = n) (e : B[i]? = some x) : (A ++ B)[n + i]? = some x := by
  rw [List.getElem?_append_right (by omega)]
  rw [show n + i - A.length = i by omega]; exact e
theorem app_l {α : Type} {A B : List α} {i : Nat} {x : α} (e : A[i]? = some x) : (A ++ B)[i]? = some x := by
  rw [List.getElem?_append_left (List.getElem?_eq_some_iff.mp e).1]; exact e
theorem app_setr {α : Type} {A B : List α} {i n : Nat} {x : α} (hn : A.length = n) : (A ++ B).set (n + i) x = A ++ B.set i x := by
  rw [List.set_append_right _ _ (by omega), show n + i - A.length = i by omega]
theorem app_setl {α : Type} {A B : List α} {i : Nat} {x y : α} (e : A[i]? = some y) : (A ++ B).set i x = A.set i x ++ B := by
  rw [List.set_append_left _ _ (List.getElem?_eq_some_iff.mp e).1]
theorem refs_set {α : Type} {l : List (Nat × α)} {i a : Nat} {x y : α} (e : l[i]? = some (a, x)) : refs (l.set i (a, y)) = refs l := by
  unfold refs
  apply List.ext_getElem?
  intro j
  rw [List.getElem?_map, List.getElem?_map, List.getElem?_set]
  split
  · rename_i hj
    subst hj
    rw [if_pos (List.getElem?_eq_some_iff.mp e).1, e]; rfl
  · rfl
section
variable {s : FS} {R : Nodes} {h : Heap}
theorem on_hd (o : On (s.nodes ++ R) h) {f a : Nat} {k k' : List (Val × Val)} (e : s.hd[f]? = some (a, k)) : On ({ s with hd := s.hd.set f (a, k') }.nodes ++ R) (h.set a (.dct k')) := by
  have e1 : (s.hd.map dN)[f]? = some (dN (a, k)) := by rw [List.getElem?_map, e]; rfl
  have e2 : (s.nodes ++ R)[8 + f]? = some (a, .dct k) := app_l (app_at rfl (app_l e1))
  have e3 := app_l (B := s.ws.map vN ++ (s.os.map iN ++ s.ls.map iN)) e1
  have z := o.set e2 (.dct k')
  have q : (s.nodes ++ R).set (8 + f) (a, .dct k') = { s with hd := s.hd.set f (a, k') }.nodes ++ R := by
    rw [app_setl (show s.nodes[8 + f]? = _ from app_at (A := s.base) rfl e3)]
    unfold FS.nodes
    rw [app_setr (A := s.base) (n := 8) rfl, app_setl e1]
    simp only [FS.base, FS.obj, List.map_set, refs_set e]
    rfl
  rw [q] at z
  exact z
theorem on_os (o : On (s.nodes ++ R) h) {f a : Nat} {k k' : List Int} (e : s.os[f]? = some (a, k)) : On ({ s with os := s.os.set f (a, k') }.nodes ++ R) (h.set a (.lst (k'.map Val.int))) := by
  have e1 : (s.os.map iN)[f]? = some (iN (a, k)) := by rw [List.getElem?_map, e]; rfl
  have e3 := app_l (B := s.ls.map iN) e1
  have e4 := app_at (A := s.ws.map vN) (n := s.ws.length) (by simp) e3
  have e5 := app_at (A := s.hd.map dN) (n := s.hd.length) (by simp) e4
  have e6 : s.nodes[8 + _]? = _ := app_at (A := s.base) (n := 8) rfl e5
  have z := o.set (app_l (B := R) e6) (.lst (k'.map Val.int))
  have q : (s.nodes ++ R).set (8 + (s.hd.length + (s.ws.length + f))) (a, .lst (k'.map Val.int)) = { s with os := s.os.set f (a, k') }.nodes ++ R := by
    rw [app_setl e6]
    unfold FS.nodes
    rw [app_setr (A := s.base) (n := 8) rfl, app_setr (n := s.hd.length) (by simp), app_setr (n := s.ws.length) (by simp), app_setl e1]
    simp only [FS.base, FS.obj, List.map_set, refs_set e]
    rfl
  rw [q] at z
  exact z
theorem on_ws (o : On (s.nodes ++ R) h) {f a : Nat} {k k' : List Val} (e : s.ws[f]? = some (a, k)) : On ({ s with ws := s.ws.set f (a, k') }.nodes ++ R) (h.set a (.lst k')) := by
  have e1 : (s.ws.map vN)[f]? = some (vN (a, k)) := by rw [List.getElem?_map, e]; rfl
  have e4 := app_l (B := s.os.map iN ++ s.ls.map iN) e1
  have e5 := app_at (A := s.hd.map dN) (n := s.hd.length) (by simp) e4
  have e6 : s.nodes[8 + _]? = _ := app_at (A := s.base) (n := 8) rfl e5
  have z := o.set (app_l (B := R) e6) (.lst k')
  have q : (s.nodes ++ R).set (8 + (s.hd.length + f)) (a, .lst k') = { s with ws := s.ws.set f (a, k') }.nodes ++ R := by
    rw [app_setl e6]
    unfold FS.nodes
    rw [app_setr (A := s.base) (n := 8) rfl, app_setr (n := s.hd.length) (by simp), app_setl e1]
    simp only [FS.base, FS.obj, List.map_set, refs_set e]
    rfl
  rw [q] at z
  exact z
theorem on_of (o : On (s.nodes ++ R) h) (d : List (Val × Val)) : On ({ s with offers := d }.nodes ++ R) (h.set s.OF (.dcT d)) := by
  have z := o.set (i := 5) (a := s.OF) (x := .dcT s.offers) rfl (.dcT d)
  exact z
theorem on_wa (o : On (s.nodes ++ R) h) (d : List Val) : On ({ s with wanted := d }.nodes ++ R) (h.set s.WA (.lst d)) := by
  have z := o.set (i := 6) (a := s.WA) (x := .lst s.wanted) rfl (.lst d)
  exact z
/-- a row of words anew: a new list -/
theorem on_wnew (o : On (s.nodes ++ R) h) {f a a' : Nat} {k k' : List Val} (e : s.ws[f]? = some (a, k)) (ea : h[a']? = some (.lst k')) (hn : ∀ p ∈ s.nodes ++ R, p.1 ≠ a') :
    On ({ s with ws := s.ws.set f (a', k') }.nodes ++ R) (h.set s.WL (.lst (refs (s.ws.set f (a', k'))))) := by
  have e1 : (s.ws.map vN)[f]? = some (vN (a, k)) := by rw [List.getElem?_map, e]; rfl
  have e4 := app_l (B := s.os.map iN ++ s.ls.map iN) e1
  have e5 := app_at (A := s.hd.map dN) (n := s.hd.length) (by simp) e4
  have e6 : s.nodes[8 + _]? = _ := app_at (A := s.base) (n := 8) rfl e5
  have z := o.repl (app_l (B := R) e6) ea hn
  have q : (s.nodes ++ R).set (8 + (s.hd.length + f)) (a', .lst k') = s.base ++ (s.hd.map dN ++ ((s.ws.set f (a', k')).map vN ++ (s.os.map iN ++ s.ls.map iN))) ++ R := by
    rw [app_setl e6]
    unfold FS.nodes
    rw [app_setr (A := s.base) (n := 8) rfl, app_setr (n := s.hd.length) (by simp), app_setl e1]
    simp only [List.map_set]
    rfl
  rw [q] at z
  exact z.set (i := 3) (a := s.WL) (x := .lst (refs s.ws)) rfl (.lst (refs (s.ws.set f (a', k'))))
theorem on_lnew (o : On (s.nodes ++ R) h) {f a a' : Nat} {k k' : List Int} (e : s.ls[f]? = some (a, k)) (ea : h[a']? = some (.lst (k'.map Val.int))) (hn : ∀ p ∈ s.nodes ++ R, p.1 ≠ a') :
    On ({ s with ls := s.ls.set f (a', k') }.nodes ++ R) (h.set s.LO (.lst (refs (s.ls.set f (a', k'))))) := by
  have e1 : (s.ls.map iN)[f]? = some (iN (a, k)) := by rw [List.getElem?_map, e]; rfl
  have e3 := app_at (A := s.os.map iN) (n := s.os.length) (by simp) e1
  have e4 := app_at (A := s.ws.map vN) (n := s.ws.length) (by simp) e3
  have e5 := app_at (A := s.hd.map dN) (n := s.hd.length) (by simp) e4
  have e6 : s.nodes[8 + _]? = _ := app_at (A := s.base) (n := 8) rfl e5
  have z := o.repl (app_l (B := R) e6) ea hn
  have q : (s.nodes ++ R).set (8 + (s.hd.length + (s.ws.length + (s.os.length + f)))) (a', .lst (k'.map Val.int)) = s.base ++ (s.hd.map dN ++ (s.ws.map vN ++ (s.os.map iN ++ (s.ls.set f (a', k')).map iN))) ++ R := by
    rw [app_setl e6]
    unfold FS.nodes
    rw [app_setr (A := s.base) (n := 8) rfl, app_setr (n := s.hd.length) (by simp), app_setr (n := s.ws.length) (by simp), app_setr (n := s.os.length) (by simp)]
    simp only [List.map_set]
    rfl
  rw [q] at z
  exact z.set (i := 7) (a := s.LO) (x := .lst (refs s.ls)) rfl (.lst (refs (s.ls.set f (a', k'))))
end
end Lw

set_option Elab.async false
set_option linter.all false
set_option autoImplicit false
set_option maxHeartbeats 4000000
set_option maxRecDepth 100000
namespace Lw
open PyM
theorem bSum_map {α : Type} {a : Nat} {h : Heap} {xs : List α} {b : α → Int} (e : h[a]? = some (.lst (xs.map fun x => .int (b x)))) : bSum [.ref a] h = .ok (.int (xs.map b).sum) h := by
  refine eq_of_wR ?_
  rw [wR_bSum]
  simp [seqOf_at e, optAll_int]
def FS.hdk (s : FS) (f : Nat) : List (Val × Val) := ((s.hd[f]?).map (·.2)).getD []
def FS.hda (s : FS) (f : Nat) : Nat := ((s.hd[f]?).map (·.1)).getD 0
def FS.ord (s : FS) (e : Nat) : List Int := ((s.os[e]?).map (·.2)).getD []
def FS.oa (s : FS) (e : Nat) : Nat := ((s.os[e]?).map (·.1)).getD 0
def FS.wd (s : FS) (f : Nat) : List Val := ((s.ws[f]?).map (·.2)).getD []
def FS.wa (s : FS) (f : Nat) : Nat := ((s.ws[f]?).map (·.1)).getD 0
def FS.lo (s : FS) (e : Nat) : List Int := ((s.ls[e]?).map (·.2)).getD []
def FS.la (s : FS) (e : Nat) : Nat := ((s.ls[e]?).map (·.1)).getD 0
def FS.shr (s : FS) (e : Nat) : Int := s.shares.getD e 0
def FS.len (s : FS) (e : Nat) : Int := (s.ord e).length
def FS.lft (s : FS) : Int := s.many - ((List.range 4).map s.len).sum
def FS.unf (s : FS) : Int := ((List.range 4).map fun e => if s.shr e - s.len e > 0 then s.shr e - s.len e else 0).sum
def FS.mhm (s : FS) (e : Nat) : Bool := decide (s.len e < s.shr e) || decide (s.unf < s.lft)
def FS.fre (s : FS) : List Nat := (List.range s.many).filter fun f => (s.hdk f).isEmpty
def FS.rt (s : FS) (e f : Nat) : Val := (lookV (s.hdk f) (.int e)).getD .non
def FS.wt (s : FS) (e : Nat) : Val := s.wanted.getD e .non
theorem getD_map {α β : Type} {l : List α} {i : Nat} (g : α → β) (d : β) (h : i < l.length) : ((l[i]?).map g).getD d = g l[i] := by
  rw [List.getElem?_eq_getElem h]; rfl
section
variable {s : FS} {h h' : Heap} {e f : Nat}
theorem FS.hd_at (s : FS) (hf : f < s.hd.length) : s.hd[f]? = some (s.hda f, s.hdk f) := by
  unfold FS.hda FS.hdk
  rw [getD_map _ _ hf, getD_map _ _ hf, List.getElem?_eq_getElem hf]
theorem FS.os_at (s : FS) (hf : f < s.os.length) : s.os[f]? = some (s.oa f, s.ord f) := by
  unfold FS.oa FS.ord
  rw [getD_map _ _ hf, getD_map _ _ hf, List.getElem?_eq_getElem hf]
theorem FS.ws_at (s : FS) (hf : f < s.ws.length) : s.ws[f]? = some (s.wa f, s.wd f) := by
  unfold FS.wa FS.wd
  rw [getD_map _ _ hf, getD_map _ _ hf, List.getElem?_eq_getElem hf]
theorem FS.ls_at (s : FS) (hf : f < s.ls.length) : s.ls[f]? = some (s.la f, s.lo f) := by
  unfold FS.la FS.lo
  rw [getD_map _ _ hf, getD_map _ _ hf, List.getElem?_eq_getElem hf]
theorem refs_at {α : Type} {l : List (Nat × α)} {i a : Nat} {x : α} (e : l[i]? = some (a, x)) : L2.atI (refs l) (i : Int) = some (.ref a) := by
  rw [atI_cast]; unfold refs; rw [List.getElem?_map, e]; rfl
theorem isF (r : Fd s h) : isIns 0 (.ref s.F) h = true := by
  have := r.eF; unfold FS.obj at this; simp [isIns, this]
theorem gF0 (r : Fd s h) : getF 0 (.ref s.F) h = .ok (.int s.many) h := by have := r.eF; unfold FS.obj at this; simp [getF, this, lookF]
theorem gF1 (r : Fd s h) : getF 1 (.ref s.F) h = .ok (.ref s.sh) h := by have := r.eF; unfold FS.obj at this; simp [getF, this, lookF]
theorem gF2 (r : Fd s h) : getF 2 (.ref s.F) h = .ok (.ref s.HL) h := by have := r.eF; unfold FS.obj at this; simp [getF, this, lookF]
theorem gF3 (r : Fd s h) : getF 3 (.ref s.F) h = .ok (.ref s.WL) h := by have := r.eF; unfold FS.obj at this; simp [getF, this, lookF]
theorem gF4 (r : Fd s h) : getF 4 (.ref s.F) h = .ok (.ref s.OL) h := by have := r.eF; unfold FS.obj at this; simp [getF, this, lookF]
theorem gF5 (r : Fd s h) : getF 5 (.ref s.F) h = .ok (.ref s.OF) h := by have := r.eF; unfold FS.obj at this; simp [getF, this, lookF]
theorem gF6 (r : Fd s h) : getF 6 (.ref s.F) h = .ok (.ref s.WA) h := by have := r.eF; unfold FS.obj at this; simp [getF, this, lookF]
theorem gF7 (r : Fd s h) : getF 7 (.ref s.F) h = .ok (.ref s.LO) h := by have := r.eF; unfold FS.obj at this; simp [getF, this, lookF]
theorem share_ok (K : FOk s) (r : Fd s h) (he : e < 4) : m_Frames_share [.ref s.F, .int e] h = .ok (.int (s.shr e)) h := by
  have ea : L2.atI (s.shares.map Val.int) (e : Int) = some (.int (s.shr e)) := by
    rw [atI_cast, List.getElem?_map, List.getElem?_eq_getElem (by have := K.sh; omega)]
    unfold FS.shr
    rw [List.getD_eq_getElem?_getD, List.getElem?_eq_getElem (by have := K.sh; omega)]; rfl
  refine eq_of_wR ?_
  unfold m_Frames_share
  refine wRB rfl ?_
  simp [gF1 r, r.eS, ea, -wR_getF]
theorem charge_ok (K : FOk s) (r : Fd s h) (he : e < 4) : m_Frames_charge [.ref s.F, .int e] h = .ok (.int (s.len e)) h := by
  have ho := s.os_at (f := e) (by have := K.os; omega)
  refine eq_of_wR ?_
  unfold m_Frames_charge
  refine wRB rfl ?_
  simp [gF4 r, r.eO, refs_at ho, r.os _ _ _ ho, FS.len, -wR_getF]
theorem left_ok (K : FOk s) (r : Fd s h) : ∃ h', m_Frames_left [.ref s.F] h = .ok (.int s.lft) h' ∧ Ext h h' := by
  have w : wR (m_Frames_left [.ref s.F] h) (fun _ _ => False) fun x h' => x = .int s.lft ∧ Ext h h' := by
    unfold m_Frames_left
    refine wRB rfl ?_
    have ll := lim8
    have lr : (refs s.os).length = 4 := by simp [refs, K.os]
    simp [gF0 r, -wR_getF, -wR_bSum]
    refine wR_iAltE (h1 := h) (a := s.OL) (xs := refs s.os) ?_ r.eO ?_
    · show mU (getF 4) (mV 0) _ h = _
      simp [mU, mV, Res.bind, gF4 r]
    · refine wR_lcXi (fun i => .int (s.len i)) (show (refs s.os).length < lim by omega) (fun h' ex => lstIs_at (ex.at r.eO)) (fun i x h' hx ex => ⟨_, rfl, ?_⟩) (fun h1 ex el => ?_)
      · have hx : (refs s.os)[i]? = some x := hx
        have hi : i < 4 := by have := (List.getElem?_eq_some_iff.mp hx).1; omega
        have ho := s.os_at (f := i) (by have := K.os; omega)
        have hx' : x = .ref (s.oa i) := by
          unfold refs at hx
          rw [List.getElem?_map, ho] at hx
          simpa using hx.symm
        subst hx'
        simp [wipeE, ex.at (r.os _ _ _ ho), FS.len]
        exact Ext.refl _
      · rw [lr] at el
        refine wR_eq (bSum_map el) ?_
        exact ⟨rfl, ex⟩
  obtain ⟨x, h', e, rfl, q⟩ := ex_of_wR w
  exact ⟨h', e, q⟩
theorem mhm_ok (K : FOk s) (r : Fd s h) (he : e < 4) : ∃ h', m_Frames_may_hold_more [.ref s.F, .int e] h = .ok (.bl (s.mhm e)) h' ∧ Ext h h' := by
  have w : wR (m_Frames_may_hold_more [.ref s.F, .int e] h) (fun _ _ => False) fun x h' => x = .bl (s.mhm e) ∧ Ext h h' := by
    unfold m_Frames_may_hold_more FS.mhm
    refine wRB rfl ?_
    have ll := lim8
    by_cases c : s.len e < s.shr e
    · simp [isF r, charge_ok K r he, share_ok K r he, c]
      exact Ext.refl _
    · simp [isF r, charge_ok K r he, share_ok K r he, c, -wR_bSum]
      refine wR_lcXi (fun i => .int (if s.shr i - s.len i > 0 then s.shr i - s.len i else 0)) (by rw [rangeV_length]; omega) (fun _ _ => rfl) (fun i x h' hx ex => ⟨_, rfl, ?_⟩) (fun h1 ex el => ?_)
      · rw [rangeV_get] at hx
        split at hx
        · rename_i hi
          cases hx
          have r' := r.ext ex
          have ea : L2.atI (s.shares.map Val.int) (i : Int) = some (.int (s.shr i)) := by
            rw [atI_cast, List.getElem?_map, List.getElem?_eq_getElem (by have := K.sh; omega)]
            unfold FS.shr
            rw [List.getD_eq_getElem?_getD, List.getElem?_eq_getElem (by have := K.sh; omega)]; rfl
          simp [wipeE, gF1 r', r'.eS, ea, isF r', charge_ok K r' hi, -wR_getF]
          exact Ext.refl _
        · cases hx
      · rw [rangeV_length] at el
        have r' := r.ext ex
        obtain ⟨h2, e2, x2⟩ := left_ok K r'
        simp [gV, isF r', e2, -wR_bSum]
        refine wR_eq (bSum_map (x2.at el)) ?_
        simp [FS.unf]
        exact ex.trans x2
  obtain ⟨x, h', e, rfl, q⟩ := ex_of_wR w
  exact ⟨h', e, q⟩
theorem filter_range {n : Nat} {p : Val → Bool} {b : Nat → Bool} (hp : ∀ i < n, p (.int (i : Nat)) = b i) : (rangeV 0 n).filter p = ((List.range n).filter b).map fun (i : Nat) => Val.int i := by
  unfold rangeV
  rw [List.filter_map]
  have : (List.range n).filter (p ∘ fun (i : Nat) => Val.int (0 + i)) = (List.range n).filter b := by
    apply List.filter_congr
    intro i hi
    show p (.int (0 + i)) = b i
    rw [Int.zero_add]
    exact hp i (List.mem_range.mp hi)
  rw [this]
  apply List.map_congr_left
  intro i _
  simp
theorem free_ok (K : FOk s) (r : Fd s h) : ∃ a h', m_Frames_free [.ref s.F] h = .ok (.ref a) h' ∧ Ext h h' ∧ h'[a]? = some (.lst (s.fre.map fun (i : Nat) => Val.int i)) := by
  have w : wR (m_Frames_free [.ref s.F] h) (fun _ _ => False) fun x h' => ∃ a, x = .ref a ∧ Ext h h' ∧ h'[a]? = some (.lst (s.fre.map fun (i : Nat) => Val.int i)) := by
    unfold m_Frames_free
    refine wRB rfl ?_
    have ll := lim8
    have hm := K.m1
    simp [gF0 r, -wR_getF, show -4611686018427387904 ≤ (s.many : Int) ∧ (s.many : Int) < 4611686018427387904 by omega]
    refine wR_lcX (fun x => match x with | .int i => (s.hdk i.toNat).isEmpty | _ => false) (fun x => x) (by rw [rangeV_length]; omega) (fun _ _ => rfl) (fun x h' hx ex => ⟨_, rfl, ?_⟩) (fun h1 ex el => ?_)
    · obtain ⟨i, hi⟩ := List.mem_iff_getElem?.mp hx
      rw [rangeV_get] at hi
      split at hi
      · rename_i hlt
        cases hi
        have r' := r.ext ex
        have hd := s.hd_at (f := i) (by have := K.hd; omega)
        simp [wipeE, gF2 r', r'.eH, refs_at hd, r'.hd _ _ _ hd, truth, -wR_getF]
        first
          | exact ⟨Ext.refl _, fun _ => Ext.refl _⟩
          | exact fun _ => Ext.refl _
          | exact Ext.refl _
          | trace_state
      · cases hi
    · rw [List.map_id', filter_range (b := fun f => (s.hdk f).isEmpty) (fun i _ => by simp)] at el
      first
        | exact ⟨_, rfl, ex, el⟩
        | exact ⟨ex, el⟩
  obtain ⟨x, h', e, a, rfl, q⟩ := ex_of_wR w
  exact ⟨a, h', e, q⟩
theorem isframe_ok (K : FOk s) (r : Fd s h) {f : Int} : m_Frames_is_frame [.ref s.F, .int f] h = .ok (.bl (decide (0 ≤ f) && decide (f < s.many))) h := by
  have : m_is_number [.int f] h = .ok (.bl true) h := rfl
  refine eq_of_wR ?_
  unfold m_Frames_is_frame
  refine wRB rfl ?_
  by_cases c : 0 ≤ f
  · simp [this, c, gF0 r, -wR_getF]
  · simp [this, c]
theorem right_ok (K : FOk s) (r : Fd s h) (hf : f < s.many) : m_Frames_right [.ref s.F, .int e, .int f] h = .ok (s.rt e f) h := by
  have hd := s.hd_at (f := f) (by have := K.hd; omega)
  have i1 := isframe_ok K r (f := (f : Int))
  have : (decide ((0 : Int) ≤ f) && decide ((f : Int) < s.many)) = true := by simp; omega
  rw [this] at i1
  refine eq_of_wR ?_
  unfold m_Frames_right
  refine wRB rfl ?_
  simp [isF r, i1, truth, gF2 r, r.eH, refs_at hd, isD_dct (r.hd _ _ _ hd), dGet_at (y := .int e) (z := .non) (r.hd _ _ _ hd) rfl, FS.rt, -wR_getF]
theorem isenv_ok {i : Int} : m_is_environment [.int i] h = .ok (.bl (decide (0 ≤ i) && decide (i < 4))) h := by
  have : m_is_number [.int i] h = .ok (.bl true) h := rfl
  refine eq_of_wR ?_
  unfold m_is_environment
  refine wRB rfl ?_
  by_cases c : 0 ≤ i
  · simp [this, c]
  · simp [this, c]
def incl (a b : Nat) : Bool := decide (a = b) || (decide (a = 0) && decide (b = 1))
theorem includes_ok {a b : Nat} : m_includes [.str a, .str b] h = .ok (.bl (incl a b)) h := by
  refine eq_of_wR ?_
  unfold m_includes incl
  refine wRB rfl ?_
  by_cases c : a = b
  · simp [c]
  · by_cases c2 : a = 0
    · subst c2
      simp [c]
      rw [Bool.eq_iff_iff]; simp
    · simp [c, c2]
end
end Lw

set_option Elab.async false
set_option linter.all false
set_option autoImplicit false
set_option maxHeartbeats 4000000
set_option maxRecDepth 100000
namespace Lw
open PyM
def FS.sHd (s : FS) (f : Nat) (k : List (Val × Val)) : FS := { s with hd := s.hd.set f (s.hda f, k) }
def FS.sOs (s : FS) (e : Nat) (k : List Int) : FS := { s with os := s.os.set e (s.oa e, k) }
def FS.sWs (s : FS) (f : Nat) (k : List Val) : FS := { s with ws := s.ws.set f (s.wa f, k) }
def FS.nWs (s : FS) (f a : Nat) (k : List Val) : FS := { s with ws := s.ws.set f (a, k) }
def FS.nLs (s : FS) (e a : Nat) (k : List Int) : FS := { s with ls := s.ls.set e (a, k) }
def FS.sOf (s : FS) (d : List (Val × Val)) : FS := { s with offers := d }
def FS.sWa (s : FS) (d : List Val) : FS := { s with wanted := d }
section
variable {s : FS} {R : Nodes} {h h' : Heap} {e f a : Nat}
theorem FOk.sHd (K : FOk s) {k : List (Val × Val)} : FOk (s.sHd f k) := { K with hd := by simp [FS.sHd, K.hd] }
theorem FOk.sOs (K : FOk s) {k : List Int} : FOk (s.sOs f k) := { K with os := by simp [FS.sOs, K.os] }
theorem FOk.sWs (K : FOk s) {k : List Val} : FOk (s.sWs f k) := { K with ws := by simp [FS.sWs, K.ws] }
theorem FOk.nWs (K : FOk s) {k : List Val} : FOk (s.nWs f a k) := { K with ws := by simp [FS.nWs, K.ws] }
theorem FOk.nLs (K : FOk s) {k : List Int} : FOk (s.nLs f a k) := { K with ls := by simp [FS.nLs, K.ls] }
theorem FOk.sOf (K : FOk s) {d : List (Val × Val)} : FOk (s.sOf d) := { K with }
theorem FOk.sWa (K : FOk s) {d : List Val} (hd : d.length = 4) : FOk (s.sWa d) := { K with wa := hd }
theorem hdk_sHd {k : List (Val × Val)} {g : Nat} (hf : f < s.hd.length) : (s.sHd f k).hdk g = if g = f then k else s.hdk g := by
  unfold FS.hdk FS.sHd
  simp only [List.getElem?_set]
  by_cases c : f = g
  · subst c; simp [hf]
  · rw [if_neg c, if_neg (Ne.symm c)]
theorem ord_sOs {k : List Int} {g : Nat} (hf : f < s.os.length) : (s.sOs f k).ord g = if g = f then k else s.ord g := by
  unfold FS.ord FS.sOs
  simp only [List.getElem?_set]
  by_cases c : f = g
  · subst c; simp [hf]
  · rw [if_neg c, if_neg (Ne.symm c)]
theorem lo_nLs {k : List Int} {g : Nat} (hf : f < s.ls.length) : (s.nLs f a k).lo g = if g = f then k else s.lo g := by
  unfold FS.lo FS.nLs
  simp only [List.getElem?_set]
  by_cases c : f = g
  · subst c; simp [hf]
  · rw [if_neg c, if_neg (Ne.symm c)]
theorem wd_nWs {k : List Val} {g : Nat} (hf : f < s.ws.length) : (s.nWs f a k).wd g = if g = f then k else s.wd g := by
  unfold FS.wd FS.nWs
  simp only [List.getElem?_set]
  by_cases c : f = g
  · subst c; simp [hf]
  · rw [if_neg c, if_neg (Ne.symm c)]
theorem wd_sWs {k : List Val} {g : Nat} (hf : f < s.ws.length) : (s.sWs f k).wd g = if g = f then k else s.wd g := wd_nWs hf
theorem wt_sWa {d : List Val} {g : Nat} : (s.sWa d).wt g = d.getD g .non := rfl
theorem on_sHd (o : On (s.nodes ++ R) h) (hf : f < s.hd.length) (k : List (Val × Val)) : On ((s.sHd f k).nodes ++ R) (h.set (s.hda f) (.dct k)) := on_hd o (s.hd_at hf)
theorem on_sOs (o : On (s.nodes ++ R) h) (hf : f < s.os.length) (k : List Int) : On ((s.sOs f k).nodes ++ R) (h.set (s.oa f) (.lst (k.map Val.int))) := on_os o (s.os_at hf)
theorem on_sWs (o : On (s.nodes ++ R) h) (hf : f < s.ws.length) (k : List Val) : On ((s.sWs f k).nodes ++ R) (h.set (s.wa f) (.lst k)) := on_ws o (s.ws_at hf)
theorem refs_upd {α : Type} {l : List (Nat × α)} {i a : Nat} {x : α} : refs (l.set i (a, x)) = (refs l).set i (.ref a) := by unfold refs; rw [List.map_set]
theorem on_nWs (o : On (s.nodes ++ R) h) (hf : f < s.ws.length) {k : List Val} (ea : h[a]? = some (.lst k)) (hn : ∀ p ∈ s.nodes ++ R, p.1 ≠ a) : On ((s.nWs f a k).nodes ++ R) (h.set s.WL (.lst ((refs s.ws).set f (.ref a)))) := by
  have := on_wnew o (s.ws_at hf) ea hn
  rw [refs_upd] at this
  exact this
theorem on_nLs (o : On (s.nodes ++ R) h) (hf : f < s.ls.length) {k : List Int} (ea : h[a]? = some (.lst (k.map Val.int))) (hn : ∀ p ∈ s.nodes ++ R, p.1 ≠ a) : On ((s.nLs f a k).nodes ++ R) (h.set s.LO (.lst ((refs s.ls).set f (.ref a)))) := by
  have := on_lnew o (s.ls_at hf) ea hn
  rw [refs_upd] at this
  exact this
theorem on_young (o : On (s.nodes ++ R) h) (ha : h.length ≤ a) : ∀ p ∈ s.nodes ++ R, p.1 ≠ a := fun p hp q => by
  have := o.lt hp
  omega
def z8 : List Val := repV 8 [.int 0]
def FS.tk (s : FS) (e f a : Nat) : FS := ((s.nWs f a z8).sHd f (putV (s.hdk f) (.int e) (.str 0))).sOs e (s.ord e ++ [(f : Int)])
inductive TkR (s : FS) (e : Nat) : Val → FS → Prop
  | no : s.fre = [] ∨ s.mhm e = false → TkR s e .non s
  | yes {f a : Nat} {l : List Nat} : s.fre = f :: l → s.mhm e = true → TkR s e (.int f) (s.tk e f a)
theorem fre_lt {l : List Nat} (hf : s.fre = f :: l) : f < s.many ∧ s.hdk f = [] := by
  have : f ∈ s.fre := by rw [hf]; exact List.mem_cons_self
  unfold FS.fre at this
  obtain ⟨h1, h2⟩ := List.mem_filter.mp this
  exact ⟨List.mem_range.mp h1, by simpa using h2⟩
theorem keysOk2 {a b : Val} (h1 : isKey a = true) (h2 : isKey b = true) : keysOk [a, b] = true := by simp [keysOk, h1, h2]
theorem take_ok (K : FOk s) (o : On (s.nodes ++ R) h) (he : e < 4) (hl : (s.ord e).length < 1000) : ∃ v s' h', m_Frames_take [.ref s.F, .int e] h = .ok v h' ∧ TkR s e v s' ∧ On (s'.nodes ++ R) h' := by
  have w : wR (m_Frames_take [.ref s.F, .int e] h) (fun _ _ => False) fun v h' => ∃ s', TkR s e v s' ∧ On (s'.nodes ++ R) h' := by
    have ll := lim8
    have l1 : 1 ≤ lim := by omega
    have l8 : 8 ≤ lim := by omega
    have r := fr_of o
    obtain ⟨a1, h1, e1, x1, g1⟩ := free_ok K r
    have r1 := r.ext x1
    obtain ⟨h2, e2, x2⟩ := mhm_ok K r1 he
    have r2 := r1.ext x2
    have g2 := x2.at g1
    have o2 := (o.ext x1).ext x2
    unfold m_Frames_take
    refine wRB rfl ?_
    cases hf : s.fre with
    | nil =>
      rw [hf] at g1
      simp [isF r, e1, gV, truth, g1]
      exact ⟨s, .no (.inl hf), o.ext x1⟩
    | cons f l =>
      rw [hf] at g1 g2
      cases hm : s.mhm e with
      | false =>
        rw [hm] at e2
        simp [isF r, e1, gV, truth, g1, isF r1, e2]
        exact ⟨s, .no (.inr hm), o2⟩
      | true =>
        rw [hm] at e2
        obtain ⟨flt, fe⟩ := fre_lt hf
        have hws := K.ws
        have hhd := K.hd
        have hos := K.os
        have x3 : Ext h2 (h2 ++ [Obj.lst [.int 0], Obj.lst (repV 8 [.int 0])]) := ⟨_, rfl⟩
        have o3 := o2.ext x3
        have r3 := r2.ext x3
        have ea : (h2 ++ [Obj.lst [.int 0], Obj.lst (repV 8 [.int 0])])[h2.length + 1]? = some (.lst z8) := at_app 1 rfl rfl
        have hn : ∀ p ∈ s.nodes ++ R, p.1 ≠ h2.length + 1 := fun p hp q => by have := o2.lt hp; omega
        have o4 := on_nWs o3 (f := f) (by omega) ea hn
        have r4 := fr_of o4
        have q4 : ∀ g, (h2 ++ g)[a1]? = some (.lst ((f :: l).map fun (i : Nat) => Val.int i)) := fun g => at_push g2
        generalize hh4 : (h2 ++ [Obj.lst [.int 0], Obj.lst (repV 8 [.int 0])]).set s.WL (.lst ((refs s.ws).set f (.ref (h2.length + 1)))) = h4 at o4 r4
        have o5 := on_sHd o4 (f := f) (show f < s.hd.length by omega) (putV (s.hdk f) (.int e) (.str 0))
        have r5 := fr_of o5
        have eh4 : h4[s.hda f]? = some (.dct (s.hdk f)) := r4.hd f _ _ (s.hd_at (by omega))
        have el4 : h4[s.HL]? = some (.lst (refs s.hd)) := r4.eH
        have hda : (s.nWs f (h2.length + 1) z8).hda f = s.hda f := rfl
        rw [hda] at o5 r5
        generalize hh5 : h4.set (s.hda f) (.dct (putV (s.hdk f) (.int e) (.str 0))) = h5 at o5 r5
        have o6 := on_sOs o5 (f := e) (show e < s.os.length by omega) (s.ord e ++ [(f : Int)])
        have eo5 : h5[s.OL]? = some (.lst (refs s.os)) := r5.eO
        have eo6 : h5[s.oa e]? = some (.lst ((s.ord e).map Val.int)) := r5.os e _ _ (s.os_at (by omega))
        have lw : (refs s.ws).length = s.many := by simp [refs, K.ws]
        have g3 : getF 3 (.ref s.F) (h2 ++ [Obj.lst [.int 0], Obj.lst (repV 8 [.int 0])]) = .ok (.ref s.WL) _ := gF3 r3
        have g4 : getF 2 (.ref s.F) h4 = .ok (.ref s.HL) h4 := by have q := gF2 r4; exact q
        have g5 : getF 4 (.ref s.F) h5 = .ok (.ref s.OL) h5 := by have q := gF4 r5; exact q
        have kl : (s.hdk f).length < lim := by rw [fe]; simp; omega
        simp [isF r, e1, gV, truth, g1, isF r1, e2, g2, l1, l8, g3, r3.eW, ixN_cast, lw, flt, hh4, g4, el4, refs_at (s.hd_at (show f < s.hd.length by omega)), eh4, kl, hh5, g5, eo5, refs_at (s.os_at (show e < s.os.length by omega)), seqOf_at eo6, eo6, show (s.ord e).length < lim by omega, -wR_getF]
        refine ⟨s.tk e f (h2.length + 1), .yes hf hm, ?_⟩
        rw [List.map_append] at o6
        exact o6
  obtain ⟨v, h', e, s', q1, q2⟩ := ex_of_wR w
  exact ⟨v, s', h', e, q1, q2⟩
/-- offers -/
def FS.ofr (s : FS) (e f o r : Nat) : Bool := decide (o ≠ e) && (match s.rt e f with | .str q => incl q r | _ => false)
def key3 (a b c : Nat) : Val := .tup [.int a, .int b, .int c]
theorem keysOk3 {a b c : Nat} : keysOk [.int (a : Nat), .int (b : Nat), .int (c : Nat)] = true := by simp [keysOk, isKey]
theorem rights_in {r : Nat} (hr : r = 0 ∨ r = 1) : oIn true (.str r) c_RIGHTS h = .ok (.bl false) h := by
  rcases hr with rfl | rfl <;> rfl
/-- rights are None, "r" or "rw" -/
def RtS (s : FS) : Prop := ∀ e f, e < 4 → f < s.many → s.rt e f = .non ∨ ∃ q, s.rt e f = .str q
theorem offer_ok (K : FOk s) (Rs : RtS s) (o : On (s.nodes ++ R) h) {e f w r : Nat} (he : e < 4) (hw : w < 4) (hf : f < s.many) (hr : r = 0 ∨ r = 1) (hl : s.offers.length < 100000) :
    ∃ h', m_Frames_offer [.ref s.F, .int e, .int f, .int w, .str r] h = .ok (.bl (s.ofr e f w r)) h' ∧ On ((if s.ofr e f w r = true then s.sOf (putV s.offers (key3 e f w) (.str r)) else s).nodes ++ R) h' := by
  have wi : wR (m_Frames_offer [.ref s.F, .int e, .int f, .int w, .str r] h) (fun _ _ => False) fun v h' => v = .bl (s.ofr e f w r) ∧ On ((if s.ofr e f w r = true then s.sOf (putV s.offers (key3 e f w) (.str r)) else s).nodes ++ R) h' := by
    have ll := lim8
    have rr := fr_of o
    have e1 := isenv_ok (h := h) (i := (w : Int))
    have e1' : (decide ((0 : Int) ≤ w) && decide ((w : Int) < 4)) = true := by simp; omega
    rw [e1'] at e1
    have e2 := right_ok K rr (e := e) hf
    have e3 := rights_in (h := h) hr
    unfold m_Frames_offer FS.ofr
    refine wRB rfl ?_
    by_cases c : w = e
    · subst c
      simp [e1, truth]
      exact o
    · have c' : ¬ ((w : Int) = e) := by omega
      rcases Rs e f he hf with q | ⟨q, hq⟩
      · rw [q] at e2
        simp [e1, truth, c, c', e3, isF rr, e2, gV, q]
        exact o
      · rw [hq] at e2
        have e4 := includes_ok (h := h) (a := q) (b := r)
        cases hi : incl q r with
        | false =>
          rw [hi] at e4
          simp [e1, truth, c, c', e3, isF rr, e2, gV, hq, hi, e4]
          exact o
        | true =>
          rw [hi] at e4
          have z := on_of o (putV s.offers (key3 e f w) (.str r))
          simp [e1, truth, c, c', e3, isF rr, e2, gV, hq, hi, e4, gF5 rr, tSet_at rr.eF5 keysOk3 (show s.offers.length < lim by omega), -wR_getF]
          exact z
  obtain ⟨v, h', e, rfl, q⟩ := ex_of_wR wi
  exact ⟨h', e, q⟩
/-- accepting -/
def FS.acc (s : FS) (e f w : Nat) : Bool := match lookV s.offers (key3 w f e), s.rt w f with
  | some (.str r), .str q => incl q r && (decide (s.rt e f = .non) && s.mhm e)
  | _, _ => false
def FS.ac (s : FS) (e f w : Nat) : FS := ((s.sOf (dropV s.offers (key3 w f e))).sHd f (putV (s.hdk f) (.int e) ((lookV s.offers (key3 w f e)).getD .non))).sOs e (s.ord e ++ [(f : Int)])
def OfS (s : FS) : Prop := ∀ k v, lookV s.offers k = some v → ∃ r, v = .str r
theorem accept_ok (K : FOk s) (Rs : RtS s) (Os : OfS s) (o : On (s.nodes ++ R) h) {e f w : Nat} (he : e < 4) (hw : w < 4) (hf : f < s.many) (hl : (s.ord e).length < 1000) (hl2 : (s.hdk f).length < 1000) :
    ∃ h', m_Frames_accept [.ref s.F, .int e, .int f, .int w] h = .ok (.bl (s.acc e f w)) h' ∧ On ((if s.acc e f w = true then s.ac e f w else s).nodes ++ R) h' := by
  have wi : wR (m_Frames_accept [.ref s.F, .int e, .int f, .int w] h) (fun _ _ => False) fun v h' => v = .bl (s.acc e f w) ∧ On ((if s.acc e f w = true then s.ac e f w else s).nodes ++ R) h' := by
    have ll := lim8
    have rr := fr_of o
    have e0 := isframe_ok K rr (f := (f : Int))
    have e0' : (decide ((0 : Int) ≤ f) && decide ((f : Int) < s.many)) = true := by simp; omega
    rw [e0'] at e0
    have e1 := isenv_ok (h := h) (i := (w : Int))
    have e1' : (decide ((0 : Int) ≤ w) && decide ((w : Int) < 4)) = true := by simp; omega
    rw [e1'] at e1
    have e2 := right_ok K rr (e := w) hf
    have e5 := right_ok K rr (e := e) hf
    have eg := tGet_at (z := .non) rr.eF5 (keysOk3 (a := w) (b := f) (c := e))
    have ek : Val.tup [.int (w : Nat), .int (f : Nat), .int (e : Nat)] = key3 w f e := rfl
    rw [ek] at eg
    have dd := isD_dcT rr.eF5
    unfold m_Frames_accept FS.acc
    refine wRB rfl ?_
    cases hlk : lookV s.offers (key3 w f e) with
    | none =>
      rw [hlk] at eg
      simp [isF rr, e0, truth, e1, gF5 rr, dd, eg, gV, e2, -wR_getF]
      exact o
    | some v =>
      obtain ⟨r, rfl⟩ := Os _ _ hlk
      rw [hlk] at eg
      rcases Rs w f hw hf with q | ⟨q, hq⟩
      · rw [q] at e2
        simp [isF rr, e0, truth, e1, gF5 rr, dd, eg, gV, e2, q, -wR_getF]
        exact o
      · rw [hq] at e2
        have e4 := includes_ok (h := h) (a := q) (b := r)
        cases hi : incl q r with
        | false =>
          rw [hi] at e4
          simp [isF rr, e0, truth, e1, gF5 rr, dd, eg, gV, e2, hq, hi, e4, -wR_getF]
          exact o
        | true =>
          rw [hi] at e4
          rcases Rs e f he hf with q5 | ⟨q5, hq5⟩
          · rw [q5] at e5
            obtain ⟨h1, e6, x1⟩ := mhm_ok K rr he
            cases hm : s.mhm e with
            | false =>
              rw [hm] at e6
              simp [isF rr, e0, truth, e1, gF5 rr, dd, eg, gV, e2, hq, hi, e4, e5, q5, e6, -wR_getF]
              exact o.ext x1
            | true =>
              rw [hm] at e6
              have hhd := K.hd
              have hos := K.os
              have r1 := rr.ext x1
              have o1 := o.ext x1
              have o2 := on_of o1 (dropV s.offers (key3 w f e))
              have ep := tPop1_at r1.eF5 (keysOk3 (a := w) (b := f) (c := e)) hlk
              rw [ek] at ep
              have dd1 := isD_dcT r1.eF5
              have g5 := gF5 r1
              generalize hh2 : h1.set s.OF (.dcT (dropV s.offers (key3 w f e))) = h2 at o2 ep
              have r2 := fr_of o2
              have g2 : getF 2 (.ref s.F) h2 = .ok (.ref s.HL) h2 := by have q := gF2 r2; exact q
              have eH : h2[s.HL]? = some (.lst (refs s.hd)) := r2.eH
              have hd0 := s.hd_at (f := f) (by omega)
              have eh : h2[s.hda f]? = some (.dct (s.hdk f)) := r2.hd f _ _ hd0
              have o3 := on_sHd o2 (f := f) (show f < s.hd.length by omega) (putV (s.hdk f) (.int e) (.str r))
              have hda : ({ s with offers := dropV s.offers (key3 w f e) } : FS).hda f = s.hda f := rfl
              rw [hda] at o3
              generalize hh3 : h2.set (s.hda f) (.dct (putV (s.hdk f) (.int e) (.str r))) = h3 at o3
              have r3 := fr_of o3
              have g4 : getF 4 (.ref s.F) h3 = .ok (.ref s.OL) h3 := by have q := gF4 r3; exact q
              have eO : h3[s.OL]? = some (.lst (refs s.os)) := r3.eO
              have ho0 := s.os_at (f := e) (by omega)
              have eo : h3[s.oa e]? = some (.lst ((s.ord e).map Val.int)) := r3.os e _ _ ho0
              have o4 := on_sOs o3 (f := e) (show e < s.os.length by omega) (s.ord e ++ [(f : Int)])
              rw [List.map_append] at o4
              simp [isF rr, e0, truth, e1, gF5 rr, dd, eg, gV, e2, hq, hi, e4, e5, q5, e6, g5, dd1, ep, g2, eH, refs_at hd0, eh, show (s.hdk f).length < lim by omega, hh3, g4, eO, refs_at ho0, seqOf_at eo, eo, show (s.ord e).length < lim by omega, -wR_getF]
              unfold FS.ac
              rw [hlk]
              exact o4
          · rw [hq5] at e5
            simp [isF rr, e0, truth, e1, gF5 rr, dd, eg, gV, e2, hq, hi, e4, e5, hq5, -wR_getF]
            exact o
  obtain ⟨v, h', e, rfl, q⟩ := ex_of_wR wi
  exact ⟨h', e, q⟩
end
end Lw

set_option Elab.async false
set_option linter.all false
set_option autoImplicit false
set_option maxHeartbeats 4000000
set_option maxRecDepth 100000
namespace Lw
open PyM
theorem asInt_map : ∀ zs : List Int, optAll asInt (zs.map Val.int) = some zs
  | [] => rfl
  | z :: zs => by simp [optAll, asInt, asInt_map zs]
theorem fixI_mem {i : Int} : ∀ {zs : List Int}, i ∈ zs → ∃ j, fixI i zs = some j ∧ zs.eraseIdx j = zs.erase i
  | [], h => by cases h
  | z :: zs, h => by
    by_cases c : z = i
    · exact ⟨0, by simp [fixI, c], by simp [c]⟩
    · obtain ⟨j, e1, e2⟩ := fixI_mem (zs := zs) (by
        rcases List.mem_cons.mp h with q | q
        · exact absurd q.symm c
        · exact q)
      refine ⟨j + 1, by simp [fixI, c, e1], ?_⟩
      rw [List.eraseIdx_cons_succ, e2, List.erase_cons_tail (by simpa using c)]
theorem erase_mapInt : ∀ (l : List Int) (j : Nat), (l.map Val.int).eraseIdx j = (l.eraseIdx j).map Val.int
  | [], _ => by simp
  | _ :: _, 0 => by simp
  | x :: l, j + 1 => by simp [erase_mapInt l j]
theorem bRemove_at {h : Heap} {a : Nat} {zs : List Int} {i : Int} (e : h[a]? = some (.lst (zs.map Val.int))) (hm : i ∈ zs) : bRemove (.ref a) [.int i] h = .ok .non (h.set a (.lst ((zs.erase i).map Val.int))) := by
  obtain ⟨j, e1, e2⟩ := fixI_mem hm
  unfold bRemove
  simp only [e, asInt_map, e1]
  rw [erase_mapInt, e2]
def dropOs (d : List (Val × Val)) (e f : Nat) : Nat → List (Val × Val)
  | 0 => d
  | n + 1 => dropV (dropOs d e f n) (key3 e f n)
theorem dropOs_len {d : List (Val × Val)} {e f : Nat} : ∀ n, (dropOs d e f n).length ≤ d.length
  | 0 => Nat.le_refl _
  | n + 1 => Nat.le_trans dropV_len (dropOs_len n)
def FS.eh (s : FS) (e f : Nat) : FS := ((s.sHd f (dropV (s.hdk f) (.int e))).sOs e ((s.ord e).erase (f : Int))).sOf (dropOs s.offers e f 4)
structure EhI (s : FS) (R : Nodes) (e f : Nat) (n : Nat) (s' : En) (h' : Heap) : Prop where
  k : ∃ a, s' = [some (.ref s.F), some (.int e), some (.int f), a]
  o : On ((((s.sHd f (dropV (s.hdk f) (.int e))).sOs e ((s.ord e).erase (f : Int))).sOf (dropOs s.offers e f n)).nodes ++ R) h'
section
variable {s : FS} {R : Nodes} {h h' : Heap} {e f a : Nat}
theorem FOk.eh (K : FOk s) : FOk (s.eh e f) := ((K.sHd).sOs).sOf
theorem end_ok (K : FOk s) (o : On (s.nodes ++ R) h) (he : e < 4) (hf : f < s.many) {x : Val} (hx : lookV (s.hdk f) (.int e) = some x) (hm : (f : Int) ∈ s.ord e) :
    ∃ h', m_Frames__end_holding [.ref s.F, .int e, .int f] h = .ok .non h' ∧ On ((s.eh e f).nodes ++ R) h' := by
  have wi : wR (m_Frames__end_holding [.ref s.F, .int e, .int f] h) (fun _ _ => False) fun v h' => v = .non ∧ On ((s.eh e f).nodes ++ R) h' := by
    have r := fr_of o
    have hhd := K.hd
    have hos := K.os
    have hd0 := s.hd_at (f := f) (by omega)
    have ep := dPop1_at (r.hd _ _ _ hd0) (y := .int e) rfl hx
    have o1 := on_sHd o (f := f) (by omega) (dropV (s.hdk f) (.int e))
    generalize hh1 : h.set (s.hda f) (.dct (dropV (s.hdk f) (.int e))) = h1 at ep o1
    have r1 := fr_of o1
    have g4 : getF 4 (.ref s.F) h1 = .ok (.ref s.OL) h1 := by have q := gF4 r1; exact q
    have eO : h1[s.OL]? = some (.lst (refs s.os)) := r1.eO
    have ho0 := s.os_at (f := e) (by omega)
    have eo : h1[s.oa e]? = some (.lst ((s.ord e).map Val.int)) := r1.os e _ _ ho0
    have er := bRemove_at eo hm
    have o2 := on_sOs o1 (f := e) (show e < s.os.length by omega) ((s.ord e).erase (f : Int))
    have hoa : (s.sHd f (dropV (s.hdk f) (.int e))).oa e = s.oa e := rfl
    rw [hoa] at o2
    generalize hh2 : h1.set (s.oa e) (.lst (((s.ord e).erase (f : Int)).map Val.int)) = h2 at er o2
    unfold m_Frames__end_holding
    refine wRB rfl ?_
    simp [gF2 r, r.eH, refs_at hd0, isD_dct (r.hd _ _ _ hd0), ep, g4, eO, refs_at ho0, seqOf_at eo, er, -wR_getF]
    refine wS_range (n := 4) (EhI s R e f) ⟨⟨_, rfl⟩, o2⟩ ?_ ?_
    · rintro i s' h3 hi ⟨⟨a, rfl⟩, o3⟩
      refine ⟨[some (.ref s.F), some (.int e), some (.int f), some (.int (i : Nat))], rfl, ?_⟩
      have r3 := fr_of o3
      have g5 : getF 5 (.ref s.F) h3 = .ok (.ref s.OF) h3 := by have q := gF5 r3; exact q
      have e5 : h3[s.OF]? = some (.dcT (dropOs s.offers e f i)) := r3.eF5
      have eq := tPop2_at (z := .non) e5 (keysOk3 (a := e) (b := f) (c := i))
      have o4 := on_of o3 (dropV (dropOs s.offers e f i) (key3 e f i))
      simp [g5, isD_dcT e5, eq, -wR_getF]
      exact ⟨⟨_, rfl⟩, o4⟩
    · rintro s' h3 ⟨⟨a, rfl⟩, o3⟩
      exact o3
  obtain ⟨v, h', e, rfl, q⟩ := ex_of_wR wi
  exact ⟨h', e, q⟩
theorem wt_at (K : FOk s) (he : e < 4) : s.wanted[e]? = some (s.wt e) := by
  unfold FS.wt
  rw [List.getD_eq_getElem?_getD, List.getElem?_eq_getElem (by have := K.wa; omega)]; rfl
theorem wtI (K : FOk s) (he : e < 4) : L2.atI s.wanted (e : Int) = some (s.wt e) := by rw [atI_cast]; exact wt_at K he
def FS.dr (s : FS) (e f : Nat) : FS := match s.wt e with
  | .tup [.int m, .int k] => (s.eh e f).sWa (s.wanted.set e (if m > 1 then .tup [.int (m - 1), .int k] else .non))
  | _ => s.eh e f
def WtS (s : FS) : Prop := ∀ e, e < 4 → s.wt e = .non ∨ ∃ m k, 1 ≤ m ∧ s.wt e = .tup [.int m, .int k]
theorem drop_ok (K : FOk s) (Rs : RtS s) (Ws : WtS s) (o : On (s.nodes ++ R) h) (he : e < 4) (hf : f < s.many) (hm : s.rt e f ≠ .non → (f : Int) ∈ s.ord e) :
    ∃ h', m_Frames_drop [.ref s.F, .int e, .int f] h = .ok (.bl (!decide (s.rt e f = .non))) h' ∧ On ((if s.rt e f = .non then s else s.dr e f).nodes ++ R) h' := by
  have wi : wR (m_Frames_drop [.ref s.F, .int e, .int f] h) (fun _ _ => False) fun v h' => v = .bl (!decide (s.rt e f = .non)) ∧ On ((if s.rt e f = .non then s else s.dr e f).nodes ++ R) h' := by
    have r := fr_of o
    have e1 := right_ok K r (e := e) hf
    have l2 : 2 ≤ lim := by decide
    unfold m_Frames_drop
    refine wRB rfl ?_
    rcases Rs e f he hf with q | ⟨q, hq⟩
    · rw [q] at e1
      simp [isF r, e1, q]
      exact o
    · have hn : s.rt e f ≠ .non := by rw [hq]; simp
      have hx : ∃ x, lookV (s.hdk f) (.int e) = some x := by
        unfold FS.rt at hn
        cases z : lookV (s.hdk f) (.int e) with
        | none => rw [z] at hn; exact absurd rfl hn
        | some x => exact ⟨x, rfl⟩
      obtain ⟨x, hx⟩ := hx
      rw [hq] at e1
      obtain ⟨h1, e2, o1⟩ := end_ok K o he hf hx (hm hn)
      have r1 := fr_of o1
      have g6 : getF 6 (.ref s.F) h1 = .ok (.ref s.WA) h1 := by have q := gF6 r1; exact q
      have eA : h1[s.WA]? = some (.lst s.wanted) := r1.eA
      have ew := wtI K he
      rcases Ws e he with w0 | ⟨m, k, m1, w0⟩
      · rw [w0] at ew
        simp [isF r, e1, hq, e2, g6, eA, ew, FS.dr, w0, -wR_getF]
        exact o1
      · rw [w0] at ew
        have hwa := K.wa
        have o2 := fun d => on_wa o1 d
        by_cases c : 1 < m
        · have z := o2 (s.wanted.set e (.tup [.int (m - 1), .int k]))
          simp [isF r, e1, hq, e2, g6, eA, ew, FS.dr, w0, gV, gT, gsCons, gsNil, c, l2, ixN_cast, hwa, he, -wR_getF]
          exact z
        · have z := o2 (s.wanted.set e .non)
          simp [isF r, e1, hq, e2, g6, eA, ew, FS.dr, w0, gV, gT, gsCons, gsNil, c, l2, ixN_cast, hwa, he, -wR_getF]
          exact z
  obtain ⟨v, h', e, rfl, q⟩ := ex_of_wR wi
  exact ⟨h', e, q⟩
def FS.nar (s : FS) (e f : Nat) : FS := s.sHd f (putV (s.hdk f) (.int e) (.str 1))
theorem narrow_ok (K : FOk s) (Rs : RtS s) (o : On (s.nodes ++ R) h) (he : e < 4) (hf : f < s.many) (hl : (s.hdk f).length < 1000) :
    ∃ h', m_Frames_narrow [.ref s.F, .int e, .int f] h = .ok (.bl (decide (s.rt e f = .str 0))) h' ∧ On ((if s.rt e f = .str 0 then s.nar e f else s).nodes ++ R) h' := by
  have wi : wR (m_Frames_narrow [.ref s.F, .int e, .int f] h) (fun _ _ => False) fun v h' => v = .bl (decide (s.rt e f = .str 0)) ∧ On ((if s.rt e f = .str 0 then s.nar e f else s).nodes ++ R) h' := by
    have ll := lim8
    have r := fr_of o
    have e1 := right_ok K r (e := e) hf
    have hhd := K.hd
    have hd0 := s.hd_at (f := f) (by omega)
    have pl1 : pl 60 (s.rt e f) = true := by
      rcases Rs e f he hf with q | ⟨q, hq⟩
      · rw [q]; rfl
      · rw [hq]; rfl
    have eq := oEq_pl (neg := true) (x := s.rt e f) (y := .str 0) (h := h) pl1 rfl
    unfold m_Frames_narrow
    refine wRB rfl ?_
    by_cases c : s.rt e f = .str 0
    · rw [c] at e1 eq
      have o1 := on_sHd o (f := f) (by omega) (putV (s.hdk f) (.int e) (.str 1))
      simp [isF r, e1, eq, c, gF2 r, r.eH, refs_at hd0, r.hd _ _ _ hd0, show (s.hdk f).length < lim by omega, -wR_getF]
      exact o1
    · simp [isF r, e1, eq, c]
      exact o
  obtain ⟨v, h', e, rfl, q⟩ := ex_of_wR wi
  exact ⟨h', e, q⟩
theorem read_ok (K : FOk s) (r : Fd s h) (hf : f < s.many) {i : Nat} {x : Val} (hx : (s.wd f)[i]? = some x) : m_Frames_read [.ref s.F, .int f, .int i] h = .ok x h := by
  have w0 := s.ws_at (f := f) (by have := K.ws; omega)
  refine eq_of_wR ?_
  unfold m_Frames_read
  refine wRB rfl ?_
  simp [gF3 r, r.eW, refs_at w0, r.ws _ _ _ w0, atI_cast, hx, -wR_getF]
theorem write_ok (K : FOk s) (o : On (s.nodes ++ R) h) (hf : f < s.many) {i : Nat} (hi : i < (s.wd f).length) {x : Val} : ∃ h', m_Frames_write [.ref s.F, .int f, .int i, x] h = .ok .non h' ∧ On ((s.sWs f ((s.wd f).set i x)).nodes ++ R) h' := by
  have r := fr_of o
  have hw := K.ws
  have w0 := s.ws_at (f := f) (by omega)
  refine ⟨_, eq_of_wR ?_, on_sWs o (f := f) (by omega) _⟩
  unfold m_Frames_write
  refine wRB rfl ?_
  simp [gF3 r, r.eW, refs_at w0, r.ws _ _ _ w0, ixN_cast, hi, -wR_getF]
end
end Lw

set_option Elab.async false
set_option linter.all false
set_option autoImplicit false
set_option maxHeartbeats 4000000
set_option maxRecDepth 100000
namespace Lw
open PyM
/-- what is kept of the book alone: rights stand in the order's lists -/
structure OrS (s : FS) : Prop where
  r : ∀ e f : Nat, e < 4 → f < s.many → ((∃ x, lookV (s.hdk f) (.int e) = some x) ↔ (f : Int) ∈ s.ord e)
  b : ∀ (e : Nat) (x : Int), e < 4 → x ∈ s.ord e → 0 ≤ x ∧ x < s.many
  n : ∀ e : Nat, e < 4 → (s.ord e).Nodup
section
variable {s : FS} {R : Nodes} {h h' : Heap} {e f a : Nat}
theorem ord_eh (K : FOk s) (he : e < 4) {g : Nat} : (s.eh e f).ord g = if g = e then (s.ord e).erase (f : Int) else s.ord g := by
  have : (s.eh e f).ord g = ((s.sHd f (dropV (s.hdk f) (.int e))).sOs e ((s.ord e).erase (f : Int))).ord g := rfl
  rw [this, ord_sOs (by show e < s.os.length; rw [K.os]; exact he)]
  rfl
theorem hdk_eh (K : FOk s) (hf : f < s.many) {g : Nat} : (s.eh e f).hdk g = if g = f then dropV (s.hdk f) (.int e) else s.hdk g := by
  have : (s.eh e f).hdk g = (s.sHd f (dropV (s.hdk f) (.int e))).hdk g := rfl
  rw [this, hdk_sHd (by rw [K.hd]; exact hf)]
theorem OrS.eh (K : FOk s) (O : OrS s) (he : e < 4) (hf : f < s.many) : OrS (s.eh e f) := by
  refine ⟨fun g f' hg hf' => ?_, fun g x hg hx => ?_, fun g hg => ?_⟩
  · rw [ord_eh K he, hdk_eh K hf]
    have o := O.r g f' hg hf'
    have nd := O.n e he
    by_cases c1 : f' = f
    · subst c1
      rw [if_pos rfl, lookV_drop]
      by_cases c2 : g = e
      · subst c2
        rw [if_pos rfl, if_pos rfl]
        constructor
        · rintro ⟨x, hx⟩; cases hx
        · intro hm; exact absurd hm (List.Nodup.not_mem_erase nd)
      · rw [if_neg (by intro q; injection q with q; omega), if_neg c2]
        exact o
    · rw [if_neg c1]
      by_cases c2 : g = e
      · subst c2
        rw [if_pos rfl, List.mem_erase_of_ne (by omega)]
        exact o
      · rw [if_neg c2]
        exact o
  · rw [ord_eh K he] at hx
    by_cases c2 : g = e
    · subst c2
      rw [if_pos rfl] at hx
      exact O.b g x hg (List.mem_of_mem_erase hx)
    · rw [if_neg c2] at hx
      exact O.b g x hg hx
  · rw [ord_eh K he]
    split
    · exact (O.n e he).erase _
    · exact O.n g hg
theorem On.cons_mid {A R : Nodes} {p : Nat × Obj} {h : Heap} (o : On (A ++ R) h) (hp : h[p.1]? = some p.2) (hn : ∀ q ∈ A ++ R, q.1 ≠ p.1) : On (A ++ (p :: R)) h := by
  have z : On (p :: (A ++ R)) h := by
    refine ⟨?_, fun q hq => ?_⟩
    · rw [List.map_cons, List.nodup_cons]
      refine ⟨fun hm => ?_, o.nd⟩
      obtain ⟨q, hq, e⟩ := List.mem_map.mp hm
      exact hn q hq e
    · rcases List.mem_cons.mp hq with rfl | hq
      · exact hp
      · exact o.at_ q hq
  exact z.perm List.perm_middle.symm
end
end Lw

set_option Elab.async false
set_option linter.all false
set_option autoImplicit false
set_option maxHeartbeats 4000000
set_option maxRecDepth 100000
namespace Lw
open PyM
/-! the law's own book -/
structure LB where
  HL : Nat
  Rt : Nat
  Of : Nat
  Wn : Nat
  hs : List (Nat × List Int)
  rights : List (Val × Val)
  offers : List (Val × Val)
  kvs : List (Val × Val)
  wa : List (Option (Nat × Int × Int))
def wN : Option (Nat × Int × Int) → Nodes
  | some (a, m, k) => [(a, .lst [.int m, .int k])]
  | none => []
def LB.base (b : LB) : Nodes := [(b.HL, .lst (refs b.hs)), (b.Rt, .dcT b.rights), (b.Of, .dcT b.offers), (b.Wn, .dct b.kvs)]
def LB.nodes (b : LB) : Nodes := b.base ++ (b.hs.map iN ++ b.wa.flatMap wN)
def LB.val (b : LB) : Val := .tup [.ref b.HL, .ref b.Rt, .ref b.Of, .ref b.Wn]
def LB.hld (b : LB) (e : Nat) : List Int := ((b.hs[e]?).map (·.2)).getD []
def LB.ha (b : LB) (e : Nat) : Nat := ((b.hs[e]?).map (·.1)).getD 0
def LB.wan (b : LB) (e : Nat) : Option (Nat × Int × Int) := b.wa.getD e none
structure LOk (b : LB) : Prop where
  hs : b.hs.length = 4
  wa : b.wa.length = 4
  kv : ∀ e : Nat, e < 4 → lookV b.kvs (.int e) = (b.wan e).map fun w => .ref w.1
structure Ld (b : LB) (h : Heap) : Prop where
  eH : h[b.HL]? = some (.lst (refs b.hs))
  eR : h[b.Rt]? = some (.dcT b.rights)
  eO : h[b.Of]? = some (.dcT b.offers)
  eW : h[b.Wn]? = some (.dct b.kvs)
  hs : ∀ (f a : Nat) (k : List Int), b.hs[f]? = some (a, k) → h[a]? = some (.lst (k.map Val.int))
  wa : ∀ (e a : Nat) (m k : Int), b.wan e = some (a, m, k) → h[a]? = some (.lst [.int m, .int k])
theorem Ld.ext {b : LB} {h h' : Heap} (r : Ld b h) (x : Ext h h') : Ld b h' :=
  ⟨x.at r.eH, x.at r.eR, x.at r.eO, x.at r.eW, fun f a k e => x.at (r.hs f a k e), fun e a m k q => x.at (r.wa e a m k q)⟩
theorem fm_perm : ∀ {wa : List (Option (Nat × Int × Int))} {e : Nat}, e < wa.length → (wa.flatMap wN).Perm (wN (wa.getD e none) ++ (wa.eraseIdx e).flatMap wN)
  | [], _, h => by simp at h
  | x :: wa, 0, _ => by simp
  | x :: wa, e + 1, h => by
    have ih := fm_perm (wa := wa) (e := e) (by simpa using h)
    rw [List.flatMap_cons, List.eraseIdx_cons_succ, List.flatMap_cons, List.getD_cons_succ]
    exact (ih.append_left _).trans (List.perm_append_comm_assoc _ _ _)
theorem fm_set {wa : List (Option (Nat × Int × Int))} {e : Nat} {y : Option (Nat × Int × Int)} (h : e < wa.length) : ((wa.set e y).flatMap wN).Perm (wN y ++ (wa.eraseIdx e).flatMap wN) := by
  have q := fm_perm (wa := wa.set e y) (e := e) (by simpa using h)
  have e1 : (wa.set e y).getD e none = y := by
    rw [List.getD_eq_getElem?_getD, List.getElem?_set_self h]; rfl
  have e2 : (wa.set e y).eraseIdx e = wa.eraseIdx e := by
    rw [List.eraseIdx_set_eq]
  rw [e1, e2] at q
  exact q
section
variable {b : LB} {R : Nodes} {h h' : Heap} {e f a : Nat}
theorem LB.hs_at (b : LB) (hf : f < b.hs.length) : b.hs[f]? = some (b.ha f, b.hld f) := by
  unfold LB.ha LB.hld
  rw [getD_map _ _ hf, getD_map _ _ hf, List.getElem?_eq_getElem hf]
theorem ld_of (K : b.wa.length = 4) (o : On (b.nodes ++ R) h) : Ld b h := by
  have q : ∀ (i : Nat) (x : Nat × Obj), b.base[i]? = some x → h[x.1]? = some x.2 := fun i x e => o.at_ x (List.mem_append_left _ (List.mem_append_left _ (List.mem_of_getElem? e)))
  refine ⟨q 0 _ rfl, q 1 _ rfl, q 2 _ rfl, q 3 _ rfl, fun f a k e => ?_, fun e a m k w => ?_⟩
  · exact o.at_ _ (List.mem_append_left _ (List.mem_append_right _ (List.mem_append_left _ (mem_map_at (g := iN) e))))
  · refine o.at_ (a, .lst [.int m, .int k]) (List.mem_append_left _ (List.mem_append_right _ (List.mem_append_right _ ?_)))
    refine List.mem_flatMap.mpr ⟨some (a, m, k), ?_, by simp [wN]⟩
    unfold LB.wan at w
    rw [List.getD_eq_getElem?_getD] at w
    cases q : b.wa[e]? with
    | none => rw [q] at w; cases w
    | some z => rw [q] at w; simp at w; subst w; exact List.mem_of_getElem? q
def LB.sH (b : LB) (e : Nat) (k : List Int) : LB := { b with hs := b.hs.set e (b.ha e, k) }
def LB.sR (b : LB) (d : List (Val × Val)) : LB := { b with rights := d }
def LB.sO (b : LB) (d : List (Val × Val)) : LB := { b with offers := d }
def LB.sW (b : LB) (e : Nat) (y : Option (Nat × Int × Int)) (kvs : List (Val × Val)) : LB := { b with kvs := kvs, wa := b.wa.set e y }
theorem on_sH (o : On (b.nodes ++ R) h) (hf : e < b.hs.length) (k : List Int) : On ((b.sH e k).nodes ++ R) (h.set (b.ha e) (.lst (k.map Val.int))) := by
  have e0 := b.hs_at hf
  have e1 : (b.hs.map iN)[e]? = some (iN (b.ha e, b.hld e)) := by rw [List.getElem?_map, e0]; rfl
  have e5 := app_l (B := b.wa.flatMap wN) e1
  have e6 : b.nodes[4 + _]? = _ := app_at (A := b.base) (n := 4) rfl e5
  have z := o.set (app_l (B := R) e6) (.lst (k.map Val.int))
  have q : (b.nodes ++ R).set (4 + e) (b.ha e, .lst (k.map Val.int)) = (b.sH e k).nodes ++ R := by
    rw [app_setl e6]
    unfold LB.nodes
    rw [app_setr (A := b.base) (n := 4) rfl, app_setl e1]
    simp only [LB.base, LB.sH, List.map_set, refs_set e0]
    rfl
  rw [q] at z
  exact z
theorem on_sR (o : On (b.nodes ++ R) h) (d : List (Val × Val)) : On ((b.sR d).nodes ++ R) (h.set b.Rt (.dcT d)) := o.set (i := 1) (a := b.Rt) (x := .dcT b.rights) rfl (.dcT d)
theorem on_sO (o : On (b.nodes ++ R) h) (d : List (Val × Val)) : On ((b.sO d).nodes ++ R) (h.set b.Of (.dcT d)) := o.set (i := 2) (a := b.Of) (x := .dcT b.offers) rfl (.dcT d)
theorem wa_perm (K : b.wa.length = 4) (he : e < 4) : (b.nodes ++ R).Perm (wN (b.wan e) ++ (b.base ++ (b.hs.map iN ++ (b.wa.eraseIdx e).flatMap wN) ++ R)) := by
  have p := fm_perm (wa := b.wa) (e := e) (by omega)
  unfold LB.nodes
  have p1 : (b.base ++ (b.hs.map iN ++ b.wa.flatMap wN)).Perm (wN (b.wan e) ++ (b.base ++ (b.hs.map iN ++ (b.wa.eraseIdx e).flatMap wN))) := by
    refine ((p.append_left _).append_left _).trans ?_
    refine (List.Perm.append_left _ (List.perm_append_comm_assoc _ _ _)).trans ?_
    exact List.perm_append_comm_assoc _ _ _
  have p2 := p1.append_right R
  rw [List.append_assoc (wN _)] at p2
  exact p2
theorem wa_perm2 (K : b.wa.length = 4) (he : e < 4) (y : Option (Nat × Int × Int)) (kvs : List (Val × Val)) : ((b.sW e y kvs).nodes ++ R).Perm (wN y ++ ((b.sW e y kvs).base ++ (b.hs.map iN ++ (b.wa.eraseIdx e).flatMap wN) ++ R)) := by
  have z := wa_perm (b := b.sW e y kvs) (R := R) (e := e) (by simp [LB.sW, K]) he
  have e1 : (b.sW e y kvs).wan e = y := by
    unfold LB.wan LB.sW
    rw [List.getD_eq_getElem?_getD, List.getElem?_set_self (by omega)]; rfl
  have e2 : (b.sW e y kvs).wa.eraseIdx e = b.wa.eraseIdx e := by
    unfold LB.sW
    rw [List.eraseIdx_set_eq]
  rw [e1, e2] at z
  exact z
/-- the asking's row is written -/
theorem on_sW (K : b.wa.length = 4) (he : e < 4) (o : On (b.nodes ++ R) h) {m k m' k' : Int} (w : b.wan e = some (a, m, k)) : On ((b.sW e (some (a, m', k')) b.kvs).nodes ++ R) (h.set a (.lst [.int m', .int k'])) := by
  have o1 := o.perm (wa_perm K he)
  rw [w] at o1
  have o2 := o1.set (i := 0) (a := a) (x := .lst [.int m, .int k]) rfl (.lst [.int m', .int k'])
  exact o2.perm (wa_perm2 K he (some (a, m', k')) b.kvs).symm
/-- the asking goes -/
theorem on_pW (K : b.wa.length = 4) (he : e < 4) (o : On (b.nodes ++ R) h) : On ((b.sW e none (dropV b.kvs (.int e))).nodes ++ R) (h.set b.Wn (.dct (dropV b.kvs (.int e)))) := by
  have o1 := (o.perm (wa_perm K he)).sub2
  have o2 := o1.set (i := 3) (a := b.Wn) (x := .dct b.kvs) rfl (.dct (dropV b.kvs (.int e)))
  exact o2.perm (wa_perm2 K he none (dropV b.kvs (.int e))).symm
/-- an asking anew -/
theorem on_nW (K : b.wa.length = 4) (he : e < 4) (o : On (b.nodes ++ R) h) {m k : Int} (ea : h[a]? = some (.lst [.int m, .int k])) (hn : ∀ p ∈ b.nodes ++ R, p.1 ≠ a) (kvs : List (Val × Val)) : On ((b.sW e (some (a, m, k)) kvs).nodes ++ R) (h.set b.Wn (.dct kvs)) := by
  have pm := wa_perm (R := R) K he
  have o1 := (o.perm pm).sub2
  have o2 : On ((a, .lst [.int m, .int k]) :: (b.base ++ (b.hs.map iN ++ (b.wa.eraseIdx e).flatMap wN) ++ R)) h := by
    refine ⟨?_, fun q hq => ?_⟩
    · rw [List.map_cons, List.nodup_cons]
      refine ⟨fun hm => ?_, o1.nd⟩
      obtain ⟨q, hq, e⟩ := List.mem_map.mp hm
      exact hn q (pm.mem_iff.mpr (List.mem_append_right _ hq)) e
    · rcases List.mem_cons.mp hq with rfl | hq
      · exact ea
      · exact o1.at_ q hq
  have o3 := o2.set (i := 4) (a := b.Wn) (x := .dct b.kvs) rfl (.dct kvs)
  exact o3.perm (wa_perm2 K he (some (a, m, k)) kvs).symm
theorem LOk.sH (K : LOk b) {k : List Int} : LOk (b.sH e k) := ⟨by simp [LB.sH, K.hs], K.wa, K.kv⟩
theorem LOk.sR (K : LOk b) {d : List (Val × Val)} : LOk (b.sR d) := ⟨K.hs, K.wa, K.kv⟩
theorem LOk.sO (K : LOk b) {d : List (Val × Val)} : LOk (b.sO d) := ⟨K.hs, K.wa, K.kv⟩
theorem hld_sH {k : List Int} {g : Nat} (hf : e < b.hs.length) : (b.sH e k).hld g = if g = e then k else b.hld g := by
  unfold LB.hld LB.sH
  simp only [List.getElem?_set]
  by_cases c : e = g
  · subst c; simp [hf]
  · rw [if_neg c, if_neg (Ne.symm c)]
theorem wan_sW {y : Option (Nat × Int × Int)} {kvs : List (Val × Val)} {g : Nat} (K : b.wa.length = 4) (he : e < 4) : (b.sW e y kvs).wan g = if g = e then y else b.wan g := by
  unfold LB.wan LB.sW
  simp only [List.getD_eq_getElem?_getD, List.getElem?_set]
  by_cases c : e = g
  · subst c; simp [show e < b.wa.length by omega]
  · rw [if_neg c, if_neg (Ne.symm c)]
theorem LOk.sW (K : LOk b) (he : e < 4) {m k m' k' : Int} (w : b.wan e = some (a, m, k)) : LOk (b.sW e (some (a, m', k')) b.kvs) := ⟨K.hs, by simp [LB.sW, K.wa], fun g hg => by
  rw [wan_sW K.wa he]
  show lookV b.kvs _ = _
  rw [K.kv g hg]
  by_cases c : g = e
  · subst c; rw [if_pos rfl, w]; rfl
  · rw [if_neg c]⟩
theorem LOk.pW (K : LOk b) (he : e < 4) : LOk (b.sW e none (dropV b.kvs (.int e))) := ⟨K.hs, by simp [LB.sW, K.wa], fun g hg => by
  rw [wan_sW K.wa he]
  show lookV (dropV b.kvs (.int e)) _ = _
  rw [lookV_drop]
  by_cases c : g = e
  · subst c; rw [if_pos rfl, if_pos rfl]; rfl
  · rw [if_neg c, if_neg (by intro q; injection q with q; omega), K.kv g hg]⟩
theorem LOk.nW (K : LOk b) (he : e < 4) {m k : Int} : LOk (b.sW e (some (a, m, k)) (putV b.kvs (.int e) (.ref a))) := ⟨K.hs, by simp [LB.sW, K.wa], fun g hg => by
  rw [wan_sW K.wa he]
  show lookV (putV b.kvs (.int e) (.ref a)) _ = _
  rw [lookV_put]
  by_cases c : g = e
  · subst c; rw [if_pos rfl, if_pos rfl]; rfl
  · rw [if_neg c, if_neg (by intro q; injection q with q; omega), K.kv g hg]⟩
end
end Lw

set_option Elab.async false
set_option linter.all false
set_option autoImplicit false
set_option maxHeartbeats 4000000
set_option maxRecDepth 100000
namespace Lw
open PyM
/-- what both books reckon alike -/
def mhmF (od : Nat → List Int) (shr : Nat → Int) (many : Int) (e : Nat) : Bool := decide (((od e).length : Int) < shr e) ||
  decide (((List.range 4).map fun e => if shr e - (od e).length > 0 then shr e - ((od e).length : Int) else 0).sum < many - ((List.range 4).map fun e => ((od e).length : Int)).sum)
theorem mhm_eq {s : FS} {e : Nat} : s.mhm e = mhmF s.ord s.shr s.many e := rfl
def key2 (a b : Nat) : Val := .tup [.int a, .int b]
theorem key2_ok {a b : Nat} : keysOk [.int (a : Nat), .int (b : Nat)] = true := by simp [keysOk, isKey]
theorem ints_pl {zs : List Int} : (zs.map Val.int).all (pl 59) = true := List.all_eq_true.mpr fun x hx => by
  obtain ⟨i, _, rfl⟩ := List.mem_map.mp hx
  rfl
theorem mem_ints {zs : List Int} {z : Int} : decide (Val.int z ∈ zs.map Val.int) = decide (z ∈ zs) := by
  rw [Bool.eq_iff_iff, decide_eq_true_eq, decide_eq_true_eq, List.mem_map]
  constructor
  · rintro ⟨y, hy, q⟩; injection q with q; exact q ▸ hy
  · exact fun hz => ⟨z, hz, rfl⟩
section
variable {s : FS} {b : LB} {R : Nodes} {h h' : Heap} {e f w a c sa n r : Nat} {x v : Val} {shares : List Int} {many : Nat}
/-- an end of a holding -/
def LB.en (b : LB) (e f : Nat) : LB := ((b.sH e ((b.hld e).erase (f : Int))).sR (dropV b.rights (key2 e f))).sO (dropOs b.offers e f 4)
theorem LOk.en (K : LOk b) : LOk (b.en e f) := ((K.sH).sR).sO
theorem hld_en (K : LOk b) (he : e < 4) {g : Nat} : (b.en e f).hld g = if g = e then (b.hld e).erase (f : Int) else b.hld g := by
  have : (b.en e f).hld g = (b.sH e ((b.hld e).erase (f : Int))).hld g := rfl
  rw [this, hld_sH (by rw [K.hs]; exact he)]
theorem key2_inj {a b c d : Nat} : key2 a b = key2 c d ↔ a = c ∧ b = d := by
  unfold key2
  constructor
  · intro q
    injection q with q
    injection q with q1 q2
    injection q2 with q2 _
    injection q1 with q1
    injection q2 with q2
    omega
  · rintro ⟨rfl, rfl⟩; rfl
structure LS (b : LB) (many : Nat) : Prop where
  r : ∀ e f : Nat, e < 4 → f < many → ((∃ x, lookV b.rights (key2 e f) = some x) ↔ (f : Int) ∈ b.hld e)
  bd : ∀ (e : Nat) (x : Int), e < 4 → x ∈ b.hld e → 0 ≤ x ∧ x < many
  n : ∀ e : Nat, e < 4 → (b.hld e).Nodup
theorem oEq_ints {l : List Int} (e1 : h[a]? = some (.lst (l.map Val.int))) (e2 : h[c]? = some (.lst (l.map Val.int))) : oEq true (.ref a) (.ref c) h = .ok (.bl false) h := oEq_conv (conv_lst e1 ints_pl) (conv_lst e2 ints_pl)
theorem _root_.PyM.Tn.new {p a : Nat} {ns : List Int} {l : Nodes} {h : Heap} (T : Tn p a ns l h) (x : Obj) : Tn p a ns ((h.length, x) :: l) (h ++ [x]) := by
  obtain ⟨i, r, t, i0, o⟩ := T.k
  exact ⟨i, r, t, i0, (o.new x).perm (List.perm_append_comm_assoc [(h.length, x)] [(p, Obj.lst [.ref a, .int i, .int r, .int t]), (a, .lst (ns.map Val.int))] l)⟩
theorem _root_.PyM.Tn.drop1 {p a : Nat} {ns : List Int} {q : Nat × Obj} {l : Nodes} {h : Heap} (T : Tn p a ns (q :: l) h) : Tn p a ns l h := by
  obtain ⟨i, r, t, i0, o⟩ := T.k
  exact ⟨i, r, t, i0, (o.perm (List.perm_append_comm_assoc [(p, Obj.lst [.ref a, .int i, .int r, .int t]), (a, .lst (ns.map Val.int))] [q] l)).drop1⟩
theorem ints_of {P : Int → Prop} : ∀ {ys : List Val}, (∀ y ∈ ys, ∃ z, P z ∧ y = .int z) → ∃ zs : List Int, (∀ z ∈ zs, P z) ∧ ys = zs.map Val.int
  | [], _ => ⟨[], by simp, rfl⟩
  | y :: ys, H => by
    obtain ⟨z, hz, rfl⟩ := H y (by simp)
    obtain ⟨zs, g, rfl⟩ := ints_of (ys := ys) (fun z hz => H z (by simp [hz]))
    refine ⟨z :: zs, fun j hj => ?_, rfl⟩
    rcases List.mem_cons.mp hj with rfl | hj
    · exact hz
    · exact g j hj
end
end Lw

set_option Elab.async false
set_option linter.all false
set_option autoImplicit false
set_option maxHeartbeats 4000000
set_option maxRecDepth 100000
namespace Lw
open PyM
/-! both books alike -/
def wtv : Option (Nat × Int × Int) → Val
  | none => .non
  | some (_, m, k) => .tup [.int m, .int k]
structure Iv (s : FS) (b : LB) (shares : List Int) (n : Nat) : Prop where
  K : FOk s
  B : LOk b
  sh : s.shares = shares
  sh0 : ∀ e : Nat, e < 4 → 0 ≤ shares.getD e 0
  O : OrS s
  od : ∀ e : Nat, e < 4 → b.hld e = s.ord e
  rt : ∀ e f : Nat, e < 4 → f < s.many → lookV b.rights (key2 e f) = lookV (s.hdk f) (.int e)
  of : ∀ e f w : Nat, e < 4 → f < s.many → w < 4 → lookV b.offers (key3 e f w) = lookV s.offers (key3 e f w)
  wt : ∀ e : Nat, e < 4 → s.wt e = wtv (b.wan e)
  wm : ∀ (e a : Nat) (m k : Int), e < 4 → b.wan e = some (a, m, k) → 1 ≤ m
  rv : ∀ k v, lookV b.rights k = some v → ∃ r, r < 2 ∧ v = .str r
  ov : ∀ k v, lookV b.offers k = some v → ∃ r, r < 2 ∧ v = .str r
  sv : ∀ k v, lookV s.offers k = some v → ∃ r, r < 2 ∧ v = .str r
  ks : ∀ f : Nat, f < s.many → ∀ k v, lookV (s.hdk f) k = some v → ∃ e : Nat, e < 4 ∧ k = .int e
  un : s.unf ≤ s.lft
  l1 : ∀ e : Nat, e < 4 → (s.ord e).length + (s.lo e).length ≤ n
  l2 : ∀ f : Nat, f < s.many → (s.hdk f).length ≤ n
  l3 : s.offers.length ≤ n
  l4 : b.rights.length ≤ n
  l5 : b.offers.length ≤ n
  l6 : b.kvs.length ≤ n
def FS.gr (s : FS) (e f : Nat) (x : Val) : FS := (s.sHd f (putV (s.hdk f) (.int e) x)).sOs e (s.ord e ++ [(f : Int)])
def LB.gr (b : LB) (e f : Nat) (x : Val) : LB := (b.sH e (b.hld e ++ [(f : Int)])).sR (putV b.rights (key2 e f) x)
section
variable {s : FS} {b : LB} {R : Nodes} {h h' : Heap} {e f a sa n : Nat} {shares : List Int}
theorem Iv.mono (I : Iv s b shares n) {n' : Nat} (hn : n ≤ n') : Iv s b shares n' := { I with
  l1 := fun e he => Nat.le_trans (I.l1 e he) hn
  l2 := fun e he => Nat.le_trans (I.l2 e he) hn
  l3 := Nat.le_trans I.l3 hn
  l4 := Nat.le_trans I.l4 hn
  l5 := Nat.le_trans I.l5 hn
  l6 := Nat.le_trans I.l6 hn }
theorem int_inj {a b : Nat} : Val.int (a : Int) = Val.int (b : Int) ↔ a = b := by
  constructor
  · intro q; injection q with q; omega
  · rintro rfl; rfl
theorem un_gr {s s' : FS} (he : e < 4) (hm : s'.many = s.many) (hs : ∀ i, s'.shr i = s.shr i) (hl : ∀ i, i < 4 → s'.len i = s.len i + if i = e then 1 else 0) (c : s.len e < s.shr e ∨ s.unf < s.lft) (u : s.unf ≤ s.lft) : s'.unf ≤ s'.lft := by
  unfold FS.unf FS.lft at *
  have h0 := hl 0 (by omega)
  have h1 := hl 1 (by omega)
  have h2 := hl 2 (by omega)
  have h3 := hl 3 (by omega)
  simp only [show List.range 4 = [0, 1, 2, 3] from rfl, List.map_cons, List.map_nil, List.sum_cons, List.sum_nil, hs, hm, h0, h1, h2, h3] at *
  have q : e = 0 ∨ e = 1 ∨ e = 2 ∨ e = 3 := by omega
  rcases q with rfl | rfl | rfl | rfl <;> simp at * <;> omega
theorem un_en {s s' : FS} (he : e < 4) (hm : s'.many = s.many) (hs : ∀ i, s'.shr i = s.shr i) (hl : ∀ i, i < 4 → s'.len i = s.len i - if i = e then 1 else 0) (u : s.unf ≤ s.lft) : s'.unf ≤ s'.lft := by
  unfold FS.unf FS.lft at *
  have h0 := hl 0 (by omega)
  have h1 := hl 1 (by omega)
  have h2 := hl 2 (by omega)
  have h3 := hl 3 (by omega)
  simp only [show List.range 4 = [0, 1, 2, 3] from rfl, List.map_cons, List.map_nil, List.sum_cons, List.sum_nil, hs, hm, h0, h1, h2, h3] at *
  have q : e = 0 ∨ e = 1 ∨ e = 2 ∨ e = 3 := by omega
  rcases q with rfl | rfl | rfl | rfl <;> simp at * <;> omega
theorem ord_gr (K : FOk s) (he : e < 4) {x : Val} {g : Nat} : (s.gr e f x).ord g = if g = e then s.ord e ++ [(f : Int)] else s.ord g := by
  unfold FS.gr
  rw [ord_sOs (by show e < s.os.length; rw [K.os]; exact he)]
  rfl
theorem hdk_gr (K : FOk s) (hf : f < s.many) {x : Val} {g : Nat} : (s.gr e f x).hdk g = if g = f then putV (s.hdk f) (.int e) x else s.hdk g := by
  have : (s.gr e f x).hdk g = (s.sHd f (putV (s.hdk f) (.int e) x)).hdk g := rfl
  rw [this, hdk_sHd (by rw [K.hd]; exact hf)]
theorem hld_gr (K : LOk b) (he : e < 4) {x : Val} {g : Nat} : (b.gr e f x).hld g = if g = e then b.hld e ++ [(f : Int)] else b.hld g := by
  have : (b.gr e f x).hld g = (b.sH e (b.hld e ++ [(f : Int)])).hld g := rfl
  rw [this, hld_sH (by rw [K.hs]; exact he)]
theorem Iv.gr (I : Iv s b shares n) (he : e < 4) (hf : f < s.many) (hno : lookV (s.hdk f) (.int e) = none) (hm : s.mhm e = true) {r : Nat} (hr : r < 2) : Iv (s.gr e f (.str r)) (b.gr e f (.str r)) shares (n + 1) := by
  have hnm : ¬ (f : Int) ∈ s.ord e := fun q => by
    obtain ⟨x, hx⟩ := (I.O.r e f he hf).mpr q
    rw [hno] at hx; cases hx
  refine ⟨(I.K.sHd).sOs, (I.B.sH).sR, I.sh, I.sh0, ⟨fun g f' hg hf' => ?_, fun g x hg hx => ?_, fun g hg => ?_⟩, fun g hg => ?_, fun g f' hg hf' => ?_, I.of, I.wt, I.wm, fun k v hk => ?_, I.ov, I.sv, fun f' hf' k v hk => ?_, ?_, fun g hg => ?_, fun f' hf' => ?_, Nat.le_succ_of_le I.l3, ?_, Nat.le_succ_of_le I.l5, Nat.le_succ_of_le I.l6⟩
  · rw [ord_gr I.K he, hdk_gr I.K hf]
    have o := I.O.r g f' hg hf'
    by_cases c1 : f' = f
    · subst c1
      rw [if_pos rfl, lookV_put]
      by_cases c2 : g = e
      · subst c2; simp
      · rw [if_neg (fun q => c2 (int_inj.mp q)), if_neg c2]; exact o
    · rw [if_neg c1]
      by_cases c2 : g = e
      · subst c2
        rw [if_pos rfl, o, List.mem_append, List.mem_singleton]
        constructor
        · exact .inl
        · rintro (q | q)
          · exact q
          · omega
      · rw [if_neg c2]; exact o
  · rw [ord_gr I.K he] at hx
    by_cases c2 : g = e
    · subst c2
      rw [if_pos rfl, List.mem_append, List.mem_singleton] at hx
      rcases hx with hx | rfl
      · exact I.O.b g x hg hx
      · show 0 ≤ (f : Int) ∧ (f : Int) < (s.many : Nat)
        omega
    · rw [if_neg c2] at hx
      exact I.O.b g x hg hx
  · rw [ord_gr I.K he]
    split
    · rw [List.nodup_append]
      refine ⟨I.O.n e he, by simp, ?_⟩
      intro x hx y hy
      rw [List.mem_singleton] at hy
      subst hy
      rintro rfl
      exact hnm hx
    · exact I.O.n g hg
  · rw [ord_gr I.K he, hld_gr I.B he, I.od e he, I.od g hg]
  · rw [hdk_gr I.K hf]
    show lookV (putV b.rights _ _) _ = _
    rw [lookV_put]
    have o := I.rt g f' hg hf'
    by_cases c1 : f' = f
    · subst c1
      rw [if_pos rfl, lookV_put]
      by_cases c2 : g = e
      · subst c2; simp
      · rw [if_neg (fun q => c2 (key2_inj.mp q).1), if_neg (fun q => c2 (int_inj.mp q))]; exact o
    · rw [if_neg (fun q => c1 (key2_inj.mp q).2), if_neg c1]; exact o
  · have hk : lookV (putV b.rights (key2 e f) (.str r)) k = some v := hk
    rw [lookV_put] at hk
    split at hk
    · injection hk with hk; exact ⟨r, hr, hk.symm⟩
    · exact I.rv k v hk
  · rw [hdk_gr I.K hf] at hk
    split at hk
    · rw [lookV_put] at hk
      split at hk
      · exact ⟨e, he, by assumption⟩
      · exact I.ks f hf k v hk
    · exact I.ks f' hf' k v hk
  · refine un_gr (s := s) he rfl (fun _ => rfl) (fun i hi => ?_) ?_ I.un
    · unfold FS.len
      rw [ord_gr I.K he]
      split
      · subst_vars; simp
      · simp
    · unfold FS.mhm at hm
      simpa using hm
  · have q := I.l1 g hg
    have e1 : (s.gr e f (.str r)).lo g = s.lo g := rfl
    rw [ord_gr I.K he, e1]
    split
    · subst_vars; simp; omega
    · omega
  · rw [hdk_gr I.K hf]
    split
    · exact Nat.le_trans putV_len (Nat.succ_le_succ (I.l2 f hf))
    · exact Nat.le_succ_of_le (I.l2 f' hf')
  · exact Nat.le_trans putV_len (Nat.succ_le_succ I.l4)
end
end Lw

set_option Elab.async false
set_option linter.all false
set_option autoImplicit false
set_option maxHeartbeats 4000000
set_option maxRecDepth 100000
namespace Lw
open PyM
section
variable {s : FS} {b : LB} {R : Nodes} {h h' : Heap} {e f a sa n : Nat} {shares : List Int}
theorem dropOs_cong {d1 d2 : List (Val × Val)} {k : Val} (q : lookV d1 k = lookV d2 k) : ∀ m, lookV (dropOs d1 e f m) k = lookV (dropOs d2 e f m) k
  | 0 => q
  | m + 1 => by
    unfold dropOs
    rw [lookV_drop, lookV_drop, dropOs_cong q m]
theorem dropOs_some {d : List (Val × Val)} {k v : Val} : ∀ m, lookV (dropOs d e f m) k = some v → lookV d k = some v
  | 0, h => h
  | m + 1, h => by
    unfold dropOs at h
    rw [lookV_drop] at h
    split at h
    · cases h
    · exact dropOs_some m h
theorem Iv.LS (I : Iv s b shares n) : LS b s.many := ⟨fun g f hg hf => by rw [I.rt g f hg hf, I.od g hg]; exact I.O.r g f hg hf, fun g x hg hx => I.O.b g x hg (by rw [← I.od g hg]; exact hx), fun g hg => by rw [I.od g hg]; exact I.O.n g hg⟩
theorem Iv.en (I : Iv s b shares n) (he : e < 4) (hf : f < s.many) (hm : (f : Int) ∈ s.ord e) : Iv (s.eh e f) (b.en e f) shares n := by
  refine ⟨I.K.eh, I.B.en, I.sh, I.sh0, I.O.eh I.K he hf, fun g hg => ?_, fun g f' hg hf' => ?_, fun g f' w hg hf' hw => dropOs_cong (I.of g f' w hg hf' hw) 4, I.wt, I.wm, fun k v hk => ?_, fun k v hk => I.ov k v (dropOs_some 4 hk), fun k v hk => I.sv k v (dropOs_some 4 hk), fun f' hf' k v hk => ?_, ?_, fun g hg => ?_, fun f' hf' => ?_, Nat.le_trans (dropOs_len 4) I.l3, Nat.le_trans dropV_len I.l4, Nat.le_trans (dropOs_len 4) I.l5, I.l6⟩
  · rw [ord_eh I.K he, hld_en I.B he, I.od e he, I.od g hg]
  · rw [hdk_eh I.K hf]
    show lookV (dropV b.rights _) _ = _
    rw [lookV_drop]
    have o := I.rt g f' hg hf'
    by_cases c1 : f' = f
    · subst c1
      rw [if_pos rfl, lookV_drop]
      by_cases c2 : g = e
      · subst c2; simp
      · rw [if_neg (fun q => c2 (key2_inj.mp q).1), if_neg (fun q => c2 (int_inj.mp q))]; exact o
    · rw [if_neg (fun q => c1 (key2_inj.mp q).2), if_neg c1]; exact o
  · have hk : lookV (dropV b.rights (key2 e f)) k = some v := hk
    rw [lookV_drop] at hk
    split at hk
    · cases hk
    · exact I.rv k v hk
  · rw [hdk_eh I.K hf] at hk
    split at hk
    · rw [lookV_drop] at hk
      split at hk
      · cases hk
      · exact I.ks f hf k v hk
    · exact I.ks f' hf' k v hk
  · refine un_en (s := s) he rfl (fun _ => rfl) (fun i hi => ?_) I.un
    unfold FS.len
    rw [ord_eh I.K he]
    have pos := List.length_pos_of_mem hm
    split
    · subst_vars; rw [List.length_erase_of_mem hm]; omega
    · simp
  · have q := I.l1 g hg
    have e1 : (s.eh e f).lo g = s.lo g := rfl
    rw [ord_eh I.K he, e1]
    split
    · subst_vars; rw [List.length_erase_of_mem hm]; omega
    · omega
  · rw [hdk_eh I.K hf]
    split
    · exact Nat.le_trans dropV_len (I.l2 f hf)
    · exact I.l2 f' hf'
theorem key3_inj {a b c d i j : Nat} : key3 a b i = key3 c d j ↔ a = c ∧ b = d ∧ i = j := by
  unfold key3
  constructor
  · intro q
    injection q with q
    injection q with q1 q2
    injection q2 with q2 q3
    injection q3 with q3 _
    injection q1 with q1
    injection q2 with q2
    injection q3 with q3
    omega
  · rintro ⟨rfl, rfl, rfl⟩; rfl
theorem Iv.ofP (I : Iv s b shares n) {w r : Nat} (hr : r < 2) : Iv (s.sOf (putV s.offers (key3 e f w) (.str r))) (b.sO (putV b.offers (key3 e f w) (.str r))) shares (n + 1) :=
  { I.mono (Nat.le_succ n) with
    K := I.K.sOf
    B := I.B.sO
    O := ⟨I.O.r, I.O.b, I.O.n⟩
    of := fun g f' w' hg hf' hw => by
      show lookV (putV _ _ _) _ = lookV (putV _ _ _) _
      rw [lookV_put, lookV_put, I.of g f' w' hg hf' hw]
    ov := fun k v hk => by
      have hk : lookV (putV b.offers _ _) k = some v := hk
      rw [lookV_put] at hk
      split at hk
      · injection hk with hk; exact ⟨r, hr, hk.symm⟩
      · exact I.ov k v hk
    sv := fun k v hk => by
      have hk : lookV (putV s.offers _ _) k = some v := hk
      rw [lookV_put] at hk
      split at hk
      · injection hk with hk; exact ⟨r, hr, hk.symm⟩
      · exact I.sv k v hk
    l3 := Nat.le_trans putV_len (Nat.succ_le_succ I.l3)
    l5 := Nat.le_trans putV_len (Nat.succ_le_succ I.l5) }
theorem Iv.ofD (I : Iv s b shares n) (k0 : Val) : Iv (s.sOf (dropV s.offers k0)) (b.sO (dropV b.offers k0)) shares n :=
  { I with
    K := I.K.sOf
    B := I.B.sO
    O := ⟨I.O.r, I.O.b, I.O.n⟩
    of := fun g f' w' hg hf' hw => by
      show lookV (dropV _ _) _ = lookV (dropV _ _) _
      rw [lookV_drop, lookV_drop, I.of g f' w' hg hf' hw]
    ov := fun k v hk => by
      have hk : lookV (dropV b.offers _) k = some v := hk
      rw [lookV_drop] at hk
      split at hk
      · cases hk
      · exact I.ov k v hk
    sv := fun k v hk => by
      have hk : lookV (dropV s.offers _) k = some v := hk
      rw [lookV_drop] at hk
      split at hk
      · cases hk
      · exact I.sv k v hk
    l3 := Nat.le_trans dropV_len I.l3
    l5 := Nat.le_trans dropV_len I.l5 }
theorem Iv.nar (I : Iv s b shares n) (he : e < 4) (hf : f < s.many) {x : Val} (hx : lookV (s.hdk f) (.int e) = some x) : Iv (s.nar e f) (b.sR (putV b.rights (key2 e f) (.str 1))) shares (n + 1) := by
  have hh : ∀ g, (s.nar e f).hdk g = if g = f then putV (s.hdk f) (.int e) (.str 1) else s.hdk g := fun g => hdk_sHd (by rw [I.K.hd]; exact hf)
  exact { I.mono (Nat.le_succ n) with
    K := I.K.sHd
    B := I.B.sR
    O := ⟨fun g f' hg hf' => by
      rw [hh]
      have o := I.O.r g f' hg hf'
      show _ ↔ (f' : Int) ∈ s.ord g
      split
      · subst_vars
        rw [lookV_put]
        split
        · rename_i q
          obtain rfl := int_inj.mp q
          rw [← o]
          exact ⟨fun _ => ⟨x, hx⟩, fun _ => ⟨_, rfl⟩⟩
        · exact o
      · exact o, I.O.b, I.O.n⟩
    rt := fun g f' hg hf' => by
      rw [hh]
      show lookV (putV b.rights _ _) _ = _
      rw [lookV_put]
      have o := I.rt g f' hg hf'
      by_cases c1 : f' = f
      · subst c1
        rw [if_pos rfl, lookV_put]
        by_cases c2 : g = e
        · subst c2; simp
        · rw [if_neg (fun q => c2 (key2_inj.mp q).1), if_neg (fun q => c2 (int_inj.mp q))]; exact o
      · rw [if_neg (fun q => c1 (key2_inj.mp q).2), if_neg c1]; exact o
    rv := fun k v hk => by
      have hk : lookV (putV b.rights _ _) k = some v := hk
      rw [lookV_put] at hk
      split at hk
      · injection hk with hk; exact ⟨1, by omega, hk.symm⟩
      · exact I.rv k v hk
    ks := fun f' hf' k v hk => by
      rw [hh] at hk
      split at hk
      · rw [lookV_put] at hk
        split at hk
        · exact ⟨e, he, by assumption⟩
        · exact I.ks f hf k v hk
      · exact I.ks f' hf' k v hk
    l2 := fun f' hf' => by
      rw [hh]
      split
      · exact Nat.le_trans putV_len (Nat.succ_le_succ (I.l2 f hf))
      · exact Nat.le_succ_of_le (I.l2 f' hf')
    l4 := Nat.le_trans putV_len (Nat.succ_le_succ I.l4) }
theorem wt_set (hwa : s.wanted.length = 4) (he : e < 4) {x : Val} {g : Nat} : (s.sWa (s.wanted.set e x)).wt g = if g = e then x else s.wt g := by
  unfold FS.wt FS.sWa
  simp only [List.getD_eq_getElem?_getD, List.getElem?_set]
  by_cases c : e = g
  · subst c; simp [show e < s.wanted.length by omega]
  · rw [if_neg c, if_neg (Ne.symm c)]
theorem Iv.wan (I : Iv s b shares n) (he : e < 4) {y : Option (Nat × Int × Int)} {kvs : List (Val × Val)} (B : LOk (b.sW e y kvs)) (hy : ∀ a m k, y = some (a, m, k) → 1 ≤ m) {n' : Nat} (hn : n ≤ n') (hk : kvs.length ≤ n') : Iv (s.sWa (s.wanted.set e (wtv y))) (b.sW e y kvs) shares n' :=
  { I.mono hn with
    K := I.K.sWa (by simp [I.K.wa])
    B := B
    O := ⟨I.O.r, I.O.b, I.O.n⟩
    wt := fun g hg => by
      rw [wt_set I.K.wa he, wan_sW I.B.wa he]
      split
      · rfl
      · exact I.wt g hg
    wm := fun g a m k hg hw => by
      rw [wan_sW I.B.wa he] at hw
      split at hw
      · exact hy a m k hw
      · exact I.wm g a m k hg hw
    l6 := hk }
theorem Iv.nws (I : Iv s b shares n) {k : List Val} : Iv (s.nWs f a k) b shares n := { I with K := I.K.nWs, O := ⟨I.O.r, I.O.b, I.O.n⟩ }
theorem Iv.sws (I : Iv s b shares n) {k : List Val} : Iv (s.sWs f k) b shares n := { I with K := I.K.sWs, O := ⟨I.O.r, I.O.b, I.O.n⟩ }
theorem Iv.nls (I : Iv s b shares n) (he : e < 4) {t : List Int} (hl : t.length + (s.ord e).length + (s.lo e).length ≤ n) : Iv (s.nLs e a (s.lo e ++ t)) b shares n := { I with
  K := I.K.nLs
  O := ⟨I.O.r, I.O.b, I.O.n⟩
  l1 := fun g hg => by
    rw [lo_nLs (by rw [I.K.ls]; exact he)]
    show (s.ord g).length + _ ≤ _
    split
    · subst_vars; rw [List.length_append]; omega
    · exact I.l1 g hg }
end
end Lw

set_option Elab.async false
set_option linter.all false
set_option autoImplicit false
set_option maxHeartbeats 4000000
set_option maxRecDepth 100000
namespace Lw
open PyM
section
variable {s : FS} {b : LB} {R : Nodes} {h h' : Heap} {e f w a c sa n r : Nat} {x v : Val} {shares : List Int} {many : Nat}
theorem Iv.rs (I : Iv s b shares n) (he : e < 4) (hf : f < s.many) (q : lookV (s.hdk f) (.int e) = some v) : ∃ r, r < 2 ∧ v = .str r := I.rv _ _ (by rw [I.rt e f he hf]; exact q)
theorem Iv.Rt (I : Iv s b shares n) : RtS s := fun e f he hf => by
  unfold FS.rt
  cases q : lookV (s.hdk f) (.int e) with
  | none => exact .inl rfl
  | some v =>
    obtain ⟨r, _, rfl⟩ := I.rs he hf q
    exact .inr ⟨r, rfl⟩
theorem Iv.Os (I : Iv s b shares n) : OfS s := fun k v q => by
  obtain ⟨r, _, e⟩ := I.sv k v q
  exact ⟨r, e⟩
theorem Iv.Ws (I : Iv s b shares n) : WtS s := fun e he => by
  rw [I.wt e he]
  cases q : b.wan e with
  | none => exact .inl rfl
  | some t =>
    obtain ⟨a, m, k⟩ := t
    exact .inr ⟨m, k, I.wm e a m k he q, rfl⟩
theorem Iv.shr (I : Iv s b shares n) : s.shr = fun e => shares.getD e 0 := by
  funext e
  unfold FS.shr
  rw [I.sh]
theorem sw {A B C : Nodes} (o : On (A ++ (B ++ C)) h) : On (B ++ (A ++ C)) h := o.perm (List.perm_append_comm_assoc A B C)
end
/-- a comprehension that makes new places -/
theorem fam_lc {α : Type} {chk : Heap → Bool} {tg : Val → En → Option En} {me : En → Heap → Res Val} {s0 : En} {E : Nat → Heap → Prop} {QU : Unit → Heap → Prop} {h : Heap} (nd : Nat × α → Nat × Obj) (v0 : α) (hnd : ∀ a, (nd (a, v0)).1 = a) {xs : List Val} {B : Nodes} (o : On B h) (hl : xs.length < lim)
    (hc : ∀ h', chk h' = true)
    (ht : ∀ x h', x ∈ xs → ∃ s2, tg x s0 = some s2 ∧ wR (me s2 h') (fun _ _ => False) fun y h2 => ∃ a, y = .ref a ∧ h'.length ≤ a ∧ Ext h' h2 ∧ h2[a]? = some (nd (a, v0)).2)
    (q : ∀ (ps : List (Nat × α)) h', ps.length = xs.length → (∀ p ∈ ps, p.2 = v0) → On ((h.length, .lst (refs ps)) :: (ps.map nd ++ B)) h' → QU () h') : wR (lcM chk tg tTrue me s0 h.length xs (h ++ [.lst []])) E QU := by
  refine wR_lcM (fun i acc h' => i ≤ xs.length ∧ ∃ ps : List (Nat × α), ps.length = i ∧ (∀ p ∈ ps, p.2 = v0) ∧ acc = refs ps ∧ On ((h.length, .lst acc) :: (ps.map nd ++ B)) h') xs 0 [] _ ⟨Nat.zero_le _, [], rfl, by simp, rfl, o.new _⟩ ?_ ?_
  · rintro i x acc h' _ hx ⟨hi, ps, hps, hv, rfl, o1⟩
    simp only [Nat.sub_zero] at hx
    have hlt : i < xs.length := (List.getElem?_eq_some_iff.mp hx).1
    obtain ⟨s2, e, w1⟩ := ht x h' (List.mem_of_getElem? hx)
    refine ⟨hc h', s2, e, ?_⟩
    rw [wR_tTrue, if_pos rfl]
    refine wR_mono w1 ?_
    rintro y h2 ⟨a, rfl, ha, x2, ea⟩
    have o2 := o1.ext x2
    have o3 := o2.newAt ea (fun p hp => o1.lt hp) ha
    have o4 := (o3.perm (List.Perm.swap _ _ _)).set (i := 0) rfl (Obj.lst (refs ps ++ [.ref a]))
    have el := o2.get (i := 0) rfl
    refine ⟨el, by rw [show (refs ps).length = i by simp [refs, hps]]; omega, hlt, ps ++ [(a, v0)], by simp [hps], fun p hp => ?_, by simp [refs], ?_⟩
    · rcases List.mem_append.mp hp with hp | hp
      · exact hv p hp
      · rw [List.mem_singleton.mp hp]
    · refine o4.perm ?_
      refine List.Perm.cons _ ?_
      rw [List.map_append]
      have e9 : ((ps.map nd ++ [(a, v0)].map nd) ++ B) = ps.map nd ++ (nd (a, v0) :: B) := by simp
      rw [e9]
      have e8 : (a, (nd (a, v0)).2) = nd (a, v0) := by
        conv => lhs; lhs; rw [← hnd a]
      rw [e8]
      exact (List.perm_middle (l₁ := ps.map nd)).symm
  · rintro acc h' ⟨_, ps, hps, hv, rfl, o1⟩
    exact ⟨hc _, q ps h' (by omega) hv o1⟩
theorem mvF {p q : Nat × Obj} {A B : Nodes} {h : Heap} (o : On (p :: (A ++ (q :: B))) h) : On (q :: p :: (A ++ B)) h := o.perm ((List.Perm.cons _ List.perm_middle).trans (List.Perm.swap _ _ _))
theorem fam_nil {α : Type} {l : List (Nat × List α)} (h : ∀ p ∈ l, p.2 = []) (f : Nat) : ((l[f]?).map (·.2)).getD [] = [] := by
  cases q : l[f]? with
  | none => rfl
  | some p => exact h p (List.mem_of_getElem? q)
/-- the book at the start -/
structure S0 (s : FS) (F many : Nat) (shares : List Int) : Prop where
  F : s.F = F
  m : s.many = many
  sh : s.shares = shares
  hd : ∀ f, s.hdk f = []
  os : ∀ e, s.ord e = []
  of : s.offers = []
  wt : ∀ e, s.wt e = .non
  lo : ∀ e, s.lo e = []
  K : FOk s
section
variable {h : Heap} {R : Nodes} {c many : Nat} {shares : List Int}
theorem init_ok (o : On R h) (ec : h[c]? = some (.lst (shares.map Val.int))) (m0 : 8 ≤ many) (m1 : many ≤ 64) (hl : shares.length = 4) (hz : ∀ z ∈ shares, 0 ≤ z) (hs : shares.sum ≤ many) :
    ∃ s h', m_Frames___init__ [.ref h.length, .int many, .ref c] (h ++ [.ins 0 []]) = .ok .non h' ∧ S0 s h.length many shares ∧ On (s.nodes ++ R) h' := by
  have wi : wR (m_Frames___init__ [.ref h.length, .int many, .ref c] (h ++ [.ins 0 []])) (fun _ _ => False) fun v h' => v = .non ∧ ∃ s, S0 s h.length many shares ∧ On (s.nodes ++ R) h' := by
    have ll := lim8
    have l1 : 1 ≤ lim := by omega
    have l0 : 0 ≤ lim := by omega
    have en : ∀ (i : Int) (h : Heap), m_is_number [.int i] h = .ok (.bl true) h := fun _ _ => rfl
    have oF := o.new (Obj.ins 0 [])
    have ec1 : (h ++ [Obj.ins 0 []])[c]? = some (.lst (shares.map Val.int)) := at_push ec
    have lc := at_lt ec
    generalize hh1 : h ++ [Obj.ins 0 []] = h1 at oF ec1
    have lF : h.length < h1.length := by rw [← hh1]; simp
    have ls1 := lstIs_at ec1
    have eis : isTy .lst (tyOf (.ref c) h1) = some true := by simp [tyOf, ec1, isTy]
    unfold m_Frames___init__
    refine wRB rfl ?_
    simp -implicitDefEqProofs [en, truth, show (8 : Int) ≤ many by omega, show (many : Int) ≤ 64 by omega, eis, ec1, hl, -wR_bAll, -wR_bSum]
    refine wR_lcXi (fun _ => .bl true) (by simp [hl]; omega) (fun h' ex => lstIs_at (ex.at ec1)) (fun i x h' hx ex => ?_) (fun h2 x2 el => ?_)
    · have hm := List.mem_of_getElem? hx
      obtain ⟨z, hz1, rfl⟩ := List.mem_map.mp hm
      have hz2 := hz z hz1
      refine ⟨_, rfl, ?_⟩
      simp -implicitDefEqProofs [wipeE, en, truth, hz2]
      exact Ext.refl _
    rw [List.length_map, hl] at el
    have q1 := bAll_map (b := fun _ => true) el
    have o2 := oF.ext x2
    have ec2 := x2.at ec1
    have q2 : bSum [.ref c] h2 = .ok (.int shares.sum) h2 := by
      have := bSum_map (b := fun z => z) ec2
      rwa [List.map_id'] at this
    have eF2 := o2.get (i := 0) rfl
    have o3 := o2.set (i := 0) rfl (.ins 0 [(0, .int many)])
    generalize hh3 : h2.set h.length (.ins 0 [(0, .int many)]) = h3 at o3
    have ec3 : h3[c]? = some (.lst (shares.map Val.int)) := by rw [← hh3, at_set_ne (by omega)]; exact ec2
    have hl3 : h3.length = h2.length := by rw [← hh3, List.length_set]
    have o4 := (o3.new (.lst (shares.map Val.int))).perm (List.Perm.swap _ _ _)
    rw [hl3] at o4
    have eF4 := o4.get (i := 0) rfl
    have o5 := o4.set (i := 0) rfl (.ins 0 [(0, .int many), (1, .ref h2.length)])
    generalize hh5 : (h3 ++ [Obj.lst (shares.map Val.int)]).set h.length (.ins 0 [(0, .int many), (1, .ref h2.length)]) = h5 at o5
    have hl5 : h5.length = h2.length + 1 := by rw [← hh5, List.length_set, List.length_append, hl3]; rfl
    refine wR_eq q1 ?_
    have ns : ¬ (many : Int) < shares.sum := by omega
    have mr : -4611686018427387904 ≤ (many : Int) ∧ (many : Int) < 4611686018427387904 := by omega
    simp -implicitDefEqProofs [truth, q2, ns, eF2, setF, hh3, ec3, eF4, hh5, mr, hl3, -wR_bSum]
    rw [← hl5]
    refine fam_lc dN [] (fun _ => rfl) o5 (by rw [rangeV_length]; omega) (fun _ => rfl) (fun x h' _ => ⟨_, rfl, ?_⟩) (fun hd h6 n2 v2 o6 => ?_)
    · simp -implicitDefEqProofs [wipeE]
      exact ⟨⟨_, rfl⟩, rfl⟩
    have o6 := mvF o6
    have eF6 := o6.get (i := 0) rfl
    have o7 := o6.set (i := 0) rfl (.ins 0 [(0, .int many), (1, .ref h2.length), (2, .ref h5.length)])
    generalize hh7 : h6.set h.length (.ins 0 [(0, .int many), (1, .ref h2.length), (2, .ref h5.length)]) = h7 at o7
    have hl7 : h7.length = h6.length := by rw [← hh7, List.length_set]
    simp -implicitDefEqProofs [eF6, setF, hh7, mr]
    rw [← hl7]
    refine fam_lc vN z8 (fun _ => rfl) o7 (by rw [rangeV_length]; omega) (fun _ => rfl) (fun x h' _ => ⟨_, rfl, ?_⟩) (fun ws h8 n3 v3 o8 => ?_)
    · simp -implicitDefEqProofs [wipeE, l1, show 8 ≤ lim by omega]
      exact ⟨⟨_, rfl⟩, rfl⟩
    have o8 := mvF o8
    have eF8 := o8.get (i := 0) rfl
    have o9 := o8.set (i := 0) rfl (.ins 0 [(0, .int many), (1, .ref h2.length), (2, .ref h5.length), (3, .ref h7.length)])
    generalize hh9 : h8.set h.length (.ins 0 [(0, .int many), (1, .ref h2.length), (2, .ref h5.length), (3, .ref h7.length)]) = h9 at o9
    have hl9 : h9.length = h8.length := by rw [← hh9, List.length_set]
    simp -implicitDefEqProofs [eF8, setF, hh9]
    rw [← hl9]
    refine fam_lc iN [] (fun _ => rfl) o9 (by rw [rangeV_length]; omega) (fun _ => rfl) (fun x h' _ => ⟨_, rfl, ?_⟩) (fun os h10 n4 v4 o10 => ?_)
    · simp -implicitDefEqProofs [wipeE, l0]
      exact ⟨⟨_, rfl⟩, rfl⟩
    have o10 := mvF o10
    have eF10 := o10.get (i := 0) rfl
    have o11 := o10.set (i := 0) rfl (.ins 0 [(0, .int many), (1, .ref h2.length), (2, .ref h5.length), (3, .ref h7.length), (4, .ref h9.length)])
    generalize hh11 : h10.set h.length (.ins 0 [(0, .int many), (1, .ref h2.length), (2, .ref h5.length), (3, .ref h7.length), (4, .ref h9.length)]) = h11 at o11
    have hl11 : h11.length = h10.length := by rw [← hh11, List.length_set]
    have o12 := (o11.new (.dcT [])).perm (List.Perm.swap _ _ _)
    rw [hl11] at o12
    have eF12 := o12.get (i := 0) rfl
    have o13 := o12.set (i := 0) rfl (.ins 0 [(0, .int many), (1, .ref h2.length), (2, .ref h5.length), (3, .ref h7.length), (4, .ref h9.length), (5, .ref h10.length)])
    generalize hh13 : (h11 ++ [Obj.dcT []]).set h.length (.ins 0 [(0, .int many), (1, .ref h2.length), (2, .ref h5.length), (3, .ref h7.length), (4, .ref h9.length), (5, .ref h10.length)]) = h13 at o13
    have hl13 : h13.length = h10.length + 1 := by rw [← hh13, List.length_set, List.length_append, hl11]; rfl
    simp -implicitDefEqProofs [eF10, setF, hh11, hl11, eF12, hh13]
    rw [← hl13]
    refine wR_lcXi (fun _ => .non) (by rw [rangeV_length]; omega) (fun _ _ => rfl) (fun i x h' hx ex => ⟨_, rfl, ?_⟩) (fun h14 x14 el => ?_)
    · simp -implicitDefEqProofs [wipeE]
      exact Ext.refl _
    rw [rangeV_length] at el
    have o14 := ((o13.ext x14).newAt el (fun p hp => o13.lt hp) (Nat.le_refl _)).perm (List.Perm.swap _ _ _)
    have eF14 := o14.get (i := 0) rfl
    have o15 := o14.set (i := 0) rfl (.ins 0 [(0, .int many), (1, .ref h2.length), (2, .ref h5.length), (3, .ref h7.length), (4, .ref h9.length), (5, .ref h10.length), (6, .ref h13.length)])
    generalize hh15 : h14.set h.length (.ins 0 [(0, .int many), (1, .ref h2.length), (2, .ref h5.length), (3, .ref h7.length), (4, .ref h9.length), (5, .ref h10.length), (6, .ref h13.length)]) = h15 at o15
    have hl15 : h15.length = h14.length := by rw [← hh15, List.length_set]
    simp -implicitDefEqProofs [eF14, setF, hh15]
    rw [← hl15]
    refine fam_lc iN [] (fun _ => rfl) o15 (by rw [rangeV_length]; omega) (fun _ => rfl) (fun x h' _ => ⟨_, rfl, ?_⟩) (fun ls h16 n7 v7 o16 => ?_)
    · simp -implicitDefEqProofs [wipeE, l0]
      exact ⟨⟨_, rfl⟩, rfl⟩
    have o16 := mvF o16
    have eF16 := o16.get (i := 0) rfl
    have o17 := o16.set (i := 0) rfl (.ins 0 [(0, .int many), (1, .ref h2.length), (2, .ref h5.length), (3, .ref h7.length), (4, .ref h9.length), (5, .ref h10.length), (6, .ref h13.length), (7, .ref h15.length)])
    simp -implicitDefEqProofs [eF16, setF]
    rw [rangeV_length] at n2 n3 n4 n7
    refine ⟨⟨h.length, h2.length, h5.length, h7.length, h9.length, h10.length, h13.length, h15.length, many, shares, hd, ws, os, [], [.non, .non, .non, .non], ls⟩, ⟨rfl, rfl, rfl, fam_nil v2, fam_nil v4, rfl, fun e => ?_, fam_nil v7, ⟨m0, m1, hl, n2, n3, n4, rfl, n7⟩⟩, o17.perm ?_⟩
    · unfold FS.wt
      rw [List.getD_eq_getElem?_getD]
      match e with
      | 0 => rfl
      | 1 => rfl
      | 2 => rfl
      | 3 => rfl
      | e + 4 => rfl
    · classical
      rw [List.perm_iff_count]
      intro x
      simp only [FS.nodes, FS.base, FS.obj, List.set_cons_zero, List.count_append, List.count_cons, List.count_nil, List.append_assoc, show (List.range 4).map (fun _ => Val.non) = [.non, .non, .non, .non] from rfl]
      omega
  obtain ⟨v, h', e, rfl, s, q⟩ := ex_of_wR wi
  exact ⟨s, h', e, q⟩
end
def bk0 (L : Nat) : LB := ⟨L + 4, L + 5, L + 6, L + 7, [(L, []), (L + 1, []), (L + 2, []), (L + 3, [])], [], [], [], [none, none, none, none]⟩
theorem wan0 {L : Nat} (e : Nat) : (bk0 L).wan e = none := by
  match e with
  | 0 => rfl
  | 1 => rfl
  | 2 => rfl
  | 3 => rfl
  | e + 4 => rfl
theorem hld0 {L : Nat} (e : Nat) : (bk0 L).hld e = [] := by
  match e with
  | 0 => rfl
  | 1 => rfl
  | 2 => rfl
  | 3 => rfl
  | e + 4 => rfl
theorem iv0 {s : FS} {F many L : Nat} {shares : List Int} (q : S0 s F many shares) (hz : ∀ z ∈ shares, 0 ≤ z) (hs : shares.sum ≤ many) : Iv s (bk0 L) shares 0 := by
  have nil : ∀ k : Val, lookV ([] : List (Val × Val)) k = none := fun _ => rfl
  have hl : shares.length = 4 := by rw [← q.sh]; exact q.K.sh
  refine ⟨q.K, ⟨rfl, rfl, fun e _ => by rw [wan0]; rfl⟩, q.sh, fun e he => ?_, ⟨fun e f _ _ => ?_, fun e x _ hx => ?_, fun e _ => ?_⟩, fun e _ => ?_, fun e f _ _ => ?_, fun e f w _ _ _ => ?_, fun e _ => ?_, fun e a m k _ h => ?_, (fun k v h => by cases h), (fun k v h => by cases h), fun k v h => ?_, fun f _ k v h => ?_, ?_, fun e _ => ?_, fun f _ => ?_, ?_, Nat.le_refl 0, Nat.le_refl 0, Nat.le_refl 0⟩
  · rw [List.getD_eq_getElem?_getD, List.getElem?_eq_getElem (by omega)]
    exact hz _ (List.getElem_mem _)
  · rw [q.hd, q.os, nil]; simp
  · rw [q.os] at hx; cases hx
  · rw [q.os]; exact List.nodup_nil
  · rw [q.os, hld0]
  · rw [q.hd]; rfl
  · rw [q.of]; rfl
  · rw [q.wt, wan0]; rfl
  · rw [wan0] at h; cases h
  · rw [q.of] at h; cases h
  · rw [q.hd] at h; cases h
  · unfold FS.unf FS.lft FS.len FS.shr
    rw [q.sh, q.m]
    simp only [q.os]
    match shares, hl with
    | [a, b, c, d], _ =>
      have h1 := hz a (by simp)
      have h2 := hz b (by simp)
      have h3 := hz c (by simp)
      have h4 := hz d (by simp)
      simp [show List.range 4 = [0, 1, 2, 3] from rfl] at hs ⊢
      omega
  · rw [q.os, q.lo]; simp
  · rw [q.hd]; simp
  · rw [q.of]; simp
end Lw

set_option Elab.async false
set_option linter.all false
set_option autoImplicit false
set_option maxHeartbeats 4000000
set_option maxRecDepth 100000
namespace Lw
open PyM
structure PS where
  P : Nat
  F : Nat
  EL : Nat
  es : List (Nat × List (Val × Val))
def PS.obj (p : PS) : Obj := .ins 1 [(8, .ref p.F), (9, .ref p.EL)]
def PS.nodes (p : PS) : Nodes := [(p.P, p.obj), (p.EL, .lst (refs p.es))] ++ p.es.map dN
def PS.ent (p : PS) (e : Nat) : List (Val × Val) := ((p.es[e]?).map (·.2)).getD []
def PS.ea (p : PS) (e : Nat) : Nat := ((p.es[e]?).map (·.1)).getD 0
def PS.sE (p : PS) (e : Nat) (k : List (Val × Val)) : PS := { p with es := p.es.set e (p.ea e, k) }
structure Pd (p : PS) (h : Heap) : Prop where
  eP : h[p.P]? = some p.obj
  eL : h[p.EL]? = some (.lst (refs p.es))
  es : ∀ (f a : Nat) (k : List (Val × Val)), p.es[f]? = some (a, k) → h[a]? = some (.dct k)
def EvS (p : PS) : Prop := ∀ (e q : Nat) (v : Val), e < 4 → q < 32 → lookV (p.ent e) (.int q) = some v → ∃ f r : Nat, r < 2 ∧ v = .tup [.int f, .str r]
def PS.en (p : PS) (e q : Nat) : Val := if q < 32 then (lookV (p.ent e) (.int q)).getD .non else .non
def falV (P : Val → Bool) : Nat → List (Val × Val) → List (Val × Val)
  | 0, d => d
  | n + 1, d => match lookV d (.int n) with
    | some v => if P v = true then dropV (falV P n d) (.int n) else falV P n d
    | none => falV P n d
def PF (f : Nat) (rs : Nat → Bool) : Val → Bool
  | .tup [.int f', .str r] => decide (f' = f) && rs r
  | _ => false
theorem int_inj' {a b : Nat} : Val.int (a : Int) = Val.int (b : Int) ↔ a = b := int_inj
theorem falV_look {P : Val → Bool} {d : List (Val × Val)} {q : Nat} : ∀ n, lookV (falV P n d) (.int q) = if q < n then (lookV d (.int q)).filter (fun v => !P v) else lookV d (.int q)
  | 0 => by simp [falV]
  | n + 1 => by
    have ih := falV_look (P := P) (d := d) (q := q) n
    unfold falV
    by_cases c : q = n
    · subst c
      rw [if_pos (by omega)]
      rw [if_neg (by omega)] at ih
      cases e : lookV d (.int q) with
      | none =>
        show lookV (falV P q d) (.int q) = _
        rw [ih, e]; rfl
      | some v =>
        show lookV (if P v = true then dropV (falV P q d) (.int q) else falV P q d) (.int q) = _
        split
        · rename_i hp
          rw [lookV_drop, if_pos rfl]
          simp [Option.filter, hp]
        · rename_i hp
          rw [ih, e]
          simp [Option.filter, hp]
    · have e2 : (q < n + 1) ↔ q < n := by omega
      simp only [e2]
      split
      · split
        · rw [lookV_drop, if_neg (fun z => c (int_inj.mp z))]; exact ih
        · exact ih
      · exact ih
theorem falV_len {P : Val → Bool} {d : List (Val × Val)} : ∀ n, (falV P n d).length ≤ d.length
  | 0 => Nat.le_refl _
  | n + 1 => by
    have ih := falV_len (P := P) (d := d) n
    unfold falV
    split
    · split
      · exact Nat.le_trans dropV_len ih
      · exact ih
    · exact ih
structure FaI (p : PS) (R : Nodes) (e f : Nat) (rv : Val) (P : Val → Bool) (n : Nat) (s' : En) (h' : Heap) : Prop where
  k : ∃ a b, s' = [some (.ref p.P), some (.int e), some (.int f), some rv, a, b]
  o : On ((p.sE e (falV P n (p.ent e))).nodes ++ R) h'
section
variable {p : PS} {R : Nodes} {h h' : Heap} {e f a q : Nat} {v rv : Val}
theorem PS.es_at (p : PS) (hf : f < p.es.length) : p.es[f]? = some (p.ea f, p.ent f) := by
  unfold PS.ea PS.ent
  rw [getD_map _ _ hf, getD_map _ _ hf, List.getElem?_eq_getElem hf]
theorem pd_of (o : On (p.nodes ++ R) h) : Pd p h := ⟨o.at_ (p.P, p.obj) (by simp [PS.nodes]), o.at_ (p.EL, .lst (refs p.es)) (by simp [PS.nodes]), fun f a k e => o.at_ _ (List.mem_append_left _ (List.mem_append_right _ (mem_map_at (g := dN) e)))⟩
theorem Pd.ext (r : Pd p h) (x : Ext h h') : Pd p h' := ⟨x.at r.eP, x.at r.eL, fun f a k e => x.at (r.es f a k e)⟩
theorem ent_sE {k : List (Val × Val)} {g : Nat} (hf : e < p.es.length) : (p.sE e k).ent g = if g = e then k else p.ent g := by
  unfold PS.ent PS.sE
  simp only [List.getElem?_set]
  by_cases c : e = g
  · subst c; simp [hf]
  · rw [if_neg c, if_neg (Ne.symm c)]
theorem sE_sE (hf : e < p.es.length) {k k' : List (Val × Val)} : (p.sE e k).sE e k' = p.sE e k' := by
  have : (p.sE e k).ea e = p.ea e := by
    unfold PS.sE
    show (((p.es.set e _)[e]?).map (·.1)).getD 0 = _
    rw [List.getElem?_set_self hf]
    rfl
  unfold PS.sE at *
  simp only [this, List.set_set]
theorem on_sE (o : On (p.nodes ++ R) h) (hf : e < p.es.length) (k : List (Val × Val)) : On ((p.sE e k).nodes ++ R) (h.set (p.ea e) (.dct k)) := by
  have e0 := p.es_at hf
  have e1 : (p.es.map dN)[e]? = some (dN (p.ea e, p.ent e)) := by rw [List.getElem?_map, e0]; rfl
  have e6 : p.nodes[2 + e]? = _ := app_at (A := [(p.P, p.obj), (p.EL, .lst (refs p.es))]) (n := 2) rfl e1
  have z := o.set (app_l (B := R) e6) (.dct k)
  have q : (p.nodes ++ R).set (2 + e) (p.ea e, .dct k) = (p.sE e k).nodes ++ R := by
    rw [app_setl e6]
    unfold PS.nodes
    rw [app_setr (A := [(p.P, p.obj), (p.EL, .lst (refs p.es))]) (n := 2) rfl]
    simp only [PS.obj, PS.sE, List.map_set, refs_set e0]
    rfl
  rw [q] at z
  exact z
theorem isP (r : Pd p h) : isIns 1 (.ref p.P) h = true := by
  have := r.eP
  unfold PS.obj at this
  simp [isIns, this]
theorem gP8 (r : Pd p h) : getF 8 (.ref p.P) h = .ok (.ref p.F) h := by have := r.eP; unfold PS.obj at this; simp [getF, this, lookF]
theorem gP9 (r : Pd p h) : getF 9 (.ref p.P) h = .ok (.ref p.EL) h := by have := r.eP; unfold PS.obj at this; simp [getF, this, lookF]
theorem ispage_ok {i : Int} : m_is_page [.int i] h = .ok (.bl (decide (0 ≤ i) && decide (i < 32))) h := by
  have en : m_is_number [.int i] h = .ok (.bl true) h := rfl
  refine eq_of_wR ?_
  unfold m_is_page
  refine wRB rfl ?_
  simp -implicitDefEqProofs [en, truth]
  by_cases c : 0 ≤ i <;> simp [c]
theorem entry_ok (pl : p.es.length = 4) (r : Pd p h) (he : e < 4) : m_Pages_entry [.ref p.P, .int e, .int q] h = .ok (p.en e q) h := by
  have e0 := p.es_at (f := e) (by omega)
  have ip := ispage_ok (i := (q : Int)) (h := h)
  refine eq_of_wR ?_
  unfold m_Pages_entry PS.en
  refine wRB rfl ?_
  by_cases c : q < 32
  · have c1 : (decide ((0 : Int) ≤ q) && decide ((q : Int) < 32)) = true := by simp; omega
    rw [c1] at ip
    have eg := dGet_at (z := .non) (r.es _ _ _ e0) (y := .int (q : Nat)) rfl
    simp -implicitDefEqProofs [ip, truth, c, gP9 r, r.eL, refs_at e0, isD_dct (r.es _ _ _ e0), eg, -wR_getF]
  · have c1 : (decide ((0 : Int) ≤ q) && decide ((q : Int) < 32)) = false := by simp; omega
    rw [c1] at ip
    simp -implicitDefEqProofs [ip, truth, c]
theorem fall_ok (pl : p.es.length = 4) (o : On (p.nodes ++ R) h) (V : EvS p) (he : e < 4) {rs : Nat → Bool} (hr : ∀ r h, r < 2 → oIn false (.str r) rv h = .ok (.bl (rs r)) h) :
    ∃ h', m_Pages__fall [.ref p.P, .int e, .int f, rv] h = .ok .non h' ∧ On ((p.sE e (falV (PF f rs) 32 (p.ent e))).nodes ++ R) h' := by
  have wi : wR (m_Pages__fall [.ref p.P, .int e, .int f, rv] h) (fun _ _ => False) fun v h' => v = .non ∧ On ((p.sE e (falV (PF f rs) 32 (p.ent e))).nodes ++ R) h' := by
    have hl : e < p.es.length := by omega
    unfold m_Pages__fall
    refine wRB rfl ?_
    have o0 : On ((p.sE e (falV (PF f rs) 0 (p.ent e))).nodes ++ R) h := by
      have e0 := p.es_at hl
      have : p.sE e (p.ent e) = p := by
        unfold PS.sE
        have : p.es.set e (p.ea e, p.ent e) = p.es := by
          apply List.ext_getElem?
          intro j
          rw [List.getElem?_set]
          split
          · rename_i c; subst c; first | rw [if_pos hl, e0] | rw [e0]
          · rfl
        rw [this]
      show On ((p.sE e (p.ent e)).nodes ++ R) h
      rw [this]
      exact o
    simp -implicitDefEqProofs
    refine wS_range (n := 32) (FaI p R e f rv (PF f rs)) ⟨⟨_, _, rfl⟩, o0⟩ ?_ ?_
    · rintro i s' h1 hi ⟨⟨a, b, rfl⟩, o1⟩
      refine ⟨[some (.ref p.P), some (.int e), some (.int f), some rv, some (.int (i : Nat)), b], rfl, ?_⟩
      have r1 := pd_of o1
      have pl1 : (p.sE e (falV (PF f rs) i (p.ent e))).es.length = 4 := by simp [PS.sE, pl]
      have e1 : m_Pages_entry [.ref p.P, .int e, .int i] h1 = .ok ((p.sE e (falV (PF f rs) i (p.ent e))).en e i) h1 := entry_ok pl1 r1 he
      have e2 : (p.sE e (falV (PF f rs) i (p.ent e))).en e i = (lookV (p.ent e) (.int i)).getD .non := by
        unfold PS.en
        rw [if_pos hi, ent_sE hl, if_pos rfl, falV_look, if_neg (by omega)]
      rw [e2] at e1
      have ip : isIns 1 (.ref p.P) h1 = true := by have z := isP r1; exact z
      have g9 : getF 9 (.ref p.P) h1 = .ok (.ref p.EL) h1 := by have z := gP9 r1; exact z
      have eL : h1[p.EL]? = some (.lst (refs (p.sE e (falV (PF f rs) i (p.ent e))).es)) := r1.eL
      have ha := (p.sE e (falV (PF f rs) i (p.ent e))).es_at (f := e) (by rw [pl1]; exact he)
      rw [ent_sE hl, if_pos rfl] at ha
      cases hk : lookV (p.ent e) (.int i) with
      | none =>
        rw [hk] at e1
        have hf : falV (PF f rs) (i + 1) (p.ent e) = falV (PF f rs) i (p.ent e) := by rw [falV, hk]
        simp -implicitDefEqProofs [ip, e1, gV]
        exact ⟨⟨_, _, rfl⟩, by rw [hf]; exact o1⟩
      | some v =>
        obtain ⟨f', r, hr2, rfl⟩ := V e i v he hi hk
        rw [hk] at e1
        have hin := hr r h1 hr2
        by_cases c : f' = f ∧ rs r = true
        · have hf : falV (PF f rs) (i + 1) (p.ent e) = dropV (falV (PF f rs) i (p.ent e)) (.int i) := by
            rw [falV, hk]
            show (if PF f rs (.tup [.int f', .str r]) = true then _ else _) = _
            rw [if_pos (by simp [PF, c.1, c.2])]
          have hkk : lookV (falV (PF f rs) i (p.ent e)) (.int i) = some (.tup [.int f', .str r]) := by rw [falV_look, if_neg (by omega), hk]
          have ep := dPop1_at (r1.es _ _ _ ha) (y := .int (i : Nat)) rfl hkk
          have o2 := on_sE o1 (e := e) (by rw [pl1]; exact he) (dropV (falV (PF f rs) i (p.ent e)) (.int i))
          rw [sE_sE hl] at o2
          rw [c.2] at hin
          obtain ⟨rfl, c2⟩ := c
          simp -implicitDefEqProofs [ip, e1, gV, hin, g9, eL, refs_at ha, isD_dct (r1.es _ _ _ ha), ep, -wR_getF]
          exact ⟨⟨_, _, rfl⟩, by rw [hf]; exact o2⟩
        · have hf : falV (PF f rs) (i + 1) (p.ent e) = falV (PF f rs) i (p.ent e) := by
            rw [falV, hk]
            show (if PF f rs (.tup [.int f', .str r]) = true then _ else _) = _
            rw [if_neg (fun z => c (by simp [PF] at z; exact ⟨by omega, z.2⟩))]
          by_cases c1 : f' = f
          · subst c1
            have c2 : rs r = false := by simpa using c
            rw [c2] at hin
            simp -implicitDefEqProofs [ip, e1, gV, hin]
            exact ⟨⟨_, _, rfl⟩, by rw [hf]; exact o1⟩
          · have c1' : ¬ ((f' : Int) = f) := by omega
            simp -implicitDefEqProofs [ip, e1, gV, c1, c1']
            exact ⟨⟨_, _, rfl⟩, by rw [hf]; exact o1⟩
    · rintro s' h1 ⟨⟨a, b, rfl⟩, o1⟩
      simp -implicitDefEqProofs
      exact o1
  obtain ⟨v, h', e, rfl, q⟩ := ex_of_wR wi
  exact ⟨h', e, q⟩
theorem ended_ok (pl : p.es.length = 4) (o : On (p.nodes ++ R) h) (V : EvS p) (he : e < 4) :
    ∃ h', m_Pages_ended [.ref p.P, .int e, .int f] h = .ok .non h' ∧ On ((p.sE e (falV (PF f fun _ => true) 32 (p.ent e))).nodes ++ R) h' := by
  obtain ⟨h', e1, o1⟩ := fall_ok (f := f) (rv := c_RIGHTS) (rs := fun _ => true) pl o V he (fun r h hr => by
    have : r = 0 ∨ r = 1 := by omega
    rcases this with rfl | rfl <;> rfl)
  refine ⟨h', eq_of_wR ?_, o1⟩
  unfold m_Pages_ended
  refine wRB rfl ?_
  simp -implicitDefEqProofs [isP (pd_of o), e1]
theorem narrowed_ok (pl : p.es.length = 4) (o : On (p.nodes ++ R) h) (V : EvS p) (he : e < 4) :
    ∃ h', m_Pages_narrowed [.ref p.P, .int e, .int f] h = .ok .non h' ∧ On ((p.sE e (falV (PF f fun r => decide (r = 0)) 32 (p.ent e))).nodes ++ R) h' := by
  obtain ⟨h', e1, o1⟩ := fall_ok (f := f) (rv := .tup [.str 0]) (rs := fun r => decide (r = 0)) pl o V he (fun r h hr => by
    have : r = 0 ∨ r = 1 := by omega
    rcases this with rfl | rfl <;> rfl)
  refine ⟨h', eq_of_wR ?_, o1⟩
  have l1 : 1 ≤ lim := by decide
  unfold m_Pages_narrowed
  refine wRB rfl ?_
  simp -implicitDefEqProofs [isP (pd_of o), e1, l1]
end
end Lw

set_option Elab.async false
set_option linter.all false
set_option autoImplicit false
set_option maxHeartbeats 4000000
set_option maxRecDepth 100000
namespace Lw
open PyM
def FS.rtI (s : FS) (e : Nat) (f : Int) : Val := if 0 ≤ f ∧ f < s.many then s.rt e f.toNat else .non
def inI (x : Val) (r : Nat) : Bool := match x with
  | .str q => incl q r
  | _ => false
def mapB (s : FS) (e : Nat) (i f : Int) (r : Nat) : Bool := decide (0 ≤ i) && decide (i < 32) && (decide (r < 2) && inI (s.rtI e f) r)
def EvT (p : PS) (many : Nat) : Prop := ∀ (e q : Nat) (v : Val), e < 4 → q < 32 → lookV (p.ent e) (.int q) = some v → ∃ f r : Nat, r < 2 ∧ f < many ∧ v = .tup [.int f, .str r]
def ldV (s : FS) (i : Int) : Val → Val
  | .tup [.int f, .str _] => if 0 ≤ i ∧ i < 8 then (s.wd f.toNat).getD i.toNat .non else .non
  | _ => .non
def stB (i w : Int) : Val → Option Nat
  | .tup [.int f, .str r] => if (r = 0 ∧ 0 ≤ w ∧ w ≤ 4294967295) ∧ 0 ≤ i ∧ i < 8 then some f.toNat else none
  | _ => none
section
variable {s : FS} {p : PS} {R : Nodes} {h h' : Heap} {e a q : Nat} {v rv : Val}
theorem EvT.S {many : Nat} (V : EvT p many) : EvS p := fun e q v he hq hl => by
  obtain ⟨f, r, h1, h2, h3⟩ := V e q v he hq hl
  exact ⟨f, r, h1, h3⟩
theorem rightI_ok (K : FOk s) (r : Fd s h) {f : Int} : m_Frames_right [.ref s.F, .int e, .int f] h = .ok (s.rtI e f) h := by
  unfold FS.rtI
  by_cases c : 0 ≤ f ∧ f < s.many
  · obtain ⟨f, rfl⟩ := Int.eq_ofNat_of_zero_le c.1
    rw [if_pos c]
    exact right_ok K r (by omega)
  · have e0 := isframe_ok K r (f := f)
    have c1 : (decide (0 ≤ f) && decide (f < s.many)) = false := by
      rw [Bool.eq_false_iff]; intro z; simp at z; exact c z
    rw [c1] at e0
    rw [if_neg c]
    refine eq_of_wR ?_
    unfold m_Frames_right
    refine wRB rfl ?_
    simp -implicitDefEqProofs [isF r, e0, truth]
theorem rtI_cases (Rs : RtS s) (he : e < 4) (f : Int) : s.rtI e f = .non ∨ ∃ q, s.rtI e f = .str q := by
  unfold FS.rtI
  split
  · rename_i c
    exact Rs e f.toNat he (by omega)
  · exact .inl rfl
theorem map_ok (K : FOk s) (Rs : RtS s) (rs : Fd s h) (hF : p.F = s.F) (pl : p.es.length = 4) (o : On (p.nodes ++ R) h) (he : e < 4) (hl : (p.ent e).length < 1000) {i f : Int} {r : Nat} (hr : r = 0 ∨ r = 1 ∨ r = 3) :
    ∃ h', m_Pages_map [.ref p.P, .int e, .int i, .int f, .str r] h = .ok (.bl (mapB s e i f r)) h' ∧ On ((if mapB s e i f r = true then p.sE e (putV (p.ent e) (.int i) (.tup [.int f, .str r])) else p).nodes ++ R) h' := by
  have wi : wR (m_Pages_map [.ref p.P, .int e, .int i, .int f, .str r] h) (fun _ _ => False) fun v h' => v = .bl (mapB s e i f r) ∧ On ((if mapB s e i f r = true then p.sE e (putV (p.ent e) (.int i) (.tup [.int f, .str r])) else p).nodes ++ R) h' := by
    have ll := lim8
    have l2 : 2 ≤ lim := by omega
    have rp := pd_of o
    have e0 := p.es_at (f := e) (by omega)
    have e1 := ispage_ok (i := i) (h := h)
    have e2 := rightI_ok K rs (e := e) (f := f)
    rw [← hF] at e2
    have iF := isF rs
    rw [← hF] at iF
    have e3 : oIn true (.str r) c_RIGHTS h = .ok (.bl (!decide (r < 2))) h := by
      rcases hr with rfl | rfl | rfl <;> rfl
    unfold m_Pages_map mapB
    refine wRB rfl ?_
    by_cases c1 : 0 ≤ i ∧ i < 32
    · have c1' : (decide (0 ≤ i) && decide (i < 32)) = true := by simp [c1]
      rw [c1'] at e1 ⊢
      by_cases c2 : r < 2
      · rw [show decide (r < 2) = true from decide_eq_true c2] at e3 ⊢
        rcases rtI_cases Rs he f with q | ⟨q, hq⟩
        · rw [q] at e2 ⊢
          simp -implicitDefEqProofs [e1, truth, e3, gP8 rp, iF, e2, gV, inI, -wR_getF]
          exact o
        · rw [hq] at e2 ⊢
          have e4 := includes_ok (h := h) (a := q) (b := r)
          cases hi : incl q r with
          | false =>
            rw [hi] at e4
            simp -implicitDefEqProofs [e1, truth, e3, gP8 rp, iF, e2, gV, inI, e4, hi, -wR_getF]
            exact o
          | true =>
            rw [hi] at e4
            have o2 := on_sE o (e := e) (by omega) (putV (p.ent e) (.int i) (.tup [.int f, .str r]))
            simp -implicitDefEqProofs [e1, truth, e3, gP8 rp, iF, e2, gV, inI, e4, hi, l2, gP9 rp, rp.eL, refs_at e0, rp.es _ _ _ e0, show (p.ent e).length < lim by omega, -wR_getF]
            exact o2
      · rw [show decide (r < 2) = false from decide_eq_false c2] at e3 ⊢
        simp -implicitDefEqProofs [e1, truth, e3]
        exact o
    · have c1' : (decide (0 ≤ i) && decide (i < 32)) = false := by
        rw [Bool.eq_false_iff]; intro z; simp at z; exact c1 z
      rw [c1'] at e1 ⊢
      simp -implicitDefEqProofs [e1, truth]
      exact o
  obtain ⟨v, h', e, rfl, q⟩ := ex_of_wR wi
  exact ⟨h', e, q⟩
theorem dPop2_at {d : List (Val × Val)} {h : Heap} {a : Nat} {y z : Val} (e : h[a]? = some (.dct d)) (hk : isKey y = true) : dPop2 (.ref a) y z h = .ok ((lookV d y).getD z) (h.set a (.dct (dropV d y))) := by
  unfold dPop2
  simp only [e, hk]
  cases q : lookV d y with
  | none =>
    rw [dropV_none q]
    have : h.set a (.dct d) = h := by
      apply List.ext_getElem?
      intro j
      rw [List.getElem?_set]
      split
      · rename_i c
        subst c
        rw [if_pos (at_lt e), e]
      · rfl
    rw [this]
    rfl
  | some x => simp
theorem unmap_ok (pl : p.es.length = 4) (V : EvS p) (o : On (p.nodes ++ R) h) (he : e < 4) :
    ∃ h', m_Pages_unmap [.ref p.P, .int e, .int q] h = .ok (.bl (!decide (p.en e q = .non))) h' ∧ On ((if q < 32 then p.sE e (dropV (p.ent e) (.int q)) else p).nodes ++ R) h' := by
  have wi : wR (m_Pages_unmap [.ref p.P, .int e, .int q] h) (fun _ _ => False) fun v h' => v = .bl (!decide (p.en e q = .non)) ∧ On ((if q < 32 then p.sE e (dropV (p.ent e) (.int q)) else p).nodes ++ R) h' := by
    have rp := pd_of o
    have e0 := p.es_at (f := e) (by omega)
    have e1 := ispage_ok (i := (q : Int)) (h := h)
    unfold m_Pages_unmap PS.en
    refine wRB rfl ?_
    by_cases c : q < 32
    · have c1 : (decide ((0 : Int) ≤ q) && decide ((q : Int) < 32)) = true := by simp; omega
      rw [c1] at e1
      have ep := dPop2_at (z := .non) (rp.es _ _ _ e0) (y := .int (q : Nat)) rfl
      have o2 := on_sE o (e := e) (by omega) (dropV (p.ent e) (.int q))
      cases hk : lookV (p.ent e) (.int q) with
      | none =>
        rw [hk] at ep
        simp -implicitDefEqProofs [e1, truth, gP9 rp, rp.eL, refs_at e0, isD_dct (rp.es _ _ _ e0), ep, c, hk, -wR_getF]
        exact o2
      | some v =>
        obtain ⟨f, r, hr, rfl⟩ := V e q v he c hk
        rw [hk] at ep
        simp -implicitDefEqProofs [e1, truth, gP9 rp, rp.eL, refs_at e0, isD_dct (rp.es _ _ _ e0), ep, c, hk, -wR_getF]
        exact o2
    · have c1 : (decide ((0 : Int) ≤ q) && decide ((q : Int) < 32)) = false := by simp; omega
      rw [c1] at e1
      simp -implicitDefEqProofs [e1, truth, c]
      exact o
  obtain ⟨v, h', e, rfl, q⟩ := ex_of_wR wi
  exact ⟨h', e, q⟩
theorem en_cases (V : EvT p s.many) (he : e < 4) (q : Nat) : p.en e q = .non ∨ ∃ f r : Nat, q < 32 ∧ r < 2 ∧ f < s.many ∧ lookV (p.ent e) (.int q) = some (.tup [.int f, .str r]) ∧ p.en e q = .tup [.int f, .str r] := by
  unfold PS.en
  split
  · rename_i c
    cases hk : lookV (p.ent e) (.int q) with
    | none => exact .inl rfl
    | some v =>
      obtain ⟨f, r, h1, h2, rfl⟩ := V e q v he c hk
      exact .inr ⟨f, r, c, h1, h2, rfl, rfl⟩
  · exact .inl rfl
theorem load_ok (K : FOk s) (rs : Fd s h) (hF : p.F = s.F) (pl : p.es.length = 4) (V : EvT p s.many) (rp : Pd p h) (he : e < 4) (w8 : ∀ f r : Nat, p.en e q = .tup [.int f, .str r] → (s.wd f).length = 8) {i : Int} :
    m_Pages_load [.ref p.P, .int e, .int q, .int i] h = .ok (ldV s i (p.en e q)) h := by
  have e1 := entry_ok pl rp he (q := q)
  have en : m_is_number [.int i] h = .ok (.bl true) h := rfl
  have iF := isF rs
  rw [← hF] at iF
  refine eq_of_wR ?_
  unfold m_Pages_load
  refine wRB rfl ?_
  rcases en_cases V he q with z | ⟨f, r, hq, hr, hf, hl, z⟩
  · rw [z] at e1 ⊢
    simp -implicitDefEqProofs [isP rp, e1, gV, ldV]
  · have h8 := w8 f r z
    rw [z] at e1 ⊢
    by_cases c : 0 ≤ i ∧ i < 8
    · obtain ⟨j, rfl⟩ := Int.eq_ofNat_of_zero_le c.1
      have hj : j < (s.wd f).length := by omega
      have e2 := read_ok K rs hf (i := j) (x := (s.wd f)[j]) (List.getElem?_eq_getElem hj)
      rw [← hF] at e2
      simp -implicitDefEqProofs [isP rp, e1, gV, ldV, en, truth, c, gP8 rp, iF, e2, hj, show (j : Int) < 8 by omega, -wR_getF]
    · by_cases c1 : 0 ≤ i
      · simp -implicitDefEqProofs [isP rp, e1, gV, ldV, en, truth, c, c1, show ¬ i < 8 by omega]
      · simp -implicitDefEqProofs [isP rp, e1, gV, ldV, en, truth, c, c1]
theorem store_ok (K : FOk s) (hF : p.F = s.F) (pl : p.es.length = 4) (V : EvT p s.many) (rp : Pd p h) (o : On (s.nodes ++ R) h) (he : e < 4) (w8 : ∀ f r : Nat, p.en e q = .tup [.int f, .str r] → (s.wd f).length = 8) {i w : Int} :
    ∃ h', m_Pages_store [.ref p.P, .int e, .int q, .int i, .int w] h = .ok (.bl (stB i w (p.en e q)).isSome) h' ∧ On ((match stB i w (p.en e q) with | some f => s.sWs f ((s.wd f).set i.toNat (.int w)) | none => s).nodes ++ R) h' := by
  have wi : wR (m_Pages_store [.ref p.P, .int e, .int q, .int i, .int w] h) (fun _ _ => False) fun v h' => v = .bl (stB i w (p.en e q)).isSome ∧ On ((match stB i w (p.en e q) with | some f => s.sWs f ((s.wd f).set i.toNat (.int w)) | none => s).nodes ++ R) h' := by
    have rs := fr_of o
    have e1 := entry_ok pl rp he (q := q)
    have en : ∀ j : Int, m_is_number [.int j] h = .ok (.bl true) h := fun _ => rfl
    have iF := isF rs
    rw [← hF] at iF
    have ew : m_is_word [.int w] h = .ok (.bl (decide (0 ≤ w) && decide (w ≤ 4294967295))) h := by
      refine eq_of_wR ?_
      unfold m_is_word
      refine wRB rfl ?_
      simp -implicitDefEqProofs [en, truth]
      by_cases c : 0 ≤ w <;> simp [c]
    unfold m_Pages_store
    refine wRB rfl ?_
    rcases en_cases V he q with z | ⟨f, r, hq, hr, hf, hl, z⟩
    · rw [z] at e1 ⊢
      simp -implicitDefEqProofs [isP rp, e1, gV, stB]
      exact o
    · have h8 := w8 f r z
      rw [z] at e1 ⊢
      by_cases c0 : r = 0
      · subst c0
        by_cases cw : 0 ≤ w ∧ w ≤ 4294967295
        · have cw' : (decide (0 ≤ w) && decide (w ≤ 4294967295)) = true := by simp [cw]
          rw [cw'] at ew
          by_cases c : 0 ≤ i ∧ i < 8
          · obtain ⟨j, rfl⟩ := Int.eq_ofNat_of_zero_le c.1
            have hj : j < (s.wd f).length := by omega
            obtain ⟨h1, e2, o2⟩ := write_ok K o hf hj (x := .int w)
            rw [← hF] at e2
            simp -implicitDefEqProofs [isP rp, e1, gV, stB, en, ew, truth, c, cw, gP8 rp, iF, e2, show (j : Int) < 8 by omega, -wR_getF]
            exact o2
          · by_cases c1 : 0 ≤ i
            · simp -implicitDefEqProofs [isP rp, e1, gV, stB, en, ew, truth, c, c1, show ¬ i < 8 by omega]
              exact o
            · simp -implicitDefEqProofs [isP rp, e1, gV, stB, en, ew, truth, c, c1]
              exact o
        · have cw' : (decide (0 ≤ w) && decide (w ≤ 4294967295)) = false := by
            rw [Bool.eq_false_iff]; intro z; simp at z; exact cw z
          rw [cw'] at ew
          simp -implicitDefEqProofs [isP rp, e1, gV, stB, ew, truth, cw]
          exact o
      · simp -implicitDefEqProofs [isP rp, e1, gV, stB, c0]
        exact o
  obtain ⟨v, h', e, rfl, q⟩ := ex_of_wR wi
  exact ⟨h', e, q⟩
end
end Lw

set_option Elab.async false
set_option linter.all false
set_option autoImplicit false
set_option maxHeartbeats 4000000
set_option maxRecDepth 100000
namespace Lw
open PyM
/-! the law's own words -/
def oN : Option (Nat × List Val) → Nodes
  | some (a, k) => [(a, .lst k)]
  | none => []
structure WB where
  WD : Nat
  kvs : List (Val × Val)
  wl : List (Option (Nat × List Val))
def WB.nodes (b : WB) : Nodes := (b.WD, .dct b.kvs) :: b.wl.flatMap oN
def WB.w (b : WB) (f : Nat) : Option (Nat × List Val) := b.wl.getD f none
def WB.st (b : WB) (f : Nat) (y : Option (Nat × List Val)) (kvs : List (Val × Val)) : WB := { b with kvs := kvs, wl := b.wl.set f y }
theorem fmp {β : Type} (g : β → Nodes) (d : β) : ∀ {wa : List β} {e : Nat}, e < wa.length → (wa.flatMap g).Perm (g (wa.getD e d) ++ (wa.eraseIdx e).flatMap g)
  | [], _, h => by simp at h
  | x :: wa, 0, _ => by simp
  | x :: wa, e + 1, h => by
    have ih := fmp g d (wa := wa) (e := e) (by simpa using h)
    rw [List.flatMap_cons, List.eraseIdx_cons_succ, List.flatMap_cons, List.getD_cons_succ]
    exact (ih.append_left _).trans (List.perm_append_comm_assoc _ _ _)
/-! the law's own entries -/
def falE (P : Val → Bool) (e : Nat) : Nat → List (Val × Val) → List (Val × Val)
  | 0, d => d
  | n + 1, d => match lookV d (key2 e n) with
    | some v => if P v = true then dropV (falE P e n d) (key2 e n) else falE P e n d
    | none => falE P e n d
theorem falE_look {P : Val → Bool} {d : List (Val × Val)} {e g q : Nat} : ∀ n, lookV (falE P e n d) (key2 g q) = if g = e ∧ q < n then (lookV d (key2 g q)).filter (fun v => !P v) else lookV d (key2 g q)
  | 0 => by simp [falE]
  | n + 1 => by
    have ih := falE_look (P := P) (d := d) (e := e) (g := g) (q := q) n
    unfold falE
    by_cases c : g = e ∧ q = n
    · obtain ⟨rfl, rfl⟩ := c
      rw [if_pos ⟨rfl, by omega⟩]
      rw [if_neg (by omega)] at ih
      cases e : lookV d (key2 g q) with
      | none =>
        show lookV (falE P g q d) (key2 g q) = _
        rw [ih, e]; rfl
      | some v =>
        show lookV (if P v = true then dropV (falE P g q d) (key2 g q) else falE P g q d) (key2 g q) = _
        split
        · rename_i hp
          rw [lookV_drop, if_pos rfl]
          simp [Option.filter, hp]
        · rename_i hp
          rw [ih, e]
          simp [Option.filter, hp]
    · have e2 : (g = e ∧ q < n + 1) ↔ (g = e ∧ q < n) := by omega
      simp only [e2]
      split
      · split
        · rw [lookV_drop, if_neg (fun z => c (key2_inj.mp z))]; exact ih
        · exact ih
      · exact ih
theorem falE_len {P : Val → Bool} {d : List (Val × Val)} {e : Nat} : ∀ n, (falE P e n d).length ≤ d.length
  | 0 => Nat.le_refl _
  | n + 1 => by
    have ih := falE_len (P := P) (d := d) (e := e) n
    unfold falE
    split
    · split
      · exact Nat.le_trans dropV_len ih
      · exact ih
    · exact ih
structure FeI (F P A e f : Nat) (R : Nodes) (ent : List (Val × Val)) (Q : Val → Bool) (n : Nat) (s' : En) (h' : Heap) : Prop where
  k : ∃ a, s' = [some (.ref F), some (.ref P), some (.ref A), some (.int e), some (.int f), a]
  o : On ((A, .dcT (falE Q e n ent)) :: R) h'
section
variable {s : FS} {p : PS} {b : WB} {R : Nodes} {h h' : Heap} {e f a q A : Nat} {v rv : Val} {ent : List (Val × Val)}
theorem wb_perm (hf : f < b.wl.length) : (b.nodes ++ R).Perm (oN (b.w f) ++ ((b.WD, .dct b.kvs) :: ((b.wl.eraseIdx f).flatMap oN ++ R))) := by
  have p := fmp oN none (wa := b.wl) (e := f) hf
  unfold WB.nodes
  have p1 := ((p.append_right R).cons (b.WD, Obj.dct b.kvs))
  rw [List.append_assoc] at p1
  exact p1.trans List.perm_middle.symm
theorem w_st (hf : f < b.wl.length) {y : Option (Nat × List Val)} {kvs : List (Val × Val)} {g : Nat} : (b.st f y kvs).w g = if g = f then y else b.w g := by
  unfold WB.w WB.st
  simp only [List.getD_eq_getElem?_getD, List.getElem?_set]
  by_cases c : f = g
  · subst c; simp [hf]
  · rw [if_neg c, if_neg (Ne.symm c)]
theorem wb_perm2 (hf : f < b.wl.length) (y : Option (Nat × List Val)) (kvs : List (Val × Val)) : ((b.st f y kvs).nodes ++ R).Perm (oN y ++ ((b.WD, .dct kvs) :: ((b.wl.eraseIdx f).flatMap oN ++ R))) := by
  have z := wb_perm (b := b.st f y kvs) (R := R) (f := f) (by simpa [WB.st] using hf)
  rw [w_st hf, if_pos rfl] at z
  have e2 : (b.st f y kvs).wl.eraseIdx f = b.wl.eraseIdx f := by
    unfold WB.st
    rw [List.eraseIdx_set_eq]
  rw [e2] at z
  exact z
theorem on_wS (hf : f < b.wl.length) (o : On (b.nodes ++ R) h) {k : List Val} (w : b.w f = some (a, k)) (k' : List Val) : On ((b.st f (some (a, k')) b.kvs).nodes ++ R) (h.set a (.lst k')) := by
  have o1 := o.perm (wb_perm hf)
  rw [w] at o1
  have o2 := o1.set (i := 0) (a := a) (x := .lst k) rfl (.lst k')
  exact o2.perm (wb_perm2 hf (some (a, k')) b.kvs).symm
theorem on_wN (hf : f < b.wl.length) (o : On (b.nodes ++ R) h) {k : List Val} (ea : h[a]? = some (.lst k)) (hn : ∀ p ∈ b.nodes ++ R, p.1 ≠ a) (kvs : List (Val × Val)) : On ((b.st f (some (a, k)) kvs).nodes ++ R) (h.set b.WD (.dct kvs)) := by
  have pm := wb_perm (R := R) hf
  have o1 := (o.perm pm).sub2
  have o2 : On ((a, .lst k) :: ((b.WD, .dct b.kvs) :: ((b.wl.eraseIdx f).flatMap oN ++ R))) h := by
    refine ⟨?_, fun q hq => ?_⟩
    · rw [List.map_cons, List.nodup_cons]
      refine ⟨fun hm => ?_, o1.nd⟩
      obtain ⟨q, hq, e⟩ := List.mem_map.mp hm
      exact hn q (pm.mem_iff.mpr (List.mem_append_right _ hq)) e
    · rcases List.mem_cons.mp hq with rfl | hq
      · exact ea
      · exact o1.at_ q hq
  have o3 := o2.set (i := 1) (a := b.WD) (x := .dct b.kvs) rfl (.dct kvs)
  exact o3.perm (wb_perm2 hf (some (a, k)) kvs).symm
theorem w_at (o : On (b.nodes ++ R) h) (hf : f < b.wl.length) {k : List Val} (w : b.w f = some (a, k)) : h[a]? = some (.lst k) := by
  have o1 := o.perm (wb_perm hf)
  rw [w] at o1
  exact o1.get (i := 0) rfl
/-- the law's drop -/
theorem ldrop_ok (K : FOk s) (Rs : RtS s) (Ws : WtS s) (O : OrS s) (wn : s.wt e = .non) (pl : p.es.length = 4) (V : EvS p) (EV : ∀ (q : Nat) (v : Val), q < 32 → lookV ent (key2 e q) = some v → ∃ f r : Nat, v = .tup [.int f, .str r]) (o : On (s.nodes ++ (p.nodes ++ ((A, Obj.dcT ent) :: R))) h) (he : e < 4) (hf : f < s.many) :
    ∃ h', m__law_drop [.ref s.F, .ref p.P, .ref A, .int e, .int f] h = .ok .non h' ∧
      On ((if s.rt e f = .non then s else s.eh e f).nodes ++ ((if s.rt e f = .non then p else p.sE e (falV (PF f fun _ => true) 32 (p.ent e))).nodes ++ ((A, Obj.dcT (if s.rt e f = .non then ent else falE (PF f fun _ => true) e 32 ent)) :: R))) h' := by
  have wi : wR (m__law_drop [.ref s.F, .ref p.P, .ref A, .int e, .int f] h) (fun _ _ => False) fun v h' => v = .non ∧
      On ((if s.rt e f = .non then s else s.eh e f).nodes ++ ((if s.rt e f = .non then p else p.sE e (falV (PF f fun _ => true) 32 (p.ent e))).nodes ++ ((A, Obj.dcT (if s.rt e f = .non then ent else falE (PF f fun _ => true) e 32 ent)) :: R))) h' := by
    have l2 : 2 ≤ lim := by decide
    have hm : s.rt e f ≠ .non → (f : Int) ∈ s.ord e := fun q => by
      refine (O.r e f he hf).mp ?_
      unfold FS.rt at q
      cases z : lookV (s.hdk f) (.int e) with
      | none => rw [z] at q; exact absurd rfl q
      | some v => exact ⟨v, rfl⟩
    have iF := isF (fr_of o)
    obtain ⟨h1, e1, o1⟩ := drop_ok K Rs Ws o he hf hm
    have dr : s.dr e f = s.eh e f := by unfold FS.dr; rw [wn]
    rw [dr] at o1
    unfold m__law_drop
    refine wRB rfl ?_
    by_cases c : s.rt e f = .non
    · rw [if_pos c] at o1
      rw [show (!decide (s.rt e f = .non)) = false by simp [c]] at e1
      simp only [if_pos c]
      simp -implicitDefEqProofs [iF, e1, truth]
      exact o1
    · rw [if_neg c] at o1
      rw [show (!decide (s.rt e f = .non)) = true by simp [c]] at e1
      simp only [if_neg c]
      obtain ⟨h2, e2, o2⟩ := ended_ok (f := f) pl (sw o1) V he
      have iP := isP (pd_of (sw o1))
      have pm : ∀ d : List (Val × Val), ((p.sE e (falV (PF f fun _ => true) 32 (p.ent e))).nodes ++ ((s.eh e f).nodes ++ ((A, Obj.dcT d) :: R))).Perm ((A, Obj.dcT d) :: ((s.eh e f).nodes ++ ((p.sE e (falV (PF f fun _ => true) 32 (p.ent e))).nodes ++ R))) := fun d => by
        classical
        rw [List.perm_iff_count]
        intro x
        simp only [List.count_append, List.count_cons]
        omega
      simp -implicitDefEqProofs [iF, e1, truth, iP, e2]
      refine wS_range (n := 32) (FeI s.F p.P A e f ((s.eh e f).nodes ++ ((p.sE e (falV (PF f fun _ => true) 32 (p.ent e))).nodes ++ R)) ent (PF f fun _ => true)) ⟨⟨_, rfl⟩, o2.perm (pm ent)⟩ ?_ ?_
      · rintro i s' h3 hi ⟨⟨a, rfl⟩, o3⟩
        refine ⟨[some (.ref s.F), some (.ref p.P), some (.ref A), some (.int e), some (.int f), some (.int (i : Nat))], rfl, ?_⟩
        have e3 := o3.get (i := 0) rfl
        have lk : lookV (falE (PF f fun _ => true) e i ent) (key2 e i) = lookV ent (key2 e i) := by rw [falE_look, if_neg (by omega)]
        have e4 := tGet_at (z := .tup [.int (-1), .str 2]) e3 (key2_ok (a := e) (b := i))
        rw [show Val.tup [.int (e : Nat), .int (i : Nat)] = key2 e i from rfl, lk] at e4
        have dT := isD_dcT e3
        cases hk : lookV ent (key2 e i) with
        | none =>
          rw [hk] at e4
          have hfa : falE (PF f fun _ => true) e (i + 1) ent = falE (PF f fun _ => true) e i ent := by rw [falE, hk]
          have c9 : ¬ ((-1 : Int) = f) := by omega
          simp -implicitDefEqProofs [dT, l2, e4, c9]
          exact ⟨⟨_, rfl⟩, by rw [hfa]; exact o3⟩
        | some v =>
          obtain ⟨f', r, rfl⟩ := EV i v hi hk
          rw [hk] at e4
          by_cases c1 : f' = f
          · have hfa : falE (PF f fun _ => true) e (i + 1) ent = dropV (falE (PF f fun _ => true) e i ent) (key2 e i) := by
              rw [falE, hk]
              show (if PF f (fun _ => true) (.tup [.int f', .str r]) = true then _ else _) = _
              rw [if_pos (by simp [PF, c1])]
            have ep := tPop1_at e3 (key2_ok (a := e) (b := i)) (lk.trans hk)
            rw [show Val.tup [.int (e : Nat), .int (i : Nat)] = key2 e i from rfl] at ep
            have o4 := o3.set (i := 0) rfl (.dcT (dropV (falE (PF f fun _ => true) e i ent) (key2 e i)))
            simp -implicitDefEqProofs [dT, l2, e4, c1, ep]
            exact ⟨⟨_, rfl⟩, by rw [hfa]; exact o4⟩
          · have hfa : falE (PF f fun _ => true) e (i + 1) ent = falE (PF f fun _ => true) e i ent := by
              rw [falE, hk]
              show (if PF f (fun _ => true) (.tup [.int f', .str r]) = true then _ else _) = _
              rw [if_neg (fun z => c1 (by simp [PF] at z; omega))]
            have c9 : ¬ ((f' : Int) = f) := by omega
            simp -implicitDefEqProofs [dT, l2, e4, c9, c1]
            exact ⟨⟨_, rfl⟩, by rw [hfa]; exact o3⟩
      · rintro s' h3 ⟨⟨a, rfl⟩, o3⟩
        simp -implicitDefEqProofs
        exact sw (o3.perm (pm _).symm)
  obtain ⟨v, h', e, rfl, q⟩ := ex_of_wR wi
  exact ⟨h', e, q⟩
theorem lnarrow_ok (K : FOk s) (Rs : RtS s) (pl : p.es.length = 4) (V : EvS p) (EV : ∀ (q : Nat) (v : Val), q < 32 → lookV ent (key2 e q) = some v → ∃ f r : Nat, v = .tup [.int f, .str r]) (o : On (s.nodes ++ (p.nodes ++ ((A, Obj.dcT ent) :: R))) h) (he : e < 4) (hf : f < s.many) (hl : (s.hdk f).length < 1000) :
    ∃ h', m__law_narrow [.ref s.F, .ref p.P, .ref A, .int e, .int f] h = .ok .non h' ∧
      On ((if s.rt e f = .str 0 then s.nar e f else s).nodes ++ ((if s.rt e f = .str 0 then p.sE e (falV (PF f fun r => decide (r = 0)) 32 (p.ent e)) else p).nodes ++ ((A, Obj.dcT (if s.rt e f = .str 0 then falE (PF f fun r => decide (r = 0)) e 32 ent else ent)) :: R))) h' := by
  have wi : wR (m__law_narrow [.ref s.F, .ref p.P, .ref A, .int e, .int f] h) (fun _ _ => False) fun v h' => v = .non ∧
      On ((if s.rt e f = .str 0 then s.nar e f else s).nodes ++ ((if s.rt e f = .str 0 then p.sE e (falV (PF f fun r => decide (r = 0)) 32 (p.ent e)) else p).nodes ++ ((A, Obj.dcT (if s.rt e f = .str 0 then falE (PF f fun r => decide (r = 0)) e 32 ent else ent)) :: R))) h' := by
    have l2 : 2 ≤ lim := by decide
    have iF := isF (fr_of o)
    obtain ⟨h1, e1, o1⟩ := narrow_ok K Rs o he hf hl
    unfold m__law_narrow
    refine wRB rfl ?_
    by_cases c : s.rt e f = .str 0
    · rw [if_pos c] at o1
      rw [show decide (s.rt e f = .str 0) = true from decide_eq_true c] at e1
      simp only [if_pos c]
      obtain ⟨h2, e2, o2⟩ := narrowed_ok (f := f) pl (sw o1) V he
      have iP := isP (pd_of (sw o1))
      have pm : ∀ d : List (Val × Val), ((p.sE e (falV (PF f fun r => decide (r = 0)) 32 (p.ent e))).nodes ++ ((s.nar e f).nodes ++ ((A, Obj.dcT d) :: R))).Perm ((A, Obj.dcT d) :: ((s.nar e f).nodes ++ ((p.sE e (falV (PF f fun r => decide (r = 0)) 32 (p.ent e))).nodes ++ R))) := fun d => by
        classical
        rw [List.perm_iff_count]
        intro x
        simp only [List.count_append, List.count_cons]
        omega
      simp -implicitDefEqProofs [iF, e1, truth, iP, e2]
      refine wS_range (n := 32) (FeI s.F p.P A e f ((s.nar e f).nodes ++ ((p.sE e (falV (PF f fun r => decide (r = 0)) 32 (p.ent e))).nodes ++ R)) ent (PF f fun r => decide (r = 0))) ⟨⟨_, rfl⟩, o2.perm (pm ent)⟩ ?_ ?_
      · rintro i s' h3 hi ⟨⟨a, rfl⟩, o3⟩
        refine ⟨[some (.ref s.F), some (.ref p.P), some (.ref A), some (.int e), some (.int f), some (.int (i : Nat))], rfl, ?_⟩
        have e3 := o3.get (i := 0) rfl
        have lk : lookV (falE (PF f fun r => decide (r = 0)) e i ent) (key2 e i) = lookV ent (key2 e i) := by rw [falE_look, if_neg (by omega)]
        have e4 := tGet_at (z := .non) e3 (key2_ok (a := e) (b := i))
        rw [show Val.tup [.int (e : Nat), .int (i : Nat)] = key2 e i from rfl, lk] at e4
        have dT := isD_dcT e3
        cases hk : lookV ent (key2 e i) with
        | none =>
          rw [hk] at e4
          have hfa : falE (PF f fun r => decide (r = 0)) e (i + 1) ent = falE (PF f fun r => decide (r = 0)) e i ent := by rw [falE, hk]
          have eq : oEq false .non (.tup [.int (f : Nat), .str 0]) h3 = .ok (.bl false) h3 := rfl
          simp -implicitDefEqProofs [dT, l2, e4, eq]
          exact ⟨⟨_, rfl⟩, by rw [hfa]; exact o3⟩
        | some v =>
          obtain ⟨f', r, rfl⟩ := EV i v hi hk
          rw [hk] at e4
          have eq := oEq_pl (neg := false) (x := .tup [.int (f' : Nat), .str r]) (y := .tup [.int (f : Nat), .str 0]) (h := h3) rfl rfl
          by_cases c1 : f' = f ∧ r = 0
          · have hfa : falE (PF f fun r => decide (r = 0)) e (i + 1) ent = dropV (falE (PF f fun r => decide (r = 0)) e i ent) (key2 e i) := by
              rw [falE, hk]
              show (if PF f (fun r => decide (r = 0)) (.tup [.int f', .str r]) = true then _ else _) = _
              rw [if_pos (by simp [PF, c1])]
            have ep := tPop1_at e3 (key2_ok (a := e) (b := i)) (lk.trans hk)
            rw [show Val.tup [.int (e : Nat), .int (i : Nat)] = key2 e i from rfl] at ep
            have o4 := o3.set (i := 0) rfl (.dcT (dropV (falE (PF f fun r => decide (r = 0)) e i ent) (key2 e i)))
            obtain ⟨rfl, rfl⟩ := c1
            simp -implicitDefEqProofs at eq
            simp -implicitDefEqProofs [dT, l2, e4, eq, ep]
            exact ⟨⟨_, rfl⟩, by rw [hfa]; exact o4⟩
          · have hfa : falE (PF f fun r => decide (r = 0)) e (i + 1) ent = falE (PF f fun r => decide (r = 0)) e i ent := by
              rw [falE, hk]
              show (if PF f (fun r => decide (r = 0)) (.tup [.int f', .str r]) = true then _ else _) = _
              rw [if_neg (fun z => c1 (by simp [PF] at z; exact ⟨by omega, z.2⟩))]
            have eq2 : oEq false (.tup [.int (f' : Nat), .str r]) (.tup [.int (f : Nat), .str 0]) h3 = .ok (.bl false) h3 := by
              rw [eq]
              congr 2
              simp
              intro z1 z2
              exact c1 ⟨by omega, z2⟩
            simp -implicitDefEqProofs [dT, l2, e4, eq2]
            exact ⟨⟨_, rfl⟩, by rw [hfa]; exact o3⟩
      · rintro s' h3 ⟨⟨a, rfl⟩, o3⟩
        simp -implicitDefEqProofs
        exact sw (o3.perm (pm _).symm)
    · rw [if_neg c] at o1
      rw [show decide (s.rt e f = .str 0) = false from decide_eq_false c] at e1
      simp only [if_neg c]
      simp -implicitDefEqProofs [iF, e1, truth]
      exact o1
  obtain ⟨v, h', e, rfl, q⟩ := ex_of_wR wi
  exact ⟨h', e, q⟩
end
end Lw

set_option Elab.async false
set_option linter.all false
set_option autoImplicit false
set_option maxHeartbeats 4000000
set_option maxRecDepth 100000
namespace Lw
open PyM
structure St where
  s : FS
  b : LB
  p : PS
  A : Nat
  ent : List (Val × Val)
  wb : WB
def St.nodes (t : St) : Nodes := t.s.nodes ++ (t.p.nodes ++ ((t.A, .dcT t.ent) :: t.wb.nodes))
def shs : List Int := [2, 2, 1, 0]
structure Jn (t : St) (n : Nat) : Prop where
  I : Iv t.s t.b shs n
  wn : ∀ e : Nat, e < 4 → t.s.wt e = .non
  m : t.s.many = 10
  pF : t.p.F = t.s.F
  pl : t.p.es.length = 4
  wl : t.wb.wl.length = 10
  en : ∀ e q : Nat, e < 4 → q < 32 → lookV (t.p.ent e) (.int q) = lookV t.ent (key2 e q)
  e3 : ∀ e q : Nat, e < 4 → 32 ≤ q → lookV t.ent (key2 e q) = none
  ev : ∀ (e q : Nat) (v : Val), e < 4 → q < 32 → lookV t.ent (key2 e q) = some v → ∃ f r : Nat, r < 2 ∧ f < 10 ∧ v = .tup [.int f, .str r] ∧ (t.s.rt e f = .str r ∨ t.s.rt e f = .str 0)
  wk : ∀ f : Nat, f < 10 → lookV t.wb.kvs (.int f) = (t.wb.w f).map fun x => .ref x.1
  wv : ∀ (f a : Nat) (k : List Val), f < 10 → t.wb.w f = some (a, k) → k = t.s.wd f ∧ k.length = 8 ∧ ∀ x ∈ k, ∃ i : Int, x = .int i
  wx : ∀ e f : Nat, e < 4 → f < 10 → t.s.rt e f ≠ .non → ∃ a k, t.wb.w f = some (a, k)
  z1 : ∀ e : Nat, e < 4 → (t.p.ent e).length ≤ n
  z2 : t.ent.length ≤ n
  z3 : t.wb.kvs.length ≤ n
section
variable {t : St} {e f w a c n q r : Nat} {v x : Val}
theorem Jn.mono (J : Jn t n) {n' : Nat} (h : n ≤ n') : Jn t n' := { J with
  I := J.I.mono h
  z1 := fun e he => Nat.le_trans (J.z1 e he) h
  z2 := Nat.le_trans J.z2 h
  z3 := Nat.le_trans J.z3 h }
theorem rt_gr {s : FS} (K : FOk s) (hf : f < s.many) {g f' : Nat} : (s.gr e f x).rt g f' = if g = e ∧ f' = f then x else s.rt g f' := by
  unfold FS.rt
  rw [hdk_gr K hf]
  by_cases c1 : f' = f
  · subst c1
    rw [if_pos rfl, lookV_put]
    by_cases c2 : g = e
    · subst c2; simp
    · rw [if_neg (fun z => c2 (int_inj.mp z)), if_neg (fun z => c2 z.1)]
  · rw [if_neg c1, if_neg (fun z => c1 z.2)]
theorem rt_eh {s : FS} (K : FOk s) (hf : f < s.many) {g f' : Nat} : (s.eh e f).rt g f' = if g = e ∧ f' = f then .non else s.rt g f' := by
  unfold FS.rt
  rw [hdk_eh K hf]
  by_cases c1 : f' = f
  · subst c1
    rw [if_pos rfl, lookV_drop]
    by_cases c2 : g = e
    · subst c2; simp
    · rw [if_neg (fun z => c2 (int_inj.mp z)), if_neg (fun z => c2 z.1)]
  · rw [if_neg c1, if_neg (fun z => c1 z.2)]
theorem rt_nar {s : FS} (K : FOk s) (hf : f < s.many) {g f' : Nat} : (s.nar e f).rt g f' = if g = e ∧ f' = f then .str 1 else s.rt g f' := by
  have hh : (s.nar e f).hdk f' = if f' = f then putV (s.hdk f) (.int e) (.str 1) else s.hdk f' := hdk_sHd (by rw [K.hd]; exact hf)
  unfold FS.rt
  rw [hh]
  by_cases c1 : f' = f
  · subst c1
    rw [if_pos rfl, lookV_put]
    by_cases c2 : g = e
    · subst c2; simp
    · rw [if_neg (fun z => c2 (int_inj.mp z)), if_neg (fun z => c2 z.1)]
  · rw [if_neg c1, if_neg (fun z => c1 z.2)]
theorem z8_ok : z8.length = 8 ∧ ∀ x ∈ z8, ∃ i : Int, x = .int i := ⟨rfl, fun x hx => by
  have : ∀ x ∈ z8, x = .int 0 := by
    intro x hx
    simp [z8, repV] at hx
    exact hx
  exact ⟨0, this x hx⟩⟩
theorem Jn.fresh (J : Jn t n) (hf : f < 10) : Jn { t with s := t.s.nWs f a z8, wb := t.wb.st f (some (c, z8)) (putV t.wb.kvs (.int f) (.ref c)) } (n + 1) := { J.mono (Nat.le_succ n) with
  I := J.I.nws.mono (Nat.le_succ n)
  wl := by simp [WB.st, J.wl]
  wk := fun f' hf' => by
    rw [w_st (by rw [J.wl]; exact hf)]
    show lookV (putV _ _ _) _ = _
    rw [lookV_put]
    by_cases c : f' = f
    · subst c; simp
    · rw [if_neg (fun z => c (int_inj.mp z)), if_neg c]; exact J.wk f' hf'
  wv := fun f' a' k hf' h => by
    rw [w_st (by rw [J.wl]; exact hf)] at h
    show k = (t.s.nWs f a z8).wd f' ∧ _
    rw [wd_nWs (by rw [J.I.K.ws, J.m]; exact hf)]
    split at h
    · rename_i c
      injection h with h
      injection h with h1 h2
      subst h2
      rw [if_pos c]
      exact ⟨rfl, z8_ok⟩
    · rename_i c
      rw [if_neg c]
      exact J.wv f' a' k hf' h
  wx := fun e' f' he hf' h => by
    rw [w_st (by rw [J.wl]; exact hf)]
    split
    · exact ⟨c, z8, rfl⟩
    · exact J.wx e' f' he hf' h
  z3 := Nat.le_trans putV_len (Nat.succ_le_succ J.z3) }
theorem Jn.gr (J : Jn t n) (he : e < 4) (hf : f < 10) (hno : lookV (t.s.hdk f) (.int e) = none) (hm : t.s.mhm e = true) (hr : r < 2) (hw : ∃ a k, t.wb.w f = some (a, k)) : Jn { t with s := t.s.gr e f (.str r), b := t.b.gr e f (.str r) } (n + 1) := by
  have hfm : f < t.s.many := by rw [J.m]; exact hf
  have h0 : t.s.rt e f = .non := by unfold FS.rt; rw [hno]; rfl
  exact { J.mono (Nat.le_succ n) with
    I := J.I.gr he hfm hno hm hr
    ev := fun e' q v he' hq h => by
      obtain ⟨f', r', h1, h2, h3, h4⟩ := J.ev e' q v he' hq h
      refine ⟨f', r', h1, h2, h3, ?_⟩
      rw [rt_gr J.I.K hfm]
      by_cases c : e' = e ∧ f' = f
      · rw [c.1, c.2, h0] at h4
        rcases h4 with h4 | h4 <;> cases h4
      · rw [if_neg c]; exact h4
    wx := fun e' f' he' hf' h => by
      rw [rt_gr J.I.K hfm] at h
      by_cases c : e' = e ∧ f' = f
      · rw [c.2]; exact hw
      · rw [if_neg c] at h
        exact J.wx e' f' he' hf' h }
theorem Jn.ofP (J : Jn t n) {r : Nat} (hr : r < 2) : Jn { t with s := t.s.sOf (putV t.s.offers (key3 e f w) (.str r)), b := t.b.sO (putV t.b.offers (key3 e f w) (.str r)) } (n + 1) := { J.mono (Nat.le_succ n) with I := J.I.ofP hr }
theorem Jn.ofD (J : Jn t n) (k0 : Val) : Jn { t with s := t.s.sOf (dropV t.s.offers k0), b := t.b.sO (dropV t.b.offers k0) } n := { J with I := J.I.ofD k0 }
theorem Jn.fal (J : Jn t n) (he : e < 4) (P : Val → Bool) (s' : FS) (b' : LB) (I : Iv s' b' shs n) (wn : ∀ e : Nat, e < 4 → s'.wt e = .non) (m : s'.many = 10) (pF : s'.F = t.s.F) (wd : ∀ g, s'.wd g = t.s.wd g)
    (hx : ∀ g f' : Nat, s'.rt g f' ≠ .non → t.s.rt g f' ≠ .non)
    (hv : ∀ (g f' r' : Nat), r' < 2 → (g = e → P (.tup [.int f', .str r']) = false) → (t.s.rt g f' = .str r' ∨ t.s.rt g f' = .str 0) → (s'.rt g f' = .str r' ∨ s'.rt g f' = .str 0)) :
    Jn { t with s := s', b := b', p := t.p.sE e (falV P 32 (t.p.ent e)), ent := falE P e 32 t.ent } n := by
  have hl : e < t.p.es.length := by rw [J.pl]; exact he
  exact { J with
    I := I
    wn := wn
    m := m
    pF := by rw [pF]; exact J.pF
    pl := by simp [PS.sE, J.pl]
    en := fun g q hg hq => by
      show lookV ((t.p.sE e _).ent g) _ = lookV (falE P e 32 t.ent) _
      rw [ent_sE hl, falE_look]
      by_cases c : g = e
      · subst c
        rw [if_pos rfl, falV_look, if_pos hq, if_pos ⟨rfl, hq⟩, J.en g q hg hq]
      · rw [if_neg c, if_neg (fun z => c z.1)]
        exact J.en g q hg hq
    e3 := fun g q hg hq => by
      show lookV (falE P e 32 t.ent) _ = none
      rw [falE_look, if_neg (by omega)]
      exact J.e3 g q hg hq
    ev := fun g q v hg hq h => by
      have h : lookV (falE P e 32 t.ent) (key2 g q) = some v := h
      rw [falE_look] at h
      have h1 : lookV t.ent (key2 g q) = some v ∧ (g = e → P v = false) := by
        split at h
        · rename_i c
          rw [Option.filter_eq_some_iff] at h
          exact ⟨h.1, fun _ => by simpa using h.2⟩
        · rename_i c
          exact ⟨h, fun z => absurd ⟨z, hq⟩ c⟩
      obtain ⟨f', r', q1, q2, rfl, q4⟩ := J.ev g q v hg hq h1.1
      exact ⟨f', r', q1, q2, rfl, hv g f' r' q1 h1.2 q4⟩
    wv := fun f a k hf h => by
      have := J.wv f a k hf h
      show k = s'.wd f ∧ _
      rw [wd]
      exact this
    wx := fun g f' hg hf' h => J.wx g f' hg hf' (hx g f' h)
    z1 := fun g hg => by
      show ((t.p.sE e _).ent g).length ≤ n
      rw [ent_sE hl]
      split
      · exact Nat.le_trans (falV_len 32) (J.z1 e he)
      · exact J.z1 g hg
    z2 := Nat.le_trans (falE_len 32) J.z2 }
theorem Jn.en' (J : Jn t n) (he : e < 4) (hf : f < 10) (hm : (f : Int) ∈ t.s.ord e) : Jn { t with s := t.s.eh e f, b := t.b.en e f, p := t.p.sE e (falV (PF f fun _ => true) 32 (t.p.ent e)), ent := falE (PF f fun _ => true) e 32 t.ent } n := by
  have hfm : f < t.s.many := by rw [J.m]; exact hf
  refine J.fal he _ _ _ (J.I.en he hfm hm) J.wn J.m rfl (fun _ => rfl) (fun g f' h => ?_) (fun g f' r' hr hp h => ?_)
  · rw [rt_eh J.I.K hfm] at h
    split at h
    · exact absurd rfl h
    · exact h
  · rw [rt_eh J.I.K hfm]
    by_cases c : g = e ∧ f' = f
    · exfalso
      have := hp c.1
      simp [PF, c.2] at this
    · rw [if_neg c]; exact h
theorem Jn.nar' (J : Jn t n) (he : e < 4) (hf : f < 10) {x : Val} (hx : lookV (t.s.hdk f) (.int e) = some x) (h0 : t.s.rt e f = .str 0) : Jn { t with s := t.s.nar e f, b := t.b.sR (putV t.b.rights (key2 e f) (.str 1)), p := t.p.sE e (falV (PF f fun r => decide (r = 0)) 32 (t.p.ent e)), ent := falE (PF f fun r => decide (r = 0)) e 32 t.ent } (n + 1) := by
  have hfm : f < t.s.many := by rw [J.m]; exact hf
  refine (J.mono (Nat.le_succ n)).fal he _ _ _ (J.I.nar he hfm hx) J.wn J.m rfl (fun _ => rfl) (fun g f' h => ?_) (fun g f' r' hr hp h => ?_)
  · rw [rt_nar J.I.K hfm] at h
    split at h
    · rename_i c
      rw [c.1, c.2, h0]
      simp
    · exact h
  · rw [rt_nar J.I.K hfm]
    by_cases c : g = e ∧ f' = f
    · rw [if_pos c]
      have := hp c.1
      simp [PF, c.2] at this
      left
      rw [show r' = 1 by omega]
    · rw [if_neg c]; exact h
theorem Jn.map' (J : Jn t n) (he : e < 4) (hq : q < 32) (hf : f < 10) (hr : r < 2) (h0 : t.s.rt e f = .str r ∨ t.s.rt e f = .str 0) : Jn { t with p := t.p.sE e (putV (t.p.ent e) (.int q) (.tup [.int f, .str r])), ent := putV t.ent (key2 e q) (.tup [.int f, .str r]) } (n + 1) := by
  have hl : e < t.p.es.length := by rw [J.pl]; exact he
  exact { J.mono (Nat.le_succ n) with
    pl := by simp [PS.sE, J.pl]
    en := fun g j hg hj => by
      show lookV ((t.p.sE e _).ent g) _ = lookV (putV _ _ _) _
      rw [ent_sE hl, lookV_put]
      by_cases c : g = e
      · subst c
        rw [if_pos rfl, lookV_put]
        by_cases c2 : j = q
        · subst c2; simp
        · rw [if_neg (fun z => c2 (int_inj.mp z)), if_neg (fun z => c2 (key2_inj.mp z).2)]; exact J.en g j hg hj
      · rw [if_neg c, if_neg (fun z => c (key2_inj.mp z).1)]; exact J.en g j hg hj
    e3 := fun g j hg hj => by
      show lookV (putV _ _ _) _ = none
      rw [lookV_put, if_neg (fun z => by have := (key2_inj.mp z).2; omega)]
      exact J.e3 g j hg hj
    ev := fun g j v hg hj h => by
      have h : lookV (putV _ _ _) _ = some v := h
      rw [lookV_put] at h
      split at h
      · rename_i c
        injection h with h
        rw [(key2_inj.mp c).1]
        exact ⟨f, r, hr, hf, h.symm, h0⟩
      · exact J.ev g j v hg hj h
    z1 := fun g hg => by
      show ((t.p.sE e _).ent g).length ≤ n + 1
      rw [ent_sE hl]
      split
      · exact Nat.le_trans putV_len (Nat.succ_le_succ (J.z1 e he))
      · exact Nat.le_succ_of_le (J.z1 g hg)
    z2 := Nat.le_trans putV_len (Nat.succ_le_succ J.z2) }
theorem Jn.unmap' (J : Jn t n) (he : e < 4) : Jn { t with p := t.p.sE e (dropV (t.p.ent e) (.int q)), ent := dropV t.ent (key2 e q) } n := by
  have hl : e < t.p.es.length := by rw [J.pl]; exact he
  exact { J with
    pl := by simp [PS.sE, J.pl]
    en := fun g j hg hj => by
      show lookV ((t.p.sE e _).ent g) _ = lookV (dropV _ _) _
      rw [ent_sE hl, lookV_drop]
      by_cases c : g = e
      · subst c
        rw [if_pos rfl, lookV_drop]
        by_cases c2 : j = q
        · subst c2; simp
        · rw [if_neg (fun z => c2 (int_inj.mp z)), if_neg (fun z => c2 (key2_inj.mp z).2)]; exact J.en g j hg hj
      · rw [if_neg c, if_neg (fun z => c (key2_inj.mp z).1)]; exact J.en g j hg hj
    e3 := fun g j hg hj => by
      show lookV (dropV _ _) _ = none
      rw [lookV_drop]
      split
      · rfl
      · exact J.e3 g j hg hj
    ev := fun g j v hg hj h => by
      have h : lookV (dropV _ _) _ = some v := h
      rw [lookV_drop] at h
      split at h
      · cases h
      · exact J.ev g j v hg hj h
    z1 := fun g hg => by
      show ((t.p.sE e _).ent g).length ≤ n
      rw [ent_sE hl]
      split
      · exact Nat.le_trans dropV_len (J.z1 e he)
      · exact J.z1 g hg
    z2 := Nat.le_trans dropV_len J.z2 }
theorem Jn.store' (J : Jn t n) (hf : f < 10) {k : List Val} (hw : t.wb.w f = some (a, k)) {i : Nat} {z : Int} : Jn { t with s := t.s.sWs f (k.set i (.int z)), wb := t.wb.st f (some (a, k.set i (.int z))) t.wb.kvs } n := { J with
  I := J.I.sws
  wl := by simp [WB.st, J.wl]
  wk := fun f' hf' => by
    rw [w_st (by rw [J.wl]; exact hf)]
    show lookV t.wb.kvs _ = _
    rw [J.wk f' hf']
    split
    · subst_vars; rw [hw]; rfl
    · rfl
  wv := fun f' a' k' hf' h => by
    rw [w_st (by rw [J.wl]; exact hf)] at h
    show k' = (t.s.sWs f _).wd f' ∧ _
    rw [wd_sWs (by rw [J.I.K.ws, J.m]; exact hf)]
    split at h
    · rename_i c
      injection h with h
      injection h with h1 h2
      subst h2
      have z := J.wv f a k hf hw
      rw [if_pos c]
      refine ⟨rfl, by rw [List.length_set]; exact z.2.1, fun x hx => ?_⟩
      rcases List.mem_or_eq_of_mem_set hx with hx | rfl
      · exact z.2.2 x hx
      · exact ⟨_, rfl⟩
    · rename_i c
      rw [if_neg c]
      exact J.wv f' a' k' hf' h
  wx := fun e' f' he hf' h => by
    rw [w_st (by rw [J.wl]; exact hf)]
    split
    · exact ⟨_, _, rfl⟩
    · exact J.wx e' f' he hf' h }
end
end Lw

set_option Elab.async false
set_option linter.all false
set_option autoImplicit false
set_option maxHeartbeats 4000000
set_option maxRecDepth 100000
namespace Lw
open PyM
theorem nx_eq : m__law_next = m_next := rfl
structure Nx (ns : List Int) (t t' : St) (n : Nat) (h' : Heap) : Prop where
  J : Jn t' n
  s : t'.s.F = t.s.F
  p : t'.p.P = t.p.P
  a : t'.A = t.A
  w : t'.wb.WD = t.wb.WD
  T : Tn 2 1 ns t'.nodes h'
section
variable {ns : List Int} {t : St} {h h' : Heap} {e f w a c n q r : Nat} {v x : Val}
theorem opS {α : Type} {P : α → Heap → Prop} {S' : α → FS} (T : Tn 2 1 ns t.nodes h) (f : ∀ R, On (t.s.nodes ++ R) h → ∃ x h', P x h' ∧ On ((S' x).nodes ++ R) h') : ∃ x h', P x h' ∧ Tn 2 1 ns ({ t with s := S' x } : St).nodes h' := T.op (A := t.s.nodes) (A' := fun x => (S' x).nodes) f
theorem opP {α : Type} {P : α → Heap → Prop} {S' : α → PS} (T : Tn 2 1 ns t.nodes h) (f : ∀ R, On (t.p.nodes ++ R) h → ∃ x h', P x h' ∧ On ((S' x).nodes ++ R) h') : ∃ x h', P x h' ∧ Tn 2 1 ns ({ t with p := S' x } : St).nodes h' := by
  have T' : Tn 2 1 ns (t.p.nodes ++ (t.s.nodes ++ ((t.A, .dcT t.ent) :: t.wb.nodes))) h := T.perm (List.perm_append_comm_assoc _ _ _)
  obtain ⟨x, h', q1, q2⟩ := T'.op (A := t.p.nodes) (A' := fun x => (S' x).nodes) f
  exact ⟨x, h', q1, q2.perm (List.perm_append_comm_assoc _ _ _)⟩
theorem opW {α : Type} {P : α → Heap → Prop} {S' : α → WB} (T : Tn 2 1 ns t.nodes h) (f : ∀ R, On (t.wb.nodes ++ R) h → ∃ x h', P x h' ∧ On ((S' x).nodes ++ R) h') : ∃ x h', P x h' ∧ Tn 2 1 ns ({ t with wb := S' x } : St).nodes h' := by
  have pm : ∀ W : Nodes, (t.s.nodes ++ (t.p.nodes ++ ((t.A, Obj.dcT t.ent) :: W))).Perm (W ++ (t.s.nodes ++ (t.p.nodes ++ [(t.A, Obj.dcT t.ent)]))) := fun W => by
    classical
    rw [List.perm_iff_count]
    intro x
    simp only [List.count_append, List.count_cons, List.count_nil]
    omega
  obtain ⟨x, h', q1, q2⟩ := (T.perm (pm t.wb.nodes)).op (A := t.wb.nodes) (A' := fun x => (S' x).nodes) f
  exact ⟨x, h', q1, q2.perm (pm _).symm⟩
theorem opB {P : Heap → Prop} {s' : FS} {p' : PS} {ent' : List (Val × Val)} (T : Tn 2 1 ns t.nodes h) (f : ∀ R, On (t.s.nodes ++ (t.p.nodes ++ ((t.A, Obj.dcT t.ent) :: R))) h → ∃ h', P h' ∧ On (s'.nodes ++ (p'.nodes ++ ((t.A, Obj.dcT ent') :: R))) h') : ∃ h', P h' ∧ Tn 2 1 ns ({ t with s := s', p := p', ent := ent' } : St).nodes h' := by
  have ea : ∀ (A B R : Nodes) (x : Nat × Obj), (A ++ (B ++ [x])) ++ R = A ++ (B ++ (x :: R)) := fun A B R x => by simp
  have T' : Tn 2 1 ns ((t.s.nodes ++ (t.p.nodes ++ [(t.A, Obj.dcT t.ent)])) ++ t.wb.nodes) h := by rw [ea]; exact T
  obtain ⟨x, h', q1, q2⟩ := T'.op (α := Unit) (P := fun _ => P) (A' := fun _ => s'.nodes ++ (p'.nodes ++ [(t.A, Obj.dcT ent')])) (fun R o => by
    rw [ea] at o
    obtain ⟨h', z1, z2⟩ := f R o
    exact ⟨(), h', z1, by rw [ea]; exact z2⟩)
  rw [ea] at q2
  exact ⟨h', q1, q2⟩
theorem eE (T : Tn 2 1 ns t.nodes h) : h[t.A]? = some (.dcT t.ent) := T.on.sub2.sub2.at_ _ List.mem_cons_self
theorem opE (T : Tn 2 1 ns t.nodes h) (d : List (Val × Val)) : Tn 2 1 ns ({ t with ent := d } : St).nodes (h.set t.A (.dcT d)) := by
  obtain ⟨h', rfl, q⟩ := opB (t := t) (P := fun h' => h' = h.set t.A (.dcT d)) (s' := t.s) (p' := t.p) (ent' := d) T (fun R o => by
    have pm : ∀ d : List (Val × Val), (t.s.nodes ++ (t.p.nodes ++ ((t.A, Obj.dcT d) :: R))).Perm ((t.A, Obj.dcT d) :: (t.s.nodes ++ (t.p.nodes ++ R))) := fun d => by
      classical
      rw [List.perm_iff_count]
      intro x
      simp only [List.count_append, List.count_cons]
      omega
    exact ⟨_, rfl, ((o.perm (pm t.ent)).set (i := 0) rfl (.dcT d)).perm (pm d).symm⟩)
  exact q
theorem fS (T : Tn 2 1 ns t.nodes h) : Fd t.s h := fr_of T.on
theorem pS (T : Tn 2 1 ns t.nodes h) : Pd t.p h := pd_of T.on.sub2
theorem Jn.V (J : Jn t n) : EvT t.p t.s.many := fun e q v he hq h => by
  rw [J.en e q he hq] at h
  obtain ⟨f, r, h1, h2, h3, _⟩ := J.ev e q v he hq h
  exact ⟨f, r, h1, by rw [J.m]; exact h2, h3⟩
theorem Jn.EV (J : Jn t n) (he : e < 4) : ∀ (q : Nat) (v : Val), q < 32 → lookV t.ent (key2 e q) = some v → ∃ f r : Nat, v = .tup [.int f, .str r] := fun q v hq h => by
  obtain ⟨f, r, _, _, h3, _⟩ := J.ev e q v he hq h
  exact ⟨f, r, h3⟩
theorem book_ok (J : Jn t n) (hn : n < 400) (T : Tn 2 1 ns t.nodes h) : ∃ t' h', m__law_book [.ref 2, .ref t.s.F, .ref t.p.P, .ref t.A, .ref t.wb.WD] h = .ok .non h' ∧ Nx ns t t' (n + 2) h' := by
  have wi : wR (m__law_book [.ref 2, .ref t.s.F, .ref t.p.P, .ref t.A, .ref t.wb.WD] h) (fun _ _ => False) fun v h' => v = .non ∧ ∃ t', Nx ns t t' (n + 2) h' := by
    have ll := lim8
    have l1 : 1 ≤ lim := by omega
    have l2 : 2 ≤ lim := by omega
    have l8 : 8 ≤ lim := by omega
    obtain ⟨e, h1, a1, b1, e1, T1⟩ := T.next nx_eq (n := 4) (by omega) (by omega)
    obtain ⟨f, h2, a2, b2, e2, T2⟩ := T1.next nx_eq (n := 10) (by omega) (by omega)
    obtain ⟨k, h3, a3, b3, e3, T3⟩ := T2.next nx_eq (n := 6) (by omega) (by omega)
    obtain ⟨e, rfl⟩ := Int.eq_ofNat_of_zero_le a1
    obtain ⟨f, rfl⟩ := Int.eq_ofNat_of_zero_le a2
    have he : e < 4 := by omega
    have hf : f < 10 := by omega
    have hfm : f < t.s.many := by rw [J.m]; exact hf
    have K := J.I.K
    have lo := J.I.l1 e he
    have l2f := J.I.l2 f hfm
    have l3 := J.I.l3
    have iF : ∀ {h}, Tn 2 1 ns t.nodes h → isIns 0 (.ref t.s.F) h = true := fun T => isF (fS T)
    unfold m__law_book
    refine wRB rfl ?_
    by_cases c2 : k < 2
    · obtain ⟨⟨v, s'⟩, h4, ⟨e4, tk⟩, T4⟩ := opS (α := Val × FS) (P := fun x h' => m_Frames_take [.ref t.s.F, .int e] h3 = .ok x.1 h' ∧ TkR t.s e x.1 x.2) (S' := fun x => x.2) T3 (fun R o => by
        obtain ⟨v, s', h', q1, q2, q3⟩ := take_ok K o he (by omega)
        exact ⟨(v, s'), h', ⟨q1, q2⟩, q3⟩)
      simp only at e4 tk T4
      cases tk with
      | no _ =>
        simp -implicitDefEqProofs [gV, e1, e2, e3, c2, iF T3, e4]
        exact ⟨t, J.mono (by omega), rfl, rfl, rfl, rfl, T4⟩
      | @yes g a l q1 q2 =>
        obtain ⟨glt, hd⟩ := fre_lt q1
        have hg : g < 10 := by rw [← J.m]; exact glt
        have x5 : Ext h4 (h4 ++ [Obj.lst [.int 0], Obj.lst (repV 8 [.int 0])]) := ⟨_, rfl⟩
        have ea : (h4 ++ [Obj.lst [.int 0], Obj.lst (repV 8 [.int 0])])[h4.length + 1]? = some (.lst z8) := at_app 1 rfl rfl
        obtain ⟨_, h5, rfl, T5⟩ := opW (α := Unit) (P := fun _ h' => h' = (h4 ++ [Obj.lst [.int 0], Obj.lst (repV 8 [.int 0])]).set t.wb.WD (.dct (putV t.wb.kvs (.int g) (.ref (h4.length + 1))))) (S' := fun _ => t.wb.st g (some (h4.length + 1, z8)) (putV t.wb.kvs (.int g) (.ref (h4.length + 1)))) T4 (fun R o => by
          have o0 : On (t.wb.nodes ++ R) h4 := o
          exact ⟨(), _, rfl, on_wN (by rw [J.wl]; exact hg) (o0.ext x5) ea (fun p hp z => by have := o0.lt hp; omega) _⟩)
        have eW : (h4 ++ [Obj.lst [.int 0], Obj.lst (repV 8 [.int 0])])[t.wb.WD]? = some (.dct t.wb.kvs) := (T4.ext x5).on.sub2.sub2.drop1.at_ _ List.mem_cons_self
        have z3 := J.z3
        simp -implicitDefEqProofs [gV, e1, e2, e3, c2, iF T3, e4, l1, l8, eW, show t.wb.kvs.length < lim by omega]
        refine ⟨_, ((J.fresh (a := a) (c := h4.length + 1) hg).gr he hg (show lookV (t.s.hdk g) _ = none by rw [hd]; rfl) q2 (show 0 < 2 by omega) ⟨_, _, by rw [w_st (by rw [J.wl]; exact hg), if_pos rfl]⟩).mono (by omega), rfl, rfl, rfl, rfl, T5⟩
    · by_cases c3 : k = 2
      · obtain ⟨w, h4, a4, b4, e4, T4⟩ := T3.next nx_eq (n := 4) (by omega) (by omega)
        have T5 := T4.new (Obj.lst [.str 1, .str 0])
        obtain ⟨r, h5, a5, b5, e5, T6⟩ := T5.next nx_eq (n := 2) (by omega) (by omega)
        have g6 := T6.on.at_ _ List.mem_cons_self
        have T7 := T6.drop1
        obtain ⟨w, rfl⟩ := Int.eq_ofNat_of_zero_le a4
        have hr : ∃ r' : Nat, r' < 2 ∧ L2.atI [Val.str 1, .str 0] r = some (.str r') := by
          have : r = 0 ∨ r = 1 := by omega
          rcases this with rfl | rfl
          · exact ⟨1, by omega, rfl⟩
          · exact ⟨0, by omega, rfl⟩
        obtain ⟨r', hr1, hr2⟩ := hr
        obtain ⟨_, h6, e6, T8⟩ := opS (α := Unit) (P := fun _ h' => m_Frames_offer [.ref t.s.F, .int e, .int f, .int w, .str r'] h5 = .ok (.bl (t.s.ofr e f w r')) h') (S' := fun _ => if t.s.ofr e f w r' = true then t.s.sOf (putV t.s.offers (key3 e f w) (.str r')) else t.s) T7 (fun R o => by
          obtain ⟨h', q1, q2⟩ := offer_ok K J.I.Rt o he (show w < 4 by omega) hfm (show r' = 0 ∨ r' = 1 by omega) (by omega)
          exact ⟨(), h', q1, q2⟩)
        subst c3
        simp -implicitDefEqProofs [gV, e1, e2, e3, iF T3, e4, l2, e5, g6, hr2, e6]
        by_cases c : t.s.ofr e f w r' = true
        · rw [if_pos c] at T8
          exact ⟨_, (J.ofP (e := e) (f := f) (w := w) hr1).mono (by omega), rfl, rfl, rfl, rfl, T8⟩
        · rw [if_neg c] at T8
          exact ⟨t, J.mono (by omega), rfl, rfl, rfl, rfl, T8⟩
      · by_cases c4 : k = 3
        · obtain ⟨w, h4, a4, b4, e4, T4⟩ := T3.next nx_eq (n := 4) (by omega) (by omega)
          obtain ⟨w, rfl⟩ := Int.eq_ofNat_of_zero_le a4
          have hw : w < 4 := by omega
          obtain ⟨_, h6, e6, T8⟩ := opS (α := Unit) (P := fun _ h' => m_Frames_accept [.ref t.s.F, .int e, .int f, .int w] h4 = .ok (.bl (t.s.acc e f w)) h') (S' := fun _ => if t.s.acc e f w = true then t.s.ac e f w else t.s) T4 (fun R o => by
            obtain ⟨h', q1, q2⟩ := accept_ok K J.I.Rt J.I.Os o he hw hfm (by omega) (by omega)
            exact ⟨(), h', q1, q2⟩)
          subst c4
          simp -implicitDefEqProofs [gV, e1, e2, e3, iF T3, e4, e6]
          by_cases c : t.s.acc e f w = true
          · rw [if_pos c] at T8
            have c0 := c
            unfold FS.acc at c0
            cases q1 : lookV t.s.offers (key3 w f e) with
            | none => rw [q1] at c0; cases c0
            | some v =>
              obtain ⟨r, hr, rfl⟩ := J.I.sv _ _ q1
              rw [q1] at c0
              have hno : (lookV (t.s.hdk f) (.int e) = none ∧ t.s.mhm e = true) ∧ t.s.rt w f ≠ .non := by
                split at c0
                · rename_i h1 h2
                  rw [Bool.and_eq_true, Bool.and_eq_true] at c0
                  refine ⟨⟨?_, c0.2.2⟩, by rw [h2]; simp⟩
                  have z := of_decide_eq_true c0.2.1
                  unfold FS.rt at z
                  cases q : lookV (t.s.hdk f) (.int e) with
                  | none => rfl
                  | some v =>
                    obtain ⟨p, _, rfl⟩ := J.I.rs he hfm q
                    rw [q] at z
                    cases z
                · cases c0
              have es : t.s.ac e f w = (t.s.sOf (dropV t.s.offers (key3 w f e))).gr e f (.str r) := by
                unfold FS.ac
                rw [q1]
                rfl
              rw [es] at T8
              exact ⟨_, ((J.ofD (key3 w f e)).gr he hf hno.1.1 hno.1.2 hr (J.wx w f hw hf hno.2)).mono (by omega), rfl, rfl, rfl, rfl, T8⟩
          · rw [if_neg c] at T8
            exact ⟨t, J.mono (by omega), rfl, rfl, rfl, rfl, T8⟩
        · by_cases c5 : k = 4
          · obtain ⟨h4, e4, T4⟩ := opB (t := t) (P := fun h' => m__law_narrow [.ref t.s.F, .ref t.p.P, .ref t.A, .int e, .int f] h3 = .ok .non h') T3 (fun R o => lnarrow_ok K J.I.Rt J.pl J.V.S (J.EV he) o he hfm (by omega))
            subst c5
            simp -implicitDefEqProofs [gV, e1, e2, e3, e4]
            by_cases c : t.s.rt e f = .str 0
            · simp only [if_pos c] at T4
              have hx : ∃ x, lookV (t.s.hdk f) (.int e) = some x := by
                unfold FS.rt at c
                cases q : lookV (t.s.hdk f) (.int e) with
                | none => rw [q] at c; cases c
                | some v => exact ⟨v, rfl⟩
              obtain ⟨y, hx⟩ := hx
              exact ⟨_, (J.nar' he hf hx c).mono (by omega), rfl, rfl, rfl, rfl, T4⟩
            · simp only [if_neg c] at T4
              exact ⟨t, J.mono (by omega), rfl, rfl, rfl, rfl, T4⟩
          · obtain ⟨h4, e4, T4⟩ := opB (t := t) (P := fun h' => m__law_drop [.ref t.s.F, .ref t.p.P, .ref t.A, .int e, .int f] h3 = .ok .non h') T3 (fun R o => ldrop_ok K J.I.Rt J.I.Ws J.I.O (J.wn e he) J.pl J.V.S (J.EV he) o he hfm)
            simp -implicitDefEqProofs [gV, e1, e2, e3, c2, c3, c4, c5, e4]
            by_cases c : t.s.rt e f = .non
            · simp only [if_pos c] at T4
              exact ⟨t, J.mono (by omega), rfl, rfl, rfl, rfl, T4⟩
            · simp only [if_neg c] at T4
              have hm : (f : Int) ∈ t.s.ord e := by
                refine (J.I.O.r e f he hfm).mp ?_
                unfold FS.rt at c
                cases z : lookV (t.s.hdk f) (.int e) with
                | none => rw [z] at c; exact absurd rfl c
                | some v => exact ⟨v, rfl⟩
              exact ⟨_, (J.en' he hf hm).mono (by omega), rfl, rfl, rfl, rfl, T4⟩
  obtain ⟨v, h', e, rfl, t', q⟩ := ex_of_wR wi
  exact ⟨t', h', e, q⟩
end
end Lw

set_option Elab.async false
set_option linter.all false
set_option autoImplicit false
set_option maxHeartbeats 4000000
set_option maxRecDepth 100000
namespace Lw
open PyM
structure ShA (F P A : Nat) (h : Heap) (i : Nat) (s' : En) (h' : Heap) : Prop where
  k : ∃ a b c, s' = [some (.ref F), some (.ref P), some (.ref A), a, b, c]
  x : h' = h
structure ShB (F P A : Nat) (v : Option Val) (h : Heap) (i : Nat) (s' : En) (h' : Heap) : Prop where
  k : ∃ b c, s' = [some (.ref F), some (.ref P), some (.ref A), v, b, c]
  x : h' = h
section
variable {ns : List Int} {t : St} {h h' : Heap} {e f w a c n q r : Nat} {v x : Val}
theorem Jn.get (J : Jn t n) (he : e < 4) : (lookV t.ent (key2 e q)).getD .non = t.p.en e q := by
  unfold PS.en
  by_cases c : q < 32
  · rw [if_pos c, J.en e q he c]
  · rw [if_neg c, J.e3 e q he (by omega)]; rfl
theorem Jn.enr (J : Jn t n) (he : e < 4) {f r : Nat} (h : t.p.en e q = .tup [.int f, .str r]) : q < 32 ∧ r < 2 ∧ f < 10 ∧ (t.s.rt e f = .str r ∨ t.s.rt e f = .str 0) := by
  unfold PS.en at h
  split at h
  · rename_i c
    cases hk : lookV (t.p.ent e) (.int q) with
    | none => rw [hk] at h; cases h
    | some v =>
      rw [hk] at h
      simp only [Option.getD_some] at h
      subst h
      rw [J.en e q he c] at hk
      obtain ⟨f', r', h1, h2, h3, h4⟩ := J.ev e q _ he c hk
      injection h3 with h3
      injection h3 with h3 h5
      injection h5 with h5 _
      injection h3 with h3
      injection h5 with h5
      have : f = f' := by omega
      subst this h5
      exact ⟨c, h1, h2, h4⟩
  · cases h
theorem Jn.w8 (J : Jn t n) (he : e < 4) : ∀ f r : Nat, t.p.en e q = .tup [.int f, .str r] → (t.s.wd f).length = 8 := fun f r h => by
  obtain ⟨_, _, hf, hr⟩ := J.enr he h
  obtain ⟨a, k, hw⟩ := J.wx e f he hf (by rcases hr with z | z <;> rw [z] <;> simp)
  obtain ⟨h1, h2, _⟩ := J.wv f a k hf hw
  rw [← h1]; exact h2
theorem shown_ok (J : Jn t n) (T : Tn 2 1 ns t.nodes h) : m__law_shown [.ref t.s.F, .ref t.p.P, .ref t.A] h = .ok (.bl true) h := by
  have K := J.I.K
  have rs := fS T
  have rp := pS T
  have eA := eE T
  have iF := isF rs
  have iP := isP rp
  have dT := isD_dcT eA
  have l2 : 2 ≤ lim := by decide
  refine eq_of_wR ?_
  unfold m__law_shown
  refine wRB rfl ?_
  simp -implicitDefEqProofs
  refine wS_range (n := 4) (ShA t.s.F t.p.P t.A h) ⟨⟨_, _, _, rfl⟩, rfl⟩ ?_ ?_
  · rintro e s' h1 he ⟨⟨a, b, c, rfl⟩, rfl⟩
    refine ⟨[some (.ref t.s.F), some (.ref t.p.P), some (.ref t.A), some (.int (e : Nat)), b, c], rfl, ?_⟩
    simp -implicitDefEqProofs
    refine wS_range (n := 32) (ShB t.s.F t.p.P t.A (some (.int (e : Nat))) h1) ⟨⟨_, _, rfl⟩, rfl⟩ ?_ ?_
    · rintro q s' h2 hq ⟨⟨b, c, rfl⟩, rfl⟩
      refine ⟨[some (.ref t.s.F), some (.ref t.p.P), some (.ref t.A), some (.int (e : Nat)), some (.int (q : Nat)), c], rfl, ?_⟩
      have e1 := entry_ok J.pl rp he (q := q)
      have e2 := tGet_at (z := .non) eA (key2_ok (a := e) (b := q))
      rw [show Val.tup [.int (e : Nat), .int (q : Nat)] = key2 e q from rfl, J.get he] at e2
      rcases en_cases J.V he q with z | ⟨f, r, _, hr, hf, _, z⟩
      · rw [z] at e1 e2
        have eq : oEq true .non .non h2 = .ok (.bl false) h2 := rfl
        simp -implicitDefEqProofs [iP, e1, gV, dT, e2, eq]
        exact ⟨⟨_, _, rfl⟩, rfl⟩
      · obtain ⟨_, _, hf10, hrt⟩ := J.enr he z
        rw [z] at e1 e2
        have eq := oEq_self (x := .tup [.int (f : Nat), .str r]) (neg := true) (h := h2) rfl
        have e3 := right_ok K rs (e := e) hf
        have ein : oIn true (t.s.rt e f) (.tup [.str r, .str 0]) h2 = .ok (.bl false) h2 := by
          rcases hrt with z | z
          · rw [z, oIn_tup rfl rfl]
            simp [feq]
          · rw [z, oIn_tup rfl rfl]
            simp [feq]
        simp -implicitDefEqProofs [iP, e1, gV, dT, e2, eq, iF, e3, l2, ein]
        exact ⟨⟨_, _, rfl⟩, rfl⟩
    · rintro s' h2 ⟨⟨b, c, rfl⟩, rfl⟩
      exact ⟨⟨_, _, _, rfl⟩, rfl⟩
  · rintro s' h1 ⟨⟨a, b, c, rfl⟩, rfl⟩
    simp -implicitDefEqProofs
theorem lload_ok (J : Jn t n) (T : Tn 2 1 ns t.nodes h) : ∃ h', m__law_load [.ref 2, .ref t.p.P, .ref t.A, .ref t.wb.WD] h = .ok (.bl true) h' ∧ Tn 2 1 ns t.nodes h' := by
  have wi : wR (m__law_load [.ref 2, .ref t.p.P, .ref t.A, .ref t.wb.WD] h) (fun _ _ => False) fun v h' => v = .bl true ∧ Tn 2 1 ns t.nodes h' := by
    obtain ⟨e, h1, a1, b1, e1, T1⟩ := T.next nx_eq (n := 4) (by omega) (by omega)
    obtain ⟨q, h2, a2, b2, e2, T2⟩ := T1.next nx_eq (n := 33) (by omega) (by omega)
    obtain ⟨i, h3, a3, b3, e3, T3⟩ := T2.next nx_eq (n := 10) (by omega) (by omega)
    obtain ⟨e, rfl⟩ := Int.eq_ofNat_of_zero_le a1
    obtain ⟨q, rfl⟩ := Int.eq_ofNat_of_zero_le a2
    have he : e < 4 := by omega
    obtain ⟨m, rfl⟩ : ∃ m : Int, i = m + 1 := ⟨i - 1, by omega⟩
    have e4 := tGet_at (z := .non) (eE T3) (key2_ok (a := e) (b := q))
    rw [show Val.tup [.int (e : Nat), .int (q : Nat)] = key2 e q from rfl, J.get he] at e4
    have dT := isD_dcT (eE T3)
    have e5 := load_ok J.I.K (fS T3) J.pF J.pl J.V (pS T3) he (J.w8 he (q := q)) (i := m)
    have iP := isP (pS T3)
    unfold m__law_load
    refine wRB rfl ?_
    rcases en_cases J.V he q with z | ⟨f, r, _, hr, hf, _, z⟩
    · rw [z] at e4 e5
      have eq : oEq false .non .non h3 = .ok (.bl true) h3 := rfl
      simp -implicitDefEqProofs [gV, e1, e2, e3, dT, e4, iP, e5, ldV, eq]
      exact T3
    · obtain ⟨_, _, hf10, hrt⟩ := J.enr he z
      obtain ⟨a, k, hw⟩ := J.wx e f he hf10 (by rcases hrt with z | z <;> rw [z] <;> simp)
      obtain ⟨k1, k2, k3⟩ := J.wv f a k hf10 hw
      have wk := J.wk f hf10
      rw [hw] at wk
      have eW : h3[t.wb.WD]? = some (.dct t.wb.kvs) := T3.on.sub2.sub2.drop1.at_ _ List.mem_cons_self
      have oW : On (t.wb.nodes ++ []) h3 := by rw [List.append_nil]; exact T3.on.sub2.sub2.drop1
      have ek := w_at oW (by rw [J.wl]; exact hf10) hw
      rw [z] at e4 e5
      by_cases c : 0 ≤ m ∧ m < 8
      · obtain ⟨j, rfl⟩ := Int.eq_ofNat_of_zero_le c.1
        have hj : j < k.length := by omega
        obtain ⟨y, hy⟩ := k3 k[j] (List.getElem_mem hj)
        have ld : ldV t.s (j : Int) (.tup [.int f, .str r]) = .int y := by
          show (if 0 ≤ (j : Int) ∧ (j : Int) < 8 then (t.s.wd f).getD j .non else .non) = _
          rw [if_pos c]
          rw [← k1, List.getD_eq_getElem?_getD, List.getElem?_eq_getElem hj, hy]; rfl
        rw [ld] at e5
        have hat : L2.atI k (j : Int) = some (.int y) := by rw [atI_cast, List.getElem?_eq_getElem hj, hy]
        simp -implicitDefEqProofs [gV, e1, e2, e3, dT, e4, iP, e5, show (j : Int) < 8 by omega, eW, wk, ek, hat]
        exact T3
      · have ld : ldV t.s m (.tup [.int f, .str r]) = .non := by
          show (if 0 ≤ m ∧ m < 8 then (t.s.wd f).getD m.toNat .non else .non) = _
          rw [if_neg c]
        rw [ld] at e5
        have eq : oEq false .non .non h3 = .ok (.bl true) h3 := rfl
        by_cases c1 : 0 ≤ m
        · simp -implicitDefEqProofs [gV, e1, e2, e3, dT, e4, iP, e5, c1, show ¬ m < 8 by omega, eq]
          exact T3
        · simp -implicitDefEqProofs [gV, e1, e2, e3, dT, e4, iP, e5, c1, eq]
          exact T3
  obtain ⟨v, h', e, rfl, q⟩ := ex_of_wR wi
  exact ⟨h', e, q⟩
end
end Lw

set_option Elab.async false
set_option linter.all false
set_option autoImplicit false
set_option maxHeartbeats 4000000
set_option maxRecDepth 100000
namespace Lw
open PyM
section
variable {ns : List Int} {t : St} {h h' : Heap} {e f w a c n q r : Nat} {v x : Val}
theorem keysI {i j : Int} : keysOk [.int i, .int j] = true := by simp [keysOk, isKey]
theorem lmap_ok (J : Jn t n) (hn : n < 400) (T : Tn 2 1 ns t.nodes h) : ∃ t' h', m__law_map [.ref 2, .ref t.s.F, .ref t.p.P, .ref t.A] h = .ok (.bl true) h' ∧ Nx ns t t' (n + 2) h' := by
  have wi : wR (m__law_map [.ref 2, .ref t.s.F, .ref t.p.P, .ref t.A] h) (fun _ _ => False) fun v h' => v = .bl true ∧ ∃ t', Nx ns t t' (n + 2) h' := by
    have ll := lim8
    have l2 : 2 ≤ lim := by omega
    have l3 : 3 ≤ lim := by omega
    obtain ⟨e, h1, a1, b1, e1, T1⟩ := T.next nx_eq (n := 4) (by omega) (by omega)
    obtain ⟨i, h2, a2, b2, e2, T2⟩ := T1.next nx_eq (n := 34) (by omega) (by omega)
    obtain ⟨f, h3, a3, b3, e3, T3⟩ := T2.next nx_eq (n := 12) (by omega) (by omega)
    have T4 := T3.new (Obj.lst [.str 1, .str 0, .str 3])
    obtain ⟨k, h5, a5, b5, e5, T6⟩ := T4.next nx_eq (n := 3) (by omega) (by omega)
    have g6 := T6.on.at_ _ List.mem_cons_self
    have T7 := T6.drop1
    obtain ⟨e, rfl⟩ := Int.eq_ofNat_of_zero_le a1
    obtain ⟨i, rfl⟩ : ∃ m : Int, i = m + 1 := ⟨i - 1, by omega⟩
    obtain ⟨f, rfl⟩ : ∃ m : Int, f = m + 1 := ⟨f - 1, by omega⟩
    have he : e < 4 := by omega
    have hr : ∃ r : Nat, (r = 0 ∨ r = 1 ∨ r = 3) ∧ L2.atI [Val.str 1, .str 0, .str 3] k = some (.str r) := by
      have : k = 0 ∨ k = 1 ∨ k = 2 := by omega
      rcases this with rfl | rfl | rfl
      · exact ⟨1, by omega, rfl⟩
      · exact ⟨0, by omega, rfl⟩
      · exact ⟨3, by omega, rfl⟩
    obtain ⟨r, hr1, hr2⟩ := hr
    have K := J.I.K
    have iF := isF (fS T7)
    have e6 := rightI_ok K (fS T7) (e := e) (f := f)
    have z1 := J.z1 e he
    have z2 := J.z2
    unfold m__law_map
    refine wRB rfl ?_
    by_cases c : mapB t.s e i f r = true
    · have c0 := c
      unfold mapB at c0
      simp only [Bool.and_eq_true, decide_eq_true_eq] at c0
      obtain ⟨⟨i0, i1⟩, r2, hin⟩ := c0
      obtain ⟨q, rfl⟩ := Int.eq_ofNat_of_zero_le i0
      have hrt : ∃ g : Nat, g < 10 ∧ f = (g : Nat) ∧ ∃ p : Nat, p < 2 ∧ t.s.rt e g = .str p ∧ incl p r = true := by
        unfold FS.rtI at hin
        split at hin
        · rename_i c1
          obtain ⟨g, rfl⟩ := Int.eq_ofNat_of_zero_le c1.1
          have hg : g < t.s.many := by omega
          have hin : inI (t.s.rt e g) r = true := hin
          refine ⟨g, by rw [← J.m]; exact hg, rfl, ?_⟩
          unfold FS.rt at hin ⊢
          cases hk : lookV (t.s.hdk g) (.int e) with
          | none => rw [hk] at hin; cases hin
          | some v =>
            obtain ⟨p, hp, rfl⟩ := J.I.rs he hg hk
            rw [hk] at hin
            exact ⟨p, hp, rfl, hin⟩
        · cases hin
      obtain ⟨g, hg, rfl, p, hp, hrt, hpr⟩ := hrt
      have hri : t.s.rtI e (g : Int) = .str p := by
        unfold FS.rtI
        rw [if_pos ⟨by omega, by rw [J.m]; omega⟩]
        exact hrt
      rw [hri] at e6
      have T8 := opE T7 (putV t.ent (key2 e q) (.tup [.int g, .str r]))
      have es := tSet_at (x := .tup [.int (g : Nat), .str r]) (eE T7) (key2_ok (a := e) (b := q)) (by omega)
      rw [show Val.tup [.int (e : Nat), .int (q : Nat)] = key2 e q from rfl] at es
      have iP := isP (pS T8)
      have rs8 : Fd t.s (h5.set t.A (.dcT (putV t.ent (key2 e q) (.tup [.int g, .str r])))) := by have z := fS T8; exact z
      obtain ⟨_, h9, e9, T9⟩ := opP (α := Unit) (P := fun _ h' => m_Pages_map [.ref t.p.P, .int e, .int q, .int g, .str r] (h5.set t.A (.dcT (putV t.ent (key2 e q) (.tup [.int g, .str r])))) = .ok (.bl (mapB t.s e q g r)) h') (S' := fun _ => if mapB t.s e q g r = true then t.p.sE e (putV (t.p.ent e) (.int q) (.tup [.int g, .str r])) else t.p) T8 (fun R o => by
        obtain ⟨h', q1, q2⟩ := map_ok K J.I.Rt rs8 J.pF J.pl o he (by omega) hr1 (i := (q : Int)) (f := (g : Int))
        exact ⟨(), h', q1, q2⟩)
      rw [if_pos c] at T9
      rw [c] at e9
      have due : p = 0 ∨ (p = 1 ∧ r = 1) := by
        simp [incl] at hpr
        omega
      have Jf : Jn { t with p := t.p.sE e (putV (t.p.ent e) (.int q) (.tup [.int g, .str r])), ent := putV t.ent (key2 e q) (.tup [.int g, .str r]) } (n + 2) := (J.map' he (by omega) hg r2 (by
        rcases due with rfl | ⟨rfl, rfl⟩
        · exact .inr hrt
        · exact .inl hrt)).mono (by omega)
      have iP : isIns 1 (.ref t.p.P) (h5.set t.A (.dcT (putV t.ent (key2 e q) (.tup [.int g, .str r])))) = true := iP
      have hr3 : ¬ r = 3 := by omega
      rcases due with rfl | ⟨rfl, rfl⟩
      · simp -implicitDefEqProofs [gV, e1, e2, e3, e5, l3, g6, hr2, iF, e6, i1, hr3, truth, l2, es, iP, e9]
        exact ⟨_, Jf, rfl, rfl, rfl, rfl, T9⟩
      · simp -implicitDefEqProofs [gV, e1, e2, e3, e5, l3, g6, hr2, iF, e6, i1, truth, l2, es, iP, e9]
        exact ⟨_, Jf, rfl, rfl, rfl, rfl, T9⟩
    · have c' : mapB t.s e i f r = false := by simpa using c
      have iP := isP (pS T7)
      obtain ⟨_, h9, e9, T9⟩ := opP (α := Unit) (P := fun _ h' => m_Pages_map [.ref t.p.P, .int e, .int i, .int f, .str r] h5 = .ok (.bl (mapB t.s e i f r)) h') (S' := fun _ => if mapB t.s e i f r = true then t.p.sE e (putV (t.p.ent e) (.int i) (.tup [.int f, .str r])) else t.p) T7 (fun R o => by
        obtain ⟨h', q1, q2⟩ := map_ok K J.I.Rt (fS T7) J.pF J.pl o he (by omega) hr1 (i := i) (f := f)
        exact ⟨(), h', q1, q2⟩)
      rw [if_neg c] at T9
      rw [c'] at e9
      have fin : ∃ t', Nx ns t t' (n + 2) h9 := ⟨t, J.mono (by omega), rfl, rfl, rfl, rfl, T9⟩
      unfold mapB at c'
      by_cases c0 : 0 ≤ i
      · by_cases c1 : i < 32
        · have c2 : (decide (r < 2) && inI (t.s.rtI e f) r) = false := by simpa [c0, c1] using c'
          have hq : t.s.rtI e f = .non ∨ ∃ p, p < 2 ∧ t.s.rtI e f = .str p := by
            unfold FS.rtI
            split
            · rename_i cc
              unfold FS.rt
              cases hk : lookV (t.s.hdk f.toNat) (.int e) with
              | none => exact .inl rfl
              | some v =>
                obtain ⟨p, hp, rfl⟩ := J.I.rs he (by omega) hk
                exact .inr ⟨p, hp, rfl⟩
            · exact .inl rfl
          rcases hq with hq | ⟨p, hp, hq⟩
          · rw [hq] at e6
            have q0 : oEq false .non (.str 0) h5 = .ok (.bl false) h5 := rfl
            have q1 : oEq false .non (.str 1) h5 = .ok (.bl false) h5 := rfl
            simp -implicitDefEqProofs [gV, e1, e2, e3, e5, l3, g6, hr2, iF, e6, c0, c1, q0, q1, truth, iP, e9]
            exact fin
          · rw [hq] at e6 c2
            have : p = 0 ∨ p = 1 := by omega
            rcases this with rfl | rfl
            · have hr3 : r = 3 := by
                rcases hr1 with rfl | rfl | rfl
                · simp [inI, incl] at c2
                · simp [inI, incl] at c2
                · rfl
              subst hr3
              simp -implicitDefEqProofs [gV, e1, e2, e3, e5, l3, g6, hr2, iF, e6, c0, c1, truth, iP, e9]
              exact fin
            · have hr3 : ¬ r = 1 := by
                rintro rfl
                simp [inI, incl] at c2
              simp -implicitDefEqProofs [gV, e1, e2, e3, e5, l3, g6, hr2, iF, e6, c0, c1, hr3, truth, iP, e9]
              exact fin
        · simp -implicitDefEqProofs [gV, e1, e2, e3, e5, l3, g6, hr2, iF, e6, c0, c1, truth, iP, e9]
          exact fin
      · simp -implicitDefEqProofs [gV, e1, e2, e3, e5, l3, g6, hr2, iF, e6, c0, truth, iP, e9]
        exact fin
  obtain ⟨v, h', e, rfl, t', q⟩ := ex_of_wR wi
  exact ⟨t', h', e, q⟩
end
end Lw

set_option Elab.async false
set_option linter.all false
set_option autoImplicit false
set_option maxHeartbeats 4000000
set_option maxRecDepth 100000
namespace Lw
open PyM
section
variable {ns : List Int} {t : St} {h h' : Heap} {e f w a c n q r : Nat} {v x : Val}
theorem lstore_ok (J : Jn t n) (hn : n < 400) (T : Tn 2 1 ns t.nodes h) : ∃ t' h', m__law_store [.ref 2, .ref t.p.P, .ref t.A, .ref t.wb.WD] h = .ok (.bl true) h' ∧ Nx ns t t' (n + 2) h' := by
  have wi : wR (m__law_store [.ref 2, .ref t.p.P, .ref t.A, .ref t.wb.WD] h) (fun _ _ => False) fun v h' => v = .bl true ∧ ∃ t', Nx ns t t' (n + 2) h' := by
    have ll := lim8
    have l4 : 4 ≤ lim := by omega
    obtain ⟨e, h1, a1, b1, e1, T1⟩ := T.next nx_eq (n := 4) (by omega) (by omega)
    obtain ⟨q, h2, a2, b2, e2, T2⟩ := T1.next nx_eq (n := 33) (by omega) (by omega)
    obtain ⟨i, h3, a3, b3, e3, T3⟩ := T2.next nx_eq (n := 10) (by omega) (by omega)
    obtain ⟨z, h4, a4, b4, e4, T4⟩ := T3.next nx_eq (n := 9) (by omega) (by omega)
    have T5 := T4.new (Obj.lst [.int z, .int 4294967295, .int 4294967296, .int (-1)])
    obtain ⟨k, h5, a5, b5, e5, T6⟩ := T5.next nx_eq (n := 4) (by omega) (by omega)
    have g6 := T6.on.at_ _ List.mem_cons_self
    have T7 := T6.drop1
    obtain ⟨e, rfl⟩ := Int.eq_ofNat_of_zero_le a1
    obtain ⟨q, rfl⟩ := Int.eq_ofNat_of_zero_le a2
    obtain ⟨m, rfl⟩ : ∃ m : Int, i = m + 1 := ⟨i - 1, by omega⟩
    have he : e < 4 := by omega
    have hp : ∀ h, oPw (.int 2) (.int 32) h = .ok (.int 4294967296) h := fun _ => rfl
    have cp : cPow 2 32 = true := by decide
    have hW : ∃ W : Int, L2.atI [Val.int z, .int 4294967295, .int 4294967296, .int (-1)] k = some (.int W) := by
      have : k = 0 ∨ k = 1 ∨ k = 2 ∨ k = 3 := by omega
      rcases this with rfl | rfl | rfl | rfl
      · exact ⟨z, rfl⟩
      · exact ⟨_, rfl⟩
      · exact ⟨_, rfl⟩
      · exact ⟨_, rfl⟩
    obtain ⟨W, hW⟩ := hW
    have e6 := tGet_at (z := .non) (eE T7) (key2_ok (a := e) (b := q))
    rw [show Val.tup [.int (e : Nat), .int (q : Nat)] = key2 e q from rfl, J.get he] at e6
    have dT := isD_dcT (eE T7)
    have iP := isP (pS T7)
    have rp7 := pS T7
    have w8 := J.w8 he (q := q)
    have st : stB m W (t.p.en e q) = none → ∃ h', m_Pages_store [.ref t.p.P, .int e, .int q, .int m, .int W] h5 = .ok (.bl false) h' ∧ Nx ns t t (n + 2) h' := fun c => by
      obtain ⟨_, h9, e9, T9⟩ := opS (α := Unit) (P := fun _ h' => m_Pages_store [.ref t.p.P, .int e, .int q, .int m, .int W] h5 = .ok (.bl (stB m W (t.p.en e q)).isSome) h') (S' := fun _ => match stB m W (t.p.en e q) with | some f => t.s.sWs f ((t.s.wd f).set m.toNat (.int W)) | none => t.s) T7 (fun R o => by
        obtain ⟨h', q1, q2⟩ := store_ok J.I.K J.pF J.pl J.V rp7 o he w8 (i := m) (w := W)
        exact ⟨(), h', q1, q2⟩)
      rw [c] at e9 T9
      exact ⟨h9, e9, J.mono (by omega), rfl, rfl, rfl, rfl, T9⟩
    unfold m__law_store
    refine wRB rfl ?_
    rcases en_cases J.V he q with y | ⟨f, r, _, hr, hf, _, y⟩
    · rw [y] at e6 st
      obtain ⟨h9, e9, X⟩ := st rfl
      simp -implicitDefEqProofs [gV, e1, e2, e3, e4, hp, cp, l4, e5, g6, hW, dT, e6, truth, iP, e9]
      exact ⟨t, X⟩
    · obtain ⟨_, _, hf10, hrt⟩ := J.enr he y
      obtain ⟨a, kk, hw⟩ := J.wx e f he hf10 (by rcases hrt with z | z <;> rw [z] <;> simp)
      obtain ⟨k1, k2, k3⟩ := J.wv f a kk hf10 hw
      have wk := J.wk f hf10
      rw [hw] at wk
      have eW : h5[t.wb.WD]? = some (.dct t.wb.kvs) := T7.on.sub2.sub2.drop1.at_ _ List.mem_cons_self
      have oW : On (t.wb.nodes ++ []) h5 := by rw [List.append_nil]; exact T7.on.sub2.sub2.drop1
      have ek := w_at oW (by rw [J.wl]; exact hf10) hw
      by_cases c0 : (r = 0 ∧ 0 ≤ W ∧ W ≤ 4294967295) ∧ 0 ≤ m ∧ m < 8
      · obtain ⟨⟨rfl, w0, w1⟩, m0, m1⟩ := c0
        obtain ⟨j, rfl⟩ := Int.eq_ofNat_of_zero_le m0
        have sB : stB (j : Int) W (t.p.en e q) = some f := by
          rw [y]
          show (if ((0 : Nat) = 0 ∧ 0 ≤ W ∧ W ≤ 4294967295) ∧ 0 ≤ (j : Int) ∧ (j : Int) < 8 then some f else none) = some f
          rw [if_pos ⟨⟨rfl, w0, w1⟩, m0, m1⟩]
        obtain ⟨_, h8, rfl, T8⟩ := opW (α := Unit) (P := fun _ h' => h' = h5.set a (.lst (kk.set j (.int W)))) (S' := fun _ => t.wb.st f (some (a, kk.set j (.int W))) t.wb.kvs) T7 (fun R o => ⟨(), _, rfl, on_wS (by rw [J.wl]; exact hf10) o hw _⟩)
        have rp8 : Pd t.p (h5.set a (.lst (kk.set j (.int W)))) := by have z := pS T8; exact z
        have iP8 := isP rp8
        obtain ⟨_, h9, e9, T9⟩ := opS (α := Unit) (P := fun _ h' => m_Pages_store [.ref t.p.P, .int e, .int q, .int j, .int W] (h5.set a (.lst (kk.set j (.int W)))) = .ok (.bl (stB (j : Int) W (t.p.en e q)).isSome) h') (S' := fun _ => match stB (j : Int) W (t.p.en e q) with | some f => t.s.sWs f ((t.s.wd f).set (j : Int).toNat (.int W)) | none => t.s) T8 (fun R o => by
          obtain ⟨h', q1, q2⟩ := store_ok J.I.K J.pF J.pl J.V rp8 o he w8 (i := (j : Int)) (w := W)
          exact ⟨(), h', q1, q2⟩)
        rw [sB] at e9 T9
        have hix : L2.ixN kk.length (j : Int) = some j := by rw [ixN_cast, if_pos (by omega)]
        rw [y] at e6
        simp -implicitDefEqProofs [gV, e1, e2, e3, e4, hp, cp, l4, e5, g6, hW, dT, e6, truth, show (j : Int) < 8 from m1, w0, show W < 4294967296 by omega, eW, wk, ek, hix, iP8, e9]
        refine ⟨_, (J.store' hf10 hw (i := j) (z := W)).mono (by omega), rfl, rfl, rfl, rfl, ?_⟩
        rw [k1]
        rw [k1] at T9
        exact T9
      · have sB : stB m W (t.p.en e q) = none := by
          rw [y]
          show (if (r = 0 ∧ 0 ≤ W ∧ W ≤ 4294967295) ∧ 0 ≤ m ∧ m < 8 then some f else none) = none
          rw [if_neg c0]
        obtain ⟨h9, e9, X⟩ := st sB
        rw [y] at e6
        by_cases c1 : r = 0
        · subst c1
          by_cases c2 : 0 ≤ m
          · by_cases c3 : m < 8
            · by_cases c4 : 0 ≤ W
              · have c5 : ¬ W < 4294967296 := fun c5 => c0 ⟨⟨rfl, c4, by omega⟩, c2, c3⟩
                simp -implicitDefEqProofs [gV, e1, e2, e3, e4, hp, cp, l4, e5, g6, hW, dT, e6, truth, c2, c3, c4, c5, iP, e9]
                exact ⟨t, X⟩
              · simp -implicitDefEqProofs [gV, e1, e2, e3, e4, hp, cp, l4, e5, g6, hW, dT, e6, truth, c2, c3, c4, iP, e9]
                exact ⟨t, X⟩
            · simp -implicitDefEqProofs [gV, e1, e2, e3, e4, hp, cp, l4, e5, g6, hW, dT, e6, truth, c2, c3, iP, e9]
              exact ⟨t, X⟩
          · simp -implicitDefEqProofs [gV, e1, e2, e3, e4, hp, cp, l4, e5, g6, hW, dT, e6, truth, c2, iP, e9]
            exact ⟨t, X⟩
        · simp -implicitDefEqProofs [gV, e1, e2, e3, e4, hp, cp, l4, e5, g6, hW, dT, e6, truth, c1, iP, e9]
          exact ⟨t, X⟩
  obtain ⟨v, h', e, rfl, t', q⟩ := ex_of_wR wi
  exact ⟨t', h', e, q⟩
end
end Lw

set_option Elab.async false
set_option linter.all false
set_option autoImplicit false
set_option maxHeartbeats 4000000
set_option maxRecDepth 100000
namespace Lw
open PyM
def lwTail : En → Heap → RS := (sIf (tOr_ (tNo (tTr (mV 8))) (tAn (tB_ (mB (oEq false) (mB oMd (mV 6) (mK (.int 8))) (mK (.int 0)))) (tNo (tTr (mCall m__law_shown [] (mCons (mV 2) (mCons (mV 3) (mCons (mV 4) (mNil))))))))) (sRet (mK (.bl false))) (sNx))
def lwBody : En → Heap → RS := (sSeq (sAsg (gV 7) (mCall m__law_next [] (mCons (mV 1) (mCons (mK (.int 7)) (mNil)))))
    (sSeq (sAsg (gV 8) (mK (.bl true)))
    (sSeq (sIf (tB_ (mB oLt (mV 7) (mK (.int 2)))) (sDrop (mCall m__law_book [] (mCons (mV 1) (mCons (mV 2) (mCons (mV 3) (mCons (mV 4) (mCons (mV 5) (mNil)))))))) (sIf (tB_ (mB oLt (mV 7) (mK (.int 4)))) (sAsg (gV 8) (mCall m__law_map [] (mCons (mV 1) (mCons (mV 2) (mCons (mV 3) (mCons (mV 4) (mNil))))))) (sIf (tB_ (mB (oEq false) (mV 7) (mK (.int 4)))) (sSeq (sAsg (gV 9) (mCall m__law_next [] (mCons (mV 1) (mCons (mK (.int 4)) (mNil)))))
    (sSeq (sAsg (gV 10) (mCall m__law_next [] (mCons (mV 1) (mCons (mK (.int 33)) (mNil)))))
    (sAsg (gV 8) (mB (oEq false) (mMeth 1 m_Pages_unmap [] (mV 3) (mCons (mV 9) (mCons (mV 10) (mNil)))) (mU (oIsN true) (mPopT2 (mV 4) (mCons (mV 9) (mCons (mV 10) (mNil))) (mK .non))))))) (sIf (tB_ (mB (oEq false) (mV 7) (mK (.int 5)))) (sAsg (gV 8) (mCall m__law_store [] (mCons (mV 1) (mCons (mV 3) (mCons (mV 4) (mCons (mV 5) (mNil))))))) (sAsg (gV 8) (mCall m__law_load [] (mCons (mV 1) (mCons (mV 3) (mCons (mV 4) (mCons (mV 5) (mNil)))))))))))
    lwTail)))
def lwLoop : En → Heap → RS := (sSeq (sFor (iRng1 (mCons (mCall m__law_next [] (mCons (mV 1) (mCons (mB oIx (mLst (mCons (mK (.int 40)) (mCons (mK (.int 40)) (mCons (mK (.int 101)) (mNil))))) (mCall m__law_next [] (mCons (mV 1) (mCons (mK (.int 3)) (mNil))))) (mNil)))) (mNil))) (gV 6) lwBody)
    (sRet (mCall m__law_shown [] (mCons (mV 2) (mCons (mV 3) (mCons (mV 4) (mNil)))))))
theorem m_law_cut : m_law = runB 1 11
    (sSeq (sAsg (gV 1) (mLst (mCons (mL bList (mCons (mV 0) (mNil))) (mCons (mK (.int 0)) (mCons (mK (.int 0)) (mCons (mK (.int 17)) (mNil)))))))
    (sSeq (sAsg (gV 2) (mMake 0 m_Frames___init__ [] (mCons (mK (.int 10)) (mCons (mLst (mCons (mK (.int 2)) (mCons (mK (.int 2)) (mCons (mK (.int 1)) (mCons (mK (.int 0)) (mNil)))))) (mNil)))))
    (sSeq (sAsg (gV 3) (mMake 1 m_Pages___init__ [] (mCons (mV 2) (mNil))))
    (sSeq (sAsg (gV 4) (mDctT))
    (sSeq (sAsg (gV 5) (mDct))
    lwLoop))))) := rfl
structure LwJ (ns : List Int) (o0 : Option Val) (F P A WD : Nat) (n : Nat) (s' : En) (h' : Heap) : Prop where
  k : ∃ (t : St) (o6 o7 o8 o9 o10 : Option Val), s' = [o0, some (.ref 2), some (.ref F), some (.ref P), some (.ref A), some (.ref WD), o6, o7, o8, o9, o10] ∧ t.s.F = F ∧ t.p.P = P ∧ t.A = A ∧ t.wb.WD = WD ∧ Jn t (2 * n) ∧ Tn 2 1 ns t.nodes h'
section
variable {ns : List Int} {t : St} {h h' : Heap} {e f w a c n q r : Nat} {v x : Val} {D : K4}
theorem tail_ok {o0 o1 o7 o9 o10 : Option Val} {i : Nat} {WD : Val} (J : Jn t n) (T : Tn 2 1 ns t.nodes h)
    (hD : D.nx [o0, o1, some (.ref t.s.F), some (.ref t.p.P), some (.ref t.A), some WD, some (.int i), o7, some (.bl true), o9, o10] h) :
    wS (lwTail [o0, o1, some (.ref t.s.F), some (.ref t.p.P), some (.ref t.A), some WD, some (.int i), o7, some (.bl true), o9, o10] h) D := by
  have e1 := shown_ok J T
  unfold lwTail
  simp -implicitDefEqProofs [e1, truth]
  exact hD
theorem lunmap_ok (J : Jn t n) (T : Tn 2 1 ns t.nodes h) (he : e < 4) : ∃ t' h1 h2 v, m_Pages_unmap [.ref t.p.P, .int e, .int q] h = .ok (.bl (!decide (v = Val.non))) h1 ∧ isD (.ref t.A) h1 = true ∧ tPop2 (.ref t.A) [.int e, .int q] .non h1 = .ok v h2 ∧ (v = .non ∨ ∃ xs, v = .tup xs) ∧ Nx ns t t' n h2 := by
  obtain ⟨_, h1, e1, T1⟩ := opP (α := Unit) (P := fun _ h' => m_Pages_unmap [.ref t.p.P, .int e, .int q] h = .ok (.bl (!decide (t.p.en e q = .non))) h') (S' := fun _ => if q < 32 then t.p.sE e (dropV (t.p.ent e) (.int q)) else t.p) T (fun R o => by
    obtain ⟨h', q1, q2⟩ := unmap_ok J.pl J.V.S o he (q := q)
    exact ⟨(), h', q1, q2⟩)
  have eA : h1[t.A]? = some (.dcT t.ent) := by have z := eE T1; exact z
  have e2 := tPop2_at (z := .non) eA (key2_ok (a := e) (b := q))
  rw [show Val.tup [.int (e : Nat), .int (q : Nat)] = key2 e q from rfl, J.get he] at e2
  have T2 := opE T1 (dropV t.ent (key2 e q))
  refine ⟨{ t with p := if q < 32 then t.p.sE e (dropV (t.p.ent e) (.int q)) else t.p, ent := dropV t.ent (key2 e q) }, h1, _, t.p.en e q, e1, isD_dcT eA, e2, ?_, ?_⟩
  · rcases en_cases J.V he q with z | ⟨f, r, _, _, _, _, z⟩
    · exact .inl z
    · exact .inr ⟨_, z⟩
  · by_cases c : q < 32
    · simp only [if_pos c] at T2 ⊢
      exact ⟨J.unmap' he, rfl, rfl, rfl, rfl, T2⟩
    · simp only [if_neg c] at T2 ⊢
      have e9 : dropV t.ent (key2 e q) = t.ent := dropV_none (J.e3 e q he (by omega))
      rw [e9] at T2 ⊢
      exact ⟨J, rfl, rfl, rfl, rfl, T2⟩
theorem body_ok {o0 o7 o8 o9 o10 : Option Val} {i : Nat} (J : Jn t (2 * n)) (hn : n < 150) (T : Tn 2 1 ns t.nodes h)
    (hD : ∀ s1 h', LwJ ns o0 t.s.F t.p.P t.A t.wb.WD (n + 1) s1 h' → D.nx s1 h') :
    wS (lwBody [o0, some (.ref 2), some (.ref t.s.F), some (.ref t.p.P), some (.ref t.A), some (.ref t.wb.WD), some (.int i), o7, o8, o9, o10] h) D := by
  obtain ⟨k, h1, a1, b1, e1, T1⟩ := T.next nx_eq (n := 7) (by omega) (by omega)
  have fin : ∀ (t' : St) (p9 p10 : Option Val) (h4 : Heap), Nx ns t t' (2 * n + 2) h4 → wS (lwTail [o0, some (.ref 2), some (.ref t.s.F), some (.ref t.p.P), some (.ref t.A), some (.ref t.wb.WD), some (.int i), some (.int k), some (.bl true), p9, p10] h4) D := by
    intro t' p9 p10 h4 X
    have z := tail_ok (i := i) (o0 := o0) (o1 := some (.ref 2)) (o7 := some (.int k)) (o9 := p9) (o10 := p10) (WD := .ref t.wb.WD) (D := D) X.J X.T (hD _ _ ⟨⟨t', _, _, _, _, _, by rw [X.s, X.p, X.a], X.s, X.p, X.a, X.w, X.J, X.T⟩⟩)
    rw [X.s, X.p, X.a] at z
    exact z
  unfold lwBody
  by_cases c2 : k < 2
  · obtain ⟨t', h2, e2, X⟩ := book_ok J (by omega) T1
    simp -implicitDefEqProofs [gV, e1, c2, e2]
    exact fin t' _ _ h2 X
  · by_cases c4 : k < 4
    · obtain ⟨t', h2, e2, X⟩ := lmap_ok J (by omega) T1
      simp -implicitDefEqProofs [gV, e1, c2, c4, e2]
      exact fin t' _ _ h2 X
    · by_cases c5 : k = 4
      · subst c5
        obtain ⟨e, h2, a2, b2, e2, T2⟩ := T1.next nx_eq (n := 4) (by omega) (by omega)
        obtain ⟨q, h3, a3, b3, e3, T3⟩ := T2.next nx_eq (n := 33) (by omega) (by omega)
        obtain ⟨e, rfl⟩ := Int.eq_ofNat_of_zero_le a2
        obtain ⟨q, rfl⟩ := Int.eq_ofNat_of_zero_le a3
        have iP := isP (pS T3)
        obtain ⟨t', h4, h5, v, e4, d4, e5, hv, X⟩ := lunmap_ok J T3 (show e < 4 by omega) (q := q)
        have X' : Nx ns t t' (2 * n + 2) h5 := { X with J := X.J.mono (by omega) }
        rcases hv with rfl | ⟨xs, rfl⟩
        · simp -implicitDefEqProofs [gV, e1, e2, e3, iP, e4, d4, e5]
          exact fin t' _ _ h5 X'
        · simp -implicitDefEqProofs [gV, e1, e2, e3, iP, e4, d4, e5]
          exact fin t' _ _ h5 X'
      · by_cases c6 : k = 5
        · subst c6
          obtain ⟨t', h2, e2, X⟩ := lstore_ok J (by omega) T1
          simp -implicitDefEqProofs [gV, e1, e2]
          exact fin t' _ _ h2 X
        · obtain ⟨h2, e2, T2⟩ := lload_ok J T1
          simp -implicitDefEqProofs [gV, e1, c2, c4, c5, c6, e2]
          exact fin t _ _ h2 ⟨J.mono (by omega), rfl, rfl, rfl, rfl, T2⟩
end
end Lw

set_option Elab.async false
set_option linter.all false
set_option autoImplicit false
set_option maxHeartbeats 4000000
set_option maxRecDepth 100000
namespace Lw
open PyM
section
variable {h : Heap} {R : Nodes} {F : Nat}
theorem pinit_ok (o : On R h) : ∃ (p : PS) (h' : Heap), m_Pages___init__ [.ref h.length, .ref F] (h ++ [.ins 1 []]) = .ok .non h' ∧ (p.P = h.length ∧ p.F = F ∧ p.es.length = 4 ∧ ∀ e, p.ent e = []) ∧ On (p.nodes ++ R) h' := by
  have wi : wR (m_Pages___init__ [.ref h.length, .ref F] (h ++ [.ins 1 []])) (fun _ _ => False) fun v h' => v = .non ∧ ∃ p : PS, (p.P = h.length ∧ p.F = F ∧ p.es.length = 4 ∧ ∀ e, p.ent e = []) ∧ On (p.nodes ++ R) h' := by
    have ll := lim8
    have oF := o.new (Obj.ins 1 [])
    generalize hh1 : h ++ [Obj.ins 1 []] = h1 at oF
    have eF1 := oF.get (i := 0) rfl
    have o3 := oF.set (i := 0) rfl (.ins 1 [(8, .ref F)])
    generalize hh3 : h1.set h.length (.ins 1 [(8, .ref F)]) = h3 at o3
    have hl3 : h3.length = h1.length := by rw [← hh3, List.length_set]
    unfold m_Pages___init__
    refine wRB rfl ?_
    simp -implicitDefEqProofs [eF1, setF, hh3]
    rw [← hl3]
    refine fam_lc dN [] (fun _ => rfl) o3 (by rw [rangeV_length]; omega) (fun _ => rfl) (fun x h' _ => ⟨_, rfl, ?_⟩) (fun es h6 n2 v2 o6 => ?_)
    · simp -implicitDefEqProofs [wipeE]
      exact ⟨⟨_, rfl⟩, rfl⟩
    have o6 := mvF o6
    have eF6 := o6.get (i := 0) rfl
    have o7 := o6.set (i := 0) rfl (.ins 1 [(8, .ref F), (9, .ref h3.length)])
    simp -implicitDefEqProofs [eF6, setF]
    rw [rangeV_length] at n2
    refine ⟨⟨h.length, F, h3.length, es⟩, ⟨rfl, rfl, n2, fam_nil v2⟩, o7.perm ?_⟩
    classical
    rw [List.perm_iff_count]
    intro x
    simp only [PS.nodes, PS.obj, List.set_cons_zero, List.count_append, List.count_cons, List.count_nil, List.append_assoc]
    omega
  obtain ⟨v, h', e, rfl, s, q⟩ := ex_of_wR wi
  exact ⟨s, h', e, q⟩
end
theorem mk_ok {ns : List Int} {H3 : Heap} {many : Nat} (hmany : many = 10) (T1 : Tn 2 1 ns ([] ++ []) (H3 ++ [Obj.lst (shs.map Val.int)])) : ∃ s h4, (m_Frames___init__ [.ref (H3 ++ [Obj.lst (shs.map Val.int)]).length, .int many, .ref H3.length] ((H3 ++ [Obj.lst (shs.map Val.int)]) ++ [.ins 0 []]) = .ok .non h4 ∧ S0 s (H3 ++ [Obj.lst (shs.map Val.int)]).length many shs) ∧ Tn 2 1 ns (s.nodes ++ []) h4 := by
  have h1 : ∀ z ∈ shs, 0 ≤ z := by decide
  have h2 : shs.sum ≤ (many : Int) := by rw [hmany]; decide
  have h3 : (H3 ++ [Obj.lst (shs.map Val.int)])[H3.length]? = some (.lst (shs.map Val.int)) := at_len
  have h4 : shs.length = 4 := rfl
  generalize shs = sh at *
  generalize H3 ++ [Obj.lst (sh.map Val.int)] = H4 at *
  exact T1.op (A := []) (α := FS) (A' := fun s => s.nodes) (fun R o => by
    obtain ⟨s, h', q1, q2, q3⟩ := init_ok (R := R) o h3 (by omega) (by omega) h4 h1 h2
    exact ⟨s, h', ⟨q1, q2⟩, q3⟩)
theorem law_true (ns : List Int) (hns : ns.length ≤ 63) : ∃ h', m_law [.ref 0] [.fls (ns.map Val.int)] = .ok (.bl true) h' := by
  have key : ∀ (F : List Val → Heap → Res Val) (v0 : Val) (H0 : Heap), F = m_law → v0 = .ref 0 → H0 = [.fls (ns.map Val.int)] → wR (F [v0] H0) (fun _ _ => False) fun x h' => x = .bl true := by
    intro F v0 H0 hF0 hv0 hH0
    have ll := lim8
    have l4 : 4 ≤ lim := by omega
    have l3 : 3 ≤ lim := by omega
    obtain ⟨H3, hH3⟩ : ∃ H3 : Heap, H3 = [Obj.fls (ns.map Val.int), Obj.lst (ns.map Val.int), Obj.lst [.ref 1, .int 0, .int 0, .int 17]] := ⟨_, rfl⟩
    have hl3 : H3.length = 3 := by rw [hH3]; rfl
    have T0 : TP 2 1 ns H3 := by rw [hH3]; exact ⟨by decide, rfl, 0, 0, 17, by decide, rfl⟩
    have T1 : Tn 2 1 ns ([] ++ []) (H3 ++ [Obj.lst (shs.map Val.int)]) := Tn.ext (Tn.of (l := []) T0 ⟨by simp, by simp⟩ (by simp)) ⟨[Obj.lst (shs.map Val.int)], rfl⟩
    obtain ⟨many, hmany⟩ : ∃ m : Nat, m = 10 := ⟨_, rfl⟩
    obtain ⟨s, h4, ⟨e4, q4⟩, T4⟩ := mk_ok hmany T1
    have hl4 : (H3 ++ [Obj.lst (shs.map Val.int)]).length = 4 := by rw [List.length_append, hl3]; rfl
    rw [hl4] at e4 q4
    rw [hl3] at e4
    subst hmany
    have es : shs.map Val.int = [.int 2, .int 2, .int 1, .int 0] := rfl
    rw [hH3, es] at e4
    simp only [List.cons_append, List.nil_append] at e4
    obtain ⟨p, h5, ⟨e5, q5⟩, T5⟩ := (T4.perm (l' := [] ++ s.nodes) (by simp)).op (A := []) (α := PS) (P := fun p h' => m_Pages___init__ [.ref h4.length, .ref 4] (h4 ++ [.ins 1 []]) = .ok .non h' ∧ (p.P = h4.length ∧ p.F = 4 ∧ p.es.length = 4 ∧ ∀ e, p.ent e = [])) (A' := fun p => p.nodes) (fun R o => by
      obtain ⟨p, h', q1, q2, q3⟩ := pinit_ok (F := 4) o
      exact ⟨p, h', ⟨q1, q2⟩, q3⟩)
    have T6 := (T5.new (Obj.dcT [])).new (Obj.dct [])
    simp only [List.append_assoc, List.cons_append, List.nil_append, List.length_append, List.length_cons, List.length_nil, Nat.zero_add] at T6
    have hK : ∀ g, (List.replicate 10 (none : Option (Nat × List Val))).getD g none = none := fun g => by
      rw [List.getD_eq_getElem?_getD, List.getElem?_replicate]
      split <;> rfl
    have J0 : Jn ⟨s, bk0 0, p, h5.length, [], ⟨h5.length + 1, [], List.replicate 10 none⟩⟩ (2 * 0) := by
      have nil : ∀ k : Val, lookV ([] : List (Val × Val)) k = none := fun _ => rfl
      refine ⟨iv0 q4 (by decide) (by decide), fun e _ => q4.wt e, q4.m, by rw [q5.2.1]; exact q4.F.symm, q5.2.2.1, by simp, fun e q _ _ => ?_, fun e q _ _ => rfl, fun e q v _ _ h => ?_, fun f _ => ?_, fun f a k _ h => ?_, fun e f _ _ h => ?_, fun e _ => ?_, Nat.le_refl 0, Nat.le_refl 0⟩
      · rw [q5.2.2.2]; rfl
      · cases h
      · show lookV [] _ = Option.map _ ((List.replicate 10 none).getD f none)
        rw [hK]; rfl
      · have h : (List.replicate 10 none).getD f none = some (a, k) := h
        rw [hK] at h; cases h
      · exfalso
        apply h
        show s.rt e f = .non
        unfold FS.rt
        rw [q4.hd]; rfl
      · show (p.ent e).length ≤ 0
        rw [q5.2.2.2]; exact Nat.le_refl 0
    have T7 : Tn 2 1 ns (St.nodes ⟨s, bk0 0, p, h5.length, [], ⟨h5.length + 1, [], List.replicate 10 none⟩⟩) (h5 ++ [Obj.dcT [], Obj.dct []]) := T6.perm (by
      classical
      rw [List.perm_iff_count]
      intro x
      have : (List.replicate 10 (none : Option (Nat × List Val))).flatMap oN = [] := rfl
      simp only [St.nodes, WB.nodes, this, List.count_append, List.count_cons, List.count_nil]
      omega)
    have e4' : m_Frames___init__ [.ref 4, .int 10, .ref 3] [Obj.fls (ns.map Val.int), Obj.lst (ns.map Val.int), Obj.lst [.ref 1, .int 0, .int 0, .int 17], Obj.lst [.int 2, .int 2, .int 1, .int 0], .ins 0 []] = .ok .non h4 := by simpa using e4
    rw [hF0, m_law_cut]
    refine wRB rfl ?_
    rw [hv0, hH0]
    simp -implicitDefEqProofs [gV, l4, e4', e5]
    have hF : s.F = 4 := q4.F
    have hP := q5.1
    generalize h5 ++ [Obj.dcT [], Obj.dct []] = h6 at T7
    have T8 := T7.new (Obj.lst [.int 40, .int 40, .int 101])
    obtain ⟨k, h7, k0, k1, e7, T9⟩ := T8.next nx_eq (n := 3) (by omega) (by omega)
    have g9 := T9.on.at_ _ List.mem_cons_self
    have T10 := T9.drop1
    have hk : ∃ m : Int, (m = 40 ∨ m = 101) ∧ L2.atI [Val.int 40, .int 40, .int 101] k = some (.int m) := by
      have : k = 0 ∨ k = 1 ∨ k = 2 := by omega
      rcases this with rfl | rfl | rfl
      · exact ⟨40, by omega, rfl⟩
      · exact ⟨40, by omega, rfl⟩
      · exact ⟨101, by omega, rfl⟩
    obtain ⟨m, hm, hk⟩ := hk
    obtain ⟨r, h8, r0, r1, e8, T11⟩ := T10.next nx_eq (n := m) (by omega) (by omega)
    obtain ⟨r, rfl⟩ := Int.eq_ofNat_of_zero_le r0
    unfold lwLoop
    simp -implicitDefEqProofs [e7, g9, hk, e8, l3]
    refine ⟨by omega, ?_⟩
    rw [← hP]
    refine wS_range (n := r) (LwJ ns (some (.ref 0)) 4 p.P h5.length (h5.length + 1)) ⟨⟨_, _, _, _, _, _, rfl, hF, rfl, rfl, rfl, J0, T11⟩⟩ ?_ ?_
    · rintro i s' h' hi ⟨t, o6, o7, o8, o9, o10, rfl, hF, hP, hA, hW, J, T⟩
      rw [← hF, ← hP, ← hW, ← hA]
      exact ⟨_, rfl, body_ok (i := i) J (by omega) T (fun s1 h' L => L)⟩
    · rintro s' h' ⟨t, o6, o7, o8, o9, o10, rfl, hF, hP, hA, hW, J, T⟩
      have e9 := shown_ok J T
      rw [hF, hP, hA] at e9
      simp -implicitDefEqProofs [e9]
  obtain ⟨F, hF⟩ : ∃ F, F = m_law := ⟨_, rfl⟩
  obtain ⟨x, h', e, rfl⟩ := ex_of_wR (key F _ _ hF rfl rfl)
  exact ⟨h', by rw [← hF]; exact e⟩
end Lw

set_option Elab.async false
set_option linter.all false
set_option maxRecDepth 100000
set_option maxHeartbeats 4000000
namespace Lw
open PySem L2 PyM
def top (i : Nat) : Stmt := PySem.Challenge.pw_steadhold_k33_pages_never_give_more_than.main.body.getD i (.Pass ⟨0, 0, 0, 0⟩)
abbrev s_is_number : Stmt := (top 6)
abbrev N_is_number : List Str := ["value"]
abbrev s_Frames___init__ : Stmt := (inClass (top 16) 0)
abbrev N_Frames___init__ : List Str := ["self", "many", "shares", "share", "_"]
abbrev s_Pages___init__ : Stmt := (inClass (top 20) 0)
abbrev N_Pages___init__ : List Str := ["self", "frames", "_"]
abbrev s__law_next : Stmt := (top 22)
abbrev N__law_next : List Str := ["_law_tape", "_law_many", "_law_rest", "_law_cell"]
abbrev s_Frames_free : Stmt := (inClass (top 16) 6)
abbrev N_Frames_free : List Str := ["self", "frame"]
abbrev s_Frames_charge : Stmt := (inClass (top 16) 3)
abbrev N_Frames_charge : List Str := ["self", "environment"]
abbrev s_Frames_share : Stmt := (inClass (top 16) 2)
abbrev N_Frames_share : List Str := ["self", "environment"]
abbrev s_Frames_left : Stmt := (inClass (top 16) 4)
abbrev N_Frames_left : List Str := ["self", "held"]
abbrev s_Frames_may_hold_more : Stmt := (inClass (top 16) 5)
abbrev N_Frames_may_hold_more : List Str := ["self", "environment", "unfilled", "one"]
abbrev s_Frames_take : Stmt := (inClass (top 16) 7)
abbrev N_Frames_take : List Str := ["self", "environment", "free", "frame"]
abbrev s_is_environment : Stmt := (top 7)
abbrev N_is_environment : List Str := ["value"]
abbrev s_Frames_is_frame : Stmt := (inClass (top 16) 1)
abbrev N_Frames_is_frame : List Str := ["self", "frame"]
abbrev s_Frames_right : Stmt := (inClass (top 16) 8)
abbrev N_Frames_right : List Str := ["self", "environment", "frame"]
abbrev s_includes : Stmt := (top 15)
abbrev N_includes : List Str := ["right", "wanted"]
abbrev s_Frames_offer : Stmt := (inClass (top 16) 10)
abbrev N_Frames_offer : List Str := ["self", "environment", "frame", "other", "right", "held"]
abbrev s_Frames_accept : Stmt := (inClass (top 16) 11)
abbrev N_Frames_accept : List Str := ["self", "environment", "frame", "owner", "right", "held"]
abbrev s_Frames_narrow : Stmt := (inClass (top 16) 14)
abbrev N_Frames_narrow : List Str := ["self", "environment", "frame"]
abbrev s_is_page : Stmt := (top 19)
abbrev N_is_page : List Str := ["value"]
abbrev s_Pages_entry : Stmt := (inClass (top 20) 3)
abbrev N_Pages_entry : List Str := ["self", "environment", "page"]
abbrev s_Pages__fall : Stmt := (inClass (top 20) 6)
abbrev N_Pages__fall : List Str := ["self", "environment", "frame", "rights", "page", "entry"]
abbrev s_Pages_narrowed : Stmt := (inClass (top 20) 8)
abbrev N_Pages_narrowed : List Str := ["self", "environment", "frame"]
abbrev s__law_narrow : Stmt := (top 24)
abbrev N__law_narrow : List Str := ["_law_frames", "_law_pages", "_law_entries", "_law_environment", "_law_frame", "_law_page"]
abbrev s_Frames__end_holding : Stmt := (inClass (top 16) 12)
abbrev N_Frames__end_holding : List Str := ["self", "environment", "frame", "other"]
abbrev s_Frames_drop : Stmt := (inClass (top 16) 13)
abbrev N_Frames_drop : List Str := ["self", "environment", "frame", "many", "slots"]
abbrev s_Pages_ended : Stmt := (inClass (top 20) 7)
abbrev N_Pages_ended : List Str := ["self", "environment", "frame"]
abbrev s__law_drop : Stmt := (top 23)
abbrev N__law_drop : List Str := ["_law_frames", "_law_pages", "_law_entries", "_law_environment", "_law_frame", "_law_page"]
abbrev s__law_book : Stmt := (top 25)
abbrev N__law_book : List Str := ["_law_tape", "_law_frames", "_law_pages", "_law_entries", "_law_words", "_law_environment", "_law_frame", "_law_kind", "_law_taken"]
abbrev s_Pages_map : Stmt := (inClass (top 20) 1)
abbrev N_Pages_map : List Str := ["self", "environment", "page", "frame", "right", "held"]
abbrev s__law_map : Stmt := (top 26)
abbrev N__law_map : List Str := ["_law_tape", "_law_frames", "_law_pages", "_law_entries", "_law_environment", "_law_page", "_law_frame", "_law_right", "_law_held", "_law_due"]
abbrev s_Pages_unmap : Stmt := (inClass (top 20) 2)
abbrev N_Pages_unmap : List Str := ["self", "environment", "page"]
abbrev s_is_word : Stmt := (top 14)
abbrev N_is_word : List Str := ["value"]
abbrev s_Frames_write : Stmt := (inClass (top 16) 16)
abbrev N_Frames_write : List Str := ["self", "frame", "index", "word"]
abbrev s_Pages_store : Stmt := (inClass (top 20) 5)
abbrev N_Pages_store : List Str := ["self", "environment", "page", "index", "word", "entry"]
abbrev s__law_store : Stmt := (top 27)
abbrev N__law_store : List Str := ["_law_tape", "_law_pages", "_law_entries", "_law_words", "_law_environment", "_law_page", "_law_index", "_law_word", "_law_entry", "_law_due"]
abbrev s_Frames_read : Stmt := (inClass (top 16) 15)
abbrev N_Frames_read : List Str := ["self", "frame", "index"]
abbrev s_Pages_load : Stmt := (inClass (top 20) 4)
abbrev N_Pages_load : List Str := ["self", "environment", "page", "index", "entry"]
abbrev s__law_load : Stmt := (top 28)
abbrev N__law_load : List Str := ["_law_tape", "_law_pages", "_law_entries", "_law_words", "_law_environment", "_law_page", "_law_index", "_law_entry", "_law_due"]
abbrev s__law_shown : Stmt := (top 29)
abbrev N__law_shown : List Str := ["_law_frames", "_law_pages", "_law_entries", "_law_environment", "_law_page", "_law_entry"]
abbrev s_law : Stmt := (top 30)
abbrev N_law : List Str := ["_law_script", "_law_tape", "_law_frames", "_law_pages", "_law_entries", "_law_words", "_law_turn", "_law_kind", "_law_good", "_law_environment", "_law_page"]
def nms : List Str := ("many" : Str) :: ("shares" : Str) :: ("holders" : Str) :: ("words" : Str) :: ("order" : Str) :: ("offers" : Str) :: ("wanted" : Str) :: ("lost" : Str) :: ("frames" : Str) :: ("entries" : Str) :: []
def sts : List Str := ("rw" : Str) :: ("r" : Str) :: ("" : Str) :: ("w" : Str) :: []
structure Tx where
  c_Frames : Addr
  c_Pages : Addr
  c_SteadError : Addr
  c_NotValid : Addr
  f_is_number : Addr
  d_is_number : FuncData
  f_Frames___init__ : Addr
  d_Frames___init__ : FuncData
  f_Pages___init__ : Addr
  d_Pages___init__ : FuncData
  f__law_next : Addr
  d__law_next : FuncData
  f_Frames_free : Addr
  d_Frames_free : FuncData
  f_Frames_charge : Addr
  d_Frames_charge : FuncData
  f_Frames_share : Addr
  d_Frames_share : FuncData
  f_Frames_left : Addr
  d_Frames_left : FuncData
  f_Frames_may_hold_more : Addr
  d_Frames_may_hold_more : FuncData
  f_Frames_take : Addr
  d_Frames_take : FuncData
  f_is_environment : Addr
  d_is_environment : FuncData
  f_Frames_is_frame : Addr
  d_Frames_is_frame : FuncData
  f_Frames_right : Addr
  d_Frames_right : FuncData
  f_includes : Addr
  d_includes : FuncData
  f_Frames_offer : Addr
  d_Frames_offer : FuncData
  f_Frames_accept : Addr
  d_Frames_accept : FuncData
  f_Frames_narrow : Addr
  d_Frames_narrow : FuncData
  f_is_page : Addr
  d_is_page : FuncData
  f_Pages_entry : Addr
  d_Pages_entry : FuncData
  f_Pages__fall : Addr
  d_Pages__fall : FuncData
  f_Pages_narrowed : Addr
  d_Pages_narrowed : FuncData
  f__law_narrow : Addr
  d__law_narrow : FuncData
  f_Frames__end_holding : Addr
  d_Frames__end_holding : FuncData
  f_Frames_drop : Addr
  d_Frames_drop : FuncData
  f_Pages_ended : Addr
  d_Pages_ended : FuncData
  f__law_drop : Addr
  d__law_drop : FuncData
  f__law_book : Addr
  d__law_book : FuncData
  f_Pages_map : Addr
  d_Pages_map : FuncData
  f__law_map : Addr
  d__law_map : FuncData
  f_Pages_unmap : Addr
  d_Pages_unmap : FuncData
  f_is_word : Addr
  d_is_word : FuncData
  f_Frames_write : Addr
  d_Frames_write : FuncData
  f_Pages_store : Addr
  d_Pages_store : FuncData
  f__law_store : Addr
  d__law_store : FuncData
  f_Frames_read : Addr
  d_Frames_read : FuncData
  f_Pages_load : Addr
  d_Pages_load : FuncData
  f__law_load : Addr
  d__law_load : FuncData
  f__law_shown : Addr
  d__law_shown : FuncData
  f_law : Addr
  d_law : FuncData
  t_ENVIRONMENTS : Tok
  t_LEAST : Tok
  t_MOST : Tok
  t_PAGES : Tok
  t_TOP : Tok
  t_WORDS : Tok
def Tx.G (T : Tx) (K : PySem.W.Frag) : Cfg := ⟨K, [T.c_Frames, T.c_Pages, T.c_SteadError, T.c_NotValid], nms, sts⟩
structure TxOk (w : World) (K : PySem.W.Frag) (mg : Str → Option Value) (T : Tx) : Prop where
  F_is_number : Fun K "is_number" "is_number" s_is_number T.f_is_number T.d_is_number
  b_is_number : Binds K T.d_is_number ["value"] []
  g_is_number : mg "is_number" = some (.ref T.f_is_number)
  F_Frames___init__ : Fun K "__init__" "Frames.__init__" s_Frames___init__ T.f_Frames___init__ T.d_Frames___init__
  b_Frames___init__ : Binds K T.d_Frames___init__ ["self", "many", "shares"] []
  F_Pages___init__ : Fun K "__init__" "Pages.__init__" s_Pages___init__ T.f_Pages___init__ T.d_Pages___init__
  b_Pages___init__ : Binds K T.d_Pages___init__ ["self", "frames"] []
  F__law_next : Fun K "_law_next" "_law_next" s__law_next T.f__law_next T.d__law_next
  b__law_next : Binds K T.d__law_next ["_law_tape", "_law_many"] []
  g__law_next : mg "_law_next" = some (.ref T.f__law_next)
  F_Frames_free : Fun K "free" "Frames.free" s_Frames_free T.f_Frames_free T.d_Frames_free
  b_Frames_free : Binds K T.d_Frames_free ["self"] []
  M_Frames_free : Meth K T.c_Frames "free" T.f_Frames_free
  F_Frames_charge : Fun K "charge" "Frames.charge" s_Frames_charge T.f_Frames_charge T.d_Frames_charge
  b_Frames_charge : Binds K T.d_Frames_charge ["self", "environment"] []
  M_Frames_charge : Meth K T.c_Frames "charge" T.f_Frames_charge
  F_Frames_share : Fun K "share" "Frames.share" s_Frames_share T.f_Frames_share T.d_Frames_share
  b_Frames_share : Binds K T.d_Frames_share ["self", "environment"] []
  M_Frames_share : Meth K T.c_Frames "share" T.f_Frames_share
  F_Frames_left : Fun K "left" "Frames.left" s_Frames_left T.f_Frames_left T.d_Frames_left
  b_Frames_left : Binds K T.d_Frames_left ["self"] []
  M_Frames_left : Meth K T.c_Frames "left" T.f_Frames_left
  F_Frames_may_hold_more : Fun K "may_hold_more" "Frames.may_hold_more" s_Frames_may_hold_more T.f_Frames_may_hold_more T.d_Frames_may_hold_more
  b_Frames_may_hold_more : Binds K T.d_Frames_may_hold_more ["self", "environment"] []
  M_Frames_may_hold_more : Meth K T.c_Frames "may_hold_more" T.f_Frames_may_hold_more
  F_Frames_take : Fun K "take" "Frames.take" s_Frames_take T.f_Frames_take T.d_Frames_take
  b_Frames_take : Binds K T.d_Frames_take ["self", "environment"] []
  M_Frames_take : Meth K T.c_Frames "take" T.f_Frames_take
  F_is_environment : Fun K "is_environment" "is_environment" s_is_environment T.f_is_environment T.d_is_environment
  b_is_environment : Binds K T.d_is_environment ["value"] []
  g_is_environment : mg "is_environment" = some (.ref T.f_is_environment)
  F_Frames_is_frame : Fun K "is_frame" "Frames.is_frame" s_Frames_is_frame T.f_Frames_is_frame T.d_Frames_is_frame
  b_Frames_is_frame : Binds K T.d_Frames_is_frame ["self", "frame"] []
  M_Frames_is_frame : Meth K T.c_Frames "is_frame" T.f_Frames_is_frame
  F_Frames_right : Fun K "right" "Frames.right" s_Frames_right T.f_Frames_right T.d_Frames_right
  b_Frames_right : Binds K T.d_Frames_right ["self", "environment", "frame"] []
  M_Frames_right : Meth K T.c_Frames "right" T.f_Frames_right
  F_includes : Fun K "includes" "includes" s_includes T.f_includes T.d_includes
  b_includes : Binds K T.d_includes ["right", "wanted"] []
  g_includes : mg "includes" = some (.ref T.f_includes)
  F_Frames_offer : Fun K "offer" "Frames.offer" s_Frames_offer T.f_Frames_offer T.d_Frames_offer
  b_Frames_offer : Binds K T.d_Frames_offer ["self", "environment", "frame", "other", "right"] []
  M_Frames_offer : Meth K T.c_Frames "offer" T.f_Frames_offer
  F_Frames_accept : Fun K "accept" "Frames.accept" s_Frames_accept T.f_Frames_accept T.d_Frames_accept
  b_Frames_accept : Binds K T.d_Frames_accept ["self", "environment", "frame", "owner"] []
  M_Frames_accept : Meth K T.c_Frames "accept" T.f_Frames_accept
  F_Frames_narrow : Fun K "narrow" "Frames.narrow" s_Frames_narrow T.f_Frames_narrow T.d_Frames_narrow
  b_Frames_narrow : Binds K T.d_Frames_narrow ["self", "environment", "frame"] []
  M_Frames_narrow : Meth K T.c_Frames "narrow" T.f_Frames_narrow
  F_is_page : Fun K "is_page" "is_page" s_is_page T.f_is_page T.d_is_page
  b_is_page : Binds K T.d_is_page ["value"] []
  g_is_page : mg "is_page" = some (.ref T.f_is_page)
  F_Pages_entry : Fun K "entry" "Pages.entry" s_Pages_entry T.f_Pages_entry T.d_Pages_entry
  b_Pages_entry : Binds K T.d_Pages_entry ["self", "environment", "page"] []
  M_Pages_entry : Meth K T.c_Pages "entry" T.f_Pages_entry
  F_Pages__fall : Fun K "_fall" "Pages._fall" s_Pages__fall T.f_Pages__fall T.d_Pages__fall
  b_Pages__fall : Binds K T.d_Pages__fall ["self", "environment", "frame", "rights"] []
  M_Pages__fall : Meth K T.c_Pages "_fall" T.f_Pages__fall
  F_Pages_narrowed : Fun K "narrowed" "Pages.narrowed" s_Pages_narrowed T.f_Pages_narrowed T.d_Pages_narrowed
  b_Pages_narrowed : Binds K T.d_Pages_narrowed ["self", "environment", "frame"] []
  M_Pages_narrowed : Meth K T.c_Pages "narrowed" T.f_Pages_narrowed
  F__law_narrow : Fun K "_law_narrow" "_law_narrow" s__law_narrow T.f__law_narrow T.d__law_narrow
  b__law_narrow : Binds K T.d__law_narrow ["_law_frames", "_law_pages", "_law_entries", "_law_environment", "_law_frame"] []
  g__law_narrow : mg "_law_narrow" = some (.ref T.f__law_narrow)
  F_Frames__end_holding : Fun K "_end_holding" "Frames._end_holding" s_Frames__end_holding T.f_Frames__end_holding T.d_Frames__end_holding
  b_Frames__end_holding : Binds K T.d_Frames__end_holding ["self", "environment", "frame"] []
  M_Frames__end_holding : Meth K T.c_Frames "_end_holding" T.f_Frames__end_holding
  F_Frames_drop : Fun K "drop" "Frames.drop" s_Frames_drop T.f_Frames_drop T.d_Frames_drop
  b_Frames_drop : Binds K T.d_Frames_drop ["self", "environment", "frame"] []
  M_Frames_drop : Meth K T.c_Frames "drop" T.f_Frames_drop
  F_Pages_ended : Fun K "ended" "Pages.ended" s_Pages_ended T.f_Pages_ended T.d_Pages_ended
  b_Pages_ended : Binds K T.d_Pages_ended ["self", "environment", "frame"] []
  M_Pages_ended : Meth K T.c_Pages "ended" T.f_Pages_ended
  F__law_drop : Fun K "_law_drop" "_law_drop" s__law_drop T.f__law_drop T.d__law_drop
  b__law_drop : Binds K T.d__law_drop ["_law_frames", "_law_pages", "_law_entries", "_law_environment", "_law_frame"] []
  g__law_drop : mg "_law_drop" = some (.ref T.f__law_drop)
  F__law_book : Fun K "_law_book" "_law_book" s__law_book T.f__law_book T.d__law_book
  b__law_book : Binds K T.d__law_book ["_law_tape", "_law_frames", "_law_pages", "_law_entries", "_law_words"] []
  g__law_book : mg "_law_book" = some (.ref T.f__law_book)
  F_Pages_map : Fun K "map" "Pages.map" s_Pages_map T.f_Pages_map T.d_Pages_map
  b_Pages_map : Binds K T.d_Pages_map ["self", "environment", "page", "frame", "right"] []
  M_Pages_map : Meth K T.c_Pages "map" T.f_Pages_map
  F__law_map : Fun K "_law_map" "_law_map" s__law_map T.f__law_map T.d__law_map
  b__law_map : Binds K T.d__law_map ["_law_tape", "_law_frames", "_law_pages", "_law_entries"] []
  g__law_map : mg "_law_map" = some (.ref T.f__law_map)
  F_Pages_unmap : Fun K "unmap" "Pages.unmap" s_Pages_unmap T.f_Pages_unmap T.d_Pages_unmap
  b_Pages_unmap : Binds K T.d_Pages_unmap ["self", "environment", "page"] []
  M_Pages_unmap : Meth K T.c_Pages "unmap" T.f_Pages_unmap
  F_is_word : Fun K "is_word" "is_word" s_is_word T.f_is_word T.d_is_word
  b_is_word : Binds K T.d_is_word ["value"] []
  g_is_word : mg "is_word" = some (.ref T.f_is_word)
  F_Frames_write : Fun K "write" "Frames.write" s_Frames_write T.f_Frames_write T.d_Frames_write
  b_Frames_write : Binds K T.d_Frames_write ["self", "frame", "index", "word"] []
  M_Frames_write : Meth K T.c_Frames "write" T.f_Frames_write
  F_Pages_store : Fun K "store" "Pages.store" s_Pages_store T.f_Pages_store T.d_Pages_store
  b_Pages_store : Binds K T.d_Pages_store ["self", "environment", "page", "index", "word"] []
  M_Pages_store : Meth K T.c_Pages "store" T.f_Pages_store
  F__law_store : Fun K "_law_store" "_law_store" s__law_store T.f__law_store T.d__law_store
  b__law_store : Binds K T.d__law_store ["_law_tape", "_law_pages", "_law_entries", "_law_words"] []
  g__law_store : mg "_law_store" = some (.ref T.f__law_store)
  F_Frames_read : Fun K "read" "Frames.read" s_Frames_read T.f_Frames_read T.d_Frames_read
  b_Frames_read : Binds K T.d_Frames_read ["self", "frame", "index"] []
  M_Frames_read : Meth K T.c_Frames "read" T.f_Frames_read
  F_Pages_load : Fun K "load" "Pages.load" s_Pages_load T.f_Pages_load T.d_Pages_load
  b_Pages_load : Binds K T.d_Pages_load ["self", "environment", "page", "index"] []
  M_Pages_load : Meth K T.c_Pages "load" T.f_Pages_load
  F__law_load : Fun K "_law_load" "_law_load" s__law_load T.f__law_load T.d__law_load
  b__law_load : Binds K T.d__law_load ["_law_tape", "_law_pages", "_law_entries", "_law_words"] []
  g__law_load : mg "_law_load" = some (.ref T.f__law_load)
  F__law_shown : Fun K "_law_shown" "_law_shown" s__law_shown T.f__law_shown T.d__law_shown
  b__law_shown : Binds K T.d__law_shown ["_law_frames", "_law_pages", "_law_entries"] []
  g__law_shown : mg "_law_shown" = some (.ref T.f__law_shown)
  F_law : Fun K "law" "law" s_law T.f_law T.d_law
  b_law : Binds K T.d_law ["_law_script"] []
  g_law : mg "law" = some (.ref T.f_law)
  cl_Frames : Cls K T.c_Frames
  gc_Frames : mg "Frames" = some (.ref T.c_Frames)
  mk_Frames : Mk K T.c_Frames T.f_Frames___init__
  cl_Pages : Cls K T.c_Pages
  gc_Pages : mg "Pages" = some (.ref T.c_Pages)
  mk_Pages : Mk K T.c_Pages T.f_Pages___init__
  na_Frames_holders : NoAttr K T.c_Frames "holders"
  na_Frames_lost : NoAttr K T.c_Frames "lost"
  na_Frames_many : NoAttr K T.c_Frames "many"
  na_Frames_offers : NoAttr K T.c_Frames "offers"
  na_Frames_order : NoAttr K T.c_Frames "order"
  na_Frames_shares : NoAttr K T.c_Frames "shares"
  na_Frames_wanted : NoAttr K T.c_Frames "wanted"
  na_Frames_words : NoAttr K T.c_Frames "words"
  na_Pages_entries : NoAttr K T.c_Pages "entries"
  na_Pages_frames : NoAttr K T.c_Pages "frames"
  n_abs : mg "abs" = none
  n_all : mg "all" = none
  n_bool : mg "bool" = none
  n_int : mg "int" = none
  n_isinstance : mg "isinstance" = none
  n_len : mg "len" = none
  n_list : mg "list" = none
  n_max : mg "max" = none
  n_range : mg "range" = none
  n_sum : mg "sum" = none
  k_ENVIRONMENTS : mg "ENVIRONMENTS" = some (.int 4 T.t_ENVIRONMENTS)
  k_LEAST : mg "LEAST" = some (.int 8 T.t_LEAST)
  k_MOST : mg "MOST" = some (.int 64 T.t_MOST)
  k_PAGES : mg "PAGES" = some (.int 32 T.t_PAGES)
  k_RIGHTS : KT K mg sts "RIGHTS" c_RIGHTS
  k_TOP : mg "TOP" = some (.int 4294967295 T.t_TOP)
  k_WORDS : mg "WORDS" = some (.int 8 T.t_WORDS)
  gc_NotValid : mg "NotValid" = some (.ref T.c_NotValid)
  x_NotValid : PySem.W.excIn K T.c_NotValid [.type "ValueError", .type "Exception", .type "BaseException", .type "object"] "ValueError.__new__" = true
  kp_NotValid : PySem.W.keepIn K (.ref T.c_NotValid) = true
  bs_NotValid : PySem.W.subIn K (.ref T.c_NotValid) (.type "BaseException") = some true
  ty_NotValid : PySem.W.typeIn K (.ref T.c_NotValid) = some (.type "type")
  ex_NotValid : PySem.W.exmOne K (.ref T.c_NotValid) (.ref T.c_NotValid) = some true
section
variable {P : Program} {w : World} {K : PySem.W.Frag} {mg : Str → Option Value} {base : PySem.Heap} {T : Tx}
theorem gok : (T.G K).Ok := ⟨(by decide +kernel : nms.Nodup), (by decide +kernel : sts.Nodup), (by decide +kernel : ∀ x ∈ sts, PySem.PyData.strOk x = true)⟩
theorem sc_is_number : FnScope N_is_number ["value"] (defScope s_is_number) := ⟨rfl, rfl, rfl, by decide +kernel, rfl, by decide +kernel, by decide +kernel⟩
theorem ok_is_number (O : TxOk w K mg T) : FnM (T.G K) P w mg base 1 T.f_is_number T.d_is_number ["value"] m_is_number := by
  refine fn_m O.F_is_number sc_is_number rfl rfl (fun cdv A outer s H E C tk => ?_)
  exact ⟨_, mss_one (ms_ret (me_andV (me_isi C .int (by decide) O.n_isinstance O.n_int bt_ty_int (me_var 0)) (me_one (me_notV (me_isi C .bool (by decide) O.n_isinstance O.n_bool bt_ty_bool (me_var 0))))))⟩
theorem sc_Frames___init__ : FnScope N_Frames___init__ ["self", "many", "shares"] (defScope s_Frames___init__) := ⟨rfl, rfl, rfl, by decide +kernel, rfl, by decide +kernel, by decide +kernel⟩
theorem ok_Frames___init__ (O : TxOk w K mg T) : FnM (T.G K) P w mg base 2 T.f_Frames___init__ T.d_Frames___init__ ["self", "many", "shares"] m_Frames___init__ := by
  refine fn_m O.F_Frames___init__ sc_Frames___init__ rfl rfl (fun cdv A outer s H E C tk => ?_)
  exact ⟨_, mss_cons (ms_if ((mw_or (mt_not (mt_tr C (me_call C (ok_is_number O) df_nil (by decide) O.g_is_number O.F_is_number.kp O.b_is_number (ma_cons (me_var 1) (ma_nil))))) (mw_or1 (mt_not (mt_chLeLe (me_glob 8 O.k_LEAST) (me_var 1) (me_glob 64 O.k_MOST))))).mt) (mss_one (ms_raise 3 C tk rfl (pmk_own0 PySem.F.excBase_ValueError O.x_NotValid O.gc_NotValid O.kp_NotValid (raises_own O.bs_NotValid O.ty_NotValid) rfl))) (mss_nil))
    (mss_cons (ms_if ((mw_or (mt_not (mt_tr C (me_isi C .lst (by decide) O.n_isinstance O.n_list bt_ty_lst (me_var 2)))) (mw_or1 (mt_cmp (mc_ne gok C (me_blt (cl_len C) rl_len O.n_len bt_len (ma_cons (me_var 2) (ma_nil))) (me_glob 4 O.k_ENVIRONMENTS))))).mt) (mss_one (ms_raise 3 C tk rfl (pmk_own0 PySem.F.excBase_ValueError O.x_NotValid O.gc_NotValid O.kp_NotValid (raises_own O.bs_NotValid O.ty_NotValid) rfl))) (mss_nil))
    (mss_cons (ms_if ((mw_or (mt_not (mt_tr C (me_blt (cl_all C) rl_all O.n_all bt_all (ma_cons (me_lc [("share", 3)] C (mi_alt (mi_lst C (me_var 2)) (mi_tup C (me_var 2))) (blkOk_by (N := N_Frames___init__) (sc := defScope s_Frames___init__) (by decide +kernel)) (fun _ _ _ _ _ C => mg_name 3 C.nd) (fun _ _ _ _ _ C => mts_nil) (fun _ _ _ _ _ C => me_andV (me_call C (ok_is_number O) df_nil (by decide) O.g_is_number O.F_is_number.kp O.b_is_number (ma_cons (me_var 3) (ma_nil))) (me_one (me_cmp (mc_ge (me_var 3) (me_int))))) (tgw_name (by decide))) (ma_nil))))) (mw_or1 (mt_cmp (mc_gt (me_blt (cl_sum C) rl_sum O.n_sum bt_sum (ma_cons (me_var 2) (ma_nil))) (me_var 1))))).mt) (mss_one (ms_raise 3 C tk rfl (pmk_own0 PySem.F.excBase_ValueError O.x_NotValid O.gc_NotValid O.kp_NotValid (raises_own O.bs_NotValid O.ty_NotValid) rfl))) (mss_nil))
    (mss_cons (ms_fld gok C 0 0 rfl rfl O.na_Frames_many (me_var 0) (me_var 1))
    (mss_cons (ms_fld gok C 0 1 rfl rfl O.na_Frames_shares (me_var 0) (me_bty (cl_list C) rl_list O.n_list bt_list (ma_cons (me_var 2) (ma_nil))))
    (mss_cons (ms_fld gok C 0 2 rfl rfl O.na_Frames_holders (me_var 0) (me_lc [("_", 4)] C (mi_rng1 O.n_range (ma_cons (me_var 1) (ma_nil))) (blkOk_by (N := N_Frames___init__) (sc := defScope s_Frames___init__) (by decide +kernel)) (fun _ _ _ _ _ C => mg_name 4 C.nd) (fun _ _ _ _ _ C => mts_nil) (fun _ _ _ _ _ C => me_dict) (tgw_name (by decide))))
    (mss_cons (ms_fld gok C 0 3 rfl rfl O.na_Frames_words (me_var 0) (me_lc [("_", 4)] C (mi_rng1 O.n_range (ma_cons (me_var 1) (ma_nil))) (blkOk_by (N := N_Frames___init__) (sc := defScope s_Frames___init__) (by decide +kernel)) (fun _ _ _ _ _ C => mg_name 4 C.nd) (fun _ _ _ _ _ C => mts_nil) (fun _ _ _ _ _ C => me_mul C (me_lst (ma_cons (me_int) (ma_nil))) (me_glob 8 O.k_WORDS)) (tgw_name (by decide))))
    (mss_cons (ms_fld gok C 0 4 rfl rfl O.na_Frames_order (me_var 0) (me_lc [("_", 4)] C (mi_rng1 O.n_range (ma_cons (me_glob 4 O.k_ENVIRONMENTS) (ma_nil))) (blkOk_by (N := N_Frames___init__) (sc := defScope s_Frames___init__) (by decide +kernel)) (fun _ _ _ _ _ C => mg_name 4 C.nd) (fun _ _ _ _ _ C => mts_nil) (fun _ _ _ _ _ C => me_lst (ma_nil)) (tgw_name (by decide))))
    (mss_cons (ms_fld gok C 0 5 rfl rfl O.na_Frames_offers (me_var 0) (me_dictT))
    (mss_cons (ms_fld gok C 0 6 rfl rfl O.na_Frames_wanted (me_var 0) (me_lc [("_", 4)] C (mi_rng1 O.n_range (ma_cons (me_glob 4 O.k_ENVIRONMENTS) (ma_nil))) (blkOk_by (N := N_Frames___init__) (sc := defScope s_Frames___init__) (by decide +kernel)) (fun _ _ _ _ _ C => mg_name 4 C.nd) (fun _ _ _ _ _ C => mts_nil) (fun _ _ _ _ _ C => me_non) (tgw_name (by decide))))
    (mss_one (ms_fld gok C 0 7 rfl rfl O.na_Frames_lost (me_var 0) (me_lc [("_", 4)] C (mi_rng1 O.n_range (ma_cons (me_glob 4 O.k_ENVIRONMENTS) (ma_nil))) (blkOk_by (N := N_Frames___init__) (sc := defScope s_Frames___init__) (by decide +kernel)) (fun _ _ _ _ _ C => mg_name 4 C.nd) (fun _ _ _ _ _ C => mts_nil) (fun _ _ _ _ _ C => me_lst (ma_nil)) (tgw_name (by decide))))))))))))))⟩
theorem sc_Pages___init__ : FnScope N_Pages___init__ ["self", "frames"] (defScope s_Pages___init__) := ⟨rfl, rfl, rfl, by decide +kernel, rfl, by decide +kernel, by decide +kernel⟩
theorem ok_Pages___init__ (O : TxOk w K mg T) : FnM (T.G K) P w mg base 1 T.f_Pages___init__ T.d_Pages___init__ ["self", "frames"] m_Pages___init__ := by
  refine fn_m O.F_Pages___init__ sc_Pages___init__ rfl rfl (fun cdv A outer s H E C tk => ?_)
  exact ⟨_, mss_cons (ms_fld gok C 1 8 rfl rfl O.na_Pages_frames (me_var 0) (me_var 1))
    (mss_one (ms_fld gok C 1 9 rfl rfl O.na_Pages_entries (me_var 0) (me_lc [("_", 2)] C (mi_rng1 O.n_range (ma_cons (me_glob 4 O.k_ENVIRONMENTS) (ma_nil))) (blkOk_by (N := N_Pages___init__) (sc := defScope s_Pages___init__) (by decide +kernel)) (fun _ _ _ _ _ C => mg_name 2 C.nd) (fun _ _ _ _ _ C => mts_nil) (fun _ _ _ _ _ C => me_dict) (tgw_name (by decide)))))⟩
theorem sc__law_next : FnScope N__law_next ["_law_tape", "_law_many"] (defScope s__law_next) := ⟨rfl, rfl, rfl, by decide +kernel, rfl, by decide +kernel, by decide +kernel⟩
theorem ok__law_next (O : TxOk w K mg T) : FnM (T.G K) P w mg base 1 T.f__law_next T.d__law_next ["_law_tape", "_law_many"] m__law_next := by
  refine fn_m O.F__law_next sc__law_next rfl rfl (fun cdv A outer s H E C tk => ?_)
  exact ⟨_, mss_cons (ms_asg (me_ix gok C (me_var 0) (me_int)) (mg_name 2 C.nd))
    (mss_cons (ms_if (mt_cmp (mc_gt (me_var 2) (me_int))) (mss_cons (ms_sub gok C (me_var 0) (me_int) (me_fdiv (me_var 2) (me_var 1)))
    (mss_one (ms_ret (me_mod (me_bty call_int1 rl_int O.n_int bt_int (ma_cons (me_var 2) (ma_nil))) (me_var 1))))) (mss_nil))
    (mss_cons (ms_asg (me_int) (mg_name 3 C.nd))
    (mss_cons (ms_if (mt_cmp (mc_lt (me_ix gok C (me_var 0) (me_int)) (me_blt (cl_len C) rl_len O.n_len bt_len (ma_cons (me_ix gok C (me_var 0) (me_int)) (ma_nil))))) (mss_cons (ms_asg (me_blt call_abs rl_abs O.n_abs bt_abs (ma_cons (me_ix gok C (me_ix gok C (me_var 0) (me_int)) (me_ix gok C (me_var 0) (me_int))) (ma_nil))) (mg_name 3 C.nd))
    (mss_one (ms_subA gok C ia_add (rf_I0 (g := fun i j => i + j)) (me_var 0) (me_int) (me_int)))) (mss_nil))
    (mss_cons (ms_if (mt_cmp (mc_ge (me_var 3) (me_pow (me_int) (me_int)))) (mss_cons (ms_sub gok C (me_var 0) (me_int) (me_fdiv (me_var 3) (me_var 1)))
    (mss_one (ms_ret (me_mod (me_bty call_int1 rl_int O.n_int bt_int (ma_cons (me_var 3) (ma_nil))) (me_var 1))))) (mss_nil))
    (mss_cons (ms_sub gok C (me_var 0) (me_int) (me_mod (me_bty call_int1 rl_int O.n_int bt_int (ma_cons (me_add C (me_add C (me_mul C (me_ix gok C (me_var 0) (me_int)) (me_int)) (me_mul C (me_var 3) (me_int))) (me_int)) (ma_nil))) (me_int)))
    (mss_one (ms_ret (me_mod (me_bty call_int1 rl_int O.n_int bt_int (ma_cons (me_fdiv (me_mod (me_mul C (me_ix gok C (me_var 0) (me_int)) (me_int)) (me_int)) (me_int)) (ma_nil))) (me_var 1)))))))))⟩
theorem sc_Frames_free : FnScope N_Frames_free ["self"] (defScope s_Frames_free) := ⟨rfl, rfl, rfl, by decide +kernel, rfl, by decide +kernel, by decide +kernel⟩
theorem ok_Frames_free (O : TxOk w K mg T) : FnM (T.G K) P w mg base 1 T.f_Frames_free T.d_Frames_free ["self"] m_Frames_free := by
  refine fn_m O.F_Frames_free sc_Frames_free rfl rfl (fun cdv A outer s H E C tk => ?_)
  exact ⟨_, mss_one (ms_ret (me_lc [("frame", 1)] C (mi_rng1 O.n_range (ma_cons (me_fld gok C 0 rfl (me_var 0)) (ma_nil))) (blkOk_by (N := N_Frames_free) (sc := defScope s_Frames_free) (by decide +kernel)) (fun _ _ _ _ _ C => mg_name 1 C.nd) (fun _ _ _ _ _ C => mts_one (mt_not (mt_tr C (me_ix gok C (me_fld gok C 2 rfl (me_var 0)) (me_var 1))))) (fun _ _ _ _ _ C => me_var 1) (tgw_name (by decide))))⟩
theorem sc_Frames_charge : FnScope N_Frames_charge ["self", "environment"] (defScope s_Frames_charge) := ⟨rfl, rfl, rfl, by decide +kernel, rfl, by decide +kernel, by decide +kernel⟩
theorem ok_Frames_charge (O : TxOk w K mg T) : FnM (T.G K) P w mg base 1 T.f_Frames_charge T.d_Frames_charge ["self", "environment"] m_Frames_charge := by
  refine fn_m O.F_Frames_charge sc_Frames_charge rfl rfl (fun cdv A outer s H E C tk => ?_)
  exact ⟨_, mss_one (ms_ret (me_blt (cl_len C) rl_len O.n_len bt_len (ma_cons (me_ix gok C (me_fld gok C 4 rfl (me_var 0)) (me_var 1)) (ma_nil))))⟩
theorem sc_Frames_share : FnScope N_Frames_share ["self", "environment"] (defScope s_Frames_share) := ⟨rfl, rfl, rfl, by decide +kernel, rfl, by decide +kernel, by decide +kernel⟩
theorem ok_Frames_share (O : TxOk w K mg T) : FnM (T.G K) P w mg base 1 T.f_Frames_share T.d_Frames_share ["self", "environment"] m_Frames_share := by
  refine fn_m O.F_Frames_share sc_Frames_share rfl rfl (fun cdv A outer s H E C tk => ?_)
  exact ⟨_, mss_one (ms_ret (me_ix gok C (me_fld gok C 1 rfl (me_var 0)) (me_var 1)))⟩
theorem sc_Frames_left : FnScope N_Frames_left ["self"] (defScope s_Frames_left) := ⟨rfl, rfl, rfl, by decide +kernel, rfl, by decide +kernel, by decide +kernel⟩
theorem ok_Frames_left (O : TxOk w K mg T) : FnM (T.G K) P w mg base 1 T.f_Frames_left T.d_Frames_left ["self"] m_Frames_left := by
  refine fn_m O.F_Frames_left sc_Frames_left rfl rfl (fun cdv A outer s H E C tk => ?_)
  exact ⟨_, mss_one (ms_ret (me_sub (me_fld gok C 0 rfl (me_var 0)) (me_blt (cl_sum C) rl_sum O.n_sum bt_sum (ma_cons (me_lc [("held", 1)] C (mi_alt (mi_lst C (me_fld gok C 4 rfl (me_var 0))) (mi_tup C (me_fld gok C 4 rfl (me_var 0)))) (blkOk_by (N := N_Frames_left) (sc := defScope s_Frames_left) (by decide +kernel)) (fun _ _ _ _ _ C => mg_name 1 C.nd) (fun _ _ _ _ _ C => mts_nil) (fun _ _ _ _ _ C => me_blt (cl_len C) rl_len O.n_len bt_len (ma_cons (me_var 1) (ma_nil))) (tgw_name (by decide))) (ma_nil)))))⟩
theorem sc_Frames_may_hold_more : FnScope N_Frames_may_hold_more ["self", "environment"] (defScope s_Frames_may_hold_more) := ⟨rfl, rfl, rfl, by decide +kernel, rfl, by decide +kernel, by decide +kernel⟩
theorem ok_Frames_may_hold_more (O : TxOk w K mg T) : FnM (T.G K) P w mg base 2 T.f_Frames_may_hold_more T.d_Frames_may_hold_more ["self", "environment"] m_Frames_may_hold_more := by
  refine fn_m O.F_Frames_may_hold_more sc_Frames_may_hold_more rfl rfl (fun cdv A outer s H E C tk => ?_)
  exact ⟨_, mss_cons (ms_if (mt_cmp (mc_lt (me_meth C (ok_Frames_charge O) 0 rfl O.cl_Frames O.M_Frames_charge df_nil (by decide) O.b_Frames_charge (me_var 0) (ma_cons (me_var 1) (ma_nil))) (me_meth C (ok_Frames_share O) 0 rfl O.cl_Frames O.M_Frames_share df_nil (by decide) O.b_Frames_share (me_var 0) (ma_cons (me_var 1) (ma_nil))))) (mss_one (ms_ret (me_bl))) (mss_nil))
    (mss_cons (ms_setLc 2 [("one", 3)] C (mi_rng1 O.n_range (ma_cons (me_glob 4 O.k_ENVIRONMENTS) (ma_nil))) (blkOk_by (N := N_Frames_may_hold_more) (sc := defScope s_Frames_may_hold_more) (by decide +kernel)) (fun _ _ _ _ _ C => mg_name 3 C.nd) (fun _ _ _ _ _ C => mts_nil) (fun _ _ _ _ _ C => me_blt (call_max2 rfl) rl_max2 O.n_max bt_max (ma_cons (me_int) (ma_cons (me_sub (me_ix gok C (me_fld gok C 1 rfl (me_var 0)) (me_var 3)) (me_meth C (ok_Frames_charge O) 0 rfl O.cl_Frames O.M_Frames_charge df_nil (by decide) O.b_Frames_charge (me_var 0) (ma_cons (me_var 3) (ma_nil)))) (ma_nil)))) (tgw_name (by decide)) (sw_true rfl rfl rfl (by decide +kernel)))
    (mss_one (ms_ret (me_cmp (mc_gt (me_meth0 C (ok_Frames_left O) 0 rfl O.cl_Frames O.M_Frames_left df_nil (by decide) O.b_Frames_left (me_var 0)) (me_blt (cl_sum C) rl_sum O.n_sum bt_sum (ma_cons (me_var 2) (ma_nil))))))))⟩
theorem sc_Frames_take : FnScope N_Frames_take ["self", "environment"] (defScope s_Frames_take) := ⟨rfl, rfl, rfl, by decide +kernel, rfl, by decide +kernel, by decide +kernel⟩
theorem ok_Frames_take (O : TxOk w K mg T) : FnM (T.G K) P w mg base 3 T.f_Frames_take T.d_Frames_take ["self", "environment"] m_Frames_take := by
  refine fn_m O.F_Frames_take sc_Frames_take rfl rfl (fun cdv A outer s H E C tk => ?_)
  exact ⟨_, mss_cons (ms_asg (me_meth0 C (ok_Frames_free O) 0 rfl O.cl_Frames O.M_Frames_free df_nil (by decide) O.b_Frames_free (me_var 0)) (mg_name 2 C.nd))
    (mss_cons (ms_if ((mw_or (mt_not (mt_tr C (me_var 2))) (mw_or1 (mt_not (mt_tr C (me_meth C (ok_Frames_may_hold_more O) 0 rfl O.cl_Frames O.M_Frames_may_hold_more df_nil (by decide) O.b_Frames_may_hold_more (me_var 0) (ma_cons (me_var 1) (ma_nil))))))).mt) (mss_one (ms_ret (me_non))) (mss_nil))
    (mss_cons (ms_asg (me_ix gok C (me_var 2) (me_int)) (mg_name 3 C.nd))
    (mss_cons (ms_sub gok C (me_fld gok C 3 rfl (me_var 0)) (me_var 3) (me_mul C (me_lst (ma_cons (me_int) (ma_nil))) (me_glob 8 O.k_WORDS)))
    (mss_cons (ms_sub gok C (me_ix gok C (me_fld gok C 2 rfl (me_var 0)) (me_var 3)) (me_var 1) (me_str 0 rfl))
    (mss_cons (ms_expr (me_bm C PySem.F.slot_list_append PySem.F.type_list_append mt_append rm_append (me_ix gok C (me_fld gok C 4 rfl (me_var 0)) (me_var 1)) (ma_cons (me_var 3) (ma_nil))))
    (mss_one (ms_ret (me_var 3))))))))⟩
theorem sc_is_environment : FnScope N_is_environment ["value"] (defScope s_is_environment) := ⟨rfl, rfl, rfl, by decide +kernel, rfl, by decide +kernel, by decide +kernel⟩
theorem ok_is_environment (O : TxOk w K mg T) : FnM (T.G K) P w mg base 2 T.f_is_environment T.d_is_environment ["value"] m_is_environment := by
  refine fn_m O.F_is_environment sc_is_environment rfl rfl (fun cdv A outer s H E C tk => ?_)
  exact ⟨_, mss_one (ms_ret (me_andV (me_call C (ok_is_number O) df_nil (by decide) O.g_is_number O.F_is_number.kp O.b_is_number (ma_cons (me_var 0) (ma_nil))) (me_one (me_chLeLt (me_int) (me_var 0) (me_glob 4 O.k_ENVIRONMENTS)))))⟩
theorem sc_Frames_is_frame : FnScope N_Frames_is_frame ["self", "frame"] (defScope s_Frames_is_frame) := ⟨rfl, rfl, rfl, by decide +kernel, rfl, by decide +kernel, by decide +kernel⟩
theorem ok_Frames_is_frame (O : TxOk w K mg T) : FnM (T.G K) P w mg base 2 T.f_Frames_is_frame T.d_Frames_is_frame ["self", "frame"] m_Frames_is_frame := by
  refine fn_m O.F_Frames_is_frame sc_Frames_is_frame rfl rfl (fun cdv A outer s H E C tk => ?_)
  exact ⟨_, mss_one (ms_ret (me_andV (me_call C (ok_is_number O) df_nil (by decide) O.g_is_number O.F_is_number.kp O.b_is_number (ma_cons (me_var 1) (ma_nil))) (me_one (me_chLeLt (me_int) (me_var 1) (me_fld gok C 0 rfl (me_var 0))))))⟩
theorem sc_Frames_right : FnScope N_Frames_right ["self", "environment", "frame"] (defScope s_Frames_right) := ⟨rfl, rfl, rfl, by decide +kernel, rfl, by decide +kernel, by decide +kernel⟩
theorem ok_Frames_right (O : TxOk w K mg T) : FnM (T.G K) P w mg base 3 T.f_Frames_right T.d_Frames_right ["self", "environment", "frame"] m_Frames_right := by
  refine fn_m O.F_Frames_right sc_Frames_right rfl rfl (fun cdv A outer s H E C tk => ?_)
  exact ⟨_, mss_cons (ms_if (mt_not (mt_tr C (me_meth C (ok_Frames_is_frame O) 0 rfl O.cl_Frames O.M_Frames_is_frame df_nil (by decide) O.b_Frames_is_frame (me_var 0) (ma_cons (me_var 2) (ma_nil))))) (mss_one (ms_ret (me_non))) (mss_nil))
    (mss_one (ms_ret (me_get2 gok C (me_ix gok C (me_fld gok C 2 rfl (me_var 0)) (me_var 2)) (me_var 1) (me_non))))⟩
theorem sc_includes : FnScope N_includes ["right", "wanted"] (defScope s_includes) := ⟨rfl, rfl, rfl, by decide +kernel, rfl, by decide +kernel, by decide +kernel⟩
theorem ok_includes (O : TxOk w K mg T) : FnM (T.G K) P w mg base 1 T.f_includes T.d_includes ["right", "wanted"] m_includes := by
  refine fn_m O.F_includes sc_includes rfl rfl (fun cdv A outer s H E C tk => ?_)
  exact ⟨_, mss_one (ms_ret (me_orV (me_cmp (mc_eq gok C (me_var 0) (me_var 1))) (me_one (me_andV (me_cmp (mc_eq gok C (me_var 0) (me_str 0 rfl))) (me_one (me_cmp (mc_eq gok C (me_var 1) (me_str 1 rfl))))))))⟩
theorem sc_Frames_offer : FnScope N_Frames_offer ["self", "environment", "frame", "other", "right"] (defScope s_Frames_offer) := ⟨rfl, rfl, rfl, by decide +kernel, rfl, by decide +kernel, by decide +kernel⟩
theorem ok_Frames_offer (O : TxOk w K mg T) : FnM (T.G K) P w mg base 4 T.f_Frames_offer T.d_Frames_offer ["self", "environment", "frame", "other", "right"] m_Frames_offer := by
  refine fn_m O.F_Frames_offer sc_Frames_offer rfl rfl (fun cdv A outer s H E C tk => ?_)
  exact ⟨_, mss_cons (ms_if ((mw_or (mt_not (mt_tr C (me_call C (ok_is_environment O) df_nil (by decide) O.g_is_environment O.F_is_environment.kp O.b_is_environment (ma_cons (me_var 3) (ma_nil))))) (mw_or (mt_cmp (mc_eq gok C (me_var 3) (me_var 1))) (mw_or1 (mt_cmp (mc_notin gok C (me_var 4) (me_globC C O.k_RIGHTS)))))).mt) (mss_one (ms_ret (me_bl))) (mss_nil))
    (mss_cons (ms_asg (me_meth C (ok_Frames_right O) 0 rfl O.cl_Frames O.M_Frames_right df_nil (by decide) O.b_Frames_right (me_var 0) (ma_cons (me_var 1) (ma_cons (me_var 2) (ma_nil)))) (mg_name 5 C.nd))
    (mss_cons (ms_if ((mw_or (mt_cmp (mc_isN (me_var 5))) (mw_or1 (mt_not (mt_tr C (me_call C (ok_includes O) df_nil (by decide) O.g_includes O.F_includes.kp O.b_includes (ma_cons (me_var 5) (ma_cons (me_var 4) (ma_nil)))))))).mt) (mss_one (ms_ret (me_bl))) (mss_nil))
    (mss_cons (ms_subT gok C (me_fld gok C 5 rfl (me_var 0)) (ma_cons (me_var 1) (ma_cons (me_var 2) (ma_cons (me_var 3) (ma_nil)))) (me_var 4))
    (mss_one (ms_ret (me_bl))))))⟩
theorem sc_Frames_accept : FnScope N_Frames_accept ["self", "environment", "frame", "owner"] (defScope s_Frames_accept) := ⟨rfl, rfl, rfl, by decide +kernel, rfl, by decide +kernel, by decide +kernel⟩
theorem ok_Frames_accept (O : TxOk w K mg T) : FnM (T.G K) P w mg base 4 T.f_Frames_accept T.d_Frames_accept ["self", "environment", "frame", "owner"] m_Frames_accept := by
  refine fn_m O.F_Frames_accept sc_Frames_accept rfl rfl (fun cdv A outer s H E C tk => ?_)
  exact ⟨_, mss_cons (ms_if ((mw_or (mt_not (mt_tr C (me_meth C (ok_Frames_is_frame O) 0 rfl O.cl_Frames O.M_Frames_is_frame df_nil (by decide) O.b_Frames_is_frame (me_var 0) (ma_cons (me_var 2) (ma_nil))))) (mw_or1 (mt_not (mt_tr C (me_call C (ok_is_environment O) df_nil (by decide) O.g_is_environment O.F_is_environment.kp O.b_is_environment (ma_cons (me_var 3) (ma_nil))))))).mt) (mss_one (ms_ret (me_bl))) (mss_nil))
    (mss_cons (ms_asg (me_getT2 gok C (me_fld gok C 5 rfl (me_var 0)) (ma_cons (me_var 3) (ma_cons (me_var 2) (ma_cons (me_var 1) (ma_nil)))) (me_non)) (mg_name 4 C.nd))
    (mss_cons (ms_asg (me_meth C (ok_Frames_right O) 0 rfl O.cl_Frames O.M_Frames_right df_nil (by decide) O.b_Frames_right (me_var 0) (ma_cons (me_var 3) (ma_cons (me_var 2) (ma_nil)))) (mg_name 5 C.nd))
    (mss_cons (ms_if ((mw_or (mt_cmp (mc_isN (me_var 4))) (mw_or (mt_cmp (mc_isN (me_var 5))) (mw_or1 (mt_not (mt_tr C (me_call C (ok_includes O) df_nil (by decide) O.g_includes O.F_includes.kp O.b_includes (ma_cons (me_var 5) (ma_cons (me_var 4) (ma_nil))))))))).mt) (mss_one (ms_ret (me_bl))) (mss_nil))
    (mss_cons (ms_if ((mw_or (mt_cmp (mc_notN (me_meth C (ok_Frames_right O) 0 rfl O.cl_Frames O.M_Frames_right df_nil (by decide) O.b_Frames_right (me_var 0) (ma_cons (me_var 1) (ma_cons (me_var 2) (ma_nil)))))) (mw_or1 (mt_not (mt_tr C (me_meth C (ok_Frames_may_hold_more O) 0 rfl O.cl_Frames O.M_Frames_may_hold_more df_nil (by decide) O.b_Frames_may_hold_more (me_var 0) (ma_cons (me_var 1) (ma_nil))))))).mt) (mss_one (ms_ret (me_bl))) (mss_nil))
    (mss_cons (ms_expr (me_popT1 gok C (me_fld gok C 5 rfl (me_var 0)) (ma_cons (me_var 3) (ma_cons (me_var 2) (ma_cons (me_var 1) (ma_nil))))))
    (mss_cons (ms_sub gok C (me_ix gok C (me_fld gok C 2 rfl (me_var 0)) (me_var 2)) (me_var 1) (me_var 4))
    (mss_cons (ms_expr (me_bm C PySem.F.slot_list_append PySem.F.type_list_append mt_append rm_append (me_ix gok C (me_fld gok C 4 rfl (me_var 0)) (me_var 1)) (ma_cons (me_var 2) (ma_nil))))
    (mss_one (ms_ret (me_bl))))))))))⟩
theorem sc_Frames_narrow : FnScope N_Frames_narrow ["self", "environment", "frame"] (defScope s_Frames_narrow) := ⟨rfl, rfl, rfl, by decide +kernel, rfl, by decide +kernel, by decide +kernel⟩
theorem ok_Frames_narrow (O : TxOk w K mg T) : FnM (T.G K) P w mg base 4 T.f_Frames_narrow T.d_Frames_narrow ["self", "environment", "frame"] m_Frames_narrow := by
  refine fn_m O.F_Frames_narrow sc_Frames_narrow rfl rfl (fun cdv A outer s H E C tk => ?_)
  exact ⟨_, mss_cons (ms_if (mt_cmp (mc_ne gok C (me_meth C (ok_Frames_right O) 0 rfl O.cl_Frames O.M_Frames_right df_nil (by decide) O.b_Frames_right (me_var 0) (ma_cons (me_var 1) (ma_cons (me_var 2) (ma_nil)))) (me_str 0 rfl))) (mss_one (ms_ret (me_bl))) (mss_nil))
    (mss_cons (ms_sub gok C (me_ix gok C (me_fld gok C 2 rfl (me_var 0)) (me_var 2)) (me_var 1) (me_str 1 rfl))
    (mss_one (ms_ret (me_bl))))⟩
theorem sc_is_page : FnScope N_is_page ["value"] (defScope s_is_page) := ⟨rfl, rfl, rfl, by decide +kernel, rfl, by decide +kernel, by decide +kernel⟩
theorem ok_is_page (O : TxOk w K mg T) : FnM (T.G K) P w mg base 2 T.f_is_page T.d_is_page ["value"] m_is_page := by
  refine fn_m O.F_is_page sc_is_page rfl rfl (fun cdv A outer s H E C tk => ?_)
  exact ⟨_, mss_one (ms_ret (me_andV (me_call C (ok_is_number O) df_nil (by decide) O.g_is_number O.F_is_number.kp O.b_is_number (ma_cons (me_var 0) (ma_nil))) (me_one (me_chLeLt (me_int) (me_var 0) (me_glob 32 O.k_PAGES)))))⟩
theorem sc_Pages_entry : FnScope N_Pages_entry ["self", "environment", "page"] (defScope s_Pages_entry) := ⟨rfl, rfl, rfl, by decide +kernel, rfl, by decide +kernel, by decide +kernel⟩
theorem ok_Pages_entry (O : TxOk w K mg T) : FnM (T.G K) P w mg base 3 T.f_Pages_entry T.d_Pages_entry ["self", "environment", "page"] m_Pages_entry := by
  refine fn_m O.F_Pages_entry sc_Pages_entry rfl rfl (fun cdv A outer s H E C tk => ?_)
  exact ⟨_, mss_cons (ms_if (mt_not (mt_tr C (me_call C (ok_is_page O) df_nil (by decide) O.g_is_page O.F_is_page.kp O.b_is_page (ma_cons (me_var 2) (ma_nil))))) (mss_one (ms_ret (me_non))) (mss_nil))
    (mss_one (ms_ret (me_get2 gok C (me_ix gok C (me_fld gok C 9 rfl (me_var 0)) (me_var 1)) (me_var 2) (me_non))))⟩
theorem sc_Pages__fall : FnScope N_Pages__fall ["self", "environment", "frame", "rights"] (defScope s_Pages__fall) := ⟨rfl, rfl, rfl, by decide +kernel, rfl, by decide +kernel, by decide +kernel⟩
theorem ok_Pages__fall (O : TxOk w K mg T) : FnM (T.G K) P w mg base 4 T.f_Pages__fall T.d_Pages__fall ["self", "environment", "frame", "rights"] m_Pages__fall := by
  refine fn_m O.F_Pages__fall sc_Pages__fall rfl rfl (fun cdv A outer s H E C tk => ?_)
  exact ⟨_, mss_one (ms_for C (mi_rng1 O.n_range (ma_cons (me_glob 32 O.k_PAGES) (ma_nil))) (mg_name 4 C.nd) (mss_cons (ms_asg (me_meth C (ok_Pages_entry O) 1 rfl O.cl_Pages O.M_Pages_entry df_nil (by decide) O.b_Pages_entry (me_var 0) (ma_cons (me_var 1) (ma_cons (me_var 4) (ma_nil)))) (mg_name 5 C.nd))
    (mss_one (ms_if ((mw_and (mt_cmp (mc_notN (me_var 5))) (mw_and (mt_cmp (mc_eq gok C (me_ix gok C (me_var 5) (me_int)) (me_var 2))) (mw_and1 (mt_cmp (mc_in gok C (me_ix gok C (me_var 5) (me_int)) (me_var 3)))))).mt) (mss_one (ms_expr (me_pop1 gok (me_ix gok C (me_fld gok C 9 rfl (me_var 0)) (me_var 1)) (me_var 4)))) (mss_nil)))))⟩
theorem sc_Pages_narrowed : FnScope N_Pages_narrowed ["self", "environment", "frame"] (defScope s_Pages_narrowed) := ⟨rfl, rfl, rfl, by decide +kernel, rfl, by decide +kernel, by decide +kernel⟩
theorem ok_Pages_narrowed (O : TxOk w K mg T) : FnM (T.G K) P w mg base 5 T.f_Pages_narrowed T.d_Pages_narrowed ["self", "environment", "frame"] m_Pages_narrowed := by
  refine fn_m O.F_Pages_narrowed sc_Pages_narrowed rfl rfl (fun cdv A outer s H E C tk => ?_)
  exact ⟨_, mss_one (ms_expr (me_meth C (ok_Pages__fall O) 1 rfl O.cl_Pages O.M_Pages__fall df_nil (by decide) O.b_Pages__fall (me_var 0) (ma_cons (me_var 1) (ma_cons (me_var 2) (ma_cons (me_tup (ma_cons (me_str 0 rfl) (ma_nil))) (ma_nil))))))⟩
theorem sc__law_narrow : FnScope N__law_narrow ["_law_frames", "_law_pages", "_law_entries", "_law_environment", "_law_frame"] (defScope s__law_narrow) := ⟨rfl, rfl, rfl, by decide +kernel, rfl, by decide +kernel, by decide +kernel⟩
theorem ok__law_narrow (O : TxOk w K mg T) : FnM (T.G K) P w mg base 6 T.f__law_narrow T.d__law_narrow ["_law_frames", "_law_pages", "_law_entries", "_law_environment", "_law_frame"] m__law_narrow := by
  refine fn_m O.F__law_narrow sc__law_narrow rfl rfl (fun cdv A outer s H E C tk => ?_)
  exact ⟨_, mss_cons (ms_if (mt_not (mt_tr C (me_meth C (ok_Frames_narrow O) 0 rfl O.cl_Frames O.M_Frames_narrow df_nil (by decide) O.b_Frames_narrow (me_var 0) (ma_cons (me_var 3) (ma_cons (me_var 4) (ma_nil)))))) (mss_one (ms_retN)) (mss_nil))
    (mss_cons (ms_expr (me_meth C (ok_Pages_narrowed O) 1 rfl O.cl_Pages O.M_Pages_narrowed df_nil (by decide) O.b_Pages_narrowed (me_var 1) (ma_cons (me_var 3) (ma_cons (me_var 4) (ma_nil)))))
    (mss_one (ms_for C (mi_rng1 O.n_range (ma_cons (me_int) (ma_nil))) (mg_name 5 C.nd) (mss_one (ms_if (mt_cmp (mc_eq gok C (me_getT1 gok C (me_var 2) (ma_cons (me_var 3) (ma_cons (me_var 5) (ma_nil)))) (me_tup (ma_cons (me_var 4) (ma_cons (me_str 0 rfl) (ma_nil)))))) (mss_one (ms_expr (me_popT1 gok C (me_var 2) (ma_cons (me_var 3) (ma_cons (me_var 5) (ma_nil)))))) (mss_nil))))))⟩
theorem sc_Frames__end_holding : FnScope N_Frames__end_holding ["self", "environment", "frame"] (defScope s_Frames__end_holding) := ⟨rfl, rfl, rfl, by decide +kernel, rfl, by decide +kernel, by decide +kernel⟩
theorem ok_Frames__end_holding (O : TxOk w K mg T) : FnM (T.G K) P w mg base 1 T.f_Frames__end_holding T.d_Frames__end_holding ["self", "environment", "frame"] m_Frames__end_holding := by
  refine fn_m O.F_Frames__end_holding sc_Frames__end_holding rfl rfl (fun cdv A outer s H E C tk => ?_)
  exact ⟨_, mss_cons (ms_expr (me_pop1 gok (me_ix gok C (me_fld gok C 2 rfl (me_var 0)) (me_var 2)) (me_var 1)))
    (mss_cons (ms_expr (me_bm C PySem.F.slot_list_remove PySem.F.type_list_remove mt_remove rm_remove (me_ix gok C (me_fld gok C 4 rfl (me_var 0)) (me_var 1)) (ma_cons (me_var 2) (ma_nil))))
    (mss_one (ms_for C (mi_rng1 O.n_range (ma_cons (me_glob 4 O.k_ENVIRONMENTS) (ma_nil))) (mg_name 3 C.nd) (mss_one (ms_expr (me_popT2 gok C (me_fld gok C 5 rfl (me_var 0)) (ma_cons (me_var 1) (ma_cons (me_var 2) (ma_cons (me_var 3) (ma_nil)))) (me_non)))))))⟩
theorem sc_Frames_drop : FnScope N_Frames_drop ["self", "environment", "frame"] (defScope s_Frames_drop) := ⟨rfl, rfl, rfl, by decide +kernel, rfl, by decide +kernel, by decide +kernel⟩
theorem ok_Frames_drop (O : TxOk w K mg T) : FnM (T.G K) P w mg base 4 T.f_Frames_drop T.d_Frames_drop ["self", "environment", "frame"] m_Frames_drop := by
  refine fn_m O.F_Frames_drop sc_Frames_drop rfl rfl (fun cdv A outer s H E C tk => ?_)
  exact ⟨_, mss_cons (ms_if (mt_cmp (mc_isN (me_meth C (ok_Frames_right O) 0 rfl O.cl_Frames O.M_Frames_right df_nil (by decide) O.b_Frames_right (me_var 0) (ma_cons (me_var 1) (ma_cons (me_var 2) (ma_nil)))))) (mss_one (ms_ret (me_bl))) (mss_nil))
    (mss_cons (ms_expr (me_meth C (ok_Frames__end_holding O) 0 rfl O.cl_Frames O.M_Frames__end_holding df_nil (by decide) O.b_Frames__end_holding (me_var 0) (ma_cons (me_var 1) (ma_cons (me_var 2) (ma_nil)))))
    (mss_cons (ms_if (mt_cmp (mc_notN (me_ix gok C (me_fld gok C 6 rfl (me_var 0)) (me_var 1)))) (mss_cons (ms_asg (me_ix gok C (me_fld gok C 6 rfl (me_var 0)) (me_var 1)) (mg_tup C (mgs_cons (mg_name 3 C.nd) (mgs_cons (mg_name 4 C.nd) (mgs_nil))) (gs_lenS (gs_lenS gs_len0))))
    (mss_one (ms_sub gok C (me_fld gok C 6 rfl (me_var 0)) (me_var 1) (me_if (mt_cmp (mc_gt (me_var 3) (me_int))) (me_tup (ma_cons (me_sub (me_var 3) (me_int)) (ma_cons (me_var 4) (ma_nil)))) (me_non))))) (mss_nil))
    (mss_one (ms_ret (me_bl)))))⟩
theorem sc_Pages_ended : FnScope N_Pages_ended ["self", "environment", "frame"] (defScope s_Pages_ended) := ⟨rfl, rfl, rfl, by decide +kernel, rfl, by decide +kernel, by decide +kernel⟩
theorem ok_Pages_ended (O : TxOk w K mg T) : FnM (T.G K) P w mg base 5 T.f_Pages_ended T.d_Pages_ended ["self", "environment", "frame"] m_Pages_ended := by
  refine fn_m O.F_Pages_ended sc_Pages_ended rfl rfl (fun cdv A outer s H E C tk => ?_)
  exact ⟨_, mss_one (ms_expr (me_meth C (ok_Pages__fall O) 1 rfl O.cl_Pages O.M_Pages__fall df_nil (by decide) O.b_Pages__fall (me_var 0) (ma_cons (me_var 1) (ma_cons (me_var 2) (ma_cons (me_globC C O.k_RIGHTS) (ma_nil))))))⟩
theorem sc__law_drop : FnScope N__law_drop ["_law_frames", "_law_pages", "_law_entries", "_law_environment", "_law_frame"] (defScope s__law_drop) := ⟨rfl, rfl, rfl, by decide +kernel, rfl, by decide +kernel, by decide +kernel⟩
theorem ok__law_drop (O : TxOk w K mg T) : FnM (T.G K) P w mg base 6 T.f__law_drop T.d__law_drop ["_law_frames", "_law_pages", "_law_entries", "_law_environment", "_law_frame"] m__law_drop := by
  refine fn_m O.F__law_drop sc__law_drop rfl rfl (fun cdv A outer s H E C tk => ?_)
  exact ⟨_, mss_cons (ms_if (mt_not (mt_tr C (me_meth C (ok_Frames_drop O) 0 rfl O.cl_Frames O.M_Frames_drop df_nil (by decide) O.b_Frames_drop (me_var 0) (ma_cons (me_var 3) (ma_cons (me_var 4) (ma_nil)))))) (mss_one (ms_retN)) (mss_nil))
    (mss_cons (ms_expr (me_meth C (ok_Pages_ended O) 1 rfl O.cl_Pages O.M_Pages_ended df_nil (by decide) O.b_Pages_ended (me_var 1) (ma_cons (me_var 3) (ma_cons (me_var 4) (ma_nil)))))
    (mss_one (ms_for C (mi_rng1 O.n_range (ma_cons (me_int) (ma_nil))) (mg_name 5 C.nd) (mss_one (ms_if (mt_cmp (mc_eq gok C (me_ix gok C (me_getT2 gok C (me_var 2) (ma_cons (me_var 3) (ma_cons (me_var 5) (ma_nil))) (me_tup (ma_cons (me_neg (me_int)) (ma_cons (me_str 2 rfl) (ma_nil))))) (me_int)) (me_var 4))) (mss_one (ms_expr (me_popT1 gok C (me_var 2) (ma_cons (me_var 3) (ma_cons (me_var 5) (ma_nil)))))) (mss_nil))))))⟩
theorem sc__law_book : FnScope N__law_book ["_law_tape", "_law_frames", "_law_pages", "_law_entries", "_law_words"] (defScope s__law_book) := ⟨rfl, rfl, rfl, by decide +kernel, rfl, by decide +kernel, by decide +kernel⟩
theorem ok__law_book (O : TxOk w K mg T) : FnM (T.G K) P w mg base 7 T.f__law_book T.d__law_book ["_law_tape", "_law_frames", "_law_pages", "_law_entries", "_law_words"] m__law_book := by
  refine fn_m O.F__law_book sc__law_book rfl rfl (fun cdv A outer s H E C tk => ?_)
  exact ⟨_, mss_cons (ms_asg (me_call C (ok__law_next O) df_nil (by decide) O.g__law_next O.F__law_next.kp O.b__law_next (ma_cons (me_var 0) (ma_cons (me_int) (ma_nil)))) (mg_name 5 C.nd))
    (mss_cons (ms_asg (me_call C (ok__law_next O) df_nil (by decide) O.g__law_next O.F__law_next.kp O.b__law_next (ma_cons (me_var 0) (ma_cons (me_int) (ma_nil)))) (mg_name 6 C.nd))
    (mss_cons (ms_asg (me_call C (ok__law_next O) df_nil (by decide) O.g__law_next O.F__law_next.kp O.b__law_next (ma_cons (me_var 0) (ma_cons (me_int) (ma_nil)))) (mg_name 7 C.nd))
    (mss_one (ms_if (mt_cmp (mc_lt (me_var 7) (me_int))) (mss_cons (ms_asg (me_meth C (ok_Frames_take O) 0 rfl O.cl_Frames O.M_Frames_take df_nil (by decide) O.b_Frames_take (me_var 1) (ma_cons (me_var 5) (ma_nil))) (mg_name 8 C.nd))
    (mss_one (ms_if (mt_cmp (mc_notN (me_var 8))) (mss_one (ms_sub gok C (me_var 4) (me_var 8) (me_mul C (me_lst (ma_cons (me_int) (ma_nil))) (me_int)))) (mss_nil)))) (mss_one (ms_if (mt_cmp (mc_eq gok C (me_var 7) (me_int))) (mss_one (ms_expr (me_meth C (ok_Frames_offer O) 0 rfl O.cl_Frames O.M_Frames_offer df_nil (by decide) O.b_Frames_offer (me_var 1) (ma_cons (me_var 5) (ma_cons (me_var 6) (ma_cons (me_call C (ok__law_next O) df_nil (by decide) O.g__law_next O.F__law_next.kp O.b__law_next (ma_cons (me_var 0) (ma_cons (me_int) (ma_nil)))) (ma_cons (me_ix gok C (me_lst (ma_cons (me_str 1 rfl) (ma_cons (me_str 0 rfl) (ma_nil)))) (me_call C (ok__law_next O) df_nil (by decide) O.g__law_next O.F__law_next.kp O.b__law_next (ma_cons (me_var 0) (ma_cons (me_int) (ma_nil))))) (ma_nil)))))))) (mss_one (ms_if (mt_cmp (mc_eq gok C (me_var 7) (me_int))) (mss_one (ms_expr (me_meth C (ok_Frames_accept O) 0 rfl O.cl_Frames O.M_Frames_accept df_nil (by decide) O.b_Frames_accept (me_var 1) (ma_cons (me_var 5) (ma_cons (me_var 6) (ma_cons (me_call C (ok__law_next O) df_nil (by decide) O.g__law_next O.F__law_next.kp O.b__law_next (ma_cons (me_var 0) (ma_cons (me_int) (ma_nil)))) (ma_nil))))))) (mss_one (ms_if (mt_cmp (mc_eq gok C (me_var 7) (me_int))) (mss_one (ms_expr (me_call C (ok__law_narrow O) df_nil (by decide) O.g__law_narrow O.F__law_narrow.kp O.b__law_narrow (ma_cons (me_var 1) (ma_cons (me_var 2) (ma_cons (me_var 3) (ma_cons (me_var 5) (ma_cons (me_var 6) (ma_nil))))))))) (mss_one (ms_expr (me_call C (ok__law_drop O) df_nil (by decide) O.g__law_drop O.F__law_drop.kp O.b__law_drop (ma_cons (me_var 1) (ma_cons (me_var 2) (ma_cons (me_var 3) (ma_cons (me_var 5) (ma_cons (me_var 6) (ma_nil)))))))))))))))))))⟩
theorem sc_Pages_map : FnScope N_Pages_map ["self", "environment", "page", "frame", "right"] (defScope s_Pages_map) := ⟨rfl, rfl, rfl, by decide +kernel, rfl, by decide +kernel, by decide +kernel⟩
theorem ok_Pages_map (O : TxOk w K mg T) : FnM (T.G K) P w mg base 4 T.f_Pages_map T.d_Pages_map ["self", "environment", "page", "frame", "right"] m_Pages_map := by
  refine fn_m O.F_Pages_map sc_Pages_map rfl rfl (fun cdv A outer s H E C tk => ?_)
  exact ⟨_, mss_cons (ms_if ((mw_or (mt_not (mt_tr C (me_call C (ok_is_page O) df_nil (by decide) O.g_is_page O.F_is_page.kp O.b_is_page (ma_cons (me_var 2) (ma_nil))))) (mw_or1 (mt_cmp (mc_notin gok C (me_var 4) (me_globC C O.k_RIGHTS))))).mt) (mss_one (ms_ret (me_bl))) (mss_nil))
    (mss_cons (ms_asg (me_meth C (ok_Frames_right O) 0 rfl O.cl_Frames O.M_Frames_right df_nil (by decide) O.b_Frames_right (me_fld gok C 8 rfl (me_var 0)) (ma_cons (me_var 1) (ma_cons (me_var 3) (ma_nil)))) (mg_name 5 C.nd))
    (mss_cons (ms_if ((mw_or (mt_cmp (mc_isN (me_var 5))) (mw_or1 (mt_not (mt_tr C (me_call C (ok_includes O) df_nil (by decide) O.g_includes O.F_includes.kp O.b_includes (ma_cons (me_var 5) (ma_cons (me_var 4) (ma_nil)))))))).mt) (mss_one (ms_ret (me_bl))) (mss_nil))
    (mss_cons (ms_sub gok C (me_ix gok C (me_fld gok C 9 rfl (me_var 0)) (me_var 1)) (me_var 2) (me_tup (ma_cons (me_var 3) (ma_cons (me_var 4) (ma_nil)))))
    (mss_one (ms_ret (me_bl))))))⟩
theorem sc__law_map : FnScope N__law_map ["_law_tape", "_law_frames", "_law_pages", "_law_entries"] (defScope s__law_map) := ⟨rfl, rfl, rfl, by decide +kernel, rfl, by decide +kernel, by decide +kernel⟩
theorem ok__law_map (O : TxOk w K mg T) : FnM (T.G K) P w mg base 5 T.f__law_map T.d__law_map ["_law_tape", "_law_frames", "_law_pages", "_law_entries"] m__law_map := by
  refine fn_m O.F__law_map sc__law_map rfl rfl (fun cdv A outer s H E C tk => ?_)
  exact ⟨_, mss_cons (ms_asg (me_call C (ok__law_next O) df_nil (by decide) O.g__law_next O.F__law_next.kp O.b__law_next (ma_cons (me_var 0) (ma_cons (me_int) (ma_nil)))) (mg_name 4 C.nd))
    (mss_cons (ms_asg (me_sub (me_call C (ok__law_next O) df_nil (by decide) O.g__law_next O.F__law_next.kp O.b__law_next (ma_cons (me_var 0) (ma_cons (me_int) (ma_nil)))) (me_int)) (mg_name 5 C.nd))
    (mss_cons (ms_asg (me_sub (me_call C (ok__law_next O) df_nil (by decide) O.g__law_next O.F__law_next.kp O.b__law_next (ma_cons (me_var 0) (ma_cons (me_int) (ma_nil)))) (me_int)) (mg_name 6 C.nd))
    (mss_cons (ms_asg (me_ix gok C (me_lst (ma_cons (me_str 1 rfl) (ma_cons (me_str 0 rfl) (ma_cons (me_str 3 rfl) (ma_nil))))) (me_call C (ok__law_next O) df_nil (by decide) O.g__law_next O.F__law_next.kp O.b__law_next (ma_cons (me_var 0) (ma_cons (me_int) (ma_nil))))) (mg_name 7 C.nd))
    (mss_cons (ms_asg (me_meth C (ok_Frames_right O) 0 rfl O.cl_Frames O.M_Frames_right df_nil (by decide) O.b_Frames_right (me_var 1) (ma_cons (me_var 4) (ma_cons (me_var 6) (ma_nil)))) (mg_name 8 C.nd))
    (mss_cons (ms_asg (me_andV (me_chLeLt (me_int) (me_var 5) (me_int)) (me_one (me_orV (me_andV (me_cmp (mc_eq gok C (me_var 8) (me_str 0 rfl))) (me_one (me_cmp (mc_ne gok C (me_var 7) (me_str 3 rfl))))) (me_one (me_andV (me_cmp (mc_eq gok C (me_var 8) (me_str 1 rfl))) (me_one (me_cmp (mc_eq gok C (me_var 7) (me_str 1 rfl))))))))) (mg_name 9 C.nd))
    (mss_cons (ms_if (mt_tr C (me_var 9)) (mss_one (ms_subT gok C (me_var 3) (ma_cons (me_var 4) (ma_cons (me_var 5) (ma_nil))) (me_tup (ma_cons (me_var 6) (ma_cons (me_var 7) (ma_nil)))))) (mss_nil))
    (mss_one (ms_ret (me_cmp (mc_eq gok C (me_meth C (ok_Pages_map O) 1 rfl O.cl_Pages O.M_Pages_map df_nil (by decide) O.b_Pages_map (me_var 2) (ma_cons (me_var 4) (ma_cons (me_var 5) (ma_cons (me_var 6) (ma_cons (me_var 7) (ma_nil)))))) (me_var 9)))))))))))⟩
theorem sc_Pages_unmap : FnScope N_Pages_unmap ["self", "environment", "page"] (defScope s_Pages_unmap) := ⟨rfl, rfl, rfl, by decide +kernel, rfl, by decide +kernel, by decide +kernel⟩
theorem ok_Pages_unmap (O : TxOk w K mg T) : FnM (T.G K) P w mg base 3 T.f_Pages_unmap T.d_Pages_unmap ["self", "environment", "page"] m_Pages_unmap := by
  refine fn_m O.F_Pages_unmap sc_Pages_unmap rfl rfl (fun cdv A outer s H E C tk => ?_)
  exact ⟨_, mss_cons (ms_if (mt_not (mt_tr C (me_call C (ok_is_page O) df_nil (by decide) O.g_is_page O.F_is_page.kp O.b_is_page (ma_cons (me_var 2) (ma_nil))))) (mss_one (ms_ret (me_bl))) (mss_nil))
    (mss_one (ms_ret (me_cmp (mc_notN (me_pop2 gok (me_ix gok C (me_fld gok C 9 rfl (me_var 0)) (me_var 1)) (me_var 2) (me_non))))))⟩
theorem sc_is_word : FnScope N_is_word ["value"] (defScope s_is_word) := ⟨rfl, rfl, rfl, by decide +kernel, rfl, by decide +kernel, by decide +kernel⟩
theorem ok_is_word (O : TxOk w K mg T) : FnM (T.G K) P w mg base 2 T.f_is_word T.d_is_word ["value"] m_is_word := by
  refine fn_m O.F_is_word sc_is_word rfl rfl (fun cdv A outer s H E C tk => ?_)
  exact ⟨_, mss_one (ms_ret (me_andV (me_call C (ok_is_number O) df_nil (by decide) O.g_is_number O.F_is_number.kp O.b_is_number (ma_cons (me_var 0) (ma_nil))) (me_one (me_chLeLe (me_int) (me_var 0) (me_glob 4294967295 O.k_TOP)))))⟩
theorem sc_Frames_write : FnScope N_Frames_write ["self", "frame", "index", "word"] (defScope s_Frames_write) := ⟨rfl, rfl, rfl, by decide +kernel, rfl, by decide +kernel, by decide +kernel⟩
theorem ok_Frames_write (O : TxOk w K mg T) : FnM (T.G K) P w mg base 1 T.f_Frames_write T.d_Frames_write ["self", "frame", "index", "word"] m_Frames_write := by
  refine fn_m O.F_Frames_write sc_Frames_write rfl rfl (fun cdv A outer s H E C tk => ?_)
  exact ⟨_, mss_one (ms_sub gok C (me_ix gok C (me_fld gok C 3 rfl (me_var 0)) (me_var 1)) (me_var 2) (me_var 3))⟩
theorem sc_Pages_store : FnScope N_Pages_store ["self", "environment", "page", "index", "word"] (defScope s_Pages_store) := ⟨rfl, rfl, rfl, by decide +kernel, rfl, by decide +kernel, by decide +kernel⟩
theorem ok_Pages_store (O : TxOk w K mg T) : FnM (T.G K) P w mg base 4 T.f_Pages_store T.d_Pages_store ["self", "environment", "page", "index", "word"] m_Pages_store := by
  refine fn_m O.F_Pages_store sc_Pages_store rfl rfl (fun cdv A outer s H E C tk => ?_)
  exact ⟨_, mss_cons (ms_asg (me_meth C (ok_Pages_entry O) 1 rfl O.cl_Pages O.M_Pages_entry df_nil (by decide) O.b_Pages_entry (me_var 0) (ma_cons (me_var 1) (ma_cons (me_var 2) (ma_nil)))) (mg_name 5 C.nd))
    (mss_cons (ms_if ((mw_or (mt_cmp (mc_isN (me_var 5))) (mw_or (mt_cmp (mc_ne gok C (me_ix gok C (me_var 5) (me_int)) (me_str 0 rfl))) (mw_or1 (mt_not (mt_tr C (me_call C (ok_is_word O) df_nil (by decide) O.g_is_word O.F_is_word.kp O.b_is_word (ma_cons (me_var 4) (ma_nil)))))))).mt) (mss_one (ms_ret (me_bl))) (mss_nil))
    (mss_cons (ms_if ((mw_or (mt_not (mt_tr C (me_call C (ok_is_number O) df_nil (by decide) O.g_is_number O.F_is_number.kp O.b_is_number (ma_cons (me_var 3) (ma_nil))))) (mw_or1 (mt_not (mt_chLeLt (me_int) (me_var 3) (me_glob 8 O.k_WORDS))))).mt) (mss_one (ms_ret (me_bl))) (mss_nil))
    (mss_cons (ms_expr (me_meth C (ok_Frames_write O) 0 rfl O.cl_Frames O.M_Frames_write df_nil (by decide) O.b_Frames_write (me_fld gok C 8 rfl (me_var 0)) (ma_cons (me_ix gok C (me_var 5) (me_int)) (ma_cons (me_var 3) (ma_cons (me_var 4) (ma_nil))))))
    (mss_one (ms_ret (me_bl))))))⟩
theorem sc__law_store : FnScope N__law_store ["_law_tape", "_law_pages", "_law_entries", "_law_words"] (defScope s__law_store) := ⟨rfl, rfl, rfl, by decide +kernel, rfl, by decide +kernel, by decide +kernel⟩
theorem ok__law_store (O : TxOk w K mg T) : FnM (T.G K) P w mg base 5 T.f__law_store T.d__law_store ["_law_tape", "_law_pages", "_law_entries", "_law_words"] m__law_store := by
  refine fn_m O.F__law_store sc__law_store rfl rfl (fun cdv A outer s H E C tk => ?_)
  exact ⟨_, mss_cons (ms_asg (me_call C (ok__law_next O) df_nil (by decide) O.g__law_next O.F__law_next.kp O.b__law_next (ma_cons (me_var 0) (ma_cons (me_int) (ma_nil)))) (mg_name 4 C.nd))
    (mss_cons (ms_asg (me_call C (ok__law_next O) df_nil (by decide) O.g__law_next O.F__law_next.kp O.b__law_next (ma_cons (me_var 0) (ma_cons (me_int) (ma_nil)))) (mg_name 5 C.nd))
    (mss_cons (ms_asg (me_sub (me_call C (ok__law_next O) df_nil (by decide) O.g__law_next O.F__law_next.kp O.b__law_next (ma_cons (me_var 0) (ma_cons (me_int) (ma_nil)))) (me_int)) (mg_name 6 C.nd))
    (mss_cons (ms_asg (me_ix gok C (me_lst (ma_cons (me_call C (ok__law_next O) df_nil (by decide) O.g__law_next O.F__law_next.kp O.b__law_next (ma_cons (me_var 0) (ma_cons (me_int) (ma_nil)))) (ma_cons (me_sub (me_pow (me_int) (me_int)) (me_int)) (ma_cons (me_pow (me_int) (me_int)) (ma_cons (me_neg (me_int)) (ma_nil)))))) (me_call C (ok__law_next O) df_nil (by decide) O.g__law_next O.F__law_next.kp O.b__law_next (ma_cons (me_var 0) (ma_cons (me_int) (ma_nil))))) (mg_name 7 C.nd))
    (mss_cons (ms_asg (me_getT1 gok C (me_var 2) (ma_cons (me_var 4) (ma_cons (me_var 5) (ma_nil)))) (mg_name 8 C.nd))
    (mss_cons (ms_asg (me_andV (me_cmp (mc_notN (me_var 8))) (me_andV (me_cmp (mc_eq gok C (me_ix gok C (me_var 8) (me_int)) (me_str 0 rfl))) (me_andV (me_chLeLt (me_int) (me_var 6) (me_int)) (me_one (me_chLeLt (me_int) (me_var 7) (me_pow (me_int) (me_int))))))) (mg_name 9 C.nd))
    (mss_cons (ms_if (mt_tr C (me_var 9)) (mss_one (ms_sub gok C (me_ix gok C (me_var 3) (me_ix gok C (me_var 8) (me_int))) (me_var 6) (me_var 7))) (mss_nil))
    (mss_one (ms_ret (me_cmp (mc_eq gok C (me_meth C (ok_Pages_store O) 1 rfl O.cl_Pages O.M_Pages_store df_nil (by decide) O.b_Pages_store (me_var 1) (ma_cons (me_var 4) (ma_cons (me_var 5) (ma_cons (me_var 6) (ma_cons (me_var 7) (ma_nil)))))) (me_var 9)))))))))))⟩
theorem sc_Frames_read : FnScope N_Frames_read ["self", "frame", "index"] (defScope s_Frames_read) := ⟨rfl, rfl, rfl, by decide +kernel, rfl, by decide +kernel, by decide +kernel⟩
theorem ok_Frames_read (O : TxOk w K mg T) : FnM (T.G K) P w mg base 1 T.f_Frames_read T.d_Frames_read ["self", "frame", "index"] m_Frames_read := by
  refine fn_m O.F_Frames_read sc_Frames_read rfl rfl (fun cdv A outer s H E C tk => ?_)
  exact ⟨_, mss_one (ms_ret (me_ix gok C (me_ix gok C (me_fld gok C 3 rfl (me_var 0)) (me_var 1)) (me_var 2)))⟩
theorem sc_Pages_load : FnScope N_Pages_load ["self", "environment", "page", "index"] (defScope s_Pages_load) := ⟨rfl, rfl, rfl, by decide +kernel, rfl, by decide +kernel, by decide +kernel⟩
theorem ok_Pages_load (O : TxOk w K mg T) : FnM (T.G K) P w mg base 4 T.f_Pages_load T.d_Pages_load ["self", "environment", "page", "index"] m_Pages_load := by
  refine fn_m O.F_Pages_load sc_Pages_load rfl rfl (fun cdv A outer s H E C tk => ?_)
  exact ⟨_, mss_cons (ms_asg (me_meth C (ok_Pages_entry O) 1 rfl O.cl_Pages O.M_Pages_entry df_nil (by decide) O.b_Pages_entry (me_var 0) (ma_cons (me_var 1) (ma_cons (me_var 2) (ma_nil)))) (mg_name 4 C.nd))
    (mss_cons (ms_if ((mw_or (mt_cmp (mc_isN (me_var 4))) (mw_or (mt_not (mt_tr C (me_call C (ok_is_number O) df_nil (by decide) O.g_is_number O.F_is_number.kp O.b_is_number (ma_cons (me_var 3) (ma_nil))))) (mw_or1 (mt_not (mt_chLeLt (me_int) (me_var 3) (me_glob 8 O.k_WORDS)))))).mt) (mss_one (ms_ret (me_non))) (mss_nil))
    (mss_one (ms_ret (me_meth C (ok_Frames_read O) 0 rfl O.cl_Frames O.M_Frames_read df_nil (by decide) O.b_Frames_read (me_fld gok C 8 rfl (me_var 0)) (ma_cons (me_ix gok C (me_var 4) (me_int)) (ma_cons (me_var 3) (ma_nil)))))))⟩
theorem sc__law_load : FnScope N__law_load ["_law_tape", "_law_pages", "_law_entries", "_law_words"] (defScope s__law_load) := ⟨rfl, rfl, rfl, by decide +kernel, rfl, by decide +kernel, by decide +kernel⟩
theorem ok__law_load (O : TxOk w K mg T) : FnM (T.G K) P w mg base 5 T.f__law_load T.d__law_load ["_law_tape", "_law_pages", "_law_entries", "_law_words"] m__law_load := by
  refine fn_m O.F__law_load sc__law_load rfl rfl (fun cdv A outer s H E C tk => ?_)
  exact ⟨_, mss_cons (ms_asg (me_call C (ok__law_next O) df_nil (by decide) O.g__law_next O.F__law_next.kp O.b__law_next (ma_cons (me_var 0) (ma_cons (me_int) (ma_nil)))) (mg_name 4 C.nd))
    (mss_cons (ms_asg (me_call C (ok__law_next O) df_nil (by decide) O.g__law_next O.F__law_next.kp O.b__law_next (ma_cons (me_var 0) (ma_cons (me_int) (ma_nil)))) (mg_name 5 C.nd))
    (mss_cons (ms_asg (me_sub (me_call C (ok__law_next O) df_nil (by decide) O.g__law_next O.F__law_next.kp O.b__law_next (ma_cons (me_var 0) (ma_cons (me_int) (ma_nil)))) (me_int)) (mg_name 6 C.nd))
    (mss_cons (ms_asg (me_getT1 gok C (me_var 2) (ma_cons (me_var 4) (ma_cons (me_var 5) (ma_nil)))) (mg_name 7 C.nd))
    (mss_cons (ms_asg (me_non) (mg_name 8 C.nd))
    (mss_cons (ms_if ((mw_and (mt_cmp (mc_notN (me_var 7))) (mw_and1 (mt_chLeLt (me_int) (me_var 6) (me_int)))).mt) (mss_one (ms_asg (me_ix gok C (me_ix gok C (me_var 3) (me_ix gok C (me_var 7) (me_int))) (me_var 6)) (mg_name 8 C.nd))) (mss_nil))
    (mss_one (ms_ret (me_cmp (mc_eq gok C (me_meth C (ok_Pages_load O) 1 rfl O.cl_Pages O.M_Pages_load df_nil (by decide) O.b_Pages_load (me_var 1) (ma_cons (me_var 4) (ma_cons (me_var 5) (ma_cons (me_var 6) (ma_nil))))) (me_var 8))))))))))⟩
theorem sc__law_shown : FnScope N__law_shown ["_law_frames", "_law_pages", "_law_entries"] (defScope s__law_shown) := ⟨rfl, rfl, rfl, by decide +kernel, rfl, by decide +kernel, by decide +kernel⟩
theorem ok__law_shown (O : TxOk w K mg T) : FnM (T.G K) P w mg base 4 T.f__law_shown T.d__law_shown ["_law_frames", "_law_pages", "_law_entries"] m__law_shown := by
  refine fn_m O.F__law_shown sc__law_shown rfl rfl (fun cdv A outer s H E C tk => ?_)
  exact ⟨_, mss_cons (ms_for C (mi_rng1 O.n_range (ma_cons (me_int) (ma_nil))) (mg_name 3 C.nd) (mss_one (ms_for C (mi_rng1 O.n_range (ma_cons (me_int) (ma_nil))) (mg_name 4 C.nd) (mss_cons (ms_asg (me_meth C (ok_Pages_entry O) 1 rfl O.cl_Pages O.M_Pages_entry df_nil (by decide) O.b_Pages_entry (me_var 1) (ma_cons (me_var 3) (ma_cons (me_var 4) (ma_nil)))) (mg_name 5 C.nd))
    (mss_cons (ms_if (mt_cmp (mc_ne gok C (me_var 5) (me_getT1 gok C (me_var 2) (ma_cons (me_var 3) (ma_cons (me_var 4) (ma_nil)))))) (mss_one (ms_ret (me_bl))) (mss_nil))
    (mss_one (ms_if ((mw_and (mt_cmp (mc_notN (me_var 5))) (mw_and1 (mt_cmp (mc_notin gok C (me_meth C (ok_Frames_right O) 0 rfl O.cl_Frames O.M_Frames_right df_nil (by decide) O.b_Frames_right (me_var 0) (ma_cons (me_var 3) (ma_cons (me_ix gok C (me_var 5) (me_int)) (ma_nil)))) (me_tup (ma_cons (me_ix gok C (me_var 5) (me_int)) (ma_cons (me_str 0 rfl) (ma_nil)))))))).mt) (mss_one (ms_ret (me_bl))) (mss_nil))))))))
    (mss_one (ms_ret (me_bl)))⟩
theorem sc_law : FnScope N_law ["_law_script"] (defScope s_law) := ⟨rfl, rfl, rfl, by decide +kernel, rfl, by decide +kernel, by decide +kernel⟩
theorem ok_law (O : TxOk w K mg T) : FnM (T.G K) P w mg base 8 T.f_law T.d_law ["_law_script"] m_law := by
  refine fn_m O.F_law sc_law rfl rfl (fun cdv A outer s H E C tk => ?_)
  exact ⟨_, mss_cons (ms_asg (me_lst (ma_cons (me_bty (cl_list C) rl_list O.n_list bt_list (ma_cons (me_var 0) (ma_nil))) (ma_cons (me_int) (ma_cons (me_int) (ma_cons (me_int) (ma_nil)))))) (mg_name 1 C.nd))
    (mss_cons (ms_asg (me_make C (ok_Frames___init__ O) 0 rfl O.cl_Frames O.mk_Frames df_nil (by decide) O.gc_Frames O.b_Frames___init__ (ma_cons (me_int) (ma_cons (me_lst (ma_cons (me_int) (ma_cons (me_int) (ma_cons (me_int) (ma_cons (me_int) (ma_nil)))))) (ma_nil)))) (mg_name 2 C.nd))
    (mss_cons (ms_asg (me_make C (ok_Pages___init__ O) 1 rfl O.cl_Pages O.mk_Pages df_nil (by decide) O.gc_Pages O.b_Pages___init__ (ma_cons (me_var 2) (ma_nil))) (mg_name 3 C.nd))
    (mss_cons (ms_asg (me_dictT) (mg_name 4 C.nd))
    (mss_cons (ms_asg (me_dict) (mg_name 5 C.nd))
    (mss_cons (ms_for C (mi_rng1 O.n_range (ma_cons (me_call C (ok__law_next O) df_nil (by decide) O.g__law_next O.F__law_next.kp O.b__law_next (ma_cons (me_var 1) (ma_cons (me_ix gok C (me_lst (ma_cons (me_int) (ma_cons (me_int) (ma_cons (me_int) (ma_nil))))) (me_call C (ok__law_next O) df_nil (by decide) O.g__law_next O.F__law_next.kp O.b__law_next (ma_cons (me_var 1) (ma_cons (me_int) (ma_nil))))) (ma_nil)))) (ma_nil))) (mg_name 6 C.nd) (mss_cons (ms_asg (me_call C (ok__law_next O) df_nil (by decide) O.g__law_next O.F__law_next.kp O.b__law_next (ma_cons (me_var 1) (ma_cons (me_int) (ma_nil)))) (mg_name 7 C.nd))
    (mss_cons (ms_asg (me_bl) (mg_name 8 C.nd))
    (mss_cons (ms_if (mt_cmp (mc_lt (me_var 7) (me_int))) (mss_one (ms_expr (me_call C (ok__law_book O) df_nil (by decide) O.g__law_book O.F__law_book.kp O.b__law_book (ma_cons (me_var 1) (ma_cons (me_var 2) (ma_cons (me_var 3) (ma_cons (me_var 4) (ma_cons (me_var 5) (ma_nil))))))))) (mss_one (ms_if (mt_cmp (mc_lt (me_var 7) (me_int))) (mss_one (ms_asg (me_call C (ok__law_map O) df_nil (by decide) O.g__law_map O.F__law_map.kp O.b__law_map (ma_cons (me_var 1) (ma_cons (me_var 2) (ma_cons (me_var 3) (ma_cons (me_var 4) (ma_nil)))))) (mg_name 8 C.nd))) (mss_one (ms_if (mt_cmp (mc_eq gok C (me_var 7) (me_int))) (mss_cons (ms_asg (me_call C (ok__law_next O) df_nil (by decide) O.g__law_next O.F__law_next.kp O.b__law_next (ma_cons (me_var 1) (ma_cons (me_int) (ma_nil)))) (mg_name 9 C.nd))
    (mss_cons (ms_asg (me_call C (ok__law_next O) df_nil (by decide) O.g__law_next O.F__law_next.kp O.b__law_next (ma_cons (me_var 1) (ma_cons (me_int) (ma_nil)))) (mg_name 10 C.nd))
    (mss_one (ms_asg (me_cmp (mc_eq gok C (me_meth C (ok_Pages_unmap O) 1 rfl O.cl_Pages O.M_Pages_unmap df_nil (by decide) O.b_Pages_unmap (me_var 3) (ma_cons (me_var 9) (ma_cons (me_var 10) (ma_nil)))) (me_cmp (mc_notN (me_popT2 gok C (me_var 4) (ma_cons (me_var 9) (ma_cons (me_var 10) (ma_nil))) (me_non)))))) (mg_name 8 C.nd))))) (mss_one (ms_if (mt_cmp (mc_eq gok C (me_var 7) (me_int))) (mss_one (ms_asg (me_call C (ok__law_store O) df_nil (by decide) O.g__law_store O.F__law_store.kp O.b__law_store (ma_cons (me_var 1) (ma_cons (me_var 3) (ma_cons (me_var 4) (ma_cons (me_var 5) (ma_nil)))))) (mg_name 8 C.nd))) (mss_one (ms_asg (me_call C (ok__law_load O) df_nil (by decide) O.g__law_load O.F__law_load.kp O.b__law_load (ma_cons (me_var 1) (ma_cons (me_var 3) (ma_cons (me_var 4) (ma_cons (me_var 5) (ma_nil)))))) (mg_name 8 C.nd))))))))))
    (mss_one (ms_if ((mw_or (mt_not (mt_tr C (me_var 8))) (mw_or1 ((mw_and (mt_cmp (mc_eq gok C (me_mod (me_var 6) (me_int)) (me_int))) (mw_and1 (mt_not (mt_tr C (me_call C (ok__law_shown O) df_nil (by decide) O.g__law_shown O.F__law_shown.kp O.b__law_shown (ma_cons (me_var 2) (ma_cons (me_var 3) (ma_cons (me_var 4) (ma_nil))))))))).mt))).mt) (mss_one (ms_ret (me_bl))) (mss_nil)))))))
    (mss_one (ms_ret (me_call C (ok__law_shown O) df_nil (by decide) O.g__law_shown O.F__law_shown.kp O.b__law_shown (ma_cons (me_var 2) (ma_cons (me_var 3) (ma_cons (me_var 4) (ma_nil))))))))))))⟩
end
theorem all_mk {l : PySem.W.OpenLaw} {w : World} {K : PySem.W.Frag} {h : PySem.Heap} {mg : Str → Option Value} {fa : Addr} (X : K.In h) (G : h.Ns mainGlobals mg) (hfa : mg "law" = some (.ref fa))
    {f0 : Addr} {oc0 kV0 dc0 pm0 cd0 ct0 : Value} {od0 an0 : Option Addr} {sl0 : Array (Option Value)} {f1 : Addr} {oc1 kV1 dc1 pm1 cd1 ct1 : Value} {od1 an1 : Option Addr} {sl1 : Array (Option Value)} {f2 : Addr} {oc2 kV2 dc2 pm2 cd2 ct2 : Value} {od2 an2 : Option Addr} {sl2 : Array (Option Value)} {f3 : Addr} {oc3 kV3 dc3 pm3 cd3 ct3 : Value} {od3 an3 : Option Addr} {sl3 : Array (Option Value)} {f4 : Addr} {oc4 kV4 dc4 pm4 cd4 ct4 : Value} {od4 an4 : Option Addr} {sl4 : Array (Option Value)} {f5 : Addr} {oc5 kV5 dc5 pm5 cd5 ct5 : Value} {od5 an5 : Option Addr} {sl5 : Array (Option Value)} {f6 : Addr} {oc6 kV6 dc6 pm6 cd6 ct6 : Value} {od6 an6 : Option Addr} {sl6 : Array (Option Value)} {f7 : Addr} {oc7 kV7 dc7 pm7 cd7 ct7 : Value} {od7 an7 : Option Addr} {sl7 : Array (Option Value)} {f8 : Addr} {oc8 kV8 dc8 pm8 cd8 ct8 : Value} {od8 an8 : Option Addr} {sl8 : Array (Option Value)} {f9 : Addr} {oc9 kV9 dc9 pm9 cd9 ct9 : Value} {od9 an9 : Option Addr} {sl9 : Array (Option Value)} {f10 : Addr} {oc10 kV10 dc10 pm10 cd10 ct10 : Value} {od10 an10 : Option Addr} {sl10 : Array (Option Value)} {f11 : Addr} {oc11 kV11 dc11 pm11 cd11 ct11 : Value} {od11 an11 : Option Addr} {sl11 : Array (Option Value)} {f12 : Addr} {oc12 kV12 dc12 pm12 cd12 ct12 : Value} {od12 an12 : Option Addr} {sl12 : Array (Option Value)} {f13 : Addr} {oc13 kV13 dc13 pm13 cd13 ct13 : Value} {od13 an13 : Option Addr} {sl13 : Array (Option Value)} {f14 : Addr} {oc14 kV14 dc14 pm14 cd14 ct14 : Value} {od14 an14 : Option Addr} {sl14 : Array (Option Value)} {f15 : Addr} {oc15 kV15 dc15 pm15 cd15 ct15 : Value} {od15 an15 : Option Addr} {sl15 : Array (Option Value)} {f16 : Addr} {oc16 kV16 dc16 pm16 cd16 ct16 : Value} {od16 an16 : Option Addr} {sl16 : Array (Option Value)} {f17 : Addr} {oc17 kV17 dc17 pm17 cd17 ct17 : Value} {od17 an17 : Option Addr} {sl17 : Array (Option Value)} {f18 : Addr} {oc18 kV18 dc18 pm18 cd18 ct18 : Value} {od18 an18 : Option Addr} {sl18 : Array (Option Value)} {f19 : Addr} {oc19 kV19 dc19 pm19 cd19 ct19 : Value} {od19 an19 : Option Addr} {sl19 : Array (Option Value)} {f20 : Addr} {oc20 kV20 dc20 pm20 cd20 ct20 : Value} {od20 an20 : Option Addr} {sl20 : Array (Option Value)} {f21 : Addr} {oc21 kV21 dc21 pm21 cd21 ct21 : Value} {od21 an21 : Option Addr} {sl21 : Array (Option Value)} {f22 : Addr} {oc22 kV22 dc22 pm22 cd22 ct22 : Value} {od22 an22 : Option Addr} {sl22 : Array (Option Value)} {f23 : Addr} {oc23 kV23 dc23 pm23 cd23 ct23 : Value} {od23 an23 : Option Addr} {sl23 : Array (Option Value)} {f24 : Addr} {oc24 kV24 dc24 pm24 cd24 ct24 : Value} {od24 an24 : Option Addr} {sl24 : Array (Option Value)} {f25 : Addr} {oc25 kV25 dc25 pm25 cd25 ct25 : Value} {od25 an25 : Option Addr} {sl25 : Array (Option Value)} {f26 : Addr} {oc26 kV26 dc26 pm26 cd26 ct26 : Value} {od26 an26 : Option Addr} {sl26 : Array (Option Value)} {f27 : Addr} {oc27 kV27 dc27 pm27 cd27 ct27 : Value} {od27 an27 : Option Addr} {sl27 : Array (Option Value)} {f28 : Addr} {oc28 kV28 dc28 pm28 cd28 ct28 : Value} {od28 an28 : Option Addr} {sl28 : Array (Option Value)} {f29 : Addr} {oc29 kV29 dc29 pm29 cd29 ct29 : Value} {od29 an29 : Option Addr} {sl29 : Array (Option Value)} {f30 : Addr} {oc30 kV30 dc30 pm30 cd30 ct30 : Value} {od30 an30 : Option Addr} {sl30 : Array (Option Value)} {f31 : Addr} {oc31 kV31 dc31 pm31 cd31 ct31 : Value} {od31 an31 : Option Addr} {sl31 : Array (Option Value)} {f32 : Addr} {oc32 kV32 dc32 pm32 cd32 ct32 : Value} {od32 an32 : Option Addr} {sl32 : Array (Option Value)} {f33 : Addr} {oc33 kV33 dc33 pm33 cd33 ct33 : Value} {od33 an33 : Option Addr} {sl33 : Array (Option Value)} {f34 : Addr} {oc34 kV34 dc34 pm34 cd34 ct34 : Value} {od34 an34 : Option Addr} {sl34 : Array (Option Value)} {f35 : Addr} {oc35 kV35 dc35 pm35 cd35 ct35 : Value} {od35 an35 : Option Addr} {sl35 : Array (Option Value)} {f36 : Addr} {oc36 kV36 dc36 pm36 cd36 ct36 : Value} {od36 an36 : Option Addr} {sl36 : Array (Option Value)} {f37 : Addr} {oc37 kV37 dc37 pm37 cd37 ct37 : Value} {od37 an37 : Option Addr} {sl37 : Array (Option Value)} {f38 : Addr} {oc38 kV38 dc38 pm38 cd38 ct38 : Value} {od38 an38 : Option Addr} {sl38 : Array (Option Value)} {CFrames CPages CNotValid : Addr} {tENVIRONMENTS tLEAST tMOST tPAGES tTOP tWORDS : Tok} {uRIGHTS__0 : Tok} {uRIGHTS__1 : Tok} {bRIGHTS_ : Addr} {obRIGHTS_ : Option Addr} {zbRIGHTS_ : Nat} {sbRIGHTS_ : Array (Option Value)}
    (AFrames : PySem.W.nsIn K mainGlobals "Frames" = some (some (.ref CFrames)))
    (APages : PySem.W.nsIn K mainGlobals "Pages" = some (some (.ref CPages)))
    (ANotValid : PySem.W.nsIn K mainGlobals "NotValid" = some (some (.ref CNotValid)))
    (a0 : PySem.W.nsIn K mainGlobals "is_number" = some (some (.ref f0)))
    (a1 : PySem.W.findIn K (.ref CFrames) "__init__" = some (some (.ref f1)))
    (i1 : PySem.W.isFn K (.ref f1) = true)
    (a2 : PySem.W.findIn K (.ref CPages) "__init__" = some (some (.ref f2)))
    (i2 : PySem.W.isFn K (.ref f2) = true)
    (a3 : PySem.W.nsIn K mainGlobals "_law_next" = some (some (.ref f3)))
    (a4 : PySem.W.findIn K (.ref CFrames) "free" = some (some (.ref f4)))
    (i4 : PySem.W.isFn K (.ref f4) = true)
    (a5 : PySem.W.findIn K (.ref CFrames) "charge" = some (some (.ref f5)))
    (i5 : PySem.W.isFn K (.ref f5) = true)
    (a6 : PySem.W.findIn K (.ref CFrames) "share" = some (some (.ref f6)))
    (i6 : PySem.W.isFn K (.ref f6) = true)
    (a7 : PySem.W.findIn K (.ref CFrames) "left" = some (some (.ref f7)))
    (i7 : PySem.W.isFn K (.ref f7) = true)
    (a8 : PySem.W.findIn K (.ref CFrames) "may_hold_more" = some (some (.ref f8)))
    (i8 : PySem.W.isFn K (.ref f8) = true)
    (a9 : PySem.W.findIn K (.ref CFrames) "take" = some (some (.ref f9)))
    (i9 : PySem.W.isFn K (.ref f9) = true)
    (a10 : PySem.W.nsIn K mainGlobals "is_environment" = some (some (.ref f10)))
    (a11 : PySem.W.findIn K (.ref CFrames) "is_frame" = some (some (.ref f11)))
    (i11 : PySem.W.isFn K (.ref f11) = true)
    (a12 : PySem.W.findIn K (.ref CFrames) "right" = some (some (.ref f12)))
    (i12 : PySem.W.isFn K (.ref f12) = true)
    (a13 : PySem.W.nsIn K mainGlobals "includes" = some (some (.ref f13)))
    (a14 : PySem.W.findIn K (.ref CFrames) "offer" = some (some (.ref f14)))
    (i14 : PySem.W.isFn K (.ref f14) = true)
    (a15 : PySem.W.findIn K (.ref CFrames) "accept" = some (some (.ref f15)))
    (i15 : PySem.W.isFn K (.ref f15) = true)
    (a16 : PySem.W.findIn K (.ref CFrames) "narrow" = some (some (.ref f16)))
    (i16 : PySem.W.isFn K (.ref f16) = true)
    (a17 : PySem.W.nsIn K mainGlobals "is_page" = some (some (.ref f17)))
    (a18 : PySem.W.findIn K (.ref CPages) "entry" = some (some (.ref f18)))
    (i18 : PySem.W.isFn K (.ref f18) = true)
    (a19 : PySem.W.findIn K (.ref CPages) "_fall" = some (some (.ref f19)))
    (i19 : PySem.W.isFn K (.ref f19) = true)
    (a20 : PySem.W.findIn K (.ref CPages) "narrowed" = some (some (.ref f20)))
    (i20 : PySem.W.isFn K (.ref f20) = true)
    (a21 : PySem.W.nsIn K mainGlobals "_law_narrow" = some (some (.ref f21)))
    (a22 : PySem.W.findIn K (.ref CFrames) "_end_holding" = some (some (.ref f22)))
    (i22 : PySem.W.isFn K (.ref f22) = true)
    (a23 : PySem.W.findIn K (.ref CFrames) "drop" = some (some (.ref f23)))
    (i23 : PySem.W.isFn K (.ref f23) = true)
    (a24 : PySem.W.findIn K (.ref CPages) "ended" = some (some (.ref f24)))
    (i24 : PySem.W.isFn K (.ref f24) = true)
    (a25 : PySem.W.nsIn K mainGlobals "_law_drop" = some (some (.ref f25)))
    (a26 : PySem.W.nsIn K mainGlobals "_law_book" = some (some (.ref f26)))
    (a27 : PySem.W.findIn K (.ref CPages) "map" = some (some (.ref f27)))
    (i27 : PySem.W.isFn K (.ref f27) = true)
    (a28 : PySem.W.nsIn K mainGlobals "_law_map" = some (some (.ref f28)))
    (a29 : PySem.W.findIn K (.ref CPages) "unmap" = some (some (.ref f29)))
    (i29 : PySem.W.isFn K (.ref f29) = true)
    (a30 : PySem.W.nsIn K mainGlobals "is_word" = some (some (.ref f30)))
    (a31 : PySem.W.findIn K (.ref CFrames) "write" = some (some (.ref f31)))
    (i31 : PySem.W.isFn K (.ref f31) = true)
    (a32 : PySem.W.findIn K (.ref CPages) "store" = some (some (.ref f32)))
    (i32 : PySem.W.isFn K (.ref f32) = true)
    (a33 : PySem.W.nsIn K mainGlobals "_law_store" = some (some (.ref f33)))
    (a34 : PySem.W.findIn K (.ref CFrames) "read" = some (some (.ref f34)))
    (i34 : PySem.W.isFn K (.ref f34) = true)
    (a35 : PySem.W.findIn K (.ref CPages) "load" = some (some (.ref f35)))
    (i35 : PySem.W.isFn K (.ref f35) = true)
    (a36 : PySem.W.nsIn K mainGlobals "_law_load" = some (some (.ref f36)))
    (a37 : PySem.W.nsIn K mainGlobals "_law_shown" = some (some (.ref f37)))
    (a38 : PySem.W.nsIn K mainGlobals "law" = some (some (.ref f38)))
    (KENVIRONMENTS : PySem.W.nsIn K mainGlobals "ENVIRONMENTS" = some (some (.int 4 tENVIRONMENTS)))
    (KLEAST : PySem.W.nsIn K mainGlobals "LEAST" = some (some (.int 8 tLEAST)))
    (KMOST : PySem.W.nsIn K mainGlobals "MOST" = some (some (.int 64 tMOST)))
    (KPAGES : PySem.W.nsIn K mainGlobals "PAGES" = some (some (.int 32 tPAGES)))
    (KRIGHTS : PySem.W.nsIn K mainGlobals "RIGHTS" = some (some (.ref bRIGHTS_)))
    (lbRIGHTS_ : K.lookup bRIGHTS_ = some ⟨.type "tuple", obRIGHTS_, .seq #[.str "r" uRIGHTS__0, .str "rw" uRIGHTS__1] zbRIGHTS_, sbRIGHTS_⟩)
    (KTOP : PySem.W.nsIn K mainGlobals "TOP" = some (some (.int 4294967295 tTOP)))
    (KWORDS : PySem.W.nsIn K mainGlobals "WORDS" = some (some (.int 8 tWORDS)))
    (l0 : K.lookup f0 = some ⟨oc0, od0, .func (PySem.W.fnOf "is_number" "is_number" (defArgs s_is_number) (defBody s_is_number) (defScope s_is_number) .none kV0 dc0 pm0 an0 cd0 ct0), sl0⟩)
    (c0 : PySem.W.codeIn K cd0 "is_number" = true)
    (k0 : PySem.W.keepIn K (.ref f0) = true)
    (l1 : K.lookup f1 = some ⟨oc1, od1, .func (PySem.W.fnOf "__init__" "Frames.__init__" (defArgs s_Frames___init__) (defBody s_Frames___init__) (defScope s_Frames___init__) .none kV1 dc1 pm1 an1 cd1 ct1), sl1⟩)
    (c1 : PySem.W.codeIn K cd1 "Frames.__init__" = true)
    (k1 : PySem.W.keepIn K (.ref f1) = true)
    (l2 : K.lookup f2 = some ⟨oc2, od2, .func (PySem.W.fnOf "__init__" "Pages.__init__" (defArgs s_Pages___init__) (defBody s_Pages___init__) (defScope s_Pages___init__) .none kV2 dc2 pm2 an2 cd2 ct2), sl2⟩)
    (c2 : PySem.W.codeIn K cd2 "Pages.__init__" = true)
    (k2 : PySem.W.keepIn K (.ref f2) = true)
    (l3 : K.lookup f3 = some ⟨oc3, od3, .func (PySem.W.fnOf "_law_next" "_law_next" (defArgs s__law_next) (defBody s__law_next) (defScope s__law_next) .none kV3 dc3 pm3 an3 cd3 ct3), sl3⟩)
    (c3 : PySem.W.codeIn K cd3 "_law_next" = true)
    (k3 : PySem.W.keepIn K (.ref f3) = true)
    (l4 : K.lookup f4 = some ⟨oc4, od4, .func (PySem.W.fnOf "free" "Frames.free" (defArgs s_Frames_free) (defBody s_Frames_free) (defScope s_Frames_free) .none kV4 dc4 pm4 an4 cd4 ct4), sl4⟩)
    (c4 : PySem.W.codeIn K cd4 "Frames.free" = true)
    (k4 : PySem.W.keepIn K (.ref f4) = true)
    (l5 : K.lookup f5 = some ⟨oc5, od5, .func (PySem.W.fnOf "charge" "Frames.charge" (defArgs s_Frames_charge) (defBody s_Frames_charge) (defScope s_Frames_charge) .none kV5 dc5 pm5 an5 cd5 ct5), sl5⟩)
    (c5 : PySem.W.codeIn K cd5 "Frames.charge" = true)
    (k5 : PySem.W.keepIn K (.ref f5) = true)
    (l6 : K.lookup f6 = some ⟨oc6, od6, .func (PySem.W.fnOf "share" "Frames.share" (defArgs s_Frames_share) (defBody s_Frames_share) (defScope s_Frames_share) .none kV6 dc6 pm6 an6 cd6 ct6), sl6⟩)
    (c6 : PySem.W.codeIn K cd6 "Frames.share" = true)
    (k6 : PySem.W.keepIn K (.ref f6) = true)
    (l7 : K.lookup f7 = some ⟨oc7, od7, .func (PySem.W.fnOf "left" "Frames.left" (defArgs s_Frames_left) (defBody s_Frames_left) (defScope s_Frames_left) .none kV7 dc7 pm7 an7 cd7 ct7), sl7⟩)
    (c7 : PySem.W.codeIn K cd7 "Frames.left" = true)
    (k7 : PySem.W.keepIn K (.ref f7) = true)
    (l8 : K.lookup f8 = some ⟨oc8, od8, .func (PySem.W.fnOf "may_hold_more" "Frames.may_hold_more" (defArgs s_Frames_may_hold_more) (defBody s_Frames_may_hold_more) (defScope s_Frames_may_hold_more) .none kV8 dc8 pm8 an8 cd8 ct8), sl8⟩)
    (c8 : PySem.W.codeIn K cd8 "Frames.may_hold_more" = true)
    (k8 : PySem.W.keepIn K (.ref f8) = true)
    (l9 : K.lookup f9 = some ⟨oc9, od9, .func (PySem.W.fnOf "take" "Frames.take" (defArgs s_Frames_take) (defBody s_Frames_take) (defScope s_Frames_take) .none kV9 dc9 pm9 an9 cd9 ct9), sl9⟩)
    (c9 : PySem.W.codeIn K cd9 "Frames.take" = true)
    (k9 : PySem.W.keepIn K (.ref f9) = true)
    (l10 : K.lookup f10 = some ⟨oc10, od10, .func (PySem.W.fnOf "is_environment" "is_environment" (defArgs s_is_environment) (defBody s_is_environment) (defScope s_is_environment) .none kV10 dc10 pm10 an10 cd10 ct10), sl10⟩)
    (c10 : PySem.W.codeIn K cd10 "is_environment" = true)
    (k10 : PySem.W.keepIn K (.ref f10) = true)
    (l11 : K.lookup f11 = some ⟨oc11, od11, .func (PySem.W.fnOf "is_frame" "Frames.is_frame" (defArgs s_Frames_is_frame) (defBody s_Frames_is_frame) (defScope s_Frames_is_frame) .none kV11 dc11 pm11 an11 cd11 ct11), sl11⟩)
    (c11 : PySem.W.codeIn K cd11 "Frames.is_frame" = true)
    (k11 : PySem.W.keepIn K (.ref f11) = true)
    (l12 : K.lookup f12 = some ⟨oc12, od12, .func (PySem.W.fnOf "right" "Frames.right" (defArgs s_Frames_right) (defBody s_Frames_right) (defScope s_Frames_right) .none kV12 dc12 pm12 an12 cd12 ct12), sl12⟩)
    (c12 : PySem.W.codeIn K cd12 "Frames.right" = true)
    (k12 : PySem.W.keepIn K (.ref f12) = true)
    (l13 : K.lookup f13 = some ⟨oc13, od13, .func (PySem.W.fnOf "includes" "includes" (defArgs s_includes) (defBody s_includes) (defScope s_includes) .none kV13 dc13 pm13 an13 cd13 ct13), sl13⟩)
    (c13 : PySem.W.codeIn K cd13 "includes" = true)
    (k13 : PySem.W.keepIn K (.ref f13) = true)
    (l14 : K.lookup f14 = some ⟨oc14, od14, .func (PySem.W.fnOf "offer" "Frames.offer" (defArgs s_Frames_offer) (defBody s_Frames_offer) (defScope s_Frames_offer) .none kV14 dc14 pm14 an14 cd14 ct14), sl14⟩)
    (c14 : PySem.W.codeIn K cd14 "Frames.offer" = true)
    (k14 : PySem.W.keepIn K (.ref f14) = true)
    (l15 : K.lookup f15 = some ⟨oc15, od15, .func (PySem.W.fnOf "accept" "Frames.accept" (defArgs s_Frames_accept) (defBody s_Frames_accept) (defScope s_Frames_accept) .none kV15 dc15 pm15 an15 cd15 ct15), sl15⟩)
    (c15 : PySem.W.codeIn K cd15 "Frames.accept" = true)
    (k15 : PySem.W.keepIn K (.ref f15) = true)
    (l16 : K.lookup f16 = some ⟨oc16, od16, .func (PySem.W.fnOf "narrow" "Frames.narrow" (defArgs s_Frames_narrow) (defBody s_Frames_narrow) (defScope s_Frames_narrow) .none kV16 dc16 pm16 an16 cd16 ct16), sl16⟩)
    (c16 : PySem.W.codeIn K cd16 "Frames.narrow" = true)
    (k16 : PySem.W.keepIn K (.ref f16) = true)
    (l17 : K.lookup f17 = some ⟨oc17, od17, .func (PySem.W.fnOf "is_page" "is_page" (defArgs s_is_page) (defBody s_is_page) (defScope s_is_page) .none kV17 dc17 pm17 an17 cd17 ct17), sl17⟩)
    (c17 : PySem.W.codeIn K cd17 "is_page" = true)
    (k17 : PySem.W.keepIn K (.ref f17) = true)
    (l18 : K.lookup f18 = some ⟨oc18, od18, .func (PySem.W.fnOf "entry" "Pages.entry" (defArgs s_Pages_entry) (defBody s_Pages_entry) (defScope s_Pages_entry) .none kV18 dc18 pm18 an18 cd18 ct18), sl18⟩)
    (c18 : PySem.W.codeIn K cd18 "Pages.entry" = true)
    (k18 : PySem.W.keepIn K (.ref f18) = true)
    (l19 : K.lookup f19 = some ⟨oc19, od19, .func (PySem.W.fnOf "_fall" "Pages._fall" (defArgs s_Pages__fall) (defBody s_Pages__fall) (defScope s_Pages__fall) .none kV19 dc19 pm19 an19 cd19 ct19), sl19⟩)
    (c19 : PySem.W.codeIn K cd19 "Pages._fall" = true)
    (k19 : PySem.W.keepIn K (.ref f19) = true)
    (l20 : K.lookup f20 = some ⟨oc20, od20, .func (PySem.W.fnOf "narrowed" "Pages.narrowed" (defArgs s_Pages_narrowed) (defBody s_Pages_narrowed) (defScope s_Pages_narrowed) .none kV20 dc20 pm20 an20 cd20 ct20), sl20⟩)
    (c20 : PySem.W.codeIn K cd20 "Pages.narrowed" = true)
    (k20 : PySem.W.keepIn K (.ref f20) = true)
    (l21 : K.lookup f21 = some ⟨oc21, od21, .func (PySem.W.fnOf "_law_narrow" "_law_narrow" (defArgs s__law_narrow) (defBody s__law_narrow) (defScope s__law_narrow) .none kV21 dc21 pm21 an21 cd21 ct21), sl21⟩)
    (c21 : PySem.W.codeIn K cd21 "_law_narrow" = true)
    (k21 : PySem.W.keepIn K (.ref f21) = true)
    (l22 : K.lookup f22 = some ⟨oc22, od22, .func (PySem.W.fnOf "_end_holding" "Frames._end_holding" (defArgs s_Frames__end_holding) (defBody s_Frames__end_holding) (defScope s_Frames__end_holding) .none kV22 dc22 pm22 an22 cd22 ct22), sl22⟩)
    (c22 : PySem.W.codeIn K cd22 "Frames._end_holding" = true)
    (k22 : PySem.W.keepIn K (.ref f22) = true)
    (l23 : K.lookup f23 = some ⟨oc23, od23, .func (PySem.W.fnOf "drop" "Frames.drop" (defArgs s_Frames_drop) (defBody s_Frames_drop) (defScope s_Frames_drop) .none kV23 dc23 pm23 an23 cd23 ct23), sl23⟩)
    (c23 : PySem.W.codeIn K cd23 "Frames.drop" = true)
    (k23 : PySem.W.keepIn K (.ref f23) = true)
    (l24 : K.lookup f24 = some ⟨oc24, od24, .func (PySem.W.fnOf "ended" "Pages.ended" (defArgs s_Pages_ended) (defBody s_Pages_ended) (defScope s_Pages_ended) .none kV24 dc24 pm24 an24 cd24 ct24), sl24⟩)
    (c24 : PySem.W.codeIn K cd24 "Pages.ended" = true)
    (k24 : PySem.W.keepIn K (.ref f24) = true)
    (l25 : K.lookup f25 = some ⟨oc25, od25, .func (PySem.W.fnOf "_law_drop" "_law_drop" (defArgs s__law_drop) (defBody s__law_drop) (defScope s__law_drop) .none kV25 dc25 pm25 an25 cd25 ct25), sl25⟩)
    (c25 : PySem.W.codeIn K cd25 "_law_drop" = true)
    (k25 : PySem.W.keepIn K (.ref f25) = true)
    (l26 : K.lookup f26 = some ⟨oc26, od26, .func (PySem.W.fnOf "_law_book" "_law_book" (defArgs s__law_book) (defBody s__law_book) (defScope s__law_book) .none kV26 dc26 pm26 an26 cd26 ct26), sl26⟩)
    (c26 : PySem.W.codeIn K cd26 "_law_book" = true)
    (k26 : PySem.W.keepIn K (.ref f26) = true)
    (l27 : K.lookup f27 = some ⟨oc27, od27, .func (PySem.W.fnOf "map" "Pages.map" (defArgs s_Pages_map) (defBody s_Pages_map) (defScope s_Pages_map) .none kV27 dc27 pm27 an27 cd27 ct27), sl27⟩)
    (c27 : PySem.W.codeIn K cd27 "Pages.map" = true)
    (k27 : PySem.W.keepIn K (.ref f27) = true)
    (l28 : K.lookup f28 = some ⟨oc28, od28, .func (PySem.W.fnOf "_law_map" "_law_map" (defArgs s__law_map) (defBody s__law_map) (defScope s__law_map) .none kV28 dc28 pm28 an28 cd28 ct28), sl28⟩)
    (c28 : PySem.W.codeIn K cd28 "_law_map" = true)
    (k28 : PySem.W.keepIn K (.ref f28) = true)
    (l29 : K.lookup f29 = some ⟨oc29, od29, .func (PySem.W.fnOf "unmap" "Pages.unmap" (defArgs s_Pages_unmap) (defBody s_Pages_unmap) (defScope s_Pages_unmap) .none kV29 dc29 pm29 an29 cd29 ct29), sl29⟩)
    (c29 : PySem.W.codeIn K cd29 "Pages.unmap" = true)
    (k29 : PySem.W.keepIn K (.ref f29) = true)
    (l30 : K.lookup f30 = some ⟨oc30, od30, .func (PySem.W.fnOf "is_word" "is_word" (defArgs s_is_word) (defBody s_is_word) (defScope s_is_word) .none kV30 dc30 pm30 an30 cd30 ct30), sl30⟩)
    (c30 : PySem.W.codeIn K cd30 "is_word" = true)
    (k30 : PySem.W.keepIn K (.ref f30) = true)
    (l31 : K.lookup f31 = some ⟨oc31, od31, .func (PySem.W.fnOf "write" "Frames.write" (defArgs s_Frames_write) (defBody s_Frames_write) (defScope s_Frames_write) .none kV31 dc31 pm31 an31 cd31 ct31), sl31⟩)
    (c31 : PySem.W.codeIn K cd31 "Frames.write" = true)
    (k31 : PySem.W.keepIn K (.ref f31) = true)
    (l32 : K.lookup f32 = some ⟨oc32, od32, .func (PySem.W.fnOf "store" "Pages.store" (defArgs s_Pages_store) (defBody s_Pages_store) (defScope s_Pages_store) .none kV32 dc32 pm32 an32 cd32 ct32), sl32⟩)
    (c32 : PySem.W.codeIn K cd32 "Pages.store" = true)
    (k32 : PySem.W.keepIn K (.ref f32) = true)
    (l33 : K.lookup f33 = some ⟨oc33, od33, .func (PySem.W.fnOf "_law_store" "_law_store" (defArgs s__law_store) (defBody s__law_store) (defScope s__law_store) .none kV33 dc33 pm33 an33 cd33 ct33), sl33⟩)
    (c33 : PySem.W.codeIn K cd33 "_law_store" = true)
    (k33 : PySem.W.keepIn K (.ref f33) = true)
    (l34 : K.lookup f34 = some ⟨oc34, od34, .func (PySem.W.fnOf "read" "Frames.read" (defArgs s_Frames_read) (defBody s_Frames_read) (defScope s_Frames_read) .none kV34 dc34 pm34 an34 cd34 ct34), sl34⟩)
    (c34 : PySem.W.codeIn K cd34 "Frames.read" = true)
    (k34 : PySem.W.keepIn K (.ref f34) = true)
    (l35 : K.lookup f35 = some ⟨oc35, od35, .func (PySem.W.fnOf "load" "Pages.load" (defArgs s_Pages_load) (defBody s_Pages_load) (defScope s_Pages_load) .none kV35 dc35 pm35 an35 cd35 ct35), sl35⟩)
    (c35 : PySem.W.codeIn K cd35 "Pages.load" = true)
    (k35 : PySem.W.keepIn K (.ref f35) = true)
    (l36 : K.lookup f36 = some ⟨oc36, od36, .func (PySem.W.fnOf "_law_load" "_law_load" (defArgs s__law_load) (defBody s__law_load) (defScope s__law_load) .none kV36 dc36 pm36 an36 cd36 ct36), sl36⟩)
    (c36 : PySem.W.codeIn K cd36 "_law_load" = true)
    (k36 : PySem.W.keepIn K (.ref f36) = true)
    (l37 : K.lookup f37 = some ⟨oc37, od37, .func (PySem.W.fnOf "_law_shown" "_law_shown" (defArgs s__law_shown) (defBody s__law_shown) (defScope s__law_shown) .none kV37 dc37 pm37 an37 cd37 ct37), sl37⟩)
    (c37 : PySem.W.codeIn K cd37 "_law_shown" = true)
    (k37 : PySem.W.keepIn K (.ref f37) = true)
    (l38 : K.lookup f38 = some ⟨oc38, od38, .func (PySem.W.fnOf "law" "law" (defArgs s_law) (defBody s_law) (defScope s_law) .none kV38 dc38 pm38 an38 cd38 ct38), sl38⟩)
    (c38 : PySem.W.codeIn K cd38 "law" = true)
    (k38 : PySem.W.keepIn K (.ref f38) = true)
    (pgFrames : PySem.W.plainGet K CFrames Str.empty = true)
    (hdFrames : PySem.W.hasDictIn K CFrames = true)
    (poFrames : PySem.W.plainOver K CFrames = true)
    (saFrames : PySem.W.findIn K (.ref CFrames) "__setattr__" = some (some (.builtin "object.__setattr__")))
    (mkFrames : PySem.W.makesIn K CFrames = true)
    (kcFrames : PySem.W.keepIn K (.ref CFrames) = true)
    (pgPages : PySem.W.plainGet K CPages Str.empty = true)
    (hdPages : PySem.W.hasDictIn K CPages = true)
    (poPages : PySem.W.plainOver K CPages = true)
    (saPages : PySem.W.findIn K (.ref CPages) "__setattr__" = some (some (.builtin "object.__setattr__")))
    (mkPages : PySem.W.makesIn K CPages = true)
    (kcPages : PySem.W.keepIn K (.ref CPages) = true)
    (naFramesholders : PySem.W.findIn K (.ref CFrames) "holders" = some none)
    (naFrameslost : PySem.W.findIn K (.ref CFrames) "lost" = some none)
    (naFramesmany : PySem.W.findIn K (.ref CFrames) "many" = some none)
    (naFramesoffers : PySem.W.findIn K (.ref CFrames) "offers" = some none)
    (naFramesorder : PySem.W.findIn K (.ref CFrames) "order" = some none)
    (naFramesshares : PySem.W.findIn K (.ref CFrames) "shares" = some none)
    (naFrameswanted : PySem.W.findIn K (.ref CFrames) "wanted" = some none)
    (naFrameswords : PySem.W.findIn K (.ref CFrames) "words" = some none)
    (naPagesentries : PySem.W.findIn K (.ref CPages) "entries" = some none)
    (naPagesframes : PySem.W.findIn K (.ref CPages) "frames" = some none)
    (zabs : PySem.W.nsIn K mainGlobals "abs" = some none)
    (zall : PySem.W.nsIn K mainGlobals "all" = some none)
    (zbool : PySem.W.nsIn K mainGlobals "bool" = some none)
    (zint : PySem.W.nsIn K mainGlobals "int" = some none)
    (zisinstance : PySem.W.nsIn K mainGlobals "isinstance" = some none)
    (zlen : PySem.W.nsIn K mainGlobals "len" = some none)
    (zlist : PySem.W.nsIn K mainGlobals "list" = some none)
    (zmax : PySem.W.nsIn K mainGlobals "max" = some none)
    (zrange : PySem.W.nsIn K mainGlobals "range" = some none)
    (zsum : PySem.W.nsIn K mainGlobals "sum" = some none)
    (xNotValid : PySem.W.excIn K CNotValid [.type "ValueError", .type "Exception", .type "BaseException", .type "object"] "ValueError.__new__" = true)
    (xkNotValid : PySem.W.keepIn K (.ref CNotValid) = true)
    (xbNotValid : PySem.W.subIn K (.ref CNotValid) (.type "BaseException") = some true)
    (xtNotValid : PySem.W.typeIn K (.ref CNotValid) = some (.type "type"))
    (xsNotValid : PySem.W.subIn K (.ref CNotValid) (.ref CNotValid) = some true)
    (xiNotValid : PySem.W.isClsIn K CNotValid = true) :
    ∃ fd : FuncData, (∀ (s : Shared) (v : Value), BindsTo s fd ⟨[v], []⟩ [("_law_script", v)]) ∧ ∀ base : PySem.Heap, K.In base → base.Ns mainGlobals mg → FnOk l.prog w K mg base (L2.CX l.prog w) 8 fa fd ["_law_script"] (spLaw K) := by
  have e : f38 = fa := by
    have e := (PySem.W.mg_of X G a38).symm.trans hfa
    cases e
    rfl
  subst e
  have O : TxOk w K mg {
      c_Frames := CFrames,
      c_Pages := CPages,
      c_SteadError := 0,
      c_NotValid := CNotValid,
      f_is_number := f0,
      d_is_number := PySem.W.fnOf "is_number" "is_number" (defArgs s_is_number) (defBody s_is_number) (defScope s_is_number) .none kV0 dc0 pm0 an0 cd0 ct0,
      f_Frames___init__ := f1,
      d_Frames___init__ := PySem.W.fnOf "__init__" "Frames.__init__" (defArgs s_Frames___init__) (defBody s_Frames___init__) (defScope s_Frames___init__) .none kV1 dc1 pm1 an1 cd1 ct1,
      f_Pages___init__ := f2,
      d_Pages___init__ := PySem.W.fnOf "__init__" "Pages.__init__" (defArgs s_Pages___init__) (defBody s_Pages___init__) (defScope s_Pages___init__) .none kV2 dc2 pm2 an2 cd2 ct2,
      f__law_next := f3,
      d__law_next := PySem.W.fnOf "_law_next" "_law_next" (defArgs s__law_next) (defBody s__law_next) (defScope s__law_next) .none kV3 dc3 pm3 an3 cd3 ct3,
      f_Frames_free := f4,
      d_Frames_free := PySem.W.fnOf "free" "Frames.free" (defArgs s_Frames_free) (defBody s_Frames_free) (defScope s_Frames_free) .none kV4 dc4 pm4 an4 cd4 ct4,
      f_Frames_charge := f5,
      d_Frames_charge := PySem.W.fnOf "charge" "Frames.charge" (defArgs s_Frames_charge) (defBody s_Frames_charge) (defScope s_Frames_charge) .none kV5 dc5 pm5 an5 cd5 ct5,
      f_Frames_share := f6,
      d_Frames_share := PySem.W.fnOf "share" "Frames.share" (defArgs s_Frames_share) (defBody s_Frames_share) (defScope s_Frames_share) .none kV6 dc6 pm6 an6 cd6 ct6,
      f_Frames_left := f7,
      d_Frames_left := PySem.W.fnOf "left" "Frames.left" (defArgs s_Frames_left) (defBody s_Frames_left) (defScope s_Frames_left) .none kV7 dc7 pm7 an7 cd7 ct7,
      f_Frames_may_hold_more := f8,
      d_Frames_may_hold_more := PySem.W.fnOf "may_hold_more" "Frames.may_hold_more" (defArgs s_Frames_may_hold_more) (defBody s_Frames_may_hold_more) (defScope s_Frames_may_hold_more) .none kV8 dc8 pm8 an8 cd8 ct8,
      f_Frames_take := f9,
      d_Frames_take := PySem.W.fnOf "take" "Frames.take" (defArgs s_Frames_take) (defBody s_Frames_take) (defScope s_Frames_take) .none kV9 dc9 pm9 an9 cd9 ct9,
      f_is_environment := f10,
      d_is_environment := PySem.W.fnOf "is_environment" "is_environment" (defArgs s_is_environment) (defBody s_is_environment) (defScope s_is_environment) .none kV10 dc10 pm10 an10 cd10 ct10,
      f_Frames_is_frame := f11,
      d_Frames_is_frame := PySem.W.fnOf "is_frame" "Frames.is_frame" (defArgs s_Frames_is_frame) (defBody s_Frames_is_frame) (defScope s_Frames_is_frame) .none kV11 dc11 pm11 an11 cd11 ct11,
      f_Frames_right := f12,
      d_Frames_right := PySem.W.fnOf "right" "Frames.right" (defArgs s_Frames_right) (defBody s_Frames_right) (defScope s_Frames_right) .none kV12 dc12 pm12 an12 cd12 ct12,
      f_includes := f13,
      d_includes := PySem.W.fnOf "includes" "includes" (defArgs s_includes) (defBody s_includes) (defScope s_includes) .none kV13 dc13 pm13 an13 cd13 ct13,
      f_Frames_offer := f14,
      d_Frames_offer := PySem.W.fnOf "offer" "Frames.offer" (defArgs s_Frames_offer) (defBody s_Frames_offer) (defScope s_Frames_offer) .none kV14 dc14 pm14 an14 cd14 ct14,
      f_Frames_accept := f15,
      d_Frames_accept := PySem.W.fnOf "accept" "Frames.accept" (defArgs s_Frames_accept) (defBody s_Frames_accept) (defScope s_Frames_accept) .none kV15 dc15 pm15 an15 cd15 ct15,
      f_Frames_narrow := f16,
      d_Frames_narrow := PySem.W.fnOf "narrow" "Frames.narrow" (defArgs s_Frames_narrow) (defBody s_Frames_narrow) (defScope s_Frames_narrow) .none kV16 dc16 pm16 an16 cd16 ct16,
      f_is_page := f17,
      d_is_page := PySem.W.fnOf "is_page" "is_page" (defArgs s_is_page) (defBody s_is_page) (defScope s_is_page) .none kV17 dc17 pm17 an17 cd17 ct17,
      f_Pages_entry := f18,
      d_Pages_entry := PySem.W.fnOf "entry" "Pages.entry" (defArgs s_Pages_entry) (defBody s_Pages_entry) (defScope s_Pages_entry) .none kV18 dc18 pm18 an18 cd18 ct18,
      f_Pages__fall := f19,
      d_Pages__fall := PySem.W.fnOf "_fall" "Pages._fall" (defArgs s_Pages__fall) (defBody s_Pages__fall) (defScope s_Pages__fall) .none kV19 dc19 pm19 an19 cd19 ct19,
      f_Pages_narrowed := f20,
      d_Pages_narrowed := PySem.W.fnOf "narrowed" "Pages.narrowed" (defArgs s_Pages_narrowed) (defBody s_Pages_narrowed) (defScope s_Pages_narrowed) .none kV20 dc20 pm20 an20 cd20 ct20,
      f__law_narrow := f21,
      d__law_narrow := PySem.W.fnOf "_law_narrow" "_law_narrow" (defArgs s__law_narrow) (defBody s__law_narrow) (defScope s__law_narrow) .none kV21 dc21 pm21 an21 cd21 ct21,
      f_Frames__end_holding := f22,
      d_Frames__end_holding := PySem.W.fnOf "_end_holding" "Frames._end_holding" (defArgs s_Frames__end_holding) (defBody s_Frames__end_holding) (defScope s_Frames__end_holding) .none kV22 dc22 pm22 an22 cd22 ct22,
      f_Frames_drop := f23,
      d_Frames_drop := PySem.W.fnOf "drop" "Frames.drop" (defArgs s_Frames_drop) (defBody s_Frames_drop) (defScope s_Frames_drop) .none kV23 dc23 pm23 an23 cd23 ct23,
      f_Pages_ended := f24,
      d_Pages_ended := PySem.W.fnOf "ended" "Pages.ended" (defArgs s_Pages_ended) (defBody s_Pages_ended) (defScope s_Pages_ended) .none kV24 dc24 pm24 an24 cd24 ct24,
      f__law_drop := f25,
      d__law_drop := PySem.W.fnOf "_law_drop" "_law_drop" (defArgs s__law_drop) (defBody s__law_drop) (defScope s__law_drop) .none kV25 dc25 pm25 an25 cd25 ct25,
      f__law_book := f26,
      d__law_book := PySem.W.fnOf "_law_book" "_law_book" (defArgs s__law_book) (defBody s__law_book) (defScope s__law_book) .none kV26 dc26 pm26 an26 cd26 ct26,
      f_Pages_map := f27,
      d_Pages_map := PySem.W.fnOf "map" "Pages.map" (defArgs s_Pages_map) (defBody s_Pages_map) (defScope s_Pages_map) .none kV27 dc27 pm27 an27 cd27 ct27,
      f__law_map := f28,
      d__law_map := PySem.W.fnOf "_law_map" "_law_map" (defArgs s__law_map) (defBody s__law_map) (defScope s__law_map) .none kV28 dc28 pm28 an28 cd28 ct28,
      f_Pages_unmap := f29,
      d_Pages_unmap := PySem.W.fnOf "unmap" "Pages.unmap" (defArgs s_Pages_unmap) (defBody s_Pages_unmap) (defScope s_Pages_unmap) .none kV29 dc29 pm29 an29 cd29 ct29,
      f_is_word := f30,
      d_is_word := PySem.W.fnOf "is_word" "is_word" (defArgs s_is_word) (defBody s_is_word) (defScope s_is_word) .none kV30 dc30 pm30 an30 cd30 ct30,
      f_Frames_write := f31,
      d_Frames_write := PySem.W.fnOf "write" "Frames.write" (defArgs s_Frames_write) (defBody s_Frames_write) (defScope s_Frames_write) .none kV31 dc31 pm31 an31 cd31 ct31,
      f_Pages_store := f32,
      d_Pages_store := PySem.W.fnOf "store" "Pages.store" (defArgs s_Pages_store) (defBody s_Pages_store) (defScope s_Pages_store) .none kV32 dc32 pm32 an32 cd32 ct32,
      f__law_store := f33,
      d__law_store := PySem.W.fnOf "_law_store" "_law_store" (defArgs s__law_store) (defBody s__law_store) (defScope s__law_store) .none kV33 dc33 pm33 an33 cd33 ct33,
      f_Frames_read := f34,
      d_Frames_read := PySem.W.fnOf "read" "Frames.read" (defArgs s_Frames_read) (defBody s_Frames_read) (defScope s_Frames_read) .none kV34 dc34 pm34 an34 cd34 ct34,
      f_Pages_load := f35,
      d_Pages_load := PySem.W.fnOf "load" "Pages.load" (defArgs s_Pages_load) (defBody s_Pages_load) (defScope s_Pages_load) .none kV35 dc35 pm35 an35 cd35 ct35,
      f__law_load := f36,
      d__law_load := PySem.W.fnOf "_law_load" "_law_load" (defArgs s__law_load) (defBody s__law_load) (defScope s__law_load) .none kV36 dc36 pm36 an36 cd36 ct36,
      f__law_shown := f37,
      d__law_shown := PySem.W.fnOf "_law_shown" "_law_shown" (defArgs s__law_shown) (defBody s__law_shown) (defScope s__law_shown) .none kV37 dc37 pm37 an37 cd37 ct37,
      f_law := f38,
      d_law := PySem.W.fnOf "law" "law" (defArgs s_law) (defBody s_law) (defScope s_law) .none kV38 dc38 pm38 an38 cd38 ct38,
      t_ENVIRONMENTS := tENVIRONMENTS,
      t_LEAST := tLEAST,
      t_MOST := tMOST,
      t_PAGES := tPAGES,
      t_TOP := tTOP,
      t_WORDS := tWORDS } :=
    { F_is_number := fun_mk (st := s_is_number) l0 c0 k0,
      b_is_number := (fun_mk (st := s_is_number) l0 c0 k0).binds (ps := ["value"]) fun _ _ _ _ _ _ us hl => match us, hl with | [_], _ => rfl,
      g_is_number := PySem.W.mg_of X G a0,
      F_Frames___init__ := fun_mk (st := s_Frames___init__) l1 c1 k1,
      b_Frames___init__ := (fun_mk (st := s_Frames___init__) l1 c1 k1).binds (ps := ["self", "many", "shares"]) fun _ _ _ _ _ _ us hl => match us, hl with | [_, _, _], _ => rfl,
      F_Pages___init__ := fun_mk (st := s_Pages___init__) l2 c2 k2,
      b_Pages___init__ := (fun_mk (st := s_Pages___init__) l2 c2 k2).binds (ps := ["self", "frames"]) fun _ _ _ _ _ _ us hl => match us, hl with | [_, _], _ => rfl,
      F__law_next := fun_mk (st := s__law_next) l3 c3 k3,
      b__law_next := (fun_mk (st := s__law_next) l3 c3 k3).binds (ps := ["_law_tape", "_law_many"]) fun _ _ _ _ _ _ us hl => match us, hl with | [_, _], _ => rfl,
      g__law_next := PySem.W.mg_of X G a3,
      F_Frames_free := fun_mk (st := s_Frames_free) l4 c4 k4,
      b_Frames_free := (fun_mk (st := s_Frames_free) l4 c4 k4).binds (ps := ["self"]) fun _ _ _ _ _ _ us hl => match us, hl with | [_], _ => rfl,
      M_Frames_free := ⟨a4, i4, k4⟩,
      F_Frames_charge := fun_mk (st := s_Frames_charge) l5 c5 k5,
      b_Frames_charge := (fun_mk (st := s_Frames_charge) l5 c5 k5).binds (ps := ["self", "environment"]) fun _ _ _ _ _ _ us hl => match us, hl with | [_, _], _ => rfl,
      M_Frames_charge := ⟨a5, i5, k5⟩,
      F_Frames_share := fun_mk (st := s_Frames_share) l6 c6 k6,
      b_Frames_share := (fun_mk (st := s_Frames_share) l6 c6 k6).binds (ps := ["self", "environment"]) fun _ _ _ _ _ _ us hl => match us, hl with | [_, _], _ => rfl,
      M_Frames_share := ⟨a6, i6, k6⟩,
      F_Frames_left := fun_mk (st := s_Frames_left) l7 c7 k7,
      b_Frames_left := (fun_mk (st := s_Frames_left) l7 c7 k7).binds (ps := ["self"]) fun _ _ _ _ _ _ us hl => match us, hl with | [_], _ => rfl,
      M_Frames_left := ⟨a7, i7, k7⟩,
      F_Frames_may_hold_more := fun_mk (st := s_Frames_may_hold_more) l8 c8 k8,
      b_Frames_may_hold_more := (fun_mk (st := s_Frames_may_hold_more) l8 c8 k8).binds (ps := ["self", "environment"]) fun _ _ _ _ _ _ us hl => match us, hl with | [_, _], _ => rfl,
      M_Frames_may_hold_more := ⟨a8, i8, k8⟩,
      F_Frames_take := fun_mk (st := s_Frames_take) l9 c9 k9,
      b_Frames_take := (fun_mk (st := s_Frames_take) l9 c9 k9).binds (ps := ["self", "environment"]) fun _ _ _ _ _ _ us hl => match us, hl with | [_, _], _ => rfl,
      M_Frames_take := ⟨a9, i9, k9⟩,
      F_is_environment := fun_mk (st := s_is_environment) l10 c10 k10,
      b_is_environment := (fun_mk (st := s_is_environment) l10 c10 k10).binds (ps := ["value"]) fun _ _ _ _ _ _ us hl => match us, hl with | [_], _ => rfl,
      g_is_environment := PySem.W.mg_of X G a10,
      F_Frames_is_frame := fun_mk (st := s_Frames_is_frame) l11 c11 k11,
      b_Frames_is_frame := (fun_mk (st := s_Frames_is_frame) l11 c11 k11).binds (ps := ["self", "frame"]) fun _ _ _ _ _ _ us hl => match us, hl with | [_, _], _ => rfl,
      M_Frames_is_frame := ⟨a11, i11, k11⟩,
      F_Frames_right := fun_mk (st := s_Frames_right) l12 c12 k12,
      b_Frames_right := (fun_mk (st := s_Frames_right) l12 c12 k12).binds (ps := ["self", "environment", "frame"]) fun _ _ _ _ _ _ us hl => match us, hl with | [_, _, _], _ => rfl,
      M_Frames_right := ⟨a12, i12, k12⟩,
      F_includes := fun_mk (st := s_includes) l13 c13 k13,
      b_includes := (fun_mk (st := s_includes) l13 c13 k13).binds (ps := ["right", "wanted"]) fun _ _ _ _ _ _ us hl => match us, hl with | [_, _], _ => rfl,
      g_includes := PySem.W.mg_of X G a13,
      F_Frames_offer := fun_mk (st := s_Frames_offer) l14 c14 k14,
      b_Frames_offer := (fun_mk (st := s_Frames_offer) l14 c14 k14).binds (ps := ["self", "environment", "frame", "other", "right"]) fun _ _ _ _ _ _ us hl => match us, hl with | [_, _, _, _, _], _ => rfl,
      M_Frames_offer := ⟨a14, i14, k14⟩,
      F_Frames_accept := fun_mk (st := s_Frames_accept) l15 c15 k15,
      b_Frames_accept := (fun_mk (st := s_Frames_accept) l15 c15 k15).binds (ps := ["self", "environment", "frame", "owner"]) fun _ _ _ _ _ _ us hl => match us, hl with | [_, _, _, _], _ => rfl,
      M_Frames_accept := ⟨a15, i15, k15⟩,
      F_Frames_narrow := fun_mk (st := s_Frames_narrow) l16 c16 k16,
      b_Frames_narrow := (fun_mk (st := s_Frames_narrow) l16 c16 k16).binds (ps := ["self", "environment", "frame"]) fun _ _ _ _ _ _ us hl => match us, hl with | [_, _, _], _ => rfl,
      M_Frames_narrow := ⟨a16, i16, k16⟩,
      F_is_page := fun_mk (st := s_is_page) l17 c17 k17,
      b_is_page := (fun_mk (st := s_is_page) l17 c17 k17).binds (ps := ["value"]) fun _ _ _ _ _ _ us hl => match us, hl with | [_], _ => rfl,
      g_is_page := PySem.W.mg_of X G a17,
      F_Pages_entry := fun_mk (st := s_Pages_entry) l18 c18 k18,
      b_Pages_entry := (fun_mk (st := s_Pages_entry) l18 c18 k18).binds (ps := ["self", "environment", "page"]) fun _ _ _ _ _ _ us hl => match us, hl with | [_, _, _], _ => rfl,
      M_Pages_entry := ⟨a18, i18, k18⟩,
      F_Pages__fall := fun_mk (st := s_Pages__fall) l19 c19 k19,
      b_Pages__fall := (fun_mk (st := s_Pages__fall) l19 c19 k19).binds (ps := ["self", "environment", "frame", "rights"]) fun _ _ _ _ _ _ us hl => match us, hl with | [_, _, _, _], _ => rfl,
      M_Pages__fall := ⟨a19, i19, k19⟩,
      F_Pages_narrowed := fun_mk (st := s_Pages_narrowed) l20 c20 k20,
      b_Pages_narrowed := (fun_mk (st := s_Pages_narrowed) l20 c20 k20).binds (ps := ["self", "environment", "frame"]) fun _ _ _ _ _ _ us hl => match us, hl with | [_, _, _], _ => rfl,
      M_Pages_narrowed := ⟨a20, i20, k20⟩,
      F__law_narrow := fun_mk (st := s__law_narrow) l21 c21 k21,
      b__law_narrow := (fun_mk (st := s__law_narrow) l21 c21 k21).binds (ps := ["_law_frames", "_law_pages", "_law_entries", "_law_environment", "_law_frame"]) fun _ _ _ _ _ _ us hl => match us, hl with | [_, _, _, _, _], _ => rfl,
      g__law_narrow := PySem.W.mg_of X G a21,
      F_Frames__end_holding := fun_mk (st := s_Frames__end_holding) l22 c22 k22,
      b_Frames__end_holding := (fun_mk (st := s_Frames__end_holding) l22 c22 k22).binds (ps := ["self", "environment", "frame"]) fun _ _ _ _ _ _ us hl => match us, hl with | [_, _, _], _ => rfl,
      M_Frames__end_holding := ⟨a22, i22, k22⟩,
      F_Frames_drop := fun_mk (st := s_Frames_drop) l23 c23 k23,
      b_Frames_drop := (fun_mk (st := s_Frames_drop) l23 c23 k23).binds (ps := ["self", "environment", "frame"]) fun _ _ _ _ _ _ us hl => match us, hl with | [_, _, _], _ => rfl,
      M_Frames_drop := ⟨a23, i23, k23⟩,
      F_Pages_ended := fun_mk (st := s_Pages_ended) l24 c24 k24,
      b_Pages_ended := (fun_mk (st := s_Pages_ended) l24 c24 k24).binds (ps := ["self", "environment", "frame"]) fun _ _ _ _ _ _ us hl => match us, hl with | [_, _, _], _ => rfl,
      M_Pages_ended := ⟨a24, i24, k24⟩,
      F__law_drop := fun_mk (st := s__law_drop) l25 c25 k25,
      b__law_drop := (fun_mk (st := s__law_drop) l25 c25 k25).binds (ps := ["_law_frames", "_law_pages", "_law_entries", "_law_environment", "_law_frame"]) fun _ _ _ _ _ _ us hl => match us, hl with | [_, _, _, _, _], _ => rfl,
      g__law_drop := PySem.W.mg_of X G a25,
      F__law_book := fun_mk (st := s__law_book) l26 c26 k26,
      b__law_book := (fun_mk (st := s__law_book) l26 c26 k26).binds (ps := ["_law_tape", "_law_frames", "_law_pages", "_law_entries", "_law_words"]) fun _ _ _ _ _ _ us hl => match us, hl with | [_, _, _, _, _], _ => rfl,
      g__law_book := PySem.W.mg_of X G a26,
      F_Pages_map := fun_mk (st := s_Pages_map) l27 c27 k27,
      b_Pages_map := (fun_mk (st := s_Pages_map) l27 c27 k27).binds (ps := ["self", "environment", "page", "frame", "right"]) fun _ _ _ _ _ _ us hl => match us, hl with | [_, _, _, _, _], _ => rfl,
      M_Pages_map := ⟨a27, i27, k27⟩,
      F__law_map := fun_mk (st := s__law_map) l28 c28 k28,
      b__law_map := (fun_mk (st := s__law_map) l28 c28 k28).binds (ps := ["_law_tape", "_law_frames", "_law_pages", "_law_entries"]) fun _ _ _ _ _ _ us hl => match us, hl with | [_, _, _, _], _ => rfl,
      g__law_map := PySem.W.mg_of X G a28,
      F_Pages_unmap := fun_mk (st := s_Pages_unmap) l29 c29 k29,
      b_Pages_unmap := (fun_mk (st := s_Pages_unmap) l29 c29 k29).binds (ps := ["self", "environment", "page"]) fun _ _ _ _ _ _ us hl => match us, hl with | [_, _, _], _ => rfl,
      M_Pages_unmap := ⟨a29, i29, k29⟩,
      F_is_word := fun_mk (st := s_is_word) l30 c30 k30,
      b_is_word := (fun_mk (st := s_is_word) l30 c30 k30).binds (ps := ["value"]) fun _ _ _ _ _ _ us hl => match us, hl with | [_], _ => rfl,
      g_is_word := PySem.W.mg_of X G a30,
      F_Frames_write := fun_mk (st := s_Frames_write) l31 c31 k31,
      b_Frames_write := (fun_mk (st := s_Frames_write) l31 c31 k31).binds (ps := ["self", "frame", "index", "word"]) fun _ _ _ _ _ _ us hl => match us, hl with | [_, _, _, _], _ => rfl,
      M_Frames_write := ⟨a31, i31, k31⟩,
      F_Pages_store := fun_mk (st := s_Pages_store) l32 c32 k32,
      b_Pages_store := (fun_mk (st := s_Pages_store) l32 c32 k32).binds (ps := ["self", "environment", "page", "index", "word"]) fun _ _ _ _ _ _ us hl => match us, hl with | [_, _, _, _, _], _ => rfl,
      M_Pages_store := ⟨a32, i32, k32⟩,
      F__law_store := fun_mk (st := s__law_store) l33 c33 k33,
      b__law_store := (fun_mk (st := s__law_store) l33 c33 k33).binds (ps := ["_law_tape", "_law_pages", "_law_entries", "_law_words"]) fun _ _ _ _ _ _ us hl => match us, hl with | [_, _, _, _], _ => rfl,
      g__law_store := PySem.W.mg_of X G a33,
      F_Frames_read := fun_mk (st := s_Frames_read) l34 c34 k34,
      b_Frames_read := (fun_mk (st := s_Frames_read) l34 c34 k34).binds (ps := ["self", "frame", "index"]) fun _ _ _ _ _ _ us hl => match us, hl with | [_, _, _], _ => rfl,
      M_Frames_read := ⟨a34, i34, k34⟩,
      F_Pages_load := fun_mk (st := s_Pages_load) l35 c35 k35,
      b_Pages_load := (fun_mk (st := s_Pages_load) l35 c35 k35).binds (ps := ["self", "environment", "page", "index"]) fun _ _ _ _ _ _ us hl => match us, hl with | [_, _, _, _], _ => rfl,
      M_Pages_load := ⟨a35, i35, k35⟩,
      F__law_load := fun_mk (st := s__law_load) l36 c36 k36,
      b__law_load := (fun_mk (st := s__law_load) l36 c36 k36).binds (ps := ["_law_tape", "_law_pages", "_law_entries", "_law_words"]) fun _ _ _ _ _ _ us hl => match us, hl with | [_, _, _, _], _ => rfl,
      g__law_load := PySem.W.mg_of X G a36,
      F__law_shown := fun_mk (st := s__law_shown) l37 c37 k37,
      b__law_shown := (fun_mk (st := s__law_shown) l37 c37 k37).binds (ps := ["_law_frames", "_law_pages", "_law_entries"]) fun _ _ _ _ _ _ us hl => match us, hl with | [_, _, _], _ => rfl,
      g__law_shown := PySem.W.mg_of X G a37,
      F_law := fun_mk (st := s_law) l38 c38 k38,
      b_law := (fun_mk (st := s_law) l38 c38 k38).binds (ps := ["_law_script"]) fun _ _ _ _ _ _ us hl => match us, hl with | [_], _ => rfl,
      g_law := PySem.W.mg_of X G a38,
      cl_Frames := ⟨pgFrames, hdFrames, poFrames, saFrames⟩,
      gc_Frames := PySem.W.mg_of X G AFrames,
      mk_Frames := ⟨mkFrames, a1, i1, kcFrames⟩,
      cl_Pages := ⟨pgPages, hdPages, poPages, saPages⟩,
      gc_Pages := PySem.W.mg_of X G APages,
      mk_Pages := ⟨mkPages, a2, i2, kcPages⟩,
      na_Frames_holders := naFramesholders,
      na_Frames_lost := naFrameslost,
      na_Frames_many := naFramesmany,
      na_Frames_offers := naFramesoffers,
      na_Frames_order := naFramesorder,
      na_Frames_shares := naFramesshares,
      na_Frames_wanted := naFrameswanted,
      na_Frames_words := naFrameswords,
      na_Pages_entries := naPagesentries,
      na_Pages_frames := naPagesframes,
      n_abs := PySem.W.mg_none_of X G zabs,
      n_all := PySem.W.mg_none_of X G zall,
      n_bool := PySem.W.mg_none_of X G zbool,
      n_int := PySem.W.mg_none_of X G zint,
      n_isinstance := PySem.W.mg_none_of X G zisinstance,
      n_len := PySem.W.mg_none_of X G zlen,
      n_list := PySem.W.mg_none_of X G zlist,
      n_max := PySem.W.mg_none_of X G zmax,
      n_range := PySem.W.mg_none_of X G zrange,
      n_sum := PySem.W.mg_none_of X G zsum,
      k_ENVIRONMENTS := PySem.W.mg_of X G KENVIRONMENTS,
      k_LEAST := PySem.W.mg_of X G KLEAST,
      k_MOST := PySem.W.mg_of X G KMOST,
      k_PAGES := PySem.W.mg_of X G KPAGES,
      k_RIGHTS := ⟨_, PySem.W.mg_of X G KRIGHTS, .tup lbRIGHTS_ rfl rfl (le_line (by show 2 ≤ lim; decide)) (.cons (.str rfl) (.cons (.str rfl) (.nil)))⟩,
      k_TOP := PySem.W.mg_of X G KTOP,
      k_WORDS := PySem.W.mg_of X G KWORDS,
      gc_NotValid := PySem.W.mg_of X G ANotValid,
      x_NotValid := xNotValid,
      kp_NotValid := xkNotValid,
      bs_NotValid := xbNotValid,
      ty_NotValid := xtNotValid,
      ex_NotValid := exm_self xbNotValid xiNotValid xtNotValid xsNotValid }
  exact ⟨_, fun s v => .of_eq rfl, fun base _ _ => law_of (ok_law (P := l.prog) (w := w) (base := base) O) law_true⟩
theorem walk {l : PySem.W.OpenLaw} {q : Program} {loose : List Str} {XP : (Str → Option Value) → PySem.Heap → Prop} {YP : World → PySem.Heap → Prop} {d : DefRec} {K : Params → PySem.W.Frag} (hn : l.most = some 63) (hdf : d.params.defaults = [])
    (hY : ∀ (w : World) (h : PySem.Heap), YP w h → (K w.params).In h)
    (F : ∀ (w : World) (mg : Str → Option Value) (fa : Addr) (h : PySem.Heap), (K w.params).In h → h.Ns mainGlobals mg → mg d.name = some (.ref fa) →
      ∃ fd : FuncData, (∀ (s : Shared) (u : Value), BindsTo s fd ⟨[u], []⟩ [("_law_script", u)]) ∧ ∀ base : PySem.Heap, (K w.params).In base → base.Ns mainGlobals mg → FnOk l.prog w (K w.params) mg base (L2.CX l.prog w) 8 fa fd ["_law_script"] (spLaw (K w.params))) :
    PySem.W.WalkO q loose XP YP l.row.toRowW d [] (fun f vs => PySem.call f vs) :=
  L2.walk_of (n := 63) (k := 8) (x := "_law_script") (CX := fun w => L2.CX l.prog w) (sp := fun w => spLaw (K w.params)) hn (by decide) hdf ⟨rfl, by decide, by decide⟩ hY F (fun _ H a ns hl hO hS => ⟨a, ns, rfl, hl, hO, hS, fun _ => rfl⟩) fun _ _ _ _ _ z => by
    obtain ⟨_, _, _, _, _, _, _, _, _, _, _, _, z⟩ := z
    exact z
end Lw

set_option Elab.async false
set_option linter.all false
open PySem PySem.W PyProof.Rows
set_option maxRecDepth 100000 in
set_option maxHeartbeats 0 in
theorem PySem.Challenge.cw_steadhold_k33_pages_never_give_more_than_holds : PySem.Challenge.rw_steadhold_k33_pages_never_give_more_than.Holds := by
  w_on; o_law; k_head; (case hw => w_witness2)
  k_fill
  refine Lw.walk (l := PySem.Challenge.rw_steadhold_k33_pages_never_give_more_than) rfl rfl (fun w h Y => PySem.W.kIn_of Y) ?F
  case F =>
    intro w mg fa h KX G hmg
    refine' Lw.all_mk KX G hmg ?AFrames ?APages ?ANotValid ?a0 ?a1 ?i1 ?a2 ?i2 ?a3 ?a4 ?i4 ?a5 ?i5 ?a6 ?i6 ?a7 ?i7 ?a8 ?i8 ?a9 ?i9 ?a10 ?a11 ?i11 ?a12 ?i12 ?a13 ?a14 ?i14 ?a15 ?i15 ?a16 ?i16 ?a17 ?a18 ?i18 ?a19 ?i19 ?a20 ?i20 ?a21 ?a22 ?i22 ?a23 ?i23 ?a24 ?i24 ?a25 ?a26 ?a27 ?i27 ?a28 ?a29 ?i29 ?a30 ?a31 ?i31 ?a32 ?i32 ?a33 ?a34 ?i34 ?a35 ?i35 ?a36 ?a37 ?a38 ?KENVIRONMENTS ?KLEAST ?KMOST ?KPAGES ?KRIGHTS ?lbRIGHTS_ ?KTOP ?KWORDS ?l0 ?c0 ?k0 ?l1 ?c1 ?k1 ?l2 ?c2 ?k2 ?l3 ?c3 ?k3 ?l4 ?c4 ?k4 ?l5 ?c5 ?k5 ?l6 ?c6 ?k6 ?l7 ?c7 ?k7 ?l8 ?c8 ?k8 ?l9 ?c9 ?k9 ?l10 ?c10 ?k10 ?l11 ?c11 ?k11 ?l12 ?c12 ?k12 ?l13 ?c13 ?k13 ?l14 ?c14 ?k14 ?l15 ?c15 ?k15 ?l16 ?c16 ?k16 ?l17 ?c17 ?k17 ?l18 ?c18 ?k18 ?l19 ?c19 ?k19 ?l20 ?c20 ?k20 ?l21 ?c21 ?k21 ?l22 ?c22 ?k22 ?l23 ?c23 ?k23 ?l24 ?c24 ?k24 ?l25 ?c25 ?k25 ?l26 ?c26 ?k26 ?l27 ?c27 ?k27 ?l28 ?c28 ?k28 ?l29 ?c29 ?k29 ?l30 ?c30 ?k30 ?l31 ?c31 ?k31 ?l32 ?c32 ?k32 ?l33 ?c33 ?k33 ?l34 ?c34 ?k34 ?l35 ?c35 ?k35 ?l36 ?c36 ?k36 ?l37 ?c37 ?k37 ?l38 ?c38 ?k38 ?pgFrames ?hdFrames ?poFrames ?saFrames ?mkFrames ?kcFrames ?pgPages ?hdPages ?poPages ?saPages ?mkPages ?kcPages ?naFramesholders ?naFrameslost ?naFramesmany ?naFramesoffers ?naFramesorder ?naFramesshares ?naFrameswanted ?naFrameswords ?naPagesentries ?naPagesframes ?zabs ?zall ?zbool ?zint ?zisinstance ?zlen ?zlist ?zmax ?zrange ?zsum ?xNotValid ?xkNotValid ?xbNotValid ?xtNotValid ?xsNotValid ?xiNotValid
    (case AFrames => k_is)
    (case APages => k_is)
    (case ANotValid => k_is)
    (case a0 => k_is)
    (case a1 => k_is)
    (case i1 => k_is)
    (case a2 => k_is)
    (case i2 => k_is)
    (case a3 => k_is)
    (case a4 => k_is)
    (case i4 => k_is)
    (case a5 => k_is)
    (case i5 => k_is)
    (case a6 => k_is)
    (case i6 => k_is)
    (case a7 => k_is)
    (case i7 => k_is)
    (case a8 => k_is)
    (case i8 => k_is)
    (case a9 => k_is)
    (case i9 => k_is)
    (case a10 => k_is)
    (case a11 => k_is)
    (case i11 => k_is)
    (case a12 => k_is)
    (case i12 => k_is)
    (case a13 => k_is)
    (case a14 => k_is)
    (case i14 => k_is)
    (case a15 => k_is)
    (case i15 => k_is)
    (case a16 => k_is)
    (case i16 => k_is)
    (case a17 => k_is)
    (case a18 => k_is)
    (case i18 => k_is)
    (case a19 => k_is)
    (case i19 => k_is)
    (case a20 => k_is)
    (case i20 => k_is)
    (case a21 => k_is)
    (case a22 => k_is)
    (case i22 => k_is)
    (case a23 => k_is)
    (case i23 => k_is)
    (case a24 => k_is)
    (case i24 => k_is)
    (case a25 => k_is)
    (case a26 => k_is)
    (case a27 => k_is)
    (case i27 => k_is)
    (case a28 => k_is)
    (case a29 => k_is)
    (case i29 => k_is)
    (case a30 => k_is)
    (case a31 => k_is)
    (case i31 => k_is)
    (case a32 => k_is)
    (case i32 => k_is)
    (case a33 => k_is)
    (case a34 => k_is)
    (case i34 => k_is)
    (case a35 => k_is)
    (case i35 => k_is)
    (case a36 => k_is)
    (case a37 => k_is)
    (case a38 => k_is)
    (case KENVIRONMENTS => k_is)
    (case KLEAST => k_is)
    (case KMOST => k_is)
    (case KPAGES => k_is)
    (case KRIGHTS => k_is)
    (case lbRIGHTS_ => k_is)
    (case KTOP => k_is)
    (case KWORDS => k_is)
    (case l0 => k_is)
    (case c0 => k_is)
    (case k0 => k_is)
    (case l1 => k_is)
    (case c1 => k_is)
    (case k1 => k_is)
    (case l2 => k_is)
    (case c2 => k_is)
    (case k2 => k_is)
    (case l3 => k_is)
    (case c3 => k_is)
    (case k3 => k_is)
    (case l4 => k_is)
    (case c4 => k_is)
    (case k4 => k_is)
    (case l5 => k_is)
    (case c5 => k_is)
    (case k5 => k_is)
    (case l6 => k_is)
    (case c6 => k_is)
    (case k6 => k_is)
    (case l7 => k_is)
    (case c7 => k_is)
    (case k7 => k_is)
    (case l8 => k_is)
    (case c8 => k_is)
    (case k8 => k_is)
    (case l9 => k_is)
    (case c9 => k_is)
    (case k9 => k_is)
    (case l10 => k_is)
    (case c10 => k_is)
    (case k10 => k_is)
    (case l11 => k_is)
    (case c11 => k_is)
    (case k11 => k_is)
    (case l12 => k_is)
    (case c12 => k_is)
    (case k12 => k_is)
    (case l13 => k_is)
    (case c13 => k_is)
    (case k13 => k_is)
    (case l14 => k_is)
    (case c14 => k_is)
    (case k14 => k_is)
    (case l15 => k_is)
    (case c15 => k_is)
    (case k15 => k_is)
    (case l16 => k_is)
    (case c16 => k_is)
    (case k16 => k_is)
    (case l17 => k_is)
    (case c17 => k_is)
    (case k17 => k_is)
    (case l18 => k_is)
    (case c18 => k_is)
    (case k18 => k_is)
    (case l19 => k_is)
    (case c19 => k_is)
    (case k19 => k_is)
    (case l20 => k_is)
    (case c20 => k_is)
    (case k20 => k_is)
    (case l21 => k_is)
    (case c21 => k_is)
    (case k21 => k_is)
    (case l22 => k_is)
    (case c22 => k_is)
    (case k22 => k_is)
    (case l23 => k_is)
    (case c23 => k_is)
    (case k23 => k_is)
    (case l24 => k_is)
    (case c24 => k_is)
    (case k24 => k_is)
    (case l25 => k_is)
    (case c25 => k_is)
    (case k25 => k_is)
    (case l26 => k_is)
    (case c26 => k_is)
    (case k26 => k_is)
    (case l27 => k_is)
    (case c27 => k_is)
    (case k27 => k_is)
    (case l28 => k_is)
    (case c28 => k_is)
    (case k28 => k_is)
    (case l29 => k_is)
    (case c29 => k_is)
    (case k29 => k_is)
    (case l30 => k_is)
    (case c30 => k_is)
    (case k30 => k_is)
    (case l31 => k_is)
    (case c31 => k_is)
    (case k31 => k_is)
    (case l32 => k_is)
    (case c32 => k_is)
    (case k32 => k_is)
    (case l33 => k_is)
    (case c33 => k_is)
    (case k33 => k_is)
    (case l34 => k_is)
    (case c34 => k_is)
    (case k34 => k_is)
    (case l35 => k_is)
    (case c35 => k_is)
    (case k35 => k_is)
    (case l36 => k_is)
    (case c36 => k_is)
    (case k36 => k_is)
    (case l37 => k_is)
    (case c37 => k_is)
    (case k37 => k_is)
    (case l38 => k_is)
    (case c38 => k_is)
    (case k38 => k_is)
    (case pgFrames => k_is)
    (case hdFrames => k_is)
    (case poFrames => k_is)
    (case saFrames => k_is)
    (case mkFrames => k_is)
    (case kcFrames => k_is)
    (case pgPages => k_is)
    (case hdPages => k_is)
    (case poPages => k_is)
    (case saPages => k_is)
    (case mkPages => k_is)
    (case kcPages => k_is)
    (case naFramesholders => k_is)
    (case naFrameslost => k_is)
    (case naFramesmany => k_is)
    (case naFramesoffers => k_is)
    (case naFramesorder => k_is)
    (case naFramesshares => k_is)
    (case naFrameswanted => k_is)
    (case naFrameswords => k_is)
    (case naPagesentries => k_is)
    (case naPagesframes => k_is)
    (case zabs => k_is)
    (case zall => k_is)
    (case zbool => k_is)
    (case zint => k_is)
    (case zisinstance => k_is)
    (case zlen => k_is)
    (case zlist => k_is)
    (case zmax => k_is)
    (case zrange => k_is)
    (case zsum => k_is)
    (case xNotValid => k_exc)
    (case xkNotValid => k_is)
    (case xbNotValid => k_is)
    (case xtNotValid => k_is)
    (case xsNotValid => k_is)
    (case xiNotValid => k_is)
