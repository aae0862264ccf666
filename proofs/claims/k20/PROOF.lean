import PyProof.Rows.All
import Wide.All
import OpenK.AllK
import Wide.FinOn
import HandS.ForMost
import HandS.Exc
import HandS.TryOnly
import HandS.ExcOwn
import HandS.WordsExc
import HandS.TupAny
import HandS.Deep
import HandS.TupMul
import HandS.IsInst
import HandS.Small
import HandS.SortInts
import HandS.TupLe
import HandS.More
import HandS.Style
import PyProof.DictMoreH
import HandS.DictTup
import HandS.SetFor
import HandS.Flow
import HandS.Text
import KE.KEqDict
import PyProof.NeKinds
import HandS.Conv
import PySem.Challenge.RW_steadhold_k20_faults_of_disks
set_option Elab.async false
set_option linter.all false
set_option maxRecDepth 100000
set_option autoImplicit false
/-! PyM: a plain model of the program: values, heap, results; and how it stands to the layer's readings. -/
namespace PyM
open PySem L2

inductive Val where
  | non | bl (b : Bool) | int (i : Int) | str (n : Nat) | tup (xs : List Val) | ref (n : Nat)
inductive Obj where
  | lst (xs : List Val) | fls (xs : List Val) | dct (kvs : List (Val × Val)) | dcT (kvs : List (Val × Val)) | fdc (kvs : List (Val × Val)) | fdT (kvs : List (Val × Val)) | ins (c : Nat) (fs : List (Nat × Val))
abbrev Heap := List Obj
inductive Res (α : Type) where
  | ok (a : α) (h : Heap) | raised (c : Nat) (h : Heap) | stuck
abbrev En := List (Option Val)
inductive RS where
  | nx (s : En) (h : Heap) | rt (v : Val) (h : Heap) | bk (s : En) (h : Heap) | ct (s : En) (h : Heap) | raised (c : Nat) (h : Heap) | stuck

structure Cfg where
  K : PySem.W.Frag
  cls : List Addr
  nms : List Str
  sts : List Str

section
variable (G : Cfg) (r : List Addr) (H : Hp)
mutual
inductive VR : Val → V → Prop
  | non : VR .non .non
  | bl (b : Bool) : VR (.bl b) (.bl b)
  | int (i : Int) : VR (.int i) (.int i)
  | str {n : Nat} {x : Str} : G.sts[n]? = some x → VR (.str n) (.str x)
  | tup {xs : List Val} {vs : List V} {a : Addr} : SqT G.K H a vs → VRs xs vs → VR (.tup xs) (.ref a)
  | ref {n : Nat} {a : Addr} : r[n]? = some a → VR (.ref n) (.ref a)
inductive VRs : List Val → List V → Prop
  | nil : VRs [] []
  | cons {x : Val} {v : V} {xs : List Val} {vs : List V} : VR x v → VRs xs vs → VRs (x :: xs) (v :: vs)
end
/-- slots -/
inductive SR : En → St → Prop
  | nil : SR [] []
  | no {o : Option V} {s : En} {t : St} : SR s t → SR (none :: s) (o :: t)
  | so {x : Val} {v : V} {s : En} {t : St} : VR G r H x v → SR s t → SR (some x :: s) (some v :: t)
inductive FR (C : Addr) : List (Nat × Val) → List (Str × V) → Prop
  | nil : FR C [] []
  | cons {f : Nat} {z : Str} {x : Val} {v : V} {fs gs} : G.nms[f]? = some z → NoAttr G.K C z → VR G r H x v → FR C fs gs → FR C ((f, x) :: fs) ((z, v) :: gs)
/-- keys of a dict -/
inductive KR : Val → Key → Prop
  | int (i : Int) : KR (.int i) (.inl i)
  | str {n : Nat} {x : Str} : G.sts[n]? = some x → KR (.str n) (.inr x)
inductive KRs : List Val → List Key → Prop
  | nil : KRs [] []
  | cons {x k xs ks} : KR G x k → KRs xs ks → KRs (x :: xs) (k :: ks)
inductive DR : List (Val × Val) → List (Key × V) → Prop
  | nil : DR [] []
  | cons {k x : Val} {q : Key} {v : V} {d e} : KR G k q → VR G r H x v → DR d e → DR ((k, x) :: d) ((q, v) :: e)
inductive DTR : List (Val × Val) → List (List Key × V) → Prop
  | nil : DTR [] []
  | cons {ks : List Val} {x : Val} {qs : List Key} {v : V} {d e} : KRs G ks qs → VR G r H x v → DTR d e → DTR ((.tup ks, x) :: d) ((qs, v) :: e)
/-- a list that is read alone: the script's -/
def FL (K : PySem.W.Frag) (H : Hp) (a : Addr) (xs : List V) : Prop := (∃ o, H a = some (.frz o (.lst xs))) ∨
  ∃ (o : PySem.Obj) (its : Array Value) (n : Nat), K.lookup a = some o ∧ o.cls = .type "list" ∧ o.dict = none ∧ o.data = .seq its n ∧ its.size ≤ sizeLine ∧ Vals xs its.toList
def isFls : Obj → Bool
  | .fls _ => true
  | _ => false
inductive OR : Obj → Addr → Prop
  | lst {xs vs a} : H a = some (.lst vs) → VRs G r H xs vs → OR (.lst xs) a
  | fls {xs vs a} : FL G.K H a vs → VRs G r H xs vs → OR (.fls xs) a
  | dct {d e a} : H a = some (.dK e) → DR G r H d e → OR (.dct d) a
  | dcT {d e a} : H a = some (.dT e) → DTR G r H d e → OR (.dcT d) a
  | fdc {d e o a} : H a = some (.frz o (.dK e)) → DR G r H d e → OR (.fdc d) a
  | fdT {d e o a} : H a = some (.frz o (.dT e)) → DTR G r H d e → OR (.fdT d) a
  | ins {c C dx fs gs a} : G.cls[c]? = some C → Cls G.K C → H a = some (.ins C dx gs) → FR G r H C fs gs → OR (.ins c fs) a
structure HR (h : Heap) : Prop where
  len : r.length = h.length
  nd : ∀ (i j : Nat) (a : Addr) (x y : Obj), h[i]? = some x → h[j]? = some y → r[i]? = some a → r[j]? = some a → isFls x = false → isFls y = false → i = j
  ob : ∀ (n : Nat) (o : Obj) (a : Addr), h[n]? = some o → r[n]? = some a → OR G r H o a
end

/-- tuples stay -/
structure Stp (K : PySem.W.Frag) (r : List Addr) (H : Hp) (r' : List Addr) (H' : Hp) : Prop where
  pre : ∀ (n : Nat) (a : Addr), r[n]? = some a → r'[n]? = some a
  tup : ∀ a xs, SqT K H a xs → SqT K H' a xs
  frl : ∀ a o xs, H a = some (.frz o xs) → H' a = some (.frz o xs)
  tpl : ∀ a xs, H a = some (.tup xs) → H' a = some (.tup xs)
theorem Stp.refl {K : PySem.W.Frag} {r : List Addr} {H : Hp} : Stp K r H r H := ⟨fun _ _ h => h, fun _ _ h => h, fun _ _ _ h => h, fun _ _ h => h⟩
theorem Stp.trans {K : PySem.W.Frag} {r r1 r2 : List Addr} {H H1 H2 : Hp} (a : Stp K r H r1 H1) (b : Stp K r1 H1 r2 H2) : Stp K r H r2 H2 :=
  ⟨fun n x h => b.pre n x (a.pre n x h), fun x xs h => b.tup x xs (a.tup x xs h), fun x o xs h => b.frl x o xs (a.frl x o xs h), fun x xs h => b.tpl x xs (a.tpl x xs h)⟩

/-- .. weaker: a dict may be unlocked -/
structure Stw (K : PySem.W.Frag) (r : List Addr) (H : Hp) (r' : List Addr) (H' : Hp) : Prop where
  pre : ∀ (n : Nat) (a : Addr), r[n]? = some a → r'[n]? = some a
  tup : ∀ a xs, SqT K H a xs → SqT K H' a xs
  frl : ∀ a o xs, H a = some (.frz o (.lst xs)) → H' a = some (.frz o (.lst xs))
theorem Stp.w {K : PySem.W.Frag} {r r' : List Addr} {H H' : Hp} (s : Stp K r H r' H') : Stw K r H r' H' := ⟨s.pre, s.tup, fun a o xs h => s.frl a o _ h⟩

section
variable {G : Cfg} {r r' : List Addr} {H H' : Hp}
mutual
theorem VR.monow (q : Stw G.K r H r' H') : ∀ (x : Val) (v : V), VR G r H x v → VR G r' H' x v
  | .non, _, .non => .non
  | .bl _, _, .bl b => .bl b
  | .int _, _, .int b => .int b
  | .str _, _, .str e => .str e
  | .tup xs, _, .tup e k => .tup (q.tup _ _ e) (VRs.monow q xs _ k)
  | .ref _, _, .ref e => .ref (q.pre _ _ e)
theorem VRs.monow (q : Stw G.K r H r' H') : ∀ (xs : List Val) (vs : List V), VRs G r H xs vs → VRs G r' H' xs vs
  | [], _, .nil => .nil
  | x :: xs, _, .cons a b => .cons (VR.monow q x _ a) (VRs.monow q xs _ b)
end
theorem SR.monow (q : Stw G.K r H r' H') {s t} (a : SR G r H s t) : SR G r' H' s t := by
  induction a with
  | nil => exact .nil
  | no _ ih => exact .no ih
  | so x _ ih => exact .so (x.monow q) ih
theorem FR.monow (q : Stw G.K r H r' H') {C s t} (a : FR G r H C s t) : FR G r' H' C s t := by
  induction a with
  | nil => exact .nil
  | cons a b c _ ih => exact .cons a b (c.monow q) ih
theorem DR.monow (q : Stw G.K r H r' H') {s t} (a : DR G r H s t) : DR G r' H' s t := by
  induction a with
  | nil => exact .nil
  | cons a c _ ih => exact .cons a (c.monow q) ih
theorem DTR.monow (q : Stw G.K r H r' H') {s t} (a : DTR G r H s t) : DTR G r' H' s t := by
  induction a with
  | nil => exact .nil
  | cons a c _ ih => exact .cons a (c.monow q) ih
theorem FL.sq {K : PySem.W.Frag} {a : Addr} {xs : List V} (f : FL K H a xs) : SqL K H a xs := f.elim (fun q => .inl (.inr q)) .inr
theorem FL.monow (q : Stw G.K r H r' H') {a : Addr} {xs : List V} (f : FL G.K H a xs) : FL G.K H' a xs := f.elim (fun ⟨o, e⟩ => .inl ⟨o, q.frl _ _ _ e⟩) .inr
/-- an object that stands where it stood -/
theorem OR.monow (q : Stw G.K r H r' H') {o a} (x : OR G r H o a) (h : isFls o = false → ∀ u, H a = some u → H' a = some u) : OR G r' H' o a := by
  cases x with
  | lst e k => exact .lst (h rfl _ e) (k.monow q)
  | fls e k => exact .fls (e.monow q) (k.monow q)
  | dct e k => exact .dct (h rfl _ e) (k.monow q)
  | dcT e k => exact .dcT (h rfl _ e) (k.monow q)
  | fdc e k => exact .fdc (h rfl _ e) (k.monow q)
  | fdT e k => exact .fdT (h rfl _ e) (k.monow q)
  | ins a b e k => exact .ins a b (h rfl _ e) (k.monow q)
theorem VR.mono (q : Stp G.K r H r' H') : ∀ (x : Val) (v : V), VR G r H x v → VR G r' H' x v := VR.monow q.w
theorem VRs.mono (q : Stp G.K r H r' H') : ∀ (xs : List Val) (vs : List V), VRs G r H xs vs → VRs G r' H' xs vs := VRs.monow q.w
theorem SR.mono (q : Stp G.K r H r' H') {s t} (a : SR G r H s t) : SR G r' H' s t := a.monow q.w
theorem FR.mono (q : Stp G.K r H r' H') {C s t} (a : FR G r H C s t) : FR G r' H' C s t := a.monow q.w
theorem DR.mono (q : Stp G.K r H r' H') {s t} (a : DR G r H s t) : DR G r' H' s t := a.monow q.w
theorem DTR.mono (q : Stp G.K r H r' H') {s t} (a : DTR G r H s t) : DTR G r' H' s t := a.monow q.w
theorem FL.mono (q : Stp G.K r H r' H') {a : Addr} {xs : List V} (f : FL G.K H a xs) : FL G.K H' a xs := f.monow q.w
theorem OR.mono (q : Stp G.K r H r' H') {o a} (x : OR G r H o a) (h : isFls o = false → ∀ u, H a = some u → H' a = some u) : OR G r' H' o a := x.monow q.w h
theorem OR.there {o a} (x : OR G r H o a) (f : isFls o = false) : ∃ u, H a = some u := by
  cases x with
  | lst e k => exact ⟨_, e⟩
  | fls e k => cases f
  | dct e k => exact ⟨_, e⟩
  | dcT e k => exact ⟨_, e⟩
  | fdc e k => exact ⟨_, e⟩
  | fdT e k => exact ⟨_, e⟩
  | ins a b e k => exact ⟨_, e⟩

theorem HR.at {h : Heap} (R : HR G r H h) {n : Nat} {o : Obj} (e : h[n]? = some o) : ∃ a, r[n]? = some a ∧ OR G r H o a := by
  have hl : n < r.length := by
    rw [R.len]
    exact (List.getElem?_eq_some_iff.mp e).1
  exact ⟨r[n], List.getElem?_eq_getElem hl, R.ob n o _ e (List.getElem?_eq_getElem hl)⟩

/-- tuples and what is frozen stay, where what is written is another thing -/
def NotT : HO → Prop
  | .tup _ => False
  | .frz _ _ => False
  | _ => True
theorem notT_ne {a b : Addr} {o : HO} (hn : ∀ o, H a = some o → NotT o) (h : H b = some o) (hf : ¬ NotT o) : b ≠ a := fun e => by
  subst e
  exact hf (hn _ h)
theorem sqt_upd {K : PySem.W.Frag} {a b : Addr} {u : HO} {xs : List V} (hn : ∀ o, H a = some o → NotT o) (h : SqT K H b xs) : SqT K (upd H a u) b xs := by
  rcases h with (h | ⟨o, h⟩) | h
  · exact .inl (.inl (by rw [upd_ne (notT_ne hn h (fun z => z))]; exact h))
  · exact .inl (.inr ⟨o, by rw [upd_ne (notT_ne hn h (fun z => z))]; exact h⟩)
  · exact .inr h
theorem Stp.upd {K : PySem.W.Frag} {a : Addr} {u : HO} (hn : ∀ o, H a = some o → NotT o) : Stp K r H r (upd H a u) := ⟨fun _ _ h => h, fun _ _ h => sqt_upd hn h, fun b o xs h => by rw [upd_ne (notT_ne hn h (fun z => z))]; exact h, fun b xs h => by rw [upd_ne (notT_ne hn h (fun z => z))]; exact h⟩
theorem notT_none {a : Addr} (hn : H a = none) : ∀ o, H a = some o → NotT o := fun o e => by rw [hn] at e; cases e
theorem Stp.new {K : PySem.W.Frag} {a p : Addr} {u : HO} (hn : H a = none) : Stp K r H (r ++ [p]) (L2.upd H a u) :=
  ⟨fun n a h => by rw [List.getElem?_append_left (List.getElem?_eq_some_iff.mp h).1]; exact h, fun _ _ h => sqt_upd (notT_none hn) h, fun b o xs h => by rw [upd_ne (notT_ne (notT_none hn) h (fun z => z))]; exact h, fun b xs h => by rw [upd_ne (notT_ne (notT_none hn) h (fun z => z))]; exact h⟩
theorem Stp.new0 {K : PySem.W.Frag} {a : Addr} {u : HO} (hn : H a = none) : Stp K r H r (L2.upd H a u) :=
  ⟨fun n a h => h, fun _ _ h => sqt_upd (notT_none hn) h, fun b o xs h => by rw [upd_ne (notT_ne (notT_none hn) h (fun z => z))]; exact h, fun b xs h => by rw [upd_ne (notT_ne (notT_none hn) h (fun z => z))]; exact h⟩

/-- a thing that is no object of ours is laid -/
theorem HR.lay {h : Heap} (R : HR G r H h) {p : Addr} {u : HO} (hp : H p = none) : HR G r (upd H p u) h :=
  ⟨R.len, R.nd, fun n o a e1 e2 => (R.ob n o a e1 e2).mono (Stp.new0 hp) fun _ v e => by rw [upd_ne (ne_of_none e hp)]; exact e⟩
theorem get_snoc {α : Type} {l : List α} {x y : α} {n : Nat} (e : (l ++ [x])[n]? = some y) : (n < l.length ∧ l[n]? = some y) ∨ (n = l.length ∧ x = y) := by
  by_cases h : n < l.length
  · rw [List.getElem?_append_left h] at e
    exact .inl ⟨h, e⟩
  · have := (List.getElem?_eq_some_iff.mp e).1
    have hn : n = l.length := by
      simp at this
      omega
    subst hn
    simp at e
    exact .inr ⟨rfl, e⟩
/-- a new object -/
theorem HR.push {h : Heap} (R : HR G r H h) {p : Addr} {u : HO} {o : Obj} (hp : H p = none) (ho : OR G (r ++ [p]) (upd H p u) o p) : HR G (r ++ [p]) (upd H p u) (h ++ [o]) := by
  have no : ∀ (i : Nat) (x : Obj), h[i]? = some x → r[i]? = some p → isFls x = false → False := fun i x e1 e2 f => by
    obtain ⟨v, hv⟩ := (R.ob i x p e1 e2).there f
    rw [hp] at hv
    cases hv
  refine ⟨by simp [R.len], fun i j a x y e1 e2 e3 e4 f1 f2 => ?_, fun n o' a e1 e2 => ?_⟩
  · rcases get_snoc e1 with ⟨l1, e1⟩ | ⟨l1, e1⟩ <;> rcases get_snoc e2 with ⟨l2, e2⟩ | ⟨l2, e2⟩ <;> rcases get_snoc e3 with ⟨l3, e3⟩ | ⟨l3, e3⟩ <;> rcases get_snoc e4 with ⟨l4, e4⟩ | ⟨l4, e4⟩
    all_goals (have hl := R.len)
    all_goals first
      | omega
      | exact R.nd i j a x y e1 e2 e3 e4 f1 f2
      | (subst e4; exact (no i x e1 e3 f1).elim)
      | (subst e3; exact (no j y e2 e4 f2).elim)
  · have e1' := e1
    clear e1
    rcases get_snoc e1' with ⟨l1, e1⟩ | ⟨l1, e1⟩
    · rcases get_snoc e2 with ⟨l2, e2⟩ | ⟨l2, e2⟩
      · exact (R.ob n o' a e1 e2).mono (Stp.new hp) fun _ v e => by rw [upd_ne (ne_of_none e hp)]; exact e
      · have := R.len
        omega
    · clear e1'
      subst l1
      subst e1
      rw [← R.len] at e2
      simp at e2
      subst e2
      exact ho
/-- an object is written -/
theorem HR.write {h : Heap} (R : HR G r H h) {n : Nat} {a : Addr} {u : HO} {o o0 : Obj} (e0 : h[n]? = some o0) (f0 : isFls o0 = false) (e : r[n]? = some a) (hn : ∀ o, H a = some o → NotT o) (ho : OR G r (upd H a u) o a) (f : isFls o = false) : HR G r (upd H a u) (h.set n o) := by
  have hl : n < h.length := (List.getElem?_eq_some_iff.mp e0).1
  have at_ : ∀ (i : Nat) (x : Obj), (h.set n o)[i]? = some x → isFls x = false → ∃ y, h[i]? = some y ∧ isFls y = false := fun i x e1 f1 => by
    by_cases hm : i = n
    · subst hm
      exact ⟨o0, e0, f0⟩
    · rw [List.getElem?_set_ne (Ne.symm hm)] at e1
      exact ⟨x, e1, f1⟩
  refine ⟨by simp [R.len], fun i j b x y e1 e2 e3 e4 f1 f2 => ?_, fun m o' b e1 e2 => ?_⟩
  · obtain ⟨x', e1', f1'⟩ := at_ i x e1 f1
    obtain ⟨y', e2', f2'⟩ := at_ j y e2 f2
    exact R.nd i j b x' y' e1' e2' e3 e4 f1' f2'
  · by_cases hm : m = n
    · subst hm
      rw [e] at e2
      cases e2
      rw [List.getElem?_set_self hl] at e1
      cases e1
      exact ho
    · rw [List.getElem?_set_ne (Ne.symm hm)] at e1
      refine (R.ob m o' b e1 e2).mono (Stp.upd hn) fun f' v q => ?_
      have hb : b ≠ a := fun q => by
        subst q
        exact hm (R.nd m n b o' o0 e1 e0 e2 e f' f0)
      rw [upd_ne hb]
      exact q
end
end PyM

set_option Elab.async false
set_option linter.all false
set_option maxRecDepth 100000
set_option autoImplicit false
namespace PyM
open PySem L2

/-! ### results -/
def Res.bind {α β : Type} (x : Res α) (k : α → Heap → Res β) : Res β := match x with
  | .ok a h => k a h
  | .raised c h => .raised c h
  | .stuck => .stuck
/-- what is wanted of a result, over all ways in which the heap may lie -/
def PostR {α β : Type} (G : Cfg) (R : List Addr → Hp → α → β → Prop) (r : List Addr) (H : Hp) (E : XK) (x : Res α) (Q : β → Hp → Prop) : Prop := match x with
  | .ok a h' => ∀ r' H' b, Stp G.K r H r' H' → HR G r' H' h' → R r' H' a b → Q b H'
  | .raised c h' => ∀ r' H' C, Stp G.K r H r' H' → HR G r' H' h' → G.cls[c]? = some C → E (.ref C) none H'
  | .stuck => False
def PostS (G : Cfg) (r : List Addr) (H : Hp) (E : XK) (x : RS) (D : Ends) : Prop := match x with
  | .nx s h' => ∀ r' H' t, Stp G.K r H r' H' → HR G r' H' h' → SR G r' H' s t → D.nx t H'
  | .bk s h' => ∀ r' H' t, Stp G.K r H r' H' → HR G r' H' h' → SR G r' H' s t → D.bk t H'
  | .ct s h' => ∀ r' H' t, Stp G.K r H r' H' → HR G r' H' h' → SR G r' H' s t → D.ct t H'
  | .rt x h' => ∀ r' H' v, Stp G.K r H r' H' → HR G r' H' h' → VR G r' H' x v → D.rt v H'
  | .raised c h' => ∀ r' H' C, Stp G.K r H r' H' → HR G r' H' h' → G.cls[c]? = some C → E (.ref C) none H'
  | .stuck => False
abbrev BR : List Addr → Hp → Bool → Bool → Prop := fun _ _ a b => a = b
section
variable {G : Cfg} {E : XK} {α β γ δ : Type}
theorem PostR.shift {R : List Addr → Hp → α → β → Prop} {r r1 : List Addr} {H H1 : Hp} {x : Res α} {Q : β → Hp → Prop} (s : Stp G.K r H r1 H1) (p : PostR G R r H E x Q) : PostR G R r1 H1 E x Q := by
  cases x with
  | ok a h => exact fun r' H' b s' => p r' H' b (s.trans s')
  | raised c h => exact fun r' H' C s' => p r' H' C (s.trans s')
  | stuck => exact p
theorem PostS.shift {r r1 : List Addr} {H H1 : Hp} {x : RS} {D : Ends} (s : Stp G.K r H r1 H1) (p : PostS G r H E x D) : PostS G r1 H1 E x D := by
  cases x with
  | nx a h => exact fun r' H' b s' => p r' H' b (s.trans s')
  | bk a h => exact fun r' H' b s' => p r' H' b (s.trans s')
  | ct a h => exact fun r' H' b s' => p r' H' b (s.trans s')
  | rt a h => exact fun r' H' b s' => p r' H' b (s.trans s')
  | raised c h => exact fun r' H' C s' => p r' H' C (s.trans s')
  | stuck => exact p
theorem PostR.seq {R1 : List Addr → Hp → α → β → Prop} {R2 : List Addr → Hp → γ → δ → Prop} {r : List Addr} {H : Hp} {x : Res α} {k : α → Heap → Res γ} {Q : δ → Hp → Prop} {Q' : β → Hp → Prop}
    (p : PostR G R2 r H E (x.bind k) Q) (f : ∀ a h1 r1 H1 b, Stp G.K r H r1 H1 → HR G r1 H1 h1 → R1 r1 H1 a b → PostR G R2 r1 H1 E (k a h1) Q → Q' b H1) : PostR G R1 r H E x Q' := by
  cases x with
  | ok a h => exact fun r' H' b s' hR vR => f a h r' H' b s' hR vR (p.shift s')
  | raised c h => exact p
  | stuck => exact p
theorem PostR.here {R : List Addr → Hp → α → β → Prop} {r : List Addr} {H : Hp} {a : α} {b : β} {h : Heap} {Q : β → Hp → Prop} (p : PostR G R r H E (.ok a h) Q) (hR : HR G r H h) (v : R r H a b) : Q b H := p r H b Stp.refl hR v
end

/-! ### the judgements -/
section
variable (G : Cfg) (E : XK)
structure Rf (t : TE) (m : En → Heap → Res Val) : Prop where
  run : ∀ r H h s σ Q, HR G r H h → SR G r H s σ → PostR G (VR G) r H E (m s h) Q → t σ H Q
structure RfT (t : TT) (m : En → Heap → Res Bool) : Prop where
  run : ∀ r H h s σ Q, HR G r H h → SR G r H s σ → PostR G BR r H E (m s h) Q → t σ H Q
structure RfA (t : TA) (m : En → Heap → Res (List Val)) : Prop where
  run : ∀ r H h s σ Q, HR G r H h → SR G r H s σ → PostR G (VRs G) r H E (m s h) Q → t σ H Q
structure RfS (t : TS) (m : En → Heap → RS) : Prop where
  run : ∀ r H h s σ D, HR G r H h → SR G r H s σ → PostS G r H E (m s h) D → t D σ H
/-- operations by values -/
structure Rf2 (t : R2) (m : Val → Val → Heap → Res Val) : Prop where
  run : ∀ r H h x y v u Q, HR G r H h → VR G r H x v → VR G r H y u → PostR G (VR G) r H E (m x y h) Q → t v u H Q
structure Rf1 (t : V → Hp → VK → Prop) (m : Val → Heap → Res Val) : Prop where
  run : ∀ r H h x v Q, HR G r H h → VR G r H x v → PostR G (VR G) r H E (m x h) Q → t v H Q
structure RfL (t : List V → Hp → VK → Prop) (m : List Val → Heap → Res Val) : Prop where
  run : ∀ r H h xs vs Q, HR G r H h → VRs G r H xs vs → PostR G (VR G) r H E (m xs h) Q → t vs H Q
structure RfM (t : V → List V → Hp → VK → Prop) (m : Val → List Val → Heap → Res Val) : Prop where
  run : ∀ r H h x v xs vs Q, HR G r H h → VR G r H x v → VRs G r H xs vs → PostR G (VR G) r H E (m x xs h) Q → t v vs H Q
variable (X : Cx)
structure ME (e : Expr) (t : TE) (m : En → Heap → Res Val) : Prop where
  pe : PE X e t
  rf : Rf G E t m
structure MT (e : Expr) (t : TT) (m : En → Heap → Res Bool) : Prop where
  pe : PT X e t
  rf : RfT G E t m
structure MW (e : Expr) (t : TT) (m : En → Heap → Res Bool) : Prop where
  pe : PW X e t
  rf : RfT G E t m
structure MA (e : List Expr) (t : TA) (m : En → Heap → Res (List Val)) : Prop where
  pe : PA X e t
  rf : RfA G E t m
structure MC (op : CmpOp) (a b : Expr) (t : TE) (m : En → Heap → Res Val) : Prop where
  pe : PC X op a b t
  rf : Rf G E t m
structure MS (st : Stmt) (t : TS) (m : En → Heap → RS) : Prop where
  pe : PS X st t
  rf : RfS G E t m
structure MSs (st : List Stmt) (t : TS) (m : En → Heap → RS) : Prop where
  pe : PSs X st t
  rf : RfS G E t m
/-- what is known of the context -/
structure XC (k : Nat) : Prop where
  K : X.K = G.K
  calm : X.calm = true
  nd : X.N.Nodup
  room : Room k X.A
  pass : Passes (L2.CX X.prog X.w) X E
  own : PassesOwn (model X.prog X.w) X.A X.env X.xe
end
/-- .. of the strings' table -/
structure Cfg.Ok (G : Cfg) : Prop where
  nn : G.nms.Nodup
  nd : G.sts.Nodup
  ok : ∀ x ∈ G.sts, PySem.PyData.strOk x = true

theorem VRs.len {G : Cfg} {r : List Addr} {H : Hp} : ∀ (xs : List Val) (vs : List V), VRs G r H xs vs → xs.length = vs.length
  | [], _, .nil => rfl
  | _ :: xs, _, .cons _ b => congrArg (· + 1) (VRs.len xs _ b)
theorem VRs.get {G : Cfg} {r : List Addr} {H : Hp} : ∀ {xs : List Val} {vs : List V}, VRs G r H xs vs → ∀ {i : Nat} {x : Val}, xs[i]? = some x → ∃ v, vs[i]? = some v ∧ VR G r H x v
  | _, _, .nil, i, x, e => by simp at e
  | _, _, .cons a b, 0, x, e => by
    simp at e
    subst e
    exact ⟨_, rfl, a⟩
  | _, _, .cons a b, i + 1, x, e => by
    obtain ⟨v, h1, h2⟩ := VRs.get b (i := i) (x := x) (by simpa using e)
    exact ⟨v, by simpa using h1, h2⟩
theorem VRs.app {G : Cfg} {r : List Addr} {H : Hp} : ∀ {xs ys : List Val} {vs us : List V}, VRs G r H xs vs → VRs G r H ys us → VRs G r H (xs ++ ys) (vs ++ us)
  | _, _, _, _, .nil, q => q
  | _, _, _, _, .cons a b, q => .cons a (VRs.app b q)
theorem VRs.drop {G : Cfg} {r : List Addr} {H : Hp} : ∀ (n : Nat) {xs : List Val} {vs : List V}, VRs G r H xs vs → VRs G r H (xs.drop n) (vs.drop n)
  | 0, _, _, q => q
  | _ + 1, _, _, .nil => .nil
  | n + 1, _, _, .cons _ b => VRs.drop n b
theorem VRs.take {G : Cfg} {r : List Addr} {H : Hp} : ∀ (n : Nat) {xs : List Val} {vs : List V}, VRs G r H xs vs → VRs G r H (xs.take n) (vs.take n)
  | 0, _, _, q => .nil
  | _ + 1, _, _, .nil => .nil
  | n + 1, _, _, .cons a b => .cons a (VRs.take n b)
theorem VRs.set {G : Cfg} {r : List Addr} {H : Hp} {x : Val} {v : V} (q : VR G r H x v) : ∀ (n : Nat) {xs : List Val} {vs : List V}, VRs G r H xs vs → VRs G r H (xs.set n x) (vs.set n v)
  | _, _, _, .nil => .nil
  | 0, _, _, .cons a b => .cons q b
  | n + 1, _, _, .cons a b => .cons a (VRs.set q n b)
theorem VRs.eraseIdx {G : Cfg} {r : List Addr} {H : Hp} : ∀ (n : Nat) {xs : List Val} {vs : List V}, VRs G r H xs vs → VRs G r H (xs.eraseIdx n) (vs.eraseIdx n)
  | _, _, _, .nil => .nil
  | 0, _, _, .cons a b => b
  | n + 1, _, _, .cons a b => .cons a (VRs.eraseIdx n b)
theorem VRs.dropLast {G : Cfg} {r : List Addr} {H : Hp} : ∀ {xs : List Val} {vs : List V}, VRs G r H xs vs → VRs G r H xs.dropLast vs.dropLast
  | _, _, .nil => .nil
  | _, _, .cons a .nil => .nil
  | _, _, .cons a (.cons b c) => .cons a (VRs.dropLast (.cons b c))
theorem SR.get {G : Cfg} {r : List Addr} {H : Hp} {s : En} {t : St} (q : SR G r H s t) : ∀ {i : Nat} {x : Val}, s[i]? = some (some x) → ∃ v, t[i]? = some (some v) ∧ VR G r H x v := by
  induction q with
  | nil =>
    intro i x e
    simp at e
  | no q ih =>
    intro i x e
    cases i with
    | zero => simp at e
    | succ i => simpa using ih (i := i) (x := x) (by simpa using e)
  | so a q ih =>
    intro i x e
    cases i with
    | zero =>
      simp at e
      subst e
      exact ⟨_, rfl, a⟩
    | succ i => simpa using ih (i := i) (x := x) (by simpa using e)
theorem SR.set {G : Cfg} {r : List Addr} {H : Hp} {s : En} {t : St} (q : SR G r H s t) {x : Val} {v : V} (a : VR G r H x v) : ∀ (i : Nat), SR G r H (s.set i (some x)) (t.set i (some v)) := by
  induction q with
  | nil => exact fun _ => .nil
  | no q ih => exact fun i => match i with
    | 0 => .so a q
    | i + 1 => .no (ih i)
  | so b q ih => exact fun i => match i with
    | 0 => .so a q
    | i + 1 => .so b (ih i)

/-- the most items of a list, a tuple, a dict -/
def lim : Nat := 1000000
theorem lim_le : lim ≤ sizeLine := by rw [sizeLine_eq]; decide
theorem lt_line {n : Nat} (h : n < lim) : n < sizeLine := Nat.lt_of_lt_of_le h lim_le
theorem le_line {n : Nat} (h : n ≤ lim) : n ≤ sizeLine := Nat.le_trans h lim_le

/-! ### the model's words -/
def mV (i : Nat) (s : En) (h : Heap) : Res Val := match s[i]? with
  | some (some x) => .ok x h
  | _ => .stuck
def mK (x : Val) (_ : En) (h : Heap) : Res Val := .ok x h
def mB (f : Val → Val → Heap → Res Val) (ma mb : En → Heap → Res Val) (s : En) (h : Heap) : Res Val := (ma s h).bind fun x h1 => (mb s h1).bind fun y h2 => f x y h2
def mU (f : Val → Heap → Res Val) (ma : En → Heap → Res Val) (s : En) (h : Heap) : Res Val := (ma s h).bind fun x h1 => f x h1
def mL (f : List Val → Heap → Res Val) (ma : En → Heap → Res (List Val)) (s : En) (h : Heap) : Res Val := (ma s h).bind fun x h1 => f x h1
def mM (f : Val → List Val → Heap → Res Val) (mo : En → Heap → Res Val) (ma : En → Heap → Res (List Val)) (s : En) (h : Heap) : Res Val := (mo s h).bind fun x h1 => (ma s h1).bind fun xs h2 => f x xs h2
def mNil (_ : En) (h : Heap) : Res (List Val) := .ok [] h
def mCons (ma : En → Heap → Res Val) (mr : En → Heap → Res (List Val)) (s : En) (h : Heap) : Res (List Val) := (ma s h).bind fun x h1 => (mr s h1).bind fun xs h2 => .ok (x :: xs) h2

section
variable {G : Cfg} {E : XK} {X : Cx} {k : Nat} {a b c e : Expr} {ta tb tc : TE} {ma mb mc : En → Heap → Res Val} {pos : Pos}

/-! ### names and constants -/
theorem me_var (i : Nat) {x : Str} (hN : X.N[i]? = some x := by rfl) (hv : Vis X.env.scope x := by first | exact Or.inl rfl | exact Or.inr (Or.inl rfl) | exact Or.inr (Or.inr rfl)) (hd : (x == ("__debug__" : Str)) = false := by decide) (hcd : (x == ("__classdict__" : Str)) = false := by decide) :
    ME G E X (.Name x pos) (tVar i) (mV i) := by
  refine ⟨pe_var hN hv hd hcd, ⟨fun r H h s σ Q hR sR p => ?_⟩⟩
  unfold mV at p
  split at p
  · rename_i x e
    obtain ⟨v, e', q⟩ := sR.get e
    exact ⟨v, e', p.here hR q⟩
  · exact p.elim
theorem me_int {i : Int} {j} : ME G E X (.Constant (.int i) j pos) (tC (.int i)) (mK (.int i)) := ⟨pe_int, ⟨fun _ _ _ _ _ _ hR _ p => p.here hR (.int i)⟩⟩
theorem me_bl {i : Bool} {j} : ME G E X (.Constant (.bool i) j pos) (tC (.bl i)) (mK (.bl i)) := ⟨pe_bl, ⟨fun _ _ _ _ _ _ hR _ p => p.here hR (.bl i)⟩⟩
theorem me_non {j} : ME G E X (.Constant .none j pos) (tC .non) (mK .non) := ⟨pe_non, ⟨fun _ _ _ _ _ _ hR _ p => p.here hR .non⟩⟩
theorem me_str (n : Nat) {x : Str} {j} (hx : G.sts[n]? = some x) : ME G E X (.Constant (.str x) j pos) (tC (.str x)) (mK (.str n)) := ⟨pe_str, ⟨fun _ _ _ _ _ _ hR _ p => p.here hR (.str hx)⟩⟩
theorem me_glob (i : Int) {x : Str} {t : Tok} (hm : X.mg x = some (.int i t)) (hg : Gl X x := by rfl) (hd : (x == ("__debug__" : Str)) = false := by decide) : ME G E X (.Name x pos) (tC (.int i)) (mK (.int i)) :=
  ⟨pe_glob hg hm ⟨_, rfl⟩ hd, ⟨fun _ _ _ _ _ _ hR _ p => p.here hR (.int i)⟩⟩
theorem me_globS (n : Nat) {x z : Str} {t : Tok} (hm : X.mg x = some (.str z t)) (hx : G.sts[n]? = some z) (hg : Gl X x := by rfl) (hd : (x == ("__debug__" : Str)) = false := by decide) : ME G E X (.Name x pos) (tC (.str z)) (mK (.str n)) :=
  ⟨pe_glob hg hm ⟨_, rfl⟩ hd, ⟨fun _ _ _ _ _ _ hR _ p => p.here hR (.str hx)⟩⟩

/-! ### composition -/
theorem Rf.b2 {r2 : R2} {f : Val → Val → Heap → Res Val} (h1 : Rf G E ta ma) (h2 : Rf G E tb mb) (hf : Rf2 G E r2 f) : Rf G E (tOp r2 ta tb) (mB f ma mb) := by
  refine ⟨fun r H h s σ Q hR sR p => ?_⟩
  refine h1.run r H h s σ _ hR sR (p.seq fun x h1' r1 H1 v s1 hR1 v1 p1 => ?_)
  refine h2.run r1 H1 h1' s σ _ hR1 (sR.mono s1) (p1.seq fun y h2' r2 H2 u s2 hR2 v2 p2 => ?_)
  exact hf.run r2 H2 h2' x y v u Q hR2 (v1.mono s2) v2 p2
theorem Rf.u1 {t : V → Hp → VK → Prop} {f : Val → Heap → Res Val} (h1 : Rf G E ta ma) (hf : Rf1 G E t f) : Rf G E (tUn t ta) (mU f ma) := by
  refine ⟨fun r H h s σ Q hR sR p => ?_⟩
  exact h1.run r H h s σ _ hR sR (p.seq fun x h1' r1 H1 v s1 hR1 v1 p1 => hf.run r1 H1 h1' x v Q hR1 v1 p1)
theorem Rf2.orL {t t' : R2} {f : Val → Val → Heap → Res Val} (h : Rf2 G E t f) : Rf2 G E (fun x y H Q => t x y H Q ∨ t' x y H Q) f := ⟨fun r H h' x y v u Q a b c p => .inl (h.run r H h' x y v u Q a b c p)⟩
theorem ma_nil : MA G E X [] tNil mNil := ⟨pa_nil, ⟨fun _ _ _ _ _ _ hR _ p => p.here hR .nil⟩⟩
theorem ma_cons {es : List Expr} {tr : TA} {mr : En → Heap → Res (List Val)} (ha : ME G E X e ta ma) (hr : MA G E X es tr mr) (hs : starEach (e :: es) X.env = (false, eval e X.env) :: starEach es X.env := by rfl) : MA G E X (e :: es) (tCons ta tr) (mCons ma mr) := by
  refine ⟨pa_cons ha.pe hr.pe hs, ⟨fun r H h s σ Q hR sR p => ?_⟩⟩
  refine ha.rf.run r H h s σ _ hR sR (p.seq fun x h1' r1 H1 v s1 hR1 v1 p1 => ?_)
  refine hr.rf.run r1 H1 h1' s σ _ hR1 (sR.mono s1) (p1.seq fun xs h2' r2 H2 vs s2 hR2 v2 p2 => ?_)
  exact p2.here hR2 (.cons (v1.mono s2) v2)
theorem RfA.l {t : List V → Hp → VK → Prop} {f : List Val → Heap → Res Val} {tA : TA} {mA : En → Heap → Res (List Val)} (h1 : RfA G E tA mA) (hf : RfL G E t f) : Rf G E (fun σ H Q => tA σ H fun vs H1 => t vs H1 Q) (mL f mA) := by
  refine ⟨fun r H h s σ Q hR sR p => ?_⟩
  exact h1.run r H h s σ _ hR sR (p.seq fun x h1' r1 H1 v s1 hR1 v1 p1 => hf.run r1 H1 h1' x v Q hR1 v1 p1)
end
end PyM

set_option Elab.async false
set_option linter.all false
set_option maxRecDepth 100000
set_option autoImplicit false
namespace PyM
open PySem L2

/-! ### data, for == -/
inductive D where
  | non | bl (b : Bool) | int (i : Int) | str (n : Nat) | tup (xs : List D) | lst (xs : List D)
mutual
def deq : D → D → Bool
  | .non, .non => true
  | .bl a, .bl b => a == b
  | .bl a, .int j => (if a then 1 else 0) == j
  | .int i, .bl b => i == (if b then 1 else 0)
  | .int i, .int j => i == j
  | .str x, .str y => x == y
  | .tup xs, .tup ys => deqs xs ys
  | .lst xs, .lst ys => deqs xs ys
  | _, _ => false
def deqs : List D → List D → Bool
  | [], [] => true
  | x :: xs, y :: ys => deq x y && deqs xs ys
  | _, _ => false
end
def optAll {α β : Type} (f : α → Option β) : List α → Option (List β)
  | [] => some []
  | x :: xs => match f x, optAll f xs with
    | some d, some ds => some (d :: ds)
    | _, _ => none
def conv : Nat → Heap → Val → Option D
  | 0, _, _ => none
  | n + 1, h, v => match v with
    | .non => some .non
    | .bl b => some (.bl b)
    | .int i => some (.int i)
    | .str x => some (.str x)
    | .tup xs => (optAll (conv n h) xs).map .tup
    | .ref a => match h[a]? with
      | some (.lst xs) => (optAll (conv n h) xs).map .lst
      | some (.fls xs) => (optAll (conv n h) xs).map .lst
      | _ => none
mutual
def D.py (G : Cfg) : D → PyData
  | .non => .none
  | .bl b => .bool b
  | .int i => .int i
  | .str n => .str (G.sts.getD n ⟨#[]⟩)
  | .tup xs => .tuple (D.pys G xs)
  | .lst xs => .list (D.pys G xs)
def D.pys (G : Cfg) : List D → List PyData
  | [] => []
  | x :: xs => D.py G x :: D.pys G xs
end
mutual
def D.wf (m n : Nat) : D → Bool
  | .str i => decide (i < m)
  | .tup xs => match n with
    | 0 => false
    | n + 1 => D.wfs m n xs
  | .lst xs => match n with
    | 0 => false
    | n + 1 => D.wfs m n xs
  | _ => true
def D.wfs (m n : Nat) : List D → Bool
  | [] => true
  | x :: xs => D.wf m n x && D.wfs m n xs
end
section
variable {G : Cfg}
theorem getD_at {α : Type} {l : List α} {i : Nat} {d : α} (h : i < l.length) : l.getD i d = l[i] := by simp [List.getD, h]
theorem getD_inj (ok : G.Ok) {i j : Nat} (hi : i < G.sts.length) (hj : j < G.sts.length) : (G.sts.getD i ⟨#[]⟩ == G.sts.getD j ⟨#[]⟩) = (i == j) := by
  rw [getD_at hi, getD_at hj]
  by_cases e : i = j
  · subst e
    simp
  · have : G.sts[i] ≠ G.sts[j] := fun q => e ((List.getElem_inj ok.nd).mp q)
    rw [beq_eq_false_iff_ne.mpr this, beq_eq_false_iff_ne.mpr e]
mutual
theorem eqv_py (ok : G.Ok) : ∀ (d e : D) (n m : Nat), d.wf G.sts.length n = true → e.wf G.sts.length m = true → PyData.eqv (d.py G) (e.py G) = deq d e
  | .non, e, n, m, h1, h2 => by cases e <;> simp [D.py, PyData.eqv, deq]
  | .bl a, e, n, m, h1, h2 => by cases e <;> simp [D.py, PyData.eqv, deq]
  | .int a, e, n, m, h1, h2 => by cases e <;> simp [D.py, PyData.eqv, deq]
  | .str a, e, n, m, h1, h2 => by
    cases e with
    | str b =>
      simp only [D.wf, decide_eq_true_eq] at h1 h2
      simp only [D.py, PyData.eqv, deq]
      exact getD_inj ok h1 h2
    | _ => simp [D.py, PyData.eqv, deq]
  | .tup xs, e, n, m, h1, h2 => by
    cases e with
    | tup ys =>
      cases n with
      | zero => simp [D.wf] at h1
      | succ n =>
        cases m with
        | zero => simp [D.wf] at h2
        | succ m =>
          simp only [D.py, PyData.eqv, deq]
          exact eqv_pys ok xs ys n m (by simpa [D.wf] using h1) (by simpa [D.wf] using h2)
    | _ => simp [D.py, PyData.eqv, deq]
  | .lst xs, e, n, m, h1, h2 => by
    cases e with
    | lst ys =>
      cases n with
      | zero => simp [D.wf] at h1
      | succ n =>
        cases m with
        | zero => simp [D.wf] at h2
        | succ m =>
          simp only [D.py, PyData.eqv, deq]
          exact eqv_pys ok xs ys n m (by simpa [D.wf] using h1) (by simpa [D.wf] using h2)
    | _ => simp [D.py, PyData.eqv, deq]
theorem eqv_pys (ok : G.Ok) : ∀ (d e : List D) (n m : Nat), D.wfs G.sts.length n d = true → D.wfs G.sts.length m e = true → PyData.eqvAll (D.pys G d) (D.pys G e) = deqs d e
  | [], [], _, _, _, _ => by simp [D.pys, PyData.eqvAll, deqs]
  | [], _ :: _, _, _, _, _ => by simp [D.pys, PyData.eqvAll, deqs]
  | _ :: _, [], _, _, _, _ => by simp [D.pys, PyData.eqvAll, deqs]
  | x :: xs, y :: ys, n, m, h1, h2 => by
    simp only [D.wfs, Bool.and_eq_true] at h1 h2
    simp only [D.pys, PyData.eqvAll, deqs]
    rw [eqv_py ok x y n m h1.1 h2.1, eqv_pys ok xs ys n m h1.2 h2.2]
end
mutual
theorem lay_py (ok : G.Ok) : ∀ (d : D) (n : Nat), d.wf G.sts.length n = true → (d.py G).canLay0 = true ∧ (d.py G).depth ≤ n
  | .non, n, _ => by simp [D.py, PyData.canLay0, PyData.depth]
  | .bl _, n, _ => by simp [D.py, PyData.canLay0, PyData.depth]
  | .int _, n, _ => by simp [D.py, PyData.canLay0, PyData.depth]
  | .str i, n, h => by
    simp only [D.wf, decide_eq_true_eq] at h
    simp only [D.py, PyData.canLay0, PyData.depth]
    refine ⟨?_, Nat.zero_le _⟩
    rw [getD_at h]
    exact ok.ok _ (List.getElem_mem _)
  | .tup xs, 0, h => by simp [D.wf] at h
  | .lst xs, 0, h => by simp [D.wf] at h
  | .tup xs, n + 1, h => by
    have := lay_pys ok xs n (by simpa [D.wf] using h)
    simp only [D.py, PyData.canLay0, PyData.depth]
    exact ⟨this.1, by omega⟩
  | .lst xs, n + 1, h => by
    have := lay_pys ok xs n (by simpa [D.wf] using h)
    simp only [D.py, PyData.canLay0, PyData.depth]
    exact ⟨this.1, by omega⟩
theorem lay_pys (ok : G.Ok) : ∀ (d : List D) (n : Nat), D.wfs G.sts.length n d = true → PyData.canLayAll0 (D.pys G d) = true ∧ PyData.depthAll (D.pys G d) ≤ n
  | [], n, _ => by simp [D.pys, PyData.canLayAll0, PyData.depthAll]
  | x :: xs, n, h => by
    simp only [D.wfs, Bool.and_eq_true] at h
    have h1 := lay_py ok x n h.1
    have h2 := lay_pys ok xs n h.2
    simp only [D.pys, PyData.canLayAll0, PyData.depthAll, Bool.and_eq_true]
    exact ⟨⟨h1.1, h2.1⟩, by omega⟩
end
theorem shaped_py (ok : G.Ok) {d : D} {n : Nat} (h : d.wf G.sts.length n = true) (hn : n ≤ 64) : SeqAt.shaped (d.py G) = true := by
  have := lay_py ok d n h
  simp only [SeqAt.shaped, Bool.and_eq_true, decide_eq_true_eq]
  exact ⟨this.1, by omega⟩
variable {r : List Addr} {H : Hp} {h : Heap}
theorem optAll_dp {n : Nat} (ih : ∀ x v d, VR G r H x v → conv n h x = some d → Dp G.K H v (d.py G) ∧ d.wf G.sts.length n = true) :
    ∀ (xs : List Val) (vs : List V) (ds : List D), VRs G r H xs vs → optAll (conv n h) xs = some ds → DpAll G.K H vs (D.pys G ds) ∧ D.wfs G.sts.length n ds = true
  | [], _, ds, .nil, e => by
    simp only [optAll, Option.some.injEq] at e
    subst e
    exact ⟨.nil, rfl⟩
  | x :: xs, _, ds, .cons a b, e => by
    simp only [optAll] at e
    split at e
    · rename_i d ds' e1 e2
      cases e
      obtain ⟨h1, h2⟩ := ih _ _ _ a e1
      obtain ⟨h3, h4⟩ := optAll_dp ih xs _ _ b e2
      refine ⟨by rw [D.pys]; exact .cons h1 h3, by simp [D.wfs, h2, h4]⟩
    · cases e
theorem conv_dp (R : HR G r H h) : ∀ (n : Nat) (x : Val) (v : V) (d : D), VR G r H x v → conv n h x = some d → Dp G.K H v (d.py G) ∧ d.wf G.sts.length n = true
  | 0, x, v, d, _, e => by simp [conv] at e
  | n + 1, x, v, d, q, e => by
    have ih := fun x v d => conv_dp R n x v d
    cases q with
    | non => simp only [conv, Option.some.injEq] at e; subst e; exact ⟨by rw [D.py]; exact .non, by simp [D.wf]⟩
    | bl b => simp only [conv, Option.some.injEq] at e; subst e; exact ⟨by rw [D.py]; exact .bl _, by simp [D.wf]⟩
    | int i => simp only [conv, Option.some.injEq] at e; subst e; exact ⟨by rw [D.py]; exact .int _, by simp [D.wf]⟩
    | @str n' z hz =>
      simp only [conv, Option.some.injEq] at e
      subst e
      have hl := (List.getElem?_eq_some_iff.mp hz)
      refine ⟨?_, by simp [D.wf, hl.1]⟩
      rw [D.py, getD_at hl.1, hl.2]
      exact .str _
    | tup hs hv =>
      simp only [conv] at e
      obtain ⟨ds, e1, rfl⟩ := Option.map_eq_some_iff.mp e
      obtain ⟨h1, h2⟩ := optAll_dp ih _ _ _ hv e1
      exact ⟨by rw [D.py]; exact .tup hs h1, by simpa [D.wf] using h2⟩
    | @ref m a ha =>
      simp only [conv] at e
      split at e
      · rename_i xs eo
        obtain ⟨ds, e1, rfl⟩ := Option.map_eq_some_iff.mp e
        cases R.ob _ _ _ eo ha with
        | lst hl hv =>
          obtain ⟨h1, h2⟩ := optAll_dp ih _ _ _ hv e1
          exact ⟨by rw [D.py]; exact .lst (SqL.of hl) h1, by simpa [D.wf] using h2⟩
      · rename_i xs eo
        obtain ⟨ds, e1, rfl⟩ := Option.map_eq_some_iff.mp e
        cases R.ob _ _ _ eo ha with
        | fls hl hv =>
          obtain ⟨h1, h2⟩ := optAll_dp ih _ _ _ hv e1
          exact ⟨by rw [D.py]; exact .lst hl.sq h1, by simpa [D.wf] using h2⟩
      · cases e
end

/-! ### operators by values -/
def oI (g : Int → Int → Val) (x y : Val) (h : Heap) : Res Val := match x, y with
  | .int i, .int j => .ok (g i j) h
  | _, _ => .stuck
def oIC (c : Int → Int → Bool) (g : Int → Int → Val) (x y : Val) (h : Heap) : Res Val := match x, y with
  | .int i, .int j => if c i j = true then .ok (g i j) h else .stuck
  | _, _ => .stuck
def oNeg (x : Val) (h : Heap) : Res Val := match x with
  | .int i => .ok (.int (-i)) h
  | _ => .stuck
def oAdd (x y : Val) (h : Heap) : Res Val := match x, y with
  | .int i, .int j => .ok (.int (i + j)) h
  | .tup xs, .tup ys => if xs.length + ys.length ≤ lim then .ok (.tup (xs ++ ys)) h else .stuck
  | .ref a, .ref b => match h[a]?, h[b]? with
    | some (.lst xs), some (.lst ys) => if xs.length + ys.length ≤ lim then .ok (.ref h.length) (h ++ [.lst (xs ++ ys)]) else .stuck
    | _, _ => .stuck
  | _, _ => .stuck
def repV {α : Type} (n : Nat) (xs : List α) : List α := (List.replicate n xs).flatten
def oMul (x y : Val) (h : Heap) : Res Val := match x, y with
  | .int i, .int j => if -(2 ^ 64) < j ∧ j < 2 ^ 64 ∨ -(2 ^ 64) < i ∧ i < 2 ^ 64 then .ok (.int (i * j)) h else .stuck
  | .tup xs, .int k => if xs.length ≠ 0 ∧ 2 ≤ k ∧ k ≤ 1000 ∧ xs.length ≤ 1000 then .ok (.tup (repV k.toNat xs)) h else .stuck
  | .ref a, .int k => match h[a]? with
    | some (.lst xs) => if k ≤ 100000 ∧ -100000 ≤ k ∧ xs.length * k.toNat ≤ lim then .ok (.ref h.length) (h ++ [.lst (repV k.toNat xs)]) else .stuck
    | _ => .stuck
  | _, _ => .stuck
def oEq (neg : Bool) (x y : Val) (h : Heap) : Res Val := match conv 60 h x, conv 60 h y with
  | some d, some e => .ok (.bl (if neg then !deq d e else deq d e)) h
  | _, _ => .stuck
def oIsN (neg : Bool) (x : Val) (h : Heap) : Res Val := .ok (.bl (match x with
  | .non => !neg
  | _ => neg)) h
section
variable {G : Cfg} {E : XK}
theorem rf_I0 {g : Int → Int → Int} : Rf2 G E (rI0 fun i j => .int (g i j)) (oI fun i j => .int (g i j)) := by
  refine ⟨fun r H h x y v u Q hR a b p => ?_⟩
  cases a with
  | int i => cases b with
    | int j => exact ⟨i, j, rfl, rfl, p.here hR (.int _)⟩
    | _ => exact False.elim p
  | _ => exact False.elim p
theorem rf_B0 {g : Int → Int → Bool} : Rf2 G E (rI0 fun i j => .bl (g i j)) (oI fun i j => .bl (g i j)) := by
  refine ⟨fun r H h x y v u Q hR a b p => ?_⟩
  cases a with
  | int i => cases b with
    | int j => exact ⟨i, j, rfl, rfl, p.here hR (.bl _)⟩
    | _ => exact False.elim p
  | _ => exact False.elim p
theorem rf_IC {C : Int → Int → Prop} {c : Int → Int → Bool} (hc : ∀ i j, c i j = true → C i j) {g : Int → Int → Int} : Rf2 G E (rI C fun i j => .int (g i j)) (oIC c fun i j => .int (g i j)) := by
  refine ⟨fun r H h x y v u Q hR a b p => ?_⟩
  cases a with
  | int i => cases b with
    | int j =>
      simp only [oIC] at p
      split at p
      · rename_i e
        exact ⟨i, j, rfl, rfl, hc _ _ e, p.here hR (.int _)⟩
      · exact p.elim
    | _ => exact False.elim p
  | _ => exact False.elim p
def rAdd (K : PySem.W.Frag) : R2 := fun x y H Q => rI0 (fun i j => .int (i + j)) x y H Q ∨ rCatA K x y H Q ∨ rCat x y H Q
theorem op_addM {X : Cx} : OpR X (binaryOp .Add) (rAdd X.K) := op_add.or (op_catA.or op_cat)
theorem rf_add : Rf2 G E (rAdd G.K) oAdd := by
  refine ⟨fun r H h x y v u Q hR a b p => ?_⟩
  cases a with
  | int i => cases b with
    | int j => exact .inl ⟨i, j, rfl, rfl, p.here hR (.int _)⟩
    | _ => exact False.elim p
  | tup ha va => cases b with
    | tup hb vb =>
      simp only [oAdd] at p
      split at p
      · rename_i hl
        have e1 := va.len
        have e2 := vb.len
        refine .inr (.inl ⟨_, _, _, _, rfl, rfl, ha, hb, le_line (by omega), fun e => ?_, fun _ e => ?_, fun _ _ q hq => ?_⟩)
        · subst e
          cases va
          exact p.here hR (.tup hb vb)
        · subst e
          cases vb
          exact p.here hR (.tup ha (by simpa using va))
        · refine p r _ _ (Stp.new0 hq) (hR.lay hq) (.tup (SqT.of upd_same) ?_)
          exact (va.app vb).mono (Stp.new0 hq)
      · exact p.elim
    | _ => exact False.elim p
  | @ref n a' ea => cases b with
    | @ref m b' eb =>
      simp only [oAdd] at p
      split at p
      · rename_i xs ys h1 h2
        split at p
        · rename_i hl
          cases hR.ob _ _ _ h1 ea with
          | lst ha va => cases hR.ob _ _ _ h2 eb with
            | lst hb vb =>
              have e1 := va.len
              have e2 := vb.len
              refine .inr (.inr ⟨_, _, _, _, rfl, rfl, ha, hb, le_line (by omega), fun q hq => ?_⟩)
              refine p (r ++ [q]) _ _ (Stp.new hq) (hR.push hq (.lst upd_same ((va.app vb).mono (Stp.new hq)))) (.ref ?_)
              rw [← hR.len]
              simp
        · exact p.elim
      · exact p.elim
    | _ => exact False.elim p
  | _ => exact False.elim p
theorem VRs.rep {r : List Addr} {H : Hp} {xs : List Val} {vs : List V} (a : VRs G r H xs vs) : ∀ n : Nat, VRs G r H (repV n xs) ((List.replicate n vs).flatten)
  | 0 => .nil
  | n + 1 => by
    unfold repV
    rw [List.replicate_succ, List.replicate_succ, List.flatten_cons, List.flatten_cons]
    exact a.app (VRs.rep a n)
def rMulA (K : PySem.W.Frag) : R2 := fun x y H Q => rI CMul (fun i j => .int (i * j)) x y H Q ∨ rRep x y H Q ∨ rRepT K x y H Q
theorem op_mulA {X : Cx} : OpR X (binaryOp .Mult) (rMulA X.K) := op_mul.or (op_rep.or op_repT)
theorem rf_mul : Rf2 G E (rMulA G.K) oMul := by
  refine ⟨fun r H h x y v u Q hR a b p => ?_⟩
  cases a with
  | int i => cases b with
    | int j =>
      simp only [oMul] at p
      split at p
      · rename_i e
        exact .inl ⟨i, j, rfl, rfl, e.symm, p.here hR (.int _)⟩
      · exact p.elim
    | _ => exact False.elim p
  | tup ha va => cases b with
    | int k =>
      simp only [oMul] at p
      split at p
      · rename_i e
        have e1 := va.len
        refine .inr (.inr ⟨_, k, _, rfl, rfl, ha, fun z => ?_, e.2.1, e.2.2.1, by rw [← e1]; exact e.2.2.2, fun q hq => ?_⟩)
        · subst z
          exact e.1 e1
        · exact p r _ _ (Stp.new0 hq) (hR.lay hq) (.tup (SqT.of upd_same) ((va.rep _).mono (Stp.new0 hq)))
      · exact p.elim
    | _ => exact False.elim p
  | @ref n a' ea => cases b with
    | int k =>
      simp only [oMul] at p
      split at p
      · rename_i xs h1
        split at p
        · rename_i hl
          cases hR.ob _ _ _ h1 ea with
          | lst ha va =>
            have e1 := va.len
            refine .inr (.inl ⟨_, k, _, rfl, rfl, ha, by omega, by omega, le_line (by rw [← e1]; exact hl.2.2), fun q hq => ?_⟩)
            refine p (r ++ [q]) _ _ (Stp.new hq) (hR.push hq (.lst upd_same ((va.rep _).mono (Stp.new hq)))) (.ref ?_)
            rw [← hR.len]
            simp
        · exact p.elim
      · exact p.elim
    | _ => exact False.elim p
  | _ => exact False.elim p
theorem rf_eq (ok : G.Ok) : Rf2 G E (rEqD G.K) (oEq false) := by
  refine ⟨fun r H h x y v u Q hR a b p => ?_⟩
  simp only [oEq] at p
  split at p
  · rename_i d e h1 h2
    obtain ⟨d1, w1⟩ := conv_dp hR _ _ _ _ a h1
    obtain ⟨d2, w2⟩ := conv_dp hR _ _ _ _ b h2
    refine ⟨_, _, d1, d2, shaped_py ok w1 (by decide), shaped_py ok w2 (by decide), ?_⟩
    rw [eqv_py ok d e _ _ w1 w2]
    exact p.here hR (.bl _)
  · exact p.elim
theorem rf_ne (ok : G.Ok) : Rf2 G E (rNeD G.K) (oEq true) := by
  refine ⟨fun r H h x y v u Q hR a b p => ?_⟩
  simp only [oEq] at p
  split at p
  · rename_i d e h1 h2
    obtain ⟨d1, w1⟩ := conv_dp hR _ _ _ _ a h1
    obtain ⟨d2, w2⟩ := conv_dp hR _ _ _ _ b h2
    refine ⟨_, _, d1, d2, shaped_py ok w1 (by decide), shaped_py ok w2 (by decide), ?_⟩
    rw [eqv_py ok d e _ _ w1 w2]
    exact p.here hR (.bl _)
  · exact p.elim
end
end PyM

set_option Elab.async false
set_option linter.all false
set_option maxRecDepth 100000
set_option autoImplicit false
namespace PyM
open PySem L2

mutual
def Val.dec : (a b : Val) → Decidable (a = b)
  | .non, b => match b with
    | .non => Decidable.isTrue rfl
    | .bl _ | .int _ | .str _ | .tup _ | .ref _ => Decidable.isFalse (fun h => by cases h)
  | .bl x, b => match b with
    | .bl y => if h : x = y then Decidable.isTrue (by rw [h]) else Decidable.isFalse (fun e => by cases e; exact h rfl)
    | .non | .int _ | .str _ | .tup _ | .ref _ => Decidable.isFalse (fun h => by cases h)
  | .int x, b => match b with
    | .int y => if h : x = y then Decidable.isTrue (by rw [h]) else Decidable.isFalse (fun e => by cases e; exact h rfl)
    | .non | .bl _ | .str _ | .tup _ | .ref _ => Decidable.isFalse (fun h => by cases h)
  | .str x, b => match b with
    | .str y => if h : x = y then Decidable.isTrue (by rw [h]) else Decidable.isFalse (fun e => by cases e; exact h rfl)
    | .non | .bl _ | .int _ | .tup _ | .ref _ => Decidable.isFalse (fun h => by cases h)
  | .ref x, b => match b with
    | .ref y => if h : x = y then Decidable.isTrue (by rw [h]) else Decidable.isFalse (fun e => by cases e; exact h rfl)
    | .non | .bl _ | .int _ | .tup _ | .str _ => Decidable.isFalse (fun h => by cases h)
  | .tup xs, b => match b with
    | .tup ys => match Val.decs xs ys with
      | Decidable.isTrue h => Decidable.isTrue (by rw [h])
      | Decidable.isFalse h => Decidable.isFalse (fun e => by cases e; exact h rfl)
    | .non | .bl _ | .int _ | .ref _ | .str _ => Decidable.isFalse (fun h => by cases h)
def Val.decs : (a b : List Val) → Decidable (a = b)
  | [], [] => Decidable.isTrue rfl
  | [], _ :: _ => Decidable.isFalse (fun h => by cases h)
  | _ :: _, [] => Decidable.isFalse (fun h => by cases h)
  | x :: xs, y :: ys => match Val.dec x y, Val.decs xs ys with
    | Decidable.isTrue h, Decidable.isTrue k => Decidable.isTrue (by rw [h, k])
    | Decidable.isFalse h, _ => Decidable.isFalse (fun e => by cases e; exact h rfl)
    | _, Decidable.isFalse k => Decidable.isFalse (fun e => by cases e; exact k rfl)
end
instance : DecidableEq Val := Val.dec

/-! ### dicts with keys that are ints or texts -/
def lookV (d : List (Val × Val)) (k : Val) : Option Val := (d.find? fun kv => decide (kv.1 = k)).map (·.2)
def putV (d : List (Val × Val)) (k v : Val) : List (Val × Val) := if (d.any fun kv => decide (kv.1 = k)) = true then d.map (fun kv => if kv.1 = k then (kv.1, v) else kv) else d ++ [(k, v)]
def dropV (d : List (Val × Val)) (k : Val) : List (Val × Val) := d.filter fun kv => decide (kv.1 ≠ k)
def isKey : Val → Bool
  | .int _ => true
  | .str _ => true
  | _ => false
section
variable {G : Cfg} {r : List Addr} {H : Hp} {h : Heap}
theorem sts_inj (ok : G.Ok) {i j : Nat} {x : Str} (hi : G.sts[i]? = some x) (hj : G.sts[j]? = some x) : i = j := by
  obtain ⟨h1, e1⟩ := List.getElem?_eq_some_iff.mp hi
  obtain ⟨h2, e2⟩ := List.getElem?_eq_some_iff.mp hj
  exact (List.getElem_inj ok.nd).mp (e1.trans e2.symm)
theorem KR.eq (ok : G.Ok) {k k' : Val} {q q' : Key} (a : KR G k q) (b : KR G k' q') : decide (k = k') = decide (q = q') := by
  cases a with
  | int i => cases b with
    | int j => by_cases e : i = j <;> simp [e]
    | str _ => simp
  | str hi => cases b with
    | int j => simp
    | @str m y hj =>
      rename_i n x
      by_cases e : n = m
      · subst e
        rw [hi] at hj
        cases hj
        simp
      · have : x ≠ y := fun z => e (by subst z; exact sts_inj ok hi hj)
        simp [e, this]
theorem KR.of {x : Val} {v : V} (a : VR G r H x v) (hk : isKey x = true) : ∃ q, KR G x q ∧ v = kV q := by
  cases a with
  | int i => exact ⟨_, .int i, rfl⟩
  | str e => exact ⟨_, .str e, rfl⟩
  | _ => simp [isKey] at hk
theorem KR.vr {x : Val} {q : Key} (a : KR G x q) : VR G r H x (kV q) := by
  cases a with
  | int i => exact .int i
  | str e => exact .str e
theorem DR.len {d e} (a : DR G r H d e) : d.length = e.length := by
  induction a with
  | nil => rfl
  | cons _ _ _ ih => simp [ih]
/-- what a key finds -/
theorem DR.look (ok : G.Ok) {d e} (a : DR G r H d e) {k : Val} {q : Key} (b : KR G k q) : (lookV d k = none ∧ valV e q = none) ∨ ∃ x v, lookV d k = some x ∧ valV e q = some v ∧ VR G r H x v := by
  induction a with
  | nil => exact .inl ⟨rfl, rfl⟩
  | @cons k' x q' v d e hk hv _ ih =>
    have e1 := KR.eq ok hk b
    by_cases hh : k' = k
    · have : q' = q := by simpa [hh] using e1
      exact .inr ⟨x, v, by simp [lookV, hh], by simp [valV, this], hv⟩
    · have : ¬ q' = q := by simpa [hh] using e1
      simpa [lookV, valV, List.find?_cons, hh, this] using ih
theorem DR.any (ok : G.Ok) {d e} (a : DR G r H d e) {k : Val} {q : Key} (b : KR G k q) : (d.any fun kv => decide (kv.1 = k)) = (e.any fun kv => decide (kv.1 = q)) := by
  induction a with
  | nil => rfl
  | cons hk _ _ ih => rw [List.any_cons, List.any_cons, ih, KR.eq ok hk b]
theorem DR.app {d e d' e'} (a : DR G r H d e) (b : DR G r H d' e') : DR G r H (d ++ d') (e ++ e') := by
  induction a with
  | nil => exact b
  | cons hk hv _ ih => exact .cons hk hv ih
theorem DR.upd (ok : G.Ok) {d e} (a : DR G r H d e) {k x : Val} {q : Key} {v : V} (b : KR G k q) (c : VR G r H x v) : DR G r H (d.map (fun kv => if kv.1 = k then (kv.1, x) else kv)) (e.map (fun kv => if kv.1 = q then (kv.1, v) else kv)) := by
  induction a with
  | nil => exact .nil
  | @cons k' x' q' v' d e hk hv _ ih =>
    have e1 := KR.eq ok hk b
    rw [List.map_cons, List.map_cons]
    by_cases hh : k' = k
    · have h2 : q' = q := by simpa [hh] using e1
      rw [if_pos hh, if_pos h2]
      exact .cons hk c ih
    · have h2 : ¬ q' = q := by simpa [hh] using e1
      rw [if_neg hh, if_neg h2]
      exact .cons hk hv ih
theorem DR.put (ok : G.Ok) {d e} (a : DR G r H d e) {k x : Val} {q : Key} {v : V} (b : KR G k q) (c : VR G r H x v) : DR G r H (putV d k x) (putK e q v) := by
  unfold putV putK
  rw [a.any ok b]
  by_cases hh : (e.any fun kv => decide (kv.1 = q)) = true
  · rw [if_pos hh, if_pos hh]
    exact a.upd ok b c
  · rw [if_neg hh, if_neg hh]
    exact a.app (.cons b c .nil)
theorem DR.drop (ok : G.Ok) {d e} (a : DR G r H d e) {k : Val} {q : Key} (b : KR G k q) : DR G r H (dropV d k) (dropK e q) := by
  unfold dropV dropK
  induction a with
  | nil => exact .nil
  | @cons k' x' q' v' d e hk hv _ ih =>
    have e1 := KR.eq ok hk b
    by_cases hh : k' = k
    · have h2 : q' = q := by simpa [hh] using e1
      rw [List.filter_cons_of_neg (by simp [hh]), List.filter_cons_of_neg (by simp [h2])]
      exact ih
    · have h2 : ¬ q' = q := by simpa [hh] using e1
      rw [List.filter_cons_of_pos (by simp [hh]), List.filter_cons_of_pos (by simp [h2])]
      exact .cons hk hv ih
end

/-! ### in -/
theorem DGet_kf {H : Hp} {a : Addr} {o : PySem.Obj} {kvs : List (Key × V)} {k : Key} (e : H a = some (.frz o (.dK kvs))) : DGet H a (kV k) (valV kvs k) := .inl ⟨kvs, k, .inr ⟨o, e⟩, rfl, rfl⟩
def rDIn : R2 := fun y x H Q => ∃ a o, x = .ref a ∧ DGet H a y o ∧ Q (.bl o.isSome) H
def rDNotIn : R2 := fun y x H Q => ∃ a o, x = .ref a ∧ DGet H a y o ∧ Q (.bl (!o.isSome)) H
theorem op_din {X : Cx} (hu : X.A.units + 1 < cLine) : OpR X (compareOp .In) rDIn := by
  intro pins s σ H x y v u Q I rx ry ⟨a, o, e, g, q⟩
  subst e
  obtain rfl : u = Value.ref a := ry
  exact d_in hu I g rx fun s3 I3 => ⟨.bl o.isSome, H, I3, rfl, q⟩
theorem op_dnotin {X : Cx} (hu : X.A.units + 1 < cLine) : OpR X (compareOp .NotIn) rDNotIn := by
  intro pins s σ H x y v u Q I rx ry ⟨a, o, e, g, q⟩
  subst e
  obtain rfl : u = Value.ref a := ry
  exact d_notIn hu I g rx fun s3 I3 => ⟨.bl (!o.isSome), H, I3, rfl, q⟩
def isFlat : Val → Bool
  | .non => true
  | .bl _ => true
  | .int _ => true
  | .str _ => true
  | _ => false
def feq : Val → Val → Bool
  | .non, .non => true
  | .bl a, .bl b => a == b
  | .bl a, .int j => (if a then 1 else 0) == j
  | .int i, .bl b => i == (if b then 1 else 0)
  | .int i, .int j => i == j
  | .str x, .str y => x == y
  | _, _ => false
def inSeq (x : Val) (h : Heap) (ys : List Val) : Option Bool := match conv 60 h x, optAll (conv 59 h) ys with
  | some d, some ds => some (ds.any fun z => deq z d)
  | _, _ => none
def oIn (neg : Bool) (x y : Val) (h : Heap) : Res Val := match y with
  | .tup ys => if isFlat x = true ∧ ys.all isFlat = true then .ok (.bl (if neg then !(ys.any fun z => feq z x) else ys.any fun z => feq z x)) h else .stuck
  | .ref a => match h[a]? with
    | some (.lst ys) => match inSeq x h ys with
      | some b => .ok (.bl (if neg then !b else b)) h
      | none => .stuck
    | some (.dct d) => if isKey x = true then .ok (.bl (if neg then !(lookV d x).isSome else (lookV d x).isSome)) h else .stuck
    | some (.fdc d) => if isKey x = true then .ok (.bl (if neg then !(lookV d x).isSome else (lookV d x).isSome)) h else .stuck
    | _ => .stuck
  | _ => .stuck
section
variable {G : Cfg} {E : XK} {r : List Addr} {H : Hp} {h : Heap}
theorem flat_of {x : Val} {v : V} (a : VR G r H x v) (f : isFlat x = true) : flatV v = true := by
  cases a <;> first | rfl | (simp [isFlat] at f)
theorem all_flat : ∀ {xs : List Val} {vs : List V}, VRs G r H xs vs → xs.all isFlat = true → vs.all flatV = true
  | _, _, .nil, _ => rfl
  | _, _, .cons a b, f => by
    rw [List.all_cons, Bool.and_eq_true] at f ⊢
    exact ⟨flat_of a f.1, all_flat b f.2⟩
theorem feq_of (ok : G.Ok) {x y : Val} {v u : V} (a : VR G r H x v) (b : VR G r H y u) (f : isFlat x = true) : feq x y = eqV v u := by
  cases a with
  | str hi => cases b with
    | str hj =>
      rename_i n z n' z'
      show (n == n') = (z == z')
      by_cases e : n = n'
      · subst e
        rw [hi] at hj
        cases hj
        simp
      · have : z ≠ z' := fun q => e (by subst q; exact sts_inj ok hi hj)
        rw [beq_eq_false_iff_ne.mpr e, beq_eq_false_iff_ne.mpr this]
    | _ => rfl
  | tup _ _ => simp [isFlat] at f
  | ref _ => simp [isFlat] at f
  | _ => cases b <;> rfl
theorem any_feq (ok : G.Ok) {y : Val} {u : V} (b : VR G r H y u) : ∀ {xs : List Val} {vs : List V}, VRs G r H xs vs → xs.all isFlat = true → (xs.any fun z => feq z y) = inV u vs
  | _, _, .nil, _ => rfl
  | _, _, .cons a c, f => by
    rw [List.all_cons, Bool.and_eq_true] at f
    unfold inV
    rw [List.any_cons, List.any_cons, feq_of ok a b f.1, any_feq ok b c f.2]
    rfl
theorem any_py (ok : G.Ok) {d : D} {n m : Nat} (hd : d.wf G.sts.length n = true) : ∀ (ds : List D), D.wfs G.sts.length m ds = true → ((D.pys G ds).any fun z => PyData.eqv z (d.py G)) = ds.any fun z => deq z d
  | [], _ => by simp [D.pys]
  | x :: xs, f => by
    simp only [D.wfs, Bool.and_eq_true] at f
    rw [D.pys, List.any_cons, List.any_cons, eqv_py ok x d _ _ f.1 hd, any_py ok hd xs f.2]
/-- in, not in -/
def rInA (K : PySem.W.Frag) : R2 := fun x y H Q => rIn K false x y H Q ∨ rInD K x y H Q ∨ rDIn x y H Q
def rNotInA (K : PySem.W.Frag) : R2 := fun x y H Q => rIn K true x y H Q ∨ rNotInD K x y H Q ∨ rDNotIn x y H Q
theorem op_inA {X : Cx} (hu : X.A.units + 65 < cLine) : OpR X (compareOp .In) (rInA X.K) := op_in_seq.or ((op_inD hu).or (op_din (by omega)))
theorem op_notInA {X : Cx} (hu : X.A.units + 65 < cLine) : OpR X (compareOp .NotIn) (rNotInA X.K) := op_notIn_seq.or ((op_notInD hu).or (op_dnotin (by omega)))
theorem inSeq_of (ok : G.Ok) (hR : HR G r H h) {x : Val} {v : V} {ys : List Val} {us : List V} {b : Bool} {a : Addr} (hx : VR G r H x v) (hs : SqL G.K H a us) (hy : VRs G r H ys us) (e : inSeq x h ys = some b) :
    ∃ (d : PyData) (ds : List PyData), Dp G.K H v d ∧ Dp G.K H (.ref a) (.list ds) ∧ SeqAt.shaped d = true ∧ SeqAt.shaped (.list ds) = true ∧ (ds.any fun z => PyData.eqv z d) = b := by
  unfold inSeq at e
  split at e
  · rename_i d ds e1 e2
    cases e
    obtain ⟨d1, w1⟩ := conv_dp hR _ _ _ _ hx e1
    obtain ⟨d2, w2⟩ := optAll_dp (fun x v d => conv_dp hR 59 x v d) _ _ _ hy e2
    refine ⟨_, _, d1, .lst hs d2, shaped_py ok w1 (by decide), ?_, any_py ok w1 ds w2⟩
    have : (D.lst ds).wf G.sts.length 60 = true := by simpa [D.wf] using w2
    have := shaped_py ok this (by decide)
    simpa [D.py] using this
  · cases e
theorem rf_in (ok : G.Ok) : Rf2 G E (rInA G.K) (oIn false) := by
  refine ⟨fun r H h x y v u Q hR a b p => ?_⟩
  cases b with
  | tup hb vb =>
    simp only [oIn] at p
    split at p
    · rename_i f
      refine .inl ⟨_, _, rfl, .inr hb, flat_of a f.1, all_flat vb f.2, ?_⟩
      rw [if_neg (by decide), ← any_feq ok a vb f.2]
      exact p.here hR (.bl _)
    · exact p.elim
  | @ref n c ec =>
    simp only [oIn] at p
    split at p
    · rename_i ys ey
      cases hR.ob _ _ _ ey ec with
      | lst hl hv =>
        split at p
        · rename_i z ez
          obtain ⟨d, ds, q1, q2, q3, q4, q5⟩ := inSeq_of ok hR a (SqL.of hl) hv ez
          refine .inr (.inl ⟨d, ds, q1, q2, q3, q4, ?_⟩)
          rw [q5]
          exact p.here hR (.bl _)
        · exact p.elim
    · rename_i d ed
      cases hR.ob _ _ _ ed ec with
      | dct hd hv =>
        split at p
        · rename_i hk
          obtain ⟨q, kq, rfl⟩ := KR.of a hk
          refine .inr (.inr ⟨_, _, rfl, DGet.k hd, ?_⟩)
          have := p.here hR (.bl _)
          rcases hv.look ok kq with ⟨e1, e2⟩ | ⟨x', v', e1, e2, _⟩
          · rw [e2]
            rw [e1] at this
            exact this
          · rw [e2]
            rw [e1] at this
            exact this
        · exact p.elim
    · rename_i d ed
      cases hR.ob _ _ _ ed ec with
      | fdc hd hv =>
        split at p
        · rename_i hk
          obtain ⟨q, kq, rfl⟩ := KR.of a hk
          refine .inr (.inr ⟨_, _, rfl, DGet_kf hd, ?_⟩)
          have := p.here hR (.bl _)
          rcases hv.look ok kq with ⟨e1, e2⟩ | ⟨x', v', e1, e2, _⟩
          · rw [e2]
            rw [e1] at this
            exact this
          · rw [e2]
            rw [e1] at this
            exact this
        · exact p.elim
    · exact p.elim
  | _ => exact False.elim p
theorem rf_notin (ok : G.Ok) : Rf2 G E (rNotInA G.K) (oIn true) := by
  refine ⟨fun r H h x y v u Q hR a b p => ?_⟩
  cases b with
  | tup hb vb =>
    simp only [oIn] at p
    split at p
    · rename_i f
      refine .inl ⟨_, _, rfl, .inr hb, flat_of a f.1, all_flat vb f.2, ?_⟩
      rw [if_pos rfl, ← any_feq ok a vb f.2]
      exact p.here hR (.bl _)
    · exact p.elim
  | @ref n c ec =>
    simp only [oIn] at p
    split at p
    · rename_i ys ey
      cases hR.ob _ _ _ ey ec with
      | lst hl hv =>
        split at p
        · rename_i z ez
          obtain ⟨d, ds, q1, q2, q3, q4, q5⟩ := inSeq_of ok hR a (SqL.of hl) hv ez
          refine .inr (.inl ⟨d, ds, q1, q2, q3, q4, ?_⟩)
          rw [q5]
          exact p.here hR (.bl _)
        · exact p.elim
    · rename_i d ed
      cases hR.ob _ _ _ ed ec with
      | dct hd hv =>
        split at p
        · rename_i hk
          obtain ⟨q, kq, rfl⟩ := KR.of a hk
          refine .inr (.inr ⟨_, _, rfl, DGet.k hd, ?_⟩)
          have := p.here hR (.bl _)
          rcases hv.look ok kq with ⟨e1, e2⟩ | ⟨x', v', e1, e2, _⟩
          · rw [e2]
            rw [e1] at this
            exact this
          · rw [e2]
            rw [e1] at this
            exact this
        · exact p.elim
    · rename_i d ed
      cases hR.ob _ _ _ ed ec with
      | fdc hd hv =>
        split at p
        · rename_i hk
          obtain ⟨q, kq, rfl⟩ := KR.of a hk
          refine .inr (.inr ⟨_, _, rfl, DGet_kf hd, ?_⟩)
          have := p.here hR (.bl _)
          rcases hv.look ok kq with ⟨e1, e2⟩ | ⟨x', v', e1, e2, _⟩
          · rw [e2]
            rw [e1] at this
            exact this
          · rw [e2]
            rw [e1] at this
            exact this
        · exact p.elim
    · exact p.elim
  | _ => exact False.elim p
end
end PyM

set_option Elab.async false
set_option linter.all false
set_option maxRecDepth 100000
set_option autoImplicit false
namespace PyM
open PySem L2

theorem pc_of {X : Cx} {a b : Expr} {ta tb : TE} {op : CmpOp} {r : R2} (ho : OpR X (compareOp op) r) (ha : PE X a ta) (hb : PE X b tb) : PC X op a b (tOp r ta tb) :=
  ⟨fun pins s σ H Q I h => bin ha hb I h fun v u s2 x y H2 I2 rx ry q => ho pins s2 σ H2 x y v u Q I2 rx ry q⟩

/-- truth -/
def truth (x : Val) (h : Heap) : Option Bool := match x with
  | .non => some false
  | .bl b => some b
  | .int i => some (i != 0)
  | .tup xs => some (!xs.isEmpty)
  | .ref a => match h[a]? with
    | some (.lst xs) => some (!xs.isEmpty)
    | some (.fls xs) => some (!xs.isEmpty)
    | some (.dct d) => some (!d.isEmpty)
    | _ => none
  | .str _ => none
def tB_ (ma : En → Heap → Res Val) (s : En) (h : Heap) : Res Bool := (ma s h).bind fun x h1 => match x with
  | .bl b => .ok b h1
  | _ => .stuck
def tTr (ma : En → Heap → Res Val) (s : En) (h : Heap) : Res Bool := (ma s h).bind fun x h1 => match truth x h1 with
  | some b => .ok b h1
  | none => .stuck
def tNo (m : En → Heap → Res Bool) (s : En) (h : Heap) : Res Bool := (m s h).bind fun b h1 => .ok (!b) h1
def tAn (m n : En → Heap → Res Bool) (s : En) (h : Heap) : Res Bool := (m s h).bind fun b h1 => if b = true then n s h1 else .ok false h1
def tOr_ (m n : En → Heap → Res Bool) (s : En) (h : Heap) : Res Bool := (m s h).bind fun b h1 => if b = true then .ok true h1 else n s h1
def mAn (m n : En → Heap → Res Val) (s : En) (h : Heap) : Res Val := (m s h).bind fun x h1 => match x with
  | .bl b => if b = true then n s h1 else .ok (.bl false) h1
  | _ => .stuck
def mOr_ (m n : En → Heap → Res Val) (s : En) (h : Heap) : Res Val := (m s h).bind fun x h1 => match x with
  | .bl b => if b = true then .ok (.bl true) h1 else n s h1
  | _ => .stuck
def mNo (m : En → Heap → Res Val) (s : En) (h : Heap) : Res Val := (m s h).bind fun x h1 => match x with
  | .bl b => .ok (.bl (!b)) h1
  | _ => .stuck
def mIf (t : En → Heap → Res Bool) (m n : En → Heap → Res Val) (s : En) (h : Heap) : Res Val := (t s h).bind fun b h1 => if b = true then m s h1 else n s h1
/-- a op b op' c, over ints -/
def mCh (p q : Int → Int → Bool) (ma mb mc : En → Heap → Res Val) (s : En) (h : Heap) : Res Val := (ma s h).bind fun x h1 => (mb s h1).bind fun y h2 => match x, y with
  | .int i, .int j => if p i j = true then (mc s h2).bind fun z h3 => match z with
      | .int k => .ok (.bl (q j k)) h3
      | _ => .stuck
    else .ok (.bl false) h2
  | _, _ => .stuck
def mTup (ma : En → Heap → Res (List Val)) (s : En) (h : Heap) : Res Val := (ma s h).bind fun xs h1 => if xs.length ≤ lim then .ok (.tup xs) h1 else .stuck
def mLst (ma : En → Heap → Res (List Val)) (s : En) (h : Heap) : Res Val := (ma s h).bind fun xs h1 => if xs.length ≤ lim then .ok (.ref h1.length) (h1 ++ [.lst xs]) else .stuck
def mDct (_ : En) (h : Heap) : Res Val := .ok (.ref h.length) (h ++ [.dct []])
def lookF (f : Nat) : List (Nat × Val) → Option Val
  | [] => none
  | (g, x) :: r => if g = f then some x else lookF f r
def setF (f : Nat) (x : Val) : List (Nat × Val) → List (Nat × Val)
  | [] => [(f, x)]
  | (g, y) :: r => if g = f then (f, x) :: r else (g, y) :: setF f x r
def getF (f : Nat) (x : Val) (h : Heap) : Res Val := match x with
  | .ref a => match h[a]? with
    | some (.ins c fs) => match lookF f fs with
      | some v => .ok v h
      | none => .stuck
    | _ => .stuck
  | _ => .stuck
/-- a[i]: a list, a tuple, a dict with keys that are ints or texts -/
def oIx (x y : Val) (h : Heap) : Res Val := match x with
  | .tup xs => match y with
    | .int i => match atI xs i with
      | some v => .ok v h
      | none => .stuck
    | _ => .stuck
  | .ref a => match h[a]? with
    | some (.lst xs) => match y with
      | .int i => match atI xs i with
        | some v => .ok v h
        | none => .stuck
      | _ => .stuck
    | some (.fls xs) => match y with
      | .int i => match atI xs i with
        | some v => .ok v h
        | none => .stuck
      | _ => .stuck
    | some (.dct d) => if isKey y = true then match lookV d y with
        | some v => .ok v h
        | none => .stuck
      else .stuck
    | some (.fdc d) => if isKey y = true then match lookV d y with
        | some v => .ok v h
        | none => .stuck
      else .stuck
    | _ => .stuck
  | _ => .stuck
def cut (xs : List Val) (lo hi : Option Int) : List Val := (xs.drop (HT.sIx xs.length 0 lo)).take (HT.sIx xs.length xs.length hi - HT.sIx xs.length 0 lo)
def oSl (x : Val) (lo hi : Option Int) (h : Heap) : Res Val := match x with
  | .tup xs => .ok (.tup (cut xs lo hi)) h
  | .ref a => match h[a]? with
    | some (.lst xs) => .ok (.ref h.length) (h ++ [.lst (cut xs lo hi)])
    | some (.fls xs) => .ok (.ref h.length) (h ++ [.lst (cut xs lo hi)])
    | _ => .stuck
  | _ => .stuck
def pNo (_ : En) (h : Heap) : Res (Option Int) := .ok none h
def pSo (m : En → Heap → Res Val) (s : En) (h : Heap) : Res (Option Int) := (m s h).bind fun x h1 => match x with
  | .int i => .ok (some i) h1
  | _ => .stuck
def mSl (m : En → Heap → Res Val) (p q : En → Heap → Res (Option Int)) (s : En) (h : Heap) : Res Val := (m s h).bind fun x h1 => (p s h1).bind fun lo h2 => (q s h2).bind fun hi h3 => oSl x lo hi h3
/-- the second way where the first is stuck -/
def mAlt (m n : En → Heap → Res Val) (s : En) (h : Heap) : Res Val := match m s h with
  | .stuck => n s h
  | x => x

section
variable {G : Cfg} {E : XK} {X : Cx} {k : Nat} {a b c e : Expr} {ta tb tc : TE} {ma mb mc : En → Heap → Res Val} {pos : Pos} {u v w : TT} {mu mv : En → Heap → Res Bool}
abbrev XCu (G : Cfg) (E : XK) (X : Cx) (k : Nat) := XC G E X k
theorem XC.hu (C : XC G E X k) : X.A.units + 65 < cLine := by have := C.room.un; omega

/-! ### two-place operators -/
theorem me_add (C : XC G E X k) (ha : ME G E X a ta ma) (hb : ME G E X b tb mb) : ME G E X (.BinOp a .Add b pos) (tOp (rAdd G.K) ta tb) (mB oAdd ma mb) := by
  refine ⟨?_, ha.rf.b2 hb.rf rf_add⟩
  have := pe_op (pos := pos) (op_addM (X := X)) ha.pe hb.pe
  rwa [C.K] at this
theorem me_sub (ha : ME G E X a ta ma) (hb : ME G E X b tb mb) : ME G E X (.BinOp a .Sub b pos) (tOp (rI0 fun i j => .int (i - j)) ta tb) (mB (oI fun i j => .int (i - j)) ma mb) := ⟨pe_op op_sub ha.pe hb.pe, ha.rf.b2 hb.rf (rf_I0 (g := fun i j => i - j))⟩
theorem me_mul (C : XC G E X k) (ha : ME G E X a ta ma) (hb : ME G E X b tb mb) : ME G E X (.BinOp a .Mult b pos) (tOp (rMulA G.K) ta tb) (mB oMul ma mb) := by
  refine ⟨?_, ha.rf.b2 hb.rf rf_mul⟩
  have := pe_op (pos := pos) (op_mulA (X := X)) ha.pe hb.pe
  rwa [C.K] at this
theorem me_fdiv (ha : ME G E X a ta ma) (hb : ME G E X b tb mb) : ME G E X (.BinOp a .FloorDiv b pos) (tOp (rI CDiv fun i j => .int (i / j)) ta tb) (mB (oIC (fun _ j => decide (0 < j ∧ j < 1073741824)) fun i j => .int (i / j)) ma mb) :=
  ⟨pe_op op_fdiv ha.pe hb.pe, ha.rf.b2 hb.rf (rf_IC (fun i j e => by simpa [CDiv] using e))⟩
theorem me_mod (ha : ME G E X a ta ma) (hb : ME G E X b tb mb) : ME G E X (.BinOp a .Mod b pos) (tOp (rI (fun _ j => 0 < j) fun i j => .int (i % j)) ta tb) (mB (oIC (fun _ j => decide (0 < j)) fun i j => .int (i % j)) ma mb) :=
  ⟨pe_op op_mod ha.pe hb.pe, ha.rf.b2 hb.rf (rf_IC (fun i j e => by simpa using e))⟩
def cPow (i j : Int) : Bool := decide (0 ≤ j ∧ j ≤ 1000000 ∧ i.natAbs < 2 ^ 64)
theorem me_pow (ha : ME G E X a ta ma) (hb : ME G E X b tb mb) : ME G E X (.BinOp a .Pow b pos) (tOp (rI CPow fun i j => .int (i ^ j.toNat)) ta tb) (mB (oIC cPow fun i j => .int (i ^ j.toNat)) ma mb) :=
  ⟨pe_op op_pow ha.pe hb.pe, ha.rf.b2 hb.rf (rf_IC (fun i j e => by simpa [CPow, cPow] using e))⟩
theorem me_shl (ha : ME G E X a ta ma) (hb : ME G E X b tb mb) : ME G E X (.BinOp a .LShift b pos) (tOp (rI CPow fun i j => .int (i * 2 ^ j.toNat)) ta tb) (mB (oIC cPow fun i j => .int (i * 2 ^ j.toNat)) ma mb) :=
  ⟨pe_op op_shl ha.pe hb.pe, ha.rf.b2 hb.rf (rf_IC (fun i j e => by simpa [CPow, cPow] using e))⟩
theorem me_shr (ha : ME G E X a ta ma) (hb : ME G E X b tb mb) : ME G E X (.BinOp a .RShift b pos) (tOp (rI (fun _ j => 0 ≤ j) fun i j => .int (i / 2 ^ j.toNat)) ta tb) (mB (oIC (fun _ j => decide (0 ≤ j)) fun i j => .int (i / 2 ^ j.toNat)) ma mb) :=
  ⟨pe_op op_shr ha.pe hb.pe, ha.rf.b2 hb.rf (rf_IC (fun i j e => by simpa using e))⟩
theorem me_and (ha : ME G E X a ta ma) (hb : ME G E X b tb mb) : ME G E X (.BinOp a .BitAnd b pos) (tOp (rI0 fun i j => .int (Builtin.bitAnd i j)) ta tb) (mB (oI fun i j => .int (Builtin.bitAnd i j)) ma mb) := ⟨pe_op op_and ha.pe hb.pe, ha.rf.b2 hb.rf rf_I0⟩
theorem me_or (ha : ME G E X a ta ma) (hb : ME G E X b tb mb) : ME G E X (.BinOp a .BitOr b pos) (tOp (rI0 fun i j => .int (Builtin.bitOr i j)) ta tb) (mB (oI fun i j => .int (Builtin.bitOr i j)) ma mb) := ⟨pe_op op_or ha.pe hb.pe, ha.rf.b2 hb.rf rf_I0⟩
theorem me_xor (ha : ME G E X a ta ma) (hb : ME G E X b tb mb) : ME G E X (.BinOp a .BitXor b pos) (tOp (rI0 fun i j => .int (Builtin.bitXor i j)) ta tb) (mB (oI fun i j => .int (Builtin.bitXor i j)) ma mb) := ⟨pe_op op_xor ha.pe hb.pe, ha.rf.b2 hb.rf rf_I0⟩
theorem me_neg (ha : ME G E X a ta ma) : ME G E X (.UnaryOp .USub a pos) (tUn (rU fun i => .int (-i)) ta) (mU oNeg ma) := by
  refine ⟨pe_un un_neg ha.pe, ha.rf.u1 ⟨fun r H h x v Q hR q p => ?_⟩⟩
  cases q with
  | int i => exact ⟨i, rfl, p.here hR (.int _)⟩
  | _ => exact False.elim p

/-! ### comparisons -/
theorem mc_eq (ok : G.Ok) (C : XC G E X k) (ha : ME G E X a ta ma) (hb : ME G E X b tb mb) : MC G E X .Eq a b (tOp (rEqD G.K) ta tb) (mB (oEq false) ma mb) := by
  refine ⟨?_, ha.rf.b2 hb.rf (rf_eq ok)⟩
  have := pc_of (op_eqD (X := X) (by have := C.hu; omega)) ha.pe hb.pe
  rwa [C.K] at this
theorem mc_ne (ok : G.Ok) (C : XC G E X k) (ha : ME G E X a ta ma) (hb : ME G E X b tb mb) : MC G E X .NotEq a b (tOp (rNeD G.K) ta tb) (mB (oEq true) ma mb) := by
  refine ⟨?_, ha.rf.b2 hb.rf (rf_ne ok)⟩
  have := pc_of (op_neD (X := X) (by have := C.hu; omega)) ha.pe hb.pe
  rwa [C.K] at this
theorem mc_lt (ha : ME G E X a ta ma) (hb : ME G E X b tb mb) : MC G E X .Lt a b (tOp (rI0 fun i j => .bl (decide (i < j))) ta tb) (mB (oI fun i j => .bl (decide (i < j))) ma mb) := ⟨pc_of op_lt ha.pe hb.pe, ha.rf.b2 hb.rf rf_B0⟩
theorem mc_le (ha : ME G E X a ta ma) (hb : ME G E X b tb mb) : MC G E X .LtE a b (tOp (rI0 fun i j => .bl (decide (i ≤ j))) ta tb) (mB (oI fun i j => .bl (decide (i ≤ j))) ma mb) := ⟨pc_of op_le ha.pe hb.pe, ha.rf.b2 hb.rf rf_B0⟩
theorem mc_gt (ha : ME G E X a ta ma) (hb : ME G E X b tb mb) : MC G E X .Gt a b (tOp (rI0 fun i j => .bl (decide (j < i))) ta tb) (mB (oI fun i j => .bl (decide (j < i))) ma mb) := ⟨pc_of op_gt ha.pe hb.pe, ha.rf.b2 hb.rf (rf_B0 (g := fun i j => decide (j < i)))⟩
theorem mc_ge (ha : ME G E X a ta ma) (hb : ME G E X b tb mb) : MC G E X .GtE a b (tOp (rI0 fun i j => .bl (decide (j ≤ i))) ta tb) (mB (oI fun i j => .bl (decide (j ≤ i))) ma mb) := ⟨pc_of op_ge ha.pe hb.pe, ha.rf.b2 hb.rf (rf_B0 (g := fun i j => decide (j ≤ i)))⟩
theorem mc_in (ok : G.Ok) (C : XC G E X k) (ha : ME G E X a ta ma) (hb : ME G E X b tb mb) : MC G E X .In a b (tOp (rInA G.K) ta tb) (mB (oIn false) ma mb) := by
  refine ⟨?_, ha.rf.b2 hb.rf (rf_in ok)⟩
  have := pc_of (op_inA (X := X) C.hu) ha.pe hb.pe
  rwa [C.K] at this
theorem mc_notin (ok : G.Ok) (C : XC G E X k) (ha : ME G E X a ta ma) (hb : ME G E X b tb mb) : MC G E X .NotIn a b (tOp (rNotInA G.K) ta tb) (mB (oIn true) ma mb) := by
  refine ⟨?_, ha.rf.b2 hb.rf (rf_notin ok)⟩
  have := pc_of (op_notInA (X := X) C.hu) ha.pe hb.pe
  rwa [C.K] at this
theorem rf_isN (h1 : Rf G E ta ma) : Rf G E (tIsN ta) (mU (oIsN false) ma) := by
  refine ⟨fun r H h s σ Q hR sR p => h1.run r H h s σ _ hR sR (p.seq fun x h1' r1 H1 v s1 hR1 v1 p1 => ?_)⟩
  have := p1.here hR1 (.bl _)
  cases v1 <;> exact this
theorem rf_notN (h1 : Rf G E ta ma) : Rf G E (tNotN ta) (mU (oIsN true) ma) := by
  refine ⟨fun r H h s σ Q hR sR p => h1.run r H h s σ _ hR sR (p.seq fun x h1' r1 H1 v s1 hR1 v1 p1 => ?_)⟩
  have := p1.here hR1 (.bl _)
  cases v1 <;> exact this
theorem mc_isN {j pos'} (ha : ME G E X a ta ma) : MC G E X .Is a (.Constant .none j pos') (tIsN ta) (mU (oIsN false) ma) := ⟨pc_isN ha.pe, rf_isN ha.rf⟩
theorem mc_notN {j pos'} (ha : ME G E X a ta ma) : MC G E X .IsNot a (.Constant .none j pos') (tNotN ta) (mU (oIsN true) ma) := ⟨pc_notN ha.pe, rf_notN ha.rf⟩
theorem me_cmp {op : CmpOp} {t : TE} {m} (h : MC G E X op a b t m) (h1 : behindInMarks op b = false := by first | exact nobehind _ (by decide) (by decide) | rfl) : ME G E X (.Compare a [op] [b] pos) t m := ⟨pe_cmp h.pe h1, h.rf⟩
theorem rf_tB {t : TE} {m} (h : Rf G E t m) : RfT G E (tB t) (tB_ m) := by
  refine ⟨fun r H h' s σ Q hR sR p => h.run r H h' s σ _ hR sR (p.seq fun x h1' r1 H1 v s1 hR1 v1 p1 => ?_)⟩
  cases v1 with
  | bl b => exact ⟨b, rfl, p1.here hR1 rfl⟩
  | _ => exact False.elim p1
theorem mt_cmp {op : CmpOp} {t : TE} {m} (h : MC G E X op a b t m) (h1 : behindInMarks op b = false := by first | exact nobehind _ (by decide) (by decide) | rfl) : MT G E X (.Compare a [op] [b] pos) (tB t) (tB_ m) := ⟨pt_cmp h.pe h1, rf_tB h.rf⟩
/-- a chain over ints -/
theorem rf_ch {p q : Int → Int → Bool} (h1 : Rf G E ta ma) (h2 : Rf G E tb mb) (h3 : Rf G E tc mc) : Rf G E (tChain (rI0 fun i j => .bl (p i j)) (rI0 fun i j => .bl (q i j)) ta tb tc) (mCh p q ma mb mc) := by
  refine ⟨fun r H h s σ Q hR sR z => ?_⟩
  refine h1.run r H h s σ _ hR sR (z.seq fun x h1' r1 H1 v s1 hR1 v1 p1 => ?_)
  refine h2.run r1 H1 h1' s σ _ hR1 (sR.mono s1) (p1.seq fun y h2' r2 H2 u s2 hR2 v2 p2 => ?_)
  have v1' := v1.mono s2
  cases v1' with
  | int i => cases v2 with
    | int j =>
      refine ⟨i, j, rfl, rfl, _, rfl, ?_⟩
      simp only at p2
      split at p2
      · rename_i hp
        rw [if_pos hp]
        refine h3.run r2 H2 h2' s σ _ hR2 (sR.mono (s1.trans s2)) (p2.seq fun z h3' r3 H3 w s3 hR3 v3 p3 => ?_)
        cases v3 with
        | int k => exact ⟨j, k, rfl, rfl, p3.here hR3 (.bl _)⟩
        | _ => exact False.elim p3
      · rename_i hp
        rw [if_neg hp]
        exact p2.here hR2 (.bl _)
    | _ => exact False.elim p2
  | _ => exact False.elim p2
theorem op_leB : OpR X (compareOp .LtE) (rI0 fun i j => .bl (decide (i ≤ j))) := op_le
theorem me_chLeLe (ha : ME G E X a ta ma) (hb : ME G E X b tb mb) (hc : ME G E X c tc mc) (hm : lastMarks [.LtE, .LtE] [b, c] = false := by with_unfolding_all rfl) : ME G E X (.Compare a [.LtE, .LtE] [b, c] pos) (tChain (rI0 fun i j => .bl (decide (i ≤ j))) (rI0 fun i j => .bl (decide (i ≤ j))) ta tb tc) (mCh (fun i j => decide (i ≤ j)) (fun i j => decide (i ≤ j)) ma mb mc) :=
  ⟨pe_chain op_le op_le ha.pe hb.pe hc.pe hm, rf_ch ha.rf hb.rf hc.rf⟩
theorem me_chLeLt (ha : ME G E X a ta ma) (hb : ME G E X b tb mb) (hc : ME G E X c tc mc) (hm : lastMarks [.LtE, .Lt] [b, c] = false := by with_unfolding_all rfl) : ME G E X (.Compare a [.LtE, .Lt] [b, c] pos) (tChain (rI0 fun i j => .bl (decide (i ≤ j))) (rI0 fun i j => .bl (decide (i < j))) ta tb tc) (mCh (fun i j => decide (i ≤ j)) (fun i j => decide (i < j)) ma mb mc) :=
  ⟨pe_chain op_le op_lt ha.pe hb.pe hc.pe hm, rf_ch ha.rf hb.rf hc.rf⟩
theorem rf_tT {t : TE} {m} (h : Rf G E t m) : RfT G E (tTest t) (tB_ m) := by
  refine ⟨fun r H h' s σ Q hR sR p => h.run r H h' s σ _ hR sR (p.seq fun x h1' r1 H1 v s1 hR1 v1 p1 => ?_)⟩
  cases v1 with
  | bl b => exact ⟨b, rfl, p1.here hR1 rfl⟩
  | _ => exact False.elim p1
theorem mt_chLeLe (ha : ME G E X a ta ma) (hb : ME G E X b tb mb) (hc : ME G E X c tc mc) (hm : lastMarks [.LtE, .LtE] [b, c] = false := by with_unfolding_all rfl) : MT G E X (.Compare a [.LtE, .LtE] [b, c] pos) (tTest (tChain (rI0 fun i j => .bl (decide (i ≤ j))) (rI0 fun i j => .bl (decide (i ≤ j))) ta tb tc)) (tB_ (mCh (fun i j => decide (i ≤ j)) (fun i j => decide (i ≤ j)) ma mb mc)) :=
  ⟨pt_chain op_le op_le ha.pe hb.pe hc.pe hm, rf_tT (rf_ch ha.rf hb.rf hc.rf)⟩
theorem mt_chLeLt (ha : ME G E X a ta ma) (hb : ME G E X b tb mb) (hc : ME G E X c tc mc) (hm : lastMarks [.LtE, .Lt] [b, c] = false := by with_unfolding_all rfl) : MT G E X (.Compare a [.LtE, .Lt] [b, c] pos) (tTest (tChain (rI0 fun i j => .bl (decide (i ≤ j))) (rI0 fun i j => .bl (decide (i < j))) ta tb tc)) (tB_ (mCh (fun i j => decide (i ≤ j)) (fun i j => decide (i < j)) ma mb mc)) :=
  ⟨pt_chain op_le op_lt ha.pe hb.pe hc.pe hm, rf_tT (rf_ch ha.rf hb.rf hc.rf)⟩

/-! ### truth, and, or, not, if -/
theorem mt_tr (C : XC G E X k) (ha : ME G E X a ta ma) (he : ∀ whole, isTrue a X.env whole = (do let v ← whole; standAt a.pos; holding [v] (truthy v)) := by intro _; rfl) : MT G E X a (fun σ H Q => ta σ H fun x H' => ∃ k, TruV G.K x H' k ∧ Q k H') (tTr ma) := by
  refine ⟨?_, ⟨fun r H h s σ Q hR sR p => ?_⟩⟩
  · have := pt_truth ha.pe he
    rwa [C.K] at this
  · refine ha.rf.run r H h s σ _ hR sR (p.seq fun x h1' r1 H1 v s1 hR1 v1 p1 => ?_)
    cases v1 with
    | non => exact ⟨_, rfl, p1.here hR1 rfl⟩
    | bl b => exact ⟨_, rfl, p1.here hR1 rfl⟩
    | int i => exact ⟨_, rfl, p1.here hR1 rfl⟩
    | str e => exact False.elim p1
    | tup hs hv =>
      have q := p1.here hR1 rfl
      cases hv with
      | nil => exact ⟨_, .inr (.inl ⟨_, hs, rfl⟩), q⟩
      | cons _ _ => exact ⟨_, .inr (.inl ⟨_, hs, rfl⟩), q⟩
    | @ref n a ea =>
      simp only [truth] at p1
      cases eo : h1'[n]? with
      | none => rw [eo] at p1; exact False.elim p1
      | some o =>
        rw [eo] at p1
        cases o with
        | lst xs => cases hR1.ob _ _ _ eo ea with
          | lst hl hv =>
            have q := p1.here hR1 rfl
            cases hv with
            | nil => exact ⟨_, .inl ⟨_, SqL.of hl, rfl⟩, q⟩
            | cons _ _ => exact ⟨_, .inl ⟨_, SqL.of hl, rfl⟩, q⟩
        | fls xs => cases hR1.ob _ _ _ eo ea with
          | fls hl hv =>
            have q := p1.here hR1 rfl
            cases hv with
            | nil => exact ⟨_, .inl ⟨_, hl.sq, rfl⟩, q⟩
            | cons _ _ => exact ⟨_, .inl ⟨_, hl.sq, rfl⟩, q⟩
        | dct d => cases hR1.ob _ _ _ eo ea with
          | dct hl hv =>
            have q := p1.here hR1 rfl
            cases hv with
            | nil => exact ⟨_, .inr (.inr ⟨_, hl, rfl⟩), q⟩
            | cons _ _ => exact ⟨_, .inr (.inr ⟨_, hl, rfl⟩), q⟩
        | dcT d => exact False.elim p1
        | fdc d => exact False.elim p1
        | fdT d => exact False.elim p1
        | ins _ _ => exact False.elim p1
variable {rest : List Expr}
theorem MW.mt (h : MW G E X a u mu) : MT G E X a u mu := ⟨h.pe.pt, h.rf⟩
theorem mw_and1 (h : MT G E X a u mu) : MW G E X (.BoolOp .And [a] pos) u mu := ⟨pw_and1 h.pe, h.rf⟩
theorem mw_or1 (h : MT G E X a u mu) : MW G E X (.BoolOp .Or [a] pos) u mu := ⟨pw_or1 h.pe, h.rf⟩
theorem mw_and (h : MT G E X a u mu) (h2 : MW G E X (.BoolOp .And (b :: rest) pos) v mv) : MW G E X (.BoolOp .And (a :: b :: rest) pos) (tAnd u v) (tAn mu mv) := by
  refine ⟨pw_and h.pe h2.pe, ⟨fun r H h' s σ Q hR sR p => h.rf.run r H h' s σ _ hR sR (p.seq fun x h1' r1 H1 v s1 hR1 v1 p1 => ?_)⟩⟩
  subst v1
  split at p1
  · rename_i e
    rw [if_pos e]
    exact h2.rf.run r1 H1 h1' s σ _ hR1 (sR.mono s1) p1
  · rename_i e
    rw [if_neg e]
    exact p1.here hR1 rfl
theorem mw_or (h : MT G E X a u mu) (h2 : MW G E X (.BoolOp .Or (b :: rest) pos) v mv) : MW G E X (.BoolOp .Or (a :: b :: rest) pos) (tOr u v) (tOr_ mu mv) := by
  refine ⟨pw_or h.pe h2.pe, ⟨fun r H h' s σ Q hR sR p => h.rf.run r H h' s σ _ hR sR (p.seq fun x h1' r1 H1 v s1 hR1 v1 p1 => ?_)⟩⟩
  subst v1
  split at p1
  · rename_i e
    rw [if_pos e]
    exact p1.here hR1 rfl
  · rename_i e
    rw [if_neg e]
    exact h2.rf.run r1 H1 h1' s σ _ hR1 (sR.mono s1) p1
theorem mt_not (h : MT G E X a u mu) : MT G E X (.UnaryOp .Not a pos) (tNot u) (tNo mu) := 
  ⟨pt_not h.pe, ⟨fun r H h' s σ Q hR sR p => h.rf.run r H h' s σ _ hR sR (p.seq fun x h1' r1 H1 v s1 hR1 v1 p1 => by subst v1; exact p1.here hR1 rfl)⟩⟩
theorem me_one {op} (h : ME G E X a ta ma) : ME G E X (.BoolOp op [a] pos) ta ma := ⟨pe_one h.pe, h.rf⟩
theorem me_andV (h : ME G E X a ta ma) (h2 : ME G E X (.BoolOp .And (b :: rest) pos) tb mb) : ME G E X (.BoolOp .And (a :: b :: rest) pos) (tAndV ta tb) (mAn ma mb) := by
  refine ⟨pe_and h.pe h2.pe, ⟨fun r H h' s σ Q hR sR p => h.rf.run r H h' s σ _ hR sR (p.seq fun x h1' r1 H1 v s1 hR1 v1 p1 => ?_)⟩⟩
  cases v1 with
  | bl c =>
    refine ⟨c, rfl, ?_⟩
    simp only at p1
    split at p1
    · rename_i e
      rw [if_pos e]
      exact h2.rf.run r1 H1 h1' s σ _ hR1 (sR.mono s1) p1
    · rename_i e
      rw [if_neg e]
      exact p1.here hR1 (.bl _)
  | _ => exact False.elim p1
theorem me_orV (h : ME G E X a ta ma) (h2 : ME G E X (.BoolOp .Or (b :: rest) pos) tb mb) : ME G E X (.BoolOp .Or (a :: b :: rest) pos) (tOrV ta tb) (mOr_ ma mb) := by
  refine ⟨pe_or h.pe h2.pe, ⟨fun r H h' s σ Q hR sR p => h.rf.run r H h' s σ _ hR sR (p.seq fun x h1' r1 H1 v s1 hR1 v1 p1 => ?_)⟩⟩
  cases v1 with
  | bl c =>
    refine ⟨c, rfl, ?_⟩
    simp only at p1
    split at p1
    · rename_i e
      rw [if_pos e]
      exact p1.here hR1 (.bl _)
    · rename_i e
      rw [if_neg e]
      exact h2.rf.run r1 H1 h1' s σ _ hR1 (sR.mono s1) p1
  | _ => exact False.elim p1
theorem me_notV (h : ME G E X a ta ma) : ME G E X (.UnaryOp .Not a pos) (tNotV ta) (mNo ma) := by
  refine ⟨pe_not h.pe, ⟨fun r H h' s σ Q hR sR p => h.rf.run r H h' s σ _ hR sR (p.seq fun x h1' r1 H1 v s1 hR1 v1 p1 => ?_)⟩⟩
  cases v1 with
  | bl c => exact ⟨c, rfl, p1.here hR1 (.bl _)⟩
  | _ => exact False.elim p1
theorem me_if (ht : MT G E X c u mu) (h : ME G E X a ta ma) (h2 : ME G E X b tb mb) : ME G E X (.IfExp c a b pos) (tIf u ta tb) (mIf mu ma mb) := by
  refine ⟨pe_ifExp ht.pe h.pe h2.pe, ⟨fun r H h' s σ Q hR sR p => ht.rf.run r H h' s σ _ hR sR (p.seq fun x h1' r1 H1 v s1 hR1 v1 p1 => ?_)⟩⟩
  subst v1
  split at p1
  · rename_i e
    rw [if_pos e]
    exact h.rf.run r1 H1 h1' s σ _ hR1 (sR.mono s1) p1
  · rename_i e
    rw [if_neg e]
    exact h2.rf.run r1 H1 h1' s σ _ hR1 (sR.mono s1) p1

/-! ### displays, attributes, subscripts -/
variable {es : List Expr} {tes : TA} {mas : En → Heap → Res (List Val)}
theorem me_tup {x1} (h : MA G E X es tes mas) : ME G E X (.Tuple es x1 pos) (tTup tes) (mTup mas) := by
  refine ⟨pe_tup h.pe, ⟨fun r H h' s σ Q hR sR p => h.rf.run r H h' s σ _ hR sR (p.seq fun xs h1' r1 H1 vs s1 hR1 v1 p1 => ?_)⟩⟩
  split at p1
  · rename_i hl
    have := v1.len
    refine ⟨le_line (by omega), fun q hq => ?_⟩
    exact p1 r1 _ _ (Stp.new0 hq) (hR1.lay hq) (.tup (SqT.of upd_same) (v1.mono (Stp.new0 hq)))
  · exact False.elim p1
theorem me_lst (h : MA G E X es tes mas) : ME G E X (.List es pos) (tLst tes) (mLst mas) := by
  refine ⟨pe_lst h.pe, ⟨fun r H h' s σ Q hR sR p => h.rf.run r H h' s σ _ hR sR (p.seq fun xs h1' r1 H1 vs s1 hR1 v1 p1 => ?_)⟩⟩
  split at p1
  · rename_i hl
    have := v1.len
    refine ⟨le_line (by omega), fun q hq => ?_⟩
    refine p1 (r1 ++ [q]) _ _ (Stp.new hq) (hR1.push hq (.lst upd_same (v1.mono (Stp.new hq)))) (.ref ?_)
    rw [← hR1.len]
    simp
  · exact False.elim p1
theorem me_dict : ME G E X (.Dict [] [] pos) tDNewK mDct := by
  refine ⟨pe_dnewK, ⟨fun r H h s σ Q hR sR p q hq => ?_⟩⟩
  refine p (r ++ [q]) _ _ (Stp.new hq) (hR.push hq (.dct upd_same .nil)) (.ref ?_)
  rw [← hR.len]
  simp
theorem FR.look (ok : G.Ok) {r : List Addr} {H : Hp} {D : Addr} {fs gs} (q : FR G r H D fs gs) {f : Nat} {z : Str} (hz : G.nms[f]? = some z) : (lookF f fs = none ∧ gs.lookup z = none) ∨ ∃ x v, lookF f fs = some x ∧ gs.lookup z = some v ∧ VR G r H x v ∧ NoAttr G.K D z := by
  induction q with
  | nil => exact .inl ⟨rfl, rfl⟩
  | @cons g y x v fs gs hy na hv _ ih =>
    by_cases e : g = f
    · subst e
      rw [hz] at hy
      cases hy
      exact .inr ⟨x, v, by simp [lookF], by simp [List.lookup], hv, na⟩
    · have : z ≠ y := fun q => e (by
        subst q
        obtain ⟨h1, e1⟩ := List.getElem?_eq_some_iff.mp hy
        obtain ⟨h2, e2⟩ := List.getElem?_eq_some_iff.mp hz
        exact (List.getElem_inj ok.nn).mp (e1.trans e2.symm))
      have : (z == y) = false := beq_eq_false_iff_ne.mpr this
      simpa [lookF, List.lookup, e, this] using ih
theorem me_fld (ok : G.Ok) (C : XC G E X k) (f : Nat) {z : Str} (hz : G.nms[f]? = some z) (h : ME G E X a ta ma) (hb : attributeBase a z X.env (eval a X.env) = eval a X.env := by rfl) : ME G E X (.Attribute a z pos) (tFld G.K ta z) (mU (getF f) ma) := by
  refine ⟨?_, ⟨fun r H h' s σ Q hR sR p => h.rf.run r H h' s σ _ hR sR (p.seq fun x h1' r1 H1 v s1 hR1 v1 p1 => ?_)⟩⟩
  · have := pe_fld (pos := pos) h.pe hb
    rwa [C.K] at this
  · cases v1 with
    | @ref n a ea =>
      simp only [getF] at p1
      split at p1
      · rename_i c fs eo
        split at p1
        · rename_i y ey
          cases hR1.ob _ _ _ eo ea with
          | ins hc hC ho hf =>
            rcases hf.look ok hz with ⟨e1, _⟩ | ⟨x', v', e1, e2, v2, na⟩
            · rw [e1] at ey
              cases ey
            · rw [e1] at ey
              cases ey
              exact ⟨_, _, _, _, _, rfl, ho, hC, na, e2, p1.here hR1 v2⟩
        · exact False.elim p1
      · exact False.elim p1
    | _ => exact False.elim p1
end
end PyM

set_option Elab.async false
set_option linter.all false
set_option maxRecDepth 100000
set_option autoImplicit false
namespace PyM
open PySem L2 PyProof.Rows

/-! ### subscripts -/
def rDGetR : R2 := fun x y H Q => ∃ a v, x = .ref a ∧ DGet H a y (some v) ∧ Q v H
theorem ix_dict {X : Cx} (hu : X.A.units + 1 < cLine) : IxR X rDGetR := by
  intro value slice pins s σ H x y v u Q I rx ry h hs
  obtain ⟨a, z, rfl, g, q⟩ := h
  obtain rfl : v = Value.ref a := rx
  have hT := dict_typeIs I g
  unfold subscriptTail
  refine wpAny_bind ?_
  rw [getitemInPython_of_ne hT.not_modules]
  refine wpAny_bind (wpAny_specialOf hT PySem.F.slot_dict_getitem.lookup ?_)
  have fin : wpAny (model X.prog X.w) X.A (subscripted slice false (.ref a) u) (fun r s₃ => wpAny (model X.prog X.w) X.A (letTemporaryGo value (.ref a) r >>= fun _ => pure r) (EP X pins σ Q) X.xe s₃) X.xe s := by
    rw [hs]
    exact wpAny_operating (wpAny_mono (d_getItem hu I g ry (Q := EP X pins σ Q) fun w' s3 I3 rw' => ⟨z, H, I3, rw', q⟩) (fun r s₃ h₃ => wpAny_bind (wpAny_letTemporaryGo (wpAny_pure h₃))) fun _ _ x => x)
  first
    | exact wpAny_pure (wpAny_bind fin)
    | exact wpAny_bind (wpAny_pure (wpAny_bind fin))
    | exact wpAny_bind fin
def rIxA (K : PySem.W.Frag) : R2 := fun x y H Q => rIxL K x y H Q ∨ rIxT K x y H Q ∨ rDGetR x y H Q
theorem ix_all {X : Cx} (hu : X.A.units + 1 < cLine) : IxR X (rIxA X.K) := ix_list.or (ix_tup.or (ix_dict hu))
theorem atI_len {α β : Type} {xs : List α} {ys : List β} (e : xs.length = ys.length) {i : Int} {v : α} (h : atI xs i = some v) : ∃ j : Nat, xs[j]? = some v ∧ ∀ u, ys[j]? = some u → atI ys i = some u := by
  unfold atI at h ⊢
  rw [e] at h
  cases q : ixN ys.length i with
  | none => rw [q] at h; cases h
  | some j =>
    rw [q] at h
    exact ⟨j, h, fun u hu => hu⟩
section
variable {G : Cfg} {E : XK}
theorem rf_ix (ok : G.Ok) : Rf2 G E (rIxA G.K) oIx := by
  refine ⟨fun r H h x y v u Q hR a b p => ?_⟩
  cases a with
  | tup ha va =>
    simp only [oIx] at p
    split at p
    · split at p
      · rename_i z ez
        cases b
        obtain ⟨j, e1, e2⟩ := atI_len va.len ez
        obtain ⟨w, e3, vw⟩ := va.get e1
        exact .inr (.inl ⟨_, _, _, _, rfl, rfl, ha, e2 _ e3, p.here hR vw⟩)
      · exact False.elim p
    · exact False.elim p
  | @ref n a ea =>
    simp only [oIx] at p
    split at p
    · rename_i xs eo
      split at p
      · split at p
        · rename_i z ez
          cases b
          cases hR.ob _ _ _ eo ea with
          | lst hl va =>
            obtain ⟨j, e1, e2⟩ := atI_len va.len ez
            obtain ⟨w, e3, vw⟩ := va.get e1
            exact .inl ⟨_, _, _, _, rfl, rfl, SqL.of hl, e2 _ e3, p.here hR vw⟩
        · exact False.elim p
      · exact False.elim p
    · rename_i xs eo
      split at p
      · split at p
        · rename_i z ez
          cases b
          cases hR.ob _ _ _ eo ea with
          | fls hl va =>
            obtain ⟨j, e1, e2⟩ := atI_len va.len ez
            obtain ⟨w, e3, vw⟩ := va.get e1
            exact .inl ⟨_, _, _, _, rfl, rfl, hl.sq, e2 _ e3, p.here hR vw⟩
        · exact False.elim p
      · exact False.elim p
    · rename_i d eo
      split at p
      · rename_i hk
        split at p
        · rename_i z ez
          cases hR.ob _ _ _ eo ea with
          | dct hd hv =>
            obtain ⟨q, kq, rfl⟩ := KR.of b hk
            rcases hv.look ok kq with ⟨e1, _⟩ | ⟨x', v', e1, e2, v2⟩
            · rw [e1] at ez
              cases ez
            · rw [e1] at ez
              cases ez
              exact .inr (.inr ⟨_, _, rfl, by rw [← e2]; exact DGet.k hd, p.here hR v2⟩)
        · exact False.elim p
      · exact False.elim p
    · rename_i d eo
      split at p
      · rename_i hk
        split at p
        · rename_i z ez
          cases hR.ob _ _ _ eo ea with
          | fdc hd hv =>
            obtain ⟨q, kq, rfl⟩ := KR.of b hk
            rcases hv.look ok kq with ⟨e1, _⟩ | ⟨x', v', e1, e2, v2⟩
            · rw [e1] at ez
              cases ez
            · rw [e1] at ez
              cases ez
              exact .inr (.inr ⟨_, _, rfl, by rw [← e2]; exact DGet_kf hd, p.here hR v2⟩)
        · exact False.elim p
      · exact False.elim p
    · exact False.elim p
  | _ => exact False.elim p
theorem VRs.cut {r : List Addr} {H : Hp} {xs : List Val} {vs : List V} (a : VRs G r H xs vs) (lo hi : Option Int) : VRs G r H (PyM.cut xs lo hi) (cutV vs lo hi) := by
  unfold PyM.cut cutV
  rw [a.len]
  exact (a.drop _).take _
structure RfO (G : Cfg) (E : XK) (t : TO) (m : En → Heap → Res (Option Int)) : Prop where
  run : ∀ r H h s σ Q, HR G r H h → SR G r H s σ → PostR G (fun _ _ a b => a = b) r H E (m s h) Q → t σ H Q
structure MO (G : Cfg) (E : XK) (X : Cx) (e : Option Expr) (t : TO) (m : En → Heap → Res (Option Int)) : Prop where
  pe : PO X e t
  rf : RfO G E t m
def rSlAll (K : PySem.W.Frag) : V → Option Int → Option Int → Hp → VK → Prop := fun x lo hi H Q => rSlL K x lo hi H Q ∨ rSlA K x lo hi H Q
theorem rf_sl {r : List Addr} {H : Hp} {h : Heap} {x : Val} {v : V} {lo hi : Option Int} {Q : VK} (hR : HR G r H h) (a : VR G r H x v) (p : PostR G (VR G) r H E (oSl x lo hi h) Q) : rSlAll G.K v lo hi H Q := by
  cases a with
  | tup ha va =>
    refine .inr ⟨_, _, rfl, ha, fun e => ?_, fun _ q hq => ?_⟩
    · refine p.here hR (.tup ha ?_)
      unfold PyM.cut
      rw [va.len, e.1, e.2, ← va.len]
      simpa using va
    · exact p r _ _ (Stp.new0 hq) (hR.lay hq) (.tup (SqT.of upd_same) ((va.cut lo hi).mono (Stp.new0 hq)))
  | @ref n a ea =>
    simp only [oSl] at p
    split at p
    · rename_i xs eo
      cases hR.ob _ _ _ eo ea with
      | lst hl va =>
        refine .inl ⟨_, _, rfl, SqL.of hl, fun q hq => ?_⟩
        refine p (r ++ [q]) _ _ (Stp.new hq) (hR.push hq (.lst upd_same ((va.cut lo hi).mono (Stp.new hq)))) (.ref ?_)
        rw [← hR.len]
        simp
    · rename_i xs eo
      cases hR.ob _ _ _ eo ea with
      | fls hl va =>
        refine .inl ⟨_, _, rfl, hl.sq, fun q hq => ?_⟩
        refine p (r ++ [q]) _ _ (Stp.new hq) (hR.push hq (.lst upd_same ((va.cut lo hi).mono (Stp.new hq)))) (.ref ?_)
        rw [← hR.len]
        simp
    · exact False.elim p
  | _ => exact False.elim p
variable {X : Cx} {k : Nat} {a b c e : Expr} {ta tb tc : TE} {ma mb mc : En → Heap → Res Val} {pos p2 : Pos}
theorem me_ix (ok : G.Ok) (C : XC G E X k) (ha : ME G E X a ta ma) (hb : ME G E X b tb mb) (hs : PlainIx b := by exact fun _ _ => rfl) : ME G E X (.Subscript a b pos) (tOp (rIxA G.K) ta tb) (mB oIx ma mb) := by
  refine ⟨?_, ha.rf.b2 hb.rf (rf_ix ok)⟩
  have := pe_ix (pos := pos) (ix_all (X := X) (by have := C.hu; omega)) ha.pe hb.pe hs
  rwa [C.K] at this
theorem mo_no : MO G E X none tNoPart pNo := ⟨po_none, ⟨fun r H h s σ Q hR sR p => p.here hR rfl⟩⟩
theorem mo_so (ha : ME G E X a ta ma) : MO G E X (some a) (tPart ta) (pSo ma) := by
  refine ⟨po_some ha.pe, ⟨fun r H h s σ Q hR sR p => ha.rf.run r H h s σ _ hR sR (p.seq fun x h1' r1 H1 v s1 hR1 v1 p1 => ?_)⟩⟩
  cases v1 with
  | int i => exact ⟨i, rfl, p1.here hR1 rfl⟩
  | _ => exact False.elim p1
theorem me_sl {lo hi : Option Expr} {tl th : TO} {ml mh : En → Heap → Res (Option Int)} (C : XC G E X k) (ha : ME G E X a ta ma) (hl : MO G E X lo tl ml) (hh : MO G E X hi th mh) : ME G E X (.Subscript a (.Slice lo hi none p2) pos) (tSl (rSlAll G.K) ta tl th) (mSl ma ml mh) := by
  refine ⟨?_, ⟨fun r H h s σ Q hR sR p => ha.rf.run r H h s σ _ hR sR (p.seq fun x h1 r1 H1 v s1 hR1 v1 p1 => ?_)⟩⟩
  · have := pe_slice (p2 := p2) (pos := pos) ((sl_list (X := X)).or sl_tupA) ha.pe hl.pe hh.pe
    rw [C.K] at this
    exact this
  · refine hl.rf.run r1 H1 h1 s σ _ hR1 (sR.mono s1) (p1.seq fun lo' h2 r2 H2 _ s2 hR2 e2 p2 => ?_)
    refine hh.rf.run r2 H2 h2 s σ _ hR2 (sR.mono (s1.trans s2)) (p2.seq fun hi' h3 r3 H3 _ s3 hR3 e3 p3 => ?_)
    subst e2 e3
    exact rf_sl hR3 (v1.mono (s2.trans s3)) p3

/-! ### two ways -/
theorem pe_or2 {t t' : TE} (h : PE X e t) (h' : PE X e t') : PE X e (fun σ H Q => t σ H Q ∨ t' σ H Q) := ⟨fun pins s σ H Q I q => q.elim (h.run pins s σ H Q I) (h'.run pins s σ H Q I)⟩
theorem me_alt {t t' : TE} {m m' : En → Heap → Res Val} (h : ME G E X e t m) (h' : ME G E X e t' m') : ME G E X e (fun σ H Q => t σ H Q ∨ t' σ H Q) (mAlt m m') := by
  refine ⟨pe_or2 h.pe h'.pe, ⟨fun r H hh s σ Q hR sR p => ?_⟩⟩
  unfold mAlt at p
  cases q : m s hh with
  | stuck => rw [q] at p; exact .inr (h'.rf.run r H hh s σ Q hR sR p)
  | ok x y => rw [q] at p; exact .inl (h.rf.run r H hh s σ Q hR sR (by rw [q]; exact p))
  | raised x y => rw [q] at p; exact .inl (h.rf.run r H hh s σ Q hR sR (by rw [q]; exact p))
end

/-! ### calls -/
def spM (G : Cfg) (n : Nat) (m : List Val → Heap → Res Val) : Sp := fun vs H Q E => vs.length = n ∧ ∃ r h xs, HR G r H h ∧ VRs G r H xs vs ∧ PostR G (VR G) r H E (m xs h) Q
structure FnM (G : Cfg) (P : Program) (w : World) (mg : Str → Option Value) (base : PySem.Heap) (k : Nat) (f : Addr) (fd : FuncData) (ps : List Str) (m : List Val → Heap → Res Val) : Prop where
  ok : FnOk P w G.K mg base (L2.CX P w) k f fd ps (spM G ps.length m)
  st : ∀ xs h, xs.length ≠ ps.length → m xs h = .stuck
/-- the defaults of a def -/
structure DfM (G : Cfg) (xs : List Val) (vs : List V) (us : List Value) : Prop where
  v : Vals vs us
  r : ∀ r H, VRs G r H xs vs
theorem df_nil {G : Cfg} : DfM G [] [] [] := ⟨.nil, fun _ _ => .nil⟩
theorem df_non {G : Cfg} : DfM G [.non] [.non] [.none] := ⟨.cons rfl .nil, fun _ _ => .cons .non .nil⟩
def mCall (m : List Val → Heap → Res Val) (ds : List Val) (ma : En → Heap → Res (List Val)) (s : En) (h : Heap) : Res Val := (ma s h).bind fun xs h1 => m (xs ++ ds) h1
def isIns (c : Nat) (x : Val) (h : Heap) : Bool := match x with
  | .ref a => match h[a]? with
    | some (.ins c' _) => c == c'
    | _ => false
  | _ => false
def mMeth (c : Nat) (m : List Val → Heap → Res Val) (ds : List Val) (mo : En → Heap → Res Val) (ma : En → Heap → Res (List Val)) (s : En) (h : Heap) : Res Val := (mo s h).bind fun x h1 => if isIns c x h1 = true then (ma s h1).bind fun xs h2 => m (x :: (xs ++ ds)) h2 else .stuck
def mMake (c : Nat) (m : List Val → Heap → Res Val) (ds : List Val) (ma : En → Heap → Res (List Val)) (s : En) (h : Heap) : Res Val := (ma s h).bind fun xs h1 => (m (.ref h1.length :: (xs ++ ds)) (h1 ++ [.ins c []])).bind fun x h2 => match x with
  | .non => .ok (.ref h1.length) h2
  | _ => .stuck
section
variable {G : Cfg} {E : XK} {X : Cx} {k j : Nat} {a b c e o : Expr} {es : List Expr} {ta tb tc : TE} {ma mb mc mo : En → Heap → Res Val} {pos p2 p apos : Pos} {f D : Addr} {fd : FuncData} {ps : List Str} {m : List Val → Heap → Res Val} {x y : Str}
  {dx : List Val} {dv : List V} {du : List Value} {tA : TA} {mA : En → Heap → Res (List Val)}
theorem FnM.run (F : FnM G X.prog X.w X.mg X.base j f fd ps m) {r : List Addr} {H : Hp} {h : Heap} {xs : List Val} {vs : List V} {Q : VK} (hR : HR G r H h) (v : VRs G r H xs vs) (p : PostR G (VR G) r H E (m xs h) Q) : spM G ps.length m vs H Q E := by
  refine ⟨?_, r, h, xs, hR, v, p⟩
  rw [← v.len]
  refine Decidable.byContradiction fun q => ?_
  rw [F.st xs h q] at p
  exact p
theorem rf_call (F : FnM G X.prog X.w X.mg X.base j f fd ps m) (d : DfM G dx dv du) (ha : RfA G E tA mA) : Rf G E (tCall (spM G ps.length m) dv E tA) (mCall m dx mA) := by
  refine ⟨fun r H h s σ Q hR sR p => ha.run r H h s σ _ hR sR (p.seq fun x h1 r1 H1 v s1 hR1 v1 p1 => ?_)⟩
  exact F.run hR1 (v1.app (d.r _ _)) p1
theorem me_call (C : XC G E X k) (F : FnM G X.prog X.w X.mg X.base j f fd ps m) (d : DfM G dx dv du) (hj : j ≤ k) (hm : X.mg x = some (.ref f)) (hk : PySem.W.keepIn X.K (.ref f) = true) (hb : Binds X.K fd ps du) (ha : MA G E X (e :: es) tA mA) (hg : Gl X x := by rfl)
    (hdb : (x == ("__debug__" : Str)) = false := by decide) (he : starEach (e :: es) X.env = (false, eval e X.env) :: starEach es X.env := by rfl) (hpl : (backTo pos (starEach es X.env)).any (·.1) = false := by rfl) :
    ME G E X (.Call (.Name x p) (e :: es) [] pos) (tCall (spM G ps.length m) dv E tA) (mCall m dx mA) :=
  ⟨pe_call (by rw [C.K]; exact F.ok) (C.room.mono hj) hg hm hk hb d.v C.pass ha.pe hdb he hpl, rf_call F d ha.rf⟩
theorem me_call0 (C : XC G E X k) (F : FnM G X.prog X.w X.mg X.base j f fd ps m) (d : DfM G dx dv du) (hj : j ≤ k) (hm : X.mg x = some (.ref f)) (hk : PySem.W.keepIn X.K (.ref f) = true) (hb : Binds X.K fd ps du) (hg : Gl X x := by rfl)
    (hdb : (x == ("__debug__" : Str)) = false := by decide) :
    ME G E X (.Call (.Name x p) [] [] pos) (tCall (spM G ps.length m) dv E tNil) (mCall m dx mNil) :=
  ⟨pe_call0 (by rw [C.K]; exact F.ok) (C.room.mono hj) hg hm hk hb d.v C.pass hdb, rf_call F d (ma_nil (X := X)).rf⟩
theorem rf_meth (F : FnM G X.prog X.w X.mg X.base j f fd ps m) {c : Nat} (hc : G.cls[c]? = some D) (hm : Meth G.K D y f) (d : DfM G dx dv du) (ho : Rf G E ta mo) (ha : RfA G E tA mA) : Rf G E (tMeth D y (spM G ps.length m) dv E ta tA) (mMeth c m dx mo mA) := by
  refine ⟨fun r H h s σ Q hR sR p => ho.run r H h s σ _ hR sR (p.seq fun x h1 r1 H1 v s1 hR1 v1 p1 => ?_)⟩
  split at p1
  · rename_i hi
    cases v1 with
    | @ref n a ea =>
      simp only [isIns] at hi
      split at hi
      · rename_i c' fs eo
        have : c = c' := by simpa using hi
        subst this
        cases hR1.ob _ _ _ eo ea with
        | @ins _ D' _ _ _ _ hc' hC hH hf =>
          rw [hc] at hc'
          cases hc'
          refine ⟨_, _, _, rfl, hH, ?_, ?_⟩
          · have key : ∀ {fs : List (Nat × Val)} {gs : List (Str × V)}, FR G r1 H1 D fs gs → gs.lookup y = none := by
              intro fs gs hf
              induction hf with
              | nil => rfl
              | @cons f' z x' v' fs gs hz na _ _ ih =>
                have : y ≠ z := fun q => by
                  subst q
                  have h1 := hm.at_
                  have h2 : PySem.W.findIn G.K (.ref D) y = some none := na
                  rw [h2] at h1
                  cases h1
                rw [List.lookup_cons, beq_eq_false_iff_ne.mpr this]
                exact ih
            exact key hf
          · refine ha.run r1 H1 h1 s σ _ hR1 (sR.mono s1) (p1.seq fun xs h2 r2 H2 vs s2 hR2 v2 p2 => ?_)
            exact F.run hR2 (.cons (.ref (s2.pre _ _ ea)) (v2.app (d.r _ _))) p2
      · cases hi
    | _ => simp [isIns] at hi
  · exact False.elim p1
theorem me_meth {pl : Sem Bool} (C : XC G E X k) (F : FnM G X.prog X.w X.mg X.base j f fd ps m) (c : Nat) (hc : G.cls[c]? = some D) (hC : Cls X.K D) (hm : Meth X.K D y f) (d : DfM G dx dv du) (hj : j ≤ k) (hb : Binds X.K fd ps du) (ho : ME G E X o ta mo) (ha : MA G E X (e :: es) tA mA)
    (hst : starEach (e :: es) X.env = (false, eval e X.env) :: starEach es X.env := by rfl) (hpl : (backTo pos (starEach es X.env)).any (·.1) = false := by rfl)
    (ht : eval (.Call (.Attribute o y apos) (e :: es) [] pos) X.env = (do
      let ov ← eval o X.env
      standAt apos.atName
      let (f, first) ← holding [ov] (getMethod ov y pl)
      callWith pos f first (backTo pos (starEach (e :: es) X.env)) (backToKw pos (keywordEach [] X.env))) := by rfl) :
    ME G E X (.Call (.Attribute o y apos) (e :: es) [] pos) (tMeth D y (spM G ps.length m) dv E ta tA) (mMeth c m dx mo mA) := by
  refine ⟨pe_meth ho.pe hC hm (by rw [C.K]; exact F.ok) (C.room.mono hj) hb d.v C.pass ha.pe hst hpl ht, rf_meth F hc (by rw [← C.K]; exact hm) d ho.rf ha.rf⟩
theorem me_meth0 {pl : Sem Bool} (C : XC G E X k) (F : FnM G X.prog X.w X.mg X.base j f fd ps m) (c : Nat) (hc : G.cls[c]? = some D) (hC : Cls X.K D) (hm : Meth X.K D y f) (d : DfM G dx dv du) (hj : j ≤ k) (hb : Binds X.K fd ps du) (ho : ME G E X o ta mo)
    (ht : eval (.Call (.Attribute o y apos) [] [] pos) X.env = (do
      let ov ← eval o X.env
      standAt apos.atName
      let (f, first) ← holding [ov] (getMethod ov y pl)
      callWith pos f first (backTo pos (starEach [] X.env)) (backToKw pos (keywordEach [] X.env))) := by rfl) :
    ME G E X (.Call (.Attribute o y apos) [] [] pos) (tMeth D y (spM G ps.length m) dv E ta tNil) (mMeth c m dx mo mNil) := by
  refine ⟨pe_meth0 ho.pe hC hm (by rw [C.K]; exact F.ok) (C.room.mono hj) hb d.v C.pass ht, rf_meth F hc (by rw [← C.K]; exact hm) d ho.rf (ma_nil (X := X)).rf⟩
theorem rf_make (F : FnM G X.prog X.w X.mg X.base j f fd ps m) {c : Nat} (hc : G.cls[c]? = some D) (hC : Cls G.K D) (d : DfM G dx dv du) (ha : RfA G E tA mA) : Rf G E (tMake D (spM G ps.length m) dv E tA) (mMake c m dx mA) := by
  refine ⟨fun r H h s σ Q hR sR p => ha.run r H h s σ _ hR sR (p.seq fun xs h1 r1 H1 vs s1 hR1 v1 p1 => ?_)⟩
  intro x ex nx nex ne
  have hx : (upd H1 ex (.own x)) x = none := by rw [upd_ne (Ne.symm ne)]; exact nx
  have st : Stp G.K r1 H1 (r1 ++ [x]) (upd (upd H1 ex (.own x)) x (.ins D ex [])) := (Stp.new0 (K := G.K) (r := r1) (u := .own x) nex).trans (Stp.new hx)
  have hR2 : HR G (r1 ++ [x]) (upd (upd H1 ex (.own x)) x (.ins D ex [])) (h1 ++ [.ins c []]) := (hR1.lay nex).push hx (.ins hc hC upd_same .nil)
  refine F.run hR2 (.cons (.ref (n := h1.length) ?_) ((v1.mono st).app (d.r _ _))) ?_
  · rw [← hR1.len]
    simp
  · have p2 := p1.shift st
    refine p2.seq fun z h2 r2 H2 v s2 hR3 v2 p3 => ?_
    cases v2 with
    | non =>
      refine ⟨rfl, p3.here hR3 (.ref (s2.pre _ _ ?_))⟩
      rw [← hR1.len]
      simp
    | _ => exact False.elim p3
theorem me_make (C : XC G E X k) (F : FnM G X.prog X.w X.mg X.base j f fd ps m) (c : Nat) (hc : G.cls[c]? = some D) (hC : Cls G.K D) (M : Mk X.K D f) (d : DfM G dx dv du) (hj : j + 1 ≤ k) (hm : X.mg x = some (.ref D)) (hb : Binds X.K fd ps du) (ha : MA G E X (e :: es) tA mA) (hg : Gl X x := by rfl)
    (hdb : (x == ("__debug__" : Str)) = false := by decide) (he : starEach (e :: es) X.env = (false, eval e X.env) :: starEach es X.env := by rfl) (hpl : (backTo pos (starEach es X.env)).any (·.1) = false := by rfl) :
    ME G E X (.Call (.Name x p) (e :: es) [] pos) (tMake D (spM G ps.length m) dv E tA) (mMake c m dx mA) :=
  ⟨pe_make M (by rw [C.K]; exact F.ok) (C.room.mono hj) hg hm hb d.v C.pass ha.pe hdb he hpl, rf_make F hc hC d ha.rf⟩
theorem me_make0 (C : XC G E X k) (F : FnM G X.prog X.w X.mg X.base j f fd ps m) (c : Nat) (hc : G.cls[c]? = some D) (hC : Cls G.K D) (M : Mk X.K D f) (d : DfM G dx dv du) (hj : j + 1 ≤ k) (hm : X.mg x = some (.ref D)) (hb : Binds X.K fd ps du) (hg : Gl X x := by rfl)
    (hdb : (x == ("__debug__" : Str)) = false := by decide) :
    ME G E X (.Call (.Name x p) [] [] pos) (tMake D (spM G ps.length m) dv E tNil) (mMake c m dx mNil) :=
  ⟨pe_make0 M (by rw [C.K]; exact F.ok) (C.room.mono hj) hg hm hb d.v C.pass hdb, rf_make F hc hC d (ma_nil (X := X)).rf⟩
end
end PyM

set_option Elab.async false
set_option linter.all false
set_option maxRecDepth 100000
set_option autoImplicit false
namespace PyM
open PySem L2

/-! ### statements -/
def RS.bind (x : RS) (k : En → Heap → RS) : RS := match x with
  | .nx s h => k s h
  | x => x
def Res.thenS {α : Type} (x : Res α) (k : α → Heap → RS) : RS := match x with
  | .ok a h => k a h
  | .raised c h => .raised c h
  | .stuck => .stuck
def sNx (s : En) (h : Heap) : RS := .nx s h
def sBk (s : En) (h : Heap) : RS := .bk s h
def sCt (s : En) (h : Heap) : RS := .ct s h
def sNever (_ : En) (_ : Heap) : RS := .stuck
def sSeq (a b : En → Heap → RS) (s : En) (h : Heap) : RS := (a s h).bind b
def sDrop (m : En → Heap → Res Val) (s : En) (h : Heap) : RS := (m s h).thenS fun _ h1 => .nx s h1
def sRet (m : En → Heap → Res Val) (s : En) (h : Heap) : RS := (m s h).thenS fun x h1 => .rt x h1
def sRetN (_ : En) (h : Heap) : RS := .rt .non h
def sIf (c : En → Heap → Res Bool) (a b : En → Heap → RS) (s : En) (h : Heap) : RS := (c s h).thenS fun x h1 => if x = true then a s h1 else b s h1
/-- targets -/
def gV (i : Nat) (x : Val) (s : En) : Option En := some (s.set i (some x))
def gsNil (xs : List Val) (s : En) : Option En := if xs.isEmpty = true then some s else none
def gsCons (g : Val → En → Option En) (gs : List Val → En → Option En) (xs : List Val) (s : En) : Option En := match xs with
  | x :: r => (g x s).bind fun s1 => gs r s1
  | [] => none
def gT (gs : List Val → En → Option En) (x : Val) (s : En) : Option En := match x with
  | .tup xs => gs xs s
  | _ => none
def sAsg (g : Val → En → Option En) (m : En → Heap → Res Val) (s : En) (h : Heap) : RS := (m s h).thenS fun x h1 => match g x s with
  | some s1 => .nx s1 h1
  | none => .stuck
def oSet (o i x : Val) (h : Heap) : Res Unit := match o with
  | .ref a => match h[a]? with
    | some (.lst xs) => match i with
      | .int k => match ixN xs.length k with
        | some j => .ok () (h.set a (.lst (xs.set j x)))
        | none => .stuck
      | _ => .stuck
    | some (.dct d) => if isKey i = true ∧ d.length < lim then .ok () (h.set a (.dct (putV d i x))) else .stuck
    | _ => .stuck
  | _ => .stuck
/-- o[i] = e: the value first -/
def sSub (mo mi me : En → Heap → Res Val) (s : En) (h : Heap) : RS := (me s h).thenS fun x h1 => (mo s h1).thenS fun o h2 => (mi s h2).thenS fun i h3 => (oSet o i x h3).thenS fun _ h4 => .nx s h4
/-- o[i], by values: a list's, a dict's -/
def oIxM (x y : Val) (h : Heap) : Res Val := match x with
  | .ref _ => oIx x y h
  | _ => .stuck
/-- o[i] op= e -/
def sSubA (f : Val → Val → Heap → Res Val) (mo mi me : En → Heap → Res Val) (s : En) (h : Heap) : RS := (mo s h).thenS fun o h1 => (mi s h1).thenS fun i h2 => (oIxM o i h2).thenS fun x h3 => (me s h3).thenS fun y h4 => (f x y h4).thenS fun z h5 => (oSet o i z h5).thenS fun _ h6 => .nx s h6
def oSetF (d f : Nat) (o x : Val) (h : Heap) : Res Unit := match o with
  | .ref a => match h[a]? with
    | some (.ins c fs) => if c = d ∧ fs.length < 1000 then .ok () (h.set a (.ins c (setF f x fs))) else .stuck
    | _ => .stuck
  | _ => .stuck
def sFld (d f : Nat) (mo me : En → Heap → Res Val) (s : En) (h : Heap) : RS := (me s h).thenS fun x h1 => (mo s h1).thenS fun o h2 => (oSetF d f o x h2).thenS fun _ h3 => .nx s h3
def sFldA (d f : Nat) (g : Val → Val → Heap → Res Val) (mo me : En → Heap → Res Val) (s : En) (h : Heap) : RS := (mo s h).thenS fun o h1 => (if isIns d o h1 = true then getF f o h1 else .stuck).thenS fun x h2 => (me s h2).thenS fun y h3 => (g x y h3).thenS fun z h4 => (oSetF d f o z h4).thenS fun _ h5 => .nx s h5
def sAug (i : Nat) (g : Val → Val → Heap → Res Val) (me : En → Heap → Res Val) (s : En) (h : Heap) : RS := match s[i]? with
  | some (some x) => (me s h).thenS fun y h1 => (g x y h1).thenS fun z h2 => .nx (s.set i (some z)) h2
  | _ => .stuck

section
variable {G : Cfg} {E : XK}
theorem PostS.seqS {α β : Type} {R1 : List Addr → Hp → α → β → Prop} {r : List Addr} {H : Hp} {x : Res α} {k : α → Heap → RS} {D : Ends} {Q' : β → Hp → Prop}
    (p : PostS G r H E (x.thenS k) D) (f : ∀ a h1 r1 H1 b, Stp G.K r H r1 H1 → HR G r1 H1 h1 → R1 r1 H1 a b → PostS G r1 H1 E (k a h1) D → Q' b H1) : PostR G R1 r H E x Q' := by
  cases x with
  | ok a h => exact fun r' H' b s' hR vR => f a h r' H' b s' hR vR (p.shift s')
  | raised c h => exact p
  | stuck => exact p
theorem PostS.here {r : List Addr} {H : Hp} {s : En} {t : St} {h : Heap} {D : Ends} (p : PostS G r H E (.nx s h) D) (hR : HR G r H h) (v : SR G r H s t) : D.nx t H := p r H t Stp.refl hR v
structure RfG (G : Cfg) (g : TG) (m : Val → En → Option En) : Prop where
  run : ∀ r H s σ x v (Q : St → Hp → Prop), SR G r H s σ → VR G r H x v → (∃ s1, m x s = some s1 ∧ ∀ σ1, SR G r H s1 σ1 → Q σ1 H) → g v σ H Q
structure RfGs (G : Cfg) (g : TGs) (m : List Val → En → Option En) : Prop where
  run : ∀ r H s σ xs vs (Q : St → Hp → Prop), SR G r H s σ → VRs G r H xs vs → (∃ s1, m xs s = some s1 ∧ ∀ σ1, SR G r H s1 σ1 → Q σ1 H) → g vs σ H Q
structure MG (G : Cfg) (X : Cx) (e : Expr) (g : TG) (m : Val → En → Option En) : Prop where
  pe : PG X e g
  rf : RfG G g m
structure MGs (G : Cfg) (X : Cx) (es : List Expr) (g : TGs) (m : List Val → En → Option En) : Prop where
  pe : PGs X es g
  rf : RfGs G g m
variable {X : Cx} {k : Nat} {a b c e o : Expr} {es : List Expr} {ta tb tc to ti : TE} {ma mb mc mo mi me : En → Heap → Res Val} {pos pos' p2 : Pos} {st : Stmt} {sts sts2 : List Stmt} {t u : TS} {m n : En → Heap → RS} {tt : TT} {mt : En → Heap → Res Bool}
theorem mg_name (i : Nat) {x : Str} (hN : X.N.Nodup) (hi : X.N[i]? = some x := by rfl) (hx : Loc X.env.scope x := by first | exact Or.inl rfl | exact Or.inr rfl) (hf : X.fn x = true ∨ X.env.scope.names.lookup x = some .local := by first | exact .inl rfl | exact .inr rfl | assumption) : MG G X (.Name x pos) (gName i) (gV i) :=
  ⟨pg_name hN hi hx hf, ⟨fun r H s σ x v Q sR vR ⟨s1, e1, q⟩ => by cases e1; exact q _ (sR.set vR i)⟩⟩
theorem mgs_nil : MGs G X [] gNil gsNil := ⟨pgs_nil, ⟨fun r H s σ xs vs Q sR vR ⟨s1, e1, q⟩ => by
  cases vR with
  | nil => cases e1; exact ⟨rfl, q _ sR⟩
  | cons _ _ => simp [gsNil] at e1⟩⟩
theorem mgs_cons {g : TG} {gs : TGs} {mg : Val → En → Option En} {mgs : List Val → En → Option En} (h : MG G X e g mg) (hs : MGs G X es gs mgs) (hx : (assignEach (e :: es) X.env).map (·.2) = assign e X.env :: (assignEach es X.env).map (·.2) := by rfl) : MGs G X (e :: es) (gCons g gs) (gsCons mg mgs) := by
  refine ⟨pgs_cons h.pe hs.pe hx, ⟨fun r H s σ xs vs Q sR vR ⟨s1, e1, q⟩ => ?_⟩⟩
  cases vR with
  | nil => simp [gsCons] at e1
  | cons v1 v2 =>
    simp only [gsCons] at e1
    cases hq : mg _ s with
    | none => rw [hq] at e1; cases e1
    | some s2 =>
      rw [hq] at e1
      exact ⟨_, _, rfl, h.rf.run r H s σ _ _ _ sR v1 ⟨s2, hq, fun σ1 sR1 => hs.rf.run r H s2 σ1 _ _ _ sR1 v2 ⟨s1, e1, q⟩⟩⟩
theorem mg_tup {gs : TGs} {mgs : List Val → En → Option En} {n : Nat} (C : XC G E X k) (h : MGs G X es gs mgs) (hl : ∀ xs s s1, mgs xs s = some s1 → xs.length = n) {kk : Nat}
    (hn : (assignEach es X.env).length = n := by rfl) (hst : (assignEach es X.env).findIdx? (·.1) = none := by rfl) : MG G X (.Tuple es kk pos) (gTup G.K n gs) (gT mgs) := by
  refine ⟨?_, ⟨fun r H s σ x v Q sR vR ⟨s1, e1, q⟩ => ?_⟩⟩
  · have := pg_tup (pos := pos) (k := kk) C.calm h.pe hn hst
    rwa [C.K] at this
  · cases vR with
    | tup hs hv => exact ⟨_, _, rfl, hs, by rw [← hv.len]; exact hl _ _ _ e1, h.rf.run r H s σ _ _ _ sR hv ⟨s1, e1, q⟩⟩
    | _ => cases e1
theorem gs_len0 (xs : List Val) (s s1 : En) (h : gsNil xs s = some s1) : xs.length = 0 := by
  cases xs with
  | nil => rfl
  | cons _ _ => simp [gsNil] at h
theorem gs_lenS {g : Val → En → Option En} {gs : List Val → En → Option En} {n : Nat} (ih : ∀ xs s s1, gs xs s = some s1 → xs.length = n) (xs : List Val) (s s1 : En) (h : gsCons g gs xs s = some s1) : xs.length = n + 1 := by
  cases xs with
  | nil => simp [gsCons] at h
  | cons x r =>
    simp only [gsCons] at h
    cases q : g x s with
    | none => rw [q] at h; cases h
    | some s2 => rw [q] at h; rw [List.length_cons, ih _ _ _ h]

/-! ### rules -/
theorem mss_nil : MSs G E X [] tNext sNx := ⟨pss_nil, ⟨fun r H h s σ D hR sR p => p.here hR sR⟩⟩
theorem PostS.ends {r : List Addr} {H : Hp} {x : RS} {D D' : Ends} (p : PostS G r H E x D) (h1 : D'.rt = D.rt) (h2 : D'.bk = D.bk) (h3 : D'.ct = D.ct) (h4 : ∀ s h, x ≠ .nx s h) : PostS G r H E x D' := by
  cases x with
  | nx s h => exact absurd rfl (h4 s h)
  | rt v h => intro r' H' v'; rw [h1]; exact p r' H' v'
  | bk s h => intro r' H' v'; rw [h2]; exact p r' H' v'
  | ct s h => intro r' H' v'; rw [h3]; exact p r' H' v'
  | raised c h => exact p
  | stuck => exact p
theorem mss_cons (h : MS G E X st t m) (h2 : MSs G E X sts u n) : MSs G E X (st :: sts) (tSeq t u) (sSeq m n) := by
  refine ⟨pss_cons h.pe h2.pe, ⟨fun r H hh s σ D hR sR p => h.rf.run r H hh s σ _ hR sR ?_⟩⟩
  unfold sSeq at p
  cases q : m s hh with
  | nx s1 h1 =>
    rw [q] at p
    exact fun r1 H1 σ1 s1' hR1 sR1 => h2.rf.run r1 H1 h1 s1 σ1 D hR1 sR1 (PostS.shift s1' p)
  | rt v h => rw [q] at p; exact p
  | bk v h => rw [q] at p; exact p
  | ct v h => rw [q] at p; exact p
  | raised v h => rw [q] at p; exact p
  | stuck => rw [q] at p; exact p
theorem mss_one (h : MS G E X st t m) : MSs G E X [st] t m := ⟨pss_one h.pe, h.rf⟩
theorem ms_pass : MS G E X (.Pass pos) tNext sNx := ⟨ps_pass, ⟨fun r H h s σ D hR sR p => p.here hR sR⟩⟩
theorem ms_break : MS G E X (.Break pos) tBreak sBk := ⟨ps_break, ⟨fun r H h s σ D hR sR p => p r H σ Stp.refl hR sR⟩⟩
theorem ms_continue : MS G E X (.Continue pos) tCont sCt := ⟨ps_continue, ⟨fun r H h s σ D hR sR p => p r H σ Stp.refl hR sR⟩⟩
theorem ms_never : MS G E X st tNever sNever := ⟨ps_never, ⟨fun r H h s σ D hR sR p => p⟩⟩
theorem ms_expr (ha : ME G E X a ta ma) (hs : swapsWith a none pos.line X.env = pure false := by rfl) : MS G E X (.Expr a pos) (tDrop ta) (sDrop ma) :=
  ⟨ps_expr ha.pe hs, ⟨fun r H h s σ D hR sR p => ha.rf.run r H h s σ _ hR sR (p.seqS fun x h1 r1 H1 v s1 hR1 v1 p1 => p1.here hR1 (sR.mono s1))⟩⟩
theorem ms_ret (ha : ME G E X a ta ma) : MS G E X (.Return (some a) pos) (tRet ta) (sRet ma) :=
  ⟨ps_ret ha.pe, ⟨fun r H h s σ D hR sR p => ha.rf.run r H h s σ _ hR sR (p.seqS fun x h1 r1 H1 v s1 hR1 v1 p1 => p1 r1 H1 v Stp.refl hR1 v1)⟩⟩
theorem ms_retN : MS G E X (.Return none pos) tRetN sRetN := ⟨ps_retN, ⟨fun r H h s σ D hR sR p => p r H _ Stp.refl hR .non⟩⟩
theorem ms_if (hc : MT G E X c tt mt) (h1 : MSs G E X sts t m) (h2 : MSs G E X sts2 u n) : MS G E X (.If c sts sts2 pos) (tIfS tt t u) (sIf mt m n) := by
  refine ⟨ps_if hc.pe h1.pe h2.pe, ⟨fun r H h s σ D hR sR p => hc.rf.run r H h s σ _ hR sR (p.seqS fun x h1' r1 H1 v s1 hR1 v1 p1 => ?_)⟩⟩
  subst v1
  split at p1
  · rename_i q
    rw [if_pos q]
    exact h1.rf.run r1 H1 h1' s σ D hR1 (sR.mono s1) p1
  · rename_i q
    rw [if_neg q]
    exact h2.rf.run r1 H1 h1' s σ D hR1 (sR.mono s1) p1
theorem ms_asg {tg : Expr} {g : TG} {mg : Val → En → Option En} (ha : ME G E X a ta ma) (hg : MG G X tg g mg) (hs : swapsWithSole [tg] a pos.line X.env = pure false := by rfl) (hw : swappedStores [tg] a X.env = pure none := by rfl) (h1 : (assignEach [tg] X.env).map (·.2) = [assign tg X.env] := by rfl) : MS G E X (.Assign [tg] a pos) (tAsg ta g) (sAsg mg ma) := by
  refine ⟨ps_asg ha.pe hg.pe hs hw h1, ⟨fun r H h s σ D hR sR p => ha.rf.run r H h s σ _ hR sR (p.seqS fun x h1' r1 H1 v s1 hR1 v1 p1 => ?_)⟩⟩
  cases q : mg x s with
  | none => rw [q] at p1; exact False.elim p1
  | some s2 => rw [q] at p1; exact hg.rf.run r1 H1 s σ x v _ (sR.mono s1) v1 ⟨s2, q, fun σ1 sR1 => p1.here hR1 sR1⟩
/-- a store to a list's place, to a dict's key -/
def rSetA : TSet := fun o i v H Q => rSetL o i v H Q ∨ ∃ a H1, o = .ref a ∧ DPut H a i v H1 ∧ Q H1
theorem set_all (hu : X.A.units + 1 < cLine) : PSet X rSetA := by
  intro pins s σ H o i v ov iv u Q I r1 r2 r3 q
  rcases q with q | ⟨a, H1, e, g, q⟩
  · exact set_list pins s σ H o i v ov iv u Q I r1 r2 r3 q
  · subst e
    obtain rfl : ov = Value.ref a := r1
    exact d_setItem hu I g r2 r3 fun s4 I4 => ⟨H1, I4, q⟩
theorem rf_set (ok : G.Ok) {r : List Addr} {H : Hp} {h : Heap} {o i x : Val} {ov iv v : V} {Q : Hp → Prop} (hR : HR G r H h) (r1 : VR G r H o ov) (r2 : VR G r H i iv) (r3 : VR G r H x v)
    (p : ∃ h1, oSet o i x h = .ok () h1 ∧ ∀ H1, Stp G.K r H r H1 → HR G r H1 h1 → Q H1) : rSetA ov iv v H Q := by
  obtain ⟨h1, p, q⟩ := p
  cases r1 with
  | @ref n a ea =>
    simp only [oSet] at p
    split at p
    · rename_i xs eo
      split at p
      · rename_i kk
        cases r2
        split at p
        · rename_i j ej
          cases p
          cases hR.ob _ _ _ eo ea with
          | lst hl hv =>
            refine .inl ⟨_, _, _, j, rfl, rfl, hl, by rw [← hv.len]; exact ej, q _ (Stp.upd fun o e => by rw [hl] at e; cases e; trivial) ?_⟩
            refine hR.write eo rfl ea (fun o e => by rw [hl] at e; cases e; trivial) (.lst upd_same ?_) rfl
            exact VRs.mono (Stp.upd fun o e => by rw [hl] at e; cases e; trivial) _ _ (VRs.set r3 j hv)
        · cases p
      · cases p
    · rename_i d eo
      split at p
      · rename_i hk
        cases p
        cases hR.ob _ _ _ eo ea with
        | dct hd hv =>
          obtain ⟨kq, hkq, rfl⟩ := KR.of r2 hk.1
          have st : ∀ u, Stp G.K r H r (upd H a u) := fun u => Stp.upd fun o e => by rw [hd] at e; cases e; trivial
          refine .inr ⟨_, _, rfl, DPut.k hd (lt_line (by rw [← hv.len]; exact hk.2)), q _ (st _) ?_⟩
          refine hR.write eo rfl ea (fun o e => by rw [hd] at e; cases e; trivial) (.dct upd_same ?_) rfl
          exact (hv.put ok hkq r3).mono (st _)
      · cases p
    · cases p
  | _ => cases p
theorem thenS_ok {α : Type} {r : List Addr} {H : Hp} {x : Res α} {k : α → Heap → RS} {D : Ends} (p : PostS G r H E (x.thenS k) D) (hn : ∀ c h, x ≠ .raised c h) : ∃ a h1, x = .ok a h1 ∧ PostS G r H E (k a h1) D := by
  cases x with
  | ok a h => exact ⟨a, h, rfl, p⟩
  | raised c h => exact absurd rfl (hn c h)
  | stuck => exact False.elim p
theorem oSet_nr (o i x : Val) (h : Heap) : ∀ c h1, oSet o i x h ≠ .raised c h1 := by
  intro c h1 e
  unfold oSet at e
  (repeat' split at e) <;> cases e
theorem ms_sub (ok : G.Ok) (C : XC G E X k) (ho : ME G E X o to mo) (hi : ME G E X b ti mi) (ha : ME G E X a ta ma) (hs : swapsWithSole [.Subscript o b pos'] a pos.line X.env = pure false := by rfl) (hw : swappedStores [.Subscript o b pos'] a X.env = pure none := by rfl)
    (hx : ∀ v, assign (.Subscript o b pos') X.env v = (do
      let ov ← holding [v] (eval o X.env)
      let iv ← holding [v, ov] (eval b X.env)
      standAt pos'
      holding [v, ov, iv] (setItem ov iv v)
      release [v, ov, iv] []) := by intro _; rfl) (h1 : (assignEach [.Subscript o b pos'] X.env).map (·.2) = [assign (.Subscript o b pos') X.env] := by rfl) :
    MS G E X (.Assign [.Subscript o b pos'] a pos) (tAsg ta (gSub to ti rSetA)) (sSub mo mi ma) := by
  refine ⟨ps_asg ha.pe (pg_sub ho.pe hi.pe (set_all (by have := C.hu; omega)) hx) hs hw h1, ⟨fun r H h s σ D hR sR p => ha.rf.run r H h s σ _ hR sR (p.seqS fun x h1 r1 H1 v s1 hR1 v1 p1 => ?_)⟩⟩
  refine ho.rf.run r1 H1 h1 s σ _ hR1 (sR.mono s1) (p1.seqS fun y h2 r2 H2 w s2 hR2 v2 p2 => ?_)
  refine hi.rf.run r2 H2 h2 s σ _ hR2 (sR.mono (s1.trans s2)) (p2.seqS fun z h3 r3 H3 w3 s3 hR3 v3 p3 => ?_)
  obtain ⟨_, h4, e4, p4⟩ := thenS_ok p3 (oSet_nr _ _ _ _)
  refine rf_set ok hR3 (v2.mono s3) v3 (v1.mono (s2.trans s3)) ⟨h4, e4, fun H4 s4 hR4 => ?_⟩
  exact (p4.shift s4).here hR4 (sR.mono ((s1.trans s2).trans (s3.trans s4)))
def rGetA (K : PySem.W.Frag) : V → V → Hp → VK → Prop := fun x y H Q => rIxL K x y H Q ∨ rDGetR x y H Q
theorem get_all (hu : X.A.units + 1 < cLine) : PGet X (rGetA X.K) := by
  intro pins s σ H x y v u Q I rx ry q
  rcases q with h | ⟨a, z, rfl, g, q⟩
  · obtain ⟨p, xs, i, z, rfl, rfl, hq, he, q⟩ := h
    cases rx
    obtain ⟨t, rfl⟩ := ry
    obtain ⟨its, r, pl, hz⟩ := I.list hq
    obtain ⟨j, h1, h2, h3, h4, h5⟩ := atI_get he
    obtain ⟨w, ew, rw'⟩ := r.get h2
    have hl := r.length
    have hn := line63
    have fin : EP X pins σ Q w s := ⟨z, H, I, rw', q⟩
    by_cases h0 : 0 ≤ i
    · have hj : i.toNat = j := by
        rw [seqIndex_of h0 h5] at h1
        exact Option.some.inj h1
      exact wpAny_getItem_list pl.isList h0 (by omega) (by rw [hj]; simpa using ew) fin
    · have hj : (i + (its.toArray.size : Int)).toNat = j := by
        rw [seqIndex_neg (by omega) h4] at h1
        rw [List.size_toArray, ← hl]
        exact Option.some.inj h1
      exact wpAny_getItem_list_neg pl.isList (by omega) (by rw [List.size_toArray] <;> omega) (by omega) (by rw [hj]; simpa using ew) fin
  · obtain rfl : v = Value.ref a := rx
    exact d_getItem hu I g ry fun w' s3 I3 rw' => ⟨z, H, I3, rw', q⟩
theorem rf_get (ok : G.Ok) {r : List Addr} {H : Hp} {h : Heap} {x y : Val} {v u : V} {Q : VK} (hR : HR G r H h) (a : VR G r H x v) (b : VR G r H y u) (p : PostR G (VR G) r H E (oIxM x y h) Q) : rGetA G.K v u H Q := by
  cases a with
  | @ref n a ea =>
    simp only [oIxM, oIx] at p
    split at p
    · rename_i xs eo
      split at p
      · split at p
        · rename_i z ez
          cases b
          cases hR.ob _ _ _ eo ea with
          | lst hl va =>
            obtain ⟨j, e1, e2⟩ := atI_len va.len ez
            obtain ⟨w, e3, vw⟩ := va.get e1
            exact .inl ⟨_, _, _, _, rfl, rfl, SqL.of hl, e2 _ e3, p.here hR vw⟩
        · exact False.elim p
      · exact False.elim p
    · rename_i xs eo
      split at p
      · split at p
        · rename_i z ez
          cases b
          cases hR.ob _ _ _ eo ea with
          | fls hl va =>
            obtain ⟨j, e1, e2⟩ := atI_len va.len ez
            obtain ⟨w, e3, vw⟩ := va.get e1
            exact .inl ⟨_, _, _, _, rfl, rfl, hl.sq, e2 _ e3, p.here hR vw⟩
        · exact False.elim p
      · exact False.elim p
    · rename_i d eo
      split at p
      · rename_i hk
        split at p
        · rename_i z ez
          cases hR.ob _ _ _ eo ea with
          | dct hd hv =>
            obtain ⟨q, kq, rfl⟩ := KR.of b hk
            rcases hv.look ok kq with ⟨e1, _⟩ | ⟨x', v', e1, e2, v2⟩
            · rw [e1] at ez
              cases ez
            · rw [e1] at ez
              cases ez
              exact .inr ⟨_, _, rfl, by rw [← e2]; exact DGet.k hd, p.here hR v2⟩
        · exact False.elim p
      · exact False.elim p
    · rename_i d eo
      split at p
      · rename_i hk
        split at p
        · rename_i z ez
          cases hR.ob _ _ _ eo ea with
          | fdc hd hv =>
            obtain ⟨q, kq, rfl⟩ := KR.of b hk
            rcases hv.look ok kq with ⟨e1, _⟩ | ⟨x', v', e1, e2, v2⟩
            · rw [e1] at ez
              cases ez
            · rw [e1] at ez
              cases ez
              exact .inr ⟨_, _, rfl, by rw [← e2]; exact DGet_kf hd, p.here hR v2⟩
        · exact False.elim p
      · exact False.elim p
    · exact False.elim p
  | _ => exact False.elim p
theorem ia_add : PIp X .Add (rI0 fun i j => .int (i + j)) := fun pins s σ H x y v u Q I r1 r2 h => iop_add pins s σ H x y v u Q I r1 r2 h
theorem ia_sub : PIp X .Sub (rI0 fun i j => .int (i - j)) := fun pins s σ H x y v u Q I r1 r2 h => iop_sub pins s σ H x y v u Q I r1 r2 h
theorem ms_subA (ok : G.Ok) (C : XC G E X k) {op : Operator} {t : TIp} {f : Val → Val → Heap → Res Val} (hop : PIp X op t) (hf : Rf2 G E t f) (ho : ME G E X o to mo) (hi : ME G E X b ti mi) (ha : ME G E X a ta ma)
    (hs : ∀ ov iv new, augStore b ov iv new = (do holding [new, ov, iv] (setItem ov iv new); release [new, ov, iv] []; pure .next) := by intros; rfl) :
    MS G E X (.AugAssign (.Subscript o b pos') op a pos) (tAugS to ti ta (rGetA G.K) t rSetA) (sSubA f mo mi ma) := by
  refine ⟨?_, ⟨fun r H h s σ D hR sR p => ho.rf.run r H h s σ _ hR sR (PostS.seqS (sSub_eq p) fun x h1 r1 H1 v s1 hR1 v1 p1 => ?_)⟩⟩
  · have := ps_augS (pos := pos) (tpos := pos') ho.pe hi.pe (get_all (X := X) (by have := C.hu; omega)) ha.pe hop (set_all (by have := C.hu; omega)) hs
    rwa [C.K] at this
  · refine hi.rf.run r1 H1 h1 s σ _ hR1 (sR.mono s1) (p1.seqS fun y h2 r2 H2 w s2 hR2 v2 p2 => ?_)
    refine rf_get (E := E) ok hR2 (v1.mono s2) v2 (p2.seqS fun z h3 r3 H3 w3 s3 hR3 v3 p3 => ?_)
    refine ha.rf.run r3 H3 h3 s σ _ hR3 (sR.mono ((s1.trans s2).trans s3)) (p3.seqS fun y' h4 r4 H4 w4 s4 hR4 v4 p4 => ?_)
    refine hf.run r4 H4 h4 z y' w3 w4 _ hR4 (v3.mono s4) v4 (p4.seqS fun z' h5 r5 H5 w5 s5 hR5 v5 p5 => ?_)
    obtain ⟨_, h6, e6, p6⟩ := thenS_ok p5 (oSet_nr _ _ _ _)
    have sA := (s3.trans s4).trans s5
    refine rf_set ok hR5 (v1.mono (s2.trans sA)) (v2.mono sA) v5 ⟨h6, e6, fun H6 s6 hR6 => ?_⟩
    exact (p6.shift s6).here hR6 (sR.mono (((s1.trans s2).trans sA).trans s6))
where
  sSub_eq {r H s h D} {mo mi me : En → Heap → Res Val} {f : Val → Val → Heap → Res Val} (p : PostS G r H E (sSubA f mo mi me s h) D) : PostS G r H E ((mo s h).thenS fun o h1 => (mi s h1).thenS fun i h2 => (oIxM o i h2).thenS fun x h3 => (me s h3).thenS fun y h4 => (f x y h4).thenS fun z h5 => (oSet o i z h5).thenS fun _ h6 => .nx s h6) D := p
/-! fields -/
theorem FR.len {r : List Addr} {H : Hp} {D : Addr} {fs gs} (q : FR G r H D fs gs) : fs.length = gs.length := by
  induction q with
  | nil => rfl
  | cons _ _ _ _ ih => simp [ih]
theorem FR.put (ok : G.Ok) {r : List Addr} {H : Hp} {D : Addr} {fs gs} (q : FR G r H D fs gs) {f : Nat} {z : Str} {x : Val} {v : V} (hz : G.nms[f]? = some z) (na : NoAttr G.K D z) (hv : VR G r H x v) : FR G r H D (setF f x fs) (putF z v gs) := by
  induction q with
  | nil => exact .cons hz na hv .nil
  | @cons g y x' v' fs gs hy na' hv' _ ih =>
    unfold setF putF
    by_cases e : g = f
    · subst e
      rw [hz] at hy
      cases hy
      rw [if_pos rfl, if_pos rfl]
      exact .cons hz na hv (by assumption)
    · have : ¬ y = z := fun q => e (by
        subst q
        obtain ⟨h1, e1⟩ := List.getElem?_eq_some_iff.mp hy
        obtain ⟨h2, e2⟩ := List.getElem?_eq_some_iff.mp hz
        exact (List.getElem_inj ok.nn).mp (e1.trans e2.symm))
      rw [if_neg e, if_neg this]
      exact .cons hy na' hv' ih
theorem oSetF_nr (d f : Nat) (o x : Val) (h : Heap) : ∀ c h1, oSetF d f o x h ≠ .raised c h1 := by
  intro c h1 e
  unfold oSetF at e
  (repeat' split at e) <;> cases e
theorem rf_setF (ok : G.Ok) {r : List Addr} {H : Hp} {h h1 : Heap} {o x : Val} {ov v : V} {d f : Nat} {B : Addr} {z : Str} (hz : G.nms[f]? = some z) (hB : G.cls[d]? = some B) (na : NoAttr G.K B z) {Q : Hp → Prop} (hR : HR G r H h) (r1 : VR G r H o ov) (r3 : VR G r H x v) (p : oSetF d f o x h = .ok () h1)
    (q : ∀ H1, Stp G.K r H r H1 → HR G r H1 h1 → Q H1) : ∃ a dx fs, ov = .ref a ∧ H a = some (.ins B dx fs) ∧ Cls G.K B ∧ NoAttr G.K B z ∧ fs.length < 1000 ∧ Q (upd H a (.ins B dx (putF z v fs))) := by
  cases r1 with
  | @ref n a ea =>
    simp only [oSetF] at p
    split at p
    · rename_i c fs eo
      split at p
      · rename_i hl
        obtain ⟨rfl, hl⟩ := hl
        cases p
        cases hR.ob _ _ _ eo ea with
        | ins hc hC hH hf =>
          rw [hB] at hc
          cases hc
          have st : ∀ u, Stp G.K r H r (upd H a u) := fun u => Stp.upd fun o e => by rw [hH] at e; cases e; trivial
          refine ⟨_, _, _, rfl, hH, hC, na, by rw [← hf.len]; exact hl, q _ (st _) ?_⟩
          exact hR.write eo rfl ea (fun o e => by rw [hH] at e; cases e; trivial) (.ins hB hC upd_same ((hf.put ok hz na r3).mono (st _))) rfl
      · cases p
    · cases p
  | _ => cases p
theorem ms_fld (ok : G.Ok) (C : XC G E X k) (d f : Nat) {B : Addr} {z : Str} (hz : G.nms[f]? = some z) (hB : G.cls[d]? = some B) (na : NoAttr G.K B z) (ho : ME G E X o to mo) (ha : ME G E X a ta ma) (hs : swapsWith a (some (.Attribute o z pos')) pos.line X.env = pure false := by rfl) :
    MS G E X (.Assign [.Attribute o z pos'] a pos) (L2.sFld G.K to ta z) (sFld d f mo ma) := by
  refine ⟨?_, ⟨fun r H h s σ D hR sR p => ha.rf.run r H h s σ _ hR sR (p.seqS fun x h1 r1 H1 v s1 hR1 v1 p1 => ?_)⟩⟩
  · have := ps_fld ho.pe ha.pe hs
    rwa [C.K] at this
  · refine ho.rf.run r1 H1 h1 s σ _ hR1 (sR.mono s1) (p1.seqS fun y h2 r2 H2 w s2 hR2 v2 p2 => ?_)
    obtain ⟨_, h3, e3, p3⟩ := thenS_ok p2 (oSetF_nr _ _ _ _ _)
    obtain ⟨a', dx', fs', q1, q2, q3, q4, q5, q6⟩ := rf_setF (Q := fun H3 => D.nx σ H3) ok hz hB na hR2 v2 (v1.mono s2) e3 fun H3 s3 hR3 => (p3.shift s3).here hR3 (sR.mono ((s1.trans s2).trans s3))
    exact ⟨a', B, dx', fs', q1, q2, q3, q4, q5, q6⟩
theorem getF_nr (f : Nat) (o : Val) (h : Heap) : ∀ c h1, getF f o h ≠ .raised c h1 := by
  intro c h1 e
  unfold getF at e
  (repeat' split at e) <;> cases e
theorem getF_ok {f : Nat} {o x : Val} {h h1 : Heap} (p : getF f o h = .ok x h1) : ∃ n c fs, o = .ref n ∧ h[n]? = some (.ins c fs) ∧ lookF f fs = some x ∧ h1 = h := by
  unfold getF at p
  split at p
  · split at p
    · rename_i c fs eo
      split at p
      · rename_i v ev
        cases p
        exact ⟨_, c, fs, rfl, eo, ev, rfl⟩
      · cases p
    · cases p
  · cases p
theorem ms_fldA (ok : G.Ok) (C : XC G E X k) (d f : Nat) {B : Addr} {z : Str} (hz : G.nms[f]? = some z) (hB : G.cls[d]? = some B) (na : NoAttr G.K B z) {op : Operator} {t : TIp} {g : Val → Val → Heap → Res Val} (hop : PIp X op t) (hg : Rf2 G E t g)
    (ho : ME G E X o to mo) (ha : ME G E X a ta ma) : MS G E X (.AugAssign (.Attribute o z pos') op a pos) (sFldAug G.K to ta t z) (sFldA d f g mo ma) := by
  refine ⟨?_, ⟨fun r H h s σ D hR sR p => ho.rf.run r H h s σ _ hR sR (p.seqS fun x h1 r1 H1 v s1 hR1 v1 p1 => ?_)⟩⟩
  · have := ps_fldaug (pos := pos) (tpos := pos') (f := z) (rd := t) ho.pe ha.pe (fun pins s σ H x y u v Q I r1 r2 h => hop pins s σ H x y u v Q I r1 r2 h)
    rwa [C.K] at this
  · obtain ⟨y, h2, e2, p2⟩ := thenS_ok p1 (by
      intro c h
      split
      · exact getF_nr _ _ _ _ _
      · exact fun q => by cases q)
    split at e2
    · rename_i hi
      obtain ⟨n, c, fs, rfl, eo, el, rfl⟩ := getF_ok e2
      simp only [isIns, eo, beq_iff_eq] at hi
      subst hi
      cases v1 with
      | ref ea =>
        cases hR1.ob _ _ _ eo ea with
        | ins hc hC hH hf =>
          rw [hB] at hc
          cases hc
          rcases hf.look ok hz with ⟨e1, _⟩ | ⟨x', v', e1, e2', v2, na'⟩
          · rw [e1] at el
            cases el
          · rw [e1] at el
            cases el
            refine ⟨_, _, _, _, _, rfl, hH, hC, na', e2', ?_⟩
            refine ha.rf.run r1 H1 h2 s σ _ hR1 (sR.mono s1) (p2.seqS fun y' h4 r4 H4 w4 s4 hR4 v4 p4 => ?_)
            refine hg.run r4 H4 h4 _ y' v' w4 _ hR4 (v2.mono s4) v4 (p4.seqS fun z' h5 r5 H5 w5 s5 hR5 v5 p5 => ?_)
            obtain ⟨_, h6, e6, p6⟩ := thenS_ok p5 (oSetF_nr _ _ _ _ _)
            obtain ⟨a', dx', fs', q1, q2, q3, q4, q5, q6⟩ := rf_setF (Q := fun H6 => D.nx σ H6) ok hz hB na hR5 (.ref ((s4.trans s5).pre _ _ ea)) v5 e6 fun H6 s6 hR6 => (p6.shift s6).here hR6 (sR.mono (s1.trans (s4.trans (s5.trans s6))))
            cases q1
            exact ⟨dx', fs', q2, q5, q6⟩
    · cases e2
theorem ms_aug (i : Nat) {x : Str} {op : Operator} {t : TIp} {g : Val → Val → Heap → Res Val} (hop : PIp X op t) (hg : Rf2 G E t g) (hN : X.N.Nodup) (ha : ME G E X a ta ma) (hi : X.N[i]? = some x := by rfl) (hx : Loc X.env.scope x := by first | exact Or.inl rfl | exact Or.inr rfl)
    (hf : X.fn x = true ∨ X.env.scope.names.lookup x = some .local := by first | exact .inl rfl | exact .inr rfl | assumption) : MS G E X (.AugAssign (.Name x pos') op a pos) (tAug i ta t) (sAug i g ma) := by
  refine ⟨ps_aug hN hi hx ha.pe hop hf, ⟨fun r H h s σ D hR sR p => ?_⟩⟩
  unfold sAug at p
  split at p
  · rename_i x' e
    obtain ⟨v, ev, vR⟩ := sR.get e
    refine ⟨v, ev, ?_⟩
    refine ha.rf.run r H h s σ _ hR sR (p.seqS fun y h1 r1 H1 w s1 hR1 v1 p1 => ?_)
    refine hg.run r1 H1 h1 _ y v w _ hR1 (vR.mono s1) v1 (p1.seqS fun z h2 r2 H2 w2 s2 hR2 v2 p2 => ?_)
    exact p2.here hR2 ((sR.mono (s1.trans s2)).set v2 i)
  · exact False.elim p
end
end PyM

set_option Elab.async false
set_option linter.all false
set_option maxRecDepth 100000
set_option autoImplicit false
namespace PyM
open PySem L2

/-! ### what a loop walks -/
structure Src where
  items : List Val
  chk : Heap → Bool
abbrev MI := En → Heap → Res Src
/-- the source lies under the layer's iterator J -/
structure ItOk (G : Cfg) (r : List Addr) (H : Hp) (J : It) (S : Src) : Prop where
  stop : ∀ r2 H2 h2, Stp G.K r H r2 H2 → HR G r2 H2 h2 → S.chk h2 = true → J.stop S.items.length H2
  go : ∀ r2 H2 h2 (i : Nat) (x : Val), Stp G.K r H r2 H2 → HR G r2 H2 h2 → S.chk h2 = true → S.items[i]? = some x →
    J.go i H2 ∧ ∀ v H3, J.yld i H2 v H3 → ∃ r3, Stp G.K r2 H2 r3 H3 ∧ HR G r3 H3 h2 ∧ VR G r3 H3 x v
structure RfI (G : Cfg) (E : XK) (t : TI) (m : MI) : Prop where
  run : ∀ r H h s σ (R : It → Hp → Prop), HR G r H h → SR G r H s σ → PostR G (fun r1 H1 (S : Src) (J : It) => ItOk G r1 H1 J S) r H E (m s h) R → t σ H R
structure MIt (G : Cfg) (E : XK) (X : Cx) (tg e : Expr) (t : TI) (m : MI) : Prop where
  pe : PI X tg e t
  rf : RfI G E t m
def lstIs (a : Nat) (xs : List Val) (h : Heap) : Bool := match h[a]? with
  | some (.lst ys) => decide (ys = xs)
  | some (.fls ys) => decide (ys = xs)
  | _ => false
def iSeq (m : En → Heap → Res Val) : MI := fun s h => (m s h).bind fun x h1 => match x with
  | .tup xs => .ok ⟨xs, fun _ => true⟩ h1
  | .ref a => match h1[a]? with
    | some (.lst xs) => .ok ⟨xs, lstIs a xs⟩ h1
    | some (.fls xs) => .ok ⟨xs, lstIs a xs⟩ h1
    | _ => .stuck
  | _ => .stuck
def iLst (m : En → Heap → Res Val) : MI := fun s h => (m s h).bind fun x h1 => match x with
  | .ref a => match h1[a]? with
    | some (.lst xs) => .ok ⟨xs, lstIs a xs⟩ h1
    | some (.fls xs) => .ok ⟨xs, lstIs a xs⟩ h1
    | _ => .stuck
  | _ => .stuck
def iTup_ (m : En → Heap → Res Val) : MI := fun s h => (m s h).bind fun x h1 => match x with
  | .tup xs => .ok ⟨xs, fun _ => true⟩ h1
  | _ => .stuck
def rangeV (lo : Int) (n : Nat) : List Val := (List.range n).map fun (i : Nat) => Val.int (lo + (i : Int))
def iRng1 (m : En → Heap → Res (List Val)) : MI := fun s h => (m s h).bind fun xs h1 => match xs with
  | [.int j] => if -(2 ^ 62) ≤ j ∧ j < 2 ^ 62 then .ok ⟨rangeV 0 j.toNat, fun _ => true⟩ h1 else .stuck
  | _ => .stuck
def iRng2 (m : En → Heap → Res (List Val)) : MI := fun s h => (m s h).bind fun xs h1 => match xs with
  | [.int i, .int j] => if -(2 ^ 62) ≤ i ∧ i < 2 ^ 62 ∧ -(2 ^ 62) ≤ j ∧ j < 2 ^ 62 then .ok ⟨rangeV i (j - i).toNat, fun _ => true⟩ h1 else .stuck
  | _ => .stuck
def iAlt (m n : MI) : MI := fun s h => match m s h with
  | .stuck => n s h
  | x => x
section
variable {G : Cfg} {E : XK} {X : Cx} {k : Nat} {a b c e tg : Expr} {es : List Expr} {ta tb tc : TE} {ma mb mc : En → Heap → Res Val} {pos p : Pos} {tA : TA} {mA : En → Heap → Res (List Val)}
theorem rangeV_get {lo : Int} {n i : Nat} : (rangeV lo n)[i]? = if i < n then some (.int (lo + (i : Int))) else none := by
  unfold rangeV
  rw [List.getElem?_map]
  by_cases h : i < n
  · rw [if_pos h, List.getElem?_range h]
    rfl
  · rw [if_neg h, List.getElem?_eq_none (by simpa using h)]
    rfl
theorem itl_ok {r1 : List Addr} {H1 : Hp} {ad : Addr} {xs : List Val} {n : Nat} (ea : r1[n]? = some ad) : ItOk G r1 H1 (Itl G.K ad) ⟨xs, lstIs n xs⟩ := by
  have key : ∀ r2 H2 h2, Stp G.K r1 H1 r2 H2 → HR G r2 H2 h2 → lstIs n xs h2 = true → ∃ vs, SqL G.K H2 ad vs ∧ VRs G r2 H2 xs vs := by
    intro r2 H2 h2 hp hR hc
    unfold lstIs at hc
    split at hc
    · rename_i ys eo
      have : ys = xs := by simpa using hc
      subst this
      cases hR.ob _ _ _ eo (hp.pre _ _ ea) with
      | lst hl hv => exact ⟨_, SqL.of hl, hv⟩
    · rename_i ys eo
      have : ys = xs := by simpa using hc
      subst this
      cases hR.ob _ _ _ eo (hp.pre _ _ ea) with
      | fls hl hv => exact ⟨_, hl.sq, hv⟩
    · cases hc
  refine ⟨fun r2 H2 h2 hp hR hc => ?_, fun r2 H2 h2 i x hp hR hc hx => ?_⟩
  · obtain ⟨vs, h1, h2⟩ := key r2 H2 h2 hp hR hc
    exact ⟨vs, h1, Nat.le_of_eq h2.len.symm⟩
  · obtain ⟨vs, h1, h2⟩ := key r2 H2 h2 hp hR hc
    obtain ⟨v, ev, vv⟩ := h2.get hx
    refine ⟨⟨vs, v, h1, ev⟩, fun v' H3 hy => ?_⟩
    obtain ⟨rfl, hy⟩ := hy
    have := hy vs h1
    rw [ev] at this
    cases this
    exact ⟨r2, Stp.refl, hR, vv⟩
theorem mi_lst (C : XC G E X k) (ha : ME G E X a ta ma) : MIt G E X tg a (iList G.K ta) (iLst ma) := by
  refine ⟨?_, ⟨fun r H h s σ R hR sR p => ha.rf.run r H h s σ _ hR sR (p.seq fun x h1 r1 H1 v s1 hR1 v1 p1 => ?_)⟩⟩
  · have := pi_list (tg := tg) ha.pe
    rwa [C.K] at this
  · cases v1 with
    | @ref n ad ea =>
      simp only at p1
      split at p1
      · rename_i xs eo
        cases hR1.ob _ _ _ eo ea with
        | lst hl hv => exact ⟨_, rfl, ⟨_, SqL.of hl⟩, p1.here hR1 (itl_ok ea)⟩
      · rename_i xs eo
        cases hR1.ob _ _ _ eo ea with
        | fls hl hv => exact ⟨_, rfl, ⟨_, hl.sq⟩, p1.here hR1 (itl_ok ea)⟩
      · exact False.elim p1
    | _ => exact False.elim p1
theorem itr_ok {r1 : List Addr} {H1 : Hp} {lo : Int} {n : Nat} : ItOk G r1 H1 (Itr lo n) ⟨rangeV lo n, fun _ => true⟩ := by
  refine ⟨fun r2 H2 h2 _ _ _ => ?_, fun r2 H2 h2 i x _ hR2 _ hx => ?_⟩
  · show n ≤ (rangeV lo n).length
    simp [rangeV]
  · have hx : (rangeV lo n)[i]? = some x := hx
    rw [rangeV_get] at hx
    split at hx
    · rename_i hi
      cases hx
      refine ⟨hi, fun v H3 hy => ?_⟩
      obtain ⟨rfl, rfl⟩ := hy
      exact ⟨r2, Stp.refl, hR2, .int _⟩
    · cases hx
theorem mi_rng1 (hm : X.mg "range" = none) (ha : MA G E X [a] tA mA) (hg : Gl X "range" := by rfl) (hs : starEach [a] X.env = [(false, eval a X.env)] := by rfl) : MIt G E X tg (.Call (.Name "range" p) [a] [] pos) (L2.iRng1 tA) (iRng1 mA) := by
  refine ⟨pi_range1 hg hm ha.pe hs, ⟨fun r H h s σ R hR sR p => ha.rf.run r H h s σ _ hR sR (p.seq fun x h1 r1 H1 v s1 hR1 v1 p1 => ?_)⟩⟩
  split at p1
  · rename_i j
    cases v1 with
    | cons q1 q2 =>
      cases q1
      cases q2
      split at p1
      · rename_i hj
        exact ⟨j, rfl, hj.1, hj.2, p1.here hR1 itr_ok⟩
      · exact False.elim p1
  · exact False.elim p1
theorem mi_rng2 (hm : X.mg "range" = none) (ha : MA G E X [a, b] tA mA) (hg : Gl X "range" := by rfl) (hs : starEach [a, b] X.env = [(false, eval a X.env), (false, eval b X.env)] := by rfl) (hs2 : starEach [b] X.env = [(false, eval b X.env)] := by rfl) :
    MIt G E X tg (.Call (.Name "range" p) [a, b] [] pos) (L2.iRng2 tA) (iRng2 mA) := by
  refine ⟨pi_range2 hg hm ha.pe hs hs2, ⟨fun r H h s σ R hR sR p => ha.rf.run r H h s σ _ hR sR (p.seq fun x h1 r1 H1 v s1 hR1 v1 p1 => ?_)⟩⟩
  split at p1
  · rename_i i j
    cases v1 with
    | cons q1 q2 => cases q2 with
      | cons q3 q4 =>
        cases q1
        cases q3
        cases q4
        split at p1
        · rename_i hj
          exact ⟨i, j, rfl, hj, p1.here hR1 itr_ok⟩
        · exact False.elim p1
  · exact False.elim p1
theorem itt_ok {r1 : List Addr} {H1 : Hp} {ad : Addr} {xs : List Val} {vs : List V} (hs : SqT G.K H1 ad vs) (hv : VRs G r1 H1 xs vs) : ItOk G r1 H1 (Itt G.K ad) ⟨xs, fun _ => true⟩ := by
  refine ⟨fun r2 H2 h2 hp _ _ => ⟨vs, hp.tup _ _ hs, Nat.le_of_eq hv.len.symm⟩, fun r2 H2 h2 i x hp hR2 _ hx => ?_⟩
  obtain ⟨v, ev, vv⟩ := hv.get hx
  refine ⟨⟨vs, v, hp.tup _ _ hs, ev⟩, fun v' H3 hy => ?_⟩
  obtain ⟨rfl, hy⟩ := hy
  have := hy vs (hp.tup _ _ hs)
  rw [ev] at this
  cases this
  exact ⟨r2, Stp.refl, hR2, vv.mono hp⟩
theorem mi_tup (C : XC G E X k) (ha : ME G E X a ta ma) : MIt G E X tg a (iTup G.K ta) (iTup_ ma) := by
  refine ⟨?_, ⟨fun r H h s σ R hR sR p => ha.rf.run r H h s σ _ hR sR (p.seq fun x h1 r1 H1 v s1 hR1 v1 p1 => ?_)⟩⟩
  · have := pi_tup (tg := tg) ha.pe
    rwa [C.K] at this
  · cases v1 with
    | tup hs hv => exact ⟨_, rfl, ⟨_, hs⟩, p1.here hR1 (itt_ok hs hv)⟩
    | _ => exact False.elim p1
theorem pi_or {tg e : Expr} {t t' : TI} (h : PI X tg e t) (h' : PI X tg e t') : PI X tg e (fun σ H R => t σ H R ∨ t' σ H R) := ⟨fun pins s σ H R I q => q.elim (h.run pins s σ H R I) (h'.run pins s σ H R I)⟩
theorem mi_alt {t t' : TI} {m m' : MI} (h : MIt G E X tg e t m) (h' : MIt G E X tg e t' m') : MIt G E X tg e (fun σ H R => t σ H R ∨ t' σ H R) (iAlt m m') := by
  refine ⟨pi_or h.pe h'.pe, ⟨fun r H hh s σ Q hR sR p => ?_⟩⟩
  unfold iAlt at p
  cases q : m s hh with
  | stuck => rw [q] at p; exact .inr (h'.rf.run r H hh s σ Q hR sR p)
  | ok x y => rw [q] at p; exact .inl (h.rf.run r H hh s σ Q hR sR (by rw [q]; exact p))
  | raised x y => rw [q] at p; exact .inl (h.rf.run r H hh s σ Q hR sR (by rw [q]; exact p))

/-! ### for -/
end
def forM_ (chk : Heap → Bool) (tg : Val → En → Option En) (body : En → Heap → RS) : List Val → En → Heap → RS
  | [], s, h => if chk h = true then .nx s h else .stuck
  | x :: xs, s, h => if chk h = true then match tg x s with
      | some s1 => match body s1 h with
        | .nx s2 h2 => forM_ chk tg body xs s2 h2
        | .ct s2 h2 => forM_ chk tg body xs s2 h2
        | .bk s2 h2 => .nx s2 h2
        | y => y
      | none => .stuck
    else .stuck
def sFor (mi : MI) (tg : Val → En → Option En) (body : En → Heap → RS) (s : En) (h : Heap) : RS := (mi s h).thenS fun S h1 => forM_ S.chk tg body S.items s h1
def whM (c : En → Heap → Res Bool) (body : En → Heap → RS) : Nat → En → Heap → RS
  | 0, _, _ => .stuck
  | n + 1, s, h => (c s h).thenS fun b h1 => if b = true then match body s h1 with
      | .nx s2 h2 => whM c body n s2 h2
      | .ct s2 h2 => whM c body n s2 h2
      | .bk s2 h2 => .nx s2 h2
      | y => y
    else .nx s h1
def wipeE (s : En) : List Nat → En
  | [] => s
  | v :: vs => (wipeE s vs).set v none
def lcM (chk : Heap → Bool) (tg : Val → En → Option En) (mt : En → Heap → Res Bool) (me : En → Heap → Res Val) (s0 : En) (n : Nat) : List Val → Heap → Res Unit
  | [], h => if chk h = true then .ok () h else .stuck
  | x :: xs, h => if chk h = true then match tg x s0 with
      | some s2 => match mt s2 h with
        | .ok b h1 => if b = true then match me s2 h1 with
            | .ok y h2 => match h2[n]? with
              | some (.lst acc) => if acc.length < lim then lcM chk tg mt me s0 n xs (h2.set n (.lst (acc ++ [y]))) else .stuck
              | _ => .stuck
            | _ => .stuck
          else lcM chk tg mt me s0 n xs h1
        | _ => .stuck
      | none => .stuck
    else .stuck
def mLc (mi : MI) (tg : Val → En → Option En) (mt : En → Heap → Res Bool) (me : En → Heap → Res Val) (vs : List Nat) (s : En) (h : Heap) : Res Val := (mi s h).bind fun S h1 => (lcM S.chk tg mt me (wipeE s vs) h1.length S.items (h1 ++ [.lst []])).bind fun _ h2 => .ok (.ref h1.length) h2
section
variable {G : Cfg} {E : XK} {X : Cx} {k : Nat} {a b c e tg iter elt : Expr} {es ifs : List Expr} {ta tb te : TE} {ma mb me : En → Heap → Res Val} {pos p : Pos} {tA : TA} {mA : En → Heap → Res (List Val)} {wi : TI} {mi : MI} {g : TG} {mg : Val → En → Option En}
  {sts : List Stmt} {t : TS} {m : En → Heap → RS} {tt : TT} {mt : En → Heap → Res Bool}
theorem rf_for (hi : RfI G E wi mi) (hg : RfG G g mg) (hb : RfS G E t m) : RfS G E (tFor wi g t) (sFor mi mg m) := by
  refine ⟨fun r H h s σ D hR sR p => hi.run r H h s σ _ hR sR (p.seqS fun S h1 r1 H1 J s1 hR1 J1 p1 => ?_)⟩
  refine ⟨fun i mm σ' H' => ∃ r' h' s', Stp G.K r1 H1 r' H' ∧ HR G r' H' h' ∧ SR G r' H' s' σ' ∧ mm = S.items.length - i ∧ i ≤ S.items.length ∧ PostS G r' H' E (forM_ S.chk mg m (S.items.drop i) s' h') D, ⟨_, r1, h1, s, Stp.refl, hR1, sR.mono s1, rfl, Nat.zero_le _, p1⟩, ?_⟩
  rintro i mm σ' H' ⟨r', h', s', st, hR', sR', rfl, hle, p'⟩
  cases hd : S.items.drop i with
  | nil =>
    have hi : i = S.items.length := by
      have := List.drop_eq_nil_iff.mp hd
      omega
    rw [hd] at p'
    unfold forM_ at p'
    split at p'
    · rename_i hc
      subst hi
      exact .inl ⟨J1.stop r' H' h' st hR' hc, p'.here hR' sR'⟩
    · exact False.elim p'
  | cons x rest =>
    have hlt : i < S.items.length := by
      refine Decidable.byContradiction fun q => ?_
      rw [List.drop_eq_nil_of_le (by omega)] at hd
      cases hd
    have hx : S.items[i]? = some x := by
      have := congrArg (fun l => l[0]?) hd
      simpa using this
    have hr : S.items.drop (i + 1) = rest := by
      rw [← List.drop_drop (i := 1) (j := i), hd]
      rfl
    rw [hd] at p'
    unfold forM_ at p'
    split at p'
    · rename_i hc
      obtain ⟨hgo, hy⟩ := J1.go r' H' h' i x st hR' hc hx
      refine .inr ⟨hgo, fun σ2 H2 => ∃ r2 h2 s2, Stp G.K r1 H1 r2 H2 ∧ HR G r2 H2 h2 ∧ SR G r2 H2 s2 σ2 ∧ PostS G r2 H2 E (forM_ S.chk mg m rest s2 h2) D, ?_, ?_⟩
      · rintro σ2 H2 ⟨r2, h2, s2, q1, q2, q3, q4⟩
        exact ⟨_, by omega, r2, h2, s2, q1, q2, q3, rfl, by omega, by rw [hr]; exact q4⟩
      · intro v H3 hyl
        obtain ⟨r3, st3, hR3, vR⟩ := hy v H3 hyl
        cases e1 : mg x s' with
        | none => rw [e1] at p'; exact False.elim p'
        | some s1' =>
          rw [e1] at p'
          refine hg.run r3 H3 s' σ' x v _ (sR'.mono st3) vR ⟨s1', e1, fun σ1 sR1 => ?_⟩
          refine hb.run r3 H3 h' s1' σ1 _ hR3 sR1 ?_
          simp only at p'
          cases e2 : m s1' h' with
          | nx s2 h2 =>
            rw [e2] at p'
            exact fun r4 H4 t4 st4 hR4 sR4 => ⟨r4, h2, s2, st.trans (st3.trans st4), hR4, sR4, p'.shift (st3.trans st4)⟩
          | ct s2 h2 =>
            rw [e2] at p'
            exact fun r4 H4 t4 st4 hR4 sR4 => ⟨r4, h2, s2, st.trans (st3.trans st4), hR4, sR4, p'.shift (st3.trans st4)⟩
          | bk s2 h2 =>
            rw [e2] at p'
            exact fun r4 H4 t4 st4 hR4 sR4 => p' r4 H4 t4 (st3.trans st4) hR4 sR4
          | rt v2 h2 =>
            rw [e2] at p'
            exact fun r4 H4 t4 st4 hR4 sR4 => p' r4 H4 t4 (st3.trans st4) hR4 sR4
          | raised c2 h2 =>
            rw [e2] at p'
            exact fun r4 H4 t4 st4 hR4 sR4 => p' r4 H4 t4 (st3.trans st4) hR4 sR4
          | stuck =>
            rw [e2] at p'
            exact p'
    · exact False.elim p'
theorem ms_for (C : XC G E X k) (hi : MIt G E X tg iter wi mi) (hg : MG G X tg g mg) (hb : MSs G E X sts t m) (hs : ∀ x, foldedSetIterable iter X.env x = pure x := by intro _; rfl) : MS G E X (.For tg iter sts [] pos) (tFor wi g t) (sFor mi mg m) :=
  ⟨ps_for C.own C.calm hi.pe hg.pe hb.pe hs, rf_for hi.rf hg.rf hb.rf⟩
theorem rf_while (n : Nat) (hc : RfT G E tt mt) (hb : RfS G E t m) : RfS G E (tWhile tt t) (whM mt m n) := by
  refine ⟨fun r H h s σ D hR sR p => ?_⟩
  refine ⟨fun mm σ' H' => ∃ r' h' s', Stp G.K r H r' H' ∧ HR G r' H' h' ∧ SR G r' H' s' σ' ∧ PostS G r' H' E (whM mt m mm s' h') D, ⟨n, r, h, s, Stp.refl, hR, sR, p⟩, ?_⟩
  rintro mm σ' H' ⟨r', h', s', st, hR', sR', p'⟩
  cases mm with
  | zero => exact False.elim p'
  | succ mm =>
    unfold whM at p'
    refine hc.run r' H' h' s' σ' _ hR' sR' (p'.seqS fun b h1 r1 H1 v s1 hR1 v1 p1 => ?_)
    subst v1
    split at p1
    · rename_i hb1
      rw [if_pos hb1]
      refine ⟨fun σ2 H2 => ∃ r2 h2 s2, Stp G.K r H r2 H2 ∧ HR G r2 H2 h2 ∧ SR G r2 H2 s2 σ2 ∧ PostS G r2 H2 E (whM mt m mm s2 h2) D, fun σ2 H2 q => ⟨mm, Nat.lt_succ_self _, q⟩, ?_⟩
      refine hb.run r1 H1 h1 s' σ' _ hR1 (sR'.mono s1) ?_
      cases e2 : m s' h1 with
      | nx s2 h2 =>
        rw [e2] at p1
        exact fun r4 H4 t4 st4 hR4 sR4 => ⟨r4, h2, s2, st.trans (s1.trans st4), hR4, sR4, PostS.shift st4 p1⟩
      | ct s2 h2 =>
        rw [e2] at p1
        exact fun r4 H4 t4 st4 hR4 sR4 => ⟨r4, h2, s2, st.trans (s1.trans st4), hR4, sR4, PostS.shift st4 p1⟩
      | bk s2 h2 =>
        rw [e2] at p1
        exact p1
      | rt v2 h2 =>
        rw [e2] at p1
        exact p1
      | raised c2 h2 =>
        rw [e2] at p1
        exact p1
      | stuck =>
        rw [e2] at p1
        exact p1
    · rename_i hb1
      rw [if_neg hb1]
      exact p1.here hR1 (sR'.mono s1)
theorem ms_while (n : Nat) (C : XC G E X k) (hc : MT G E X c tt mt) (hb : MSs G E X sts t m) : MS G E X (.While c sts [] pos) (tWhile tt t) (whM mt m n) :=
  ⟨ps_while C.own hc.pe hb.pe, rf_while n hc.rf hb.rf⟩

/-! ### list comprehensions -/
theorem SR.setN {r : List Addr} {H : Hp} {s : En} {t : L2.St} (q : SR G r H s t) : ∀ (i : Nat), SR G r H (s.set i none) (t.set i none) := by
  induction q with
  | nil => exact fun _ => .nil
  | no q ih => exact fun i => match i with
    | 0 => .no q
    | i + 1 => .no (ih i)
  | so b q ih => exact fun i => match i with
    | 0 => .no q
    | i + 1 => .so b (ih i)
theorem SR.wipe {r : List Addr} {H : Hp} {s : En} {t : L2.St} (q : SR G r H s t) : ∀ vs : List Nat, SR G r H (wipeE s vs) (L2.wipe t vs)
  | [] => q
  | v :: vs => (SR.wipe q vs).setN v
/-- a comprehension's target stores its own slots alone -/
structure TgW (vs : List Nat) (g : TG) : Prop where
  run : ∀ v σ σ0 H (Q : L2.St → Hp → Prop), L2.wipe σ vs = σ0 → g v σ H Q → g v σ H fun σ2 H2 => L2.wipe σ2 vs = σ0 ∧ Q σ2 H2
structure TgWs (vs : List Nat) (g : TGs) : Prop where
  run : ∀ v σ σ0 H (Q : L2.St → Hp → Prop), L2.wipe σ vs = σ0 → g v σ H Q → g v σ H fun σ2 H2 => L2.wipe σ2 vs = σ0 ∧ Q σ2 H2
theorem wipe_get (σ : L2.St) : ∀ (vs : List Nat) (i : Nat), (L2.wipe σ vs)[i]? = if i ∈ vs then (if i < σ.length then some none else none) else σ[i]?
  | [], i => by simp [L2.wipe]
  | v :: vs, i => by
    unfold L2.wipe
    rw [List.getElem?_set, wipe_length]
    by_cases h : v = i
    · subst h
      simp
    · have h' : ¬ i = v := fun e => h e.symm
      rw [if_neg h, wipe_get σ vs i]
      simp [h']
theorem wipe_set {σ : L2.St} {vs : List Nat} {i : Nat} {o : Option V} (hi : i ∈ vs) : L2.wipe (σ.set i o) vs = L2.wipe σ vs := by
  apply List.ext_getElem?
  intro j
  rw [wipe_get, wipe_get, List.length_set]
  by_cases h : j ∈ vs
  · rw [if_pos h, if_pos h]
  · rw [if_neg h, if_neg h, List.getElem?_set_ne (fun e => h (by rw [← e]; exact hi))]
theorem wipe_wipe {σ : L2.St} {vs : List Nat} : L2.wipe (L2.wipe σ vs) vs = L2.wipe σ vs := by
  apply List.ext_getElem?
  intro j
  rw [wipe_get, wipe_get, wipe_length]
  by_cases h : j ∈ vs <;> simp [h]
theorem tgw_name {vs : List Nat} {i : Nat} (hi : i ∈ vs) : TgW vs (gName i) := ⟨fun v σ σ0 H Q e q => ⟨by rw [wipe_set hi]; exact e, q⟩⟩
theorem tgws_nil {vs : List Nat} : TgWs vs gNil := ⟨fun v σ σ0 H Q e q => ⟨q.1, e, q.2⟩⟩
theorem tgws_cons {vs : List Nat} {g : TG} {gs : TGs} (h : TgW vs g) (hs : TgWs vs gs) (mono : ∀ v σ H (Q Q' : L2.St → Hp → Prop), (∀ σ H, Q σ H → Q' σ H) → g v σ H Q → g v σ H Q') : TgWs vs (gCons g gs) := by
  refine ⟨fun v σ σ0 H Q e ⟨x, r, e1, q⟩ => ⟨x, r, e1, ?_⟩⟩
  exact mono _ _ _ _ _ (fun σ2 H2 z => hs.run r σ2 σ0 H2 Q z.1 z.2) (h.run x σ σ0 H _ e q)
theorem tgw_tup {K : PySem.W.Frag} {vs : List Nat} {n : Nat} {gs : TGs} (h : TgWs vs gs) : TgW vs (gTup K n gs) := ⟨fun v σ σ0 H Q e ⟨a, xs, e1, e2, e3, q⟩ => ⟨a, xs, e1, e2, e3, h.run xs σ σ0 H Q e q⟩⟩
theorem mono_name {i : Nat} : ∀ v σ H (Q Q' : L2.St → Hp → Prop), (∀ σ H, Q σ H → Q' σ H) → gName i v σ H Q → gName i v σ H Q' := fun _ _ _ _ _ f q => f _ _ q
abbrev E0 : XK := L2.E0
theorem rf_lc {vs : List Nat} (hi : RfI G E wi mi) (hg : RfG G g mg) (hw : TgW vs g) (ht : RfT G E0 tt mt) (he : Rf G E0 te me) : Rf G E (tLc wi g tt te vs) (mLc mi mg mt me vs) := by
  refine ⟨fun r H h s σ Q hR sR p => hi.run r H h s σ _ hR sR (p.seq fun S h1 r1 H1 J s1 hR1 J1 p1 => ?_)⟩
  intro D hD
  have st0 : Stp G.K r1 H1 (r1 ++ [D]) (upd H1 D (.lst [])) := Stp.new hD
  have hR0 : HR G (r1 ++ [D]) (upd H1 D (.lst [])) (h1 ++ [.lst []]) := hR1.push hD (.lst upd_same .nil)
  have rD : (r1 ++ [D])[h1.length]? = some D := by rw [← hR1.len]; simp
  have sR1 := ((sR.mono s1).mono st0).wipe vs
  refine ⟨fun i mm H' => ∃ r' h', Stp G.K (r1 ++ [D]) (upd H1 D (.lst [])) r' H' ∧ HR G r' H' h' ∧ mm = S.items.length - i ∧ i ≤ S.items.length ∧
    PostR G (VR G) r' H' E ((lcM S.chk mg mt me (wipeE s vs) h1.length (S.items.drop i) h').bind fun _ h2 => .ok (.ref h1.length) h2) Q, ⟨_, _, _, Stp.refl, hR0, rfl, Nat.zero_le _, p1.shift st0⟩, ?_⟩
  rintro i mm H' ⟨r', h', st, hR', rfl, hle, p'⟩
  have stA := st0.trans st
  cases hd : S.items.drop i with
  | nil =>
    have hi : i = S.items.length := by
      have := List.drop_eq_nil_iff.mp hd
      omega
    rw [hd] at p'
    unfold lcM at p'
    split at p'
    · rename_i hc
      subst hi
      exact .inl ⟨J1.stop r' H' h' stA hR' hc, p'.here hR' (.ref (st.pre _ _ rD))⟩
    · exact False.elim p'
  | cons x rest =>
    have hlt : i < S.items.length := by
      refine Decidable.byContradiction fun q => ?_
      rw [List.drop_eq_nil_of_le (by omega)] at hd
      cases hd
    have hx : S.items[i]? = some x := by
      have := congrArg (fun l => l[0]?) hd
      simpa using this
    have hr : S.items.drop (i + 1) = rest := by
      rw [← List.drop_drop (i := 1) (j := i), hd]
      rfl
    rw [hd] at p'
    unfold lcM at p'
    split at p'
    · rename_i hc
      obtain ⟨hgo, hy⟩ := J1.go r' H' h' i x stA hR' hc hx
      refine .inr ⟨hgo, fun H2 => ∃ r2 h2, Stp G.K (r1 ++ [D]) (upd H1 D (.lst [])) r2 H2 ∧ HR G r2 H2 h2 ∧ PostR G (VR G) r2 H2 E ((lcM S.chk mg mt me (wipeE s vs) h1.length rest h2).bind fun _ h2 => .ok (.ref h1.length) h2) Q, ?_, ?_⟩
      · rintro H2 ⟨r2, h2, q1, q2, q4⟩
        exact ⟨_, by omega, r2, h2, q1, q2, rfl, by omega, by rw [hr]; exact q4⟩
      · intro v H3 hyl
        obtain ⟨r3, st3, hR3, vR⟩ := hy v H3 hyl
        refine hw.run v _ _ H3 _ wipe_wipe ?_
        cases e1 : mg x (wipeE s vs) with
        | none => rw [e1] at p'; exact False.elim p'
        | some s2 =>
          rw [e1] at p'
          refine hg.run r3 H3 _ _ x v _ ((sR1.mono st).mono st3) vR ⟨s2, e1, fun σ2 sR2 => ?_⟩
          refine ht.run r3 H3 h' s2 σ2 _ hR3 sR2 ?_
          simp only at p'
          cases e2 : mt s2 h' with
          | ok b h4 =>
            rw [e2] at p'
            intro r4 H4 b' st4 hR4 eb
            subst eb
            simp only at p'
            split at p'
            · rename_i hb
              rw [if_pos hb]
              refine he.run r4 H4 h4 s2 σ2 _ hR4 (sR2.mono st4) ?_
              cases e3 : me s2 h4 with
              | ok y h5 =>
                rw [e3] at p'
                intro r5 H5 y' st5 hR5 vy
                simp only at p'
                split at p'
                · rename_i acc eacc
                  have st5' := (st3.trans st4).trans st5
                  have rD5 := (st.trans st5').pre _ _ rD
                  cases hR5.ob _ _ _ eacc rD5 with
                  | @lst _ us _ hl hv =>
                    split at p'
                    · rename_i hlen
                      have stU : ∀ u, Stp G.K r5 H5 r5 (upd H5 D u) := fun u => Stp.upd fun o e => by rw [hl] at e; cases e; trivial
                      refine ⟨us, hl, lt_line (by rw [← hv.len]; exact hlen), r5, _, (st.trans st5').trans (stU _), hR5.write eacc rfl rD5 (fun o e => by rw [hl] at e; cases e; trivial) (.lst upd_same ?_) rfl, p'.shift (st5'.trans (stU _))⟩
                      exact (hv.app (.cons vy .nil)).mono (stU _)
                    · exact False.elim p'
                · exact False.elim p'
              | raised c h5 => rw [e3] at p'; exact False.elim p'
              | stuck => rw [e3] at p'; exact False.elim p'
            · rename_i hb
              rw [if_neg hb]
              exact ⟨r4, h4, st.trans (st3.trans st4), hR4, p'.shift (st3.trans st4)⟩
          | raised c h4 => rw [e2] at p'; exact False.elim p'
          | stuck => rw [e2] at p'; exact False.elim p'
    · exact False.elim p'
structure MTs (G : Cfg) (E : XK) (X : Cx) (es : List Expr) (t : TT) (m : En → Heap → Res Bool) : Prop where
  pe : PTs X es t
  rf : RfT G E t m
def tTrue (_ : En) (h : Heap) : Res Bool := .ok true h
theorem mts_nil : MTs G E X [] tYes tTrue := ⟨pts_nil, ⟨fun r H h s σ Q hR sR p => p.here hR rfl⟩⟩
theorem mts_one (h : MT G E X c tt mt) : MTs G E X [c] tt mt := ⟨pts_one h.pe, h.rf⟩
theorem XC.blk (C : XC G E X k) (s : Shared) (H : Hp) (scope : Scope) (cenv : Env) (fp : List Addr) : XC G E0 (X.blk s H scope cenv fp) k := ⟨C.K, C.calm, C.nd, C.room, passL, PassesOwn.never⟩
theorem me_lc {scope : Scope} (own : List (Str × Nat)) (C : XC G E X k) (hi : MIt G E X tg iter wi mi) (ok : BlkOk X.N X.env.scope scope own)
    (hg : ∀ (s : Shared) (H : Hp) (D : Addr) (cl : List (Str × Addr)) (fp : List Addr), XC G E0 (X.blk s H scope (compEnvC scope cl D X.env) fp) k → MG G (X.blk s H scope (compEnvC scope cl D X.env) fp) tg g mg)
    (ht : ∀ (s : Shared) (H : Hp) (D : Addr) (cl : List (Str × Addr)) (fp : List Addr), XC G E0 (X.blk s H scope (compEnvC scope cl D X.env) fp) k → MTs G E0 (X.blk s H scope (compEnvC scope cl D X.env) fp) ifs tt mt)
    (he : ∀ (s : Shared) (H : Hp) (D : Addr) (cl : List (Str × Addr)) (fp : List Addr), XC G E0 (X.blk s H scope (compEnvC scope cl D X.env) fp) k → ME G E0 (X.blk s H scope (compEnvC scope cl D X.env) fp) elt te me)
    (hw : TgW (own.map (·.2)) g) (hs : ∀ x, foldedSetIterable iter X.env x = pure x := by intro _; rfl) :
    ME G E X (.ListComp elt [⟨tg, iter, ifs, 0⟩] scope pos) (tLc wi g tt te (own.map (·.2))) (mLc mi mg mt me (own.map (·.2))) :=
  ⟨pe_lc C.calm C.nd hi.pe ok (fun s H D cl fp => (hg s H D cl fp (C.blk ..)).pe) (fun s H D cl fp => (ht s H D cl fp (C.blk ..)).pe) (fun s H D cl fp => (he s H D cl fp (C.blk ..)).pe) hs,
    rf_lc hi.rf (hg X.s_0 X.H_0 0 [] [] (C.blk ..)).rf hw (ht X.s_0 X.H_0 0 [] [] (C.blk ..)).rf (he X.s_0 X.H_0 0 [] [] (C.blk ..)).rf⟩
theorem ms_setLc {scope : Scope} {y : Str} {py spos : Pos} (i : Nat) (own : List (Str × Nat)) (C : XC G E X k) (hi : MIt G E X tg iter wi mi) (ok : BlkOk X.N X.env.scope scope own)
    (hg : ∀ (s : Shared) (H : Hp) (D : Addr) (cl : List (Str × Addr)) (fp : List Addr), XC G E0 (X.blk s H scope (compEnvC scope cl D X.env) fp) k → MG G (X.blk s H scope (compEnvC scope cl D X.env) fp) tg g mg)
    (ht : ∀ (s : Shared) (H : Hp) (D : Addr) (cl : List (Str × Addr)) (fp : List Addr), XC G E0 (X.blk s H scope (compEnvC scope cl D X.env) fp) k → MTs G E0 (X.blk s H scope (compEnvC scope cl D X.env) fp) ifs tt mt)
    (he : ∀ (s : Shared) (H : Hp) (D : Addr) (cl : List (Str × Addr)) (fp : List Addr), XC G E0 (X.blk s H scope (compEnvC scope cl D X.env) fp) k → ME G E0 (X.blk s H scope (compEnvC scope cl D X.env) fp) elt te me)
    (hw : TgW (own.map (·.2)) g) (hsw : swapsWith (.ListComp elt [⟨tg, iter, ifs, 0⟩] scope pos) (some (.Name y py)) spos.line X.env = pure true) (hy : X.N[i]? = some y := by rfl) (hyl : X.env.scope.names.lookup y = some .local := by rfl) (hs : ∀ x, foldedSetIterable iter X.env x = pure x := by intro _; rfl) :
    MS G E X (.Assign [.Name y py] (.ListComp elt [⟨tg, iter, ifs, 0⟩] scope pos) spos) (tAsg (tLc wi g tt te (own.map (·.2))) (gName i)) (sAsg (gV i) (mLc mi mg mt me (own.map (·.2)))) := by
  refine ⟨ps_setLc C.calm C.nd hy hyl hsw hi.pe ok (fun s H D cl fp => (hg s H D cl fp (C.blk ..)).pe) (fun s H D cl fp => (ht s H D cl fp (C.blk ..)).pe) (fun s H D cl fp => (he s H D cl fp (C.blk ..)).pe) hs, ⟨fun r H h s σ D hR sR p => ?_⟩⟩
  have rf := rf_lc (E := E) (vs := own.map (·.2)) hi.rf (hg X.s_0 X.H_0 0 [] [] (C.blk ..)).rf hw (ht X.s_0 X.H_0 0 [] [] (C.blk ..)).rf (he X.s_0 X.H_0 0 [] [] (C.blk ..)).rf
  exact rf.run r H h s σ _ hR sR (p.seqS fun x h1' r1 H1 v s1 hR1 v1 p1 => p1.here hR1 ((sR.mono s1).set v1 i))
end
end PyM

set_option Elab.async false
set_option linter.all false
set_option maxRecDepth 100000
set_option autoImplicit false
namespace PyM
open PySem L2

/-! ### built-ins by their names -/
theorem callR_or {X : Cx} {f : Value} {r r' : List V → Hp → VK → Prop} (h : CallR X f r) (h' : CallR X f r') : CallR X f (fun xs H Q => r xs H Q ∨ r' xs H Q) :=
  fun pins s σ H xs us Q I rv q => q.elim (h pins s σ H xs us Q I rv) (h' pins s σ H xs us Q I rv)
def bAbs (xs : List Val) (h : Heap) : Res Val := match xs with
  | [.int i] => .ok (.int (if i < 0 then -i else i)) h
  | _ => .stuck
def bInt (xs : List Val) (h : Heap) : Res Val := match xs with
  | [.int i] => .ok (.int i) h
  | [.bl b] => .ok (.int (if b then 1 else 0)) h
  | _ => .stuck
def bLen (xs : List Val) (h : Heap) : Res Val := match xs with
  | [.tup ys] => .ok (.int ys.length) h
  | [.ref a] => match h[a]? with
    | some (.lst ys) => .ok (.int ys.length) h
    | some (.fls ys) => .ok (.int ys.length) h
    | some (.dct d) => .ok (.int d.length) h
    | _ => .stuck
  | _ => .stuck
def bList (xs : List Val) (h : Heap) : Res Val := match xs with
  | [.tup ys] => .ok (.ref h.length) (h ++ [.lst ys])
  | [.ref a] => match h[a]? with
    | some (.lst ys) => .ok (.ref h.length) (h ++ [.lst ys])
    | some (.fls ys) => .ok (.ref h.length) (h ++ [.lst ys])
    | _ => .stuck
  | _ => .stuck
def bTuple (xs : List Val) (h : Heap) : Res Val := match xs with
  | [.tup ys] => .ok (.tup ys) h
  | [.ref a] => match h[a]? with
    | some (.lst ys) => .ok (.tup ys) h
    | some (.fls ys) => .ok (.tup ys) h
    | _ => .stuck
  | _ => .stuck
def asBl : Val → Option Bool
  | .bl b => some b
  | _ => none
def asInt : Val → Option Int
  | .int b => some b
  | _ => none
def seqOf (x : Val) (h : Heap) : Option (List Val) := match x with
  | .ref a => match h[a]? with
    | some (.lst ys) => some ys
    | some (.fls ys) => some ys
    | _ => none
  | _ => none
def bSeq {α : Type} (f : Val → Option α) (g : List α → Val) (xs : List Val) (h : Heap) : Res Val := match xs with
  | [x] => match seqOf x h with
    | some ys => match optAll f ys with
      | some bs => .ok (g bs) h
      | none => .stuck
    | none => .stuck
  | _ => .stuck
abbrev bAll := bSeq asBl fun bs => .bl (bs.all id)
abbrev bAny := bSeq asBl fun bs => .bl (bs.any id)
abbrev bSum := bSeq asInt fun bs => .int bs.sum
def bMax2 (xs : List Val) (h : Heap) : Res Val := match xs with
  | [.int i, .int j] => .ok (.int (if j > i then j else i)) h
  | _ => .stuck
def bMin2 (xs : List Val) (h : Heap) : Res Val := match xs with
  | [.int i, .int j] => .ok (.int (if j < i then j else i)) h
  | _ => .stuck
inductive Ty where
  | int | bool | str | tup | lst | dct | non
  deriving DecidableEq
def Ty.nm : Ty → String
  | .int => "int" | .bool => "bool" | .str => "str" | .tup => "tuple" | .lst => "list" | .dct => "dict" | .non => "NoneType"
def tyOf (x : Val) (h : Heap) : Option Ty := match x with
  | .non => some .non
  | .bl _ => some .bool
  | .int _ => some .int
  | .str _ => some .str
  | .tup _ => some .tup
  | .ref a => match h[a]? with
    | some (.lst _) => some .lst
    | some (.dct _) => some .dct
    | some (.dcT _) => some .dct
    | _ => none
def isTy (T : Ty) : Option Ty → Option Bool
  | some t => some (decide (t = T) || (decide (t = .bool) && decide (T = .int)))
  | none => none
def mIsi (T : Ty) (m : En → Heap → Res Val) (s : En) (h : Heap) : Res Val := (m s h).bind fun x h1 => match isTy T (tyOf x h1) with
  | some b => .ok (.bl b) h1
  | none => .stuck

section
variable {G : Cfg} {E : XK} {X : Cx} {k : Nat} {a b c e o e2 : Expr} {es : List Expr} {ta tb tc to : TE} {ma mb mc mo : En → Heap → Res Val} {pos p p2 apos : Pos} {tA : TA} {mA : En → Heap → Res (List Val)} {x : Str} {r : List Addr} {H : Hp} {h : Heap}
theorem me_blt {id : String} {t : List V → Hp → VK → Prop} {f : List Val → Heap → Res Val} (hc : CallR X (.builtin id) t) (hr : RfL G E t f) (hm : X.mg x = none) (hv : bootBuiltins x = some (.builtin id)) (ha : MA G E X (e :: es) tA mA) (hg : Gl X x := by rfl) (hn : x ≠ "__name__" := by decide) (hdb : (x == ("__debug__" : Str)) = false := by decide)
    (he : starEach (e :: es) X.env = (false, eval e X.env) :: starEach es X.env := by rfl) (hpl : (backTo pos (starEach es X.env)).any (·.1) = false := by rfl) : ME G E X (.Call (.Name x p) (e :: es) [] pos) (tCB t tA) (mL f mA) :=
  ⟨pe_callB hc hg hm hv ha.pe hn hdb he hpl, ha.rf.l hr⟩
theorem me_bty {id : String} {t : List V → Hp → VK → Prop} {f : List Val → Heap → Res Val} (hc : CallR X (.type id) t) (hr : RfL G E t f) (hm : X.mg x = none) (hv : bootBuiltins x = some (.type id)) (ha : MA G E X (e :: es) tA mA) (hg : Gl X x := by rfl) (hn : x ≠ "__name__" := by decide) (hdb : (x == ("__debug__" : Str)) = false := by decide)
    (he : starEach (e :: es) X.env = (false, eval e X.env) :: starEach es X.env := by rfl) (hpl : (backTo pos (starEach es X.env)).any (·.1) = false := by rfl) : ME G E X (.Call (.Name x p) (e :: es) [] pos) (tCB t tA) (mL f mA) :=
  ⟨pe_callTy hc hg hm hv ha.pe hn hdb he hpl, ha.rf.l hr⟩
theorem bt_abs : bootBuiltins "abs" = some (.builtin "abs") := by decide +kernel
theorem bt_int : bootBuiltins "int" = some (.type "int") := by decide +kernel
theorem bt_len : bootBuiltins "len" = some (.builtin "len") := by decide +kernel
theorem bt_list : bootBuiltins "list" = some (.type "list") := by decide +kernel
theorem bt_tuple : bootBuiltins "tuple" = some (.type "tuple") := by decide +kernel
theorem bt_all : bootBuiltins "all" = some (.builtin "all") := by decide +kernel
theorem bt_any : bootBuiltins "any" = some (.builtin "any") := by decide +kernel
theorem bt_sum : bootBuiltins "sum" = some (.builtin "sum") := by decide +kernel
theorem bt_max : bootBuiltins "max" = some (.builtin "max") := by decide +kernel
theorem bt_min : bootBuiltins "min" = some (.builtin "min") := by decide +kernel
theorem bt_sorted : bootBuiltins "sorted" = some (.builtin "sorted") := by decide +kernel
theorem bt_isi : bootBuiltins "isinstance" = some (.builtin "isinstance") := by decide +kernel

theorem vrs1 {xs : List Val} {v : V} {y : Val} (q : VRs G r H [y] [v]) : VR G r H y v := by cases q; assumption
theorem rl_abs : RfL G E (fun xs H Q => ∃ i, xs = [.int i] ∧ Q (.int (if i < 0 then -i else i)) H) bAbs := by
  refine ⟨fun r H h xs vs Q hR v p => ?_⟩
  unfold bAbs at p
  split at p
  · cases v with
    | cons q1 q2 => cases q1; cases q2; exact ⟨_, rfl, p.here hR (.int _)⟩
  · exact False.elim p
theorem rl_int : RfL G E (fun xs H Q => (∃ i, xs = [.int i] ∧ Q (.int i) H) ∨ ∃ k, xs = [.bl k] ∧ Q (.int (if k then 1 else 0)) H) bInt := by
  refine ⟨fun r H h xs vs Q hR v p => ?_⟩
  unfold bInt at p
  split at p
  · cases v with
    | cons q1 q2 => cases q1; cases q2; exact .inl ⟨_, rfl, p.here hR (.int _)⟩
  · cases v with
    | cons q1 q2 => cases q1; cases q2; exact .inr ⟨_, rfl, p.here hR (.int _)⟩
  · exact False.elim p
def rLenA (K : PySem.W.Frag) : List V → Hp → VK → Prop := fun xs H Q => (∃ x n, xs = [x] ∧ LenV K x H n ∧ Q (.int n) H) ∨ ∃ a kvs, xs = [V.ref a] ∧ H a = some (.dK kvs) ∧ Q (.int kvs.length) H
theorem cl_len (C : XC G E X k) : CallR X (.builtin "len") (rLenA G.K) := by
  have := callR_or (call_len (X := X)) call_lenD
  rw [C.K] at this
  exact this
theorem rl_len : RfL G E (rLenA G.K) bLen := by
  refine ⟨fun r H h xs vs Q hR v p => ?_⟩
  unfold bLen at p
  split at p
  · cases v with
    | cons q1 q2 => cases q2; cases q1 with
      | tup hs hv => exact .inl ⟨_, _, rfl, .inr ⟨_, hs, rfl⟩, by have := p.here hR (.int _); rw [hv.len] at this; exact this⟩
  · cases v with
    | cons q1 q2 => cases q2; cases q1 with
      | ref ea =>
        split at p
        · rename_i ys eo
          cases hR.ob _ _ _ eo ea with
          | lst hl hv => exact .inl ⟨_, _, rfl, .inl ⟨_, SqL.of hl, rfl⟩, by have := p.here hR (.int _); rw [hv.len] at this; exact this⟩
        · rename_i ys eo
          cases hR.ob _ _ _ eo ea with
          | fls hl hv => exact .inl ⟨_, _, rfl, .inl ⟨_, hl.sq, rfl⟩, by have := p.here hR (.int _); rw [hv.len] at this; exact this⟩
        · rename_i ys eo
          cases hR.ob _ _ _ eo ea with
          | dct hl hv => exact .inr ⟨_, _, rfl, hl, by have := p.here hR (.int _); rw [hv.len] at this; exact this⟩
        · exact False.elim p
  · exact False.elim p
def rListA (K : PySem.W.Frag) : List V → Hp → VK → Prop := fun xs H Q => ∃ p ys, xs = [.ref p] ∧ (SqL K H p ys ∨ SqT K H p ys) ∧ ∀ l, H l = none → Q (.ref l) (upd H l (.lst ys))
theorem cl_list (C : XC G E X k) : CallR X (.type "list") (rListA G.K) := by
  have := call_list_of (X := X)
  rw [C.K] at this
  exact this
theorem new_lst (hR : HR G r H h) {xs : List Val} {vs : List V} {Q : VK} (hv : VRs G r H xs vs) (p : PostR G (VR G) r H E (.ok (.ref h.length) (h ++ [.lst xs])) Q) (l : Addr) (hl : H l = none) : Q (.ref l) (upd H l (.lst vs)) := by
  refine p (r ++ [l]) _ _ (Stp.new hl) (hR.push hl (.lst upd_same (hv.mono (Stp.new hl)))) (.ref ?_)
  rw [← hR.len]
  simp
theorem rl_list : RfL G E (rListA G.K) bList := by
  refine ⟨fun r H h xs vs Q hR v p => ?_⟩
  unfold bList at p
  split at p
  · cases v with
    | cons q1 q2 => cases q2; cases q1 with
      | tup hs hv => exact ⟨_, _, rfl, .inr hs, new_lst hR hv p⟩
  · cases v with
    | cons q1 q2 => cases q2; cases q1 with
      | ref ea =>
        split at p
        · rename_i ys eo
          cases hR.ob _ _ _ eo ea with
          | lst hl hv => exact ⟨_, _, rfl, .inl (SqL.of hl), new_lst hR hv p⟩
        · rename_i ys eo
          cases hR.ob _ _ _ eo ea with
          | fls hl hv => exact ⟨_, _, rfl, .inl hl.sq, new_lst hR hv p⟩
        · exact False.elim p
  · exact False.elim p
def rTupA (K : PySem.W.Frag) : List V → Hp → VK → Prop := fun xs H Q => ∃ p ys, xs = [.ref p] ∧ ((SqL K H p ys ∧ ∀ l, H l = none → Q (.ref l) (upd H l (.tup ys))) ∨ (SqT K H p ys ∧ Q (.ref p) H))
theorem cl_tuple (C : XC G E X k) : CallR X (.type "tuple") (rTupA G.K) := by
  have := call_tuple_of (X := X)
  rw [C.K] at this
  exact this
theorem new_tup (hR : HR G r H h) {xs : List Val} {vs : List V} {Q : VK} (hv : VRs G r H xs vs) (p : PostR G (VR G) r H E (.ok (.tup xs) h) Q) (l : Addr) (hl : H l = none) : Q (.ref l) (upd H l (.tup vs)) :=
  p r _ _ (Stp.new0 hl) (hR.lay hl) (.tup (SqT.of upd_same) (hv.mono (Stp.new0 hl)))
theorem rl_tuple : RfL G E (rTupA G.K) bTuple := by
  refine ⟨fun r H h xs vs Q hR v p => ?_⟩
  unfold bTuple at p
  split at p
  · cases v with
    | cons q1 q2 => cases q2; cases q1 with
      | tup hs hv => exact ⟨_, _, rfl, .inr ⟨hs, p.here hR (.tup hs hv)⟩⟩
  · cases v with
    | cons q1 q2 => cases q2; cases q1 with
      | ref ea =>
        split at p
        · rename_i ys eo
          cases hR.ob _ _ _ eo ea with
          | lst hl hv => exact ⟨_, _, rfl, .inl ⟨SqL.of hl, new_tup hR hv p⟩⟩
        · rename_i ys eo
          cases hR.ob _ _ _ eo ea with
          | fls hl hv => exact ⟨_, _, rfl, .inl ⟨hl.sq, new_tup hR hv p⟩⟩
        · exact False.elim p
  · exact False.elim p
theorem seqOf_sq (hR : HR G r H h) {x : Val} {v : V} {ys : List Val} (q : VR G r H x v) (e : seqOf x h = some ys) : ∃ ad vs, v = .ref ad ∧ SqL G.K H ad vs ∧ VRs G r H ys vs := by
  cases q with
  | ref ea =>
    simp only [seqOf] at e
    split at e
    · rename_i zs eo
      cases e
      cases hR.ob _ _ _ eo ea with
      | lst hl hv => exact ⟨_, _, rfl, SqL.of hl, hv⟩
    · rename_i zs eo
      cases e
      cases hR.ob _ _ _ eo ea with
      | fls hl hv => exact ⟨_, _, rfl, hl.sq, hv⟩
    · cases e
  | _ => cases e
theorem all_bl : ∀ {ys : List Val} {vs : List V} {bs : List Bool}, VRs G r H ys vs → optAll asBl ys = some bs → vs = bs.map V.bl
  | _, _, _, .nil, e => by simp only [optAll, Option.some.injEq] at e; subst e; rfl
  | _, _, _, .cons a b, e => by
    simp only [optAll] at e
    split at e
    · rename_i d ds e1 e2
      cases e
      cases a with
      | bl b' => cases e1; rw [all_bl b e2]; rfl
      | _ => cases e1
    · cases e
theorem all_int : ∀ {ys : List Val} {vs : List V} {bs : List Int}, VRs G r H ys vs → optAll asInt ys = some bs → vs = bs.map V.int
  | _, _, _, .nil, e => by simp only [optAll, Option.some.injEq] at e; subst e; rfl
  | _, _, _, .cons a b, e => by
    simp only [optAll] at e
    split at e
    · rename_i d ds e1 e2
      cases e
      cases a with
      | int b' => cases e1; rw [all_int b e2]; rfl
      | _ => cases e1
    · cases e
theorem bSeq_ok {α : Type} {f : Val → Option α} {g : List α → Val} {xs : List Val} {vs : List V} {Q : VK} (hR : HR G r H h) (v : VRs G r H xs vs) (p : PostR G (VR G) r H E (bSeq f g xs h) Q) :
    ∃ ad us ys bs, vs = [V.ref ad] ∧ SqL G.K H ad us ∧ VRs G r H ys us ∧ optAll f ys = some bs ∧ PostR G (VR G) r H E (.ok (g bs) h) Q := by
  unfold bSeq at p
  split at p
  · cases v with
    | cons q1 q2 =>
      cases q2
      split at p
      · rename_i ys e1
        split at p
        · rename_i bs e2
          obtain ⟨ad, us, rfl, h1, h2⟩ := seqOf_sq hR q1 e1
          exact ⟨ad, us, ys, bs, rfl, h1, h2, e2, p⟩
        · exact False.elim p
      · exact False.elim p
  · exact False.elim p
theorem cl_all (C : XC G E X k) : CallR X (.builtin "all") (rAll G.K) := by have := cr_all (X := X) C.calm; rwa [C.K] at this
theorem cl_any (C : XC G E X k) : CallR X (.builtin "any") (rAny G.K) := by have := cr_any (X := X) C.calm; rwa [C.K] at this
theorem cl_sum (C : XC G E X k) : CallR X (.builtin "sum") (rSum G.K) := by have := cr_sum (X := X) C.calm; rwa [C.K] at this
theorem rl_all : RfL G E (rAll G.K) bAll := ⟨fun r H h xs vs Q hR v p => by
  obtain ⟨ad, us, ys, bs, rfl, h1, h2, e2, p⟩ := bSeq_ok hR v p
  rw [all_bl h2 e2] at h1
  exact ⟨ad, bs, rfl, h1, p.here hR (.bl _)⟩⟩
theorem rl_any : RfL G E (rAny G.K) bAny := ⟨fun r H h xs vs Q hR v p => by
  obtain ⟨ad, us, ys, bs, rfl, h1, h2, e2, p⟩ := bSeq_ok hR v p
  rw [all_bl h2 e2] at h1
  exact ⟨ad, bs, rfl, h1, p.here hR (.bl _)⟩⟩
theorem rl_sum : RfL G E (rSum G.K) bSum := ⟨fun r H h xs vs Q hR v p => by
  obtain ⟨ad, us, ys, bs, rfl, h1, h2, e2, p⟩ := bSeq_ok hR v p
  rw [all_int h2 e2] at h1
  exact ⟨ad, bs, rfl, h1, p.here hR (.int _)⟩⟩
theorem rl_max2 : RfL G E (fun xs H Q => ∃ i j, xs = [.int i, .int j] ∧ Q (.int (if j > i then j else i)) H) bMax2 := by
  refine ⟨fun r H h xs vs Q hR v p => ?_⟩
  unfold bMax2 at p
  split at p
  · cases v with
    | cons q1 q2 => cases q2 with
      | cons q3 q4 => cases q1; cases q3; cases q4; exact ⟨_, _, rfl, p.here hR (.int _)⟩
  · exact False.elim p
theorem rl_min2 : RfL G E (fun xs H Q => ∃ i j, xs = [.int i, .int j] ∧ Q (.int (if j < i then j else i)) H) bMin2 := by
  refine ⟨fun r H h xs vs Q hR v p => ?_⟩
  unfold bMin2 at p
  split at p
  · cases v with
    | cons q1 q2 => cases q2 with
      | cons q3 q4 => cases q1; cases q3; cases q4; exact ⟨_, _, rfl, p.here hR (.int _)⟩
  · exact False.elim p

/-! ### isinstance of a built-in class -/
theorem kit_all : ∀ t ∈ [Ty.int, Ty.bool, Ty.str, Ty.tup, Ty.lst, Ty.dct, Ty.non], ∀ T ∈ [Ty.int, Ty.bool, Ty.str, Ty.tup, Ty.lst, Ty.dct], kitB t.nm T.nm = some (decide (t = T) || (decide (t = .bool) && decide (T = .int))) := by decide +kernel
theorem tyOf_tyx (hR : HR G r H h) {x : Val} {v : V} {t : Ty} (q : VR G r H x v) (e : tyOf x h = some t) : TyX G.K H v (.type t.nm) := by
  cases q with
  | non => cases e; exact .base .non
  | bl b => cases e; exact .base (.bl _)
  | int b => cases e; exact .base (.int _)
  | str b => cases e; exact .base (.str _)
  | tup hs hv =>
    cases e
    rcases hs with (hs | ⟨o, hs⟩) | ⟨o, its, n, hk, hc, _⟩
    · exact .base (.tup hs)
    · exact .fTuple hs
    · exact .kTuple hk hc
  | ref ea =>
    simp only [tyOf] at e
    split at e
    · rename_i ys eo
      cases e
      cases hR.ob _ _ _ eo ea with
      | lst hl hv => exact .base (.lst hl)
    · rename_i ys eo
      cases e
      cases hR.ob _ _ _ eo ea with
      | dct hl hv => exact .base (.dK hl)
    · rename_i ys eo
      cases e
      cases hR.ob _ _ _ eo ea with
      | dcT hl hv => exact .base (.dT hl)
    · cases e
theorem me_isi (C : XC G E X k) (T : Ty) {y : Str} (hT : T ≠ .non) (hm : X.mg "isinstance" = none) (hy : X.mg y = none) (hb : bootBuiltins y = some (.type T.nm)) (ha : ME G E X a ta ma) (hg : Gl X "isinstance" := by rfl) (hgy : Gl X y := by rfl) (hn : y ≠ "__name__" := by decide) (hdb : (y == ("__debug__" : Str)) = false := by decide)
    (he : starEach (a :: [.Name y p2]) X.env = (false, eval a X.env) :: starEach [.Name y p2] X.env := by rfl) (he2 : starEach [.Name y p2] X.env = (false, eval (.Name y p2) X.env) :: starEach [] X.env := by rfl) (hpl : (backTo pos (starEach [.Name y p2] X.env)).any (·.1) = false := by rfl) :
    ME G E X (.Call (.Name "isinstance" p) [a, .Name y p2] [] pos) (tCB (rIsi G.K) (tCons ta (tCons (tC (.ty T.nm)) tNil))) (mIsi T ma) := by
  refine ⟨?_, ⟨fun r H h s σ Q hR sR p => ha.rf.run r H h s σ _ hR sR (p.seq fun x h1 r1 H1 v s1 hR1 v1 p1 => ?_)⟩⟩
  · have pa := pa_cons ha.pe (pa_cons (pe_bltn (v := .ty T.nm) (pos := p2) hgy hy hb rfl hn hdb) pa_nil he2) he
    have := pe_callB (pos := pos) (p := p) (call_isi (X := X)) hg hm bt_isi pa (by decide) (by decide) he hpl
    rw [C.K] at this
    exact this
  · split at p1
    · rename_i bb eb
      cases et : tyOf x h1 with
      | none => rw [et] at eb; cases eb
      | some t =>
        rw [et] at eb
        cases eb
        refine ⟨v, .ty T.nm, .type t.nm, .type T.nm, _, rfl, .ty _, tyOf_tyx hR1 v1 et, kit_ty (kit_all t ?_ T ?_), p1.here hR1 (.bl _)⟩
        · cases t <;> simp
        · cases T <;> first | (simp; done) | exact absurd rfl hT
    · exact False.elim p1

/-! ### methods of lists -/
def bAppend (x : Val) (xs : List Val) (h : Heap) : Res Val := match x, xs with
  | .ref a, [y] => match h[a]? with
    | some (.lst ys) => if ys.length < lim then .ok .non (h.set a (.lst (ys ++ [y]))) else .stuck
    | _ => .stuck
  | _, _ => .stuck
def bExtend (x : Val) (xs : List Val) (h : Heap) : Res Val := match x, xs with
  | .ref a, [.ref b] => match h[a]?, h[b]? with
    | some (.lst ys), some (.lst zs) => if ys.length + zs.length ≤ lim then .ok .non (h.set a (.lst (ys ++ zs))) else .stuck
    | _, _ => .stuck
  | _, _ => .stuck
def bPop (x : Val) (xs : List Val) (h : Heap) : Res Val := match x, xs with
  | .ref a, [] => match h[a]? with
    | some (.lst ys) => match ys[ys.length - 1]? with
      | some y => .ok y (h.set a (.lst ys.dropLast))
      | none => .stuck
    | _ => .stuck
  | _, _ => .stuck
def bPopAt (x : Val) (xs : List Val) (h : Heap) : Res Val := match x, xs with
  | .ref a, [.int i] => match h[a]? with
    | some (.lst ys) => if -(2 ^ 63) ≤ i ∧ i < 2 ^ 63 then match ixN ys.length i with
        | some j => match ys[j]? with
          | some y => .ok y (h.set a (.lst (ys.eraseIdx j)))
          | none => .stuck
        | none => .stuck
      else .stuck
    | _ => .stuck
  | _, _ => .stuck
def bCount (x : Val) (xs : List Val) (h : Heap) : Res Val := match x, xs with
  | .ref a, [y] => match h[a]? with
    | some (.lst ys) => if isFlat y = true ∧ ys.all isFlat = true then .ok (.int ((ys.countP fun z => feq z y : Nat) : Int)) h else .stuck
    | _ => .stuck
  | _, _ => .stuck
def mtOf (K : PySem.W.Frag) (x : V) (H : Hp) : Prop := tyV K "list" x H
def mBM (f : Val → List Val → Heap → Res Val) (mo : En → Heap → Res Val) (ma : En → Heap → Res (List Val)) (s : En) (h : Heap) : Res Val := (mo s h).bind fun x h1 => match seqOf x h1 with
  | some _ => (ma s h1).bind fun xs h2 => f x xs h2
  | none => .stuck
def mBM0 (f : Val → List Val → Heap → Res Val) (mo : En → Heap → Res Val) (s : En) (h : Heap) : Res Val := (mo s h).bind fun x h1 => match seqOf x h1 with
  | some _ => f x [] h1
  | none => .stuck
theorem tyL_of (hR : HR G r H h) {x : Val} {v : V} {ys : List Val} (q : VR G r H x v) (e : seqOf x h = some ys) : tyV G.K "list" v H := by
  obtain ⟨ad, vs, rfl, h1, _⟩ := seqOf_sq hR q e
  exact .inl ⟨rfl, _, h1⟩
theorem rf_bm {t : V → List V → Hp → VK → Prop} {f : Val → List Val → Heap → Res Val} (hf : RfM G E t f) (ho : Rf G E to mo) (ha : RfA G E tA mA) : Rf G E (tBM G.K "list" t to tA) (mBM f mo mA) := by
  refine ⟨fun r H h s σ Q hR sR p => ho.run r H h s σ _ hR sR (p.seq fun x h1 r1 H1 v s1 hR1 v1 p1 => ?_)⟩
  split at p1
  · rename_i ys ey
    refine ⟨tyL_of hR1 v1 ey, ha.run r1 H1 h1 s σ _ hR1 (sR.mono s1) (p1.seq fun xs h2 r2 H2 vs s2 hR2 v2 p2 => ?_)⟩
    exact hf.run r2 H2 h2 x v xs vs Q hR2 (v1.mono s2) v2 p2
  · exact False.elim p1
theorem rf_bm0 {t : V → List V → Hp → VK → Prop} {f : Val → List Val → Heap → Res Val} (hf : RfM G E t f) (ho : Rf G E to mo) : Rf G E (tBM0 G.K "list" t to) (mBM0 f mo) := by
  refine ⟨fun r H h s σ Q hR sR p => ho.run r H h s σ _ hR sR (p.seq fun x h1 r1 H1 v s1 hR1 v1 p1 => ?_)⟩
  split at p1
  · rename_i ys ey
    exact ⟨tyL_of hR1 v1 ey, hf.run r1 H1 h1 x v [] [] Q hR1 v1 .nil p1⟩
  · exact False.elim p1
theorem me_bm {name : Str} {id : String} {t : V → List V → Hp → VK → Prop} {f : Val → List Val → Heap → Res Val} (C : XC G E X k) (slot : Slot "list" name id) (hty : typeOf (.builtin id) = pure (.type "method_descriptor")) (hm : MtR X id t) (hf : RfM G E t f) (ho : ME G E X o to mo) (ha : MA G E X (e :: es) tA mA)
    (hbase : attributeBase o name X.env (eval o X.env) = eval o X.env := by rfl)
    (hfew : ((backTo pos (starEach (e :: es) X.env)).all (fun x => !x.1) && (backToKw pos (keywordEach [] X.env)).all (fun x => x.1.isSome)
      && decide ((e :: es).length + ([] : List Keyword).length + (if ([] : List Keyword).isEmpty then 0 else 1) < 30)) = true := by rfl)
    (hline : (apos.endLine == pos.line) = true := by rfl) (hs : starEach (e :: es) X.env = (false, eval e X.env) :: starEach es X.env := by rfl) (hplain : (backTo pos (starEach es X.env)).any (·.1) = false := by rfl) :
    ME G E X (.Call (.Attribute o name apos) (e :: es) [] pos) (tBM G.K "list" t to tA) (mBM f mo mA) := by
  refine ⟨?_, rf_bm hf ho.rf ha.rf⟩
  have := pe_bm PySem.F.plainAttrs_list slot hty hm ho.pe ha.pe hbase hfew hline hs hplain
  rwa [C.K] at this
theorem me_bm0 {name : Str} {id : String} {t : V → List V → Hp → VK → Prop} {f : Val → List Val → Heap → Res Val} (C : XC G E X k) (slot : Slot "list" name id) (hty : typeOf (.builtin id) = pure (.type "method_descriptor")) (hm : MtR X id t) (hf : RfM G E t f) (ho : ME G E X o to mo)
    (hbase : attributeBase o name X.env (eval o X.env) = eval o X.env := by rfl) (hline : (apos.endLine == pos.line) = true := by rfl) :
    ME G E X (.Call (.Attribute o name apos) [] [] pos) (tBM0 G.K "list" t to) (mBM0 f mo) := by
  refine ⟨?_, rf_bm0 hf ho.rf⟩
  have := pe_bm0 PySem.F.plainAttrs_list slot hty hm ho.pe hbase hline
  rwa [C.K] at this
theorem set_lst (hR : HR G r H h) {n : Nat} {ad : Addr} {xs ys : List Val} {us vs : List V} {x : Val} {v : V} {Q : VK} (eo : h[n]? = some (.lst xs)) (ea : r[n]? = some ad) (hl : H ad = some (.lst us)) (hv : VRs G r H ys vs) (hx : VR G r H x v) (p : PostR G (VR G) r H E (.ok x (h.set n (.lst ys))) Q) : Q v (upd H ad (.lst vs)) := by
  have st : Stp G.K r H r (upd H ad (.lst vs)) := Stp.upd fun o e => by rw [hl] at e; cases e; trivial
  exact p r _ _ st (hR.write eo rfl ea (fun o e => by rw [hl] at e; cases e; trivial) (.lst upd_same (hv.mono st)) rfl) (hx.mono st)
theorem rm_append : RfM G E rAppend bAppend := by
  refine ⟨fun r H h x v xs vs Q hR vx vv p => ?_⟩
  unfold bAppend at p
  split at p
  · cases vx with
    | ref ea => cases vv with
      | cons q1 q2 =>
        cases q2
        split at p
        · rename_i ys eo
          split at p
          · rename_i hlen
            cases hR.ob _ _ _ eo ea with
            | lst hl hv => exact ⟨_, _, _, rfl, rfl, hl, lt_line (by rw [← hv.len]; exact hlen), set_lst hR eo ea hl (hv.app (.cons q1 .nil)) .non p⟩
          · exact False.elim p
        · exact False.elim p
  · exact False.elim p
theorem rm_extend : RfM G E rExtend bExtend := by
  refine ⟨fun r H h x v xs vs Q hR vx vv p => ?_⟩
  unfold bExtend at p
  split at p
  · cases vx with
    | ref ea => cases vv with
      | cons q1 q2 =>
        cases q2
        cases q1 with
        | ref eb =>
          split at p
          · rename_i ys zs eo eo2
            split at p
            · rename_i hlen
              cases hR.ob _ _ _ eo ea with
              | lst hl hv => cases hR.ob _ _ _ eo2 eb with
                | lst hl2 hv2 => exact ⟨_, _, _, _, rfl, rfl, hl, hl2, le_line (by rw [← hv.len, ← hv2.len]; exact hlen), set_lst hR eo ea hl (hv.app hv2) .non p⟩
            · exact False.elim p
          · exact False.elim p
  · exact False.elim p
theorem rm_pop : RfM G E rPop bPop := by
  refine ⟨fun r H h x v xs vs Q hR vx vv p => ?_⟩
  unfold bPop at p
  split at p
  · cases vx with
    | ref ea =>
      cases vv
      split at p
      · rename_i ys eo
        split at p
        · rename_i y ey
          cases hR.ob _ _ _ eo ea with
          | lst hl hv =>
            obtain ⟨u, eu, vu⟩ := hv.get ey
            rw [hv.len] at eu
            exact ⟨_, _, _, rfl, rfl, hl, eu, set_lst hR eo ea hl hv.dropLast vu p⟩
        · exact False.elim p
      · exact False.elim p
  · exact False.elim p
theorem rm_popAt : RfM G E rPopAt bPopAt := by
  refine ⟨fun r H h x v xs vs Q hR vx vv p => ?_⟩
  unfold bPopAt at p
  split at p
  · cases vx with
    | ref ea => cases vv with
      | cons q1 q2 =>
        cases q2
        cases q1
        split at p
        · rename_i ys eo
          split at p
          · rename_i hb
            split at p
            · rename_i j ej
              split at p
              · rename_i y ey
                cases hR.ob _ _ _ eo ea with
                | lst hl hv =>
                  obtain ⟨u, eu, vu⟩ := hv.get ey
                  rw [hv.len] at ej
                  exact ⟨_, _, _, j, u, rfl, rfl, hl, hb.1, hb.2, (ixN_seq ej).1, eu, set_lst hR eo ea hl (hv.eraseIdx j) vu p⟩
              · exact False.elim p
            · exact False.elim p
          · exact False.elim p
        · exact False.elim p
  · exact False.elim p
def rCntF (K : PySem.W.Frag) : V → List V → Hp → VK → Prop := fun x xs H Q => ∃ (a : Addr) (ys : List V) (y : V), x = V.ref a ∧ xs = [y] ∧ SqL K H a ys ∧ flatV y = true ∧ ys.all flatV = true ∧ Q (.int ((ys.countP fun z => eqV z y : Nat) : Int)) H
theorem countU {y : V} : ∀ {ys : List V} {us : List Value}, Vals ys us → ys.all flatV = true → us.countP (eqU y) = ys.countP fun z => eqV z y
  | _, _, .nil, _ => rfl
  | _, _, .cons a b, f => by
    rw [List.all_cons, Bool.and_eq_true] at f
    rw [List.countP_cons, List.countP_cons, eqU_of a f.1, countU b f.2]
theorem mt_countF : MtR X "list.count" (rCntF X.K) := by
  intro pins s σ H x xs v us Q I rx rxs h
  obtain ⟨a, ys, y, rfl, rfl, hs, fy, fys, q⟩ := h
  cases rx
  cases rxs with
  | cons ry rt =>
    rename_i uy ut
    cases rt
    obtain ⟨its, rv, ⟨⟨cls, dd, data, sl⟩, n, ho, hc, hdn, hd⟩, hlen⟩ := I.list hs
    simp only at hc hd
    subst hc hd
    refine call_meets PySem.F.slot_list_count ⟨_, ho, rfl⟩ PySem.F.entry_list_count (PySem.F.args_list_count_2 _ _)
      (SeqAt.list_countAt a its.toArray n dd sl uy (eqU y)) ⟨ho, fun u' hu' => mem_eqAt ry fy rv fys u' (by simpa using hu'), ?_⟩
    have ec : its.toArray.toList.countP (eqU y) = ys.countP fun z => eqV z y := countU rv fys
    refine ⟨.int ((ys.countP fun z => eqV z y : Nat) : Int), H, I.tok _, ⟨s.toks, ?_⟩, q⟩
    rw [ec]
theorem countF (ok : G.Ok) {y : Val} {u : V} (b : VR G r H y u) : ∀ {xs : List Val} {vs : List V}, VRs G r H xs vs → xs.all isFlat = true → (xs.countP fun z => feq z y) = vs.countP fun z => eqV z u
  | _, _, .nil, _ => rfl
  | _, _, .cons a c, f => by
    rw [List.all_cons, Bool.and_eq_true] at f
    rw [List.countP_cons, List.countP_cons, feq_of ok a b f.1, countF ok b c f.2]
theorem rm_count (ok : G.Ok) : RfM G E (rCntF G.K) bCount := by
  refine ⟨fun r H h x v xs vs Q hR vx vv p => ?_⟩
  unfold bCount at p
  split at p
  · cases vx with
    | ref ea => cases vv with
      | cons q1 q2 =>
        cases q2
        split at p
        · rename_i ys eo
          split at p
          · rename_i hf
            cases hR.ob _ _ _ eo ea with
            | lst hl hv =>
              refine ⟨_, _, _, rfl, rfl, SqL.of hl, flat_of q1 hf.1, all_flat hv hf.2, ?_⟩
              rw [← countF ok q1 hv hf.2]
              exact p.here hR (.int _)
          · exact False.elim p
        · exact False.elim p
  · exact False.elim p
theorem cl_count (C : XC G E X k) : MtR X "list.count" (rCntF G.K) := by have := mt_countF (X := X); rwa [C.K] at this
end
end PyM

set_option Elab.async false
set_option linter.all false
set_option maxRecDepth 100000
set_option autoImplicit false
namespace PyM
open PySem L2

/-! ### exceptions of the program's own, without arguments -/
section
variable {X : Cx} {C : Addr} {bmB : List Value} {B newId initId : String}
theorem pmk_own0 {x : Str} {p pos : Pos} (F : ExcBaseFacts B newId initId bmB) (q : PySem.W.excIn X.K C bmB newId = true) (gC : X.mg x = some (.ref C)) (kC : PySem.W.keepIn X.K (.ref C) = true) (r : Raises X (.ref C)) (hg : Gl X x)
    (hdb : (x == ("__debug__" : Str)) = false := by decide) : PMk X (.Call (.Name x p) [] [] pos) (fun _ H Q => Q (.ref C) none H) := by
  intro pins s σ H Q I h
  refine wpAny_Call_Name_kw (ld_glob I hg gC ?_ hdb)
  refine PySem.W.callWith_K0 I.kIn kC ?_
  show wpAny _ _ (call (.ref C) []) _ _ _
  obtain ⟨bm, N, nm, qn, bs, hdct, sn, sub, ab, col, dd, k0, k1, k2, k3, k5, mN, hC, hN, hni, T⟩ := exc_obj I.kIn q
  refine wpAny_call_exc_subT F T hC hN hni (fun h' e hm => ?_) (Nat.zero_le _)
  exact mk_of I hm r h (I.hok.gone hm.new)
end
def sRaise (c : Nat) (_ : En) (h : Heap) : RS := .raised c h
def sTry (c : Nat) (mb ms : En → Heap → RS) (s : En) (h : Heap) : RS := match mb s h with
  | .raised c' h' => if c' = c then ms s h' else .stuck
  | x => x
/-- a def's body, run -/
def runB (np nl : Nat) (mb : En → Heap → RS) (xs : List Val) (h : Heap) : Res Val := if xs.length = np then
    match mb (xs.map some ++ List.replicate (nl - np) none) h with
    | .nx _ h' => .ok .non h'
    | .rt v h' => .ok v h'
    | .raised c h' => .raised c h'
    | _ => .stuck
  else .stuck
section
variable {G : Cfg} {E : XK} {X : Cx} {k : Nat} {e : Expr} {pos p pos2 np : Pos} {sts : List Stmt} {t : TS} {m : En → Heap → RS} {x : Str} {C : Addr}
abbrev Tk (X : Cx) (E : XK) : Prop := Takes X (fun cls d _ H => E cls d H)
theorem ms_raise (c : Nat) (XC_ : XC G E X k) (tk : Tk X E) (hc : G.cls[c]? = some C) (hp : PMk X (.Call (.Name x p) [] [] pos) (fun _ H Q => Q (.ref C) none H)) : MS G E X (.Raise (some (.Call (.Name x p) [] [] pos)) none pos2) (fun _ _ H => E (.ref C) none H) (sRaise c) :=
  ⟨ps_raise XC_.calm tk hp, ⟨fun r H h s σ D hR sR q => q r H C Stp.refl hR hc⟩⟩
/-- what the model says, as a reading -/
def tM (G : Cfg) (E : XK) (m : En → Heap → RS) : TS := fun D σ H => ∃ r h s, HR G r H h ∧ SR G r H s σ ∧ PostS G r H E (m s h) D
theorem pss_tM (h : MSs G E X sts t m) : PSs X sts (tM G E m) := ⟨fun pins s σ H D I ⟨r, hh, s', hR, sR, p⟩ => h.pe.run pins s σ H D I (h.rf.run r H hh s' σ D hR sR p)⟩
/-- try: body / except X: return constant -/
theorem ms_try (c : Nat) {e2 : Expr} {v : V} {y : Val} (C0 : XC G E X k) (hs : X.stack = X.env :: X.outer) (hf : X.env.frame = some X.env.locals) (hm : X.mg x = some (.ref C)) (tk : Tk X E) (hc : G.cls[c]? = some C) (hx : PySem.W.exmOne G.K (.ref C) (.ref C) = some true)
    (hv : ∀ r H, VR G r H y v) (h2 : ∀ X' : Cx, PE X' e2 (tC v)) {pos3 pos4 : Pos}
    (hb : ∀ (E' : XK) (pn : List (Addr × PySem.Obj)) (xe : Value → Shared → Prop), XC G E' (X.tr pn xe) k → ∃ t, MSs G E' (X.tr pn xe) sts t m) (hg : Gl X x := by rfl) (hdb : (x == ("__debug__" : Str)) = false := by decide) :
    MS G E X (.Try sts [.ExceptHandler (some (.Name x np)) none [.Return (some e2) pos3] pos4] [] [] pos) (tM G E (sTry c m (sRet (mK y)))) (sTry c m (sRet (mK y))) := by
  refine ⟨⟨fun pins s σ H D I ⟨r, h, s', hR, sR, p⟩ => ?_⟩, ⟨fun r H h s σ D hR sR p => ⟨r, h, s, hR, sR, p⟩⟩⟩
  have key := ps_try_only (X := X) (x := x) (c := .ref C) (body := sts) (suite := []) (b₀ := .Return (some e2) pos3) (np := np) (pos := pos) (pos' := pos4) (tb := fun W => tM G (fun cls d H' => ∀ σ', W cls d σ' H') m) (ts := fun _ _ _ => tRet (tC v)) (Wout := fun cls d _ H => E cls d H) hs hf ⟨hg, hdb, .inl hm⟩ tk
      (fun W pn xe tk' own => by
        obtain ⟨t, q⟩ := hb (fun cls d H' => ∀ σ', W cls d σ' H') pn xe ⟨C0.K, C0.calm, C0.nd, C0.room, passes_call tk' (fun cls d σ H q => q σ), own⟩
        exact pss_tM q)
      (fun a oe cls d pn _ _ => pss_one (ps_ret (h2 _)))
  refine key.run pins s σ H D I ⟨r, h, s', hR, sR, ?_⟩
  unfold sTry at p
  cases q : m s' h with
  | raised c' h' =>
    rw [q] at p
    simp only at p
    split at p
    · rename_i ec
      subst ec
      intro r' H' C' st hR' hC' σ'
      rw [hc] at hC'
      cases hC'
      refine ⟨true, by rw [C0.K]; exact hx, fun _ a ha => ?_, fun q => nomatch q⟩
      exact p r' H' v st hR' (hv _ _)
    · exact False.elim p
  | nx a b => rw [q] at p; exact p
  | rt a b => rw [q] at p; exact p
  | bk a b => rw [q] at p; exact p
  | ct a b => rw [q] at p; exact p
  | stuck => rw [q] at p; exact p
end

/-! ### defs -/
theorem SR_start {G : Cfg} {r : List Addr} {H : Hp} {n : Nat} : ∀ {xs : List Val} {vs : List V}, VRs G r H xs vs → SR G r H (xs.map some ++ List.replicate n none) (vs.map some ++ List.replicate n none)
  | _, _, .nil => by
    induction n with
    | zero => exact .nil
    | succ n ih => exact .no ih
  | _, _, .cons a b => .so a (SR_start b)
section
variable {P : Program} {w : World} {mg : Str → Option Value} {base : PySem.Heap} {G : Cfg}
theorem fn_m {x qual : Str} {st : Stmt} {f : Addr} {fd : FuncData} {N ps : List Str} {k np nl : Nat} {mb : En → Heap → RS} (F : Fun G.K x qual st f fd) (S : FnScope N ps (defScope st)) (hnp : ps.length = np) (hnl : N.length = nl)
    (hb : ∀ (cdv : Value) (A : Around) (outer : List Env) (s : Shared) (H : Hp) (E : XK), XC G E (cxOf (L2.CX P w) P w G.K mg base N qual (defScope st) f cdv A outer s H E) k → Tk (cxOf (L2.CX P w) P w G.K mg base N qual (defScope st) f cdv A outer s H E) E →
      ∃ t, MSs G E (cxOf (L2.CX P w) P w G.K mg base N qual (defScope st) f cdv A outer s H E) (defBody st) t mb) : FnM G P w mg base (k + 1) f fd ps (runB np nl mb) := by
  subst hnp hnl
  refine ⟨F.okX S (fun vs H Q E h => h.1) (fun cdv A outer s H vs Q E hr h => ?_), fun xs h hl => by unfold runB; rw [if_neg hl]⟩
  obtain ⟨hl, r, h, xs, hR, vR, p⟩ := h
  have tk : Tk (cxOf (L2.CX P w) P w G.K mg base N qual (defScope st) f cdv A outer s H E) E := takes_of rfl rfl rfl rfl
  obtain ⟨t, q⟩ := hb cdv A outer s H E ⟨rfl, rfl, S.nd, hr, passes_call tk (fun _ _ _ _ h => h), passes_of rfl⟩ tk
  have z := q.rf.run r H h _ _ { nx := fun _ H' => Q .non H', rt := Q } hR (SR_start (n := N.length - ps.length) vR) ?_
  · refine ⟨t, q.pe, ?_⟩
    rw [← hl] at z
    exact z
  · unfold runB at p
    rw [if_pos (by rw [vR.len]; exact hl)] at p
    cases e : mb (List.map some xs ++ List.replicate (N.length - ps.length) none) h with
    | nx a b =>
      rw [e] at p
      exact fun r' H' t st hR' _ => p r' H' _ st hR' .non
    | rt a b => rw [e] at p; exact p
    | raised a b => rw [e] at p; exact p
    | bk a b => rw [e] at p; exact p.elim
    | ct a b => rw [e] at p; exact p.elim
    | stuck => rw [e] at p; exact p.elim
/-- a def that is never run out of its levels -/
theorem fn_none {f : Addr} {fd : FuncData} {ps : List Str} {k : Nat} : FnM G P w mg base k f fd ps (fun _ _ => .stuck) :=
  ⟨⟨fun vs H Q E h => h.1, fun A outer s H args us vs Q E _ _ _ _ ⟨_, _, _, _, _, _, p⟩ => p.elim⟩, fun _ _ _ => rfl⟩
theorem FnM.mono {f : Addr} {fd : FuncData} {ps : List Str} {j k : Nat} {m : List Val → Heap → Res Val} (F : FnM G P w mg base j f fd ps m) (h : j ≤ k) : FnM G P w mg base k f fd ps m := ⟨F.ok.mono h, F.st⟩
/-- the law's own promise -/
def spLaw (K : PySem.W.Frag) : Sp := fun vs H Q _ => ∃ (a : Addr) (ns : List Int), vs = [.ref a] ∧ ns.length ≤ 63 ∧ Only H ∧ SqL K H a (ns.map V.int) ∧ ∀ H', Q (.bl true) H'
theorem vrs_ints {r : List Addr} {H : Hp} : ∀ ns : List Int, VRs G r H (ns.map Val.int) (ns.map V.int)
  | [] => .nil
  | n :: ns => .cons (.int n) (vrs_ints ns)
theorem law_of {f : Addr} {fd : FuncData} {x : Str} {k : Nat} {m : List Val → Heap → Res Val} (F : FnM G P w mg base k f fd [x] m) (h : ∀ ns : List Int, ns.length ≤ 63 → ∃ h', m [.ref 0] [.fls (ns.map Val.int)] = .ok (.bl true) h') :
    FnOk P w G.K mg base (L2.CX P w) k f fd [x] (spLaw G.K) := by
  refine F.ok.imp fun vs H Q E ⟨a, ns, e, hl, hO, hS, q⟩ => ?_
  subst e
  obtain ⟨h', e⟩ := h ns hl
  have fl : FL G.K H a (ns.map V.int) := by
    rcases hS with (hS | hS) | hS
    · rcases hO a with z | ⟨o, xs, z⟩
      · rw [z] at hS; cases hS
      · rw [z] at hS; cases hS
    · exact .inl hS
    · exact .inr hS
  refine ⟨rfl, [a], [.fls (ns.map Val.int)], [.ref 0], ⟨rfl, fun i j b x y e1 e2 e3 e4 f1 f2 => ?_, fun n o b e1 e2 => ?_⟩, .cons (.ref rfl) .nil, ?_⟩
  · cases i with
    | zero => cases j with
      | zero => rfl
      | succ j => simp at e2
    | succ i => simp at e1
  · cases n with
    | zero =>
      simp at e1 e2
      subst e1 e2
      exact .fls fl (vrs_ints ns)
    | succ n => simp at e1
  · rw [e]
    intro r' H' b st hR v
    cases v
    exact q H'
end
end PyM

set_option Elab.async false
set_option linter.all false
set_option autoImplicit false
namespace PyM
open PySem L2
abbrev oFd : Val → Val → Heap → Res Val := oIC (fun _ j => decide (0 < j ∧ j < 1073741824)) fun i j => .int (i / j)
abbrev oMd : Val → Val → Heap → Res Val := oIC (fun _ j => decide (0 < j)) fun i j => .int (i % j)
abbrev oPw : Val → Val → Heap → Res Val := oIC cPow fun i j => .int (i ^ j.toNat)
abbrev oShl : Val → Val → Heap → Res Val := oIC cPow fun i j => .int (i * 2 ^ j.toNat)
abbrev oShr : Val → Val → Heap → Res Val := oIC (fun _ j => decide (0 ≤ j)) fun i j => .int (i / 2 ^ j.toNat)
abbrev oBa : Val → Val → Heap → Res Val := oI fun i j => .int (Builtin.bitAnd i j)
abbrev oBo : Val → Val → Heap → Res Val := oI fun i j => .int (Builtin.bitOr i j)
abbrev oBx : Val → Val → Heap → Res Val := oI fun i j => .int (Builtin.bitXor i j)
abbrev oLt : Val → Val → Heap → Res Val := oI fun i j => .bl (decide (i < j))
abbrev oLe : Val → Val → Heap → Res Val := oI fun i j => .bl (decide (i ≤ j))
abbrev oGt : Val → Val → Heap → Res Val := oI fun i j => .bl (decide (j < i))
abbrev oGe : Val → Val → Heap → Res Val := oI fun i j => .bl (decide (j ≤ i))
abbrev mChLeLe := mCh (fun i j => decide (i ≤ j)) (fun i j => decide (i ≤ j))
abbrev mChLeLt := mCh (fun i j => decide (i ≤ j)) (fun i j => decide (i < j))
theorem bt_ty_int : bootBuiltins "int" = some (.type Ty.int.nm) := by decide +kernel
theorem bt_ty_bool : bootBuiltins "bool" = some (.type Ty.bool.nm) := by decide +kernel
theorem bt_ty_str : bootBuiltins "str" = some (.type Ty.str.nm) := by decide +kernel
theorem bt_ty_tup : bootBuiltins "tuple" = some (.type Ty.tup.nm) := by decide +kernel
theorem bt_ty_lst : bootBuiltins "list" = some (.type Ty.lst.nm) := by decide +kernel
theorem bt_ty_dct : bootBuiltins "dict" = some (.type Ty.dct.nm) := by decide +kernel
/-- an error of the class at S is what «except S» names -/
theorem exm_self {K : PySem.W.Frag} {S : Addr} (h1 : PySem.W.subIn K (.ref S) (.type "BaseException") = some true) (h2 : PySem.W.isClsIn K S = true) (h3 : PySem.W.typeIn K (.ref S) = some (.type "type")) (h4 : PySem.W.subIn K (.ref S) (.ref S) = some true) :
    PySem.W.exmOne K (.ref S) (.ref S) = some true := by
  have e1 : (PySem.W.subIn K (.ref S) (.type "BaseException") == some true) = true := by rw [h1] <;> rfl
  have e2 : ((PySem.W.clsIn K S).isSome && PySem.W.typeIn K (.ref S) == some (.type "type")) = true := by
    have h2' : (PySem.W.clsIn K S).isSome = true := h2
    rw [h2', h3] <;> rfl
  show (if (PySem.W.subIn K (.ref S) (.type "BaseException") == some true) = true then (if ((PySem.W.clsIn K S).isSome && PySem.W.typeIn K (.ref S) == some (.type "type")) = true then PySem.W.subIn K (.ref S) (.ref S) else none) else none) = some true
  rw [if_pos e1, if_pos e2]
  exact h4
end PyM

set_option Elab.async false
set_option linter.all false
set_option autoImplicit false
set_option maxHeartbeats 4000000
/-! more rules: is True, is False -/
namespace PyM
open PySem L2
variable {G : Cfg} {E : XK} {X : Cx} {k : Nat} {a b c e : Expr} {ta tb tc : TE} {ma mb mc : En → Heap → Res Val} {pos : Pos} {u v w : TT} {mu mv : En → Heap → Res Bool}
def oIsB (neg : Bool) (x y : Val) (h : Heap) : Res Val := match x, y with
  | .bl a, .bl b => .ok (.bl (if neg then !decide (a = b) else decide (a = b))) h
  | .str _, .bl _ => .ok (.bl neg) h
  | _, _ => .stuck
theorem op_is_sb {X : Cx} : OpR X (compareOp .Is) (fun x y H Q => ∃ a b, x = .str a ∧ y = .bl b ∧ Q (.bl false) H) := by
  intro pins s σ H x y v u Q I rx ry h
  obtain ⟨a, b, rfl, rfl, q⟩ := h
  obtain ⟨t, rfl⟩ := rx
  cases (show u = Value.bool b from ry)
  exact wpAny_is_other rfl (fun z => by cases z) ⟨.bl false, H, I, rfl, q⟩
theorem op_isnot_sb {X : Cx} : OpR X (compareOp .IsNot) (fun x y H Q => ∃ a b, x = .str a ∧ y = .bl b ∧ Q (.bl true) H) := by
  intro pins s σ H x y v u Q I rx ry h
  obtain ⟨a, b, rfl, rfl, q⟩ := h
  obtain ⟨t, rfl⟩ := rx
  cases (show u = Value.bool b from ry)
  exact wpAny_isNot_other rfl (fun z => by cases z) ⟨.bl true, H, I, rfl, q⟩
abbrev rIsB : R2 := fun x y H Q => (∃ a b, x = V.bl a ∧ y = V.bl b ∧ Q (V.bl (decide (a = b))) H) ∨ (∃ a b, x = V.str a ∧ y = V.bl b ∧ Q (V.bl false) H)
abbrev rIsnB : R2 := fun x y H Q => (∃ a b, x = V.bl a ∧ y = V.bl b ∧ Q (V.bl (!decide (a = b))) H) ∨ (∃ a b, x = V.str a ∧ y = V.bl b ∧ Q (V.bl true) H)
theorem rf_isB : Rf2 G E rIsB (oIsB false) := by
  refine ⟨fun r H h x y v u Q hR a b p => ?_⟩
  cases a with
  | bl i => cases b with
    | bl j => exact .inl ⟨i, j, rfl, rfl, p.here hR (.bl _)⟩
    | _ => exact False.elim p
  | str hx => cases b with
    | bl j => exact .inr ⟨_, j, rfl, rfl, p.here hR (.bl _)⟩
    | _ => exact False.elim p
  | _ => exact False.elim p
theorem rf_isnB : Rf2 G E rIsnB (oIsB true) := by
  refine ⟨fun r H h x y v u Q hR a b p => ?_⟩
  cases a with
  | bl i => cases b with
    | bl j => exact .inl ⟨i, j, rfl, rfl, p.here hR (.bl _)⟩
    | _ => exact False.elim p
  | str hx => cases b with
    | bl j => exact .inr ⟨_, j, rfl, rfl, p.here hR (.bl _)⟩
    | _ => exact False.elim p
  | _ => exact False.elim p
theorem mc_isB (ha : ME G E X a ta ma) (hb : ME G E X b tb mb) : MC G E X .Is a b (tOp rIsB ta tb) (mB (oIsB false) ma mb) := ⟨pc_of (op_is_bl.or op_is_sb) ha.pe hb.pe, ha.rf.b2 hb.rf rf_isB⟩
theorem mc_isnB (ha : ME G E X a ta ma) (hb : ME G E X b tb mb) : MC G E X .IsNot a b (tOp rIsnB ta tb) (mB (oIsB true) ma mb) := ⟨pc_of (op_isnot_bl.or op_isnot_sb) ha.pe hb.pe, ha.rf.b2 hb.rf rf_isnB⟩
end PyM

set_option Elab.async false
set_option linter.all false
set_option autoImplicit false
set_option maxHeartbeats 4000000
/-! more rules: list.index -/
namespace PyM
open PySem L2
variable {G : Cfg} {E : XK} {X : Cx} {k : Nat} {r : List Addr} {H : Hp} {h : Heap}
def fix (d : D) : List D → Option Nat
  | [] => none
  | z :: ds => if deq z d = true then some 0 else (fix d ds).map (· + 1)
theorem fix_py (ok : G.Ok) {d : D} {n m : Nat} (hd : d.wf G.sts.length n = true) : ∀ {ds : List D} {j : Nat}, D.wfs G.sts.length m ds = true → fix d ds = some j →
    (∃ z, (D.pys G ds)[j]? = some z ∧ PyData.eqv z (d.py G) = true) ∧ ∀ (m : Nat) (z' : PyData), m < j → (D.pys G ds)[m]? = some z' → PyData.eqv z' (d.py G) = false
  | [], j, _, e => by cases e
  | x :: ds, j, f, e => by
    simp only [D.wfs, Bool.and_eq_true] at f
    have q := eqv_py ok x d _ _ f.1 hd
    rw [fix] at e
    split at e
    · rename_i c
      cases e
      exact ⟨⟨x.py G, by simp [D.pys], by rw [q]; exact c⟩, fun m z' hm => by omega⟩
    · rename_i c
      obtain ⟨i, ei, rfl⟩ := Option.map_eq_some_iff.mp e
      obtain ⟨⟨z, h1, h2⟩, h3⟩ := fix_py ok hd f.2 ei
      refine ⟨⟨z, by simpa [D.pys] using h1, h2⟩, fun m z' hm hz => ?_⟩
      cases m with
      | zero =>
        simp [D.pys] at hz
        subst hz
        rw [q]
        simpa using c
      | succ m => exact h3 m z' (by omega) (by simpa [D.pys] using hz)
def bIndex (x : Val) (xs : List Val) (h : Heap) : Res Val := match x, xs with
  | .ref a, [y] => match h[a]? with
    | some (.lst ys) => match conv 60 h y, optAll (conv 59 h) ys with
      | some d, some ds => match fix d ds with
        | some j => .ok (.int (j : Nat)) h
        | none => .stuck
      | _, _ => .stuck
    | _ => .stuck
  | _, _ => .stuck
theorem rm_index (ok : G.Ok) : RfM G E (rIndexD G.K) bIndex := by
  refine ⟨fun r H h x v xs vs Q hR vx vv p => ?_⟩
  unfold bIndex at p
  split at p
  · cases vx with
    | ref ea => cases vv with
      | cons q1 q2 =>
        cases q2
        split at p
        · rename_i ys eo
          split at p
          · rename_i d ds e1 e2
            split at p
            · rename_i j ej
              cases hR.ob _ _ _ eo ea with
              | lst hl hv =>
                obtain ⟨d1, w1⟩ := conv_dp hR _ _ _ _ q1 e1
                obtain ⟨d2, w2⟩ := optAll_dp (fun x v d => conv_dp hR 59 x v d) _ _ _ hv e2
                obtain ⟨⟨z, z1, z2⟩, z3⟩ := fix_py ok w1 w2 ej
                have sl : SeqAt.shaped (.list (D.pys G ds)) = true := by
                  have : (D.lst ds).wf G.sts.length 60 = true := by simpa [D.wf] using w2
                  have := shaped_py ok this (by decide)
                  simpa [D.py] using this
                exact ⟨_, _, _, _, j, z, rfl, rfl, .lst (SqL.of hl) d2, d1, sl, shaped_py ok w1 (by decide), z1, z2, z3, p.here hR (.int _)⟩
            · exact False.elim p
          · exact False.elim p
        · exact False.elim p
  · exact False.elim p
theorem cl_index (C : XC G E X k) : MtR X "list.index" (rIndexD G.K) := by
  have := mt_indexD (X := X) C.hu
  rwa [C.K] at this
/-! ### what stands written in the module: tuples, dicts with text keys -/
mutual
inductive CV (K : PySem.W.Frag) (sts : List Str) : Val → Value → Prop
  | non : CV K sts .non .none
  | int (i : Int) {t : Tok} : CV K sts (.int i) (.int i t)
  | str {n : Nat} {x : Str} {t : Tok} : sts[n]? = some x → CV K sts (.str n) (.str x t)
  | tup {xs : List Val} {a : Addr} {o : PySem.Obj} {its : Array Value} {n : Nat} : K.lookup a = some o → o.cls = .type "tuple" → o.data = .seq its n → its.size ≤ sizeLine → CVs K sts xs its.toList → CV K sts (.tup xs) (.ref a)
inductive CVs (K : PySem.W.Frag) (sts : List Str) : List Val → List Value → Prop
  | nil : CVs K sts [] []
  | cons {x : Val} {v : Value} {xs : List Val} {vs : List Value} : CV K sts x v → CVs K sts xs vs → CVs K sts (x :: xs) (v :: vs)
end
mutual
theorem CV.vr {G : Cfg} : ∀ {x : Val} {u : Value}, CV G.K G.sts x u → ∃ v, RelV v u ∧ ∀ r H, VR G r H x v
  | _, _, .non => ⟨.non, rfl, fun _ _ => .non⟩
  | _, _, .int i (t := t) => ⟨.int i, ⟨t, rfl⟩, fun _ _ => .int i⟩
  | _, _, .str e (t := t) => ⟨.str _, ⟨t, rfl⟩, fun _ _ => .str e⟩
  | _, _, .tup (a := a) h1 h2 h3 h4 h5 => by
    obtain ⟨vs, q1, q2⟩ := CVs.vrs h5
    exact ⟨.ref a, rfl, fun r H => .tup (.inr ⟨_, _, _, h1, h2, h3, h4, q1⟩) (q2 r H)⟩
theorem CVs.vrs {G : Cfg} : ∀ {xs : List Val} {us : List Value}, CVs G.K G.sts xs us → ∃ vs, Vals vs us ∧ ∀ r H, VRs G r H xs vs
  | _, _, .nil => ⟨[], .nil, fun _ _ => .nil⟩
  | _, _, .cons a b => by
    obtain ⟨v, q1, q2⟩ := CV.vr a
    obtain ⟨vs, q3, q4⟩ := CVs.vrs b
    exact ⟨v :: vs, .cons q1 q3, fun r H => .cons (q2 r H) (q4 r H)⟩
end
/-- a name of the module that holds a written value -/
def KT (K : PySem.W.Frag) (mg : Str → Option Value) (sts : List Str) (x : Str) (v : Val) : Prop := ∃ u, mg x = some u ∧ CV K sts v u
theorem me_globC {x : Str} {v : Val} {pos : Pos} (C : XC G E X k) (q : KT G.K X.mg G.sts x v) (hg : Gl X x := by rfl) (hd : (x == ("__debug__" : Str)) = false := by decide) : ME G E X (.Name x pos) (fun σ H Q => ∀ u, RelV u ((X.mg x).getD .none) → (∀ r H, VR G r H v u) → Q u H) (mK v) := by
  obtain ⟨u, hm, hc⟩ := q
  obtain ⟨w, hw, hv⟩ := hc.vr
  refine ⟨?_, ⟨fun r H h s σ Q hR sR p u _ hu => p.here hR (hu r H)⟩⟩
  have := pe_glob (pos := pos) hg hm hw hd
  refine ⟨fun pins s σ H Q I z => this.run pins s σ H Q I (z w ?_ hv)⟩
  rw [hm]; exact hw
/-- entries of a written dict -/
inductive CE (w : World) (K : PySem.W.Frag) (sts : List Str) : List (Nat × Val) → List DictEntry → Prop
  | nil : CE w K sts [] []
  | cons {i : Nat} {v : Val} {z : Str} {t : Tok} {u : Value} {hh : Int} {l es} : sts[i]? = some z → hh = PyData.keyHash w.params z → CV K sts v u → CE w K sts l es → CE w K sts ((i, v) :: l) (⟨hh, .str z t, u⟩ :: es)
structure KD (w : World) (K : PySem.W.Frag) (mg : Str → Option Value) (sts : List Str) (x : Str) (a : Addr) (es : Array DictEntry) (n : Nat) (l : List (Nat × Val)) : Prop where
  mgx : mg x = some (.ref a)
  lk : K.lookup a = some ⟨.type "dict", none, .dict es n, #[]⟩
  low : (a == sysModules) = false
  ce : CE w K sts l es.toList
def lkN (l : List (Nat × Val)) (n : Nat) : Option Val := (l.find? fun kv => kv.1 == n).map (·.2)
theorem CE.lit {w : World} {K : PySem.W.Frag} {sts : List Str} : ∀ {l : List (Nat × Val)} {es : List DictEntry}, CE w K sts l es → PySem.W.KeysLit w.params es
  | _, _, .nil => trivial
  | _, _, .cons _ a _ b => ⟨⟨_, _, rfl, a⟩, CE.lit b⟩
theorem CE.nref {w : World} {K : PySem.W.Frag} {sts : List Str} : ∀ {l : List (Nat × Val)} {es : List DictEntry}, CE w K sts l es → es.any (·.refKey) = false
  | _, _, .nil => rfl
  | _, _, .cons _ _ _ b => by rw [List.any_cons, CE.nref b]; rfl
theorem CE.find (ok : G.Ok) {w : World} {n : Nat} {z : Str} (hz : G.sts[n]? = some z) : ∀ {l : List (Nat × Val)} {es : List DictEntry}, CE w G.K G.sts l es →
    (lkN l n = none ∧ es.find? (·.key.isStr z) = none) ∨ ∃ v e, lkN l n = some v ∧ es.find? (·.key.isStr z) = some e ∧ CV G.K G.sts v e.val
  | _, _, .nil => .inl ⟨rfl, rfl⟩
  | _, _, @CE.cons _ _ _ i v z' t u hh _ _ hi _ a b => by
    unfold lkN
    rw [List.find?_cons, List.find?_cons]
    by_cases e : i = n
    · subst e
      rw [hi] at hz
      cases hz
      right
      refine ⟨v, ⟨hh, Value.str z t, u⟩, ?_, ?_, a⟩
      · simp
      · have : (Value.str z t).isStr z = true := by simp [Value.isStr]
        simp only [this]
    · have hne : z' ≠ z := fun q => e (by subst q; exact sts_inj ok hi hz)
      have h1 : (i == n) = false := beq_eq_false_iff_ne.mpr e
      have h2 : (Value.str z' t).isStr z = false := by simp [Value.isStr, hne]
      simp only [h1, h2]
      exact CE.find ok hz b
theorem KD.ns (ok : G.Ok) {w : World} {a : Addr} {es : Array DictEntry} {m n : Nat} {z : Str} {l : List (Nat × Val)} (hl : G.K.lookup a = some ⟨.type "dict", none, .dict es m, #[]⟩) (ce : CE w G.K G.sts l es.toList) (hz : G.sts[n]? = some z) :
    (lkN l n = none ∧ PySem.W.nsIn G.K a z = some none) ∨ ∃ v u, lkN l n = some v ∧ PySem.W.nsIn G.K a z = some (some u) ∧ CV G.K G.sts v u := by
  unfold PySem.W.nsIn
  rw [hl]
  rcases ce.find ok hz with ⟨e1, e2⟩ | ⟨v, e, e1, e2, e3⟩
  · left
    refine ⟨e1, ?_⟩
    simp only [e2, ce.nref]
    simp
  · right
    refine ⟨v, e.val, e1, ?_, e3⟩
    simp only [e2]
/-- in, not in a written dict -/
def kIn (neg : Bool) (l : List (Nat × Val)) (x : Val) (h : Heap) : Res Val := match x with
  | .str n => .ok (.bl (if neg then !(lkN l n).isSome else (lkN l n).isSome)) h
  | _ => .stuck
def kIx (l : List (Nat × Val)) (x : Val) (h : Heap) : Res Val := match x with
  | .str n => match lkN l n with
    | some v => .ok v h
    | none => .stuck
  | _ => .stuck
def kGet (l : List (Nat × Val)) (x y : Val) (h : Heap) : Res Val := match x with
  | .str n => .ok ((lkN l n).getD y) h
  | _ => .stuck
section
variable {a b e f : Expr} {ta tb ty tx : TE} {ma mb : En → Heap → Res Val} {pos p p2 apos cpos : Pos} {x : Str} {l : List (Nat × Val)}
variable {d : Addr} {es : Array DictEntry} {n : Nat}
abbrev rKIn (K : PySem.W.Frag) (d : Addr) : R2 := fun x y H Q => ∃ (z : Str) (r : Option Value), x = .str z ∧ y = .ref d ∧ PySem.W.nsIn K d z = some r ∧ Q (.bl r.isSome) H
abbrev rKNotIn (K : PySem.W.Frag) (d : Addr) : R2 := fun x y H Q => ∃ (z : Str) (r : Option Value), x = .str z ∧ y = .ref d ∧ PySem.W.nsIn K d z = some r ∧ Q (.bl (!r.isSome)) H
theorem KD.kd (C : XC G E X k) (q : KD X.w G.K X.mg G.sts x d es n l) : KDict X.K X.w d es n := ⟨by rw [C.K]; exact q.lk, q.ce.lit, q.low⟩
theorem KD.pe (q : KD X.w G.K X.mg G.sts x d es n l) (hg : Gl X x) (hd : (x == ("__debug__" : Str)) = false) : PE X (.Name x p) (tC (.ref d)) := pe_glob (v := .ref d) hg q.mgx rfl hd
theorem mc_kin (ok : G.Ok) (C : XC G E X k) (q : KD X.w G.K X.mg G.sts x d es n l) (ha : ME G E X a ta ma) (hg : Gl X x := by rfl) (hd : (x == ("__debug__" : Str)) = false := by decide) : MC G E X .In a (.Name x p) (tOp (rKIn X.K d) ta (tC (.ref d))) (mU (kIn false l) ma) := by
  refine ⟨pc_of (op_in_kd (q.kd C)) ha.pe (q.pe hg hd), ⟨fun r H h s σ Q hR sR pp => ha.rf.run r H h s σ _ hR sR (pp.seq fun v h1 r1 H1 u s1 hR1 v1 p1 => ?_)⟩⟩
  cases v1 with
  | @str m z hz =>
    have p1' : PostR G (VR G) r1 H1 E (.ok (.bl (lkN l m).isSome) h1) Q := p1
    rcases KD.ns ok q.lk q.ce hz with ⟨e1, e2⟩ | ⟨v, w, e1, e2, e3⟩
    · rw [e1] at p1'
      exact ⟨z, none, rfl, rfl, by rw [C.K]; exact e2, p1'.here hR1 (.bl _)⟩
    · rw [e1] at p1'
      exact ⟨z, some w, rfl, rfl, by rw [C.K]; exact e2, p1'.here hR1 (.bl _)⟩
  | _ => exact False.elim p1
theorem mc_knotin (ok : G.Ok) (C : XC G E X k) (q : KD X.w G.K X.mg G.sts x d es n l) (ha : ME G E X a ta ma) (hg : Gl X x := by rfl) (hd : (x == ("__debug__" : Str)) = false := by decide) : MC G E X .NotIn a (.Name x p) (tOp (rKNotIn X.K d) ta (tC (.ref d))) (mU (kIn true l) ma) := by
  refine ⟨pc_of (op_notIn_kd (q.kd C)) ha.pe (q.pe hg hd), ⟨fun r H h s σ Q hR sR pp => ha.rf.run r H h s σ _ hR sR (pp.seq fun v h1 r1 H1 u s1 hR1 v1 p1 => ?_)⟩⟩
  cases v1 with
  | @str m z hz =>
    have p1' : PostR G (VR G) r1 H1 E (.ok (.bl (!(lkN l m).isSome)) h1) Q := p1
    rcases KD.ns ok q.lk q.ce hz with ⟨e1, e2⟩ | ⟨v, w, e1, e2, e3⟩
    · rw [e1] at p1'
      exact ⟨z, none, rfl, rfl, by rw [C.K]; exact e2, p1'.here hR1 (.bl _)⟩
    · rw [e1] at p1'
      exact ⟨z, some w, rfl, rfl, by rw [C.K]; exact e2, p1'.here hR1 (.bl _)⟩
  | _ => exact False.elim p1
/-- D[e] -/
theorem me_kix (ok : G.Ok) (C : XC G E X k) (q : KD X.w G.K X.mg G.sts x d es n l) (hb : ME G E X b tb mb) (hg : Gl X x := by rfl) (hd : (x == ("__debug__" : Str)) = false := by decide) (hs : PlainIx b := by exact fun _ _ => rfl) :
    ME G E X (.Subscript (.Name x p) b pos) (tOp (rIxD X.K X.w) (tC (.ref d)) tb) (mU (kIx l) mb) := by
  refine ⟨pe_ix ix_kdict (q.pe hg hd) hb.pe hs, ⟨fun r H h s σ Q hR sR pp => hb.rf.run r H h s σ _ hR sR (pp.seq fun v h1 r1 H1 u s1 hR1 v1 p1 => ?_)⟩⟩
  cases v1 with
  | @str m z hz =>
    rcases KD.ns ok q.lk q.ce hz with ⟨e1, e2⟩ | ⟨v, w, e1, e2, e3⟩
    · have : PostR G (VR G) r1 H1 E .stuck Q := by
        have p1' := p1
        unfold kIx at p1'; simp only [e1] at p1'
        exact p1'
      exact this.elim
    · have p1' : PostR G (VR G) r1 H1 E (.ok v h1) Q := by
        have p1' := p1
        unfold kIx at p1'; simp only [e1] at p1'
        exact p1'
      obtain ⟨w', hw, hv⟩ := e3.vr
      exact ⟨d, z, w', rfl, rfl, ⟨es, n, w, by rw [C.K]; exact q.lk, q.ce.lit, by rw [C.K]; exact e2, hw⟩, p1'.here hR1 (hv _ _)⟩
  | _ => exact False.elim p1
/-- D.get(e, f) -/
def tKGet (K : PySem.W.Frag) (d : Addr) (ty tx : TE) : TE := fun σ H Q => ty σ H fun y H2 => tx σ H2 fun z H3 => ∃ (z' : Str) (r : Option Value) (v : V), y = .str z' ∧ PySem.W.nsIn K d z' = some r ∧ (match r with | some u => RelV v u | none => v = z) ∧ Q v H3
theorem pe_kget2 {o : Expr} (D : KDict X.K X.w d es n) (ho : PE X o (tC (.ref d))) (he : PE X e ty) (hf : PE X f tx) (m : M2 X o "get" apos e f cpos) : PE X (.Call (.Attribute o "get" apos) [e, f] [] cpos) (tKGet X.K d ty tx) := by
  refine ⟨fun pins s σ H Q I hyp => ?_⟩
  have first := ho.run pins s σ H (fun v H' => v = .ref d ∧ tKGet X.K d ty tx σ H' Q) I ⟨rfl, hyp⟩
  refine wpAny_Call_method m.base m.few m.line PySem.F.plainAttrs_dict PySem.F.slot_dict_get PySem.F.type_dict_get (thn first fun ov sA ⟨xA, HA, IA, rA, eA, qA⟩ => ?_)
  subst eA
  obtain rfl : ov = Value.ref d := rA
  have mo := PySem.W.mapOf_K (prog := X.prog) (w := X.w) IA.kIn D.at_ D.lit
  refine ⟨mo.typeIs, fun b eb => ?_, ?_⟩
  · cases eb
    obtain ⟨ob, _, _, z1, z2, _⟩ := mo
    exact ⟨ob, z1, z2.2.1⟩
  · rw [m.trees]
    refine Calls.callWith_builtin rfl (Calls.evalArgs_plain (Calls.spliced_cons (thn (he.run pins sA σ HA _ IA qA) fun yv sB ⟨y, HB, IB, rB, qB⟩ => Calls.spliced_cons (thn (hf.run pins sB σ HB _ IB qB) fun zv sC ⟨z, HC, IC, rC, zz, rr, vv, ey, en, ev, qC⟩ => Calls.spliced_nil ?_))))
    subst ey
    obtain ⟨t, rfl⟩ := rB
    have mo2 := PySem.W.mapOf_K (prog := X.prog) (w := X.w) IC.kIn D.at_ D.lit
    refine call_meetsIn PySem.F.slot_dict_get mo2.typeIs PySem.F.entry_dict_get (PySem.F.args_dict_get_3 _ _ _) (meets_dict_get_default (strKind X.prog X.w) d (strKind_is X.prog X.w zz t) D.low zv) ⟨_, mo2, ?_⟩
    rw [PySem.W.find_K D.at_ en]
    refine ⟨vv, HC, IC.tok _, ?_, qC⟩
    cases rr with
    | none =>
      have : vv = z := ev
      subst this
      exact rC
    | some u0 => exact ev
theorem me_kget (ok : G.Ok) (C : XC G E X k) (q : KD X.w G.K X.mg G.sts x d es n l) (he : ME G E X e ty ma) (hf : ME G E X f tx mb)
    (m : M2 X (.Name x p) "get" apos e f cpos := by exact ⟨rfl, rfl, rfl, rfl⟩) (hg : Gl X x := by rfl) (hd : (x == ("__debug__" : Str)) = false := by decide) :
    ME G E X (.Call (.Attribute (.Name x p) "get" apos) [e, f] [] cpos) (tKGet X.K d ty tx) (mB (kGet l) ma mb) := by
  refine ⟨pe_kget2 (q.kd C) (q.pe hg hd) he.pe hf.pe m, ⟨fun r H h s σ Q hR sR pp => ?_⟩⟩
  refine he.rf.run r H h s σ _ hR sR (pp.seq fun v h1 r1 H1 u s1 hR1 v1 p1 => ?_)
  refine hf.rf.run r1 H1 h1 s σ _ hR1 (sR.mono s1) (p1.seq fun y h2 r2 H2 w s2 hR2 v2 p2 => ?_)
  have v1' := v1.mono s2
  cases v1' with
  | @str m z hz =>
    have p2' : PostR G (VR G) r2 H2 E (.ok ((lkN l m).getD y) h2) Q := p2
    rcases KD.ns ok q.lk q.ce hz with ⟨e1, e2⟩ | ⟨v, u', e1, e2, e3⟩
    · rw [e1] at p2'
      exact ⟨z, none, w, rfl, by rw [C.K]; exact e2, rfl, p2'.here hR2 v2⟩
    · rw [e1] at p2'
      obtain ⟨w', hw, hv⟩ := e3.vr
      exact ⟨z, some u', w', rfl, by rw [C.K]; exact e2, hw, p2'.here hR2 (hv _ _)⟩
  | _ => exact False.elim p2
end
/-! ### texts: length, one sign, by a table -/
def lkS (tbl : List (Nat × List Nat)) (n : Nat) : Option (List Nat) := (tbl.find? fun kv => kv.1 == n).map (·.2)
def oIxS (tbl : List (Nat × List Nat)) (x y : Val) (h : Heap) : Res Val := match x, y with
  | .str n, .int i => match lkS tbl n with
    | some l => match L2.atI l i with
      | some c => .ok (.str c) h
      | none => .stuck
    | none => .stuck
  | _, _ => .stuck
def bLenS (tbl : List (Nat × List Nat)) (xs : List Val) (h : Heap) : Res Val := match xs with
  | [.str n] => match lkS tbl n with
    | some l => .ok (.int l.length) h
    | none => .stuck
  | _ => .stuck
def stOk (sts : List Str) (tbl : List (Nat × List Nat)) : Bool := tbl.all fun kv => match sts[kv.1]? with
  | some z => decide (z.cps.size ≤ 1000) && (z.cps.toList.map (fun c => some (⟨#[c]⟩ : Str)) == kv.2.map (fun c => sts[c]?))
  | none => false
theorem stOk_at {sts : List Str} {tbl : List (Nat × List Nat)} (o : stOk sts tbl = true) {n : Nat} {l : List Nat} (e : lkS tbl n = some l) {z : Str} (hz : sts[n]? = some z) : z.cps.size ≤ 1000 ∧ z.cps.toList.map (fun c => some (⟨#[c]⟩ : Str)) = l.map (fun c => sts[c]?) := by
  unfold lkS at e
  obtain ⟨kv, h1, rfl⟩ := Option.map_eq_some_iff.mp e
  have hm := List.mem_of_find?_eq_some h1
  have hn := List.find?_some h1
  have := List.all_eq_true.mp o kv hm
  have hn' : kv.1 = n := by simpa using hn
  rw [hn', hz] at this
  simp only [Bool.and_eq_true, decide_eq_true_eq, beq_iff_eq] at this
  exact this
theorem atI_map' {α β : Type} (f : α → β) (xs : List α) (i : Int) : L2.atI (xs.map f) i = (L2.atI xs i).map f := by
  unfold L2.atI
  rw [List.length_map]
  cases L2.ixN xs.length i with
  | none => rfl
  | some j => simp
section
variable {a b e : Expr} {ta tb : TE} {ma mb : En → Heap → Res Val} {pos p : Pos} {tbl : List (Nat × List Nat)}
theorem rf_ixS (o : stOk G.sts tbl = true) : Rf2 G E rIxS (oIxS tbl) := by
  refine ⟨fun r H h x y v u Q hR vx vy p => ?_⟩
  unfold oIxS at p
  split at p
  · rename_i nn i
    cases vx with
    | @str n z hz => cases vy with
      | int _ =>
        split at p
        · rename_i l el
          split at p
          · rename_i c ec
            obtain ⟨q1, q2⟩ := stOk_at o el hz
            have q3 := atI_map' (fun c => some (⟨#[c]⟩ : Str)) z.cps.toList i
            rw [q2, atI_map', ec] at q3
            obtain ⟨cp, e1, e2⟩ := Option.map_eq_some_iff.mp q3.symm
            exact ⟨z, i, cp, rfl, rfl, Nat.le_trans q1 (by rw [sizeLine_eq]; decide), e1, p.here hR (.str e2.symm)⟩
          · exact False.elim p
        · exact False.elim p
  · exact False.elim p
theorem me_ixS (o : stOk G.sts tbl = true) (ha : ME G E X a ta ma) (hb : ME G E X b tb mb) (hs : PlainIx b := by exact fun _ _ => rfl) : ME G E X (.Subscript a b pos) (tOp rIxS ta tb) (mB (oIxS tbl) ma mb) :=
  ⟨pe_ix ix_str ha.pe hb.pe hs, ha.rf.b2 hb.rf (rf_ixS o)⟩
theorem rl_lenS (o : stOk G.sts tbl = true) : RfL G E (rLenA G.K) (bLenS tbl) := by
  refine ⟨fun r H h xs vs Q hR v p => ?_⟩
  unfold bLenS at p
  split at p
  · cases v with
    | cons q1 q2 =>
      cases q1
      cases q2
      rename_i n z hz
      split at p
      · rename_i l el
        obtain ⟨q1, q2⟩ := stOk_at o el hz
        have ql := congrArg List.length q2
        simp only [List.length_map, Array.length_toList] at ql
        refine .inl ⟨_, z.length, rfl, ⟨Nat.le_trans q1 (by rw [sizeLine_eq]; decide), rfl⟩, ?_⟩
        have e : z.length = l.length := ql
        rw [e]
        exact p.here hR (.int _)
      · exact False.elim p
  · exact False.elim p
end
/-! ### a, b = x, y and a, b, c = x, y, z -/
def sPar2 (i j : Nat) (mA : En → Heap → Res (List Val)) (s : En) (h : Heap) : RS := (mA s h).thenS fun xs h1 => match xs with
  | [x, y] => .nx ((s.set i (some x)).set j (some y)) h1
  | _ => .stuck
def sPar3 (i j l : Nat) (mA : En → Heap → Res (List Val)) (s : En) (h : Heap) : RS := (mA s h).thenS fun xs h1 => match xs with
  | [x, y, z] => .nx (((s.set i (some x)).set j (some y)).set l (some z)) h1
  | _ => .stuck
section
variable {a b c : Expr} {tA : TA} {mA : En → Heap → Res (List Val)} {px py pz pt pos : Pos} {kt k2 pt2} {x y z : Str}
theorem ms_par2 (i j : Nat) (C : XC G E X k) (hi : X.N[i]? = some x) (hj : X.N[j]? = some y) (hij : i ≠ j) (hx : X.env.scope.names.lookup x = some .local) (hy : X.env.scope.names.lookup y = some .local) (ha : MA G E X [a, b] tA mA)
    (hw : swappedStores [.Tuple [.Name x px, .Name y py] kt pt] (.Tuple [a, b] k2 pt2) X.env = pure (some [x, y]))
    (hs : swapsWithSole [.Tuple [.Name x px, .Name y py] kt pt] (.Tuple [a, b] k2 pt2) pos.line X.env = pure false := by rfl) :
    MS G E X (.Assign [.Tuple [.Name x px, .Name y py] kt pt] (.Tuple [a, b] k2 pt2) pos) (tPar i j tA) (sPar2 i j mA) := by
  refine ⟨ps_par C.calm C.nd hi hj hij hx hy ha.pe hw hs, ⟨fun r H h s σ D hR sR p => ?_⟩⟩
  refine ha.rf.run r H h s σ _ hR sR (p.seqS fun xs h1 r1 H1 vs s1 hR1 v1 p1 => ?_)
  split at p1
  · rename_i u w
    cases v1 with
    | cons q1 q2 => cases q2 with
      | cons q3 q4 =>
        cases q4
        exact ⟨_, _, rfl, p1.here hR1 (((sR.mono s1).set q1 i).set q3 j)⟩
  · exact False.elim p1
theorem ms_par3 (i j l : Nat) (C : XC G E X k) (hi : X.N[i]? = some x) (hj : X.N[j]? = some y) (hl : X.N[l]? = some z) (hij : i ≠ j) (hil : i ≠ l) (hjl : j ≠ l) (hx : X.env.scope.names.lookup x = some .local) (hy : X.env.scope.names.lookup y = some .local) (hz : X.env.scope.names.lookup z = some .local) (ha : MA G E X [a, b, c] tA mA)
    (hw : swappedStores [.Tuple [.Name x px, .Name y py, .Name z pz] kt pt] (.Tuple [a, b, c] k2 pt2) X.env = pure (some [x, y, z]))
    (hs : swapsWithSole [.Tuple [.Name x px, .Name y py, .Name z pz] kt pt] (.Tuple [a, b, c] k2 pt2) pos.line X.env = pure false := by rfl) :
    MS G E X (.Assign [.Tuple [.Name x px, .Name y py, .Name z pz] kt pt] (.Tuple [a, b, c] k2 pt2) pos) (tPar3 i j l tA) (sPar3 i j l mA) := by
  refine ⟨ps_par3 C.calm C.nd hi hj hl hij hil hjl hx hy hz ha.pe hw hs, ⟨fun r H h s σ D hR sR p => ?_⟩⟩
  refine ha.rf.run r H h s σ _ hR sR (p.seqS fun xs h1 r1 H1 vs s1 hR1 v1 p1 => ?_)
  split at p1
  · rename_i u w w'
    cases v1 with
    | cons q1 q2 => cases q2 with
      | cons q3 q4 => cases q4 with
        | cons q5 q6 =>
          cases q6
          exact ⟨_, _, _, rfl, p1.here hR1 ((((sR.mono s1).set q1 i).set q3 j).set q5 l)⟩
  · exact False.elim p1
end
end PyM

set_option Elab.async false
set_option linter.all false
set_option autoImplicit false
set_option maxHeartbeats 4000000
/-! dicts: get, pop; keys that are tuples, written where they are used; list.remove -/
namespace PyM
open PySem L2 L2.DX
variable {G : Cfg} {E : XK} {X : Cx} {k : Nat} {r r' : List Addr} {H H' : Hp} {h : Heap}
theorem KRs.eq (ok : G.Ok) : ∀ {ks ks' : List Val} {qs qs' : List Key}, KRs G ks qs → KRs G ks' qs' → decide (ks = ks') = decide (qs = qs')
  | _, _, _, _, .nil, .nil => rfl
  | _, _, _, _, .nil, .cons _ _ => by simp
  | _, _, _, _, .cons _ _, .nil => by simp
  | _, _, _, _, .cons a b, .cons c d => by
    have e1 := KR.eq ok a c
    have e2 := KRs.eq ok b d
    simp only [decide_eq_decide] at e1 e2
    simp only [List.cons.injEq, decide_eq_decide]
    rw [e1, e2]
theorem KRs.of : ∀ {ks : List Val} {vs : List V}, VRs G r H ks vs → ks.all isKey = true → ∃ qs, KRs G ks qs ∧ vs = qs.map kV
  | _, _, .nil, _ => ⟨[], .nil, rfl⟩
  | _, _, .cons a b, hk => by
    rw [List.all_cons, Bool.and_eq_true] at hk
    obtain ⟨q, q1, rfl⟩ := KR.of a hk.1
    obtain ⟨qs, q2, rfl⟩ := KRs.of b hk.2
    exact ⟨q :: qs, .cons q1 q2, rfl⟩
theorem DTR.len {d e} (a : DTR G r H d e) : d.length = e.length := by
  induction a with
  | nil => rfl
  | cons _ _ _ ih => simp [ih]
theorem DTR.keq (ok : G.Ok) {ks ks' : List Val} {qs qs' : List Key} (a : KRs G ks qs) (b : KRs G ks' qs') : (Val.tup ks = Val.tup ks') ↔ qs = qs' := by
  have := KRs.eq ok a b
  simp only [decide_eq_decide] at this
  rw [← this]
  exact ⟨fun e => by injection e, fun e => by rw [e]⟩
theorem DTR.look (ok : G.Ok) {d e} (a : DTR G r H d e) {ks : List Val} {qs : List Key} (b : KRs G ks qs) : (lookV d (.tup ks) = none ∧ valV e qs = none) ∨ ∃ x v, lookV d (.tup ks) = some x ∧ valV e qs = some v ∧ VR G r H x v := by
  induction a with
  | nil => exact .inl ⟨rfl, rfl⟩
  | @cons ks' x qs' v d e hk hv _ ih =>
    have e1 := DTR.keq ok hk b
    by_cases hh : qs' = qs
    · have h2 := e1.mpr hh
      exact .inr ⟨x, v, by simp [lookV, h2], by simp [valV, hh], hv⟩
    · have h2 : ¬ Val.tup ks' = Val.tup ks := fun q => hh (e1.mp q)
      have l1 : lookV ((Val.tup ks', x) :: d) (.tup ks) = lookV d (.tup ks) := by simp only [lookV, List.find?_cons, h2, decide_false]
      have l2 : valV ((qs', v) :: e) qs = valV e qs := by simp only [valV, List.find?_cons, hh, decide_false]
      rw [l1, l2]
      exact ih
theorem DTR.any (ok : G.Ok) {d e} (a : DTR G r H d e) {ks : List Val} {qs : List Key} (b : KRs G ks qs) : (d.any fun kv => decide (kv.1 = .tup ks)) = (e.any fun kv => decide (kv.1 = qs)) := by
  induction a with
  | nil => rfl
  | cons hk _ _ ih =>
    rw [List.any_cons, List.any_cons, ih]
    congr 1
    exact decide_eq_decide.mpr (DTR.keq ok hk b)
theorem DTR.app {d e d' e'} (a : DTR G r H d e) (b : DTR G r H d' e') : DTR G r H (d ++ d') (e ++ e') := by
  induction a with
  | nil => exact b
  | cons hk hv _ ih => exact .cons hk hv ih
theorem DTR.upd (ok : G.Ok) {d e} (a : DTR G r H d e) {ks : List Val} {x : Val} {qs : List Key} {v : V} (b : KRs G ks qs) (c : VR G r H x v) : DTR G r H (d.map (fun kv => if kv.1 = .tup ks then (kv.1, x) else kv)) (e.map (fun kv => if kv.1 = qs then (kv.1, v) else kv)) := by
  induction a with
  | nil => exact .nil
  | @cons ks' x' qs' v' d e hk hv _ ih =>
    have e1 := DTR.keq ok hk b
    rw [List.map_cons, List.map_cons]
    by_cases hh : qs' = qs
    · rw [if_pos (e1.mpr hh), if_pos hh]
      exact .cons hk c ih
    · rw [if_neg (fun q => hh (e1.mp q)), if_neg hh]
      exact .cons hk hv ih
theorem DTR.put (ok : G.Ok) {d e} (a : DTR G r H d e) {ks : List Val} {x : Val} {qs : List Key} {v : V} (b : KRs G ks qs) (c : VR G r H x v) : DTR G r H (putV d (.tup ks) x) (putK e qs v) := by
  unfold putV putK
  rw [a.any ok b]
  by_cases hh : (e.any fun kv => decide (kv.1 = qs)) = true
  · rw [if_pos hh, if_pos hh]
    exact a.upd ok b c
  · rw [if_neg hh, if_neg hh]
    exact a.app (.cons b c .nil)
theorem DTR.drop (ok : G.Ok) {d e} (a : DTR G r H d e) {ks : List Val} {qs : List Key} (b : KRs G ks qs) : DTR G r H (dropV d (.tup ks)) (dropK e qs) := by
  unfold dropV dropK
  induction a with
  | nil => exact .nil
  | @cons ks' x' qs' v' d e hk hv _ ih =>
    have e1 := DTR.keq ok hk b
    by_cases hh : qs' = qs
    · rw [List.filter_cons_of_neg (by simp [e1.mpr hh]), List.filter_cons_of_neg (by simp [hh])]
      exact ih
    · have h2 : ¬ Val.tup ks' = Val.tup ks := fun q => hh (e1.mp q)
      rw [List.filter_cons_of_pos (by simpa using h2), List.filter_cons_of_pos (by simpa using hh)]
      exact .cons hk hv ih
/-- a dict of an instance is written -/
theorem set_dct (hR : HR G r H h) {n : Nat} {ad : Addr} {d d' : List (Val × Val)} {e e' : List (Key × V)} {x : Val} {v : V} {Q : VK} (eo : h[n]? = some (.dct d)) (ea : r[n]? = some ad) (hl : H ad = some (.dK e)) (hv : DR G r H d' e') (hx : VR G r H x v) (p : PostR G (VR G) r H E (.ok x (h.set n (.dct d'))) Q) : Q v (upd H ad (.dK e')) := by
  have st : Stp G.K r H r (upd H ad (.dK e')) := Stp.upd fun o e => by rw [hl] at e; cases e; trivial
  exact p r _ _ st (hR.write eo rfl ea (fun o e => by rw [hl] at e; cases e; trivial) (.dct upd_same (hv.mono st)) rfl) (hx.mono st)
theorem set_dcT (hR : HR G r H h) {n : Nat} {ad : Addr} {d d' : List (Val × Val)} {e e' : List (List Key × V)} {x : Val} {v : V} {Q : VK} (eo : h[n]? = some (.dcT d)) (ea : r[n]? = some ad) (hl : H ad = some (.dT e)) (hv : DTR G r H d' e') (hx : VR G r H x v) (p : PostR G (VR G) r H E (.ok x (h.set n (.dcT d'))) Q) : Q v (upd H ad (.dT e')) := by
  have st : Stp G.K r H r (upd H ad (.dT e')) := Stp.upd fun o e => by rw [hl] at e; cases e; trivial
  exact p r _ _ st (hR.write eo rfl ea (fun o e => by rw [hl] at e; cases e; trivial) (.dcT upd_same (hv.mono st)) rfl) (hx.mono st)

/-! ### d.get, d.pop with int and text keys -/
def isD (x : Val) (h : Heap) : Bool := match x with
  | .ref a => match h[a]? with
    | some (.dct _) => true
    | some (.dcT _) => true
    | _ => false
  | _ => false
theorem isD_of (hR : HR G r H h) {x : Val} {v : V} (q : VR G r H x v) (e : isD x h = true) : ∃ a, v = .ref a ∧ IsD H a := by
  cases q with
  | ref ea =>
    simp only [isD] at e
    split at e
    · rename_i d eo
      cases hR.ob _ _ _ eo ea with
      | dct hl hv => exact ⟨_, rfl, .inl ⟨_, .inl hl⟩⟩
    · rename_i d eo
      cases hR.ob _ _ _ eo ea with
      | dcT hl hv => exact ⟨_, rfl, .inr ⟨_, .inl hl⟩⟩
    · cases e
  | _ => simp [isD] at e
def dGet (o y z : Val) (h : Heap) : Res Val := match o with
  | .ref a => match h[a]? with
    | some (.dct d) => if isKey y = true then .ok ((lookV d y).getD z) h else .stuck
    | _ => .stuck
  | _ => .stuck
def dPop1 (o y : Val) (h : Heap) : Res Val := match o with
  | .ref a => match h[a]? with
    | some (.dct d) => if isKey y = true then match lookV d y with
        | some x => .ok x (h.set a (.dct (dropV d y)))
        | none => .stuck
      else .stuck
    | _ => .stuck
  | _ => .stuck
def dPop2 (o y z : Val) (h : Heap) : Res Val := match o with
  | .ref a => match h[a]? with
    | some (.dct d) => if isKey y = true then match lookV d y with
        | some x => .ok x (h.set a (.dct (dropV d y)))
        | none => .ok z h
      else .stuck
    | _ => .stuck
  | _ => .stuck
def mGet1 (mo my : En → Heap → Res Val) (s : En) (h : Heap) : Res Val := (mo s h).bind fun o h1 => if isD o h1 = true then (my s h1).bind fun y h2 => dGet o y .non h2 else .stuck
def mGet2 (mo my mz : En → Heap → Res Val) (s : En) (h : Heap) : Res Val := (mo s h).bind fun o h1 => if isD o h1 = true then (my s h1).bind fun y h2 => (mz s h2).bind fun z h3 => dGet o y z h3 else .stuck
def mPop1 (mo my : En → Heap → Res Val) (s : En) (h : Heap) : Res Val := (mo s h).bind fun o h1 => if isD o h1 = true then (my s h1).bind fun y h2 => dPop1 o y h2 else .stuck
def mPop2 (mo my mz : En → Heap → Res Val) (s : En) (h : Heap) : Res Val := (mo s h).bind fun o h1 => if isD o h1 = true then (my s h1).bind fun y h2 => (mz s h2).bind fun z h3 => dPop2 o y z h3 else .stuck
theorem dGet_of (ok : G.Ok) (hR : HR G r H h) {o y z : Val} {v w u : V} {Q : VK} (vo : VR G r H o v) (vy : VR G r H y w) (vz : VR G r H z u) (p : PostR G (VR G) r H E (dGet o y z h) Q) : ∃ a oo, v = .ref a ∧ DGet H a w oo ∧ Q (oo.getD u) H := by
  unfold dGet at p
  split at p
  · cases vo with
    | ref ea =>
      split at p
      · rename_i d eo
        split at p
        · rename_i hk
          cases hR.ob _ _ _ eo ea with
          | dct hl hv =>
            obtain ⟨q, kq, rfl⟩ := KR.of vy hk
            rcases hv.look ok kq with ⟨e1, e2⟩ | ⟨x', v', e1, e2, v2⟩
            · rw [e1] at p
              exact ⟨_, none, rfl, by rw [← e2]; exact DGet.k hl, p.here hR vz⟩
            · rw [e1] at p
              exact ⟨_, some v', rfl, by rw [← e2]; exact DGet.k hl, p.here hR v2⟩
        · exact False.elim p
      · exact False.elim p
  · exact False.elim p
section
variable {o e f : Expr} {td ty tx : TE} {mo my mz : En → Heap → Res Val} {apos cpos : Pos}
theorem me_get1 (ok : G.Ok) (C : XC G E X k) (ho : ME G E X o td mo) (he : ME G E X e ty my) (m : M1 X o "get" apos e cpos := by exact ⟨rfl, rfl, rfl, rfl⟩) : ME G E X (.Call (.Attribute o "get" apos) [e] [] cpos) (tDGet1 td ty) (mGet1 mo my) := by
  refine ⟨pe_dget1 (by have := C.hu; omega) ho.pe he.pe m, ⟨fun r H h s σ Q hR sR p => ho.rf.run r H h s σ _ hR sR (p.seq fun x h1 r1 H1 v s1 hR1 v1 p1 => ?_)⟩⟩
  split at p1
  · rename_i hd
    obtain ⟨a, rfl, id⟩ := isD_of hR1 v1 hd
    refine ⟨a, rfl, id, he.rf.run r1 H1 h1 s σ _ hR1 (sR.mono s1) (p1.seq fun y h2 r2 H2 w s2 hR2 v2 p2 => ?_)⟩
    obtain ⟨a', oo, ea, g, q⟩ := dGet_of ok hR2 (v1.mono s2) v2 .non p2
    cases ea
    exact ⟨oo, g, q⟩
  · exact False.elim p1
theorem me_get2 (ok : G.Ok) (C : XC G E X k) (ho : ME G E X o td mo) (he : ME G E X e ty my) (hf : ME G E X f tx mz) (m : M2 X o "get" apos e f cpos := by exact ⟨rfl, rfl, rfl, rfl⟩) : ME G E X (.Call (.Attribute o "get" apos) [e, f] [] cpos) (tDGet2 td ty tx) (mGet2 mo my mz) := by
  refine ⟨pe_dget2 (by have := C.hu; omega) ho.pe he.pe hf.pe m, ⟨fun r H h s σ Q hR sR p => ho.rf.run r H h s σ _ hR sR (p.seq fun x h1 r1 H1 v s1 hR1 v1 p1 => ?_)⟩⟩
  split at p1
  · rename_i hd
    obtain ⟨a, rfl, id⟩ := isD_of hR1 v1 hd
    refine ⟨a, rfl, id, he.rf.run r1 H1 h1 s σ _ hR1 (sR.mono s1) (p1.seq fun y h2 r2 H2 w s2 hR2 v2 p2 => ?_)⟩
    refine hf.rf.run r2 H2 h2 s σ _ hR2 ((sR.mono s1).mono s2) (p2.seq fun z h3 r3 H3 u s3 hR3 v3 p3 => ?_)
    obtain ⟨a', oo, ea, g, q⟩ := dGet_of ok hR3 ((v1.mono s2).mono s3) (v2.mono s3) v3 p3
    cases ea
    exact ⟨oo, g, q⟩
  · exact False.elim p1
theorem me_pop1 (ok : G.Ok) (ho : ME G E X o td mo) (he : ME G E X e ty my) (m : M1 X o "pop" apos e cpos := by exact ⟨rfl, rfl, rfl, rfl⟩) : ME G E X (.Call (.Attribute o "pop" apos) [e] [] cpos) (tDPop1 td ty) (mPop1 mo my) := by
  refine ⟨pe_dpop1 ho.pe he.pe m, ⟨fun r H h s σ Q hR sR p => ho.rf.run r H h s σ _ hR sR (p.seq fun x h1 r1 H1 v s1 hR1 v1 p1 => ?_)⟩⟩
  split at p1
  · rename_i hd
    obtain ⟨a, rfl, id⟩ := isD_of hR1 v1 hd
    refine ⟨a, rfl, id, he.rf.run r1 H1 h1 s σ _ hR1 (sR.mono s1) (p1.seq fun y h2 r2 H2 w s2 hR2 v2 p2 => ?_)⟩
    have vo := v1.mono s2
    unfold dPop1 at p2
    split at p2
    · cases vo with
      | ref ea =>
        split at p2
        · rename_i d eo
          split at p2
          · rename_i hk
            cases hR2.ob _ _ _ eo ea with
            | dct hl hv =>
              obtain ⟨q, kq, rfl⟩ := KR.of v2 hk
              rcases hv.look ok kq with ⟨e1, e2⟩ | ⟨x', v', e1, e2, v3⟩
              · rw [e1] at p2; exact False.elim p2
              · rw [e1] at p2
                exact ⟨_, q, v', hl, rfl, e2, set_dct hR2 eo ea hl (hv.drop ok kq) v3 p2⟩
          · exact False.elim p2
        · exact False.elim p2
    · exact False.elim p2
  · exact False.elim p1
theorem me_pop2 (ok : G.Ok) (ho : ME G E X o td mo) (he : ME G E X e ty my) (hf : ME G E X f tx mz) (m : M2 X o "pop" apos e f cpos := by exact ⟨rfl, rfl, rfl, rfl⟩) : ME G E X (.Call (.Attribute o "pop" apos) [e, f] [] cpos) (tDPop2 td ty tx) (mPop2 mo my mz) := by
  refine ⟨pe_dpop2 ho.pe he.pe hf.pe m, ⟨fun r H h s σ Q hR sR p => ho.rf.run r H h s σ _ hR sR (p.seq fun x h1 r1 H1 v s1 hR1 v1 p1 => ?_)⟩⟩
  split at p1
  · rename_i hd
    obtain ⟨a, rfl, id⟩ := isD_of hR1 v1 hd
    refine ⟨a, rfl, id, he.rf.run r1 H1 h1 s σ _ hR1 (sR.mono s1) (p1.seq fun y h2 r2 H2 w s2 hR2 v2 p2 => ?_)⟩
    refine hf.rf.run r2 H2 h2 s σ _ hR2 ((sR.mono s1).mono s2) (p2.seq fun z h3 r3 H3 u s3 hR3 v3 p3 => ?_)
    have vo := (v1.mono s2).mono s3
    have vy := v2.mono s3
    unfold dPop2 at p3
    split at p3
    · cases vo with
      | ref ea =>
        split at p3
        · rename_i d eo
          split at p3
          · rename_i hk
            cases hR3.ob _ _ _ eo ea with
            | dct hl hv =>
              obtain ⟨q, kq, rfl⟩ := KR.of vy hk
              rcases hv.look ok kq with ⟨e1, e2⟩ | ⟨x', v', e1, e2, v4⟩
              · rw [e1] at p3
                exact ⟨_, q, hl, rfl, (fun v' e' => by rw [e2] at e'; cases e'), (fun _ => p3.here hR3 v3)⟩
              · rw [e1] at p3
                exact ⟨_, q, hl, rfl, (fun v'' e' => by rw [e2] at e'; cases e'; exact set_dct hR3 eo ea hl (hv.drop ok kq) v4 p3), (fun e' => by rw [e2] at e'; cases e')⟩
          · exact False.elim p3
        · exact False.elim p3
    · exact False.elim p3
  · exact False.elim p1
end

/-! ### keys that are tuples, written where they are used -/
def mDctT (_ : En) (h : Heap) : Res Val := .ok (.ref h.length) (h ++ [.dcT []])
theorem me_dictT {pos : Pos} : ME G E X (.Dict [] [] pos) tDNewT mDctT := by
  refine ⟨pe_dnewT, ⟨fun r H h s σ Q hR sR p q hq => ?_⟩⟩
  refine p (r ++ [q]) _ _ (Stp.new hq) (hR.push hq (.dcT upd_same .nil)) (.ref ?_)
  rw [← hR.len]
  simp
def keysOk (ks : List Val) : Bool := ks.all isKey && decide (ks.length ≤ 1000)
def tLook (o : Val) (ks : List Val) (h : Heap) : Option (Option Val) := match o with
  | .ref a => match h[a]? with
    | some (.dcT d) => if keysOk ks = true then some (lookV d (.tup ks)) else none
    | _ => none
  | _ => none
def tIx (o : Val) (ks : List Val) (h : Heap) : Res Val := match tLook o ks h with
  | some (some v) => .ok v h
  | _ => .stuck
def tIn (neg : Bool) (ks : List Val) (o : Val) (h : Heap) : Res Val := match tLook o ks h with
  | some v => .ok (.bl (if neg then !v.isSome else v.isSome)) h
  | none => .stuck
def tGet (o : Val) (ks : List Val) (z : Val) (h : Heap) : Res Val := match tLook o ks h with
  | some v => .ok (v.getD z) h
  | none => .stuck
def tDrop (o : Val) (ks : List Val) (h : Heap) : Heap := match o with
  | .ref a => match h[a]? with
    | some (.dcT d) => h.set a (.dcT (dropV d (.tup ks)))
    | _ => h
  | _ => h
def tPop1 (o : Val) (ks : List Val) (h : Heap) : Res Val := match tLook o ks h with
  | some (some v) => .ok v (tDrop o ks h)
  | _ => .stuck
def tPop2 (o : Val) (ks : List Val) (z : Val) (h : Heap) : Res Val := match tLook o ks h with
  | some (some v) => .ok v (tDrop o ks h)
  | some none => .ok z h
  | none => .stuck
def tSet (o : Val) (ks : List Val) (v : Val) (h : Heap) : Res Unit := match o with
  | .ref a => match h[a]? with
    | some (.dcT d) => if keysOk ks = true ∧ d.length < lim then .ok () (h.set a (.dcT (putV d (.tup ks) v))) else .stuck
    | _ => .stuck
  | _ => .stuck
def mIxT (mo : En → Heap → Res Val) (mk : En → Heap → Res (List Val)) (s : En) (h : Heap) : Res Val := (mo s h).bind fun o h1 => (mk s h1).bind fun ks h2 => tIx o ks h2
def mInT (neg : Bool) (mk : En → Heap → Res (List Val)) (mo : En → Heap → Res Val) (s : En) (h : Heap) : Res Val := (mk s h).bind fun ks h1 => if ks.length ≤ 1000 then (mo s h1).bind fun o h2 => tIn neg ks o h2 else .stuck
def mGetT1 (mo : En → Heap → Res Val) (mk : En → Heap → Res (List Val)) (s : En) (h : Heap) : Res Val := (mo s h).bind fun o h1 => if isD o h1 = true then (mk s h1).bind fun ks h2 => tGet o ks .non h2 else .stuck
def mGetT2 (mo : En → Heap → Res Val) (mk : En → Heap → Res (List Val)) (mz : En → Heap → Res Val) (s : En) (h : Heap) : Res Val := (mo s h).bind fun o h1 => if isD o h1 = true then (mk s h1).bind fun ks h2 => if ks.length ≤ 1000 then (mz s h2).bind fun z h3 => tGet o ks z h3 else .stuck else .stuck
def mPopT1 (mo : En → Heap → Res Val) (mk : En → Heap → Res (List Val)) (s : En) (h : Heap) : Res Val := (mo s h).bind fun o h1 => if isD o h1 = true then (mk s h1).bind fun ks h2 => tPop1 o ks h2 else .stuck
def mPopT2 (mo : En → Heap → Res Val) (mk : En → Heap → Res (List Val)) (mz : En → Heap → Res Val) (s : En) (h : Heap) : Res Val := (mo s h).bind fun o h1 => if isD o h1 = true then (mk s h1).bind fun ks h2 => if ks.length ≤ 1000 then (mz s h2).bind fun z h3 => tPop2 o ks z h3 else .stuck else .stuck
def sSubT (mo : En → Heap → Res Val) (mk : En → Heap → Res (List Val)) (me : En → Heap → Res Val) (s : En) (h : Heap) : RS := (me s h).thenS fun v h1 => (mo s h1).thenS fun o h2 => (mk s h2).thenS fun ks h3 => (tSet o ks v h3).thenS fun _ h4 => .nx s h4

/-- the tuple is laid -/
theorem lay_tup (hR : HR G r H h) {xs : List Val} {vs : List V} {p : Addr} (hp : H p = none) : HR G r (upd H p (.tup vs)) h ∧ Stp G.K r H r (upd H p (.tup vs)) := ⟨hR.lay hp, Stp.new0 hp⟩
theorem tLook_of (ok : G.Ok) (hR : HR G r H h) {o : Val} {ks : List Val} {v : V} {vs : List V} {z : Option Val} (vo : VR G r H o v) (vk : VRs G r H ks vs) (e : tLook o ks h = some z) {p : Addr} (hp : H p = some (.tup vs)) :
    ∃ n a d e qs, o = .ref n ∧ h[n]? = some (.dcT d) ∧ r[n]? = some a ∧ v = .ref a ∧ H a = some (.dT e) ∧ DTR G r H d e ∧ KRs G ks qs ∧ vs = qs.map kV ∧ DGet H a (.ref p) (valV e qs) ∧
      ((z = none ∧ lookV d (.tup ks) = none ∧ valV e qs = none) ∨ ∃ x w, z = some x ∧ lookV d (.tup ks) = some x ∧ valV e qs = some w ∧ VR G r H x w) := by
  unfold tLook at e
  split at e
  · cases vo with
    | ref ea =>
      split at e
      · rename_i d eo
        split at e
        · rename_i hk
          cases e
          simp only [keysOk, Bool.and_eq_true] at hk
          cases hR.ob _ _ _ eo ea with
          | dcT hl hv =>
            obtain ⟨qs, kq, rfl⟩ := KRs.of vk hk.1
            refine ⟨_, _, _, _, qs, rfl, eo, ea, rfl, hl, hv, kq, rfl, DGet.t hl hp, ?_⟩
            rcases hv.look ok kq with ⟨e1, e2⟩ | ⟨x', v', e1, e2, v2⟩
            · exact .inl ⟨e1, e1, e2⟩
            · exact .inr ⟨x', v', e1, e1, e2, v2⟩
        · cases e
      · cases e
  · cases e
theorem tLook_len {o : Val} {ks : List Val} {z : Option Val} (e : tLook o ks h = some z) : ks.length ≤ 1000 := by
  unfold tLook at e
  split at e
  · split at e
    · split at e
      · rename_i hk
        simp only [keysOk, Bool.and_eq_true, decide_eq_true_eq] at hk
        exact hk.2
      · cases e
    · cases e
  · cases e
theorem len1000 {n : Nat} (h : n ≤ 1000) : n ≤ sizeLine := le_line (Nat.le_trans h (by decide))
section
variable {o e f a b : Expr} {es : List Expr} {td ty tx : TE} {tA : TA} {mo my mz me : En → Heap → Res Val} {mk : En → Heap → Res (List Val)} {apos cpos pos pos' kpos : Pos} {kc : Nat}
theorem me_ixT (ok : G.Ok) (C : XC G E X k) {x1} (ho : ME G E X o td mo) (hk : MA G E X es tA mk) (hs : NoSl (.Tuple es x1 kpos) := by exact fun _ _ => rfl) : ME G E X (.Subscript o (.Tuple es x1 kpos) pos) (tDGet td (tTup tA)) (mIxT mo mk) := by
  refine ⟨pe_dget (by have := C.hu; omega) ho.pe (pe_tup hk.pe) hs, ⟨fun r H h s σ Q hR sR p => ho.rf.run r H h s σ _ hR sR (p.seq fun x h1 r1 H1 v s1 hR1 v1 p1 => ?_)⟩⟩
  refine hk.rf.run r1 H1 h1 s σ _ hR1 (sR.mono s1) (p1.seq fun ks h2 r2 H2 vs s2 hR2 v2 p2 => ?_)
  unfold tIx at p2
  split at p2
  · rename_i w ew
    refine ⟨len1000 (by rw [← v2.len]; exact tLook_len ew), fun q hq => ?_⟩
    have st := (lay_tup (xs := ks) (vs := vs) hR2 hq).2
    have hR3 := (lay_tup (xs := ks) (vs := vs) hR2 hq).1
    obtain ⟨n, ad, d, e', qs, rfl, eo, ea, rfl, hl, hv, kq, rfl, g, q'⟩ := tLook_of ok hR3 ((v1.mono s2).mono st) (v2.mono st) ew upd_same
    rcases q' with ⟨e1, _⟩ | ⟨x', w', e1, _, e3, v3⟩
    · cases e1
    · cases e1
      rw [e3] at g
      exact ⟨ad, w', rfl, g, (p2.shift st).here hR3 v3⟩
  · exact False.elim p2
theorem mc_inT (ok : G.Ok) (C : XC G E X k) {x1} (hk : MA G E X es tA mk) (ho : ME G E X o td mo) : MC G E X .In (.Tuple es x1 kpos) o (tDIn (tTup tA) td) (mInT false mk mo) := by
  refine ⟨pc_din (by have := C.hu; omega) (pe_tup hk.pe) ho.pe, ⟨fun r H h s σ Q hR sR p => hk.rf.run r H h s σ _ hR sR (p.seq fun ks h1 r1 H1 vs s1 hR1 v1 p1 => ?_)⟩⟩
  split at p1
  · rename_i hlen
    refine ⟨len1000 (by rw [← v1.len]; exact hlen), fun q hq => ?_⟩
    have st := (lay_tup (xs := ks) (vs := vs) hR1 hq).2
    have hR1' := (lay_tup (xs := ks) (vs := vs) hR1 hq).1
    refine ho.rf.run r1 _ h1 s σ _ hR1' ((sR.mono s1).mono st) ((p1.shift st).seq fun x h2 r2 H2 v s2 hR2 v2 p2 => ?_)
    have tq : H2 q = some (.tup vs) := s2.tpl _ _ upd_same
    unfold tIn at p2
    split at p2
    · rename_i w ew
      obtain ⟨n, ad, d, e', qs, rfl, eo, ea, rfl, hl, hv, kq, rfl, g, q'⟩ := tLook_of ok hR2 v2 ((v1.mono st).mono s2) ew tq
      refine ⟨ad, _, rfl, g, ?_⟩
      rcases q' with ⟨rfl, _, e3⟩ | ⟨x', w', rfl, _, e3, v3⟩
      · rw [e3]; exact p2.here hR2 (.bl _)
      · rw [e3]; exact p2.here hR2 (.bl _)
    · exact False.elim p2
  · exact False.elim p1
theorem mc_notinT (ok : G.Ok) (C : XC G E X k) {x1} (hk : MA G E X es tA mk) (ho : ME G E X o td mo) : MC G E X .NotIn (.Tuple es x1 kpos) o (tDNotIn (tTup tA) td) (mInT true mk mo) := by
  refine ⟨pc_dnotin (by have := C.hu; omega) (pe_tup hk.pe) ho.pe, ⟨fun r H h s σ Q hR sR p => hk.rf.run r H h s σ _ hR sR (p.seq fun ks h1 r1 H1 vs s1 hR1 v1 p1 => ?_)⟩⟩
  split at p1
  · rename_i hlen
    refine ⟨len1000 (by rw [← v1.len]; exact hlen), fun q hq => ?_⟩
    have st := (lay_tup (xs := ks) (vs := vs) hR1 hq).2
    have hR1' := (lay_tup (xs := ks) (vs := vs) hR1 hq).1
    refine ho.rf.run r1 _ h1 s σ _ hR1' ((sR.mono s1).mono st) ((p1.shift st).seq fun x h2 r2 H2 v s2 hR2 v2 p2 => ?_)
    have tq : H2 q = some (.tup vs) := s2.tpl _ _ upd_same
    unfold tIn at p2
    split at p2
    · rename_i w ew
      obtain ⟨n, ad, d, e', qs, rfl, eo, ea, rfl, hl, hv, kq, rfl, g, q'⟩ := tLook_of ok hR2 v2 ((v1.mono st).mono s2) ew tq
      refine ⟨ad, _, rfl, g, ?_⟩
      rcases q' with ⟨rfl, _, e3⟩ | ⟨x', w', rfl, _, e3, v3⟩
      · rw [e3]; exact p2.here hR2 (.bl _)
      · rw [e3]; exact p2.here hR2 (.bl _)
    · exact False.elim p2
  · exact False.elim p1
theorem me_getT1 (ok : G.Ok) (C : XC G E X k) {x1} (ho : ME G E X o td mo) (hk : MA G E X es tA mk) (m : M1 X o "get" apos (.Tuple es x1 kpos) cpos := by exact ⟨rfl, rfl, rfl, rfl⟩) :
    ME G E X (.Call (.Attribute o "get" apos) [.Tuple es x1 kpos] [] cpos) (tDGet1 td (tTup tA)) (mGetT1 mo mk) := by
  refine ⟨pe_dget1 (by have := C.hu; omega) ho.pe (pe_tup hk.pe) m, ⟨fun r H h s σ Q hR sR p => ho.rf.run r H h s σ _ hR sR (p.seq fun x h1 r1 H1 v s1 hR1 v1 p1 => ?_)⟩⟩
  split at p1
  · rename_i hd
    obtain ⟨a, rfl, id⟩ := isD_of hR1 v1 hd
    refine ⟨a, rfl, id, hk.rf.run r1 H1 h1 s σ _ hR1 (sR.mono s1) (p1.seq fun ks h2 r2 H2 vs s2 hR2 v2 p2 => ?_)⟩
    unfold tGet at p2
    split at p2
    · rename_i w ew
      refine ⟨len1000 (by rw [← v2.len]; exact tLook_len ew), fun q hq => ?_⟩
      have st := (lay_tup (xs := ks) (vs := vs) hR2 hq).2
      have hR3 := (lay_tup (xs := ks) (vs := vs) hR2 hq).1
      obtain ⟨n, ad, d, e', qs, rfl, eo, ea, e0, hl, hv, kq, rfl, g, q'⟩ := tLook_of ok hR3 ((v1.mono s2).mono st) (v2.mono st) ew upd_same
      cases e0
      rcases q' with ⟨rfl, _, e3⟩ | ⟨x', w', rfl, _, e3, v3⟩
      · rw [e3] at g
        exact ⟨_, g, (p2.shift st).here hR3 .non⟩
      · rw [e3] at g
        exact ⟨_, g, (p2.shift st).here hR3 v3⟩
    · exact False.elim p2
  · exact False.elim p1
theorem me_getT2 (ok : G.Ok) (C : XC G E X k) {x1} (ho : ME G E X o td mo) (hk : MA G E X es tA mk) (hf : ME G E X f tx mz) (m : M2 X o "get" apos (.Tuple es x1 kpos) f cpos := by exact ⟨rfl, rfl, rfl, rfl⟩) :
    ME G E X (.Call (.Attribute o "get" apos) [.Tuple es x1 kpos, f] [] cpos) (tDGet2 td (tTup tA) tx) (mGetT2 mo mk mz) := by
  refine ⟨pe_dget2 (by have := C.hu; omega) ho.pe (pe_tup hk.pe) hf.pe m, ⟨fun r H h s σ Q hR sR p => ho.rf.run r H h s σ _ hR sR (p.seq fun x h1 r1 H1 v s1 hR1 v1 p1 => ?_)⟩⟩
  split at p1
  · rename_i hd
    obtain ⟨a, rfl, id⟩ := isD_of hR1 v1 hd
    refine ⟨a, rfl, id, hk.rf.run r1 H1 h1 s σ _ hR1 (sR.mono s1) (p1.seq fun ks h2 r2 H2 vs s2 hR2 v2 p2 => ?_)⟩
    split at p2
    · rename_i hlen
      refine ⟨len1000 (by rw [← v2.len]; exact hlen), fun q hq => ?_⟩
      have st := (lay_tup (xs := ks) (vs := vs) hR2 hq).2
      have hR2' := (lay_tup (xs := ks) (vs := vs) hR2 hq).1
      refine hf.rf.run r2 _ h2 s σ _ hR2' (((sR.mono s1).mono s2).mono st) ((p2.shift st).seq fun z h3 r3 H3 u s3 hR3 v3 p3 => ?_)
      have tq : H3 q = some (.tup vs) := s3.tpl _ _ upd_same
      unfold tGet at p3
      split at p3
      · rename_i w ew
        obtain ⟨n, ad, d, e', qs, rfl, eo, ea, e0, hl, hv, kq, rfl, g, q'⟩ := tLook_of ok hR3 (((v1.mono s2).mono st).mono s3) ((v2.mono st).mono s3) ew tq
        cases e0
        rcases q' with ⟨rfl, _, e3⟩ | ⟨x', w', rfl, _, e3, v4⟩
        · rw [e3] at g
          exact ⟨_, g, p3.here hR3 v3⟩
        · rw [e3] at g
          exact ⟨_, g, p3.here hR3 v4⟩
      · exact False.elim p3
    · exact False.elim p2
  · exact False.elim p1
theorem ms_subT (ok : G.Ok) (C : XC G E X k) {x1} (ho : ME G E X o td mo) (hk : MA G E X es tA mk) (hv : ME G E X e tx me) (hs : swapsWith e (some (.Subscript o (.Tuple es x1 kpos) pos')) pos.line X.env = pure false := by rfl) :
    MS G E X (.Assign [.Subscript o (.Tuple es x1 kpos) pos'] e pos) (sDPut td (tTup tA) tx) (sSubT mo mk me) := by
  refine ⟨ps_dput (by have := C.hu; omega) ho.pe (pe_tup hk.pe) hv.pe hs, ⟨fun r H h s σ D hR sR p => ?_⟩⟩
  refine hv.rf.run r H h s σ _ hR sR (p.seqS fun v h1 r1 H1 vv s1 hR1 v1 p1 => ?_)
  refine ho.rf.run r1 H1 h1 s σ _ hR1 (sR.mono s1) (p1.seqS fun x h2 r2 H2 vo s2 hR2 v2 p2 => ?_)
  refine hk.rf.run r2 H2 h2 s σ _ hR2 ((sR.mono s1).mono s2) (p2.seqS fun ks h3 r3 H3 vs s3 hR3 v3 p3 => ?_)
  unfold tSet at p3
  split at p3
  · rename_i n
    split at p3
    · rename_i d eo
      split at p3
      · rename_i hc
        have hk' := hc.1
        simp only [keysOk, Bool.and_eq_true, decide_eq_true_eq] at hk'
        refine ⟨len1000 (by rw [← v3.len]; exact hk'.2), fun q hq => ?_⟩
        have st := (lay_tup (xs := ks) (vs := vs) hR3 hq).2
        have hR4 := (lay_tup (xs := ks) (vs := vs) hR3 hq).1
        have vo' := (v2.mono s3).mono st
        have vv' := ((v1.mono s2).mono s3).mono st
        cases vo' with
        | @ref _ ad ea =>
          cases hR4.ob _ _ _ eo ea with
          | @dcT _ e0 _ hl hdv =>
            obtain ⟨qs, kq, rfl⟩ := KRs.of (v3.mono st) hk'.1
            refine ⟨_, _, rfl, DPut.t hl upd_same (lt_line (by rw [← hdv.len]; exact hc.2)), ?_⟩
            have st2 : Stp G.K r3 (upd H3 q (.tup (qs.map kV))) r3 (upd (upd H3 q (.tup (qs.map kV))) ad (.dT (putK e0 qs vv))) := Stp.upd fun o e => by rw [hl] at e; cases e; trivial
            exact p3 _ _ _ (st.trans st2) (hR4.write eo rfl ea (fun o e => by rw [hl] at e; cases e; trivial) (.dcT upd_same ((hdv.put ok kq vv').mono st2)) rfl) (((((sR.mono s1).mono s2).mono s3).mono st).mono st2)
      · exact False.elim p3
    · exact False.elim p3
  · exact False.elim p3
/-- d.pop((..)), the key there -/
def rPopT1 : V → List V → Hp → VK → Prop := fun x xs H Q => ∃ (a : Addr) (kvs : List (List Key × V)) (ks : List Key) (b : Addr) (v : V), x = .ref a ∧ xs = [.ref b] ∧ H a = some (.dT kvs) ∧ H b = some (.tup (ks.map kV)) ∧ valV kvs ks = some v ∧ Q v (upd H a (.dT (dropK kvs ks)))
theorem mt_popT1 (hu : X.A.units + 1 < cLine) : MtR X "dict.pop" rPopT1 := by
  rintro pins s σ H x xs v us Q I rx rxs ⟨ad, kvs, ks, b, w, rfl, rfl, hA, hB, hw, wish⟩
  cases rx
  obtain ⟨ub, rfl, rb⟩ : ∃ ub, us = [ub] ∧ RelV (.ref b) ub := by
    cases rxs with
    | cons p q => cases q; exact ⟨_, rfl, p⟩
  cases rb
  obtain ⟨lz, lo, zs, rel, dd⟩ := dt_of I.hok hA
  have lz' : zs.length ≤ sizeLine := by rw [← Paired.length rel]; exact lz
  have rk := rel.val ks
  rw [hw] at rk
  obtain ⟨pz, ez, rz⟩ : ∃ pz, atKey zs ks = some pz ∧ RelV w pz.2 := by
    cases q : atKey zs ks with
    | none => rw [q] at rk; exact False.elim rk
    | some pz => rw [q] at rk; exact ⟨pz, rfl, rk⟩
  refine PySem.call_pop_heap (knd := tupleKind (mixKind X.prog X.w)) (.inl rfl) (PySem.F.args_dict_pop_2 _ _) (tupleKind_room_in1 hu) (key_of I.hok hB) lo dd ez (fun h' dd' sb => ?_) lz'
  obtain ⟨ob, es, ep, g1, g2, g3, g4, _, g5⟩ := dd'
  have J : Inv X pins σ (upd H ad (.dT (dropK kvs ks))) { s with heap := h', toks := s.toks + (tupleKind (mixKind X.prog X.w)).draws ks } :=
    d_write I (by rw [hA]; exact True.intro) sb ⟨ob, g1⟩ ⟨Nat.le_trans (dropK_le kvs ks) lz, lo, _, (KT_drop ks rel).keeps (fun c ys ec => (by rw [upd_ne (ne_of ec hA (fun z => nomatch z))]; exact ec)), ob, es, ep, g1, g2, g3, g4, g5⟩
  exact ⟨w, _, J, rz, wish⟩
theorem tyD_of (hR : HR G r H h) {x : Val} {v : V} (q : VR G r H x v) (e : isD x h = true) : tyV G.K "dict" v H := by
  cases q with
  | ref ea =>
    simp only [isD] at e
    split at e
    · rename_i d eo
      cases hR.ob _ _ _ eo ea with
      | dct hl hv => exact .inr (.inr (.inl ⟨rfl, .inl ⟨_, hl⟩⟩))
    · rename_i d eo
      cases hR.ob _ _ _ eo ea with
      | dcT hl hv => exact .inr (.inr (.inl ⟨rfl, .inr ⟨_, hl⟩⟩))
    · cases e
  | _ => simp [isD] at e
theorem me_popT1 (ok : G.Ok) (C : XC G E X k) {x1} (ho : ME G E X o td mo) (hk : MA G E X es tA mk) (hbase : attributeBase o "pop" X.env (eval o X.env) = eval o X.env := by rfl)
    (hfew : ((backTo cpos (starEach [.Tuple es x1 kpos] X.env)).all (fun x => !x.1) && (backToKw cpos (keywordEach [] X.env)).all (fun x => x.1.isSome)
      && decide (([.Tuple es x1 kpos] : List Expr).length + ([] : List Keyword).length + (if ([] : List Keyword).isEmpty then 0 else 1) < 30)) = true := by rfl)
    (hline : (apos.endLine == cpos.line) = true := by rfl) (hs : starEach [.Tuple es x1 kpos] X.env = (false, eval (.Tuple es x1 kpos) X.env) :: starEach [] X.env := by rfl) (hplain : (backTo cpos (starEach [] X.env)).any (·.1) = false := by rfl) :
    ME G E X (.Call (.Attribute o "pop" apos) [.Tuple es x1 kpos] [] cpos) (tBM X.K "dict" rPopT1 td (tCons (tTup tA) tNil)) (mPopT1 mo mk) := by
  refine ⟨pe_bm PySem.F.plainAttrs_dict PySem.F.slot_dict_pop PySem.F.type_dict_pop (mt_popT1 (by have := C.hu; omega)) ho.pe (pa_cons (pe_tup hk.pe) pa_nil hs) hbase hfew hline hs hplain, ⟨fun r H h s σ Q hR sR p => ho.rf.run r H h s σ _ hR sR (p.seq fun x h1 r1 H1 v s1 hR1 v1 p1 => ?_)⟩⟩
  split at p1
  · rename_i hd
    refine ⟨by rw [C.K]; exact tyD_of hR1 v1 hd, hk.rf.run r1 H1 h1 s σ _ hR1 (sR.mono s1) (p1.seq fun ks h2 r2 H2 vs s2 hR2 v2 p2 => ?_)⟩
    unfold tPop1 at p2
    split at p2
    · rename_i w ew
      refine ⟨len1000 (by rw [← v2.len]; exact tLook_len ew), fun q hq => ?_⟩
      have st := (lay_tup (xs := ks) (vs := vs) hR2 hq).2
      have hR3 := (lay_tup (xs := ks) (vs := vs) hR2 hq).1
      obtain ⟨n, ad, d, e', qs, rfl, eo, ea, rfl, hl, hv, kq, rfl, g, q'⟩ := tLook_of ok hR3 ((v1.mono s2).mono st) (v2.mono st) ew upd_same
      rcases q' with ⟨e1, _⟩ | ⟨x', w', e1, _, e3, v3⟩
      · cases e1
      · cases e1
        refine ⟨ad, e', qs, q, w', rfl, rfl, hl, upd_same, e3, ?_⟩
        have p3 := p2.shift st
        simp only [tDrop, eo] at p3
        exact set_dcT hR3 eo ea hl (hv.drop ok kq) v3 p3
    · exact False.elim p2
  · exact False.elim p1
theorem me_popT2 (ok : G.Ok) (C : XC G E X k) {x1} (ho : ME G E X o td mo) (hk : MA G E X es tA mk) (hf : ME G E X f tx mz) (hbase : attributeBase o "pop" X.env (eval o X.env) = eval o X.env := by rfl)
    (hfew : ((backTo cpos (starEach [.Tuple es x1 kpos, f] X.env)).all (fun x => !x.1) && (backToKw cpos (keywordEach [] X.env)).all (fun x => x.1.isSome)
      && decide (([.Tuple es x1 kpos, f] : List Expr).length + ([] : List Keyword).length + (if ([] : List Keyword).isEmpty then 0 else 1) < 30)) = true := by rfl)
    (hline : (apos.endLine == cpos.line) = true := by rfl) (hs : starEach [.Tuple es x1 kpos, f] X.env = (false, eval (.Tuple es x1 kpos) X.env) :: starEach [f] X.env := by rfl) (hs2 : starEach [f] X.env = (false, eval f X.env) :: starEach [] X.env := by rfl) (hplain : (backTo cpos (starEach [f] X.env)).any (·.1) = false := by rfl) :
    ME G E X (.Call (.Attribute o "pop" apos) [.Tuple es x1 kpos, f] [] cpos) (tBM X.K "dict" rPopT td (tCons (tTup tA) (tCons tx tNil))) (mPopT2 mo mk mz) := by
  refine ⟨pe_bm PySem.F.plainAttrs_dict PySem.F.slot_dict_pop PySem.F.type_dict_pop (mt_popT (by have := C.hu; omega)) ho.pe (pa_cons (pe_tup hk.pe) (pa_cons hf.pe pa_nil hs2) hs) hbase hfew hline hs hplain, ⟨fun r H h s σ Q hR sR p => ho.rf.run r H h s σ _ hR sR (p.seq fun x h1 r1 H1 v s1 hR1 v1 p1 => ?_)⟩⟩
  split at p1
  · rename_i hd
    refine ⟨by rw [C.K]; exact tyD_of hR1 v1 hd, hk.rf.run r1 H1 h1 s σ _ hR1 (sR.mono s1) (p1.seq fun ks h2 r2 H2 vs s2 hR2 v2 p2 => ?_)⟩
    split at p2
    · rename_i hlen
      refine ⟨len1000 (by rw [← v2.len]; exact hlen), fun q hq => ?_⟩
      have st := (lay_tup (xs := ks) (vs := vs) hR2 hq).2
      have hR2' := (lay_tup (xs := ks) (vs := vs) hR2 hq).1
      refine hf.rf.run r2 _ h2 s σ _ hR2' (((sR.mono s1).mono s2).mono st) ((p2.shift st).seq fun z h3 r3 H3 u s3 hR3 v3 p3 => ?_)
      have tq : H3 q = some (.tup vs) := s3.tpl _ _ upd_same
      unfold tPop2 at p3
      split at p3
      · rename_i w ew
        obtain ⟨n, ad, d, e', qs, rfl, eo, ea, rfl, hl, hv, kq, rfl, g, q'⟩ := tLook_of ok hR3 (((v1.mono s2).mono st).mono s3) ((v2.mono st).mono s3) ew tq
        rcases q' with ⟨e1, _⟩ | ⟨x', w', e1, _, e3, v4⟩
        · cases e1
        · cases e1
          refine ⟨ad, e', qs, q, u, rfl, rfl, hl, tq, (fun v'' e'' => ?_), (fun e'' => by rw [e3] at e''; cases e'')⟩
          rw [e3] at e''
          cases e''
          simp only [tDrop, eo] at p3
          exact set_dcT hR3 eo ea hl (hv.drop ok kq) v4 p3
      · rename_i ew
        obtain ⟨n, ad, d, e', qs, rfl, eo, ea, rfl, hl, hv, kq, rfl, g, q'⟩ := tLook_of ok hR3 (((v1.mono s2).mono st).mono s3) ((v2.mono st).mono s3) ew tq
        rcases q' with ⟨_, _, e3⟩ | ⟨x', w', e1, _, e3, v4⟩
        · exact ⟨ad, e', qs, q, u, rfl, rfl, hl, tq, (fun v'' e'' => by rw [e3] at e''; cases e''), (fun _ => p3.here hR3 v3)⟩
        · cases e1
      · exact False.elim p3
    · exact False.elim p2
  · exact False.elim p1
end

/-! ### list.remove of ints -/
def fixI (i : Int) : List Int → Option Nat
  | [] => none
  | z :: zs => if z = i then some 0 else (fixI i zs).map (· + 1)
theorem fixI_ok {i : Int} : ∀ {zs : List Int} {j : Nat}, fixI i zs = some j → zs[j]? = some i ∧ ∀ m : Nat, m < j → zs[m]? ≠ some i
  | [], j, e => by cases e
  | z :: zs, j, e => by
    rw [fixI] at e
    split at e
    · rename_i c
      cases e
      subst c
      exact ⟨rfl, fun m hm => by omega⟩
    · rename_i c
      obtain ⟨j', e', rfl⟩ := Option.map_eq_some_iff.mp e
      obtain ⟨h1, h2⟩ := fixI_ok e'
      refine ⟨by simpa using h1, fun m hm => ?_⟩
      cases m with
      | zero => simpa using c
      | succ m => simpa using h2 m (by omega)
def bRemove (x : Val) (xs : List Val) (h : Heap) : Res Val := match x, xs with
  | .ref a, [.int i] => match h[a]? with
    | some (.lst ys) => match optAll asInt ys with
      | some zs => match fixI i zs with
        | some j => .ok .non (h.set a (.lst (ys.eraseIdx j)))
        | none => .stuck
      | none => .stuck
    | _ => .stuck
  | _, _ => .stuck
theorem rm_remove : RfM G E rRemI bRemove := by
  refine ⟨fun r H h x v xs vs Q hR vx vv p => ?_⟩
  unfold bRemove at p
  split at p
  · cases vx with
    | ref ea => cases vv with
      | cons q1 q2 =>
        cases q2
        cases q1
        split at p
        · rename_i ys eo
          split at p
          · rename_i zs ez
            split at p
            · rename_i j ej
              cases hR.ob _ _ _ eo ea with
              | lst hl hv =>
                have ev := all_int hv ez
                subst ev
                obtain ⟨h1, h2⟩ := fixI_ok ej
                refine ⟨_, zs, _, j, rfl, rfl, hl, h1, h2, ?_⟩
                have hv' := hv.eraseIdx j
                rw [erase_mapI] at hv'
                exact set_lst hR eo ea hl hv' .non p
            · exact False.elim p
          · exact False.elim p
        · exact False.elim p
  · exact False.elim p
end PyM

set_option Elab.async false
set_option linter.all false
set_option maxRecDepth 100000
set_option autoImplicit false
/-! code that is never reached; loops over dicts -/
namespace PyM
open PySem L2
section
variable {G : Cfg} {E : XK} {X : Cx} {e : Expr} {es : List Expr} {st : Stmt} {sts : List Stmt}
def mDead (_ : En) (_ : Heap) : Res Val := .stuck
def aDead (_ : En) (_ : Heap) : Res (List Val) := .stuck
def tDead (_ : En) (_ : Heap) : Res Bool := .stuck
def sDead (_ : En) (_ : Heap) : RS := .stuck
theorem me_dead : ME G E X e (fun _ _ _ => False) mDead := ⟨⟨fun _ _ _ _ _ _ q => q.elim⟩, ⟨fun _ _ _ _ _ _ _ _ p => p⟩⟩
theorem ma_dead : MA G E X es (fun _ _ _ => False) aDead := ⟨⟨fun _ _ _ _ _ _ _ q => q.elim⟩, ⟨fun _ _ _ _ _ _ _ _ p => p⟩⟩
theorem mt_dead : MT G E X e (fun _ _ _ => False) tDead := ⟨⟨fun _ _ _ _ _ _ q => q.elim⟩, ⟨fun _ _ _ _ _ _ _ _ p => p⟩⟩
theorem ms_dead : MS G E X st (fun _ _ _ => False) sDead := ⟨⟨fun _ _ _ _ _ _ q => q.elim⟩, ⟨fun _ _ _ _ _ _ _ _ p => p⟩⟩
end

/-! ### for k in d -/
section
variable {X : Cx} {tg e : Expr} {td : TE}
/-- the dict is locked behind the reckoning of it -/
def iKeysL (X : Cx) (td : TE) : TI := fun σ H R => td σ H fun x H1 => ∃ d, x = .ref d ∧
  ((∃ kvs, H1 d = some (.dK kvs) ∧ ∀ od, (∀ o' u', X.H_0 d ≠ some (.frz o' u')) → R (Itk d od kvs) (upd H1 d (.frz od (.dK kvs)))) ∨
   (∃ kvs, H1 d = some (.dT kvs) ∧ ∀ od, (∀ o' u', X.H_0 d ≠ some (.frz o' u')) → R (Itkt d od kvs) (upd H1 d (.frz od (.dT kvs)))))
theorem pi_keysL (he : PE X e td) : PI X tg e (iKeysL X td) := by
  refine ⟨fun pins s σ H R I h => ?_⟩
  refine thn (he.run pins s σ H _ I h) fun u s1 ⟨x, H1, I1, rx, d, ex, q⟩ => ?_
  subst ex
  obtain rfl : u = Value.ref d := rx
  rcases q with ⟨kvs, hd, q⟩ | ⟨kvs, hd, q⟩
  · obtain ⟨od, I2⟩ := I1.lock hd trivial
    have nf := I1.nofrz hd trivial
    obtain ⟨hs, hgd, hx, es, ep, vs, hdt, hsz, kv, hm⟩ := I2.frzK upd_same
    refine iter_keys hs hgd hx hdt (pi_one (tk := s1.toks) I2 _ (turn_keys _ hdt) ⟨_, Heap.get?_push_size _ rfl, rfl, ?_⟩ (q od nf))
    rw [hsz] <;> rfl
  · obtain ⟨od, I2⟩ := I1.lock hd trivial
    have nf := I1.nofrz hd trivial
    obtain ⟨hs, hgd, hx, es, ep, hdt, hsz, ent⟩ := I2.frzT upd_same
    refine iter_keys hs hgd hx hdt (pi_one (tk := s1.toks) I2 _ (turn_keysT _ hdt) ⟨_, Heap.get?_push_size _ rfl, rfl, ?_⟩ (q od nf))
    rw [hsz] <;> rfl
/-- what is wanted behind the unlocking -/
def unV (X : Cx) (Q : VK) : VK := fun v H' => ∃ d od u, H' d = some (.frz od u) ∧ (∀ o' u', X.H_0 d ≠ some (.frz o' u')) ∧ Q v (upd H' d u)
def unS (X : Cx) (Q : St → Hp → Prop) : St → Hp → Prop := fun σ H' => ∃ d od u, H' d = some (.frz od u) ∧ (∀ o' u', X.H_0 d ≠ some (.frz o' u')) ∧ Q σ (upd H' d u)
def unD (X : Cx) (D : Ends) : Ends := ⟨unS X D.nx, unV X D.rt, unS X D.bk, unS X D.ct⟩
theorem ps_unlock {st : Stmt} {t : TS} (h : PS X st t) : PS X st (fun D σ H => t (unD X D) σ H) := by
  refine ⟨fun pins s σ H D I hw => ?_⟩
  refine thn (h.run pins s σ H _ I hw) fun f s1 q => ?_
  cases f with
  | next => obtain ⟨σ', H', I2, d, od, u, e, n, q⟩ := q; exact ⟨σ', _, I2.unlock e n, q⟩
  | brk => obtain ⟨σ', H', I2, d, od, u, e, n, q⟩ := q; exact ⟨σ', _, I2.unlock e n, q⟩
  | cont => obtain ⟨σ', H', I2, d, od, u, e, n, q⟩ := q; exact ⟨σ', _, I2.unlock e n, q⟩
  | ret v => obtain ⟨x, σ', H', I2, r, d, od, u, e, n, q⟩ := q; exact ⟨x, σ', _, I2.unlock e n, r, q⟩
theorem pe_unlock {t : TE} (h : PE X e t) : PE X e (fun σ H Q => t σ H (unV X Q)) := by
  refine ⟨fun pins s σ H Q I hw => ?_⟩
  refine thn (h.run pins s σ H _ I hw) fun v s1 ⟨x, H1, I2, r, d, od, u, e2, n, q⟩ => ?_
  exact ⟨x, _, I2.unlock e2 n, r, q⟩
end
def unlH (n : Nat) (h : Heap) : Option Heap := match h[n]? with
  | some (.fdc d) => some (h.set n (.dct d))
  | some (.fdT d) => some (h.set n (.dcT d))
  | _ => none
def unlS (n : Nat) : RS → RS
  | .nx s h => match unlH n h with
    | some h' => .nx s h'
    | none => .stuck
  | .rt v h => match unlH n h with
    | some h' => .rt v h'
    | none => .stuck
  | _ => .stuck
/-- the keys, and the heap with the dict locked -/
def lockD (n : Nat) (h : Heap) : Option (List Val × Heap) := match h[n]? with
  | some (.dct d) => some (d.map (·.1), h.set n (.fdc d))
  | some (.dcT d) => some (d.map (·.1), h.set n (.fdT d))
  | _ => none
def sForD (me : En → Heap → Res Val) (tg : Val → En → Option En) (body : En → Heap → RS) (s : En) (h : Heap) : RS := (me s h).thenS fun x h1 => match x with
  | .ref n => match lockD n h1 with
    | some (ks, h2) => unlS n (forM_ (fun _ => true) tg body ks s h2)
    | none => .stuck
  | _ => .stuck
section
variable {G : Cfg} {E : XK} {X : Cx} {k : Nat} {e tg iter : Expr} {te td : TE} {me : En → Heap → Res Val} {pos : Pos} {g : TG} {mg : Val → En → Option En} {sts : List Stmt} {t : TS} {m : En → Heap → RS} {r : List Addr} {H : Hp} {h : Heap}
/-- a loop's reading behind its iterator -/
theorem for_core {S : Src} {J : It} {r1 : List Addr} {H1 : Hp} {h1 : Heap} {s : En} {σ : L2.St} {D : Ends} (hg : RfG G g mg) (hb : RfS G E t m) (hR1 : HR G r1 H1 h1) (sR : SR G r1 H1 s σ) (J1 : ItOk G r1 H1 J S) (p1 : PostS G r1 H1 E (forM_ S.chk mg m S.items s h1) D) :
    ∃ W : Nat → Nat → L2.St → Hp → Prop, (∃ m, W 0 m σ H1) ∧ ∀ i m σ H, W i m σ H →
  (J.stop i H ∧ D.nx σ H) ∨ (J.go i H ∧ ∃ N : L2.St → Hp → Prop, (∀ σ' H', N σ' H' → ∃ m', m' < m ∧ W (i + 1) m' σ' H') ∧ ∀ x H', J.yld i H x H' → g x σ H' fun σ2 H2 => t { D with nx := N, ct := N, bk := D.nx } σ2 H2) := by
  refine ⟨fun i mm σ' H' => ∃ r' h' s', Stp G.K r1 H1 r' H' ∧ HR G r' H' h' ∧ SR G r' H' s' σ' ∧ mm = S.items.length - i ∧ i ≤ S.items.length ∧ PostS G r' H' E (forM_ S.chk mg m (S.items.drop i) s' h') D, ⟨_, r1, h1, s, Stp.refl, hR1, sR, rfl, Nat.zero_le _, p1⟩, ?_⟩
  rintro i mm σ' H' ⟨r', h', s', st, hR', sR', rfl, hle, p'⟩
  cases hd : S.items.drop i with
  | nil =>
    have hi : i = S.items.length := by
      have := List.drop_eq_nil_iff.mp hd
      omega
    rw [hd] at p'
    unfold forM_ at p'
    split at p'
    · rename_i hc
      subst hi
      exact .inl ⟨J1.stop r' H' h' st hR' hc, p'.here hR' sR'⟩
    · exact False.elim p'
  | cons x rest =>
    have hlt : i < S.items.length := by
      refine Decidable.byContradiction fun q => ?_
      rw [List.drop_eq_nil_of_le (by omega)] at hd
      cases hd
    have hx : S.items[i]? = some x := by
      have := congrArg (fun l => l[0]?) hd
      simpa using this
    have hr : S.items.drop (i + 1) = rest := by
      rw [← List.drop_drop (i := 1) (j := i), hd]
      rfl
    rw [hd] at p'
    unfold forM_ at p'
    split at p'
    · rename_i hc
      obtain ⟨hgo, hy⟩ := J1.go r' H' h' i x st hR' hc hx
      refine .inr ⟨hgo, fun σ2 H2 => ∃ r2 h2 s2, Stp G.K r1 H1 r2 H2 ∧ HR G r2 H2 h2 ∧ SR G r2 H2 s2 σ2 ∧ PostS G r2 H2 E (forM_ S.chk mg m rest s2 h2) D, ?_, ?_⟩
      · rintro σ2 H2 ⟨r2, h2, s2, q1, q2, q3, q4⟩
        exact ⟨_, by omega, r2, h2, s2, q1, q2, q3, rfl, by omega, by rw [hr]; exact q4⟩
      · intro v H3 hyl
        obtain ⟨r3, st3, hR3, vR⟩ := hy v H3 hyl
        cases e1 : mg x s' with
        | none => rw [e1] at p'; exact False.elim p'
        | some s1' =>
          rw [e1] at p'
          refine hg.run r3 H3 s' σ' x v _ (sR'.mono st3) vR ⟨s1', e1, fun σ1 sR1 => ?_⟩
          refine hb.run r3 H3 h' s1' σ1 _ hR3 sR1 ?_
          simp only at p'
          cases e2 : m s1' h' with
          | nx s2 h2 =>
            rw [e2] at p'
            exact fun r4 H4 t4 st4 hR4 sR4 => ⟨r4, h2, s2, st.trans (st3.trans st4), hR4, sR4, p'.shift (st3.trans st4)⟩
          | ct s2 h2 =>
            rw [e2] at p'
            exact fun r4 H4 t4 st4 hR4 sR4 => ⟨r4, h2, s2, st.trans (st3.trans st4), hR4, sR4, p'.shift (st3.trans st4)⟩
          | bk s2 h2 =>
            rw [e2] at p'
            exact fun r4 H4 t4 st4 hR4 sR4 => p' r4 H4 t4 (st3.trans st4) hR4 sR4
          | rt v2 h2 =>
            rw [e2] at p'
            exact fun r4 H4 t4 st4 hR4 sR4 => p' r4 H4 t4 (st3.trans st4) hR4 sR4
          | raised c2 h2 =>
            rw [e2] at p'
            exact fun r4 H4 t4 st4 hR4 sR4 => p' r4 H4 t4 (st3.trans st4) hR4 sR4
          | stuck =>
            rw [e2] at p'
            exact p'
    · exact False.elim p'
theorem HR.lock {r : List Addr} {H : Hp} {h : Heap} (R : HR G r H h) {n : Nat} {ks : List Val} {h2 : Heap} (e : lockD n h = some (ks, h2)) {a : Addr} (ea : r[n]? = some a) :
    (∃ d f, h[n]? = some (.dct d) ∧ H a = some (.dK f) ∧ DR G r H d f ∧ ks = d.map (·.1) ∧ ∀ od, Stp G.K r H r (upd H a (.frz od (.dK f))) ∧ HR G r (upd H a (.frz od (.dK f))) h2) ∨
    (∃ d f, h[n]? = some (.dcT d) ∧ H a = some (.dT f) ∧ DTR G r H d f ∧ ks = d.map (·.1) ∧ ∀ od, Stp G.K r H r (upd H a (.frz od (.dT f))) ∧ HR G r (upd H a (.frz od (.dT f))) h2) := by
  unfold lockD at e
  split at e
  · rename_i d eo
    cases e
    cases R.ob _ _ _ eo ea with
    | @dct _ f _ hl hv =>
      refine .inl ⟨d, f, eo, hl, hv, rfl, fun od => ?_⟩
      have hn : ∀ o, H a = some o → NotT o := fun o e => by rw [hl] at e; cases e; trivial
      have st : Stp G.K r H r (upd H a (.frz od (.dK f))) := Stp.upd hn
      exact ⟨st, R.write eo rfl ea hn (.fdc upd_same (hv.mono st)) rfl⟩
  · rename_i d eo
    cases e
    cases R.ob _ _ _ eo ea with
    | @dcT _ f _ hl hv =>
      refine .inr ⟨d, f, eo, hl, hv, rfl, fun od => ?_⟩
      have hn : ∀ o, H a = some o → NotT o := fun o e => by rw [hl] at e; cases e; trivial
      have st : Stp G.K r H r (upd H a (.frz od (.dT f))) := Stp.upd hn
      exact ⟨st, R.write eo rfl ea hn (.fdT upd_same (hv.mono st)) rfl⟩
  · cases e
/-- where a thing that is no tuple and not locked is written, whatever has been done to it -/
theorem Stp.unl {K : PySem.W.Frag} {r : List Addr} {H : Hp} {a : Addr} {v : HO} {r0 : List Addr} {H0 : Hp} {u : HO} (h0 : H0 a = some u) (hu : NotT u) (st : Stp K r0 H0 r H) : Stp K r0 H0 r (L2.upd H a v) := by
  have ne : ∀ b w, H0 b = some w → ¬ NotT w → b ≠ a := fun b w e hn z => by subst z; rw [h0] at e; cases e; exact hn hu
  refine ⟨st.pre, fun b xs q => ?_, fun b o x q => ?_, fun b xs q => ?_⟩
  · by_cases hb : b = a
    · subst hb
      rcases q with (z | ⟨o, z⟩) | z
      · exact absurd rfl (ne b _ z (fun z => z))
      · exact absurd rfl (ne b _ z (fun z => z))
      · exact .inr z
    · rcases st.tup b xs q with (z | ⟨o, z⟩) | z
      · exact .inl (.inl (by rw [upd_ne hb]; exact z))
      · exact .inl (.inr ⟨o, by rw [upd_ne hb]; exact z⟩)
      · exact .inr z
  · rw [upd_ne (ne b _ q (fun z => z))]; exact st.frl b o x q
  · rw [upd_ne (ne b _ q (fun z => z))]; exact st.tpl b xs q
theorem Stw.unl {K : PySem.W.Frag} {r : List Addr} {H : Hp} {a : Addr} {o : PySem.Obj} {u v : HO} (h : H a = some (.frz o u)) (hu : ∀ xs, u ≠ .tup xs) (hl : ∀ xs, u ≠ .lst xs) : Stw K r H r (upd H a v) := by
  refine ⟨fun _ _ e => e, fun b xs q => ?_, fun b o' x q => ?_⟩
  · rcases q with (z | ⟨o', z⟩) | z
    · exact .inl (.inl (by rw [upd_ne (fun e => by subst e; rw [h] at z; cases z)]; exact z))
    · exact .inl (.inr ⟨o', by rw [upd_ne (fun e => by subst e; rw [h] at z; cases z; exact hu _ rfl)]; exact z⟩)
    · exact .inr z
  · rw [upd_ne (fun e => by subst e; rw [h] at q; cases q; exact hl _ rfl)]; exact q
theorem HR.writew {r : List Addr} {H : Hp} {h : Heap} (R : HR G r H h) {n : Nat} {a : Addr} {u : HO} {o o0 : Obj} (e0 : h[n]? = some o0) (f0 : isFls o0 = false) (e : r[n]? = some a) (st : Stw G.K r H r (upd H a u)) (ho : OR G r (upd H a u) o a) (f : isFls o = false) : HR G r (upd H a u) (h.set n o) := by
  have hl : n < h.length := (List.getElem?_eq_some_iff.mp e0).1
  have at_ : ∀ (i : Nat) (x : Obj), (h.set n o)[i]? = some x → isFls x = false → ∃ y, h[i]? = some y ∧ isFls y = false := fun i x e1 f1 => by
    by_cases hm : i = n
    · subst hm
      exact ⟨o0, e0, f0⟩
    · rw [List.getElem?_set_ne (Ne.symm hm)] at e1
      exact ⟨x, e1, f1⟩
  refine ⟨by simp [R.len], fun i j b x y e1 e2 e3 e4 f1 f2 => ?_, fun m o' b e1 e2 => ?_⟩
  · obtain ⟨x', e1', f1'⟩ := at_ i x e1 f1
    obtain ⟨y', e2', f2'⟩ := at_ j y e2 f2
    exact R.nd i j b x' y' e1' e2' e3 e4 f1' f2'
  · by_cases hm : m = n
    · subst hm
      rw [e] at e2
      cases e2
      rw [List.getElem?_set_self hl] at e1
      cases e1
      exact ho
    · rw [List.getElem?_set_ne (Ne.symm hm)] at e1
      refine (R.ob m o' b e1 e2).monow st fun f' v q => ?_
      have hb : b ≠ a := fun q => by
        subst q
        exact hm (R.nd m n b o' o0 e1 e0 e2 e f' f0)
      rw [upd_ne hb]
      exact q
theorem HR.unl {r : List Addr} {H : Hp} {h h3 : Heap} (R : HR G r H h) {n : Nat} {a : Addr} (e : unlH n h = some h3) (ea : r[n]? = some a) : ∃ o u, H a = some (.frz o u) ∧ Stw G.K r H r (upd H a u) ∧ HR G r (upd H a u) h3 := by
  unfold unlH at e
  split at e
  · rename_i d eo
    cases e
    cases R.ob _ _ _ eo ea with
    | @fdc _ f o _ hl hv =>
      have st : Stw G.K r H r (upd H a (.dK f)) := Stw.unl hl (fun _ z => nomatch z) (fun _ z => nomatch z)
      exact ⟨o, _, hl, st, R.writew eo rfl ea st (.dct upd_same (hv.monow st)) rfl⟩
  · rename_i d eo
    cases e
    cases R.ob _ _ _ eo ea with
    | @fdT _ f o _ hl hv =>
      have st : Stw G.K r H r (upd H a (.dT f)) := Stw.unl hl (fun _ z => nomatch z) (fun _ z => nomatch z)
      exact ⟨o, _, hl, st, R.writew eo rfl ea st (.dcT upd_same (hv.monow st)) rfl⟩
  · cases e
/-- the walk of a locked dict -/
theorem dk_get {r : List Addr} {H : Hp} {d : List (Val × Val)} {f : List (Key × V)} (v : DR G r H d f) : ∀ {i : Nat} {x : Val}, (d.map (·.1))[i]? = some x → ∃ q w, f[i]? = some (q, w) ∧ KR G x q := by
  induction v with
  | nil => intro i x e; simp at e
  | cons hk hv _ ih =>
    intro i x e
    cases i with
    | zero => simp at e; subst e; exact ⟨_, _, rfl, hk⟩
    | succ i => simpa using ih (i := i) (x := x) (by simpa using e)
theorem dt_get {r : List Addr} {H : Hp} {d : List (Val × Val)} {f : List (List Key × V)} (v : DTR G r H d f) : ∀ {i : Nat} {x : Val}, (d.map (·.1))[i]? = some x → ∃ ks qs w, x = .tup ks ∧ f[i]? = some (qs, w) ∧ KRs G ks qs := by
  induction v with
  | nil => intro i x e; simp at e
  | cons hk hv _ ih =>
    intro i x e
    cases i with
    | zero => simp at e; subst e; exact ⟨_, _, _, rfl, rfl, hk⟩
    | succ i => simpa using ih (i := i) (x := x) (by simpa using e)
theorem KRs.vr {r : List Addr} {H : Hp} : ∀ {ks : List Val} {qs : List Key}, KRs G ks qs → VRs G r H ks (qs.map kV)
  | _, _, .nil => .nil
  | _, _, .cons a b => .cons a.vr (KRs.vr b)
theorem itk_ok {r1 : List Addr} {H1 : Hp} {a : Addr} {od : PySem.Obj} {d : List (Val × Val)} {f : List (Key × V)} (ha : H1 a = some (.frz od (.dK f))) (hv : DR G r1 H1 d f) : ItOk G r1 H1 (Itk a od f) ⟨d.map (·.1), fun _ => true⟩ := by
  refine ⟨fun r2 H2 h2 hp _ _ => ⟨hp.frl _ _ _ ha, by simp [hv.len]⟩, fun r2 H2 h2 i x hp hR2 _ hx => ?_⟩
  obtain ⟨q, w, ef, kq⟩ := dk_get hv hx
  refine ⟨⟨hp.frl _ _ _ ha, (List.getElem?_eq_some_iff.mp ef).1⟩, fun v' H3 hy => ?_⟩
  obtain ⟨rfl, k, v, e2, rfl⟩ := hy
  rw [ef] at e2
  cases e2
  exact ⟨r2, Stp.refl, hR2, kq.vr⟩
theorem itkt_ok {r1 : List Addr} {H1 : Hp} {a : Addr} {od : PySem.Obj} {d : List (Val × Val)} {f : List (List Key × V)} (ha : H1 a = some (.frz od (.dT f))) (hv : DTR G r1 H1 d f) : ItOk G r1 H1 (Itkt a od f) ⟨d.map (·.1), fun _ => true⟩ := by
  refine ⟨fun r2 H2 h2 hp _ _ => ⟨hp.frl _ _ _ ha, by simp [hv.len]⟩, fun r2 H2 h2 i x hp hR2 _ hx => ?_⟩
  obtain ⟨ks, q, w, rfl, ef, kq⟩ := dt_get hv hx
  refine ⟨⟨hp.frl _ _ _ ha, (List.getElem?_eq_some_iff.mp ef).1⟩, fun v' H3 hy => ?_⟩
  obtain ⟨rfl, k, v, p, e2, rfl, hp3⟩ := hy
  rw [ef] at e2
  cases e2
  exact ⟨r2, Stp.refl, hR2, .tup (SqT.of hp3) kq.vr⟩
theorem post_unl {r1 : List Addr} {H1 : Hp} {a : Addr} {n : Nat} {u w : HO} {x : RS} {D : Ends} (ea : r1[n]? = some a) (h0 : H1 a = some u) (hu : NotT u) (st : Stp G.K r1 H1 r1 (upd H1 a w)) (nf : ∀ o' u', X.H_0 a ≠ some (.frz o' u')) (p : PostS G r1 H1 E (unlS n x) D) : PostS G r1 (upd H1 a w) E x (unD X D) := by
  cases x with
  | nx s' h' =>
    intro r' H' t st' hR' sR'
    simp only [unlS] at p
    split at p
    · rename_i h3 e3
      obtain ⟨o, u', hl, sw, hR3⟩ := hR'.unl e3 (st'.pre _ _ ea)
      exact ⟨a, o, u', hl, nf, p r' _ t (Stp.unl h0 hu (st.trans st')) hR3 (sR'.monow sw)⟩
    · exact p.elim
  | rt v' h' =>
    intro r' H' t st' hR' vR'
    simp only [unlS] at p
    split at p
    · rename_i h3 e3
      obtain ⟨o, u', hl, sw, hR3⟩ := hR'.unl e3 (st'.pre _ _ ea)
      exact ⟨a, o, u', hl, nf, p r' _ t (Stp.unl h0 hu (st.trans st')) hR3 (vR'.monow sw)⟩
    · exact p.elim
  | bk _ _ => exact p.elim
  | ct _ _ => exact p.elim
  | raised _ _ => exact p.elim
  | stuck => exact p.elim
theorem ms_forD (C : XC G E X k) (he : ME G E X iter td me) (hg : MG G X tg g mg) (hb : MSs G E X sts t m) (hs : ∀ x, foldedSetIterable iter X.env x = pure x := by intro _; rfl) :
    MS G E X (.For tg iter sts [] pos) (fun D σ H => tFor (iKeysL X td) g t (unD X D) σ H) (sForD me mg m) := by
  refine ⟨ps_unlock (ps_for C.own C.calm (pi_keysL he.pe) hg.pe hb.pe hs), ⟨fun r H h s σ D hR sR p => ?_⟩⟩
  refine he.rf.run r H h s σ _ hR sR (p.seqS fun x h1 r1 H1 v s1 hR1 v1 p1 => ?_)
  cases v1 with
  | @ref n a ea =>
    simp only at p1
    split at p1
    · rename_i ks h2 e2
      refine ⟨a, rfl, ?_⟩
      rcases hR1.lock e2 ea with ⟨d, f, eo, hl, hv, rfl, z⟩ | ⟨d, f, eo, hl, hv, rfl, z⟩
      · refine .inl ⟨f, hl, fun od nf => ?_⟩
        obtain ⟨st, hR2⟩ := z od
        exact for_core (S := ⟨d.map (·.1), fun _ => true⟩) hg.rf hb.rf hR2 ((sR.mono s1).mono st) (itk_ok upd_same (hv.mono st)) (post_unl ea hl trivial st nf p1)
      · refine .inr ⟨f, hl, fun od nf => ?_⟩
        obtain ⟨st, hR2⟩ := z od
        exact for_core (S := ⟨d.map (·.1), fun _ => true⟩) hg.rf hb.rf hR2 ((sR.mono s1).mono st) (itkt_ok upd_same (hv.mono st)) (post_unl ea hl trivial st nf p1)
    · exact False.elim p1
  | _ => exact False.elim p1
end
end PyM

set_option Elab.async false
set_option linter.all false
set_option maxRecDepth 100000
set_option autoImplicit false
/-! sum of a tuple -/
namespace PyM
open PySem PySem.Spec PyProof.Rows L2
section
variable {prog : Program} {w : World} {A : Around} {E : Value → Shared → Prop} {s : Shared} {l : Addr} {its : List Value} {ns : List Int} {Q : Value → Shared → Prop} {xs : Array (Int × Tok)}
theorem sum_intTupG (hh : A.handled = none) (hT : s.heap.IsTuple l (intItems xs))
    (h : ∀ h' tk t', (∀ b o, s.heap.get? b = some o → h'.get? b = some o) → Q (.int (preSum (numAt xs) xs.size) t') { s with heap := h', toks := tk }) :
    wpAny (model prog w) A (call (.builtin "sum") [.ref l]) Q E s := by
  have hlt : l < s.heap.objs.size := by obtain ⟨_, e, _⟩ := hT; exact Heap.lt_size e
  refine call_sum_walkG (wpAny_pyIter_tuple hT ?_)
  refine ⟨_, [_, l], [_], _, _, _, numAt xs, rfl, Walks.tuple (A := A.in1) hh _ l (Nat.ne_of_lt hlt) (intItems xs), ⟨⟨_, Heap.get?_push_size _ rfl, rfl, rfl⟩, hT.push _⟩, fun b hb => ?_, (fun _ _ => intItems_at), fun h' tk t' hk => ?_⟩
  · show b < (s.heap.push _).objs.size
    rw [Heap.size_push]
    rcases List.mem_cons.mp hb with rfl | hb
    · exact Nat.lt_succ_self _
    · rcases List.mem_cons.mp hb with rfl | hb
      · exact Nat.lt_succ_of_lt hlt
      · cases hb
  · have := h h' tk t' (fun b o e => hk b o (fun hm => by
      rcases List.mem_cons.mp hm with e1 | hm
      · exact absurd (e1 ▸ Heap.lt_size e) (Nat.lt_irrefl _)
      · cases hm) (Heap.get?_push_of_some _ e))
    simpa [intItems] using this
theorem sum_rawT (hh : A.handled = none) (hl : s.heap.IsTuple l its.toArray) (hi : IntsAre its ns)
    (h : ∀ h' tk t', (∀ b o, s.heap.get? b = some o → h'.get? b = some o) → Q (.int ns.sum t') { s with heap := h', toks := tk }) : wpAny (model prog w) A (call (.builtin "sum") [.ref l]) Q E s := by
  obtain ⟨xs, e⟩ := hi.allInts.items
  have hn : numsOf (intItems xs).toList = ns := by rw [← e]; exact hi.numsOf
  rw [nums_intItems] at hn
  rw [e] at hl
  refine sum_intTupG hh hl fun h' tk t' hk => ?_
  have := h h' tk t' hk
  rw [preSum_eq, List.take_of_length_le (by simp), hn]; exact this
end
section
variable {X : Cx} {G : Cfg} {E : XK} {k : Nat}
def rSumT (K : PySem.W.Frag) : List V → Hp → VK → Prop := fun vs H Q => ∃ (a : Addr) (ns : List Int), vs = [V.ref a] ∧ SqT K H a (ns.map V.int) ∧ Q (.int ns.sum) H
theorem cr_sumT (hc : X.calm = true) : CallR X (.builtin "sum") (rSumT X.K) := by
  intro pins s σ H vs us Q I r h
  obtain ⟨a, ns, rfl, hs, q⟩ := h
  obtain ⟨its, rv, hl, _⟩ := I.tuple hs
  rw [Vals.ref1 r]
  exact sum_rawT (I.ok.hd hc) hl rv.ints fun h' tk t' hk => ⟨.int _, H, I.kept hk, ⟨_, rfl⟩, q⟩
def bSumT (xs : List Val) (h : Heap) : Res Val := match xs with
  | [.tup ys] => match optAll asInt ys with
    | some ns => .ok (.int ns.sum) h
    | none => .stuck
  | _ => .stuck
theorem cl_sumT (C : XC G E X k) : CallR X (.builtin "sum") (rSumT G.K) := by have := cr_sumT (X := X) C.calm; rwa [C.K] at this
theorem rl_sumT : RfL G E (rSumT G.K) bSumT := by
  refine ⟨fun r H h xs vs Q hR v p => ?_⟩
  unfold bSumT at p
  split at p
  · cases v with
    | cons q1 q2 =>
      cases q2
      split at p
      · rename_i bs e2
        cases q1 with
        | tup hs hv =>
          rw [all_int hv e2] at hs
          exact ⟨_, bs, rfl, hs, p.here hR (.int _)⟩
      · exact False.elim p
  · exact False.elim p
variable {a : Expr} {ta : TE} {ma : En → Heap → Res Val} {pos : Pos}
/-- what is true, as mt_tr has it -/
theorem tru_of {r1 : List Addr} {H1 : Hp} {h1 : Heap} {x : Val} {v : V} {b : Bool} (hR1 : HR G r1 H1 h1) (v1 : VR G r1 H1 x v) (e : truth x h1 = some b) : TruV G.K v H1 b := by
  cases v1 with
  | non => cases e; rfl
  | bl b => cases e; rfl
  | int i => cases e; rfl
  | str q => cases e
  | tup hs hv =>
    cases e
    cases hv with
    | nil => exact .inr (.inl ⟨_, hs, rfl⟩)
    | cons _ _ => exact .inr (.inl ⟨_, hs, rfl⟩)
  | @ref n a ea =>
    simp only [truth] at e
    split at e
    · rename_i xs eo
      cases e
      cases hR1.ob _ _ _ eo ea with
      | lst hl hv => cases hv <;> exact .inl ⟨_, SqL.of hl, rfl⟩
    · rename_i xs eo
      cases e
      cases hR1.ob _ _ _ eo ea with
      | fls hl hv => cases hv <;> exact .inl ⟨_, hl.sq, rfl⟩
    · rename_i xs eo
      cases e
      cases hR1.ob _ _ _ eo ea with
      | dct hl hv => cases hv <;> exact .inr (.inr ⟨_, hl, rfl⟩)
    · cases e
/-- not x, by truth -/
def mNoT (ma : En → Heap → Res Val) (s : En) (h : Heap) : Res Val := (ma s h).bind fun x h1 => match truth x h1 with
  | some b => .ok (.bl (!b)) h1
  | none => .stuck
theorem me_notT (C : XC G E X k) (h : ME G E X a ta ma) : ME G E X (.UnaryOp .Not a pos) (tNotT G.K ta) (mNoT ma) := by
  refine ⟨?_, ⟨fun r H h' s σ Q hR sR p => h.rf.run r H h' s σ _ hR sR (p.seq fun x h1' r1 H1 v s1 hR1 v1 p1 => ?_)⟩⟩
  · have := pe_notT (pos := pos) h.pe
    rwa [C.K] at this
  · split at p1
    · rename_i b e
      exact ⟨b, tru_of hR1 v1 e, p1.here hR1 (.bl _)⟩
    · exact False.elim p1
end
end PyM

set_option Elab.async false
set_option linter.all false
set_option autoImplicit false
/-! how a model program is reckoned: weakest wishes, as equations for simp -/
namespace PyM

structure K4 where
  nx : En → Heap → Prop
  rt : Val → Heap → Prop
  bk : En → Heap → Prop := fun _ _ => False
  ct : En → Heap → Prop := fun _ _ => False
  ex : Nat → Heap → Prop := fun _ _ => False
def wR {α : Type} (x : Res α) (E : Nat → Heap → Prop) (Q : α → Heap → Prop) : Prop := match x with
  | .ok a h => Q a h
  | .raised c h => E c h
  | .stuck => False
def wS (x : RS) (D : K4) : Prop := match x with
  | .nx s h => D.nx s h
  | .rt v h => D.rt v h
  | .bk s h => D.bk s h
  | .ct s h => D.ct s h
  | .raised c h => D.ex c h
  | .stuck => False
section
variable {α β : Type} {E : Nat → Heap → Prop} {Q : α → Heap → Prop} {D : K4} {s : En} {h : Heap}
@[simp ↓] theorem wR_ok {a : α} : wR (.ok a h) E Q = Q a h := rfl
@[simp ↓] theorem wR_raised {c : Nat} : wR (.raised c h : Res α) E Q = E c h := rfl
@[simp ↓] theorem wR_stuck : wR (.stuck : Res α) E Q = False := rfl
@[simp ↓] theorem wS_nx : wS (.nx s h) D = D.nx s h := rfl
@[simp ↓] theorem wS_rt {v : Val} : wS (.rt v h) D = D.rt v h := rfl
@[simp ↓] theorem wS_bk : wS (.bk s h) D = D.bk s h := rfl
@[simp ↓] theorem wS_ct : wS (.ct s h) D = D.ct s h := rfl
@[simp ↓] theorem wS_raised {c : Nat} : wS (.raised c h) D = D.ex c h := rfl
@[simp ↓] theorem wS_stuck : wS .stuck D = False := rfl
@[simp ↓] theorem wR_bind {x : Res β} {k : β → Heap → Res α} : wR (x.bind k) E Q = wR x E fun b h1 => wR (k b h1) E Q := by cases x <;> rfl
@[simp ↓] theorem wS_thenS {x : Res β} {k : β → Heap → RS} : wS (x.thenS k) D = wR x D.ex fun b h1 => wS (k b h1) D := by cases x <;> rfl
@[simp ↓] theorem wS_bind {x : RS} {k : En → Heap → RS} : wS (x.bind k) D = wS x { D with nx := fun s h => wS (k s h) D } := by cases x <;> rfl
@[simp ↓] theorem wR_ite {c : Prop} [Decidable c] {a b : Res α} : wR (if c then a else b) E Q = if c then wR a E Q else wR b E Q := by split <;> rfl
@[simp ↓] theorem wS_ite {c : Prop} [Decidable c] {a b : RS} : wS (if c then a else b) D = if c then wS a D else wS b D := by split <;> rfl
theorem wR_mono {x : Res α} {Q' : α → Heap → Prop} (w : wR x E Q) (f : ∀ a h, Q a h → Q' a h) : wR x E Q' := by cases x <;> first | exact f _ _ w | exact w
theorem wR_eq {x : Res α} {a : α} (e : x = .ok a h) (q : Q a h) : wR x E Q := by rw [e]; exact q
end
section
variable {E : Nat → Heap → Prop} {Q : Val → Heap → Prop} {QA : List Val → Heap → Prop} {QB : Bool → Heap → Prop} {D : K4} {s : En} {h : Heap} {ma mb mc mo mi me : En → Heap → Res Val} {mA : En → Heap → Res (List Val)} {tu tv : En → Heap → Res Bool} {a b : En → Heap → RS}
@[simp ↓] theorem wR_mK {x : Val} : wR (mK x s h) E Q = Q x h := rfl
@[simp ↓] theorem wR_mV0 {x : Val} : wR (mV 0 (some x :: s) h) E Q = Q x h := rfl
@[simp ↓] theorem wR_mV1 {i : Nat} {o : Option Val} : wR (mV (i + 1) (o :: s) h) E Q = wR (mV i s h) E Q := rfl
@[simp ↓] theorem wR_mB {f : Val → Val → Heap → Res Val} : wR (mB f ma mb s h) E Q = wR (ma s h) E fun x h1 => wR (mb s h1) E fun y h2 => wR (f x y h2) E Q := by unfold mB; simp
@[simp ↓] theorem wR_mU {f : Val → Heap → Res Val} : wR (mU f ma s h) E Q = wR (ma s h) E fun x h1 => wR (f x h1) E Q := by unfold mU; simp
@[simp ↓] theorem wR_mL {f : List Val → Heap → Res Val} : wR (mL f mA s h) E Q = wR (mA s h) E fun x h1 => wR (f x h1) E Q := by unfold mL; simp
@[simp ↓] theorem wR_mNil : wR (mNil s h) E QA = QA [] h := rfl
@[simp ↓] theorem wR_mCons : wR (mCons ma mA s h) E QA = wR (ma s h) E fun x h1 => wR (mA s h1) E fun xs h2 => QA (x :: xs) h2 := by unfold mCons; simp
@[simp ↓] theorem wR_tB : wR (tB_ ma s h) E QB = wR (ma s h) E fun x h1 => (match x with | .bl c => QB c h1 | _ => False) := by
  unfold tB_; simp only [wR_bind]; congr; funext x h1; split <;> simp_all
@[simp ↓] theorem wR_tTr : wR (tTr ma s h) E QB = wR (ma s h) E fun x h1 => (match truth x h1 with | some c => QB c h1 | none => False) := by
  unfold tTr; simp only [wR_bind]; congr; funext x h1; split <;> simp_all
@[simp ↓] theorem wR_tTrue : wR (tTrue s h) E QB = QB true h := rfl
@[simp ↓] theorem wR_tNo : wR (tNo tu s h) E QB = wR (tu s h) E fun c h1 => QB (!c) h1 := by unfold tNo; simp
@[simp ↓] theorem wR_tAn : wR (tAn tu tv s h) E QB = wR (tu s h) E fun c h1 => if c = true then wR (tv s h1) E QB else QB false h1 := by unfold tAn; simp
@[simp ↓] theorem wR_tOr : wR (tOr_ tu tv s h) E QB = wR (tu s h) E fun c h1 => if c = true then QB true h1 else wR (tv s h1) E QB := by unfold tOr_; simp
@[simp ↓] theorem wR_mAn : wR (mAn ma mb s h) E Q = wR (ma s h) E fun x h1 => (match x with | .bl c => if c = true then wR (mb s h1) E Q else Q (.bl false) h1 | _ => False) := by
  unfold mAn; simp only [wR_bind]; congr; funext x h1; split <;> simp_all
@[simp ↓] theorem wR_mOr : wR (mOr_ ma mb s h) E Q = wR (ma s h) E fun x h1 => (match x with | .bl c => if c = true then Q (.bl true) h1 else wR (mb s h1) E Q | _ => False) := by
  unfold mOr_; simp only [wR_bind]; congr; funext x h1; split <;> simp_all
@[simp ↓] theorem wR_mNo : wR (mNo ma s h) E Q = wR (ma s h) E fun x h1 => (match x with | .bl c => Q (.bl (!c)) h1 | _ => False) := by
  unfold mNo; simp only [wR_bind]; congr; funext x h1; split <;> simp_all
@[simp ↓] theorem wR_mIf : wR (mIf tu ma mb s h) E Q = wR (tu s h) E fun c h1 => if c = true then wR (ma s h1) E Q else wR (mb s h1) E Q := by unfold mIf; simp
@[simp ↓] theorem wR_mCh {p q : Int → Int → Bool} : wR (mCh p q ma mb mc s h) E Q = wR (ma s h) E fun x h1 => wR (mb s h1) E fun y h2 => (match x, y with
    | .int i, .int j => if p i j = true then wR (mc s h2) E fun z h3 => (match z with | .int k => Q (.bl (q j k)) h3 | _ => False) else Q (.bl false) h2
    | _, _ => False) := by
  unfold mCh; simp only [wR_bind]; congr; funext x h1; congr; funext y h2; split
  · simp only [wR_ite, wR_bind, wR_ok]
    split
    · congr; funext z h3; split <;> simp_all
    · rfl
  · simp_all
@[simp ↓] theorem wR_mTup : wR (mTup mA s h) E Q = wR (mA s h) E fun xs h1 => xs.length ≤ lim ∧ Q (.tup xs) h1 := by unfold mTup; simp only [wR_bind]; congr; funext x h1; split <;> (simp_all <;> (intros; omega))
@[simp ↓] theorem wR_mLst : wR (mLst mA s h) E Q = wR (mA s h) E fun xs h1 => xs.length ≤ lim ∧ Q (.ref h1.length) (h1 ++ [.lst xs]) := by unfold mLst; simp only [wR_bind]; congr; funext x h1; split <;> (simp_all <;> (intros; omega))
@[simp ↓] theorem wR_mDct : wR (mDct s h) E Q = Q (.ref h.length) (h ++ [.dct []]) := rfl
@[simp ↓] theorem wR_mCall {m : List Val → Heap → Res Val} {ds : List Val} : wR (mCall m ds mA s h) E Q = wR (mA s h) E fun xs h1 => wR (m (xs ++ ds) h1) E Q := by unfold mCall; simp
@[simp ↓] theorem wR_mMeth {c : Nat} {m : List Val → Heap → Res Val} {ds : List Val} : wR (mMeth c m ds mo mA s h) E Q = wR (mo s h) E fun x h1 => isIns c x h1 = true ∧ wR (mA s h1) E fun xs h2 => wR (m (x :: (xs ++ ds)) h2) E Q := by
  unfold mMeth; simp only [wR_bind]; congr; funext x h1; split <;> simp_all
@[simp ↓] theorem wR_mMake {c : Nat} {m : List Val → Heap → Res Val} {ds : List Val} : wR (mMake c m ds mA s h) E Q = wR (mA s h) E fun xs h1 => wR (m (.ref h1.length :: (xs ++ ds)) (h1 ++ [.ins c []])) E fun x h2 => (match x with | .non => Q (.ref h1.length) h2 | _ => False) := by
  unfold mMake; simp only [wR_bind]; congr; funext x h1; congr; funext y h2; split <;> simp_all
@[simp ↓] theorem wR_mSl {p q : En → Heap → Res (Option Int)} : wR (mSl ma p q s h) E Q = wR (ma s h) E fun x h1 => wR (p s h1) E fun lo h2 => wR (q s h2) E fun hi h3 => wR (oSl x lo hi h3) E Q := by unfold mSl; simp
@[simp ↓] theorem wR_pNo {QO : Option Int → Heap → Prop} : wR (pNo s h) E QO = QO none h := rfl
@[simp ↓] theorem wR_pSo {QO : Option Int → Heap → Prop} : wR (pSo ma s h) E QO = wR (ma s h) E fun x h1 => (match x with | .int i => QO (some i) h1 | _ => False) := by
  unfold pSo; simp only [wR_bind]; congr; funext x h1; split <;> simp_all
@[simp ↓] theorem wR_mIsi {T : Ty} : wR (mIsi T ma s h) E Q = wR (ma s h) E fun x h1 => (match isTy T (tyOf x h1) with | some c => Q (.bl c) h1 | none => False) := by
  unfold mIsi; simp only [wR_bind]; congr; funext x h1; split <;> simp_all
@[simp ↓] theorem wR_mBM {f : Val → List Val → Heap → Res Val} : wR (mBM f mo mA s h) E Q = wR (mo s h) E fun x h1 => (seqOf x h1).isSome = true ∧ wR (mA s h1) E fun xs h2 => wR (f x xs h2) E Q := by
  unfold mBM; simp only [wR_bind]; congr; funext x h1; split <;> simp_all
@[simp ↓] theorem wR_mBM0 {f : Val → List Val → Heap → Res Val} : wR (mBM0 f mo s h) E Q = wR (mo s h) E fun x h1 => (seqOf x h1).isSome = true ∧ wR (f x [] h1) E Q := by
  unfold mBM0; simp only [wR_bind]; congr; funext x h1; split <;> simp_all
@[simp ↓] theorem wS_sNx : wS (sNx s h) D = D.nx s h := rfl
@[simp ↓] theorem wS_sBk : wS (sBk s h) D = D.bk s h := rfl
@[simp ↓] theorem wS_sCt : wS (sCt s h) D = D.ct s h := rfl
@[simp ↓] theorem wS_sSeq : wS (sSeq a b s h) D = wS (a s h) { D with nx := fun s h => wS (b s h) D } := by unfold sSeq; simp
@[simp ↓] theorem wS_sDrop : wS (sDrop ma s h) D = wR (ma s h) D.ex fun _ h1 => D.nx s h1 := by unfold sDrop; simp
@[simp ↓] theorem wS_sRet : wS (sRet ma s h) D = wR (ma s h) D.ex fun x h1 => D.rt x h1 := by unfold sRet; simp
@[simp ↓] theorem wS_sRetN : wS (sRetN s h) D = D.rt .non h := rfl
@[simp ↓] theorem wS_sIf : wS (sIf tu a b s h) D = wR (tu s h) D.ex fun c h1 => if c = true then wS (a s h1) D else wS (b s h1) D := by unfold sIf; simp
@[simp ↓] theorem wS_sAsg {g : Val → En → Option En} : wS (sAsg g ma s h) D = wR (ma s h) D.ex fun x h1 => (match g x s with | some s1 => D.nx s1 h1 | none => False) := by
  unfold sAsg; simp only [wS_thenS]; congr; funext x h1; split <;> simp_all
@[simp ↓] theorem wS_sSub : wS (sSub mo mi me s h) D = wR (me s h) D.ex fun x h1 => wR (mo s h1) D.ex fun o h2 => wR (mi s h2) D.ex fun i h3 => wR (oSet o i x h3) D.ex fun _ h4 => D.nx s h4 := by unfold sSub; simp
@[simp ↓] theorem wS_sSubA {f : Val → Val → Heap → Res Val} : wS (sSubA f mo mi me s h) D = wR (mo s h) D.ex fun o h1 => wR (mi s h1) D.ex fun i h2 => wR (oIxM o i h2) D.ex fun x h3 => wR (me s h3) D.ex fun y h4 => wR (f x y h4) D.ex fun z h5 => wR (oSet o i z h5) D.ex fun _ h6 => D.nx s h6 := by unfold sSubA; simp
@[simp ↓] theorem wS_sFld {d f : Nat} : wS (sFld d f mo me s h) D = wR (me s h) D.ex fun x h1 => wR (mo s h1) D.ex fun o h2 => wR (oSetF d f o x h2) D.ex fun _ h3 => D.nx s h3 := by unfold sFld; simp
@[simp ↓] theorem wS_sFldA {d f : Nat} {g : Val → Val → Heap → Res Val} : wS (sFldA d f g mo me s h) D = wR (mo s h) D.ex fun o h1 => isIns d o h1 = true ∧ wR (getF f o h1) D.ex fun x h2 => wR (me s h2) D.ex fun y h3 => wR (g x y h3) D.ex fun z h4 => wR (oSetF d f o z h4) D.ex fun _ h5 => D.nx s h5 := by
  unfold sFldA; simp only [wS_thenS, wR_ite]; congr; funext x h1; split <;> simp_all
@[simp ↓] theorem wS_sAug {i : Nat} {g : Val → Val → Heap → Res Val} : wS (sAug i g me s h) D = (match s[i]? with | some (some x) => wR (me s h) D.ex fun y h1 => wR (g x y h1) D.ex fun z h2 => D.nx (s.set i (some z)) h2 | _ => False) := by
  unfold sAug; split <;> simp_all
@[simp ↓] theorem wS_sRaise {c : Nat} : wS (sRaise c s h) D = D.ex c h := rfl
@[simp ↓] theorem wS_sTry {c : Nat} : wS (sTry c a b s h) D = wS (a s h) { D with ex := fun c' h' => c' = c ∧ wS (b s h') D } := by
  unfold sTry; cases e : a s h <;> (simp <;> (split <;> simp_all))
@[simp ↓] theorem wS_sFor {mi : MI} {g : Val → En → Option En} : wS (sFor mi g a s h) D = wR (mi s h) D.ex fun S h1 => wS (forM_ S.chk g a S.items s h1) D := by unfold sFor; simp
@[simp ↓] theorem wR_iRng1 {QS : Src → Heap → Prop} : wR (iRng1 mA s h) E QS = wR (mA s h) E fun xs h1 => (match xs with | [.int j] => (-(2 ^ 62) ≤ j ∧ j < 2 ^ 62) ∧ QS ⟨rangeV 0 j.toNat, fun _ => true⟩ h1 | _ => False) := by
  unfold iRng1; simp only [wR_bind]; congr; funext x h1; split <;> (simp <;> (split <;> simp_all))
@[simp ↓] theorem wR_iRng2 {QS : Src → Heap → Prop} : wR (iRng2 mA s h) E QS = wR (mA s h) E fun xs h1 => (match xs with | [.int i, .int j] => (-(2 ^ 62) ≤ i ∧ i < 2 ^ 62 ∧ -(2 ^ 62) ≤ j ∧ j < 2 ^ 62) ∧ QS ⟨rangeV i (j - i).toNat, fun _ => true⟩ h1 | _ => False) := by
  unfold iRng2; simp only [wR_bind]; congr; funext x h1; split <;> (simp <;> (split <;> simp_all))
end
theorem ite_and' {c A : Prop} [Decidable c] : (if c then A else False) = (c ∧ A) := by
  by_cases h : c <;> simp [h]
/-! operations by values -/
section
variable {E : Nat → Heap → Prop} {Q : Val → Heap → Prop} {QU : Unit → Heap → Prop} {h : Heap} {a : Nat} {x y : Val} {xs ys : List Val} {i j : Int} {b c : Bool}
@[simp ↓] theorem wR_oI {g : Int → Int → Val} : wR (oI g (.int i) (.int j) h) E Q = Q (g i j) h := rfl
@[simp ↓] theorem wR_oIC {p : Int → Int → Bool} {g : Int → Int → Val} : wR (oIC p g (.int i) (.int j) h) E Q = (p i j = true ∧ Q (g i j) h) := by
  unfold oIC; simp only; split <;> simp_all
@[simp ↓] theorem wR_oAdd : wR (oAdd (.int i) (.int j) h) E Q = Q (.int (i + j)) h := rfl
@[simp ↓] theorem wR_oAddT : wR (oAdd (.tup xs) (.tup ys) h) E Q = (xs.length + ys.length ≤ lim ∧ Q (.tup (xs ++ ys)) h) := by
  unfold oAdd; simp only [wR_ite, wR_ok, wR_stuck, ite_and']
@[simp ↓] theorem wR_oMul : wR (oMul (.int i) (.int j) h) E Q = ((-(2 ^ 64) < j ∧ j < 2 ^ 64 ∨ -(2 ^ 64) < i ∧ i < 2 ^ 64) ∧ Q (.int (i * j)) h) := by
  unfold oMul; simp only [wR_ite, wR_ok, wR_stuck, ite_and']
@[simp ↓] theorem wR_oMulT : wR (oMul (.tup xs) (.int i) h) E Q = ((xs.length ≠ 0 ∧ 2 ≤ i ∧ i ≤ 1000 ∧ xs.length ≤ 1000) ∧ Q (.tup (repV i.toNat xs)) h) := by
  unfold oMul; simp only [wR_ite, wR_ok, wR_stuck, ite_and']
@[simp ↓] theorem wR_oMulL : wR (oMul (.ref a) (.int i) h) E Q = (match h[a]? with | some (.lst xs) => (i ≤ 100000 ∧ -100000 ≤ i ∧ xs.length * i.toNat ≤ lim) ∧ Q (.ref h.length) (h ++ [.lst (repV i.toNat xs)]) | _ => False) := by
  unfold oMul; simp only; split
  · simp only [wR_ite, wR_ok, wR_stuck, ite_and']
    all_goals simp_all
  · simp_all
@[simp ↓] theorem wR_oNeg : wR (oNeg (.int i) h) E Q = Q (.int (-i)) h := rfl
@[simp ↓] theorem wR_oIsN {neg : Bool} : wR (oIsN neg x h) E Q = Q (.bl (match x with | .non => !neg | _ => neg)) h := rfl
@[simp ↓] theorem wR_oEqI {neg : Bool} : wR (oEq neg (.int i) (.int j) h) E Q = Q (.bl (if neg then !(i == j) else i == j)) h := rfl
@[simp ↓] theorem wR_oEqB {neg : Bool} : wR (oEq neg (.bl b) (.bl c) h) E Q = Q (.bl (if neg then !(b == c) else b == c)) h := rfl
@[simp ↓] theorem wR_oEqS {neg : Bool} {m n : Nat} : wR (oEq neg (.str m) (.str n) h) E Q = Q (.bl (if neg then !(m == n) else m == n)) h := rfl
@[simp ↓] theorem wR_oIsB {neg : Bool} : wR (oIsB neg (.bl b) (.bl c) h) E Q = Q (.bl (if neg then !decide (b = c) else decide (b = c))) h := rfl
@[simp ↓] theorem wR_oIsBs {neg b : Bool} {i : Nat} : wR (oIsB neg (.str i) (.bl b) h) E Q = Q (.bl neg) h := rfl
@[simp ↓] theorem wR_oIxT : wR (oIx (.tup xs) (.int i) h) E Q = (match L2.atI xs i with | some v => Q v h | none => False) := by
  unfold oIx; simp only; split <;> simp_all
@[simp ↓] theorem wR_oIxL : wR (oIx (.ref a) (.int i) h) E Q = (match h[a]? with
    | some (.lst xs) => (match L2.atI xs i with | some v => Q v h | none => False)
    | some (.fls xs) => (match L2.atI xs i with | some v => Q v h | none => False)
    | some (.dct d) => (match lookV d (.int i) with | some v => Q v h | none => False)
    | some (.fdc d) => (match lookV d (.int i) with | some v => Q v h | none => False)
    | _ => False) := by
  unfold oIx; simp only [isKey]; split
  · split <;> simp_all
  · split <;> simp_all
  · simp only [if_true]
    split <;> simp_all
  · simp only [if_true]
    split <;> simp_all
  · simp_all
@[simp ↓] theorem wR_oIxM : wR (oIxM (.ref a) y h) E Q = wR (oIx (.ref a) y h) E Q := rfl
@[simp ↓] theorem wR_oSetI : wR (oSet (.ref a) (.int i) x h) E QU = (match h[a]? with
    | some (.lst xs) => (match L2.ixN xs.length i with | some j => QU () (h.set a (.lst (xs.set j x))) | none => False)
    | some (.dct d) => d.length < lim ∧ QU () (h.set a (.dct (putV d (.int i) x)))
    | _ => False) := by
  unfold oSet; simp only [isKey]; split
  · split <;> simp_all
  · simp only [wR_ite, wR_ok, wR_stuck, ite_and']
    all_goals simp_all
  · simp_all
@[simp ↓] theorem wR_getF {f : Nat} : wR (getF f (.ref a) h) E Q = (match h[a]? with | some (.ins _ fs) => (match lookF f fs with | some v => Q v h | none => False) | _ => False) := by
  unfold getF; simp only; split
  · split <;> simp_all
  · simp_all
@[simp ↓] theorem wR_oSetF {d f : Nat} : wR (oSetF d f (.ref a) x h) E QU = (match h[a]? with | some (.ins c fs) => (c = d ∧ fs.length < 1000) ∧ QU () (h.set a (.ins c (setF f x fs))) | _ => False) := by
  unfold oSetF; simp only; split
  · simp only [wR_ite, wR_ok, wR_stuck, ite_and']
    all_goals simp_all
  · simp_all
@[simp ↓] theorem wR_bInt : wR (bInt [.int i] h) E Q = Q (.int i) h := rfl
@[simp ↓] theorem wR_bIntB : wR (bInt [.bl b] h) E Q = Q (.int (if b then 1 else 0)) h := rfl
@[simp ↓] theorem wR_bAbs : wR (bAbs [.int i] h) E Q = Q (.int (if i < 0 then -i else i)) h := rfl
@[simp ↓] theorem wR_bLenT : wR (bLen [.tup xs] h) E Q = Q (.int xs.length) h := rfl
@[simp ↓] theorem wR_bLenL : wR (bLen [.ref a] h) E Q = (match h[a]? with | some (.lst xs) => Q (.int xs.length) h | some (.fls xs) => Q (.int xs.length) h | some (.dct d) => Q (.int d.length) h | _ => False) := by
  unfold bLen; simp only; split <;> simp_all
@[simp ↓] theorem wR_bListT : wR (bList [.tup xs] h) E Q = Q (.ref h.length) (h ++ [.lst xs]) := rfl
@[simp ↓] theorem wR_bListL : wR (bList [.ref a] h) E Q = (match h[a]? with | some (.lst xs) => Q (.ref h.length) (h ++ [.lst xs]) | some (.fls xs) => Q (.ref h.length) (h ++ [.lst xs]) | _ => False) := by
  unfold bList; simp only; split <;> simp_all
@[simp ↓] theorem wR_bTupleT : wR (bTuple [.tup xs] h) E Q = Q (.tup xs) h := rfl
@[simp ↓] theorem wR_bTupleL : wR (bTuple [.ref a] h) E Q = (match h[a]? with | some (.lst xs) => Q (.tup xs) h | some (.fls xs) => Q (.tup xs) h | _ => False) := by
  unfold bTuple; simp only; split <;> simp_all
@[simp ↓] theorem wR_bAppend : wR (bAppend (.ref a) [y] h) E Q = (match h[a]? with | some (.lst xs) => xs.length < lim ∧ Q .non (h.set a (.lst (xs ++ [y]))) | _ => False) := by
  unfold bAppend; simp only; split
  · simp only [wR_ite, wR_ok, wR_stuck, ite_and']
    all_goals simp_all
  · simp_all
end
theorem ixN_cast (n k : Nat) : L2.ixN n (k : Int) = if k < n then some k else none := by
  unfold L2.ixN
  rw [if_pos (by omega)]
  by_cases h : k < n
  · rw [if_pos (by omega), if_pos h]
    simp
  · rw [if_neg (by omega), if_neg h]
theorem atI_cast {α : Type} (xs : List α) (k : Nat) : L2.atI xs (k : Int) = xs[k]? := by
  unfold L2.atI
  rw [ixN_cast]
  split
  · rfl
  · rw [List.getElem?_eq_none (by omega)]
    rfl
theorem atI_nn {α : Type} {xs : List α} {i : Int} (h : 0 ≤ i) : L2.atI xs i = xs[i.toNat]? := by
  obtain ⟨k, rfl⟩ := Int.eq_ofNat_of_zero_le h
  exact atI_cast xs k
theorem ixN_nn {n : Nat} {i : Int} (h : 0 ≤ i) : L2.ixN n i = if i.toNat < n then some i.toNat else none := by
  obtain ⟨k, rfl⟩ := Int.eq_ofNat_of_zero_le h
  exact ixN_cast n k
@[simp] theorem atI_0 {α : Type} (xs : List α) : L2.atI xs 0 = xs[0]? := atI_cast xs 0
@[simp] theorem ixN_0 (n : Nat) : L2.ixN n 0 = if 0 < n then some 0 else none := ixN_cast n 0
@[simp] theorem atI_1 {α : Type} (xs : List α) : L2.atI xs 1 = xs[1]? := atI_cast xs 1
@[simp] theorem ixN_1 (n : Nat) : L2.ixN n 1 = if 1 < n then some 1 else none := ixN_cast n 1
@[simp] theorem atI_2 {α : Type} (xs : List α) : L2.atI xs 2 = xs[2]? := atI_cast xs 2
@[simp] theorem ixN_2 (n : Nat) : L2.ixN n 2 = if 2 < n then some 2 else none := ixN_cast n 2
@[simp] theorem atI_3 {α : Type} (xs : List α) : L2.atI xs 3 = xs[3]? := atI_cast xs 3
@[simp] theorem ixN_3 (n : Nat) : L2.ixN n 3 = if 3 < n then some 3 else none := ixN_cast n 3
@[simp] theorem atI_4 {α : Type} (xs : List α) : L2.atI xs 4 = xs[4]? := atI_cast xs 4
@[simp] theorem ixN_4 (n : Nat) : L2.ixN n 4 = if 4 < n then some 4 else none := ixN_cast n 4
@[simp] theorem atI_5 {α : Type} (xs : List α) : L2.atI xs 5 = xs[5]? := atI_cast xs 5
@[simp] theorem ixN_5 (n : Nat) : L2.ixN n 5 = if 5 < n then some 5 else none := ixN_cast n 5
@[simp] theorem atI_6 {α : Type} (xs : List α) : L2.atI xs 6 = xs[6]? := atI_cast xs 6
@[simp] theorem ixN_6 (n : Nat) : L2.ixN n 6 = if 6 < n then some 6 else none := ixN_cast n 6
@[simp] theorem atI_7 {α : Type} (xs : List α) : L2.atI xs 7 = xs[7]? := atI_cast xs 7
@[simp] theorem ixN_7 (n : Nat) : L2.ixN n 7 = if 7 < n then some 7 else none := ixN_cast n 7
@[simp] theorem atI_8 {α : Type} (xs : List α) : L2.atI xs 8 = xs[8]? := atI_cast xs 8
@[simp] theorem ixN_8 (n : Nat) : L2.ixN n 8 = if 8 < n then some 8 else none := ixN_cast n 8
@[simp] theorem atI_9 {α : Type} (xs : List α) : L2.atI xs 9 = xs[9]? := atI_cast xs 9
@[simp] theorem ixN_9 (n : Nat) : L2.ixN n 9 = if 9 < n then some 9 else none := ixN_cast n 9
/-- what stands at a place -/
theorem at_set {h : Heap} {p : Nat} {o o0 : Obj} (e : h[p]? = some o0) : (h.set p o)[p]? = some o := by
  rw [List.getElem?_set_self (List.getElem?_eq_some_iff.mp e).1]
theorem at_set_ne {h : Heap} {p q : Nat} {o : Obj} (e : p ≠ q) : (h.set p o)[q]? = h[q]? := List.getElem?_set_ne e
theorem at_push {h g : Heap} {p : Nat} {o0 : Obj} (e : h[p]? = some o0) : (h ++ g)[p]? = some o0 := by
  rw [List.getElem?_append_left (List.getElem?_eq_some_iff.mp e).1]
  exact e
/-- a body's run -/
theorem wR_runB {np nl : Nat} {mb : En → Heap → RS} {xs : List Val} {h : Heap} {E : Nat → Heap → Prop} {Q : Val → Heap → Prop} (hl : xs.length = np) :
    wR (runB np nl mb xs h) E Q = wS (mb (xs.map some ++ List.replicate (nl - np) none) h) { nx := fun _ h' => Q .non h', rt := Q, ex := E } := by
  unfold runB
  rw [if_pos hl]
  cases mb (xs.map some ++ List.replicate (nl - np) none) h <;> simp
/-- from the wish to the equation -/
theorem eq_of_wR {α : Type} {x : Res α} {a : α} {h : Heap} (w : wR x (fun _ _ => False) fun b h' => b = a ∧ h' = h) : x = .ok a h := by
  cases x with
  | ok b h' => obtain ⟨rfl, rfl⟩ := w; rfl
  | raised c h' => exact w.elim
  | stuck => exact w.elim
theorem ex_of_wR {α : Type} {x : Res α} {Q : α → Heap → Prop} (w : wR x (fun _ _ => False) Q) : ∃ a h, x = .ok a h ∧ Q a h := by
  cases x with
  | ok b h' => exact ⟨b, h', rfl, w⟩
  | raised c h' => exact w.elim
  | stuck => exact w.elim
/-- a loop by its invariant -/
theorem wS_forM {chk : Heap → Bool} {g : Val → En → Option En} {body : En → Heap → RS} {D : K4} (Inv : Nat → En → Heap → Prop) : ∀ (xs : List Val) (n : Nat) (s : En) (h : Heap), Inv n s h →
    (∀ i x s h, n ≤ i → xs[i - n]? = some x → Inv i s h → chk h = true ∧ ∃ s1, g x s = some s1 ∧ wS (body s1 h) { D with nx := Inv (i + 1), ct := Inv (i + 1), bk := D.nx }) →
    (∀ s h, Inv (n + xs.length) s h → chk h = true ∧ D.nx s h) → wS (forM_ chk g body xs s h) D
  | [], n, s, h, h0, _, hd => by
    unfold forM_
    obtain ⟨c, q⟩ := hd s h h0
    simp [c, q]
  | x :: xs, n, s, h, h0, hs, hd => by
    unfold forM_
    obtain ⟨c, s1, e, w⟩ := hs n x s h (Nat.le_refl _) (by simp) h0
    rw [if_pos c, e]
    have ih := fun s2 h2 q => wS_forM (D := D) Inv xs (n + 1) s2 h2 q (fun i x s h hi hx => hs i x s h (by omega) (by
      have : i - n = (i - (n + 1)) + 1 := by omega
      rw [this]
      simpa using hx)) (fun s h q => hd s h (by
        have : n + (x :: xs).length = n + 1 + xs.length := by simp; omega
        rw [this]
        exact q))
    simp only
    cases eb : body s1 h with
    | nx s2 h2 => rw [eb] at w; exact ih s2 h2 w
    | ct s2 h2 => rw [eb] at w; exact ih s2 h2 w
    | bk s2 h2 => rw [eb] at w; exact w
    | rt v h2 => rw [eb] at w; exact w
    | raised c h2 => rw [eb] at w; exact w
    | stuck => rw [eb] at w; exact w
end PyM
namespace PyM
theorem wRB {np nl : Nat} {mb : En → Heap → RS} {xs : List Val} {h : Heap} {E : Nat → Heap → Prop} {Q : Val → Heap → Prop} (hl : xs.length = np)
    (w : wS (mb (xs.map some ++ List.replicate (nl - np) none) h) { nx := fun _ h' => Q .non h', rt := Q, ex := E }) : wR (runB np nl mb xs h) E Q := by
  rw [wR_runB hl]
  exact w
end PyM
namespace PyM
theorem wS_forM_nil {chk : Heap → Bool} {g : Val → En → Option En} {body : En → Heap → RS} {D : K4} {s : En} {h : Heap} : wS (forM_ chk g body [] s h) D = (chk h = true ∧ D.nx s h) := by
  unfold forM_
  by_cases c : chk h = true <;> simp [c]
theorem wS_forM_cons {chk : Heap → Bool} {g : Val → En → Option En} {body : En → Heap → RS} {D : K4} {s : En} {h : Heap} {x : Val} {xs : List Val} :
    wS (forM_ chk g body (x :: xs) s h) D = (chk h = true ∧ match g x s with
      | some s1 => wS (body s1 h) { D with nx := fun s2 h2 => wS (forM_ chk g body xs s2 h2) D, ct := fun s2 h2 => wS (forM_ chk g body xs s2 h2) D, bk := D.nx }
      | none => False) := by
  rw [forM_]
  by_cases c : chk h = true
  · rw [if_pos c]
    cases e : g x s with
    | none => simp
    | some s1 =>
      simp only [c, true_and]
      cases body s1 h <;> rfl
  · simp [c]
theorem eq_nx {x : RS} {s : En} {h : Heap} (w : wS x { nx := fun s' h' => s' = s ∧ h' = h, rt := fun _ _ => False }) : x = .nx s h := by
  cases x with
  | nx a b => obtain ⟨rfl, rfl⟩ := w; rfl
  | _ => exact w.elim
theorem eq_rt {x : RS} {v : Val} {h : Heap} (w : wS x { nx := fun _ _ => False, rt := fun s' h' => s' = v ∧ h' = h }) : x = .rt v h := by
  cases x with
  | rt a b => obtain ⟨rfl, rfl⟩ := w; rfl
  | _ => exact w.elim
theorem wS_of {x y : RS} {D : K4} (e : x = y) (w : wS y D) : wS x D := by rw [e]; exact w
theorem set_set {h : Heap} {p : Nat} {a b : Obj} : (h.set p a).set p b = h.set p b := List.set_set ..
end PyM
namespace PyM
/-! ### comprehensions -/
theorem wR_lcM {chk : Heap → Bool} {tg : Val → En → Option En} {mt : En → Heap → Res Bool} {me : En → Heap → Res Val} {s0 : En} {n : Nat} {E : Nat → Heap → Prop} {QU : Unit → Heap → Prop} (Inv : Nat → List Val → Heap → Prop) : ∀ (xs : List Val) (k : Nat) (acc : List Val) (h : Heap), Inv k acc h →
    (∀ i x acc h, k ≤ i → xs[i - k]? = some x → Inv i acc h → chk h = true ∧ ∃ s2, tg x s0 = some s2 ∧ wR (mt s2 h) (fun _ _ => False) fun b h1 => if b = true then wR (me s2 h1) (fun _ _ => False) fun y h2 => h2[n]? = some (.lst acc) ∧ acc.length < lim ∧ Inv (i + 1) (acc ++ [y]) (h2.set n (.lst (acc ++ [y]))) else Inv (i + 1) acc h1) →
    (∀ acc h, Inv (k + xs.length) acc h → chk h = true ∧ QU () h) → wR (lcM chk tg mt me s0 n xs h) E QU
  | [], k, acc, h, h0, _, hd => by
    unfold lcM
    obtain ⟨c, q⟩ := hd acc h h0
    simp [c, q]
  | x :: xs, k, acc, h, h0, hs, hd => by
    rw [lcM]
    obtain ⟨c, s2, e, w⟩ := hs k x acc h (Nat.le_refl _) (by simp) h0
    have ih := fun acc h q => wR_lcM (E := E) (QU := QU) Inv xs (k + 1) acc h q (fun i x acc h hi hx => hs i x acc h (by omega) (by
      have : i - k = (i - (k + 1)) + 1 := by omega
      rw [this]
      simpa using hx)) (fun acc h q => hd acc h (by
        have : k + (x :: xs).length = k + 1 + xs.length := by simp; omega
        rw [this]
        exact q))
    rw [if_pos c, e]
    simp only
    cases em : mt s2 h with
    | ok b h1 =>
      rw [em] at w
      simp only [wR_ok] at w
      by_cases hb : b = true
      · subst hb
        rw [if_pos rfl] at w
        simp only [if_true]
        cases ee : me s2 h1 with
        | ok y h2 =>
          rw [ee] at w
          simp only [wR_ok] at w
          obtain ⟨w1, w2, w3⟩ := w
          simp only [w1, w2, if_true]
          exact ih _ _ w3
        | raised a b => rw [ee] at w; exact w.elim
        | stuck => rw [ee] at w; exact w.elim
      · rw [if_neg hb] at w
        simp only [if_neg hb]
        exact ih _ _ w
    | raised a b => rw [em] at w; exact w.elim
    | stuck => rw [em] at w; exact w.elim
@[simp ↓] theorem wR_mLc {mi : MI} {tg : Val → En → Option En} {mt : En → Heap → Res Bool} {me : En → Heap → Res Val} {vs : List Nat} {s : En} {h : Heap} {E : Nat → Heap → Prop} {Q : Val → Heap → Prop} :
    wR (mLc mi tg mt me vs s h) E Q = wR (mi s h) E fun S h1 => wR (lcM S.chk tg mt me (wipeE s vs) h1.length S.items (h1 ++ [.lst []])) E fun _ h2 => Q (.ref h1.length) h2 := by
  unfold mLc
  simp
theorem at_len {h : Heap} {o : Obj} : (h ++ [o])[h.length]? = some o := by simp
theorem set_len {h : Heap} {o o' : Obj} : (h ++ [o]).set h.length o' = h ++ [o'] := by simp
/-- .. where the items leave the heap as it is -/
theorem wR_lcPure {chk : Heap → Bool} {tg : Val → En → Option En} {mt : En → Heap → Res Bool} {me : En → Heap → Res Val} {s0 : En} {E : Nat → Heap → Prop} {QU : Unit → Heap → Prop} {h : Heap} (p : Val → Bool) (f : Val → Val) {xs : List Val} (hl : xs.length < lim)
    (hc : ∀ acc, chk (h ++ [.lst acc]) = true)
    (ht : ∀ x acc, x ∈ xs → ∃ s2, tg x s0 = some s2 ∧ wR (mt s2 (h ++ [.lst acc])) (fun _ _ => False) (fun b h1 => b = p x ∧ h1 = h ++ [.lst acc]) ∧ (p x = true → wR (me s2 (h ++ [.lst acc])) (fun _ _ => False) fun y h2 => y = f x ∧ h2 = h ++ [.lst acc]))
    (q : QU () (h ++ [.lst ((xs.filter p).map f)])) : wR (lcM chk tg mt me s0 h.length xs (h ++ [.lst []])) E QU := by
  refine wR_lcM (fun i acc h' => i ≤ xs.length ∧ acc = ((xs.take i).filter p).map f ∧ h' = h ++ [.lst acc]) xs 0 [] _ ⟨Nat.zero_le _, rfl, rfl⟩ ?_ ?_
  · rintro i x acc h' _ hx ⟨hi, ea, rfl⟩
    simp only [Nat.sub_zero] at hx
    have hlt : i < xs.length := (List.getElem?_eq_some_iff.mp hx).1
    obtain ⟨s2, e, w1, w2⟩ := ht x acc (List.mem_of_getElem? hx)
    refine ⟨hc acc, s2, e, wR_mono w1 ?_⟩
    rintro b h1 ⟨rfl, rfl⟩
    have tk : xs.take (i + 1) = xs.take i ++ [x] := by
      rw [List.take_add_one, hx]
      rfl
    have al : acc.length < lim := by
      rw [ea, List.length_map]
      have := List.length_filter_le p (xs.take i)
      have := List.length_take_le i xs
      omega
    by_cases hp : p x = true
    · rw [if_pos hp]
      refine wR_mono (w2 hp) ?_
      rintro y h2 ⟨rfl, rfl⟩
      refine ⟨at_len, al, hlt, ?_, set_len⟩
      rw [tk, List.filter_append, List.map_append, ← ea]
      simp [hp]
    · rw [if_neg hp]
      refine ⟨hlt, ?_, rfl⟩
      rw [tk, List.filter_append, List.map_append, ← ea]
      simp [hp]
  · rintro acc h' ⟨_, ea, rfl⟩
    refine ⟨hc _, ?_⟩
    rw [ea]
    simpa using q
@[simp ↓] theorem wR_iLst {m : En → Heap → Res Val} {s : En} {h : Heap} {E : Nat → Heap → Prop} {Q : Src → Heap → Prop} : wR (iLst m s h) E Q = wR (m s h) E fun x h1 => (match x with
    | .ref a => (match h1[a]? with | some (.lst xs) => Q ⟨xs, lstIs a xs⟩ h1 | some (.fls xs) => Q ⟨xs, lstIs a xs⟩ h1 | _ => False)
    | _ => False) := by
  unfold iLst
  simp only [wR_bind]
  congr; funext x h1
  split
  · split <;> simp_all
  · simp_all
theorem wR_iAlt {m n : MI} {s : En} {h : Heap} {E : Nat → Heap → Prop} {Q : Src → Heap → Prop} (w : wR (m s h) E Q ∨ (m s h = .stuck ∧ wR (n s h) E Q)) : wR (iAlt m n s h) E Q := by
  unfold iAlt
  rcases w with w | ⟨e, w⟩
  · cases e : m s h with
    | stuck => rw [e] at w; exact w.elim
    | ok a b => rw [e] at w; exact w
    | raised a b => rw [e] at w; exact w
  · rw [e]; exact w
/-- a walked name that holds a list -/
@[simp ↓] theorem wR_iAltV {i : Nat} {s : En} {h : Heap} {E : Nat → Heap → Prop} {Q : Src → Heap → Prop} : wR (iAlt (iLst (mV i)) (iTup_ (mV i)) s h) E Q = (match s[i]? with
    | some (some (.ref a)) => (match h[a]? with | some (.lst xs) => Q ⟨xs, lstIs a xs⟩ h | some (.fls xs) => Q ⟨xs, lstIs a xs⟩ h | _ => False)
    | some (some (.tup xs)) => Q ⟨xs, fun _ => true⟩ h
    | _ => False) := by
  unfold iAlt iLst iTup_ mV
  cases e : s[i]? with
  | none => simp [Res.bind]
  | some o => cases o with
    | none => simp [Res.bind]
    | some x => cases x with
      | ref a =>
        simp only [Res.bind]
        cases e2 : h[a]? with
        | none => simp
        | some o => cases o <;> simp
      | _ => simp [Res.bind]
theorem lstIs_at {a : Nat} {xs : List Val} {h : Heap} (e : h[a]? = some (.lst xs)) : lstIs a xs h = true := by simp [lstIs, e]
@[simp ↓] theorem wR_bAll {a : Nat} {h : Heap} {E : Nat → Heap → Prop} {Q : Val → Heap → Prop} : wR (bAll [.ref a] h) E Q = (match seqOf (.ref a) h with | some ys => (match optAll asBl ys with | some bs => Q (.bl (bs.all id)) h | none => False) | none => False) := by
  first | unfold bAll bSeq | unfold bAny bSeq | unfold bSum bSeq
  simp only
  split
  · split <;> simp_all
  · simp_all
@[simp ↓] theorem wR_bAny {a : Nat} {h : Heap} {E : Nat → Heap → Prop} {Q : Val → Heap → Prop} : wR (bAny [.ref a] h) E Q = (match seqOf (.ref a) h with | some ys => (match optAll asBl ys with | some bs => Q (.bl (bs.any id)) h | none => False) | none => False) := by
  first | unfold bAll bSeq | unfold bAny bSeq | unfold bSum bSeq
  simp only
  split
  · split <;> simp_all
  · simp_all
@[simp ↓] theorem wR_bSum {a : Nat} {h : Heap} {E : Nat → Heap → Prop} {Q : Val → Heap → Prop} : wR (bSum [.ref a] h) E Q = (match seqOf (.ref a) h with | some ys => (match optAll asInt ys with | some bs => Q (.int bs.sum) h | none => False) | none => False) := by
  first | unfold bAll bSeq | unfold bAny bSeq | unfold bSum bSeq
  simp only
  split
  · split <;> simp_all
  · simp_all
theorem optAll_map {α β γ : Type} {f : β → Option γ} {g : α → β} {k : α → γ} (h : ∀ x, f (g x) = some (k x)) : ∀ xs : List α, optAll f (xs.map g) = some (xs.map k)
  | [] => rfl
  | x :: xs => by simp [optAll, h, optAll_map h xs]
theorem seqOf_at {a : Nat} {xs : List Val} {h : Heap} (e : h[a]? = some (.lst xs)) : seqOf (.ref a) h = some xs := by simp [seqOf, e]
end PyM
namespace PyM
theorem wR_lcMap {chk : Heap → Bool} {tg : Val → En → Option En} {me : En → Heap → Res Val} {s0 : En} {E : Nat → Heap → Prop} {QU : Unit → Heap → Prop} {h : Heap} (f : Val → Val) {xs : List Val} (hl : xs.length < lim)
    (hc : ∀ acc, chk (h ++ [.lst acc]) = true)
    (ht : ∀ x acc, x ∈ xs → ∃ s2, tg x s0 = some s2 ∧ wR (me s2 (h ++ [.lst acc])) (fun _ _ => False) fun y h2 => y = f x ∧ h2 = h ++ [.lst acc])
    (q : QU () (h ++ [.lst (xs.map f)])) : wR (lcM chk tg tTrue me s0 h.length xs (h ++ [.lst []])) E QU := by
  refine wR_lcPure (fun _ => true) f hl hc (fun x acc hx => ?_) ?_
  · obtain ⟨s2, e, w⟩ := ht x acc hx
    exact ⟨s2, e, ⟨rfl, rfl⟩, fun _ => w⟩
  · have : xs.filter (fun _ => true) = xs := List.filter_eq_self.mpr (fun _ _ => rfl)
    rw [this]
    exact q
end PyM
namespace PyM
section
variable {E : Nat → Heap → Prop} {Q : Val → Heap → Prop} {h : Heap} {a b : Nat} {lo hi : Option Int} {xs : List Val} {y : Val}
@[simp ↓] theorem wR_oAddL : wR (oAdd (.ref a) (.ref b) h) E Q = (match h[a]?, h[b]? with | some (.lst xs), some (.lst ys) => xs.length + ys.length ≤ lim ∧ Q (.ref h.length) (h ++ [.lst (xs ++ ys)]) | _, _ => False) := by
  unfold oAdd; simp only; split
  · simp only [wR_ite, wR_ok, wR_stuck, ite_and']
    all_goals simp_all
  · simp_all
@[simp ↓] theorem wR_oSlT : wR (oSl (.tup xs) lo hi h) E Q = Q (.tup (cut xs lo hi)) h := rfl
@[simp ↓] theorem wR_oSlL : wR (oSl (.ref a) lo hi h) E Q = (match h[a]? with | some (.lst xs) => Q (.ref h.length) (h ++ [.lst (cut xs lo hi)]) | some (.fls xs) => Q (.ref h.length) (h ++ [.lst (cut xs lo hi)]) | _ => False) := by
  unfold oSl; simp only; split <;> simp_all
@[simp ↓] theorem wR_bCount : wR (bCount (.ref a) [y] h) E Q = (match h[a]? with | some (.lst ys) => (isFlat y = true ∧ ys.all isFlat = true) ∧ Q (.int ((ys.countP fun z => feq z y : Nat) : Int)) h | _ => False) := by
  unfold bCount; simp only; split
  · simp only [wR_ite, wR_ok, wR_stuck, ite_and']
    all_goals simp_all
  · simp_all
end
open PySem L2 in
theorem cut_from {k : Nat} (xs : List Val) : cut xs (some (k : Int)) none = xs.drop k := by
  unfold cut
  rw [HT.sIx_none, HT.sIx_nat]
  by_cases h : k ≤ xs.length
  · rw [Nat.min_eq_left h, List.take_of_length_le (by simp)]
  · rw [Nat.min_eq_right (by omega)]
    simp
    omega
theorem cut_from1 (xs : List Val) : cut xs (some 1) none = xs.drop 1 := cut_from (k := 1) xs
end PyM
namespace PyM
/-! ### == of plain values: no bools, no objects -/
mutual
def Val.d : Val → D
  | .non => .non
  | .bl b => .bl b
  | .int i => .int i
  | .str n => .str n
  | .tup xs => .tup (Val.ds xs)
  | .ref _ => .non
def Val.ds : List Val → List D
  | [] => []
  | x :: xs => x.d :: Val.ds xs
end
def pl : Nat → Val → Bool
  | 0, _ => false
  | n + 1, v => match v with
    | .non => true
    | .int _ => true
    | .str _ => true
    | .tup xs => xs.all (pl n)
    | .bl _ => false
    | .ref _ => false
theorem optAll_ds {f : Val → Option D} : ∀ {xs : List Val}, (∀ x ∈ xs, f x = some x.d) → optAll f xs = some (Val.ds xs)
  | [], _ => rfl
  | x :: xs, h => by
    rw [optAll, h x (by simp), optAll_ds (fun y hy => h y (by simp [hy]))]
    rfl
theorem conv_pl {h : Heap} : ∀ (n : Nat) (x : Val), pl n x = true → conv n h x = some x.d
  | 0, _, e => by simp [pl] at e
  | n + 1, x, e => by
    cases x with
    | tup xs =>
      simp only [pl, List.all_eq_true] at e
      simp only [conv, Val.d]
      rw [optAll_ds (fun y hy => conv_pl n y (e y hy))]
      rfl
    | bl b => simp [pl] at e
    | ref b => simp [pl] at e
    | _ => rfl
mutual
theorem deq_pl : ∀ (x y : Val) (n m : Nat), pl n x = true → pl m y = true → deq x.d y.d = decide (x = y)
  | x, y, 0, _, e, _ => by simp [pl] at e
  | x, y, _, 0, _, e => by simp [pl] at e
  | .tup xs, y, n + 1, m + 1, h1, h2 => by
    cases y with
    | tup ys =>
      simp only [pl] at h1 h2
      simp only [Val.d, deq]
      rw [deqs_pl xs ys n m h1 h2]
      by_cases e : xs = ys <;> simp [e]
    | _ => simp [Val.d, deq]
  | .non, y, n + 1, m + 1, h1, h2 => by cases y <;> simp [Val.d, deq, pl] at h2 ⊢
  | .int i, y, n + 1, m + 1, h1, h2 => by
    cases y with
    | int j => by_cases e : i = j <;> simp [Val.d, deq, e]
    | bl b => simp [pl] at h2
    | _ => simp [Val.d, deq, pl] at h2 ⊢
  | .str i, y, n + 1, m + 1, h1, h2 => by
    cases y with
    | str j => by_cases e : i = j <;> simp [Val.d, deq, e]
    | bl b => simp [pl] at h2
    | _ => simp [Val.d, deq, pl] at h2 ⊢
  | .bl _, y, n + 1, m + 1, h1, h2 => by simp [pl] at h1
  | .ref _, y, n + 1, m + 1, h1, h2 => by simp [pl] at h1
theorem deqs_pl : ∀ (xs ys : List Val) (n m : Nat), xs.all (pl n) = true → ys.all (pl m) = true → deqs (Val.ds xs) (Val.ds ys) = decide (xs = ys)
  | [], [], _, _, _, _ => rfl
  | [], _ :: _, _, _, _, _ => by simp [Val.ds, deqs]
  | _ :: _, [], _, _, _, _ => by simp [Val.ds, deqs]
  | x :: xs, y :: ys, n, m, h1, h2 => by
    rw [List.all_cons, Bool.and_eq_true] at h1 h2
    rw [Val.ds, Val.ds, deqs, deq_pl x y n m h1.1 h2.1, deqs_pl xs ys n m h1.2 h2.2]
    by_cases e : x = y <;> by_cases e2 : xs = ys <;> simp [e, e2]
end
theorem oEq_pl {neg : Bool} {x y : Val} {h : Heap} (hx : pl 60 x = true) (hy : pl 60 y = true) : oEq neg x y h = .ok (.bl (if neg then !decide (x = y) else decide (x = y))) h := by
  unfold oEq
  rw [conv_pl 60 x hx, conv_pl 60 y hy]
  simp only [deq_pl x y 60 60 hx hy]
theorem conv_lst {h : Heap} {a : Nat} {xs : List Val} (ea : h[a]? = some (.lst xs)) (hx : xs.all (pl 59) = true) : conv 60 h (.ref a) = some (.lst (Val.ds xs)) := by
  rw [conv]
  simp only [ea]
  rw [optAll_ds (fun x hx' => conv_pl 59 x (List.all_eq_true.mp hx x hx'))]
  rfl
theorem oEq_lst {neg : Bool} {a b : Nat} {xs ys : List Val} {h : Heap} (ea : h[a]? = some (.lst xs)) (eb : h[b]? = some (.lst ys)) (hx : xs.all (pl 59) = true) (hy : ys.all (pl 59) = true) :
    oEq neg (.ref a) (.ref b) h = .ok (.bl (if neg then !decide (xs = ys) else decide (xs = ys))) h := by
  unfold oEq
  rw [conv_lst ea hx, conv_lst eb hy]
  simp only [deq, deqs_pl xs ys 59 59 hx hy]
end PyM
namespace PyM
def Ext (h h' : Heap) : Prop := ∃ g, h' = h ++ g
theorem Ext.refl (h : Heap) : Ext h h := ⟨[], by simp⟩
theorem Ext.app {h h' : Heap} (e : Ext h h') (g : Heap) : Ext h (h' ++ g) := by
  obtain ⟨k, rfl⟩ := e
  exact ⟨k ++ g, by simp⟩
theorem Ext.set {h h' : Heap} (e : Ext h h') {p : Nat} (hp : h.length ≤ p) (o : Obj) : Ext h (h'.set p o) := by
  obtain ⟨k, rfl⟩ := e
  exact ⟨k.set (p - h.length) o, by rw [List.set_append_right _ _ hp]⟩
theorem Ext.at {h h' : Heap} (e : Ext h h') {p : Nat} {o : Obj} (hp : h[p]? = some o) : h'[p]? = some o := by
  obtain ⟨k, rfl⟩ := e
  exact at_push hp
theorem Ext.trans {a b c : Heap} (x : Ext a b) (y : Ext b c) : Ext a c := by
  obtain ⟨g, rfl⟩ := x
  obtain ⟨k, rfl⟩ := y
  exact ⟨g ++ k, List.append_assoc _ _ _⟩
theorem Ext.le {h h' : Heap} (e : Ext h h') : h.length ≤ h'.length := by
  obtain ⟨k, rfl⟩ := e
  simp
theorem rangeV_length {lo : Int} {n : Nat} : (rangeV lo n).length = n := by simp [rangeV]
/-- a loop over range(n) by its invariant -/
theorem wS_range {g : Val → En → Option En} {body : En → Heap → RS} {D : K4} {n : Nat} {s : En} {h : Heap} (Inv : Nat → En → Heap → Prop) (h0 : Inv 0 s h)
    (hs : ∀ (i : Nat) s h, i < n → Inv i s h → ∃ s1, g (.int (i : Int)) s = some s1 ∧ wS (body s1 h) { D with nx := Inv (i + 1), ct := Inv (i + 1), bk := D.nx })
    (hd : ∀ s h, Inv n s h → D.nx s h) : wS (forM_ (fun _ => true) g body (rangeV 0 n) s h) D := by
  refine wS_forM Inv _ 0 s h h0 (fun i x s h _ hx hi => ⟨rfl, ?_⟩) (fun s h hi => ⟨rfl, hd s h (by rw [Nat.zero_add, rangeV_length] at hi; exact hi)⟩)
  rw [Nat.sub_zero, rangeV_get] at hx
  split at hx
  · rename_i hlt
    cases hx
    rw [Int.zero_add]
    exact hs i s h hlt hi
  · cases hx
end PyM
namespace PyM
theorem lc_at {n : Nat} {h0 h : Heap} {chk : Heap → Bool} {tg : Val → En → Option En} {mt : En → Heap → Res Bool} {me : En → Heap → Res Val} {s0 : En} {E : Nat → Heap → Prop} {QU : Unit → Heap → Prop} {xs : List Val} (hn : n = h.length) (hh : h0 = h ++ [.lst []]) (w : wR (lcM chk tg mt me s0 h.length xs (h ++ [.lst []])) E QU) : wR (lcM chk tg mt me s0 n xs h0) E QU := by
  subst hn hh
  exact w
theorem at_app {h g : Heap} {n : Nat} {o : Obj} (k : Nat) (e : n = h.length + k) (q : g[k]? = some o) : (h ++ g)[n]? = some o := by
  subst e; rw [List.getElem?_append_right (by omega), Nat.add_sub_cancel_left]; exact q
theorem wS_mono {x : RS} {D D' : K4} (w : wS x D) (n : ∀ s h, D.nx s h → D'.nx s h) (r : ∀ v h, D.rt v h → D'.rt v h) (b : ∀ s h, D.bk s h → D'.bk s h) (c : ∀ s h, D.ct s h → D'.ct s h) (e : ∀ k h, D.ex k h → D'.ex k h) : wS x D' := by
  cases x
  · exact n _ _ w
  · exact r _ _ w
  · exact b _ _ w
  · exact c _ _ w
  · exact e _ _ w
  · exact w
end PyM

set_option Elab.async false
set_option linter.all false
set_option autoImplicit false
set_option maxHeartbeats 4000000
/-! frames of heaps, the tape, comprehensions that make room, bits -/
namespace PyM
/-- at most the object p has changed; there may be more objects -/
def Fr (p : Nat) (h h' : Heap) : Prop := h.length ≤ h'.length ∧ ∀ q, q ≠ p → q < h.length → h'[q]? = h[q]?
theorem Fr.refl (p : Nat) (h : Heap) : Fr p h h := ⟨Nat.le_refl _, fun _ _ _ => rfl⟩
theorem Fr.trans {p : Nat} {a b c : Heap} (x : Fr p a b) (y : Fr p b c) : Fr p a c := ⟨Nat.le_trans x.1 y.1, fun q h1 h2 => by rw [y.2 q h1 (Nat.lt_of_lt_of_le h2 x.1), x.2 q h1 h2]⟩
theorem Ext.fr {a b : Heap} (x : Ext a b) (p : Nat) : Fr p a b := by
  obtain ⟨g, rfl⟩ := x
  exact ⟨by simp, fun q _ h2 => List.getElem?_append_left h2⟩
theorem Fr.at {p : Nat} {h h' : Heap} (x : Fr p h h') {q : Nat} {o : Obj} (hq : q ≠ p) (e : h[q]? = some o) : h'[q]? = some o := by
  rw [x.2 q hq (List.getElem?_eq_some_iff.mp e).1]; exact e
theorem Fr.set {p : Nat} {h h' : Heap} (x : Fr p h h') (o : Obj) : Fr p h (h'.set p o) :=
  ⟨by rw [List.length_set]; exact x.1, fun q h1 h2 => by rw [at_set_ne (Ne.symm h1)]; exact x.2 q h1 h2⟩
theorem Fr.push {p : Nat} {h h' : Heap} (x : Fr p h h') (g : Heap) : Fr p h (h' ++ g) := x.trans (Ext.fr ⟨g, rfl⟩ p)
/-- a change of an object that is younger -/
theorem Fr.new {p : Nat} {h h' : Heap} (x : Fr p h h') {q : Nat} (hq : h.length ≤ q) (o : Obj) : Fr p h (h'.set q o) :=
  ⟨by rw [List.length_set]; exact x.1, fun r h1 h2 => by rw [at_set_ne (by omega)]; exact x.2 r h1 h2⟩
theorem at_lt {h : Heap} {q : Nat} {o : Obj} (e : h[q]? = some o) : q < h.length := (List.getElem?_eq_some_iff.mp e).1
/-- the tape of a script -/
def TP (p a : Nat) (ns : List Int) (h : Heap) : Prop := p ≠ a ∧ h[a]? = some (.lst (ns.map Val.int)) ∧ ∃ i r t, 0 ≤ i ∧ h[p]? = some (.lst [.ref a, .int i, .int r, .int t])
theorem TP.ext {p a : Nat} {ns : List Int} {h h' : Heap} (T : TP p a ns h) (x : Ext h h') : TP p a ns h' := by
  obtain ⟨ne, T, i, r, t, i0, e⟩ := T
  exact ⟨ne, x.at T, i, r, t, i0, x.at e⟩
theorem TP.push {p a : Nat} {ns : List Int} {h : Heap} (T : TP p a ns h) (g : Heap) : TP p a ns (h ++ g) := T.ext ⟨g, rfl⟩
theorem TP.fr {p a q : Nat} {ns : List Int} {h h' : Heap} (T : TP p a ns h) (x : Fr q h h') (h1 : p ≠ q) (h2 : a ≠ q) : TP p a ns h' := by
  obtain ⟨ne, T, i, r, t, i0, e⟩ := T
  exact ⟨ne, x.at h2 T, i, r, t, i0, x.at h1 e⟩
theorem TP.set {p a q : Nat} {ns : List Int} {h : Heap} (T : TP p a ns h) (h1 : p ≠ q) (h2 : a ≠ q) (o : Obj) : TP p a ns (h.set q o) := by
  obtain ⟨ne, T, i, r, t, i0, e⟩ := T
  exact ⟨ne, by rw [at_set_ne (Ne.symm h2)]; exact T, i, r, t, i0, by rw [at_set_ne (Ne.symm h1)]; exact e⟩
theorem TP.lt {p a : Nat} {ns : List Int} {h : Heap} (T : TP p a ns h) : p < h.length ∧ a < h.length := by
  obtain ⟨ne, T, i, r, t, i0, e⟩ := T
  exact ⟨at_lt e, at_lt T⟩
def m_next : List Val → Heap → Res Val := runB 2 4
    (sSeq (sAsg (gV 2) (mB oIx (mV 0) (mK (.int 2))))
    (sSeq (sIf (tB_ (mB oGt (mV 2) (mK (.int 0)))) (sSeq (sSub (mV 0) (mK (.int 2)) (mB oFd (mV 2) (mV 1)))
    (sRet (mB oMd (mL bInt (mCons (mV 2) (mNil))) (mV 1)))) (sNx))
    (sSeq (sAsg (gV 3) (mK (.int 0)))
    (sSeq (sIf (tB_ (mB oLt (mB oIx (mV 0) (mK (.int 1))) (mL bLen (mCons (mB oIx (mV 0) (mK (.int 0))) (mNil))))) (sSeq (sAsg (gV 3) (mL bAbs (mCons (mB oIx (mB oIx (mV 0) (mK (.int 0))) (mB oIx (mV 0) (mK (.int 1)))) (mNil))))
    (sSubA (oI fun i j => .int (i + j)) (mV 0) (mK (.int 1)) (mK (.int 1)))) (sNx))
    (sSeq (sIf (tB_ (mB oGe (mV 3) (mB oPw (mK (.int 10)) (mK (.int 18))))) (sSeq (sSub (mV 0) (mK (.int 2)) (mB oFd (mV 3) (mV 1)))
    (sRet (mB oMd (mL bInt (mCons (mV 3) (mNil))) (mV 1)))) (sNx))
    (sSeq (sSub (mV 0) (mK (.int 3)) (mB oMd (mL bInt (mCons (mB oAdd (mB oAdd (mB oMul (mB oIx (mV 0) (mK (.int 3))) (mK (.int 48271))) (mB oMul (mV 3) (mK (.int 69621)))) (mK (.int 11))) (mNil))) (mK (.int 2147483647))))
    (sRet (mB oMd (mL bInt (mCons (mB oFd (mB oMd (mB oMul (mB oIx (mV 0) (mK (.int 3))) (mK (.int 16807))) (mK (.int 2147483647))) (mK (.int 7))) (mNil))) (mV 1)))))))))
theorem TP.next {f : List Val → Heap → Res Val} (hf : f = m_next) {h : Heap} {p a : Nat} {ns : List Int} (T : TP p a ns h) {n : Int} (hn : 0 < n) (hn2 : n < 1073741824) :
    ∃ v h', 0 ≤ v ∧ v < n ∧ f [.ref p, .int n] h = .ok (.int v) h' ∧ TP p a ns h' ∧ Fr p h h' ∧ h'.length = h.length := by
  subst hf
  obtain ⟨ne, ha, i, r, t, hi, hp⟩ := T
  have md : ∀ x : Int, 0 ≤ x % n ∧ x % n < n := fun x => ⟨Int.emod_nonneg _ (by omega), Int.emod_lt_of_pos _ hn⟩
  have mk : ∀ (v i' r' t' : Int), 0 ≤ v → v < n → 0 ≤ i' → ∃ w : Int, 0 ≤ w ∧ w < n ∧ v = w ∧ TP p a ns (h.set p (.lst [.ref a, .int i', .int r', .int t'])) ∧ Fr p h (h.set p (.lst [.ref a, .int i', .int r', .int t'])) ∧ (h.set p (.lst [.ref a, .int i', .int r', .int t'])).length = h.length :=
    fun v i' r' t' v0 vn i0 => ⟨v, v0, vn, rfl, ⟨ne, by rw [at_set_ne ne]; exact ha, i', r', t', i0, at_set hp⟩, (Fr.refl p h).set _, by simp⟩
  have w : wR (m_next [.ref p, .int n] h) (fun _ _ => False) (fun x h' => ∃ w : Int, 0 ≤ w ∧ w < n ∧ x = .int w ∧ TP p a ns h' ∧ Fr p h h' ∧ h'.length = h.length) := by
    unfold m_next
    refine wRB rfl ?_
    have mk' : ∀ (v i' r' t' : Int), 0 ≤ v → v < n → 0 ≤ i' → ∃ w : Int, 0 ≤ w ∧ w < n ∧ Val.int v = .int w ∧ TP p a ns (h.set p (.lst [.ref a, .int i', .int r', .int t'])) ∧ Fr p h (h.set p (.lst [.ref a, .int i', .int r', .int t'])) ∧ (h.set p (.lst [.ref a, .int i', .int r', .int t'])).length = h.length :=
      fun v i' r' t' v0 vn i0 => by obtain ⟨w, a, b, c, d⟩ := mk v i' r' t' v0 vn i0; exact ⟨w, a, b, by rw [c], d⟩
    generalize hQ : (fun (x : Val) (h' : Heap) => ∃ w : Int, 0 ≤ w ∧ w < n ∧ x = .int w ∧ TP p a ns h' ∧ Fr p h h' ∧ h'.length = h.length) = Q
    have mq : ∀ (v i' r' t' : Int), 0 ≤ v → v < n → 0 ≤ i' → Q (.int v) (h.set p (.lst [.ref a, .int i', .int r', .int t'])) := by rw [← hQ]; exact mk'
    by_cases hr : 0 < r
    · simp [hp, ha, hn, hn2, gV, hr, at_set hp]
      exact mq _ _ _ _ (md _).1 (md _).2 hi
    · by_cases hl : i < (ns.length : Int)
      · obtain ⟨z, hz⟩ : ∃ z, ns[i.toNat]? = some z := ⟨_, List.getElem?_eq_getElem (by omega)⟩
        by_cases hc : 1000000000000000000 ≤ (if z < 0 then -z else z)
        · simp [hp, ha, hn, hn2, gV, hr, at_set hp, hl, atI_nn hi, hz, cPow, hc]
          exact mq _ _ _ _ (md _).1 (md _).2 (by omega)
        · simp [hp, ha, hn, hn2, gV, hr, at_set hp, hl, atI_nn hi, hz, cPow, hc]
          exact mq _ _ _ _ (md _).1 (md _).2 (by omega)
      · simp [hp, ha, hn, hn2, gV, hr, at_set hp, hl, cPow]
        exact mq _ _ _ _ (md _).1 (md _).2 (by omega)
  obtain ⟨x, h', e, v, h1, h2, rfl, h3⟩ := ex_of_wR w
  exact ⟨v, h', h1, h2, e, h3⟩
def m_next2 : List Val → Heap → Res Val := runB 2 4
    (sSeq (sAsg (gV 2) (mB oIx (mV 0) (mK (.int 2))))
    (sSeq (sIf (tB_ (mB (oEq false) (mV 2) (mK (.int 0)))) (sSeq (sAsg (gV 3) (mK (.int 0)))
    (sSeq (sIf (tB_ (mB oLt (mB oIx (mV 0) (mK (.int 1))) (mL bLen (mCons (mB oIx (mV 0) (mK (.int 0))) (mNil))))) (sSeq (sAsg (gV 3) (mL bAbs (mCons (mL bInt (mCons (mB oIx (mB oIx (mV 0) (mK (.int 0))) (mB oIx (mV 0) (mK (.int 1)))) (mNil))) (mNil))))
    (sSub (mV 0) (mK (.int 1)) (mB oAdd (mB oIx (mV 0) (mK (.int 1))) (mK (.int 1))))) (sNx))
    (sSeq (sAsg (gV 2) (mV 3))
    (sIf (tB_ (mB oLt (mV 3) (mB oPw (mK (.int 10)) (mK (.int 18))))) (sSeq (sSub (mV 0) (mK (.int 3)) (mB oMd (mL bInt (mCons (mB oAdd (mB oAdd (mB oMul (mB oIx (mV 0) (mK (.int 3))) (mK (.int 69621))) (mB oMul (mV 3) (mK (.int 40692)))) (mK (.int 17))) (mNil))) (mK (.int 2147483647))))
    (sRet (mB oMd (mB oMd (mL bInt (mCons (mB oMul (mB oFd (mB oIx (mV 0) (mK (.int 3))) (mK (.int 5))) (mK (.int 48271))) (mNil))) (mK (.int 2147483647))) (mV 1)))) (sNx))))) (sNx))
    (sSeq (sSub (mV 0) (mK (.int 2)) (mB oFd (mV 2) (mV 1)))
    (sRet (mB oMd (mL bInt (mCons (mV 2) (mNil))) (mV 1))))))
theorem TP.next2 {f : List Val → Heap → Res Val} (hf : f = m_next2) {h : Heap} {p a : Nat} {ns : List Int} (T : TP p a ns h) {n : Int} (hn : 0 < n) (hn2 : n < 1073741824) :
    ∃ v h', 0 ≤ v ∧ v < n ∧ f [.ref p, .int n] h = .ok (.int v) h' ∧ TP p a ns h' ∧ Fr p h h' ∧ h'.length = h.length := by
  subst hf
  obtain ⟨ne, ha, i, r, t, hi, hp⟩ := T
  have md : ∀ x : Int, 0 ≤ x % n ∧ x % n < n := fun x => ⟨Int.emod_nonneg _ (by omega), Int.emod_lt_of_pos _ hn⟩
  have w : wR (m_next2 [.ref p, .int n] h) (fun _ _ => False) (fun x h' => ∃ w : Int, 0 ≤ w ∧ w < n ∧ x = .int w ∧ TP p a ns h' ∧ Fr p h h' ∧ h'.length = h.length) := by
    unfold m_next2
    refine wRB rfl ?_
    have mk' : ∀ (v i' r' t' : Int), 0 ≤ v → v < n → 0 ≤ i' → ∃ w : Int, 0 ≤ w ∧ w < n ∧ Val.int v = .int w ∧ TP p a ns (h.set p (.lst [.ref a, .int i', .int r', .int t'])) ∧ Fr p h (h.set p (.lst [.ref a, .int i', .int r', .int t'])) ∧ (h.set p (.lst [.ref a, .int i', .int r', .int t'])).length = h.length :=
      fun v i' r' t' v0 vn i0 => ⟨v, v0, vn, rfl, ⟨ne, by rw [at_set_ne ne]; exact ha, i', r', t', i0, at_set hp⟩, (Fr.refl p h).set _, by simp⟩
    generalize hQ : (fun (x : Val) (h' : Heap) => ∃ w : Int, 0 ≤ w ∧ w < n ∧ x = .int w ∧ TP p a ns h' ∧ Fr p h h' ∧ h'.length = h.length) = Q
    have mq : ∀ (v i' r' t' : Int), 0 ≤ v → v < n → 0 ≤ i' → Q (.int v) (h.set p (.lst [.ref a, .int i', .int r', .int t'])) := by rw [← hQ]; exact mk'
    by_cases hr : r = 0
    · subst hr
      by_cases hl : i < (ns.length : Int)
      · obtain ⟨z, hz⟩ : ∃ z, ns[i.toNat]? = some z := ⟨_, List.getElem?_eq_getElem (by omega)⟩
        by_cases hc : (if z < 0 then -z else z) < 1000000000000000000
        · simp [hp, ha, hn, hn2, gV, at_set hp, hl, atI_nn hi, hz, cPow, hc]
          exact mq _ _ _ _ (md _).1 (md _).2 (by omega)
        · simp [hp, ha, hn, hn2, gV, at_set hp, hl, atI_nn hi, hz, cPow, hc]
          exact mq _ _ _ _ (md _).1 (md _).2 (by omega)
      · simp [hp, ha, hn, hn2, gV, at_set hp, hl, cPow]
        exact mq _ _ _ _ (md _).1 (md _).2 (by omega)
    · simp [hp, ha, hn, hn2, gV, hr, at_set hp]
      exact mq _ _ _ _ (md _).1 (md _).2 hi
  obtain ⟨x, h', e, v, h1, h2, rfl, h3⟩ := ex_of_wR w
  exact ⟨v, h', h1, h2, e, h3⟩
/-- comprehensions whose items make new objects -/
theorem wR_lcX {chk : Heap → Bool} {tg : Val → En → Option En} {mt : En → Heap → Res Bool} {me : En → Heap → Res Val} {s0 : En} {E : Nat → Heap → Prop} {QU : Unit → Heap → Prop} {h : Heap} (p : Val → Bool) (f : Val → Val) {xs : List Val} (hl : xs.length < lim)
    (hc : ∀ h', Ext h h' → chk h' = true)
    (ht : ∀ x h', x ∈ xs → Ext h h' → ∃ s2, tg x s0 = some s2 ∧ wR (mt s2 h') (fun _ _ => False) (fun b h1 => b = p x ∧ Ext h' h1 ∧ (p x = true → wR (me s2 h1) (fun _ _ => False) fun y h2 => y = f x ∧ Ext h1 h2)))
    (q : ∀ h', Ext h h' → h'[h.length]? = some (.lst ((xs.filter p).map f)) → QU () h') : wR (lcM chk tg mt me s0 h.length xs (h ++ [.lst []])) E QU := by
  refine wR_lcM (fun i acc h' => i ≤ xs.length ∧ acc = ((xs.take i).filter p).map f ∧ Ext h h' ∧ h'[h.length]? = some (.lst acc)) xs 0 [] _ ⟨Nat.zero_le _, rfl, ⟨_, rfl⟩, at_len⟩ ?_ ?_
  · rintro i x acc h' _ hx ⟨hi, ea, ex, el⟩
    simp only [Nat.sub_zero] at hx
    have hlt : i < xs.length := (List.getElem?_eq_some_iff.mp hx).1
    obtain ⟨s2, e, w1⟩ := ht x h' (List.mem_of_getElem? hx) ex
    refine ⟨hc h' ex, s2, e, wR_mono w1 ?_⟩
    rintro b h1 ⟨rfl, x1, w2⟩
    have tk : xs.take (i + 1) = xs.take i ++ [x] := by
      rw [List.take_add_one, hx]
      rfl
    have al : acc.length < lim := by
      rw [ea, List.length_map]
      have := List.length_filter_le p (xs.take i)
      have := List.length_take_le i xs
      omega
    by_cases hp : p x = true
    · rw [if_pos hp]
      refine wR_mono (w2 hp) ?_
      rintro y h2 ⟨rfl, x2⟩
      refine ⟨x2.at (x1.at el), al, hlt, ?_, ((ex.trans x1).trans x2).set (Nat.le_refl _) _, at_set (x2.at (x1.at el))⟩
      rw [tk, List.filter_append, List.map_append, ← ea]
      simp [hp]
    · rw [if_neg hp]
      refine ⟨hlt, ?_, ex.trans x1, x1.at el⟩
      rw [tk, List.filter_append, List.map_append, ← ea]
      simp [hp]
  · rintro acc h' ⟨_, ea, ex, el⟩
    refine ⟨hc _ ex, q h' ex ?_⟩
    rw [el, ea, Nat.zero_add, List.take_length]
theorem wR_lcXm {chk : Heap → Bool} {tg : Val → En → Option En} {me : En → Heap → Res Val} {s0 : En} {E : Nat → Heap → Prop} {QU : Unit → Heap → Prop} {h : Heap} (f : Val → Val) {xs : List Val} (hl : xs.length < lim)
    (hc : ∀ h', Ext h h' → chk h' = true)
    (ht : ∀ x h', x ∈ xs → Ext h h' → ∃ s2, tg x s0 = some s2 ∧ wR (me s2 h') (fun _ _ => False) fun y h2 => y = f x ∧ Ext h' h2)
    (q : ∀ h', Ext h h' → h'[h.length]? = some (.lst (xs.map f)) → QU () h') : wR (lcM chk tg tTrue me s0 h.length xs (h ++ [.lst []])) E QU := by
  refine wR_lcX (fun _ => true) f hl hc (fun x h' hx ex => ?_) ?_
  · obtain ⟨s2, e, w⟩ := ht x h' hx ex
    exact ⟨s2, e, by rw [wR_tTrue]; exact ⟨rfl, Ext.refl _, fun _ => w⟩⟩
  · have : xs.filter (fun _ => true) = xs := List.filter_eq_self.mpr (fun _ _ => rfl)
    rw [this]
    exact q
theorem oEq_self {x : Val} {neg : Bool} {h : Heap} (hx : pl 60 x = true) : oEq neg x x h = .ok (.bl (!neg)) h := by
  rw [oEq_pl hx hx]; cases neg <;> simp
theorem optAll_bl {α : Type} (b : α → Bool) (xs : List α) : optAll asBl (xs.map fun x => Val.bl (b x)) = some (xs.map b) := optAll_map (f := asBl) (g := fun x => Val.bl (b x)) (k := b) (fun _ => rfl) xs
theorem optAll_int {α : Type} (b : α → Int) (xs : List α) : optAll asInt (xs.map fun x => Val.int (b x)) = some (xs.map b) := optAll_map (f := asInt) (g := fun x => Val.int (b x)) (k := b) (fun _ => rfl) xs
/-! bits -/
theorem band (a b : Nat) : PySem.Builtin.bitAnd (a : Int) (b : Int) = ((a &&& b : Nat) : Int) := by
  rw [PyProof.Rows.bitAnd_pp (by omega) (by omega)]; simp
theorem bor (a b : Nat) : PySem.Builtin.bitOr (a : Int) (b : Int) = ((a ||| b : Nat) : Int) := by
  rw [Bits.bitOr_pp (by omega) (by omega)]; simp
theorem bxor (a b : Nat) : PySem.Builtin.bitXor (a : Int) (b : Int) = ((a ^^^ b : Nat) : Int) := by
  rw [Bits.bitXor_pp (by omega) (by omega)]; simp
theorem bit_eq (m b : Nat) : ((m : Int) / 2 ^ b) % 2 = if m.testBit b then 1 else 0 := by
  rw [Nat.testBit_eq_decide_div_mod_eq]
  have e : ((m : Int) / 2 ^ b) % 2 = ((m / 2 ^ b % 2 : Nat) : Int) := by simp
  rw [e]
  have := Nat.mod_two_eq_zero_or_one (m / 2 ^ b)
  rcases this with q | q <;> simp [q]
theorem wS_mono' {x : RS} {D D' : K4} (w : wS x D) (n : ∀ s h, D.nx s h → D'.nx s h) (r : ∀ v h, D.rt v h → D'.rt v h) (b : D.bk = fun _ _ => False) (c : D.ct = fun _ _ => False) (e : D.ex = fun _ _ => False) : wS x D' := by
  refine wS_mono w n r ?_ ?_ ?_
  · rw [b]; exact fun _ _ q => q.elim
  · rw [c]; exact fun _ _ q => q.elim
  · rw [e]; exact fun _ _ q => q.elim
/-- .. the items told by their place -/
theorem wR_lcXi {chk : Heap → Bool} {tg : Val → En → Option En} {me : En → Heap → Res Val} {s0 : En} {E : Nat → Heap → Prop} {QU : Unit → Heap → Prop} {h : Heap} (f : Nat → Val) {xs : List Val} (hl : xs.length < lim)
    (hc : ∀ h', Ext h h' → chk h' = true)
    (ht : ∀ i x h', xs[i]? = some x → Ext h h' → ∃ s2, tg x s0 = some s2 ∧ wR (me s2 h') (fun _ _ => False) fun y h2 => y = f i ∧ Ext h' h2)
    (q : ∀ h', Ext h h' → h'[h.length]? = some (.lst ((List.range xs.length).map f)) → QU () h') : wR (lcM chk tg tTrue me s0 h.length xs (h ++ [.lst []])) E QU := by
  refine wR_lcM (fun i acc h' => i ≤ xs.length ∧ acc = (List.range i).map f ∧ Ext h h' ∧ h'[h.length]? = some (.lst acc)) xs 0 [] _ ⟨Nat.zero_le _, rfl, ⟨_, rfl⟩, at_len⟩ ?_ ?_
  · rintro i x acc h' _ hx ⟨hi, ea, ex, el⟩
    simp only [Nat.sub_zero] at hx
    have hlt : i < xs.length := (List.getElem?_eq_some_iff.mp hx).1
    obtain ⟨s2, e, w1⟩ := ht i x h' hx ex
    refine ⟨hc h' ex, s2, e, ?_⟩
    rw [wR_tTrue, if_pos rfl]
    refine wR_mono w1 ?_
    rintro y h2 ⟨rfl, x2⟩
    have al : acc.length < lim := by
      rw [ea, List.length_map, List.length_range]
      omega
    refine ⟨x2.at el, al, hlt, ?_, (ex.trans x2).set (Nat.le_refl _) _, at_set (x2.at el)⟩
    rw [ea, List.range_succ, List.map_append]
    rfl
  · rintro acc h' ⟨_, ea, ex, el⟩
    refine ⟨hc _ ex, q h' ex ?_⟩
    rw [el, ea, Nat.zero_add]
theorem lookV_put {d : List (Val × Val)} {k v j : Val} : lookV (putV d k v) j = if j = k then some v else lookV d j := by
  unfold putV
  split
  · rename_i h
    induction d with
    | nil => simp at h
    | cons a d ih =>
      obtain ⟨a1, a2⟩ := a
      by_cases e1 : a1 = k
      · subst e1
        by_cases e2 : j = a1
        · subst e2; simp [lookV]
        · have hd : ∀ d : List (Val × Val), List.find? (fun kv => decide (kv.1 = j)) (d.map fun kv => if kv.1 = a1 then (kv.1, v) else kv) = List.find? (fun kv => decide (kv.1 = j)) d := by
            intro d
            induction d with
            | nil => rfl
            | cons b d ih2 =>
              obtain ⟨b1, b2⟩ := b
              by_cases e3 : b1 = a1
              · subst e3
                have hn : ¬ b1 = j := Ne.symm e2
                rw [List.map_cons, if_pos rfl, List.find?_cons, List.find?_cons]
                simp only [hn, decide_false]
                exact ih2
              · by_cases e4 : b1 = j
                · rw [List.map_cons, if_neg e3, List.find?_cons, List.find?_cons]
                  simp only [e4, decide_true]
                · rw [List.map_cons, if_neg e3, List.find?_cons, List.find?_cons]
                  simp only [e4, decide_false]
                  exact ih2
          simp only [lookV]
          rw [hd]
          rw [if_neg e2]
      · have h' : (d.any fun kv => decide (kv.1 = k)) = true := by simpa [e1] using h
        have := ih h'
        by_cases e2 : a1 = j
        · subst e2
          simp [lookV, e1]
        · simp only [lookV, List.map_cons, if_neg e1, List.find?_cons, e2, decide_false] at this ⊢
          exact this
  · rename_i h
    have hn : List.find? (fun kv : Val × Val => decide (kv.1 = k)) d = none := by
      rw [List.find?_eq_none]
      intro x hx hk
      exact h (List.any_eq_true.mpr ⟨x, hx, hk⟩)
    by_cases e2 : j = k
    · subst e2
      simp [lookV, hn]
    · rw [if_neg e2]
      unfold lookV
      rw [List.find?_append]
      simp [Ne.symm e2]
theorem putV_len {d : List (Val × Val)} {k v : Val} : (putV d k v).length ≤ d.length + 1 := by
  unfold putV; split <;> simp
section
variable {E : Nat → Heap → Prop} {Q : Val → Heap → Prop} {h : Heap} {neg : Bool} {x : Val}
@[simp ↓] theorem wR_bMin2 {i j : Int} : wR (bMin2 [.int i, .int j] h) E Q = Q (.int (if j < i then j else i)) h := rfl
@[simp ↓] theorem wR_bMax2 {i j : Int} : wR (bMax2 [.int i, .int j] h) E Q = Q (.int (if j > i then j else i)) h := rfl
theorem oIn_dct {a : Nat} {d : List (Val × Val)} (e : h[a]? = some (.dct d)) (hk : isKey x = true) : oIn neg x (.ref a) h = .ok (.bl (if neg then !(lookV d x).isSome else (lookV d x).isSome)) h := by
  unfold oIn; simp only [e, hk, if_true]
theorem oIn_tup {ys : List Val} (hx : isFlat x = true) (hy : ys.all isFlat = true) : oIn neg x (.tup ys) h = .ok (.bl (if neg then !(ys.any fun z => feq z x) else ys.any fun z => feq z x)) h := by
  unfold oIn; simp only [hx, hy, and_self, if_true]
theorem any_pl (hx : pl 60 x = true) : ∀ ys : List Val, ys.all (pl 59) = true → ((Val.ds ys).any fun z => deq z x.d) = decide (x ∈ ys)
  | [], _ => rfl
  | y :: ys, hy => by
    rw [List.all_cons, Bool.and_eq_true] at hy
    simp only [Val.ds, List.any_cons]
    rw [any_pl hx ys hy.2, deq_pl y x 59 60 hy.1 hx]
    by_cases q : x = y
    · simp [q]
    · simp [q, Ne.symm q]
theorem oIn_pl {a : Nat} {ys : List Val} (e : h[a]? = some (.lst ys)) (hx : pl 60 x = true) (hy : ys.all (pl 59) = true) : oIn neg x (.ref a) h = .ok (.bl (if neg then !decide (x ∈ ys) else decide (x ∈ ys))) h := by
  have e1 : inSeq x h ys = some (decide (x ∈ ys)) := by
    unfold inSeq
    rw [conv_pl 60 x hx, optAll_ds (fun y hy' => conv_pl 59 y (List.all_eq_true.mp hy y hy'))]
    exact congrArg some (any_pl hx ys hy)
  unfold oIn
  simp only [e, e1]
end
theorem cut_both {a b : Nat} (xs : List Val) : cut xs (some (a : Int)) (some (b : Int)) = (xs.take b).drop a := by
  unfold cut
  rw [HT.sIx_nat, HT.sIx_nat, List.drop_take]
  by_cases ha : a ≤ xs.length
  · have e1 : min a xs.length = a := by omega
    rw [e1]
    by_cases hb : b ≤ xs.length
    · rw [show min b xs.length = b by omega]
    · rw [show min b xs.length = xs.length by omega, List.take_of_length_le (by simp), List.take_of_length_le (by simp; omega)]
  · have e1 : min a xs.length = xs.length := by omega
    rw [e1, List.drop_of_length_le (Nat.le_refl _), List.drop_of_length_le (show xs.length ≤ a by omega)]
    simp
theorem cut_to {b : Nat} (xs : List Val) : cut xs none (some (b : Int)) = xs.take b := by
  unfold cut
  rw [HT.sIx_none, HT.sIx_nat]
  by_cases hb : b ≤ xs.length
  · rw [Nat.min_eq_left hb]; simp
  · rw [Nat.min_eq_right (by omega)]
    simp
    rw [List.take_of_length_le (by omega)]
theorem bAll_map {α : Type} {a : Nat} {h : Heap} {xs : List α} {b : α → Bool} (e : h[a]? = some (.lst (xs.map fun x => .bl (b x)))) : bAll [.ref a] h = .ok (.bl (xs.all b)) h := by
  refine eq_of_wR ?_
  rw [wR_bAll]
  simp only [seqOf_at e, optAll_bl]
  simp [List.all_map]
theorem bAny_map {α : Type} {a : Nat} {h : Heap} {xs : List α} {b : α → Bool} (e : h[a]? = some (.lst (xs.map fun x => .bl (b x)))) : bAny [.ref a] h = .ok (.bl (xs.any b)) h := by
  refine eq_of_wR ?_
  rw [wR_bAny]
  simp only [seqOf_at e, optAll_bl]
  simp [List.any_map]
theorem Fr.ext {p : Nat} {h h' : Heap} (x : Fr p h h') (hp : h.length ≤ p) : Ext h h' := by
  refine ⟨h'.drop h.length, ?_⟩
  apply List.ext_getElem?
  intro q
  by_cases hq : q < h.length
  · rw [List.getElem?_append_left hq, x.2 q (by omega) hq]
  · rw [List.getElem?_append_right (by omega), List.getElem?_drop]
    congr 1
    omega
theorem Fr.base {p : Nat} {h h1 h' : Heap} (x : Ext h h1) (y : Fr p h1 h') (hp : h.length ≤ p) : Ext h h' := ((x.fr p).trans y).ext hp
section
variable {E : Nat → Heap → Prop} {Q : Val → Heap → Prop} {h : Heap} {a : Nat} {i : Int}
theorem bPopAt_ok {ys : List Val} (e : h[a]? = some (.lst ys)) (h0 : 0 ≤ i) (h1 : i < ys.length) (h2 : i < 2 ^ 63) {y : Val} (hy : ys[i.toNat]? = some y) : bPopAt (.ref a) [.int i] h = .ok y (h.set a (.lst (ys.eraseIdx i.toNat))) := by
  have e1 : L2.ixN ys.length i = some i.toNat := by rw [ixN_nn h0, if_pos (by omega)]
  have c : -(2 ^ 63) ≤ i ∧ i < 2 ^ 63 := ⟨by omega, h2⟩
  unfold bPopAt
  simp only [e, if_pos c]
  rw [e1]
  simp only [hy]
end
theorem wR_iAltE {m : En → Heap → Res Val} {n : MI} {s : En} {h h1 : Heap} {a : Nat} {xs : List Val} {E : Nat → Heap → Prop} {Q : Src → Heap → Prop} (e : m s h = .ok (.ref a) h1) (el : h1[a]? = some (.lst xs)) (q : Q ⟨xs, lstIs a xs⟩ h1) : wR (iAlt (iLst m) n s h) E Q := by
  refine wR_iAlt (.inl ?_)
  rw [wR_iLst, e]
  simp only [wR_ok, el]
  exact q
end PyM

set_option Elab.async false
set_option linter.all false
set_option autoImplicit false
set_option maxHeartbeats 4000000
/-! frames over lists of places; comprehensions that use the tape -/
namespace PyM
/-- a comprehension whose items use the tape -/
theorem wR_lcT {chk : Heap → Bool} {tg : Val → En → Option En} {me : En → Heap → Res Val} {s0 : En} {E : Nat → Heap → Prop} {QU : Unit → Heap → Prop} {h : Heap} {p a : Nat} {ns : List Int} (T : TP p a ns h) (R : Val → Prop) {xs : List Val} (hl : xs.length < lim)
    (hc : ∀ h', Fr p h h' → chk h' = true)
    (ht : ∀ x h', x ∈ xs → TP p a ns h' → Fr p h h' → ∃ s2, tg x s0 = some s2 ∧ wR (me s2 h') (fun _ _ => False) fun y h2 => R y ∧ TP p a ns h2 ∧ Fr p h' h2)
    (q : ∀ ys h', ys.length = xs.length → (∀ y ∈ ys, R y) → TP p a ns h' → Fr p h h' → h'[h.length]? = some (.lst ys) → QU () h') : wR (lcM chk tg tTrue me s0 h.length xs (h ++ [.lst []])) E QU := by
  have lp := T.lt
  refine wR_lcM (fun i acc h' => i ≤ xs.length ∧ acc.length = i ∧ (∀ y ∈ acc, R y) ∧ TP p a ns h' ∧ Fr p h h' ∧ h'[h.length]? = some (.lst acc)) xs 0 [] _ ⟨Nat.zero_le _, rfl, by simp, T.push _, Ext.fr ⟨_, rfl⟩ p, at_len⟩ ?_ ?_
  · rintro i x acc h' _ hx ⟨hi, ea, hR, T', f', el⟩
    simp only [Nat.sub_zero] at hx
    have hlt : i < xs.length := (List.getElem?_eq_some_iff.mp hx).1
    obtain ⟨s2, e, w1⟩ := ht x h' (List.mem_of_getElem? hx) T' f'
    refine ⟨hc h' f', s2, e, ?_⟩
    rw [wR_tTrue, if_pos rfl]
    refine wR_mono w1 ?_
    rintro y h2 ⟨hy, T2, f2⟩
    have el2 := f2.at (show h.length ≠ p by omega) el
    refine ⟨el2, by omega, hlt, by simp [ea], fun z hz => ?_, T2.set (by omega) (by omega) _, (f'.trans f2).new (Nat.le_refl _) _, at_set el2⟩
    rcases List.mem_append.mp hz with hz | hz
    · exact hR z hz
    · rw [List.mem_singleton.mp hz]; exact hy
  · rintro acc h' ⟨_, ea, hR, T', f', el⟩
    exact ⟨hc _ f', q acc h' (by omega) hR T' f' el⟩
/-- at most the places of S have changed; there may be more objects -/
def Fs (S : List Nat) (h h' : Heap) : Prop := h.length ≤ h'.length ∧ ∀ q, q ∉ S → q < h.length → h'[q]? = h[q]?
theorem Fs.refl (S : List Nat) (h : Heap) : Fs S h h := ⟨Nat.le_refl _, fun _ _ _ => rfl⟩
theorem Fs.trans {S : List Nat} {a b c : Heap} (x : Fs S a b) (y : Fs S b c) : Fs S a c := ⟨Nat.le_trans x.1 y.1, fun q h1 h2 => by rw [y.2 q h1 (Nat.lt_of_lt_of_le h2 x.1), x.2 q h1 h2]⟩
theorem Fs.mono {S S' : List Nat} {a b : Heap} (x : Fs S a b) (s : ∀ q, q ∈ S → q ∈ S') : Fs S' a b := ⟨x.1, fun q h1 h2 => x.2 q (fun m => h1 (s q m)) h2⟩
theorem Ext.fs {a b : Heap} (x : Ext a b) (S : List Nat) : Fs S a b := by
  obtain ⟨g, rfl⟩ := x
  exact ⟨by simp, fun q _ h2 => List.getElem?_append_left h2⟩
theorem Fr.fs {p : Nat} {a b : Heap} (x : Fr p a b) {S : List Nat} (hp : p ∈ S) : Fs S a b := ⟨x.1, fun q h1 h2 => x.2 q (fun e => h1 (e ▸ hp)) h2⟩
theorem Fs.fr {p : Nat} {a b : Heap} (x : Fs [p] a b) : Fr p a b := ⟨x.1, fun q h1 h2 => x.2 q (by simpa using h1) h2⟩
theorem Fs.at {S : List Nat} {h h' : Heap} (x : Fs S h h') {q : Nat} {o : Obj} (hq : q ∉ S) (e : h[q]? = some o) : h'[q]? = some o := by
  rw [x.2 q hq (List.getElem?_eq_some_iff.mp e).1]; exact e
theorem Fs.set {S : List Nat} {h h' : Heap} (x : Fs S h h') {p : Nat} (hp : p ∈ S) (o : Obj) : Fs S h (h'.set p o) :=
  ⟨by rw [List.length_set]; exact x.1, fun q h1 h2 => by rw [at_set_ne (show p ≠ q from fun e => h1 (e ▸ hp))]; exact x.2 q h1 h2⟩
theorem Fs.push {S : List Nat} {h h' : Heap} (x : Fs S h h') (g : Heap) : Fs S h (h' ++ g) := x.trans (Ext.fs ⟨g, rfl⟩ S)
theorem Fs.new {S : List Nat} {h h' : Heap} (x : Fs S h h') {q : Nat} (hq : h.length ≤ q) (o : Obj) : Fs S h (h'.set q o) :=
  ⟨by rw [List.length_set]; exact x.1, fun r h1 h2 => by rw [at_set_ne (by omega)]; exact x.2 r h1 h2⟩
theorem Fs.le {S : List Nat} {h h' : Heap} (x : Fs S h h') : h.length ≤ h'.length := x.1
theorem TP.fs {p a : Nat} {S : List Nat} {ns : List Int} {h h' : Heap} (T : TP p a ns h) (x : Fs S h h') (h1 : p ∉ S) (h2 : a ∉ S) : TP p a ns h' := by
  obtain ⟨ne, T, i, r, t, i0, e⟩ := T
  exact ⟨ne, x.at h2 T, i, r, t, i0, x.at h1 e⟩
/-- frames over younger places close -/
theorem Fs.base {S : List Nat} {h h1 h' : Heap} (x : Ext h h1) (y : Fs S h1 h') (hS : ∀ q, q ∈ S → h.length ≤ q) : Ext h h' := by
  have z := (x.fs S).trans y
  refine ⟨h'.drop h.length, ?_⟩
  apply List.ext_getElem?
  intro q
  by_cases hq : q < h.length
  · rw [List.getElem?_append_left hq, z.2 q (fun m => by have := hS q m; omega) hq]
  · rw [List.getElem?_append_right (by omega), List.getElem?_drop]
    congr 1
    omega
theorem raised_of_wR {α : Type} {x : Res α} {P : Nat → Heap → Prop} (w : wR x P (fun _ _ => False)) : ∃ c h, x = .raised c h ∧ P c h := by
  cases x with
  | raised c h => exact ⟨c, h, rfl, w⟩
  | ok a h => exact w.elim
  | stuck => exact w.elim
@[simp ↓] theorem wR_iTup {m : En → Heap → Res Val} {s : En} {h : Heap} {E : Nat → Heap → Prop} {Q : Src → Heap → Prop} : wR (iTup_ m s h) E Q = wR (m s h) E fun x h1 => (match x with
    | .tup xs => Q ⟨xs, fun _ => true⟩ h1
    | _ => False) := by
  unfold iTup_
  simp only [wR_bind]
  congr; funext x h1
  split <;> simp_all
@[simp ↓] theorem wR_mAlt {a b : En → Heap → Res Val} {s : En} {h : Heap} {E : Nat → Heap → Prop} {Q : Val → Heap → Prop} : wR (mAlt a b s h) E Q = (match a s h with | .stuck => wR (b s h) E Q | x => wR x E Q) := by
  unfold mAlt
  cases a s h <;> rfl
theorem fix_pl {x : Val} (hx : pl 60 x = true) : ∀ {ys : List Val}, ys.all (pl 59) = true → x ∈ ys → fix x.d (Val.ds ys) = some (ys.idxOf x)
  | [], _, hm => by cases hm
  | y :: ys, hy, hm => by
    rw [List.all_cons, Bool.and_eq_true] at hy
    simp only [Val.ds, fix]
    rw [deq_pl y x 59 60 hy.1 hx]
    by_cases e : y = x
    · subst e; simp
    · have e' : ¬ (y == x) = true := by simpa using e
      rw [List.idxOf_cons, if_neg (by simpa using e)]
      have hm' : x ∈ ys := by
        rcases List.mem_cons.mp hm with q | q
        · exact absurd q.symm e
        · exact q
      simp only [fix_pl hx hy.2 hm', beq_eq_false_iff_ne.mpr e]
      rfl
theorem bIndex_pl {x : Val} {ys : List Val} {h : Heap} {a : Nat} (ea : h[a]? = some (.lst ys)) (hx : pl 60 x = true) (hy : ys.all (pl 59) = true) (hm : x ∈ ys) : bIndex (.ref a) [x] h = .ok (.int (ys.idxOf x : Nat)) h := by
  unfold bIndex
  simp only [ea]
  rw [conv_pl 60 x hx, optAll_ds (fun y hy' => conv_pl 59 y (List.all_eq_true.mp hy y hy'))]
  simp only [fix_pl hx hy hm]
end PyM
namespace PyM
section
variable {E : Nat → Heap → Prop} {Q : Val → Heap → Prop} {h : Heap} {D : K4} {s : En}
@[simp ↓] theorem wR_kIn {neg : Bool} {l : List (Nat × Val)} {n : Nat} : wR (kIn neg l (.str n) h) E Q = Q (.bl (if neg then !(lkN l n).isSome else (lkN l n).isSome)) h := rfl
@[simp ↓] theorem wR_kIx {l : List (Nat × Val)} {n : Nat} : wR (kIx l (.str n) h) E Q = (match lkN l n with | some v => Q v h | none => False) := by
  unfold kIx; simp only; split <;> simp_all
@[simp ↓] theorem wR_kGet {l : List (Nat × Val)} {n : Nat} {y : Val} : wR (kGet l (.str n) y h) E Q = Q ((lkN l n).getD y) h := rfl
@[simp ↓] theorem wR_oIxS {tbl : List (Nat × List Nat)} {n : Nat} {i : Int} : wR (oIxS tbl (.str n) (.int i) h) E Q = (match lkS tbl n with | some l => (match L2.atI l i with | some c => Q (.str c) h | none => False) | none => False) := by
  unfold oIxS; simp only; split
  · split <;> simp_all
  · simp_all
@[simp ↓] theorem wR_bLenS {tbl : List (Nat × List Nat)} {n : Nat} : wR (bLenS tbl [.str n] h) E Q = (match lkS tbl n with | some l => Q (.int l.length) h | none => False) := by
  unfold bLenS; simp only; split <;> simp_all
@[simp ↓] theorem wS_sPar2 {i j : Nat} {mA : En → Heap → Res (List Val)} : wS (sPar2 i j mA s h) D = wR (mA s h) D.ex fun xs h1 => (match xs with | [x, y] => D.nx ((s.set i (some x)).set j (some y)) h1 | _ => False) := by
  unfold sPar2; simp only [wS_thenS]; congr; funext xs h1; split <;> simp_all
@[simp ↓] theorem wS_sPar3 {i j l : Nat} {mA : En → Heap → Res (List Val)} : wS (sPar3 i j l mA s h) D = wR (mA s h) D.ex fun xs h1 => (match xs with | [x, y, z] => D.nx (((s.set i (some x)).set j (some y)).set l (some z)) h1 | _ => False) := by
  unfold sPar3; simp only [wS_thenS]; congr; funext xs h1; split <;> simp_all
end
mutual
theorem deq_refl : ∀ d : D, deq d d = true
  | .non => by simp [deq]
  | .bl b => by simp [deq]
  | .int i => by simp [deq]
  | .str n => by simp [deq]
  | .tup xs => by simp only [deq]; exact deqs_refl xs
  | .lst xs => by simp only [deq]; exact deqs_refl xs
theorem deqs_refl : ∀ ds : List D, deqs ds ds = true
  | [] => by simp [deqs]
  | d :: ds => by simp [deqs, deq_refl d, deqs_refl ds]
end
theorem oEq_conv {x y : Val} {h : Heap} {neg : Bool} {d : D} (hx : conv 60 h x = some d) (hy : conv 60 h y = some d) : oEq neg x y h = .ok (.bl (!neg)) h := by
  unfold oEq
  rw [hx, hy]
  simp only [deq_refl]
  cases neg <;> rfl
theorem pl_up {x : Val} : ∀ {n m : Nat}, n ≤ m → pl n x = true → pl m x = true := by
  intro n
  induction n generalizing x with
  | zero => intro m _ e; simp [pl] at e
  | succ n ih =>
    intro m hm e
    obtain ⟨m, rfl⟩ : ∃ k, m = k + 1 := ⟨m - 1, by omega⟩
    cases x with
    | tup xs =>
      simp only [pl, List.all_eq_true] at e ⊢
      exact fun y hy => ih (by omega) (e y hy)
    | bl b => simp [pl] at e
    | ref b => simp [pl] at e
    | _ => rfl
theorem pl_tup {n : Nat} {xs : List Val} (h : ∀ x ∈ xs, pl n x = true) : pl (n + 1) (.tup xs) = true := by
  show xs.all (pl n) = true
  exact List.all_eq_true.mpr h
end PyM

set_option Elab.async false
set_option linter.all false
set_option autoImplicit false
set_option maxHeartbeats 4000000
/-! heaps as lists of places and what stands there, with a frame; wishes for the rules of dicts -/
namespace PyM
abbrev Nodes := List (Nat × Obj)
structure On (l : Nodes) (h : Heap) : Prop where
  nd : (l.map (·.1)).Nodup
  at_ : ∀ p ∈ l, h[p.1]? = some p.2
theorem On.get {l : Nodes} {h : Heap} (o : On l h) {i a : Nat} {x : Obj} (e : l[i]? = some (a, x)) : h[a]? = some x := o.at_ _ (List.mem_of_getElem? e)
theorem On.ext {l : Nodes} {h h' : Heap} (o : On l h) (x : Ext h h') : On l h' := ⟨o.nd, fun p hp => x.at (o.at_ p hp)⟩
theorem On.perm {l l' : Nodes} {h : Heap} (o : On l h) (p : l.Perm l') : On l' h := ⟨(p.map _).nodup_iff.mp o.nd, fun q hq => o.at_ q (p.mem_iff.mpr hq)⟩
theorem On.sub {l l' : Nodes} {h : Heap} (o : On (l ++ l') h) : On l h := ⟨by
  have := o.nd
  rw [List.map_append] at this
  exact (List.nodup_append.mp this).1, fun q hq => o.at_ q (List.mem_append_left _ hq)⟩
theorem On.sub2 {l l' : Nodes} {h : Heap} (o : On (l ++ l') h) : On l' h := (o.perm List.perm_append_comm).sub
theorem On.drop1 {p : Nat × Obj} {l : Nodes} {h : Heap} (o : On (p :: l) h) : On l h := On.sub2 (l := [p]) o
theorem On.lt {l : Nodes} {h : Heap} (o : On l h) {p : Nat × Obj} (hp : p ∈ l) : p.1 < h.length := at_lt (o.at_ p hp)
theorem On.ne {l : Nodes} {h : Heap} (o : On l h) {i j a b : Nat} {x y : Obj} (ei : l[i]? = some (a, x)) (ej : l[j]? = some (b, y)) (hij : i ≠ j) : a ≠ b := fun e => by
  subst e
  have h1 : (l.map (·.1))[i]? = some a := by rw [List.getElem?_map, ei]; rfl
  have h2 : (l.map (·.1))[j]? = some a := by rw [List.getElem?_map, ej]; rfl
  obtain ⟨l1, e1⟩ := List.getElem?_eq_some_iff.mp h1
  obtain ⟨l2, e2⟩ := List.getElem?_eq_some_iff.mp h2
  exact hij ((List.getElem_inj o.nd).mp (e1.trans e2.symm))
/-- one place is written -/
theorem On.set {l : Nodes} {h : Heap} (o : On l h) {i a : Nat} {x : Obj} (e : l[i]? = some (a, x)) (y : Obj) : On (l.set i (a, y)) (h.set a y) := by
  refine ⟨?_, fun p hp => ?_⟩
  · have : (l.set i (a, y)).map (·.1) = l.map (·.1) := by
      apply List.ext_getElem?
      intro j
      rw [List.getElem?_map, List.getElem?_map, List.getElem?_set]
      split
      · rename_i hj
        subst hj
        split
        · rw [e]; rfl
        · rename_i hl
          rw [List.getElem?_eq_none (by omega)]
      · rfl
    rw [this]
    exact o.nd
  · obtain ⟨j, hj⟩ := List.mem_iff_getElem?.mp hp
    rw [List.getElem?_set] at hj
    split at hj
    · split at hj
      · cases hj
        exact at_set (o.get e)
      · cases hj
    · rename_i hij
      obtain ⟨b, z⟩ := p
      show (h.set a y)[b]? = some z
      rw [at_set_ne (o.ne e hj hij)]
      exact o.get hj
theorem nodup_set {α : Type} : ∀ {l : List α} {x : α}, l.Nodup → x ∉ l → ∀ i, (l.set i x).Nodup
  | [], _, _, _, _ => by simp
  | y :: l, x, n, hx, 0 => by
    rw [List.set_cons_zero, List.nodup_cons]
    exact ⟨fun h => hx (List.mem_cons_of_mem _ h), (List.nodup_cons.mp n).2⟩
  | y :: l, x, n, hx, i + 1 => by
    rw [List.set_cons_succ, List.nodup_cons]
    have n' := List.nodup_cons.mp n
    refine ⟨fun h => ?_, nodup_set n'.2 (fun h => hx (List.mem_cons_of_mem _ h)) i⟩
    rcases List.mem_or_eq_of_mem_set h with h | h
    · exact n'.1 h
    · exact hx (by rw [← h]; exact List.mem_cons_self)
/-- another place in the stead of one -/
theorem On.repl {l : Nodes} {h : Heap} (o : On l h) {i a a' : Nat} {x y : Obj} (e : l[i]? = some (a, x)) (ea : h[a']? = some y) (hn : ∀ p ∈ l, p.1 ≠ a') : On (l.set i (a', y)) h := by
  refine ⟨?_, fun p hp => ?_⟩
  · rw [List.map_set]
    have hm : a' ∉ l.map (·.1) := fun hm => by
      obtain ⟨p, hp, q⟩ := List.mem_map.mp hm
      exact hn p hp q
    exact nodup_set o.nd hm _
  · rcases List.mem_or_eq_of_mem_set hp with hp | rfl
    · exact o.at_ p hp
    · exact ea
/-- a new place -/
theorem On.new {l : Nodes} {h : Heap} (o : On l h) (x : Obj) : On ((h.length, x) :: l) (h ++ [x]) := by
  refine ⟨?_, fun p hp => ?_⟩
  · rw [List.map_cons, List.nodup_cons]
    refine ⟨fun hm => ?_, o.nd⟩
    obtain ⟨p, hp, e⟩ := List.mem_map.mp hm
    have := o.lt hp
    have e' : p.1 = h.length := e
    omega
  · rcases List.mem_cons.mp hp with rfl | hp
    · exact at_len
    · exact at_push (o.at_ p hp)
theorem On.newAt {l : Nodes} {h h0 : Heap} (o : On l h) {a : Nat} {x : Obj} (ea : h[a]? = some x) (hl : ∀ p ∈ l, p.1 < h0.length) (ha : h0.length ≤ a) : On ((a, x) :: l) h := by
  refine ⟨?_, fun p hp => ?_⟩
  · rw [List.map_cons, List.nodup_cons]
    refine ⟨fun hm => ?_, o.nd⟩
    obtain ⟨p, hp, e⟩ := List.mem_map.mp hm
    have := hl p hp
    have e' : p.1 = a := e
    omega
  · rcases List.mem_cons.mp hp with rfl | hp
    · exact ea
    · exact o.at_ p hp
/-- with the tape -/
structure Tn (p a : Nat) (ns : List Int) (l : Nodes) (h : Heap) : Prop where
  k : ∃ i r t, 0 ≤ i ∧ On ((p, .lst [.ref a, .int i, .int r, .int t]) :: (a, .lst (ns.map Val.int)) :: l) h
theorem Tn.on {p a : Nat} {ns : List Int} {l : Nodes} {h : Heap} (T : Tn p a ns l h) : On l h := by
  obtain ⟨i, r, t, _, o⟩ := T.k
  exact o.drop1.drop1
theorem Tn.ext {p a : Nat} {ns : List Int} {l : Nodes} {h h' : Heap} (T : Tn p a ns l h) (x : Ext h h') : Tn p a ns l h' := by
  obtain ⟨i, r, t, i0, o⟩ := T.k
  exact ⟨i, r, t, i0, o.ext x⟩
theorem Tn.perm {p a : Nat} {ns : List Int} {l l' : Nodes} {h : Heap} (T : Tn p a ns l h) (q : l.Perm l') : Tn p a ns l' h := by
  obtain ⟨i, r, t, i0, o⟩ := T.k
  exact ⟨i, r, t, i0, o.perm ((q.cons _).cons _)⟩
theorem Tn.tp {p a : Nat} {ns : List Int} {l : Nodes} {h : Heap} (T : Tn p a ns l h) : TP p a ns h := by
  obtain ⟨i, r, t, i0, o⟩ := T.k
  exact ⟨o.ne (i := 0) (j := 1) rfl rfl (by decide), o.get (i := 1) rfl, i, r, t, i0, o.get (i := 0) rfl⟩
theorem Tn.nep {p a : Nat} {ns : List Int} {l : Nodes} {h : Heap} (T : Tn p a ns l h) {q : Nat × Obj} (hq : q ∈ l) : q.1 ≠ p ∧ q.1 ≠ a := by
  obtain ⟨i, r, t, i0, o⟩ := T.k
  obtain ⟨j, hj⟩ := List.mem_iff_getElem?.mp hq
  obtain ⟨b, z⟩ := q
  exact ⟨o.ne (i := j + 2) (j := 0) (by simpa using hj) rfl (by omega), o.ne (i := j + 2) (j := 1) (by simpa using hj) rfl (by omega)⟩
theorem Tn.of {p a : Nat} {ns : List Int} {l : Nodes} {h : Heap} (T : TP p a ns h) (o : On l h) (n : ∀ q ∈ l, q.1 ≠ p ∧ q.1 ≠ a) : Tn p a ns l h := by
  obtain ⟨ne, ha, i, r, t, i0, hp⟩ := T
  refine ⟨i, r, t, i0, ?_, fun q hq => ?_⟩
  · rw [List.map_cons, List.map_cons, List.nodup_cons, List.nodup_cons]
    refine ⟨fun hm => ?_, fun hm => ?_, o.nd⟩
    · rcases List.mem_cons.mp hm with e | hm
      · exact ne e
      · obtain ⟨q, hq, e⟩ := List.mem_map.mp hm
        exact (n q hq).1 e
    · obtain ⟨q, hq, e⟩ := List.mem_map.mp hm
      exact (n q hq).2 e
  · rcases List.mem_cons.mp hq with rfl | hq
    · exact hp
    · rcases List.mem_cons.mp hq with rfl | hq
      · exact ha
      · exact o.at_ q hq
/-- what changes the places of A alone, under any frame -/
theorem Tn.op {p a : Nat} {ns : List Int} {A R : Nodes} {h : Heap} {α : Type} {P : α → Heap → Prop} {A' : α → Nodes} (T : Tn p a ns (A ++ R) h) (f : ∀ R, On (A ++ R) h → ∃ x h', P x h' ∧ On (A' x ++ R) h') : ∃ x h', P x h' ∧ Tn p a ns (A' x ++ R) h' := by
  obtain ⟨i, r, t, i0, o⟩ := T.k
  have pm : ∀ B : Nodes, ((p, Obj.lst [.ref a, .int i, .int r, .int t]) :: (a, .lst (ns.map Val.int)) :: (B ++ R)).Perm (B ++ ((p, .lst [.ref a, .int i, .int r, .int t]) :: (a, .lst (ns.map Val.int)) :: R)) := fun B =>
    (List.perm_append_comm_assoc [(p, Obj.lst [.ref a, .int i, .int r, .int t]), (a, .lst (ns.map Val.int))] B R)
  obtain ⟨x, h', q1, q2⟩ := f _ (o.perm (pm A))
  exact ⟨x, h', q1, i, r, t, i0, q2.perm (pm (A' x)).symm⟩
theorem Tn.nx {p a : Nat} {ns : List Int} {l : Nodes} {h h' : Heap} (T : Tn p a ns l h) (T' : TP p a ns h') (f : Fr p h h') : Tn p a ns l h' :=
  .of T' ⟨T.on.nd, fun q hq => f.at (T.nep hq).1 (T.on.at_ q hq)⟩ fun q hq => T.nep hq
theorem Tn.next {f : List Val → Heap → Res Val} (hf : f = m_next) {h : Heap} {p a : Nat} {ns : List Int} {l : Nodes} (T : Tn p a ns l h) {n : Int} (hn : 0 < n) (hn2 : n < 1073741824) :
    ∃ v h', 0 ≤ v ∧ v < n ∧ f [.ref p, .int n] h = .ok (.int v) h' ∧ Tn p a ns l h' := by
  obtain ⟨v, h', v0, v1, e, T', fr, _⟩ := T.tp.next hf hn hn2
  exact ⟨v, h', v0, v1, e, T.nx T' fr⟩
theorem Tn.next2 {f : List Val → Heap → Res Val} (hf : f = m_next2) {h : Heap} {p a : Nat} {ns : List Int} {l : Nodes} (T : Tn p a ns l h) {n : Int} (hn : 0 < n) (hn2 : n < 1073741824) :
    ∃ v h', 0 ≤ v ∧ v < n ∧ f [.ref p, .int n] h = .ok (.int v) h' ∧ Tn p a ns l h' := by
  obtain ⟨v, h', v0, v1, e, T', fr, _⟩ := T.tp.next2 hf hn hn2
  exact ⟨v, h', v0, v1, e, T.nx T' fr⟩
/-! wishes -/
section
variable {E : Nat → Heap → Prop} {Q : Val → Heap → Prop} {QU : Unit → Heap → Prop} {h : Heap} {D : K4} {s : En} {a : Nat} {x y z : Val} {ks : List Val} {mo my mz me : En → Heap → Res Val} {mk : En → Heap → Res (List Val)}
@[simp ↓] theorem wR_mDctT : wR (mDctT s h) E Q = Q (.ref h.length) (h ++ [.dcT []]) := rfl
@[simp ↓] theorem wR_mGet1 : wR (mGet1 mo my s h) E Q = wR (mo s h) E fun o h1 => isD o h1 = true ∧ wR (my s h1) E fun y h2 => wR (dGet o y .non h2) E Q := by
  unfold mGet1; simp only [wR_bind]; congr; funext o h1; split <;> simp_all
@[simp ↓] theorem wR_mGet2 : wR (mGet2 mo my mz s h) E Q = wR (mo s h) E fun o h1 => isD o h1 = true ∧ wR (my s h1) E fun y h2 => wR (mz s h2) E fun z h3 => wR (dGet o y z h3) E Q := by
  unfold mGet2; simp only [wR_bind]; congr; funext o h1; split <;> simp_all
@[simp ↓] theorem wR_mPop1 : wR (mPop1 mo my s h) E Q = wR (mo s h) E fun o h1 => isD o h1 = true ∧ wR (my s h1) E fun y h2 => wR (dPop1 o y h2) E Q := by
  unfold mPop1; simp only [wR_bind]; congr; funext o h1; split <;> simp_all
@[simp ↓] theorem wR_mPop2 : wR (mPop2 mo my mz s h) E Q = wR (mo s h) E fun o h1 => isD o h1 = true ∧ wR (my s h1) E fun y h2 => wR (mz s h2) E fun z h3 => wR (dPop2 o y z h3) E Q := by
  unfold mPop2; simp only [wR_bind]; congr; funext o h1; split <;> simp_all
@[simp ↓] theorem wR_mIxT : wR (mIxT mo mk s h) E Q = wR (mo s h) E fun o h1 => wR (mk s h1) E fun ks h2 => wR (tIx o ks h2) E Q := by unfold mIxT; simp
@[simp ↓] theorem wR_mInT {neg : Bool} : wR (mInT neg mk mo s h) E Q = wR (mk s h) E fun ks h1 => ks.length ≤ 1000 ∧ wR (mo s h1) E fun o h2 => wR (tIn neg ks o h2) E Q := by
  unfold mInT; simp only [wR_bind]; congr; funext o h1; split <;> (simp_all <;> (intros; omega))
@[simp ↓] theorem wR_mGetT1 : wR (mGetT1 mo mk s h) E Q = wR (mo s h) E fun o h1 => isD o h1 = true ∧ wR (mk s h1) E fun ks h2 => wR (tGet o ks .non h2) E Q := by
  unfold mGetT1; simp only [wR_bind]; congr; funext o h1; split <;> simp_all
@[simp ↓] theorem wR_mGetT2 : wR (mGetT2 mo mk mz s h) E Q = wR (mo s h) E fun o h1 => isD o h1 = true ∧ wR (mk s h1) E fun ks h2 => ks.length ≤ 1000 ∧ wR (mz s h2) E fun z h3 => wR (tGet o ks z h3) E Q := by
  unfold mGetT2; simp only [wR_bind]; congr; funext o h1; split
  · simp only [wR_bind, *, true_and]; congr; funext ks h2; split <;> (simp_all <;> (intros; omega))
  · simp_all
@[simp ↓] theorem wR_mPopT1 : wR (mPopT1 mo mk s h) E Q = wR (mo s h) E fun o h1 => isD o h1 = true ∧ wR (mk s h1) E fun ks h2 => wR (tPop1 o ks h2) E Q := by
  unfold mPopT1; simp only [wR_bind]; congr; funext o h1; split <;> simp_all
@[simp ↓] theorem wR_mPopT2 : wR (mPopT2 mo mk mz s h) E Q = wR (mo s h) E fun o h1 => isD o h1 = true ∧ wR (mk s h1) E fun ks h2 => ks.length ≤ 1000 ∧ wR (mz s h2) E fun z h3 => wR (tPop2 o ks z h3) E Q := by
  unfold mPopT2; simp only [wR_bind]; congr; funext o h1; split
  · simp only [wR_bind, *, true_and]; congr; funext ks h2; split <;> (simp_all <;> (intros; omega))
  · simp_all
@[simp ↓] theorem wS_sSubT : wS (sSubT mo mk me s h) D = wR (me s h) D.ex fun v h1 => wR (mo s h1) D.ex fun o h2 => wR (mk s h2) D.ex fun ks h3 => wR (tSet o ks v h3) D.ex fun _ h4 => D.nx s h4 := by unfold sSubT; simp
theorem isD_dct {d : List (Val × Val)} (e : h[a]? = some (.dct d)) : isD (.ref a) h = true := by simp [isD, e]
theorem isD_dcT {d : List (Val × Val)} (e : h[a]? = some (.dcT d)) : isD (.ref a) h = true := by simp [isD, e]
theorem dGet_at {d : List (Val × Val)} (e : h[a]? = some (.dct d)) (hk : isKey y = true) : dGet (.ref a) y z h = .ok ((lookV d y).getD z) h := by simp [dGet, e, hk]
theorem dPop1_at {d : List (Val × Val)} (e : h[a]? = some (.dct d)) (hk : isKey y = true) (hy : lookV d y = some x) : dPop1 (.ref a) y h = .ok x (h.set a (.dct (dropV d y))) := by simp [dPop1, e, hk, hy]
theorem tLook_at {d : List (Val × Val)} (e : h[a]? = some (.dcT d)) (hk : keysOk ks = true) : tLook (.ref a) ks h = some (lookV d (.tup ks)) := by simp [tLook, e, hk]
theorem tIx_at {d : List (Val × Val)} (e : h[a]? = some (.dcT d)) (hk : keysOk ks = true) (hy : lookV d (.tup ks) = some x) : tIx (.ref a) ks h = .ok x h := by simp [tIx, tLook_at e hk, hy]
theorem tIn_at {d : List (Val × Val)} {neg : Bool} (e : h[a]? = some (.dcT d)) (hk : keysOk ks = true) : tIn neg ks (.ref a) h = .ok (.bl (if neg then !(lookV d (.tup ks)).isSome else (lookV d (.tup ks)).isSome)) h := by simp [tIn, tLook_at e hk]
theorem tGet_at {d : List (Val × Val)} (e : h[a]? = some (.dcT d)) (hk : keysOk ks = true) : tGet (.ref a) ks z h = .ok ((lookV d (.tup ks)).getD z) h := by simp [tGet, tLook_at e hk]
theorem tPop1_at {d : List (Val × Val)} (e : h[a]? = some (.dcT d)) (hk : keysOk ks = true) (hy : lookV d (.tup ks) = some x) : tPop1 (.ref a) ks h = .ok x (h.set a (.dcT (dropV d (.tup ks)))) := by simp [tPop1, tLook_at e hk, hy, tDrop, e]
theorem tSet_at {d : List (Val × Val)} (e : h[a]? = some (.dcT d)) (hk : keysOk ks = true) (hl : d.length < lim) : tSet (.ref a) ks x h = .ok () (h.set a (.dcT (putV d (.tup ks) x))) := by simp [tSet, e, hk, hl]
end
theorem lookV_drop {d : List (Val × Val)} {k j : Val} : lookV (dropV d k) j = if j = k then none else lookV d j := by
  unfold lookV dropV
  by_cases e : j = k
  · rw [if_pos e, List.find?_eq_none.mpr]
    · rfl
    · intro x hx
      have := (List.mem_filter.mp hx).2
      simp only [decide_eq_true_eq] at this ⊢
      rw [e]; exact this
  · rw [if_neg e]
    congr 1
    rw [List.find?_filter]
    congr 1
    funext x
    by_cases q : x.1 = j
    · simp [q, e]
    · simp [q]
theorem dropV_none {d : List (Val × Val)} {k : Val} (e : lookV d k = none) : dropV d k = d := by
  unfold lookV at e
  unfold dropV
  rw [List.filter_eq_self]
  intro x hx
  simp only [Option.map_eq_none_iff, List.find?_eq_none] at e
  have := e x hx
  simpa using this
theorem dropV_len {d : List (Val × Val)} {k : Val} : (dropV d k).length ≤ d.length := List.length_filter_le ..
/-- d.pop(k, x): the dict without k, whether it was there or not -/
theorem tPop2_at {d : List (Val × Val)} {h : Heap} {a : Nat} {ks : List Val} {z : Val} (e : h[a]? = some (.dcT d)) (hk : keysOk ks = true) : tPop2 (.ref a) ks z h = .ok ((lookV d (.tup ks)).getD z) (h.set a (.dcT (dropV d (.tup ks)))) := by
  unfold tPop2
  rw [tLook_at e hk]
  cases q : lookV d (.tup ks) with
  | some v => simp [tDrop, e]
  | none =>
    have : h.set a (.dcT (dropV d (.tup ks))) = h := by
      rw [dropV_none q]
      apply List.ext_getElem?
      intro i
      rw [List.getElem?_set]
      split
      · rename_i hi
        subst hi
        rw [if_pos (at_lt e), e]
      · rfl
    simp [this]
end PyM
namespace PyM
/-- while, by an invariant with a measure -/
theorem wS_whM {c : En → Heap → Res Bool} {body : En → Heap → RS} {D : K4} (Inv : Nat → En → Heap → Prop)
    (hs : ∀ m s h, Inv m s h → wR (c s h) D.ex fun b h1 => if b = true then wS (body s h1) { D with nx := fun s' h' => ∃ m' < m, Inv m' s' h', ct := fun s' h' => ∃ m' < m, Inv m' s' h', bk := D.nx } else D.nx s h1) :
    ∀ (n m : Nat) (s : En) (h : Heap), m < n → Inv m s h → wS (whM c body n s h) D
  | 0, m, _, _, hm, _ => by omega
  | n + 1, m, s, h, hm, hi => by
    have w := hs m s h hi
    unfold whM
    cases e : c s h with
    | ok b h1 =>
      rw [e] at w
      simp only [wR_ok] at w
      cases b with
      | false => simpa using w
      | true =>
        simp only [Res.thenS, if_true] at w ⊢
        cases eb : body s h1 with
        | nx s2 h2 =>
          rw [eb] at w
          obtain ⟨m', h1, h2'⟩ := w
          exact wS_whM Inv hs n m' _ _ (by omega) h2'
        | ct s2 h2 =>
          rw [eb] at w
          obtain ⟨m', h1, h2'⟩ := w
          exact wS_whM Inv hs n m' _ _ (by omega) h2'
        | bk s2 h2 => rw [eb] at w; exact w
        | rt v h2 => rw [eb] at w; exact w
        | raised a h2 => rw [eb] at w; exact w
        | stuck => rw [eb] at w; exact w
    | raised a h1 => rw [e] at w; exact w
    | stuck => rw [e] at w; exact w
end PyM

set_option Elab.async false
set_option linter.all false
set_option autoImplicit false
set_option maxHeartbeats 4000000
/-! wishes for loops over dicts; heaps with a new end -/
namespace PyM
section
variable {h : Heap} {D : K4} {s : En} {me : En → Heap → Res Val} {tg : Val → En → Option En} {body : En → Heap → RS} {n : Nat}
theorem wS_unlS {x : RS} : wS (unlS n x) D = wS x { nx := fun s' h' => (match unlH n h' with | some h2 => D.nx s' h2 | none => False), rt := fun v h' => (match unlH n h' with | some h2 => D.rt v h2 | none => False) } := by
  cases x with
  | nx a b => simp only [unlS, wS_nx]; split <;> simp_all
  | rt a b => simp only [unlS, wS_rt]; split <;> simp_all
  | _ => rfl
@[simp ↓] theorem wS_sForD : wS (sForD me tg body s h) D = wR (me s h) D.ex fun x h1 => (match x with
    | .ref n => (match lockD n h1 with
      | some (ks, h2) => wS (forM_ (fun _ => true) tg body ks s h2) { nx := fun s' h' => (match unlH n h' with | some h2 => D.nx s' h2 | none => False), rt := fun v h' => (match unlH n h' with | some h2 => D.rt v h2 | none => False) }
      | none => False)
    | _ => False) := by
  unfold sForD
  simp only [wS_thenS]
  congr; funext x h1
  cases x with
  | ref m =>
    simp only
    cases e : lockD m h1 with
    | none => rfl
    | some p => obtain ⟨ks, h2⟩ := p; exact wS_unlS
  | _ => rfl
theorem lockD_dct {d : List (Val × Val)} (e : h[n]? = some (.dct d)) : lockD n h = some (d.map (·.1), h.set n (.fdc d)) := by simp [lockD, e]
theorem lockD_dcT {d : List (Val × Val)} (e : h[n]? = some (.dcT d)) : lockD n h = some (d.map (·.1), h.set n (.fdT d)) := by simp [lockD, e]
theorem unlH_fdc {d : List (Val × Val)} (e : h[n]? = some (.fdc d)) : unlH n h = some (h.set n (.dct d)) := by simp [unlH, e]
theorem unlH_fdT {d : List (Val × Val)} (e : h[n]? = some (.fdT d)) : unlH n h = some (h.set n (.dcT d)) := by simp [unlH, e]
end
end PyM

set_option Elab.async false
set_option linter.all false
set_option autoImplicit false
set_option maxRecDepth 100000
set_option maxHeartbeats 4000000
/-! == and != of lists, tuples and dicts (keys whole numbers) in one another; more rules for dicts and lists -/
namespace PyM
open PySem L2

def isIV : Val → Bool
  | .int _ => true
  | _ => false
def hitsM (f : Val → Val → Option Bool) (e : List (Val × Val)) : List (Val × Val) → Option Bool
  | [] => some true
  | (k, v) :: r => match lookV e k with
    | none => some false
    | some u => match f v u, hitsM f e r with
      | some b1, some b2 => some (b1 && b2)
      | _, _ => none
def eqStep (f : Val → Val → Option Bool) (h : Heap) (x y : Val) : Option Bool := match x, y with
  | .tup xs, .tup ys => match optAll (fun p : Val × Val => f p.1 p.2) (xs.zip ys) with
    | some bs => some (bs.all id && xs.length == ys.length)
    | none => none
  | .ref a, .ref b => match h[a]?, h[b]? with
    | some (.lst xs), some (.lst ys) => if xs.length = ys.length then (match optAll (fun p : Val × Val => f p.1 p.2) (xs.zip ys) with
      | some bs => some (bs.all id)
      | none => none) else some false
    | some (.dct d), some (.dct e) => if d.all (fun kv => isIV kv.1) = true ∧ e.all (fun kv => isIV kv.1) = true then (if d.length = e.length then hitsM f e d else some false) else none
    | _, _ => none
  | _, _ => none
def eqH : Nat → Heap → Val → Val → Option Bool
  | 0, _, _, _ => none
  | n + 1, h, x, y => match conv 40 h x, conv 40 h y with
    | some d, some e => some (deq d e)
    | _, _ => match x, y with
      | .ref a, .ref b => if a = b then some true else eqStep (eqH n h) h (.ref a) (.ref b)
      | x, y => eqStep (eqH n h) h x y
def oEqH (neg : Bool) (x y : Val) (h : Heap) : Res Val := match conv 40 h x, conv 40 h y with
  | some d, some e => .ok (.bl (if neg then !deq d e else deq d e)) h
  | _, _ => match x, y with
    | .ref a, .ref b => if a = b then .stuck else (match eqStep (eqH 20 h) h (.ref a) (.ref b) with
      | some b => .ok (.bl (if neg then !b else b)) h
      | none => .stuck)
    | x, y => match eqStep (eqH 20 h) h x y with
      | some b => .ok (.bl (if neg then !b else b)) h
      | none => .stuck

section
variable {G : Cfg} {r : List Addr} {H : Hp} {h : Heap} {X : Cx} {pins : List (Addr × PySem.Obj)} {s : Shared} {σ : St}
theorem same_all {α : Type} {g : Val → Option α} (k : ∀ x y v d e, VR G r H x v → VR G r H y v → g x = some d → g y = some e → d = e) : ∀ (xs ys : List Val) (vs : List V) (ds es : List α), VRs G r H xs vs → VRs G r H ys vs → optAll g xs = some ds → optAll g ys = some es → ds = es := by
  intro xs
  induction xs with
  | nil =>
    intro ys vs ds es a b e1 e2
    cases a
    cases b
    simp [optAll] at e1 e2
    subst e1; subst e2; rfl
  | cons x xs ih =>
    intro ys vs ds es a b e1 e2
    cases a with
    | cons a1 a2 =>
      cases b with
      | cons b1 b2 =>
        simp only [optAll] at e1 e2
        split at e1
        · rename_i d1 l1 q1 q2
          split at e2
          · rename_i d2 l2 q3 q4
            cases e1
            cases e2
            rw [k _ _ _ _ _ a1 b1 q1 q3, ih _ _ _ _ a2 b2 q2 q4]
          · cases e2
        · cases e1
/-- what stands at an address, if a list -/
theorem list_at (R : HR G r H h) {n : Nat} {a : Addr} {xs : List Val} (ha : r[n]? = some a) (e : h[n]? = some (.lst xs) ∨ h[n]? = some (.fls xs)) : ∃ vs, SqL G.K H a vs ∧ VRs G r H xs vs := by
  rcases e with e | e
  · cases R.ob _ _ _ e ha with
    | lst hl hv => exact ⟨_, SqL.of hl, hv⟩
  · cases R.ob _ _ _ e ha with
    | fls hl hv => exact ⟨_, hl.sq, hv⟩
theorem tl_not (I : Inv X pins σ H s) {a : Addr} {xs ys : List V} (h1 : SqT X.K H a xs) (h2 : SqL X.K H a ys) : False := by
  obtain ⟨_, _, ⟨o, e, c, _⟩, _⟩ := I.tuple h1
  obtain ⟨_, _, ⟨o', n, e', c', _⟩, _⟩ := I.list h2
  rw [e] at e'
  cases e'
  rw [c] at c'
  exact absurd (Value.type.inj c') (by decide)
theorem conv_same (ok : G.Ok) (hK : X.K = G.K) (I : Inv X pins σ H s) (R : HR G r H h) : ∀ (n : Nat) (x y : Val) (v : V) (d e : D), VR G r H x v → VR G r H y v → conv n h x = some d → conv n h y = some e → d = e
  | 0, _, _, _, _, _, _, _, e1, _ => by simp [conv] at e1
  | n + 1, x, y, v, d, e, q1, q2, e1, e2 => by
    have ih := fun x y v d e => conv_same ok hK I R n x y v d e
    have seqs : ∀ {xs ys : List Val} {vs : List V} {ds es : List D}, VRs G r H xs vs → VRs G r H ys vs → optAll (conv n h) xs = some ds → optAll (conv n h) ys = some es → ds = es := fun a b c d => same_all ih _ _ _ _ _ a b c d
    have reft : ∀ {m : Nat} {a : Addr} {d : D}, r[m]? = some a → conv (n + 1) h (.ref m) = some d → ∃ xs vs ds, SqL G.K H a vs ∧ VRs G r H xs vs ∧ optAll (conv n h) xs = some ds ∧ d = .lst ds := by
      intro m a d ha e
      simp only [conv] at e
      split at e
      · rename_i xs eo
        obtain ⟨ds, e1, rfl⟩ := Option.map_eq_some_iff.mp e
        obtain ⟨vs, p1, p2⟩ := list_at R ha (.inl eo)
        exact ⟨xs, vs, ds, p1, p2, e1, rfl⟩
      · rename_i xs eo
        obtain ⟨ds, e1, rfl⟩ := Option.map_eq_some_iff.mp e
        obtain ⟨vs, p1, p2⟩ := list_at R ha (.inr eo)
        exact ⟨xs, vs, ds, p1, p2, e1, rfl⟩
      · cases e
    cases q1 with
    | non => cases q2; rw [e1] at e2; cases e2; rfl
    | bl b => cases q2; rw [e1] at e2; cases e2; rfl
    | int b => cases q2; rw [e1] at e2; cases e2; rfl
    | @str m z hz =>
      cases q2 with
      | @str m' _ hz' =>
        have : m = m' := by
          obtain ⟨l1, g1⟩ := List.getElem?_eq_some_iff.mp hz
          obtain ⟨l2, g2⟩ := List.getElem?_eq_some_iff.mp hz'
          exact (List.getElem_inj ok.nd).mp (g1.trans g2.symm)
        subst this
        rw [e1] at e2; cases e2; rfl
    | @tup xs vs a hs hv =>
      cases q2 with
      | @tup ys us _ hs' hv' =>
        have : vs = us := by rw [← hK] at hs hs'; exact I.tuple_inj hs hs'
        subst this
        simp only [conv] at e1 e2
        obtain ⟨ds, k1, rfl⟩ := Option.map_eq_some_iff.mp e1
        obtain ⟨es, k2, rfl⟩ := Option.map_eq_some_iff.mp e2
        rw [seqs hv hv' k1 k2]
      | @ref m _ ha =>
        obtain ⟨_, _, _, p1, _⟩ := reft ha e2
        rw [← hK] at hs p1
        exact (tl_not I hs p1).elim
    | @ref m a ha =>
      obtain ⟨xs, vs, ds, p1, p2, p3, rfl⟩ := reft ha e1
      cases q2 with
      | @tup ys us _ hs' hv' =>
        rw [← hK] at hs' p1
        exact (tl_not I hs' p1).elim
      | @ref m' _ ha' =>
        obtain ⟨ys, us, es, p1', p2', p3', rfl⟩ := reft ha' e2
        have : vs = us := by rw [← hK] at p1 p1'; exact I.list_inj p1 p1'
        subst this
        rw [seqs p2 p2' p3 p3']

/-! the machine's == -/
theorem dictOf_any {P P' : Program} {w w' : World} {hp : PySem.Heap} {a : Addr} {vs : List (L2.Key × Value)} (hd : hp.DictOf (mixKind P w) a vs) (hk : ∀ p ∈ vs, ∃ i, p.1 = Sum.inl i) : hp.DictOf (mixKind P' w') a vs := by
  obtain ⟨o, es, ep, h1, h2, h3, h4, h5, h6⟩ := hd
  have ps : ∀ {l : List DictEntry} {m : List (L2.Key × Value)}, Pairs (mixKind P w) l m → Pairs (mixKind P' w') l m := by
    intro l m q
    induction q with
    | nil => exact .nil
    | cons a b _ ih => exact .cons a b ih
  refine ⟨o, es, ep, h1, h2, h3, fun e he => ?_, ps h5, h6⟩
  have key : ∀ {l : List DictEntry} {m : List (L2.Key × Value)}, Pairs (mixKind P w) l m → (∀ p ∈ m, ∃ i, p.1 = Sum.inl i) → ∀ e ∈ l, ∃ i, (mixKind P w).is (Sum.inl i) e.key = true := by
    intro l m q
    induction q with
    | nil => intro _ e he; exact nomatch he
    | @cons e0 kv es kvs a b _ ih =>
      intro hm e he
      rcases List.mem_cons.mp he with rfl | he
      · obtain ⟨i, hi⟩ := hm kv List.mem_cons_self
        exact ⟨i, hi ▸ a⟩
      · exact ih (fun p hp => hm p (List.mem_cons_of_mem _ hp)) e he
  obtain ⟨k, hk1, hk2⟩ := h4 e he
  obtain ⟨i, hi⟩ := key h5 hk e (Array.mem_def.mp he)
  have hki : k = Sum.inl i := (mixKind P w).inj _ _ _ hk1 hi
  subst hki
  exact ⟨Sum.inl i, hi, hk2⟩
theorem DR.isI {d : List (Val × Val)} {e : List (L2.Key × V)} (q : DR G r H d e) (hk : d.all (fun kv => isIV kv.1) = true) : ∀ p ∈ e, ∃ i, p.1 = Sum.inl i := by
  induction q with
  | nil => intro p hp; exact nomatch hp
  | @cons k x q' v d e a b _ ih =>
    rw [List.all_cons, Bool.and_eq_true] at hk
    intro p hp
    rcases List.mem_cons.mp hp with rfl | hp
    · cases a with
      | int i => exact ⟨i, rfl⟩
      | str _ => simp [isIV] at hk
    · exact ih hk.2 p hp
theorem KR_inj (ok : G.Ok) {k k' : Val} {q q' : L2.Key} (a : KR G k q) (b : KR G k' q') : (k = k') ↔ (q = q') := by
  cases a with
  | int i => cases b with
    | int j => simp
    | str _ => simp
  | @str n x e => cases b with
    | int j => simp
    | @str m y e' =>
      constructor
      · intro h; injection h with h; subst h; rw [e] at e'; cases e'; rfl
      · intro h; injection h with h; subst h
        obtain ⟨l1, g1⟩ := List.getElem?_eq_some_iff.mp e
        obtain ⟨l2, g2⟩ := List.getElem?_eq_some_iff.mp e'
        rw [(List.getElem_inj ok.nd).mp (g1.trans g2.symm)]
theorem DR.length {d : List (Val × Val)} {e : List (L2.Key × V)} (q : DR G r H d e) : d.length = e.length := by
  induction q with
  | nil => rfl
  | cons _ _ _ ih => simp [ih]
/-- equal things at one machine value -/
theorem RelV.ref_eq {a : Addr} {u : Value} (q : RelV (.ref a) u) : u = .ref a := by cases q; rfl
def EqF (A : Around) (s : Shared) (G : Cfg) (r : List Addr) (H : Hp) (f : Val → Val → Option Bool) : Prop := ∀ x y v u vv uu b, VR G r H x v → VR G r H y u → RelV v vv → RelV u uu → f x y = some b → SeqAt.EqAt A s vv uu b
theorem zip_eq {A : Around} {f : Val → Val → Option Bool} (F : EqF A s G r H f) : ∀ (xs ys : List Val) (vs us : List V) (its its' : List Value) (bs : List Bool), VRs G r H xs vs → VRs G r H ys us → Vals vs its → Vals us its' → optAll (fun p : Val × Val => f p.1 p.2) (xs.zip ys) = some bs →
    bs.length = min its.length its'.length ∧ ∀ (j : Nat) (h1 : j < its.length) (h2 : j < its'.length), SeqAt.EqAt A s its[j] its'[j] (bs.getD j false) := by
  intro xs
  induction xs with
  | nil =>
    intro ys vs us its its' bs a b c d e
    cases a
    cases c
    simp [optAll] at e
    subst e
    exact ⟨by simp, fun j h1 _ => by simp at h1⟩
  | cons x xs ih =>
    intro ys vs us its its' bs a b c d e
    cases a with
    | cons a1 a2 =>
      cases c with
      | cons c1 c2 =>
        cases b with
        | nil =>
          cases d
          simp [optAll] at e
          subst e
          exact ⟨by simp, fun j _ h2 => by simp at h2⟩
        | cons b1 b2 =>
          cases d with
          | cons d1 d2 =>
            rw [List.zip_cons_cons] at e
            simp only [optAll] at e
            split at e
            · rename_i q1 l1 k1 k2
              cases e
              obtain ⟨i1, i2⟩ := ih _ _ _ _ _ _ a2 b2 c2 d2 k2
              refine ⟨by simp [i1], fun j h1 h2 => ?_⟩
              cases j with
              | zero => exact F _ _ _ _ _ _ _ a1 b1 c1 d1 k1
              | succ j => simpa using i2 j (by simpa using h1) (by simpa using h2)
            · cases e
theorem all_getD {bs : List Bool} : (List.range bs.length).all (fun j => bs.getD j false) = bs.all id := by
  rw [Bool.eq_iff_iff, List.all_eq_true, List.all_eq_true]
  constructor
  · intro q b hb
    obtain ⟨j, hj⟩ := List.mem_iff_getElem?.mp hb
    have := q j (List.mem_range.mpr (List.getElem?_eq_some_iff.mp hj).1)
    rw [List.getD_eq_getElem?_getD, hj] at this
    exact this
  · intro q j hj
    have hl := List.mem_range.mp hj
    rw [List.getD_eq_getElem?_getD, List.getElem?_eq_getElem hl]
    exact q _ (List.getElem_mem hl)
theorem hits_eq (ok : G.Ok) {A : Around} {f : Val → Val → Option Bool} (F : EqF A s G r H f) {e : List (Val × Val)} {es : List (L2.Key × V)} {vb : List (L2.Key × Value)} (re : DR G r H e es) (rb : KV es vb) : ∀ (d : List (Val × Val)) (ds : List (L2.Key × V)) (va : List (L2.Key × Value)) (b : Bool), DR G r H d ds → KV ds va → hitsM f e d = some b → PySem.W.KeqHits A s vb va b := by
  intro d
  induction d with
  | nil =>
    intro ds va b a c q
    cases a
    cases c
    simp [hitsM] at q
    subst q
    exact .nil
  | cons p d ih =>
    intro ds va b a c q
    cases a with
    | @cons k x κ v _ _ a1 a2 a3 =>
      cases c with
      | @cons _ w _ _ c1 c2 =>
        obtain ⟨κ', vv⟩ := w
        obtain ⟨c3, c4⟩ := c1
        have c3' : κ = κ' := c3
        subst c3'
        simp only [hitsM] at q
        rcases re.look ok a1 with ⟨l0, l1⟩ | ⟨u, uv, l0, l1, l2⟩
        · rw [l0] at q
          cases q
          exact .miss (RelO.none_of (by rw [← l1]; exact rb.val κ))
        · rw [l0] at q
          obtain ⟨y, hy, ry⟩ := RelO.some_of (v := uv) (o := valueAt vb κ) (by rw [← l1]; exact rb.val κ)
          simp only at q
          split at q
          · rename_i b1 b2 k1 k2
            cases q
            exact .hit hy (F _ _ _ _ _ _ _ a2 l2 c4 ry k1) (ih _ _ _ a3 c2 k2)
          · cases q

theorem rl_ref {a : Addr} {u : Value} (q : RelV (.ref a) u) : u = .ref a := q
theorem vr_lst (R : HR G r H h) {n : Nat} {v : V} {vv : Value} {xs : List Val} (q : VR G r H (.ref n) v) (rl : RelV v vv) (e : h[n]? = some (.lst xs)) : ∃ a vs, vv = .ref a ∧ SqL G.K H a vs ∧ VRs G r H xs vs := by
  cases q with
  | @ref _ a ha =>
    obtain ⟨vs, p1, p2⟩ := list_at R ha (.inl e)
    exact ⟨a, vs, rl_ref rl, p1, p2⟩
theorem vr_dct (R : HR G r H h) {n : Nat} {v : V} {vv : Value} {d : List (Val × Val)} (q : VR G r H (.ref n) v) (rl : RelV v vv) (e : h[n]? = some (.dct d)) : ∃ a es, vv = .ref a ∧ H a = some (.dK es) ∧ DR G r H d es := by
  cases q with
  | @ref _ a ha =>
    cases R.ob _ _ _ e ha with
    | dct p1 p2 => exact ⟨a, _, rl_ref rl, p1, p2⟩
theorem plist {hp : PySem.Heap} {a : Addr} {its : Array Value} (q : PlainL hp a its) : hp.IsList a its := by
  obtain ⟨o, n, e, c, _, d⟩ := q
  exact ⟨o, e, c, n, d⟩
theorem min_len {a b : Nat} : min a b = a ∧ a ≤ b ∨ min a b = b ∧ b ≤ a := by omega
theorem step_eq (ok : G.Ok) (hK : X.K = G.K) (I : Inv X pins σ H s) (R : HR G r H h) {A : Around} {f : Val → Val → Option Bool} (F : EqF A.in1 s G r H f) (hu : A.units < cLine) {x y : Val} {v u : V} {vv uu : Value} {b : Bool} (q1 : VR G r H x v) (q2 : VR G r H y u) (r1 : RelV v vv) (r2 : RelV u uu) (e : eqStep f h x y = some b) :
    SeqAt.RcAt A s vv uu b ∧ SeqAt.RcNeAt A s vv uu (!b) := by
  unfold eqStep at e
  split at e
  · rename_i xs ys
    cases q1 with
    | @tup _ vs a hs hv => cases q2 with
      | @tup _ us a' hs' hv' =>
        split at e
        · rename_i bs hb
          cases e
          rw [← hK] at hs hs'
          obtain ⟨its, k1, k2, _⟩ := I.tuple hs
          obtain ⟨its', k3, k4, _⟩ := I.tuple hs'
          obtain ⟨z1, z2⟩ := zip_eq F _ _ _ _ _ _ _ hv hv' k1 k3 hb
          have l1 : xs.length = its.length := (hv.len).trans k1.length
          have l2 : ys.length = its'.length := (hv'.len).trans k3.length
          have e1 := rl_ref r1
          have e2 := rl_ref r2
          subst e1
          subst e2
          have hz : (bs.all id && xs.length == ys.length) = ((List.range (min its.toArray.size its'.toArray.size)).all (fun j => bs.getD j false) && its.toArray.size == its'.toArray.size) := by
            rw [List.size_toArray, List.size_toArray, ← z1, all_getD, l1, l2]
          rw [hz]
          have he : ∀ j (h1 : j < its.toArray.size) (h2 : j < its'.toArray.size), SeqAt.EqAt A.in1 s its.toArray[j] its'.toArray[j] ((fun j => bs.getD j false) j) := fun j h1 h2 => by
            simpa using z2 j (by simpa using h1) (by simpa using h2)
          exact ⟨SeqAt.RcAt.tuples k2 k4 hu he, SeqAt.RcNeAt.tuples k2 k4 hu he⟩
        · cases e
  · rename_i n m
    split at e
    · rename_i xs ys eo1 eo2
      obtain ⟨a, vs, e1, p1, hv⟩ := vr_lst R q1 r1 eo1
      obtain ⟨a', us, e2, p2, hv'⟩ := vr_lst R q2 r2 eo2
      rw [← hK] at p1 p2
      obtain ⟨its, k1, k2, _⟩ := I.list p1
      obtain ⟨its', k3, k4, _⟩ := I.list p2
      have l1 : xs.length = its.length := (hv.len).trans k1.length
      have l2 : ys.length = its'.length := (hv'.len).trans k3.length
      subst e1
      subst e2
      split at e
      · rename_i hl
        split at e
        · rename_i bs hb
          cases e
          obtain ⟨z1, z2⟩ := zip_eq F _ _ _ _ _ _ _ hv hv' k1 k3 hb
          have hsz : its.toArray.size = its'.toArray.size := by rw [List.size_toArray, List.size_toArray, ← l1, ← l2, hl]
          have hz : bs.all id = (List.range its.toArray.size).all (fun j => bs.getD j false) := by
            have : its.toArray.size = bs.length := by rw [List.size_toArray, z1]; omega
            rw [this, all_getD]
          rw [hz]
          have he : ∀ j (h1 : j < its.toArray.size) (h2 : j < its'.toArray.size), SeqAt.EqAt A.in1 s its.toArray[j] its'.toArray[j] ((fun j => bs.getD j false) j) := fun j h1 h2 => by
            simpa using z2 j (by simpa using h1) (by simpa using h2)
          exact ⟨SeqAt.RcAt.lists (plist k2) (plist k4) hsz hu he, SeqAt.RcNeAt.lists (plist k2) (plist k4) hsz hu he⟩
        · cases e
      · rename_i hl
        cases e
        have hsz : (its.toArray.size != its'.toArray.size) = true := by
          rw [List.size_toArray, List.size_toArray, ← l1, ← l2]; simpa using hl
        exact ⟨SeqAt.RcAt.lists_lengths (plist k2) (plist k4) hsz hu, SeqAt.RcNeAt.lists_lengths (plist k2) (plist k4) hsz hu⟩
    · rename_i d e' eo1 eo2
      obtain ⟨a, es, e1, p1, hv⟩ := vr_dct R q1 r1 eo1
      obtain ⟨a', es', e2, p2, hv'⟩ := vr_dct R q2 r2 eo2
      obtain ⟨_, ya, va, ra, da⟩ := dk_of I.hok p1
      obtain ⟨_, yb, vb, rb, db⟩ := dk_of I.hok p2
      have l1 := (hv.len).trans ra.length
      have l2 := (hv'.len).trans rb.length
      subst e1
      subst e2
      split at e
      · rename_i hi
        have ka : ∀ p ∈ va, ∃ i, p.1 = Sum.inl i := fun p hp => by
          have hm : p.1 ∈ es.map (·.1) := by rw [ra.keys]; exact List.mem_map_of_mem hp
          obtain ⟨p', hp', e'⟩ := List.mem_map.mp hm
          obtain ⟨i, hi'⟩ := hv.isI hi.1 p' hp'
          exact ⟨i, by rw [← e', hi']⟩
        have kb : ∀ p ∈ vb, ∃ i, p.1 = Sum.inl i := fun p hp => by
          have hm : p.1 ∈ es'.map (·.1) := by rw [rb.keys]; exact List.mem_map_of_mem hp
          obtain ⟨p', hp', e'⟩ := List.mem_map.mp hm
          obtain ⟨i, hi'⟩ := hv'.isI hi.2 p' hp'
          exact ⟨i, by rw [← e', hi']⟩
        have hits : va.length = vb.length → ∃ c, PySem.W.KeqHits A.in1 s vb va c ∧ c = b := fun hl => by
          rw [if_pos (by omega)] at e
          exact ⟨b, hits_eq ok F hv' rb _ _ _ _ hv ra e, rfl⟩
        have hb : b = (va.length == vb.length && b) := by
          by_cases hl : va.length = vb.length
          · simp [hl]
          · rw [if_neg (by omega)] at e
            cases e
            simp
        refine ⟨fun P w E Q h' => ?_, fun P w E Q h' => ?_⟩
        · refine PySem.W.keq_eq (knd := mixKind P w) (r := b) ya yb (dictOf_any da ka) (dictOf_any db kb) hu (fun hl => ?_) (by rw [← hb]; exact h')
          obtain ⟨c, k, rfl⟩ := hits hl
          exact k
        · refine PySem.W.keq_ne (knd := mixKind P w) (r := b) ya yb (dictOf_any da ka) (dictOf_any db kb) hu (fun hl => ?_) (by rw [← hb]; exact h')
          obtain ⟨c, k, rfl⟩ := hits hl
          exact k
      · cases e
    · cases e
  · cases e
theorem ref_nd (R : HR G r H h) {n m : Nat} {a : Addr} {f : Val → Val → Option Bool} {b : Bool} (e : eqStep f h (.ref n) (.ref m) = some b) (h1 : r[n]? = some a) (h2 : r[m]? = some a) : n = m := by
  have key : ∀ o o', h[n]? = some o → h[m]? = some o' → isFls o = false → isFls o' = false → n = m := fun o o' e1 e2 f1 f2 => R.nd _ _ _ _ _ e1 e2 h1 h2 f1 f2
  simp only [eqStep] at e
  split at e
  · rename_i e1 e2; exact key _ _ e1 e2 rfl rfl
  · rename_i e1 e2; exact key _ _ e1 e2 rfl rfl
  · cases e
theorem eqH_same (ok : G.Ok) (hK : X.K = G.K) (I : Inv X pins σ H s) (R : HR G r H h) : ∀ (n : Nat) (x y : Val) (v : V) (b : Bool), VR G r H x v → VR G r H y v → eqH n h x y = some b → b = true
  | 0, _, _, _, _, _, _, e => by simp [eqH] at e
  | n + 1, x, y, v, b, q1, q2, e => by
    have ih := eqH_same ok hK I R n
    have zips : ∀ (xs ys : List Val) (vs : List V) (bs : List Bool), VRs G r H xs vs → VRs G r H ys vs → optAll (fun p : Val × Val => eqH n h p.1 p.2) (xs.zip ys) = some bs → bs.all id = true ∧ xs.length = ys.length := by
      intro xs
      induction xs with
      | nil =>
        intro ys vs bs a c e
        cases a; cases c
        simp [optAll] at e
        subst e
        exact ⟨rfl, rfl⟩
      | cons x xs ih2 =>
        intro ys vs bs a c e
        cases a with
        | cons a1 a2 => cases c with
          | cons c1 c2 =>
            rw [List.zip_cons_cons] at e
            simp only [optAll] at e
            split at e
            · rename_i q1 l1 k1 k2
              cases e
              have z := ih2 _ _ _ a2 c2 k2
              have z1 := ih _ _ _ _ a1 c1 k1
              exact ⟨by rw [List.all_cons, z1, z.1]; rfl, by simp [z.2]⟩
            · cases e
    unfold eqH at e
    split at e
    · rename_i d d' h1 h2
      cases e
      rw [conv_same ok hK I R _ _ _ _ _ _ q1 q2 h1 h2]
      exact deq_refl _
    · split at e
      · rename_i n' m'
        split at e
        · cases e; rfl
        · rename_i hnm
          cases q1 with
          | ref h1 => cases q2 with
            | ref h2 => exact absurd (ref_nd R e h1 h2) hnm
      · rename_i hno
        cases q1 with
        | @tup xs vs a hs hv => cases q2 with
          | @tup ys us _ hs' hv' =>
            have : vs = us := by rw [← hK] at hs hs'; exact I.tuple_inj hs hs'
            subst this
            unfold eqStep at e
            simp only at e
            split at e
            · rename_i bs hb
              cases e
              obtain ⟨z1, z2⟩ := zips _ _ _ _ hv hv' hb
              simp [z1, z2]
            · cases e
          | ref h2 => simp [eqStep] at e
        | @ref m a h1 => cases q2 with
          | @tup ys us _ hs' hv' => simp [eqStep] at e
          | ref h2 => exact (hno _ _ rfl rfl).elim
        | non => simp [eqStep] at e
        | bl _ => simp [eqStep] at e
        | int _ => simp [eqStep] at e
        | str _ => simp [eqStep] at e
theorem eqH_at (ok : G.Ok) (hK : X.K = G.K) (I : Inv X pins σ H s) (R : HR G r H h) : ∀ (n : Nat) (A : Around), A.units + n + 66 < cLine → EqF A.in1 s G r H (eqH n h)
  | 0, A, _ => fun x y v u vv uu b _ _ _ _ e => by simp [eqH] at e
  | n + 1, A, hu => fun x y v u vv uu b q1 q2 r1 r2 e => by
    have ih : EqF A.in1.in1 s G r H (eqH n h) := eqH_at ok hK I R n A.in1 (by show A.units + 1 + n + 66 < cLine; omega)
    have hu1 : A.in1.units < cLine := by show A.units + 1 < cLine; omega
    have e0 := e
    unfold eqH at e
    split at e
    · rename_i d d' h1 h2
      cases e
      obtain ⟨d1, w1⟩ := conv_dp R _ _ _ _ q1 h1
      obtain ⟨d2, w2⟩ := conv_dp R _ _ _ _ q2 h2
      rw [← hK] at d1 d2
      obtain ⟨as, s1⟩ := Dp.reads I _ _ _ d1 r1
      obtain ⟨bs, s2⟩ := Dp.reads I _ _ _ d2 r2
      have := PySem.W.keq_at (A := A) s1 s2 (shaped_py ok w1 (by decide)) (shaped_py ok w2 (by decide)) (by show A.units + 1 + 64 < cLine; omega)
      rw [eqv_py ok _ _ _ _ w1 w2] at this
      exact this
    · have stp : ∀ b, eqStep (eqH n h) h x y = some b → SeqAt.RcAt A.in1 s vv uu b := fun b e => (step_eq ok hK I R ih hu1 q1 q2 r1 r2 e).1
      split at e
      · rename_i n' m'
        split at e
        · rename_i hnm
          cases e
          subst hnm
          cases q1 with
          | ref h1 => cases q2 with
            | ref h2 =>
              rw [h1] at h2
              cases h2
              have e1 := rl_ref r1
              have e2 := rl_ref r2
              subst e1
              subst e2
              exact SeqAt.EqAt.same _
        · rename_i hnm
          have k := stp b e
          cases q1 with
          | @ref _ a h1 => cases q2 with
            | @ref _ a' h2 =>
              have e1 := rl_ref r1
              have e2 := rl_ref r2
              subst e1
              subst e2
              refine SeqAt.EqAt.of_refs (fun ea => ?_) k
              subst ea
              exact hnm (ref_nd R e h1 h2)
      · rename_i hno
        have k := stp b e
        cases q1 with
        | @tup xs vs a hs hv => cases q2 with
          | @tup ys us a' hs' hv' =>
            have e1 := rl_ref r1
            have e2 := rl_ref r2
            subst e1
            subst e2
            by_cases ea : a = a'
            · subst ea
              have := eqH_same ok hK I R (n + 1) _ _ _ _ (.tup hs hv) (.tup hs' hv') e0
              subst this
              exact SeqAt.EqAt.same _
            · exact SeqAt.EqAt.of_refs ea k
          | _ => simp [eqStep] at e
        | @ref m a h1 => cases q2 with
          | ref h2 => exact (hno _ _ rfl rfl).elim
          | _ => simp [eqStep] at e
        | non => simp [eqStep] at e
        | bl _ => simp [eqStep] at e
        | int _ => simp [eqStep] at e
        | str _ => simp [eqStep] at e
end
/-! the rule -/
def rEqH (G : Cfg) (neg : Bool) : R2 := fun v u H Q => ∃ r h x y b, HR G r H h ∧ VR G r H x v ∧ VR G r H y u ∧ oEqH neg x y h = .ok (.bl b) h ∧ Q (.bl b) H
theorem oEqH_top {x y : Val} {h : Heap} {neg c : Bool} (e : oEqH neg x y h = .ok (.bl c) h) : (∃ d d', conv 40 h x = some d ∧ conv 40 h y = some d' ∧ c = (if neg then !deq d d' else deq d d')) ∨ ∃ b, eqStep (eqH 20 h) h x y = some b ∧ c = (if neg then !b else b) := by
  unfold oEqH at e
  split at e
  · rename_i d d' h1 h2
    cases e
    exact .inl ⟨d, d', h1, h2, rfl⟩
  · split at e
    · split at e
      · cases e
      · split at e
        · rename_i b hb
          cases e
          exact .inr ⟨b, hb, rfl⟩
        · cases e
    · split at e
      · rename_i b hb
        cases e
        exact .inr ⟨b, hb, rfl⟩
      · cases e
theorem op_eqH {G : Cfg} {X : Cx} (ok : G.Ok) (hK : X.K = G.K) (hu : X.A.units + 150 < cLine) : OpR X (compareOp .Eq) (rEqH G false) := by
  intro pins s σ H v u vv uu Q I rx ry hh
  obtain ⟨r, h, x, y, b, R, q1, q2, e, q⟩ := hh
  rcases oEqH_top e with ⟨d, d', h1, h2, rfl⟩ | ⟨c, h1, rfl⟩
  · obtain ⟨d1, w1⟩ := conv_dp R _ _ _ _ q1 h1
    obtain ⟨d2, w2⟩ := conv_dp R _ _ _ _ q2 h2
    rw [← hK] at d1 d2
    obtain ⟨as, s1⟩ := Dp.reads I _ _ _ d1 rx
    obtain ⟨bs, s2⟩ := Dp.reads I _ _ _ d2 ry
    refine SeqAt.compareEq_shaped s1 s2 (shaped_py ok w1 (by decide)) (shaped_py ok w2 (by decide)) (by omega) ⟨.bl _, H, I, rfl, ?_⟩
    rw [eqv_py ok _ _ _ _ w1 w2]
    exact q
  · have F := eqH_at ok hK I R 20 X.A (by omega)
    exact (step_eq ok hK I R F (by omega) q1 q2 rx ry h1).1 _ _ _ _ ⟨.bl _, H, I, rfl, q⟩
theorem op_neH {G : Cfg} {X : Cx} (ok : G.Ok) (hK : X.K = G.K) (hu : X.A.units + 150 < cLine) : OpR X (compareOp .NotEq) (rEqH G true) := by
  intro pins s σ H v u vv uu Q I rx ry hh
  obtain ⟨r, h, x, y, b, R, q1, q2, e, q⟩ := hh
  rcases oEqH_top e with ⟨d, d', h1, h2, rfl⟩ | ⟨c, h1, rfl⟩
  · obtain ⟨d1, w1⟩ := conv_dp R _ _ _ _ q1 h1
    obtain ⟨d2, w2⟩ := conv_dp R _ _ _ _ q2 h2
    rw [← hK] at d1 d2
    obtain ⟨as, s1⟩ := Dp.reads I _ _ _ d1 rx
    obtain ⟨bs, s2⟩ := Dp.reads I _ _ _ d2 ry
    refine SeqAt.compareNe_shaped s1 s2 (shaped_py ok w1 (by decide)) (shaped_py ok w2 (by decide)) (by omega) ⟨.bl _, H, I, rfl, ?_⟩
    rw [eqv_py ok _ _ _ _ w1 w2]
    exact q
  · have F := eqH_at ok hK I R 20 X.A (by omega)
    exact (step_eq ok hK I R F (by omega) q1 q2 rx ry h1).2 _ _ _ _ ⟨.bl _, H, I, rfl, q⟩
section
variable {G : Cfg} {E : XK} {X : Cx} {k : Nat} {a b : Expr} {ta tb : TE} {ma mb : En → Heap → Res Val}
theorem oEqH_ok {neg : Bool} {x y : Val} {h h' : Heap} {z : Val} (e : oEqH neg x y h = .ok z h') : h' = h ∧ ∃ b, z = .bl b := by
  unfold oEqH at e
  split at e
  · cases e; exact ⟨rfl, _, rfl⟩
  · split at e
    · split at e
      · cases e
      · split at e
        · cases e; exact ⟨rfl, _, rfl⟩
        · cases e
    · split at e
      · cases e; exact ⟨rfl, _, rfl⟩
      · cases e
theorem oEqH_nr {neg : Bool} {x y : Val} {h h' : Heap} {c : Nat} : oEqH neg x y h ≠ .raised c h' := by
  unfold oEqH
  intro e
  split at e
  · cases e
  · split at e
    · split at e
      · cases e
      · split at e <;> cases e
    · split at e <;> cases e
theorem rf_eqH {neg : Bool} : Rf2 G E (rEqH G neg) (oEqH neg) := by
  refine ⟨fun r H h x y v u Q hR a b p => ?_⟩
  cases e : oEqH neg x y h with
  | ok z h' =>
    obtain ⟨rfl, c, rfl⟩ := oEqH_ok e
    rw [e] at p
    exact ⟨r, h', x, y, c, hR, a, b, e, p.here hR (.bl _)⟩
  | raised c h' => exact (oEqH_nr e).elim
  | stuck => rw [e] at p; exact p.elim
theorem mc_eqH (ok : G.Ok) (C : XC G E X k) (ha : ME G E X a ta ma) (hb : ME G E X b tb mb) : MC G E X .Eq a b (tOp (rEqH G false) ta tb) (mB (oEqH false) ma mb) :=
  ⟨pc_of (op_eqH (X := X) ok C.K (by have := C.room.un; omega)) ha.pe hb.pe, ha.rf.b2 hb.rf rf_eqH⟩
theorem mc_neH (ok : G.Ok) (C : XC G E X k) (ha : ME G E X a ta ma) (hb : ME G E X b tb mb) : MC G E X .NotEq a b (tOp (rEqH G true) ta tb) (mB (oEqH true) ma mb) :=
  ⟨pc_of (op_neH (X := X) ok C.K (by have := C.room.un; omega)) ha.pe hb.pe, ha.rf.b2 hb.rf rf_eqH⟩
end
end PyM
namespace PyM
open PySem L2
/-! ### d.update(e), dict(d) -/
def mergeV (d e : List (Val × Val)) : List (Val × Val) := e.foldl (fun acc kv => putV acc kv.1 kv.2) d
def dUpd (o y : Val) (h : Heap) : Res Val := match o, y with
  | .ref a, .ref b => if a = b then .stuck else match h[a]?, h[b]? with
    | some (.dct d), some (.dct e) => if d.length + e.length ≤ lim then .ok .non (h.set a (.dct (mergeV d e))) else .stuck
    | _, _ => .stuck
  | _, _ => .stuck
def isU (x : Val) (h : Heap) : Bool := match x with
  | .ref a => match h[a]? with
    | some (.dct _) => true
    | _ => false
  | _ => false
def mUpd (mo my : En → Heap → Res Val) (s : En) (h : Heap) : Res Val := (mo s h).bind fun o h1 => if isU o h1 = true then (my s h1).bind fun y h2 => dUpd o y h2 else .stuck
def rUpd : V → List V → Hp → VK → Prop := fun x xs H Q => ∃ (a b : Addr) (kvs more : List (L2.Key × V)), x = .ref a ∧ xs = [.ref b] ∧ a ≠ b ∧ H a = some (.dK kvs) ∧ H b = some (.dK more) ∧ kvs.length + more.length ≤ sizeLine ∧ Q .non (upd H a (.dK (mergeK kvs more)))
theorem mt_update {X : Cx} : MtR X "dict.update" rUpd := by
  intro pins s σ H x xs v us Q I rx rv h
  obtain ⟨a, b, kvs, more, rfl, rfl, ne, e1, e2, hl, q⟩ := h
  obtain rfl : v = Value.ref a := rx
  obtain ⟨u, rfl, ru⟩ := vals1 rv
  obtain rfl : u = Value.ref b := ru
  obtain ⟨z, hd, vs, rel, dd⟩ := dk_of I.hok e1
  obtain ⟨z2, hd2, vs2, rel2, dd2⟩ := dk_of I.hok e2
  refine call_meetsIn PySem.F.slot_dict_update dd.typeIs PySem.F.entry_dict_update (PySem.F.args_dict_update_2 _ _) (meets_dict_update (mixKind X.prog X.w) a b ne hd2)
    ⟨vs, vs2, dd, dd2, by rw [← rel.length, ← rel2.length]; exact hl, fun h' dd' _ hs => ⟨.non, _, d_write (t' := s.toks) I (by rw [e1]; exact True.intro) hs (let ⟨q, _, _, hq, _⟩ := dd'; ⟨q, hq⟩) (dk_new ?_ hd (rel2.merge rel) dd'), rfl, q⟩⟩
  exact Nat.le_trans (length_mergeK more kvs) hl
section
variable {G : Cfg} {E : XK} {X : Cx} {k : Nat} {r : List Addr} {H : Hp} {h : Heap} {e o f : Expr} {td ty tx to : TE} {mo my mz : En → Heap → Res Val} {apos cpos : Pos}
theorem DR.merge (ok : G.Ok) : ∀ {e : List (Val × Val)} {es : List (L2.Key × V)} {d : List (Val × Val)} {ds : List (L2.Key × V)}, DR G r H d ds → DR G r H e es → DR G r H (mergeV d e) (mergeK ds es) := by
  intro e es d ds a b
  induction b generalizing d ds with
  | nil => exact a
  | cons k x _ ih => exact ih (a.put ok k x)
theorem me_update (ok : G.Ok) (C : XC G E X k) (ho : ME G E X o to mo) (he : ME G E X e ty my) (hbase : attributeBase o "update" X.env (eval o X.env) = eval o X.env := by rfl)
    (hfew : ((backTo cpos (starEach [e] X.env)).all (fun x => !x.1) && (backToKw cpos (keywordEach [] X.env)).all (fun x => x.1.isSome)
      && decide (([e] : List Expr).length + ([] : List Keyword).length + (if ([] : List Keyword).isEmpty then 0 else 1) < 30)) = true := by rfl)
    (hline : (apos.endLine == cpos.line) = true := by rfl) (hs : starEach [e] X.env = (false, eval e X.env) :: starEach [] X.env := by rfl) (hplain : (backTo cpos (starEach [] X.env)).any (·.1) = false := by rfl) :
    ME G E X (.Call (.Attribute o "update" apos) [e] [] cpos) (tBM G.K "dict" rUpd to (tCons ty tNil)) (mUpd mo my) := by
  refine ⟨?_, ⟨fun r H h s σ Q hR sR p => ho.rf.run r H h s σ _ hR sR (p.seq fun x h1 r1 H1 v s1 hR1 v1 p1 => ?_)⟩⟩
  · have := pe_bm PySem.F.plainAttrs_dict PySem.F.slot_dict_update PySem.F.type_dict_update (mt_update (X := X)) ho.pe (pa_cons he.pe pa_nil hs) hbase hfew hline hs hplain
    rwa [C.K] at this
  · split at p1
    · rename_i hd
      obtain ⟨a, rfl, kvs0, id⟩ : ∃ a, v = .ref a ∧ ∃ kvs, H1 a = some (.dK kvs) := by
        cases v1 with
        | @ref _ a ea =>
          unfold isU at hd
          simp only at hd
          split at hd
          · rename_i d eo
            cases hR1.ob _ _ _ eo ea with
            | dct hl _ => exact ⟨a, rfl, _, hl⟩
          · cases hd
        | _ => simp [isU] at hd
      refine ⟨.inr (.inr (.inl ⟨rfl, .inl ⟨_, id⟩⟩)), ?_⟩
      show ty σ H1 _
      refine he.rf.run r1 H1 h1 s σ _ hR1 (sR.mono s1) (p1.seq fun y h2 r2 H2 w s2 hR2 v2 p2 => ?_)
      have vo := v1.mono s2
      unfold dUpd at p2
      split at p2
      · rename_i n m
        cases vo with
        | ref ea => cases v2 with
          | @ref _ b eb =>
            split at p2
            · exact False.elim p2
            · rename_i hne
              split at p2
              · rename_i d e' eo1 eo2
                split at p2
                · rename_i hl
                  cases hR2.ob _ _ _ eo1 ea with
                  | dct hl1 hv1 => cases hR2.ob _ _ _ eo2 eb with
                    | dct hl2 hv2 =>
                      refine ⟨a, b, _, _, rfl, rfl, fun eab => ?_, hl1, hl2, by rw [← hv1.len, ← hv2.len]; exact le_line hl, set_dct hR2 eo1 ea hl1 (hv1.merge ok hv2) .non p2⟩
                      subst eab
                      exact hne (hR2.nd _ _ _ _ _ eo1 eo2 ea eb rfl rfl)
                · exact False.elim p2
              · exact False.elim p2
      · exact False.elim p2
    · exact False.elim p1
def bDictD (xs : List Val) (h : Heap) : Res Val := match xs with
  | [.ref a] => match h[a]? with
    | some (.dct d) => .ok (.ref h.length) (h ++ [.dct d])
    | _ => .stuck
  | _ => .stuck
theorem new_dct (hR : HR G r H h) {d : List (Val × Val)} {es : List (L2.Key × V)} {Q : VK} (hv : DR G r H d es) (p : PostR G (VR G) r H E (.ok (.ref h.length) (h ++ [.dct d])) Q) (l : Addr) (hl : H l = none) : Q (.ref l) (upd H l (.dK es)) := by
  refine p (r ++ [l]) _ _ (Stp.new hl) (hR.push hl (.dct upd_same (hv.mono (Stp.new hl)))) (.ref ?_)
  rw [← hR.len]
  simp
theorem rl_dictD : RfL G E (fun xs H Q => ∃ (a : Addr) (kvs : List (L2.Key × V)), xs = [.ref a] ∧ Rd H a (.dK kvs) ∧ ∀ p, H p = none → Q (.ref p) (upd H p (.dK kvs))) bDictD := by
  refine ⟨fun r H h xs vs Q hR v p => ?_⟩
  unfold bDictD at p
  split at p
  · cases v with
    | cons q1 q2 => cases q2; cases q1 with
      | ref ea =>
        split at p
        · rename_i d eo
          cases hR.ob _ _ _ eo ea with
          | dct hl hv => exact ⟨_, _, rfl, .inl hl, fun l hl' => new_dct hR hv p l hl'⟩
        · exact False.elim p
  · exact False.elim p
/-! ### sorted -/
def insI (x : Int) : List Int → List Int
  | [] => [x]
  | y :: ys => if x ≤ y then x :: y :: ys else y :: insI x ys
def sortI : List Int → List Int
  | [] => []
  | x :: xs => insI x (sortI xs)
theorem insI_perm (x : Int) : ∀ l, (insI x l).Perm (x :: l)
  | [] => .refl _
  | y :: ys => by
    unfold insI
    split
    · exact .refl _
    · exact ((insI_perm x ys).cons y).trans (.swap ..)
theorem sortI_perm : ∀ l, (sortI l).Perm l
  | [] => .refl _
  | x :: xs => (insI_perm x _).trans ((sortI_perm xs).cons x)
theorem insI_sorted (x : Int) : ∀ l : List Int, l.Pairwise (· ≤ ·) → (insI x l).Pairwise (· ≤ ·)
  | [], _ => by simp [insI]
  | y :: ys, h => by
    unfold insI
    have h' := List.pairwise_cons.mp h
    split
    · rename_i hxy
      refine List.pairwise_cons.mpr ⟨fun z hz => ?_, h⟩
      rcases List.mem_cons.mp hz with rfl | hz
      · exact hxy
      · exact Int.le_trans hxy (h'.1 z hz)
    · rename_i hxy
      refine List.pairwise_cons.mpr ⟨fun z hz => ?_, insI_sorted x ys h'.2⟩
      rcases List.mem_cons.mp ((insI_perm x ys).mem_iff.mp hz) with rfl | hz
      · omega
      · exact h'.1 z hz
theorem sortI_sorted : ∀ l : List Int, (sortI l).Pairwise (· ≤ ·)
  | [] => .nil
  | x :: xs => insI_sorted x _ (sortI_sorted xs)
theorem sorted_uniq : ∀ {l m : List Int}, l.Perm m → l.Pairwise (· ≤ ·) → m.Pairwise (· ≤ ·) → l = m
  | [], m, p, _, _ => (List.nil_perm.mp p).symm
  | x :: l, [], p, _, _ => absurd p.symm (by simp)
  | x :: l, y :: m, p, h1, h2 => by
    have h1' := List.pairwise_cons.mp h1
    have h2' := List.pairwise_cons.mp h2
    have hx : x ∈ y :: m := p.mem_iff.mp List.mem_cons_self
    have hy : y ∈ x :: l := p.mem_iff.mpr List.mem_cons_self
    have e : x = y := by
      rcases List.mem_cons.mp hx with e | hx
      · exact e
      · rcases List.mem_cons.mp hy with e | hy
        · exact e.symm
        · have a := h1'.1 y hy
          have b := h2'.1 x hx
          omega
    subst e
    rw [sorted_uniq (List.perm_cons x |>.mp p) h1'.2 h2'.2]
theorem sortI_uniq {l m : List Int} (p : l.Perm m) (h : l.Pairwise (· ≤ ·)) : l = sortI m := sorted_uniq (p.trans (sortI_perm m).symm) h (sortI_sorted m)
def bSorted (xs : List Val) (h : Heap) : Res Val := match xs with
  | [.ref a] => match h[a]? with
    | some (.lst ys) => match optAll asInt ys with
      | some ns => .ok (.ref h.length) (h ++ [.lst ((sortI ns).map .int)])
      | none => .stuck
    | some (.dct d) => match optAll (fun kv : Val × Val => asInt kv.1) d with
      | some ns => if ns.length < 64 then .ok (.ref h.length) (h ++ [.lst ((sortI ns).map .int)]) else .stuck
      | none => .stuck
    | _ => .stuck
  | _ => .stuck
def rSortedM (K : PySem.W.Frag) : List V → Hp → VK → Prop := fun xs H Q => rSortedI K xs H Q ∨ ∃ (a : Addr) (kvs : List (L2.Key × V)) (ks : List Int), xs = [.ref a] ∧ Rd H a (.dK kvs) ∧ kvs.map (·.1) = ks.map Sum.inl ∧ ks.length < 64 ∧ ∀ (ys : List Int) (p : Addr), ys.Perm ks → ys.Pairwise (· ≤ ·) → H p = none → Q (.ref p) (upd H p (.lst (ys.map V.int)))
theorem cl_sorted (C : XC G E X k) : CallR X (.builtin "sorted") (rSortedM G.K) := by
  have := callR_or (cr_sortedI (X := X)) (call_sortedDI C.calm)
  rw [C.K] at this
  exact this
theorem ints_vr (ns : List Int) : VRs G r H (ns.map .int) (ns.map V.int) := by
  induction ns with
  | nil => exact .nil
  | cons n ns ih => exact .cons (.int n) ih
theorem DR.ints {d : List (Val × Val)} {es : List (L2.Key × V)} (q : DR G r H d es) : ∀ {ns : List Int}, optAll (fun kv : Val × Val => asInt kv.1) d = some ns → es.map (·.1) = ns.map Sum.inl := by
  induction q with
  | nil => intro ns e; simp [optAll] at e; subst e; rfl
  | @cons k x κ v d es a b c ih =>
    intro ns e
    simp only [optAll] at e
    split at e
    · rename_i i l e1 e2
      cases e
      cases a with
      | int j =>
        simp [asInt] at e1
        subst e1
        simp [ih e2]
      | str _ => simp [asInt] at e1
    · cases e
theorem rl_sorted : RfL G E (rSortedM G.K) bSorted := by
  refine ⟨fun r H h xs vs Q hR v p => ?_⟩
  unfold bSorted at p
  split at p
  · cases v with
    | cons q1 q2 => cases q2; cases q1 with
      | @ref _ ad ea =>
        split at p
        · rename_i ys eo
          split at p
          · rename_i ns e2
            cases hR.ob _ _ _ eo ea with
            | lst hl hv =>
              refine .inl ⟨ad, ns, rfl, by rw [← all_int hv e2]; exact SqL.of hl, fun ns' l pm so hl' => ?_⟩
              rw [sortI_uniq pm so]
              exact new_lst hR (ints_vr _) p l hl'
          · exact False.elim p
        · rename_i d eo
          split at p
          · rename_i ns e2
            split at p
            · rename_i hlt
              cases hR.ob _ _ _ eo ea with
              | dct hl hv =>
                refine .inr ⟨ad, _, ns, rfl, .inl hl, hv.ints e2, hlt, fun ns' l pm so hl' => ?_⟩
                rw [sortI_uniq pm so]
                exact new_lst hR (ints_vr _) p l hl'
            · exact False.elim p
          · exact False.elim p
        · exact False.elim p
  · exact False.elim p
/-! ### min(xs), max(xs) -/
def minI : List Int → Int
  | [] => 0
  | [x] => x
  | x :: xs => min x (minI xs)
theorem minI_spec : ∀ {l : List Int} {m : Int}, m ∈ l → (∀ y ∈ l, m ≤ y) → m = minI l
  | [], _, h, _ => absurd h (by simp)
  | [x], m, h, _ => by simpa [minI] using h
  | x :: y :: l, m, h, k => by
    have hx := k x List.mem_cons_self
    rw [minI]
    · by_cases hm : m ∈ y :: l
      · rw [← minI_spec hm (fun z hz => k z (List.mem_cons_of_mem _ hz))]; omega
      · have e : m = x := (List.mem_cons.mp h).resolve_right hm
        have hmin : ∀ {l : List Int}, l ≠ [] → minI l ∈ l := by
          intro l
          induction l with
          | nil => intro z; exact absurd rfl z
          | cons a l ih =>
            intro _
            cases l with
            | nil => simp [minI]
            | cons b l =>
              rw [minI]
              · have := ih (by simp)
                rcases Int.le_total a (minI (b :: l)) with q | q
                · rw [Int.min_eq_left q]; exact List.mem_cons_self
                · rw [Int.min_eq_right q]; exact List.mem_cons_of_mem _ this
              · simp
        have := k _ (List.mem_cons_of_mem x (hmin (l := y :: l) (by simp)))
        omega
    · simp
def bMinL (xs : List Val) (h : Heap) : Res Val := match xs with
  | [.ref a] => match h[a]? with
    | some (.lst ys) => match optAll asInt ys with
      | some ns => if ns = [] then .stuck else .ok (.int (minI ns)) h
      | none => .stuck
    | _ => .stuck
  | _ => .stuck
theorem cl_min (C : XC G E X k) : CallR X (.builtin "min") (rMin G.K) := by
  have := cr_min (X := X) C.calm
  rw [C.K] at this
  exact this
theorem rl_min : RfL G E (rMin G.K) bMinL := by
  refine ⟨fun r H h xs vs Q hR v p => ?_⟩
  unfold bMinL at p
  split at p
  · cases v with
    | cons q1 q2 => cases q2; cases q1 with
      | @ref _ ad ea =>
        split at p
        · rename_i ys eo
          split at p
          · rename_i ns e2
            split at p
            · exact False.elim p
            · rename_i hne
              cases hR.ob _ _ _ eo ea with
              | lst hl hv =>
                refine ⟨ad, ns, rfl, by rw [← all_int hv e2]; exact SqL.of hl, List.length_pos_iff.mpr hne, fun m hm hle => ?_⟩
                rw [minI_spec hm hle]
                exact p.here hR (.int _)
          · exact False.elim p
        · exact False.elim p
  · exact False.elim p
/-! ### list(range(..)), tuple(range(..)), xs[::-1] -/
def rgL (x y : Val) (h : Heap) : Res Val := match x, y with
  | .int i, .int j => if -(2 ^ 62) ≤ i ∧ i < 2 ^ 62 ∧ -(2 ^ 62) ≤ j ∧ j < 2 ^ 62 ∧ (j - i).toNat ≤ lim then .ok (.ref h.length) (h ++ [.lst (rangeV i (j - i).toNat)]) else .stuck
  | _, _ => .stuck
def rgT (x y : Val) (h : Heap) : Res Val := match x, y with
  | .int i, .int j => if -(2 ^ 62) ≤ i ∧ i < 2 ^ 62 ∧ -(2 ^ 62) ≤ j ∧ j < 2 ^ 62 ∧ (j - i).toNat ≤ lim then .ok (.tup (rangeV i (j - i).toNat)) h else .stuck
  | _, _ => .stuck
theorem rangeV_vr (a b : Int) : VRs G r H (rangeV a (b - a).toNat) (rgV a b) := by
  unfold rangeV rgV
  generalize List.range (b - a).toNat = l
  induction l with
  | nil => exact .nil
  | cons n l ih => exact .cons (.int _) ih
theorem rgOk_of {i j : Int} (h1 : -(2 ^ 62) ≤ i ∧ i < 2 ^ 62 ∧ -(2 ^ 62) ≤ j ∧ j < 2 ^ 62 ∧ (j - i).toNat ≤ lim) : RgOk i j := ⟨h1.1, h1.2.1, h1.2.2.1, h1.2.2.2.1, by have := h1.2.2.2.2; unfold lim at this; omega⟩
variable {a b : Expr} {ta tb : TE} {ma mb : En → Heap → Res Val} {p p' pos pos' : Pos}
theorem rf_rgL : Rf2 G E (fun x y H Q => ∃ i j, x = .int i ∧ y = .int j ∧ RgOk i j ∧ ∀ q, H q = none → Q (.ref q) (upd H q (.lst (rgV i j)))) rgL := by
  refine ⟨fun r H h x y v u Q hR a b p => ?_⟩
  unfold rgL at p
  split at p
  · cases a; cases b
    split at p
    · rename_i hh
      exact ⟨_, _, rfl, rfl, rgOk_of hh, fun q hq => new_lst hR (rangeV_vr _ _) p q hq⟩
    · exact p.elim
  · exact p.elim
theorem rf_rgT : Rf2 G E (fun x y H Q => ∃ i j, x = .int i ∧ y = .int j ∧ RgOk i j ∧ ∀ q, H q = none → Q (.ref q) (upd H q (.tup (rgV i j)))) rgT := by
  refine ⟨fun r H h x y v u Q hR a b p => ?_⟩
  unfold rgT at p
  split at p
  · cases a; cases b
    split at p
    · rename_i hh
      exact ⟨_, _, rfl, rfl, rgOk_of hh, fun q hq => new_tup hR (rangeV_vr _ _) p q hq⟩
    · exact p.elim
  · exact p.elim
theorem me_rgL (C : XC G E X k) (hml : X.mg "list" = none) (hm : X.mg "range" = none) (ha : ME G E X a ta ma) (hb : ME G E X b tb mb) (hgl : Gl X "list" := by rfl) (hg : Gl X "range" := by rfl)
    (na : starEach [a, b] X.env = (false, eval a X.env) :: starEach [b] X.env := by rfl) (nb : starEach [b] X.env = (false, eval b X.env) :: starEach [] X.env := by rfl) (hp : (backTo pos (starEach [b] X.env)).any (·.1) = false := by rfl)
    (nr : starEach [.Call (.Name "range" p) [a, b] [] pos] X.env = (false, eval (.Call (.Name "range" p) [a, b] [] pos) X.env) :: starEach [] X.env := by rfl) :
    ME G E X (.Call (.Name "list" p') [.Call (.Name "range" p) [a, b] [] pos] [] pos') (tLstRg (tRg2 ta tb)) (mB rgL ma mb) :=
  ⟨pe_listRg C.calm hgl hml (prg_2 hg hm ha.pe hb.pe na nb hp) nr, ⟨fun r H h s σ Q hR sR p => (ha.rf.b2 hb.rf rf_rgL).run r H h s σ Q hR sR p⟩⟩
theorem me_rgT (C : XC G E X k) (hml : X.mg "tuple" = none) (hm : X.mg "range" = none) (ha : ME G E X a ta ma) (hb : ME G E X b tb mb) (hgl : Gl X "tuple" := by rfl) (hg : Gl X "range" := by rfl)
    (na : starEach [a, b] X.env = (false, eval a X.env) :: starEach [b] X.env := by rfl) (nb : starEach [b] X.env = (false, eval b X.env) :: starEach [] X.env := by rfl) (hp : (backTo pos (starEach [b] X.env)).any (·.1) = false := by rfl)
    (nr : starEach [.Call (.Name "range" p) [a, b] [] pos] X.env = (false, eval (.Call (.Name "range" p) [a, b] [] pos) X.env) :: starEach [] X.env := by rfl) :
    ME G E X (.Call (.Name "tuple" p') [.Call (.Name "range" p) [a, b] [] pos] [] pos') (tTupRg (tRg2 ta tb)) (mB rgT ma mb) :=
  ⟨pe_tupRg C.calm hgl hml (prg_2 hg hm ha.pe hb.pe na nb hp) nr, ⟨fun r H h s σ Q hR sR p => (ha.rf.b2 hb.rf rf_rgT).run r H h s σ Q hR sR p⟩⟩
def rgL1 (y : Val) (h : Heap) : Res Val := rgL (.int 0) y h
def rgT1 (y : Val) (h : Heap) : Res Val := rgT (.int 0) y h
theorem rf_rgL1 : Rf1 G E (fun y H Q => ∃ j, y = .int j ∧ RgOk 0 j ∧ ∀ q, H q = none → Q (.ref q) (upd H q (.lst (rgV 0 j)))) rgL1 := by
  refine ⟨fun r H h x v Q hR a p => ?_⟩
  obtain ⟨i, j, e1, e2, q⟩ := rf_rgL.run r H h (.int 0) x (.int 0) v Q hR (.int 0) a p
  cases e1
  exact ⟨j, e2, q⟩
theorem rf_rgT1 : Rf1 G E (fun y H Q => ∃ j, y = .int j ∧ RgOk 0 j ∧ ∀ q, H q = none → Q (.ref q) (upd H q (.tup (rgV 0 j)))) rgT1 := by
  refine ⟨fun r H h x v Q hR a p => ?_⟩
  obtain ⟨i, j, e1, e2, q⟩ := rf_rgT.run r H h (.int 0) x (.int 0) v Q hR (.int 0) a p
  cases e1
  exact ⟨j, e2, q⟩
theorem me_rgL1 (C : XC G E X k) (hml : X.mg "list" = none) (hm : X.mg "range" = none) (ha : ME G E X a ta ma) (hgl : Gl X "list" := by rfl) (hg : Gl X "range" := by rfl)
    (na : starEach [a] X.env = (false, eval a X.env) :: starEach [] X.env := by rfl)
    (nr : starEach [.Call (.Name "range" p) [a] [] pos] X.env = (false, eval (.Call (.Name "range" p) [a] [] pos) X.env) :: starEach [] X.env := by rfl) :
    ME G E X (.Call (.Name "list" p') [.Call (.Name "range" p) [a] [] pos] [] pos') (tLstRg (tRg1 ta)) (mU rgL1 ma) :=
  ⟨pe_listRg C.calm hgl hml (prg_1 hg hm ha.pe na) nr, ⟨fun r H h s σ Q hR sR p => (ha.rf.u1 rf_rgL1).run r H h s σ Q hR sR p⟩⟩
theorem me_rgT1 (C : XC G E X k) (hml : X.mg "tuple" = none) (hm : X.mg "range" = none) (ha : ME G E X a ta ma) (hgl : Gl X "tuple" := by rfl) (hg : Gl X "range" := by rfl)
    (na : starEach [a] X.env = (false, eval a X.env) :: starEach [] X.env := by rfl)
    (nr : starEach [.Call (.Name "range" p) [a] [] pos] X.env = (false, eval (.Call (.Name "range" p) [a] [] pos) X.env) :: starEach [] X.env := by rfl) :
    ME G E X (.Call (.Name "tuple" p') [.Call (.Name "range" p) [a] [] pos] [] pos') (tTupRg (tRg1 ta)) (mU rgT1 ma) :=
  ⟨pe_tupRg C.calm hgl hml (prg_1 hg hm ha.pe na) nr, ⟨fun r H h s σ Q hR sR p => (ha.rf.u1 rf_rgT1).run r H h s σ Q hR sR p⟩⟩
def revL (x : Val) (h : Heap) : Res Val := match x with
  | .ref a => match h[a]? with
    | some (.lst xs) => .ok (.ref h.length) (h ++ [.lst xs.reverse])
    | _ => .stuck
  | _ => .stuck
theorem VRs.reverse {xs : List Val} {vs : List V} (q : VRs G r H xs vs) : VRs G r H xs.reverse vs.reverse := by
  have : ∀ (xs : List Val) (vs : List V), VRs G r H xs vs → VRs G r H xs.reverse vs.reverse := by
    intro xs
    induction xs with
    | nil => intro vs q; cases q; exact .nil
    | cons x xs ih => intro vs q; cases q with
      | cons a b => rw [List.reverse_cons, List.reverse_cons]; exact (ih _ b).app (.cons a .nil)
  exact this _ _ q
theorem me_rev (C : XC G E X k) {i1 : Nat} {p1 p2 p3 : Pos} (he : ME G E X e ta ma) : ME G E X (.Subscript e (.Slice none none (some (.UnaryOp .USub (.Constant (.int 1) i1 p1) p2)) p3) pos) (tRevL G.K ta) (mU revL ma) := by
  refine ⟨?_, ⟨fun r H h s σ Q hR sR p => he.rf.run r H h s σ _ hR sR (p.seq fun x h1 r1 H1 v s1 hR1 v1 p1 => ?_)⟩⟩
  · have := pe_revL (k := i1) (p1 := p1) (p2 := p2) (p3 := p3) (pos := pos) he.pe
    rwa [C.K] at this
  · unfold revL at p1
    split at p1
    · cases v1 with
      | ref ea =>
        split at p1
        · rename_i xs eo
          cases hR1.ob _ _ _ eo ea with
          | lst hl hv => exact ⟨_, _, rfl, SqL.of hl, fun q hq => new_lst hR1 hv.reverse p1 q hq⟩
        · exact p1.elim
    · exact p1.elim
end
end PyM
namespace PyM
open PySem L2
/-! ### {k: v, ..} -/
abbrev ME2 := (En → Heap → Res Val) × (En → Heap → Res Val)
def mPs : List ME2 → En → Heap → Res (List (Val × Val))
  | [], _, h => .ok [] h
  | (mk, mv) :: r, s, h => (mk s h).bind fun k h1 => (mv s h1).bind fun v h2 => (mPs r s h2).bind fun ps h3 => .ok ((k, v) :: ps) h3
def mDisp (ms : List ME2) (s : En) (h : Heap) : Res Val := (mPs ms s (h ++ [.dct []])).bind fun ps h1 => match h1[h.length]? with
  | some (.dct []) => if ps.all (fun kv => isKey kv.1) = true ∧ ps.length ≤ 15 then .ok (.ref h.length) (h1.set h.length (.dct (mergeV [] ps))) else .stuck
  | _ => .stuck
section
variable {G : Cfg} {E : XK} {X : Cx} {k : Nat} {r : List Addr} {H : Hp} {h : Heap}
inductive VPs (G : Cfg) (r : List Addr) (H : Hp) : List (Val × Val) → List (V × V) → Prop
  | nil : VPs G r H [] []
  | cons {x y v u ps qs} : VR G r H x v → VR G r H y u → VPs G r H ps qs → VPs G r H ((x, y) :: ps) ((v, u) :: qs)
theorem VPs.mono {r' : List Addr} {H' : Hp} (q : Stp G.K r H r' H') {ps qs} (a : VPs G r H ps qs) : VPs G r' H' ps qs := by
  induction a with
  | nil => exact .nil
  | cons a b _ ih => exact .cons (a.mono q) (b.mono q) ih
structure MPs (G : Cfg) (E : XK) (X : Cx) (pos : Pos) (ks : List (Option Expr)) (vs : List Expr) (trs : List (TE × TE)) (ms : List ME2) : Prop where
  pe : PPs X pos ks vs trs
  rf : ∀ r H h s σ Q, HR G r H h → SR G r H s σ → PostR G (VPs G) r H E (mPs ms s h) Q → tPairs trs σ H Q
theorem mps_nil {pos : Pos} : MPs G E X pos [] [] [] [] := ⟨pps_nil, fun r H h s σ Q hR _ p => p.here hR .nil⟩
theorem mps_cons {pos : Pos} {a b : Expr} {ks : List (Option Expr)} {vs : List Expr} {ta tb : TE} {trs : List (TE × TE)} {ma mb : En → Heap → Res Val} {ms : List ME2} (ha : ME G E X a ta ma) (hb : ME G E X b tb mb) (hr : MPs G E X pos ks vs trs ms) :
    MPs G E X pos (some a :: ks) (b :: vs) ((ta, tb) :: trs) ((ma, mb) :: ms) := by
  refine ⟨pps_cons ha.pe hb.pe hr.pe, fun r H h s σ Q hR sR p => ?_⟩
  refine ha.rf.run r H h s σ _ hR sR (p.seq fun x h1 r1 H1 v s1 hR1 v1 p1 => ?_)
  refine hb.rf.run r1 H1 h1 s σ _ hR1 (sR.mono s1) (p1.seq fun y h2 r2 H2 u s2 hR2 v2 p2 => ?_)
  refine hr.rf r2 H2 h2 s σ _ hR2 ((sR.mono s1).mono s2) (p2.seq fun ps h3 r3 H3 qs s3 hR3 v3 p3 => ?_)
  exact p3.here hR3 (.cons ((v1.mono s2).mono s3) (v2.mono s3) v3)
theorem vps_dr {ps : List (Val × Val)} {qs : List (V × V)} (a : VPs G r H ps qs) (hk : ps.all (fun kv => isKey kv.1) = true) : ∃ es : List (L2.Key × V), qs = es.map (fun kv => (kV kv.1, kv.2)) ∧ DR G r H ps es := by
  induction a with
  | nil => exact ⟨[], rfl, .nil⟩
  | cons a b _ ih =>
    rw [List.all_cons, Bool.and_eq_true] at hk
    obtain ⟨es, rfl, d⟩ := ih hk.2
    obtain ⟨q, kq, rfl⟩ := KR.of a hk.1
    exact ⟨(q, _) :: es, rfl, .cons kq b d⟩
theorem me_disp {pos : Pos} {ks : List (Option Expr)} {vs : List Expr} {trs : List (TE × TE)} {ms : List ME2} (ok : G.Ok) (hp : MPs G E X pos ks vs trs ms) (hall : ks.all (·.isSome) = true := by rfl) (hl : ks.length = vs.length := by rfl) (h0 : ks ≠ [] := by intro z; cases z) (h15 : ks.length ≤ 15 := by decide) :
    ME G E X (.Dict ks vs pos) (tDisp trs) (mDisp ms) := by
  refine ⟨pe_disp hp.pe hall hl h0 h15, ⟨fun r H h s σ Q hR sR p => fun l hl' => ?_⟩⟩
  have st0 : Stp G.K r H (r ++ [l]) (upd H l (.dK [])) := Stp.new hl'
  have hR0 : HR G (r ++ [l]) (upd H l (.dK [])) (h ++ [.dct []]) := hR.push hl' (.dct upd_same .nil)
  have er : (r ++ [l])[h.length]? = some l := by rw [← hR.len]; simp
  refine hp.rf _ _ _ s σ _ hR0 (sR.mono st0) (PostR.seq (PostR.shift st0 p) fun ps h1 r1 H1 qs s1 hR1 v1 p1 => ?_)
  split at p1
  · rename_i eo
    split at p1
    · rename_i hc
      have ea := s1.pre _ _ er
      cases hR1.ob _ _ _ eo ea with
      | dct hl1 hv1 =>
        cases hv1
        obtain ⟨es, rfl, d⟩ := vps_dr v1 hc.1
        refine ⟨hl1, es, rfl, by have := hc.2; rw [d.len] at this; exact this, ?_⟩
        have st : Stp G.K r1 H1 r1 (upd H1 l (.dK (mergeK [] es))) := Stp.upd fun o e => by rw [hl1] at e; cases e; trivial
        exact p1 r1 _ _ st (hR1.write eo rfl ea (fun o e => by rw [hl1] at e; cases e; trivial) (.dct upd_same ((DR.merge ok (.nil) d).mono st)) rfl) (.ref ea)
    · exact p1.elim
  · exact p1.elim
end
/-! wishes -/
section
variable {E : Nat → Heap → Prop} {Q : Val → Heap → Prop} {QP : List (Val × Val) → Heap → Prop} {QU : Unit → Heap → Prop} {h : Heap} {D : K4} {s : En} {a b n : Nat} {x y z : Val} {mo my mk mv : En → Heap → Res Val} {ms : List ME2}
@[simp ↓] theorem wR_mPs0 : wR (mPs [] s h) E QP = QP [] h := rfl
@[simp ↓] theorem wR_mPs1 : wR (mPs ((mk, mv) :: ms) s h) E QP = wR (mk s h) E fun k h1 => wR (mv s h1) E fun v h2 => wR (mPs ms s h2) E fun ps h3 => QP ((k, v) :: ps) h3 := by simp [mPs]
@[simp ↓] theorem wR_mDisp : wR (mDisp ms s h) E Q = wR (mPs ms s (h ++ [.dct []])) E fun ps h1 => (match h1[h.length]? with
    | some (.dct []) => (ps.all (fun kv => isKey kv.1) = true ∧ ps.length ≤ 15) ∧ Q (.ref h.length) (h1.set h.length (.dct (mergeV [] ps)))
    | _ => False) := by
  unfold mDisp; simp only [wR_bind]; congr; funext ps h1; split
  · simp only [wR_ite, wR_ok, wR_stuck, ite_and']
    all_goals simp_all
  · simp_all
@[simp ↓] theorem wR_mUpd : wR (mUpd mo my s h) E Q = wR (mo s h) E fun o h1 => isU o h1 = true ∧ wR (my s h1) E fun y h2 => wR (dUpd o y h2) E Q := by
  unfold mUpd; simp only [wR_bind]; congr; funext o h1; split <;> simp_all
theorem dUpd_at {d e : List (Val × Val)} (e1 : h[a]? = some (.dct d)) (e2 : h[b]? = some (.dct e)) (ne : a ≠ b) (hl : d.length + e.length ≤ lim) : dUpd (.ref a) (.ref b) h = .ok .non (h.set a (.dct (mergeV d e))) := by simp [dUpd, e1, e2, ne, hl]
theorem isU_at {d : List (Val × Val)} (e1 : h[a]? = some (.dct d)) : isU (.ref a) h = true := by simp [isU, e1]
theorem bDictD_at {d : List (Val × Val)} (e1 : h[a]? = some (.dct d)) : bDictD [.ref a] h = .ok (.ref h.length) (h ++ [.dct d]) := by simp [bDictD, e1]
theorem bSorted_lst {ys : List Val} {ns : List Int} (e1 : h[a]? = some (.lst ys)) (e2 : optAll asInt ys = some ns) : bSorted [.ref a] h = .ok (.ref h.length) (h ++ [.lst ((sortI ns).map .int)]) := by simp [bSorted, e1, e2]
theorem bSorted_dct {d : List (Val × Val)} {ns : List Int} (e1 : h[a]? = some (.dct d)) (e2 : optAll (fun kv : Val × Val => asInt kv.1) d = some ns) (hl : ns.length < 64) : bSorted [.ref a] h = .ok (.ref h.length) (h ++ [.lst ((sortI ns).map .int)]) := by simp [bSorted, e1, e2, hl]
theorem bMinL_at {ys : List Val} {ns : List Int} (e1 : h[a]? = some (.lst ys)) (e2 : optAll asInt ys = some ns) (ne : ns ≠ []) : bMinL [.ref a] h = .ok (.int (minI ns)) h := by simp [bMinL, e1, e2, ne]
@[simp ↓] theorem wR_revL : wR (revL (.ref a) h) E Q = (match h[a]? with | some (.lst xs) => Q (.ref h.length) (h ++ [.lst xs.reverse]) | _ => False) := by
  unfold revL; simp only; split <;> simp_all
@[simp ↓] theorem wR_rgL {i j : Int} : wR (rgL (.int i) (.int j) h) E Q = ((-(2 ^ 62) ≤ i ∧ i < 2 ^ 62 ∧ -(2 ^ 62) ≤ j ∧ j < 2 ^ 62 ∧ (j - i).toNat ≤ lim) ∧ Q (.ref h.length) (h ++ [.lst (rangeV i (j - i).toNat)])) := by
  unfold rgL; simp only [wR_ite, wR_ok, wR_stuck, ite_and']
@[simp ↓] theorem wR_rgT {i j : Int} : wR (rgT (.int i) (.int j) h) E Q = ((-(2 ^ 62) ≤ i ∧ i < 2 ^ 62 ∧ -(2 ^ 62) ≤ j ∧ j < 2 ^ 62 ∧ (j - i).toNat ≤ lim) ∧ Q (.tup (rangeV i (j - i).toNat)) h) := by
  unfold rgT; simp only [wR_ite, wR_ok, wR_stuck, ite_and']
@[simp ↓] theorem wR_oIxLs {i : Nat} : wR (oIx (.ref a) (.str i) h) E Q = (match h[a]? with
    | some (.dct d) => (match lookV d (.str i) with | some v => Q v h | none => False)
    | some (.fdc d) => (match lookV d (.str i) with | some v => Q v h | none => False)
    | _ => False) := by
  unfold oIx; simp only [isKey]; split <;> simp_all
  all_goals (split <;> simp_all)
@[simp ↓] theorem wR_oSetS {i : Nat} : wR (oSet (.ref a) (.str i) x h) E QU = (match h[a]? with
    | some (.dct d) => d.length < lim ∧ QU () (h.set a (.dct (putV d (.str i) x)))
    | _ => False) := by
  unfold oSet; simp only [isKey]; split
  · simp_all
  · simp only [wR_ite, wR_ok, wR_stuck, ite_and']
    all_goals simp_all
  · simp_all
end
end PyM
namespace PyM
open PySem L2
/-! list(d) -/
def bListD (xs : List Val) (h : Heap) : Res Val := match xs with
  | [.ref a] => match h[a]? with
    | some (.dct d) => .ok (.ref h.length) (h ++ [.lst (d.map (·.1))])
    | _ => .stuck
  | _ => .stuck
section
variable {G : Cfg} {E : XK} {X : Cx} {k : Nat} {r : List Addr} {H : Hp} {h : Heap}
theorem DR.keys {d : List (Val × Val)} {es : List (L2.Key × V)} (q : DR G r H d es) : VRs G r H (d.map (·.1)) (es.map fun kv => kV kv.1) := by
  induction q with
  | nil => exact .nil
  | cons a b _ ih =>
    refine .cons ?_ ih
    cases a with
    | int i => exact .int i
    | str e => exact .str e
theorem rl_listD : RfL G E (fun xs H Q => ∃ (a : Addr) (kvs : List (L2.Key × V)), xs = [.ref a] ∧ L2.Rd H a (.dK kvs) ∧ ∀ p, H p = none → Q (.ref p) (upd H p (.lst (kvs.map fun kv => kV kv.1)))) bListD := by
  refine ⟨fun r H h xs vs Q hR v p => ?_⟩
  unfold bListD at p
  split at p
  · cases v with
    | cons q1 q2 => cases q2; cases q1 with
      | ref ea =>
        split at p
        · rename_i d eo
          cases hR.ob _ _ _ eo ea with
          | dct hl hv => exact ⟨_, _, rfl, .inl hl, fun l hl' => new_lst hR hv.keys p l hl'⟩
        · exact False.elim p
  · exact False.elim p
theorem bListD_at {a : Nat} {d : List (Val × Val)} (e : h[a]? = some (.dct d)) : bListD [.ref a] h = .ok (.ref h.length) (h ++ [.lst (d.map (·.1))]) := by simp [bListD, e]
/-- equal dicts, equal tuples of lists of dicts -/
theorem hitsM_self {f : Val → Val → Option Bool} {e : List (Val × Val)} : ∀ (d : List (Val × Val)), (∀ p ∈ d, lookV e p.1 = some p.2 ∧ f p.2 p.2 = some true) → hitsM f e d = some true
  | [], _ => rfl
  | (k, v) :: r, g => by
    obtain ⟨g1, g2⟩ := g (k, v) List.mem_cons_self
    simp only at g1 g2
    simp [hitsM, g1, g2, hitsM_self r fun p hp => g p (List.mem_cons_of_mem _ hp)]
theorem lookV_mem : ∀ {d : List (Val × Val)}, (d.map (·.1)).Nodup → ∀ p ∈ d, lookV d p.1 = some p.2
  | [], _, p, hp => by cases hp
  | (k, v) :: r, nd, p, hp => by
    rw [List.map_cons, List.nodup_cons] at nd
    rcases List.mem_cons.mp hp with rfl | hp
    · simp [lookV]
    · have hne : ¬ k = p.1 := fun e => nd.1 (by rw [e]; exact List.mem_map.mpr ⟨p, hp, rfl⟩)
      have := lookV_mem nd.2 p hp
      simp only [lookV, List.find?_cons, hne, decide_false] at this ⊢
      exact this
theorem eqH_pl {n : Nat} {x y : Val} (hx : pl 40 x = true) (hy : pl 40 y = true) : eqH (n + 1) h x y = some (decide (x = y)) := by
  unfold eqH
  rw [conv_pl 40 x hx, conv_pl 40 y hy]
  simp only [deq_pl x y 40 40 hx hy]
theorem conv_ref_dct {n a : Nat} {d : List (Val × Val)} (e : h[a]? = some (.dct d)) : conv n h (.ref a) = none := by
  cases n with
  | zero => rfl
  | succ n => simp [conv, e]
theorem eqH_dct {n a b : Nat} {d : List (Val × Val)} (ea : h[a]? = some (.dct d)) (eb : h[b]? = some (.dct d)) (hi : d.all (fun kv => isIV kv.1) = true) (nd : (d.map (·.1)).Nodup) (hp : ∀ p ∈ d, pl 40 p.2 = true) : eqH (n + 2) h (.ref a) (.ref b) = some true := by
  unfold eqH
  rw [conv_ref_dct ea]
  simp only
  by_cases q : a = b
  · simp [q]
  · simp only [q, if_false]
    unfold eqStep
    simp only [ea, eb, hi, and_self, if_true]
    refine hitsM_self d fun p hp' => ⟨lookV_mem nd p hp', ?_⟩
    rw [eqH_pl (hp p hp') (hp p hp')]
    simp
theorem optAll_true {α : Type} {f : α → Option Bool} : ∀ {l : List α}, (∀ x ∈ l, f x = some true) → optAll f l = some (List.replicate l.length true)
  | [], _ => rfl
  | x :: l, g => by
    rw [optAll, g x List.mem_cons_self, optAll_true fun y hy => g y (List.mem_cons_of_mem _ hy)]
    rfl
theorem all_rep (n : Nat) : (List.replicate n true).all id = true := by
  induction n with
  | zero => rfl
  | succ n ih => simp [List.replicate_succ]
theorem eqStep_lst {f : Val → Val → Option Bool} {a b : Nat} {xs ys : List Val} (ea : h[a]? = some (.lst xs)) (eb : h[b]? = some (.lst ys)) (hl : xs.length = ys.length) (g : ∀ p ∈ xs.zip ys, f p.1 p.2 = some true) : eqStep f h (.ref a) (.ref b) = some true := by
  unfold eqStep
  simp only [ea, eb, hl, if_true]
  rw [optAll_true g]
  simp [all_rep]
end
end PyM

set_option Elab.async false
set_option linter.all false
set_option maxRecDepth 100000
set_option maxHeartbeats 4000000
namespace Lw
open PyM
def m__law_next : List Val → Heap → Res Val := runB 2 4
    (sSeq (sAsg (gV 2) (mB oIx (mV 0) (mK (.int 2))))
    (sSeq (sIf (tB_ (mB (oEq false) (mV 2) (mK (.int 0)))) (sSeq (sAsg (gV 3) (mK (.int 0)))
    (sSeq (sIf (tB_ (mB oLt (mB oIx (mV 0) (mK (.int 1))) (mL bLen (mCons (mB oIx (mV 0) (mK (.int 0))) (mNil))))) (sSeq (sAsg (gV 3) (mL bAbs (mCons (mL bInt (mCons (mB oIx (mB oIx (mV 0) (mK (.int 0))) (mB oIx (mV 0) (mK (.int 1)))) (mNil))) (mNil))))
    (sSub (mV 0) (mK (.int 1)) (mB oAdd (mB oIx (mV 0) (mK (.int 1))) (mK (.int 1))))) (sNx))
    (sSeq (sAsg (gV 2) (mV 3))
    (sIf (tB_ (mB oLt (mV 3) (mB oPw (mK (.int 10)) (mK (.int 18))))) (sSeq (sSub (mV 0) (mK (.int 3)) (mB oMd (mL bInt (mCons (mB oAdd (mB oAdd (mB oMul (mB oIx (mV 0) (mK (.int 3))) (mK (.int 69621))) (mB oMul (mV 3) (mK (.int 40692)))) (mK (.int 17))) (mNil))) (mK (.int 2147483647))))
    (sRet (mB oMd (mB oMd (mL bInt (mCons (mB oMul (mB oFd (mB oIx (mV 0) (mK (.int 3))) (mK (.int 5))) (mK (.int 48271))) (mNil))) (mK (.int 2147483647))) (mV 1)))) (sNx))))) (sNx))
    (sSeq (sSub (mV 0) (mK (.int 2)) (mB oFd (mV 2) (mV 1)))
    (sRet (mB oMd (mL bInt (mCons (mV 2) (mNil))) (mV 1))))))
def m_Types___init__ : List Val → Heap → Res Val := runB 2 2
    (sSeq (sFld 0 0 (mV 0) (mV 1))
    (sSeq (sFld 0 1 (mV 0) (mLst (mNil)))
    (sFld 0 2 (mV 0) (mLst (mNil)))))
def m_is_number : List Val → Heap → Res Val := runB 1 1
    (sRet (mAn (mIsi .int (mV 0)) (mNo (mIsi .bool (mV 0)))))
def m_is_index : List Val → Heap → Res Val := runB 1 1
    (sRet (mAn (mCall m_is_number [] (mCons (mV 0) (mNil))) (mChLeLt (mK (.int 0)) (mV 0) (mK (.int 8)))))
def m_is_word : List Val → Heap → Res Val := runB 1 1
    (sRet (mAn (mCall m_is_number [] (mCons (mV 0) (mNil))) (mChLeLe (mK (.int 0)) (mV 0) (mK (.int 4294967295)))))
def m_is_guard : List Val → Heap → Res Val := runB 1 1
    (sSeq (sIf (tOr_ (tNo (tTr (mIsi .tup (mV 0)))) (tB_ (mB (oEq true) (mL bLen (mCons (mV 0) (mNil))) (mK (.int 3))))) (sRet (mK (.bl false))) (sNx))
    (sRet (mAn (mCall m_is_index [] (mCons (mB oIx (mV 0) (mK (.int 0))) (mNil))) (mAn (mCall m_is_word [] (mCons (mB oIx (mV 0) (mK (.int 1))) (mNil))) (mCall m_is_word [] (mCons (mB oIx (mV 0) (mK (.int 2))) (mNil)))))))
def m_is_many : List Val → Heap → Res Val := runB 2 2
    (sSeq (sIf (tTr (mIsi .tup (mV 0))) (sRet (mAn (mB (oEq false) (mL bLen (mCons (mV 0) (mNil))) (mK (.int 2))) (mAn (mB (oEq false) (mB oIx (mV 0) (mK (.int 0))) (mK (.str 0))) (mCall m_is_index [] (mCons (mB oIx (mV 0) (mK (.int 1))) (mNil)))))) (sNx))
    (sRet (mAn (mCall m_is_number [] (mCons (mV 0) (mNil))) (mChLeLe (mK (.int 1)) (mV 0) (mB (oI fun i j => .int (i - j)) (mK (.int 8)) (mV 1))))))
def m_is_clause : List Val → Heap → Res Val := runB 2 7
    (sSeq (sIf (tOr_ (tNo (tTr (mIsi .tup (mV 0)))) (tOr_ (tB_ (mB (oEq true) (mL bLen (mCons (mV 0) (mNil))) (mK (.int 4)))) (tNo (tTr (mIsi .tup (mB oIx (mV 0) (mK (.int 0)))))))) (sRet (mK (.bl false))) (sNx))
    (sSeq (sAsg (gT (gsCons (gV 2) (gsCons (gV 3) (gsCons (gV 4) (gsCons (gV 5) (gsNil)))))) (mV 0))
    (sSeq (sIf (tOr_ (tB_ (mB oGt (mL bLen (mCons (mV 2) (mNil))) (mK (.int 4)))) (tNo (tTr (mL bAll (mCons (mLc (iAlt (iLst (mV 2)) (iTup_ (mV 2))) (gV 6) (tTrue) (mCall m_is_guard [] (mCons (mV 6) (mNil))) [6]) (mNil)))))) (sRet (mK (.bl false))) (sNx))
    (sSeq (sIf (tOr_ (tNo (tTr (mCall m_is_index [] (mCons (mV 3) (mNil))))) (tNo (tTr (mCall m_is_many [] (mCons (mV 4) (mCons (mV 3) (mNil))))))) (sRet (mK (.bl false))) (sNx))
    (sSeq (sIf (tTr (mIsi .str (mV 5))) (sRet (mB (oEq false) (mV 5) (mK (.str 1)))) (sNx))
    (sRet (mAn (mCall m_is_number [] (mCons (mV 5) (mNil))) (mOr_ (mB (oEq false) (mV 5) (mK (.int 0))) (mChLeLt (mK (.int 2)) (mV 5) (mV 1))))))))))
def m_is_program : List Val → Heap → Res Val := runB 2 3
    (sSeq (sIf (tOr_ (tNo (tTr (mIsi .tup (mV 0)))) (tB_ (mB oGt (mL bLen (mCons (mV 0) (mNil))) (mK (.int 8))))) (sRet (mK (.bl false))) (sNx))
    (sRet (mL bAll (mCons (mLc (iAlt (iLst (mV 0)) (iTup_ (mV 0))) (gV 2) (tTrue) (mCall m_is_clause [] (mCons (mV 2) (mCons (mV 1) (mNil)))) [2]) (mNil)))))
def m_Types_count : List Val → Heap → Res Val := runB 1 1
    (sRet (mB oAdd (mK (.int 2)) (mL bLen (mCons (mU (getF 1) (mV 0)) (mNil)))))
def m_Types_add : List Val → Heap → Res Val := runB 3 3
    (sSeq (sIf (tNo (tTr (mCall m_is_program [] (mCons (mV 1) (mCons (mMeth 0 m_Types_count [] (mV 0) (mNil)) (mNil)))))) (sRet (mK .non)) (sNx))
    (sSeq (sIf (tB_ (mB (oIn false) (mV 1) (mU (getF 1) (mV 0)))) (sRet (mB oAdd (mK (.int 2)) (mBM bIndex (mU (getF 1) (mV 0)) (mCons (mV 1) (mNil))))) (sNx))
    (sSeq (sIf (tB_ (mB oGe (mBM bCount (mU (getF 2) (mV 0)) (mCons (mV 2) (mNil))) (mK (.int 4)))) (sRet (mK .non)) (sNx))
    (sSeq (sDrop (mBM bAppend (mU (getF 1) (mV 0)) (mCons (mV 1) (mNil))))
    (sSeq (sDrop (mBM bAppend (mU (getF 2) (mV 0)) (mCons (mV 2) (mNil))))
    (sRet (mB (oI fun i j => .int (i - j)) (mMeth 0 m_Types_count [] (mV 0) (mNil)) (mK (.int 1)))))))))
def m__law_types : List Val → Heap → Res Val := runB 1 2
    (sSeq (sAsg (gV 1) (mMake 0 m_Types___init__ [] (mCons (mV 0) (mNil))))
    (sSeq (sDrop (mMeth 0 m_Types_add [] (mV 1) (mCons (mTup (mCons (mTup (mCons (mTup (mNil)) (mCons (mK (.int 0)) (mCons (mK (.int 2)) (mCons (mK (.str 1)) (mNil)))))) (mCons (mTup (mCons (mTup (mNil)) (mCons (mK (.int 2)) (mCons (mK (.int 2)) (mCons (mK (.int 0)) (mNil)))))) (mNil)))) (mCons (mK (.int 0)) (mNil)))))
    (sSeq (sDrop (mMeth 0 m_Types_add [] (mV 1) (mCons (mTup (mCons (mTup (mCons (mTup (mCons (mTup (mCons (mK (.int 7)) (mCons (mK (.int 255)) (mCons (mK (.int 1)) (mNil))))) (mNil))) (mCons (mK (.int 0)) (mCons (mK (.int 4)) (mCons (mK (.int 0)) (mNil)))))) (mNil))) (mCons (mK (.int 1)) (mNil)))))
    (sRet (mV 1)))))
def m__law_drawn : List Val → Heap → Res Val := runB 2 6
    (sSeq (sAsg (gV 2) (mLst (mNil)))
    (sSeq (sFor (iRng1 (mCons (mV 1) (mNil))) (gV 3) (sSeq (sAsg (gV 4) (mLc (iRng1 (mCons (mK (.int 4)) (mNil))) (gV 5) (tTrue) (mB oIx (mLst (mCons (mK (.int 0)) (mCons (mK (.int 0)) (mCons (mK (.int 0)) (mCons (mB oAdd (mK (.int 4)) (mCall m__law_next [] (mCons (mV 0) (mCons (mB (oI fun i j => .int (i - j)) (mV 1) (mK (.int 4))) (mNil))))) (mCons (mCall m__law_next [] (mCons (mV 0) (mCons (mB oAdd (mV 1) (mK (.int 2))) (mNil)))) (mNil))))))) (mCall m__law_next [] (mCons (mV 0) (mCons (mK (.int 5)) (mNil))))) [5]))
    (sSeq (sIf (tB_ (mB oLt (mV 3) (mK (.int 4)))) (sSub (mV 4) (mK (.int 1)) (mB oIx (mLst (mCons (mK (.int 0)) (mCons (mK (.int 2)) (mCons (mK (.int 3)) (mCons (mK (.int 2)) (mCons (mK (.int 1)) (mCons (mK (.int 7)) (mNil)))))))) (mCall m__law_next [] (mCons (mV 0) (mCons (mK (.int 6)) (mNil)))))) (sNx))
    (sDrop (mBM bAppend (mV 2) (mCons (mL bTuple (mCons (mB oAdd (mV 4) (mLst (mCons (mK (.int 0)) (mCons (mK (.int 0)) (mCons (mK (.int 0)) (mCons (mB oIx (mLst (mCons (mK (.int 0)) (mCons (mK (.int 1)) (mCons (mK (.int 257)) (mNil))))) (mCall m__law_next [] (mCons (mV 0) (mCons (mK (.int 3)) (mNil))))) (mNil))))))) (mNil))) (mNil)))))))
    (sRet (mV 2))))
def m__law_chain : List Val → Heap → Res Val := runB 2 8
    (sSeq (sAsg (gV 2) (mB oMul (mLst (mCons (mB oMul (mTup (mCons (mK (.int 0)) (mNil))) (mK (.int 8))) (mNil))) (mV 1)))
    (sSeq (sAsg (gV 3) (mB rgL (mK (.int 4)) (mV 1)))
    (sSeq (sSub (mV 2) (mCall m__law_next [] (mCons (mV 0) (mCons (mK (.int 4)) (mNil)))) (mB oAdd (mTup (mCons (mK (.int 4)) (mCons (mK (.int 2)) (mNil)))) (mB oMul (mTup (mCons (mK (.int 0)) (mNil))) (mK (.int 6)))))
    (sSeq (sFor (iRng1 (mCons (mCall m__law_next [] (mCons (mV 0) (mCons (mB (oI fun i j => .int (i - j)) (mL bLen (mCons (mV 3) (mNil))) (mK (.int 2))) (mNil)))) (mNil))) (gV 4) (sSeq (sAsg (gV 5) (mLst (mCons (mB oIx (mV 3) (mB oAdd (mV 4) (mK (.int 1)))) (mCons (mK (.int 0)) (mCons (mK (.int 0)) (mCons (mK (.int 0)) (mCons (mK (.int 0)) (mCons (mK (.int 0)) (mCons (mK (.int 0)) (mCons (mK (.int 0)) (mNil)))))))))))
    (sSub (mV 2) (mB oIx (mV 3) (mV 4)) (mL bTuple (mCons (mV 5) (mNil))))))
    (sSeq (sFor (iRng1 (mCons (mCall m__law_next [] (mCons (mV 0) (mCons (mK (.int 3)) (mNil)))) (mNil))) (gV 6) (sSeq (sAsg (gV 7) (mCall m__law_next [] (mCons (mV 0) (mCons (mV 1) (mNil)))))
    (sSeq (sAsg (gV 5) (mL bList (mCons (mB oIx (mV 2) (mV 7)) (mNil))))
    (sSeq (sSub (mV 5) (mCall m__law_next [] (mCons (mV 0) (mCons (mK (.int 4)) (mNil)))) (mB oIx (mLst (mCons (mK (.int 0)) (mCons (mB oAdd (mK (.int 4)) (mCall m__law_next [] (mCons (mV 0) (mCons (mB (oI fun i j => .int (i - j)) (mV 1) (mK (.int 4))) (mNil))))) (mCons (mV 1) (mCons (mK (.int 3)) (mNil)))))) (mCall m__law_next [] (mCons (mV 0) (mCons (mK (.int 4)) (mNil))))))
    (sSub (mV 2) (mV 7) (mL bTuple (mCons (mV 5) (mNil))))))))
    (sRet (mV 2)))))))
def m__law_owns : List Val → Heap → Res Val := runB 3 8
    (sSeq (sAsg (gV 3) (mLst (mNil)))
    (sSeq (sIf (tAn (tB_ (mB (oEq false) (mV 0) (mK (.int 1)))) (tB_ (mB (oEq true) (mB oIx (mV 1) (mK (.int 0))) (mK (.int 0))))) (sSeq (sAsg (gV 3) (mLst (mCons (mTup (mCons (mB oIx (mV 1) (mK (.int 0))) (mCons (mB oIx (mV 1) (mK (.int 1))) (mNil)))) (mNil))))
    (sIf (tB_ (mB (oIn true) (mB oIx (mV 1) (mK (.int 1))) (mTup (mCons (mK (.int 0)) (mCons (mK (.int 2)) (mCons (mK (.int 3)) (mNil))))))) (sRet (mK .non)) (sNx))) (sNx))
    (sSeq (sIf (tB_ (mB (oEq false) (mV 0) (mK (.int 2)))) (sAsg (gV 3) (mB oAdd (mLc (iAlt (iLst (mSl (mV 1) (pNo) (pSo (mK (.int 2))))) (iTup_ (mSl (mV 1) (pNo) (pSo (mK (.int 2)))))) (gV 6) (tB_ (mB (oEq true) (mV 6) (mK (.int 0)))) (mTup (mCons (mV 6) (mCons (mK (.int 2)) (mNil)))) [6]) (mLc (iAlt (iLst (mSl (mV 1) (pSo (mK (.int 2))) (pSo (mK (.int 4))))) (iTup_ (mSl (mV 1) (pSo (mK (.int 2))) (pSo (mK (.int 4)))))) (gV 6) (tB_ (mB (oEq true) (mV 6) (mK (.int 0)))) (mTup (mCons (mV 6) (mCons (mK (.int 0)) (mNil)))) [6]))) (sNx))
    (sSeq (sIf (tAn (tB_ (mB (oEq false) (mV 0) (mK (.int 3)))) (tB_ (mB (oEq false) (mB oMd (mL bInt (mCons (mB oIx (mV 1) (mK (.int 7))) (mNil))) (mK (.int 256))) (mK (.int 1))))) (sAsg (gV 3) (mLc (iAlt (iLst (mSl (mV 1) (pNo) (pSo (mK (.int 4))))) (iTup_ (mSl (mV 1) (pNo) (pSo (mK (.int 4)))))) (gV 6) (tB_ (mB (oEq true) (mV 6) (mK (.int 0)))) (mTup (mCons (mV 6) (mCons (mK (.int 0)) (mNil)))) [6])) (sNx))
    (sSeq (sAsg (gV 4) (mLc (iAlt (iLst (mV 3)) (iTup_ (mV 3))) (gV 7) (tTrue) (mB oIx (mV 7) (mK (.int 0))) [7]))
    (sSeq (sFor (iRng1 (mCons (mL bLen (mCons (mV 4) (mNil))) (mNil))) (gV 5) (sIf (tOr_ (tB_ (mB oLt (mB oIx (mV 4) (mV 5)) (mK (.int 4)))) (tOr_ (tB_ (mB oGe (mB oIx (mV 4) (mV 5)) (mV 2))) (tB_ (mB (oIn false) (mB oIx (mV 4) (mV 5)) (mSl (mV 4) (pNo) (pSo (mV 5))))))) (sRet (mK .non)) (sNx)))
    (sRet (mV 3))))))))
def m__law_walk : List Val → Heap → Res Val := runB 1 12
    (sSeq (sAsg (gV 1) (mLst (mNil)))
    (sSeq (sAsg (gV 2) (mLst (mNil)))
    (sSeq (sFor (iRng1 (mCons (mK (.int 4)) (mNil))) (gV 3) (sSeq (sAsg (gV 4) (mDct))
    (sSeq (sAsg (gV 5) (mLst (mCons (mTup (mCons (mV 3) (mCons (mK .non) (mCons (mK (.int 1)) (mNil))))) (mNil))))
    (sSeq (sFor (iRng1 (mCons (mK (.int 300)) (mNil))) (gV 6) (sIf (tB_ (mB oLt (mV 6) (mL bLen (mCons (mV 5) (mNil))))) (sSeq (sAsg (gT (gsCons (gV 7) (gsCons (gV 8) (gsCons (gV 9) (gsNil))))) (mB oIx (mV 5) (mV 6)))
    (sSeq (sIf (tB_ (mB (oIn false) (mV 7) (mV 2))) (sRet (mTup (mCons (mK (.str 2)) (mCons (mV 7) (mNil))))) (sNx))
    (sSeq (sAsg (gV 10) (mCall m__law_owns [] (mCons (mV 9) (mCons (mB oIx (mV 0) (mV 7)) (mCons (mL bLen (mCons (mV 0) (mNil))) (mNil))))))
    (sSeq (sIf (tB_ (mU (oIsN false) (mV 10))) (sRet (mTup (mCons (mK (.str 3)) (mCons (mV 7) (mNil))))) (sNx))
    (sSeq (sDrop (mBM bAppend (mV 2) (mCons (mV 7) (mNil))))
    (sSeq (sSub (mV 4) (mV 7) (mTup (mCons (mV 8) (mCons (mV 9) (mNil)))))
    (sAsg (gV 5) (mB oAdd (mV 5) (mLc (iAlt (iLst (mV 10)) (iTup_ (mV 10))) (gV 11) (tTrue) (mTup (mCons (mB oIx (mV 11) (mK (.int 0))) (mCons (mV 7) (mCons (mB oIx (mV 11) (mK (.int 1))) (mNil))))) [11]))))))))) (sNx)))
    (sDrop (mBM bAppend (mV 1) (mCons (mV 4) (mNil))))))))
    (sRet (mTup (mCons (mK (.str 4)) (mCons (mV 1) (mNil))))))))
def m_words_of : List Val → Heap → Res Val := runB 2 9
    (sSeq (sAsg (gT (gsCons (gV 2) (gsCons (gV 3) (gsCons (gV 4) (gsCons (gV 5) (gsNil)))))) (mV 0))
    (sSeq (sFor (iAlt (iLst (mV 2)) (iTup_ (mV 2))) (gT (gsCons (gV 6) (gsCons (gV 7) (gsCons (gV 8) (gsNil))))) (sIf (tB_ (mB (oEq true) (mB oBa (mB oIx (mV 1) (mV 6)) (mV 7)) (mV 8))) (sRet (mTup (mNil))) (sNx)))
    (sSeq (sIf (tTr (mIsi .tup (mV 4))) (sAsg (gV 4) (mB oIx (mV 1) (mB oIx (mV 4) (mK (.int 1))))) (sNx))
    (sRet (mSl (mV 1) (pSo (mV 3)) (pSo (mL bMin2 (mCons (mK (.int 8)) (mCons (mB oAdd (mV 3) (mV 4)) (mNil))))))))))
def m_is_block : List Val → Heap → Res Val := runB 2 2
    (sRet (mChLeLt (mK (.int 4)) (mV 0) (mV 1)))
def m_run_program : List Val → Heap → Res Val := runB 4 9
    (sSeq (sAsg (gV 4) (mLst (mNil)))
    (sSeq (sAsg (gV 5) (mDct))
    (sSeq (sFor (iAlt (iLst (mV 0)) (iTup_ (mV 0))) (gV 6) (sSeq (sAsg (gV 7) (mB oIx (mV 6) (mK (.int 3))))
    (sSeq (sIf (tB_ (mB (oEq false) (mV 7) (mK (.str 1)))) (sAsg (gV 7) (mV 3)) (sNx))
    (sFor (iAlt (iLst (mCall m_words_of [] (mCons (mV 6) (mCons (mV 1) (mNil))))) (iTup_ (mCall m_words_of [] (mCons (mV 6) (mCons (mV 1) (mNil)))))) (gV 8) (sIf (tB_ (mB (oEq true) (mV 8) (mK (.int 0)))) (sSeq (sIf (tOr_ (tNo (tTr (mCall m_is_block [] (mCons (mV 8) (mCons (mV 2) (mNil)))))) (tB_ (mB (oIn false) (mV 8) (mV 5)))) (sRet (mK .non)) (sNx))
    (sSeq (sSub (mV 5) (mV 8) (mK (.bl true)))
    (sDrop (mBM bAppend (mV 4) (mCons (mTup (mCons (mV 8) (mCons (mV 7) (mNil)))) (mNil)))))) (sNx))))))
    (sRet (mL bTuple (mCons (mV 4) (mNil)))))))
def m_Types_is_known : List Val → Heap → Res Val := runB 2 2
    (sRet (mAn (mCall m_is_number [] (mCons (mV 1) (mNil))) (mChLeLt (mK (.int 0)) (mV 1) (mMeth 0 m_Types_count [] (mV 0) (mNil)))))
def m_Types_owned : List Val → Heap → Res Val := runB 3 3
    (sSeq (sIf (tB_ (mB (oEq false) (mV 1) (mK (.int 0)))) (sRet (mTup (mNil))) (sNx))
    (sSeq (sIf (tB_ (mB (oEq true) (mV 1) (mK (.int 1)))) (sRet (mCall m_run_program [] (mCons (mB oIx (mU (getF 1) (mV 0)) (mB (oI fun i j => .int (i - j)) (mV 1) (mK (.int 2)))) (mCons (mV 2) (mCons (mU (getF 0) (mV 0)) (mCons (mV 1) (mNil))))))) (sNx))
    (sSeq (sIf (tB_ (mB (oEq false) (mB oIx (mV 2) (mK (.int 0))) (mK (.int 0)))) (sRet (mTup (mNil))) (sNx))
    (sSeq (sIf (tOr_ (tNo (tTr (mCall m_is_block [] (mCons (mB oIx (mV 2) (mK (.int 0))) (mCons (mU (getF 0) (mV 0)) (mNil)))))) (tOr_ (tNo (tTr (mMeth 0 m_Types_is_known [] (mV 0) (mCons (mB oIx (mV 2) (mK (.int 1))) (mNil))))) (tB_ (mB (oEq false) (mB oIx (mV 2) (mK (.int 1))) (mK (.int 1)))))) (sRet (mK .non)) (sNx))
    (sRet (mTup (mCons (mTup (mCons (mB oIx (mV 2) (mK (.int 0))) (mCons (mB oIx (mV 2) (mK (.int 1))) (mNil)))) (mNil))))))))
def m_forest_of : List Val → Heap → Res Val := runB 4 12
    (sSeq (sAsg (gV 4) (mDct))
    (sSeq (sAsg (gV 5) (mLst (mCons (mTup (mCons (mV 2) (mCons (mK .non) (mCons (mK (.int 1)) (mNil))))) (mNil))))
    (sSeq (whM (tTr (mV 5)) (sSeq (sAsg (gT (gsCons (gV 6) (gsCons (gV 7) (gsCons (gV 8) (gsNil))))) (mBM bPopAt (mV 5) (mCons (mK (.int 0)) (mNil))))
    (sSeq (sIf (tB_ (mB (oIn false) (mV 6) (mV 3))) (sRet (mTup (mCons (mK (.str 2)) (mCons (mV 6) (mNil))))) (sNx))
    (sSeq (sSub (mV 3) (mV 6) (mK (.bl true)))
    (sSeq (sSub (mV 4) (mV 6) (mTup (mCons (mV 7) (mCons (mV 8) (mNil)))))
    (sSeq (sAsg (gV 9) (mMeth 0 m_Types_owned [] (mV 1) (mCons (mV 8) (mCons (mB oIx (mV 0) (mV 6)) (mNil)))))
    (sSeq (sIf (tB_ (mU (oIsN false) (mV 9))) (sRet (mTup (mCons (mK (.str 3)) (mCons (mV 6) (mNil))))) (sNx))
    (sFor (iAlt (iLst (mV 9)) (iTup_ (mV 9))) (gT (gsCons (gV 10) (gsCons (gV 11) (gsNil)))) (sDrop (mBM bAppend (mV 5) (mCons (mTup (mCons (mV 10) (mCons (mV 6) (mCons (mV 11) (mNil))))) (mNil))))))))))) 100000)
    (sRet (mV 4)))))
def m_forests : List Val → Heap → Res Val := runB 2 6
    (sSeq (sAsg (gV 2) (mDct))
    (sSeq (sAsg (gV 3) (mLst (mNil)))
    (sSeq (sFor (iRng1 (mCons (mK (.int 4)) (mNil))) (gV 4) (sSeq (sAsg (gV 5) (mCall m_forest_of [] (mCons (mV 0) (mCons (mV 1) (mCons (mV 4) (mCons (mV 2) (mNil)))))))
    (sSeq (sIf (tTr (mIsi .tup (mV 5))) (sRet (mV 5)) (sNx))
    (sDrop (mBM bAppend (mV 3) (mCons (mV 5) (mNil)))))))
    (sRet (mTup (mCons (mK (.str 4)) (mCons (mV 3) (mNil))))))))
def m_unreached : List Val → Heap → Res Val := runB 2 5
    (sSeq (sAsg (gV 2) (mDct))
    (sSeq (sFor (iAlt (iLst (mB oIx (mCall m_forests [] (mCons (mV 0) (mCons (mV 1) (mNil)))) (mK (.int 1)))) (iTup_ (mB oIx (mCall m_forests [] (mCons (mV 0) (mCons (mV 1) (mNil)))) (mK (.int 1))))) (gV 3) (sDrop (mUpd (mV 2) (mV 3))))
    (sRet (mLc (iRng2 (mCons (mK (.int 4)) (mCons (mL bLen (mCons (mV 0) (mNil))) (mNil)))) (gV 4) (tB_ (mB (oIn true) (mV 4) (mV 2))) (mV 4) [4]))))
def m_law : List Val → Heap → Res Val := runB 1 11
    (sSeq (sAsg (gV 1) (mLst (mCons (mL bList (mCons (mV 0) (mNil))) (mCons (mK (.int 0)) (mCons (mK (.int 0)) (mCons (mK (.int 19)) (mNil)))))))
    (sSeq (sAsg (gV 2) (mB oAdd (mK (.int 24)) (mCall m__law_next [] (mCons (mV 1) (mCons (mK (.int 17)) (mNil))))))
    (sSeq (sAsg (gV 3) (mCall m__law_types [] (mCons (mV 2) (mNil))))
    (sSeq (sFor (iRng1 (mCons (mK (.int 4)) (mNil))) (gV 4) (sSeq (sAsg (gV 5) (mCall m__law_drawn [] (mCons (mV 1) (mCons (mV 2) (mNil)))))
    (sSeq (sIf (tB_ (mB (oEq false) (mCall m__law_next [] (mCons (mV 1) (mCons (mK (.int 2)) (mNil)))) (mK (.int 0)))) (sAsg (gV 5) (mCall m__law_chain [] (mCons (mV 1) (mCons (mV 2) (mNil))))) (sNx))
    (sSeq (sAsg (gV 6) (mL bList (mCons (mV 5) (mNil))))
    (sSeq (sAsg (gV 7) (mCall m__law_walk [] (mCons (mV 5) (mNil))))
    (sSeq (sIf (tOr_ (tB_ (mB (oEqH true) (mCall m_forests [] (mCons (mV 5) (mCons (mV 3) (mNil)))) (mV 7))) (tB_ (mB (oEq true) (mV 5) (mV 6)))) (sRet (mK (.bl false))) (sNx))
    (sIf (tB_ (mB (oEq false) (mB oIx (mV 7) (mK (.int 0))) (mK (.str 4)))) (sSeq (sAsg (gV 8) (mLst (mNil)))
    (sSeq (sFor (iAlt (iLst (mB oIx (mV 7) (mK (.int 1)))) (iTup_ (mB oIx (mV 7) (mK (.int 1))))) (gV 9) (sAsg (gV 8) (mB oAdd (mV 8) (mL bListD (mCons (mV 9) (mNil))))))
    (sIf (tB_ (mB (oEq true) (mCall m_unreached [] (mCons (mV 5) (mCons (mV 3) (mNil)))) (mLc (iRng2 (mCons (mK (.int 4)) (mCons (mV 2) (mNil)))) (gV 10) (tB_ (mB (oIn true) (mV 10) (mV 8))) (mV 10) [10]))) (sRet (mK (.bl false))) (sNx)))) (sNx))))))))
    (sRet (mK (.bl true)))))))
end Lw

set_option Elab.async false
set_option linter.all false
set_option autoImplicit false
set_option maxHeartbeats 4000000
set_option maxRecDepth 100000
namespace Lw
open PyM
structure Cl where
  gs : List (Nat × Nat × Nat)
  st : Nat
  mw : Bool
  mn : Nat
  kd : Nat
def encG (g : Nat × Nat × Nat) : Val := .tup [.int g.1, .int g.2.1, .int g.2.2]
def encM (c : Cl) : Val := if c.mw = true then .tup [.str 0, .int c.mn] else .int c.mn
def encK (k : Nat) : Val := if k = 0 then .int 0 else if k = 1 then .str 1 else .int 2
def encC (c : Cl) : Val := .tup [.tup (c.gs.map encG), .int c.st, encM c, encK c.kd]
def encP (P : List Cl) : Val := .tup (P.map encC)
def goodG (g : Nat × Nat × Nat) : Prop := g.1 < 8 ∧ g.2.1 < 2 ^ 32 ∧ g.2.2 < 2 ^ 32
structure GoodC (c : Cl) : Prop where
  g : ∀ g ∈ c.gs, goodG g
  l : c.gs.length ≤ 4
  s : c.st < 8
  m : if c.mw = true then c.mn < 8 else 1 ≤ c.mn ∧ c.mn ≤ 8 - c.st
  k : c.kd < 3
def GoodP (P : List Cl) : Prop := P.length ≤ 4 ∧ ∀ c ∈ P, GoodC c
theorem nx_eq : m__law_next = m_next2 := rfl
theorem lim12 : 64 < lim := by decide
theorem pow32 : (4294967296 : Nat) = 2 ^ 32 := rfl
theorem num_int {i : Int} {h : Heap} : m_is_number [.int i] h = .ok (.bl true) h := rfl
theorem num_bl {b : Bool} {h : Heap} : m_is_number [.bl b] h = .ok (.bl false) h := rfl
theorem num_non {h : Heap} : m_is_number [.non] h = .ok (.bl false) h := rfl
theorem index_ok {i : Int} {h : Heap} : m_is_index [.int i] h = .ok (.bl (decide (0 ≤ i) && decide (i < 8))) h := by
  refine eq_of_wR ?_
  unfold m_is_index
  refine wRB rfl ?_
  by_cases h1 : 0 ≤ i <;> simp [num_int, h1]
theorem index_bl {b : Bool} {h : Heap} : m_is_index [.bl b] h = .ok (.bl false) h := by
  refine eq_of_wR ?_
  unfold m_is_index
  refine wRB rfl ?_
  simp [num_bl]
theorem word_ok {i : Int} {h : Heap} : m_is_word [.int i] h = .ok (.bl (decide (0 ≤ i) && decide (i ≤ 4294967295))) h := by
  refine eq_of_wR ?_
  unfold m_is_word
  refine wRB rfl ?_
  by_cases h1 : 0 ≤ i <;> simp [num_int, h1]
def gB (i m v : Int) : Bool := decide (0 ≤ i ∧ i < 8) && (decide (0 ≤ m ∧ m ≤ 4294967295) && decide (0 ≤ v ∧ v ≤ 4294967295))
theorem guard_ok {i m v : Int} {h : Heap} : m_is_guard [.tup [.int i, .int m, .int v]] h = .ok (.bl (gB i m v)) h := by
  refine eq_of_wR ?_
  unfold m_is_guard
  refine wRB rfl ?_
  simp only [gB, Bool.decide_and]
  by_cases h1 : 0 ≤ i
  · by_cases h2 : i < 8
    · by_cases h3 : 0 ≤ m
      · by_cases h4 : m ≤ 4294967295
        · simp [isTy, tyOf, truth, index_ok, word_ok, h1, h2, h3, h4]
        · simp [isTy, tyOf, truth, index_ok, word_ok, h1, h2, h3, h4]
      · simp [isTy, tyOf, truth, index_ok, word_ok, h1, h2, h3]
    · simp [isTy, tyOf, truth, index_ok, word_ok, h1, h2]
  · simp [isTy, tyOf, truth, index_ok, word_ok, h1]
theorem guard_two {x y : Val} {h : Heap} : m_is_guard [.tup [x, y]] h = .ok (.bl false) h := by
  refine eq_of_wR ?_
  unfold m_is_guard
  refine wRB rfl ?_
  simp [isTy, tyOf, truth]
theorem guard_good {g : Nat × Nat × Nat} (q : goodG g) {h : Heap} : m_is_guard [encG g] h = .ok (.bl true) h := by
  unfold encG
  rw [guard_ok]
  obtain ⟨a, b, c⟩ := q
  have : gB (g.1 : Nat) (g.2.1 : Nat) (g.2.2 : Nat) = true := by simp [gB]; omega
  rw [this]
theorem many_int {i s : Int} {h : Heap} : m_is_many [.int i, .int s] h = .ok (.bl (decide (1 ≤ i) && decide (i ≤ 8 - s))) h := by
  refine eq_of_wR ?_
  unfold m_is_many
  refine wRB rfl ?_
  by_cases h1 : 1 ≤ i <;> simp [isTy, tyOf, truth, num_int, h1]
theorem many_non {s : Int} {h : Heap} : m_is_many [.non, .int s] h = .ok (.bl false) h := by
  refine eq_of_wR ?_
  unfold m_is_many
  refine wRB rfl ?_
  simp [isTy, tyOf, truth, num_non]
theorem many_tup {n : Nat} {i s : Int} {h : Heap} : m_is_many [.tup [.str n, .int i], .int s] h = .ok (.bl (decide (n = 0) && (decide (0 ≤ i) && decide (i < 8)))) h := by
  refine eq_of_wR ?_
  unfold m_is_many
  refine wRB rfl ?_
  have e : oEq false (.str n) (.str 0) h = .ok (.bl (decide (n = 0))) h := by
    rw [oEq_pl rfl rfl]; simp
  by_cases hn : n = 0
  · subst hn
    simp [isTy, tyOf, truth, index_ok]
  · simp [isTy, tyOf, truth, hn]
theorem many_one {x : Val} {s : Int} {h : Heap} : m_is_many [.tup [x], .int s] h = .ok (.bl false) h := by
  refine eq_of_wR ?_
  unfold m_is_many
  refine wRB rfl ?_
  simp [isTy, tyOf, truth]
inductive KindB (cnt : Int) : Val → Bool → Prop
  | str (s : Nat) : KindB cnt (.str s) (decide (s = 1))
  | int (k : Int) : KindB cnt (.int k) (decide (k = 0) || (decide (2 ≤ k) && decide (k < cnt)))
  | bl (b : Bool) : KindB cnt (.bl b) false
theorem clause_ok {gs : List Val} {st mn kd : Val} {cnt : Int} {h : Heap} (b : Val → Bool) {ib mb kb : Bool} (hl : gs.length ≤ 4) (hb : ∀ x ∈ gs, ∀ h, m_is_guard [x] h = .ok (.bl (b x)) h)
    (hi : ∀ h, m_is_index [st] h = .ok (.bl ib) h) (hm : ib = true → ∀ h, m_is_many [mn, st] h = .ok (.bl mb) h) (hk : KindB cnt kd kb) :
    ∃ h', m_is_clause [.tup [.tup gs, st, mn, kd], .int cnt] h = .ok (.bl (gs.all b && (ib && (mb && kb)))) h' ∧ Ext h h' := by
  generalize hgb : gs.all b = gb
  have w : wR (m_is_clause [.tup [.tup gs, st, mn, kd], .int cnt] h) (fun _ _ => False) fun x h' => x = .bl (gb && (ib && (mb && kb))) ∧ Ext h h' := by
    unfold m_is_clause
    refine wRB rfl ?_
    have l12 := lim12
    have hl' : ¬ (4 : Int) < gs.length := by omega
    simp [isTy, tyOf, truth, gV, gT, gsCons, gsNil, hl', Int.not_lt.mp hl', -wR_bAll]
    refine wR_lcXm (fun x => .bl (b x)) (by omega) (fun _ _ => rfl) (fun x h' hx ex => ⟨_, rfl, ?_⟩) (fun h1 ex el => ?_)
    · simp [wipeE, hb x hx]
      exact Ext.refl _
    · refine wR_eq (bAll_map el) ?_
      rw [hgb]
      cases gb with
      | false => simp [ex]
      | true =>
        cases ib with
        | false => simp [hi, ex]
        | true =>
          cases mb with
          | false => simp [hi, hm rfl, ex]
          | true =>
            cases hk with
            | str s => 
              simp [hi, hm rfl, isTy, tyOf]
              exact ⟨by rw [Bool.eq_iff_iff]; simp, ex⟩
            | int k =>
              by_cases k0 : k = 0
              · simp [hi, hm rfl, isTy, tyOf, num_int, k0, ex]
              · by_cases k2 : 2 ≤ k
                · simp [hi, hm rfl, isTy, tyOf, num_int, k0, k2, ex]
                · simp [hi, hm rfl, isTy, tyOf, num_int, k0, k2, ex]
            | bl q => simp [hi, hm rfl, isTy, tyOf, num_bl, ex]
  obtain ⟨x, h', e, rfl, q⟩ := ex_of_wR w
  exact ⟨h', e, q⟩
theorem clause_good {c : Cl} (g : GoodC c) {cnt : Int} {h : Heap} : ∃ h', m_is_clause [encC c, .int cnt] h = .ok (.bl (decide (c.kd ≠ 2) || decide (2 < cnt))) h' ∧ Ext h h' := by
  have hk : KindB cnt (encK c.kd) (decide (c.kd ≠ 2) || decide (2 < cnt)) := by
    have := g.k
    have : c.kd = 0 ∨ c.kd = 1 ∨ c.kd = 2 := by omega
    rcases this with e | e | e <;> rw [e]
    · exact .int 0
    · exact .str 1
    · exact .int 2
  have hi : ∀ h, m_is_index [.int c.st] h = .ok (.bl true) h := fun h => by
    rw [index_ok]
    have := g.s
    have e : (decide (0 ≤ (c.st : Int)) && decide ((c.st : Int) < 8)) = true := by simp; omega
    rw [e]
  have hm : ∀ h, m_is_many [encM c, .int c.st] h = .ok (.bl true) h := fun h => by
    have := g.m
    have s8 := g.s
    unfold encM
    split
    · rename_i hw
      rw [if_pos hw] at this
      rw [many_tup]
      have e : (decide ((0 : Nat) = 0) && (decide (0 ≤ (c.mn : Int)) && decide ((c.mn : Int) < 8))) = true := by simp; omega
      rw [e]
    · rename_i hw
      rw [if_neg hw] at this
      rw [many_int]
      have e : (decide (1 ≤ (c.mn : Int)) && decide ((c.mn : Int) ≤ 8 - c.st)) = true := by simp; omega
      rw [e]
  have := clause_ok (gs := c.gs.map encG) (h := h) (fun _ => true) (by simpa using g.l) (fun x hx h => by
    obtain ⟨t, ht, rfl⟩ := List.mem_map.mp hx
    exact guard_good (g.g t ht)) hi (fun _ => hm) hk
  have ea : ((c.gs.map encG).all fun _ => true) = true := by rw [List.all_eq_true]; exact fun _ _ => rfl
  rw [ea] at this
  simp only [Bool.true_and] at this
  exact this
theorem program_run {rows : List Val} {cnt : Int} {h : Heap} (b : Nat → Bool) (hl : rows.length ≤ 8)
    (H : ∀ i x h', rows[i]? = some x → Ext h h' → ∃ h2, m_is_clause [x, .int cnt] h' = .ok (.bl (b i)) h2 ∧ Ext h' h2) :
    ∃ h', m_is_program [.tup rows, .int cnt] h = .ok (.bl ((List.range rows.length).all b)) h' ∧ Ext h h' := by
  have w : wR (m_is_program [.tup rows, .int cnt] h) (fun _ _ => False) fun x h' => x = .bl ((List.range rows.length).all b) ∧ Ext h h' := by
    unfold m_is_program
    refine wRB rfl ?_
    have l12 := lim12
    have hl' : ¬ (8 : Int) < rows.length := by omega
    simp [isTy, tyOf, truth, hl', Int.not_lt.mp hl', -wR_bAll]
    refine wR_lcXi (fun i => .bl (b i)) (by omega) (fun _ _ => rfl) (fun i x h' hx ex => ⟨_, rfl, ?_⟩) (fun h1 ex el => ?_)
    · obtain ⟨h2, e, x2⟩ := H i x h' hx ex
      simp [wipeE, e, x2]
    · refine wR_eq (bAll_map el) ?_
      exact ⟨rfl, ex⟩
  obtain ⟨x, h', e, rfl, q⟩ := ex_of_wR w
  exact ⟨h', e, q⟩
theorem prog_good {P : List Cl} (g : GoodP P) {cnt : Int} {h : Heap} : ∃ h', m_is_program [encP P, .int cnt] h = .ok (.bl (P.all fun c => decide (c.kd ≠ 2) || decide (2 < cnt))) h' ∧ Ext h h' := by
  have := program_run (rows := P.map encC) (cnt := cnt) (h := h) (fun i => match P[i]? with | some c => decide (c.kd ≠ 2) || decide (2 < cnt) | none => true) (by have := g.1; simp; omega) (fun i x h' hx ex => by
    rw [List.getElem?_map] at hx
    obtain ⟨c, hc, rfl⟩ := Option.map_eq_some_iff.mp hx
    obtain ⟨h2, e, x2⟩ := clause_good (g.2 c (List.mem_of_getElem? hc)) (cnt := cnt) (h := h')
    refine ⟨h2, ?_, x2⟩
    rw [hc]
    exact e)
  obtain ⟨h', e, x⟩ := this
  refine ⟨h', ?_, x⟩
  unfold encP
  rw [e]
  congr 2
  rw [Bool.eq_iff_iff, List.all_eq_true, List.all_eq_true]
  constructor
  · intro H c hc
    obtain ⟨i, hi⟩ := List.mem_iff_getElem?.mp hc
    have := H i (List.mem_range.mpr (by rw [List.length_map]; exact (List.getElem?_eq_some_iff.mp hi).1))
    rw [hi] at this
    exact this
  · intro H i hi
    rw [List.length_map] at hi
    have hi := List.mem_range.mp hi
    rw [List.getElem?_eq_getElem hi]
    exact H _ (List.getElem_mem hi)
def encW (ws : List Nat) : Val := .tup (ws.map fun n => .int (n : Nat))
def gB' (ws : List Nat) (g : Nat × Nat × Nat) : Bool := decide (ws.getD g.1 0 &&& g.2.1 = g.2.2)
def mnOf (ws : List Nat) (c : Cl) : Nat := if c.mw = true then ws.getD c.mn 0 else c.mn
def seg (ws : List Nat) (c : Cl) : List Nat := (ws.take (min 8 (c.st + mnOf ws c))).drop c.st
def sel (ws : List Nat) (c : Cl) : List Nat := if c.gs.all (gB' ws) = true then seg ws c else []
theorem ws_at {ws : List Nat} {i : Nat} (hw : ws.length = 8) (h : i < 8) : L2.atI (ws.map fun n => Val.int (n : Nat)) (i : Int) = some (.int (ws.getD i 0 : Nat)) := by
  rw [atI_cast, List.getElem?_map, List.getElem?_eq_getElem (by omega)]
  simp [List.getElem?_eq_getElem (show i < ws.length by omega)]
structure WoI (c : Cl) (ws : List Nat) (h : Heap) (n : Nat) (s' : En) (h' : Heap) : Prop where
  e : h' = h
  k : ∃ a b d, s' = [some (encC c), some (encW ws), some (.tup (c.gs.map encG)), some (.int c.st), some (encM c), some (encK c.kd), a, b, d]
  g : ∀ g ∈ c.gs.take n, gB' ws g = true
theorem take_one {α : Type} {xs : List α} {i : Nat} {x : α} (h : xs[i]? = some x) : xs.take (i + 1) = xs.take i ++ [x] := by
  rw [List.take_add_one, h]; rfl
theorem take_mem {α : Type} {xs : List α} {i : Nat} {x y : α} (h : xs[i]? = some x) (hy : y ∈ xs.take (i + 1)) : y ∈ xs.take i ∨ y = x := by
  rw [take_one h] at hy
  rcases List.mem_append.mp hy with q | q
  · exact .inl q
  · exact .inr (by simpa using q)
theorem take_all {α β : Type} {f : α → β} {xs : List α} : xs.take (0 + (xs.map f).length) = xs := by
  rw [Nat.zero_add, List.length_map, List.take_length]
theorem and_eq {ws : List Nat} {g : Nat × Nat × Nat} : ((↑(ws.getD g.1 0 &&& g.2.1) : Int) == ↑g.2.2) = gB' ws g := by
  unfold gB'; rw [Bool.eq_iff_iff]; simp; omega
theorem wordsof_ok {c : Cl} (gc : GoodC c) {ws : List Nat} (hw : ws.length = 8) {h : Heap} : m_words_of [encC c, encW ws] h = .ok (.tup ((sel ws c).map fun n => .int (n : Nat))) h := by
  refine eq_of_wR ?_
  unfold m_words_of
  refine wRB rfl ?_
  simp [encC, gT, gsCons, gsNil, gV]
  refine wS_forM (WoI c ws h) _ 0 _ _ ⟨rfl, ⟨_, _, _, rfl⟩, by simp⟩ ?_ ?_
  · rintro i x s' h' _ hx ⟨rfl, ⟨a, b, d, rfl⟩, I⟩
    simp only [Nat.sub_zero, List.getElem?_map] at hx
    obtain ⟨g, hg, rfl⟩ := Option.map_eq_some_iff.mp hx
    have gg := gc.g g (List.mem_of_getElem? hg)
    refine ⟨rfl, [some (encC c), some (encW ws), some (.tup (c.gs.map encG)), some (.int c.st), some (encM c), some (encK c.kd), some (.int g.1), some (.int g.2.1), some (.int g.2.2)], rfl, ?_⟩
    have ea := ws_at hw gg.1
    by_cases hb : gB' ws g = true
    · have e2 := and_eq (ws := ws) (g := g)
      rw [hb] at e2
      simp only [encW]
      simp [ea, band, -List.getD_eq_getElem?_getD]
      simp only [beq_iff_eq] at e2
      simp [e2, -List.getD_eq_getElem?_getD]
      refine ⟨rfl, ⟨_, _, _, rfl⟩, fun u hu => ?_⟩
      rcases take_mem hg hu with q | rfl
      · exact I u q
      · exact hb
    · have e2 := and_eq (ws := ws) (g := g)
      have hb' : gB' ws g = false := by simpa using hb
      rw [hb'] at e2
      simp only [beq_eq_false_iff_ne, ne_eq] at e2
      simp only [encW]
      simp [ea, band, e2, -List.getD_eq_getElem?_getD]
      have : ¬ c.gs.all (gB' ws) = true := fun q => hb (List.all_eq_true.mp q g (List.mem_of_getElem? hg))
      simp [sel, this]
  · rintro s' h' ⟨rfl, ⟨a, b, d, rfl⟩, I⟩
    rw [take_all] at I
    have ga : c.gs.all (gB' ws) = true := List.all_eq_true.mpr I
    refine ⟨rfl, ?_⟩
    have gm := gc.m
    have hs := gc.s
    have cut' : ∀ m : Nat, cut (ws.map fun n => Val.int (n : Nat)) (some (c.st : Int)) (some (if (c.st : Int) + m < 8 then (c.st : Int) + m else 8)) = ((ws.take (min 8 (c.st + m))).drop c.st).map fun n => Val.int (n : Nat) := fun m => by
      have : (if (c.st : Int) + m < 8 then (c.st : Int) + m else 8) = ((min 8 (c.st + m) : Nat) : Int) := by split <;> omega
      rw [this, cut_both, ← List.map_take, ← List.map_drop]
    by_cases hm : c.mw = true
    · rw [if_pos hm] at gm
      have ea := ws_at hw gm
      simp only [encW, encM, if_pos hm]
      simp [isTy, tyOf, truth, gV, ea, cut', -List.getD_eq_getElem?_getD]
      simp [sel, ga, seg, mnOf, hm]
    · simp only [encW, encM, if_neg hm]
      simp [isTy, tyOf, truth, gV, cut']
      simp [sel, ga, seg, mnOf, hm]
def kv (c : Cl) (own : Int) : Val := if c.kd = 1 then .int own else encK c.kd
def pC (ws : List Nat) (own : Int) (c : Cl) : List (Nat × Val) := ((sel ws c).filter (fun n => decide (n ≠ 0))).map fun n => (n, kv c own)
def encPr (x : Nat × Val) : Val := .tup [.int x.1, x.2]
def GoodN (B : Nat) (l : List Nat) : Prop := ∀ k n, l[k]? = some n → 4 ≤ n ∧ n < B ∧ n ∉ l.take k
theorem goodN_nil {B : Nat} : GoodN B [] := fun k n h => by simp at h
theorem goodN_snoc {B : Nat} {l : List Nat} {n : Nat} (g : GoodN B l) (h1 : 4 ≤ n) (h2 : n < B) (h3 : n ∉ l) : GoodN B (l ++ [n]) := fun k m h => by
  rcases Nat.lt_or_ge k l.length with q | q
  · rw [List.getElem?_append_left q] at h
    obtain ⟨a, b, c⟩ := g k m h
    refine ⟨a, b, ?_⟩
    rw [List.take_append_of_le_length (by omega)]
    exact c
  · rw [List.getElem?_append_right q] at h
    have hk : k = l.length := by
      have := (List.getElem?_eq_some_iff.mp h).1
      simp at this; omega
    subst hk
    simp at h
    subst h
    exact ⟨h1, h2, by simpa using h3⟩
theorem goodN_bad {B : Nat} {l r : List Nat} {n : Nat} (h : ¬ (4 ≤ n ∧ n < B) ∨ n ∈ l) : ¬ GoodN B (l ++ n :: r) := fun g => by
  obtain ⟨a, b, c⟩ := g l.length n (by simp)
  rw [List.take_left'] at c
  · rcases h with h | h
    · exact h ⟨a, b⟩
    · exact c h
  · rfl
theorem fm_split {α β : Type} {P : List α} {i : Nat} {c : α} {f : α → List β} (h : P[i]? = some c) : P.flatMap f = (P.take i).flatMap f ++ (f c ++ (P.drop (i + 1)).flatMap f) := by
  conv => lhs; rw [← List.take_append_drop i P]
  rw [List.flatMap_append]
  congr 1
  obtain ⟨hi, e⟩ := List.getElem?_eq_some_iff.mp h
  rw [List.drop_eq_getElem_cons hi, List.flatMap_cons, e]
theorem fm_take {α β : Type} {P : List α} {i : Nat} {c : α} {f : α → List β} (h : P[i]? = some c) : (P.take (i + 1)).flatMap f = (P.take i).flatMap f ++ f c := by
  rw [take_one h, List.flatMap_append]; simp
theorem fil_split {l : List Nat} {j n : Nat} (h : l[j]? = some n) (hn : n ≠ 0) : l.filter (fun n => decide (n ≠ 0)) = (l.take j).filter (fun n => decide (n ≠ 0)) ++ n :: (l.drop (j + 1)).filter (fun n => decide (n ≠ 0)) := by
  conv => lhs; rw [← List.take_append_drop j l]
  rw [List.filter_append]
  congr 1
  obtain ⟨hi, e⟩ := List.getElem?_eq_some_iff.mp h
  rw [List.drop_eq_getElem_cons hi, List.filter_cons, e]
  simp [hn]
def pP (ws : List Nat) (own : Int) (P : List Cl) : List (Nat × Val) := P.flatMap (pC ws own)
def nmz (l : List (Nat × Val)) : List Nat := l.map (·.1)
structure RunQ (B : Nat) (l : List (Nat × Val)) (h : Heap) (x : Val) (h' : Heap) : Prop where
  ext : Ext h h'
  q : (GoodN B (nmz l) ∧ x = .tup (l.map encPr)) ∨ (¬ GoodN B (nmz l) ∧ x = .non)
theorem block_ok {n B : Nat} {h : Heap} : m_is_block [.int n, .int B] h = .ok (.bl (decide (4 ≤ n) && decide (n < B))) h := by
  refine eq_of_wR ?_
  unfold m_is_block
  refine wRB rfl ?_
  by_cases h1 : 4 ≤ n
  · have : (4 : Int) ≤ n := by omega
    simp [h1, this]
  · have : ¬ (4 : Int) ≤ n := by omega
    simp [h1, this]
theorem seg_len {ws : List Nat} (hw : ws.length = 8) {c : Cl} : (sel ws c).length ≤ 8 := by
  unfold sel seg
  split
  · simp; omega
  · simp
/-- what has been found and seen -/
structure Rs (B : Nat) (ws : List Nat) (own : Int) (h : Heap) (acc : List (Nat × Val)) (n : Nat) (h' : Heap) : Prop where
  x : Ext h h'
  f : h'[h.length]? = some (.lst (acc.map encPr))
  s : ∃ d, h'[h.length + 1]? = some (.dct d) ∧ (∀ m : Nat, (lookV d (.int m)).isSome = true ↔ m ∈ nmz acc) ∧ d.length ≤ n
  g : GoodN B (nmz acc)
  l : acc.length ≤ n
structure RuA (P : List Cl) (B : Nat) (ws : List Nat) (own : Int) (h : Heap) (i : Nat) (s' : En) (h' : Heap) : Prop where
  k : ∃ a b c, s' = [some (encP P), some (encW ws), some (.int B), some (.int own), some (.ref h.length), some (.ref (h.length + 1)), a, b, c]
  r : Rs B ws own h ((P.take i).flatMap (pC ws own)) (8 * i) h'
structure RuB (P : List Cl) (B : Nat) (ws : List Nat) (own : Int) (c : Cl) (i : Nat) (h : Heap) (j : Nat) (s' : En) (h' : Heap) : Prop where
  k : ∃ a, s' = [some (encP P), some (encW ws), some (.int B), some (.int own), some (.ref h.length), some (.ref (h.length + 1)), some (encC c), some (kv c own), a]
  r : Rs B ws own h ((P.take i).flatMap (pC ws own) ++ (((sel ws c).take j).filter (fun n => decide (n ≠ 0))).map fun n => (n, kv c own)) (8 * i + j) h'
theorem encK_own {k : Nat} (h : k < 3) {hp : Heap} : oEq false (encK k) (.str 1) hp = .ok (.bl (decide (k = 1))) hp := by
  have : k = 0 ∨ k = 1 ∨ k = 2 := by omega
  rcases this with rfl | rfl | rfl
  · rw [oEq_pl rfl rfl]; rfl
  · rw [oEq_pl rfl rfl]; rfl
  · rw [oEq_pl rfl rfl]; rfl
def runFor : En → Heap → RS := (sFor (iAlt (iLst (mCall m_words_of [] (mCons (mV 6) (mCons (mV 1) (mNil))))) (iTup_ (mCall m_words_of [] (mCons (mV 6) (mCons (mV 1) (mNil)))))) (gV 8) (sIf (tB_ (mB (oEq true) (mV 8) (mK (.int 0)))) (sSeq (sIf (tOr_ (tNo (tTr (mCall m_is_block [] (mCons (mV 8) (mCons (mV 2) (mNil)))))) (tB_ (mB (oIn false) (mV 8) (mV 5)))) (sRet (mK .non)) (sNx))
    (sSeq (sSub (mV 5) (mV 8) (mK (.bl true)))
    (sDrop (mBM bAppend (mV 4) (mCons (mTup (mCons (mV 8) (mCons (mV 7) (mNil)))) (mNil)))))) (sNx)))
theorem m_run_program_eq_runFor : m_run_program = runB 4 9
    (sSeq (sAsg (gV 4) (mLst (mNil)))
    (sSeq (sAsg (gV 5) (mDct))
    (sSeq (sFor (iAlt (iLst (mV 0)) (iTup_ (mV 0))) (gV 6) (sSeq (sAsg (gV 7) (mB oIx (mV 6) (mK (.int 3))))
    (sSeq (sIf (tB_ (mB (oEq false) (mV 7) (mK (.str 1)))) (sAsg (gV 7) (mV 3)) (sNx))
    runFor)))
    (sRet (mL bTuple (mCons (mV 4) (mNil))))))) := rfl
theorem run_ok {P : List Cl} (g : GoodP P) {ws : List Nat} (hw : ws.length = 8) {B : Nat} {own : Int} {h : Heap} : ∃ x h', m_run_program [encP P, encW ws, .int B, .int own] h = .ok x h' ∧ RunQ B (pP ws own P) h x h' := by
  have w : wR (m_run_program [encP P, encW ws, .int B, .int own] h) (fun _ _ => False) (RunQ B (pP ws own P) h) := by
    rw [m_run_program_eq_runFor]
    refine wRB rfl ?_
    have l12 := lim12
    have l0 : 0 ≤ lim := by omega
    have lP := g.1
    simp [l0, gV]
    simp only [encP]
    refine wS_forM (RuA P B ws own h) _ 0 _ _ ⟨⟨_, _, _, rfl⟩, ⟨_, rfl⟩, at_app 0 rfl rfl, ⟨[], at_app 1 rfl rfl, by simp [lookV, nmz], by simp⟩, goodN_nil, by simp⟩ ?_ ?_
    · rintro i x s' h' _ hx ⟨⟨a, b, c', rfl⟩, R⟩
      simp only [Nat.sub_zero, List.getElem?_map] at hx
      obtain ⟨c, hc, rfl⟩ := Option.map_eq_some_iff.mp hx
      have gc := g.2 c (List.mem_of_getElem? hc)
      have hi : i < P.length := (List.getElem?_eq_some_iff.mp hc).1
      refine ⟨rfl, [some (encP P), some (encW ws), some (.int B), some (.int own), some (.ref h.length), some (.ref (h.length + 1)), some (encC c), b, c'], rfl, ?_⟩
      have e3 : ∀ h, oIx (encC c) (.int 3) h = .ok (encK c.kd) h := fun h => rfl
      have fin : ∀ D : K4, D.nx = RuA P B ws own h (i + 1) → D.rt = RunQ B (pP ws own P) h → wS (runFor [some (encP P), some (encW ws), some (.int B), some (.int own), some (.ref h.length), some (.ref (h.length + 1)), some (encC c), some (kv c own), c'] h') D := by
        intro D hD1 hD2
        unfold runFor
        rw [wS_sFor]
        refine wR_iAlt (.inr ⟨?_, ?_⟩)
        · simp [iLst, mCall, mCons, mV, mNil, Res.bind, wordsof_ok gc hw]
        · simp [iTup_, wordsof_ok gc hw]
          refine wS_forM (RuB P B ws own c i h) _ 0 _ _ ⟨⟨_, rfl⟩, by simpa using R⟩ ?_ ?_
          · rintro j y s' h2 _ hy ⟨⟨a2, rfl⟩, R2⟩
            simp only [Nat.sub_zero, List.getElem?_map] at hy
            obtain ⟨n, hn, rfl⟩ := Option.map_eq_some_iff.mp hy
            have hj : j < (sel ws c).length := (List.getElem?_eq_some_iff.mp hn).1
            have h8 := seg_len hw (c := c)
            refine ⟨rfl, [some (encP P), some (encW ws), some (.int B), some (.int own), some (.ref h.length), some (.ref (h.length + 1)), some (encC c), some (kv c own), some (.int n)], rfl, ?_⟩
            obtain ⟨ex2, ef, ⟨d, ed, hd, ld⟩, gg, la⟩ := R2
            by_cases n0 : n = 0
            · subst n0
              simp
              refine ⟨⟨_, rfl⟩, ex2, ?_, ⟨d, ed, ?_, by omega⟩, ?_, ?_⟩
              all_goals rw [take_one hn, List.filter_append]
              all_goals simp
              · simpa using ef
              · simpa using hd
              · simpa using gg
              · simp at la; omega
            · have n0' : ¬ (n : Int) = 0 := by omega
              have spl : ∃ r, nmz (pP ws own P) = nmz ((P.take i).flatMap (pC ws own) ++ (((sel ws c).take j).filter (fun n => decide (n ≠ 0))).map fun n => (n, kv c own)) ++ n :: r := by
                refine ⟨nmz ((((sel ws c).drop (j + 1)).filter (fun n => decide (n ≠ 0))).map fun n => (n, kv c own)) ++ nmz ((P.drop (i + 1)).flatMap (pC ws own)), ?_⟩
                rw [pP, fm_split hc]
                unfold pC
                rw [fil_split hn n0]
                simp [nmz]
              obtain ⟨r, er⟩ := spl
              have l2 : 2 ≤ lim := by omega
              have hd' := hd n
              have bad : (¬ (4 ≤ n ∧ n < B) ∨ n ∈ nmz ((P.take i).flatMap (pC ws own) ++ (((sel ws c).take j).filter (fun n => decide (n ≠ 0))).map fun n => (n, kv c own))) → D.rt .non h2 := fun q => by
                rw [hD2]
                exact ⟨ex2, .inr ⟨by rw [er]; exact goodN_bad q, rfl⟩⟩
              generalize hacc : (P.take i).flatMap (pC ws own) ++ (((sel ws c).take j).filter (fun n => decide (n ≠ 0))).map (fun n => (n, kv c own)) = acc at ef hd gg la er hd' bad
              by_cases hb : 4 ≤ n ∧ n < B
              · have ein := oIn_dct (neg := false) (x := .int n) ed rfl
                by_cases hm : n ∈ nmz acc
                · rw [hd'.mpr hm] at ein
                  simp [n0, block_ok, truth, hb, ein]
                  exact bad (.inr hm)
                · have hnn : (lookV d (.int n)).isSome = false := by
                    cases q : (lookV d (.int n)).isSome with
                    | false => rfl
                    | true => exact absurd (hd'.mp q) hm
                  rw [hnn] at ein
                  have ef2 : (h2.set (h.length + 1) (.dct (putV d (.int n) (.bl true))))[h.length]? = some (.lst (acc.map encPr)) := by
                    rw [at_set_ne (by omega)]; exact ef
                  simp [n0, block_ok, truth, hb, ein, ed, seqOf_at ef2, l2, ef, show d.length < lim by omega, show acc.length < lim by omega]
                  refine ⟨⟨_, rfl⟩, ?_⟩
                  rw [take_one hn, List.filter_append, List.map_append, ← List.append_assoc, hacc]
                  simp only [List.filter_cons, n0, ne_eq, not_false_eq_true, decide_true, if_true, List.filter_nil, List.map_cons, List.map_nil]
                  refine ⟨((ex2.set (by omega) _).set (Nat.le_refl _) _), ?_, ⟨putV d (.int n) (.bl true), ?_, ?_, ?_⟩, ?_, ?_⟩
                  · rw [at_set ef2, List.map_append]; rfl
                  · rw [at_set_ne (by omega)]; exact at_set ed
                  · intro m
                    rw [lookV_put]
                    by_cases e : m = n
                    · subst e; simp [nmz]
                    · have : ¬ (Val.int (m : Nat) = .int (n : Nat)) := by simp; omega
                      rw [if_neg this, hd m]
                      simp [nmz, e]
                  · have := @putV_len d (.int n) (.bl true); omega
                  · rw [nmz, List.map_append]
                    exact goodN_snoc gg hb.1 hb.2 hm
                  · simp; omega
              · simp [n0, block_ok, truth, hb]
                exact bad (.inl hb)
          · rintro s' h2 ⟨⟨a2, rfl⟩, R2⟩
            rw [take_all] at R2
            refine ⟨rfl, ?_⟩
            rw [hD1]
            refine ⟨⟨_, _, _, rfl⟩, ?_⟩
            obtain ⟨rx, rf, ⟨d, ed, hd, ld⟩, gg, la⟩ := R2
            have h8 := seg_len hw (c := c)
            have hl : (0 + (List.map (fun n => Val.int (n : Nat)) (sel ws c)).length) ≤ 8 := by simpa using h8
            rw [fm_take hc]
            exact ⟨rx, rf, ⟨d, ed, hd, by omega⟩, gg, Nat.le_trans la (by omega)⟩
      by_cases hk : c.kd = 1
      · have ekv : kv c own = .int own := by simp [kv, hk]
        rw [ekv] at fin
        simp [e3, gV, encK_own gc.k, hk]
        refine fin _ ?_ ?_ <;> rfl
      · have ekv : kv c own = encK c.kd := by simp [kv, hk]
        rw [ekv] at fin
        simp [e3, gV, encK_own gc.k, hk]
        refine fin _ ?_ ?_ <;> rfl
    · rintro s' h' ⟨⟨a, b, c', rfl⟩, R⟩
      rw [take_all] at R
      refine ⟨rfl, ?_⟩
      simp [R.f]
      exact ⟨R.x, .inl ⟨R.g, rfl⟩⟩
  obtain ⟨x, h', e, q⟩ := ex_of_wR w
  exact ⟨x, h', e, q⟩
theorem pl_all {n : Nat} {xs : List Val} (h : ∀ x ∈ xs, pl n x = true) : pl (n + 1) (.tup xs) = true := by
  show xs.all (pl n) = true
  exact List.all_eq_true.mpr h
theorem encG_pl {g : Nat × Nat × Nat} : pl 5 (encG g) = true := rfl
theorem encM_pl {c : Cl} : pl 6 (encM c) = true := by
  unfold encM; split <;> rfl
theorem encK_pl {k : Nat} : pl 6 (encK k) = true := by
  unfold encK; split
  · rfl
  · split <;> rfl
theorem encC_pl {c : Cl} : pl 7 (encC c) = true := by
  refine pl_all fun x hx => ?_
  simp only [List.mem_cons, List.not_mem_nil, or_false] at hx
  rcases hx with rfl | rfl | rfl | rfl
  · refine pl_all fun x hx => ?_
    obtain ⟨g, _, rfl⟩ := List.mem_map.mp hx
    exact encG_pl
  · rfl
  · exact encM_pl
  · exact encK_pl
theorem encP_pl {P : List Cl} : pl 8 (encP P) = true := by
  refine pl_all fun x hx => ?_
  obtain ⟨c, _, rfl⟩ := List.mem_map.mp hx
  exact encC_pl
theorem encPs_pl {Ps : List (List Cl)} : (Ps.map encP).all (pl 59) = true := by
  refine List.all_eq_true.mpr fun x hx => ?_
  obtain ⟨c, _, rfl⟩ := List.mem_map.mp hx
  exact pl_up (by omega) encP_pl
structure TO (B : Nat) (Ps : List (List Cl)) (es : List Int) (d kn mk : Nat) (h : Heap) : Prop where
  eD : h[d]? = some (.ins 0 [(0, .int B), (1, .ref kn), (2, .ref mk)])
  eK : h[kn]? = some (.lst (Ps.map encP))
  eM : h[mk]? = some (.lst (es.map Val.int))
  n1 : d ≠ kn
  n2 : d ≠ mk
  n3 : kn ≠ mk
section
variable {B : Nat} {Ps : List (List Cl)} {es : List Int} {d kn mk L M : Nat} {ns : List Int} {h h' : Heap}
theorem TO.fr (I : TO B Ps es d kn mk h) {S : List Nat} (f : Fs S h h') (h1 : d ∉ S) (h2 : kn ∉ S) (h3 : mk ∉ S) : TO B Ps es d kn mk h' :=
  ⟨f.at h1 I.eD, f.at h2 I.eK, f.at h3 I.eM, I.n1, I.n2, I.n3⟩
theorem TO.ext (I : TO B Ps es d kn mk h) (x : Ext h h') : TO B Ps es d kn mk h' := I.fr (x.fs []) (by simp) (by simp) (by simp)
theorem TO.isI (I : TO B Ps es d kn mk h) : isIns 0 (.ref d) h = true := by simp [isIns, I.eD]
theorem count_ok (I : TO B Ps es d kn mk h) : m_Types_count [.ref d] h = .ok (.int (2 + Ps.length)) h := by
  refine eq_of_wR ?_
  unfold m_Types_count
  refine wRB rfl ?_
  simp [I.eD, lookF, I.eK]
theorem isk_ok (I : TO B Ps es d kn mk h) {n : Int} : m_Types_is_known [.ref d, .int n] h = .ok (.bl (decide (0 ≤ n) && decide (n < 2 + Ps.length))) h := by
  have e : m_is_number [.int n] h = .ok (.bl true) h := rfl
  refine eq_of_wR ?_
  unfold m_Types_is_known
  refine wRB rfl ?_
  by_cases h0 : 0 ≤ n
  · simp [e, h0, I.isI, count_ok I]
  · simp [e, h0]
def cnt (es : List Int) (e : Int) : Nat := (es.map Val.int).countP fun z => feq z (.int e)
theorem flat_ints : (es.map Val.int).all isFlat = true := by
  refine List.all_eq_true.mpr fun x hx => ?_
  obtain ⟨n, _, rfl⟩ := List.mem_map.mp hx
  rfl
theorem bCount_ints {a : Nat} {e : Int} (ea : h[a]? = some (.lst (es.map Val.int))) : bCount (.ref a) [.int e] h = .ok (.int (cnt es e : Nat)) h := by
  refine eq_of_wR ?_
  rw [wR_bCount, ea]
  exact ⟨⟨rfl, flat_ints⟩, rfl, rfl⟩
/-- what stands in the turn's name, and whether it is good -/
structure PV (Ps : List (List Cl)) (x : Val) (g : Bool) (h : Heap) : Prop where
  p : ∀ h', g = true ∨ Fr 2 h h' → ∃ h2, m_is_program [x, .int (2 + Ps.length)] h' = .ok (.bl g) h2 ∧ Ext h' h2
  q : g = true → ∃ P, GoodP P ∧ x = encP P
theorem PV.fr {x : Val} {g : Bool} (p : PV Ps x g h) (e : Fr 2 h h') : PV Ps x g h' := ⟨fun h2 x2 => p.p h2 (x2.imp id fun q => e.trans q), p.q⟩
/-- what is told, and the lists behind it -/
def due (Ps : List (List Cl)) (es : List Int) (x : Val) (g : Bool) (e : Int) : Val := if g = true ∧ x ∈ Ps.map encP then .int (2 + ((Ps.map encP).idxOf x : Nat)) else if g = true ∧ cnt es e < 4 then .int (2 + Ps.length) else .non
def adds (Ps : List (List Cl)) (es : List Int) (x : Val) (g : Bool) (e : Int) : Bool := g && !decide (x ∈ Ps.map encP) && decide (cnt es e < 4)
theorem add_ok (I : TO B Ps es d kn mk h) {x : Val} {g : Bool} (p : PV Ps x g h) {e : Int} (hl : Ps.length < 900) (hl2 : es.length < 900) : ∃ h1, Ext h h1 ∧ m_Types_add [.ref d, x, .int e] h = .ok (due Ps es x g e) (if adds Ps es x g e = true then (h1.set kn (.lst (Ps.map encP ++ [x]))).set mk (.lst (es.map Val.int ++ [.int e])) else h1) := by
  obtain ⟨h1, e1, x1⟩ := p.p h (.inr (Fr.refl _ _))
  refine ⟨h1, x1, ?_⟩
  have I1 := I.ext x1
  have n1 := I.n1
  have n2 := I.n2
  have n3 := I.n3
  have l12 := lim12
  have ll : 1000 < lim := by decide
  refine eq_of_wR ?_
  unfold m_Types_add
  refine wRB rfl ?_
  cases g with
  | false => simp [I.isI, count_ok I, e1, truth, due, adds]
  | true =>
    obtain ⟨P, gP, rfl⟩ := p.q rfl
    have ein := oIn_pl (neg := false) (x := encP P) I1.eK (pl_up (by omega) encP_pl) encPs_pl
    by_cases hm : encP P ∈ Ps.map encP
    · have ei := bIndex_pl I1.eK (pl_up (by omega) encP_pl) encPs_pl hm
      rw [decide_eq_true hm] at ein
      simp [I.isI, count_ok I, e1, truth, I1.eD, lookF, ein, seqOf_at I1.eK, ei, due, adds, hm, -List.mem_map, -wR_bCount]
    · rw [decide_eq_false hm] at ein
      have ec := bCount_ints (e := e) I1.eM
      by_cases hc : cnt es e < 4
      · have a1 : (h1.set kn (.lst (Ps.map encP ++ [encP P])))[d]? = some (.ins 0 [(0, .int B), (1, .ref kn), (2, .ref mk)]) := by rw [at_set_ne (by omega)]; exact I1.eD
        have a2 : (h1.set kn (.lst (Ps.map encP ++ [encP P])))[mk]? = some (.lst (es.map Val.int)) := by rw [at_set_ne (by omega)]; exact I1.eM
        have a3 : ((h1.set kn (.lst (Ps.map encP ++ [encP P]))).set mk (.lst (es.map Val.int ++ [.int e])))[d]? = some (.ins 0 [(0, .int B), (1, .ref kn), (2, .ref mk)]) := by rw [at_set_ne (by omega)]; exact a1
        have a4 : ((h1.set kn (.lst (Ps.map encP ++ [encP P]))).set mk (.lst (es.map Val.int ++ [.int e])))[kn]? = some (.lst (Ps.map encP ++ [encP P])) := by rw [at_set_ne (by omega)]; exact at_set I1.eK
        have ect : m_Types_count [.ref d] ((h1.set kn (.lst (Ps.map encP ++ [encP P]))).set mk (.lst (es.map Val.int ++ [.int e]))) = .ok (.int (2 + (Ps.length + 1 : Nat))) ((h1.set kn (.lst (Ps.map encP ++ [encP P]))).set mk (.lst (es.map Val.int ++ [.int e]))) := by
          refine eq_of_wR ?_
          unfold m_Types_count
          refine wRB rfl ?_
          simp [a3, lookF, a4]
        have i3 : isIns 0 (.ref d) ((h1.set kn (.lst (Ps.map encP ++ [encP P]))).set mk (.lst (es.map Val.int ++ [.int e]))) = true := by simp [isIns, a3]
        have hc' : ¬ 4 ≤ cnt es e := by omega
        simp [I.isI, count_ok I, e1, truth, I1.eD, lookF, ein, seqOf_at I1.eM, ec, hc, hc', seqOf_at I1.eK, I1.eK, show Ps.length < lim by omega, a1, seqOf_at a2, a2, show es.length < lim by omega, i3, ect, due, adds, hm, -List.mem_map, -wR_bCount]
        omega
      · have hc' : 4 ≤ cnt es e := by omega
        simp [I.isI, count_ok I, e1, truth, I1.eD, lookF, ein, seqOf_at I1.eM, ec, hc, hc', due, adds, hm, -List.mem_map, -wR_bCount]
        intro q; omega
end
section
variable {B : Nat} {Ps : List (List Cl)} {es : List Int} {d kn mk L M : Nat} {ns : List Int} {h h' : Heap}
def rootV (ws : List Nat) (B c : Nat) : Val := if ws.getD 0 0 = 0 then .tup [] else if 4 ≤ ws.getD 0 0 ∧ ws.getD 0 0 < B ∧ ws.getD 1 0 ≠ 1 ∧ ws.getD 1 0 < c then .tup [.tup [.int (ws.getD 0 0 : Nat), .int (ws.getD 1 0 : Nat)]] else .non
theorem rootV_pl {ws : List Nat} {c : Nat} : pl 60 (rootV ws B c) = true := by
  unfold rootV
  split
  · rfl
  · split <;> rfl
theorem owned0_ok {ws : List Nat} : m_Types_owned [.ref d, .int 0, encW ws] h = .ok (.tup []) h := by
  have l0 : 0 ≤ lim := by decide
  refine eq_of_wR ?_
  unfold m_Types_owned
  refine wRB rfl ?_
  simp [l0]
theorem owned1_ok (I : TO B Ps es d kn mk h) {ws : List Nat} (hw : ws.length = 8) : m_Types_owned [.ref d, .int 1, encW ws] h = .ok (rootV ws B (2 + Ps.length)) h := by
  have l1 : 1 ≤ lim := by decide
  have l2 : 2 ≤ lim := by decide
  have l0 : 0 ≤ lim := by decide
  have a0 := ws_at hw (i := 0) (by omega)
  have a1 := ws_at hw (i := 1) (by omega)
  refine eq_of_wR ?_
  unfold m_Types_owned rootV
  refine wRB rfl ?_
  simp only [encW]
  simp only [atI_cast] at a0 a1
  generalize ws.getD 0 0 = x at a0 ⊢
  generalize ws.getD 1 0 = y at a1 ⊢
  generalize (ws.map fun n => Val.int (n : Nat)) = W at a0 a1 ⊢
  have eb := block_ok (n := x) (B := B) (h := h)
  have ek := isk_ok I (n := (y : Int))
  by_cases c0 : x = 0
  · subst c0
    simp [a0, l0]
  · by_cases c1 : 4 ≤ x
    · by_cases c2 : x < B
      · have e1 : (decide (4 ≤ x) && decide (x < B)) = true := by simp [c1, c2]
        rw [e1] at eb
        by_cases c4 : y < 2 + Ps.length
        · have e2 : (decide ((0 : Int) ≤ y) && decide ((y : Int) < 2 + Ps.length)) = true := by simp; omega
          rw [e2] at ek
          by_cases c3 : y = 1
          · have ek1 : m_Types_is_known [.ref d, .int 1] h = .ok (.bl true) h := by rw [c3] at ek; exact ek
            simp [a0, a1, c0, l0, I.eD, lookF, eb, truth, I.isI, ek1, c3]
          · simp [a0, a1, c0, l0, l1, l2, I.eD, lookF, eb, truth, I.isI, ek, c3, show ¬ (y : Int) = 1 by omega, c1, c2, c4]
        · have e2 : (decide ((0 : Int) ≤ y) && decide ((y : Int) < 2 + Ps.length)) = false := by simp; omega
          rw [e2] at ek
          simp [a0, a1, c0, l0, I.eD, lookF, eb, truth, I.isI, ek, c4]
      · have e1 : (decide (4 ≤ x) && decide (x < B)) = false := by simp [c2]
        rw [e1] at eb
        simp [a0, c0, l0, I.eD, lookF, eb, truth, c2]
    · have e1 : (decide (4 ≤ x) && decide (x < B)) = false := by simp [c1]
      rw [e1] at eb
      simp [a0, c0, l0, I.eD, lookF, eb, truth, c1]
theorem owned2_ok (I : TO B Ps es d kn mk h) {ws : List Nat} {n : Int} (n0 : 2 ≤ n) {P : List Cl} (hP : Ps[(n - 2).toNat]? = some P) {x : Val} (er : m_run_program [encP P, encW ws, .int B, .int n] h = .ok x h') : m_Types_owned [.ref d, .int n, encW ws] h = .ok x h' := by
  refine eq_of_wR ?_
  unfold m_Types_owned
  refine wRB rfl ?_
  have ea : L2.atI (Ps.map encP) (n - 2) = some (encP P) := by
    rw [atI_nn (by omega), List.getElem?_map, hP]; rfl
  simp [show ¬ n = 0 by omega, show ¬ n = 1 by omega, I.eD, lookF, I.eK, ea, er]
theorem pr_pl (l : List (Nat × Val)) (h : ∀ x ∈ l, pl 58 x.2 = true) : pl 60 (.tup (l.map encPr)) = true := by
  refine pl_all fun x hx => ?_
  obtain ⟨t, ht, rfl⟩ := List.mem_map.mp hx
  refine pl_all fun y hy => ?_
  simp only [List.mem_cons, List.not_mem_nil, or_false] at hy
  rcases hy with rfl | rfl
  · rfl
  · exact h t ht
theorem kv_pl {c : Cl} {own : Int} : pl 58 (kv c own) = true := by
  unfold kv
  split
  · rfl
  · exact pl_up (by omega) encK_pl
theorem pP_pl {ws : List Nat} {own : Int} {P : List Cl} : ∀ x ∈ pP ws own P, pl 58 x.2 = true := by
  intro x hx
  unfold pP at hx
  obtain ⟨c, _, hc⟩ := List.mem_flatMap.mp hx
  unfold pC at hc
  obtain ⟨n, _, rfl⟩ := List.mem_map.mp hc
  exact kv_pl
end
theorem init_ok {B : Int} {h : Heap} {d : Nat} (hd : h[d]? = some (.ins 0 [])) :
    ∃ h', m_Types___init__ [.ref d, .int B] h = .ok .non h' ∧ Fr d h h' ∧ h'[d]? = some (.ins 0 [(0, .int B), (1, .ref h.length), (2, .ref (h.length + 1))]) ∧ h'[h.length]? = some (.lst []) ∧ h'[h.length + 1]? = some (.lst []) := by
  have w : wR (m_Types___init__ [.ref d, .int B] h) (fun _ _ => False) fun x h' => x = .non ∧ Fr d h h' ∧ h'[d]? = some (.ins 0 [(0, .int B), (1, .ref h.length), (2, .ref (h.length + 1))]) ∧ h'[h.length]? = some (.lst []) ∧ h'[h.length + 1]? = some (.lst []) := by
    unfold m_Types___init__
    refine wRB rfl ?_
    have l12 := lim12
    have l0 : 0 ≤ lim := by omega
    have e1 : ∀ o g, (h.set d o ++ g)[d]? = some o := fun o g => at_push (at_set hd)
    have e2 : ∀ o o' g g', (((h.set d o ++ g).set d o') ++ g')[d]? = some o' := fun o o' g g' => at_push (at_set (e1 o g))
    have dl := at_lt hd
    simp [hd, setF, l0, ↓e1, ↓e2]
    refine ⟨(((((Fr.refl d h).set _).push _).set _).push _).set _, at_set (e2 _ _ _ _), ?_, ?_⟩
    · rw [at_set_ne (by omega)]
      refine at_push ?_
      rw [at_set_ne (by omega)]
      exact at_app 0 (by simp) rfl
    · apply Option.some.inj
      rw [← List.getElem?_eq_getElem, at_set_ne (by omega)]
      exact at_app 0 (by simp) rfl
  obtain ⟨x, h', e, rfl, q⟩ := ex_of_wR w
  exact ⟨h', e, q⟩
end Lw

set_option Elab.async false
set_option linter.all false
set_option autoImplicit false
set_option maxHeartbeats 4000000
set_option maxRecDepth 100000
namespace Lw
open PyM
def P1 : List Cl := [⟨[], 0, false, 2, 1⟩, ⟨[], 2, false, 2, 0⟩]
def P2 : List Cl := [⟨[(7, 255, 1)], 0, false, 4, 0⟩]
theorem g1 : GoodP P1 := ⟨by decide, fun c hc => by
  simp only [P1, List.mem_cons, List.not_mem_nil, or_false] at hc
  rcases hc with rfl | rfl <;> exact ⟨by simp, by simp, by decide, by decide, by decide⟩⟩
theorem g2 : GoodP P2 := ⟨by decide, fun c hc => by
  simp only [P2, List.mem_cons, List.not_mem_nil, or_false] at hc
  subst hc
  exact ⟨fun g hg => by simp at hg; subst hg; exact ⟨by decide, by decide, by decide⟩, by decide, by decide, by decide, by decide⟩⟩
theorem pv_of {P : List Cl} {Ps : List (List Cl)} {h : Heap} (g : GoodP P) (hk : (P.all fun c => decide (c.kd ≠ 2)) = true) : PV Ps (encP P) true h := by
  refine ⟨fun h' _ => ?_, fun _ => ⟨P, g, rfl⟩⟩
  obtain ⟨h2, e, x⟩ := prog_good g (cnt := 2 + Ps.length) (h := h')
  refine ⟨h2, ?_, x⟩
  rw [e]
  congr 2
  rw [List.all_eq_true] at hk ⊢
  intro c hc
  simp [of_decide_eq_true (hk c hc)]
/-- the law's types -/
theorem types_ok {B : Nat} {h : Heap} : ∃ d kn mk h', m__law_types [.int B] h = .ok (.ref d) h' ∧ TO B [P1, P2] [0, 1] d kn mk h' ∧ Ext h h' ∧ h.length ≤ d ∧ h.length ≤ kn ∧ h.length ≤ mk := by
  have w : wR (m__law_types [.int B] h) (fun _ _ => False) fun x h' => ∃ d kn mk, x = .ref d ∧ TO B [P1, P2] [0, 1] d kn mk h' ∧ Ext h h' ∧ h.length ≤ d ∧ h.length ≤ kn ∧ h.length ≤ mk := by
    unfold m__law_types
    refine wRB rfl ?_
    have l12 := lim12
    have l0 : 0 ≤ lim := by omega
    have l1 : 1 ≤ lim := by omega
    have l2 : 2 ≤ lim := by omega
    have l3 : 3 ≤ lim := by omega
    have l4 : 4 ≤ lim := by omega
    obtain ⟨h1, e1, f1, a1, a2, a3⟩ := init_ok (B := (B : Int)) (h := h ++ [Obj.ins 0 []]) (d := h.length) at_len
    have x1 : Ext h h1 := Fr.base ⟨_, rfl⟩ f1 (Nat.le_refl _)
    simp only [List.length_append, List.length_cons, List.length_nil] at a1 a2 a3
    have I1 : TO B [] [] h.length (h.length + 1) (h.length + 1 + 1) h1 := ⟨a1, a2, a3, by omega, by omega, by omega⟩
    obtain ⟨h2, x2, e2⟩ := add_ok I1 (x := encP P1) (g := true) (pv_of g1 rfl) (e := 0) (by simp) (by simp)
    have c2 : adds [] [] (encP P1) true 0 = true := rfl
    rw [if_pos c2] at e2
    have I2 : TO B [P1] [0] h.length (h.length + 1) (h.length + 1 + 1) ((h2.set (h.length + 1) (.lst ([].map encP ++ [encP P1]))).set (h.length + 1 + 1) (.lst ([].map Val.int ++ [.int 0]))) := by
      have J := I1.ext x2
      refine ⟨?_, ?_, ?_, by omega, by omega, by omega⟩
      · rw [at_set_ne (by omega), at_set_ne (by omega)]; exact J.eD
      · rw [at_set_ne (by omega)]; exact at_set J.eK
      · exact at_set (by rw [at_set_ne (by omega)]; exact J.eM)
    have y2 : Ext h ((h2.set (h.length + 1) (.lst ([].map encP ++ [encP P1]))).set (h.length + 1 + 1) (.lst ([].map Val.int ++ [.int 0]))) := ((x1.trans x2).set (by omega) _).set (by omega) _
    generalize ((h2.set (h.length + 1) (.lst ([].map encP ++ [encP P1]))).set (h.length + 1 + 1) (.lst ([].map Val.int ++ [.int 0]))) = h3 at e2 I2 y2
    obtain ⟨h4, x4, e4⟩ := add_ok I2 (x := encP P2) (g := true) (pv_of g2 rfl) (e := 1) (by simp) (by simp)
    have c4 : adds [P1] [0] (encP P2) true 1 = true := rfl
    rw [if_pos c4] at e4
    have I4 : TO B [P1, P2] [0, 1] h.length (h.length + 1) (h.length + 1 + 1) ((h4.set (h.length + 1) (.lst ([P1].map encP ++ [encP P2]))).set (h.length + 1 + 1) (.lst ([0].map Val.int ++ [.int 1]))) := by
      have J := I2.ext x4
      refine ⟨?_, ?_, ?_, by omega, by omega, by omega⟩
      · rw [at_set_ne (by omega), at_set_ne (by omega)]; exact J.eD
      · rw [at_set_ne (by omega)]; exact at_set J.eK
      · exact at_set (by rw [at_set_ne (by omega)]; exact J.eM)
    have y4 : Ext h ((h4.set (h.length + 1) (.lst ([P1].map encP ++ [encP P2]))).set (h.length + 1 + 1) (.lst ([0].map Val.int ++ [.int 1]))) := ((y2.trans x4).set (by omega) _).set (by omega) _
    generalize ((h4.set (h.length + 1) (.lst ([P1].map encP ++ [encP P2]))).set (h.length + 1 + 1) (.lst ([0].map Val.int ++ [.int 1]))) = h5 at e4 I4 y4
    have u1 : encP P1 = .tup [.tup [.tup [], .int 0, .int 2, .str 1], .tup [.tup [], .int 2, .int 2, .int 0]] := rfl
    have u2 : encP P2 = .tup [.tup [.tup [.tup [.int 7, .int 255, .int 1]], .int 0, .int 4, .int 0]] := rfl
    rw [u1] at e2
    rw [u2] at e4
    simp [gV, l0, l1, l2, l3, l4, e1, I1.isI, e2, I2.isI, e4]
    exact ⟨_, _, I4, y4, by omega, by omega⟩
  obtain ⟨x, h', e, d, kn, mk, rfl, q⟩ := ex_of_wR w
  exact ⟨d, kn, mk, h', e, q⟩
/-! what words own, in plain words -/
def nz (l : List Nat) : List Nat := l.filter fun n => decide (n ≠ 0)
def fnd (k : Nat) (ws : List Nat) : List (Nat × Nat) :=
  if k = 1 then (if ws.getD 0 0 ≠ 0 then [(ws.getD 0 0, ws.getD 1 0)] else [])
  else if k = 2 then (nz (ws.take 2)).map (fun n => (n, 2)) ++ (nz ((ws.drop 2).take 2)).map (fun n => (n, 0))
  else if k = 3 then (if ws.getD 7 0 % 256 = 1 then (nz (ws.take 4)).map (fun n => (n, 0)) else []) else []
def okT (k : Nat) (ws : List Nat) : Prop := k = 1 → ws.getD 0 0 ≠ 0 → ws.getD 1 0 = 0 ∨ ws.getD 1 0 = 2 ∨ ws.getD 1 0 = 3
open Classical in
noncomputable def owns (B k : Nat) (ws : List Nat) : Option (List (Nat × Nat)) := if okT k ws ∧ GoodN B ((fnd k ws).map (·.1)) then some (fnd k ws) else none
def enc2 (p : Nat × Nat) : Val := .tup [.int p.1, .int p.2]
noncomputable def ownV (B k : Nat) (ws : List Nat) : Val := match owns B k ws with
  | some l => .tup (l.map enc2)
  | none => .non
theorem owns_some {B k : Nat} {ws : List Nat} {l : List (Nat × Nat)} (e : owns B k ws = some l) : l = fnd k ws ∧ okT k ws ∧ GoodN B (l.map (·.1)) := by
  unfold owns at e
  split at e
  · rename_i h; cases e; exact ⟨rfl, h.1, h.2⟩
  · cases e
theorem good1 {B n : Nat} : GoodN B [n] ↔ 4 ≤ n ∧ n < B := by
  constructor
  · intro g
    obtain ⟨a, b, _⟩ := g 0 n rfl
    exact ⟨a, b⟩
  · intro h k m e
    cases k with
    | zero => simp at e; subst e; exact ⟨h.1, h.2, by simp⟩
    | succ k => simp at e
theorem goodnil {B : Nat} : GoodN B [] := goodN_nil
section
variable {B : Nat} {d kn mk : Nat} {h : Heap}
theorem pP1 {ws : List Nat} (hw : ws.length = 8) : (pP ws 2 P1).map encPr = (fnd 2 ws).map enc2 ∧ nmz (pP ws 2 P1) = (fnd 2 ws).map (·.1) := by
  obtain ⟨a0, a1, a2, a3, a4, a5, a6, a7, rfl⟩ : ∃ a0 a1 a2 a3 a4 a5 a6 a7, ws = [a0, a1, a2, a3, a4, a5, a6, a7] := by
    match ws, hw with
    | [a0, a1, a2, a3, a4, a5, a6, a7], _ => exact ⟨_, _, _, _, _, _, _, _, rfl⟩
  have e : pP [a0, a1, a2, a3, a4, a5, a6, a7] 2 P1 = (nz [a0, a1]).map (fun n => (n, Val.int 2)) ++ (nz [a2, a3]).map (fun n => (n, Val.int 0)) := by
    simp [pP, P1, pC, sel, seg, mnOf, kv, encK, nz]
  have e2 : fnd 2 [a0, a1, a2, a3, a4, a5, a6, a7] = (nz [a0, a1]).map (fun n => (n, 2)) ++ (nz [a2, a3]).map (fun n => (n, 0)) := rfl
  rw [e, e2]
  constructor
  · simp only [List.map_append, List.map_map]; rfl
  · simp only [nmz, List.map_append, List.map_map]; rfl
theorem and255 (n : Nat) : n &&& 255 = n % 256 := Nat.and_two_pow_sub_one_eq_mod n 8
theorem pP2 {ws : List Nat} (hw : ws.length = 8) : (pP ws 3 P2).map encPr = (fnd 3 ws).map enc2 ∧ nmz (pP ws 3 P2) = (fnd 3 ws).map (·.1) := by
  obtain ⟨a0, a1, a2, a3, a4, a5, a6, a7, rfl⟩ : ∃ a0 a1 a2 a3 a4 a5 a6 a7, ws = [a0, a1, a2, a3, a4, a5, a6, a7] := by
    match ws, hw with
    | [a0, a1, a2, a3, a4, a5, a6, a7], _ => exact ⟨_, _, _, _, _, _, _, _, rfl⟩
  have e : pP [a0, a1, a2, a3, a4, a5, a6, a7] 3 P2 = if a7 % 256 = 1 then (nz [a0, a1, a2, a3]).map (fun n => (n, Val.int 0)) else [] := by
    by_cases c : a7 % 256 = 1
    · simp [pP, P2, pC, sel, seg, mnOf, kv, encK, nz, gB', and255, c]
    · simp [pP, P2, pC, sel, seg, mnOf, kv, encK, nz, gB', and255, c]
  have e2 : fnd 3 [a0, a1, a2, a3, a4, a5, a6, a7] = if a7 % 256 = 1 then (nz [a0, a1, a2, a3]).map (fun n => (n, 0)) else [] := rfl
  rw [e, e2]
  split
  · constructor
    · simp only [List.map_map]; rfl
    · simp only [nmz, List.map_map]; rfl
  · exact ⟨rfl, rfl⟩
theorem owned_ok (I : TO B [P1, P2] [0, 1] d kn mk h) {ws : List Nat} (hw : ws.length = 8) {k : Nat} (hk : k < 4) : ∃ h', m_Types_owned [.ref d, .int k, encW ws] h = .ok (ownV B k ws) h' ∧ Ext h h' := by
  have : k = 0 ∨ k = 1 ∨ k = 2 ∨ k = 3 := by omega
  rcases this with rfl | rfl | rfl | rfl
  · refine ⟨h, ?_, Ext.refl _⟩
    have e : owns B 0 ws = some [] := by
      unfold owns
      rw [if_pos ⟨fun q => absurd q (by decide), goodnil⟩]; rfl
    rw [ownV, e]
    exact owned0_ok
  · refine ⟨h, ?_, Ext.refl _⟩
    have e0 := owned1_ok I hw
    rw [show (((1 : Nat) : Int)) = 1 from rfl, e0]
    congr 1
    unfold rootV ownV owns
    by_cases c0 : ws.getD 0 0 = 0
    · have hf : fnd 1 ws = [] := by unfold fnd; rw [if_pos rfl, if_neg (by simpa using c0)]
      rw [if_pos c0, if_pos ⟨fun _ q => absurd c0 q, by rw [hf]; exact goodnil⟩, hf]
      rfl
    · have hf : fnd 1 ws = [(ws.getD 0 0, ws.getD 1 0)] := by unfold fnd; rw [if_pos rfl, if_pos c0]
      rw [if_neg c0, hf]
      by_cases c1 : 4 ≤ ws.getD 0 0 ∧ ws.getD 0 0 < B ∧ ws.getD 1 0 ≠ 1 ∧ ws.getD 1 0 < 2 + [P1, P2].length
      · have hl : [P1, P2].length = 2 := rfl
        rw [if_pos c1, if_pos ⟨fun _ _ => by omega, good1.mpr ⟨c1.1, c1.2.1⟩⟩]
        rfl
      · have hl : [P1, P2].length = 2 := rfl
        rw [if_neg c1, if_neg]
        rintro ⟨q1, q2⟩
        have q2' := good1.mp q2
        have q1' := q1 rfl c0
        exact c1 ⟨q2'.1, q2'.2, by omega, by omega⟩
  · obtain ⟨x, h', e, q⟩ := run_ok g1 hw (B := B) (own := 2) (h := h)
    refine ⟨h', ?_, q.ext⟩
    rw [show (((2 : Nat) : Int)) = 2 from rfl, owned2_ok I (n := 2) (by decide) (P := P1) rfl e]
    obtain ⟨p1, p2⟩ := pP1 hw
    congr 1
    unfold ownV owns
    rcases q.q with ⟨a, rfl⟩ | ⟨a, rfl⟩
    · rw [p2] at a
      rw [if_pos ⟨fun q => absurd q (by decide), a⟩, p1]
    · rw [p2] at a
      rw [if_neg (fun q => a q.2)]
  · obtain ⟨x, h', e, q⟩ := run_ok g2 hw (B := B) (own := 3) (h := h)
    refine ⟨h', ?_, q.ext⟩
    rw [show (((3 : Nat) : Int)) = 3 from rfl, owned2_ok I (n := 3) (by decide) (P := P2) rfl e]
    obtain ⟨p1, p2⟩ := pP2 hw
    congr 1
    unfold ownV owns
    rcases q.q with ⟨a, rfl⟩ | ⟨a, rfl⟩
    · rw [p2] at a
      rw [if_pos ⟨fun q => absurd q (by decide), a⟩, p1]
    · rw [p2] at a
      rw [if_neg (fun q => a q.2)]
end
end Lw

set_option Elab.async false
set_option linter.all false
set_option autoImplicit false
set_option maxHeartbeats 4000000
set_option maxRecDepth 100000
namespace Lw
open PyM
def loTail : En → Heap → RS := (sSeq (sAsg (gV 4) (mLc (iAlt (iLst (mV 3)) (iTup_ (mV 3))) (gV 7) (tTrue) (mB oIx (mV 7) (mK (.int 0))) [7]))
    (sSeq (sFor (iRng1 (mCons (mL bLen (mCons (mV 4) (mNil))) (mNil))) (gV 5) (sIf (tOr_ (tB_ (mB oLt (mB oIx (mV 4) (mV 5)) (mK (.int 4)))) (tOr_ (tB_ (mB oGe (mB oIx (mV 4) (mV 5)) (mV 2))) (tB_ (mB (oIn false) (mB oIx (mV 4) (mV 5)) (mSl (mV 4) (pNo) (pSo (mV 5))))))) (sRet (mK .non)) (sNx)))
    (sRet (mV 3))))
theorem m__law_owns_cut : m__law_owns = runB 3 8
    (sSeq (sAsg (gV 3) (mLst (mNil)))
    (sSeq (sIf (tAn (tB_ (mB (oEq false) (mV 0) (mK (.int 1)))) (tB_ (mB (oEq true) (mB oIx (mV 1) (mK (.int 0))) (mK (.int 0))))) (sSeq (sAsg (gV 3) (mLst (mCons (mTup (mCons (mB oIx (mV 1) (mK (.int 0))) (mCons (mB oIx (mV 1) (mK (.int 1))) (mNil)))) (mNil))))
    (sIf (tB_ (mB (oIn true) (mB oIx (mV 1) (mK (.int 1))) (mTup (mCons (mK (.int 0)) (mCons (mK (.int 2)) (mCons (mK (.int 3)) (mNil))))))) (sRet (mK .non)) (sNx))) (sNx))
    (sSeq (sIf (tB_ (mB (oEq false) (mV 0) (mK (.int 2)))) (sAsg (gV 3) (mB oAdd (mLc (iAlt (iLst (mSl (mV 1) (pNo) (pSo (mK (.int 2))))) (iTup_ (mSl (mV 1) (pNo) (pSo (mK (.int 2)))))) (gV 6) (tB_ (mB (oEq true) (mV 6) (mK (.int 0)))) (mTup (mCons (mV 6) (mCons (mK (.int 2)) (mNil)))) [6]) (mLc (iAlt (iLst (mSl (mV 1) (pSo (mK (.int 2))) (pSo (mK (.int 4))))) (iTup_ (mSl (mV 1) (pSo (mK (.int 2))) (pSo (mK (.int 4)))))) (gV 6) (tB_ (mB (oEq true) (mV 6) (mK (.int 0)))) (mTup (mCons (mV 6) (mCons (mK (.int 0)) (mNil)))) [6]))) (sNx))
    (sSeq (sIf (tAn (tB_ (mB (oEq false) (mV 0) (mK (.int 3)))) (tB_ (mB (oEq false) (mB oMd (mL bInt (mCons (mB oIx (mV 1) (mK (.int 7))) (mNil))) (mK (.int 256))) (mK (.int 1))))) (sAsg (gV 3) (mLc (iAlt (iLst (mSl (mV 1) (pNo) (pSo (mK (.int 4))))) (iTup_ (mSl (mV 1) (pNo) (pSo (mK (.int 4)))))) (gV 6) (tB_ (mB (oEq true) (mV 6) (mK (.int 0)))) (mTup (mCons (mV 6) (mCons (mK (.int 0)) (mNil)))) [6])) (sNx))
    loTail)))) := rfl
structure CkI (B : Nat) (l : List Nat) (h : Heap) (env : Option Val → En) (n : Nat) (s' : En) (h' : Heap) : Prop where
  k : ∃ a, s' = env a
  x : Ext h h'
  g : GoodN B (l.take n)
theorem ints_pl (l : List Nat) : (l.map fun n => Val.int (n : Nat)).all (pl 59) = true := by
  rw [List.all_eq_true]
  intro x hx
  obtain ⟨n, _, rfl⟩ := List.mem_map.mp hx
  rfl
theorem mem_ints {l : List Nat} {n : Nat} : Val.int (n : Nat) ∈ (l.map fun n => Val.int (n : Nat)) ↔ n ∈ l := by
  rw [List.mem_map]
  constructor
  · rintro ⟨m, hm, e⟩
    have : m = n := by injection e with e; omega
    exact this ▸ hm
  · exact fun hm => ⟨n, hm, rfl⟩
theorem loTail_ok {l : List (Nat × Nat)} {B f : Nat} {h : Heap} (ef : h[f]? = some (.lst (l.map enc2))) (ll : l.length ≤ 64) {o0 o1 o4 o5 o6 o7 : Option Val} {D : K4}
    (hg : GoodN B (l.map (·.1)) → ∀ h', Ext h h' → D.rt (.ref f) h') (hn : ¬ GoodN B (l.map (·.1)) → ∀ h', Ext h h' → D.rt .non h') :
    wS (loTail [o0, o1, some (.int B), some (.ref f), o4, o5, o6, o7] h) D := by
  have l12 := lim12
  unfold loTail
  simp [ef]
  refine wR_lcXm (fun x => match x with | .tup (y :: _) => y | _ => .non) (by rw [List.length_map]; omega) (fun h2 x2 => lstIs_at (x2.at ef)) (fun x h2 hx x2 => ⟨_, rfl, ?_⟩) (fun h2 x2 e2 => ?_)
  · obtain ⟨t, ht, rfl⟩ := List.mem_map.mp hx
    simp [wipeE, enc2]
    exact Ext.refl _
  · have e2' : h2[h.length]? = some (.lst ((l.map (·.1)).map fun n => .int (n : Nat))) := by
      rw [e2, List.map_map, List.map_map]; rfl
    have ef2 := x2.at ef
    clear e2 ef
    simp [gV, e2']
    generalize hL : l.map (·.1) = L at hg hn e2'
    have lL : L.length = l.length := by rw [← hL, List.length_map]
    rw [← lL] at ll ⊢
    refine ⟨by omega, ?_⟩
    refine wS_range (CkI B L h2 fun a => [o0, o1, some (.int B), some (.ref f), some (.ref h.length), a, o6, o7]) ⟨⟨_, rfl⟩, Ext.refl _, goodN_nil⟩ ?_ ?_
    · rintro k s' h' hk ⟨⟨a, rfl⟩, ex, g⟩
      refine ⟨[o0, o1, some (.int B), some (.ref f), some (.ref h.length), some (.int (k : Nat)), o6, o7], rfl, ?_⟩
      have ef' := ex.at e2'
      have ea : L2.atI (L.map fun n => Val.int (n : Nat)) (k : Int) = some (.int (L[k] : Nat)) := by
        rw [atI_cast, List.getElem?_map, List.getElem?_eq_getElem hk]; rfl
      have hlk : L[k]? = some L[k] := List.getElem?_eq_getElem hk
      have spl : L = L.take k ++ L[k] :: L.drop (k + 1) := by
        conv => lhs; rw [← List.take_append_drop k L]
        congr 1
        exact List.drop_eq_getElem_cons hk
      generalize L[k] = n at ea hlk spl
      have bad : ¬ (4 ≤ n ∧ n < B) ∨ n ∈ L.take k → ∀ h', Ext h2 h' → D.rt .non h' := fun q h' x => hn (by rw [spl]; exact goodN_bad q) h' (x2.trans x)
      by_cases h4 : n < 4
      · simp [ef', ea, h4, show (n : Int) < 4 by omega]
        exact bad (.inl (by omega)) _ ex
      · by_cases hB : B ≤ n
        · simp [ef', ea, h4, hB, show ¬ (n : Int) < 4 by omega]
          exact bad (.inl (by omega)) _ ex
        · have ein := oIn_pl (neg := false) (x := .int n) (a := h'.length) (ys := (L.take k).map fun n => Val.int (n : Nat)) (h := h' ++ [Obj.lst ((L.take k).map fun n => Val.int (n : Nat))]) at_len rfl (ints_pl _)
          have ed : decide (Val.int (n : Nat) ∈ (L.take k).map fun n => Val.int (n : Nat)) = decide (n ∈ L.take k) := by
            rw [Bool.eq_iff_iff]; simp only [decide_eq_true_eq]; exact mem_ints
          rw [ed] at ein
          by_cases hm : n ∈ L.take k
          · simp [ef', ea, h4, hB, show ¬ (n : Int) < 4 by omega, show ¬ (B : Int) ≤ n by omega, cut_to, ← List.map_take, ein, hm]
            exact bad (.inr hm) _ (ex.app _)
          · simp [ef', ea, h4, hB, show ¬ (n : Int) < 4 by omega, show ¬ (B : Int) ≤ n by omega, cut_to, ← List.map_take, ein, hm]
            refine ⟨⟨_, rfl⟩, ex.app _, ?_⟩
            rw [take_one hlk]
            exact goodN_snoc g (by omega) (by omega) hm
    · rintro s' h' ⟨⟨a, rfl⟩, ex, g⟩
      rw [List.take_length] at g
      simp
      exact hg g h' (x2.trans ex)
/-- a comprehension over some words that are not 0 -/
theorem lcnz {ma : En → Heap → Res Val} {s : En} {h : Heap} {l : List Nat} {c : Int} (hl : l.length ≤ 64) (e : ma s h = .ok (.tup (l.map fun n => .int (n : Nat))) h) (hs : s.length = 8) :
    mLc (iAlt (iLst ma) (iTup_ ma)) (gV 6) (tB_ (mB (oEq true) (mV 6) (mK (.int 0)))) (mTup (mCons (mV 6) (mCons (mK (.int c)) (mNil)))) [6] s h = .ok (.ref h.length) (h ++ [.lst ((nz l).map fun n => .tup [.int (n : Nat), .int c])]) := by
  obtain ⟨a0, a1, a2, a3, a4, a5, a6, a7, rfl⟩ : ∃ a0 a1 a2 a3 a4 a5 a6 a7, s = [a0, a1, a2, a3, a4, a5, a6, a7] := by
    match s, hs with
    | [a0, a1, a2, a3, a4, a5, a6, a7], _ => exact ⟨_, _, _, _, _, _, _, _, rfl⟩
  have l12 := lim12
  have l2 : 2 ≤ lim := by omega
  refine eq_of_wR ?_
  rw [wR_mLc]
  refine wR_iAlt (.inr ⟨?_, ?_⟩)
  · simp [iLst, e, Res.bind]
  · rw [wR_iTup, e]
    simp only [wR_ok]
    refine wR_lcPure (fun x => match x with | .int i => decide (i ≠ 0) | _ => false) (fun x => .tup [x, .int c]) (by rw [List.length_map]; omega) (fun _ => rfl) (fun x acc hx => ⟨_, rfl, ?_, fun _ => ?_⟩) ?_
    · obtain ⟨n, hn, rfl⟩ := List.mem_map.mp hx
      simp [wipeE, gV]
      by_cases q : n = 0 <;> simp [q]
    · obtain ⟨n, hn, rfl⟩ := List.mem_map.mp hx
      simp [wipeE, l2]
    · have : (l.map fun n => Val.int (n : Nat)).filter (fun x => match x with | .int i => decide (i ≠ 0) | _ => false) = (nz l).map fun n => Val.int (n : Nat) := by
        unfold nz
        rw [List.filter_map]
        congr 1
        apply List.filter_congr
        intro n _
        simp
      refine ⟨trivial, ?_⟩
      rw [this, List.map_map]
      rfl
theorem nz_len (l : List Nat) : (nz l).length ≤ l.length := List.length_filter_le ..
structure LoQ (B k : Nat) (ws : List Nat) (h : Heap) (x : Val) (h' : Heap) : Prop where
  ext : Ext h h'
  q : (∃ l L, owns B k ws = some l ∧ x = .ref L ∧ h'[L]? = some (.lst (l.map enc2)) ∧ h.length ≤ L) ∨ (owns B k ws = none ∧ x = .non)
theorem ltail_q {B k : Nat} {ws : List Nat} {l : List (Nat × Nat)} {f : Nat} {h0 h : Heap} (x0 : Ext h0 h) (hf : h0.length ≤ f) (ef : h[f]? = some (.lst (l.map enc2))) (ll : l.length ≤ 64) (hl : l = fnd k ws) (ht : okT k ws) {o0 o1 o4 o5 o6 o7 : Option Val} {D : K4} (hD : D.rt = LoQ B k ws h0) :
    wS (loTail [o0, o1, some (.int B), some (.ref f), o4, o5, o6, o7] h) D := by
  refine loTail_ok ef ll (fun g h' x => ?_) (fun g h' x => ?_)
  · rw [hD]
    refine ⟨x0.trans x, .inl ⟨l, f, ?_, rfl, x.at ef, hf⟩⟩
    unfold owns
    rw [if_pos ⟨ht, by rw [← hl]; exact g⟩, hl]
  · rw [hD]
    refine ⟨x0.trans x, .inr ⟨?_, rfl⟩⟩
    unfold owns
    rw [if_neg (fun q => g (by rw [hl]; exact q.2))]
theorem lowns_ok {B k : Nat} {ws : List Nat} (hw : ws.length = 8) (hk : k < 4) {h : Heap} : ∃ x h', m__law_owns [.int k, encW ws, .int B] h = .ok x h' ∧ LoQ B k ws h x h' := by
  have w : wR (m__law_owns [.int k, encW ws, .int B] h) (fun _ _ => False) (LoQ B k ws h) := by
    rw [m__law_owns_cut]
    refine wRB rfl ?_
    have l12 := lim12
    have l0 : 0 ≤ lim := by omega
    have l1 : 1 ≤ lim := by omega
    have l2 : 2 ≤ lim := by omega
    have l3 : 3 ≤ lim := by omega
    have a0 := ws_at hw (i := 0) (by omega)
    have a1 := ws_at hw (i := 1) (by omega)
    have a7 := ws_at hw (i := 7) (by omega)
    have t2 : ∀ s h, s[1]? = some (some (encW ws)) → mSl (mV 1) pNo (pSo (mK (.int 2))) s h = .ok (.tup ((ws.take 2).map fun n => .int (n : Nat))) h := fun s h e => by
      refine eq_of_wR ?_
      rw [wR_mSl]
      have ev : mV 1 s h = .ok (encW ws) h := by unfold mV; rw [e]
      rw [ev]
      simp [encW]
      have c2 := cut_to (b := 2) (ws.map fun n => Val.int (n : Nat))
      simpa using c2
    have t24 : ∀ s h, s[1]? = some (some (encW ws)) → mSl (mV 1) (pSo (mK (.int 2))) (pSo (mK (.int 4))) s h = .ok (.tup (((ws.drop 2).take 2).map fun n => .int (n : Nat))) h := fun s h e => by
      refine eq_of_wR ?_
      rw [wR_mSl]
      have ev : mV 1 s h = .ok (encW ws) h := by unfold mV; rw [e]
      rw [ev]
      simp [encW]
      have c2 := cut_both (a := 2) (b := 4) (ws.map fun n => Val.int (n : Nat))
      rw [List.drop_take] at c2
      simpa using c2
    have t4 : ∀ s h, s[1]? = some (some (encW ws)) → mSl (mV 1) pNo (pSo (mK (.int 4))) s h = .ok (.tup ((ws.take 4).map fun n => .int (n : Nat))) h := fun s h e => by
      refine eq_of_wR ?_
      rw [wR_mSl]
      have ev : mV 1 s h = .ok (encW ws) h := by unfold mV; rw [e]
      rw [ev]
      simp [encW]
      have c2 := cut_to (b := 4) (ws.map fun n => Val.int (n : Nat))
      simpa using c2
    have : k = 0 ∨ k = 1 ∨ k = 2 ∨ k = 3 := by omega
    rcases this with rfl | rfl | rfl | rfl
    · simp [l0, gV, encW]
      exact ltail_q ⟨_, rfl⟩ (by simp) (l := []) at_len (by simp) rfl (fun q => absurd q (by decide)) rfl
    · by_cases c0 : ws.getD 0 0 = 0
      · rw [c0] at a0
        have hf : fnd 1 ws = [] := by unfold fnd; rw [if_pos rfl, if_neg (by simpa using c0)]
        simp only [atI_cast] at a0
        simp [l0, gV, encW, -List.getD_eq_getElem?_getD, -List.getElem?_map, a0]
        exact ltail_q ⟨_, rfl⟩ (by simp) (l := []) at_len (by simp) hf.symm (fun _ q => absurd c0 q) rfl
      · have hf : fnd 1 ws = [(ws.getD 0 0, ws.getD 1 0)] := by unfold fnd; rw [if_pos rfl, if_pos c0]
        have c0' : ¬ ((ws.getD 0 0 : Nat) : Int) = 0 := by omega
        by_cases c1 : ws.getD 1 0 = 0 ∨ ws.getD 1 0 = 2 ∨ ws.getD 1 0 = 3
        · have ein : ∀ h, oIn true (.int (ws.getD 1 0 : Nat)) (.tup [.int 0, .int 2, .int 3]) h = .ok (.bl false) h := fun h => by
            rw [oIn_tup rfl rfl]
            rcases c1 with q | q | q <;> rw [q] <;> rfl
          simp only [atI_cast] at a0 a1
          simp [l0, l1, l2, l3, gV, encW, -List.getD_eq_getElem?_getD, -List.getElem?_map, a0, a1, c0, ein]
          exact ltail_q ⟨_, rfl⟩ (by simp) (l := [(ws.getD 0 0, ws.getD 1 0)]) (at_app 1 rfl rfl) (by simp) hf.symm (fun _ _ => c1) rfl
        · have ein : ∀ h, oIn true (.int (ws.getD 1 0 : Nat)) (.tup [.int 0, .int 2, .int 3]) h = .ok (.bl true) h := fun h => by
            rw [oIn_tup rfl rfl]
            have q0 : ¬ ((0 : Int) = (ws.getD 1 0 : Nat)) := by omega
            have q2 : ¬ ((2 : Int) = (ws.getD 1 0 : Nat)) := by omega
            have q3 : ¬ ((3 : Int) = (ws.getD 1 0 : Nat)) := by omega
            simp [feq, -List.getD_eq_getElem?_getD, beq_eq_false_iff_ne.mpr q0, beq_eq_false_iff_ne.mpr q2, beq_eq_false_iff_ne.mpr q3]
          simp only [atI_cast] at a0 a1
          simp [l0, l1, l2, l3, gV, encW, -List.getD_eq_getElem?_getD, -List.getElem?_map, a0, a1, c0, ein]
          refine ⟨⟨_, rfl⟩, .inr ⟨?_, rfl⟩⟩
          unfold owns
          rw [if_neg (fun q => c1 (q.1 rfl c0))]
    · have ea : (nz (ws.take 2)).length + (nz ((ws.drop 2).take 2)).length ≤ 64 := by
        have := nz_len (ws.take 2)
        have := nz_len ((ws.drop 2).take 2)
        simp at *
        omega
      simp [l0, l1, l2, gV, -wR_mLc]
      refine wR_eq (lcnz (l := ws.take 2) (by simp; omega) (t2 _ _ rfl) rfl) ?_
      refine wR_eq (lcnz (l := (ws.drop 2).take 2) (by simp; omega) (t24 _ _ rfl) rfl) ?_
      have e1 : (h ++ [Obj.lst []] ++ [Obj.lst ((nz (ws.take 2)).map fun n => Val.tup [.int (n : Nat), .int 2])] ++ [Obj.lst ((nz ((ws.drop 2).take 2)).map fun n => Val.tup [.int (n : Nat), .int 0])])[(h ++ [Obj.lst []]).length]? = some (.lst ((nz (ws.take 2)).map fun n => Val.tup [.int (n : Nat), .int 2])) := at_push at_len
      have e2 : (h ++ [Obj.lst []] ++ [Obj.lst ((nz (ws.take 2)).map fun n => Val.tup [.int (n : Nat), .int 2])] ++ [Obj.lst ((nz ((ws.drop 2).take 2)).map fun n => Val.tup [.int (n : Nat), .int 0])])[(h ++ [Obj.lst []] ++ [Obj.lst ((nz (ws.take 2)).map fun n => Val.tup [.int (n : Nat), .int 2])]).length]? = some (.lst ((nz ((ws.drop 2).take 2)).map fun n => Val.tup [.int (n : Nat), .int 0])) := at_len
      rw [wR_oAddL, e1, e2]
      simp only [List.length_map]
      refine ⟨by omega, ?_⟩
      have hf : (fnd 2 ws).map enc2 = (nz (ws.take 2)).map (fun n => Val.tup [.int (n : Nat), .int 2]) ++ (nz ((ws.drop 2).take 2)).map (fun n => Val.tup [.int (n : Nat), .int 0]) := by
        show List.map enc2 ((nz (ws.take 2)).map (fun n => (n, 2)) ++ (nz ((ws.drop 2).take 2)).map (fun n => (n, 0))) = _
        rw [List.map_append, List.map_map, List.map_map]; rfl
      refine ltail_q ⟨_, by simp only [List.append_assoc]; rfl⟩ (by simp) (l := fnd 2 ws) ?_ (by simp [fnd]; omega) rfl (fun q => absurd q (by decide)) rfl
      rw [hf]
      exact at_len
    · have a7' : (ws.map fun n => Val.int (n : Nat))[7]? = some (.int (ws.getD 7 0 : Nat)) := by rw [← atI_cast]; exact a7
      have ln := nz_len (ws.take 4)
      have l4 : (ws.take 4).length ≤ 4 := List.length_take_le ..
      by_cases c : ws.getD 7 0 % 256 = 1
      · have c' : ((ws.getD 7 0 : Nat) : Int) % 256 = 1 := by omega
        simp [l0, l1, l2, gV, -List.getD_eq_getElem?_getD, -List.getElem?_map, -wR_mLc]
        simp only [encW]
        simp [-List.getD_eq_getElem?_getD, -List.getElem?_map, a7', c', -wR_mLc]
        refine wR_eq (lcnz (l := ws.take 4) (by omega) (t4 _ _ rfl) rfl) ?_
        have hf : (fnd 3 ws).map enc2 = (nz (ws.take 4)).map (fun n => Val.tup [.int (n : Nat), .int 0]) := by
          have : fnd 3 ws = (nz (ws.take 4)).map (fun n => (n, 0)) := by unfold fnd; rw [if_neg (by decide), if_neg (by decide), if_pos rfl, if_pos c]
          rw [this, List.map_map]; rfl
        have lf : (fnd 3 ws).length ≤ 64 := by rw [← List.length_map (f := enc2), hf, List.length_map]; omega
        refine ltail_q ⟨_, by simp only [List.append_assoc]; rfl⟩ (by simp) (l := fnd 3 ws) ?_ lf rfl (fun q => absurd q (by decide)) rfl
        rw [hf]
        exact at_len
      · have c' : ¬ ((ws.getD 7 0 : Nat) : Int) % 256 = 1 := by omega
        simp [l0, l1, l2, gV, -List.getD_eq_getElem?_getD, -List.getElem?_map, -wR_mLc]
        simp only [encW]
        simp [-List.getD_eq_getElem?_getD, -List.getElem?_map, a7', c', -wR_mLc]
        have hf : fnd 3 ws = [] := by unfold fnd; rw [if_neg (by decide), if_neg (by decide), if_pos rfl, if_neg c]
        exact ltail_q ⟨_, rfl⟩ (by simp) (l := []) at_len (by simp) hf.symm (fun q => absurd q (by decide)) rfl
  obtain ⟨x, h', e, q⟩ := ex_of_wR w
  exact ⟨x, h', e, q⟩
end Lw

set_option Elab.async false
set_option linter.all false
set_option autoImplicit false
set_option maxHeartbeats 4000000
set_option maxRecDepth 100000
namespace Lw
open PyM
def drFin : En → Heap → RS := (sDrop (mBM bAppend (mV 2) (mCons (mL bTuple (mCons (mB oAdd (mV 4) (mLst (mCons (mK (.int 0)) (mCons (mK (.int 0)) (mCons (mK (.int 0)) (mCons (mB oIx (mLst (mCons (mK (.int 0)) (mCons (mK (.int 1)) (mCons (mK (.int 257)) (mNil))))) (mCall m__law_next [] (mCons (mV 0) (mCons (mK (.int 3)) (mNil))))) (mNil))))))) (mNil))) (mNil))))
def drBody : En → Heap → RS := (sSeq (sAsg (gV 4) (mLc (iRng1 (mCons (mK (.int 4)) (mNil))) (gV 5) (tTrue) (mB oIx (mLst (mCons (mK (.int 0)) (mCons (mK (.int 0)) (mCons (mK (.int 0)) (mCons (mB oAdd (mK (.int 4)) (mCall m__law_next [] (mCons (mV 0) (mCons (mB (oI fun i j => .int (i - j)) (mV 1) (mK (.int 4))) (mNil))))) (mCons (mCall m__law_next [] (mCons (mV 0) (mCons (mB oAdd (mV 1) (mK (.int 2))) (mNil)))) (mNil))))))) (mCall m__law_next [] (mCons (mV 0) (mCons (mK (.int 5)) (mNil))))) [5]))
    (sSeq (sIf (tB_ (mB oLt (mV 3) (mK (.int 4)))) (sSub (mV 4) (mK (.int 1)) (mB oIx (mLst (mCons (mK (.int 0)) (mCons (mK (.int 2)) (mCons (mK (.int 3)) (mCons (mK (.int 2)) (mCons (mK (.int 1)) (mCons (mK (.int 7)) (mNil)))))))) (mCall m__law_next [] (mCons (mV 0) (mCons (mK (.int 6)) (mNil)))))) (sNx))
    drFin))
theorem m__law_drawn_cut : m__law_drawn = runB 2 6
    (sSeq (sAsg (gV 2) (mLst (mNil)))
    (sSeq (sFor (iRng1 (mCons (mV 1) (mNil))) (gV 3) drBody)
    (sRet (mV 2)))) := rfl
/-- an image at a place -/
structure Im (B L : Nat) (h : Heap) (img : List (List Nat)) : Prop where
  at_ : h[L]? = some (.lst (img.map encW))
  len : img.length = B
  ws : ∀ ws ∈ img, ws.length = 8
structure ImQ (B p a : Nat) (ns : List Int) (h : Heap) (x : Val) (h' : Heap) : Prop where
  k : ∃ L img, x = .ref L ∧ h.length ≤ L ∧ Im B L h' img
  t : TP p a ns h'
  f : Fr p h h'
structure DrI (B p a : Nat) (ns : List Int) (h : Heap) (n : Nat) (s' : En) (h' : Heap) : Prop where
  k : ∃ a3 a4 a5 img, s' = [some (.ref p), some (.int B), some (.ref h.length), a3, a4, a5] ∧ h'[h.length]? = some (.lst (List.map encW img)) ∧ img.length = n ∧ ∀ ws ∈ img, ws.length = 8
  t : TP p a ns h'
  f : Fr p h h'
theorem nats_of {ys : List Val} (hR : ∀ y ∈ ys, ∃ n : Nat, y = .int n) : ∃ ws : List Nat, ys = ws.map fun n => .int (n : Nat) := by
  refine ⟨ys.map fun y => match y with | .int i => i.toNat | _ => 0, ?_⟩
  rw [List.map_map]
  conv => lhs; rw [← List.map_id ys]
  exact List.map_congr_left (fun y hy => by obtain ⟨n, rfl⟩ := hR y hy; simp)
theorem drawn_ok {B : Nat} {h : Heap} {p a : Nat} {ns : List Int} (T : TP p a ns h) (b1 : 24 ≤ B) (b2 : B ≤ 40) : ∃ x h', m__law_drawn [.ref p, .int B] h = .ok x h' ∧ ImQ B p a ns h x h' := by
  obtain ⟨v0, hv0⟩ : ∃ v, v = Val.int (B : Int) := ⟨_, rfl⟩
  rw [← hv0]
  have w : wR (m__law_drawn [.ref p, v0] h) (fun _ _ => False) (ImQ B p a ns h) := by
    rw [m__law_drawn_cut]
    obtain ⟨F, hF⟩ : ∃ F, F = drBody := ⟨_, rfl⟩
    rw [← hF]
    refine wRB rfl ?_
    rw [hv0]
    have l12 := lim12
    have l0 : 0 ≤ lim := by omega
    have l3 : 3 ≤ lim := by omega
    have l4 : 4 ≤ lim := by omega
    have l5 : 5 ≤ lim := by omega
    have l6 : 6 ≤ lim := by omega
    have l8 : 8 ≤ lim := by omega
    have lp := T.lt
    simp [l0, gV]
    refine ⟨by omega, ?_⟩
    refine wS_range (DrI B p a ns h) ⟨⟨_, _, _, [], rfl, at_len, rfl, by simp⟩, T.push _, Ext.fr ⟨_, rfl⟩ p⟩ ?_ ?_
    · rintro i s' h' hi ⟨⟨a3, a4, a5, img, rfl, eL, li, hw⟩, T', f'⟩
      refine ⟨[some (.ref p), some (.int B), some (.ref h.length), some (.int (i : Nat)), a4, a5], rfl, ?_⟩
      have hlt := at_lt eL
      have lp' := T'.lt
      rw [hF]
      unfold drBody
      simp
      refine wR_lcT T' (fun y => ∃ n : Nat, y = .int n) (by rw [rangeV_length]; omega) (fun _ _ => rfl) (fun x h1 hx T1 f1 => ⟨_, rfl, ?_⟩) (fun ys h1 ly hR T1 f1 el => ?_)
      · obtain ⟨v, h2, v0, v1, e2, T2, f2, _⟩ := T1.next2 nx_eq (n := (B : Int) - 4) (by omega) (by omega)
        obtain ⟨u, h3, u0, u1, e3, T3, f3, _⟩ := T2.next2 nx_eq (n := (B : Int) + 2) (by omega) (by omega)
        obtain ⟨z, h4, z0, z1, e4, T4, f4, _⟩ := (T3.push [Obj.lst [.int 0, .int 0, .int 0, .int (4 + v), .int u]]).next2 nx_eq (n := 5) (by decide) (by decide)
        have lt := T3.lt
        have g4 := f4.at (show h3.length ≠ p by omega) at_len
        have fx : Fr p h1 h4 := f2.trans (f3.trans ((Ext.fr ⟨_, rfl⟩ p).trans f4))
        simp [wipeE, e2, e3, e4, g4, l5]
        have : z = 0 ∨ z = 1 ∨ z = 2 ∨ z = 3 ∨ z = 4 := by omega
        rcases this with rfl | rfl | rfl | rfl | rfl
        · exact ⟨⟨0, rfl⟩, T4, fx⟩
        · exact ⟨⟨0, rfl⟩, T4, fx⟩
        · exact ⟨⟨0, rfl⟩, T4, fx⟩
        · exact ⟨⟨(4 + v).toNat, by simp; omega⟩, T4, fx⟩
        · exact ⟨⟨u.toNat, by simp; omega⟩, T4, fx⟩
      · rw [rangeV_length] at ly
        obtain ⟨ws, rfl⟩ := nats_of hR
        rw [List.length_map] at ly
        have eL1 := f1.at (show h.length ≠ p by omega) eL
        -- the rest: append
        have fin : ∀ (D : K4), D.nx = DrI B p a ns h (i + 1) → ∀ (ws : List Nat) (h2 : Heap), ws.length = 4 → TP p a ns h2 → Fr p h h2 → h'.length < h2.length → h2[h.length]? = some (.lst (List.map encW img)) → h2[h'.length]? = some (.lst (ws.map fun n => Val.int (n : Nat))) →
            wS (drFin
              [some (.ref p), some (.int B), some (.ref h.length), some (.int (i : Nat)), some (.ref h'.length), a5] h2) D := by
          intro D hD ws h2 lw T2 f2 l2 eL2 eW2
          unfold drFin
          obtain ⟨z, h3, z0, z1, e3, T3, f3, _⟩ := (T2.push [Obj.lst [.int 0, .int 1, .int 257]]).next2 nx_eq (n := 3) (by decide) (by decide)
          have lp2 := T2.lt
          have g3 := f3.at (show h2.length ≠ p by omega) at_len
          have eL3 := f3.at (show h.length ≠ p by omega) (at_push (g := [Obj.lst [.int 0, .int 1, .int 257]]) eL2)
          have eW3 := f3.at (show h'.length ≠ p by omega) (at_push (g := [Obj.lst [.int 0, .int 1, .int 257]]) eW2)
          obtain ⟨q, hq, eq⟩ : ∃ q : Nat, L2.atI [Val.int 0, .int 1, .int 257] z = some (.int q) ∧ q ≤ 257 := by
            have : z = 0 ∨ z = 1 ∨ z = 2 := by omega
            rcases this with rfl | rfl | rfl
            · exact ⟨0, rfl, by decide⟩
            · exact ⟨1, rfl, by decide⟩
            · exact ⟨257, rfl, by decide⟩
          have l3' := f3.1
          simp at l3'
          simp [seqOf_at eL2, l3, e3, g3, hq, l4]
          have q1 : (h3 ++ [Obj.lst [Val.int 0, .int 0, .int 0, .int (q : Nat)]])[h'.length]? = some (.lst (ws.map fun n => Val.int (n : Nat))) := at_push eW3
          have q2 : (h3 ++ [Obj.lst [Val.int 0, .int 0, .int 0, .int (q : Nat)]])[h3.length]? = some (.lst [Val.int 0, .int 0, .int 0, .int (q : Nat)]) := at_len
          simp [q1, lw, l8]
          have q3 : (h3 ++ [Obj.lst [Val.int 0, .int 0, .int 0, .int (q : Nat)], Obj.lst ((ws.map fun n => Val.int (n : Nat)) ++ [Val.int 0, .int 0, .int 0, .int (q : Nat)])])[h.length]? = some (.lst (img.map encW)) := at_push eL3
          simp [q3, show img.length < lim by omega]
          rw [hD]
          refine ⟨⟨_, _, _, img ++ [ws ++ [0, 0, 0, q]], rfl, ?_, by simp [li], fun x hx => ?_⟩, ?_, ?_⟩
          · rw [at_set q3]; simp [encW]
          · rcases List.mem_append.mp hx with hx | hx
            · exact hw x hx
            · rw [List.mem_singleton.mp hx]; simp [lw]
          · exact (T3.push _).set (by omega) (by omega) _
          · exact ((((f2.trans ((Ext.fr ⟨_, rfl⟩ p).trans f3))).push _).new (Nat.le_refl _) _)
        have l1 := at_lt el
        by_cases c : i < 4
        · obtain ⟨z, h2, z0, z1, e2, T2, f2, _⟩ := (T1.push [Obj.lst [.int 0, .int 2, .int 3, .int 2, .int 1, .int 7]]).next2 nx_eq (n := 6) (by decide) (by decide)
          have lp1 := T1.lt
          have g2 := f2.at (show h1.length ≠ p by omega) at_len
          have eL2 := f2.at (show h.length ≠ p by omega) (at_push (g := [Obj.lst [.int 0, .int 2, .int 3, .int 2, .int 1, .int 7]]) eL1)
          have eW2 := f2.at (show h'.length ≠ p by omega) (at_push (g := [Obj.lst [.int 0, .int 2, .int 3, .int 2, .int 1, .int 7]]) el)
          obtain ⟨q, hq⟩ : ∃ q : Nat, L2.atI [Val.int 0, .int 2, .int 3, .int 2, .int 1, .int 7] z = some (.int q) := by
            have : z = 0 ∨ z = 1 ∨ z = 2 ∨ z = 3 ∨ z = 4 ∨ z = 5 := by omega
            rcases this with rfl | rfl | rfl | rfl | rfl | rfl
            · exact ⟨0, rfl⟩
            · exact ⟨2, rfl⟩
            · exact ⟨3, rfl⟩
            · exact ⟨2, rfl⟩
            · exact ⟨1, rfl⟩
            · exact ⟨7, rfl⟩
          have l2' := f2.1
          simp at l2'
          simp [gV, c, show (i : Int) < 4 by omega, l6, e2, g2, hq, eW2, ly]
          refine fin _ rfl (ws.set 1 q) (h2.set h'.length (.lst ((ws.map fun n => Val.int (n : Nat)).set 1 (.int q)))) (by simp [ly]) (T2.set (by omega) (by omega) _) (((f'.trans f1).trans ((Ext.fr ⟨_, rfl⟩ p).trans f2)).new (by omega) _) (by simp; omega) (by rw [at_set_ne (by omega)]; exact eL2) ?_
          rw [at_set eW2, List.map_set]
        · simp [gV, show ¬ (i : Int) < 4 by omega, c]
          exact fin _ rfl ws h1 (by omega) T1 (f'.trans f1) (by omega) eL1 el
    · rintro s' h' ⟨⟨a3, a4, a5, img, rfl, eL, li, hw⟩, T', f'⟩
      simp
      exact ⟨⟨_, img, rfl, Nat.le_refl _, eL, li, hw⟩, T', f'⟩
  exact ex_of_wR w
end Lw

set_option Elab.async false
set_option linter.all false
set_option autoImplicit false
set_option maxHeartbeats 4000000
set_option maxRecDepth 100000
namespace Lw
open PyM
def chA : En → Heap → RS := (sSeq (sAsg (gV 5) (mLst (mCons (mB oIx (mV 3) (mB oAdd (mV 4) (mK (.int 1)))) (mCons (mK (.int 0)) (mCons (mK (.int 0)) (mCons (mK (.int 0)) (mCons (mK (.int 0)) (mCons (mK (.int 0)) (mCons (mK (.int 0)) (mCons (mK (.int 0)) (mNil)))))))))))
    (sSub (mV 2) (mB oIx (mV 3) (mV 4)) (mL bTuple (mCons (mV 5) (mNil)))))
def chB : En → Heap → RS := (sSeq (sAsg (gV 7) (mCall m__law_next [] (mCons (mV 0) (mCons (mV 1) (mNil)))))
    (sSeq (sAsg (gV 5) (mL bList (mCons (mB oIx (mV 2) (mV 7)) (mNil))))
    (sSeq (sSub (mV 5) (mCall m__law_next [] (mCons (mV 0) (mCons (mK (.int 4)) (mNil)))) (mB oIx (mLst (mCons (mK (.int 0)) (mCons (mB oAdd (mK (.int 4)) (mCall m__law_next [] (mCons (mV 0) (mCons (mB (oI fun i j => .int (i - j)) (mV 1) (mK (.int 4))) (mNil))))) (mCons (mV 1) (mCons (mK (.int 3)) (mNil)))))) (mCall m__law_next [] (mCons (mV 0) (mCons (mK (.int 4)) (mNil))))))
    (sSub (mV 2) (mV 7) (mL bTuple (mCons (mV 5) (mNil)))))))
theorem m__law_chain_cut : m__law_chain = runB 2 8
    (sSeq (sAsg (gV 2) (mB oMul (mLst (mCons (mB oMul (mTup (mCons (mK (.int 0)) (mNil))) (mK (.int 8))) (mNil))) (mV 1)))
    (sSeq (sAsg (gV 3) (mB rgL (mK (.int 4)) (mV 1)))
    (sSeq (sSub (mV 2) (mCall m__law_next [] (mCons (mV 0) (mCons (mK (.int 4)) (mNil)))) (mB oAdd (mTup (mCons (mK (.int 4)) (mCons (mK (.int 2)) (mNil)))) (mB oMul (mTup (mCons (mK (.int 0)) (mNil))) (mK (.int 6)))))
    (sSeq (sFor (iRng1 (mCons (mCall m__law_next [] (mCons (mV 0) (mCons (mB (oI fun i j => .int (i - j)) (mL bLen (mCons (mV 3) (mNil))) (mK (.int 2))) (mNil)))) (mNil))) (gV 4) chA)
    (sSeq (sFor (iRng1 (mCons (mCall m__law_next [] (mCons (mV 0) (mCons (mK (.int 3)) (mNil)))) (mNil))) (gV 6) chB)
    (sRet (mV 2))))))) := rfl
theorem Im.set {B L : Nat} {h : Heap} {img : List (List Nat)} (I : Im B L h img) (i : Nat) {ws : List Nat} (hw : ws.length = 8) : Im B L (h.set L (.lst ((img.map encW).set i (encW ws)))) (img.set i ws) :=
  ⟨by rw [at_set I.at_, List.map_set], by rw [List.length_set]; exact I.len, fun x hx => by
    rcases List.mem_or_eq_of_mem_set hx with hx | rfl
    · exact I.ws x hx
    · exact hw⟩
theorem Im.fr {B L : Nat} {h h' : Heap} {img : List (List Nat)} (I : Im B L h img) {p : Nat} (f : Fr p h h') (n : L ≠ p) : Im B L h' img := ⟨f.at n I.at_, I.len, I.ws⟩
theorem Im.ext {B L : Nat} {h h' : Heap} {img : List (List Nat)} (I : Im B L h img) (f : Ext h h') : Im B L h' img := ⟨f.at I.at_, I.len, I.ws⟩
structure ChI (B p a : Nat) (ns : List Int) (h : Heap) (L O : Nat) (s' : En) (h' : Heap) : Prop where
  k : ∃ a4 a5 a6 a7 img, s' = [some (.ref p), some (.int B), some (.ref L), some (.ref O), a4, a5, a6, a7] ∧ Im B L h' img
  o : h'[O]? = some (.lst (rangeV 4 (B - 4)))
  t : TP p a ns h'
  f : Fr p h h'
theorem encW8 (a b c d e f g i : Nat) : encW [a, b, c, d, e, f, g, i] = .tup [.int a, .int b, .int c, .int d, .int e, .int f, .int g, .int i] := rfl
theorem chA_ok {B p a : Nat} {ns : List Int} {h : Heap} {L O : Nat} (l1 : h.length ≤ L) (l2 : h.length ≤ O) (lO : L ≠ O) (b1 : 24 ≤ B) (b2 : B ≤ 40) (T0 : TP p a ns h) {i : Nat} (hi : i + 2 < B - 4) {h' : Heap} {a5 a6 a7 : Option Val} {D : K4} {img : List (List Nat)} (I : Im B L h' img) (eO : h'[O]? = some (.lst (rangeV 4 (B - 4)))) (T : TP p a ns h') (f : Fr p h h')
    (hD : D.nx = ChI B p a ns h L O) : wS (chA [some (.ref p), some (.int B), some (.ref L), some (.ref O), some (.int i), a5, a6, a7] h') D := by
  have l12 := lim12
  have l8 : 8 ≤ lim := by omega
  have lp := T0.lt
  unfold chA
  have c1 : L2.atI (rangeV 4 (B - 4)) ((i : Int) + 1) = some (.int ((4 + i + 1 : Nat) : Int)) := by
    rw [show ((i : Int) + 1) = ((i + 1 : Nat) : Int) by omega, atI_cast, rangeV_get, if_pos (by omega)]
    congr 2
  have c2 : L2.atI (rangeV 4 (B - 4)) (i : Int) = some (.int ((4 + i : Nat) : Int)) := by
    rw [atI_cast, rangeV_get, if_pos (by omega)]
    congr 2
  have eL2 : (h' ++ [Obj.lst [Val.int ((4 + i + 1 : Nat) : Int), .int 0, .int 0, .int 0, .int 0, .int 0, .int 0, .int 0]])[L]? = some (.lst (img.map encW)) := at_push I.at_
  have eO2 : (h' ++ [Obj.lst [Val.int ((4 + i + 1 : Nat) : Int), .int 0, .int 0, .int 0, .int 0, .int 0, .int 0, .int 0]])[O]? = some (.lst (rangeV 4 (B - 4))) := at_push eO
  have ll := I.len
  simp [gV, eO, c1, l8, -Int.natCast_add]
  simp [eO2, c2, eL2, ll, -Int.natCast_add, ixN_cast, show 4 + i < B by omega]
  rw [hD]
  have J := Im.set (I.ext (h' := h' ++ [Obj.lst [Val.int ((4 + i + 1 : Nat) : Int), .int 0, .int 0, .int 0, .int 0, .int 0, .int 0, .int 0]]) ⟨_, rfl⟩) (4 + i) (ws := [4 + i + 1, 0, 0, 0, 0, 0, 0, 0]) rfl
  exact ⟨⟨_, _, _, _, _, rfl, J⟩, by rw [at_set_ne lO]; exact eO2, (T.push _).set (by omega) (by omega) _, (f.push _).new l1 _⟩
theorem chB_ok {B p a : Nat} {ns : List Int} {h : Heap} {L O : Nat} (l1 : h.length ≤ L) (l2 : h.length ≤ O) (lO : L ≠ O) (b1 : 24 ≤ B) (b2 : B ≤ 40) (T0 : TP p a ns h) {h' : Heap} {a4 a5 a6 a7 : Option Val} {D : K4} {img : List (List Nat)} (I : Im B L h' img) (eO : h'[O]? = some (.lst (rangeV 4 (B - 4)))) (T : TP p a ns h') (f : Fr p h h')
    (hD : D.nx = ChI B p a ns h L O) : wS (chB [some (.ref p), some (.int B), some (.ref L), some (.ref O), a4, a5, a6, a7] h') D := by
  have l12 := lim12
  have l4 : 4 ≤ lim := by omega
  have lp := T0.lt
  unfold chB
  obtain ⟨v, h1, v0, v1, e1, T1, f1, _⟩ := T.next2 nx_eq (n := (B : Int)) (by omega) (by omega)
  obtain ⟨i, rfl⟩ := Int.eq_ofNat_of_zero_le v0
  have I1 := I.fr f1 (by omega)
  have hi : i < img.length := by rw [I1.len]; omega
  have ei : L2.atI (img.map encW) (i : Int) = some (encW img[i]) := by
    rw [atI_cast, List.getElem?_map, List.getElem?_eq_getElem hi]; rfl
  have lw := I1.ws img[i] (List.getElem_mem hi)
  have eO1 := f1.at (show O ≠ p by omega) eO
  generalize img[i] = ws at ei lw
  simp only [encW] at ei
  obtain ⟨u, h2, u0, u1, e2, T2, f2, _⟩ := (T1.push [Obj.lst (ws.map fun n => Val.int (n : Nat))]).next2 nx_eq (n := (B : Int) - 4) (by omega) (by omega)
  have lt1 := T1.lt
  have lL := at_lt I1.at_
  have x2 : Fr p h1 h2 := (Ext.fr ⟨_, rfl⟩ p).trans f2
  have eW2 := f2.at (show h1.length ≠ p by omega) at_len
  obtain ⟨z, h3, z0, z1, e3, T3, f3, _⟩ := (T2.push [Obj.lst [.int 0, .int (4 + u), .int B, .int 3]]).next2 nx_eq (n := 4) (by decide) (by decide)
  have lt2 := T2.lt
  have x3 : Fr p h1 h3 := x2.trans ((Ext.fr ⟨_, rfl⟩ p).trans f3)
  have l2' := x2.1
  have eW3 := f3.at (show h1.length ≠ p by omega) (at_push (g := [Obj.lst [.int 0, .int (4 + u), .int B, .int 3]]) eW2)
  have eQ3 := f3.at (show h2.length ≠ p by omega) at_len
  obtain ⟨q, hq⟩ : ∃ q : Nat, L2.atI [Val.int 0, .int (4 + u), .int B, .int 3] z = some (.int q) := by
    have : z = 0 ∨ z = 1 ∨ z = 2 ∨ z = 3 := by omega
    rcases this with rfl | rfl | rfl | rfl
    · exact ⟨0, rfl⟩
    · exact ⟨(4 + u).toNat, by simp; omega⟩
    · exact ⟨B, rfl⟩
    · exact ⟨3, rfl⟩
  obtain ⟨y, h4, y0, y1, e4, T4, f4, _⟩ := T3.next2 nx_eq (n := 4) (by decide) (by decide)
  obtain ⟨y, rfl⟩ := Int.eq_ofNat_of_zero_le y0
  have lt3 := T3.lt
  have x4 : Fr p h1 h4 := x3.trans f4
  have eW4 := f4.at (show h1.length ≠ p by omega) eW3
  have I4 := (I1.fr x4 (by omega))
  have eO4 := x4.at (show O ≠ p by omega) eO1
  have h18 : h1.length < h4.length := at_lt eW4
  simp [gV, e1, I1.at_, ei, e2, l4, e3, eQ3, hq, e4, eW4, lw, ixN_cast, show y < 8 by omega]
  have eL5 : (h4.set h1.length (.lst ((ws.map fun n => Val.int (n : Nat)).set y (.int q))))[L]? = some (.lst (img.map encW)) := by rw [at_set_ne (by omega)]; exact I4.at_
  have eW5 : (h4.set h1.length (.lst ((ws.map fun n => Val.int (n : Nat)).set y (.int q))))[h1.length]? = some (.lst ((ws.map fun n => Val.int (n : Nat)).set y (.int q))) := at_set eW4
  simp [eL5, eW5, ixN_cast, I4.len, show i < B by omega]
  rw [hD]
  have I5 : Im B L (h4.set h1.length (.lst ((ws.map fun n => Val.int (n : Nat)).set y (.int q)))) img := ⟨eL5, I4.len, I4.ws⟩
  have J := I5.set i (ws := ws.set y q) (by simp [lw])
  have ew : encW (ws.set y q) = .tup ((ws.map fun n => Val.int (n : Nat)).set y (.int q)) := by unfold encW; rw [List.map_set]
  rw [ew] at J
  exact ⟨⟨_, _, _, _, _, rfl, J⟩, by rw [at_set_ne lO, at_set_ne (by have := at_lt eO1; omega)]; exact eO4, ((T4.set (by omega) (by omega) _)).set (by omega) (by omega) _, (((f.trans f1).trans x4).new (by have := f.1; have := f1.1; omega) _).new l1 _⟩
theorem rep1 {α : Type} (n : Nat) (x : α) : repV n [x] = List.replicate n x := by
  unfold repV
  induction n with
  | zero => rfl
  | succ n ih => rw [List.replicate_succ, List.flatten_cons, ih, List.replicate_succ]; rfl
theorem chain_ok {B : Nat} {h : Heap} {p a : Nat} {ns : List Int} (T : TP p a ns h) (b1 : 24 ≤ B) (b2 : B ≤ 40) : ∃ x h', m__law_chain [.ref p, .int B] h = .ok x h' ∧ ImQ B p a ns h x h' := by
  obtain ⟨v0, hv0⟩ : ∃ v, v = Val.int (B : Int) := ⟨_, rfl⟩
  rw [← hv0]
  have w : wR (m__law_chain [.ref p, v0] h) (fun _ _ => False) (ImQ B p a ns h) := by
    rw [m__law_chain_cut]
    obtain ⟨F, hF⟩ : ∃ F, F = chA := ⟨_, rfl⟩
    obtain ⟨F2, hF2⟩ : ∃ F, F = chB := ⟨_, rfl⟩
    rw [← hF, ← hF2]
    refine wRB rfl ?_
    rw [hv0]
    have l12 := lim12
    have l1 : 1 ≤ lim := by omega
    have l2 : 2 ≤ lim := by omega
    have l8 : 8 ≤ lim := by omega
    have lp := T.lt
    have ll : (40 : Nat) < lim := by omega
    have e6 : repV 6 [Val.int 0] = [Val.int 0, .int 0, .int 0, .int 0, .int 0, .int 0] := rfl
    have er : (4 : Int) + ((B : Int) - 4) = B := by omega
    have en : ((B : Int) - 4).toNat = B - 4 := by omega
    obtain ⟨H, hH⟩ : ∃ H, H = h ++ [Obj.lst [encW [0, 0, 0, 0, 0, 0, 0, 0]], Obj.lst (repV B [encW [0, 0, 0, 0, 0, 0, 0, 0]]), Obj.lst (rangeV 4 (B - 4))] := ⟨_, rfl⟩
    have I0 : Im B (h.length + 1) H (List.replicate B [0, 0, 0, 0, 0, 0, 0, 0]) :=
      ⟨by rw [List.map_replicate, ← rep1, hH]; exact at_app 1 rfl rfl, by simp, fun ws hw => by rw [(List.mem_replicate.mp hw).2]; rfl⟩
    have T0 : TP p a ns H := by rw [hH]; exact T.push _
    have f0 : Fr p h H := by rw [hH]; exact Ext.fr ⟨_, rfl⟩ p
    have o0 : H[h.length + 2]? = some (Obj.lst (rangeV 4 (B - 4))) := by rw [hH]; exact at_app 2 rfl rfl
    obtain ⟨z, h1, z0, z1, e1, T1, f1, _⟩ := T0.next2 nx_eq (n := 4) (by decide) (by decide)
    obtain ⟨z, rfl⟩ := Int.eq_ofNat_of_zero_le z0
    have I1 := I0.fr f1 (by omega)
    have o1 := f1.at (show h.length + 2 ≠ p by omega) o0
    rw [encW8] at hH
    rw [hH] at e1
    simp -implicitDefEqProofs [l1, l8, gV]
    refine ⟨by omega, by omega, l2, by rw [e6]; simp; omega, ?_⟩
    rw [en]
    refine wR_eq e1 ?_
    rw [wR_oSetI, I1.at_]
    have lI : (List.map encW (List.replicate B [0, 0, 0, 0, 0, 0, 0, 0])).length = B := by simp
    simp only [lI, ixN_cast, show z < B by omega, if_true]
    have J := I1.set z (ws := [4, 2, 0, 0, 0, 0, 0, 0]) rfl
    have ew : encW [4, 2, 0, 0, 0, 0, 0, 0] = .tup (.int 4 :: .int 2 :: repV 6 [Val.int 0]) := by rw [e6]; rfl
    rw [← ew]
    have o2 : (h1.set (h.length + 1) (.lst ((List.map encW (List.replicate B [0, 0, 0, 0, 0, 0, 0, 0])).set z (encW [4, 2, 0, 0, 0, 0, 0, 0]))))[h.length + 2]? = some (.lst (rangeV 4 (B - 4))) := by rw [at_set_ne (by omega)]; exact o1
    have T2 := T1.set (show p ≠ h.length + 1 by omega) (by omega) (.lst ((List.map encW (List.replicate B [0, 0, 0, 0, 0, 0, 0, 0])).set z (encW [4, 2, 0, 0, 0, 0, 0, 0])))
    have f2 : Fr p h (h1.set (h.length + 1) (.lst ((List.map encW (List.replicate B [0, 0, 0, 0, 0, 0, 0, 0])).set z (encW [4, 2, 0, 0, 0, 0, 0, 0])))) := (f0.trans f1).new (by omega) _
    generalize h1.set (h.length + 1) (.lst ((List.map encW (List.replicate B [0, 0, 0, 0, 0, 0, 0, 0])).set z (encW [4, 2, 0, 0, 0, 0, 0, 0]))) = h2 at J o2 T2 f2
    obtain ⟨u, h3, u0, u1, e3, T3, f3, _⟩ := T2.next2 nx_eq (n := ((rangeV 4 (B - 4)).length : Int) - 2) (by rw [rangeV_length]; omega) (by rw [rangeV_length]; omega)
    rw [rangeV_length] at u1
    simp only [o2]
    refine wR_eq e3 ?_
    simp only
    refine ⟨by omega, ?_⟩
    have I3 := J.fr f3 (by omega)
    have o3 := f3.at (show h.length + 2 ≠ p by omega) o2
    refine wS_range (fun _ => ChI B p a ns h (h.length + 1) (h.length + 2)) ⟨⟨_, _, _, _, _, rfl, I3⟩, o3, T3, f2.trans f3⟩ ?_ ?_
    · rintro i s' h' hi ⟨⟨a4, a5, a6, a7, img, rfl, I⟩, eO, T', f'⟩
      refine ⟨_, rfl, ?_⟩
      rw [hF]
      exact chA_ok (by omega) (by omega) (by omega) b1 b2 T (by omega) I eO T' f' rfl
    · rintro s' h' ⟨⟨a4, a5, a6, a7, img, rfl, I⟩, eO, T', f'⟩
      obtain ⟨v, h4, v0, v1, e4, T4, f4, _⟩ := T'.next2 nx_eq (n := 3) (by decide) (by decide)
      simp -implicitDefEqProofs [e4]
      refine ⟨by omega, ?_⟩
      refine wS_range (fun _ => ChI B p a ns h (h.length + 1) (h.length + 2)) ⟨⟨_, _, _, _, _, rfl, I.fr f4 (by omega)⟩, f4.at (by omega) eO, T4, f'.trans f4⟩ ?_ ?_
      · rintro i s' h' hi ⟨⟨a4, a5, a6, a7, img, rfl, I⟩, eO, T', f'⟩
        refine ⟨_, rfl, ?_⟩
        rw [hF2]
        exact chB_ok (by omega) (by omega) (by omega) b1 b2 T I eO T' f' rfl
      · rintro s' h' ⟨⟨a4, a5, a6, a7, img, rfl, I⟩, eO, T', f'⟩
        simp -implicitDefEqProofs
        exact ⟨⟨_, img, rfl, by omega, I⟩, T', f'⟩
  obtain ⟨x, h', e, q⟩ := ex_of_wR w
  exact ⟨x, h', e, q⟩
end Lw

set_option Elab.async false
set_option linter.all false
set_option autoImplicit false
set_option maxHeartbeats 4000000
set_option maxRecDepth 100000
namespace Lw
open PyM
abbrev Rw := Nat × Option Nat × Nat
def encO : Option Nat → Val
  | none => .non
  | some n => .int n
def encR (r : Rw) : Val := .tup [.int r.1, encO r.2.1, .int r.2.2]
def encE (r : Rw) : Val × Val := (.int r.1, .tup [encO r.2.1, .int r.2.2])
inductive Wr where
  | bad (s b : Nat) | done (fd : List Rw) (seen : List Nat) | out
noncomputable def Wk (img : List (List Nat)) (B : Nat) : Nat → List Rw → List Nat → List Rw → Wr
  | _, [], seen, fd => .done fd seen
  | 0, _ :: _, _, _ => .out
  | n + 1, r :: todo, seen, fd => if r.1 ∈ seen then .bad 2 r.1 else match owns B r.2.2 (img.getD r.1 []) with
    | none => .bad 3 r.1
    | some l => Wk img B n (todo ++ l.map fun c => (c.1, some r.1, c.2)) (seen ++ [r.1]) (fd ++ [r])
def GoodR (B : Nat) (r : Rw) : Prop := r.1 < B ∧ r.2.2 < 4
theorem goodN_mem {B : Nat} {l : List Nat} (g : GoodN B l) {n : Nat} (h : n ∈ l) : 4 ≤ n ∧ n < B := by
  obtain ⟨k, hk⟩ := List.mem_iff_getElem?.mp h
  obtain ⟨a, b, _⟩ := g k n hk
  exact ⟨a, b⟩
theorem fnd_kind {k : Nat} {ws : List Nat} (t : okT k ws) : ∀ c ∈ fnd k ws, c.2 < 4 := by
  intro c hc
  unfold fnd at hc
  split at hc
  · rename_i hk
    split at hc
    · rename_i h0
      rw [List.mem_singleton.mp hc]
      have := t hk h0
      show ws.getD 1 0 < 4
      omega
    · cases hc
  · split at hc
    · rcases List.mem_append.mp hc with hc | hc
      · obtain ⟨n, _, rfl⟩ := List.mem_map.mp hc; show 2 < 4; decide
      · obtain ⟨n, _, rfl⟩ := List.mem_map.mp hc; show 0 < 4; decide
    · split at hc
      · split at hc
        · obtain ⟨n, _, rfl⟩ := List.mem_map.mp hc; show 0 < 4; decide
        · cases hc
      · cases hc
theorem fnd_len {k : Nat} {ws : List Nat} : (fnd k ws).length ≤ 8 := by
  have a := nz_len (ws.take 2)
  have b := nz_len ((ws.drop 2).take 2)
  have c := nz_len (ws.take 4)
  have a' := List.length_take_le 2 ws
  have b' := List.length_take_le 2 (ws.drop 2)
  have c' := List.length_take_le 4 ws
  unfold fnd
  split
  · split <;> simp
  · split
    · simp only [List.length_append, List.length_map]; omega
    · split
      · split
        · simp only [List.length_map]; omega
        · simp
      · simp
theorem owns_rows {B k b : Nat} {ws : List Nat} {l : List (Nat × Nat)} (e : owns B k ws = some l) : (∀ r ∈ l.map fun c => ((c.1, some b, c.2) : Rw), GoodR B r) ∧ l.length ≤ 8 := by
  obtain ⟨rfl, t, g⟩ := owns_some e
  refine ⟨fun r hr => ?_, fnd_len⟩
  obtain ⟨c, hc, rfl⟩ := List.mem_map.mp hr
  exact ⟨(goodN_mem g (List.mem_map_of_mem hc)).2, fnd_kind t c hc⟩
structure Sn (B : Nat) (seen : List Nat) : Prop where
  nd : seen.Nodup
  lt : ∀ b ∈ seen, b < B
theorem nodup_len : ∀ (B : Nat) (l : List Nat), l.Nodup → (∀ b ∈ l, b < B) → l.length ≤ B
  | 0, [], _, _ => Nat.le_refl _
  | 0, b :: l, _, h => absurd (h b List.mem_cons_self) (by omega)
  | B + 1, l, nd, h => by
    have ih := nodup_len B (l.erase B) (nd.erase B) fun b hb => by
      have := (List.Nodup.mem_erase_iff nd).mp hb
      have := h b this.2
      omega
    by_cases hm : B ∈ l
    · rw [List.length_erase_of_mem hm] at ih; omega
    · rw [List.erase_of_not_mem hm] at ih; omega
theorem Sn.len {B : Nat} {seen : List Nat} (s : Sn B seen) : seen.length ≤ B := nodup_len B seen s.nd s.lt
theorem Sn.snoc {B b : Nat} {seen : List Nat} (s : Sn B seen) (hb : b < B) (hn : b ∉ seen) : Sn B (seen ++ [b]) := by
  refine ⟨?_, fun x hx => ?_⟩
  · rw [List.nodup_append]
    refine ⟨s.nd, by simp, fun x hx y hy => ?_⟩
    rw [List.mem_singleton.mp hy]
    exact fun e => hn (e ▸ hx)
  · rcases List.mem_append.mp hx with hx | hx
    · exact s.lt x hx
    · rw [List.mem_singleton.mp hx]; exact hb
theorem Wk_out {img : List (List Nat)} {B : Nat} : ∀ (n : Nat) (todo : List Rw) (seen : List Nat) (fd : List Rw), (∀ r ∈ todo, GoodR B r) → Sn B seen → B < n + seen.length → Wk img B n todo seen fd ≠ .out
  | n, [], seen, fd, _, _, _ => by unfold Wk; exact fun e => by cases e
  | 0, r :: todo, seen, fd, _, s, h => by
    have := s.len
    omega
  | n + 1, r :: todo, seen, fd, g, s, h => by
    unfold Wk
    split
    · exact fun e => by cases e
    · rename_i hm
      split
      · exact fun e => by cases e
      · rename_i l e
        refine Wk_out n _ _ _ (fun x hx => ?_) (s.snoc (g r List.mem_cons_self).1 hm) (by simp; omega)
        rcases List.mem_append.mp hx with hx | hx
        · exact g x (List.mem_cons_of_mem _ hx)
        · exact (owns_rows e).1 x hx
def foFor : En → Heap → RS := (sFor (iAlt (iLst (mV 9)) (iTup_ (mV 9))) (gT (gsCons (gV 10) (gsCons (gV 11) (gsNil)))) (sDrop (mBM bAppend (mV 5) (mCons (mTup (mCons (mV 10) (mCons (mV 6) (mCons (mV 11) (mNil))))) (mNil)))))
def foBody : En → Heap → RS := (sSeq (sAsg (gT (gsCons (gV 6) (gsCons (gV 7) (gsCons (gV 8) (gsNil))))) (mBM bPopAt (mV 5) (mCons (mK (.int 0)) (mNil))))
    (sSeq (sIf (tB_ (mB (oIn false) (mV 6) (mV 3))) (sRet (mTup (mCons (mK (.str 2)) (mCons (mV 6) (mNil))))) (sNx))
    (sSeq (sSub (mV 3) (mV 6) (mK (.bl true)))
    (sSeq (sSub (mV 4) (mV 6) (mTup (mCons (mV 7) (mCons (mV 8) (mNil)))))
    (sSeq (sAsg (gV 9) (mMeth 0 m_Types_owned [] (mV 1) (mCons (mV 8) (mCons (mB oIx (mV 0) (mV 6)) (mNil)))))
    (sSeq (sIf (tB_ (mU (oIsN false) (mV 9))) (sRet (mTup (mCons (mK (.str 3)) (mCons (mV 6) (mNil))))) (sNx))
    foFor))))))
theorem m_forest_of_cut : m_forest_of = runB 4 12
    (sSeq (sAsg (gV 4) (mDct))
    (sSeq (sAsg (gV 5) (mLst (mCons (mTup (mCons (mV 2) (mCons (mK .non) (mCons (mK (.int 1)) (mNil))))) (mNil))))
    (sSeq (whM (tTr (mV 5)) foBody 100000)
    (sRet (mV 4))))) := rfl
def encF (fd : List Rw) : List (Val × Val) := fd.map encE
structure Rd (seen : List Nat) (R : Nat) (h : Heap) : Prop where
  k : ∃ rd, h[R]? = some (.dct rd) ∧ (∀ m : Nat, (lookV rd (.int m)).isSome = true ↔ m ∈ seen) ∧ rd.length ≤ seen.length
theorem Rd.fr {seen : List Nat} {R p : Nat} {h h' : Heap} (r : Rd seen R h) (f : Fr p h h') (n : R ≠ p) : Rd seen R h' := by
  obtain ⟨rd, e, q⟩ := r.k
  exact ⟨rd, f.at n e, q⟩
theorem put_new {d : List (Val × Val)} {k v : Val} (h : ∀ p ∈ d, p.1 ≠ k) : putV d k v = d ++ [(k, v)] := by
  unfold putV
  rw [if_neg]
  intro q
  obtain ⟨p, hp, e⟩ := List.any_eq_true.mp q
  exact h p hp (of_decide_eq_true e)
theorem TO.fr1 {B : Nat} {Ps : List (List Cl)} {es : List Int} {d kn mk p : Nat} {h h' : Heap} (I : TO B Ps es d kn mk h) (f : Fr p h h') (h1 : d ≠ p) (h2 : kn ≠ p) (h3 : mk ≠ p) : TO B Ps es d kn mk h' :=
  ⟨f.at h1 I.eD, f.at h2 I.eK, f.at h3 I.eM, I.n1, I.n2, I.n3⟩
/-- what the walk of one forest keeps -/
structure Wl (B : Nat) (img : List (List Nat)) (L d kn mk R F Q : Nat) (h0 : Heap) (W0 : Wr) (n : Nat) (todo : List Rw) (seen : List Nat) (fd : List Rw) (h : Heap) : Prop where
  im : Im B L h img
  ty : TO B [P1, P2] [0, 1] d kn mk h
  rd : Rd seen R h
  ef : h[F]? = some (.dct (encF fd))
  eq : h[Q]? = some (.lst (todo.map encR))
  fr : Fr R h0 h
  wk : Wk img B n todo seen fd = W0
  gr : ∀ r ∈ todo, GoodR B r
  sn : Sn B seen
  fs : ∀ r ∈ fd, r.1 ∈ seen
  lf : fd.length ≤ seen.length
  lq : todo.length + 8 * n ≤ 4000
  nd : [L, d, kn, mk, R].Nodup
  lt : L < h0.length ∧ d < h0.length ∧ kn < h0.length ∧ mk < h0.length ∧ R < h0.length
  pf : h0.length ≤ F ∧ h0.length ≤ Q ∧ F ≠ Q
structure FoQ (B : Nat) (R : Nat) (h0 : Heap) (W0 : Wr) (x : Val) (h : Heap) : Prop where
  fr : Fr R h0 h
  q : (∃ s b, W0 = .bad s b ∧ x = .tup [.str s, .int b]) ∨ (∃ fd seen F, W0 = .done fd seen ∧ x = .ref F ∧ h[F]? = some (.dct (encF fd)) ∧ Rd seen R h ∧ h0.length ≤ F ∧ Sn B seen ∧ (∀ r ∈ fd, r.1 ∈ seen) ∧ fd.length ≤ seen.length)
structure FoI (B : Nat) (img : List (List Nat)) (L d kn mk R F Q : Nat) (e : Nat) (h0 : Heap) (W0 : Wr) (n : Nat) (s' : En) (h' : Heap) : Prop where
  k : ∃ a6 a7 a8 a9 a10 a11 todo seen fd, s' = [some (.ref L), some (.ref d), some (.int e), some (.ref R), some (.ref F), some (.ref Q), a6, a7, a8, a9, a10, a11] ∧ Wl B img L d kn mk R F Q h0 W0 n todo seen fd h'
section
variable {B : Nat} {img : List (List Nat)} {L d kn mk R F Q e : Nat} {h0 : Heap} {W0 : Wr}
structure FfI (Q b : Nat) (h1 : Heap) (todo : List Rw) (l : List (Nat × Nat)) (env : Option Val → Option Val → En) (n : Nat) (s' : En) (h' : Heap) : Prop where
  k : ∃ a10 a11, s' = env a10 a11
  f : Fr Q h1 h'
  q : h'[Q]? = some (.lst ((todo ++ (l.take n).map fun c => ((c.1, some b, c.2) : Rw)).map encR))
theorem foFor_ok {todo : List Rw} {l : List (Nat × Nat)} {b : Nat} {h1 : Heap} (eq : h1[Q]? = some (.lst (todo.map encR))) (lq : todo.length + l.length ≤ 4000) {o0 o1 o2 o3 o4 a7 a8 a10 a11 : Option Val} {D : K4}
    (hD : ∀ a10 a11 h', Fr Q h1 h' → h'[Q]? = some (.lst ((todo ++ l.map fun c => ((c.1, some b, c.2) : Rw)).map encR)) → D.nx [o0, o1, o2, o3, o4, some (.ref Q), some (.int b), a7, a8, some (.tup (l.map enc2)), a10, a11] h') :
    wS (foFor [o0, o1, o2, o3, o4, some (.ref Q), some (.int b), a7, a8, some (.tup (l.map enc2)), a10, a11] h1) D := by
  have l3 : 3 ≤ lim := by decide
  have l4 : 4000 < lim := by decide
  unfold foFor
  simp
  refine wS_forM (FfI Q b h1 todo l fun a10 a11 => [o0, o1, o2, o3, o4, some (.ref Q), some (.int b), a7, a8, some (.tup (l.map enc2)), a10, a11]) _ 0 _ _ ⟨⟨_, _, rfl⟩, Fr.refl _ _, by simpa using eq⟩ ?_ ?_
  · rintro i x s' h' _ hx ⟨⟨a10, a11, rfl⟩, f, q⟩
    simp only [Nat.sub_zero, List.getElem?_map] at hx
    obtain ⟨c, hc, rfl⟩ := Option.map_eq_some_iff.mp hx
    have hi : i < l.length := (List.getElem?_eq_some_iff.mp hc).1
    refine ⟨rfl, [o0, o1, o2, o3, o4, some (.ref Q), some (.int b), a7, a8, some (.tup (l.map enc2)), some (.int c.1), some (.int c.2)], rfl, ?_⟩
    have lt := List.length_take_le i l
    simp [seqOf_at q, l3, q, show todo.length + min i l.length < lim by omega]
    refine ⟨⟨_, _, rfl⟩, f.set _, ?_⟩
    rw [at_set q, take_one hc]
    simp [encR, encO]
  · rintro s' h' ⟨⟨a10, a11, rfl⟩, f, q⟩
    rw [take_all] at q
    exact ⟨rfl, hD _ _ _ f q⟩
theorem Wl.ne {n : Nat} {todo : List Rw} {seen : List Nat} {fd : List Rw} {h : Heap} (W : Wl B img L d kn mk R F Q h0 W0 n todo seen fd h) : (L ≠ d ∧ L ≠ kn ∧ L ≠ mk ∧ L ≠ R ∧ L ≠ F ∧ L ≠ Q) ∧ (d ≠ R ∧ d ≠ F ∧ d ≠ Q) ∧ (kn ≠ R ∧ kn ≠ F ∧ kn ≠ Q) ∧ (mk ≠ R ∧ mk ≠ F ∧ mk ≠ Q) ∧ (R ≠ F ∧ R ≠ Q) := by
  have := W.nd
  have := W.lt
  have := W.pf
  simp at *
  omega
theorem foBody_ok {n : Nat} {todo : List Rw} {seen : List Nat} {fd : List Rw} {h : Heap} (hB : B ≤ 40) (W : Wl B img L d kn mk R F Q h0 W0 n todo seen fd h) (hne : todo ≠ []) {a6 a7 a8 a9 a10 a11 : Option Val} {D : K4} (ho : W0 ≠ .out)
    (hn : ∀ a6 a7 a8 a9 a10 a11 todo' seen' fd' h', (∃ m, n = m + 1 ∧ Wl B img L d kn mk R F Q h0 W0 m todo' seen' fd' h') → D.nx [some (.ref L), some (.ref d), some (.int e), some (.ref R), some (.ref F), some (.ref Q), a6, a7, a8, a9, a10, a11] h') (hr : D.rt = FoQ B R h0 W0) :
    wS (foBody [some (.ref L), some (.ref d), some (.int e), some (.ref R), some (.ref F), some (.ref Q), a6, a7, a8, a9, a10, a11] h) D := by
  obtain ⟨⟨n1, n2, n3, n4, n5, n6⟩, ⟨n7, n8, n9⟩, ⟨n10, n11, n12⟩, ⟨n13, n14, n15⟩, n16, n17⟩ := W.ne
  have nFQ := W.pf.2.2
  obtain ⟨r, todo, rfl⟩ : ∃ r t, todo = r :: t := by cases todo with
    | nil => exact absurd rfl hne
    | cons r t => exact ⟨r, t, rfl⟩
  obtain ⟨b, o, k⟩ := r
  have wk := W.wk
  cases n with
  | zero => unfold Wk at wk; exact absurd wk.symm ho
  | succ m =>
    unfold Wk at wk
    have l2 : 2 ≤ lim := by decide
    have l3 : 3 ≤ lim := by decide
    have ll : 4000 < lim := by decide
    have gr := W.gr (b, o, k) List.mem_cons_self
    have sl := W.sn.len
    have hpop := bPopAt_ok (i := 0) W.eq (by decide) (by simp) (by decide) (y := encR (b, o, k)) rfl
    have er : encR (b, o, k) = .tup [.int b, encO o, .int k] := rfl
    rw [er] at hpop
    simp only [List.map_cons, Int.toNat_zero, List.eraseIdx_cons_zero] at hpop
    have eq0 := W.eq
    have fQ : Fr Q h (h.set Q (.lst (todo.map encR))) := (Fr.refl _ _).set _
    have im1 := W.im.fr fQ n6
    have ty1 := W.ty.fr1 fQ n9 n12 n15
    have rd1 := W.rd.fr fQ n17
    have ef1 := fQ.at nFQ W.ef
    have eq1 : (h.set Q (.lst (todo.map encR)))[Q]? = some (.lst (todo.map encR)) := at_set eq0
    have fr1 : Fr R h0 (h.set Q (.lst (todo.map encR))) := W.fr.new W.pf.2.1 _
    generalize h.set Q (.lst (todo.map encR)) = h1 at hpop fQ im1 ty1 rd1 ef1 eq1 fr1
    obtain ⟨rd, erd, hrd, lrd⟩ := rd1.k
    have ein := oIn_dct (neg := false) (x := .int b) erd rfl
    have hg : gT (gsCons (gV 6) (gsCons (gV 7) (gsCons (gV 8) gsNil))) (.tup [.int b, encO o, .int k]) [some (.ref L), some (.ref d), some (.int e), some (.ref R), some (.ref F), some (.ref Q), a6, a7, a8, a9, a10, a11] = some [some (.ref L), some (.ref d), some (.int e), some (.ref R), some (.ref F), some (.ref Q), some (.int b), some (encO o), some (.int k), a9, a10, a11] := rfl
    unfold foBody
    by_cases hm : b ∈ seen
    · rw [(hrd b).mpr hm] at ein
      rw [if_pos hm] at wk
      simp [hg, seqOf_at eq0, hpop, ein, l2]
      rw [hr]
      exact ⟨fr1, .inl ⟨2, b, wk.symm, rfl⟩⟩
    · have hnn : (lookV rd (.int b)).isSome = false := by
        cases q : (lookV rd (.int b)).isSome with
        | false => rfl
        | true => exact absurd ((hrd b).mp q) hm
      rw [hnn] at ein
      rw [if_neg hm] at wk
      have fR : Fr R h1 (h1.set R (.dct (putV rd (.int b) (.bl true)))) := (Fr.refl _ _).set _
      have im2 := im1.fr fR n4
      have ty2 := ty1.fr1 fR n7 n10 n13
      have ef2 := fR.at (Ne.symm n16) ef1
      have eq2 := fR.at (Ne.symm n17) eq1
      have fr2 : Fr R h0 (h1.set R (.dct (putV rd (.int b) (.bl true)))) := fr1.trans fR
      have erd2 : (h1.set R (.dct (putV rd (.int b) (.bl true))))[R]? = some (.dct (putV rd (.int b) (.bl true))) := at_set erd
      generalize hh2 : h1.set R (.dct (putV rd (.int b) (.bl true))) = h2 at fR im2 ty2 ef2 eq2 fr2 erd2
      have kn' : ∀ p ∈ encF fd, p.1 ≠ Val.int b := fun p hp => by
        obtain ⟨q, hq, rfl⟩ := List.mem_map.mp hp
        intro z
        have z' : ((q.1 : Nat) : Int) = b := by injection z
        have : q.1 = b := by omega
        exact hm (this ▸ W.fs q hq)
      have pn := put_new (v := .tup [encO o, .int k]) kn'
      have fF : Fr F h2 (h2.set F (.dct (putV (encF fd) (.int b) (.tup [encO o, .int k])))) := (Fr.refl _ _).set _
      have im3 := im2.fr fF n5
      have ty3 := ty2.fr1 fF n8 n11 n14
      have eq3 := fF.at (Ne.symm nFQ) eq2
      have erd3 := fF.at n16 erd2
      have ef3 : (h2.set F (.dct (putV (encF fd) (.int b) (.tup [encO o, .int k]))))[F]? = some (.dct (encF (fd ++ [(b, o, k)]))) := by
        rw [at_set ef2, pn]; simp [encF, encE]
      have fr3 : Fr R h0 (h2.set F (.dct (putV (encF fd) (.int b) (.tup [encO o, .int k])))) := fr2.new W.pf.1 _
      have lF : (encF fd).length < lim := by have := W.lf; simp [encF]; omega
      have lR : rd.length < lim := by omega
      generalize hh3 : h2.set F (.dct (putV (encF fd) (.int b) (.tup [encO o, .int k]))) = h3 at fF im3 ty3 eq3 erd3 ef3 fr3
      have hb : b < img.length := by rw [im3.len]; exact gr.1
      have ew : L2.atI (img.map encW) (b : Int) = some (encW img[b]) := by rw [atI_cast, List.getElem?_map, List.getElem?_eq_getElem hb]; rfl
      have ei := im3.at_
      have lw := im3.ws img[b] (List.getElem_mem hb)
      have gd : img.getD b [] = img[b] := by rw [List.getD_eq_getElem?_getD, List.getElem?_eq_getElem hb]; rfl
      rw [gd] at wk
      generalize img[b] = ws at ew lw wk
      obtain ⟨h4, e4, x4⟩ := owned_ok ty3 lw gr.2
      have rd4 : Rd (seen ++ [b]) R h4 := by
        refine ⟨putV rd (.int b) (.bl true), x4.at erd3, fun m => ?_, ?_⟩
        · rw [lookV_put]
          by_cases z : m = b
          · subst z; simp
          · have : ¬ (Val.int (m : Nat) = .int (b : Nat)) := by simp; omega
            rw [if_neg this, hrd m]
            simp [z]
        · have := @putV_len rd (.int b) (.bl true); simp; omega
      have fr4 : Fr R h0 h4 := fr3.trans (x4.fr R)
      have i3 := ty3.isI
      cases ho2 : owns B k ws with
      | none =>
        have eo : ownV B k ws = .non := by unfold ownV; rw [ho2]
        rw [eo] at e4
        rw [ho2] at wk
        simp [hg, seqOf_at eq0, hpop, ein, l2, erd, lR, hh2, ef2, lF, hh3, i3, ei, ew, e4]
        rw [hr]
        exact ⟨fr4, .inl ⟨3, b, wk.symm, rfl⟩⟩
      | some l =>
        have eo : ownV B k ws = .tup (l.map enc2) := by unfold ownV; rw [ho2]
        rw [eo] at e4
        rw [ho2] at wk
        simp only at wk
        obtain ⟨g1, g2⟩ := owns_rows (b := b) ho2
        have lq := W.lq
        simp only [List.length_cons] at lq
        simp [hg, seqOf_at eq0, hpop, ein, l2, erd, lR, hh2, ef2, lF, hh3, i3, ei, ew, e4]
        refine foFor_ok (x4.at eq3) (by omega) (fun a10 a11 h5 f5 q5 => ?_)
        refine hn _ _ _ _ _ _ (todo ++ l.map fun c => (c.1, some b, c.2)) (seen ++ [b]) (fd ++ [(b, o, k)]) h5 ⟨m, rfl, ?_⟩
        refine ⟨(im3.ext x4).fr f5 n6, (ty3.ext x4).fr1 f5 n9 n12 n15, rd4.fr f5 n17, f5.at nFQ (x4.at ef3), q5, ?_, wk, fun x hx => ?_, W.sn.snoc gr.1 hm, fun x hx => ?_, ?_, ?_, W.nd, W.lt, W.pf⟩
        · refine ⟨Nat.le_trans fr4.1 f5.1, fun q z1 z2 => ?_⟩
          rw [f5.2 q (by have := W.pf; omega) (Nat.lt_of_lt_of_le z2 fr4.1)]
          exact fr4.2 q z1 z2
        · rcases List.mem_append.mp hx with hx | hx
          · exact W.gr x (List.mem_cons_of_mem _ hx)
          · exact g1 x hx
        · rcases List.mem_append.mp hx with hx | hx
          · exact List.mem_append_left _ (W.fs x hx)
          · rw [List.mem_singleton.mp hx]; simp
        · have := W.lf; simp; omega
        · simp; omega
theorem truth_lst {a : Nat} {xs : List Val} {h : Heap} (e : h[a]? = some (.lst xs)) : truth (.ref a) h = some (!xs.isEmpty) := by simp [truth, e]
theorem forest_ok {seen : List Nat} {h : Heap} (hB : B ≤ 40) (hB0 : 24 ≤ B) (I : Im B L h img) (Ty : TO B [P1, P2] [0, 1] d kn mk h) (r : Rd seen R h) (sn : Sn B seen) (he : e < 4) (nd : [L, d, kn, mk, R].Nodup) :
    ∃ x h', m_forest_of [.ref L, .ref d, .int e, .ref R] h = .ok x h' ∧ FoQ B R h (Wk img B 300 [(e, none, 1)] seen []) x h' := by
  have hL := at_lt I.at_
  have hd := at_lt Ty.eD
  have hk := at_lt Ty.eK
  have hm := at_lt Ty.eM
  obtain ⟨rd0, e0, q0, l0'⟩ := r.k
  have hR := at_lt e0
  have ho : Wk img B 300 [(e, none, 1)] seen [] ≠ .out := Wk_out 300 _ _ _ (fun r hr => by rw [List.mem_singleton.mp hr]; exact ⟨by show e < B; omega, by show 1 < 4; decide⟩) sn (by omega)
  have w : wR (m_forest_of [.ref L, .ref d, .int e, .ref R] h) (fun _ _ => False) (FoQ B R h (Wk img B 300 [(e, none, 1)] seen [])) := by
    rw [m_forest_of_cut]
    obtain ⟨F0, hF0⟩ : ∃ F, F = foBody := ⟨_, rfl⟩
    rw [← hF0]
    refine wRB rfl ?_
    have l1 : 1 ≤ lim := by decide
    have l3 : 3 ≤ lim := by decide
    simp [gV, l1, l3]
    refine wS_whM (FoI B img L d kn mk R h.length (h.length + 1) e h (Wk img B 300 [(e, none, 1)] seen [])) ?_ _ 300 _ _ (by decide) ⟨_, _, _, _, _, _, [(e, none, 1)], seen, [], rfl, ?_⟩
    · rintro m s' h' ⟨a6, a7, a8, a9, a10, a11, todo, seen', fd, rfl, W⟩
      simp [truth_lst W.eq]
      by_cases hne : todo = []
      · subst hne
        simp
        have wk := W.wk
        have wk' : Wr.done fd seen' = Wk img B 300 [(e, none, 1)] seen [] := by rw [← wk]; cases m <;> rfl
        exact ⟨W.fr, .inr ⟨fd, seen', _, wk'.symm, rfl, W.ef, W.rd, Nat.le_refl _, W.sn, W.fs, W.lf⟩⟩
      · simp [hne]
        rw [hF0]
        refine foBody_ok hB W hne ho (fun a6 a7 a8 a9 a10 a11 todo' seen'' fd' h'' q => ?_) rfl
        obtain ⟨m', rfl, W'⟩ := q
        exact ⟨m', by omega, _, _, _, _, _, _, _, _, _, rfl, W'⟩
    · have x : Ext h (h ++ [Obj.dct [], Obj.lst [Val.tup [.int e, .non, .int 1]]]) := ⟨_, rfl⟩
      exact ⟨I.ext x, Ty.ext x, r.fr (x.fr h.length) (by omega), at_app 0 rfl rfl, at_app 1 rfl rfl, x.fr R, rfl, fun r hr => by rw [List.mem_singleton.mp hr]; exact ⟨by show e < B; omega, by show 1 < 4; decide⟩, sn, by simp, by simp, by simp, nd, ⟨hL, hd, hk, hm, hR⟩, ⟨Nat.le_refl _, by omega, by omega⟩⟩
  obtain ⟨x, h', e, q⟩ := ex_of_wR w
  exact ⟨x, h', e, q⟩
end
end Lw

set_option Elab.async false
set_option linter.all false
set_option autoImplicit false
set_option maxHeartbeats 4000000
set_option maxRecDepth 100000
namespace Lw
open PyM
def fsBody : En → Heap → RS := (sSeq (sAsg (gV 5) (mCall m_forest_of [] (mCons (mV 0) (mCons (mV 1) (mCons (mV 4) (mCons (mV 2) (mNil)))))))
    (sSeq (sIf (tTr (mIsi .tup (mV 5))) (sRet (mV 5)) (sNx))
    (sDrop (mBM bAppend (mV 3) (mCons (mV 5) (mNil))))))
theorem m_forests_cut : m_forests = runB 2 6
    (sSeq (sAsg (gV 2) (mDct))
    (sSeq (sAsg (gV 3) (mLst (mNil)))
    (sSeq (sFor (iRng1 (mCons (mK (.int 4)) (mNil))) (gV 4) fsBody)
    (sRet (mTup (mCons (mK (.str 4)) (mCons (mV 3) (mNil)))))))) := rfl
def wkStep : En → Heap → RS := (sSeq (sAsg (gT (gsCons (gV 7) (gsCons (gV 8) (gsCons (gV 9) (gsNil))))) (mB oIx (mV 5) (mV 6)))
    (sSeq (sIf (tB_ (mB (oIn false) (mV 7) (mV 2))) (sRet (mTup (mCons (mK (.str 2)) (mCons (mV 7) (mNil))))) (sNx))
    (sSeq (sAsg (gV 10) (mCall m__law_owns [] (mCons (mV 9) (mCons (mB oIx (mV 0) (mV 7)) (mCons (mL bLen (mCons (mV 0) (mNil))) (mNil))))))
    (sSeq (sIf (tB_ (mU (oIsN false) (mV 10))) (sRet (mTup (mCons (mK (.str 3)) (mCons (mV 7) (mNil))))) (sNx))
    (sSeq (sDrop (mBM bAppend (mV 2) (mCons (mV 7) (mNil))))
    (sSeq (sSub (mV 4) (mV 7) (mTup (mCons (mV 8) (mCons (mV 9) (mNil)))))
    (sAsg (gV 5) (mB oAdd (mV 5) (mLc (iAlt (iLst (mV 10)) (iTup_ (mV 10))) (gV 11) (tTrue) (mTup (mCons (mB oIx (mV 11) (mK (.int 0))) (mCons (mV 7) (mCons (mB oIx (mV 11) (mK (.int 1))) (mNil))))) [11])))))))))
def wkIn : En → Heap → RS := (sIf (tB_ (mB oLt (mV 6) (mL bLen (mCons (mV 5) (mNil))))) wkStep (sNx))
def wkOut : En → Heap → RS := (sSeq (sAsg (gV 4) (mDct))
    (sSeq (sAsg (gV 5) (mLst (mCons (mTup (mCons (mV 3) (mCons (mK .non) (mCons (mK (.int 1)) (mNil))))) (mNil))))
    (sSeq (sFor (iRng1 (mCons (mK (.int 300)) (mNil))) (gV 6) wkIn)
    (sDrop (mBM bAppend (mV 1) (mCons (mV 4) (mNil)))))))
theorem m__law_walk_cut : m__law_walk = runB 1 12
    (sSeq (sAsg (gV 1) (mLst (mNil)))
    (sSeq (sAsg (gV 2) (mLst (mNil)))
    (sSeq (sFor (iRng1 (mCons (mK (.int 4)) (mNil))) (gV 3) wkOut)
    (sRet (mTup (mCons (mK (.str 4)) (mCons (mV 1) (mNil)))))))) := rfl
inductive Ar where
  | bad (s b : Nat) | ok (led : List (List Rw)) (seen : List Nat)
noncomputable def Al (img : List (List Nat)) (B : Nat) : List Nat → List Nat → List (List Rw) → Ar
  | [], seen, led => .ok led seen
  | e :: es, seen, led => match Wk img B 300 [(e, none, 1)] seen [] with
    | .bad s b => .bad s b
    | .done fd seen' => Al img B es seen' (led ++ [fd])
    | .out => .bad 0 0
/-- the dicts of the forests that were led to -/
structure Lp (base : Nat) (led : List (List Rw)) (ps : List Nat) (h : Heap) : Prop where
  len : ps.length = led.length
  at_ : ∀ (i pl : Nat) (fd : List Rw), ps[i]? = some pl → led[i]? = some fd → h[pl]? = some (Obj.dct (encF fd))
  ge : ∀ p ∈ ps, base ≤ p
theorem Lp.fr {base p : Nat} {led : List (List Rw)} {ps : List Nat} {h h' : Heap} (l : Lp base led ps h) (f : Fr p h h') (n : p < base) : Lp base led ps h' :=
  ⟨l.len, fun i pl fd e1 e2 => f.at (by have := l.ge pl (List.mem_of_getElem? e1); omega) (l.at_ i pl fd e1 e2), l.ge⟩
theorem Lp.snoc {base F : Nat} {led : List (List Rw)} {fd : List Rw} {ps : List Nat} {h : Heap} (l : Lp base led ps h) (e : h[F]? = some (Obj.dct (encF fd))) (hF : base ≤ F) : Lp base (led ++ [fd]) (ps ++ [F]) h := by
  refine ⟨by simp [l.len], fun i pl f e1 e2 => ?_, fun p hp => ?_⟩
  · by_cases hi : i < ps.length
    · rw [List.getElem?_append_left hi] at e1
      rw [List.getElem?_append_left (by rw [← l.len]; exact hi)] at e2
      exact l.at_ i pl f e1 e2
    · rw [List.getElem?_append_right (by omega)] at e1
      rw [List.getElem?_append_right (by rw [← l.len]; omega), ← l.len] at e2
      have h0 : i - ps.length = 0 := by
        have := (List.getElem?_eq_some_iff.mp e1).1
        simp at this; omega
      rw [h0] at e1 e2
      simp at e1 e2
      subst e1; subst e2
      exact e
  · rcases List.mem_append.mp hp with hp | hp
    · exact l.ge p hp
    · rw [List.mem_singleton.mp hp]; exact hF
structure FsQ (h0 : Heap) (A : Ar) (x : Val) (h : Heap) : Prop where
  ext : Ext h0 h
  q : (∃ s b, A = .bad s b ∧ x = .tup [.str s, .int b]) ∨ (∃ led seen M ps, A = .ok led seen ∧ x = .tup [.str 4, .ref M] ∧ h0.length ≤ M ∧ h[M]? = some (.lst (ps.map Val.ref)) ∧ Lp h0.length led ps h)
section
variable {B : Nat} {img : List (List Nat)} {L d kn mk : Nat} {h0 : Heap} {A0 : Ar}
structure FsI (B : Nat) (img : List (List Nat)) (L d kn mk : Nat) (h0 : Heap) (A0 : Ar) (n : Nat) (s' : En) (h' : Heap) : Prop where
  k : ∃ a4 a5 led seen ps, s' = [some (.ref L), some (.ref d), some (.ref h0.length), some (.ref (h0.length + 1)), a4, a5] ∧ Al img B ((List.range 4).drop n) seen led = A0 ∧ Rd seen h0.length h' ∧ Sn B seen ∧ h'[h0.length + 1]? = some (.lst (ps.map Val.ref)) ∧ Lp (h0.length + 2) led ps h' ∧ led.length ≤ n
  x : Ext h0 h'
theorem forests_ok {h : Heap} (hB : B ≤ 40) (hB0 : 24 ≤ B) (I : Im B L h img) (Ty : TO B [P1, P2] [0, 1] d kn mk h) (nd : [L, d, kn, mk].Nodup) : ∃ x h', m_forests [.ref L, .ref d] h = .ok x h' ∧ FsQ h (Al img B (List.range 4) [] []) x h' := by
  have hL := at_lt I.at_
  have hd := at_lt Ty.eD
  have hk := at_lt Ty.eK
  have hm := at_lt Ty.eM
  obtain ⟨A0, hA⟩ : ∃ A, A = Al img B (List.range 4) [] [] := ⟨_, rfl⟩
  rw [← hA]
  have w : wR (m_forests [.ref L, .ref d] h) (fun _ _ => False) (FsQ h A0) := by
    rw [m_forests_cut]
    obtain ⟨F0, hF0⟩ : ∃ F, F = fsBody := ⟨_, rfl⟩
    rw [← hF0]
    refine wRB rfl ?_
    have l0 : 0 ≤ lim := by decide
    have l2 : 2 ≤ lim := by decide
    simp -implicitDefEqProofs [gV, l0]
    refine wS_range (n := 4) (FsI B img L d kn mk h A0) ⟨⟨_, _, [], [], [], rfl, hA.symm, ⟨[], at_app 0 rfl rfl, by simp [lookV], by simp⟩, ⟨by simp, by simp⟩, at_app 1 rfl rfl, ⟨rfl, by simp, by simp⟩, by simp⟩, ⟨_, rfl⟩⟩ ?_ ?_
    · rintro i s' h' hi ⟨⟨a4, a5, led, seen, ps, rfl, al, rd, sn, em, lp, ll⟩, x⟩
      refine ⟨_, rfl, ?_⟩
      rw [hF0]
      unfold fsBody
      have nd' : [L, d, kn, mk, h.length].Nodup := by simp at nd ⊢; omega
      obtain ⟨y, h1, e1, q1⟩ := forest_ok hB hB0 (I.ext x) (Ty.ext x) rd sn (e := i) (by omega) nd'
      have hx := x.le
      have dr : (List.range 4).drop i = i :: (List.range 4).drop (i + 1) := by
        rw [List.drop_eq_getElem_cons (by simpa using hi)]; simp
      rw [dr] at al
      unfold Al at al
      have x1 : Ext h h1 := Fr.base x q1.fr (Nat.le_refl _)
      have em1 := q1.fr.at (by omega) em
      rcases q1.q with ⟨s, b, w1, rfl⟩ | ⟨fd, seen', F, w1, rfl, ef, rd', hF, sn', _, _⟩
      · rw [w1] at al
        simp [gV, e1, isTy, tyOf, truth]
        exact ⟨x1, .inl ⟨s, b, al.symm, rfl⟩⟩
      · rw [w1] at al
        simp only at al
        have l4 : (4 : Nat) < lim := by decide
        have hps : ps.length < lim := by have := lp.len; omega
        simp [gV, e1, isTy, tyOf, truth, ef, seqOf_at em1, em1, hps]
        have mlt := at_lt em
        have lp1 := lp.fr q1.fr (by omega)
        refine ⟨⟨_, _, led ++ [fd], seen', ps ++ [F], rfl, al, rd'.fr ((Fr.refl (h.length + 1) h1).set _) (by omega), sn', ?_, ?_, by simp; omega⟩, x1.set (by omega) _⟩
        · rw [at_set em1]; simp
        · exact (lp1.snoc ef (by omega)).fr ((Fr.refl (h.length + 1) h1).set _) (by omega)
    · rintro s' h' ⟨⟨a4, a5, led, seen, ps, rfl, al, rd, sn, em, lp, ll⟩, x⟩
      simp [l2]
      refine ⟨x, .inr ⟨led, seen, _, ps, al.symm, rfl, by omega, em, lp.len, lp.at_, fun p hp => by have := lp.ge p hp; omega⟩⟩
  obtain ⟨x, h', e, q⟩ := ex_of_wR w
  exact ⟨x, h', e, q⟩
end
end Lw

set_option Elab.async false
set_option linter.all false
set_option autoImplicit false
set_option maxHeartbeats 4000000
set_option maxRecDepth 100000
namespace Lw
open PyM
/-- what the law's walk of one forest keeps -/
structure Ww (B : Nat) (img : List (List Nat)) (L S F Q : Nat) (h0 : Heap) (W0 : Wr) (i : Nat) (rows : List Rw) (seen : List Nat) (fd : List Rw) (h : Heap) : Prop where
  im : Im B L h img
  es : h[S]? = some (.lst (seen.map fun n => Val.int (n : Nat)))
  ef : h[F]? = some (.dct (encF fd))
  eq : h[Q]? = some (.lst (rows.map encR))
  fr : Fr S h0 h
  wk : Wk img B (300 - i) (rows.drop i) seen fd = W0
  gr : ∀ r ∈ rows, GoodR B r
  sn : Sn B seen
  fs : ∀ r ∈ fd, r.1 ∈ seen
  lf : fd.length ≤ seen.length
  lq : rows.length ≤ 1 + 8 * i
  lt : L < h0.length ∧ S < h0.length ∧ L ≠ S
  pf : h0.length ≤ F ∧ h0.length ≤ Q ∧ F ≠ Q
structure WwQ (B S : Nat) (h0 : Heap) (W0 : Wr) (x : Val) (h : Heap) : Prop where
  fr : Fr S h0 h
  q : ∃ s b, W0 = .bad s b ∧ x = .tup [.str s, .int b]
structure WwI (B : Nat) (img : List (List Nat)) (L M S F : Nat) (e : Nat) (h0 : Heap) (W0 : Wr) (i : Nat) (s' : En) (h' : Heap) : Prop where
  k : ∃ a6 a7 a8 a9 a10 a11 Q rows seen fd, s' = [some (.ref L), some (.ref M), some (.ref S), some (.int e), some (.ref F), some (.ref Q), a6, a7, a8, a9, a10, a11] ∧ Ww B img L S F Q h0 W0 i rows seen fd h'
theorem gv10 {a0 a1 a2 a3 a4 a5 a6 a7 a8 a9 a10 a11 : Option Val} {x : Val} : gV 10 x [a0, a1, a2, a3, a4, a5, a6, a7, a8, a9, a10, a11] = some [a0, a1, a2, a3, a4, a5, a6, a7, a8, a9, some x, a11] := rfl
theorem gv5 {a0 a1 a2 a3 a4 a5 a6 a7 a8 a9 a10 a11 : Option Val} {x : Val} : gV 5 x [a0, a1, a2, a3, a4, a5, a6, a7, a8, a9, a10, a11] = some [a0, a1, a2, a3, a4, some x, a6, a7, a8, a9, a10, a11] := rfl
theorem enc2_fst (c : Nat × Nat) : enc2 c = .tup [.int c.1, .int c.2] := rfl
section
variable {B : Nat} {img : List (List Nat)} {L M S F e : Nat} {h0 : Heap} {W0 : Wr}
theorem wkStep_ok {i Q : Nat} {rows : List Rw} {seen : List Nat} {fd : List Rw} {h : Heap} (hB : B ≤ 40) (W : Ww B img L S F Q h0 W0 i rows seen fd h) (hi : i < rows.length) (hi2 : i < 300) {a7 a8 a9 a10 a11 : Option Val} {D : K4}
    (hn : ∀ a7 a8 a9 a10 a11 Q rows seen fd h', Ww B img L S F Q h0 W0 (i + 1) rows seen fd h' → D.nx [some (.ref L), some (.ref M), some (.ref S), some (.int e), some (.ref F), some (.ref Q), some (.int i), a7, a8, a9, a10, a11] h') (hr : ∀ x h', WwQ B S h0 W0 x h' → D.rt x h') :
    wS (wkStep [some (.ref L), some (.ref M), some (.ref S), some (.int e), some (.ref F), some (.ref Q), some (.int i), a7, a8, a9, a10, a11] h) D := by
  have hlt := W.lt
  have hpf := W.pf
  have hfr := W.fr.1
  have l2 : 2 ≤ lim := by decide
  have l3 : 3 ≤ lim := by decide
  have ll : 4000 < lim := by decide
  have sl := W.sn.len
  have e1 : L2.atI (rows.map encR) (i : Int) = some (encR rows[i]) := by rw [atI_cast, List.getElem?_map, List.getElem?_eq_getElem hi]; rfl
  have wk := W.wk
  have dr : rows.drop i = rows[i] :: rows.drop (i + 1) := List.drop_eq_getElem_cons hi
  have gr := W.gr rows[i] (List.getElem_mem hi)
  rw [dr, show 300 - i = (300 - (i + 1)) + 1 by omega] at wk
  unfold Wk at wk
  generalize rows[i] = r at e1 wk gr
  obtain ⟨b, o, k⟩ := r
  have er : encR (b, o, k) = .tup [.int b, encO o, .int k] := rfl
  rw [er] at e1
  have hg : gT (gsCons (gV 7) (gsCons (gV 8) (gsCons (gV 9) gsNil))) (.tup [.int b, encO o, .int k]) [some (.ref L), some (.ref M), some (.ref S), some (.int e), some (.ref F), some (.ref Q), some (.int i), a7, a8, a9, a10, a11] = some [some (.ref L), some (.ref M), some (.ref S), some (.int e), some (.ref F), some (.ref Q), some (.int i), some (.int b), some (encO o), some (.int k), a10, a11] := rfl
  have ein := oIn_pl (neg := false) (x := .int b) W.es rfl (ints_pl _)
  have ed : decide (Val.int (b : Nat) ∈ seen.map fun n => Val.int (n : Nat)) = decide (b ∈ seen) := by
    rw [Bool.eq_iff_iff]; simp only [decide_eq_true_eq]; exact mem_ints
  rw [ed] at ein
  unfold wkStep
  by_cases hm : b ∈ seen
  · rw [if_pos hm] at wk
    rw [decide_eq_true hm] at ein
    simp [W.eq, e1, hg, ein, l2]
    exact hr _ _ ⟨W.fr, 2, b, wk.symm, rfl⟩
  · rw [if_neg hm] at wk
    rw [decide_eq_false hm] at ein
    have hb : b < img.length := by rw [W.im.len]; exact gr.1
    have ew : L2.atI (img.map encW) (b : Int) = some (encW img[b]) := by rw [atI_cast, List.getElem?_map, List.getElem?_eq_getElem hb]; rfl
    have lw := W.im.ws img[b] (List.getElem_mem hb)
    have gd : img.getD b [] = img[b] := by rw [List.getD_eq_getElem?_getD, List.getElem?_eq_getElem hb]; rfl
    have wk2 : (match owns B k (img.getD b []) with
      | none => Wr.bad 3 b
      | some l => Wk img B (300 - (i + 1)) (rows.drop (i + 1) ++ l.map fun c => (c.1, some b, c.2)) (seen ++ [b]) (fd ++ [(b, o, k)])) = W0 := wk
    rw [gd] at wk2
    clear wk
    generalize img[b] = ws at ew lw wk2
    obtain ⟨y, h1, e2, q⟩ := lowns_ok lw gr.2 (B := B) (h := h)
    have x1 := q.ext
    have lI := W.im.len
    rcases q.q with ⟨l, LO, ho, rfl, eo, hLO⟩ | ⟨ho, rfl⟩
    · rw [ho] at wk2
      simp only at wk2
      obtain ⟨g1, g2⟩ := owns_rows (b := b) ho
      have es1 := x1.at W.es
      have fS : Fr S h1 (h1.set S (.lst ((seen ++ [b]).map fun n => Val.int (n : Nat)))) := (Fr.refl _ _).set _
      have es2 : (h1.set S (.lst ((seen ++ [b]).map fun n => Val.int (n : Nat))))[S]? = some (.lst ((seen ++ [b]).map fun n => Val.int (n : Nat))) := at_set es1
      have ef2 := fS.at (show F ≠ S by omega) (x1.at W.ef)
      have eq2 := fS.at (show Q ≠ S by omega) (x1.at W.eq)
      have eo2 := fS.at (show LO ≠ S by omega) eo
      have im2 := (W.im.ext x1).fr fS hlt.2.2
      have fr2 := (W.fr.trans (x1.fr S)).trans fS
      have kn' : ∀ p ∈ encF fd, p.1 ≠ Val.int b := fun p hp => by
        obtain ⟨q, hq, rfl⟩ := List.mem_map.mp hp
        intro z
        have z' : ((q.1 : Nat) : Int) = b := by injection z
        have : q.1 = b := by omega
        exact hm (this ▸ W.fs q hq)
      have pn := put_new (v := .tup [encO o, .int k]) kn'
      have lS : seen.length < lim := by omega
      have lF : (encF fd).length < lim := by have := W.lf; simp [encF]; omega
      have hs : h1.set S (.lst ((seen.map fun n => Val.int (n : Nat)) ++ [.int b])) = h1.set S (.lst ((seen ++ [b]).map fun n => Val.int (n : Nat))) := by rw [List.map_append]; rfl
      generalize hh2 : h1.set S (.lst ((seen ++ [b]).map fun n => Val.int (n : Nat))) = h2 at hs fS es2 ef2 eq2 eo2 im2 fr2
      have fF : Fr F h2 (h2.set F (.dct (putV (encF fd) (.int b) (.tup [encO o, .int k])))) := (Fr.refl _ _).set _
      have im3 := im2.fr fF (by omega)
      have es3 := fF.at (show S ≠ F by omega) es2
      have eq3 := fF.at (show Q ≠ F by omega) eq2
      have ef3 : (h2.set F (.dct (putV (encF fd) (.int b) (.tup [encO o, .int k]))))[F]? = some (.dct (encF (fd ++ [(b, o, k)]))) := by
        rw [at_set ef2, pn]; simp [encF, encE]
      have hF1 : F < h.length := at_lt W.ef
      have eo3 := fF.at (show LO ≠ F by omega) eo2
      have fr3 := fr2.new hpf.1 (.dct (putV (encF fd) (.int b) (.tup [encO o, .int k])))
      generalize hh3 : h2.set F (.dct (putV (encF fd) (.int b) (.tup [encO o, .int k]))) = h3 at fF im3 es3 eq3 ef3 eo3 fr3
      have lg : l.length < lim := by omega
      simp [W.eq, e1, hg, ein, l2, W.im.at_, ew, lI, e2, seqOf_at es1, es1, lS, hs, ef2, lF, hh3, eq3, eo3, gv10, gv5]
      have hl3 : h1.length = h3.length := by rw [← hh3, List.length_set, ← hh2, List.length_set]
      rw [hl3]
      refine wR_lcMap (xs := l.map enc2) (fun x => match x with | .tup [y, z] => .tup [y, .int b, z] | _ => .non) (by rw [List.length_map]; exact lg) (fun acc => lstIs_at (at_push eo3)) (fun x acc hx => ⟨_, rfl, ?_⟩) ?_
      · obtain ⟨c, _, rfl⟩ := List.mem_map.mp hx
        simp [wipeE, enc2, l3]
      · have em : (l.map enc2).map (fun x => match x with | .tup [y, z] => Val.tup [y, .int b, z] | _ => .non) = (l.map fun c => ((c.1, some b, c.2) : Rw)).map encR := by
          simp only [List.map_map]; rfl
        rw [em]
        have lq := W.lq
        have q1 : (h3 ++ [Obj.lst ((l.map fun c => ((c.1, some b, c.2) : Rw)).map encR)])[Q]? = some (.lst (rows.map encR)) := at_push eq3
        have q2 : (h3 ++ [Obj.lst ((l.map fun c => ((c.1, some b, c.2) : Rw)).map encR)])[h3.length]? = some (.lst ((l.map fun c => ((c.1, some b, c.2) : Rw)).map encR)) := at_len
        simp only [q1, q2]
        simp only [List.length_map]
        refine ⟨by omega, ?_⟩
        refine hn _ _ _ _ _ _ (rows ++ l.map fun c => ((c.1, some b, c.2) : Rw)) (seen ++ [b]) (fd ++ [(b, o, k)]) _ ?_
        have x4 : Ext h3 (h3 ++ [Obj.lst ((l.map fun c => ((c.1, some b, c.2) : Rw)).map encR)] ++ [Obj.lst (rows.map encR ++ (l.map fun c => ((c.1, some b, c.2) : Rw)).map encR)]) := ⟨_, by rw [List.append_assoc]⟩
        refine ⟨im3.ext x4, x4.at es3, x4.at ef3, ?_, fr3.trans (x4.fr S), ?_, fun x hx => ?_, W.sn.snoc gr.1 hm, fun x hx => ?_, ?_, ?_, hlt, ⟨hpf.1, ?_, ?_⟩⟩
        · rw [List.map_append]; exact at_len
        · rw [List.drop_append_of_le_length (by omega)]; exact wk2
        · rcases List.mem_append.mp hx with hx | hx
          · exact W.gr x hx
          · exact g1 x hx
        · rcases List.mem_append.mp hx with hx | hx
          · exact List.mem_append_left _ (W.fs x hx)
          · rw [List.mem_singleton.mp hx]; simp
        · have := W.lf; simp; omega
        · simp; omega
        · have := fr3.1; simp; omega
        · have := at_lt ef3; simp; omega
    · rw [ho] at wk2
      simp [W.eq, e1, hg, ein, l2, W.im.at_, ew, lI, e2, gv10]
      exact hr _ _ ⟨W.fr.trans (x1.fr S), 3, b, wk2.symm, rfl⟩
structure WaQ (h0 : Heap) (A : Ar) (x : Val) (h : Heap) : Prop where
  ext : Ext h0 h
  q : (∃ s b, A = .bad s b ∧ x = .tup [.str s, .int b]) ∨ (∃ led seen M ps, A = .ok led seen ∧ x = .tup [.str 4, .ref M] ∧ h0.length ≤ M ∧ h[M]? = some (.lst (ps.map Val.ref)) ∧ Lp h0.length led ps h ∧ seen.Nodup ∧ ∀ n, n ∈ seen ↔ ∃ fd ∈ led, ∃ r ∈ fd, r.1 = n)
end
end Lw

set_option Elab.async false
set_option linter.all false
set_option autoImplicit false
set_option maxHeartbeats 4000000
set_option maxRecDepth 100000
namespace Lw
open PyM
structure Gd (fd : List Rw) : Prop where
  nd : (fd.map (·.1)).Nodup
  len : fd.length ≤ 40
theorem Wk_gd {img : List (List Nat)} {B : Nat} (hB : B ≤ 40) : ∀ (n : Nat) (todo : List Rw) (seen : List Nat) (fd fd' : List Rw) (seen' : List Nat), (∀ r ∈ todo, GoodR B r) → Sn B seen → (∀ r ∈ fd, r.1 ∈ seen) → (fd.map (·.1)).Nodup → Wk img B n todo seen fd = .done fd' seen' → (fd'.map (·.1)).Nodup ∧ (∀ r ∈ fd', r.1 ∈ seen') ∧ Sn B seen'
  | n, [], seen, fd, fd', seen', g, s, f, nd, e => by
    have : Wk img B n [] seen fd = .done fd seen := by cases n <;> rfl
    rw [this] at e
    cases e
    exact ⟨nd, f, s⟩
  | 0, r :: todo, seen, fd, fd', seen', g, s, f, nd, e => by unfold Wk at e; cases e
  | n + 1, r :: todo, seen, fd, fd', seen', g, s, f, nd, e => by
    unfold Wk at e
    split at e
    · cases e
    · rename_i hm
      split at e
      · cases e
      · rename_i l el
        refine Wk_gd hB n _ _ _ _ _ (fun x hx => ?_) (s.snoc (g r List.mem_cons_self).1 hm) (fun x hx => ?_) ?_ e
        · rcases List.mem_append.mp hx with hx | hx
          · exact g x (List.mem_cons_of_mem _ hx)
          · exact (owns_rows el).1 x hx
        · rcases List.mem_append.mp hx with hx | hx
          · exact List.mem_append_left _ (f x hx)
          · rw [List.mem_singleton.mp hx]; simp
        · rw [List.map_append, List.nodup_append]
          refine ⟨nd, by simp, fun a ha b hb => ?_⟩
          simp at hb
          subst hb
          obtain ⟨q, hq, rfl⟩ := List.mem_map.mp ha
          exact fun z => hm (z ▸ f q hq)
theorem len_of_nd {fd : List Rw} {B : Nat} {seen : List Nat} (nd : (fd.map (·.1)).Nodup) (f : ∀ r ∈ fd, r.1 ∈ seen) (s : Sn B seen) (hB : B ≤ 40) : fd.length ≤ 40 := by
  have := nodup_len B (fd.map (·.1)) nd fun b hb => by
    obtain ⟨q, hq, rfl⟩ := List.mem_map.mp hb
    exact s.lt _ (f q hq)
  rw [List.length_map] at this
  omega
theorem Al_gd {img : List (List Nat)} {B : Nat} (hB : B ≤ 40) (hB0 : 24 ≤ B) : ∀ (es : List Nat) (seen : List Nat) (led led' : List (List Rw)) (seen' : List Nat), (∀ e ∈ es, e < 4) → Sn B seen → (∀ fd ∈ led, Gd fd) → Al img B es seen led = .ok led' seen' → (∀ fd ∈ led', Gd fd) ∧ led'.length = led.length + es.length
  | [], seen, led, led', seen', _, s, g, e => by unfold Al at e; cases e; exact ⟨g, rfl⟩
  | x :: es, seen, led, led', seen', h4, s, g, e => by
    unfold Al at e
    split at e
    · cases e
    · rename_i fd s2 w
      obtain ⟨a1, a2, a3⟩ := Wk_gd hB 300 _ _ _ _ _ (fun r hr => by rw [List.mem_singleton.mp hr]; exact ⟨by have := h4 x List.mem_cons_self; show x < B; omega, by show 1 < 4; decide⟩) s (by simp) (by simp) w
      obtain ⟨b1, b2⟩ := Al_gd hB hB0 es _ _ _ _ (fun e he => h4 e (List.mem_cons_of_mem _ he)) a3 (fun f hf => by
        rcases List.mem_append.mp hf with hf | hf
        · exact g f hf
        · rw [List.mem_singleton.mp hf]; exact ⟨a1, len_of_nd a1 a2 a3 hB⟩) e
      exact ⟨b1, by rw [b2]; simp; omega⟩
    · cases e
section
variable {B : Nat} {img : List (List Nat)} {L : Nat}
structure WbI (B : Nat) (img : List (List Nat)) (L : Nat) (h0 : Heap) (A0 : Ar) (n : Nat) (s' : En) (h' : Heap) : Prop where
  k : ∃ a3 a4 a5 a6 a7 a8 a9 a10 a11 led seen ps, s' = [some (.ref L), some (.ref h0.length), some (.ref (h0.length + 1)), a3, a4, a5, a6, a7, a8, a9, a10, a11] ∧ Al img B ((List.range 4).drop n) seen led = A0 ∧ Sn B seen ∧ h'[h0.length]? = some (.lst (ps.map Val.ref)) ∧ h'[h0.length + 1]? = some (.lst (seen.map fun n => Val.int (n : Nat))) ∧ Lp (h0.length + 2) led ps h' ∧ led.length ≤ n
  x : Ext h0 h'
theorem walk_ok {h : Heap} (hB : B ≤ 40) (hB0 : 24 ≤ B) (I : Im B L h img) : ∃ x h', m__law_walk [.ref L] h = .ok x h' ∧ FsQ h (Al img B (List.range 4) [] []) x h' := by
  have hL := at_lt I.at_
  obtain ⟨A0, hA⟩ : ∃ A, A = Al img B (List.range 4) [] [] := ⟨_, rfl⟩
  rw [← hA]
  have w : wR (m__law_walk [.ref L] h) (fun _ _ => False) (FsQ h A0) := by
    rw [m__law_walk_cut]
    obtain ⟨F0, hF0⟩ : ∃ F, F = wkOut := ⟨_, rfl⟩
    rw [← hF0]
    refine wRB rfl ?_
    have l0 : 0 ≤ lim := by decide
    have l1 : 1 ≤ lim := by decide
    have l2 : 2 ≤ lim := by decide
    have l3 : 3 ≤ lim := by decide
    have l4 : (4 : Nat) < lim := by decide
    simp -implicitDefEqProofs [gV, l0]
    refine wS_range (n := 4) (WbI B img L h A0) ⟨⟨_, _, _, _, _, _, _, _, _, [], [], [], rfl, hA.symm, ⟨by simp, by simp⟩, at_app 0 rfl rfl, at_app 1 rfl rfl, ⟨rfl, by simp, by simp⟩, by simp⟩, ⟨_, rfl⟩⟩ ?_ ?_
    · rintro i s' h' hi ⟨⟨a3, a4, a5, a6, a7, a8, a9, a10, a11, led, seen, ps, rfl, al, sn, em, es, lp, ll⟩, x0⟩
      refine ⟨_, rfl, ?_⟩
      rw [hF0]
      unfold wkOut
      obtain ⟨F1, hF1⟩ : ∃ F, F = wkIn := ⟨_, rfl⟩
      rw [← hF1]
      have hx := x0.le
      have dr : (List.range 4).drop i = i :: (List.range 4).drop (i + 1) := by
        rw [List.drop_eq_getElem_cons (by simpa using hi)]; simp
      rw [dr] at al
      unfold Al at al
      have ho : Wk img B 300 [(i, none, 1)] seen [] ≠ .out := Wk_out 300 _ _ _ (fun r hr => by rw [List.mem_singleton.mp hr]; exact ⟨by show i < B; omega, by show 1 < 4; decide⟩) sn (by omega)
      have es1 := at_lt es
      simp -implicitDefEqProofs [gV, l1, l3]
      refine wS_range (n := 300) (WwI B img L h.length (h.length + 1) h'.length i h' (Wk img B 300 [(i, none, 1)] seen [])) ⟨_, _, _, _, _, _, _, [(i, none, 1)], seen, [], rfl, ?_⟩ ?_ ?_
      · have x2 : Ext h' (h' ++ [Obj.dct [], Obj.lst [Val.tup [.int i, .non, .int 1]]]) := ⟨_, rfl⟩
        exact ⟨I.ext (x0.trans x2), x2.at es, at_app 0 rfl rfl, at_app 1 rfl rfl, x2.fr _, rfl, fun r hr => by rw [List.mem_singleton.mp hr]; exact ⟨by show i < B; omega, by show 1 < 4; decide⟩, sn, by simp, by simp, by simp, ⟨by omega, by omega, by omega⟩, ⟨Nat.le_refl _, by omega, by omega⟩⟩
      · rintro j s2 h2 hj ⟨a6, a7, a8, a9, a10, a11, Q, rows, seen2, fd, rfl, W⟩
        refine ⟨_, rfl, ?_⟩
        rw [hF1]
        unfold wkIn
        obtain ⟨F2, hF2⟩ : ∃ F, F = wkStep := ⟨_, rfl⟩
        rw [← hF2]
        by_cases hlt : j < rows.length
        · simp [W.eq, hlt]
          rw [hF2]
          refine wkStep_ok hB W hlt hj (fun a7 a8 a9 a10 a11 Q rows seen fd h' W' => ⟨_, _, _, _, _, _, _, _, _, _, rfl, W'⟩) (fun x h3 q => ?_)
          obtain ⟨s, b, w1, rfl⟩ := q.q
          rw [w1] at al
          exact ⟨Fr.base x0 q.fr (by omega), .inl ⟨s, b, al.symm, rfl⟩⟩
        · simp [W.eq, hlt]
          refine ⟨_, _, _, _, _, _, _, rows, seen2, fd, rfl, W.im, W.es, W.ef, W.eq, W.fr, ?_, W.gr, W.sn, W.fs, W.lf, by have := W.lq; omega, W.lt, W.pf⟩
          have wk := W.wk
          rw [List.drop_of_length_le (by omega)] at wk ⊢
          rw [← wk]
          cases (300 - j) <;> cases (300 - (j + 1)) <;> rfl
      · rintro s2 h2 ⟨a6, a7, a8, a9, a10, a11, Q, rows, seen2, fd, rfl, W⟩
        have wk := W.wk
        have hd : rows.drop 300 = [] := by
          cases q : rows.drop 300 with
          | nil => rfl
          | cons r t =>
            rw [q] at wk
            exact absurd wk.symm ho
        rw [hd] at wk
        have wk2 : Wk img B 300 [(i, none, 1)] seen [] = .done fd seen2 := wk.symm
        rw [wk2] at al
        simp only at al
        have em2 := W.fr.at (show h.length ≠ h.length + 1 by omega) em
        have hps : ps.length < lim := by have := lp.len; omega
        simp [seqOf_at em2, em2, hps]
        have lpf := lp.fr W.fr (by omega)
        have mlt := at_lt em2
        refine ⟨⟨_, _, _, _, _, _, _, _, _, led ++ [fd], seen2, ps ++ [h'.length], rfl, al, W.sn, ?_, ?_, ?_, by simp; omega⟩, ?_⟩
        · rw [at_set em2]; simp
        · rw [at_set_ne (by omega)]; exact W.es
        · exact (lpf.snoc W.ef (by omega)).fr ((Fr.refl h.length h2).set _) (by omega)
        · exact (Fr.base x0 W.fr (by omega)).set (Nat.le_refl _) _
    · rintro s' h' ⟨⟨a3, a4, a5, a6, a7, a8, a9, a10, a11, led, seen, ps, rfl, al, sn, em, es, lp, ll⟩, x⟩
      simp [l2]
      exact ⟨x, .inr ⟨led, seen, _, ps, al.symm, rfl, Nat.le_refl _, em, lp.len, lp.at_, fun p hp => by have := lp.ge p hp; omega⟩⟩
  obtain ⟨x, h', e, q⟩ := ex_of_wR w
  exact ⟨x, h', e, q⟩
end
end Lw

set_option Elab.async false
set_option linter.all false
set_option autoImplicit false
set_option maxHeartbeats 4000000
set_option maxRecDepth 100000
namespace Lw
open PyM
def lwUn : En → Heap → RS := (sSeq (sAsg (gV 8) (mLst (mNil)))
    (sSeq (sFor (iAlt (iLst (mB oIx (mV 7) (mK (.int 1)))) (iTup_ (mB oIx (mV 7) (mK (.int 1))))) (gV 9) (sAsg (gV 8) (mB oAdd (mV 8) (mL bListD (mCons (mV 9) (mNil))))))
    (sIf (tB_ (mB (oEq true) (mCall m_unreached [] (mCons (mV 5) (mCons (mV 3) (mNil)))) (mLc (iRng2 (mCons (mK (.int 4)) (mCons (mV 2) (mNil)))) (gV 10) (tB_ (mB (oIn true) (mV 10) (mV 8))) (mV 10) [10]))) (sRet (mK (.bl false))) (sNx))))
def lwCmp : En → Heap → RS := (sSeq (sIf (tOr_ (tB_ (mB (oEqH true) (mCall m_forests [] (mCons (mV 5) (mCons (mV 3) (mNil)))) (mV 7))) (tB_ (mB (oEq true) (mV 5) (mV 6)))) (sRet (mK (.bl false))) (sNx))
    (sIf (tB_ (mB (oEq false) (mB oIx (mV 7) (mK (.int 0))) (mK (.str 4)))) lwUn (sNx)))
def lwTail : En → Heap → RS := (sSeq (sAsg (gV 6) (mL bList (mCons (mV 5) (mNil))))
    (sSeq (sAsg (gV 7) (mCall m__law_walk [] (mCons (mV 5) (mNil))))
    lwCmp))
def lwBody : En → Heap → RS := (sSeq (sAsg (gV 5) (mCall m__law_drawn [] (mCons (mV 1) (mCons (mV 2) (mNil)))))
    (sSeq (sIf (tB_ (mB (oEq false) (mCall m__law_next [] (mCons (mV 1) (mCons (mK (.int 2)) (mNil)))) (mK (.int 0)))) (sAsg (gV 5) (mCall m__law_chain [] (mCons (mV 1) (mCons (mV 2) (mNil))))) (sNx))
    lwTail))
theorem m_law_cut : m_law = runB 1 11
    (sSeq (sAsg (gV 1) (mLst (mCons (mL bList (mCons (mV 0) (mNil))) (mCons (mK (.int 0)) (mCons (mK (.int 0)) (mCons (mK (.int 19)) (mNil)))))))
    (sSeq (sAsg (gV 2) (mB oAdd (mK (.int 24)) (mCall m__law_next [] (mCons (mV 1) (mCons (mK (.int 17)) (mNil))))))
    (sSeq (sAsg (gV 3) (mCall m__law_types [] (mCons (mV 2) (mNil))))
    (sSeq (sFor (iRng1 (mCons (mK (.int 4)) (mNil))) (gV 4) lwBody)
    (sRet (mK (.bl true))))))) := rfl
def keysOf (led : List (List Rw)) : List Nat := led.flatMap fun fd => fd.map (·.1)
def restOf (B : Nat) (led : List (List Rw)) : List Val := ((rangeV 4 (B - 4)).filter fun x => match x with | .int i => decide (i.toNat ∉ keysOf led) | _ => false)
theorem merge_look : ∀ (e d : List (Val × Val)) (k : Val), (lookV (mergeV d e) k).isSome = true ↔ (lookV d k).isSome = true ∨ k ∈ e.map (·.1)
  | [], d, k => by simp [mergeV]
  | (a, v) :: e, d, k => by
    have ih := merge_look e (putV d a v) k
    have : mergeV d ((a, v) :: e) = mergeV (putV d a v) e := rfl
    rw [this, ih, lookV_put]
    by_cases q : k = a
    · simp [q]
    · simp [q]
theorem merge_len : ∀ (e d : List (Val × Val)), (mergeV d e).length ≤ d.length + e.length
  | [], d => by simp [mergeV]
  | (a, v) :: e, d => by
    have ih := merge_len e (putV d a v)
    have : mergeV d ((a, v) :: e) = mergeV (putV d a v) e := rfl
    have := @putV_len d a v
    rw [‹mergeV d ((a, v) :: e) = _›]
    simp; omega
theorem encF_keys (fd : List Rw) : (encF fd).map (·.1) = (fd.map (·.1)).map fun n => Val.int (n : Nat) := by
  unfold encF
  rw [List.map_map, List.map_map]; rfl
theorem mem_rest {B : Nat} {x : Val} (h : x ∈ rangeV 4 (B - 4)) : ∃ n : Nat, x = .int n := by
  unfold rangeV at h
  obtain ⟨i, _, rfl⟩ := List.mem_map.mp h
  exact ⟨4 + i, by simp⟩
structure UnI (h1 : Heap) (R : Nat) (led : List (List Rw)) (env : Option Val → En) (n : Nat) (s' : En) (h' : Heap) : Prop where
  k : ∃ a rd, s' = env a ∧ h'[R]? = some (.dct rd) ∧ (∀ m : Nat, (lookV rd (.int m)).isSome = true ↔ m ∈ keysOf (led.take n)) ∧ rd.length ≤ 40 * n
  f : Fr R h1 h'
theorem keys_take {led : List (List Rw)} {i : Nat} {fd : List Rw} (h : led[i]? = some fd) : keysOf (led.take (i + 1)) = keysOf (led.take i) ++ fd.map (·.1) := by
  unfold keysOf
  rw [take_one h, List.flatMap_append]; simp
section
variable {B : Nat} {img : List (List Nat)} {L d kn mk : Nat}
theorem unreached_ok {h : Heap} (hB : B ≤ 40) (hB0 : 24 ≤ B) (I : Im B L h img) (Ty : TO B [P1, P2] [0, 1] d kn mk h) (nd : [L, d, kn, mk].Nodup) {led : List (List Rw)} {seen : List Nat} (al : Al img B (List.range 4) [] [] = .ok led seen) :
    ∃ U h', m_unreached [.ref L, .ref d] h = .ok (.ref U) h' ∧ Ext h h' ∧ h'[U]? = some (.lst (restOf B led)) ∧ h.length ≤ U := by
  have hL := at_lt I.at_
  obtain ⟨gd, ll⟩ := Al_gd hB hB0 _ _ _ _ _ (fun e he => by simpa using he) ⟨by simp, by simp⟩ (by simp) al
  simp at ll
  have lm : (4000 : Nat) < lim := by decide
  have w : wR (m_unreached [.ref L, .ref d] h) (fun _ _ => False) fun x h' => ∃ U, x = .ref U ∧ Ext h h' ∧ h'[U]? = some (.lst (restOf B led)) ∧ h.length ≤ U := by
    unfold m_unreached
    refine wRB rfl ?_
    have x0 : Ext h (h ++ [Obj.dct []]) := ⟨_, rfl⟩
    obtain ⟨y, h1, e1, q1⟩ := forests_ok hB hB0 (I.ext x0) (Ty.ext x0) nd
    rw [al] at q1
    rcases q1.q with ⟨s, b, w1, _⟩ | ⟨led', seen', M, ps, w1, rfl, hM, em, lp⟩
    · cases w1
    · cases w1
      have er1 := q1.ext.at (show (h ++ [Obj.dct []])[h.length]? = some (.dct []) from at_len)
      have x1 := x0.trans q1.ext
      simp only [List.length_append, List.length_cons, List.length_nil] at hM
      have lp' : Lp (h.length + 1) led ps h1 := ⟨lp.len, lp.at_, fun p hp => by have := lp.ge p hp; simp at this; omega⟩
      have lps := lp.len
      simp [gV]
      refine wR_iAltE (e := by simp [mB, mCall, mCons, mV, mNil, mK, Res.bind, e1]; exact rfl) em ?_
      refine wS_forM (UnI h1 h.length led fun a => [some (.ref L), some (.ref d), some (.ref h.length), a, none]) _ 0 _ _ ⟨⟨_, [], rfl, er1, by simp [lookV, keysOf], by simp⟩, Fr.refl _ _⟩ ?_ ?_
      · rintro i x s' h' _ hx ⟨⟨a, rd, rfl, er, hr, lr⟩, f⟩
        simp only [Nat.sub_zero, List.getElem?_map] at hx
        obtain ⟨pl, hpl, rfl⟩ := Option.map_eq_some_iff.mp hx
        have hi : i < ps.length := (List.getElem?_eq_some_iff.mp hpl).1
        obtain ⟨fd, hfd⟩ : ∃ fd, led[i]? = some fd := ⟨_, List.getElem?_eq_getElem (by omega)⟩
        have hge := lp'.ge pl (List.mem_of_getElem? hpl)
        have ep := f.at (show pl ≠ h.length by omega) (lp'.at_ i pl fd hpl hfd)
        have lf := (gd fd (List.mem_of_getElem? hfd)).len
        refine ⟨lstIs_at (f.at (by omega) em), _, rfl, ?_⟩
        have du := dUpd_at er ep (by omega) (by simp [encF]; omega)
        simp [isU_at er, du]
        refine ⟨⟨_, _, rfl, at_set er, fun m => ?_, ?_⟩, f.set _⟩
        · rw [merge_look, hr m, keys_take hfd, encF_keys, mem_ints, List.mem_append]
        · have := merge_len (encF fd) rd
          simp [encF] at this ⊢
          omega
      · rintro s' h' ⟨⟨a, rd, rfl, er, hr, lr⟩, f⟩
        have hz : 0 + (ps.map Val.ref).length = led.length := by simp [lps]
        rw [hz, List.take_length] at hr
        refine ⟨lstIs_at (f.at (by omega) em), ?_⟩
        have el := f.at (show L ≠ h.length by omega) (x1.at I.at_)
        have hl := I.len
        have hle := f.1
        have hle1 := x1.le
        simp -implicitDefEqProofs [el, hl]
        refine ⟨by omega, ?_⟩
        rw [show ((B : Int) - 4).toNat = B - 4 by omega]
        refine wR_lcPure (fun x => match x with | .int i => decide (i.toNat ∉ keysOf led) | _ => false) id (by rw [rangeV_length]; omega) (fun _ => rfl) (fun x acc hx => ⟨_, rfl, ?_, fun _ => ?_⟩) ?_
        · obtain ⟨n, rfl⟩ := mem_rest hx
          have ein := oIn_dct (neg := true) (x := .int n) (h := h' ++ [Obj.lst acc]) (at_push er) rfl
          simp [wipeE, gV, ein]
          have := hr n
          cases q : (lookV rd (.int n)).isSome with
          | true => rw [q] at this; simp [this.mp rfl, q]
          | false => rw [q] at this; simp at this; simp [this]; simpa using q
        · simp [wipeE]
        · have fx : Ext h h' := Fr.base x1 f (Nat.le_refl _)
          refine ⟨fx.app _, ?_, by omega⟩
          rw [List.map_id]
          exact at_len
  obtain ⟨x, h', e, U, rfl, q⟩ := ex_of_wR w
  exact ⟨U, h', e, q⟩
structure LuI (h1 : Heap) (led : List (List Rw)) (env : Nat → Option Val → En) (n : Nat) (s' : En) (h' : Heap) : Prop where
  k : ∃ a C, s' = env C a ∧ h'[C]? = some (.lst ((keysOf (led.take n)).map fun n => Val.int (n : Nat)))
  f : Ext h1 h'
theorem keys_len {led : List (List Rw)} (g : ∀ fd ∈ led, Gd fd) : ∀ n, (keysOf (led.take n)).length ≤ 40 * n := by
  intro n
  induction n with
  | zero => simp [keysOf]
  | succ n ih =>
    by_cases hn : n < led.length
    · rw [keys_take (List.getElem?_eq_getElem hn), List.length_append, List.length_map]
      have := (g _ (List.getElem_mem hn)).len
      omega
    · rw [List.take_of_length_le (by omega)]
      rw [List.take_of_length_le (by omega)] at ih
      omega
theorem lwUn_ok {h : Heap} (hB : B ≤ 40) (hB0 : 24 ≤ B) (I : Im B L h img) (Ty : TO B [P1, P2] [0, 1] d kn mk h) (nd : [L, d, kn, mk].Nodup) {led : List (List Rw)} {seen : List Nat} (al : Al img B (List.range 4) [] [] = .ok led seen) {base M : Nat} {ps : List Nat} (em : h[M]? = some (.lst (ps.map Val.ref))) (lp : Lp base led ps h)
    {o0 o1 o4 o6 a8 a9 : Option Val} {D : K4} (hD : ∀ a8 a9 h', Ext h h' → D.nx [o0, o1, some (.int B), some (.ref d), o4, some (.ref L), o6, some (.tup [.str 4, .ref M]), a8, a9, none] h') :
    wS (lwUn [o0, o1, some (.int B), some (.ref d), o4, some (.ref L), o6, some (.tup [.str 4, .ref M]), a8, a9, none] h) D := by
  obtain ⟨gd, ll⟩ := Al_gd hB hB0 _ _ _ _ _ (fun e he => by simpa using he) ⟨by simp, by simp⟩ (by simp) al
  simp at ll
  have lm : (4000 : Nat) < lim := by decide
  have l0 : 0 ≤ lim := by decide
  have lps := lp.len
  unfold lwUn
  simp [gV, l0]
  refine wR_iAltE (h1 := h ++ [Obj.lst []]) (e := by simp [mB, mV, mK, Res.bind]; rfl) (at_push em) ?_
  refine wS_forM (LuI (h ++ [Obj.lst []]) led fun C a => [o0, o1, some (.int B), some (.ref d), o4, some (.ref L), o6, some (.tup [.str 4, .ref M]), some (.ref C), a, none]) _ 0 _ _ ⟨⟨_, _, rfl, at_len⟩, Ext.refl _⟩ ?_ ?_
  · rintro i x s' h' _ hx ⟨⟨a, C, rfl, eC⟩, f⟩
    simp only [Nat.sub_zero, List.getElem?_map] at hx
    obtain ⟨pl, hpl, rfl⟩ := Option.map_eq_some_iff.mp hx
    have hi : i < ps.length := (List.getElem?_eq_some_iff.mp hpl).1
    obtain ⟨fd, hfd⟩ : ∃ fd, led[i]? = some fd := ⟨_, List.getElem?_eq_getElem (by omega)⟩
    have ep := f.at (at_push (lp.at_ i pl fd hpl hfd))
    have lf := (gd fd (List.mem_of_getElem? hfd)).len
    have lk := keys_len gd i
    refine ⟨lstIs_at (f.at (at_push em)), [o0, o1, some (.int B), some (.ref d), o4, some (.ref L), o6, some (.tup [.str 4, .ref M]), some (.ref C), some (.ref pl), none], rfl, ?_⟩
    have q1 : (h' ++ [Obj.lst ((encF fd).map (·.1))])[C]? = some (.lst ((keysOf (led.take i)).map fun n => Val.int (n : Nat))) := at_push eC
    have q2 : (h' ++ [Obj.lst ((encF fd).map (·.1))])[h'.length]? = some (.lst ((encF fd).map (·.1))) := at_len
    simp only [wS_sAsg, wR_mB, wR_mL, wR_mCons, wR_mNil, wR_mV0, wR_mV1, bListD_at ep, wR_ok]
    rw [wR_oAddL, q1, q2]
    simp only [List.length_map]
    refine ⟨by simp [encF]; omega, ?_⟩
    refine ⟨⟨_, _, rfl, ?_⟩, (f.app _).app _⟩
    rw [keys_take hfd, List.map_append, ← encF_keys]
    exact at_len
  · rintro s' h' ⟨⟨a, C, rfl, eC⟩, f⟩
    have hz : 0 + (ps.map Val.ref).length = led.length := by simp [lps]
    rw [hz, List.take_length] at eC
    refine ⟨lstIs_at (f.at (at_push em)), ?_⟩
    have xx : Ext h h' := (show Ext h (h ++ [Obj.lst []]) from ⟨_, rfl⟩).trans f
    obtain ⟨U, h2, e2, x2, eU, _⟩ := unreached_ok hB hB0 (I.ext xx) (Ty.ext xx) nd al
    have eC2 := x2.at eC
    simp -implicitDefEqProofs [e2]
    refine ⟨by omega, ?_⟩
    rw [show ((B : Int) - 4).toNat = B - 4 by omega]
    refine wR_lcPure (fun x => match x with | .int i => decide (i.toNat ∉ keysOf led) | _ => false) id (by rw [rangeV_length]; omega) (fun _ => rfl) (fun x acc hx => ⟨_, rfl, ?_, fun _ => ?_⟩) ?_
    · obtain ⟨n, rfl⟩ := mem_rest hx
      have ein := oIn_pl (neg := true) (x := .int n) (h := h2 ++ [Obj.lst acc]) (at_push eC2) rfl (ints_pl _)
      have ed : decide (Val.int (n : Nat) ∈ (keysOf led).map fun n => Val.int (n : Nat)) = decide (n ∈ keysOf led) := by
        rw [Bool.eq_iff_iff]; simp only [decide_eq_true_eq]; exact mem_ints
      rw [ed] at ein
      simp [wipeE, gV, ein]
    · simp [wipeE]
    · rw [List.map_id]
      have eq := oEq_lst (neg := true) (xs := restOf B led) (ys := restOf B led) (h := h2 ++ [Obj.lst (restOf B led)]) (at_push eU) (at_len (h := h2)) (List.all_eq_true.mpr fun x hx => by
        obtain ⟨n, rfl⟩ := mem_rest (List.mem_filter.mp hx).1; rfl) (List.all_eq_true.mpr fun x hx => by
        obtain ⟨n, rfl⟩ := mem_rest (List.mem_filter.mp hx).1; rfl)
      unfold restOf at eq
      refine wR_eq eq ?_
      simp
      exact hD _ _ _ ((xx.trans x2).app _)
end
end Lw

set_option Elab.async false
set_option linter.all false
set_option autoImplicit false
set_option maxHeartbeats 4000000
set_option maxRecDepth 100000
namespace Lw
open PyM
theorem encF_pl (fd : List Rw) : ∀ p ∈ encF fd, pl 40 p.2 = true := by
  intro p hp
  obtain ⟨r, _, rfl⟩ := List.mem_map.mp hp
  refine pl_tup (n := 39) fun x hx => ?_
  simp only [List.mem_cons, List.not_mem_nil, or_false] at hx
  rcases hx with rfl | rfl
  · cases r.2.1 <;> rfl
  · rfl
theorem encF_int (fd : List Rw) : (encF fd).all (fun kv => isIV kv.1) = true := by
  rw [List.all_eq_true]
  intro p hp
  obtain ⟨r, _, rfl⟩ := List.mem_map.mp hp
  rfl
theorem encF_nd {fd : List Rw} (g : Gd fd) : ((encF fd).map (·.1)).Nodup := by
  rw [encF_keys]
  have : ∀ l : List Nat, l.Nodup → (l.map fun n => Val.int (n : Nat)).Nodup := by
    intro l nd
    induction l with
    | nil => simp
    | cons a l ih =>
      rw [List.nodup_cons] at nd
      rw [List.map_cons, List.nodup_cons]
      exact ⟨fun h => nd.1 (mem_ints.mp h), ih nd.2⟩
  exact this _ g.nd
theorem conv_led {h : Heap} {base M : Nat} {led : List (List Rw)} {ps : List Nat} (em : h[M]? = some (.lst (ps.map Val.ref))) (lp : Lp base led ps h) (h4 : 0 < led.length) (n : Nat) : conv n h (.ref M) = none := by
  cases n with
  | zero => rfl
  | succ n =>
    simp only [conv, em]
    have : optAll (conv n h) (ps.map Val.ref) = none := by
      cases ps with
      | nil => have := lp.len; simp at this; omega
      | cons p t =>
        obtain ⟨fd, hfd⟩ : ∃ fd, led[0]? = some fd := ⟨_, List.getElem?_eq_getElem h4⟩
        have := lp.at_ 0 p fd rfl hfd
        rw [List.map_cons, optAll, conv_ref_dct this]
    rw [this]; rfl
theorem eq_led {h : Heap} {b1 b2 M1 M2 : Nat} {led : List (List Rw)} {p1 p2 : List Nat} (e1 : h[M1]? = some (.lst (p1.map Val.ref))) (l1 : Lp b1 led p1 h) (e2 : h[M2]? = some (.lst (p2.map Val.ref))) (l2 : Lp b2 led p2 h) (h4 : 0 < led.length) (g : ∀ fd ∈ led, Gd fd) :
    oEqH true (.tup [.str 4, .ref M1]) (.tup [.str 4, .ref M2]) h = .ok (.bl false) h := by
  have c1 : conv 40 h (.tup [.str 4, .ref M1]) = none := by
    have z := conv_led e1 l1 h4 39
    show Option.map D.tup (optAll (conv 39 h) [.str 4, .ref M1]) = none
    simp only [optAll, z]
    cases conv 39 h (.str 4) <;> rfl
  have s4 : eqH 20 h (.str 4) (.str 4) = some true := by rw [eqH_pl rfl rfl]; rfl
  have sM : eqH 20 h (.ref M1) (.ref M2) = some true := by
    unfold eqH
    rw [conv_led e1 l1 h4 40]
    simp only
    by_cases q : M1 = M2
    · simp [q]
    · simp only [q, if_false]
      refine eqStep_lst e1 e2 (by simp [l1.len, l2.len]) fun p hp => ?_
      obtain ⟨i, hi⟩ := List.mem_iff_getElem?.mp hp
      rw [List.getElem?_zip_eq_some] at hi
      obtain ⟨h1, h2⟩ := hi
      rw [List.getElem?_map] at h1 h2
      obtain ⟨q1, k1, r1⟩ := Option.map_eq_some_iff.mp h1
      obtain ⟨q2, k2, r2⟩ := Option.map_eq_some_iff.mp h2
      rw [← r1, ← r2]
      obtain ⟨fd, hfd⟩ : ∃ fd, led[i]? = some fd := ⟨_, List.getElem?_eq_getElem (by rw [← l1.len]; exact (List.getElem?_eq_some_iff.mp k1).1)⟩
      exact eqH_dct (n := 17) (l1.at_ i q1 fd k1 hfd) (l2.at_ i q2 fd k2 hfd) (encF_int fd) (encF_nd (g fd (List.mem_of_getElem? hfd))) (encF_pl fd)
  unfold oEqH
  rw [c1]
  simp only [eqStep, List.zip_cons_cons, List.zip_nil_right, optAll, s4, sM]
  rfl
theorem eq_bad {h : Heap} {s b : Nat} : oEqH true (.tup [.str s, .int b]) (.tup [.str s, .int b]) h = .ok (.bl false) h := by
  unfold oEqH
  have : pl 40 (.tup [.str s, .int b]) = true := rfl
  rw [conv_pl 40 _ this]
  simp [deq_refl]
theorem Wk_bad {img : List (List Nat)} {B s b : Nat} : ∀ (n : Nat) (todo : List Rw) (seen : List Nat) (fd : List Rw), Wk img B n todo seen fd = .bad s b → s < 4
  | n, [], seen, fd, e => by
    have : Wk img B n [] seen fd = .done fd seen := by cases n <;> rfl
    rw [this] at e
    cases e
  | 0, r :: todo, seen, fd, e => by unfold Wk at e; cases e
  | n + 1, r :: todo, seen, fd, e => by
    unfold Wk at e
    split at e
    · cases e; decide
    · split at e
      · cases e; decide
      · exact Wk_bad n _ _ _ e
theorem Al_bad {img : List (List Nat)} {B s b : Nat} : ∀ (es : List Nat) (seen : List Nat) (led : List (List Rw)), Al img B es seen led = .bad s b → s < 4
  | [], seen, led, e => by unfold Al at e; cases e
  | x :: es, seen, led, e => by
    unfold Al at e
    split at e
    · rename_i w; cases e; exact Wk_bad _ _ _ _ w
    · exact Al_bad es _ _ e
    · cases e; decide
section
variable {B : Nat} {d kn mk p a : Nat} {ns : List Int}
theorem imgs_pl (img : List (List Nat)) : (img.map encW).all (pl 59) = true := by
  rw [List.all_eq_true]
  intro x hx
  obtain ⟨ws, _, rfl⟩ := List.mem_map.mp hx
  refine pl_tup (n := 58) fun y hy => ?_
  obtain ⟨n, _, rfl⟩ := List.mem_map.mp hy
  rfl
theorem lwCmp_ok {img : List (List Nat)} {L K : Nat} {h0 h : Heap} (hB : B ≤ 40) (hB0 : 24 ≤ B) (I : Im B L h img) (Ty : TO B [P1, P2] [0, 1] d kn mk h) (nd : [L, d, kn, mk].Nodup) (eK : h[K]? = some (.lst (img.map encW))) {x : Val} (q : FsQ h0 (Al img B (List.range 4) [] []) x h)
    {o0 o1 o4 a8 a9 : Option Val} {D : K4} (hD : ∀ a8 a9 h', Ext h h' → D.nx [o0, o1, some (.int B), some (.ref d), o4, some (.ref L), some (.ref K), some x, a8, a9, none] h') :
    wS (lwCmp [o0, o1, some (.int B), some (.ref d), o4, some (.ref L), some (.ref K), some x, a8, a9, none] h) D := by
  unfold lwCmp
  obtain ⟨F, hF⟩ : ∃ F, F = lwUn := ⟨_, rfl⟩
  rw [← hF]
  obtain ⟨y, h1, e1, q1⟩ := forests_ok hB hB0 I Ty nd
  have x1 := q1.ext
  have eq2 := oEq_lst (neg := true) (x1.at I.at_) (x1.at eK) (imgs_pl img) (imgs_pl img)
  rcases q.q with ⟨s, b, w1, rfl⟩ | ⟨led, seen, M, ps, w1, rfl, hM, em, lp⟩
  · rw [w1] at q1
    rcases q1.q with ⟨s', b', w2, rfl⟩ | ⟨led', seen', M', ps', w2, _⟩
    · cases w2
      have hs := Al_bad _ _ _ w1
      have q4 : ¬ s = 4 := by omega
      simp [e1, eq_bad, eq2, q4]
      exact hD _ _ _ x1
    · cases w2
  · rw [w1] at q1
    rcases q1.q with ⟨s', b', w2, rfl⟩ | ⟨led', seen', M', ps', w2, rfl, hM', em', lp'⟩
    · cases w2
    · cases w2
      obtain ⟨gd, ll⟩ := Al_gd hB hB0 _ _ _ _ _ (fun e he => by simpa using he) ⟨by simp, by simp⟩ (by simp) w1
      simp at ll
      have lpx : Lp h0.length led ps h1 := ⟨lp.len, fun i pl fd e1 e2 => x1.at (lp.at_ i pl fd e1 e2), lp.ge⟩
      have eq1 := eq_led em' lp' (x1.at em) lpx (by omega) gd
      simp [e1, eq1, eq2]
      rw [hF]
      exact lwUn_ok hB hB0 (I.ext x1) (Ty.ext x1) nd w1 (x1.at em) lpx (fun a8 a9 h' x' => hD _ _ _ (x1.trans x'))
structure LyI (B d kn mk : Nat) (ns : List Int) (n : Nat) (s' : En) (h' : Heap) : Prop where
  k : ∃ a4 a5 a6 a7 a8 a9, s' = [some (.ref 0), some (.ref 2), some (.int B), some (.ref d), a4, a5, a6, a7, a8, a9, none]
  ty : TO B [P1, P2] [0, 1] d kn mk h'
  t : TP 2 1 ns h'
  le : d < h'.length ∧ kn < h'.length ∧ mk < h'.length
theorem lwBody_ok {F0 : En → Heap → RS} (hF0 : F0 = lwBody) {h : Heap} (hB : B ≤ 40) (hB0 : 24 ≤ B) (Ty : TO B [P1, P2] [0, 1] d kn mk h) (T : TP 2 1 ns h) (n2 : d ≠ 2 ∧ kn ≠ 2 ∧ mk ≠ 2) (nd : [d, kn, mk].Nodup) {a4 a5 a6 a7 a8 a9 : Option Val} {D : K4} (hD : D.nx = LyI B d kn mk ns 0) :
    wS (F0 [some (.ref 0), some (.ref 2), some (.int B), some (.ref d), a4, a5, a6, a7, a8, a9, none] h) D := by
  have hd := at_lt Ty.eD
  have hk := at_lt Ty.eK
  have hm := at_lt Ty.eM
  obtain ⟨x1, h1, e1, q1⟩ := drawn_ok T hB0 hB
  obtain ⟨L1, img1, rfl, hL1, I1⟩ := q1.k
  have Ty1 := Ty.fr1 q1.f n2.1 n2.2.1 n2.2.2
  obtain ⟨z, h2, z0, z2, e2, T2, f2, _⟩ := q1.t.next2 nx_eq (n := 2) (by decide) (by decide)
  have lt := T.lt
  have Ty2 := Ty1.fr1 f2 n2.1 n2.2.1 n2.2.2
  have l1 := q1.f.1
  obtain ⟨F, hF⟩ : ∃ F, F = lwTail := ⟨_, rfl⟩
  -- from the image on
  have fin : ∀ (L : Nat) (img : List (List Nat)) (h3 : Heap) (D : K4), D.nx = LyI B d kn mk ns 0 → Im B L h3 img → TO B [P1, P2] [0, 1] d kn mk h3 → TP 2 1 ns h3 → h.length ≤ L → wS (F [some (.ref 0), some (.ref 2), some (.int B), some (.ref d), a4, some (.ref L), a6, a7, a8, a9, none] h3) D := by
    intro L img h3 D hD I Ty3 T3 hL
    have x4 : Ext h3 (h3 ++ [Obj.lst (img.map encW)]) := ⟨_, rfl⟩
    obtain ⟨x, h5, e5, q5⟩ := walk_ok hB hB0 (I.ext x4)
    have eK : h5[h3.length]? = some (.lst (img.map encW)) := q5.ext.at at_len
    have xx := x4.trans q5.ext
    rw [hF]
    unfold lwTail
    obtain ⟨F2, hF2⟩ : ∃ F, F = lwCmp := ⟨_, rfl⟩
    rw [← hF2]
    simp -implicitDefEqProofs [gV, I.at_, e5]
    rw [hF2]
    refine lwCmp_ok hB hB0 (I.ext xx) (Ty3.ext xx) (by simp at nd ⊢; omega) eK q5 (fun a8 a9 h6 x6 => ?_)
    rw [hD]
    have Ty6 := Ty3.ext (xx.trans x6)
    exact ⟨⟨_, _, _, _, _, _, rfl⟩, Ty6, T3.ext (xx.trans x6), at_lt Ty6.eD, at_lt Ty6.eK, at_lt Ty6.eM⟩
  have zz : z = 0 ∨ z = 1 := by omega
  rcases zz with rfl | rfl
  · obtain ⟨x3, h3, e3, q3⟩ := chain_ok T2 hB0 hB
    obtain ⟨L3, img3, rfl, hL3, I3⟩ := q3.k
    have := f2.1
    rw [hF0]
    unfold lwBody
    rw [← hF]
    simp -implicitDefEqProofs [e1, e2, e3, gV]
    refine fin L3 img3 h3 _ hD I3 (Ty2.fr1 q3.f n2.1 n2.2.1 n2.2.2) q3.t (by omega)
  · rw [hF0]
    unfold lwBody
    rw [← hF]
    simp -implicitDefEqProofs [e1, e2, gV]
    refine fin L1 img1 h2 _ hD (I1.fr f2 (by omega)) Ty2 T2 hL1
end
theorem law_true (ns : List Int) (hns : ns.length ≤ 63) : ∃ h', m_law [.ref 0] [.fls (ns.map Val.int)] = .ok (.bl true) h' := by
  have w : wR (m_law [.ref 0] [.fls (ns.map Val.int)]) (fun _ _ => False) fun x h' => x = .bl true := by
    rw [m_law_cut]
    obtain ⟨F, hF⟩ : ∃ F, F = lwBody := ⟨_, rfl⟩
    rw [← hF]
    refine wRB rfl ?_
    have l4 : 4 ≤ lim := by decide
    have T0 : TP 2 1 ns [Obj.fls (ns.map Val.int), Obj.lst (ns.map Val.int), Obj.lst [.ref 1, .int 0, .int 0, .int 19]] := ⟨by decide, rfl, 0, 0, 19, by decide, rfl⟩
    obtain ⟨v, h1, v0, v1, e1, T1, f1, _⟩ := T0.next2 nx_eq (n := 17) (by decide) (by decide)
    obtain ⟨B, hB⟩ := Int.eq_ofNat_of_zero_le (show 0 ≤ 24 + v by omega)
    obtain ⟨d, kn, mk, h2, e2, Ty, x2, g1, g2, g3⟩ := types_ok (B := B) (h := h1)
    have T2 := T1.ext x2
    simp -implicitDefEqProofs [gV, l4, e1, hB, e2]
    have l1 := T1.lt
    refine wS_range (n := 4) (fun _ => LyI B d kn mk ns 0) ⟨⟨_, _, _, _, _, _, rfl⟩, Ty, T2, at_lt Ty.eD, at_lt Ty.eK, at_lt Ty.eM⟩ ?_ ?_
    · rintro i s' h' hi ⟨⟨a4, a5, a6, a7, a8, a9, rfl⟩, Ty', T', _⟩
      refine ⟨_, rfl, ?_⟩
      exact lwBody_ok hF (by omega) (by omega) Ty' T' ⟨by omega, by omega, by omega⟩ (by have := Ty'.n1; have := Ty'.n2; have := Ty'.n3; simp; omega) rfl
    · rintro s' h' _
      trivial
  obtain ⟨x, h', e, rfl⟩ := ex_of_wR w
  exact ⟨h', e⟩
end Lw

set_option Elab.async false
set_option linter.all false
set_option maxRecDepth 100000
set_option maxHeartbeats 4000000
namespace Lw
open PySem L2 PyM
def top (i : Nat) : Stmt := PySem.Challenge.pw_steadhold_k20_faults_of_disks.main.body.getD i (.Pass ⟨0, 0, 0, 0⟩)
abbrev s__law_next : Stmt := (top 30)
abbrev N__law_next : List Str := ["_law_tape", "_law_many", "_law_rest", "_law_cell"]
abbrev s_Types___init__ : Stmt := (inClass (top 24) 0)
abbrev N_Types___init__ : List Str := ["self", "blocks"]
abbrev s_is_number : Stmt := (top 3)
abbrev N_is_number : List Str := ["value"]
abbrev s_is_index : Stmt := (top 16)
abbrev N_is_index : List Str := ["value"]
abbrev s_is_word : Stmt := (top 7)
abbrev N_is_word : List Str := ["value"]
abbrev s_is_guard : Stmt := (top 17)
abbrev N_is_guard : List Str := ["value"]
abbrev s_is_many : Stmt := (top 18)
abbrev N_is_many : List Str := ["value", "start"]
abbrev s_is_clause : Stmt := (top 19)
abbrev N_is_clause : List Str := ["value", "count", "guards", "start", "many", "kind", "guard"]
abbrev s_is_program : Stmt := (top 20)
abbrev N_is_program : List Str := ["value", "count", "clause"]
abbrev s_Types_count : Stmt := (inClass (top 24) 1)
abbrev N_Types_count : List Str := ["self"]
abbrev s_Types_add : Stmt := (inClass (top 24) 4)
abbrev N_Types_add : List Str := ["self", "program", "environment"]
abbrev s__law_types : Stmt := (top 31)
abbrev N__law_types : List Str := ["_law_many", "_law_types_here"]
abbrev s__law_drawn : Stmt := (top 34)
abbrev N__law_drawn : List Str := ["_law_tape", "_law_many", "_law_image", "_law_block", "_law_words", "_law_k"]
abbrev s__law_chain : Stmt := (top 35)
abbrev N__law_chain : List Str := ["_law_tape", "_law_many", "_law_image", "_law_order", "_law_k", "_law_words", "_law_turn", "_law_block"]
abbrev s__law_owns : Stmt := (top 32)
abbrev N__law_owns : List Str := ["_law_kind", "_law_words", "_law_many", "_law_found", "_law_numbers", "_law_k", "_law_word", "_law_row"]
abbrev s__law_walk : Stmt := (top 33)
abbrev N__law_walk : List Str := ["_law_image", "_law_led", "_law_seen", "_law_e", "_law_found", "_law_rows", "_law_turn", "_law_block", "_law_owner", "_law_kind", "_law_owned", "_law_one"]
abbrev s_words_of : Stmt := (top 22)
abbrev N_words_of : List Str := ["clause", "words", "guards", "start", "many", "_", "index", "mask", "value"]
abbrev s_is_block : Stmt := (top 21)
abbrev N_is_block : List Str := ["word", "blocks"]
abbrev s_run_program : Stmt := (top 23)
abbrev N_run_program : List Str := ["program", "words", "blocks", "own", "found", "seen", "clause", "kind", "word"]
abbrev s_Types_is_known : Stmt := (inClass (top 24) 2)
abbrev N_Types_is_known : List Str := ["self", "number"]
abbrev s_Types_owned : Stmt := (inClass (top 24) 5)
abbrev N_Types_owned : List Str := ["self", "number", "words"]
abbrev s_forest_of : Stmt := (top 26)
abbrev N_forest_of : List Str := ["image", "types", "environment", "reached", "found", "todo", "block", "owner", "kind", "owned", "child", "child_kind"]
abbrev s_forests : Stmt := (top 27)
abbrev N_forests : List Str := ["image", "types", "reached", "found", "environment", "forest"]
abbrev s_unreached : Stmt := (top 28)
abbrev N_unreached : List Str := ["image", "types", "reached", "forest", "block"]
abbrev s_law : Stmt := (top 36)
abbrev N_law : List Str := ["_law_script", "_law_tape", "_law_many", "_law_types_here", "_law_turn", "_law_image", "_law_kept", "_law_due", "_law_reached", "_law_found", "_law_block"]
def nms : List Str := ("blocks" : Str) :: ("known" : Str) :: ("makers" : Str) :: []
def sts : List Str := ("word" : Str) :: ("own" : Str) :: ("twice" : Str) :: ("ill" : Str) :: ("ok" : Str) :: []
structure Tx where
  c_Types : Addr
  f__law_next : Addr
  d__law_next : FuncData
  f_Types___init__ : Addr
  d_Types___init__ : FuncData
  f_is_number : Addr
  d_is_number : FuncData
  f_is_index : Addr
  d_is_index : FuncData
  f_is_word : Addr
  d_is_word : FuncData
  f_is_guard : Addr
  d_is_guard : FuncData
  f_is_many : Addr
  d_is_many : FuncData
  f_is_clause : Addr
  d_is_clause : FuncData
  f_is_program : Addr
  d_is_program : FuncData
  f_Types_count : Addr
  d_Types_count : FuncData
  f_Types_add : Addr
  d_Types_add : FuncData
  f__law_types : Addr
  d__law_types : FuncData
  f__law_drawn : Addr
  d__law_drawn : FuncData
  f__law_chain : Addr
  d__law_chain : FuncData
  f__law_owns : Addr
  d__law_owns : FuncData
  f__law_walk : Addr
  d__law_walk : FuncData
  f_words_of : Addr
  d_words_of : FuncData
  f_is_block : Addr
  d_is_block : FuncData
  f_run_program : Addr
  d_run_program : FuncData
  f_Types_is_known : Addr
  d_Types_is_known : FuncData
  f_Types_owned : Addr
  d_Types_owned : FuncData
  f_forest_of : Addr
  d_forest_of : FuncData
  f_forests : Addr
  d_forests : FuncData
  f_unreached : Addr
  d_unreached : FuncData
  f_law : Addr
  d_law : FuncData
  t_DATA : Tok
  t_ENVIRONMENTS : Tok
  t_FIRST_TYPE : Tok
  t_MOST_CLAUSES : Tok
  t_MOST_GUARDS : Tok
  t_MOST_TYPES : Tok
  t_OWN : Tok
  t_ROOT : Tok
  t_TOP : Tok
  t_WORDS : Tok
def Tx.G (T : Tx) (K : PySem.W.Frag) : Cfg := ⟨K, [T.c_Types], nms, sts⟩
structure TxOk (w : World) (K : PySem.W.Frag) (mg : Str → Option Value) (T : Tx) : Prop where
  F__law_next : Fun K "_law_next" "_law_next" s__law_next T.f__law_next T.d__law_next
  b__law_next : Binds K T.d__law_next ["_law_tape", "_law_many"] []
  g__law_next : mg "_law_next" = some (.ref T.f__law_next)
  F_Types___init__ : Fun K "__init__" "Types.__init__" s_Types___init__ T.f_Types___init__ T.d_Types___init__
  b_Types___init__ : Binds K T.d_Types___init__ ["self", "blocks"] []
  F_is_number : Fun K "is_number" "is_number" s_is_number T.f_is_number T.d_is_number
  b_is_number : Binds K T.d_is_number ["value"] []
  g_is_number : mg "is_number" = some (.ref T.f_is_number)
  F_is_index : Fun K "is_index" "is_index" s_is_index T.f_is_index T.d_is_index
  b_is_index : Binds K T.d_is_index ["value"] []
  g_is_index : mg "is_index" = some (.ref T.f_is_index)
  F_is_word : Fun K "is_word" "is_word" s_is_word T.f_is_word T.d_is_word
  b_is_word : Binds K T.d_is_word ["value"] []
  g_is_word : mg "is_word" = some (.ref T.f_is_word)
  F_is_guard : Fun K "is_guard" "is_guard" s_is_guard T.f_is_guard T.d_is_guard
  b_is_guard : Binds K T.d_is_guard ["value"] []
  g_is_guard : mg "is_guard" = some (.ref T.f_is_guard)
  F_is_many : Fun K "is_many" "is_many" s_is_many T.f_is_many T.d_is_many
  b_is_many : Binds K T.d_is_many ["value", "start"] []
  g_is_many : mg "is_many" = some (.ref T.f_is_many)
  F_is_clause : Fun K "is_clause" "is_clause" s_is_clause T.f_is_clause T.d_is_clause
  b_is_clause : Binds K T.d_is_clause ["value", "count"] []
  g_is_clause : mg "is_clause" = some (.ref T.f_is_clause)
  F_is_program : Fun K "is_program" "is_program" s_is_program T.f_is_program T.d_is_program
  b_is_program : Binds K T.d_is_program ["value", "count"] []
  g_is_program : mg "is_program" = some (.ref T.f_is_program)
  F_Types_count : Fun K "count" "Types.count" s_Types_count T.f_Types_count T.d_Types_count
  b_Types_count : Binds K T.d_Types_count ["self"] []
  M_Types_count : Meth K T.c_Types "count" T.f_Types_count
  F_Types_add : Fun K "add" "Types.add" s_Types_add T.f_Types_add T.d_Types_add
  b_Types_add : Binds K T.d_Types_add ["self", "program", "environment"] []
  M_Types_add : Meth K T.c_Types "add" T.f_Types_add
  F__law_types : Fun K "_law_types" "_law_types" s__law_types T.f__law_types T.d__law_types
  b__law_types : Binds K T.d__law_types ["_law_many"] []
  g__law_types : mg "_law_types" = some (.ref T.f__law_types)
  F__law_drawn : Fun K "_law_drawn" "_law_drawn" s__law_drawn T.f__law_drawn T.d__law_drawn
  b__law_drawn : Binds K T.d__law_drawn ["_law_tape", "_law_many"] []
  g__law_drawn : mg "_law_drawn" = some (.ref T.f__law_drawn)
  F__law_chain : Fun K "_law_chain" "_law_chain" s__law_chain T.f__law_chain T.d__law_chain
  b__law_chain : Binds K T.d__law_chain ["_law_tape", "_law_many"] []
  g__law_chain : mg "_law_chain" = some (.ref T.f__law_chain)
  F__law_owns : Fun K "_law_owns" "_law_owns" s__law_owns T.f__law_owns T.d__law_owns
  b__law_owns : Binds K T.d__law_owns ["_law_kind", "_law_words", "_law_many"] []
  g__law_owns : mg "_law_owns" = some (.ref T.f__law_owns)
  F__law_walk : Fun K "_law_walk" "_law_walk" s__law_walk T.f__law_walk T.d__law_walk
  b__law_walk : Binds K T.d__law_walk ["_law_image"] []
  g__law_walk : mg "_law_walk" = some (.ref T.f__law_walk)
  F_words_of : Fun K "words_of" "words_of" s_words_of T.f_words_of T.d_words_of
  b_words_of : Binds K T.d_words_of ["clause", "words"] []
  g_words_of : mg "words_of" = some (.ref T.f_words_of)
  F_is_block : Fun K "is_block" "is_block" s_is_block T.f_is_block T.d_is_block
  b_is_block : Binds K T.d_is_block ["word", "blocks"] []
  g_is_block : mg "is_block" = some (.ref T.f_is_block)
  F_run_program : Fun K "run_program" "run_program" s_run_program T.f_run_program T.d_run_program
  b_run_program : Binds K T.d_run_program ["program", "words", "blocks", "own"] []
  g_run_program : mg "run_program" = some (.ref T.f_run_program)
  F_Types_is_known : Fun K "is_known" "Types.is_known" s_Types_is_known T.f_Types_is_known T.d_Types_is_known
  b_Types_is_known : Binds K T.d_Types_is_known ["self", "number"] []
  M_Types_is_known : Meth K T.c_Types "is_known" T.f_Types_is_known
  F_Types_owned : Fun K "owned" "Types.owned" s_Types_owned T.f_Types_owned T.d_Types_owned
  b_Types_owned : Binds K T.d_Types_owned ["self", "number", "words"] []
  M_Types_owned : Meth K T.c_Types "owned" T.f_Types_owned
  F_forest_of : Fun K "forest_of" "forest_of" s_forest_of T.f_forest_of T.d_forest_of
  b_forest_of : Binds K T.d_forest_of ["image", "types", "environment", "reached"] []
  g_forest_of : mg "forest_of" = some (.ref T.f_forest_of)
  F_forests : Fun K "forests" "forests" s_forests T.f_forests T.d_forests
  b_forests : Binds K T.d_forests ["image", "types"] []
  g_forests : mg "forests" = some (.ref T.f_forests)
  F_unreached : Fun K "unreached" "unreached" s_unreached T.f_unreached T.d_unreached
  b_unreached : Binds K T.d_unreached ["image", "types"] []
  g_unreached : mg "unreached" = some (.ref T.f_unreached)
  F_law : Fun K "law" "law" s_law T.f_law T.d_law
  b_law : Binds K T.d_law ["_law_script"] []
  g_law : mg "law" = some (.ref T.f_law)
  cl_Types : Cls K T.c_Types
  gc_Types : mg "Types" = some (.ref T.c_Types)
  mk_Types : Mk K T.c_Types T.f_Types___init__
  na_Types_blocks : NoAttr K T.c_Types "blocks"
  na_Types_known : NoAttr K T.c_Types "known"
  na_Types_makers : NoAttr K T.c_Types "makers"
  n_abs : mg "abs" = none
  n_all : mg "all" = none
  n_bool : mg "bool" = none
  n_int : mg "int" = none
  n_isinstance : mg "isinstance" = none
  n_len : mg "len" = none
  n_list : mg "list" = none
  n_min : mg "min" = none
  n_range : mg "range" = none
  n_str : mg "str" = none
  n_tuple : mg "tuple" = none
  k_DATA : mg "DATA" = some (.int 0 T.t_DATA)
  k_ENVIRONMENTS : mg "ENVIRONMENTS" = some (.int 4 T.t_ENVIRONMENTS)
  k_FIRST_TYPE : mg "FIRST_TYPE" = some (.int 2 T.t_FIRST_TYPE)
  k_MOST_CLAUSES : mg "MOST_CLAUSES" = some (.int 8 T.t_MOST_CLAUSES)
  k_MOST_GUARDS : mg "MOST_GUARDS" = some (.int 4 T.t_MOST_GUARDS)
  k_MOST_TYPES : mg "MOST_TYPES" = some (.int 4 T.t_MOST_TYPES)
  k_OWN : mg "OWN" = some (.str "own" T.t_OWN)
  k_ROOT : mg "ROOT" = some (.int 1 T.t_ROOT)
  k_TOP : mg "TOP" = some (.int 4294967295 T.t_TOP)
  k_WORDS : mg "WORDS" = some (.int 8 T.t_WORDS)
section
variable {P : Program} {w : World} {K : PySem.W.Frag} {mg : Str → Option Value} {base : PySem.Heap} {T : Tx}
theorem gok : (T.G K).Ok := ⟨(by decide +kernel : nms.Nodup), (by decide +kernel : sts.Nodup), (by decide +kernel : ∀ x ∈ sts, PySem.PyData.strOk x = true)⟩
theorem sc__law_next : FnScope N__law_next ["_law_tape", "_law_many"] (defScope s__law_next) := ⟨rfl, rfl, rfl, by decide +kernel, rfl, by decide +kernel, by decide +kernel⟩
theorem ok__law_next (O : TxOk w K mg T) : FnM (T.G K) P w mg base 1 T.f__law_next T.d__law_next ["_law_tape", "_law_many"] m__law_next := by
  refine fn_m O.F__law_next sc__law_next rfl rfl (fun cdv A outer s H E C tk => ?_)
  exact ⟨_, mss_cons (ms_asg (me_ix gok C (me_var 0) (me_int)) (mg_name 2 C.nd))
    (mss_cons (ms_if (mt_cmp (mc_eq gok C (me_var 2) (me_int))) (mss_cons (ms_asg (me_int) (mg_name 3 C.nd))
    (mss_cons (ms_if (mt_cmp (mc_lt (me_ix gok C (me_var 0) (me_int)) (me_blt (cl_len C) rl_len O.n_len bt_len (ma_cons (me_ix gok C (me_var 0) (me_int)) (ma_nil))))) (mss_cons (ms_asg (me_blt call_abs rl_abs O.n_abs bt_abs (ma_cons (me_bty call_int1 rl_int O.n_int bt_int (ma_cons (me_ix gok C (me_ix gok C (me_var 0) (me_int)) (me_ix gok C (me_var 0) (me_int))) (ma_nil))) (ma_nil))) (mg_name 3 C.nd))
    (mss_one (ms_sub gok C (me_var 0) (me_int) (me_add C (me_ix gok C (me_var 0) (me_int)) (me_int))))) (mss_nil))
    (mss_cons (ms_asg (me_var 3) (mg_name 2 C.nd))
    (mss_one (ms_if (mt_cmp (mc_lt (me_var 3) (me_pow (me_int) (me_int)))) (mss_cons (ms_sub gok C (me_var 0) (me_int) (me_mod (me_bty call_int1 rl_int O.n_int bt_int (ma_cons (me_add C (me_add C (me_mul C (me_ix gok C (me_var 0) (me_int)) (me_int)) (me_mul C (me_var 3) (me_int))) (me_int)) (ma_nil))) (me_int)))
    (mss_one (ms_ret (me_mod (me_mod (me_bty call_int1 rl_int O.n_int bt_int (ma_cons (me_mul C (me_fdiv (me_ix gok C (me_var 0) (me_int)) (me_int)) (me_int)) (ma_nil))) (me_int)) (me_var 1))))) (mss_nil)))))) (mss_nil))
    (mss_cons (ms_sub gok C (me_var 0) (me_int) (me_fdiv (me_var 2) (me_var 1)))
    (mss_one (ms_ret (me_mod (me_bty call_int1 rl_int O.n_int bt_int (ma_cons (me_var 2) (ma_nil))) (me_var 1))))))⟩
theorem sc_Types___init__ : FnScope N_Types___init__ ["self", "blocks"] (defScope s_Types___init__) := ⟨rfl, rfl, rfl, by decide +kernel, rfl, by decide +kernel, by decide +kernel⟩
theorem ok_Types___init__ (O : TxOk w K mg T) : FnM (T.G K) P w mg base 1 T.f_Types___init__ T.d_Types___init__ ["self", "blocks"] m_Types___init__ := by
  refine fn_m O.F_Types___init__ sc_Types___init__ rfl rfl (fun cdv A outer s H E C tk => ?_)
  exact ⟨_, mss_cons (ms_fld gok C 0 0 rfl rfl O.na_Types_blocks (me_var 0) (me_var 1))
    (mss_cons (ms_fld gok C 0 1 rfl rfl O.na_Types_known (me_var 0) (me_lst (ma_nil)))
    (mss_one (ms_fld gok C 0 2 rfl rfl O.na_Types_makers (me_var 0) (me_lst (ma_nil)))))⟩
theorem sc_is_number : FnScope N_is_number ["value"] (defScope s_is_number) := ⟨rfl, rfl, rfl, by decide +kernel, rfl, by decide +kernel, by decide +kernel⟩
theorem ok_is_number (O : TxOk w K mg T) : FnM (T.G K) P w mg base 1 T.f_is_number T.d_is_number ["value"] m_is_number := by
  refine fn_m O.F_is_number sc_is_number rfl rfl (fun cdv A outer s H E C tk => ?_)
  exact ⟨_, mss_one (ms_ret (me_andV (me_isi C .int (by decide) O.n_isinstance O.n_int bt_ty_int (me_var 0)) (me_one (me_notV (me_isi C .bool (by decide) O.n_isinstance O.n_bool bt_ty_bool (me_var 0))))))⟩
theorem sc_is_index : FnScope N_is_index ["value"] (defScope s_is_index) := ⟨rfl, rfl, rfl, by decide +kernel, rfl, by decide +kernel, by decide +kernel⟩
theorem ok_is_index (O : TxOk w K mg T) : FnM (T.G K) P w mg base 2 T.f_is_index T.d_is_index ["value"] m_is_index := by
  refine fn_m O.F_is_index sc_is_index rfl rfl (fun cdv A outer s H E C tk => ?_)
  exact ⟨_, mss_one (ms_ret (me_andV (me_call C (ok_is_number O) df_nil (by decide) O.g_is_number O.F_is_number.kp O.b_is_number (ma_cons (me_var 0) (ma_nil))) (me_one (me_chLeLt (me_int) (me_var 0) (me_glob 8 O.k_WORDS)))))⟩
theorem sc_is_word : FnScope N_is_word ["value"] (defScope s_is_word) := ⟨rfl, rfl, rfl, by decide +kernel, rfl, by decide +kernel, by decide +kernel⟩
theorem ok_is_word (O : TxOk w K mg T) : FnM (T.G K) P w mg base 2 T.f_is_word T.d_is_word ["value"] m_is_word := by
  refine fn_m O.F_is_word sc_is_word rfl rfl (fun cdv A outer s H E C tk => ?_)
  exact ⟨_, mss_one (ms_ret (me_andV (me_call C (ok_is_number O) df_nil (by decide) O.g_is_number O.F_is_number.kp O.b_is_number (ma_cons (me_var 0) (ma_nil))) (me_one (me_chLeLe (me_int) (me_var 0) (me_glob 4294967295 O.k_TOP)))))⟩
theorem sc_is_guard : FnScope N_is_guard ["value"] (defScope s_is_guard) := ⟨rfl, rfl, rfl, by decide +kernel, rfl, by decide +kernel, by decide +kernel⟩
theorem ok_is_guard (O : TxOk w K mg T) : FnM (T.G K) P w mg base 3 T.f_is_guard T.d_is_guard ["value"] m_is_guard := by
  refine fn_m O.F_is_guard sc_is_guard rfl rfl (fun cdv A outer s H E C tk => ?_)
  exact ⟨_, mss_cons (ms_if ((mw_or (mt_not (mt_tr C (me_isi C .tup (by decide) O.n_isinstance O.n_tuple bt_ty_tup (me_var 0)))) (mw_or1 (mt_cmp (mc_ne gok C (me_blt (cl_len C) rl_len O.n_len bt_len (ma_cons (me_var 0) (ma_nil))) (me_int))))).mt) (mss_one (ms_ret (me_bl))) (mss_nil))
    (mss_one (ms_ret (me_andV (me_call C (ok_is_index O) df_nil (by decide) O.g_is_index O.F_is_index.kp O.b_is_index (ma_cons (me_ix gok C (me_var 0) (me_int)) (ma_nil))) (me_andV (me_call C (ok_is_word O) df_nil (by decide) O.g_is_word O.F_is_word.kp O.b_is_word (ma_cons (me_ix gok C (me_var 0) (me_int)) (ma_nil))) (me_one (me_call C (ok_is_word O) df_nil (by decide) O.g_is_word O.F_is_word.kp O.b_is_word (ma_cons (me_ix gok C (me_var 0) (me_int)) (ma_nil))))))))⟩
theorem sc_is_many : FnScope N_is_many ["value", "start"] (defScope s_is_many) := ⟨rfl, rfl, rfl, by decide +kernel, rfl, by decide +kernel, by decide +kernel⟩
theorem ok_is_many (O : TxOk w K mg T) : FnM (T.G K) P w mg base 3 T.f_is_many T.d_is_many ["value", "start"] m_is_many := by
  refine fn_m O.F_is_many sc_is_many rfl rfl (fun cdv A outer s H E C tk => ?_)
  exact ⟨_, mss_cons (ms_if (mt_tr C (me_isi C .tup (by decide) O.n_isinstance O.n_tuple bt_ty_tup (me_var 0))) (mss_one (ms_ret (me_andV (me_cmp (mc_eq gok C (me_blt (cl_len C) rl_len O.n_len bt_len (ma_cons (me_var 0) (ma_nil))) (me_int))) (me_andV (me_cmp (mc_eq gok C (me_ix gok C (me_var 0) (me_int)) (me_str 0 rfl))) (me_one (me_call C (ok_is_index O) df_nil (by decide) O.g_is_index O.F_is_index.kp O.b_is_index (ma_cons (me_ix gok C (me_var 0) (me_int)) (ma_nil)))))))) (mss_nil))
    (mss_one (ms_ret (me_andV (me_call C (ok_is_number O) df_nil (by decide) O.g_is_number O.F_is_number.kp O.b_is_number (ma_cons (me_var 0) (ma_nil))) (me_one (me_chLeLe (me_int) (me_var 0) (me_sub (me_glob 8 O.k_WORDS) (me_var 1)))))))⟩
theorem sc_is_clause : FnScope N_is_clause ["value", "count"] (defScope s_is_clause) := ⟨rfl, rfl, rfl, by decide +kernel, rfl, by decide +kernel, by decide +kernel⟩
theorem ok_is_clause (O : TxOk w K mg T) : FnM (T.G K) P w mg base 4 T.f_is_clause T.d_is_clause ["value", "count"] m_is_clause := by
  refine fn_m O.F_is_clause sc_is_clause rfl rfl (fun cdv A outer s H E C tk => ?_)
  exact ⟨_, mss_cons (ms_if ((mw_or (mt_not (mt_tr C (me_isi C .tup (by decide) O.n_isinstance O.n_tuple bt_ty_tup (me_var 0)))) (mw_or (mt_cmp (mc_ne gok C (me_blt (cl_len C) rl_len O.n_len bt_len (ma_cons (me_var 0) (ma_nil))) (me_int))) (mw_or1 (mt_not (mt_tr C (me_isi C .tup (by decide) O.n_isinstance O.n_tuple bt_ty_tup (me_ix gok C (me_var 0) (me_int)))))))).mt) (mss_one (ms_ret (me_bl))) (mss_nil))
    (mss_cons (ms_asg (me_var 0) (mg_tup C (mgs_cons (mg_name 2 C.nd) (mgs_cons (mg_name 3 C.nd) (mgs_cons (mg_name 4 C.nd) (mgs_cons (mg_name 5 C.nd) (mgs_nil))))) (gs_lenS (gs_lenS (gs_lenS (gs_lenS gs_len0))))))
    (mss_cons (ms_if ((mw_or (mt_cmp (mc_gt (me_blt (cl_len C) rl_len O.n_len bt_len (ma_cons (me_var 2) (ma_nil))) (me_glob 4 O.k_MOST_GUARDS))) (mw_or1 (mt_not (mt_tr C (me_blt (cl_all C) rl_all O.n_all bt_all (ma_cons (me_lc [("guard", 6)] C (mi_alt (mi_lst C (me_var 2)) (mi_tup C (me_var 2))) (blkOk_by (N := N_is_clause) (sc := defScope s_is_clause) (by decide +kernel)) (fun _ _ _ _ _ C => mg_name 6 C.nd) (fun _ _ _ _ _ C => mts_nil) (fun _ _ _ _ _ C => me_call C (ok_is_guard O) df_nil (by decide) O.g_is_guard O.F_is_guard.kp O.b_is_guard (ma_cons (me_var 6) (ma_nil))) (tgw_name (by decide))) (ma_nil))))))).mt) (mss_one (ms_ret (me_bl))) (mss_nil))
    (mss_cons (ms_if ((mw_or (mt_not (mt_tr C (me_call C (ok_is_index O) df_nil (by decide) O.g_is_index O.F_is_index.kp O.b_is_index (ma_cons (me_var 3) (ma_nil))))) (mw_or1 (mt_not (mt_tr C (me_call C (ok_is_many O) df_nil (by decide) O.g_is_many O.F_is_many.kp O.b_is_many (ma_cons (me_var 4) (ma_cons (me_var 3) (ma_nil)))))))).mt) (mss_one (ms_ret (me_bl))) (mss_nil))
    (mss_cons (ms_if (mt_tr C (me_isi C .str (by decide) O.n_isinstance O.n_str bt_ty_str (me_var 5))) (mss_one (ms_ret (me_cmp (mc_eq gok C (me_var 5) (me_globS 1 O.k_OWN rfl))))) (mss_nil))
    (mss_one (ms_ret (me_andV (me_call C (ok_is_number O) df_nil (by decide) O.g_is_number O.F_is_number.kp O.b_is_number (ma_cons (me_var 5) (ma_nil))) (me_one (me_orV (me_cmp (mc_eq gok C (me_var 5) (me_glob 0 O.k_DATA))) (me_one (me_chLeLt (me_glob 2 O.k_FIRST_TYPE) (me_var 5) (me_var 1))))))))))))⟩
theorem sc_is_program : FnScope N_is_program ["value", "count"] (defScope s_is_program) := ⟨rfl, rfl, rfl, by decide +kernel, rfl, by decide +kernel, by decide +kernel⟩
theorem ok_is_program (O : TxOk w K mg T) : FnM (T.G K) P w mg base 5 T.f_is_program T.d_is_program ["value", "count"] m_is_program := by
  refine fn_m O.F_is_program sc_is_program rfl rfl (fun cdv A outer s H E C tk => ?_)
  exact ⟨_, mss_cons (ms_if ((mw_or (mt_not (mt_tr C (me_isi C .tup (by decide) O.n_isinstance O.n_tuple bt_ty_tup (me_var 0)))) (mw_or1 (mt_cmp (mc_gt (me_blt (cl_len C) rl_len O.n_len bt_len (ma_cons (me_var 0) (ma_nil))) (me_glob 8 O.k_MOST_CLAUSES))))).mt) (mss_one (ms_ret (me_bl))) (mss_nil))
    (mss_one (ms_ret (me_blt (cl_all C) rl_all O.n_all bt_all (ma_cons (me_lc [("clause", 2)] C (mi_alt (mi_lst C (me_var 0)) (mi_tup C (me_var 0))) (blkOk_by (N := N_is_program) (sc := defScope s_is_program) (by decide +kernel)) (fun _ _ _ _ _ C => mg_name 2 C.nd) (fun _ _ _ _ _ C => mts_nil) (fun _ _ _ _ _ C => me_call C (ok_is_clause O) df_nil (by decide) O.g_is_clause O.F_is_clause.kp O.b_is_clause (ma_cons (me_var 2) (ma_cons (me_var 1) (ma_nil)))) (tgw_name (by decide))) (ma_nil)))))⟩
theorem sc_Types_count : FnScope N_Types_count ["self"] (defScope s_Types_count) := ⟨rfl, rfl, rfl, by decide +kernel, rfl, by decide +kernel, by decide +kernel⟩
theorem ok_Types_count (O : TxOk w K mg T) : FnM (T.G K) P w mg base 1 T.f_Types_count T.d_Types_count ["self"] m_Types_count := by
  refine fn_m O.F_Types_count sc_Types_count rfl rfl (fun cdv A outer s H E C tk => ?_)
  exact ⟨_, mss_one (ms_ret (me_add C (me_glob 2 O.k_FIRST_TYPE) (me_blt (cl_len C) rl_len O.n_len bt_len (ma_cons (me_fld gok C 1 rfl (me_var 0)) (ma_nil)))))⟩
theorem sc_Types_add : FnScope N_Types_add ["self", "program", "environment"] (defScope s_Types_add) := ⟨rfl, rfl, rfl, by decide +kernel, rfl, by decide +kernel, by decide +kernel⟩
theorem ok_Types_add (O : TxOk w K mg T) : FnM (T.G K) P w mg base 6 T.f_Types_add T.d_Types_add ["self", "program", "environment"] m_Types_add := by
  refine fn_m O.F_Types_add sc_Types_add rfl rfl (fun cdv A outer s H E C tk => ?_)
  exact ⟨_, mss_cons (ms_if (mt_not (mt_tr C (me_call C (ok_is_program O) df_nil (by decide) O.g_is_program O.F_is_program.kp O.b_is_program (ma_cons (me_var 1) (ma_cons (me_meth0 C (ok_Types_count O) 0 rfl O.cl_Types O.M_Types_count df_nil (by decide) O.b_Types_count (me_var 0)) (ma_nil)))))) (mss_one (ms_ret (me_non))) (mss_nil))
    (mss_cons (ms_if (mt_cmp (mc_in gok C (me_var 1) (me_fld gok C 1 rfl (me_var 0)))) (mss_one (ms_ret (me_add C (me_glob 2 O.k_FIRST_TYPE) (me_bm C PySem.F.slot_list_index PySem.F.type_list_index (cl_index C) (rm_index gok) (me_fld gok C 1 rfl (me_var 0)) (ma_cons (me_var 1) (ma_nil)))))) (mss_nil))
    (mss_cons (ms_if (mt_cmp (mc_ge (me_bm C PySem.F.slot_list_count PySem.F.type_list_count (cl_count C) (rm_count gok) (me_fld gok C 2 rfl (me_var 0)) (ma_cons (me_var 2) (ma_nil))) (me_glob 4 O.k_MOST_TYPES))) (mss_one (ms_ret (me_non))) (mss_nil))
    (mss_cons (ms_expr (me_bm C PySem.F.slot_list_append PySem.F.type_list_append mt_append rm_append (me_fld gok C 1 rfl (me_var 0)) (ma_cons (me_var 1) (ma_nil))))
    (mss_cons (ms_expr (me_bm C PySem.F.slot_list_append PySem.F.type_list_append mt_append rm_append (me_fld gok C 2 rfl (me_var 0)) (ma_cons (me_var 2) (ma_nil))))
    (mss_one (ms_ret (me_sub (me_meth0 C (ok_Types_count O) 0 rfl O.cl_Types O.M_Types_count df_nil (by decide) O.b_Types_count (me_var 0)) (me_int))))))))⟩
theorem sc__law_types : FnScope N__law_types ["_law_many"] (defScope s__law_types) := ⟨rfl, rfl, rfl, by decide +kernel, rfl, by decide +kernel, by decide +kernel⟩
theorem ok__law_types (O : TxOk w K mg T) : FnM (T.G K) P w mg base 7 T.f__law_types T.d__law_types ["_law_many"] m__law_types := by
  refine fn_m O.F__law_types sc__law_types rfl rfl (fun cdv A outer s H E C tk => ?_)
  exact ⟨_, mss_cons (ms_asg (me_make C (ok_Types___init__ O) 0 rfl O.cl_Types O.mk_Types df_nil (by decide) O.gc_Types O.b_Types___init__ (ma_cons (me_var 0) (ma_nil))) (mg_name 1 C.nd))
    (mss_cons (ms_expr (me_meth C (ok_Types_add O) 0 rfl O.cl_Types O.M_Types_add df_nil (by decide) O.b_Types_add (me_var 1) (ma_cons (me_tup (ma_cons (me_tup (ma_cons (me_tup (ma_nil)) (ma_cons (me_int) (ma_cons (me_int) (ma_cons (me_str 1 rfl) (ma_nil)))))) (ma_cons (me_tup (ma_cons (me_tup (ma_nil)) (ma_cons (me_int) (ma_cons (me_int) (ma_cons (me_int) (ma_nil)))))) (ma_nil)))) (ma_cons (me_int) (ma_nil)))))
    (mss_cons (ms_expr (me_meth C (ok_Types_add O) 0 rfl O.cl_Types O.M_Types_add df_nil (by decide) O.b_Types_add (me_var 1) (ma_cons (me_tup (ma_cons (me_tup (ma_cons (me_tup (ma_cons (me_tup (ma_cons (me_int) (ma_cons (me_int) (ma_cons (me_int) (ma_nil))))) (ma_nil))) (ma_cons (me_int) (ma_cons (me_int) (ma_cons (me_int) (ma_nil)))))) (ma_nil))) (ma_cons (me_int) (ma_nil)))))
    (mss_one (ms_ret (me_var 1)))))⟩
theorem sc__law_drawn : FnScope N__law_drawn ["_law_tape", "_law_many"] (defScope s__law_drawn) := ⟨rfl, rfl, rfl, by decide +kernel, rfl, by decide +kernel, by decide +kernel⟩
theorem ok__law_drawn (O : TxOk w K mg T) : FnM (T.G K) P w mg base 2 T.f__law_drawn T.d__law_drawn ["_law_tape", "_law_many"] m__law_drawn := by
  refine fn_m O.F__law_drawn sc__law_drawn rfl rfl (fun cdv A outer s H E C tk => ?_)
  exact ⟨_, mss_cons (ms_asg (me_lst (ma_nil)) (mg_name 2 C.nd))
    (mss_cons (ms_for C (mi_rng1 O.n_range (ma_cons (me_var 1) (ma_nil))) (mg_name 3 C.nd) (mss_cons (ms_setLc 4 [("_law_k", 5)] C (mi_rng1 O.n_range (ma_cons (me_int) (ma_nil))) (blkOk_by (N := N__law_drawn) (sc := defScope s__law_drawn) (by decide +kernel)) (fun _ _ _ _ _ C => mg_name 5 C.nd) (fun _ _ _ _ _ C => mts_nil) (fun _ _ _ _ _ C => me_ix gok C (me_lst (ma_cons (me_int) (ma_cons (me_int) (ma_cons (me_int) (ma_cons (me_add C (me_int) (me_call C (ok__law_next O) df_nil (by decide) O.g__law_next O.F__law_next.kp O.b__law_next (ma_cons (me_var 0) (ma_cons (me_sub (me_var 1) (me_int)) (ma_nil))))) (ma_cons (me_call C (ok__law_next O) df_nil (by decide) O.g__law_next O.F__law_next.kp O.b__law_next (ma_cons (me_var 0) (ma_cons (me_add C (me_var 1) (me_int)) (ma_nil)))) (ma_nil))))))) (me_call C (ok__law_next O) df_nil (by decide) O.g__law_next O.F__law_next.kp O.b__law_next (ma_cons (me_var 0) (ma_cons (me_int) (ma_nil))))) (tgw_name (by decide)) (sw_true rfl rfl rfl (by decide +kernel)))
    (mss_cons (ms_if (mt_cmp (mc_lt (me_var 3) (me_int))) (mss_one (ms_sub gok C (me_var 4) (me_int) (me_ix gok C (me_lst (ma_cons (me_int) (ma_cons (me_int) (ma_cons (me_int) (ma_cons (me_int) (ma_cons (me_int) (ma_cons (me_int) (ma_nil)))))))) (me_call C (ok__law_next O) df_nil (by decide) O.g__law_next O.F__law_next.kp O.b__law_next (ma_cons (me_var 0) (ma_cons (me_int) (ma_nil))))))) (mss_nil))
    (mss_one (ms_expr (me_bm C PySem.F.slot_list_append PySem.F.type_list_append mt_append rm_append (me_var 2) (ma_cons (me_bty (cl_tuple C) rl_tuple O.n_tuple bt_tuple (ma_cons (me_add C (me_var 4) (me_lst (ma_cons (me_int) (ma_cons (me_int) (ma_cons (me_int) (ma_cons (me_ix gok C (me_lst (ma_cons (me_int) (ma_cons (me_int) (ma_cons (me_int) (ma_nil))))) (me_call C (ok__law_next O) df_nil (by decide) O.g__law_next O.F__law_next.kp O.b__law_next (ma_cons (me_var 0) (ma_cons (me_int) (ma_nil))))) (ma_nil))))))) (ma_nil))) (ma_nil))))))))
    (mss_one (ms_ret (me_var 2))))⟩
theorem sc__law_chain : FnScope N__law_chain ["_law_tape", "_law_many"] (defScope s__law_chain) := ⟨rfl, rfl, rfl, by decide +kernel, rfl, by decide +kernel, by decide +kernel⟩
theorem ok__law_chain (O : TxOk w K mg T) : FnM (T.G K) P w mg base 2 T.f__law_chain T.d__law_chain ["_law_tape", "_law_many"] m__law_chain := by
  refine fn_m O.F__law_chain sc__law_chain rfl rfl (fun cdv A outer s H E C tk => ?_)
  exact ⟨_, mss_cons (ms_asg (me_mul C (me_lst (ma_cons (me_mul C (me_tup (ma_cons (me_int) (ma_nil))) (me_int)) (ma_nil))) (me_var 1)) (mg_name 2 C.nd))
    (mss_cons (ms_asg (me_rgL C O.n_list O.n_range (me_int) (me_var 1)) (mg_name 3 C.nd))
    (mss_cons (ms_sub gok C (me_var 2) (me_call C (ok__law_next O) df_nil (by decide) O.g__law_next O.F__law_next.kp O.b__law_next (ma_cons (me_var 0) (ma_cons (me_int) (ma_nil)))) (me_add C (me_tup (ma_cons (me_int) (ma_cons (me_int) (ma_nil)))) (me_mul C (me_tup (ma_cons (me_int) (ma_nil))) (me_int))))
    (mss_cons (ms_for C (mi_rng1 O.n_range (ma_cons (me_call C (ok__law_next O) df_nil (by decide) O.g__law_next O.F__law_next.kp O.b__law_next (ma_cons (me_var 0) (ma_cons (me_sub (me_blt (cl_len C) rl_len O.n_len bt_len (ma_cons (me_var 3) (ma_nil))) (me_int)) (ma_nil)))) (ma_nil))) (mg_name 4 C.nd) (mss_cons (ms_asg (me_lst (ma_cons (me_ix gok C (me_var 3) (me_add C (me_var 4) (me_int))) (ma_cons (me_int) (ma_cons (me_int) (ma_cons (me_int) (ma_cons (me_int) (ma_cons (me_int) (ma_cons (me_int) (ma_cons (me_int) (ma_nil)))))))))) (mg_name 5 C.nd))
    (mss_one (ms_sub gok C (me_var 2) (me_ix gok C (me_var 3) (me_var 4)) (me_bty (cl_tuple C) rl_tuple O.n_tuple bt_tuple (ma_cons (me_var 5) (ma_nil)))))))
    (mss_cons (ms_for C (mi_rng1 O.n_range (ma_cons (me_call C (ok__law_next O) df_nil (by decide) O.g__law_next O.F__law_next.kp O.b__law_next (ma_cons (me_var 0) (ma_cons (me_int) (ma_nil)))) (ma_nil))) (mg_name 6 C.nd) (mss_cons (ms_asg (me_call C (ok__law_next O) df_nil (by decide) O.g__law_next O.F__law_next.kp O.b__law_next (ma_cons (me_var 0) (ma_cons (me_var 1) (ma_nil)))) (mg_name 7 C.nd))
    (mss_cons (ms_asg (me_bty (cl_list C) rl_list O.n_list bt_list (ma_cons (me_ix gok C (me_var 2) (me_var 7)) (ma_nil))) (mg_name 5 C.nd))
    (mss_cons (ms_sub gok C (me_var 5) (me_call C (ok__law_next O) df_nil (by decide) O.g__law_next O.F__law_next.kp O.b__law_next (ma_cons (me_var 0) (ma_cons (me_int) (ma_nil)))) (me_ix gok C (me_lst (ma_cons (me_int) (ma_cons (me_add C (me_int) (me_call C (ok__law_next O) df_nil (by decide) O.g__law_next O.F__law_next.kp O.b__law_next (ma_cons (me_var 0) (ma_cons (me_sub (me_var 1) (me_int)) (ma_nil))))) (ma_cons (me_var 1) (ma_cons (me_int) (ma_nil)))))) (me_call C (ok__law_next O) df_nil (by decide) O.g__law_next O.F__law_next.kp O.b__law_next (ma_cons (me_var 0) (ma_cons (me_int) (ma_nil))))))
    (mss_one (ms_sub gok C (me_var 2) (me_var 7) (me_bty (cl_tuple C) rl_tuple O.n_tuple bt_tuple (ma_cons (me_var 5) (ma_nil)))))))))
    (mss_one (ms_ret (me_var 2)))))))⟩
theorem sc__law_owns : FnScope N__law_owns ["_law_kind", "_law_words", "_law_many"] (defScope s__law_owns) := ⟨rfl, rfl, rfl, by decide +kernel, rfl, by decide +kernel, by decide +kernel⟩
theorem ok__law_owns (O : TxOk w K mg T) : FnM (T.G K) P w mg base 1 T.f__law_owns T.d__law_owns ["_law_kind", "_law_words", "_law_many"] m__law_owns := by
  refine fn_m O.F__law_owns sc__law_owns rfl rfl (fun cdv A outer s H E C tk => ?_)
  exact ⟨_, mss_cons (ms_asg (me_lst (ma_nil)) (mg_name 3 C.nd))
    (mss_cons (ms_if ((mw_and (mt_cmp (mc_eq gok C (me_var 0) (me_int))) (mw_and1 (mt_cmp (mc_ne gok C (me_ix gok C (me_var 1) (me_int)) (me_int))))).mt) (mss_cons (ms_asg (me_lst (ma_cons (me_tup (ma_cons (me_ix gok C (me_var 1) (me_int)) (ma_cons (me_ix gok C (me_var 1) (me_int)) (ma_nil)))) (ma_nil))) (mg_name 3 C.nd))
    (mss_one (ms_if (mt_cmp (mc_notin gok C (me_ix gok C (me_var 1) (me_int)) (me_tup (ma_cons (me_int) (ma_cons (me_int) (ma_cons (me_int) (ma_nil))))))) (mss_one (ms_ret (me_non))) (mss_nil)))) (mss_nil))
    (mss_cons (ms_if (mt_cmp (mc_eq gok C (me_var 0) (me_int))) (mss_one (ms_asg (me_add C (me_lc [("_law_word", 6)] C (mi_alt (mi_lst C (me_sl C (me_var 1) (mo_no) (mo_so (me_int)))) (mi_tup C (me_sl C (me_var 1) (mo_no) (mo_so (me_int))))) (blkOk_by (N := N__law_owns) (sc := defScope s__law_owns) (by decide +kernel)) (fun _ _ _ _ _ C => mg_name 6 C.nd) (fun _ _ _ _ _ C => mts_one (mt_cmp (mc_ne gok C (me_var 6) (me_int)))) (fun _ _ _ _ _ C => me_tup (ma_cons (me_var 6) (ma_cons (me_int) (ma_nil)))) (tgw_name (by decide))) (me_lc [("_law_word", 6)] C (mi_alt (mi_lst C (me_sl C (me_var 1) (mo_so (me_int)) (mo_so (me_int)))) (mi_tup C (me_sl C (me_var 1) (mo_so (me_int)) (mo_so (me_int))))) (blkOk_by (N := N__law_owns) (sc := defScope s__law_owns) (by decide +kernel)) (fun _ _ _ _ _ C => mg_name 6 C.nd) (fun _ _ _ _ _ C => mts_one (mt_cmp (mc_ne gok C (me_var 6) (me_int)))) (fun _ _ _ _ _ C => me_tup (ma_cons (me_var 6) (ma_cons (me_int) (ma_nil)))) (tgw_name (by decide)))) (mg_name 3 C.nd))) (mss_nil))
    (mss_cons (ms_if ((mw_and (mt_cmp (mc_eq gok C (me_var 0) (me_int))) (mw_and1 (mt_cmp (mc_eq gok C (me_mod (me_bty call_int1 rl_int O.n_int bt_int (ma_cons (me_ix gok C (me_var 1) (me_int)) (ma_nil))) (me_int)) (me_int))))).mt) (mss_one (ms_setLc 3 [("_law_word", 6)] C (mi_alt (mi_lst C (me_sl C (me_var 1) (mo_no) (mo_so (me_int)))) (mi_tup C (me_sl C (me_var 1) (mo_no) (mo_so (me_int))))) (blkOk_by (N := N__law_owns) (sc := defScope s__law_owns) (by decide +kernel)) (fun _ _ _ _ _ C => mg_name 6 C.nd) (fun _ _ _ _ _ C => mts_one (mt_cmp (mc_ne gok C (me_var 6) (me_int)))) (fun _ _ _ _ _ C => me_tup (ma_cons (me_var 6) (ma_cons (me_int) (ma_nil)))) (tgw_name (by decide)) (sw_true rfl rfl rfl (by decide +kernel)))) (mss_nil))
    (mss_cons (ms_setLc 4 [("_law_row", 7)] C (mi_alt (mi_lst C (me_var 3)) (mi_tup C (me_var 3))) (blkOk_by (N := N__law_owns) (sc := defScope s__law_owns) (by decide +kernel)) (fun _ _ _ _ _ C => mg_name 7 C.nd) (fun _ _ _ _ _ C => mts_nil) (fun _ _ _ _ _ C => me_ix gok C (me_var 7) (me_int)) (tgw_name (by decide)) (sw_true rfl rfl rfl (by decide +kernel)))
    (mss_cons (ms_for C (mi_rng1 O.n_range (ma_cons (me_blt (cl_len C) rl_len O.n_len bt_len (ma_cons (me_var 4) (ma_nil))) (ma_nil))) (mg_name 5 C.nd) (mss_one (ms_if ((mw_or (mt_cmp (mc_lt (me_ix gok C (me_var 4) (me_var 5)) (me_int))) (mw_or (mt_cmp (mc_ge (me_ix gok C (me_var 4) (me_var 5)) (me_var 2))) (mw_or1 (mt_cmp (mc_in gok C (me_ix gok C (me_var 4) (me_var 5)) (me_sl C (me_var 4) (mo_no) (mo_so (me_var 5)))))))).mt) (mss_one (ms_ret (me_non))) (mss_nil))))
    (mss_one (ms_ret (me_var 3))))))))⟩
theorem sc__law_walk : FnScope N__law_walk ["_law_image"] (defScope s__law_walk) := ⟨rfl, rfl, rfl, by decide +kernel, rfl, by decide +kernel, by decide +kernel⟩
theorem ok__law_walk (O : TxOk w K mg T) : FnM (T.G K) P w mg base 2 T.f__law_walk T.d__law_walk ["_law_image"] m__law_walk := by
  refine fn_m O.F__law_walk sc__law_walk rfl rfl (fun cdv A outer s H E C tk => ?_)
  exact ⟨_, mss_cons (ms_asg (me_lst (ma_nil)) (mg_name 1 C.nd))
    (mss_cons (ms_asg (me_lst (ma_nil)) (mg_name 2 C.nd))
    (mss_cons (ms_for C (mi_rng1 O.n_range (ma_cons (me_int) (ma_nil))) (mg_name 3 C.nd) (mss_cons (ms_asg (me_dict) (mg_name 4 C.nd))
    (mss_cons (ms_asg (me_lst (ma_cons (me_tup (ma_cons (me_var 3) (ma_cons (me_non) (ma_cons (me_int) (ma_nil))))) (ma_nil))) (mg_name 5 C.nd))
    (mss_cons (ms_for C (mi_rng1 O.n_range (ma_cons (me_int) (ma_nil))) (mg_name 6 C.nd) (mss_one (ms_if (mt_cmp (mc_lt (me_var 6) (me_blt (cl_len C) rl_len O.n_len bt_len (ma_cons (me_var 5) (ma_nil))))) (mss_cons (ms_asg (me_ix gok C (me_var 5) (me_var 6)) (mg_tup C (mgs_cons (mg_name 7 C.nd) (mgs_cons (mg_name 8 C.nd) (mgs_cons (mg_name 9 C.nd) (mgs_nil)))) (gs_lenS (gs_lenS (gs_lenS gs_len0)))))
    (mss_cons (ms_if (mt_cmp (mc_in gok C (me_var 7) (me_var 2))) (mss_one (ms_ret (me_tup (ma_cons (me_str 2 rfl) (ma_cons (me_var 7) (ma_nil)))))) (mss_nil))
    (mss_cons (ms_asg (me_call C (ok__law_owns O) df_nil (by decide) O.g__law_owns O.F__law_owns.kp O.b__law_owns (ma_cons (me_var 9) (ma_cons (me_ix gok C (me_var 0) (me_var 7)) (ma_cons (me_blt (cl_len C) rl_len O.n_len bt_len (ma_cons (me_var 0) (ma_nil))) (ma_nil))))) (mg_name 10 C.nd))
    (mss_cons (ms_if (mt_cmp (mc_isN (me_var 10))) (mss_one (ms_ret (me_tup (ma_cons (me_str 3 rfl) (ma_cons (me_var 7) (ma_nil)))))) (mss_nil))
    (mss_cons (ms_expr (me_bm C PySem.F.slot_list_append PySem.F.type_list_append mt_append rm_append (me_var 2) (ma_cons (me_var 7) (ma_nil))))
    (mss_cons (ms_sub gok C (me_var 4) (me_var 7) (me_tup (ma_cons (me_var 8) (ma_cons (me_var 9) (ma_nil)))))
    (mss_one (ms_asg (me_add C (me_var 5) (me_lc [("_law_one", 11)] C (mi_alt (mi_lst C (me_var 10)) (mi_tup C (me_var 10))) (blkOk_by (N := N__law_walk) (sc := defScope s__law_walk) (by decide +kernel)) (fun _ _ _ _ _ C => mg_name 11 C.nd) (fun _ _ _ _ _ C => mts_nil) (fun _ _ _ _ _ C => me_tup (ma_cons (me_ix gok C (me_var 11) (me_int)) (ma_cons (me_var 7) (ma_cons (me_ix gok C (me_var 11) (me_int)) (ma_nil))))) (tgw_name (by decide)))) (mg_name 5 C.nd))))))))) (mss_nil))))
    (mss_one (ms_expr (me_bm C PySem.F.slot_list_append PySem.F.type_list_append mt_append rm_append (me_var 1) (ma_cons (me_var 4) (ma_nil)))))))))
    (mss_one (ms_ret (me_tup (ma_cons (me_str 4 rfl) (ma_cons (me_var 1) (ma_nil))))))))⟩
theorem sc_words_of : FnScope N_words_of ["clause", "words"] (defScope s_words_of) := ⟨rfl, rfl, rfl, by decide +kernel, rfl, by decide +kernel, by decide +kernel⟩
theorem ok_words_of (O : TxOk w K mg T) : FnM (T.G K) P w mg base 1 T.f_words_of T.d_words_of ["clause", "words"] m_words_of := by
  refine fn_m O.F_words_of sc_words_of rfl rfl (fun cdv A outer s H E C tk => ?_)
  exact ⟨_, mss_cons (ms_asg (me_var 0) (mg_tup C (mgs_cons (mg_name 2 C.nd) (mgs_cons (mg_name 3 C.nd) (mgs_cons (mg_name 4 C.nd) (mgs_cons (mg_name 5 C.nd) (mgs_nil))))) (gs_lenS (gs_lenS (gs_lenS (gs_lenS gs_len0))))))
    (mss_cons (ms_for C (mi_alt (mi_lst C (me_var 2)) (mi_tup C (me_var 2))) (mg_tup C (mgs_cons (mg_name 6 C.nd) (mgs_cons (mg_name 7 C.nd) (mgs_cons (mg_name 8 C.nd) (mgs_nil)))) (gs_lenS (gs_lenS (gs_lenS gs_len0)))) (mss_one (ms_if (mt_cmp (mc_ne gok C (me_and (me_ix gok C (me_var 1) (me_var 6)) (me_var 7)) (me_var 8))) (mss_one (ms_ret (me_tup (ma_nil)))) (mss_nil))))
    (mss_cons (ms_if (mt_tr C (me_isi C .tup (by decide) O.n_isinstance O.n_tuple bt_ty_tup (me_var 4))) (mss_one (ms_asg (me_ix gok C (me_var 1) (me_ix gok C (me_var 4) (me_int))) (mg_name 4 C.nd))) (mss_nil))
    (mss_one (ms_ret (me_sl C (me_var 1) (mo_so (me_var 3)) (mo_so (me_blt (call_min2 rfl) rl_min2 O.n_min bt_min (ma_cons (me_glob 8 O.k_WORDS) (ma_cons (me_add C (me_var 3) (me_var 4)) (ma_nil))))))))))⟩
theorem sc_is_block : FnScope N_is_block ["word", "blocks"] (defScope s_is_block) := ⟨rfl, rfl, rfl, by decide +kernel, rfl, by decide +kernel, by decide +kernel⟩
theorem ok_is_block (O : TxOk w K mg T) : FnM (T.G K) P w mg base 1 T.f_is_block T.d_is_block ["word", "blocks"] m_is_block := by
  refine fn_m O.F_is_block sc_is_block rfl rfl (fun cdv A outer s H E C tk => ?_)
  exact ⟨_, mss_one (ms_ret (me_chLeLt (me_glob 4 O.k_ENVIRONMENTS) (me_var 0) (me_var 1)))⟩
theorem sc_run_program : FnScope N_run_program ["program", "words", "blocks", "own"] (defScope s_run_program) := ⟨rfl, rfl, rfl, by decide +kernel, rfl, by decide +kernel, by decide +kernel⟩
theorem ok_run_program (O : TxOk w K mg T) : FnM (T.G K) P w mg base 2 T.f_run_program T.d_run_program ["program", "words", "blocks", "own"] m_run_program := by
  refine fn_m O.F_run_program sc_run_program rfl rfl (fun cdv A outer s H E C tk => ?_)
  exact ⟨_, mss_cons (ms_asg (me_lst (ma_nil)) (mg_name 4 C.nd))
    (mss_cons (ms_asg (me_dict) (mg_name 5 C.nd))
    (mss_cons (ms_for C (mi_alt (mi_lst C (me_var 0)) (mi_tup C (me_var 0))) (mg_name 6 C.nd) (mss_cons (ms_asg (me_ix gok C (me_var 6) (me_int)) (mg_name 7 C.nd))
    (mss_cons (ms_if (mt_cmp (mc_eq gok C (me_var 7) (me_globS 1 O.k_OWN rfl))) (mss_one (ms_asg (me_var 3) (mg_name 7 C.nd))) (mss_nil))
    (mss_one (ms_for C (mi_alt (mi_lst C (me_call C (ok_words_of O) df_nil (by decide) O.g_words_of O.F_words_of.kp O.b_words_of (ma_cons (me_var 6) (ma_cons (me_var 1) (ma_nil))))) (mi_tup C (me_call C (ok_words_of O) df_nil (by decide) O.g_words_of O.F_words_of.kp O.b_words_of (ma_cons (me_var 6) (ma_cons (me_var 1) (ma_nil)))))) (mg_name 8 C.nd) (mss_one (ms_if (mt_cmp (mc_ne gok C (me_var 8) (me_int))) (mss_cons (ms_if ((mw_or (mt_not (mt_tr C (me_call C (ok_is_block O) df_nil (by decide) O.g_is_block O.F_is_block.kp O.b_is_block (ma_cons (me_var 8) (ma_cons (me_var 2) (ma_nil)))))) (mw_or1 (mt_cmp (mc_in gok C (me_var 8) (me_var 5))))).mt) (mss_one (ms_ret (me_non))) (mss_nil))
    (mss_cons (ms_sub gok C (me_var 5) (me_var 8) (me_bl))
    (mss_one (ms_expr (me_bm C PySem.F.slot_list_append PySem.F.type_list_append mt_append rm_append (me_var 4) (ma_cons (me_tup (ma_cons (me_var 8) (ma_cons (me_var 7) (ma_nil)))) (ma_nil))))))) (mss_nil))))))))
    (mss_one (ms_ret (me_bty (cl_tuple C) rl_tuple O.n_tuple bt_tuple (ma_cons (me_var 4) (ma_nil)))))))⟩
theorem sc_Types_is_known : FnScope N_Types_is_known ["self", "number"] (defScope s_Types_is_known) := ⟨rfl, rfl, rfl, by decide +kernel, rfl, by decide +kernel, by decide +kernel⟩
theorem ok_Types_is_known (O : TxOk w K mg T) : FnM (T.G K) P w mg base 2 T.f_Types_is_known T.d_Types_is_known ["self", "number"] m_Types_is_known := by
  refine fn_m O.F_Types_is_known sc_Types_is_known rfl rfl (fun cdv A outer s H E C tk => ?_)
  exact ⟨_, mss_one (ms_ret (me_andV (me_call C (ok_is_number O) df_nil (by decide) O.g_is_number O.F_is_number.kp O.b_is_number (ma_cons (me_var 1) (ma_nil))) (me_one (me_chLeLt (me_int) (me_var 1) (me_meth0 C (ok_Types_count O) 0 rfl O.cl_Types O.M_Types_count df_nil (by decide) O.b_Types_count (me_var 0))))))⟩
theorem sc_Types_owned : FnScope N_Types_owned ["self", "number", "words"] (defScope s_Types_owned) := ⟨rfl, rfl, rfl, by decide +kernel, rfl, by decide +kernel, by decide +kernel⟩
theorem ok_Types_owned (O : TxOk w K mg T) : FnM (T.G K) P w mg base 3 T.f_Types_owned T.d_Types_owned ["self", "number", "words"] m_Types_owned := by
  refine fn_m O.F_Types_owned sc_Types_owned rfl rfl (fun cdv A outer s H E C tk => ?_)
  exact ⟨_, mss_cons (ms_if (mt_cmp (mc_eq gok C (me_var 1) (me_glob 0 O.k_DATA))) (mss_one (ms_ret (me_tup (ma_nil)))) (mss_nil))
    (mss_cons (ms_if (mt_cmp (mc_ne gok C (me_var 1) (me_glob 1 O.k_ROOT))) (mss_one (ms_ret (me_call C (ok_run_program O) df_nil (by decide) O.g_run_program O.F_run_program.kp O.b_run_program (ma_cons (me_ix gok C (me_fld gok C 1 rfl (me_var 0)) (me_sub (me_var 1) (me_glob 2 O.k_FIRST_TYPE))) (ma_cons (me_var 2) (ma_cons (me_fld gok C 0 rfl (me_var 0)) (ma_cons (me_var 1) (ma_nil)))))))) (mss_nil))
    (mss_cons (ms_if (mt_cmp (mc_eq gok C (me_ix gok C (me_var 2) (me_int)) (me_int))) (mss_one (ms_ret (me_tup (ma_nil)))) (mss_nil))
    (mss_cons (ms_if ((mw_or (mt_not (mt_tr C (me_call C (ok_is_block O) df_nil (by decide) O.g_is_block O.F_is_block.kp O.b_is_block (ma_cons (me_ix gok C (me_var 2) (me_int)) (ma_cons (me_fld gok C 0 rfl (me_var 0)) (ma_nil)))))) (mw_or (mt_not (mt_tr C (me_meth C (ok_Types_is_known O) 0 rfl O.cl_Types O.M_Types_is_known df_nil (by decide) O.b_Types_is_known (me_var 0) (ma_cons (me_ix gok C (me_var 2) (me_int)) (ma_nil))))) (mw_or1 (mt_cmp (mc_eq gok C (me_ix gok C (me_var 2) (me_int)) (me_glob 1 O.k_ROOT)))))).mt) (mss_one (ms_ret (me_non))) (mss_nil))
    (mss_one (ms_ret (me_tup (ma_cons (me_tup (ma_cons (me_ix gok C (me_var 2) (me_int)) (ma_cons (me_ix gok C (me_var 2) (me_int)) (ma_nil)))) (ma_nil))))))))⟩
theorem sc_forest_of : FnScope N_forest_of ["image", "types", "environment", "reached"] (defScope s_forest_of) := ⟨rfl, rfl, rfl, by decide +kernel, rfl, by decide +kernel, by decide +kernel⟩
theorem ok_forest_of (O : TxOk w K mg T) : FnM (T.G K) P w mg base 4 T.f_forest_of T.d_forest_of ["image", "types", "environment", "reached"] m_forest_of := by
  refine fn_m O.F_forest_of sc_forest_of rfl rfl (fun cdv A outer s H E C tk => ?_)
  exact ⟨_, mss_cons (ms_asg (me_dict) (mg_name 4 C.nd))
    (mss_cons (ms_asg (me_lst (ma_cons (me_tup (ma_cons (me_var 2) (ma_cons (me_non) (ma_cons (me_glob 1 O.k_ROOT) (ma_nil))))) (ma_nil))) (mg_name 5 C.nd))
    (mss_cons (ms_while 100000 C (mt_tr C (me_var 5)) (mss_cons (ms_asg (me_bm C PySem.F.slot_list_pop PySem.F.type_list_pop mt_popAt rm_popAt (me_var 5) (ma_cons (me_int) (ma_nil))) (mg_tup C (mgs_cons (mg_name 6 C.nd) (mgs_cons (mg_name 7 C.nd) (mgs_cons (mg_name 8 C.nd) (mgs_nil)))) (gs_lenS (gs_lenS (gs_lenS gs_len0)))))
    (mss_cons (ms_if (mt_cmp (mc_in gok C (me_var 6) (me_var 3))) (mss_one (ms_ret (me_tup (ma_cons (me_str 2 rfl) (ma_cons (me_var 6) (ma_nil)))))) (mss_nil))
    (mss_cons (ms_sub gok C (me_var 3) (me_var 6) (me_bl))
    (mss_cons (ms_sub gok C (me_var 4) (me_var 6) (me_tup (ma_cons (me_var 7) (ma_cons (me_var 8) (ma_nil)))))
    (mss_cons (ms_asg (me_meth C (ok_Types_owned O) 0 rfl O.cl_Types O.M_Types_owned df_nil (by decide) O.b_Types_owned (me_var 1) (ma_cons (me_var 8) (ma_cons (me_ix gok C (me_var 0) (me_var 6)) (ma_nil)))) (mg_name 9 C.nd))
    (mss_cons (ms_if (mt_cmp (mc_isN (me_var 9))) (mss_one (ms_ret (me_tup (ma_cons (me_str 3 rfl) (ma_cons (me_var 6) (ma_nil)))))) (mss_nil))
    (mss_one (ms_for C (mi_alt (mi_lst C (me_var 9)) (mi_tup C (me_var 9))) (mg_tup C (mgs_cons (mg_name 10 C.nd) (mgs_cons (mg_name 11 C.nd) (mgs_nil))) (gs_lenS (gs_lenS gs_len0))) (mss_one (ms_expr (me_bm C PySem.F.slot_list_append PySem.F.type_list_append mt_append rm_append (me_var 5) (ma_cons (me_tup (ma_cons (me_var 10) (ma_cons (me_var 6) (ma_cons (me_var 11) (ma_nil))))) (ma_nil))))))))))))))
    (mss_one (ms_ret (me_var 4)))))⟩
theorem sc_forests : FnScope N_forests ["image", "types"] (defScope s_forests) := ⟨rfl, rfl, rfl, by decide +kernel, rfl, by decide +kernel, by decide +kernel⟩
theorem ok_forests (O : TxOk w K mg T) : FnM (T.G K) P w mg base 5 T.f_forests T.d_forests ["image", "types"] m_forests := by
  refine fn_m O.F_forests sc_forests rfl rfl (fun cdv A outer s H E C tk => ?_)
  exact ⟨_, mss_cons (ms_asg (me_dict) (mg_name 2 C.nd))
    (mss_cons (ms_asg (me_lst (ma_nil)) (mg_name 3 C.nd))
    (mss_cons (ms_for C (mi_rng1 O.n_range (ma_cons (me_glob 4 O.k_ENVIRONMENTS) (ma_nil))) (mg_name 4 C.nd) (mss_cons (ms_asg (me_call C (ok_forest_of O) df_nil (by decide) O.g_forest_of O.F_forest_of.kp O.b_forest_of (ma_cons (me_var 0) (ma_cons (me_var 1) (ma_cons (me_var 4) (ma_cons (me_var 2) (ma_nil)))))) (mg_name 5 C.nd))
    (mss_cons (ms_if (mt_tr C (me_isi C .tup (by decide) O.n_isinstance O.n_tuple bt_ty_tup (me_var 5))) (mss_one (ms_ret (me_var 5))) (mss_nil))
    (mss_one (ms_expr (me_bm C PySem.F.slot_list_append PySem.F.type_list_append mt_append rm_append (me_var 3) (ma_cons (me_var 5) (ma_nil))))))))
    (mss_one (ms_ret (me_tup (ma_cons (me_str 4 rfl) (ma_cons (me_var 3) (ma_nil))))))))⟩
theorem sc_unreached : FnScope N_unreached ["image", "types"] (defScope s_unreached) := ⟨rfl, rfl, rfl, by decide +kernel, rfl, by decide +kernel, by decide +kernel⟩
theorem ok_unreached (O : TxOk w K mg T) : FnM (T.G K) P w mg base 6 T.f_unreached T.d_unreached ["image", "types"] m_unreached := by
  refine fn_m O.F_unreached sc_unreached rfl rfl (fun cdv A outer s H E C tk => ?_)
  exact ⟨_, mss_cons (ms_asg (me_dict) (mg_name 2 C.nd))
    (mss_cons (ms_for C (mi_alt (mi_lst C (me_ix gok C (me_call C (ok_forests O) df_nil (by decide) O.g_forests O.F_forests.kp O.b_forests (ma_cons (me_var 0) (ma_cons (me_var 1) (ma_nil)))) (me_int))) (mi_tup C (me_ix gok C (me_call C (ok_forests O) df_nil (by decide) O.g_forests O.F_forests.kp O.b_forests (ma_cons (me_var 0) (ma_cons (me_var 1) (ma_nil)))) (me_int)))) (mg_name 3 C.nd) (mss_one (ms_expr (me_update gok C (me_var 2) (me_var 3)))))
    (mss_one (ms_ret (me_lc [("block", 4)] C (mi_rng2 O.n_range (ma_cons (me_glob 4 O.k_ENVIRONMENTS) (ma_cons (me_blt (cl_len C) rl_len O.n_len bt_len (ma_cons (me_var 0) (ma_nil))) (ma_nil)))) (blkOk_by (N := N_unreached) (sc := defScope s_unreached) (by decide +kernel)) (fun _ _ _ _ _ C => mg_name 4 C.nd) (fun _ _ _ _ _ C => mts_one (mt_cmp (mc_notin gok C (me_var 4) (me_var 2)))) (fun _ _ _ _ _ C => me_var 4) (tgw_name (by decide))))))⟩
theorem sc_law : FnScope N_law ["_law_script"] (defScope s_law) := ⟨rfl, rfl, rfl, by decide +kernel, rfl, by decide +kernel, by decide +kernel⟩
theorem ok_law (O : TxOk w K mg T) : FnM (T.G K) P w mg base 8 T.f_law T.d_law ["_law_script"] m_law := by
  refine fn_m O.F_law sc_law rfl rfl (fun cdv A outer s H E C tk => ?_)
  exact ⟨_, mss_cons (ms_asg (me_lst (ma_cons (me_bty (cl_list C) rl_list O.n_list bt_list (ma_cons (me_var 0) (ma_nil))) (ma_cons (me_int) (ma_cons (me_int) (ma_cons (me_int) (ma_nil)))))) (mg_name 1 C.nd))
    (mss_cons (ms_asg (me_add C (me_int) (me_call C (ok__law_next O) df_nil (by decide) O.g__law_next O.F__law_next.kp O.b__law_next (ma_cons (me_var 1) (ma_cons (me_int) (ma_nil))))) (mg_name 2 C.nd))
    (mss_cons (ms_asg (me_call C (ok__law_types O) df_nil (by decide) O.g__law_types O.F__law_types.kp O.b__law_types (ma_cons (me_var 2) (ma_nil))) (mg_name 3 C.nd))
    (mss_cons (ms_for C (mi_rng1 O.n_range (ma_cons (me_int) (ma_nil))) (mg_name 4 C.nd) (mss_cons (ms_asg (me_call C (ok__law_drawn O) df_nil (by decide) O.g__law_drawn O.F__law_drawn.kp O.b__law_drawn (ma_cons (me_var 1) (ma_cons (me_var 2) (ma_nil)))) (mg_name 5 C.nd))
    (mss_cons (ms_if (mt_cmp (mc_eq gok C (me_call C (ok__law_next O) df_nil (by decide) O.g__law_next O.F__law_next.kp O.b__law_next (ma_cons (me_var 1) (ma_cons (me_int) (ma_nil)))) (me_int))) (mss_one (ms_asg (me_call C (ok__law_chain O) df_nil (by decide) O.g__law_chain O.F__law_chain.kp O.b__law_chain (ma_cons (me_var 1) (ma_cons (me_var 2) (ma_nil)))) (mg_name 5 C.nd))) (mss_nil))
    (mss_cons (ms_asg (me_bty (cl_list C) rl_list O.n_list bt_list (ma_cons (me_var 5) (ma_nil))) (mg_name 6 C.nd))
    (mss_cons (ms_asg (me_call C (ok__law_walk O) df_nil (by decide) O.g__law_walk O.F__law_walk.kp O.b__law_walk (ma_cons (me_var 5) (ma_nil))) (mg_name 7 C.nd))
    (mss_cons (ms_if ((mw_or (mt_cmp (mc_neH gok C (me_call C (ok_forests O) df_nil (by decide) O.g_forests O.F_forests.kp O.b_forests (ma_cons (me_var 5) (ma_cons (me_var 3) (ma_nil)))) (me_var 7))) (mw_or1 (mt_cmp (mc_ne gok C (me_var 5) (me_var 6))))).mt) (mss_one (ms_ret (me_bl))) (mss_nil))
    (mss_one (ms_if (mt_cmp (mc_eq gok C (me_ix gok C (me_var 7) (me_int)) (me_str 4 rfl))) (mss_cons (ms_asg (me_lst (ma_nil)) (mg_name 8 C.nd))
    (mss_cons (ms_for C (mi_alt (mi_lst C (me_ix gok C (me_var 7) (me_int))) (mi_tup C (me_ix gok C (me_var 7) (me_int)))) (mg_name 9 C.nd) (mss_one (ms_asg (me_add C (me_var 8) (me_bty (call_listD C.calm) rl_listD O.n_list bt_list (ma_cons (me_var 9) (ma_nil)))) (mg_name 8 C.nd))))
    (mss_one (ms_if (mt_cmp (mc_ne gok C (me_call C (ok_unreached O) df_nil (by decide) O.g_unreached O.F_unreached.kp O.b_unreached (ma_cons (me_var 5) (ma_cons (me_var 3) (ma_nil)))) (me_lc [("_law_block", 10)] C (mi_rng2 O.n_range (ma_cons (me_int) (ma_cons (me_var 2) (ma_nil)))) (blkOk_by (N := N_law) (sc := defScope s_law) (by decide +kernel)) (fun _ _ _ _ _ C => mg_name 10 C.nd) (fun _ _ _ _ _ C => mts_one (mt_cmp (mc_notin gok C (me_var 10) (me_var 8)))) (fun _ _ _ _ _ C => me_var 10) (tgw_name (by decide))))) (mss_one (ms_ret (me_bl))) (mss_nil))))) (mss_nil)))))))))
    (mss_one (ms_ret (me_bl))))))⟩
end
theorem all_mk {l : PySem.W.OpenLaw} {w : World} {K : PySem.W.Frag} {h : PySem.Heap} {mg : Str → Option Value} {fa : Addr} (X : K.In h) (G : h.Ns mainGlobals mg) (hfa : mg "law" = some (.ref fa))
    {f0 : Addr} {oc0 kV0 dc0 pm0 cd0 ct0 : Value} {od0 an0 : Option Addr} {sl0 : Array (Option Value)} {f1 : Addr} {oc1 kV1 dc1 pm1 cd1 ct1 : Value} {od1 an1 : Option Addr} {sl1 : Array (Option Value)} {f2 : Addr} {oc2 kV2 dc2 pm2 cd2 ct2 : Value} {od2 an2 : Option Addr} {sl2 : Array (Option Value)} {f3 : Addr} {oc3 kV3 dc3 pm3 cd3 ct3 : Value} {od3 an3 : Option Addr} {sl3 : Array (Option Value)} {f4 : Addr} {oc4 kV4 dc4 pm4 cd4 ct4 : Value} {od4 an4 : Option Addr} {sl4 : Array (Option Value)} {f5 : Addr} {oc5 kV5 dc5 pm5 cd5 ct5 : Value} {od5 an5 : Option Addr} {sl5 : Array (Option Value)} {f6 : Addr} {oc6 kV6 dc6 pm6 cd6 ct6 : Value} {od6 an6 : Option Addr} {sl6 : Array (Option Value)} {f7 : Addr} {oc7 kV7 dc7 pm7 cd7 ct7 : Value} {od7 an7 : Option Addr} {sl7 : Array (Option Value)} {f8 : Addr} {oc8 kV8 dc8 pm8 cd8 ct8 : Value} {od8 an8 : Option Addr} {sl8 : Array (Option Value)} {f9 : Addr} {oc9 kV9 dc9 pm9 cd9 ct9 : Value} {od9 an9 : Option Addr} {sl9 : Array (Option Value)} {f10 : Addr} {oc10 kV10 dc10 pm10 cd10 ct10 : Value} {od10 an10 : Option Addr} {sl10 : Array (Option Value)} {f11 : Addr} {oc11 kV11 dc11 pm11 cd11 ct11 : Value} {od11 an11 : Option Addr} {sl11 : Array (Option Value)} {f12 : Addr} {oc12 kV12 dc12 pm12 cd12 ct12 : Value} {od12 an12 : Option Addr} {sl12 : Array (Option Value)} {f13 : Addr} {oc13 kV13 dc13 pm13 cd13 ct13 : Value} {od13 an13 : Option Addr} {sl13 : Array (Option Value)} {f14 : Addr} {oc14 kV14 dc14 pm14 cd14 ct14 : Value} {od14 an14 : Option Addr} {sl14 : Array (Option Value)} {f15 : Addr} {oc15 kV15 dc15 pm15 cd15 ct15 : Value} {od15 an15 : Option Addr} {sl15 : Array (Option Value)} {f16 : Addr} {oc16 kV16 dc16 pm16 cd16 ct16 : Value} {od16 an16 : Option Addr} {sl16 : Array (Option Value)} {f17 : Addr} {oc17 kV17 dc17 pm17 cd17 ct17 : Value} {od17 an17 : Option Addr} {sl17 : Array (Option Value)} {f18 : Addr} {oc18 kV18 dc18 pm18 cd18 ct18 : Value} {od18 an18 : Option Addr} {sl18 : Array (Option Value)} {f19 : Addr} {oc19 kV19 dc19 pm19 cd19 ct19 : Value} {od19 an19 : Option Addr} {sl19 : Array (Option Value)} {f20 : Addr} {oc20 kV20 dc20 pm20 cd20 ct20 : Value} {od20 an20 : Option Addr} {sl20 : Array (Option Value)} {f21 : Addr} {oc21 kV21 dc21 pm21 cd21 ct21 : Value} {od21 an21 : Option Addr} {sl21 : Array (Option Value)} {f22 : Addr} {oc22 kV22 dc22 pm22 cd22 ct22 : Value} {od22 an22 : Option Addr} {sl22 : Array (Option Value)} {f23 : Addr} {oc23 kV23 dc23 pm23 cd23 ct23 : Value} {od23 an23 : Option Addr} {sl23 : Array (Option Value)} {f24 : Addr} {oc24 kV24 dc24 pm24 cd24 ct24 : Value} {od24 an24 : Option Addr} {sl24 : Array (Option Value)} {CTypes : Addr} {tDATA tENVIRONMENTS tFIRST_TYPE tMOST_CLAUSES tMOST_GUARDS tMOST_TYPES tOWN tROOT tTOP tWORDS : Tok} 
    (ATypes : PySem.W.nsIn K mainGlobals "Types" = some (some (.ref CTypes)))
    (a0 : PySem.W.nsIn K mainGlobals "_law_next" = some (some (.ref f0)))
    (a1 : PySem.W.findIn K (.ref CTypes) "__init__" = some (some (.ref f1)))
    (i1 : PySem.W.isFn K (.ref f1) = true)
    (a2 : PySem.W.nsIn K mainGlobals "is_number" = some (some (.ref f2)))
    (a3 : PySem.W.nsIn K mainGlobals "is_index" = some (some (.ref f3)))
    (a4 : PySem.W.nsIn K mainGlobals "is_word" = some (some (.ref f4)))
    (a5 : PySem.W.nsIn K mainGlobals "is_guard" = some (some (.ref f5)))
    (a6 : PySem.W.nsIn K mainGlobals "is_many" = some (some (.ref f6)))
    (a7 : PySem.W.nsIn K mainGlobals "is_clause" = some (some (.ref f7)))
    (a8 : PySem.W.nsIn K mainGlobals "is_program" = some (some (.ref f8)))
    (a9 : PySem.W.findIn K (.ref CTypes) "count" = some (some (.ref f9)))
    (i9 : PySem.W.isFn K (.ref f9) = true)
    (a10 : PySem.W.findIn K (.ref CTypes) "add" = some (some (.ref f10)))
    (i10 : PySem.W.isFn K (.ref f10) = true)
    (a11 : PySem.W.nsIn K mainGlobals "_law_types" = some (some (.ref f11)))
    (a12 : PySem.W.nsIn K mainGlobals "_law_drawn" = some (some (.ref f12)))
    (a13 : PySem.W.nsIn K mainGlobals "_law_chain" = some (some (.ref f13)))
    (a14 : PySem.W.nsIn K mainGlobals "_law_owns" = some (some (.ref f14)))
    (a15 : PySem.W.nsIn K mainGlobals "_law_walk" = some (some (.ref f15)))
    (a16 : PySem.W.nsIn K mainGlobals "words_of" = some (some (.ref f16)))
    (a17 : PySem.W.nsIn K mainGlobals "is_block" = some (some (.ref f17)))
    (a18 : PySem.W.nsIn K mainGlobals "run_program" = some (some (.ref f18)))
    (a19 : PySem.W.findIn K (.ref CTypes) "is_known" = some (some (.ref f19)))
    (i19 : PySem.W.isFn K (.ref f19) = true)
    (a20 : PySem.W.findIn K (.ref CTypes) "owned" = some (some (.ref f20)))
    (i20 : PySem.W.isFn K (.ref f20) = true)
    (a21 : PySem.W.nsIn K mainGlobals "forest_of" = some (some (.ref f21)))
    (a22 : PySem.W.nsIn K mainGlobals "forests" = some (some (.ref f22)))
    (a23 : PySem.W.nsIn K mainGlobals "unreached" = some (some (.ref f23)))
    (a24 : PySem.W.nsIn K mainGlobals "law" = some (some (.ref f24)))
    (KDATA : PySem.W.nsIn K mainGlobals "DATA" = some (some (.int 0 tDATA)))
    (KENVIRONMENTS : PySem.W.nsIn K mainGlobals "ENVIRONMENTS" = some (some (.int 4 tENVIRONMENTS)))
    (KFIRST_TYPE : PySem.W.nsIn K mainGlobals "FIRST_TYPE" = some (some (.int 2 tFIRST_TYPE)))
    (KMOST_CLAUSES : PySem.W.nsIn K mainGlobals "MOST_CLAUSES" = some (some (.int 8 tMOST_CLAUSES)))
    (KMOST_GUARDS : PySem.W.nsIn K mainGlobals "MOST_GUARDS" = some (some (.int 4 tMOST_GUARDS)))
    (KMOST_TYPES : PySem.W.nsIn K mainGlobals "MOST_TYPES" = some (some (.int 4 tMOST_TYPES)))
    (KOWN : PySem.W.nsIn K mainGlobals "OWN" = some (some (.str "own" tOWN)))
    (KROOT : PySem.W.nsIn K mainGlobals "ROOT" = some (some (.int 1 tROOT)))
    (KTOP : PySem.W.nsIn K mainGlobals "TOP" = some (some (.int 4294967295 tTOP)))
    (KWORDS : PySem.W.nsIn K mainGlobals "WORDS" = some (some (.int 8 tWORDS)))
    (l0 : K.lookup f0 = some ⟨oc0, od0, .func (PySem.W.fnOf "_law_next" "_law_next" (defArgs s__law_next) (defBody s__law_next) (defScope s__law_next) .none kV0 dc0 pm0 an0 cd0 ct0), sl0⟩)
    (c0 : PySem.W.codeIn K cd0 "_law_next" = true)
    (k0 : PySem.W.keepIn K (.ref f0) = true)
    (l1 : K.lookup f1 = some ⟨oc1, od1, .func (PySem.W.fnOf "__init__" "Types.__init__" (defArgs s_Types___init__) (defBody s_Types___init__) (defScope s_Types___init__) .none kV1 dc1 pm1 an1 cd1 ct1), sl1⟩)
    (c1 : PySem.W.codeIn K cd1 "Types.__init__" = true)
    (k1 : PySem.W.keepIn K (.ref f1) = true)
    (l2 : K.lookup f2 = some ⟨oc2, od2, .func (PySem.W.fnOf "is_number" "is_number" (defArgs s_is_number) (defBody s_is_number) (defScope s_is_number) .none kV2 dc2 pm2 an2 cd2 ct2), sl2⟩)
    (c2 : PySem.W.codeIn K cd2 "is_number" = true)
    (k2 : PySem.W.keepIn K (.ref f2) = true)
    (l3 : K.lookup f3 = some ⟨oc3, od3, .func (PySem.W.fnOf "is_index" "is_index" (defArgs s_is_index) (defBody s_is_index) (defScope s_is_index) .none kV3 dc3 pm3 an3 cd3 ct3), sl3⟩)
    (c3 : PySem.W.codeIn K cd3 "is_index" = true)
    (k3 : PySem.W.keepIn K (.ref f3) = true)
    (l4 : K.lookup f4 = some ⟨oc4, od4, .func (PySem.W.fnOf "is_word" "is_word" (defArgs s_is_word) (defBody s_is_word) (defScope s_is_word) .none kV4 dc4 pm4 an4 cd4 ct4), sl4⟩)
    (c4 : PySem.W.codeIn K cd4 "is_word" = true)
    (k4 : PySem.W.keepIn K (.ref f4) = true)
    (l5 : K.lookup f5 = some ⟨oc5, od5, .func (PySem.W.fnOf "is_guard" "is_guard" (defArgs s_is_guard) (defBody s_is_guard) (defScope s_is_guard) .none kV5 dc5 pm5 an5 cd5 ct5), sl5⟩)
    (c5 : PySem.W.codeIn K cd5 "is_guard" = true)
    (k5 : PySem.W.keepIn K (.ref f5) = true)
    (l6 : K.lookup f6 = some ⟨oc6, od6, .func (PySem.W.fnOf "is_many" "is_many" (defArgs s_is_many) (defBody s_is_many) (defScope s_is_many) .none kV6 dc6 pm6 an6 cd6 ct6), sl6⟩)
    (c6 : PySem.W.codeIn K cd6 "is_many" = true)
    (k6 : PySem.W.keepIn K (.ref f6) = true)
    (l7 : K.lookup f7 = some ⟨oc7, od7, .func (PySem.W.fnOf "is_clause" "is_clause" (defArgs s_is_clause) (defBody s_is_clause) (defScope s_is_clause) .none kV7 dc7 pm7 an7 cd7 ct7), sl7⟩)
    (c7 : PySem.W.codeIn K cd7 "is_clause" = true)
    (k7 : PySem.W.keepIn K (.ref f7) = true)
    (l8 : K.lookup f8 = some ⟨oc8, od8, .func (PySem.W.fnOf "is_program" "is_program" (defArgs s_is_program) (defBody s_is_program) (defScope s_is_program) .none kV8 dc8 pm8 an8 cd8 ct8), sl8⟩)
    (c8 : PySem.W.codeIn K cd8 "is_program" = true)
    (k8 : PySem.W.keepIn K (.ref f8) = true)
    (l9 : K.lookup f9 = some ⟨oc9, od9, .func (PySem.W.fnOf "count" "Types.count" (defArgs s_Types_count) (defBody s_Types_count) (defScope s_Types_count) .none kV9 dc9 pm9 an9 cd9 ct9), sl9⟩)
    (c9 : PySem.W.codeIn K cd9 "Types.count" = true)
    (k9 : PySem.W.keepIn K (.ref f9) = true)
    (l10 : K.lookup f10 = some ⟨oc10, od10, .func (PySem.W.fnOf "add" "Types.add" (defArgs s_Types_add) (defBody s_Types_add) (defScope s_Types_add) .none kV10 dc10 pm10 an10 cd10 ct10), sl10⟩)
    (c10 : PySem.W.codeIn K cd10 "Types.add" = true)
    (k10 : PySem.W.keepIn K (.ref f10) = true)
    (l11 : K.lookup f11 = some ⟨oc11, od11, .func (PySem.W.fnOf "_law_types" "_law_types" (defArgs s__law_types) (defBody s__law_types) (defScope s__law_types) .none kV11 dc11 pm11 an11 cd11 ct11), sl11⟩)
    (c11 : PySem.W.codeIn K cd11 "_law_types" = true)
    (k11 : PySem.W.keepIn K (.ref f11) = true)
    (l12 : K.lookup f12 = some ⟨oc12, od12, .func (PySem.W.fnOf "_law_drawn" "_law_drawn" (defArgs s__law_drawn) (defBody s__law_drawn) (defScope s__law_drawn) .none kV12 dc12 pm12 an12 cd12 ct12), sl12⟩)
    (c12 : PySem.W.codeIn K cd12 "_law_drawn" = true)
    (k12 : PySem.W.keepIn K (.ref f12) = true)
    (l13 : K.lookup f13 = some ⟨oc13, od13, .func (PySem.W.fnOf "_law_chain" "_law_chain" (defArgs s__law_chain) (defBody s__law_chain) (defScope s__law_chain) .none kV13 dc13 pm13 an13 cd13 ct13), sl13⟩)
    (c13 : PySem.W.codeIn K cd13 "_law_chain" = true)
    (k13 : PySem.W.keepIn K (.ref f13) = true)
    (l14 : K.lookup f14 = some ⟨oc14, od14, .func (PySem.W.fnOf "_law_owns" "_law_owns" (defArgs s__law_owns) (defBody s__law_owns) (defScope s__law_owns) .none kV14 dc14 pm14 an14 cd14 ct14), sl14⟩)
    (c14 : PySem.W.codeIn K cd14 "_law_owns" = true)
    (k14 : PySem.W.keepIn K (.ref f14) = true)
    (l15 : K.lookup f15 = some ⟨oc15, od15, .func (PySem.W.fnOf "_law_walk" "_law_walk" (defArgs s__law_walk) (defBody s__law_walk) (defScope s__law_walk) .none kV15 dc15 pm15 an15 cd15 ct15), sl15⟩)
    (c15 : PySem.W.codeIn K cd15 "_law_walk" = true)
    (k15 : PySem.W.keepIn K (.ref f15) = true)
    (l16 : K.lookup f16 = some ⟨oc16, od16, .func (PySem.W.fnOf "words_of" "words_of" (defArgs s_words_of) (defBody s_words_of) (defScope s_words_of) .none kV16 dc16 pm16 an16 cd16 ct16), sl16⟩)
    (c16 : PySem.W.codeIn K cd16 "words_of" = true)
    (k16 : PySem.W.keepIn K (.ref f16) = true)
    (l17 : K.lookup f17 = some ⟨oc17, od17, .func (PySem.W.fnOf "is_block" "is_block" (defArgs s_is_block) (defBody s_is_block) (defScope s_is_block) .none kV17 dc17 pm17 an17 cd17 ct17), sl17⟩)
    (c17 : PySem.W.codeIn K cd17 "is_block" = true)
    (k17 : PySem.W.keepIn K (.ref f17) = true)
    (l18 : K.lookup f18 = some ⟨oc18, od18, .func (PySem.W.fnOf "run_program" "run_program" (defArgs s_run_program) (defBody s_run_program) (defScope s_run_program) .none kV18 dc18 pm18 an18 cd18 ct18), sl18⟩)
    (c18 : PySem.W.codeIn K cd18 "run_program" = true)
    (k18 : PySem.W.keepIn K (.ref f18) = true)
    (l19 : K.lookup f19 = some ⟨oc19, od19, .func (PySem.W.fnOf "is_known" "Types.is_known" (defArgs s_Types_is_known) (defBody s_Types_is_known) (defScope s_Types_is_known) .none kV19 dc19 pm19 an19 cd19 ct19), sl19⟩)
    (c19 : PySem.W.codeIn K cd19 "Types.is_known" = true)
    (k19 : PySem.W.keepIn K (.ref f19) = true)
    (l20 : K.lookup f20 = some ⟨oc20, od20, .func (PySem.W.fnOf "owned" "Types.owned" (defArgs s_Types_owned) (defBody s_Types_owned) (defScope s_Types_owned) .none kV20 dc20 pm20 an20 cd20 ct20), sl20⟩)
    (c20 : PySem.W.codeIn K cd20 "Types.owned" = true)
    (k20 : PySem.W.keepIn K (.ref f20) = true)
    (l21 : K.lookup f21 = some ⟨oc21, od21, .func (PySem.W.fnOf "forest_of" "forest_of" (defArgs s_forest_of) (defBody s_forest_of) (defScope s_forest_of) .none kV21 dc21 pm21 an21 cd21 ct21), sl21⟩)
    (c21 : PySem.W.codeIn K cd21 "forest_of" = true)
    (k21 : PySem.W.keepIn K (.ref f21) = true)
    (l22 : K.lookup f22 = some ⟨oc22, od22, .func (PySem.W.fnOf "forests" "forests" (defArgs s_forests) (defBody s_forests) (defScope s_forests) .none kV22 dc22 pm22 an22 cd22 ct22), sl22⟩)
    (c22 : PySem.W.codeIn K cd22 "forests" = true)
    (k22 : PySem.W.keepIn K (.ref f22) = true)
    (l23 : K.lookup f23 = some ⟨oc23, od23, .func (PySem.W.fnOf "unreached" "unreached" (defArgs s_unreached) (defBody s_unreached) (defScope s_unreached) .none kV23 dc23 pm23 an23 cd23 ct23), sl23⟩)
    (c23 : PySem.W.codeIn K cd23 "unreached" = true)
    (k23 : PySem.W.keepIn K (.ref f23) = true)
    (l24 : K.lookup f24 = some ⟨oc24, od24, .func (PySem.W.fnOf "law" "law" (defArgs s_law) (defBody s_law) (defScope s_law) .none kV24 dc24 pm24 an24 cd24 ct24), sl24⟩)
    (c24 : PySem.W.codeIn K cd24 "law" = true)
    (k24 : PySem.W.keepIn K (.ref f24) = true)
    (pgTypes : PySem.W.plainGet K CTypes Str.empty = true)
    (hdTypes : PySem.W.hasDictIn K CTypes = true)
    (poTypes : PySem.W.plainOver K CTypes = true)
    (saTypes : PySem.W.findIn K (.ref CTypes) "__setattr__" = some (some (.builtin "object.__setattr__")))
    (mkTypes : PySem.W.makesIn K CTypes = true)
    (kcTypes : PySem.W.keepIn K (.ref CTypes) = true)
    (naTypesblocks : PySem.W.findIn K (.ref CTypes) "blocks" = some none)
    (naTypesknown : PySem.W.findIn K (.ref CTypes) "known" = some none)
    (naTypesmakers : PySem.W.findIn K (.ref CTypes) "makers" = some none)
    (zabs : PySem.W.nsIn K mainGlobals "abs" = some none)
    (zall : PySem.W.nsIn K mainGlobals "all" = some none)
    (zbool : PySem.W.nsIn K mainGlobals "bool" = some none)
    (zint : PySem.W.nsIn K mainGlobals "int" = some none)
    (zisinstance : PySem.W.nsIn K mainGlobals "isinstance" = some none)
    (zlen : PySem.W.nsIn K mainGlobals "len" = some none)
    (zlist : PySem.W.nsIn K mainGlobals "list" = some none)
    (zmin : PySem.W.nsIn K mainGlobals "min" = some none)
    (zrange : PySem.W.nsIn K mainGlobals "range" = some none)
    (zstr : PySem.W.nsIn K mainGlobals "str" = some none)
    (ztuple : PySem.W.nsIn K mainGlobals "tuple" = some none) :
    ∃ fd : FuncData, (∀ (s : Shared) (v : Value), BindsTo s fd ⟨[v], []⟩ [("_law_script", v)]) ∧ ∀ base : PySem.Heap, K.In base → base.Ns mainGlobals mg → FnOk l.prog w K mg base (L2.CX l.prog w) 8 fa fd ["_law_script"] (spLaw K) := by
  have e : f24 = fa := by
    have e := (PySem.W.mg_of X G a24).symm.trans hfa
    cases e
    rfl
  subst e
  have O : TxOk w K mg {
      c_Types := CTypes,
      f__law_next := f0,
      d__law_next := PySem.W.fnOf "_law_next" "_law_next" (defArgs s__law_next) (defBody s__law_next) (defScope s__law_next) .none kV0 dc0 pm0 an0 cd0 ct0,
      f_Types___init__ := f1,
      d_Types___init__ := PySem.W.fnOf "__init__" "Types.__init__" (defArgs s_Types___init__) (defBody s_Types___init__) (defScope s_Types___init__) .none kV1 dc1 pm1 an1 cd1 ct1,
      f_is_number := f2,
      d_is_number := PySem.W.fnOf "is_number" "is_number" (defArgs s_is_number) (defBody s_is_number) (defScope s_is_number) .none kV2 dc2 pm2 an2 cd2 ct2,
      f_is_index := f3,
      d_is_index := PySem.W.fnOf "is_index" "is_index" (defArgs s_is_index) (defBody s_is_index) (defScope s_is_index) .none kV3 dc3 pm3 an3 cd3 ct3,
      f_is_word := f4,
      d_is_word := PySem.W.fnOf "is_word" "is_word" (defArgs s_is_word) (defBody s_is_word) (defScope s_is_word) .none kV4 dc4 pm4 an4 cd4 ct4,
      f_is_guard := f5,
      d_is_guard := PySem.W.fnOf "is_guard" "is_guard" (defArgs s_is_guard) (defBody s_is_guard) (defScope s_is_guard) .none kV5 dc5 pm5 an5 cd5 ct5,
      f_is_many := f6,
      d_is_many := PySem.W.fnOf "is_many" "is_many" (defArgs s_is_many) (defBody s_is_many) (defScope s_is_many) .none kV6 dc6 pm6 an6 cd6 ct6,
      f_is_clause := f7,
      d_is_clause := PySem.W.fnOf "is_clause" "is_clause" (defArgs s_is_clause) (defBody s_is_clause) (defScope s_is_clause) .none kV7 dc7 pm7 an7 cd7 ct7,
      f_is_program := f8,
      d_is_program := PySem.W.fnOf "is_program" "is_program" (defArgs s_is_program) (defBody s_is_program) (defScope s_is_program) .none kV8 dc8 pm8 an8 cd8 ct8,
      f_Types_count := f9,
      d_Types_count := PySem.W.fnOf "count" "Types.count" (defArgs s_Types_count) (defBody s_Types_count) (defScope s_Types_count) .none kV9 dc9 pm9 an9 cd9 ct9,
      f_Types_add := f10,
      d_Types_add := PySem.W.fnOf "add" "Types.add" (defArgs s_Types_add) (defBody s_Types_add) (defScope s_Types_add) .none kV10 dc10 pm10 an10 cd10 ct10,
      f__law_types := f11,
      d__law_types := PySem.W.fnOf "_law_types" "_law_types" (defArgs s__law_types) (defBody s__law_types) (defScope s__law_types) .none kV11 dc11 pm11 an11 cd11 ct11,
      f__law_drawn := f12,
      d__law_drawn := PySem.W.fnOf "_law_drawn" "_law_drawn" (defArgs s__law_drawn) (defBody s__law_drawn) (defScope s__law_drawn) .none kV12 dc12 pm12 an12 cd12 ct12,
      f__law_chain := f13,
      d__law_chain := PySem.W.fnOf "_law_chain" "_law_chain" (defArgs s__law_chain) (defBody s__law_chain) (defScope s__law_chain) .none kV13 dc13 pm13 an13 cd13 ct13,
      f__law_owns := f14,
      d__law_owns := PySem.W.fnOf "_law_owns" "_law_owns" (defArgs s__law_owns) (defBody s__law_owns) (defScope s__law_owns) .none kV14 dc14 pm14 an14 cd14 ct14,
      f__law_walk := f15,
      d__law_walk := PySem.W.fnOf "_law_walk" "_law_walk" (defArgs s__law_walk) (defBody s__law_walk) (defScope s__law_walk) .none kV15 dc15 pm15 an15 cd15 ct15,
      f_words_of := f16,
      d_words_of := PySem.W.fnOf "words_of" "words_of" (defArgs s_words_of) (defBody s_words_of) (defScope s_words_of) .none kV16 dc16 pm16 an16 cd16 ct16,
      f_is_block := f17,
      d_is_block := PySem.W.fnOf "is_block" "is_block" (defArgs s_is_block) (defBody s_is_block) (defScope s_is_block) .none kV17 dc17 pm17 an17 cd17 ct17,
      f_run_program := f18,
      d_run_program := PySem.W.fnOf "run_program" "run_program" (defArgs s_run_program) (defBody s_run_program) (defScope s_run_program) .none kV18 dc18 pm18 an18 cd18 ct18,
      f_Types_is_known := f19,
      d_Types_is_known := PySem.W.fnOf "is_known" "Types.is_known" (defArgs s_Types_is_known) (defBody s_Types_is_known) (defScope s_Types_is_known) .none kV19 dc19 pm19 an19 cd19 ct19,
      f_Types_owned := f20,
      d_Types_owned := PySem.W.fnOf "owned" "Types.owned" (defArgs s_Types_owned) (defBody s_Types_owned) (defScope s_Types_owned) .none kV20 dc20 pm20 an20 cd20 ct20,
      f_forest_of := f21,
      d_forest_of := PySem.W.fnOf "forest_of" "forest_of" (defArgs s_forest_of) (defBody s_forest_of) (defScope s_forest_of) .none kV21 dc21 pm21 an21 cd21 ct21,
      f_forests := f22,
      d_forests := PySem.W.fnOf "forests" "forests" (defArgs s_forests) (defBody s_forests) (defScope s_forests) .none kV22 dc22 pm22 an22 cd22 ct22,
      f_unreached := f23,
      d_unreached := PySem.W.fnOf "unreached" "unreached" (defArgs s_unreached) (defBody s_unreached) (defScope s_unreached) .none kV23 dc23 pm23 an23 cd23 ct23,
      f_law := f24,
      d_law := PySem.W.fnOf "law" "law" (defArgs s_law) (defBody s_law) (defScope s_law) .none kV24 dc24 pm24 an24 cd24 ct24,
      t_DATA := tDATA,
      t_ENVIRONMENTS := tENVIRONMENTS,
      t_FIRST_TYPE := tFIRST_TYPE,
      t_MOST_CLAUSES := tMOST_CLAUSES,
      t_MOST_GUARDS := tMOST_GUARDS,
      t_MOST_TYPES := tMOST_TYPES,
      t_OWN := tOWN,
      t_ROOT := tROOT,
      t_TOP := tTOP,
      t_WORDS := tWORDS } :=
    { F__law_next := fun_mk (st := s__law_next) l0 c0 k0,
      b__law_next := (fun_mk (st := s__law_next) l0 c0 k0).binds (ps := ["_law_tape", "_law_many"]) fun _ _ _ _ _ _ us hl => match us, hl with | [_, _], _ => rfl,
      g__law_next := PySem.W.mg_of X G a0,
      F_Types___init__ := fun_mk (st := s_Types___init__) l1 c1 k1,
      b_Types___init__ := (fun_mk (st := s_Types___init__) l1 c1 k1).binds (ps := ["self", "blocks"]) fun _ _ _ _ _ _ us hl => match us, hl with | [_, _], _ => rfl,
      F_is_number := fun_mk (st := s_is_number) l2 c2 k2,
      b_is_number := (fun_mk (st := s_is_number) l2 c2 k2).binds (ps := ["value"]) fun _ _ _ _ _ _ us hl => match us, hl with | [_], _ => rfl,
      g_is_number := PySem.W.mg_of X G a2,
      F_is_index := fun_mk (st := s_is_index) l3 c3 k3,
      b_is_index := (fun_mk (st := s_is_index) l3 c3 k3).binds (ps := ["value"]) fun _ _ _ _ _ _ us hl => match us, hl with | [_], _ => rfl,
      g_is_index := PySem.W.mg_of X G a3,
      F_is_word := fun_mk (st := s_is_word) l4 c4 k4,
      b_is_word := (fun_mk (st := s_is_word) l4 c4 k4).binds (ps := ["value"]) fun _ _ _ _ _ _ us hl => match us, hl with | [_], _ => rfl,
      g_is_word := PySem.W.mg_of X G a4,
      F_is_guard := fun_mk (st := s_is_guard) l5 c5 k5,
      b_is_guard := (fun_mk (st := s_is_guard) l5 c5 k5).binds (ps := ["value"]) fun _ _ _ _ _ _ us hl => match us, hl with | [_], _ => rfl,
      g_is_guard := PySem.W.mg_of X G a5,
      F_is_many := fun_mk (st := s_is_many) l6 c6 k6,
      b_is_many := (fun_mk (st := s_is_many) l6 c6 k6).binds (ps := ["value", "start"]) fun _ _ _ _ _ _ us hl => match us, hl with | [_, _], _ => rfl,
      g_is_many := PySem.W.mg_of X G a6,
      F_is_clause := fun_mk (st := s_is_clause) l7 c7 k7,
      b_is_clause := (fun_mk (st := s_is_clause) l7 c7 k7).binds (ps := ["value", "count"]) fun _ _ _ _ _ _ us hl => match us, hl with | [_, _], _ => rfl,
      g_is_clause := PySem.W.mg_of X G a7,
      F_is_program := fun_mk (st := s_is_program) l8 c8 k8,
      b_is_program := (fun_mk (st := s_is_program) l8 c8 k8).binds (ps := ["value", "count"]) fun _ _ _ _ _ _ us hl => match us, hl with | [_, _], _ => rfl,
      g_is_program := PySem.W.mg_of X G a8,
      F_Types_count := fun_mk (st := s_Types_count) l9 c9 k9,
      b_Types_count := (fun_mk (st := s_Types_count) l9 c9 k9).binds (ps := ["self"]) fun _ _ _ _ _ _ us hl => match us, hl with | [_], _ => rfl,
      M_Types_count := ⟨a9, i9, k9⟩,
      F_Types_add := fun_mk (st := s_Types_add) l10 c10 k10,
      b_Types_add := (fun_mk (st := s_Types_add) l10 c10 k10).binds (ps := ["self", "program", "environment"]) fun _ _ _ _ _ _ us hl => match us, hl with | [_, _, _], _ => rfl,
      M_Types_add := ⟨a10, i10, k10⟩,
      F__law_types := fun_mk (st := s__law_types) l11 c11 k11,
      b__law_types := (fun_mk (st := s__law_types) l11 c11 k11).binds (ps := ["_law_many"]) fun _ _ _ _ _ _ us hl => match us, hl with | [_], _ => rfl,
      g__law_types := PySem.W.mg_of X G a11,
      F__law_drawn := fun_mk (st := s__law_drawn) l12 c12 k12,
      b__law_drawn := (fun_mk (st := s__law_drawn) l12 c12 k12).binds (ps := ["_law_tape", "_law_many"]) fun _ _ _ _ _ _ us hl => match us, hl with | [_, _], _ => rfl,
      g__law_drawn := PySem.W.mg_of X G a12,
      F__law_chain := fun_mk (st := s__law_chain) l13 c13 k13,
      b__law_chain := (fun_mk (st := s__law_chain) l13 c13 k13).binds (ps := ["_law_tape", "_law_many"]) fun _ _ _ _ _ _ us hl => match us, hl with | [_, _], _ => rfl,
      g__law_chain := PySem.W.mg_of X G a13,
      F__law_owns := fun_mk (st := s__law_owns) l14 c14 k14,
      b__law_owns := (fun_mk (st := s__law_owns) l14 c14 k14).binds (ps := ["_law_kind", "_law_words", "_law_many"]) fun _ _ _ _ _ _ us hl => match us, hl with | [_, _, _], _ => rfl,
      g__law_owns := PySem.W.mg_of X G a14,
      F__law_walk := fun_mk (st := s__law_walk) l15 c15 k15,
      b__law_walk := (fun_mk (st := s__law_walk) l15 c15 k15).binds (ps := ["_law_image"]) fun _ _ _ _ _ _ us hl => match us, hl with | [_], _ => rfl,
      g__law_walk := PySem.W.mg_of X G a15,
      F_words_of := fun_mk (st := s_words_of) l16 c16 k16,
      b_words_of := (fun_mk (st := s_words_of) l16 c16 k16).binds (ps := ["clause", "words"]) fun _ _ _ _ _ _ us hl => match us, hl with | [_, _], _ => rfl,
      g_words_of := PySem.W.mg_of X G a16,
      F_is_block := fun_mk (st := s_is_block) l17 c17 k17,
      b_is_block := (fun_mk (st := s_is_block) l17 c17 k17).binds (ps := ["word", "blocks"]) fun _ _ _ _ _ _ us hl => match us, hl with | [_, _], _ => rfl,
      g_is_block := PySem.W.mg_of X G a17,
      F_run_program := fun_mk (st := s_run_program) l18 c18 k18,
      b_run_program := (fun_mk (st := s_run_program) l18 c18 k18).binds (ps := ["program", "words", "blocks", "own"]) fun _ _ _ _ _ _ us hl => match us, hl with | [_, _, _, _], _ => rfl,
      g_run_program := PySem.W.mg_of X G a18,
      F_Types_is_known := fun_mk (st := s_Types_is_known) l19 c19 k19,
      b_Types_is_known := (fun_mk (st := s_Types_is_known) l19 c19 k19).binds (ps := ["self", "number"]) fun _ _ _ _ _ _ us hl => match us, hl with | [_, _], _ => rfl,
      M_Types_is_known := ⟨a19, i19, k19⟩,
      F_Types_owned := fun_mk (st := s_Types_owned) l20 c20 k20,
      b_Types_owned := (fun_mk (st := s_Types_owned) l20 c20 k20).binds (ps := ["self", "number", "words"]) fun _ _ _ _ _ _ us hl => match us, hl with | [_, _, _], _ => rfl,
      M_Types_owned := ⟨a20, i20, k20⟩,
      F_forest_of := fun_mk (st := s_forest_of) l21 c21 k21,
      b_forest_of := (fun_mk (st := s_forest_of) l21 c21 k21).binds (ps := ["image", "types", "environment", "reached"]) fun _ _ _ _ _ _ us hl => match us, hl with | [_, _, _, _], _ => rfl,
      g_forest_of := PySem.W.mg_of X G a21,
      F_forests := fun_mk (st := s_forests) l22 c22 k22,
      b_forests := (fun_mk (st := s_forests) l22 c22 k22).binds (ps := ["image", "types"]) fun _ _ _ _ _ _ us hl => match us, hl with | [_, _], _ => rfl,
      g_forests := PySem.W.mg_of X G a22,
      F_unreached := fun_mk (st := s_unreached) l23 c23 k23,
      b_unreached := (fun_mk (st := s_unreached) l23 c23 k23).binds (ps := ["image", "types"]) fun _ _ _ _ _ _ us hl => match us, hl with | [_, _], _ => rfl,
      g_unreached := PySem.W.mg_of X G a23,
      F_law := fun_mk (st := s_law) l24 c24 k24,
      b_law := (fun_mk (st := s_law) l24 c24 k24).binds (ps := ["_law_script"]) fun _ _ _ _ _ _ us hl => match us, hl with | [_], _ => rfl,
      g_law := PySem.W.mg_of X G a24,
      cl_Types := ⟨pgTypes, hdTypes, poTypes, saTypes⟩,
      gc_Types := PySem.W.mg_of X G ATypes,
      mk_Types := ⟨mkTypes, a1, i1, kcTypes⟩,
      na_Types_blocks := naTypesblocks,
      na_Types_known := naTypesknown,
      na_Types_makers := naTypesmakers,
      n_abs := PySem.W.mg_none_of X G zabs,
      n_all := PySem.W.mg_none_of X G zall,
      n_bool := PySem.W.mg_none_of X G zbool,
      n_int := PySem.W.mg_none_of X G zint,
      n_isinstance := PySem.W.mg_none_of X G zisinstance,
      n_len := PySem.W.mg_none_of X G zlen,
      n_list := PySem.W.mg_none_of X G zlist,
      n_min := PySem.W.mg_none_of X G zmin,
      n_range := PySem.W.mg_none_of X G zrange,
      n_str := PySem.W.mg_none_of X G zstr,
      n_tuple := PySem.W.mg_none_of X G ztuple,
      k_DATA := PySem.W.mg_of X G KDATA,
      k_ENVIRONMENTS := PySem.W.mg_of X G KENVIRONMENTS,
      k_FIRST_TYPE := PySem.W.mg_of X G KFIRST_TYPE,
      k_MOST_CLAUSES := PySem.W.mg_of X G KMOST_CLAUSES,
      k_MOST_GUARDS := PySem.W.mg_of X G KMOST_GUARDS,
      k_MOST_TYPES := PySem.W.mg_of X G KMOST_TYPES,
      k_OWN := PySem.W.mg_of X G KOWN,
      k_ROOT := PySem.W.mg_of X G KROOT,
      k_TOP := PySem.W.mg_of X G KTOP,
      k_WORDS := PySem.W.mg_of X G KWORDS }
  exact ⟨_, fun s v => .of_eq rfl, fun base _ _ => law_of (ok_law (P := l.prog) (w := w) (base := base) O) law_true⟩
theorem walk {l : PySem.W.OpenLaw} {q : Program} {loose : List Str} {XP : (Str → Option Value) → PySem.Heap → Prop} {YP : World → PySem.Heap → Prop} {d : DefRec} {K : Params → PySem.W.Frag} (hn : l.most = some 63) (hdf : d.params.defaults = [])
    (hY : ∀ (w : World) (h : PySem.Heap), YP w h → (K w.params).In h)
    (F : ∀ (w : World) (mg : Str → Option Value) (fa : Addr) (h : PySem.Heap), (K w.params).In h → h.Ns mainGlobals mg → mg d.name = some (.ref fa) →
      ∃ fd : FuncData, (∀ (s : Shared) (u : Value), BindsTo s fd ⟨[u], []⟩ [("_law_script", u)]) ∧ ∀ base : PySem.Heap, (K w.params).In base → base.Ns mainGlobals mg → FnOk l.prog w (K w.params) mg base (L2.CX l.prog w) 8 fa fd ["_law_script"] (spLaw (K w.params))) :
    PySem.W.WalkO q loose XP YP l.row.toRowW d [] (fun f vs => PySem.call f vs) :=
  L2.walk_of (n := 63) (k := 8) (x := "_law_script") (CX := fun w => L2.CX l.prog w) (sp := fun w => spLaw (K w.params)) hn (by decide) hdf ⟨rfl, by decide, by decide⟩ hY F (fun _ H a ns hl hO hS => ⟨a, ns, rfl, hl, hO, hS, fun _ => rfl⟩) fun _ _ _ _ _ z => by
    obtain ⟨_, _, _, _, _, _, _, _, _, _, _, _, z⟩ := z
    exact z
end Lw

set_option Elab.async false
set_option linter.all false
open PySem PySem.W PyProof.Rows
set_option maxRecDepth 100000 in
set_option maxHeartbeats 0 in
theorem PySem.Challenge.cw_steadhold_k20_faults_of_disks_holds : PySem.Challenge.rw_steadhold_k20_faults_of_disks.Holds := by
  w_on; o_law; k_head; (case hw => w_witness2)
  k_fill
  refine Lw.walk (l := PySem.Challenge.rw_steadhold_k20_faults_of_disks) rfl rfl (fun w h Y => PySem.W.kIn_of Y) ?F
  case F =>
    intro w mg fa h KX G hmg
    refine' Lw.all_mk KX G hmg ?ATypes ?a0 ?a1 ?i1 ?a2 ?a3 ?a4 ?a5 ?a6 ?a7 ?a8 ?a9 ?i9 ?a10 ?i10 ?a11 ?a12 ?a13 ?a14 ?a15 ?a16 ?a17 ?a18 ?a19 ?i19 ?a20 ?i20 ?a21 ?a22 ?a23 ?a24 ?KDATA ?KENVIRONMENTS ?KFIRST_TYPE ?KMOST_CLAUSES ?KMOST_GUARDS ?KMOST_TYPES ?KOWN ?KROOT ?KTOP ?KWORDS ?l0 ?c0 ?k0 ?l1 ?c1 ?k1 ?l2 ?c2 ?k2 ?l3 ?c3 ?k3 ?l4 ?c4 ?k4 ?l5 ?c5 ?k5 ?l6 ?c6 ?k6 ?l7 ?c7 ?k7 ?l8 ?c8 ?k8 ?l9 ?c9 ?k9 ?l10 ?c10 ?k10 ?l11 ?c11 ?k11 ?l12 ?c12 ?k12 ?l13 ?c13 ?k13 ?l14 ?c14 ?k14 ?l15 ?c15 ?k15 ?l16 ?c16 ?k16 ?l17 ?c17 ?k17 ?l18 ?c18 ?k18 ?l19 ?c19 ?k19 ?l20 ?c20 ?k20 ?l21 ?c21 ?k21 ?l22 ?c22 ?k22 ?l23 ?c23 ?k23 ?l24 ?c24 ?k24 ?pgTypes ?hdTypes ?poTypes ?saTypes ?mkTypes ?kcTypes ?naTypesblocks ?naTypesknown ?naTypesmakers ?zabs ?zall ?zbool ?zint ?zisinstance ?zlen ?zlist ?zmin ?zrange ?zstr ?ztuple
    (case ATypes => k_is)
    (case a0 => k_is)
    (case a1 => k_is)
    (case i1 => k_is)
    (case a2 => k_is)
    (case a3 => k_is)
    (case a4 => k_is)
    (case a5 => k_is)
    (case a6 => k_is)
    (case a7 => k_is)
    (case a8 => k_is)
    (case a9 => k_is)
    (case i9 => k_is)
    (case a10 => k_is)
    (case i10 => k_is)
    (case a11 => k_is)
    (case a12 => k_is)
    (case a13 => k_is)
    (case a14 => k_is)
    (case a15 => k_is)
    (case a16 => k_is)
    (case a17 => k_is)
    (case a18 => k_is)
    (case a19 => k_is)
    (case i19 => k_is)
    (case a20 => k_is)
    (case i20 => k_is)
    (case a21 => k_is)
    (case a22 => k_is)
    (case a23 => k_is)
    (case a24 => k_is)
    (case KDATA => k_is)
    (case KENVIRONMENTS => k_is)
    (case KFIRST_TYPE => k_is)
    (case KMOST_CLAUSES => k_is)
    (case KMOST_GUARDS => k_is)
    (case KMOST_TYPES => k_is)
    (case KOWN => k_is)
    (case KROOT => k_is)
    (case KTOP => k_is)
    (case KWORDS => k_is)
    (case l0 => k_is)
    (case c0 => k_is)
    (case k0 => k_is)
    (case l1 => k_is)
    (case c1 => k_is)
    (case k1 => k_is)
    (case l2 => k_is)
    (case c2 => k_is)
    (case k2 => k_is)
    (case l3 => k_is)
    (case c3 => k_is)
    (case k3 => k_is)
    (case l4 => k_is)
    (case c4 => k_is)
    (case k4 => k_is)
    (case l5 => k_is)
    (case c5 => k_is)
    (case k5 => k_is)
    (case l6 => k_is)
    (case c6 => k_is)
    (case k6 => k_is)
    (case l7 => k_is)
    (case c7 => k_is)
    (case k7 => k_is)
    (case l8 => k_is)
    (case c8 => k_is)
    (case k8 => k_is)
    (case l9 => k_is)
    (case c9 => k_is)
    (case k9 => k_is)
    (case l10 => k_is)
    (case c10 => k_is)
    (case k10 => k_is)
    (case l11 => k_is)
    (case c11 => k_is)
    (case k11 => k_is)
    (case l12 => k_is)
    (case c12 => k_is)
    (case k12 => k_is)
    (case l13 => k_is)
    (case c13 => k_is)
    (case k13 => k_is)
    (case l14 => k_is)
    (case c14 => k_is)
    (case k14 => k_is)
    (case l15 => k_is)
    (case c15 => k_is)
    (case k15 => k_is)
    (case l16 => k_is)
    (case c16 => k_is)
    (case k16 => k_is)
    (case l17 => k_is)
    (case c17 => k_is)
    (case k17 => k_is)
    (case l18 => k_is)
    (case c18 => k_is)
    (case k18 => k_is)
    (case l19 => k_is)
    (case c19 => k_is)
    (case k19 => k_is)
    (case l20 => k_is)
    (case c20 => k_is)
    (case k20 => k_is)
    (case l21 => k_is)
    (case c21 => k_is)
    (case k21 => k_is)
    (case l22 => k_is)
    (case c22 => k_is)
    (case k22 => k_is)
    (case l23 => k_is)
    (case c23 => k_is)
    (case k23 => k_is)
    (case l24 => k_is)
    (case c24 => k_is)
    (case k24 => k_is)
    (case pgTypes => k_is)
    (case hdTypes => k_is)
    (case poTypes => k_is)
    (case saTypes => k_is)
    (case mkTypes => k_is)
    (case kcTypes => k_is)
    (case naTypesblocks => k_is)
    (case naTypesknown => k_is)
    (case naTypesmakers => k_is)
    (case zabs => k_is)
    (case zall => k_is)
    (case zbool => k_is)
    (case zint => k_is)
    (case zisinstance => k_is)
    (case zlen => k_is)
    (case zlist => k_is)
    (case zmin => k_is)
    (case zrange => k_is)
    (case zstr => k_is)
    (case ztuple => k_is)
