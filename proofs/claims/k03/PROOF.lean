import PyProof.Rows.All
import Wide.All
import OpenK.AllK
import Wide.FinOn
import HandS.ForMost
import HandS.Exc
import HandS.TryOnly
import HandS.ExcOwn
import HandS.WordsExc
import HandS.TupAny
import HandS.Deep
import HandS.TupMul
import HandS.IsInst
import HandS.Small
import HandS.SortInts
import HandS.TupLe
import HandS.Text
import PySem.Challenge.RW_steadhold_k03_types
set_option Elab.async false
set_option linter.all false
set_option maxRecDepth 100000
set_option autoImplicit false
/-! PyM: a plain model of the program: values, heap, results; and how it stands to the layer's readings. -/
namespace PyM
open PySem L2

inductive Val where
  | non | bl (b : Bool) | int (i : Int) | str (n : Nat) | tup (xs : List Val) | ref (n : Nat)
inductive Obj where
  | lst (xs : List Val) | fls (xs : List Val) | dct (kvs : List (Val × Val)) | dcT (kvs : List (Val × Val)) | ins (c : Nat) (fs : List (Nat × Val))
abbrev Heap := List Obj
inductive Res (α : Type) where
  | ok (a : α) (h : Heap) | raised (c : Nat) (h : Heap) | stuck
abbrev En := List (Option Val)
inductive RS where
  | nx (s : En) (h : Heap) | rt (v : Val) (h : Heap) | bk (s : En) (h : Heap) | ct (s : En) (h : Heap) | raised (c : Nat) (h : Heap) | stuck

structure Cfg where
  K : PySem.W.Frag
  cls : List Addr
  nms : List Str
  sts : List Str

section
variable (G : Cfg) (r : List Addr) (H : Hp)
mutual
inductive VR : Val → V → Prop
  | non : VR .non .non
  | bl (b : Bool) : VR (.bl b) (.bl b)
  | int (i : Int) : VR (.int i) (.int i)
  | str {n : Nat} {x : Str} : G.sts[n]? = some x → VR (.str n) (.str x)
  | tup {xs : List Val} {vs : List V} {a : Addr} : SqT G.K H a vs → VRs xs vs → VR (.tup xs) (.ref a)
  | ref {n : Nat} {a : Addr} : r[n]? = some a → VR (.ref n) (.ref a)
inductive VRs : List Val → List V → Prop
  | nil : VRs [] []
  | cons {x : Val} {v : V} {xs : List Val} {vs : List V} : VR x v → VRs xs vs → VRs (x :: xs) (v :: vs)
end
/-- slots -/
inductive SR : En → St → Prop
  | nil : SR [] []
  | no {o : Option V} {s : En} {t : St} : SR s t → SR (none :: s) (o :: t)
  | so {x : Val} {v : V} {s : En} {t : St} : VR G r H x v → SR s t → SR (some x :: s) (some v :: t)
inductive FR (C : Addr) : List (Nat × Val) → List (Str × V) → Prop
  | nil : FR C [] []
  | cons {f : Nat} {z : Str} {x : Val} {v : V} {fs gs} : G.nms[f]? = some z → NoAttr G.K C z → VR G r H x v → FR C fs gs → FR C ((f, x) :: fs) ((z, v) :: gs)
/-- keys of a dict -/
inductive KR : Val → Key → Prop
  | int (i : Int) : KR (.int i) (.inl i)
  | str {n : Nat} {x : Str} : G.sts[n]? = some x → KR (.str n) (.inr x)
inductive KRs : List Val → List Key → Prop
  | nil : KRs [] []
  | cons {x k xs ks} : KR G x k → KRs xs ks → KRs (x :: xs) (k :: ks)
inductive DR : List (Val × Val) → List (Key × V) → Prop
  | nil : DR [] []
  | cons {k x : Val} {q : Key} {v : V} {d e} : KR G k q → VR G r H x v → DR d e → DR ((k, x) :: d) ((q, v) :: e)
inductive DTR : List (Val × Val) → List (List Key × V) → Prop
  | nil : DTR [] []
  | cons {ks : List Val} {x : Val} {qs : List Key} {v : V} {d e} : KRs G ks qs → VR G r H x v → DTR d e → DTR ((.tup ks, x) :: d) ((qs, v) :: e)
/-- a list that is read alone: the script's -/
def FL (K : PySem.W.Frag) (H : Hp) (a : Addr) (xs : List V) : Prop := (∃ o, H a = some (.frz o (.lst xs))) ∨
  ∃ (o : PySem.Obj) (its : Array Value) (n : Nat), K.lookup a = some o ∧ o.cls = .type "list" ∧ o.dict = none ∧ o.data = .seq its n ∧ its.size ≤ sizeLine ∧ Vals xs its.toList
def isFls : Obj → Bool
  | .fls _ => true
  | _ => false
inductive OR : Obj → Addr → Prop
  | lst {xs vs a} : H a = some (.lst vs) → VRs G r H xs vs → OR (.lst xs) a
  | fls {xs vs a} : FL G.K H a vs → VRs G r H xs vs → OR (.fls xs) a
  | dct {d e a} : H a = some (.dK e) → DR G r H d e → OR (.dct d) a
  | dcT {d e a} : H a = some (.dT e) → DTR G r H d e → OR (.dcT d) a
  | ins {c C dx fs gs a} : G.cls[c]? = some C → Cls G.K C → H a = some (.ins C dx gs) → FR G r H C fs gs → OR (.ins c fs) a
structure HR (h : Heap) : Prop where
  len : r.length = h.length
  nd : ∀ (i j : Nat) (a : Addr) (x y : Obj), h[i]? = some x → h[j]? = some y → r[i]? = some a → r[j]? = some a → isFls x = false → isFls y = false → i = j
  ob : ∀ (n : Nat) (o : Obj) (a : Addr), h[n]? = some o → r[n]? = some a → OR G r H o a
end

/-- tuples stay -/
structure Stp (K : PySem.W.Frag) (r : List Addr) (H : Hp) (r' : List Addr) (H' : Hp) : Prop where
  pre : ∀ (n : Nat) (a : Addr), r[n]? = some a → r'[n]? = some a
  tup : ∀ a xs, SqT K H a xs → SqT K H' a xs
  frl : ∀ a o xs, H a = some (.frz o (.lst xs)) → H' a = some (.frz o (.lst xs))
theorem Stp.refl {K : PySem.W.Frag} {r : List Addr} {H : Hp} : Stp K r H r H := ⟨fun _ _ h => h, fun _ _ h => h, fun _ _ _ h => h⟩
theorem Stp.trans {K : PySem.W.Frag} {r r1 r2 : List Addr} {H H1 H2 : Hp} (a : Stp K r H r1 H1) (b : Stp K r1 H1 r2 H2) : Stp K r H r2 H2 :=
  ⟨fun n x h => b.pre n x (a.pre n x h), fun x xs h => b.tup x xs (a.tup x xs h), fun x o xs h => b.frl x o xs (a.frl x o xs h)⟩

section
variable {G : Cfg} {r r' : List Addr} {H H' : Hp}
mutual
theorem VR.mono (q : Stp G.K r H r' H') : ∀ (x : Val) (v : V), VR G r H x v → VR G r' H' x v
  | .non, _, .non => .non
  | .bl _, _, .bl b => .bl b
  | .int _, _, .int b => .int b
  | .str _, _, .str e => .str e
  | .tup xs, _, .tup e k => .tup (q.tup _ _ e) (VRs.mono q xs _ k)
  | .ref _, _, .ref e => .ref (q.pre _ _ e)
theorem VRs.mono (q : Stp G.K r H r' H') : ∀ (xs : List Val) (vs : List V), VRs G r H xs vs → VRs G r' H' xs vs
  | [], _, .nil => .nil
  | x :: xs, _, .cons a b => .cons (VR.mono q x _ a) (VRs.mono q xs _ b)
end
theorem SR.mono (q : Stp G.K r H r' H') {s t} (a : SR G r H s t) : SR G r' H' s t := by
  induction a with
  | nil => exact .nil
  | no _ ih => exact .no ih
  | so x _ ih => exact .so (x.mono q) ih
theorem FR.mono (q : Stp G.K r H r' H') {C s t} (a : FR G r H C s t) : FR G r' H' C s t := by
  induction a with
  | nil => exact .nil
  | cons a b c _ ih => exact .cons a b (c.mono q) ih
theorem DR.mono (q : Stp G.K r H r' H') {s t} (a : DR G r H s t) : DR G r' H' s t := by
  induction a with
  | nil => exact .nil
  | cons a c _ ih => exact .cons a (c.mono q) ih
theorem DTR.mono (q : Stp G.K r H r' H') {s t} (a : DTR G r H s t) : DTR G r' H' s t := by
  induction a with
  | nil => exact .nil
  | cons a c _ ih => exact .cons a (c.mono q) ih
theorem FL.sq {K : PySem.W.Frag} {a : Addr} {xs : List V} (f : FL K H a xs) : SqL K H a xs := f.elim (fun q => .inl (.inr q)) .inr
theorem FL.mono (q : Stp G.K r H r' H') {a : Addr} {xs : List V} (f : FL G.K H a xs) : FL G.K H' a xs := f.elim (fun ⟨o, e⟩ => .inl ⟨o, q.frl _ _ _ e⟩) .inr
/-- an object that stands where it stood -/
theorem OR.mono (q : Stp G.K r H r' H') {o a} (x : OR G r H o a) (h : isFls o = false → ∀ u, H a = some u → H' a = some u) : OR G r' H' o a := by
  cases x with
  | lst e k => exact .lst (h rfl _ e) (k.mono q)
  | fls e k => exact .fls (e.mono q) (k.mono q)
  | dct e k => exact .dct (h rfl _ e) (k.mono q)
  | dcT e k => exact .dcT (h rfl _ e) (k.mono q)
  | ins a b e k => exact .ins a b (h rfl _ e) (k.mono q)
theorem OR.there {o a} (x : OR G r H o a) (f : isFls o = false) : ∃ u, H a = some u := by
  cases x with
  | lst e k => exact ⟨_, e⟩
  | fls e k => cases f
  | dct e k => exact ⟨_, e⟩
  | dcT e k => exact ⟨_, e⟩
  | ins a b e k => exact ⟨_, e⟩

theorem HR.at {h : Heap} (R : HR G r H h) {n : Nat} {o : Obj} (e : h[n]? = some o) : ∃ a, r[n]? = some a ∧ OR G r H o a := by
  have hl : n < r.length := by
    rw [R.len]
    exact (List.getElem?_eq_some_iff.mp e).1
  exact ⟨r[n], List.getElem?_eq_getElem hl, R.ob n o _ e (List.getElem?_eq_getElem hl)⟩

/-- tuples and what is frozen stay, where what is written is another thing -/
def NotT : HO → Prop
  | .tup _ => False
  | .frz _ _ => False
  | _ => True
theorem notT_ne {a b : Addr} {o : HO} (hn : ∀ o, H a = some o → NotT o) (h : H b = some o) (hf : ¬ NotT o) : b ≠ a := fun e => by
  subst e
  exact hf (hn _ h)
theorem sqt_upd {K : PySem.W.Frag} {a b : Addr} {u : HO} {xs : List V} (hn : ∀ o, H a = some o → NotT o) (h : SqT K H b xs) : SqT K (upd H a u) b xs := by
  rcases h with (h | ⟨o, h⟩) | h
  · exact .inl (.inl (by rw [upd_ne (notT_ne hn h (fun z => z))]; exact h))
  · exact .inl (.inr ⟨o, by rw [upd_ne (notT_ne hn h (fun z => z))]; exact h⟩)
  · exact .inr h
theorem Stp.upd {K : PySem.W.Frag} {a : Addr} {u : HO} (hn : ∀ o, H a = some o → NotT o) : Stp K r H r (upd H a u) := ⟨fun _ _ h => h, fun _ _ h => sqt_upd hn h, fun b o xs h => by rw [upd_ne (notT_ne hn h (fun z => z))]; exact h⟩
theorem notT_none {a : Addr} (hn : H a = none) : ∀ o, H a = some o → NotT o := fun o e => by rw [hn] at e; cases e
theorem Stp.new {K : PySem.W.Frag} {a p : Addr} {u : HO} (hn : H a = none) : Stp K r H (r ++ [p]) (L2.upd H a u) :=
  ⟨fun n a h => by rw [List.getElem?_append_left (List.getElem?_eq_some_iff.mp h).1]; exact h, fun _ _ h => sqt_upd (notT_none hn) h, fun b o xs h => by rw [upd_ne (notT_ne (notT_none hn) h (fun z => z))]; exact h⟩
theorem Stp.new0 {K : PySem.W.Frag} {a : Addr} {u : HO} (hn : H a = none) : Stp K r H r (L2.upd H a u) :=
  ⟨fun n a h => h, fun _ _ h => sqt_upd (notT_none hn) h, fun b o xs h => by rw [upd_ne (notT_ne (notT_none hn) h (fun z => z))]; exact h⟩

/-- a thing that is no object of ours is laid -/
theorem HR.lay {h : Heap} (R : HR G r H h) {p : Addr} {u : HO} (hp : H p = none) : HR G r (upd H p u) h :=
  ⟨R.len, R.nd, fun n o a e1 e2 => (R.ob n o a e1 e2).mono (Stp.new0 hp) fun _ v e => by rw [upd_ne (ne_of_none e hp)]; exact e⟩
theorem get_snoc {α : Type} {l : List α} {x y : α} {n : Nat} (e : (l ++ [x])[n]? = some y) : (n < l.length ∧ l[n]? = some y) ∨ (n = l.length ∧ x = y) := by
  by_cases h : n < l.length
  · rw [List.getElem?_append_left h] at e
    exact .inl ⟨h, e⟩
  · have := (List.getElem?_eq_some_iff.mp e).1
    have hn : n = l.length := by
      simp at this
      omega
    subst hn
    simp at e
    exact .inr ⟨rfl, e⟩
/-- a new object -/
theorem HR.push {h : Heap} (R : HR G r H h) {p : Addr} {u : HO} {o : Obj} (hp : H p = none) (ho : OR G (r ++ [p]) (upd H p u) o p) : HR G (r ++ [p]) (upd H p u) (h ++ [o]) := by
  have no : ∀ (i : Nat) (x : Obj), h[i]? = some x → r[i]? = some p → isFls x = false → False := fun i x e1 e2 f => by
    obtain ⟨v, hv⟩ := (R.ob i x p e1 e2).there f
    rw [hp] at hv
    cases hv
  refine ⟨by simp [R.len], fun i j a x y e1 e2 e3 e4 f1 f2 => ?_, fun n o' a e1 e2 => ?_⟩
  · rcases get_snoc e1 with ⟨l1, e1⟩ | ⟨l1, e1⟩ <;> rcases get_snoc e2 with ⟨l2, e2⟩ | ⟨l2, e2⟩ <;> rcases get_snoc e3 with ⟨l3, e3⟩ | ⟨l3, e3⟩ <;> rcases get_snoc e4 with ⟨l4, e4⟩ | ⟨l4, e4⟩
    all_goals (have hl := R.len)
    all_goals first
      | omega
      | exact R.nd i j a x y e1 e2 e3 e4 f1 f2
      | (subst e4; exact (no i x e1 e3 f1).elim)
      | (subst e3; exact (no j y e2 e4 f2).elim)
  · have e1' := e1
    clear e1
    rcases get_snoc e1' with ⟨l1, e1⟩ | ⟨l1, e1⟩
    · rcases get_snoc e2 with ⟨l2, e2⟩ | ⟨l2, e2⟩
      · exact (R.ob n o' a e1 e2).mono (Stp.new hp) fun _ v e => by rw [upd_ne (ne_of_none e hp)]; exact e
      · have := R.len
        omega
    · clear e1'
      subst l1
      subst e1
      rw [← R.len] at e2
      simp at e2
      subst e2
      exact ho
/-- an object is written -/
theorem HR.write {h : Heap} (R : HR G r H h) {n : Nat} {a : Addr} {u : HO} {o o0 : Obj} (e0 : h[n]? = some o0) (f0 : isFls o0 = false) (e : r[n]? = some a) (hn : ∀ o, H a = some o → NotT o) (ho : OR G r (upd H a u) o a) (f : isFls o = false) : HR G r (upd H a u) (h.set n o) := by
  have hl : n < h.length := (List.getElem?_eq_some_iff.mp e0).1
  have at_ : ∀ (i : Nat) (x : Obj), (h.set n o)[i]? = some x → isFls x = false → ∃ y, h[i]? = some y ∧ isFls y = false := fun i x e1 f1 => by
    by_cases hm : i = n
    · subst hm
      exact ⟨o0, e0, f0⟩
    · rw [List.getElem?_set_ne (Ne.symm hm)] at e1
      exact ⟨x, e1, f1⟩
  refine ⟨by simp [R.len], fun i j b x y e1 e2 e3 e4 f1 f2 => ?_, fun m o' b e1 e2 => ?_⟩
  · obtain ⟨x', e1', f1'⟩ := at_ i x e1 f1
    obtain ⟨y', e2', f2'⟩ := at_ j y e2 f2
    exact R.nd i j b x' y' e1' e2' e3 e4 f1' f2'
  · by_cases hm : m = n
    · subst hm
      rw [e] at e2
      cases e2
      rw [List.getElem?_set_self hl] at e1
      cases e1
      exact ho
    · rw [List.getElem?_set_ne (Ne.symm hm)] at e1
      refine (R.ob m o' b e1 e2).mono (Stp.upd hn) fun f' v q => ?_
      have hb : b ≠ a := fun q => by
        subst q
        exact hm (R.nd m n b o' o0 e1 e0 e2 e f' f0)
      rw [upd_ne hb]
      exact q
end
end PyM

set_option Elab.async false
set_option linter.all false
set_option maxRecDepth 100000
set_option autoImplicit false
namespace PyM
open PySem L2

/-! ### results -/
def Res.bind {α β : Type} (x : Res α) (k : α → Heap → Res β) : Res β := match x with
  | .ok a h => k a h
  | .raised c h => .raised c h
  | .stuck => .stuck
/-- what is wanted of a result, over all ways in which the heap may lie -/
def PostR {α β : Type} (G : Cfg) (R : List Addr → Hp → α → β → Prop) (r : List Addr) (H : Hp) (E : XK) (x : Res α) (Q : β → Hp → Prop) : Prop := match x with
  | .ok a h' => ∀ r' H' b, Stp G.K r H r' H' → HR G r' H' h' → R r' H' a b → Q b H'
  | .raised c h' => ∀ r' H' C, Stp G.K r H r' H' → HR G r' H' h' → G.cls[c]? = some C → E (.ref C) none H'
  | .stuck => False
def PostS (G : Cfg) (r : List Addr) (H : Hp) (E : XK) (x : RS) (D : Ends) : Prop := match x with
  | .nx s h' => ∀ r' H' t, Stp G.K r H r' H' → HR G r' H' h' → SR G r' H' s t → D.nx t H'
  | .bk s h' => ∀ r' H' t, Stp G.K r H r' H' → HR G r' H' h' → SR G r' H' s t → D.bk t H'
  | .ct s h' => ∀ r' H' t, Stp G.K r H r' H' → HR G r' H' h' → SR G r' H' s t → D.ct t H'
  | .rt x h' => ∀ r' H' v, Stp G.K r H r' H' → HR G r' H' h' → VR G r' H' x v → D.rt v H'
  | .raised c h' => ∀ r' H' C, Stp G.K r H r' H' → HR G r' H' h' → G.cls[c]? = some C → E (.ref C) none H'
  | .stuck => False
abbrev BR : List Addr → Hp → Bool → Bool → Prop := fun _ _ a b => a = b
section
variable {G : Cfg} {E : XK} {α β γ δ : Type}
theorem PostR.shift {R : List Addr → Hp → α → β → Prop} {r r1 : List Addr} {H H1 : Hp} {x : Res α} {Q : β → Hp → Prop} (s : Stp G.K r H r1 H1) (p : PostR G R r H E x Q) : PostR G R r1 H1 E x Q := by
  cases x with
  | ok a h => exact fun r' H' b s' => p r' H' b (s.trans s')
  | raised c h => exact fun r' H' C s' => p r' H' C (s.trans s')
  | stuck => exact p
theorem PostS.shift {r r1 : List Addr} {H H1 : Hp} {x : RS} {D : Ends} (s : Stp G.K r H r1 H1) (p : PostS G r H E x D) : PostS G r1 H1 E x D := by
  cases x with
  | nx a h => exact fun r' H' b s' => p r' H' b (s.trans s')
  | bk a h => exact fun r' H' b s' => p r' H' b (s.trans s')
  | ct a h => exact fun r' H' b s' => p r' H' b (s.trans s')
  | rt a h => exact fun r' H' b s' => p r' H' b (s.trans s')
  | raised c h => exact fun r' H' C s' => p r' H' C (s.trans s')
  | stuck => exact p
theorem PostR.seq {R1 : List Addr → Hp → α → β → Prop} {R2 : List Addr → Hp → γ → δ → Prop} {r : List Addr} {H : Hp} {x : Res α} {k : α → Heap → Res γ} {Q : δ → Hp → Prop} {Q' : β → Hp → Prop}
    (p : PostR G R2 r H E (x.bind k) Q) (f : ∀ a h1 r1 H1 b, Stp G.K r H r1 H1 → HR G r1 H1 h1 → R1 r1 H1 a b → PostR G R2 r1 H1 E (k a h1) Q → Q' b H1) : PostR G R1 r H E x Q' := by
  cases x with
  | ok a h => exact fun r' H' b s' hR vR => f a h r' H' b s' hR vR (p.shift s')
  | raised c h => exact p
  | stuck => exact p
theorem PostR.here {R : List Addr → Hp → α → β → Prop} {r : List Addr} {H : Hp} {a : α} {b : β} {h : Heap} {Q : β → Hp → Prop} (p : PostR G R r H E (.ok a h) Q) (hR : HR G r H h) (v : R r H a b) : Q b H := p r H b Stp.refl hR v
end

/-! ### the judgements -/
section
variable (G : Cfg) (E : XK)
structure Rf (t : TE) (m : En → Heap → Res Val) : Prop where
  run : ∀ r H h s σ Q, HR G r H h → SR G r H s σ → PostR G (VR G) r H E (m s h) Q → t σ H Q
structure RfT (t : TT) (m : En → Heap → Res Bool) : Prop where
  run : ∀ r H h s σ Q, HR G r H h → SR G r H s σ → PostR G BR r H E (m s h) Q → t σ H Q
structure RfA (t : TA) (m : En → Heap → Res (List Val)) : Prop where
  run : ∀ r H h s σ Q, HR G r H h → SR G r H s σ → PostR G (VRs G) r H E (m s h) Q → t σ H Q
structure RfS (t : TS) (m : En → Heap → RS) : Prop where
  run : ∀ r H h s σ D, HR G r H h → SR G r H s σ → PostS G r H E (m s h) D → t D σ H
/-- operations by values -/
structure Rf2 (t : R2) (m : Val → Val → Heap → Res Val) : Prop where
  run : ∀ r H h x y v u Q, HR G r H h → VR G r H x v → VR G r H y u → PostR G (VR G) r H E (m x y h) Q → t v u H Q
structure Rf1 (t : V → Hp → VK → Prop) (m : Val → Heap → Res Val) : Prop where
  run : ∀ r H h x v Q, HR G r H h → VR G r H x v → PostR G (VR G) r H E (m x h) Q → t v H Q
structure RfL (t : List V → Hp → VK → Prop) (m : List Val → Heap → Res Val) : Prop where
  run : ∀ r H h xs vs Q, HR G r H h → VRs G r H xs vs → PostR G (VR G) r H E (m xs h) Q → t vs H Q
structure RfM (t : V → List V → Hp → VK → Prop) (m : Val → List Val → Heap → Res Val) : Prop where
  run : ∀ r H h x v xs vs Q, HR G r H h → VR G r H x v → VRs G r H xs vs → PostR G (VR G) r H E (m x xs h) Q → t v vs H Q
variable (X : Cx)
structure ME (e : Expr) (t : TE) (m : En → Heap → Res Val) : Prop where
  pe : PE X e t
  rf : Rf G E t m
structure MT (e : Expr) (t : TT) (m : En → Heap → Res Bool) : Prop where
  pe : PT X e t
  rf : RfT G E t m
structure MW (e : Expr) (t : TT) (m : En → Heap → Res Bool) : Prop where
  pe : PW X e t
  rf : RfT G E t m
structure MA (e : List Expr) (t : TA) (m : En → Heap → Res (List Val)) : Prop where
  pe : PA X e t
  rf : RfA G E t m
structure MC (op : CmpOp) (a b : Expr) (t : TE) (m : En → Heap → Res Val) : Prop where
  pe : PC X op a b t
  rf : Rf G E t m
structure MS (st : Stmt) (t : TS) (m : En → Heap → RS) : Prop where
  pe : PS X st t
  rf : RfS G E t m
structure MSs (st : List Stmt) (t : TS) (m : En → Heap → RS) : Prop where
  pe : PSs X st t
  rf : RfS G E t m
/-- what is known of the context -/
structure XC (k : Nat) : Prop where
  K : X.K = G.K
  calm : X.calm = true
  nd : X.N.Nodup
  room : Room k X.A
  pass : Passes (L2.CX X.prog X.w) X E
  own : PassesOwn (model X.prog X.w) X.A X.env X.xe
end
/-- .. of the strings' table -/
structure Cfg.Ok (G : Cfg) : Prop where
  nn : G.nms.Nodup
  nd : G.sts.Nodup
  ok : ∀ x ∈ G.sts, PySem.PyData.strOk x = true

theorem VRs.len {G : Cfg} {r : List Addr} {H : Hp} : ∀ (xs : List Val) (vs : List V), VRs G r H xs vs → xs.length = vs.length
  | [], _, .nil => rfl
  | _ :: xs, _, .cons _ b => congrArg (· + 1) (VRs.len xs _ b)
theorem VRs.get {G : Cfg} {r : List Addr} {H : Hp} : ∀ {xs : List Val} {vs : List V}, VRs G r H xs vs → ∀ {i : Nat} {x : Val}, xs[i]? = some x → ∃ v, vs[i]? = some v ∧ VR G r H x v
  | _, _, .nil, i, x, e => by simp at e
  | _, _, .cons a b, 0, x, e => by
    simp at e
    subst e
    exact ⟨_, rfl, a⟩
  | _, _, .cons a b, i + 1, x, e => by
    obtain ⟨v, h1, h2⟩ := VRs.get b (i := i) (x := x) (by simpa using e)
    exact ⟨v, by simpa using h1, h2⟩
theorem VRs.app {G : Cfg} {r : List Addr} {H : Hp} : ∀ {xs ys : List Val} {vs us : List V}, VRs G r H xs vs → VRs G r H ys us → VRs G r H (xs ++ ys) (vs ++ us)
  | _, _, _, _, .nil, q => q
  | _, _, _, _, .cons a b, q => .cons a (VRs.app b q)
theorem VRs.drop {G : Cfg} {r : List Addr} {H : Hp} : ∀ (n : Nat) {xs : List Val} {vs : List V}, VRs G r H xs vs → VRs G r H (xs.drop n) (vs.drop n)
  | 0, _, _, q => q
  | _ + 1, _, _, .nil => .nil
  | n + 1, _, _, .cons _ b => VRs.drop n b
theorem VRs.take {G : Cfg} {r : List Addr} {H : Hp} : ∀ (n : Nat) {xs : List Val} {vs : List V}, VRs G r H xs vs → VRs G r H (xs.take n) (vs.take n)
  | 0, _, _, q => .nil
  | _ + 1, _, _, .nil => .nil
  | n + 1, _, _, .cons a b => .cons a (VRs.take n b)
theorem VRs.set {G : Cfg} {r : List Addr} {H : Hp} {x : Val} {v : V} (q : VR G r H x v) : ∀ (n : Nat) {xs : List Val} {vs : List V}, VRs G r H xs vs → VRs G r H (xs.set n x) (vs.set n v)
  | _, _, _, .nil => .nil
  | 0, _, _, .cons a b => .cons q b
  | n + 1, _, _, .cons a b => .cons a (VRs.set q n b)
theorem VRs.eraseIdx {G : Cfg} {r : List Addr} {H : Hp} : ∀ (n : Nat) {xs : List Val} {vs : List V}, VRs G r H xs vs → VRs G r H (xs.eraseIdx n) (vs.eraseIdx n)
  | _, _, _, .nil => .nil
  | 0, _, _, .cons a b => b
  | n + 1, _, _, .cons a b => .cons a (VRs.eraseIdx n b)
theorem VRs.dropLast {G : Cfg} {r : List Addr} {H : Hp} : ∀ {xs : List Val} {vs : List V}, VRs G r H xs vs → VRs G r H xs.dropLast vs.dropLast
  | _, _, .nil => .nil
  | _, _, .cons a .nil => .nil
  | _, _, .cons a (.cons b c) => .cons a (VRs.dropLast (.cons b c))
theorem SR.get {G : Cfg} {r : List Addr} {H : Hp} {s : En} {t : St} (q : SR G r H s t) : ∀ {i : Nat} {x : Val}, s[i]? = some (some x) → ∃ v, t[i]? = some (some v) ∧ VR G r H x v := by
  induction q with
  | nil =>
    intro i x e
    simp at e
  | no q ih =>
    intro i x e
    cases i with
    | zero => simp at e
    | succ i => simpa using ih (i := i) (x := x) (by simpa using e)
  | so a q ih =>
    intro i x e
    cases i with
    | zero =>
      simp at e
      subst e
      exact ⟨_, rfl, a⟩
    | succ i => simpa using ih (i := i) (x := x) (by simpa using e)
theorem SR.set {G : Cfg} {r : List Addr} {H : Hp} {s : En} {t : St} (q : SR G r H s t) {x : Val} {v : V} (a : VR G r H x v) : ∀ (i : Nat), SR G r H (s.set i (some x)) (t.set i (some v)) := by
  induction q with
  | nil => exact fun _ => .nil
  | no q ih => exact fun i => match i with
    | 0 => .so a q
    | i + 1 => .no (ih i)
  | so b q ih => exact fun i => match i with
    | 0 => .so a q
    | i + 1 => .so b (ih i)

/-- the most items of a list, a tuple, a dict -/
def lim : Nat := 1000000
theorem lim_le : lim ≤ sizeLine := by rw [sizeLine_eq]; decide
theorem lt_line {n : Nat} (h : n < lim) : n < sizeLine := Nat.lt_of_lt_of_le h lim_le
theorem le_line {n : Nat} (h : n ≤ lim) : n ≤ sizeLine := Nat.le_trans h lim_le

/-! ### the model's words -/
def mV (i : Nat) (s : En) (h : Heap) : Res Val := match s[i]? with
  | some (some x) => .ok x h
  | _ => .stuck
def mK (x : Val) (_ : En) (h : Heap) : Res Val := .ok x h
def mB (f : Val → Val → Heap → Res Val) (ma mb : En → Heap → Res Val) (s : En) (h : Heap) : Res Val := (ma s h).bind fun x h1 => (mb s h1).bind fun y h2 => f x y h2
def mU (f : Val → Heap → Res Val) (ma : En → Heap → Res Val) (s : En) (h : Heap) : Res Val := (ma s h).bind fun x h1 => f x h1
def mL (f : List Val → Heap → Res Val) (ma : En → Heap → Res (List Val)) (s : En) (h : Heap) : Res Val := (ma s h).bind fun x h1 => f x h1
def mM (f : Val → List Val → Heap → Res Val) (mo : En → Heap → Res Val) (ma : En → Heap → Res (List Val)) (s : En) (h : Heap) : Res Val := (mo s h).bind fun x h1 => (ma s h1).bind fun xs h2 => f x xs h2
def mNil (_ : En) (h : Heap) : Res (List Val) := .ok [] h
def mCons (ma : En → Heap → Res Val) (mr : En → Heap → Res (List Val)) (s : En) (h : Heap) : Res (List Val) := (ma s h).bind fun x h1 => (mr s h1).bind fun xs h2 => .ok (x :: xs) h2

section
variable {G : Cfg} {E : XK} {X : Cx} {k : Nat} {a b c e : Expr} {ta tb tc : TE} {ma mb mc : En → Heap → Res Val} {pos : Pos}

/-! ### names and constants -/
theorem me_var (i : Nat) {x : Str} (hN : X.N[i]? = some x := by rfl) (hv : Vis X.env.scope x := by first | exact Or.inl rfl | exact Or.inr (Or.inl rfl) | exact Or.inr (Or.inr rfl)) (hd : (x == ("__debug__" : Str)) = false := by decide) (hcd : (x == ("__classdict__" : Str)) = false := by decide) :
    ME G E X (.Name x pos) (tVar i) (mV i) := by
  refine ⟨pe_var hN hv hd hcd, ⟨fun r H h s σ Q hR sR p => ?_⟩⟩
  unfold mV at p
  split at p
  · rename_i x e
    obtain ⟨v, e', q⟩ := sR.get e
    exact ⟨v, e', p.here hR q⟩
  · exact p.elim
theorem me_int {i : Int} {j} : ME G E X (.Constant (.int i) j pos) (tC (.int i)) (mK (.int i)) := ⟨pe_int, ⟨fun _ _ _ _ _ _ hR _ p => p.here hR (.int i)⟩⟩
theorem me_bl {i : Bool} {j} : ME G E X (.Constant (.bool i) j pos) (tC (.bl i)) (mK (.bl i)) := ⟨pe_bl, ⟨fun _ _ _ _ _ _ hR _ p => p.here hR (.bl i)⟩⟩
theorem me_non {j} : ME G E X (.Constant .none j pos) (tC .non) (mK .non) := ⟨pe_non, ⟨fun _ _ _ _ _ _ hR _ p => p.here hR .non⟩⟩
theorem me_str (n : Nat) {x : Str} {j} (hx : G.sts[n]? = some x) : ME G E X (.Constant (.str x) j pos) (tC (.str x)) (mK (.str n)) := ⟨pe_str, ⟨fun _ _ _ _ _ _ hR _ p => p.here hR (.str hx)⟩⟩
theorem me_glob (i : Int) {x : Str} {t : Tok} (hm : X.mg x = some (.int i t)) (hg : Gl X x := by rfl) (hd : (x == ("__debug__" : Str)) = false := by decide) : ME G E X (.Name x pos) (tC (.int i)) (mK (.int i)) :=
  ⟨pe_glob hg hm ⟨_, rfl⟩ hd, ⟨fun _ _ _ _ _ _ hR _ p => p.here hR (.int i)⟩⟩
theorem me_globS (n : Nat) {x z : Str} {t : Tok} (hm : X.mg x = some (.str z t)) (hx : G.sts[n]? = some z) (hg : Gl X x := by rfl) (hd : (x == ("__debug__" : Str)) = false := by decide) : ME G E X (.Name x pos) (tC (.str z)) (mK (.str n)) :=
  ⟨pe_glob hg hm ⟨_, rfl⟩ hd, ⟨fun _ _ _ _ _ _ hR _ p => p.here hR (.str hx)⟩⟩

/-! ### composition -/
theorem Rf.b2 {r2 : R2} {f : Val → Val → Heap → Res Val} (h1 : Rf G E ta ma) (h2 : Rf G E tb mb) (hf : Rf2 G E r2 f) : Rf G E (tOp r2 ta tb) (mB f ma mb) := by
  refine ⟨fun r H h s σ Q hR sR p => ?_⟩
  refine h1.run r H h s σ _ hR sR (p.seq fun x h1' r1 H1 v s1 hR1 v1 p1 => ?_)
  refine h2.run r1 H1 h1' s σ _ hR1 (sR.mono s1) (p1.seq fun y h2' r2 H2 u s2 hR2 v2 p2 => ?_)
  exact hf.run r2 H2 h2' x y v u Q hR2 (v1.mono s2) v2 p2
theorem Rf.u1 {t : V → Hp → VK → Prop} {f : Val → Heap → Res Val} (h1 : Rf G E ta ma) (hf : Rf1 G E t f) : Rf G E (tUn t ta) (mU f ma) := by
  refine ⟨fun r H h s σ Q hR sR p => ?_⟩
  exact h1.run r H h s σ _ hR sR (p.seq fun x h1' r1 H1 v s1 hR1 v1 p1 => hf.run r1 H1 h1' x v Q hR1 v1 p1)
theorem Rf2.orL {t t' : R2} {f : Val → Val → Heap → Res Val} (h : Rf2 G E t f) : Rf2 G E (fun x y H Q => t x y H Q ∨ t' x y H Q) f := ⟨fun r H h' x y v u Q a b c p => .inl (h.run r H h' x y v u Q a b c p)⟩
theorem ma_nil : MA G E X [] tNil mNil := ⟨pa_nil, ⟨fun _ _ _ _ _ _ hR _ p => p.here hR .nil⟩⟩
theorem ma_cons {es : List Expr} {tr : TA} {mr : En → Heap → Res (List Val)} (ha : ME G E X e ta ma) (hr : MA G E X es tr mr) (hs : starEach (e :: es) X.env = (false, eval e X.env) :: starEach es X.env := by rfl) : MA G E X (e :: es) (tCons ta tr) (mCons ma mr) := by
  refine ⟨pa_cons ha.pe hr.pe hs, ⟨fun r H h s σ Q hR sR p => ?_⟩⟩
  refine ha.rf.run r H h s σ _ hR sR (p.seq fun x h1' r1 H1 v s1 hR1 v1 p1 => ?_)
  refine hr.rf.run r1 H1 h1' s σ _ hR1 (sR.mono s1) (p1.seq fun xs h2' r2 H2 vs s2 hR2 v2 p2 => ?_)
  exact p2.here hR2 (.cons (v1.mono s2) v2)
theorem RfA.l {t : List V → Hp → VK → Prop} {f : List Val → Heap → Res Val} {tA : TA} {mA : En → Heap → Res (List Val)} (h1 : RfA G E tA mA) (hf : RfL G E t f) : Rf G E (fun σ H Q => tA σ H fun vs H1 => t vs H1 Q) (mL f mA) := by
  refine ⟨fun r H h s σ Q hR sR p => ?_⟩
  exact h1.run r H h s σ _ hR sR (p.seq fun x h1' r1 H1 v s1 hR1 v1 p1 => hf.run r1 H1 h1' x v Q hR1 v1 p1)
end
end PyM

set_option Elab.async false
set_option linter.all false
set_option maxRecDepth 100000
set_option autoImplicit false
namespace PyM
open PySem L2

/-! ### data, for == -/
inductive D where
  | non | bl (b : Bool) | int (i : Int) | str (n : Nat) | tup (xs : List D) | lst (xs : List D)
mutual
def deq : D → D → Bool
  | .non, .non => true
  | .bl a, .bl b => a == b
  | .bl a, .int j => (if a then 1 else 0) == j
  | .int i, .bl b => i == (if b then 1 else 0)
  | .int i, .int j => i == j
  | .str x, .str y => x == y
  | .tup xs, .tup ys => deqs xs ys
  | .lst xs, .lst ys => deqs xs ys
  | _, _ => false
def deqs : List D → List D → Bool
  | [], [] => true
  | x :: xs, y :: ys => deq x y && deqs xs ys
  | _, _ => false
end
def optAll {α β : Type} (f : α → Option β) : List α → Option (List β)
  | [] => some []
  | x :: xs => match f x, optAll f xs with
    | some d, some ds => some (d :: ds)
    | _, _ => none
def conv : Nat → Heap → Val → Option D
  | 0, _, _ => none
  | n + 1, h, v => match v with
    | .non => some .non
    | .bl b => some (.bl b)
    | .int i => some (.int i)
    | .str x => some (.str x)
    | .tup xs => (optAll (conv n h) xs).map .tup
    | .ref a => match h[a]? with
      | some (.lst xs) => (optAll (conv n h) xs).map .lst
      | some (.fls xs) => (optAll (conv n h) xs).map .lst
      | _ => none
mutual
def D.py (G : Cfg) : D → PyData
  | .non => .none
  | .bl b => .bool b
  | .int i => .int i
  | .str n => .str (G.sts.getD n ⟨#[]⟩)
  | .tup xs => .tuple (D.pys G xs)
  | .lst xs => .list (D.pys G xs)
def D.pys (G : Cfg) : List D → List PyData
  | [] => []
  | x :: xs => D.py G x :: D.pys G xs
end
mutual
def D.wf (m n : Nat) : D → Bool
  | .str i => decide (i < m)
  | .tup xs => match n with
    | 0 => false
    | n + 1 => D.wfs m n xs
  | .lst xs => match n with
    | 0 => false
    | n + 1 => D.wfs m n xs
  | _ => true
def D.wfs (m n : Nat) : List D → Bool
  | [] => true
  | x :: xs => D.wf m n x && D.wfs m n xs
end
section
variable {G : Cfg}
theorem getD_at {α : Type} {l : List α} {i : Nat} {d : α} (h : i < l.length) : l.getD i d = l[i] := by simp [List.getD, h]
theorem getD_inj (ok : G.Ok) {i j : Nat} (hi : i < G.sts.length) (hj : j < G.sts.length) : (G.sts.getD i ⟨#[]⟩ == G.sts.getD j ⟨#[]⟩) = (i == j) := by
  rw [getD_at hi, getD_at hj]
  by_cases e : i = j
  · subst e
    simp
  · have : G.sts[i] ≠ G.sts[j] := fun q => e ((List.getElem_inj ok.nd).mp q)
    rw [beq_eq_false_iff_ne.mpr this, beq_eq_false_iff_ne.mpr e]
mutual
theorem eqv_py (ok : G.Ok) : ∀ (d e : D) (n m : Nat), d.wf G.sts.length n = true → e.wf G.sts.length m = true → PyData.eqv (d.py G) (e.py G) = deq d e
  | .non, e, n, m, h1, h2 => by cases e <;> simp [D.py, PyData.eqv, deq]
  | .bl a, e, n, m, h1, h2 => by cases e <;> simp [D.py, PyData.eqv, deq]
  | .int a, e, n, m, h1, h2 => by cases e <;> simp [D.py, PyData.eqv, deq]
  | .str a, e, n, m, h1, h2 => by
    cases e with
    | str b =>
      simp only [D.wf, decide_eq_true_eq] at h1 h2
      simp only [D.py, PyData.eqv, deq]
      exact getD_inj ok h1 h2
    | _ => simp [D.py, PyData.eqv, deq]
  | .tup xs, e, n, m, h1, h2 => by
    cases e with
    | tup ys =>
      cases n with
      | zero => simp [D.wf] at h1
      | succ n =>
        cases m with
        | zero => simp [D.wf] at h2
        | succ m =>
          simp only [D.py, PyData.eqv, deq]
          exact eqv_pys ok xs ys n m (by simpa [D.wf] using h1) (by simpa [D.wf] using h2)
    | _ => simp [D.py, PyData.eqv, deq]
  | .lst xs, e, n, m, h1, h2 => by
    cases e with
    | lst ys =>
      cases n with
      | zero => simp [D.wf] at h1
      | succ n =>
        cases m with
        | zero => simp [D.wf] at h2
        | succ m =>
          simp only [D.py, PyData.eqv, deq]
          exact eqv_pys ok xs ys n m (by simpa [D.wf] using h1) (by simpa [D.wf] using h2)
    | _ => simp [D.py, PyData.eqv, deq]
theorem eqv_pys (ok : G.Ok) : ∀ (d e : List D) (n m : Nat), D.wfs G.sts.length n d = true → D.wfs G.sts.length m e = true → PyData.eqvAll (D.pys G d) (D.pys G e) = deqs d e
  | [], [], _, _, _, _ => by simp [D.pys, PyData.eqvAll, deqs]
  | [], _ :: _, _, _, _, _ => by simp [D.pys, PyData.eqvAll, deqs]
  | _ :: _, [], _, _, _, _ => by simp [D.pys, PyData.eqvAll, deqs]
  | x :: xs, y :: ys, n, m, h1, h2 => by
    simp only [D.wfs, Bool.and_eq_true] at h1 h2
    simp only [D.pys, PyData.eqvAll, deqs]
    rw [eqv_py ok x y n m h1.1 h2.1, eqv_pys ok xs ys n m h1.2 h2.2]
end
mutual
theorem lay_py (ok : G.Ok) : ∀ (d : D) (n : Nat), d.wf G.sts.length n = true → (d.py G).canLay0 = true ∧ (d.py G).depth ≤ n
  | .non, n, _ => by simp [D.py, PyData.canLay0, PyData.depth]
  | .bl _, n, _ => by simp [D.py, PyData.canLay0, PyData.depth]
  | .int _, n, _ => by simp [D.py, PyData.canLay0, PyData.depth]
  | .str i, n, h => by
    simp only [D.wf, decide_eq_true_eq] at h
    simp only [D.py, PyData.canLay0, PyData.depth]
    refine ⟨?_, Nat.zero_le _⟩
    rw [getD_at h]
    exact ok.ok _ (List.getElem_mem _)
  | .tup xs, 0, h => by simp [D.wf] at h
  | .lst xs, 0, h => by simp [D.wf] at h
  | .tup xs, n + 1, h => by
    have := lay_pys ok xs n (by simpa [D.wf] using h)
    simp only [D.py, PyData.canLay0, PyData.depth]
    exact ⟨this.1, by omega⟩
  | .lst xs, n + 1, h => by
    have := lay_pys ok xs n (by simpa [D.wf] using h)
    simp only [D.py, PyData.canLay0, PyData.depth]
    exact ⟨this.1, by omega⟩
theorem lay_pys (ok : G.Ok) : ∀ (d : List D) (n : Nat), D.wfs G.sts.length n d = true → PyData.canLayAll0 (D.pys G d) = true ∧ PyData.depthAll (D.pys G d) ≤ n
  | [], n, _ => by simp [D.pys, PyData.canLayAll0, PyData.depthAll]
  | x :: xs, n, h => by
    simp only [D.wfs, Bool.and_eq_true] at h
    have h1 := lay_py ok x n h.1
    have h2 := lay_pys ok xs n h.2
    simp only [D.pys, PyData.canLayAll0, PyData.depthAll, Bool.and_eq_true]
    exact ⟨⟨h1.1, h2.1⟩, by omega⟩
end
theorem shaped_py (ok : G.Ok) {d : D} {n : Nat} (h : d.wf G.sts.length n = true) (hn : n ≤ 64) : SeqAt.shaped (d.py G) = true := by
  have := lay_py ok d n h
  simp only [SeqAt.shaped, Bool.and_eq_true, decide_eq_true_eq]
  exact ⟨this.1, by omega⟩
variable {r : List Addr} {H : Hp} {h : Heap}
theorem optAll_dp {n : Nat} (ih : ∀ x v d, VR G r H x v → conv n h x = some d → Dp G.K H v (d.py G) ∧ d.wf G.sts.length n = true) :
    ∀ (xs : List Val) (vs : List V) (ds : List D), VRs G r H xs vs → optAll (conv n h) xs = some ds → DpAll G.K H vs (D.pys G ds) ∧ D.wfs G.sts.length n ds = true
  | [], _, ds, .nil, e => by
    simp only [optAll, Option.some.injEq] at e
    subst e
    exact ⟨.nil, rfl⟩
  | x :: xs, _, ds, .cons a b, e => by
    simp only [optAll] at e
    split at e
    · rename_i d ds' e1 e2
      cases e
      obtain ⟨h1, h2⟩ := ih _ _ _ a e1
      obtain ⟨h3, h4⟩ := optAll_dp ih xs _ _ b e2
      refine ⟨by rw [D.pys]; exact .cons h1 h3, by simp [D.wfs, h2, h4]⟩
    · cases e
theorem conv_dp (R : HR G r H h) : ∀ (n : Nat) (x : Val) (v : V) (d : D), VR G r H x v → conv n h x = some d → Dp G.K H v (d.py G) ∧ d.wf G.sts.length n = true
  | 0, x, v, d, _, e => by simp [conv] at e
  | n + 1, x, v, d, q, e => by
    have ih := fun x v d => conv_dp R n x v d
    cases q with
    | non => simp only [conv, Option.some.injEq] at e; subst e; exact ⟨by rw [D.py]; exact .non, by simp [D.wf]⟩
    | bl b => simp only [conv, Option.some.injEq] at e; subst e; exact ⟨by rw [D.py]; exact .bl _, by simp [D.wf]⟩
    | int i => simp only [conv, Option.some.injEq] at e; subst e; exact ⟨by rw [D.py]; exact .int _, by simp [D.wf]⟩
    | @str n' z hz =>
      simp only [conv, Option.some.injEq] at e
      subst e
      have hl := (List.getElem?_eq_some_iff.mp hz)
      refine ⟨?_, by simp [D.wf, hl.1]⟩
      rw [D.py, getD_at hl.1, hl.2]
      exact .str _
    | tup hs hv =>
      simp only [conv] at e
      obtain ⟨ds, e1, rfl⟩ := Option.map_eq_some_iff.mp e
      obtain ⟨h1, h2⟩ := optAll_dp ih _ _ _ hv e1
      exact ⟨by rw [D.py]; exact .tup hs h1, by simpa [D.wf] using h2⟩
    | @ref m a ha =>
      simp only [conv] at e
      split at e
      · rename_i xs eo
        obtain ⟨ds, e1, rfl⟩ := Option.map_eq_some_iff.mp e
        cases R.ob _ _ _ eo ha with
        | lst hl hv =>
          obtain ⟨h1, h2⟩ := optAll_dp ih _ _ _ hv e1
          exact ⟨by rw [D.py]; exact .lst (SqL.of hl) h1, by simpa [D.wf] using h2⟩
      · rename_i xs eo
        obtain ⟨ds, e1, rfl⟩ := Option.map_eq_some_iff.mp e
        cases R.ob _ _ _ eo ha with
        | fls hl hv =>
          obtain ⟨h1, h2⟩ := optAll_dp ih _ _ _ hv e1
          exact ⟨by rw [D.py]; exact .lst hl.sq h1, by simpa [D.wf] using h2⟩
      · cases e
end

/-! ### operators by values -/
def oI (g : Int → Int → Val) (x y : Val) (h : Heap) : Res Val := match x, y with
  | .int i, .int j => .ok (g i j) h
  | _, _ => .stuck
def oIC (c : Int → Int → Bool) (g : Int → Int → Val) (x y : Val) (h : Heap) : Res Val := match x, y with
  | .int i, .int j => if c i j = true then .ok (g i j) h else .stuck
  | _, _ => .stuck
def oNeg (x : Val) (h : Heap) : Res Val := match x with
  | .int i => .ok (.int (-i)) h
  | _ => .stuck
def oAdd (x y : Val) (h : Heap) : Res Val := match x, y with
  | .int i, .int j => .ok (.int (i + j)) h
  | .tup xs, .tup ys => if xs.length + ys.length ≤ lim then .ok (.tup (xs ++ ys)) h else .stuck
  | .ref a, .ref b => match h[a]?, h[b]? with
    | some (.lst xs), some (.lst ys) => if xs.length + ys.length ≤ lim then .ok (.ref h.length) (h ++ [.lst (xs ++ ys)]) else .stuck
    | _, _ => .stuck
  | _, _ => .stuck
def repV {α : Type} (n : Nat) (xs : List α) : List α := (List.replicate n xs).flatten
def oMul (x y : Val) (h : Heap) : Res Val := match x, y with
  | .int i, .int j => if -(2 ^ 64) < j ∧ j < 2 ^ 64 ∨ -(2 ^ 64) < i ∧ i < 2 ^ 64 then .ok (.int (i * j)) h else .stuck
  | .tup xs, .int k => if xs.length ≠ 0 ∧ 2 ≤ k ∧ k ≤ 1000 ∧ xs.length ≤ 1000 then .ok (.tup (repV k.toNat xs)) h else .stuck
  | .ref a, .int k => match h[a]? with
    | some (.lst xs) => if k ≤ 100000 ∧ -100000 ≤ k ∧ xs.length * k.toNat ≤ lim then .ok (.ref h.length) (h ++ [.lst (repV k.toNat xs)]) else .stuck
    | _ => .stuck
  | _, _ => .stuck
def oEq (neg : Bool) (x y : Val) (h : Heap) : Res Val := match conv 60 h x, conv 60 h y with
  | some d, some e => .ok (.bl (if neg then !deq d e else deq d e)) h
  | _, _ => .stuck
def oIsN (neg : Bool) (x : Val) (h : Heap) : Res Val := .ok (.bl (match x with
  | .non => !neg
  | _ => neg)) h
section
variable {G : Cfg} {E : XK}
theorem rf_I0 {g : Int → Int → Int} : Rf2 G E (rI0 fun i j => .int (g i j)) (oI fun i j => .int (g i j)) := by
  refine ⟨fun r H h x y v u Q hR a b p => ?_⟩
  cases a with
  | int i => cases b with
    | int j => exact ⟨i, j, rfl, rfl, p.here hR (.int _)⟩
    | _ => exact False.elim p
  | _ => exact False.elim p
theorem rf_B0 {g : Int → Int → Bool} : Rf2 G E (rI0 fun i j => .bl (g i j)) (oI fun i j => .bl (g i j)) := by
  refine ⟨fun r H h x y v u Q hR a b p => ?_⟩
  cases a with
  | int i => cases b with
    | int j => exact ⟨i, j, rfl, rfl, p.here hR (.bl _)⟩
    | _ => exact False.elim p
  | _ => exact False.elim p
theorem rf_IC {C : Int → Int → Prop} {c : Int → Int → Bool} (hc : ∀ i j, c i j = true → C i j) {g : Int → Int → Int} : Rf2 G E (rI C fun i j => .int (g i j)) (oIC c fun i j => .int (g i j)) := by
  refine ⟨fun r H h x y v u Q hR a b p => ?_⟩
  cases a with
  | int i => cases b with
    | int j =>
      simp only [oIC] at p
      split at p
      · rename_i e
        exact ⟨i, j, rfl, rfl, hc _ _ e, p.here hR (.int _)⟩
      · exact p.elim
    | _ => exact False.elim p
  | _ => exact False.elim p
def rAdd (K : PySem.W.Frag) : R2 := fun x y H Q => rI0 (fun i j => .int (i + j)) x y H Q ∨ rCatA K x y H Q ∨ rCat x y H Q
theorem op_addM {X : Cx} : OpR X (binaryOp .Add) (rAdd X.K) := op_add.or (op_catA.or op_cat)
theorem rf_add : Rf2 G E (rAdd G.K) oAdd := by
  refine ⟨fun r H h x y v u Q hR a b p => ?_⟩
  cases a with
  | int i => cases b with
    | int j => exact .inl ⟨i, j, rfl, rfl, p.here hR (.int _)⟩
    | _ => exact False.elim p
  | tup ha va => cases b with
    | tup hb vb =>
      simp only [oAdd] at p
      split at p
      · rename_i hl
        have e1 := va.len
        have e2 := vb.len
        refine .inr (.inl ⟨_, _, _, _, rfl, rfl, ha, hb, le_line (by omega), fun e => ?_, fun _ e => ?_, fun _ _ q hq => ?_⟩)
        · subst e
          cases va
          exact p.here hR (.tup hb vb)
        · subst e
          cases vb
          exact p.here hR (.tup ha (by simpa using va))
        · refine p r _ _ (Stp.new0 hq) (hR.lay hq) (.tup (SqT.of upd_same) ?_)
          exact (va.app vb).mono (Stp.new0 hq)
      · exact p.elim
    | _ => exact False.elim p
  | @ref n a' ea => cases b with
    | @ref m b' eb =>
      simp only [oAdd] at p
      split at p
      · rename_i xs ys h1 h2
        split at p
        · rename_i hl
          cases hR.ob _ _ _ h1 ea with
          | lst ha va => cases hR.ob _ _ _ h2 eb with
            | lst hb vb =>
              have e1 := va.len
              have e2 := vb.len
              refine .inr (.inr ⟨_, _, _, _, rfl, rfl, ha, hb, le_line (by omega), fun q hq => ?_⟩)
              refine p (r ++ [q]) _ _ (Stp.new hq) (hR.push hq (.lst upd_same ((va.app vb).mono (Stp.new hq)))) (.ref ?_)
              rw [← hR.len]
              simp
        · exact p.elim
      · exact p.elim
    | _ => exact False.elim p
  | _ => exact False.elim p
theorem VRs.rep {r : List Addr} {H : Hp} {xs : List Val} {vs : List V} (a : VRs G r H xs vs) : ∀ n : Nat, VRs G r H (repV n xs) ((List.replicate n vs).flatten)
  | 0 => .nil
  | n + 1 => by
    unfold repV
    rw [List.replicate_succ, List.replicate_succ, List.flatten_cons, List.flatten_cons]
    exact a.app (VRs.rep a n)
def rMulA (K : PySem.W.Frag) : R2 := fun x y H Q => rI CMul (fun i j => .int (i * j)) x y H Q ∨ rRep x y H Q ∨ rRepT K x y H Q
theorem op_mulA {X : Cx} : OpR X (binaryOp .Mult) (rMulA X.K) := op_mul.or (op_rep.or op_repT)
theorem rf_mul : Rf2 G E (rMulA G.K) oMul := by
  refine ⟨fun r H h x y v u Q hR a b p => ?_⟩
  cases a with
  | int i => cases b with
    | int j =>
      simp only [oMul] at p
      split at p
      · rename_i e
        exact .inl ⟨i, j, rfl, rfl, e.symm, p.here hR (.int _)⟩
      · exact p.elim
    | _ => exact False.elim p
  | tup ha va => cases b with
    | int k =>
      simp only [oMul] at p
      split at p
      · rename_i e
        have e1 := va.len
        refine .inr (.inr ⟨_, k, _, rfl, rfl, ha, fun z => ?_, e.2.1, e.2.2.1, by rw [← e1]; exact e.2.2.2, fun q hq => ?_⟩)
        · subst z
          exact e.1 e1
        · exact p r _ _ (Stp.new0 hq) (hR.lay hq) (.tup (SqT.of upd_same) ((va.rep _).mono (Stp.new0 hq)))
      · exact p.elim
    | _ => exact False.elim p
  | @ref n a' ea => cases b with
    | int k =>
      simp only [oMul] at p
      split at p
      · rename_i xs h1
        split at p
        · rename_i hl
          cases hR.ob _ _ _ h1 ea with
          | lst ha va =>
            have e1 := va.len
            refine .inr (.inl ⟨_, k, _, rfl, rfl, ha, by omega, by omega, le_line (by rw [← e1]; exact hl.2.2), fun q hq => ?_⟩)
            refine p (r ++ [q]) _ _ (Stp.new hq) (hR.push hq (.lst upd_same ((va.rep _).mono (Stp.new hq)))) (.ref ?_)
            rw [← hR.len]
            simp
        · exact p.elim
      · exact p.elim
    | _ => exact False.elim p
  | _ => exact False.elim p
theorem rf_eq (ok : G.Ok) : Rf2 G E (rEqD G.K) (oEq false) := by
  refine ⟨fun r H h x y v u Q hR a b p => ?_⟩
  simp only [oEq] at p
  split at p
  · rename_i d e h1 h2
    obtain ⟨d1, w1⟩ := conv_dp hR _ _ _ _ a h1
    obtain ⟨d2, w2⟩ := conv_dp hR _ _ _ _ b h2
    refine ⟨_, _, d1, d2, shaped_py ok w1 (by decide), shaped_py ok w2 (by decide), ?_⟩
    rw [eqv_py ok d e _ _ w1 w2]
    exact p.here hR (.bl _)
  · exact p.elim
theorem rf_ne (ok : G.Ok) : Rf2 G E (rNeD G.K) (oEq true) := by
  refine ⟨fun r H h x y v u Q hR a b p => ?_⟩
  simp only [oEq] at p
  split at p
  · rename_i d e h1 h2
    obtain ⟨d1, w1⟩ := conv_dp hR _ _ _ _ a h1
    obtain ⟨d2, w2⟩ := conv_dp hR _ _ _ _ b h2
    refine ⟨_, _, d1, d2, shaped_py ok w1 (by decide), shaped_py ok w2 (by decide), ?_⟩
    rw [eqv_py ok d e _ _ w1 w2]
    exact p.here hR (.bl _)
  · exact p.elim
end
end PyM

set_option Elab.async false
set_option linter.all false
set_option maxRecDepth 100000
set_option autoImplicit false
namespace PyM
open PySem L2

mutual
def Val.dec : (a b : Val) → Decidable (a = b)
  | .non, b => match b with
    | .non => Decidable.isTrue rfl
    | .bl _ | .int _ | .str _ | .tup _ | .ref _ => Decidable.isFalse (fun h => by cases h)
  | .bl x, b => match b with
    | .bl y => if h : x = y then Decidable.isTrue (by rw [h]) else Decidable.isFalse (fun e => by cases e; exact h rfl)
    | .non | .int _ | .str _ | .tup _ | .ref _ => Decidable.isFalse (fun h => by cases h)
  | .int x, b => match b with
    | .int y => if h : x = y then Decidable.isTrue (by rw [h]) else Decidable.isFalse (fun e => by cases e; exact h rfl)
    | .non | .bl _ | .str _ | .tup _ | .ref _ => Decidable.isFalse (fun h => by cases h)
  | .str x, b => match b with
    | .str y => if h : x = y then Decidable.isTrue (by rw [h]) else Decidable.isFalse (fun e => by cases e; exact h rfl)
    | .non | .bl _ | .int _ | .tup _ | .ref _ => Decidable.isFalse (fun h => by cases h)
  | .ref x, b => match b with
    | .ref y => if h : x = y then Decidable.isTrue (by rw [h]) else Decidable.isFalse (fun e => by cases e; exact h rfl)
    | .non | .bl _ | .int _ | .tup _ | .str _ => Decidable.isFalse (fun h => by cases h)
  | .tup xs, b => match b with
    | .tup ys => match Val.decs xs ys with
      | Decidable.isTrue h => Decidable.isTrue (by rw [h])
      | Decidable.isFalse h => Decidable.isFalse (fun e => by cases e; exact h rfl)
    | .non | .bl _ | .int _ | .ref _ | .str _ => Decidable.isFalse (fun h => by cases h)
def Val.decs : (a b : List Val) → Decidable (a = b)
  | [], [] => Decidable.isTrue rfl
  | [], _ :: _ => Decidable.isFalse (fun h => by cases h)
  | _ :: _, [] => Decidable.isFalse (fun h => by cases h)
  | x :: xs, y :: ys => match Val.dec x y, Val.decs xs ys with
    | Decidable.isTrue h, Decidable.isTrue k => Decidable.isTrue (by rw [h, k])
    | Decidable.isFalse h, _ => Decidable.isFalse (fun e => by cases e; exact h rfl)
    | _, Decidable.isFalse k => Decidable.isFalse (fun e => by cases e; exact k rfl)
end
instance : DecidableEq Val := Val.dec

/-! ### dicts with keys that are ints or texts -/
def lookV (d : List (Val × Val)) (k : Val) : Option Val := (d.find? fun kv => decide (kv.1 = k)).map (·.2)
def putV (d : List (Val × Val)) (k v : Val) : List (Val × Val) := if (d.any fun kv => decide (kv.1 = k)) = true then d.map (fun kv => if kv.1 = k then (kv.1, v) else kv) else d ++ [(k, v)]
def dropV (d : List (Val × Val)) (k : Val) : List (Val × Val) := d.filter fun kv => decide (kv.1 ≠ k)
def isKey : Val → Bool
  | .int _ => true
  | .str _ => true
  | _ => false
section
variable {G : Cfg} {r : List Addr} {H : Hp} {h : Heap}
theorem sts_inj (ok : G.Ok) {i j : Nat} {x : Str} (hi : G.sts[i]? = some x) (hj : G.sts[j]? = some x) : i = j := by
  obtain ⟨h1, e1⟩ := List.getElem?_eq_some_iff.mp hi
  obtain ⟨h2, e2⟩ := List.getElem?_eq_some_iff.mp hj
  exact (List.getElem_inj ok.nd).mp (e1.trans e2.symm)
theorem KR.eq (ok : G.Ok) {k k' : Val} {q q' : Key} (a : KR G k q) (b : KR G k' q') : decide (k = k') = decide (q = q') := by
  cases a with
  | int i => cases b with
    | int j => by_cases e : i = j <;> simp [e]
    | str _ => simp
  | str hi => cases b with
    | int j => simp
    | @str m y hj =>
      rename_i n x
      by_cases e : n = m
      · subst e
        rw [hi] at hj
        cases hj
        simp
      · have : x ≠ y := fun z => e (by subst z; exact sts_inj ok hi hj)
        simp [e, this]
theorem KR.of {x : Val} {v : V} (a : VR G r H x v) (hk : isKey x = true) : ∃ q, KR G x q ∧ v = kV q := by
  cases a with
  | int i => exact ⟨_, .int i, rfl⟩
  | str e => exact ⟨_, .str e, rfl⟩
  | _ => simp [isKey] at hk
theorem KR.vr {x : Val} {q : Key} (a : KR G x q) : VR G r H x (kV q) := by
  cases a with
  | int i => exact .int i
  | str e => exact .str e
theorem DR.len {d e} (a : DR G r H d e) : d.length = e.length := by
  induction a with
  | nil => rfl
  | cons _ _ _ ih => simp [ih]
/-- what a key finds -/
theorem DR.look (ok : G.Ok) {d e} (a : DR G r H d e) {k : Val} {q : Key} (b : KR G k q) : (lookV d k = none ∧ valV e q = none) ∨ ∃ x v, lookV d k = some x ∧ valV e q = some v ∧ VR G r H x v := by
  induction a with
  | nil => exact .inl ⟨rfl, rfl⟩
  | @cons k' x q' v d e hk hv _ ih =>
    have e1 := KR.eq ok hk b
    by_cases hh : k' = k
    · have : q' = q := by simpa [hh] using e1
      exact .inr ⟨x, v, by simp [lookV, hh], by simp [valV, this], hv⟩
    · have : ¬ q' = q := by simpa [hh] using e1
      simpa [lookV, valV, List.find?_cons, hh, this] using ih
theorem DR.any (ok : G.Ok) {d e} (a : DR G r H d e) {k : Val} {q : Key} (b : KR G k q) : (d.any fun kv => decide (kv.1 = k)) = (e.any fun kv => decide (kv.1 = q)) := by
  induction a with
  | nil => rfl
  | cons hk _ _ ih => rw [List.any_cons, List.any_cons, ih, KR.eq ok hk b]
theorem DR.app {d e d' e'} (a : DR G r H d e) (b : DR G r H d' e') : DR G r H (d ++ d') (e ++ e') := by
  induction a with
  | nil => exact b
  | cons hk hv _ ih => exact .cons hk hv ih
theorem DR.upd (ok : G.Ok) {d e} (a : DR G r H d e) {k x : Val} {q : Key} {v : V} (b : KR G k q) (c : VR G r H x v) : DR G r H (d.map (fun kv => if kv.1 = k then (kv.1, x) else kv)) (e.map (fun kv => if kv.1 = q then (kv.1, v) else kv)) := by
  induction a with
  | nil => exact .nil
  | @cons k' x' q' v' d e hk hv _ ih =>
    have e1 := KR.eq ok hk b
    rw [List.map_cons, List.map_cons]
    by_cases hh : k' = k
    · have h2 : q' = q := by simpa [hh] using e1
      rw [if_pos hh, if_pos h2]
      exact .cons hk c ih
    · have h2 : ¬ q' = q := by simpa [hh] using e1
      rw [if_neg hh, if_neg h2]
      exact .cons hk hv ih
theorem DR.put (ok : G.Ok) {d e} (a : DR G r H d e) {k x : Val} {q : Key} {v : V} (b : KR G k q) (c : VR G r H x v) : DR G r H (putV d k x) (putK e q v) := by
  unfold putV putK
  rw [a.any ok b]
  by_cases hh : (e.any fun kv => decide (kv.1 = q)) = true
  · rw [if_pos hh, if_pos hh]
    exact a.upd ok b c
  · rw [if_neg hh, if_neg hh]
    exact a.app (.cons b c .nil)
theorem DR.drop (ok : G.Ok) {d e} (a : DR G r H d e) {k : Val} {q : Key} (b : KR G k q) : DR G r H (dropV d k) (dropK e q) := by
  unfold dropV dropK
  induction a with
  | nil => exact .nil
  | @cons k' x' q' v' d e hk hv _ ih =>
    have e1 := KR.eq ok hk b
    by_cases hh : k' = k
    · have h2 : q' = q := by simpa [hh] using e1
      rw [List.filter_cons_of_neg (by simp [hh]), List.filter_cons_of_neg (by simp [h2])]
      exact ih
    · have h2 : ¬ q' = q := by simpa [hh] using e1
      rw [List.filter_cons_of_pos (by simp [hh]), List.filter_cons_of_pos (by simp [h2])]
      exact .cons hk hv ih
end

/-! ### in -/
def rDIn : R2 := fun y x H Q => ∃ a o, x = .ref a ∧ DGet H a y o ∧ Q (.bl o.isSome) H
def rDNotIn : R2 := fun y x H Q => ∃ a o, x = .ref a ∧ DGet H a y o ∧ Q (.bl (!o.isSome)) H
theorem op_din {X : Cx} (hu : X.A.units + 1 < cLine) : OpR X (compareOp .In) rDIn := by
  intro pins s σ H x y v u Q I rx ry ⟨a, o, e, g, q⟩
  subst e
  obtain rfl : u = Value.ref a := ry
  exact d_in hu I g rx fun s3 I3 => ⟨.bl o.isSome, H, I3, rfl, q⟩
theorem op_dnotin {X : Cx} (hu : X.A.units + 1 < cLine) : OpR X (compareOp .NotIn) rDNotIn := by
  intro pins s σ H x y v u Q I rx ry ⟨a, o, e, g, q⟩
  subst e
  obtain rfl : u = Value.ref a := ry
  exact d_notIn hu I g rx fun s3 I3 => ⟨.bl (!o.isSome), H, I3, rfl, q⟩
def isFlat : Val → Bool
  | .non => true
  | .bl _ => true
  | .int _ => true
  | .str _ => true
  | _ => false
def feq : Val → Val → Bool
  | .non, .non => true
  | .bl a, .bl b => a == b
  | .bl a, .int j => (if a then 1 else 0) == j
  | .int i, .bl b => i == (if b then 1 else 0)
  | .int i, .int j => i == j
  | .str x, .str y => x == y
  | _, _ => false
def inSeq (x : Val) (h : Heap) (ys : List Val) : Option Bool := match conv 60 h x, optAll (conv 59 h) ys with
  | some d, some ds => some (ds.any fun z => deq z d)
  | _, _ => none
def oIn (neg : Bool) (x y : Val) (h : Heap) : Res Val := match y with
  | .tup ys => if isFlat x = true ∧ ys.all isFlat = true then .ok (.bl (if neg then !(ys.any fun z => feq z x) else ys.any fun z => feq z x)) h else .stuck
  | .ref a => match h[a]? with
    | some (.lst ys) => match inSeq x h ys with
      | some b => .ok (.bl (if neg then !b else b)) h
      | none => .stuck
    | some (.dct d) => if isKey x = true then .ok (.bl (if neg then !(lookV d x).isSome else (lookV d x).isSome)) h else .stuck
    | _ => .stuck
  | _ => .stuck
section
variable {G : Cfg} {E : XK} {r : List Addr} {H : Hp} {h : Heap}
theorem flat_of {x : Val} {v : V} (a : VR G r H x v) (f : isFlat x = true) : flatV v = true := by
  cases a <;> first | rfl | (simp [isFlat] at f)
theorem all_flat : ∀ {xs : List Val} {vs : List V}, VRs G r H xs vs → xs.all isFlat = true → vs.all flatV = true
  | _, _, .nil, _ => rfl
  | _, _, .cons a b, f => by
    rw [List.all_cons, Bool.and_eq_true] at f ⊢
    exact ⟨flat_of a f.1, all_flat b f.2⟩
theorem feq_of (ok : G.Ok) {x y : Val} {v u : V} (a : VR G r H x v) (b : VR G r H y u) (f : isFlat x = true) : feq x y = eqV v u := by
  cases a with
  | str hi => cases b with
    | str hj =>
      rename_i n z n' z'
      show (n == n') = (z == z')
      by_cases e : n = n'
      · subst e
        rw [hi] at hj
        cases hj
        simp
      · have : z ≠ z' := fun q => e (by subst q; exact sts_inj ok hi hj)
        rw [beq_eq_false_iff_ne.mpr e, beq_eq_false_iff_ne.mpr this]
    | _ => rfl
  | tup _ _ => simp [isFlat] at f
  | ref _ => simp [isFlat] at f
  | _ => cases b <;> rfl
theorem any_feq (ok : G.Ok) {y : Val} {u : V} (b : VR G r H y u) : ∀ {xs : List Val} {vs : List V}, VRs G r H xs vs → xs.all isFlat = true → (xs.any fun z => feq z y) = inV u vs
  | _, _, .nil, _ => rfl
  | _, _, .cons a c, f => by
    rw [List.all_cons, Bool.and_eq_true] at f
    unfold inV
    rw [List.any_cons, List.any_cons, feq_of ok a b f.1, any_feq ok b c f.2]
    rfl
theorem any_py (ok : G.Ok) {d : D} {n m : Nat} (hd : d.wf G.sts.length n = true) : ∀ (ds : List D), D.wfs G.sts.length m ds = true → ((D.pys G ds).any fun z => PyData.eqv z (d.py G)) = ds.any fun z => deq z d
  | [], _ => by simp [D.pys]
  | x :: xs, f => by
    simp only [D.wfs, Bool.and_eq_true] at f
    rw [D.pys, List.any_cons, List.any_cons, eqv_py ok x d _ _ f.1 hd, any_py ok hd xs f.2]
/-- in, not in -/
def rInA (K : PySem.W.Frag) : R2 := fun x y H Q => rIn K false x y H Q ∨ rInD K x y H Q ∨ rDIn x y H Q
def rNotInA (K : PySem.W.Frag) : R2 := fun x y H Q => rIn K true x y H Q ∨ rNotInD K x y H Q ∨ rDNotIn x y H Q
theorem op_inA {X : Cx} (hu : X.A.units + 65 < cLine) : OpR X (compareOp .In) (rInA X.K) := op_in_seq.or ((op_inD hu).or (op_din (by omega)))
theorem op_notInA {X : Cx} (hu : X.A.units + 65 < cLine) : OpR X (compareOp .NotIn) (rNotInA X.K) := op_notIn_seq.or ((op_notInD hu).or (op_dnotin (by omega)))
theorem inSeq_of (ok : G.Ok) (hR : HR G r H h) {x : Val} {v : V} {ys : List Val} {us : List V} {b : Bool} {a : Addr} (hx : VR G r H x v) (hs : SqL G.K H a us) (hy : VRs G r H ys us) (e : inSeq x h ys = some b) :
    ∃ (d : PyData) (ds : List PyData), Dp G.K H v d ∧ Dp G.K H (.ref a) (.list ds) ∧ SeqAt.shaped d = true ∧ SeqAt.shaped (.list ds) = true ∧ (ds.any fun z => PyData.eqv z d) = b := by
  unfold inSeq at e
  split at e
  · rename_i d ds e1 e2
    cases e
    obtain ⟨d1, w1⟩ := conv_dp hR _ _ _ _ hx e1
    obtain ⟨d2, w2⟩ := optAll_dp (fun x v d => conv_dp hR 59 x v d) _ _ _ hy e2
    refine ⟨_, _, d1, .lst hs d2, shaped_py ok w1 (by decide), ?_, any_py ok w1 ds w2⟩
    have : (D.lst ds).wf G.sts.length 60 = true := by simpa [D.wf] using w2
    have := shaped_py ok this (by decide)
    simpa [D.py] using this
  · cases e
theorem rf_in (ok : G.Ok) : Rf2 G E (rInA G.K) (oIn false) := by
  refine ⟨fun r H h x y v u Q hR a b p => ?_⟩
  cases b with
  | tup hb vb =>
    simp only [oIn] at p
    split at p
    · rename_i f
      refine .inl ⟨_, _, rfl, .inr hb, flat_of a f.1, all_flat vb f.2, ?_⟩
      rw [if_neg (by decide), ← any_feq ok a vb f.2]
      exact p.here hR (.bl _)
    · exact p.elim
  | @ref n c ec =>
    simp only [oIn] at p
    split at p
    · rename_i ys ey
      cases hR.ob _ _ _ ey ec with
      | lst hl hv =>
        split at p
        · rename_i z ez
          obtain ⟨d, ds, q1, q2, q3, q4, q5⟩ := inSeq_of ok hR a (SqL.of hl) hv ez
          refine .inr (.inl ⟨d, ds, q1, q2, q3, q4, ?_⟩)
          rw [q5]
          exact p.here hR (.bl _)
        · exact p.elim
    · rename_i d ed
      cases hR.ob _ _ _ ed ec with
      | dct hd hv =>
        split at p
        · rename_i hk
          obtain ⟨q, kq, rfl⟩ := KR.of a hk
          refine .inr (.inr ⟨_, _, rfl, DGet.k hd, ?_⟩)
          have := p.here hR (.bl _)
          rcases hv.look ok kq with ⟨e1, e2⟩ | ⟨x', v', e1, e2, _⟩
          · rw [e2]
            rw [e1] at this
            exact this
          · rw [e2]
            rw [e1] at this
            exact this
        · exact p.elim
    · exact p.elim
  | _ => exact False.elim p
theorem rf_notin (ok : G.Ok) : Rf2 G E (rNotInA G.K) (oIn true) := by
  refine ⟨fun r H h x y v u Q hR a b p => ?_⟩
  cases b with
  | tup hb vb =>
    simp only [oIn] at p
    split at p
    · rename_i f
      refine .inl ⟨_, _, rfl, .inr hb, flat_of a f.1, all_flat vb f.2, ?_⟩
      rw [if_pos rfl, ← any_feq ok a vb f.2]
      exact p.here hR (.bl _)
    · exact p.elim
  | @ref n c ec =>
    simp only [oIn] at p
    split at p
    · rename_i ys ey
      cases hR.ob _ _ _ ey ec with
      | lst hl hv =>
        split at p
        · rename_i z ez
          obtain ⟨d, ds, q1, q2, q3, q4, q5⟩ := inSeq_of ok hR a (SqL.of hl) hv ez
          refine .inr (.inl ⟨d, ds, q1, q2, q3, q4, ?_⟩)
          rw [q5]
          exact p.here hR (.bl _)
        · exact p.elim
    · rename_i d ed
      cases hR.ob _ _ _ ed ec with
      | dct hd hv =>
        split at p
        · rename_i hk
          obtain ⟨q, kq, rfl⟩ := KR.of a hk
          refine .inr (.inr ⟨_, _, rfl, DGet.k hd, ?_⟩)
          have := p.here hR (.bl _)
          rcases hv.look ok kq with ⟨e1, e2⟩ | ⟨x', v', e1, e2, _⟩
          · rw [e2]
            rw [e1] at this
            exact this
          · rw [e2]
            rw [e1] at this
            exact this
        · exact p.elim
    · exact p.elim
  | _ => exact False.elim p
end
end PyM

set_option Elab.async false
set_option linter.all false
set_option maxRecDepth 100000
set_option autoImplicit false
namespace PyM
open PySem L2

theorem pc_of {X : Cx} {a b : Expr} {ta tb : TE} {op : CmpOp} {r : R2} (ho : OpR X (compareOp op) r) (ha : PE X a ta) (hb : PE X b tb) : PC X op a b (tOp r ta tb) :=
  ⟨fun pins s σ H Q I h => bin ha hb I h fun v u s2 x y H2 I2 rx ry q => ho pins s2 σ H2 x y v u Q I2 rx ry q⟩

/-- truth -/
def truth (x : Val) (h : Heap) : Option Bool := match x with
  | .non => some false
  | .bl b => some b
  | .int i => some (i != 0)
  | .tup xs => some (!xs.isEmpty)
  | .ref a => match h[a]? with
    | some (.lst xs) => some (!xs.isEmpty)
    | some (.fls xs) => some (!xs.isEmpty)
    | some (.dct d) => some (!d.isEmpty)
    | _ => none
  | .str _ => none
def tB_ (ma : En → Heap → Res Val) (s : En) (h : Heap) : Res Bool := (ma s h).bind fun x h1 => match x with
  | .bl b => .ok b h1
  | _ => .stuck
def tTr (ma : En → Heap → Res Val) (s : En) (h : Heap) : Res Bool := (ma s h).bind fun x h1 => match truth x h1 with
  | some b => .ok b h1
  | none => .stuck
def tNo (m : En → Heap → Res Bool) (s : En) (h : Heap) : Res Bool := (m s h).bind fun b h1 => .ok (!b) h1
def tAn (m n : En → Heap → Res Bool) (s : En) (h : Heap) : Res Bool := (m s h).bind fun b h1 => if b = true then n s h1 else .ok false h1
def tOr_ (m n : En → Heap → Res Bool) (s : En) (h : Heap) : Res Bool := (m s h).bind fun b h1 => if b = true then .ok true h1 else n s h1
def mAn (m n : En → Heap → Res Val) (s : En) (h : Heap) : Res Val := (m s h).bind fun x h1 => match x with
  | .bl b => if b = true then n s h1 else .ok (.bl false) h1
  | _ => .stuck
def mOr_ (m n : En → Heap → Res Val) (s : En) (h : Heap) : Res Val := (m s h).bind fun x h1 => match x with
  | .bl b => if b = true then .ok (.bl true) h1 else n s h1
  | _ => .stuck
def mNo (m : En → Heap → Res Val) (s : En) (h : Heap) : Res Val := (m s h).bind fun x h1 => match x with
  | .bl b => .ok (.bl (!b)) h1
  | _ => .stuck
def mIf (t : En → Heap → Res Bool) (m n : En → Heap → Res Val) (s : En) (h : Heap) : Res Val := (t s h).bind fun b h1 => if b = true then m s h1 else n s h1
/-- a op b op' c, over ints -/
def mCh (p q : Int → Int → Bool) (ma mb mc : En → Heap → Res Val) (s : En) (h : Heap) : Res Val := (ma s h).bind fun x h1 => (mb s h1).bind fun y h2 => match x, y with
  | .int i, .int j => if p i j = true then (mc s h2).bind fun z h3 => match z with
      | .int k => .ok (.bl (q j k)) h3
      | _ => .stuck
    else .ok (.bl false) h2
  | _, _ => .stuck
def mTup (ma : En → Heap → Res (List Val)) (s : En) (h : Heap) : Res Val := (ma s h).bind fun xs h1 => if xs.length ≤ lim then .ok (.tup xs) h1 else .stuck
def mLst (ma : En → Heap → Res (List Val)) (s : En) (h : Heap) : Res Val := (ma s h).bind fun xs h1 => if xs.length ≤ lim then .ok (.ref h1.length) (h1 ++ [.lst xs]) else .stuck
def mDct (_ : En) (h : Heap) : Res Val := .ok (.ref h.length) (h ++ [.dct []])
def lookF (f : Nat) : List (Nat × Val) → Option Val
  | [] => none
  | (g, x) :: r => if g = f then some x else lookF f r
def setF (f : Nat) (x : Val) : List (Nat × Val) → List (Nat × Val)
  | [] => [(f, x)]
  | (g, y) :: r => if g = f then (f, x) :: r else (g, y) :: setF f x r
def getF (f : Nat) (x : Val) (h : Heap) : Res Val := match x with
  | .ref a => match h[a]? with
    | some (.ins c fs) => match lookF f fs with
      | some v => .ok v h
      | none => .stuck
    | _ => .stuck
  | _ => .stuck
/-- a[i]: a list, a tuple, a dict with keys that are ints or texts -/
def oIx (x y : Val) (h : Heap) : Res Val := match x with
  | .tup xs => match y with
    | .int i => match atI xs i with
      | some v => .ok v h
      | none => .stuck
    | _ => .stuck
  | .ref a => match h[a]? with
    | some (.lst xs) => match y with
      | .int i => match atI xs i with
        | some v => .ok v h
        | none => .stuck
      | _ => .stuck
    | some (.fls xs) => match y with
      | .int i => match atI xs i with
        | some v => .ok v h
        | none => .stuck
      | _ => .stuck
    | some (.dct d) => if isKey y = true then match lookV d y with
        | some v => .ok v h
        | none => .stuck
      else .stuck
    | _ => .stuck
  | _ => .stuck
def cut (xs : List Val) (lo hi : Option Int) : List Val := (xs.drop (HT.sIx xs.length 0 lo)).take (HT.sIx xs.length xs.length hi - HT.sIx xs.length 0 lo)
def oSl (x : Val) (lo hi : Option Int) (h : Heap) : Res Val := match x with
  | .tup xs => .ok (.tup (cut xs lo hi)) h
  | .ref a => match h[a]? with
    | some (.lst xs) => .ok (.ref h.length) (h ++ [.lst (cut xs lo hi)])
    | some (.fls xs) => .ok (.ref h.length) (h ++ [.lst (cut xs lo hi)])
    | _ => .stuck
  | _ => .stuck
def pNo (_ : En) (h : Heap) : Res (Option Int) := .ok none h
def pSo (m : En → Heap → Res Val) (s : En) (h : Heap) : Res (Option Int) := (m s h).bind fun x h1 => match x with
  | .int i => .ok (some i) h1
  | _ => .stuck
def mSl (m : En → Heap → Res Val) (p q : En → Heap → Res (Option Int)) (s : En) (h : Heap) : Res Val := (m s h).bind fun x h1 => (p s h1).bind fun lo h2 => (q s h2).bind fun hi h3 => oSl x lo hi h3
/-- the second way where the first is stuck -/
def mAlt (m n : En → Heap → Res Val) (s : En) (h : Heap) : Res Val := match m s h with
  | .stuck => n s h
  | x => x

section
variable {G : Cfg} {E : XK} {X : Cx} {k : Nat} {a b c e : Expr} {ta tb tc : TE} {ma mb mc : En → Heap → Res Val} {pos : Pos} {u v w : TT} {mu mv : En → Heap → Res Bool}
abbrev XCu (G : Cfg) (E : XK) (X : Cx) (k : Nat) := XC G E X k
theorem XC.hu (C : XC G E X k) : X.A.units + 65 < cLine := by have := C.room.un; omega

/-! ### two-place operators -/
theorem me_add (C : XC G E X k) (ha : ME G E X a ta ma) (hb : ME G E X b tb mb) : ME G E X (.BinOp a .Add b pos) (tOp (rAdd G.K) ta tb) (mB oAdd ma mb) := by
  refine ⟨?_, ha.rf.b2 hb.rf rf_add⟩
  have := pe_op (pos := pos) (op_addM (X := X)) ha.pe hb.pe
  rwa [C.K] at this
theorem me_sub (ha : ME G E X a ta ma) (hb : ME G E X b tb mb) : ME G E X (.BinOp a .Sub b pos) (tOp (rI0 fun i j => .int (i - j)) ta tb) (mB (oI fun i j => .int (i - j)) ma mb) := ⟨pe_op op_sub ha.pe hb.pe, ha.rf.b2 hb.rf (rf_I0 (g := fun i j => i - j))⟩
theorem me_mul (C : XC G E X k) (ha : ME G E X a ta ma) (hb : ME G E X b tb mb) : ME G E X (.BinOp a .Mult b pos) (tOp (rMulA G.K) ta tb) (mB oMul ma mb) := by
  refine ⟨?_, ha.rf.b2 hb.rf rf_mul⟩
  have := pe_op (pos := pos) (op_mulA (X := X)) ha.pe hb.pe
  rwa [C.K] at this
theorem me_fdiv (ha : ME G E X a ta ma) (hb : ME G E X b tb mb) : ME G E X (.BinOp a .FloorDiv b pos) (tOp (rI CDiv fun i j => .int (i / j)) ta tb) (mB (oIC (fun _ j => decide (0 < j ∧ j < 1073741824)) fun i j => .int (i / j)) ma mb) :=
  ⟨pe_op op_fdiv ha.pe hb.pe, ha.rf.b2 hb.rf (rf_IC (fun i j e => by simpa [CDiv] using e))⟩
theorem me_mod (ha : ME G E X a ta ma) (hb : ME G E X b tb mb) : ME G E X (.BinOp a .Mod b pos) (tOp (rI (fun _ j => 0 < j) fun i j => .int (i % j)) ta tb) (mB (oIC (fun _ j => decide (0 < j)) fun i j => .int (i % j)) ma mb) :=
  ⟨pe_op op_mod ha.pe hb.pe, ha.rf.b2 hb.rf (rf_IC (fun i j e => by simpa using e))⟩
def cPow (i j : Int) : Bool := decide (0 ≤ j ∧ j ≤ 1000000 ∧ i.natAbs < 2 ^ 64)
theorem me_pow (ha : ME G E X a ta ma) (hb : ME G E X b tb mb) : ME G E X (.BinOp a .Pow b pos) (tOp (rI CPow fun i j => .int (i ^ j.toNat)) ta tb) (mB (oIC cPow fun i j => .int (i ^ j.toNat)) ma mb) :=
  ⟨pe_op op_pow ha.pe hb.pe, ha.rf.b2 hb.rf (rf_IC (fun i j e => by simpa [CPow, cPow] using e))⟩
theorem me_shl (ha : ME G E X a ta ma) (hb : ME G E X b tb mb) : ME G E X (.BinOp a .LShift b pos) (tOp (rI CPow fun i j => .int (i * 2 ^ j.toNat)) ta tb) (mB (oIC cPow fun i j => .int (i * 2 ^ j.toNat)) ma mb) :=
  ⟨pe_op op_shl ha.pe hb.pe, ha.rf.b2 hb.rf (rf_IC (fun i j e => by simpa [CPow, cPow] using e))⟩
theorem me_shr (ha : ME G E X a ta ma) (hb : ME G E X b tb mb) : ME G E X (.BinOp a .RShift b pos) (tOp (rI (fun _ j => 0 ≤ j) fun i j => .int (i / 2 ^ j.toNat)) ta tb) (mB (oIC (fun _ j => decide (0 ≤ j)) fun i j => .int (i / 2 ^ j.toNat)) ma mb) :=
  ⟨pe_op op_shr ha.pe hb.pe, ha.rf.b2 hb.rf (rf_IC (fun i j e => by simpa using e))⟩
theorem me_and (ha : ME G E X a ta ma) (hb : ME G E X b tb mb) : ME G E X (.BinOp a .BitAnd b pos) (tOp (rI0 fun i j => .int (Builtin.bitAnd i j)) ta tb) (mB (oI fun i j => .int (Builtin.bitAnd i j)) ma mb) := ⟨pe_op op_and ha.pe hb.pe, ha.rf.b2 hb.rf rf_I0⟩
theorem me_or (ha : ME G E X a ta ma) (hb : ME G E X b tb mb) : ME G E X (.BinOp a .BitOr b pos) (tOp (rI0 fun i j => .int (Builtin.bitOr i j)) ta tb) (mB (oI fun i j => .int (Builtin.bitOr i j)) ma mb) := ⟨pe_op op_or ha.pe hb.pe, ha.rf.b2 hb.rf rf_I0⟩
theorem me_xor (ha : ME G E X a ta ma) (hb : ME G E X b tb mb) : ME G E X (.BinOp a .BitXor b pos) (tOp (rI0 fun i j => .int (Builtin.bitXor i j)) ta tb) (mB (oI fun i j => .int (Builtin.bitXor i j)) ma mb) := ⟨pe_op op_xor ha.pe hb.pe, ha.rf.b2 hb.rf rf_I0⟩
theorem me_neg (ha : ME G E X a ta ma) : ME G E X (.UnaryOp .USub a pos) (tUn (rU fun i => .int (-i)) ta) (mU oNeg ma) := by
  refine ⟨pe_un un_neg ha.pe, ha.rf.u1 ⟨fun r H h x v Q hR q p => ?_⟩⟩
  cases q with
  | int i => exact ⟨i, rfl, p.here hR (.int _)⟩
  | _ => exact False.elim p

/-! ### comparisons -/
theorem mc_eq (ok : G.Ok) (C : XC G E X k) (ha : ME G E X a ta ma) (hb : ME G E X b tb mb) : MC G E X .Eq a b (tOp (rEqD G.K) ta tb) (mB (oEq false) ma mb) := by
  refine ⟨?_, ha.rf.b2 hb.rf (rf_eq ok)⟩
  have := pc_of (op_eqD (X := X) (by have := C.hu; omega)) ha.pe hb.pe
  rwa [C.K] at this
theorem mc_ne (ok : G.Ok) (C : XC G E X k) (ha : ME G E X a ta ma) (hb : ME G E X b tb mb) : MC G E X .NotEq a b (tOp (rNeD G.K) ta tb) (mB (oEq true) ma mb) := by
  refine ⟨?_, ha.rf.b2 hb.rf (rf_ne ok)⟩
  have := pc_of (op_neD (X := X) (by have := C.hu; omega)) ha.pe hb.pe
  rwa [C.K] at this
theorem mc_lt (ha : ME G E X a ta ma) (hb : ME G E X b tb mb) : MC G E X .Lt a b (tOp (rI0 fun i j => .bl (decide (i < j))) ta tb) (mB (oI fun i j => .bl (decide (i < j))) ma mb) := ⟨pc_of op_lt ha.pe hb.pe, ha.rf.b2 hb.rf rf_B0⟩
theorem mc_le (ha : ME G E X a ta ma) (hb : ME G E X b tb mb) : MC G E X .LtE a b (tOp (rI0 fun i j => .bl (decide (i ≤ j))) ta tb) (mB (oI fun i j => .bl (decide (i ≤ j))) ma mb) := ⟨pc_of op_le ha.pe hb.pe, ha.rf.b2 hb.rf rf_B0⟩
theorem mc_gt (ha : ME G E X a ta ma) (hb : ME G E X b tb mb) : MC G E X .Gt a b (tOp (rI0 fun i j => .bl (decide (j < i))) ta tb) (mB (oI fun i j => .bl (decide (j < i))) ma mb) := ⟨pc_of op_gt ha.pe hb.pe, ha.rf.b2 hb.rf (rf_B0 (g := fun i j => decide (j < i)))⟩
theorem mc_ge (ha : ME G E X a ta ma) (hb : ME G E X b tb mb) : MC G E X .GtE a b (tOp (rI0 fun i j => .bl (decide (j ≤ i))) ta tb) (mB (oI fun i j => .bl (decide (j ≤ i))) ma mb) := ⟨pc_of op_ge ha.pe hb.pe, ha.rf.b2 hb.rf (rf_B0 (g := fun i j => decide (j ≤ i)))⟩
theorem mc_in (ok : G.Ok) (C : XC G E X k) (ha : ME G E X a ta ma) (hb : ME G E X b tb mb) : MC G E X .In a b (tOp (rInA G.K) ta tb) (mB (oIn false) ma mb) := by
  refine ⟨?_, ha.rf.b2 hb.rf (rf_in ok)⟩
  have := pc_of (op_inA (X := X) C.hu) ha.pe hb.pe
  rwa [C.K] at this
theorem mc_notin (ok : G.Ok) (C : XC G E X k) (ha : ME G E X a ta ma) (hb : ME G E X b tb mb) : MC G E X .NotIn a b (tOp (rNotInA G.K) ta tb) (mB (oIn true) ma mb) := by
  refine ⟨?_, ha.rf.b2 hb.rf (rf_notin ok)⟩
  have := pc_of (op_notInA (X := X) C.hu) ha.pe hb.pe
  rwa [C.K] at this
theorem rf_isN (h1 : Rf G E ta ma) : Rf G E (tIsN ta) (mU (oIsN false) ma) := by
  refine ⟨fun r H h s σ Q hR sR p => h1.run r H h s σ _ hR sR (p.seq fun x h1' r1 H1 v s1 hR1 v1 p1 => ?_)⟩
  have := p1.here hR1 (.bl _)
  cases v1 <;> exact this
theorem rf_notN (h1 : Rf G E ta ma) : Rf G E (tNotN ta) (mU (oIsN true) ma) := by
  refine ⟨fun r H h s σ Q hR sR p => h1.run r H h s σ _ hR sR (p.seq fun x h1' r1 H1 v s1 hR1 v1 p1 => ?_)⟩
  have := p1.here hR1 (.bl _)
  cases v1 <;> exact this
theorem mc_isN {j pos'} (ha : ME G E X a ta ma) : MC G E X .Is a (.Constant .none j pos') (tIsN ta) (mU (oIsN false) ma) := ⟨pc_isN ha.pe, rf_isN ha.rf⟩
theorem mc_notN {j pos'} (ha : ME G E X a ta ma) : MC G E X .IsNot a (.Constant .none j pos') (tNotN ta) (mU (oIsN true) ma) := ⟨pc_notN ha.pe, rf_notN ha.rf⟩
theorem me_cmp {op : CmpOp} {t : TE} {m} (h : MC G E X op a b t m) (h1 : behindInMarks op b = false := by first | exact nobehind _ (by decide) (by decide) | rfl) : ME G E X (.Compare a [op] [b] pos) t m := ⟨pe_cmp h.pe h1, h.rf⟩
theorem rf_tB {t : TE} {m} (h : Rf G E t m) : RfT G E (tB t) (tB_ m) := by
  refine ⟨fun r H h' s σ Q hR sR p => h.run r H h' s σ _ hR sR (p.seq fun x h1' r1 H1 v s1 hR1 v1 p1 => ?_)⟩
  cases v1 with
  | bl b => exact ⟨b, rfl, p1.here hR1 rfl⟩
  | _ => exact False.elim p1
theorem mt_cmp {op : CmpOp} {t : TE} {m} (h : MC G E X op a b t m) (h1 : behindInMarks op b = false := by first | exact nobehind _ (by decide) (by decide) | rfl) : MT G E X (.Compare a [op] [b] pos) (tB t) (tB_ m) := ⟨pt_cmp h.pe h1, rf_tB h.rf⟩
/-- a chain over ints -/
theorem rf_ch {p q : Int → Int → Bool} (h1 : Rf G E ta ma) (h2 : Rf G E tb mb) (h3 : Rf G E tc mc) : Rf G E (tChain (rI0 fun i j => .bl (p i j)) (rI0 fun i j => .bl (q i j)) ta tb tc) (mCh p q ma mb mc) := by
  refine ⟨fun r H h s σ Q hR sR z => ?_⟩
  refine h1.run r H h s σ _ hR sR (z.seq fun x h1' r1 H1 v s1 hR1 v1 p1 => ?_)
  refine h2.run r1 H1 h1' s σ _ hR1 (sR.mono s1) (p1.seq fun y h2' r2 H2 u s2 hR2 v2 p2 => ?_)
  have v1' := v1.mono s2
  cases v1' with
  | int i => cases v2 with
    | int j =>
      refine ⟨i, j, rfl, rfl, _, rfl, ?_⟩
      simp only at p2
      split at p2
      · rename_i hp
        rw [if_pos hp]
        refine h3.run r2 H2 h2' s σ _ hR2 (sR.mono (s1.trans s2)) (p2.seq fun z h3' r3 H3 w s3 hR3 v3 p3 => ?_)
        cases v3 with
        | int k => exact ⟨j, k, rfl, rfl, p3.here hR3 (.bl _)⟩
        | _ => exact False.elim p3
      · rename_i hp
        rw [if_neg hp]
        exact p2.here hR2 (.bl _)
    | _ => exact False.elim p2
  | _ => exact False.elim p2
theorem op_leB : OpR X (compareOp .LtE) (rI0 fun i j => .bl (decide (i ≤ j))) := op_le
theorem me_chLeLe (ha : ME G E X a ta ma) (hb : ME G E X b tb mb) (hc : ME G E X c tc mc) (hm : lastMarks [.LtE, .LtE] [b, c] = false := by with_unfolding_all rfl) : ME G E X (.Compare a [.LtE, .LtE] [b, c] pos) (tChain (rI0 fun i j => .bl (decide (i ≤ j))) (rI0 fun i j => .bl (decide (i ≤ j))) ta tb tc) (mCh (fun i j => decide (i ≤ j)) (fun i j => decide (i ≤ j)) ma mb mc) :=
  ⟨pe_chain op_le op_le ha.pe hb.pe hc.pe hm, rf_ch ha.rf hb.rf hc.rf⟩
theorem me_chLeLt (ha : ME G E X a ta ma) (hb : ME G E X b tb mb) (hc : ME G E X c tc mc) (hm : lastMarks [.LtE, .Lt] [b, c] = false := by with_unfolding_all rfl) : ME G E X (.Compare a [.LtE, .Lt] [b, c] pos) (tChain (rI0 fun i j => .bl (decide (i ≤ j))) (rI0 fun i j => .bl (decide (i < j))) ta tb tc) (mCh (fun i j => decide (i ≤ j)) (fun i j => decide (i < j)) ma mb mc) :=
  ⟨pe_chain op_le op_lt ha.pe hb.pe hc.pe hm, rf_ch ha.rf hb.rf hc.rf⟩
theorem rf_tT {t : TE} {m} (h : Rf G E t m) : RfT G E (tTest t) (tB_ m) := by
  refine ⟨fun r H h' s σ Q hR sR p => h.run r H h' s σ _ hR sR (p.seq fun x h1' r1 H1 v s1 hR1 v1 p1 => ?_)⟩
  cases v1 with
  | bl b => exact ⟨b, rfl, p1.here hR1 rfl⟩
  | _ => exact False.elim p1
theorem mt_chLeLe (ha : ME G E X a ta ma) (hb : ME G E X b tb mb) (hc : ME G E X c tc mc) (hm : lastMarks [.LtE, .LtE] [b, c] = false := by with_unfolding_all rfl) : MT G E X (.Compare a [.LtE, .LtE] [b, c] pos) (tTest (tChain (rI0 fun i j => .bl (decide (i ≤ j))) (rI0 fun i j => .bl (decide (i ≤ j))) ta tb tc)) (tB_ (mCh (fun i j => decide (i ≤ j)) (fun i j => decide (i ≤ j)) ma mb mc)) :=
  ⟨pt_chain op_le op_le ha.pe hb.pe hc.pe hm, rf_tT (rf_ch ha.rf hb.rf hc.rf)⟩
theorem mt_chLeLt (ha : ME G E X a ta ma) (hb : ME G E X b tb mb) (hc : ME G E X c tc mc) (hm : lastMarks [.LtE, .Lt] [b, c] = false := by with_unfolding_all rfl) : MT G E X (.Compare a [.LtE, .Lt] [b, c] pos) (tTest (tChain (rI0 fun i j => .bl (decide (i ≤ j))) (rI0 fun i j => .bl (decide (i < j))) ta tb tc)) (tB_ (mCh (fun i j => decide (i ≤ j)) (fun i j => decide (i < j)) ma mb mc)) :=
  ⟨pt_chain op_le op_lt ha.pe hb.pe hc.pe hm, rf_tT (rf_ch ha.rf hb.rf hc.rf)⟩

/-! ### truth, and, or, not, if -/
theorem mt_tr (C : XC G E X k) (ha : ME G E X a ta ma) (he : ∀ whole, isTrue a X.env whole = (do let v ← whole; standAt a.pos; holding [v] (truthy v)) := by intro _; rfl) : MT G E X a (fun σ H Q => ta σ H fun x H' => ∃ k, TruV G.K x H' k ∧ Q k H') (tTr ma) := by
  refine ⟨?_, ⟨fun r H h s σ Q hR sR p => ?_⟩⟩
  · have := pt_truth ha.pe he
    rwa [C.K] at this
  · refine ha.rf.run r H h s σ _ hR sR (p.seq fun x h1' r1 H1 v s1 hR1 v1 p1 => ?_)
    cases v1 with
    | non => exact ⟨_, rfl, p1.here hR1 rfl⟩
    | bl b => exact ⟨_, rfl, p1.here hR1 rfl⟩
    | int i => exact ⟨_, rfl, p1.here hR1 rfl⟩
    | str e => exact False.elim p1
    | tup hs hv =>
      have q := p1.here hR1 rfl
      cases hv with
      | nil => exact ⟨_, .inr (.inl ⟨_, hs, rfl⟩), q⟩
      | cons _ _ => exact ⟨_, .inr (.inl ⟨_, hs, rfl⟩), q⟩
    | @ref n a ea =>
      simp only [truth] at p1
      cases eo : h1'[n]? with
      | none => rw [eo] at p1; exact False.elim p1
      | some o =>
        rw [eo] at p1
        cases o with
        | lst xs => cases hR1.ob _ _ _ eo ea with
          | lst hl hv =>
            have q := p1.here hR1 rfl
            cases hv with
            | nil => exact ⟨_, .inl ⟨_, SqL.of hl, rfl⟩, q⟩
            | cons _ _ => exact ⟨_, .inl ⟨_, SqL.of hl, rfl⟩, q⟩
        | fls xs => cases hR1.ob _ _ _ eo ea with
          | fls hl hv =>
            have q := p1.here hR1 rfl
            cases hv with
            | nil => exact ⟨_, .inl ⟨_, hl.sq, rfl⟩, q⟩
            | cons _ _ => exact ⟨_, .inl ⟨_, hl.sq, rfl⟩, q⟩
        | dct d => cases hR1.ob _ _ _ eo ea with
          | dct hl hv =>
            have q := p1.here hR1 rfl
            cases hv with
            | nil => exact ⟨_, .inr (.inr ⟨_, hl, rfl⟩), q⟩
            | cons _ _ => exact ⟨_, .inr (.inr ⟨_, hl, rfl⟩), q⟩
        | dcT d => exact False.elim p1
        | ins _ _ => exact False.elim p1
variable {rest : List Expr}
theorem MW.mt (h : MW G E X a u mu) : MT G E X a u mu := ⟨h.pe.pt, h.rf⟩
theorem mw_and1 (h : MT G E X a u mu) : MW G E X (.BoolOp .And [a] pos) u mu := ⟨pw_and1 h.pe, h.rf⟩
theorem mw_or1 (h : MT G E X a u mu) : MW G E X (.BoolOp .Or [a] pos) u mu := ⟨pw_or1 h.pe, h.rf⟩
theorem mw_and (h : MT G E X a u mu) (h2 : MW G E X (.BoolOp .And (b :: rest) pos) v mv) : MW G E X (.BoolOp .And (a :: b :: rest) pos) (tAnd u v) (tAn mu mv) := by
  refine ⟨pw_and h.pe h2.pe, ⟨fun r H h' s σ Q hR sR p => h.rf.run r H h' s σ _ hR sR (p.seq fun x h1' r1 H1 v s1 hR1 v1 p1 => ?_)⟩⟩
  subst v1
  split at p1
  · rename_i e
    rw [if_pos e]
    exact h2.rf.run r1 H1 h1' s σ _ hR1 (sR.mono s1) p1
  · rename_i e
    rw [if_neg e]
    exact p1.here hR1 rfl
theorem mw_or (h : MT G E X a u mu) (h2 : MW G E X (.BoolOp .Or (b :: rest) pos) v mv) : MW G E X (.BoolOp .Or (a :: b :: rest) pos) (tOr u v) (tOr_ mu mv) := by
  refine ⟨pw_or h.pe h2.pe, ⟨fun r H h' s σ Q hR sR p => h.rf.run r H h' s σ _ hR sR (p.seq fun x h1' r1 H1 v s1 hR1 v1 p1 => ?_)⟩⟩
  subst v1
  split at p1
  · rename_i e
    rw [if_pos e]
    exact p1.here hR1 rfl
  · rename_i e
    rw [if_neg e]
    exact h2.rf.run r1 H1 h1' s σ _ hR1 (sR.mono s1) p1
theorem mt_not (h : MT G E X a u mu) : MT G E X (.UnaryOp .Not a pos) (tNot u) (tNo mu) := 
  ⟨pt_not h.pe, ⟨fun r H h' s σ Q hR sR p => h.rf.run r H h' s σ _ hR sR (p.seq fun x h1' r1 H1 v s1 hR1 v1 p1 => by subst v1; exact p1.here hR1 rfl)⟩⟩
theorem me_one {op} (h : ME G E X a ta ma) : ME G E X (.BoolOp op [a] pos) ta ma := ⟨pe_one h.pe, h.rf⟩
theorem me_andV (h : ME G E X a ta ma) (h2 : ME G E X (.BoolOp .And (b :: rest) pos) tb mb) : ME G E X (.BoolOp .And (a :: b :: rest) pos) (tAndV ta tb) (mAn ma mb) := by
  refine ⟨pe_and h.pe h2.pe, ⟨fun r H h' s σ Q hR sR p => h.rf.run r H h' s σ _ hR sR (p.seq fun x h1' r1 H1 v s1 hR1 v1 p1 => ?_)⟩⟩
  cases v1 with
  | bl c =>
    refine ⟨c, rfl, ?_⟩
    simp only at p1
    split at p1
    · rename_i e
      rw [if_pos e]
      exact h2.rf.run r1 H1 h1' s σ _ hR1 (sR.mono s1) p1
    · rename_i e
      rw [if_neg e]
      exact p1.here hR1 (.bl _)
  | _ => exact False.elim p1
theorem me_orV (h : ME G E X a ta ma) (h2 : ME G E X (.BoolOp .Or (b :: rest) pos) tb mb) : ME G E X (.BoolOp .Or (a :: b :: rest) pos) (tOrV ta tb) (mOr_ ma mb) := by
  refine ⟨pe_or h.pe h2.pe, ⟨fun r H h' s σ Q hR sR p => h.rf.run r H h' s σ _ hR sR (p.seq fun x h1' r1 H1 v s1 hR1 v1 p1 => ?_)⟩⟩
  cases v1 with
  | bl c =>
    refine ⟨c, rfl, ?_⟩
    simp only at p1
    split at p1
    · rename_i e
      rw [if_pos e]
      exact p1.here hR1 (.bl _)
    · rename_i e
      rw [if_neg e]
      exact h2.rf.run r1 H1 h1' s σ _ hR1 (sR.mono s1) p1
  | _ => exact False.elim p1
theorem me_notV (h : ME G E X a ta ma) : ME G E X (.UnaryOp .Not a pos) (tNotV ta) (mNo ma) := by
  refine ⟨pe_not h.pe, ⟨fun r H h' s σ Q hR sR p => h.rf.run r H h' s σ _ hR sR (p.seq fun x h1' r1 H1 v s1 hR1 v1 p1 => ?_)⟩⟩
  cases v1 with
  | bl c => exact ⟨c, rfl, p1.here hR1 (.bl _)⟩
  | _ => exact False.elim p1
theorem me_if (ht : MT G E X c u mu) (h : ME G E X a ta ma) (h2 : ME G E X b tb mb) : ME G E X (.IfExp c a b pos) (tIf u ta tb) (mIf mu ma mb) := by
  refine ⟨pe_ifExp ht.pe h.pe h2.pe, ⟨fun r H h' s σ Q hR sR p => ht.rf.run r H h' s σ _ hR sR (p.seq fun x h1' r1 H1 v s1 hR1 v1 p1 => ?_)⟩⟩
  subst v1
  split at p1
  · rename_i e
    rw [if_pos e]
    exact h.rf.run r1 H1 h1' s σ _ hR1 (sR.mono s1) p1
  · rename_i e
    rw [if_neg e]
    exact h2.rf.run r1 H1 h1' s σ _ hR1 (sR.mono s1) p1

/-! ### displays, attributes, subscripts -/
variable {es : List Expr} {tes : TA} {mas : En → Heap → Res (List Val)}
theorem me_tup {x1} (h : MA G E X es tes mas) : ME G E X (.Tuple es x1 pos) (tTup tes) (mTup mas) := by
  refine ⟨pe_tup h.pe, ⟨fun r H h' s σ Q hR sR p => h.rf.run r H h' s σ _ hR sR (p.seq fun xs h1' r1 H1 vs s1 hR1 v1 p1 => ?_)⟩⟩
  split at p1
  · rename_i hl
    have := v1.len
    refine ⟨le_line (by omega), fun q hq => ?_⟩
    exact p1 r1 _ _ (Stp.new0 hq) (hR1.lay hq) (.tup (SqT.of upd_same) (v1.mono (Stp.new0 hq)))
  · exact False.elim p1
theorem me_lst (h : MA G E X es tes mas) : ME G E X (.List es pos) (tLst tes) (mLst mas) := by
  refine ⟨pe_lst h.pe, ⟨fun r H h' s σ Q hR sR p => h.rf.run r H h' s σ _ hR sR (p.seq fun xs h1' r1 H1 vs s1 hR1 v1 p1 => ?_)⟩⟩
  split at p1
  · rename_i hl
    have := v1.len
    refine ⟨le_line (by omega), fun q hq => ?_⟩
    refine p1 (r1 ++ [q]) _ _ (Stp.new hq) (hR1.push hq (.lst upd_same (v1.mono (Stp.new hq)))) (.ref ?_)
    rw [← hR1.len]
    simp
  · exact False.elim p1
theorem me_dict : ME G E X (.Dict [] [] pos) tDNewK mDct := by
  refine ⟨pe_dnewK, ⟨fun r H h s σ Q hR sR p q hq => ?_⟩⟩
  refine p (r ++ [q]) _ _ (Stp.new hq) (hR.push hq (.dct upd_same .nil)) (.ref ?_)
  rw [← hR.len]
  simp
theorem FR.look (ok : G.Ok) {r : List Addr} {H : Hp} {D : Addr} {fs gs} (q : FR G r H D fs gs) {f : Nat} {z : Str} (hz : G.nms[f]? = some z) : (lookF f fs = none ∧ gs.lookup z = none) ∨ ∃ x v, lookF f fs = some x ∧ gs.lookup z = some v ∧ VR G r H x v ∧ NoAttr G.K D z := by
  induction q with
  | nil => exact .inl ⟨rfl, rfl⟩
  | @cons g y x v fs gs hy na hv _ ih =>
    by_cases e : g = f
    · subst e
      rw [hz] at hy
      cases hy
      exact .inr ⟨x, v, by simp [lookF], by simp [List.lookup], hv, na⟩
    · have : z ≠ y := fun q => e (by
        subst q
        obtain ⟨h1, e1⟩ := List.getElem?_eq_some_iff.mp hy
        obtain ⟨h2, e2⟩ := List.getElem?_eq_some_iff.mp hz
        exact (List.getElem_inj ok.nn).mp (e1.trans e2.symm))
      have : (z == y) = false := beq_eq_false_iff_ne.mpr this
      simpa [lookF, List.lookup, e, this] using ih
theorem me_fld (ok : G.Ok) (C : XC G E X k) (f : Nat) {z : Str} (hz : G.nms[f]? = some z) (h : ME G E X a ta ma) (hb : attributeBase a z X.env (eval a X.env) = eval a X.env := by rfl) : ME G E X (.Attribute a z pos) (tFld G.K ta z) (mU (getF f) ma) := by
  refine ⟨?_, ⟨fun r H h' s σ Q hR sR p => h.rf.run r H h' s σ _ hR sR (p.seq fun x h1' r1 H1 v s1 hR1 v1 p1 => ?_)⟩⟩
  · have := pe_fld (pos := pos) h.pe hb
    rwa [C.K] at this
  · cases v1 with
    | @ref n a ea =>
      simp only [getF] at p1
      split at p1
      · rename_i c fs eo
        split at p1
        · rename_i y ey
          cases hR1.ob _ _ _ eo ea with
          | ins hc hC ho hf =>
            rcases hf.look ok hz with ⟨e1, _⟩ | ⟨x', v', e1, e2, v2, na⟩
            · rw [e1] at ey
              cases ey
            · rw [e1] at ey
              cases ey
              exact ⟨_, _, _, _, _, rfl, ho, hC, na, e2, p1.here hR1 v2⟩
        · exact False.elim p1
      · exact False.elim p1
    | _ => exact False.elim p1
end
end PyM

set_option Elab.async false
set_option linter.all false
set_option maxRecDepth 100000
set_option autoImplicit false
namespace PyM
open PySem L2 PyProof.Rows

/-! ### subscripts -/
def rDGetR : R2 := fun x y H Q => ∃ a v, x = .ref a ∧ DGet H a y (some v) ∧ Q v H
theorem ix_dict {X : Cx} (hu : X.A.units + 1 < cLine) : IxR X rDGetR := by
  intro value slice pins s σ H x y v u Q I rx ry h hs
  obtain ⟨a, z, rfl, g, q⟩ := h
  obtain rfl : v = Value.ref a := rx
  have hT := dict_typeIs I g
  unfold subscriptTail
  refine wpAny_bind ?_
  rw [getitemInPython_of_ne hT.not_modules]
  refine wpAny_bind (wpAny_specialOf hT PySem.F.slot_dict_getitem.lookup ?_)
  have fin : wpAny (model X.prog X.w) X.A (subscripted slice false (.ref a) u) (fun r s₃ => wpAny (model X.prog X.w) X.A (letTemporaryGo value (.ref a) r >>= fun _ => pure r) (EP X pins σ Q) X.xe s₃) X.xe s := by
    rw [hs]
    exact wpAny_operating (wpAny_mono (d_getItem hu I g ry (Q := EP X pins σ Q) fun w' s3 I3 rw' => ⟨z, H, I3, rw', q⟩) (fun r s₃ h₃ => wpAny_bind (wpAny_letTemporaryGo (wpAny_pure h₃))) fun _ _ x => x)
  first
    | exact wpAny_pure (wpAny_bind fin)
    | exact wpAny_bind (wpAny_pure (wpAny_bind fin))
    | exact wpAny_bind fin
def rIxA (K : PySem.W.Frag) : R2 := fun x y H Q => rIxL K x y H Q ∨ rIxT K x y H Q ∨ rDGetR x y H Q
theorem ix_all {X : Cx} (hu : X.A.units + 1 < cLine) : IxR X (rIxA X.K) := ix_list.or (ix_tup.or (ix_dict hu))
theorem atI_len {α β : Type} {xs : List α} {ys : List β} (e : xs.length = ys.length) {i : Int} {v : α} (h : atI xs i = some v) : ∃ j : Nat, xs[j]? = some v ∧ ∀ u, ys[j]? = some u → atI ys i = some u := by
  unfold atI at h ⊢
  rw [e] at h
  cases q : ixN ys.length i with
  | none => rw [q] at h; cases h
  | some j =>
    rw [q] at h
    exact ⟨j, h, fun u hu => hu⟩
section
variable {G : Cfg} {E : XK}
theorem rf_ix (ok : G.Ok) : Rf2 G E (rIxA G.K) oIx := by
  refine ⟨fun r H h x y v u Q hR a b p => ?_⟩
  cases a with
  | tup ha va =>
    simp only [oIx] at p
    split at p
    · split at p
      · rename_i z ez
        cases b
        obtain ⟨j, e1, e2⟩ := atI_len va.len ez
        obtain ⟨w, e3, vw⟩ := va.get e1
        exact .inr (.inl ⟨_, _, _, _, rfl, rfl, ha, e2 _ e3, p.here hR vw⟩)
      · exact False.elim p
    · exact False.elim p
  | @ref n a ea =>
    simp only [oIx] at p
    split at p
    · rename_i xs eo
      split at p
      · split at p
        · rename_i z ez
          cases b
          cases hR.ob _ _ _ eo ea with
          | lst hl va =>
            obtain ⟨j, e1, e2⟩ := atI_len va.len ez
            obtain ⟨w, e3, vw⟩ := va.get e1
            exact .inl ⟨_, _, _, _, rfl, rfl, SqL.of hl, e2 _ e3, p.here hR vw⟩
        · exact False.elim p
      · exact False.elim p
    · rename_i xs eo
      split at p
      · split at p
        · rename_i z ez
          cases b
          cases hR.ob _ _ _ eo ea with
          | fls hl va =>
            obtain ⟨j, e1, e2⟩ := atI_len va.len ez
            obtain ⟨w, e3, vw⟩ := va.get e1
            exact .inl ⟨_, _, _, _, rfl, rfl, hl.sq, e2 _ e3, p.here hR vw⟩
        · exact False.elim p
      · exact False.elim p
    · rename_i d eo
      split at p
      · rename_i hk
        split at p
        · rename_i z ez
          cases hR.ob _ _ _ eo ea with
          | dct hd hv =>
            obtain ⟨q, kq, rfl⟩ := KR.of b hk
            rcases hv.look ok kq with ⟨e1, _⟩ | ⟨x', v', e1, e2, v2⟩
            · rw [e1] at ez
              cases ez
            · rw [e1] at ez
              cases ez
              exact .inr (.inr ⟨_, _, rfl, by rw [← e2]; exact DGet.k hd, p.here hR v2⟩)
        · exact False.elim p
      · exact False.elim p
    · exact False.elim p
  | _ => exact False.elim p
theorem VRs.cut {r : List Addr} {H : Hp} {xs : List Val} {vs : List V} (a : VRs G r H xs vs) (lo hi : Option Int) : VRs G r H (PyM.cut xs lo hi) (cutV vs lo hi) := by
  unfold PyM.cut cutV
  rw [a.len]
  exact (a.drop _).take _
structure RfO (G : Cfg) (E : XK) (t : TO) (m : En → Heap → Res (Option Int)) : Prop where
  run : ∀ r H h s σ Q, HR G r H h → SR G r H s σ → PostR G (fun _ _ a b => a = b) r H E (m s h) Q → t σ H Q
structure MO (G : Cfg) (E : XK) (X : Cx) (e : Option Expr) (t : TO) (m : En → Heap → Res (Option Int)) : Prop where
  pe : PO X e t
  rf : RfO G E t m
def rSlAll (K : PySem.W.Frag) : V → Option Int → Option Int → Hp → VK → Prop := fun x lo hi H Q => rSlL K x lo hi H Q ∨ rSlA K x lo hi H Q
theorem rf_sl {r : List Addr} {H : Hp} {h : Heap} {x : Val} {v : V} {lo hi : Option Int} {Q : VK} (hR : HR G r H h) (a : VR G r H x v) (p : PostR G (VR G) r H E (oSl x lo hi h) Q) : rSlAll G.K v lo hi H Q := by
  cases a with
  | tup ha va =>
    refine .inr ⟨_, _, rfl, ha, fun e => ?_, fun _ q hq => ?_⟩
    · refine p.here hR (.tup ha ?_)
      unfold PyM.cut
      rw [va.len, e.1, e.2, ← va.len]
      simpa using va
    · exact p r _ _ (Stp.new0 hq) (hR.lay hq) (.tup (SqT.of upd_same) ((va.cut lo hi).mono (Stp.new0 hq)))
  | @ref n a ea =>
    simp only [oSl] at p
    split at p
    · rename_i xs eo
      cases hR.ob _ _ _ eo ea with
      | lst hl va =>
        refine .inl ⟨_, _, rfl, SqL.of hl, fun q hq => ?_⟩
        refine p (r ++ [q]) _ _ (Stp.new hq) (hR.push hq (.lst upd_same ((va.cut lo hi).mono (Stp.new hq)))) (.ref ?_)
        rw [← hR.len]
        simp
    · rename_i xs eo
      cases hR.ob _ _ _ eo ea with
      | fls hl va =>
        refine .inl ⟨_, _, rfl, hl.sq, fun q hq => ?_⟩
        refine p (r ++ [q]) _ _ (Stp.new hq) (hR.push hq (.lst upd_same ((va.cut lo hi).mono (Stp.new hq)))) (.ref ?_)
        rw [← hR.len]
        simp
    · exact False.elim p
  | _ => exact False.elim p
variable {X : Cx} {k : Nat} {a b c e : Expr} {ta tb tc : TE} {ma mb mc : En → Heap → Res Val} {pos p2 : Pos}
theorem me_ix (ok : G.Ok) (C : XC G E X k) (ha : ME G E X a ta ma) (hb : ME G E X b tb mb) (hs : PlainIx b := by exact fun _ _ => rfl) : ME G E X (.Subscript a b pos) (tOp (rIxA G.K) ta tb) (mB oIx ma mb) := by
  refine ⟨?_, ha.rf.b2 hb.rf (rf_ix ok)⟩
  have := pe_ix (pos := pos) (ix_all (X := X) (by have := C.hu; omega)) ha.pe hb.pe hs
  rwa [C.K] at this
theorem mo_no : MO G E X none tNoPart pNo := ⟨po_none, ⟨fun r H h s σ Q hR sR p => p.here hR rfl⟩⟩
theorem mo_so (ha : ME G E X a ta ma) : MO G E X (some a) (tPart ta) (pSo ma) := by
  refine ⟨po_some ha.pe, ⟨fun r H h s σ Q hR sR p => ha.rf.run r H h s σ _ hR sR (p.seq fun x h1' r1 H1 v s1 hR1 v1 p1 => ?_)⟩⟩
  cases v1 with
  | int i => exact ⟨i, rfl, p1.here hR1 rfl⟩
  | _ => exact False.elim p1
theorem me_sl {lo hi : Option Expr} {tl th : TO} {ml mh : En → Heap → Res (Option Int)} (C : XC G E X k) (ha : ME G E X a ta ma) (hl : MO G E X lo tl ml) (hh : MO G E X hi th mh) : ME G E X (.Subscript a (.Slice lo hi none p2) pos) (tSl (rSlAll G.K) ta tl th) (mSl ma ml mh) := by
  refine ⟨?_, ⟨fun r H h s σ Q hR sR p => ha.rf.run r H h s σ _ hR sR (p.seq fun x h1 r1 H1 v s1 hR1 v1 p1 => ?_)⟩⟩
  · have := pe_slice (p2 := p2) (pos := pos) ((sl_list (X := X)).or sl_tupA) ha.pe hl.pe hh.pe
    rw [C.K] at this
    exact this
  · refine hl.rf.run r1 H1 h1 s σ _ hR1 (sR.mono s1) (p1.seq fun lo' h2 r2 H2 _ s2 hR2 e2 p2 => ?_)
    refine hh.rf.run r2 H2 h2 s σ _ hR2 (sR.mono (s1.trans s2)) (p2.seq fun hi' h3 r3 H3 _ s3 hR3 e3 p3 => ?_)
    subst e2 e3
    exact rf_sl hR3 (v1.mono (s2.trans s3)) p3

/-! ### two ways -/
theorem pe_or2 {t t' : TE} (h : PE X e t) (h' : PE X e t') : PE X e (fun σ H Q => t σ H Q ∨ t' σ H Q) := ⟨fun pins s σ H Q I q => q.elim (h.run pins s σ H Q I) (h'.run pins s σ H Q I)⟩
theorem me_alt {t t' : TE} {m m' : En → Heap → Res Val} (h : ME G E X e t m) (h' : ME G E X e t' m') : ME G E X e (fun σ H Q => t σ H Q ∨ t' σ H Q) (mAlt m m') := by
  refine ⟨pe_or2 h.pe h'.pe, ⟨fun r H hh s σ Q hR sR p => ?_⟩⟩
  unfold mAlt at p
  cases q : m s hh with
  | stuck => rw [q] at p; exact .inr (h'.rf.run r H hh s σ Q hR sR p)
  | ok x y => rw [q] at p; exact .inl (h.rf.run r H hh s σ Q hR sR (by rw [q]; exact p))
  | raised x y => rw [q] at p; exact .inl (h.rf.run r H hh s σ Q hR sR (by rw [q]; exact p))
end

/-! ### calls -/
def spM (G : Cfg) (n : Nat) (m : List Val → Heap → Res Val) : Sp := fun vs H Q E => vs.length = n ∧ ∃ r h xs, HR G r H h ∧ VRs G r H xs vs ∧ PostR G (VR G) r H E (m xs h) Q
structure FnM (G : Cfg) (P : Program) (w : World) (mg : Str → Option Value) (base : PySem.Heap) (k : Nat) (f : Addr) (fd : FuncData) (ps : List Str) (m : List Val → Heap → Res Val) : Prop where
  ok : FnOk P w G.K mg base (L2.CX P w) k f fd ps (spM G ps.length m)
  st : ∀ xs h, xs.length ≠ ps.length → m xs h = .stuck
/-- the defaults of a def -/
structure DfM (G : Cfg) (xs : List Val) (vs : List V) (us : List Value) : Prop where
  v : Vals vs us
  r : ∀ r H, VRs G r H xs vs
theorem df_nil {G : Cfg} : DfM G [] [] [] := ⟨.nil, fun _ _ => .nil⟩
theorem df_non {G : Cfg} : DfM G [.non] [.non] [.none] := ⟨.cons rfl .nil, fun _ _ => .cons .non .nil⟩
def mCall (m : List Val → Heap → Res Val) (ds : List Val) (ma : En → Heap → Res (List Val)) (s : En) (h : Heap) : Res Val := (ma s h).bind fun xs h1 => m (xs ++ ds) h1
def isIns (c : Nat) (x : Val) (h : Heap) : Bool := match x with
  | .ref a => match h[a]? with
    | some (.ins c' _) => c == c'
    | _ => false
  | _ => false
def mMeth (c : Nat) (m : List Val → Heap → Res Val) (ds : List Val) (mo : En → Heap → Res Val) (ma : En → Heap → Res (List Val)) (s : En) (h : Heap) : Res Val := (mo s h).bind fun x h1 => if isIns c x h1 = true then (ma s h1).bind fun xs h2 => m (x :: (xs ++ ds)) h2 else .stuck
def mMake (c : Nat) (m : List Val → Heap → Res Val) (ds : List Val) (ma : En → Heap → Res (List Val)) (s : En) (h : Heap) : Res Val := (ma s h).bind fun xs h1 => (m (.ref h1.length :: (xs ++ ds)) (h1 ++ [.ins c []])).bind fun x h2 => match x with
  | .non => .ok (.ref h1.length) h2
  | _ => .stuck
section
variable {G : Cfg} {E : XK} {X : Cx} {k j : Nat} {a b c e o : Expr} {es : List Expr} {ta tb tc : TE} {ma mb mc mo : En → Heap → Res Val} {pos p2 p apos : Pos} {f D : Addr} {fd : FuncData} {ps : List Str} {m : List Val → Heap → Res Val} {x y : Str}
  {dx : List Val} {dv : List V} {du : List Value} {tA : TA} {mA : En → Heap → Res (List Val)}
theorem FnM.run (F : FnM G X.prog X.w X.mg X.base j f fd ps m) {r : List Addr} {H : Hp} {h : Heap} {xs : List Val} {vs : List V} {Q : VK} (hR : HR G r H h) (v : VRs G r H xs vs) (p : PostR G (VR G) r H E (m xs h) Q) : spM G ps.length m vs H Q E := by
  refine ⟨?_, r, h, xs, hR, v, p⟩
  rw [← v.len]
  refine Decidable.byContradiction fun q => ?_
  rw [F.st xs h q] at p
  exact p
theorem rf_call (F : FnM G X.prog X.w X.mg X.base j f fd ps m) (d : DfM G dx dv du) (ha : RfA G E tA mA) : Rf G E (tCall (spM G ps.length m) dv E tA) (mCall m dx mA) := by
  refine ⟨fun r H h s σ Q hR sR p => ha.run r H h s σ _ hR sR (p.seq fun x h1 r1 H1 v s1 hR1 v1 p1 => ?_)⟩
  exact F.run hR1 (v1.app (d.r _ _)) p1
theorem me_call (C : XC G E X k) (F : FnM G X.prog X.w X.mg X.base j f fd ps m) (d : DfM G dx dv du) (hj : j ≤ k) (hm : X.mg x = some (.ref f)) (hk : PySem.W.keepIn X.K (.ref f) = true) (hb : Binds X.K fd ps du) (ha : MA G E X (e :: es) tA mA) (hg : Gl X x := by rfl)
    (hdb : (x == ("__debug__" : Str)) = false := by decide) (he : starEach (e :: es) X.env = (false, eval e X.env) :: starEach es X.env := by rfl) (hpl : (backTo pos (starEach es X.env)).any (·.1) = false := by rfl) :
    ME G E X (.Call (.Name x p) (e :: es) [] pos) (tCall (spM G ps.length m) dv E tA) (mCall m dx mA) :=
  ⟨pe_call (by rw [C.K]; exact F.ok) (C.room.mono hj) hg hm hk hb d.v C.pass ha.pe hdb he hpl, rf_call F d ha.rf⟩
theorem me_call0 (C : XC G E X k) (F : FnM G X.prog X.w X.mg X.base j f fd ps m) (d : DfM G dx dv du) (hj : j ≤ k) (hm : X.mg x = some (.ref f)) (hk : PySem.W.keepIn X.K (.ref f) = true) (hb : Binds X.K fd ps du) (hg : Gl X x := by rfl)
    (hdb : (x == ("__debug__" : Str)) = false := by decide) :
    ME G E X (.Call (.Name x p) [] [] pos) (tCall (spM G ps.length m) dv E tNil) (mCall m dx mNil) :=
  ⟨pe_call0 (by rw [C.K]; exact F.ok) (C.room.mono hj) hg hm hk hb d.v C.pass hdb, rf_call F d (ma_nil (X := X)).rf⟩
theorem rf_meth (F : FnM G X.prog X.w X.mg X.base j f fd ps m) {c : Nat} (hc : G.cls[c]? = some D) (hm : Meth G.K D y f) (d : DfM G dx dv du) (ho : Rf G E ta mo) (ha : RfA G E tA mA) : Rf G E (tMeth D y (spM G ps.length m) dv E ta tA) (mMeth c m dx mo mA) := by
  refine ⟨fun r H h s σ Q hR sR p => ho.run r H h s σ _ hR sR (p.seq fun x h1 r1 H1 v s1 hR1 v1 p1 => ?_)⟩
  split at p1
  · rename_i hi
    cases v1 with
    | @ref n a ea =>
      simp only [isIns] at hi
      split at hi
      · rename_i c' fs eo
        have : c = c' := by simpa using hi
        subst this
        cases hR1.ob _ _ _ eo ea with
        | @ins _ D' _ _ _ _ hc' hC hH hf =>
          rw [hc] at hc'
          cases hc'
          refine ⟨_, _, _, rfl, hH, ?_, ?_⟩
          · have key : ∀ {fs : List (Nat × Val)} {gs : List (Str × V)}, FR G r1 H1 D fs gs → gs.lookup y = none := by
              intro fs gs hf
              induction hf with
              | nil => rfl
              | @cons f' z x' v' fs gs hz na _ _ ih =>
                have : y ≠ z := fun q => by
                  subst q
                  have h1 := hm.at_
                  have h2 : PySem.W.findIn G.K (.ref D) y = some none := na
                  rw [h2] at h1
                  cases h1
                rw [List.lookup_cons, beq_eq_false_iff_ne.mpr this]
                exact ih
            exact key hf
          · refine ha.run r1 H1 h1 s σ _ hR1 (sR.mono s1) (p1.seq fun xs h2 r2 H2 vs s2 hR2 v2 p2 => ?_)
            exact F.run hR2 (.cons (.ref (s2.pre _ _ ea)) (v2.app (d.r _ _))) p2
      · cases hi
    | _ => simp [isIns] at hi
  · exact False.elim p1
theorem me_meth {pl : Sem Bool} (C : XC G E X k) (F : FnM G X.prog X.w X.mg X.base j f fd ps m) (c : Nat) (hc : G.cls[c]? = some D) (hC : Cls X.K D) (hm : Meth X.K D y f) (d : DfM G dx dv du) (hj : j ≤ k) (hb : Binds X.K fd ps du) (ho : ME G E X o ta mo) (ha : MA G E X (e :: es) tA mA)
    (hst : starEach (e :: es) X.env = (false, eval e X.env) :: starEach es X.env := by rfl) (hpl : (backTo pos (starEach es X.env)).any (·.1) = false := by rfl)
    (ht : eval (.Call (.Attribute o y apos) (e :: es) [] pos) X.env = (do
      let ov ← eval o X.env
      standAt apos.atName
      let (f, first) ← holding [ov] (getMethod ov y pl)
      callWith pos f first (backTo pos (starEach (e :: es) X.env)) (backToKw pos (keywordEach [] X.env))) := by rfl) :
    ME G E X (.Call (.Attribute o y apos) (e :: es) [] pos) (tMeth D y (spM G ps.length m) dv E ta tA) (mMeth c m dx mo mA) := by
  refine ⟨pe_meth ho.pe hC hm (by rw [C.K]; exact F.ok) (C.room.mono hj) hb d.v C.pass ha.pe hst hpl ht, rf_meth F hc (by rw [← C.K]; exact hm) d ho.rf ha.rf⟩
theorem me_meth0 {pl : Sem Bool} (C : XC G E X k) (F : FnM G X.prog X.w X.mg X.base j f fd ps m) (c : Nat) (hc : G.cls[c]? = some D) (hC : Cls X.K D) (hm : Meth X.K D y f) (d : DfM G dx dv du) (hj : j ≤ k) (hb : Binds X.K fd ps du) (ho : ME G E X o ta mo)
    (ht : eval (.Call (.Attribute o y apos) [] [] pos) X.env = (do
      let ov ← eval o X.env
      standAt apos.atName
      let (f, first) ← holding [ov] (getMethod ov y pl)
      callWith pos f first (backTo pos (starEach [] X.env)) (backToKw pos (keywordEach [] X.env))) := by rfl) :
    ME G E X (.Call (.Attribute o y apos) [] [] pos) (tMeth D y (spM G ps.length m) dv E ta tNil) (mMeth c m dx mo mNil) := by
  refine ⟨pe_meth0 ho.pe hC hm (by rw [C.K]; exact F.ok) (C.room.mono hj) hb d.v C.pass ht, rf_meth F hc (by rw [← C.K]; exact hm) d ho.rf (ma_nil (X := X)).rf⟩
theorem rf_make (F : FnM G X.prog X.w X.mg X.base j f fd ps m) {c : Nat} (hc : G.cls[c]? = some D) (hC : Cls G.K D) (d : DfM G dx dv du) (ha : RfA G E tA mA) : Rf G E (tMake D (spM G ps.length m) dv E tA) (mMake c m dx mA) := by
  refine ⟨fun r H h s σ Q hR sR p => ha.run r H h s σ _ hR sR (p.seq fun xs h1 r1 H1 vs s1 hR1 v1 p1 => ?_)⟩
  intro x ex nx nex ne
  have hx : (upd H1 ex (.own x)) x = none := by rw [upd_ne (Ne.symm ne)]; exact nx
  have st : Stp G.K r1 H1 (r1 ++ [x]) (upd (upd H1 ex (.own x)) x (.ins D ex [])) := (Stp.new0 (K := G.K) (r := r1) (u := .own x) nex).trans (Stp.new hx)
  have hR2 : HR G (r1 ++ [x]) (upd (upd H1 ex (.own x)) x (.ins D ex [])) (h1 ++ [.ins c []]) := (hR1.lay nex).push hx (.ins hc hC upd_same .nil)
  refine F.run hR2 (.cons (.ref (n := h1.length) ?_) ((v1.mono st).app (d.r _ _))) ?_
  · rw [← hR1.len]
    simp
  · have p2 := p1.shift st
    refine p2.seq fun z h2 r2 H2 v s2 hR3 v2 p3 => ?_
    cases v2 with
    | non =>
      refine ⟨rfl, p3.here hR3 (.ref (s2.pre _ _ ?_))⟩
      rw [← hR1.len]
      simp
    | _ => exact False.elim p3
theorem me_make (C : XC G E X k) (F : FnM G X.prog X.w X.mg X.base j f fd ps m) (c : Nat) (hc : G.cls[c]? = some D) (hC : Cls G.K D) (M : Mk X.K D f) (d : DfM G dx dv du) (hj : j + 1 ≤ k) (hm : X.mg x = some (.ref D)) (hb : Binds X.K fd ps du) (ha : MA G E X (e :: es) tA mA) (hg : Gl X x := by rfl)
    (hdb : (x == ("__debug__" : Str)) = false := by decide) (he : starEach (e :: es) X.env = (false, eval e X.env) :: starEach es X.env := by rfl) (hpl : (backTo pos (starEach es X.env)).any (·.1) = false := by rfl) :
    ME G E X (.Call (.Name x p) (e :: es) [] pos) (tMake D (spM G ps.length m) dv E tA) (mMake c m dx mA) :=
  ⟨pe_make M (by rw [C.K]; exact F.ok) (C.room.mono hj) hg hm hb d.v C.pass ha.pe hdb he hpl, rf_make F hc hC d ha.rf⟩
theorem me_make0 (C : XC G E X k) (F : FnM G X.prog X.w X.mg X.base j f fd ps m) (c : Nat) (hc : G.cls[c]? = some D) (hC : Cls G.K D) (M : Mk X.K D f) (d : DfM G dx dv du) (hj : j + 1 ≤ k) (hm : X.mg x = some (.ref D)) (hb : Binds X.K fd ps du) (hg : Gl X x := by rfl)
    (hdb : (x == ("__debug__" : Str)) = false := by decide) :
    ME G E X (.Call (.Name x p) [] [] pos) (tMake D (spM G ps.length m) dv E tNil) (mMake c m dx mNil) :=
  ⟨pe_make0 M (by rw [C.K]; exact F.ok) (C.room.mono hj) hg hm hb d.v C.pass hdb, rf_make F hc hC d (ma_nil (X := X)).rf⟩
end
end PyM

set_option Elab.async false
set_option linter.all false
set_option maxRecDepth 100000
set_option autoImplicit false
namespace PyM
open PySem L2

/-! ### statements -/
def RS.bind (x : RS) (k : En → Heap → RS) : RS := match x with
  | .nx s h => k s h
  | x => x
def Res.thenS {α : Type} (x : Res α) (k : α → Heap → RS) : RS := match x with
  | .ok a h => k a h
  | .raised c h => .raised c h
  | .stuck => .stuck
def sNx (s : En) (h : Heap) : RS := .nx s h
def sBk (s : En) (h : Heap) : RS := .bk s h
def sCt (s : En) (h : Heap) : RS := .ct s h
def sNever (_ : En) (_ : Heap) : RS := .stuck
def sSeq (a b : En → Heap → RS) (s : En) (h : Heap) : RS := (a s h).bind b
def sDrop (m : En → Heap → Res Val) (s : En) (h : Heap) : RS := (m s h).thenS fun _ h1 => .nx s h1
def sRet (m : En → Heap → Res Val) (s : En) (h : Heap) : RS := (m s h).thenS fun x h1 => .rt x h1
def sRetN (_ : En) (h : Heap) : RS := .rt .non h
def sIf (c : En → Heap → Res Bool) (a b : En → Heap → RS) (s : En) (h : Heap) : RS := (c s h).thenS fun x h1 => if x = true then a s h1 else b s h1
/-- targets -/
def gV (i : Nat) (x : Val) (s : En) : Option En := some (s.set i (some x))
def gsNil (xs : List Val) (s : En) : Option En := if xs.isEmpty = true then some s else none
def gsCons (g : Val → En → Option En) (gs : List Val → En → Option En) (xs : List Val) (s : En) : Option En := match xs with
  | x :: r => (g x s).bind fun s1 => gs r s1
  | [] => none
def gT (gs : List Val → En → Option En) (x : Val) (s : En) : Option En := match x with
  | .tup xs => gs xs s
  | _ => none
def sAsg (g : Val → En → Option En) (m : En → Heap → Res Val) (s : En) (h : Heap) : RS := (m s h).thenS fun x h1 => match g x s with
  | some s1 => .nx s1 h1
  | none => .stuck
def oSet (o i x : Val) (h : Heap) : Res Unit := match o with
  | .ref a => match h[a]? with
    | some (.lst xs) => match i with
      | .int k => match ixN xs.length k with
        | some j => .ok () (h.set a (.lst (xs.set j x)))
        | none => .stuck
      | _ => .stuck
    | some (.dct d) => if isKey i = true ∧ d.length < lim then .ok () (h.set a (.dct (putV d i x))) else .stuck
    | _ => .stuck
  | _ => .stuck
/-- o[i] = e: the value first -/
def sSub (mo mi me : En → Heap → Res Val) (s : En) (h : Heap) : RS := (me s h).thenS fun x h1 => (mo s h1).thenS fun o h2 => (mi s h2).thenS fun i h3 => (oSet o i x h3).thenS fun _ h4 => .nx s h4
/-- o[i], by values: a list's, a dict's -/
def oIxM (x y : Val) (h : Heap) : Res Val := match x with
  | .ref _ => oIx x y h
  | _ => .stuck
/-- o[i] op= e -/
def sSubA (f : Val → Val → Heap → Res Val) (mo mi me : En → Heap → Res Val) (s : En) (h : Heap) : RS := (mo s h).thenS fun o h1 => (mi s h1).thenS fun i h2 => (oIxM o i h2).thenS fun x h3 => (me s h3).thenS fun y h4 => (f x y h4).thenS fun z h5 => (oSet o i z h5).thenS fun _ h6 => .nx s h6
def oSetF (d f : Nat) (o x : Val) (h : Heap) : Res Unit := match o with
  | .ref a => match h[a]? with
    | some (.ins c fs) => if c = d ∧ fs.length < 1000 then .ok () (h.set a (.ins c (setF f x fs))) else .stuck
    | _ => .stuck
  | _ => .stuck
def sFld (d f : Nat) (mo me : En → Heap → Res Val) (s : En) (h : Heap) : RS := (me s h).thenS fun x h1 => (mo s h1).thenS fun o h2 => (oSetF d f o x h2).thenS fun _ h3 => .nx s h3
def sFldA (d f : Nat) (g : Val → Val → Heap → Res Val) (mo me : En → Heap → Res Val) (s : En) (h : Heap) : RS := (mo s h).thenS fun o h1 => (if isIns d o h1 = true then getF f o h1 else .stuck).thenS fun x h2 => (me s h2).thenS fun y h3 => (g x y h3).thenS fun z h4 => (oSetF d f o z h4).thenS fun _ h5 => .nx s h5
def sAug (i : Nat) (g : Val → Val → Heap → Res Val) (me : En → Heap → Res Val) (s : En) (h : Heap) : RS := match s[i]? with
  | some (some x) => (me s h).thenS fun y h1 => (g x y h1).thenS fun z h2 => .nx (s.set i (some z)) h2
  | _ => .stuck

section
variable {G : Cfg} {E : XK}
theorem PostS.seqS {α β : Type} {R1 : List Addr → Hp → α → β → Prop} {r : List Addr} {H : Hp} {x : Res α} {k : α → Heap → RS} {D : Ends} {Q' : β → Hp → Prop}
    (p : PostS G r H E (x.thenS k) D) (f : ∀ a h1 r1 H1 b, Stp G.K r H r1 H1 → HR G r1 H1 h1 → R1 r1 H1 a b → PostS G r1 H1 E (k a h1) D → Q' b H1) : PostR G R1 r H E x Q' := by
  cases x with
  | ok a h => exact fun r' H' b s' hR vR => f a h r' H' b s' hR vR (p.shift s')
  | raised c h => exact p
  | stuck => exact p
theorem PostS.here {r : List Addr} {H : Hp} {s : En} {t : St} {h : Heap} {D : Ends} (p : PostS G r H E (.nx s h) D) (hR : HR G r H h) (v : SR G r H s t) : D.nx t H := p r H t Stp.refl hR v
structure RfG (G : Cfg) (g : TG) (m : Val → En → Option En) : Prop where
  run : ∀ r H s σ x v (Q : St → Hp → Prop), SR G r H s σ → VR G r H x v → (∃ s1, m x s = some s1 ∧ ∀ σ1, SR G r H s1 σ1 → Q σ1 H) → g v σ H Q
structure RfGs (G : Cfg) (g : TGs) (m : List Val → En → Option En) : Prop where
  run : ∀ r H s σ xs vs (Q : St → Hp → Prop), SR G r H s σ → VRs G r H xs vs → (∃ s1, m xs s = some s1 ∧ ∀ σ1, SR G r H s1 σ1 → Q σ1 H) → g vs σ H Q
structure MG (G : Cfg) (X : Cx) (e : Expr) (g : TG) (m : Val → En → Option En) : Prop where
  pe : PG X e g
  rf : RfG G g m
structure MGs (G : Cfg) (X : Cx) (es : List Expr) (g : TGs) (m : List Val → En → Option En) : Prop where
  pe : PGs X es g
  rf : RfGs G g m
variable {X : Cx} {k : Nat} {a b c e o : Expr} {es : List Expr} {ta tb tc to ti : TE} {ma mb mc mo mi me : En → Heap → Res Val} {pos pos' p2 : Pos} {st : Stmt} {sts sts2 : List Stmt} {t u : TS} {m n : En → Heap → RS} {tt : TT} {mt : En → Heap → Res Bool}
theorem mg_name (i : Nat) {x : Str} (hN : X.N.Nodup) (hi : X.N[i]? = some x := by rfl) (hx : Loc X.env.scope x := by first | exact Or.inl rfl | exact Or.inr rfl) (hf : X.fn x = true ∨ X.env.scope.names.lookup x = some .local := by first | exact .inl rfl | exact .inr rfl | assumption) : MG G X (.Name x pos) (gName i) (gV i) :=
  ⟨pg_name hN hi hx hf, ⟨fun r H s σ x v Q sR vR ⟨s1, e1, q⟩ => by cases e1; exact q _ (sR.set vR i)⟩⟩
theorem mgs_nil : MGs G X [] gNil gsNil := ⟨pgs_nil, ⟨fun r H s σ xs vs Q sR vR ⟨s1, e1, q⟩ => by
  cases vR with
  | nil => cases e1; exact ⟨rfl, q _ sR⟩
  | cons _ _ => simp [gsNil] at e1⟩⟩
theorem mgs_cons {g : TG} {gs : TGs} {mg : Val → En → Option En} {mgs : List Val → En → Option En} (h : MG G X e g mg) (hs : MGs G X es gs mgs) (hx : (assignEach (e :: es) X.env).map (·.2) = assign e X.env :: (assignEach es X.env).map (·.2) := by rfl) : MGs G X (e :: es) (gCons g gs) (gsCons mg mgs) := by
  refine ⟨pgs_cons h.pe hs.pe hx, ⟨fun r H s σ xs vs Q sR vR ⟨s1, e1, q⟩ => ?_⟩⟩
  cases vR with
  | nil => simp [gsCons] at e1
  | cons v1 v2 =>
    simp only [gsCons] at e1
    cases hq : mg _ s with
    | none => rw [hq] at e1; cases e1
    | some s2 =>
      rw [hq] at e1
      exact ⟨_, _, rfl, h.rf.run r H s σ _ _ _ sR v1 ⟨s2, hq, fun σ1 sR1 => hs.rf.run r H s2 σ1 _ _ _ sR1 v2 ⟨s1, e1, q⟩⟩⟩
theorem mg_tup {gs : TGs} {mgs : List Val → En → Option En} {n : Nat} (C : XC G E X k) (h : MGs G X es gs mgs) (hl : ∀ xs s s1, mgs xs s = some s1 → xs.length = n) {kk : Nat}
    (hn : (assignEach es X.env).length = n := by rfl) (hst : (assignEach es X.env).findIdx? (·.1) = none := by rfl) : MG G X (.Tuple es kk pos) (gTup G.K n gs) (gT mgs) := by
  refine ⟨?_, ⟨fun r H s σ x v Q sR vR ⟨s1, e1, q⟩ => ?_⟩⟩
  · have := pg_tup (pos := pos) (k := kk) C.calm h.pe hn hst
    rwa [C.K] at this
  · cases vR with
    | tup hs hv => exact ⟨_, _, rfl, hs, by rw [← hv.len]; exact hl _ _ _ e1, h.rf.run r H s σ _ _ _ sR hv ⟨s1, e1, q⟩⟩
    | _ => cases e1
theorem gs_len0 (xs : List Val) (s s1 : En) (h : gsNil xs s = some s1) : xs.length = 0 := by
  cases xs with
  | nil => rfl
  | cons _ _ => simp [gsNil] at h
theorem gs_lenS {g : Val → En → Option En} {gs : List Val → En → Option En} {n : Nat} (ih : ∀ xs s s1, gs xs s = some s1 → xs.length = n) (xs : List Val) (s s1 : En) (h : gsCons g gs xs s = some s1) : xs.length = n + 1 := by
  cases xs with
  | nil => simp [gsCons] at h
  | cons x r =>
    simp only [gsCons] at h
    cases q : g x s with
    | none => rw [q] at h; cases h
    | some s2 => rw [q] at h; rw [List.length_cons, ih _ _ _ h]

/-! ### rules -/
theorem mss_nil : MSs G E X [] tNext sNx := ⟨pss_nil, ⟨fun r H h s σ D hR sR p => p.here hR sR⟩⟩
theorem PostS.ends {r : List Addr} {H : Hp} {x : RS} {D D' : Ends} (p : PostS G r H E x D) (h1 : D'.rt = D.rt) (h2 : D'.bk = D.bk) (h3 : D'.ct = D.ct) (h4 : ∀ s h, x ≠ .nx s h) : PostS G r H E x D' := by
  cases x with
  | nx s h => exact absurd rfl (h4 s h)
  | rt v h => intro r' H' v'; rw [h1]; exact p r' H' v'
  | bk s h => intro r' H' v'; rw [h2]; exact p r' H' v'
  | ct s h => intro r' H' v'; rw [h3]; exact p r' H' v'
  | raised c h => exact p
  | stuck => exact p
theorem mss_cons (h : MS G E X st t m) (h2 : MSs G E X sts u n) : MSs G E X (st :: sts) (tSeq t u) (sSeq m n) := by
  refine ⟨pss_cons h.pe h2.pe, ⟨fun r H hh s σ D hR sR p => h.rf.run r H hh s σ _ hR sR ?_⟩⟩
  unfold sSeq at p
  cases q : m s hh with
  | nx s1 h1 =>
    rw [q] at p
    exact fun r1 H1 σ1 s1' hR1 sR1 => h2.rf.run r1 H1 h1 s1 σ1 D hR1 sR1 (PostS.shift s1' p)
  | rt v h => rw [q] at p; exact p
  | bk v h => rw [q] at p; exact p
  | ct v h => rw [q] at p; exact p
  | raised v h => rw [q] at p; exact p
  | stuck => rw [q] at p; exact p
theorem mss_one (h : MS G E X st t m) : MSs G E X [st] t m := ⟨pss_one h.pe, h.rf⟩
theorem ms_pass : MS G E X (.Pass pos) tNext sNx := ⟨ps_pass, ⟨fun r H h s σ D hR sR p => p.here hR sR⟩⟩
theorem ms_break : MS G E X (.Break pos) tBreak sBk := ⟨ps_break, ⟨fun r H h s σ D hR sR p => p r H σ Stp.refl hR sR⟩⟩
theorem ms_continue : MS G E X (.Continue pos) tCont sCt := ⟨ps_continue, ⟨fun r H h s σ D hR sR p => p r H σ Stp.refl hR sR⟩⟩
theorem ms_never : MS G E X st tNever sNever := ⟨ps_never, ⟨fun r H h s σ D hR sR p => p⟩⟩
theorem ms_expr (ha : ME G E X a ta ma) (hs : swapsWith a none pos.line X.env = pure false := by rfl) : MS G E X (.Expr a pos) (tDrop ta) (sDrop ma) :=
  ⟨ps_expr ha.pe hs, ⟨fun r H h s σ D hR sR p => ha.rf.run r H h s σ _ hR sR (p.seqS fun x h1 r1 H1 v s1 hR1 v1 p1 => p1.here hR1 (sR.mono s1))⟩⟩
theorem ms_ret (ha : ME G E X a ta ma) : MS G E X (.Return (some a) pos) (tRet ta) (sRet ma) :=
  ⟨ps_ret ha.pe, ⟨fun r H h s σ D hR sR p => ha.rf.run r H h s σ _ hR sR (p.seqS fun x h1 r1 H1 v s1 hR1 v1 p1 => p1 r1 H1 v Stp.refl hR1 v1)⟩⟩
theorem ms_retN : MS G E X (.Return none pos) tRetN sRetN := ⟨ps_retN, ⟨fun r H h s σ D hR sR p => p r H _ Stp.refl hR .non⟩⟩
theorem ms_if (hc : MT G E X c tt mt) (h1 : MSs G E X sts t m) (h2 : MSs G E X sts2 u n) : MS G E X (.If c sts sts2 pos) (tIfS tt t u) (sIf mt m n) := by
  refine ⟨ps_if hc.pe h1.pe h2.pe, ⟨fun r H h s σ D hR sR p => hc.rf.run r H h s σ _ hR sR (p.seqS fun x h1' r1 H1 v s1 hR1 v1 p1 => ?_)⟩⟩
  subst v1
  split at p1
  · rename_i q
    rw [if_pos q]
    exact h1.rf.run r1 H1 h1' s σ D hR1 (sR.mono s1) p1
  · rename_i q
    rw [if_neg q]
    exact h2.rf.run r1 H1 h1' s σ D hR1 (sR.mono s1) p1
theorem ms_asg {tg : Expr} {g : TG} {mg : Val → En → Option En} (ha : ME G E X a ta ma) (hg : MG G X tg g mg) (hs : swapsWithSole [tg] a pos.line X.env = pure false := by rfl) (hw : swappedStores [tg] a X.env = pure none := by rfl) (h1 : (assignEach [tg] X.env).map (·.2) = [assign tg X.env] := by rfl) : MS G E X (.Assign [tg] a pos) (tAsg ta g) (sAsg mg ma) := by
  refine ⟨ps_asg ha.pe hg.pe hs hw h1, ⟨fun r H h s σ D hR sR p => ha.rf.run r H h s σ _ hR sR (p.seqS fun x h1' r1 H1 v s1 hR1 v1 p1 => ?_)⟩⟩
  cases q : mg x s with
  | none => rw [q] at p1; exact False.elim p1
  | some s2 => rw [q] at p1; exact hg.rf.run r1 H1 s σ x v _ (sR.mono s1) v1 ⟨s2, q, fun σ1 sR1 => p1.here hR1 sR1⟩
/-- a store to a list's place, to a dict's key -/
def rSetA : TSet := fun o i v H Q => rSetL o i v H Q ∨ ∃ a H1, o = .ref a ∧ DPut H a i v H1 ∧ Q H1
theorem set_all (hu : X.A.units + 1 < cLine) : PSet X rSetA := by
  intro pins s σ H o i v ov iv u Q I r1 r2 r3 q
  rcases q with q | ⟨a, H1, e, g, q⟩
  · exact set_list pins s σ H o i v ov iv u Q I r1 r2 r3 q
  · subst e
    obtain rfl : ov = Value.ref a := r1
    exact d_setItem hu I g r2 r3 fun s4 I4 => ⟨H1, I4, q⟩
theorem rf_set (ok : G.Ok) {r : List Addr} {H : Hp} {h : Heap} {o i x : Val} {ov iv v : V} {Q : Hp → Prop} (hR : HR G r H h) (r1 : VR G r H o ov) (r2 : VR G r H i iv) (r3 : VR G r H x v)
    (p : ∃ h1, oSet o i x h = .ok () h1 ∧ ∀ H1, Stp G.K r H r H1 → HR G r H1 h1 → Q H1) : rSetA ov iv v H Q := by
  obtain ⟨h1, p, q⟩ := p
  cases r1 with
  | @ref n a ea =>
    simp only [oSet] at p
    split at p
    · rename_i xs eo
      split at p
      · rename_i kk
        cases r2
        split at p
        · rename_i j ej
          cases p
          cases hR.ob _ _ _ eo ea with
          | lst hl hv =>
            refine .inl ⟨_, _, _, j, rfl, rfl, hl, by rw [← hv.len]; exact ej, q _ (Stp.upd fun o e => by rw [hl] at e; cases e; trivial) ?_⟩
            refine hR.write eo rfl ea (fun o e => by rw [hl] at e; cases e; trivial) (.lst upd_same ?_) rfl
            exact VRs.mono (Stp.upd fun o e => by rw [hl] at e; cases e; trivial) _ _ (VRs.set r3 j hv)
        · cases p
      · cases p
    · rename_i d eo
      split at p
      · rename_i hk
        cases p
        cases hR.ob _ _ _ eo ea with
        | dct hd hv =>
          obtain ⟨kq, hkq, rfl⟩ := KR.of r2 hk.1
          have st : ∀ u, Stp G.K r H r (upd H a u) := fun u => Stp.upd fun o e => by rw [hd] at e; cases e; trivial
          refine .inr ⟨_, _, rfl, DPut.k hd (lt_line (by rw [← hv.len]; exact hk.2)), q _ (st _) ?_⟩
          refine hR.write eo rfl ea (fun o e => by rw [hd] at e; cases e; trivial) (.dct upd_same ?_) rfl
          exact (hv.put ok hkq r3).mono (st _)
      · cases p
    · cases p
  | _ => cases p
theorem thenS_ok {α : Type} {r : List Addr} {H : Hp} {x : Res α} {k : α → Heap → RS} {D : Ends} (p : PostS G r H E (x.thenS k) D) (hn : ∀ c h, x ≠ .raised c h) : ∃ a h1, x = .ok a h1 ∧ PostS G r H E (k a h1) D := by
  cases x with
  | ok a h => exact ⟨a, h, rfl, p⟩
  | raised c h => exact absurd rfl (hn c h)
  | stuck => exact False.elim p
theorem oSet_nr (o i x : Val) (h : Heap) : ∀ c h1, oSet o i x h ≠ .raised c h1 := by
  intro c h1 e
  unfold oSet at e
  (repeat' split at e) <;> cases e
theorem ms_sub (ok : G.Ok) (C : XC G E X k) (ho : ME G E X o to mo) (hi : ME G E X b ti mi) (ha : ME G E X a ta ma) (hs : swapsWithSole [.Subscript o b pos'] a pos.line X.env = pure false := by rfl) (hw : swappedStores [.Subscript o b pos'] a X.env = pure none := by rfl)
    (hx : ∀ v, assign (.Subscript o b pos') X.env v = (do
      let ov ← holding [v] (eval o X.env)
      let iv ← holding [v, ov] (eval b X.env)
      standAt pos'
      holding [v, ov, iv] (setItem ov iv v)
      release [v, ov, iv] []) := by intro _; rfl) (h1 : (assignEach [.Subscript o b pos'] X.env).map (·.2) = [assign (.Subscript o b pos') X.env] := by rfl) :
    MS G E X (.Assign [.Subscript o b pos'] a pos) (tAsg ta (gSub to ti rSetA)) (sSub mo mi ma) := by
  refine ⟨ps_asg ha.pe (pg_sub ho.pe hi.pe (set_all (by have := C.hu; omega)) hx) hs hw h1, ⟨fun r H h s σ D hR sR p => ha.rf.run r H h s σ _ hR sR (p.seqS fun x h1 r1 H1 v s1 hR1 v1 p1 => ?_)⟩⟩
  refine ho.rf.run r1 H1 h1 s σ _ hR1 (sR.mono s1) (p1.seqS fun y h2 r2 H2 w s2 hR2 v2 p2 => ?_)
  refine hi.rf.run r2 H2 h2 s σ _ hR2 (sR.mono (s1.trans s2)) (p2.seqS fun z h3 r3 H3 w3 s3 hR3 v3 p3 => ?_)
  obtain ⟨_, h4, e4, p4⟩ := thenS_ok p3 (oSet_nr _ _ _ _)
  refine rf_set ok hR3 (v2.mono s3) v3 (v1.mono (s2.trans s3)) ⟨h4, e4, fun H4 s4 hR4 => ?_⟩
  exact (p4.shift s4).here hR4 (sR.mono ((s1.trans s2).trans (s3.trans s4)))
def rGetA (K : PySem.W.Frag) : V → V → Hp → VK → Prop := fun x y H Q => rIxL K x y H Q ∨ rDGetR x y H Q
theorem get_all (hu : X.A.units + 1 < cLine) : PGet X (rGetA X.K) := by
  intro pins s σ H x y v u Q I rx ry q
  rcases q with h | ⟨a, z, rfl, g, q⟩
  · obtain ⟨p, xs, i, z, rfl, rfl, hq, he, q⟩ := h
    cases rx
    obtain ⟨t, rfl⟩ := ry
    obtain ⟨its, r, pl, hz⟩ := I.list hq
    obtain ⟨j, h1, h2, h3, h4, h5⟩ := atI_get he
    obtain ⟨w, ew, rw'⟩ := r.get h2
    have hl := r.length
    have hn := line63
    have fin : EP X pins σ Q w s := ⟨z, H, I, rw', q⟩
    by_cases h0 : 0 ≤ i
    · have hj : i.toNat = j := by
        rw [seqIndex_of h0 h5] at h1
        exact Option.some.inj h1
      exact wpAny_getItem_list pl.isList h0 (by omega) (by rw [hj]; simpa using ew) fin
    · have hj : (i + (its.toArray.size : Int)).toNat = j := by
        rw [seqIndex_neg (by omega) h4] at h1
        rw [List.size_toArray, ← hl]
        exact Option.some.inj h1
      exact wpAny_getItem_list_neg pl.isList (by omega) (by rw [List.size_toArray] <;> omega) (by omega) (by rw [hj]; simpa using ew) fin
  · obtain rfl : v = Value.ref a := rx
    exact d_getItem hu I g ry fun w' s3 I3 rw' => ⟨z, H, I3, rw', q⟩
theorem rf_get (ok : G.Ok) {r : List Addr} {H : Hp} {h : Heap} {x y : Val} {v u : V} {Q : VK} (hR : HR G r H h) (a : VR G r H x v) (b : VR G r H y u) (p : PostR G (VR G) r H E (oIxM x y h) Q) : rGetA G.K v u H Q := by
  cases a with
  | @ref n a ea =>
    simp only [oIxM, oIx] at p
    split at p
    · rename_i xs eo
      split at p
      · split at p
        · rename_i z ez
          cases b
          cases hR.ob _ _ _ eo ea with
          | lst hl va =>
            obtain ⟨j, e1, e2⟩ := atI_len va.len ez
            obtain ⟨w, e3, vw⟩ := va.get e1
            exact .inl ⟨_, _, _, _, rfl, rfl, SqL.of hl, e2 _ e3, p.here hR vw⟩
        · exact False.elim p
      · exact False.elim p
    · rename_i xs eo
      split at p
      · split at p
        · rename_i z ez
          cases b
          cases hR.ob _ _ _ eo ea with
          | fls hl va =>
            obtain ⟨j, e1, e2⟩ := atI_len va.len ez
            obtain ⟨w, e3, vw⟩ := va.get e1
            exact .inl ⟨_, _, _, _, rfl, rfl, hl.sq, e2 _ e3, p.here hR vw⟩
        · exact False.elim p
      · exact False.elim p
    · rename_i d eo
      split at p
      · rename_i hk
        split at p
        · rename_i z ez
          cases hR.ob _ _ _ eo ea with
          | dct hd hv =>
            obtain ⟨q, kq, rfl⟩ := KR.of b hk
            rcases hv.look ok kq with ⟨e1, _⟩ | ⟨x', v', e1, e2, v2⟩
            · rw [e1] at ez
              cases ez
            · rw [e1] at ez
              cases ez
              exact .inr ⟨_, _, rfl, by rw [← e2]; exact DGet.k hd, p.here hR v2⟩
        · exact False.elim p
      · exact False.elim p
    · exact False.elim p
  | _ => exact False.elim p
theorem ia_add : PIp X .Add (rI0 fun i j => .int (i + j)) := fun pins s σ H x y v u Q I r1 r2 h => iop_add pins s σ H x y v u Q I r1 r2 h
theorem ia_sub : PIp X .Sub (rI0 fun i j => .int (i - j)) := fun pins s σ H x y v u Q I r1 r2 h => iop_sub pins s σ H x y v u Q I r1 r2 h
theorem ms_subA (ok : G.Ok) (C : XC G E X k) {op : Operator} {t : TIp} {f : Val → Val → Heap → Res Val} (hop : PIp X op t) (hf : Rf2 G E t f) (ho : ME G E X o to mo) (hi : ME G E X b ti mi) (ha : ME G E X a ta ma)
    (hs : ∀ ov iv new, augStore b ov iv new = (do holding [new, ov, iv] (setItem ov iv new); release [new, ov, iv] []; pure .next) := by intros; rfl) :
    MS G E X (.AugAssign (.Subscript o b pos') op a pos) (tAugS to ti ta (rGetA G.K) t rSetA) (sSubA f mo mi ma) := by
  refine ⟨?_, ⟨fun r H h s σ D hR sR p => ho.rf.run r H h s σ _ hR sR (PostS.seqS (sSub_eq p) fun x h1 r1 H1 v s1 hR1 v1 p1 => ?_)⟩⟩
  · have := ps_augS (pos := pos) (tpos := pos') ho.pe hi.pe (get_all (X := X) (by have := C.hu; omega)) ha.pe hop (set_all (by have := C.hu; omega)) hs
    rwa [C.K] at this
  · refine hi.rf.run r1 H1 h1 s σ _ hR1 (sR.mono s1) (p1.seqS fun y h2 r2 H2 w s2 hR2 v2 p2 => ?_)
    refine rf_get (E := E) ok hR2 (v1.mono s2) v2 (p2.seqS fun z h3 r3 H3 w3 s3 hR3 v3 p3 => ?_)
    refine ha.rf.run r3 H3 h3 s σ _ hR3 (sR.mono ((s1.trans s2).trans s3)) (p3.seqS fun y' h4 r4 H4 w4 s4 hR4 v4 p4 => ?_)
    refine hf.run r4 H4 h4 z y' w3 w4 _ hR4 (v3.mono s4) v4 (p4.seqS fun z' h5 r5 H5 w5 s5 hR5 v5 p5 => ?_)
    obtain ⟨_, h6, e6, p6⟩ := thenS_ok p5 (oSet_nr _ _ _ _)
    have sA := (s3.trans s4).trans s5
    refine rf_set ok hR5 (v1.mono (s2.trans sA)) (v2.mono sA) v5 ⟨h6, e6, fun H6 s6 hR6 => ?_⟩
    exact (p6.shift s6).here hR6 (sR.mono (((s1.trans s2).trans sA).trans s6))
where
  sSub_eq {r H s h D} {mo mi me : En → Heap → Res Val} {f : Val → Val → Heap → Res Val} (p : PostS G r H E (sSubA f mo mi me s h) D) : PostS G r H E ((mo s h).thenS fun o h1 => (mi s h1).thenS fun i h2 => (oIxM o i h2).thenS fun x h3 => (me s h3).thenS fun y h4 => (f x y h4).thenS fun z h5 => (oSet o i z h5).thenS fun _ h6 => .nx s h6) D := p
/-! fields -/
theorem FR.len {r : List Addr} {H : Hp} {D : Addr} {fs gs} (q : FR G r H D fs gs) : fs.length = gs.length := by
  induction q with
  | nil => rfl
  | cons _ _ _ _ ih => simp [ih]
theorem FR.put (ok : G.Ok) {r : List Addr} {H : Hp} {D : Addr} {fs gs} (q : FR G r H D fs gs) {f : Nat} {z : Str} {x : Val} {v : V} (hz : G.nms[f]? = some z) (na : NoAttr G.K D z) (hv : VR G r H x v) : FR G r H D (setF f x fs) (putF z v gs) := by
  induction q with
  | nil => exact .cons hz na hv .nil
  | @cons g y x' v' fs gs hy na' hv' _ ih =>
    unfold setF putF
    by_cases e : g = f
    · subst e
      rw [hz] at hy
      cases hy
      rw [if_pos rfl, if_pos rfl]
      exact .cons hz na hv (by assumption)
    · have : ¬ y = z := fun q => e (by
        subst q
        obtain ⟨h1, e1⟩ := List.getElem?_eq_some_iff.mp hy
        obtain ⟨h2, e2⟩ := List.getElem?_eq_some_iff.mp hz
        exact (List.getElem_inj ok.nn).mp (e1.trans e2.symm))
      rw [if_neg e, if_neg this]
      exact .cons hy na' hv' ih
theorem oSetF_nr (d f : Nat) (o x : Val) (h : Heap) : ∀ c h1, oSetF d f o x h ≠ .raised c h1 := by
  intro c h1 e
  unfold oSetF at e
  (repeat' split at e) <;> cases e
theorem rf_setF (ok : G.Ok) {r : List Addr} {H : Hp} {h h1 : Heap} {o x : Val} {ov v : V} {d f : Nat} {B : Addr} {z : Str} (hz : G.nms[f]? = some z) (hB : G.cls[d]? = some B) (na : NoAttr G.K B z) {Q : Hp → Prop} (hR : HR G r H h) (r1 : VR G r H o ov) (r3 : VR G r H x v) (p : oSetF d f o x h = .ok () h1)
    (q : ∀ H1, Stp G.K r H r H1 → HR G r H1 h1 → Q H1) : ∃ a dx fs, ov = .ref a ∧ H a = some (.ins B dx fs) ∧ Cls G.K B ∧ NoAttr G.K B z ∧ fs.length < 1000 ∧ Q (upd H a (.ins B dx (putF z v fs))) := by
  cases r1 with
  | @ref n a ea =>
    simp only [oSetF] at p
    split at p
    · rename_i c fs eo
      split at p
      · rename_i hl
        obtain ⟨rfl, hl⟩ := hl
        cases p
        cases hR.ob _ _ _ eo ea with
        | ins hc hC hH hf =>
          rw [hB] at hc
          cases hc
          have st : ∀ u, Stp G.K r H r (upd H a u) := fun u => Stp.upd fun o e => by rw [hH] at e; cases e; trivial
          refine ⟨_, _, _, rfl, hH, hC, na, by rw [← hf.len]; exact hl, q _ (st _) ?_⟩
          exact hR.write eo rfl ea (fun o e => by rw [hH] at e; cases e; trivial) (.ins hB hC upd_same ((hf.put ok hz na r3).mono (st _))) rfl
      · cases p
    · cases p
  | _ => cases p
theorem ms_fld (ok : G.Ok) (C : XC G E X k) (d f : Nat) {B : Addr} {z : Str} (hz : G.nms[f]? = some z) (hB : G.cls[d]? = some B) (na : NoAttr G.K B z) (ho : ME G E X o to mo) (ha : ME G E X a ta ma) (hs : swapsWith a (some (.Attribute o z pos')) pos.line X.env = pure false := by rfl) :
    MS G E X (.Assign [.Attribute o z pos'] a pos) (L2.sFld G.K to ta z) (sFld d f mo ma) := by
  refine ⟨?_, ⟨fun r H h s σ D hR sR p => ha.rf.run r H h s σ _ hR sR (p.seqS fun x h1 r1 H1 v s1 hR1 v1 p1 => ?_)⟩⟩
  · have := ps_fld ho.pe ha.pe hs
    rwa [C.K] at this
  · refine ho.rf.run r1 H1 h1 s σ _ hR1 (sR.mono s1) (p1.seqS fun y h2 r2 H2 w s2 hR2 v2 p2 => ?_)
    obtain ⟨_, h3, e3, p3⟩ := thenS_ok p2 (oSetF_nr _ _ _ _ _)
    obtain ⟨a', dx', fs', q1, q2, q3, q4, q5, q6⟩ := rf_setF (Q := fun H3 => D.nx σ H3) ok hz hB na hR2 v2 (v1.mono s2) e3 fun H3 s3 hR3 => (p3.shift s3).here hR3 (sR.mono ((s1.trans s2).trans s3))
    exact ⟨a', B, dx', fs', q1, q2, q3, q4, q5, q6⟩
theorem getF_nr (f : Nat) (o : Val) (h : Heap) : ∀ c h1, getF f o h ≠ .raised c h1 := by
  intro c h1 e
  unfold getF at e
  (repeat' split at e) <;> cases e
theorem getF_ok {f : Nat} {o x : Val} {h h1 : Heap} (p : getF f o h = .ok x h1) : ∃ n c fs, o = .ref n ∧ h[n]? = some (.ins c fs) ∧ lookF f fs = some x ∧ h1 = h := by
  unfold getF at p
  split at p
  · split at p
    · rename_i c fs eo
      split at p
      · rename_i v ev
        cases p
        exact ⟨_, c, fs, rfl, eo, ev, rfl⟩
      · cases p
    · cases p
  · cases p
theorem ms_fldA (ok : G.Ok) (C : XC G E X k) (d f : Nat) {B : Addr} {z : Str} (hz : G.nms[f]? = some z) (hB : G.cls[d]? = some B) (na : NoAttr G.K B z) {op : Operator} {t : TIp} {g : Val → Val → Heap → Res Val} (hop : PIp X op t) (hg : Rf2 G E t g)
    (ho : ME G E X o to mo) (ha : ME G E X a ta ma) : MS G E X (.AugAssign (.Attribute o z pos') op a pos) (sFldAug G.K to ta t z) (sFldA d f g mo ma) := by
  refine ⟨?_, ⟨fun r H h s σ D hR sR p => ho.rf.run r H h s σ _ hR sR (p.seqS fun x h1 r1 H1 v s1 hR1 v1 p1 => ?_)⟩⟩
  · have := ps_fldaug (pos := pos) (tpos := pos') (f := z) (rd := t) ho.pe ha.pe (fun pins s σ H x y u v Q I r1 r2 h => hop pins s σ H x y u v Q I r1 r2 h)
    rwa [C.K] at this
  · obtain ⟨y, h2, e2, p2⟩ := thenS_ok p1 (by
      intro c h
      split
      · exact getF_nr _ _ _ _ _
      · exact fun q => by cases q)
    split at e2
    · rename_i hi
      obtain ⟨n, c, fs, rfl, eo, el, rfl⟩ := getF_ok e2
      simp only [isIns, eo, beq_iff_eq] at hi
      subst hi
      cases v1 with
      | ref ea =>
        cases hR1.ob _ _ _ eo ea with
        | ins hc hC hH hf =>
          rw [hB] at hc
          cases hc
          rcases hf.look ok hz with ⟨e1, _⟩ | ⟨x', v', e1, e2', v2, na'⟩
          · rw [e1] at el
            cases el
          · rw [e1] at el
            cases el
            refine ⟨_, _, _, _, _, rfl, hH, hC, na', e2', ?_⟩
            refine ha.rf.run r1 H1 h2 s σ _ hR1 (sR.mono s1) (p2.seqS fun y' h4 r4 H4 w4 s4 hR4 v4 p4 => ?_)
            refine hg.run r4 H4 h4 _ y' v' w4 _ hR4 (v2.mono s4) v4 (p4.seqS fun z' h5 r5 H5 w5 s5 hR5 v5 p5 => ?_)
            obtain ⟨_, h6, e6, p6⟩ := thenS_ok p5 (oSetF_nr _ _ _ _ _)
            obtain ⟨a', dx', fs', q1, q2, q3, q4, q5, q6⟩ := rf_setF (Q := fun H6 => D.nx σ H6) ok hz hB na hR5 (.ref ((s4.trans s5).pre _ _ ea)) v5 e6 fun H6 s6 hR6 => (p6.shift s6).here hR6 (sR.mono (s1.trans (s4.trans (s5.trans s6))))
            cases q1
            exact ⟨dx', fs', q2, q5, q6⟩
    · cases e2
theorem ms_aug (i : Nat) {x : Str} {op : Operator} {t : TIp} {g : Val → Val → Heap → Res Val} (hop : PIp X op t) (hg : Rf2 G E t g) (hN : X.N.Nodup) (ha : ME G E X a ta ma) (hi : X.N[i]? = some x := by rfl) (hx : Loc X.env.scope x := by first | exact Or.inl rfl | exact Or.inr rfl)
    (hf : X.fn x = true ∨ X.env.scope.names.lookup x = some .local := by first | exact .inl rfl | exact .inr rfl | assumption) : MS G E X (.AugAssign (.Name x pos') op a pos) (tAug i ta t) (sAug i g ma) := by
  refine ⟨ps_aug hN hi hx ha.pe hop hf, ⟨fun r H h s σ D hR sR p => ?_⟩⟩
  unfold sAug at p
  split at p
  · rename_i x' e
    obtain ⟨v, ev, vR⟩ := sR.get e
    refine ⟨v, ev, ?_⟩
    refine ha.rf.run r H h s σ _ hR sR (p.seqS fun y h1 r1 H1 w s1 hR1 v1 p1 => ?_)
    refine hg.run r1 H1 h1 _ y v w _ hR1 (vR.mono s1) v1 (p1.seqS fun z h2 r2 H2 w2 s2 hR2 v2 p2 => ?_)
    exact p2.here hR2 ((sR.mono (s1.trans s2)).set v2 i)
  · exact False.elim p
end
end PyM

set_option Elab.async false
set_option linter.all false
set_option maxRecDepth 100000
set_option autoImplicit false
namespace PyM
open PySem L2

/-! ### what a loop walks -/
structure Src where
  items : List Val
  chk : Heap → Bool
abbrev MI := En → Heap → Res Src
/-- the source lies under the layer's iterator J -/
structure ItOk (G : Cfg) (r : List Addr) (H : Hp) (J : It) (S : Src) : Prop where
  stop : ∀ r2 H2 h2, Stp G.K r H r2 H2 → HR G r2 H2 h2 → S.chk h2 = true → J.stop S.items.length H2
  go : ∀ r2 H2 h2 (i : Nat) (x : Val), Stp G.K r H r2 H2 → HR G r2 H2 h2 → S.chk h2 = true → S.items[i]? = some x →
    J.go i H2 ∧ ∀ v H3, J.yld i H2 v H3 → ∃ r3, Stp G.K r2 H2 r3 H3 ∧ HR G r3 H3 h2 ∧ VR G r3 H3 x v
structure RfI (G : Cfg) (E : XK) (t : TI) (m : MI) : Prop where
  run : ∀ r H h s σ (R : It → Hp → Prop), HR G r H h → SR G r H s σ → PostR G (fun r1 H1 (S : Src) (J : It) => ItOk G r1 H1 J S) r H E (m s h) R → t σ H R
structure MIt (G : Cfg) (E : XK) (X : Cx) (tg e : Expr) (t : TI) (m : MI) : Prop where
  pe : PI X tg e t
  rf : RfI G E t m
def lstIs (a : Nat) (xs : List Val) (h : Heap) : Bool := match h[a]? with
  | some (.lst ys) => decide (ys = xs)
  | some (.fls ys) => decide (ys = xs)
  | _ => false
def iSeq (m : En → Heap → Res Val) : MI := fun s h => (m s h).bind fun x h1 => match x with
  | .tup xs => .ok ⟨xs, fun _ => true⟩ h1
  | .ref a => match h1[a]? with
    | some (.lst xs) => .ok ⟨xs, lstIs a xs⟩ h1
    | some (.fls xs) => .ok ⟨xs, lstIs a xs⟩ h1
    | _ => .stuck
  | _ => .stuck
def iLst (m : En → Heap → Res Val) : MI := fun s h => (m s h).bind fun x h1 => match x with
  | .ref a => match h1[a]? with
    | some (.lst xs) => .ok ⟨xs, lstIs a xs⟩ h1
    | some (.fls xs) => .ok ⟨xs, lstIs a xs⟩ h1
    | _ => .stuck
  | _ => .stuck
def iTup_ (m : En → Heap → Res Val) : MI := fun s h => (m s h).bind fun x h1 => match x with
  | .tup xs => .ok ⟨xs, fun _ => true⟩ h1
  | _ => .stuck
def rangeV (lo : Int) (n : Nat) : List Val := (List.range n).map fun (i : Nat) => Val.int (lo + (i : Int))
def iRng1 (m : En → Heap → Res (List Val)) : MI := fun s h => (m s h).bind fun xs h1 => match xs with
  | [.int j] => if -(2 ^ 62) ≤ j ∧ j < 2 ^ 62 then .ok ⟨rangeV 0 j.toNat, fun _ => true⟩ h1 else .stuck
  | _ => .stuck
def iRng2 (m : En → Heap → Res (List Val)) : MI := fun s h => (m s h).bind fun xs h1 => match xs with
  | [.int i, .int j] => if -(2 ^ 62) ≤ i ∧ i < 2 ^ 62 ∧ -(2 ^ 62) ≤ j ∧ j < 2 ^ 62 then .ok ⟨rangeV i (j - i).toNat, fun _ => true⟩ h1 else .stuck
  | _ => .stuck
def iAlt (m n : MI) : MI := fun s h => match m s h with
  | .stuck => n s h
  | x => x
section
variable {G : Cfg} {E : XK} {X : Cx} {k : Nat} {a b c e tg : Expr} {es : List Expr} {ta tb tc : TE} {ma mb mc : En → Heap → Res Val} {pos p : Pos} {tA : TA} {mA : En → Heap → Res (List Val)}
theorem rangeV_get {lo : Int} {n i : Nat} : (rangeV lo n)[i]? = if i < n then some (.int (lo + (i : Int))) else none := by
  unfold rangeV
  rw [List.getElem?_map]
  by_cases h : i < n
  · rw [if_pos h, List.getElem?_range h]
    rfl
  · rw [if_neg h, List.getElem?_eq_none (by simpa using h)]
    rfl
theorem itl_ok {r1 : List Addr} {H1 : Hp} {ad : Addr} {xs : List Val} {n : Nat} (ea : r1[n]? = some ad) : ItOk G r1 H1 (Itl G.K ad) ⟨xs, lstIs n xs⟩ := by
  have key : ∀ r2 H2 h2, Stp G.K r1 H1 r2 H2 → HR G r2 H2 h2 → lstIs n xs h2 = true → ∃ vs, SqL G.K H2 ad vs ∧ VRs G r2 H2 xs vs := by
    intro r2 H2 h2 hp hR hc
    unfold lstIs at hc
    split at hc
    · rename_i ys eo
      have : ys = xs := by simpa using hc
      subst this
      cases hR.ob _ _ _ eo (hp.pre _ _ ea) with
      | lst hl hv => exact ⟨_, SqL.of hl, hv⟩
    · rename_i ys eo
      have : ys = xs := by simpa using hc
      subst this
      cases hR.ob _ _ _ eo (hp.pre _ _ ea) with
      | fls hl hv => exact ⟨_, hl.sq, hv⟩
    · cases hc
  refine ⟨fun r2 H2 h2 hp hR hc => ?_, fun r2 H2 h2 i x hp hR hc hx => ?_⟩
  · obtain ⟨vs, h1, h2⟩ := key r2 H2 h2 hp hR hc
    exact ⟨vs, h1, Nat.le_of_eq h2.len.symm⟩
  · obtain ⟨vs, h1, h2⟩ := key r2 H2 h2 hp hR hc
    obtain ⟨v, ev, vv⟩ := h2.get hx
    refine ⟨⟨vs, v, h1, ev⟩, fun v' H3 hy => ?_⟩
    obtain ⟨rfl, hy⟩ := hy
    have := hy vs h1
    rw [ev] at this
    cases this
    exact ⟨r2, Stp.refl, hR, vv⟩
theorem mi_lst (C : XC G E X k) (ha : ME G E X a ta ma) : MIt G E X tg a (iList G.K ta) (iLst ma) := by
  refine ⟨?_, ⟨fun r H h s σ R hR sR p => ha.rf.run r H h s σ _ hR sR (p.seq fun x h1 r1 H1 v s1 hR1 v1 p1 => ?_)⟩⟩
  · have := pi_list (tg := tg) ha.pe
    rwa [C.K] at this
  · cases v1 with
    | @ref n ad ea =>
      simp only at p1
      split at p1
      · rename_i xs eo
        cases hR1.ob _ _ _ eo ea with
        | lst hl hv => exact ⟨_, rfl, ⟨_, SqL.of hl⟩, p1.here hR1 (itl_ok ea)⟩
      · rename_i xs eo
        cases hR1.ob _ _ _ eo ea with
        | fls hl hv => exact ⟨_, rfl, ⟨_, hl.sq⟩, p1.here hR1 (itl_ok ea)⟩
      · exact False.elim p1
    | _ => exact False.elim p1
theorem itr_ok {r1 : List Addr} {H1 : Hp} {lo : Int} {n : Nat} : ItOk G r1 H1 (Itr lo n) ⟨rangeV lo n, fun _ => true⟩ := by
  refine ⟨fun r2 H2 h2 _ _ _ => ?_, fun r2 H2 h2 i x _ hR2 _ hx => ?_⟩
  · show n ≤ (rangeV lo n).length
    simp [rangeV]
  · have hx : (rangeV lo n)[i]? = some x := hx
    rw [rangeV_get] at hx
    split at hx
    · rename_i hi
      cases hx
      refine ⟨hi, fun v H3 hy => ?_⟩
      obtain ⟨rfl, rfl⟩ := hy
      exact ⟨r2, Stp.refl, hR2, .int _⟩
    · cases hx
theorem mi_rng1 (hm : X.mg "range" = none) (ha : MA G E X [a] tA mA) (hg : Gl X "range" := by rfl) (hs : starEach [a] X.env = [(false, eval a X.env)] := by rfl) : MIt G E X tg (.Call (.Name "range" p) [a] [] pos) (L2.iRng1 tA) (iRng1 mA) := by
  refine ⟨pi_range1 hg hm ha.pe hs, ⟨fun r H h s σ R hR sR p => ha.rf.run r H h s σ _ hR sR (p.seq fun x h1 r1 H1 v s1 hR1 v1 p1 => ?_)⟩⟩
  split at p1
  · rename_i j
    cases v1 with
    | cons q1 q2 =>
      cases q1
      cases q2
      split at p1
      · rename_i hj
        exact ⟨j, rfl, hj.1, hj.2, p1.here hR1 itr_ok⟩
      · exact False.elim p1
  · exact False.elim p1
theorem mi_rng2 (hm : X.mg "range" = none) (ha : MA G E X [a, b] tA mA) (hg : Gl X "range" := by rfl) (hs : starEach [a, b] X.env = [(false, eval a X.env), (false, eval b X.env)] := by rfl) (hs2 : starEach [b] X.env = [(false, eval b X.env)] := by rfl) :
    MIt G E X tg (.Call (.Name "range" p) [a, b] [] pos) (L2.iRng2 tA) (iRng2 mA) := by
  refine ⟨pi_range2 hg hm ha.pe hs hs2, ⟨fun r H h s σ R hR sR p => ha.rf.run r H h s σ _ hR sR (p.seq fun x h1 r1 H1 v s1 hR1 v1 p1 => ?_)⟩⟩
  split at p1
  · rename_i i j
    cases v1 with
    | cons q1 q2 => cases q2 with
      | cons q3 q4 =>
        cases q1
        cases q3
        cases q4
        split at p1
        · rename_i hj
          exact ⟨i, j, rfl, hj, p1.here hR1 itr_ok⟩
        · exact False.elim p1
  · exact False.elim p1
theorem itt_ok {r1 : List Addr} {H1 : Hp} {ad : Addr} {xs : List Val} {vs : List V} (hs : SqT G.K H1 ad vs) (hv : VRs G r1 H1 xs vs) : ItOk G r1 H1 (Itt G.K ad) ⟨xs, fun _ => true⟩ := by
  refine ⟨fun r2 H2 h2 hp _ _ => ⟨vs, hp.tup _ _ hs, Nat.le_of_eq hv.len.symm⟩, fun r2 H2 h2 i x hp hR2 _ hx => ?_⟩
  obtain ⟨v, ev, vv⟩ := hv.get hx
  refine ⟨⟨vs, v, hp.tup _ _ hs, ev⟩, fun v' H3 hy => ?_⟩
  obtain ⟨rfl, hy⟩ := hy
  have := hy vs (hp.tup _ _ hs)
  rw [ev] at this
  cases this
  exact ⟨r2, Stp.refl, hR2, vv.mono hp⟩
theorem mi_tup (C : XC G E X k) (ha : ME G E X a ta ma) : MIt G E X tg a (iTup G.K ta) (iTup_ ma) := by
  refine ⟨?_, ⟨fun r H h s σ R hR sR p => ha.rf.run r H h s σ _ hR sR (p.seq fun x h1 r1 H1 v s1 hR1 v1 p1 => ?_)⟩⟩
  · have := pi_tup (tg := tg) ha.pe
    rwa [C.K] at this
  · cases v1 with
    | tup hs hv => exact ⟨_, rfl, ⟨_, hs⟩, p1.here hR1 (itt_ok hs hv)⟩
    | _ => exact False.elim p1
theorem pi_or {tg e : Expr} {t t' : TI} (h : PI X tg e t) (h' : PI X tg e t') : PI X tg e (fun σ H R => t σ H R ∨ t' σ H R) := ⟨fun pins s σ H R I q => q.elim (h.run pins s σ H R I) (h'.run pins s σ H R I)⟩
theorem mi_alt {t t' : TI} {m m' : MI} (h : MIt G E X tg e t m) (h' : MIt G E X tg e t' m') : MIt G E X tg e (fun σ H R => t σ H R ∨ t' σ H R) (iAlt m m') := by
  refine ⟨pi_or h.pe h'.pe, ⟨fun r H hh s σ Q hR sR p => ?_⟩⟩
  unfold iAlt at p
  cases q : m s hh with
  | stuck => rw [q] at p; exact .inr (h'.rf.run r H hh s σ Q hR sR p)
  | ok x y => rw [q] at p; exact .inl (h.rf.run r H hh s σ Q hR sR (by rw [q]; exact p))
  | raised x y => rw [q] at p; exact .inl (h.rf.run r H hh s σ Q hR sR (by rw [q]; exact p))

/-! ### for -/
end
def forM_ (chk : Heap → Bool) (tg : Val → En → Option En) (body : En → Heap → RS) : List Val → En → Heap → RS
  | [], s, h => if chk h = true then .nx s h else .stuck
  | x :: xs, s, h => if chk h = true then match tg x s with
      | some s1 => match body s1 h with
        | .nx s2 h2 => forM_ chk tg body xs s2 h2
        | .ct s2 h2 => forM_ chk tg body xs s2 h2
        | .bk s2 h2 => .nx s2 h2
        | y => y
      | none => .stuck
    else .stuck
def sFor (mi : MI) (tg : Val → En → Option En) (body : En → Heap → RS) (s : En) (h : Heap) : RS := (mi s h).thenS fun S h1 => forM_ S.chk tg body S.items s h1
def whM (c : En → Heap → Res Bool) (body : En → Heap → RS) : Nat → En → Heap → RS
  | 0, _, _ => .stuck
  | n + 1, s, h => (c s h).thenS fun b h1 => if b = true then match body s h1 with
      | .nx s2 h2 => whM c body n s2 h2
      | .ct s2 h2 => whM c body n s2 h2
      | .bk s2 h2 => .nx s2 h2
      | y => y
    else .nx s h1
def wipeE (s : En) : List Nat → En
  | [] => s
  | v :: vs => (wipeE s vs).set v none
def lcM (chk : Heap → Bool) (tg : Val → En → Option En) (mt : En → Heap → Res Bool) (me : En → Heap → Res Val) (s0 : En) (n : Nat) : List Val → Heap → Res Unit
  | [], h => if chk h = true then .ok () h else .stuck
  | x :: xs, h => if chk h = true then match tg x s0 with
      | some s2 => match mt s2 h with
        | .ok b h1 => if b = true then match me s2 h1 with
            | .ok y h2 => match h2[n]? with
              | some (.lst acc) => if acc.length < lim then lcM chk tg mt me s0 n xs (h2.set n (.lst (acc ++ [y]))) else .stuck
              | _ => .stuck
            | _ => .stuck
          else lcM chk tg mt me s0 n xs h1
        | _ => .stuck
      | none => .stuck
    else .stuck
def mLc (mi : MI) (tg : Val → En → Option En) (mt : En → Heap → Res Bool) (me : En → Heap → Res Val) (vs : List Nat) (s : En) (h : Heap) : Res Val := (mi s h).bind fun S h1 => (lcM S.chk tg mt me (wipeE s vs) h1.length S.items (h1 ++ [.lst []])).bind fun _ h2 => .ok (.ref h1.length) h2
section
variable {G : Cfg} {E : XK} {X : Cx} {k : Nat} {a b c e tg iter elt : Expr} {es ifs : List Expr} {ta tb te : TE} {ma mb me : En → Heap → Res Val} {pos p : Pos} {tA : TA} {mA : En → Heap → Res (List Val)} {wi : TI} {mi : MI} {g : TG} {mg : Val → En → Option En}
  {sts : List Stmt} {t : TS} {m : En → Heap → RS} {tt : TT} {mt : En → Heap → Res Bool}
theorem rf_for (hi : RfI G E wi mi) (hg : RfG G g mg) (hb : RfS G E t m) : RfS G E (tFor wi g t) (sFor mi mg m) := by
  refine ⟨fun r H h s σ D hR sR p => hi.run r H h s σ _ hR sR (p.seqS fun S h1 r1 H1 J s1 hR1 J1 p1 => ?_)⟩
  refine ⟨fun i mm σ' H' => ∃ r' h' s', Stp G.K r1 H1 r' H' ∧ HR G r' H' h' ∧ SR G r' H' s' σ' ∧ mm = S.items.length - i ∧ i ≤ S.items.length ∧ PostS G r' H' E (forM_ S.chk mg m (S.items.drop i) s' h') D, ⟨_, r1, h1, s, Stp.refl, hR1, sR.mono s1, rfl, Nat.zero_le _, p1⟩, ?_⟩
  rintro i mm σ' H' ⟨r', h', s', st, hR', sR', rfl, hle, p'⟩
  cases hd : S.items.drop i with
  | nil =>
    have hi : i = S.items.length := by
      have := List.drop_eq_nil_iff.mp hd
      omega
    rw [hd] at p'
    unfold forM_ at p'
    split at p'
    · rename_i hc
      subst hi
      exact .inl ⟨J1.stop r' H' h' st hR' hc, p'.here hR' sR'⟩
    · exact False.elim p'
  | cons x rest =>
    have hlt : i < S.items.length := by
      refine Decidable.byContradiction fun q => ?_
      rw [List.drop_eq_nil_of_le (by omega)] at hd
      cases hd
    have hx : S.items[i]? = some x := by
      have := congrArg (fun l => l[0]?) hd
      simpa using this
    have hr : S.items.drop (i + 1) = rest := by
      rw [← List.drop_drop (i := 1) (j := i), hd]
      rfl
    rw [hd] at p'
    unfold forM_ at p'
    split at p'
    · rename_i hc
      obtain ⟨hgo, hy⟩ := J1.go r' H' h' i x st hR' hc hx
      refine .inr ⟨hgo, fun σ2 H2 => ∃ r2 h2 s2, Stp G.K r1 H1 r2 H2 ∧ HR G r2 H2 h2 ∧ SR G r2 H2 s2 σ2 ∧ PostS G r2 H2 E (forM_ S.chk mg m rest s2 h2) D, ?_, ?_⟩
      · rintro σ2 H2 ⟨r2, h2, s2, q1, q2, q3, q4⟩
        exact ⟨_, by omega, r2, h2, s2, q1, q2, q3, rfl, by omega, by rw [hr]; exact q4⟩
      · intro v H3 hyl
        obtain ⟨r3, st3, hR3, vR⟩ := hy v H3 hyl
        cases e1 : mg x s' with
        | none => rw [e1] at p'; exact False.elim p'
        | some s1' =>
          rw [e1] at p'
          refine hg.run r3 H3 s' σ' x v _ (sR'.mono st3) vR ⟨s1', e1, fun σ1 sR1 => ?_⟩
          refine hb.run r3 H3 h' s1' σ1 _ hR3 sR1 ?_
          simp only at p'
          cases e2 : m s1' h' with
          | nx s2 h2 =>
            rw [e2] at p'
            exact fun r4 H4 t4 st4 hR4 sR4 => ⟨r4, h2, s2, st.trans (st3.trans st4), hR4, sR4, p'.shift (st3.trans st4)⟩
          | ct s2 h2 =>
            rw [e2] at p'
            exact fun r4 H4 t4 st4 hR4 sR4 => ⟨r4, h2, s2, st.trans (st3.trans st4), hR4, sR4, p'.shift (st3.trans st4)⟩
          | bk s2 h2 =>
            rw [e2] at p'
            exact fun r4 H4 t4 st4 hR4 sR4 => p' r4 H4 t4 (st3.trans st4) hR4 sR4
          | rt v2 h2 =>
            rw [e2] at p'
            exact fun r4 H4 t4 st4 hR4 sR4 => p' r4 H4 t4 (st3.trans st4) hR4 sR4
          | raised c2 h2 =>
            rw [e2] at p'
            exact fun r4 H4 t4 st4 hR4 sR4 => p' r4 H4 t4 (st3.trans st4) hR4 sR4
          | stuck =>
            rw [e2] at p'
            exact p'
    · exact False.elim p'
theorem ms_for (C : XC G E X k) (hi : MIt G E X tg iter wi mi) (hg : MG G X tg g mg) (hb : MSs G E X sts t m) (hs : ∀ x, foldedSetIterable iter X.env x = pure x := by intro _; rfl) : MS G E X (.For tg iter sts [] pos) (tFor wi g t) (sFor mi mg m) :=
  ⟨ps_for C.own C.calm hi.pe hg.pe hb.pe hs, rf_for hi.rf hg.rf hb.rf⟩
theorem rf_while (n : Nat) (hc : RfT G E tt mt) (hb : RfS G E t m) : RfS G E (tWhile tt t) (whM mt m n) := by
  refine ⟨fun r H h s σ D hR sR p => ?_⟩
  refine ⟨fun mm σ' H' => ∃ r' h' s', Stp G.K r H r' H' ∧ HR G r' H' h' ∧ SR G r' H' s' σ' ∧ PostS G r' H' E (whM mt m mm s' h') D, ⟨n, r, h, s, Stp.refl, hR, sR, p⟩, ?_⟩
  rintro mm σ' H' ⟨r', h', s', st, hR', sR', p'⟩
  cases mm with
  | zero => exact False.elim p'
  | succ mm =>
    unfold whM at p'
    refine hc.run r' H' h' s' σ' _ hR' sR' (p'.seqS fun b h1 r1 H1 v s1 hR1 v1 p1 => ?_)
    subst v1
    split at p1
    · rename_i hb1
      rw [if_pos hb1]
      refine ⟨fun σ2 H2 => ∃ r2 h2 s2, Stp G.K r H r2 H2 ∧ HR G r2 H2 h2 ∧ SR G r2 H2 s2 σ2 ∧ PostS G r2 H2 E (whM mt m mm s2 h2) D, fun σ2 H2 q => ⟨mm, Nat.lt_succ_self _, q⟩, ?_⟩
      refine hb.run r1 H1 h1 s' σ' _ hR1 (sR'.mono s1) ?_
      cases e2 : m s' h1 with
      | nx s2 h2 =>
        rw [e2] at p1
        exact fun r4 H4 t4 st4 hR4 sR4 => ⟨r4, h2, s2, st.trans (s1.trans st4), hR4, sR4, PostS.shift st4 p1⟩
      | ct s2 h2 =>
        rw [e2] at p1
        exact fun r4 H4 t4 st4 hR4 sR4 => ⟨r4, h2, s2, st.trans (s1.trans st4), hR4, sR4, PostS.shift st4 p1⟩
      | bk s2 h2 =>
        rw [e2] at p1
        exact p1
      | rt v2 h2 =>
        rw [e2] at p1
        exact p1
      | raised c2 h2 =>
        rw [e2] at p1
        exact p1
      | stuck =>
        rw [e2] at p1
        exact p1
    · rename_i hb1
      rw [if_neg hb1]
      exact p1.here hR1 (sR'.mono s1)
theorem ms_while (n : Nat) (C : XC G E X k) (hc : MT G E X c tt mt) (hb : MSs G E X sts t m) : MS G E X (.While c sts [] pos) (tWhile tt t) (whM mt m n) :=
  ⟨ps_while C.own hc.pe hb.pe, rf_while n hc.rf hb.rf⟩

/-! ### list comprehensions -/
theorem SR.setN {r : List Addr} {H : Hp} {s : En} {t : L2.St} (q : SR G r H s t) : ∀ (i : Nat), SR G r H (s.set i none) (t.set i none) := by
  induction q with
  | nil => exact fun _ => .nil
  | no q ih => exact fun i => match i with
    | 0 => .no q
    | i + 1 => .no (ih i)
  | so b q ih => exact fun i => match i with
    | 0 => .no q
    | i + 1 => .so b (ih i)
theorem SR.wipe {r : List Addr} {H : Hp} {s : En} {t : L2.St} (q : SR G r H s t) : ∀ vs : List Nat, SR G r H (wipeE s vs) (L2.wipe t vs)
  | [] => q
  | v :: vs => (SR.wipe q vs).setN v
/-- a comprehension's target stores its own slots alone -/
structure TgW (vs : List Nat) (g : TG) : Prop where
  run : ∀ v σ σ0 H (Q : L2.St → Hp → Prop), L2.wipe σ vs = σ0 → g v σ H Q → g v σ H fun σ2 H2 => L2.wipe σ2 vs = σ0 ∧ Q σ2 H2
structure TgWs (vs : List Nat) (g : TGs) : Prop where
  run : ∀ v σ σ0 H (Q : L2.St → Hp → Prop), L2.wipe σ vs = σ0 → g v σ H Q → g v σ H fun σ2 H2 => L2.wipe σ2 vs = σ0 ∧ Q σ2 H2
theorem wipe_get (σ : L2.St) : ∀ (vs : List Nat) (i : Nat), (L2.wipe σ vs)[i]? = if i ∈ vs then (if i < σ.length then some none else none) else σ[i]?
  | [], i => by simp [L2.wipe]
  | v :: vs, i => by
    unfold L2.wipe
    rw [List.getElem?_set, wipe_length]
    by_cases h : v = i
    · subst h
      simp
    · have h' : ¬ i = v := fun e => h e.symm
      rw [if_neg h, wipe_get σ vs i]
      simp [h']
theorem wipe_set {σ : L2.St} {vs : List Nat} {i : Nat} {o : Option V} (hi : i ∈ vs) : L2.wipe (σ.set i o) vs = L2.wipe σ vs := by
  apply List.ext_getElem?
  intro j
  rw [wipe_get, wipe_get, List.length_set]
  by_cases h : j ∈ vs
  · rw [if_pos h, if_pos h]
  · rw [if_neg h, if_neg h, List.getElem?_set_ne (fun e => h (by rw [← e]; exact hi))]
theorem wipe_wipe {σ : L2.St} {vs : List Nat} : L2.wipe (L2.wipe σ vs) vs = L2.wipe σ vs := by
  apply List.ext_getElem?
  intro j
  rw [wipe_get, wipe_get, wipe_length]
  by_cases h : j ∈ vs <;> simp [h]
theorem tgw_name {vs : List Nat} {i : Nat} (hi : i ∈ vs) : TgW vs (gName i) := ⟨fun v σ σ0 H Q e q => ⟨by rw [wipe_set hi]; exact e, q⟩⟩
theorem tgws_nil {vs : List Nat} : TgWs vs gNil := ⟨fun v σ σ0 H Q e q => ⟨q.1, e, q.2⟩⟩
theorem tgws_cons {vs : List Nat} {g : TG} {gs : TGs} (h : TgW vs g) (hs : TgWs vs gs) (mono : ∀ v σ H (Q Q' : L2.St → Hp → Prop), (∀ σ H, Q σ H → Q' σ H) → g v σ H Q → g v σ H Q') : TgWs vs (gCons g gs) := by
  refine ⟨fun v σ σ0 H Q e ⟨x, r, e1, q⟩ => ⟨x, r, e1, ?_⟩⟩
  exact mono _ _ _ _ _ (fun σ2 H2 z => hs.run r σ2 σ0 H2 Q z.1 z.2) (h.run x σ σ0 H _ e q)
theorem tgw_tup {K : PySem.W.Frag} {vs : List Nat} {n : Nat} {gs : TGs} (h : TgWs vs gs) : TgW vs (gTup K n gs) := ⟨fun v σ σ0 H Q e ⟨a, xs, e1, e2, e3, q⟩ => ⟨a, xs, e1, e2, e3, h.run xs σ σ0 H Q e q⟩⟩
theorem mono_name {i : Nat} : ∀ v σ H (Q Q' : L2.St → Hp → Prop), (∀ σ H, Q σ H → Q' σ H) → gName i v σ H Q → gName i v σ H Q' := fun _ _ _ _ _ f q => f _ _ q
abbrev E0 : XK := L2.E0
theorem rf_lc {vs : List Nat} (hi : RfI G E wi mi) (hg : RfG G g mg) (hw : TgW vs g) (ht : RfT G E0 tt mt) (he : Rf G E0 te me) : Rf G E (tLc wi g tt te vs) (mLc mi mg mt me vs) := by
  refine ⟨fun r H h s σ Q hR sR p => hi.run r H h s σ _ hR sR (p.seq fun S h1 r1 H1 J s1 hR1 J1 p1 => ?_)⟩
  intro D hD
  have st0 : Stp G.K r1 H1 (r1 ++ [D]) (upd H1 D (.lst [])) := Stp.new hD
  have hR0 : HR G (r1 ++ [D]) (upd H1 D (.lst [])) (h1 ++ [.lst []]) := hR1.push hD (.lst upd_same .nil)
  have rD : (r1 ++ [D])[h1.length]? = some D := by rw [← hR1.len]; simp
  have sR1 := ((sR.mono s1).mono st0).wipe vs
  refine ⟨fun i mm H' => ∃ r' h', Stp G.K (r1 ++ [D]) (upd H1 D (.lst [])) r' H' ∧ HR G r' H' h' ∧ mm = S.items.length - i ∧ i ≤ S.items.length ∧
    PostR G (VR G) r' H' E ((lcM S.chk mg mt me (wipeE s vs) h1.length (S.items.drop i) h').bind fun _ h2 => .ok (.ref h1.length) h2) Q, ⟨_, _, _, Stp.refl, hR0, rfl, Nat.zero_le _, p1.shift st0⟩, ?_⟩
  rintro i mm H' ⟨r', h', st, hR', rfl, hle, p'⟩
  have stA := st0.trans st
  cases hd : S.items.drop i with
  | nil =>
    have hi : i = S.items.length := by
      have := List.drop_eq_nil_iff.mp hd
      omega
    rw [hd] at p'
    unfold lcM at p'
    split at p'
    · rename_i hc
      subst hi
      exact .inl ⟨J1.stop r' H' h' stA hR' hc, p'.here hR' (.ref (st.pre _ _ rD))⟩
    · exact False.elim p'
  | cons x rest =>
    have hlt : i < S.items.length := by
      refine Decidable.byContradiction fun q => ?_
      rw [List.drop_eq_nil_of_le (by omega)] at hd
      cases hd
    have hx : S.items[i]? = some x := by
      have := congrArg (fun l => l[0]?) hd
      simpa using this
    have hr : S.items.drop (i + 1) = rest := by
      rw [← List.drop_drop (i := 1) (j := i), hd]
      rfl
    rw [hd] at p'
    unfold lcM at p'
    split at p'
    · rename_i hc
      obtain ⟨hgo, hy⟩ := J1.go r' H' h' i x stA hR' hc hx
      refine .inr ⟨hgo, fun H2 => ∃ r2 h2, Stp G.K (r1 ++ [D]) (upd H1 D (.lst [])) r2 H2 ∧ HR G r2 H2 h2 ∧ PostR G (VR G) r2 H2 E ((lcM S.chk mg mt me (wipeE s vs) h1.length rest h2).bind fun _ h2 => .ok (.ref h1.length) h2) Q, ?_, ?_⟩
      · rintro H2 ⟨r2, h2, q1, q2, q4⟩
        exact ⟨_, by omega, r2, h2, q1, q2, rfl, by omega, by rw [hr]; exact q4⟩
      · intro v H3 hyl
        obtain ⟨r3, st3, hR3, vR⟩ := hy v H3 hyl
        refine hw.run v _ _ H3 _ wipe_wipe ?_
        cases e1 : mg x (wipeE s vs) with
        | none => rw [e1] at p'; exact False.elim p'
        | some s2 =>
          rw [e1] at p'
          refine hg.run r3 H3 _ _ x v _ ((sR1.mono st).mono st3) vR ⟨s2, e1, fun σ2 sR2 => ?_⟩
          refine ht.run r3 H3 h' s2 σ2 _ hR3 sR2 ?_
          simp only at p'
          cases e2 : mt s2 h' with
          | ok b h4 =>
            rw [e2] at p'
            intro r4 H4 b' st4 hR4 eb
            subst eb
            simp only at p'
            split at p'
            · rename_i hb
              rw [if_pos hb]
              refine he.run r4 H4 h4 s2 σ2 _ hR4 (sR2.mono st4) ?_
              cases e3 : me s2 h4 with
              | ok y h5 =>
                rw [e3] at p'
                intro r5 H5 y' st5 hR5 vy
                simp only at p'
                split at p'
                · rename_i acc eacc
                  have st5' := (st3.trans st4).trans st5
                  have rD5 := (st.trans st5').pre _ _ rD
                  cases hR5.ob _ _ _ eacc rD5 with
                  | @lst _ us _ hl hv =>
                    split at p'
                    · rename_i hlen
                      have stU : ∀ u, Stp G.K r5 H5 r5 (upd H5 D u) := fun u => Stp.upd fun o e => by rw [hl] at e; cases e; trivial
                      refine ⟨us, hl, lt_line (by rw [← hv.len]; exact hlen), r5, _, (st.trans st5').trans (stU _), hR5.write eacc rfl rD5 (fun o e => by rw [hl] at e; cases e; trivial) (.lst upd_same ?_) rfl, p'.shift (st5'.trans (stU _))⟩
                      exact (hv.app (.cons vy .nil)).mono (stU _)
                    · exact False.elim p'
                · exact False.elim p'
              | raised c h5 => rw [e3] at p'; exact False.elim p'
              | stuck => rw [e3] at p'; exact False.elim p'
            · rename_i hb
              rw [if_neg hb]
              exact ⟨r4, h4, st.trans (st3.trans st4), hR4, p'.shift (st3.trans st4)⟩
          | raised c h4 => rw [e2] at p'; exact False.elim p'
          | stuck => rw [e2] at p'; exact False.elim p'
    · exact False.elim p'
structure MTs (G : Cfg) (E : XK) (X : Cx) (es : List Expr) (t : TT) (m : En → Heap → Res Bool) : Prop where
  pe : PTs X es t
  rf : RfT G E t m
def tTrue (_ : En) (h : Heap) : Res Bool := .ok true h
theorem mts_nil : MTs G E X [] tYes tTrue := ⟨pts_nil, ⟨fun r H h s σ Q hR sR p => p.here hR rfl⟩⟩
theorem mts_one (h : MT G E X c tt mt) : MTs G E X [c] tt mt := ⟨pts_one h.pe, h.rf⟩
theorem XC.blk (C : XC G E X k) (s : Shared) (H : Hp) (scope : Scope) (cenv : Env) (fp : List Addr) : XC G E0 (X.blk s H scope cenv fp) k := ⟨C.K, C.calm, C.nd, C.room, passL, PassesOwn.never⟩
theorem me_lc {scope : Scope} (own : List (Str × Nat)) (C : XC G E X k) (hi : MIt G E X tg iter wi mi) (ok : BlkOk X.N X.env.scope scope own)
    (hg : ∀ (s : Shared) (H : Hp) (D : Addr) (cl : List (Str × Addr)) (fp : List Addr), XC G E0 (X.blk s H scope (compEnvC scope cl D X.env) fp) k → MG G (X.blk s H scope (compEnvC scope cl D X.env) fp) tg g mg)
    (ht : ∀ (s : Shared) (H : Hp) (D : Addr) (cl : List (Str × Addr)) (fp : List Addr), XC G E0 (X.blk s H scope (compEnvC scope cl D X.env) fp) k → MTs G E0 (X.blk s H scope (compEnvC scope cl D X.env) fp) ifs tt mt)
    (he : ∀ (s : Shared) (H : Hp) (D : Addr) (cl : List (Str × Addr)) (fp : List Addr), XC G E0 (X.blk s H scope (compEnvC scope cl D X.env) fp) k → ME G E0 (X.blk s H scope (compEnvC scope cl D X.env) fp) elt te me)
    (hw : TgW (own.map (·.2)) g) (hs : ∀ x, foldedSetIterable iter X.env x = pure x := by intro _; rfl) :
    ME G E X (.ListComp elt [⟨tg, iter, ifs, 0⟩] scope pos) (tLc wi g tt te (own.map (·.2))) (mLc mi mg mt me (own.map (·.2))) :=
  ⟨pe_lc C.calm C.nd hi.pe ok (fun s H D cl fp => (hg s H D cl fp (C.blk ..)).pe) (fun s H D cl fp => (ht s H D cl fp (C.blk ..)).pe) (fun s H D cl fp => (he s H D cl fp (C.blk ..)).pe) hs,
    rf_lc hi.rf (hg X.s_0 X.H_0 0 [] [] (C.blk ..)).rf hw (ht X.s_0 X.H_0 0 [] [] (C.blk ..)).rf (he X.s_0 X.H_0 0 [] [] (C.blk ..)).rf⟩
theorem ms_setLc {scope : Scope} {y : Str} {py spos : Pos} (i : Nat) (own : List (Str × Nat)) (C : XC G E X k) (hi : MIt G E X tg iter wi mi) (ok : BlkOk X.N X.env.scope scope own)
    (hg : ∀ (s : Shared) (H : Hp) (D : Addr) (cl : List (Str × Addr)) (fp : List Addr), XC G E0 (X.blk s H scope (compEnvC scope cl D X.env) fp) k → MG G (X.blk s H scope (compEnvC scope cl D X.env) fp) tg g mg)
    (ht : ∀ (s : Shared) (H : Hp) (D : Addr) (cl : List (Str × Addr)) (fp : List Addr), XC G E0 (X.blk s H scope (compEnvC scope cl D X.env) fp) k → MTs G E0 (X.blk s H scope (compEnvC scope cl D X.env) fp) ifs tt mt)
    (he : ∀ (s : Shared) (H : Hp) (D : Addr) (cl : List (Str × Addr)) (fp : List Addr), XC G E0 (X.blk s H scope (compEnvC scope cl D X.env) fp) k → ME G E0 (X.blk s H scope (compEnvC scope cl D X.env) fp) elt te me)
    (hw : TgW (own.map (·.2)) g) (hsw : swapsWith (.ListComp elt [⟨tg, iter, ifs, 0⟩] scope pos) (some (.Name y py)) spos.line X.env = pure true) (hy : X.N[i]? = some y := by rfl) (hyl : X.env.scope.names.lookup y = some .local := by rfl) (hs : ∀ x, foldedSetIterable iter X.env x = pure x := by intro _; rfl) :
    MS G E X (.Assign [.Name y py] (.ListComp elt [⟨tg, iter, ifs, 0⟩] scope pos) spos) (tAsg (tLc wi g tt te (own.map (·.2))) (gName i)) (sAsg (gV i) (mLc mi mg mt me (own.map (·.2)))) := by
  refine ⟨ps_setLc C.calm C.nd hy hyl hsw hi.pe ok (fun s H D cl fp => (hg s H D cl fp (C.blk ..)).pe) (fun s H D cl fp => (ht s H D cl fp (C.blk ..)).pe) (fun s H D cl fp => (he s H D cl fp (C.blk ..)).pe) hs, ⟨fun r H h s σ D hR sR p => ?_⟩⟩
  have rf := rf_lc (E := E) (vs := own.map (·.2)) hi.rf (hg X.s_0 X.H_0 0 [] [] (C.blk ..)).rf hw (ht X.s_0 X.H_0 0 [] [] (C.blk ..)).rf (he X.s_0 X.H_0 0 [] [] (C.blk ..)).rf
  exact rf.run r H h s σ _ hR sR (p.seqS fun x h1' r1 H1 v s1 hR1 v1 p1 => p1.here hR1 ((sR.mono s1).set v1 i))
end
end PyM

set_option Elab.async false
set_option linter.all false
set_option maxRecDepth 100000
set_option autoImplicit false
namespace PyM
open PySem L2

/-! ### built-ins by their names -/
theorem callR_or {X : Cx} {f : Value} {r r' : List V → Hp → VK → Prop} (h : CallR X f r) (h' : CallR X f r') : CallR X f (fun xs H Q => r xs H Q ∨ r' xs H Q) :=
  fun pins s σ H xs us Q I rv q => q.elim (h pins s σ H xs us Q I rv) (h' pins s σ H xs us Q I rv)
def bAbs (xs : List Val) (h : Heap) : Res Val := match xs with
  | [.int i] => .ok (.int (if i < 0 then -i else i)) h
  | _ => .stuck
def bInt (xs : List Val) (h : Heap) : Res Val := match xs with
  | [.int i] => .ok (.int i) h
  | [.bl b] => .ok (.int (if b then 1 else 0)) h
  | _ => .stuck
def bLen (xs : List Val) (h : Heap) : Res Val := match xs with
  | [.tup ys] => .ok (.int ys.length) h
  | [.ref a] => match h[a]? with
    | some (.lst ys) => .ok (.int ys.length) h
    | some (.fls ys) => .ok (.int ys.length) h
    | some (.dct d) => .ok (.int d.length) h
    | _ => .stuck
  | _ => .stuck
def bList (xs : List Val) (h : Heap) : Res Val := match xs with
  | [.tup ys] => .ok (.ref h.length) (h ++ [.lst ys])
  | [.ref a] => match h[a]? with
    | some (.lst ys) => .ok (.ref h.length) (h ++ [.lst ys])
    | some (.fls ys) => .ok (.ref h.length) (h ++ [.lst ys])
    | _ => .stuck
  | _ => .stuck
def bTuple (xs : List Val) (h : Heap) : Res Val := match xs with
  | [.tup ys] => .ok (.tup ys) h
  | [.ref a] => match h[a]? with
    | some (.lst ys) => .ok (.tup ys) h
    | some (.fls ys) => .ok (.tup ys) h
    | _ => .stuck
  | _ => .stuck
def asBl : Val → Option Bool
  | .bl b => some b
  | _ => none
def asInt : Val → Option Int
  | .int b => some b
  | _ => none
def seqOf (x : Val) (h : Heap) : Option (List Val) := match x with
  | .ref a => match h[a]? with
    | some (.lst ys) => some ys
    | some (.fls ys) => some ys
    | _ => none
  | _ => none
def bSeq {α : Type} (f : Val → Option α) (g : List α → Val) (xs : List Val) (h : Heap) : Res Val := match xs with
  | [x] => match seqOf x h with
    | some ys => match optAll f ys with
      | some bs => .ok (g bs) h
      | none => .stuck
    | none => .stuck
  | _ => .stuck
abbrev bAll := bSeq asBl fun bs => .bl (bs.all id)
abbrev bAny := bSeq asBl fun bs => .bl (bs.any id)
abbrev bSum := bSeq asInt fun bs => .int bs.sum
def bMax2 (xs : List Val) (h : Heap) : Res Val := match xs with
  | [.int i, .int j] => .ok (.int (if j > i then j else i)) h
  | _ => .stuck
def bMin2 (xs : List Val) (h : Heap) : Res Val := match xs with
  | [.int i, .int j] => .ok (.int (if j < i then j else i)) h
  | _ => .stuck
inductive Ty where
  | int | bool | str | tup | lst | dct | non
  deriving DecidableEq
def Ty.nm : Ty → String
  | .int => "int" | .bool => "bool" | .str => "str" | .tup => "tuple" | .lst => "list" | .dct => "dict" | .non => "NoneType"
def tyOf (x : Val) (h : Heap) : Option Ty := match x with
  | .non => some .non
  | .bl _ => some .bool
  | .int _ => some .int
  | .str _ => some .str
  | .tup _ => some .tup
  | .ref a => match h[a]? with
    | some (.lst _) => some .lst
    | some (.dct _) => some .dct
    | some (.dcT _) => some .dct
    | _ => none
def isTy (T : Ty) : Option Ty → Option Bool
  | some t => some (decide (t = T) || (decide (t = .bool) && decide (T = .int)))
  | none => none
def mIsi (T : Ty) (m : En → Heap → Res Val) (s : En) (h : Heap) : Res Val := (m s h).bind fun x h1 => match isTy T (tyOf x h1) with
  | some b => .ok (.bl b) h1
  | none => .stuck

section
variable {G : Cfg} {E : XK} {X : Cx} {k : Nat} {a b c e o e2 : Expr} {es : List Expr} {ta tb tc to : TE} {ma mb mc mo : En → Heap → Res Val} {pos p p2 apos : Pos} {tA : TA} {mA : En → Heap → Res (List Val)} {x : Str} {r : List Addr} {H : Hp} {h : Heap}
theorem me_blt {id : String} {t : List V → Hp → VK → Prop} {f : List Val → Heap → Res Val} (hc : CallR X (.builtin id) t) (hr : RfL G E t f) (hm : X.mg x = none) (hv : bootBuiltins x = some (.builtin id)) (ha : MA G E X (e :: es) tA mA) (hg : Gl X x := by rfl) (hn : x ≠ "__name__" := by decide) (hdb : (x == ("__debug__" : Str)) = false := by decide)
    (he : starEach (e :: es) X.env = (false, eval e X.env) :: starEach es X.env := by rfl) (hpl : (backTo pos (starEach es X.env)).any (·.1) = false := by rfl) : ME G E X (.Call (.Name x p) (e :: es) [] pos) (tCB t tA) (mL f mA) :=
  ⟨pe_callB hc hg hm hv ha.pe hn hdb he hpl, ha.rf.l hr⟩
theorem me_bty {id : String} {t : List V → Hp → VK → Prop} {f : List Val → Heap → Res Val} (hc : CallR X (.type id) t) (hr : RfL G E t f) (hm : X.mg x = none) (hv : bootBuiltins x = some (.type id)) (ha : MA G E X (e :: es) tA mA) (hg : Gl X x := by rfl) (hn : x ≠ "__name__" := by decide) (hdb : (x == ("__debug__" : Str)) = false := by decide)
    (he : starEach (e :: es) X.env = (false, eval e X.env) :: starEach es X.env := by rfl) (hpl : (backTo pos (starEach es X.env)).any (·.1) = false := by rfl) : ME G E X (.Call (.Name x p) (e :: es) [] pos) (tCB t tA) (mL f mA) :=
  ⟨pe_callTy hc hg hm hv ha.pe hn hdb he hpl, ha.rf.l hr⟩
theorem bt_abs : bootBuiltins "abs" = some (.builtin "abs") := by decide +kernel
theorem bt_int : bootBuiltins "int" = some (.type "int") := by decide +kernel
theorem bt_len : bootBuiltins "len" = some (.builtin "len") := by decide +kernel
theorem bt_list : bootBuiltins "list" = some (.type "list") := by decide +kernel
theorem bt_tuple : bootBuiltins "tuple" = some (.type "tuple") := by decide +kernel
theorem bt_all : bootBuiltins "all" = some (.builtin "all") := by decide +kernel
theorem bt_any : bootBuiltins "any" = some (.builtin "any") := by decide +kernel
theorem bt_sum : bootBuiltins "sum" = some (.builtin "sum") := by decide +kernel
theorem bt_max : bootBuiltins "max" = some (.builtin "max") := by decide +kernel
theorem bt_min : bootBuiltins "min" = some (.builtin "min") := by decide +kernel
theorem bt_sorted : bootBuiltins "sorted" = some (.builtin "sorted") := by decide +kernel
theorem bt_isi : bootBuiltins "isinstance" = some (.builtin "isinstance") := by decide +kernel

theorem vrs1 {xs : List Val} {v : V} {y : Val} (q : VRs G r H [y] [v]) : VR G r H y v := by cases q; assumption
theorem rl_abs : RfL G E (fun xs H Q => ∃ i, xs = [.int i] ∧ Q (.int (if i < 0 then -i else i)) H) bAbs := by
  refine ⟨fun r H h xs vs Q hR v p => ?_⟩
  unfold bAbs at p
  split at p
  · cases v with
    | cons q1 q2 => cases q1; cases q2; exact ⟨_, rfl, p.here hR (.int _)⟩
  · exact False.elim p
theorem rl_int : RfL G E (fun xs H Q => (∃ i, xs = [.int i] ∧ Q (.int i) H) ∨ ∃ k, xs = [.bl k] ∧ Q (.int (if k then 1 else 0)) H) bInt := by
  refine ⟨fun r H h xs vs Q hR v p => ?_⟩
  unfold bInt at p
  split at p
  · cases v with
    | cons q1 q2 => cases q1; cases q2; exact .inl ⟨_, rfl, p.here hR (.int _)⟩
  · cases v with
    | cons q1 q2 => cases q1; cases q2; exact .inr ⟨_, rfl, p.here hR (.int _)⟩
  · exact False.elim p
def rLenA (K : PySem.W.Frag) : List V → Hp → VK → Prop := fun xs H Q => (∃ x n, xs = [x] ∧ LenV K x H n ∧ Q (.int n) H) ∨ ∃ a kvs, xs = [V.ref a] ∧ H a = some (.dK kvs) ∧ Q (.int kvs.length) H
theorem cl_len (C : XC G E X k) : CallR X (.builtin "len") (rLenA G.K) := by
  have := callR_or (call_len (X := X)) call_lenD
  rw [C.K] at this
  exact this
theorem rl_len : RfL G E (rLenA G.K) bLen := by
  refine ⟨fun r H h xs vs Q hR v p => ?_⟩
  unfold bLen at p
  split at p
  · cases v with
    | cons q1 q2 => cases q2; cases q1 with
      | tup hs hv => exact .inl ⟨_, _, rfl, .inr ⟨_, hs, rfl⟩, by have := p.here hR (.int _); rw [hv.len] at this; exact this⟩
  · cases v with
    | cons q1 q2 => cases q2; cases q1 with
      | ref ea =>
        split at p
        · rename_i ys eo
          cases hR.ob _ _ _ eo ea with
          | lst hl hv => exact .inl ⟨_, _, rfl, .inl ⟨_, SqL.of hl, rfl⟩, by have := p.here hR (.int _); rw [hv.len] at this; exact this⟩
        · rename_i ys eo
          cases hR.ob _ _ _ eo ea with
          | fls hl hv => exact .inl ⟨_, _, rfl, .inl ⟨_, hl.sq, rfl⟩, by have := p.here hR (.int _); rw [hv.len] at this; exact this⟩
        · rename_i ys eo
          cases hR.ob _ _ _ eo ea with
          | dct hl hv => exact .inr ⟨_, _, rfl, hl, by have := p.here hR (.int _); rw [hv.len] at this; exact this⟩
        · exact False.elim p
  · exact False.elim p
def rListA (K : PySem.W.Frag) : List V → Hp → VK → Prop := fun xs H Q => ∃ p ys, xs = [.ref p] ∧ (SqL K H p ys ∨ SqT K H p ys) ∧ ∀ l, H l = none → Q (.ref l) (upd H l (.lst ys))
theorem cl_list (C : XC G E X k) : CallR X (.type "list") (rListA G.K) := by
  have := call_list_of (X := X)
  rw [C.K] at this
  exact this
theorem new_lst (hR : HR G r H h) {xs : List Val} {vs : List V} {Q : VK} (hv : VRs G r H xs vs) (p : PostR G (VR G) r H E (.ok (.ref h.length) (h ++ [.lst xs])) Q) (l : Addr) (hl : H l = none) : Q (.ref l) (upd H l (.lst vs)) := by
  refine p (r ++ [l]) _ _ (Stp.new hl) (hR.push hl (.lst upd_same (hv.mono (Stp.new hl)))) (.ref ?_)
  rw [← hR.len]
  simp
theorem rl_list : RfL G E (rListA G.K) bList := by
  refine ⟨fun r H h xs vs Q hR v p => ?_⟩
  unfold bList at p
  split at p
  · cases v with
    | cons q1 q2 => cases q2; cases q1 with
      | tup hs hv => exact ⟨_, _, rfl, .inr hs, new_lst hR hv p⟩
  · cases v with
    | cons q1 q2 => cases q2; cases q1 with
      | ref ea =>
        split at p
        · rename_i ys eo
          cases hR.ob _ _ _ eo ea with
          | lst hl hv => exact ⟨_, _, rfl, .inl (SqL.of hl), new_lst hR hv p⟩
        · rename_i ys eo
          cases hR.ob _ _ _ eo ea with
          | fls hl hv => exact ⟨_, _, rfl, .inl hl.sq, new_lst hR hv p⟩
        · exact False.elim p
  · exact False.elim p
def rTupA (K : PySem.W.Frag) : List V → Hp → VK → Prop := fun xs H Q => ∃ p ys, xs = [.ref p] ∧ ((SqL K H p ys ∧ ∀ l, H l = none → Q (.ref l) (upd H l (.tup ys))) ∨ (SqT K H p ys ∧ Q (.ref p) H))
theorem cl_tuple (C : XC G E X k) : CallR X (.type "tuple") (rTupA G.K) := by
  have := call_tuple_of (X := X)
  rw [C.K] at this
  exact this
theorem new_tup (hR : HR G r H h) {xs : List Val} {vs : List V} {Q : VK} (hv : VRs G r H xs vs) (p : PostR G (VR G) r H E (.ok (.tup xs) h) Q) (l : Addr) (hl : H l = none) : Q (.ref l) (upd H l (.tup vs)) :=
  p r _ _ (Stp.new0 hl) (hR.lay hl) (.tup (SqT.of upd_same) (hv.mono (Stp.new0 hl)))
theorem rl_tuple : RfL G E (rTupA G.K) bTuple := by
  refine ⟨fun r H h xs vs Q hR v p => ?_⟩
  unfold bTuple at p
  split at p
  · cases v with
    | cons q1 q2 => cases q2; cases q1 with
      | tup hs hv => exact ⟨_, _, rfl, .inr ⟨hs, p.here hR (.tup hs hv)⟩⟩
  · cases v with
    | cons q1 q2 => cases q2; cases q1 with
      | ref ea =>
        split at p
        · rename_i ys eo
          cases hR.ob _ _ _ eo ea with
          | lst hl hv => exact ⟨_, _, rfl, .inl ⟨SqL.of hl, new_tup hR hv p⟩⟩
        · rename_i ys eo
          cases hR.ob _ _ _ eo ea with
          | fls hl hv => exact ⟨_, _, rfl, .inl ⟨hl.sq, new_tup hR hv p⟩⟩
        · exact False.elim p
  · exact False.elim p
theorem seqOf_sq (hR : HR G r H h) {x : Val} {v : V} {ys : List Val} (q : VR G r H x v) (e : seqOf x h = some ys) : ∃ ad vs, v = .ref ad ∧ SqL G.K H ad vs ∧ VRs G r H ys vs := by
  cases q with
  | ref ea =>
    simp only [seqOf] at e
    split at e
    · rename_i zs eo
      cases e
      cases hR.ob _ _ _ eo ea with
      | lst hl hv => exact ⟨_, _, rfl, SqL.of hl, hv⟩
    · rename_i zs eo
      cases e
      cases hR.ob _ _ _ eo ea with
      | fls hl hv => exact ⟨_, _, rfl, hl.sq, hv⟩
    · cases e
  | _ => cases e
theorem all_bl : ∀ {ys : List Val} {vs : List V} {bs : List Bool}, VRs G r H ys vs → optAll asBl ys = some bs → vs = bs.map V.bl
  | _, _, _, .nil, e => by simp only [optAll, Option.some.injEq] at e; subst e; rfl
  | _, _, _, .cons a b, e => by
    simp only [optAll] at e
    split at e
    · rename_i d ds e1 e2
      cases e
      cases a with
      | bl b' => cases e1; rw [all_bl b e2]; rfl
      | _ => cases e1
    · cases e
theorem all_int : ∀ {ys : List Val} {vs : List V} {bs : List Int}, VRs G r H ys vs → optAll asInt ys = some bs → vs = bs.map V.int
  | _, _, _, .nil, e => by simp only [optAll, Option.some.injEq] at e; subst e; rfl
  | _, _, _, .cons a b, e => by
    simp only [optAll] at e
    split at e
    · rename_i d ds e1 e2
      cases e
      cases a with
      | int b' => cases e1; rw [all_int b e2]; rfl
      | _ => cases e1
    · cases e
theorem bSeq_ok {α : Type} {f : Val → Option α} {g : List α → Val} {xs : List Val} {vs : List V} {Q : VK} (hR : HR G r H h) (v : VRs G r H xs vs) (p : PostR G (VR G) r H E (bSeq f g xs h) Q) :
    ∃ ad us ys bs, vs = [V.ref ad] ∧ SqL G.K H ad us ∧ VRs G r H ys us ∧ optAll f ys = some bs ∧ PostR G (VR G) r H E (.ok (g bs) h) Q := by
  unfold bSeq at p
  split at p
  · cases v with
    | cons q1 q2 =>
      cases q2
      split at p
      · rename_i ys e1
        split at p
        · rename_i bs e2
          obtain ⟨ad, us, rfl, h1, h2⟩ := seqOf_sq hR q1 e1
          exact ⟨ad, us, ys, bs, rfl, h1, h2, e2, p⟩
        · exact False.elim p
      · exact False.elim p
  · exact False.elim p
theorem cl_all (C : XC G E X k) : CallR X (.builtin "all") (rAll G.K) := by have := cr_all (X := X) C.calm; rwa [C.K] at this
theorem cl_any (C : XC G E X k) : CallR X (.builtin "any") (rAny G.K) := by have := cr_any (X := X) C.calm; rwa [C.K] at this
theorem cl_sum (C : XC G E X k) : CallR X (.builtin "sum") (rSum G.K) := by have := cr_sum (X := X) C.calm; rwa [C.K] at this
theorem rl_all : RfL G E (rAll G.K) bAll := ⟨fun r H h xs vs Q hR v p => by
  obtain ⟨ad, us, ys, bs, rfl, h1, h2, e2, p⟩ := bSeq_ok hR v p
  rw [all_bl h2 e2] at h1
  exact ⟨ad, bs, rfl, h1, p.here hR (.bl _)⟩⟩
theorem rl_any : RfL G E (rAny G.K) bAny := ⟨fun r H h xs vs Q hR v p => by
  obtain ⟨ad, us, ys, bs, rfl, h1, h2, e2, p⟩ := bSeq_ok hR v p
  rw [all_bl h2 e2] at h1
  exact ⟨ad, bs, rfl, h1, p.here hR (.bl _)⟩⟩
theorem rl_sum : RfL G E (rSum G.K) bSum := ⟨fun r H h xs vs Q hR v p => by
  obtain ⟨ad, us, ys, bs, rfl, h1, h2, e2, p⟩ := bSeq_ok hR v p
  rw [all_int h2 e2] at h1
  exact ⟨ad, bs, rfl, h1, p.here hR (.int _)⟩⟩
theorem rl_max2 : RfL G E (fun xs H Q => ∃ i j, xs = [.int i, .int j] ∧ Q (.int (if j > i then j else i)) H) bMax2 := by
  refine ⟨fun r H h xs vs Q hR v p => ?_⟩
  unfold bMax2 at p
  split at p
  · cases v with
    | cons q1 q2 => cases q2 with
      | cons q3 q4 => cases q1; cases q3; cases q4; exact ⟨_, _, rfl, p.here hR (.int _)⟩
  · exact False.elim p
theorem rl_min2 : RfL G E (fun xs H Q => ∃ i j, xs = [.int i, .int j] ∧ Q (.int (if j < i then j else i)) H) bMin2 := by
  refine ⟨fun r H h xs vs Q hR v p => ?_⟩
  unfold bMin2 at p
  split at p
  · cases v with
    | cons q1 q2 => cases q2 with
      | cons q3 q4 => cases q1; cases q3; cases q4; exact ⟨_, _, rfl, p.here hR (.int _)⟩
  · exact False.elim p

/-! ### isinstance of a built-in class -/
theorem kit_all : ∀ t ∈ [Ty.int, Ty.bool, Ty.str, Ty.tup, Ty.lst, Ty.dct, Ty.non], ∀ T ∈ [Ty.int, Ty.bool, Ty.str, Ty.tup, Ty.lst, Ty.dct], kitB t.nm T.nm = some (decide (t = T) || (decide (t = .bool) && decide (T = .int))) := by decide +kernel
theorem tyOf_tyx (hR : HR G r H h) {x : Val} {v : V} {t : Ty} (q : VR G r H x v) (e : tyOf x h = some t) : TyX G.K H v (.type t.nm) := by
  cases q with
  | non => cases e; exact .base .non
  | bl b => cases e; exact .base (.bl _)
  | int b => cases e; exact .base (.int _)
  | str b => cases e; exact .base (.str _)
  | tup hs hv =>
    cases e
    rcases hs with (hs | ⟨o, hs⟩) | ⟨o, its, n, hk, hc, _⟩
    · exact .base (.tup hs)
    · exact .fTuple hs
    · exact .kTuple hk hc
  | ref ea =>
    simp only [tyOf] at e
    split at e
    · rename_i ys eo
      cases e
      cases hR.ob _ _ _ eo ea with
      | lst hl hv => exact .base (.lst hl)
    · rename_i ys eo
      cases e
      cases hR.ob _ _ _ eo ea with
      | dct hl hv => exact .base (.dK hl)
    · rename_i ys eo
      cases e
      cases hR.ob _ _ _ eo ea with
      | dcT hl hv => exact .base (.dT hl)
    · cases e
theorem me_isi (C : XC G E X k) (T : Ty) {y : Str} (hT : T ≠ .non) (hm : X.mg "isinstance" = none) (hy : X.mg y = none) (hb : bootBuiltins y = some (.type T.nm)) (ha : ME G E X a ta ma) (hg : Gl X "isinstance" := by rfl) (hgy : Gl X y := by rfl) (hn : y ≠ "__name__" := by decide) (hdb : (y == ("__debug__" : Str)) = false := by decide)
    (he : starEach (a :: [.Name y p2]) X.env = (false, eval a X.env) :: starEach [.Name y p2] X.env := by rfl) (he2 : starEach [.Name y p2] X.env = (false, eval (.Name y p2) X.env) :: starEach [] X.env := by rfl) (hpl : (backTo pos (starEach [.Name y p2] X.env)).any (·.1) = false := by rfl) :
    ME G E X (.Call (.Name "isinstance" p) [a, .Name y p2] [] pos) (tCB (rIsi G.K) (tCons ta (tCons (tC (.ty T.nm)) tNil))) (mIsi T ma) := by
  refine ⟨?_, ⟨fun r H h s σ Q hR sR p => ha.rf.run r H h s σ _ hR sR (p.seq fun x h1 r1 H1 v s1 hR1 v1 p1 => ?_)⟩⟩
  · have pa := pa_cons ha.pe (pa_cons (pe_bltn (v := .ty T.nm) (pos := p2) hgy hy hb rfl hn hdb) pa_nil he2) he
    have := pe_callB (pos := pos) (p := p) (call_isi (X := X)) hg hm bt_isi pa (by decide) (by decide) he hpl
    rw [C.K] at this
    exact this
  · split at p1
    · rename_i bb eb
      cases et : tyOf x h1 with
      | none => rw [et] at eb; cases eb
      | some t =>
        rw [et] at eb
        cases eb
        refine ⟨v, .ty T.nm, .type t.nm, .type T.nm, _, rfl, .ty _, tyOf_tyx hR1 v1 et, kit_ty (kit_all t ?_ T ?_), p1.here hR1 (.bl _)⟩
        · cases t <;> simp
        · cases T <;> first | (simp; done) | exact absurd rfl hT
    · exact False.elim p1

/-! ### methods of lists -/
def bAppend (x : Val) (xs : List Val) (h : Heap) : Res Val := match x, xs with
  | .ref a, [y] => match h[a]? with
    | some (.lst ys) => if ys.length < lim then .ok .non (h.set a (.lst (ys ++ [y]))) else .stuck
    | _ => .stuck
  | _, _ => .stuck
def bExtend (x : Val) (xs : List Val) (h : Heap) : Res Val := match x, xs with
  | .ref a, [.ref b] => match h[a]?, h[b]? with
    | some (.lst ys), some (.lst zs) => if ys.length + zs.length ≤ lim then .ok .non (h.set a (.lst (ys ++ zs))) else .stuck
    | _, _ => .stuck
  | _, _ => .stuck
def bPop (x : Val) (xs : List Val) (h : Heap) : Res Val := match x, xs with
  | .ref a, [] => match h[a]? with
    | some (.lst ys) => match ys[ys.length - 1]? with
      | some y => .ok y (h.set a (.lst ys.dropLast))
      | none => .stuck
    | _ => .stuck
  | _, _ => .stuck
def bPopAt (x : Val) (xs : List Val) (h : Heap) : Res Val := match x, xs with
  | .ref a, [.int i] => match h[a]? with
    | some (.lst ys) => if -(2 ^ 63) ≤ i ∧ i < 2 ^ 63 then match ixN ys.length i with
        | some j => match ys[j]? with
          | some y => .ok y (h.set a (.lst (ys.eraseIdx j)))
          | none => .stuck
        | none => .stuck
      else .stuck
    | _ => .stuck
  | _, _ => .stuck
def bCount (x : Val) (xs : List Val) (h : Heap) : Res Val := match x, xs with
  | .ref a, [y] => match h[a]? with
    | some (.lst ys) => if isFlat y = true ∧ ys.all isFlat = true then .ok (.int ((ys.countP fun z => feq z y : Nat) : Int)) h else .stuck
    | _ => .stuck
  | _, _ => .stuck
def mtOf (K : PySem.W.Frag) (x : V) (H : Hp) : Prop := tyV K "list" x H
def mBM (f : Val → List Val → Heap → Res Val) (mo : En → Heap → Res Val) (ma : En → Heap → Res (List Val)) (s : En) (h : Heap) : Res Val := (mo s h).bind fun x h1 => match seqOf x h1 with
  | some _ => (ma s h1).bind fun xs h2 => f x xs h2
  | none => .stuck
def mBM0 (f : Val → List Val → Heap → Res Val) (mo : En → Heap → Res Val) (s : En) (h : Heap) : Res Val := (mo s h).bind fun x h1 => match seqOf x h1 with
  | some _ => f x [] h1
  | none => .stuck
theorem tyL_of (hR : HR G r H h) {x : Val} {v : V} {ys : List Val} (q : VR G r H x v) (e : seqOf x h = some ys) : tyV G.K "list" v H := by
  obtain ⟨ad, vs, rfl, h1, _⟩ := seqOf_sq hR q e
  exact .inl ⟨rfl, _, h1⟩
theorem rf_bm {t : V → List V → Hp → VK → Prop} {f : Val → List Val → Heap → Res Val} (hf : RfM G E t f) (ho : Rf G E to mo) (ha : RfA G E tA mA) : Rf G E (tBM G.K "list" t to tA) (mBM f mo mA) := by
  refine ⟨fun r H h s σ Q hR sR p => ho.run r H h s σ _ hR sR (p.seq fun x h1 r1 H1 v s1 hR1 v1 p1 => ?_)⟩
  split at p1
  · rename_i ys ey
    refine ⟨tyL_of hR1 v1 ey, ha.run r1 H1 h1 s σ _ hR1 (sR.mono s1) (p1.seq fun xs h2 r2 H2 vs s2 hR2 v2 p2 => ?_)⟩
    exact hf.run r2 H2 h2 x v xs vs Q hR2 (v1.mono s2) v2 p2
  · exact False.elim p1
theorem rf_bm0 {t : V → List V → Hp → VK → Prop} {f : Val → List Val → Heap → Res Val} (hf : RfM G E t f) (ho : Rf G E to mo) : Rf G E (tBM0 G.K "list" t to) (mBM0 f mo) := by
  refine ⟨fun r H h s σ Q hR sR p => ho.run r H h s σ _ hR sR (p.seq fun x h1 r1 H1 v s1 hR1 v1 p1 => ?_)⟩
  split at p1
  · rename_i ys ey
    exact ⟨tyL_of hR1 v1 ey, hf.run r1 H1 h1 x v [] [] Q hR1 v1 .nil p1⟩
  · exact False.elim p1
theorem me_bm {name : Str} {id : String} {t : V → List V → Hp → VK → Prop} {f : Val → List Val → Heap → Res Val} (C : XC G E X k) (slot : Slot "list" name id) (hty : typeOf (.builtin id) = pure (.type "method_descriptor")) (hm : MtR X id t) (hf : RfM G E t f) (ho : ME G E X o to mo) (ha : MA G E X (e :: es) tA mA)
    (hbase : attributeBase o name X.env (eval o X.env) = eval o X.env := by rfl)
    (hfew : ((backTo pos (starEach (e :: es) X.env)).all (fun x => !x.1) && (backToKw pos (keywordEach [] X.env)).all (fun x => x.1.isSome)
      && decide ((e :: es).length + ([] : List Keyword).length + (if ([] : List Keyword).isEmpty then 0 else 1) < 30)) = true := by rfl)
    (hline : (apos.endLine == pos.line) = true := by rfl) (hs : starEach (e :: es) X.env = (false, eval e X.env) :: starEach es X.env := by rfl) (hplain : (backTo pos (starEach es X.env)).any (·.1) = false := by rfl) :
    ME G E X (.Call (.Attribute o name apos) (e :: es) [] pos) (tBM G.K "list" t to tA) (mBM f mo mA) := by
  refine ⟨?_, rf_bm hf ho.rf ha.rf⟩
  have := pe_bm PySem.F.plainAttrs_list slot hty hm ho.pe ha.pe hbase hfew hline hs hplain
  rwa [C.K] at this
theorem me_bm0 {name : Str} {id : String} {t : V → List V → Hp → VK → Prop} {f : Val → List Val → Heap → Res Val} (C : XC G E X k) (slot : Slot "list" name id) (hty : typeOf (.builtin id) = pure (.type "method_descriptor")) (hm : MtR X id t) (hf : RfM G E t f) (ho : ME G E X o to mo)
    (hbase : attributeBase o name X.env (eval o X.env) = eval o X.env := by rfl) (hline : (apos.endLine == pos.line) = true := by rfl) :
    ME G E X (.Call (.Attribute o name apos) [] [] pos) (tBM0 G.K "list" t to) (mBM0 f mo) := by
  refine ⟨?_, rf_bm0 hf ho.rf⟩
  have := pe_bm0 PySem.F.plainAttrs_list slot hty hm ho.pe hbase hline
  rwa [C.K] at this
theorem set_lst (hR : HR G r H h) {n : Nat} {ad : Addr} {xs ys : List Val} {us vs : List V} {x : Val} {v : V} {Q : VK} (eo : h[n]? = some (.lst xs)) (ea : r[n]? = some ad) (hl : H ad = some (.lst us)) (hv : VRs G r H ys vs) (hx : VR G r H x v) (p : PostR G (VR G) r H E (.ok x (h.set n (.lst ys))) Q) : Q v (upd H ad (.lst vs)) := by
  have st : Stp G.K r H r (upd H ad (.lst vs)) := Stp.upd fun o e => by rw [hl] at e; cases e; trivial
  exact p r _ _ st (hR.write eo rfl ea (fun o e => by rw [hl] at e; cases e; trivial) (.lst upd_same (hv.mono st)) rfl) (hx.mono st)
theorem rm_append : RfM G E rAppend bAppend := by
  refine ⟨fun r H h x v xs vs Q hR vx vv p => ?_⟩
  unfold bAppend at p
  split at p
  · cases vx with
    | ref ea => cases vv with
      | cons q1 q2 =>
        cases q2
        split at p
        · rename_i ys eo
          split at p
          · rename_i hlen
            cases hR.ob _ _ _ eo ea with
            | lst hl hv => exact ⟨_, _, _, rfl, rfl, hl, lt_line (by rw [← hv.len]; exact hlen), set_lst hR eo ea hl (hv.app (.cons q1 .nil)) .non p⟩
          · exact False.elim p
        · exact False.elim p
  · exact False.elim p
theorem rm_extend : RfM G E rExtend bExtend := by
  refine ⟨fun r H h x v xs vs Q hR vx vv p => ?_⟩
  unfold bExtend at p
  split at p
  · cases vx with
    | ref ea => cases vv with
      | cons q1 q2 =>
        cases q2
        cases q1 with
        | ref eb =>
          split at p
          · rename_i ys zs eo eo2
            split at p
            · rename_i hlen
              cases hR.ob _ _ _ eo ea with
              | lst hl hv => cases hR.ob _ _ _ eo2 eb with
                | lst hl2 hv2 => exact ⟨_, _, _, _, rfl, rfl, hl, hl2, le_line (by rw [← hv.len, ← hv2.len]; exact hlen), set_lst hR eo ea hl (hv.app hv2) .non p⟩
            · exact False.elim p
          · exact False.elim p
  · exact False.elim p
theorem rm_pop : RfM G E rPop bPop := by
  refine ⟨fun r H h x v xs vs Q hR vx vv p => ?_⟩
  unfold bPop at p
  split at p
  · cases vx with
    | ref ea =>
      cases vv
      split at p
      · rename_i ys eo
        split at p
        · rename_i y ey
          cases hR.ob _ _ _ eo ea with
          | lst hl hv =>
            obtain ⟨u, eu, vu⟩ := hv.get ey
            rw [hv.len] at eu
            exact ⟨_, _, _, rfl, rfl, hl, eu, set_lst hR eo ea hl hv.dropLast vu p⟩
        · exact False.elim p
      · exact False.elim p
  · exact False.elim p
theorem rm_popAt : RfM G E rPopAt bPopAt := by
  refine ⟨fun r H h x v xs vs Q hR vx vv p => ?_⟩
  unfold bPopAt at p
  split at p
  · cases vx with
    | ref ea => cases vv with
      | cons q1 q2 =>
        cases q2
        cases q1
        split at p
        · rename_i ys eo
          split at p
          · rename_i hb
            split at p
            · rename_i j ej
              split at p
              · rename_i y ey
                cases hR.ob _ _ _ eo ea with
                | lst hl hv =>
                  obtain ⟨u, eu, vu⟩ := hv.get ey
                  rw [hv.len] at ej
                  exact ⟨_, _, _, j, u, rfl, rfl, hl, hb.1, hb.2, (ixN_seq ej).1, eu, set_lst hR eo ea hl (hv.eraseIdx j) vu p⟩
              · exact False.elim p
            · exact False.elim p
          · exact False.elim p
        · exact False.elim p
  · exact False.elim p
def rCntF (K : PySem.W.Frag) : V → List V → Hp → VK → Prop := fun x xs H Q => ∃ (a : Addr) (ys : List V) (y : V), x = V.ref a ∧ xs = [y] ∧ SqL K H a ys ∧ flatV y = true ∧ ys.all flatV = true ∧ Q (.int ((ys.countP fun z => eqV z y : Nat) : Int)) H
theorem countU {y : V} : ∀ {ys : List V} {us : List Value}, Vals ys us → ys.all flatV = true → us.countP (eqU y) = ys.countP fun z => eqV z y
  | _, _, .nil, _ => rfl
  | _, _, .cons a b, f => by
    rw [List.all_cons, Bool.and_eq_true] at f
    rw [List.countP_cons, List.countP_cons, eqU_of a f.1, countU b f.2]
theorem mt_countF : MtR X "list.count" (rCntF X.K) := by
  intro pins s σ H x xs v us Q I rx rxs h
  obtain ⟨a, ys, y, rfl, rfl, hs, fy, fys, q⟩ := h
  cases rx
  cases rxs with
  | cons ry rt =>
    rename_i uy ut
    cases rt
    obtain ⟨its, rv, ⟨⟨cls, dd, data, sl⟩, n, ho, hc, hdn, hd⟩, hlen⟩ := I.list hs
    simp only at hc hd
    subst hc hd
    refine call_meets PySem.F.slot_list_count ⟨_, ho, rfl⟩ PySem.F.entry_list_count (PySem.F.args_list_count_2 _ _)
      (SeqAt.list_countAt a its.toArray n dd sl uy (eqU y)) ⟨ho, fun u' hu' => mem_eqAt ry fy rv fys u' (by simpa using hu'), ?_⟩
    have ec : its.toArray.toList.countP (eqU y) = ys.countP fun z => eqV z y := countU rv fys
    refine ⟨.int ((ys.countP fun z => eqV z y : Nat) : Int), H, I.tok _, ⟨s.toks, ?_⟩, q⟩
    rw [ec]
theorem countF (ok : G.Ok) {y : Val} {u : V} (b : VR G r H y u) : ∀ {xs : List Val} {vs : List V}, VRs G r H xs vs → xs.all isFlat = true → (xs.countP fun z => feq z y) = vs.countP fun z => eqV z u
  | _, _, .nil, _ => rfl
  | _, _, .cons a c, f => by
    rw [List.all_cons, Bool.and_eq_true] at f
    rw [List.countP_cons, List.countP_cons, feq_of ok a b f.1, countF ok b c f.2]
theorem rm_count (ok : G.Ok) : RfM G E (rCntF G.K) bCount := by
  refine ⟨fun r H h x v xs vs Q hR vx vv p => ?_⟩
  unfold bCount at p
  split at p
  · cases vx with
    | ref ea => cases vv with
      | cons q1 q2 =>
        cases q2
        split at p
        · rename_i ys eo
          split at p
          · rename_i hf
            cases hR.ob _ _ _ eo ea with
            | lst hl hv =>
              refine ⟨_, _, _, rfl, rfl, SqL.of hl, flat_of q1 hf.1, all_flat hv hf.2, ?_⟩
              rw [← countF ok q1 hv hf.2]
              exact p.here hR (.int _)
          · exact False.elim p
        · exact False.elim p
  · exact False.elim p
theorem cl_count (C : XC G E X k) : MtR X "list.count" (rCntF G.K) := by have := mt_countF (X := X); rwa [C.K] at this
end
end PyM

set_option Elab.async false
set_option linter.all false
set_option maxRecDepth 100000
set_option autoImplicit false
namespace PyM
open PySem L2

/-! ### exceptions of the program's own, without arguments -/
section
variable {X : Cx} {C : Addr} {bmB : List Value} {B newId initId : String}
theorem pmk_own0 {x : Str} {p pos : Pos} (F : ExcBaseFacts B newId initId bmB) (q : PySem.W.excIn X.K C bmB newId = true) (gC : X.mg x = some (.ref C)) (kC : PySem.W.keepIn X.K (.ref C) = true) (r : Raises X (.ref C)) (hg : Gl X x)
    (hdb : (x == ("__debug__" : Str)) = false := by decide) : PMk X (.Call (.Name x p) [] [] pos) (fun _ H Q => Q (.ref C) none H) := by
  intro pins s σ H Q I h
  refine wpAny_Call_Name_kw (ld_glob I hg gC ?_ hdb)
  refine PySem.W.callWith_K0 I.kIn kC ?_
  show wpAny _ _ (call (.ref C) []) _ _ _
  obtain ⟨bm, N, nm, qn, bs, hdct, sn, sub, ab, col, dd, k0, k1, k2, k3, k5, mN, hC, hN, hni, T⟩ := exc_obj I.kIn q
  refine wpAny_call_exc_subT F T hC hN hni (fun h' e hm => ?_) (Nat.zero_le _)
  exact mk_of I hm r h (I.hok.gone hm.new)
end
def sRaise (c : Nat) (_ : En) (h : Heap) : RS := .raised c h
def sTry (c : Nat) (mb ms : En → Heap → RS) (s : En) (h : Heap) : RS := match mb s h with
  | .raised c' h' => if c' = c then ms s h' else .stuck
  | x => x
/-- a def's body, run -/
def runB (np nl : Nat) (mb : En → Heap → RS) (xs : List Val) (h : Heap) : Res Val := if xs.length = np then
    match mb (xs.map some ++ List.replicate (nl - np) none) h with
    | .nx _ h' => .ok .non h'
    | .rt v h' => .ok v h'
    | .raised c h' => .raised c h'
    | _ => .stuck
  else .stuck
section
variable {G : Cfg} {E : XK} {X : Cx} {k : Nat} {e : Expr} {pos p pos2 np : Pos} {sts : List Stmt} {t : TS} {m : En → Heap → RS} {x : Str} {C : Addr}
abbrev Tk (X : Cx) (E : XK) : Prop := Takes X (fun cls d _ H => E cls d H)
theorem ms_raise (c : Nat) (XC_ : XC G E X k) (tk : Tk X E) (hc : G.cls[c]? = some C) (hp : PMk X (.Call (.Name x p) [] [] pos) (fun _ H Q => Q (.ref C) none H)) : MS G E X (.Raise (some (.Call (.Name x p) [] [] pos)) none pos2) (fun _ _ H => E (.ref C) none H) (sRaise c) :=
  ⟨ps_raise XC_.calm tk hp, ⟨fun r H h s σ D hR sR q => q r H C Stp.refl hR hc⟩⟩
/-- what the model says, as a reading -/
def tM (G : Cfg) (E : XK) (m : En → Heap → RS) : TS := fun D σ H => ∃ r h s, HR G r H h ∧ SR G r H s σ ∧ PostS G r H E (m s h) D
theorem pss_tM (h : MSs G E X sts t m) : PSs X sts (tM G E m) := ⟨fun pins s σ H D I ⟨r, hh, s', hR, sR, p⟩ => h.pe.run pins s σ H D I (h.rf.run r H hh s' σ D hR sR p)⟩
/-- try: body / except X: return constant -/
theorem ms_try (c : Nat) {e2 : Expr} {v : V} {y : Val} (C0 : XC G E X k) (hs : X.stack = X.env :: X.outer) (hf : X.env.frame = some X.env.locals) (hm : X.mg x = some (.ref C)) (tk : Tk X E) (hc : G.cls[c]? = some C) (hx : PySem.W.exmOne G.K (.ref C) (.ref C) = some true)
    (hv : ∀ r H, VR G r H y v) (h2 : ∀ X' : Cx, PE X' e2 (tC v)) {pos3 pos4 : Pos}
    (hb : ∀ (E' : XK) (pn : List (Addr × PySem.Obj)) (xe : Value → Shared → Prop), XC G E' (X.tr pn xe) k → ∃ t, MSs G E' (X.tr pn xe) sts t m) (hg : Gl X x := by rfl) (hdb : (x == ("__debug__" : Str)) = false := by decide) :
    MS G E X (.Try sts [.ExceptHandler (some (.Name x np)) none [.Return (some e2) pos3] pos4] [] [] pos) (tM G E (sTry c m (sRet (mK y)))) (sTry c m (sRet (mK y))) := by
  refine ⟨⟨fun pins s σ H D I ⟨r, h, s', hR, sR, p⟩ => ?_⟩, ⟨fun r H h s σ D hR sR p => ⟨r, h, s, hR, sR, p⟩⟩⟩
  have key := ps_try_only (X := X) (x := x) (c := .ref C) (body := sts) (suite := []) (b₀ := .Return (some e2) pos3) (np := np) (pos := pos) (pos' := pos4) (tb := fun W => tM G (fun cls d H' => ∀ σ', W cls d σ' H') m) (ts := fun _ _ _ => tRet (tC v)) (Wout := fun cls d _ H => E cls d H) hs hf ⟨hg, hdb, .inl hm⟩ tk
      (fun W pn xe tk' own => by
        obtain ⟨t, q⟩ := hb (fun cls d H' => ∀ σ', W cls d σ' H') pn xe ⟨C0.K, C0.calm, C0.nd, C0.room, passes_call tk' (fun cls d σ H q => q σ), own⟩
        exact pss_tM q)
      (fun a oe cls d pn _ _ => pss_one (ps_ret (h2 _)))
  refine key.run pins s σ H D I ⟨r, h, s', hR, sR, ?_⟩
  unfold sTry at p
  cases q : m s' h with
  | raised c' h' =>
    rw [q] at p
    simp only at p
    split at p
    · rename_i ec
      subst ec
      intro r' H' C' st hR' hC' σ'
      rw [hc] at hC'
      cases hC'
      refine ⟨true, by rw [C0.K]; exact hx, fun _ a ha => ?_, fun q => nomatch q⟩
      exact p r' H' v st hR' (hv _ _)
    · exact False.elim p
  | nx a b => rw [q] at p; exact p
  | rt a b => rw [q] at p; exact p
  | bk a b => rw [q] at p; exact p
  | ct a b => rw [q] at p; exact p
  | stuck => rw [q] at p; exact p
end

/-! ### defs -/
theorem SR_start {G : Cfg} {r : List Addr} {H : Hp} {n : Nat} : ∀ {xs : List Val} {vs : List V}, VRs G r H xs vs → SR G r H (xs.map some ++ List.replicate n none) (vs.map some ++ List.replicate n none)
  | _, _, .nil => by
    induction n with
    | zero => exact .nil
    | succ n ih => exact .no ih
  | _, _, .cons a b => .so a (SR_start b)
section
variable {P : Program} {w : World} {mg : Str → Option Value} {base : PySem.Heap} {G : Cfg}
theorem fn_m {x qual : Str} {st : Stmt} {f : Addr} {fd : FuncData} {N ps : List Str} {k np nl : Nat} {mb : En → Heap → RS} (F : Fun G.K x qual st f fd) (S : FnScope N ps (defScope st)) (hnp : ps.length = np) (hnl : N.length = nl)
    (hb : ∀ (cdv : Value) (A : Around) (outer : List Env) (s : Shared) (H : Hp) (E : XK), XC G E (cxOf (L2.CX P w) P w G.K mg base N qual (defScope st) f cdv A outer s H E) k → Tk (cxOf (L2.CX P w) P w G.K mg base N qual (defScope st) f cdv A outer s H E) E →
      ∃ t, MSs G E (cxOf (L2.CX P w) P w G.K mg base N qual (defScope st) f cdv A outer s H E) (defBody st) t mb) : FnM G P w mg base (k + 1) f fd ps (runB np nl mb) := by
  subst hnp hnl
  refine ⟨F.okX S (fun vs H Q E h => h.1) (fun cdv A outer s H vs Q E hr h => ?_), fun xs h hl => by unfold runB; rw [if_neg hl]⟩
  obtain ⟨hl, r, h, xs, hR, vR, p⟩ := h
  have tk : Tk (cxOf (L2.CX P w) P w G.K mg base N qual (defScope st) f cdv A outer s H E) E := takes_of rfl rfl rfl rfl
  obtain ⟨t, q⟩ := hb cdv A outer s H E ⟨rfl, rfl, S.nd, hr, passes_call tk (fun _ _ _ _ h => h), passes_of rfl⟩ tk
  have z := q.rf.run r H h _ _ { nx := fun _ H' => Q .non H', rt := Q } hR (SR_start (n := N.length - ps.length) vR) ?_
  · refine ⟨t, q.pe, ?_⟩
    rw [← hl] at z
    exact z
  · unfold runB at p
    rw [if_pos (by rw [vR.len]; exact hl)] at p
    cases e : mb (List.map some xs ++ List.replicate (N.length - ps.length) none) h with
    | nx a b =>
      rw [e] at p
      exact fun r' H' t st hR' _ => p r' H' _ st hR' .non
    | rt a b => rw [e] at p; exact p
    | raised a b => rw [e] at p; exact p
    | bk a b => rw [e] at p; exact p.elim
    | ct a b => rw [e] at p; exact p.elim
    | stuck => rw [e] at p; exact p.elim
/-- a def that is never run out of its levels -/
theorem fn_none {f : Addr} {fd : FuncData} {ps : List Str} {k : Nat} : FnM G P w mg base k f fd ps (fun _ _ => .stuck) :=
  ⟨⟨fun vs H Q E h => h.1, fun A outer s H args us vs Q E _ _ _ _ ⟨_, _, _, _, _, _, p⟩ => p.elim⟩, fun _ _ _ => rfl⟩
theorem FnM.mono {f : Addr} {fd : FuncData} {ps : List Str} {j k : Nat} {m : List Val → Heap → Res Val} (F : FnM G P w mg base j f fd ps m) (h : j ≤ k) : FnM G P w mg base k f fd ps m := ⟨F.ok.mono h, F.st⟩
/-- the law's own promise -/
def spLaw (K : PySem.W.Frag) : Sp := fun vs H Q _ => ∃ (a : Addr) (ns : List Int), vs = [.ref a] ∧ ns.length ≤ 63 ∧ Only H ∧ SqL K H a (ns.map V.int) ∧ ∀ H', Q (.bl true) H'
theorem vrs_ints {r : List Addr} {H : Hp} : ∀ ns : List Int, VRs G r H (ns.map Val.int) (ns.map V.int)
  | [] => .nil
  | n :: ns => .cons (.int n) (vrs_ints ns)
theorem law_of {f : Addr} {fd : FuncData} {x : Str} {k : Nat} {m : List Val → Heap → Res Val} (F : FnM G P w mg base k f fd [x] m) (h : ∀ ns : List Int, ns.length ≤ 63 → ∃ h', m [.ref 0] [.fls (ns.map Val.int)] = .ok (.bl true) h') :
    FnOk P w G.K mg base (L2.CX P w) k f fd [x] (spLaw G.K) := by
  refine F.ok.imp fun vs H Q E ⟨a, ns, e, hl, hO, hS, q⟩ => ?_
  subst e
  obtain ⟨h', e⟩ := h ns hl
  have fl : FL G.K H a (ns.map V.int) := by
    rcases hS with (hS | hS) | hS
    · rcases hO a with z | ⟨o, xs, z⟩
      · rw [z] at hS; cases hS
      · rw [z] at hS; cases hS
    · exact .inl hS
    · exact .inr hS
  refine ⟨rfl, [a], [.fls (ns.map Val.int)], [.ref 0], ⟨rfl, fun i j b x y e1 e2 e3 e4 f1 f2 => ?_, fun n o b e1 e2 => ?_⟩, .cons (.ref rfl) .nil, ?_⟩
  · cases i with
    | zero => cases j with
      | zero => rfl
      | succ j => simp at e2
    | succ i => simp at e1
  · cases n with
    | zero =>
      simp at e1 e2
      subst e1 e2
      exact .fls fl (vrs_ints ns)
    | succ n => simp at e1
  · rw [e]
    intro r' H' b st hR v
    cases v
    exact q H'
end
end PyM

set_option Elab.async false
set_option linter.all false
set_option autoImplicit false
namespace PyM
open PySem L2
abbrev oFd : Val → Val → Heap → Res Val := oIC (fun _ j => decide (0 < j ∧ j < 1073741824)) fun i j => .int (i / j)
abbrev oMd : Val → Val → Heap → Res Val := oIC (fun _ j => decide (0 < j)) fun i j => .int (i % j)
abbrev oPw : Val → Val → Heap → Res Val := oIC cPow fun i j => .int (i ^ j.toNat)
abbrev oShl : Val → Val → Heap → Res Val := oIC cPow fun i j => .int (i * 2 ^ j.toNat)
abbrev oShr : Val → Val → Heap → Res Val := oIC (fun _ j => decide (0 ≤ j)) fun i j => .int (i / 2 ^ j.toNat)
abbrev oBa : Val → Val → Heap → Res Val := oI fun i j => .int (Builtin.bitAnd i j)
abbrev oBo : Val → Val → Heap → Res Val := oI fun i j => .int (Builtin.bitOr i j)
abbrev oBx : Val → Val → Heap → Res Val := oI fun i j => .int (Builtin.bitXor i j)
abbrev oLt : Val → Val → Heap → Res Val := oI fun i j => .bl (decide (i < j))
abbrev oLe : Val → Val → Heap → Res Val := oI fun i j => .bl (decide (i ≤ j))
abbrev oGt : Val → Val → Heap → Res Val := oI fun i j => .bl (decide (j < i))
abbrev oGe : Val → Val → Heap → Res Val := oI fun i j => .bl (decide (j ≤ i))
abbrev mChLeLe := mCh (fun i j => decide (i ≤ j)) (fun i j => decide (i ≤ j))
abbrev mChLeLt := mCh (fun i j => decide (i ≤ j)) (fun i j => decide (i < j))
theorem bt_ty_int : bootBuiltins "int" = some (.type Ty.int.nm) := by decide +kernel
theorem bt_ty_bool : bootBuiltins "bool" = some (.type Ty.bool.nm) := by decide +kernel
theorem bt_ty_str : bootBuiltins "str" = some (.type Ty.str.nm) := by decide +kernel
theorem bt_ty_tup : bootBuiltins "tuple" = some (.type Ty.tup.nm) := by decide +kernel
theorem bt_ty_lst : bootBuiltins "list" = some (.type Ty.lst.nm) := by decide +kernel
theorem bt_ty_dct : bootBuiltins "dict" = some (.type Ty.dct.nm) := by decide +kernel
/-- an error of the class at S is what «except S» names -/
theorem exm_self {K : PySem.W.Frag} {S : Addr} (h1 : PySem.W.subIn K (.ref S) (.type "BaseException") = some true) (h2 : PySem.W.isClsIn K S = true) (h3 : PySem.W.typeIn K (.ref S) = some (.type "type")) (h4 : PySem.W.subIn K (.ref S) (.ref S) = some true) :
    PySem.W.exmOne K (.ref S) (.ref S) = some true := by
  have e1 : (PySem.W.subIn K (.ref S) (.type "BaseException") == some true) = true := by rw [h1] <;> rfl
  have e2 : ((PySem.W.clsIn K S).isSome && PySem.W.typeIn K (.ref S) == some (.type "type")) = true := by
    have h2' : (PySem.W.clsIn K S).isSome = true := h2
    rw [h2', h3] <;> rfl
  show (if (PySem.W.subIn K (.ref S) (.type "BaseException") == some true) = true then (if ((PySem.W.clsIn K S).isSome && PySem.W.typeIn K (.ref S) == some (.type "type")) = true then PySem.W.subIn K (.ref S) (.ref S) else none) else none) = some true
  rw [if_pos e1, if_pos e2]
  exact h4
end PyM

set_option Elab.async false
set_option linter.all false
set_option autoImplicit false
set_option maxHeartbeats 4000000
/-! more rules: is True, is False -/
namespace PyM
open PySem L2
variable {G : Cfg} {E : XK} {X : Cx} {k : Nat} {a b c e : Expr} {ta tb tc : TE} {ma mb mc : En → Heap → Res Val} {pos : Pos} {u v w : TT} {mu mv : En → Heap → Res Bool}
def oIsB (neg : Bool) (x y : Val) (h : Heap) : Res Val := match x, y with
  | .bl a, .bl b => .ok (.bl (if neg then !decide (a = b) else decide (a = b))) h
  | _, _ => .stuck
theorem rf_isB : Rf2 G E (fun x y H Q => ∃ a b, x = V.bl a ∧ y = V.bl b ∧ Q (V.bl (decide (a = b))) H) (oIsB false) := by
  refine ⟨fun r H h x y v u Q hR a b p => ?_⟩
  cases a with
  | bl i => cases b with
    | bl j => exact ⟨i, j, rfl, rfl, p.here hR (.bl _)⟩
    | _ => exact False.elim p
  | _ => exact False.elim p
theorem rf_isnB : Rf2 G E (fun x y H Q => ∃ a b, x = V.bl a ∧ y = V.bl b ∧ Q (V.bl (!decide (a = b))) H) (oIsB true) := by
  refine ⟨fun r H h x y v u Q hR a b p => ?_⟩
  cases a with
  | bl i => cases b with
    | bl j => exact ⟨i, j, rfl, rfl, p.here hR (.bl _)⟩
    | _ => exact False.elim p
  | _ => exact False.elim p
theorem mc_isB (ha : ME G E X a ta ma) (hb : ME G E X b tb mb) : MC G E X .Is a b (tOp (fun x y H Q => ∃ a b, x = V.bl a ∧ y = V.bl b ∧ Q (V.bl (decide (a = b))) H) ta tb) (mB (oIsB false) ma mb) := ⟨pc_of op_is_bl ha.pe hb.pe, ha.rf.b2 hb.rf rf_isB⟩
theorem mc_isnB (ha : ME G E X a ta ma) (hb : ME G E X b tb mb) : MC G E X .IsNot a b (tOp (fun x y H Q => ∃ a b, x = V.bl a ∧ y = V.bl b ∧ Q (V.bl (!decide (a = b))) H) ta tb) (mB (oIsB true) ma mb) := ⟨pc_of op_isnot_bl ha.pe hb.pe, ha.rf.b2 hb.rf rf_isnB⟩
end PyM

set_option Elab.async false
set_option linter.all false
set_option autoImplicit false
set_option maxHeartbeats 4000000
/-! more rules: list.index -/
namespace PyM
open PySem L2
variable {G : Cfg} {E : XK} {X : Cx} {k : Nat} {r : List Addr} {H : Hp} {h : Heap}
def fix (d : D) : List D → Option Nat
  | [] => none
  | z :: ds => if deq z d = true then some 0 else (fix d ds).map (· + 1)
theorem fix_py (ok : G.Ok) {d : D} {n m : Nat} (hd : d.wf G.sts.length n = true) : ∀ {ds : List D} {j : Nat}, D.wfs G.sts.length m ds = true → fix d ds = some j →
    (∃ z, (D.pys G ds)[j]? = some z ∧ PyData.eqv z (d.py G) = true) ∧ ∀ (m : Nat) (z' : PyData), m < j → (D.pys G ds)[m]? = some z' → PyData.eqv z' (d.py G) = false
  | [], j, _, e => by cases e
  | x :: ds, j, f, e => by
    simp only [D.wfs, Bool.and_eq_true] at f
    have q := eqv_py ok x d _ _ f.1 hd
    rw [fix] at e
    split at e
    · rename_i c
      cases e
      exact ⟨⟨x.py G, by simp [D.pys], by rw [q]; exact c⟩, fun m z' hm => by omega⟩
    · rename_i c
      obtain ⟨i, ei, rfl⟩ := Option.map_eq_some_iff.mp e
      obtain ⟨⟨z, h1, h2⟩, h3⟩ := fix_py ok hd f.2 ei
      refine ⟨⟨z, by simpa [D.pys] using h1, h2⟩, fun m z' hm hz => ?_⟩
      cases m with
      | zero =>
        simp [D.pys] at hz
        subst hz
        rw [q]
        simpa using c
      | succ m => exact h3 m z' (by omega) (by simpa [D.pys] using hz)
def bIndex (x : Val) (xs : List Val) (h : Heap) : Res Val := match x, xs with
  | .ref a, [y] => match h[a]? with
    | some (.lst ys) => match conv 60 h y, optAll (conv 59 h) ys with
      | some d, some ds => match fix d ds with
        | some j => .ok (.int (j : Nat)) h
        | none => .stuck
      | _, _ => .stuck
    | _ => .stuck
  | _, _ => .stuck
theorem rm_index (ok : G.Ok) : RfM G E (rIndexD G.K) bIndex := by
  refine ⟨fun r H h x v xs vs Q hR vx vv p => ?_⟩
  unfold bIndex at p
  split at p
  · cases vx with
    | ref ea => cases vv with
      | cons q1 q2 =>
        cases q2
        split at p
        · rename_i ys eo
          split at p
          · rename_i d ds e1 e2
            split at p
            · rename_i j ej
              cases hR.ob _ _ _ eo ea with
              | lst hl hv =>
                obtain ⟨d1, w1⟩ := conv_dp hR _ _ _ _ q1 e1
                obtain ⟨d2, w2⟩ := optAll_dp (fun x v d => conv_dp hR 59 x v d) _ _ _ hv e2
                obtain ⟨⟨z, z1, z2⟩, z3⟩ := fix_py ok w1 w2 ej
                have sl : SeqAt.shaped (.list (D.pys G ds)) = true := by
                  have : (D.lst ds).wf G.sts.length 60 = true := by simpa [D.wf] using w2
                  have := shaped_py ok this (by decide)
                  simpa [D.py] using this
                exact ⟨_, _, _, _, j, z, rfl, rfl, .lst (SqL.of hl) d2, d1, sl, shaped_py ok w1 (by decide), z1, z2, z3, p.here hR (.int _)⟩
            · exact False.elim p
          · exact False.elim p
        · exact False.elim p
  · exact False.elim p
theorem cl_index (C : XC G E X k) : MtR X "list.index" (rIndexD G.K) := by
  have := mt_indexD (X := X) C.hu
  rwa [C.K] at this
end PyM

set_option Elab.async false
set_option linter.all false
set_option autoImplicit false
/-! how a model program is reckoned: weakest wishes, as equations for simp -/
namespace PyM

structure K4 where
  nx : En → Heap → Prop
  rt : Val → Heap → Prop
  bk : En → Heap → Prop := fun _ _ => False
  ct : En → Heap → Prop := fun _ _ => False
  ex : Nat → Heap → Prop := fun _ _ => False
def wR {α : Type} (x : Res α) (E : Nat → Heap → Prop) (Q : α → Heap → Prop) : Prop := match x with
  | .ok a h => Q a h
  | .raised c h => E c h
  | .stuck => False
def wS (x : RS) (D : K4) : Prop := match x with
  | .nx s h => D.nx s h
  | .rt v h => D.rt v h
  | .bk s h => D.bk s h
  | .ct s h => D.ct s h
  | .raised c h => D.ex c h
  | .stuck => False
section
variable {α β : Type} {E : Nat → Heap → Prop} {Q : α → Heap → Prop} {D : K4} {s : En} {h : Heap}
@[simp ↓] theorem wR_ok {a : α} : wR (.ok a h) E Q = Q a h := rfl
@[simp ↓] theorem wR_raised {c : Nat} : wR (.raised c h : Res α) E Q = E c h := rfl
@[simp ↓] theorem wR_stuck : wR (.stuck : Res α) E Q = False := rfl
@[simp ↓] theorem wS_nx : wS (.nx s h) D = D.nx s h := rfl
@[simp ↓] theorem wS_rt {v : Val} : wS (.rt v h) D = D.rt v h := rfl
@[simp ↓] theorem wS_bk : wS (.bk s h) D = D.bk s h := rfl
@[simp ↓] theorem wS_ct : wS (.ct s h) D = D.ct s h := rfl
@[simp ↓] theorem wS_raised {c : Nat} : wS (.raised c h) D = D.ex c h := rfl
@[simp ↓] theorem wS_stuck : wS .stuck D = False := rfl
@[simp ↓] theorem wR_bind {x : Res β} {k : β → Heap → Res α} : wR (x.bind k) E Q = wR x E fun b h1 => wR (k b h1) E Q := by cases x <;> rfl
@[simp ↓] theorem wS_thenS {x : Res β} {k : β → Heap → RS} : wS (x.thenS k) D = wR x D.ex fun b h1 => wS (k b h1) D := by cases x <;> rfl
@[simp ↓] theorem wS_bind {x : RS} {k : En → Heap → RS} : wS (x.bind k) D = wS x { D with nx := fun s h => wS (k s h) D } := by cases x <;> rfl
@[simp ↓] theorem wR_ite {c : Prop} [Decidable c] {a b : Res α} : wR (if c then a else b) E Q = if c then wR a E Q else wR b E Q := by split <;> rfl
@[simp ↓] theorem wS_ite {c : Prop} [Decidable c] {a b : RS} : wS (if c then a else b) D = if c then wS a D else wS b D := by split <;> rfl
theorem wR_mono {x : Res α} {Q' : α → Heap → Prop} (w : wR x E Q) (f : ∀ a h, Q a h → Q' a h) : wR x E Q' := by cases x <;> first | exact f _ _ w | exact w
theorem wR_eq {x : Res α} {a : α} (e : x = .ok a h) (q : Q a h) : wR x E Q := by rw [e]; exact q
end
section
variable {E : Nat → Heap → Prop} {Q : Val → Heap → Prop} {QA : List Val → Heap → Prop} {QB : Bool → Heap → Prop} {D : K4} {s : En} {h : Heap} {ma mb mc mo mi me : En → Heap → Res Val} {mA : En → Heap → Res (List Val)} {tu tv : En → Heap → Res Bool} {a b : En → Heap → RS}
@[simp ↓] theorem wR_mK {x : Val} : wR (mK x s h) E Q = Q x h := rfl
@[simp ↓] theorem wR_mV0 {x : Val} : wR (mV 0 (some x :: s) h) E Q = Q x h := rfl
@[simp ↓] theorem wR_mV1 {i : Nat} {o : Option Val} : wR (mV (i + 1) (o :: s) h) E Q = wR (mV i s h) E Q := rfl
@[simp ↓] theorem wR_mB {f : Val → Val → Heap → Res Val} : wR (mB f ma mb s h) E Q = wR (ma s h) E fun x h1 => wR (mb s h1) E fun y h2 => wR (f x y h2) E Q := by unfold mB; simp
@[simp ↓] theorem wR_mU {f : Val → Heap → Res Val} : wR (mU f ma s h) E Q = wR (ma s h) E fun x h1 => wR (f x h1) E Q := by unfold mU; simp
@[simp ↓] theorem wR_mL {f : List Val → Heap → Res Val} : wR (mL f mA s h) E Q = wR (mA s h) E fun x h1 => wR (f x h1) E Q := by unfold mL; simp
@[simp ↓] theorem wR_mNil : wR (mNil s h) E QA = QA [] h := rfl
@[simp ↓] theorem wR_mCons : wR (mCons ma mA s h) E QA = wR (ma s h) E fun x h1 => wR (mA s h1) E fun xs h2 => QA (x :: xs) h2 := by unfold mCons; simp
@[simp ↓] theorem wR_tB : wR (tB_ ma s h) E QB = wR (ma s h) E fun x h1 => (match x with | .bl c => QB c h1 | _ => False) := by
  unfold tB_; simp only [wR_bind]; congr; funext x h1; split <;> simp_all
@[simp ↓] theorem wR_tTr : wR (tTr ma s h) E QB = wR (ma s h) E fun x h1 => (match truth x h1 with | some c => QB c h1 | none => False) := by
  unfold tTr; simp only [wR_bind]; congr; funext x h1; split <;> simp_all
@[simp ↓] theorem wR_tTrue : wR (tTrue s h) E QB = QB true h := rfl
@[simp ↓] theorem wR_tNo : wR (tNo tu s h) E QB = wR (tu s h) E fun c h1 => QB (!c) h1 := by unfold tNo; simp
@[simp ↓] theorem wR_tAn : wR (tAn tu tv s h) E QB = wR (tu s h) E fun c h1 => if c = true then wR (tv s h1) E QB else QB false h1 := by unfold tAn; simp
@[simp ↓] theorem wR_tOr : wR (tOr_ tu tv s h) E QB = wR (tu s h) E fun c h1 => if c = true then QB true h1 else wR (tv s h1) E QB := by unfold tOr_; simp
@[simp ↓] theorem wR_mAn : wR (mAn ma mb s h) E Q = wR (ma s h) E fun x h1 => (match x with | .bl c => if c = true then wR (mb s h1) E Q else Q (.bl false) h1 | _ => False) := by
  unfold mAn; simp only [wR_bind]; congr; funext x h1; split <;> simp_all
@[simp ↓] theorem wR_mOr : wR (mOr_ ma mb s h) E Q = wR (ma s h) E fun x h1 => (match x with | .bl c => if c = true then Q (.bl true) h1 else wR (mb s h1) E Q | _ => False) := by
  unfold mOr_; simp only [wR_bind]; congr; funext x h1; split <;> simp_all
@[simp ↓] theorem wR_mNo : wR (mNo ma s h) E Q = wR (ma s h) E fun x h1 => (match x with | .bl c => Q (.bl (!c)) h1 | _ => False) := by
  unfold mNo; simp only [wR_bind]; congr; funext x h1; split <;> simp_all
@[simp ↓] theorem wR_mIf : wR (mIf tu ma mb s h) E Q = wR (tu s h) E fun c h1 => if c = true then wR (ma s h1) E Q else wR (mb s h1) E Q := by unfold mIf; simp
@[simp ↓] theorem wR_mCh {p q : Int → Int → Bool} : wR (mCh p q ma mb mc s h) E Q = wR (ma s h) E fun x h1 => wR (mb s h1) E fun y h2 => (match x, y with
    | .int i, .int j => if p i j = true then wR (mc s h2) E fun z h3 => (match z with | .int k => Q (.bl (q j k)) h3 | _ => False) else Q (.bl false) h2
    | _, _ => False) := by
  unfold mCh; simp only [wR_bind]; congr; funext x h1; congr; funext y h2; split
  · simp only [wR_ite, wR_bind, wR_ok]
    split
    · congr; funext z h3; split <;> simp_all
    · rfl
  · simp_all
@[simp ↓] theorem wR_mTup : wR (mTup mA s h) E Q = wR (mA s h) E fun xs h1 => xs.length ≤ lim ∧ Q (.tup xs) h1 := by unfold mTup; simp only [wR_bind]; congr; funext x h1; split <;> (simp_all <;> (intros; omega))
@[simp ↓] theorem wR_mLst : wR (mLst mA s h) E Q = wR (mA s h) E fun xs h1 => xs.length ≤ lim ∧ Q (.ref h1.length) (h1 ++ [.lst xs]) := by unfold mLst; simp only [wR_bind]; congr; funext x h1; split <;> (simp_all <;> (intros; omega))
@[simp ↓] theorem wR_mDct : wR (mDct s h) E Q = Q (.ref h.length) (h ++ [.dct []]) := rfl
@[simp ↓] theorem wR_mCall {m : List Val → Heap → Res Val} {ds : List Val} : wR (mCall m ds mA s h) E Q = wR (mA s h) E fun xs h1 => wR (m (xs ++ ds) h1) E Q := by unfold mCall; simp
@[simp ↓] theorem wR_mMeth {c : Nat} {m : List Val → Heap → Res Val} {ds : List Val} : wR (mMeth c m ds mo mA s h) E Q = wR (mo s h) E fun x h1 => isIns c x h1 = true ∧ wR (mA s h1) E fun xs h2 => wR (m (x :: (xs ++ ds)) h2) E Q := by
  unfold mMeth; simp only [wR_bind]; congr; funext x h1; split <;> simp_all
@[simp ↓] theorem wR_mMake {c : Nat} {m : List Val → Heap → Res Val} {ds : List Val} : wR (mMake c m ds mA s h) E Q = wR (mA s h) E fun xs h1 => wR (m (.ref h1.length :: (xs ++ ds)) (h1 ++ [.ins c []])) E fun x h2 => (match x with | .non => Q (.ref h1.length) h2 | _ => False) := by
  unfold mMake; simp only [wR_bind]; congr; funext x h1; congr; funext y h2; split <;> simp_all
@[simp ↓] theorem wR_mSl {p q : En → Heap → Res (Option Int)} : wR (mSl ma p q s h) E Q = wR (ma s h) E fun x h1 => wR (p s h1) E fun lo h2 => wR (q s h2) E fun hi h3 => wR (oSl x lo hi h3) E Q := by unfold mSl; simp
@[simp ↓] theorem wR_pNo {QO : Option Int → Heap → Prop} : wR (pNo s h) E QO = QO none h := rfl
@[simp ↓] theorem wR_pSo {QO : Option Int → Heap → Prop} : wR (pSo ma s h) E QO = wR (ma s h) E fun x h1 => (match x with | .int i => QO (some i) h1 | _ => False) := by
  unfold pSo; simp only [wR_bind]; congr; funext x h1; split <;> simp_all
@[simp ↓] theorem wR_mIsi {T : Ty} : wR (mIsi T ma s h) E Q = wR (ma s h) E fun x h1 => (match isTy T (tyOf x h1) with | some c => Q (.bl c) h1 | none => False) := by
  unfold mIsi; simp only [wR_bind]; congr; funext x h1; split <;> simp_all
@[simp ↓] theorem wR_mBM {f : Val → List Val → Heap → Res Val} : wR (mBM f mo mA s h) E Q = wR (mo s h) E fun x h1 => (seqOf x h1).isSome = true ∧ wR (mA s h1) E fun xs h2 => wR (f x xs h2) E Q := by
  unfold mBM; simp only [wR_bind]; congr; funext x h1; split <;> simp_all
@[simp ↓] theorem wR_mBM0 {f : Val → List Val → Heap → Res Val} : wR (mBM0 f mo s h) E Q = wR (mo s h) E fun x h1 => (seqOf x h1).isSome = true ∧ wR (f x [] h1) E Q := by
  unfold mBM0; simp only [wR_bind]; congr; funext x h1; split <;> simp_all
@[simp ↓] theorem wS_sNx : wS (sNx s h) D = D.nx s h := rfl
@[simp ↓] theorem wS_sBk : wS (sBk s h) D = D.bk s h := rfl
@[simp ↓] theorem wS_sCt : wS (sCt s h) D = D.ct s h := rfl
@[simp ↓] theorem wS_sSeq : wS (sSeq a b s h) D = wS (a s h) { D with nx := fun s h => wS (b s h) D } := by unfold sSeq; simp
@[simp ↓] theorem wS_sDrop : wS (sDrop ma s h) D = wR (ma s h) D.ex fun _ h1 => D.nx s h1 := by unfold sDrop; simp
@[simp ↓] theorem wS_sRet : wS (sRet ma s h) D = wR (ma s h) D.ex fun x h1 => D.rt x h1 := by unfold sRet; simp
@[simp ↓] theorem wS_sRetN : wS (sRetN s h) D = D.rt .non h := rfl
@[simp ↓] theorem wS_sIf : wS (sIf tu a b s h) D = wR (tu s h) D.ex fun c h1 => if c = true then wS (a s h1) D else wS (b s h1) D := by unfold sIf; simp
@[simp ↓] theorem wS_sAsg {g : Val → En → Option En} : wS (sAsg g ma s h) D = wR (ma s h) D.ex fun x h1 => (match g x s with | some s1 => D.nx s1 h1 | none => False) := by
  unfold sAsg; simp only [wS_thenS]; congr; funext x h1; split <;> simp_all
@[simp ↓] theorem wS_sSub : wS (sSub mo mi me s h) D = wR (me s h) D.ex fun x h1 => wR (mo s h1) D.ex fun o h2 => wR (mi s h2) D.ex fun i h3 => wR (oSet o i x h3) D.ex fun _ h4 => D.nx s h4 := by unfold sSub; simp
@[simp ↓] theorem wS_sSubA {f : Val → Val → Heap → Res Val} : wS (sSubA f mo mi me s h) D = wR (mo s h) D.ex fun o h1 => wR (mi s h1) D.ex fun i h2 => wR (oIxM o i h2) D.ex fun x h3 => wR (me s h3) D.ex fun y h4 => wR (f x y h4) D.ex fun z h5 => wR (oSet o i z h5) D.ex fun _ h6 => D.nx s h6 := by unfold sSubA; simp
@[simp ↓] theorem wS_sFld {d f : Nat} : wS (sFld d f mo me s h) D = wR (me s h) D.ex fun x h1 => wR (mo s h1) D.ex fun o h2 => wR (oSetF d f o x h2) D.ex fun _ h3 => D.nx s h3 := by unfold sFld; simp
@[simp ↓] theorem wS_sFldA {d f : Nat} {g : Val → Val → Heap → Res Val} : wS (sFldA d f g mo me s h) D = wR (mo s h) D.ex fun o h1 => isIns d o h1 = true ∧ wR (getF f o h1) D.ex fun x h2 => wR (me s h2) D.ex fun y h3 => wR (g x y h3) D.ex fun z h4 => wR (oSetF d f o z h4) D.ex fun _ h5 => D.nx s h5 := by
  unfold sFldA; simp only [wS_thenS, wR_ite]; congr; funext x h1; split <;> simp_all
@[simp ↓] theorem wS_sAug {i : Nat} {g : Val → Val → Heap → Res Val} : wS (sAug i g me s h) D = (match s[i]? with | some (some x) => wR (me s h) D.ex fun y h1 => wR (g x y h1) D.ex fun z h2 => D.nx (s.set i (some z)) h2 | _ => False) := by
  unfold sAug; split <;> simp_all
@[simp ↓] theorem wS_sRaise {c : Nat} : wS (sRaise c s h) D = D.ex c h := rfl
@[simp ↓] theorem wS_sTry {c : Nat} : wS (sTry c a b s h) D = wS (a s h) { D with ex := fun c' h' => c' = c ∧ wS (b s h') D } := by
  unfold sTry; cases e : a s h <;> (simp <;> (split <;> simp_all))
@[simp ↓] theorem wS_sFor {mi : MI} {g : Val → En → Option En} : wS (sFor mi g a s h) D = wR (mi s h) D.ex fun S h1 => wS (forM_ S.chk g a S.items s h1) D := by unfold sFor; simp
@[simp ↓] theorem wR_iRng1 {QS : Src → Heap → Prop} : wR (iRng1 mA s h) E QS = wR (mA s h) E fun xs h1 => (match xs with | [.int j] => (-(2 ^ 62) ≤ j ∧ j < 2 ^ 62) ∧ QS ⟨rangeV 0 j.toNat, fun _ => true⟩ h1 | _ => False) := by
  unfold iRng1; simp only [wR_bind]; congr; funext x h1; split <;> (simp <;> (split <;> simp_all))
@[simp ↓] theorem wR_iRng2 {QS : Src → Heap → Prop} : wR (iRng2 mA s h) E QS = wR (mA s h) E fun xs h1 => (match xs with | [.int i, .int j] => (-(2 ^ 62) ≤ i ∧ i < 2 ^ 62 ∧ -(2 ^ 62) ≤ j ∧ j < 2 ^ 62) ∧ QS ⟨rangeV i (j - i).toNat, fun _ => true⟩ h1 | _ => False) := by
  unfold iRng2; simp only [wR_bind]; congr; funext x h1; split <;> (simp <;> (split <;> simp_all))
end
theorem ite_and' {c A : Prop} [Decidable c] : (if c then A else False) = (c ∧ A) := by
  by_cases h : c <;> simp [h]
/-! operations by values -/
section
variable {E : Nat → Heap → Prop} {Q : Val → Heap → Prop} {QU : Unit → Heap → Prop} {h : Heap} {a : Nat} {x y : Val} {xs ys : List Val} {i j : Int} {b c : Bool}
@[simp ↓] theorem wR_oI {g : Int → Int → Val} : wR (oI g (.int i) (.int j) h) E Q = Q (g i j) h := rfl
@[simp ↓] theorem wR_oIC {p : Int → Int → Bool} {g : Int → Int → Val} : wR (oIC p g (.int i) (.int j) h) E Q = (p i j = true ∧ Q (g i j) h) := by
  unfold oIC; simp only; split <;> simp_all
@[simp ↓] theorem wR_oAdd : wR (oAdd (.int i) (.int j) h) E Q = Q (.int (i + j)) h := rfl
@[simp ↓] theorem wR_oAddT : wR (oAdd (.tup xs) (.tup ys) h) E Q = (xs.length + ys.length ≤ lim ∧ Q (.tup (xs ++ ys)) h) := by
  unfold oAdd; simp only [wR_ite, wR_ok, wR_stuck, ite_and']
@[simp ↓] theorem wR_oMul : wR (oMul (.int i) (.int j) h) E Q = ((-(2 ^ 64) < j ∧ j < 2 ^ 64 ∨ -(2 ^ 64) < i ∧ i < 2 ^ 64) ∧ Q (.int (i * j)) h) := by
  unfold oMul; simp only [wR_ite, wR_ok, wR_stuck, ite_and']
@[simp ↓] theorem wR_oMulT : wR (oMul (.tup xs) (.int i) h) E Q = ((xs.length ≠ 0 ∧ 2 ≤ i ∧ i ≤ 1000 ∧ xs.length ≤ 1000) ∧ Q (.tup (repV i.toNat xs)) h) := by
  unfold oMul; simp only [wR_ite, wR_ok, wR_stuck, ite_and']
@[simp ↓] theorem wR_oMulL : wR (oMul (.ref a) (.int i) h) E Q = (match h[a]? with | some (.lst xs) => (i ≤ 100000 ∧ -100000 ≤ i ∧ xs.length * i.toNat ≤ lim) ∧ Q (.ref h.length) (h ++ [.lst (repV i.toNat xs)]) | _ => False) := by
  unfold oMul; simp only; split
  · simp only [wR_ite, wR_ok, wR_stuck, ite_and']
    all_goals simp_all
  · simp_all
@[simp ↓] theorem wR_oNeg : wR (oNeg (.int i) h) E Q = Q (.int (-i)) h := rfl
@[simp ↓] theorem wR_oIsN {neg : Bool} : wR (oIsN neg x h) E Q = Q (.bl (match x with | .non => !neg | _ => neg)) h := rfl
@[simp ↓] theorem wR_oEqI {neg : Bool} : wR (oEq neg (.int i) (.int j) h) E Q = Q (.bl (if neg then !(i == j) else i == j)) h := rfl
@[simp ↓] theorem wR_oEqB {neg : Bool} : wR (oEq neg (.bl b) (.bl c) h) E Q = Q (.bl (if neg then !(b == c) else b == c)) h := rfl
@[simp ↓] theorem wR_oEqS {neg : Bool} {m n : Nat} : wR (oEq neg (.str m) (.str n) h) E Q = Q (.bl (if neg then !(m == n) else m == n)) h := rfl
@[simp ↓] theorem wR_oIsB {neg : Bool} : wR (oIsB neg (.bl b) (.bl c) h) E Q = Q (.bl (if neg then !decide (b = c) else decide (b = c))) h := rfl
@[simp ↓] theorem wR_oIxT : wR (oIx (.tup xs) (.int i) h) E Q = (match L2.atI xs i with | some v => Q v h | none => False) := by
  unfold oIx; simp only; split <;> simp_all
@[simp ↓] theorem wR_oIxL : wR (oIx (.ref a) (.int i) h) E Q = (match h[a]? with
    | some (.lst xs) => (match L2.atI xs i with | some v => Q v h | none => False)
    | some (.fls xs) => (match L2.atI xs i with | some v => Q v h | none => False)
    | some (.dct d) => (match lookV d (.int i) with | some v => Q v h | none => False)
    | _ => False) := by
  unfold oIx; simp only [isKey]; split
  · split <;> simp_all
  · split <;> simp_all
  · simp only [if_true]
    split <;> simp_all
  · simp_all
@[simp ↓] theorem wR_oIxM : wR (oIxM (.ref a) y h) E Q = wR (oIx (.ref a) y h) E Q := rfl
@[simp ↓] theorem wR_oSetI : wR (oSet (.ref a) (.int i) x h) E QU = (match h[a]? with
    | some (.lst xs) => (match L2.ixN xs.length i with | some j => QU () (h.set a (.lst (xs.set j x))) | none => False)
    | some (.dct d) => d.length < lim ∧ QU () (h.set a (.dct (putV d (.int i) x)))
    | _ => False) := by
  unfold oSet; simp only [isKey]; split
  · split <;> simp_all
  · simp only [wR_ite, wR_ok, wR_stuck, ite_and']
    all_goals simp_all
  · simp_all
@[simp ↓] theorem wR_getF {f : Nat} : wR (getF f (.ref a) h) E Q = (match h[a]? with | some (.ins _ fs) => (match lookF f fs with | some v => Q v h | none => False) | _ => False) := by
  unfold getF; simp only; split
  · split <;> simp_all
  · simp_all
@[simp ↓] theorem wR_oSetF {d f : Nat} : wR (oSetF d f (.ref a) x h) E QU = (match h[a]? with | some (.ins c fs) => (c = d ∧ fs.length < 1000) ∧ QU () (h.set a (.ins c (setF f x fs))) | _ => False) := by
  unfold oSetF; simp only; split
  · simp only [wR_ite, wR_ok, wR_stuck, ite_and']
    all_goals simp_all
  · simp_all
@[simp ↓] theorem wR_bInt : wR (bInt [.int i] h) E Q = Q (.int i) h := rfl
@[simp ↓] theorem wR_bIntB : wR (bInt [.bl b] h) E Q = Q (.int (if b then 1 else 0)) h := rfl
@[simp ↓] theorem wR_bAbs : wR (bAbs [.int i] h) E Q = Q (.int (if i < 0 then -i else i)) h := rfl
@[simp ↓] theorem wR_bLenT : wR (bLen [.tup xs] h) E Q = Q (.int xs.length) h := rfl
@[simp ↓] theorem wR_bLenL : wR (bLen [.ref a] h) E Q = (match h[a]? with | some (.lst xs) => Q (.int xs.length) h | some (.fls xs) => Q (.int xs.length) h | some (.dct d) => Q (.int d.length) h | _ => False) := by
  unfold bLen; simp only; split <;> simp_all
@[simp ↓] theorem wR_bListT : wR (bList [.tup xs] h) E Q = Q (.ref h.length) (h ++ [.lst xs]) := rfl
@[simp ↓] theorem wR_bListL : wR (bList [.ref a] h) E Q = (match h[a]? with | some (.lst xs) => Q (.ref h.length) (h ++ [.lst xs]) | some (.fls xs) => Q (.ref h.length) (h ++ [.lst xs]) | _ => False) := by
  unfold bList; simp only; split <;> simp_all
@[simp ↓] theorem wR_bTupleT : wR (bTuple [.tup xs] h) E Q = Q (.tup xs) h := rfl
@[simp ↓] theorem wR_bTupleL : wR (bTuple [.ref a] h) E Q = (match h[a]? with | some (.lst xs) => Q (.tup xs) h | some (.fls xs) => Q (.tup xs) h | _ => False) := by
  unfold bTuple; simp only; split <;> simp_all
@[simp ↓] theorem wR_bAppend : wR (bAppend (.ref a) [y] h) E Q = (match h[a]? with | some (.lst xs) => xs.length < lim ∧ Q .non (h.set a (.lst (xs ++ [y]))) | _ => False) := by
  unfold bAppend; simp only; split
  · simp only [wR_ite, wR_ok, wR_stuck, ite_and']
    all_goals simp_all
  · simp_all
end
theorem ixN_cast (n k : Nat) : L2.ixN n (k : Int) = if k < n then some k else none := by
  unfold L2.ixN
  rw [if_pos (by omega)]
  by_cases h : k < n
  · rw [if_pos (by omega), if_pos h]
    simp
  · rw [if_neg (by omega), if_neg h]
theorem atI_cast {α : Type} (xs : List α) (k : Nat) : L2.atI xs (k : Int) = xs[k]? := by
  unfold L2.atI
  rw [ixN_cast]
  split
  · rfl
  · rw [List.getElem?_eq_none (by omega)]
    rfl
theorem atI_nn {α : Type} {xs : List α} {i : Int} (h : 0 ≤ i) : L2.atI xs i = xs[i.toNat]? := by
  obtain ⟨k, rfl⟩ := Int.eq_ofNat_of_zero_le h
  exact atI_cast xs k
theorem ixN_nn {n : Nat} {i : Int} (h : 0 ≤ i) : L2.ixN n i = if i.toNat < n then some i.toNat else none := by
  obtain ⟨k, rfl⟩ := Int.eq_ofNat_of_zero_le h
  exact ixN_cast n k
@[simp] theorem atI_0 {α : Type} (xs : List α) : L2.atI xs 0 = xs[0]? := atI_cast xs 0
@[simp] theorem ixN_0 (n : Nat) : L2.ixN n 0 = if 0 < n then some 0 else none := ixN_cast n 0
@[simp] theorem atI_1 {α : Type} (xs : List α) : L2.atI xs 1 = xs[1]? := atI_cast xs 1
@[simp] theorem ixN_1 (n : Nat) : L2.ixN n 1 = if 1 < n then some 1 else none := ixN_cast n 1
@[simp] theorem atI_2 {α : Type} (xs : List α) : L2.atI xs 2 = xs[2]? := atI_cast xs 2
@[simp] theorem ixN_2 (n : Nat) : L2.ixN n 2 = if 2 < n then some 2 else none := ixN_cast n 2
@[simp] theorem atI_3 {α : Type} (xs : List α) : L2.atI xs 3 = xs[3]? := atI_cast xs 3
@[simp] theorem ixN_3 (n : Nat) : L2.ixN n 3 = if 3 < n then some 3 else none := ixN_cast n 3
@[simp] theorem atI_4 {α : Type} (xs : List α) : L2.atI xs 4 = xs[4]? := atI_cast xs 4
@[simp] theorem ixN_4 (n : Nat) : L2.ixN n 4 = if 4 < n then some 4 else none := ixN_cast n 4
@[simp] theorem atI_5 {α : Type} (xs : List α) : L2.atI xs 5 = xs[5]? := atI_cast xs 5
@[simp] theorem ixN_5 (n : Nat) : L2.ixN n 5 = if 5 < n then some 5 else none := ixN_cast n 5
@[simp] theorem atI_6 {α : Type} (xs : List α) : L2.atI xs 6 = xs[6]? := atI_cast xs 6
@[simp] theorem ixN_6 (n : Nat) : L2.ixN n 6 = if 6 < n then some 6 else none := ixN_cast n 6
@[simp] theorem atI_7 {α : Type} (xs : List α) : L2.atI xs 7 = xs[7]? := atI_cast xs 7
@[simp] theorem ixN_7 (n : Nat) : L2.ixN n 7 = if 7 < n then some 7 else none := ixN_cast n 7
@[simp] theorem atI_8 {α : Type} (xs : List α) : L2.atI xs 8 = xs[8]? := atI_cast xs 8
@[simp] theorem ixN_8 (n : Nat) : L2.ixN n 8 = if 8 < n then some 8 else none := ixN_cast n 8
@[simp] theorem atI_9 {α : Type} (xs : List α) : L2.atI xs 9 = xs[9]? := atI_cast xs 9
@[simp] theorem ixN_9 (n : Nat) : L2.ixN n 9 = if 9 < n then some 9 else none := ixN_cast n 9
/-- what stands at a place -/
theorem at_set {h : Heap} {p : Nat} {o o0 : Obj} (e : h[p]? = some o0) : (h.set p o)[p]? = some o := by
  rw [List.getElem?_set_self (List.getElem?_eq_some_iff.mp e).1]
theorem at_set_ne {h : Heap} {p q : Nat} {o : Obj} (e : p ≠ q) : (h.set p o)[q]? = h[q]? := List.getElem?_set_ne e
theorem at_push {h g : Heap} {p : Nat} {o0 : Obj} (e : h[p]? = some o0) : (h ++ g)[p]? = some o0 := by
  rw [List.getElem?_append_left (List.getElem?_eq_some_iff.mp e).1]
  exact e
/-- a body's run -/
theorem wR_runB {np nl : Nat} {mb : En → Heap → RS} {xs : List Val} {h : Heap} {E : Nat → Heap → Prop} {Q : Val → Heap → Prop} (hl : xs.length = np) :
    wR (runB np nl mb xs h) E Q = wS (mb (xs.map some ++ List.replicate (nl - np) none) h) { nx := fun _ h' => Q .non h', rt := Q, ex := E } := by
  unfold runB
  rw [if_pos hl]
  cases mb (xs.map some ++ List.replicate (nl - np) none) h <;> simp
/-- from the wish to the equation -/
theorem eq_of_wR {α : Type} {x : Res α} {a : α} {h : Heap} (w : wR x (fun _ _ => False) fun b h' => b = a ∧ h' = h) : x = .ok a h := by
  cases x with
  | ok b h' => obtain ⟨rfl, rfl⟩ := w; rfl
  | raised c h' => exact w.elim
  | stuck => exact w.elim
theorem ex_of_wR {α : Type} {x : Res α} {Q : α → Heap → Prop} (w : wR x (fun _ _ => False) Q) : ∃ a h, x = .ok a h ∧ Q a h := by
  cases x with
  | ok b h' => exact ⟨b, h', rfl, w⟩
  | raised c h' => exact w.elim
  | stuck => exact w.elim
/-- a loop by its invariant -/
theorem wS_forM {chk : Heap → Bool} {g : Val → En → Option En} {body : En → Heap → RS} {D : K4} (Inv : Nat → En → Heap → Prop) : ∀ (xs : List Val) (n : Nat) (s : En) (h : Heap), Inv n s h →
    (∀ i x s h, n ≤ i → xs[i - n]? = some x → Inv i s h → chk h = true ∧ ∃ s1, g x s = some s1 ∧ wS (body s1 h) { D with nx := Inv (i + 1), ct := Inv (i + 1), bk := D.nx }) →
    (∀ s h, Inv (n + xs.length) s h → chk h = true ∧ D.nx s h) → wS (forM_ chk g body xs s h) D
  | [], n, s, h, h0, _, hd => by
    unfold forM_
    obtain ⟨c, q⟩ := hd s h h0
    simp [c, q]
  | x :: xs, n, s, h, h0, hs, hd => by
    unfold forM_
    obtain ⟨c, s1, e, w⟩ := hs n x s h (Nat.le_refl _) (by simp) h0
    rw [if_pos c, e]
    have ih := fun s2 h2 q => wS_forM (D := D) Inv xs (n + 1) s2 h2 q (fun i x s h hi hx => hs i x s h (by omega) (by
      have : i - n = (i - (n + 1)) + 1 := by omega
      rw [this]
      simpa using hx)) (fun s h q => hd s h (by
        have : n + (x :: xs).length = n + 1 + xs.length := by simp; omega
        rw [this]
        exact q))
    simp only
    cases eb : body s1 h with
    | nx s2 h2 => rw [eb] at w; exact ih s2 h2 w
    | ct s2 h2 => rw [eb] at w; exact ih s2 h2 w
    | bk s2 h2 => rw [eb] at w; exact w
    | rt v h2 => rw [eb] at w; exact w
    | raised c h2 => rw [eb] at w; exact w
    | stuck => rw [eb] at w; exact w
end PyM
namespace PyM
theorem wRB {np nl : Nat} {mb : En → Heap → RS} {xs : List Val} {h : Heap} {E : Nat → Heap → Prop} {Q : Val → Heap → Prop} (hl : xs.length = np)
    (w : wS (mb (xs.map some ++ List.replicate (nl - np) none) h) { nx := fun _ h' => Q .non h', rt := Q, ex := E }) : wR (runB np nl mb xs h) E Q := by
  rw [wR_runB hl]
  exact w
end PyM
namespace PyM
theorem wS_forM_nil {chk : Heap → Bool} {g : Val → En → Option En} {body : En → Heap → RS} {D : K4} {s : En} {h : Heap} : wS (forM_ chk g body [] s h) D = (chk h = true ∧ D.nx s h) := by
  unfold forM_
  by_cases c : chk h = true <;> simp [c]
theorem wS_forM_cons {chk : Heap → Bool} {g : Val → En → Option En} {body : En → Heap → RS} {D : K4} {s : En} {h : Heap} {x : Val} {xs : List Val} :
    wS (forM_ chk g body (x :: xs) s h) D = (chk h = true ∧ match g x s with
      | some s1 => wS (body s1 h) { D with nx := fun s2 h2 => wS (forM_ chk g body xs s2 h2) D, ct := fun s2 h2 => wS (forM_ chk g body xs s2 h2) D, bk := D.nx }
      | none => False) := by
  rw [forM_]
  by_cases c : chk h = true
  · rw [if_pos c]
    cases e : g x s with
    | none => simp
    | some s1 =>
      simp only [c, true_and]
      cases body s1 h <;> rfl
  · simp [c]
theorem eq_nx {x : RS} {s : En} {h : Heap} (w : wS x { nx := fun s' h' => s' = s ∧ h' = h, rt := fun _ _ => False }) : x = .nx s h := by
  cases x with
  | nx a b => obtain ⟨rfl, rfl⟩ := w; rfl
  | _ => exact w.elim
theorem eq_rt {x : RS} {v : Val} {h : Heap} (w : wS x { nx := fun _ _ => False, rt := fun s' h' => s' = v ∧ h' = h }) : x = .rt v h := by
  cases x with
  | rt a b => obtain ⟨rfl, rfl⟩ := w; rfl
  | _ => exact w.elim
theorem wS_of {x y : RS} {D : K4} (e : x = y) (w : wS y D) : wS x D := by rw [e]; exact w
theorem set_set {h : Heap} {p : Nat} {a b : Obj} : (h.set p a).set p b = h.set p b := List.set_set ..
end PyM
namespace PyM
/-! ### comprehensions -/
theorem wR_lcM {chk : Heap → Bool} {tg : Val → En → Option En} {mt : En → Heap → Res Bool} {me : En → Heap → Res Val} {s0 : En} {n : Nat} {E : Nat → Heap → Prop} {QU : Unit → Heap → Prop} (Inv : Nat → List Val → Heap → Prop) : ∀ (xs : List Val) (k : Nat) (acc : List Val) (h : Heap), Inv k acc h →
    (∀ i x acc h, k ≤ i → xs[i - k]? = some x → Inv i acc h → chk h = true ∧ ∃ s2, tg x s0 = some s2 ∧ wR (mt s2 h) (fun _ _ => False) fun b h1 => if b = true then wR (me s2 h1) (fun _ _ => False) fun y h2 => h2[n]? = some (.lst acc) ∧ acc.length < lim ∧ Inv (i + 1) (acc ++ [y]) (h2.set n (.lst (acc ++ [y]))) else Inv (i + 1) acc h1) →
    (∀ acc h, Inv (k + xs.length) acc h → chk h = true ∧ QU () h) → wR (lcM chk tg mt me s0 n xs h) E QU
  | [], k, acc, h, h0, _, hd => by
    unfold lcM
    obtain ⟨c, q⟩ := hd acc h h0
    simp [c, q]
  | x :: xs, k, acc, h, h0, hs, hd => by
    rw [lcM]
    obtain ⟨c, s2, e, w⟩ := hs k x acc h (Nat.le_refl _) (by simp) h0
    have ih := fun acc h q => wR_lcM (E := E) (QU := QU) Inv xs (k + 1) acc h q (fun i x acc h hi hx => hs i x acc h (by omega) (by
      have : i - k = (i - (k + 1)) + 1 := by omega
      rw [this]
      simpa using hx)) (fun acc h q => hd acc h (by
        have : k + (x :: xs).length = k + 1 + xs.length := by simp; omega
        rw [this]
        exact q))
    rw [if_pos c, e]
    simp only
    cases em : mt s2 h with
    | ok b h1 =>
      rw [em] at w
      simp only [wR_ok] at w
      by_cases hb : b = true
      · subst hb
        rw [if_pos rfl] at w
        simp only [if_true]
        cases ee : me s2 h1 with
        | ok y h2 =>
          rw [ee] at w
          simp only [wR_ok] at w
          obtain ⟨w1, w2, w3⟩ := w
          simp only [w1, w2, if_true]
          exact ih _ _ w3
        | raised a b => rw [ee] at w; exact w.elim
        | stuck => rw [ee] at w; exact w.elim
      · rw [if_neg hb] at w
        simp only [if_neg hb]
        exact ih _ _ w
    | raised a b => rw [em] at w; exact w.elim
    | stuck => rw [em] at w; exact w.elim
@[simp ↓] theorem wR_mLc {mi : MI} {tg : Val → En → Option En} {mt : En → Heap → Res Bool} {me : En → Heap → Res Val} {vs : List Nat} {s : En} {h : Heap} {E : Nat → Heap → Prop} {Q : Val → Heap → Prop} :
    wR (mLc mi tg mt me vs s h) E Q = wR (mi s h) E fun S h1 => wR (lcM S.chk tg mt me (wipeE s vs) h1.length S.items (h1 ++ [.lst []])) E fun _ h2 => Q (.ref h1.length) h2 := by
  unfold mLc
  simp
theorem at_len {h : Heap} {o : Obj} : (h ++ [o])[h.length]? = some o := by simp
theorem set_len {h : Heap} {o o' : Obj} : (h ++ [o]).set h.length o' = h ++ [o'] := by simp
/-- .. where the items leave the heap as it is -/
theorem wR_lcPure {chk : Heap → Bool} {tg : Val → En → Option En} {mt : En → Heap → Res Bool} {me : En → Heap → Res Val} {s0 : En} {E : Nat → Heap → Prop} {QU : Unit → Heap → Prop} {h : Heap} (p : Val → Bool) (f : Val → Val) {xs : List Val} (hl : xs.length < lim)
    (hc : ∀ acc, chk (h ++ [.lst acc]) = true)
    (ht : ∀ x acc, x ∈ xs → ∃ s2, tg x s0 = some s2 ∧ wR (mt s2 (h ++ [.lst acc])) (fun _ _ => False) (fun b h1 => b = p x ∧ h1 = h ++ [.lst acc]) ∧ (p x = true → wR (me s2 (h ++ [.lst acc])) (fun _ _ => False) fun y h2 => y = f x ∧ h2 = h ++ [.lst acc]))
    (q : QU () (h ++ [.lst ((xs.filter p).map f)])) : wR (lcM chk tg mt me s0 h.length xs (h ++ [.lst []])) E QU := by
  refine wR_lcM (fun i acc h' => i ≤ xs.length ∧ acc = ((xs.take i).filter p).map f ∧ h' = h ++ [.lst acc]) xs 0 [] _ ⟨Nat.zero_le _, rfl, rfl⟩ ?_ ?_
  · rintro i x acc h' _ hx ⟨hi, ea, rfl⟩
    simp only [Nat.sub_zero] at hx
    have hlt : i < xs.length := (List.getElem?_eq_some_iff.mp hx).1
    obtain ⟨s2, e, w1, w2⟩ := ht x acc (List.mem_of_getElem? hx)
    refine ⟨hc acc, s2, e, wR_mono w1 ?_⟩
    rintro b h1 ⟨rfl, rfl⟩
    have tk : xs.take (i + 1) = xs.take i ++ [x] := by
      rw [List.take_add_one, hx]
      rfl
    have al : acc.length < lim := by
      rw [ea, List.length_map]
      have := List.length_filter_le p (xs.take i)
      have := List.length_take_le i xs
      omega
    by_cases hp : p x = true
    · rw [if_pos hp]
      refine wR_mono (w2 hp) ?_
      rintro y h2 ⟨rfl, rfl⟩
      refine ⟨at_len, al, hlt, ?_, set_len⟩
      rw [tk, List.filter_append, List.map_append, ← ea]
      simp [hp]
    · rw [if_neg hp]
      refine ⟨hlt, ?_, rfl⟩
      rw [tk, List.filter_append, List.map_append, ← ea]
      simp [hp]
  · rintro acc h' ⟨_, ea, rfl⟩
    refine ⟨hc _, ?_⟩
    rw [ea]
    simpa using q
@[simp ↓] theorem wR_iLst {m : En → Heap → Res Val} {s : En} {h : Heap} {E : Nat → Heap → Prop} {Q : Src → Heap → Prop} : wR (iLst m s h) E Q = wR (m s h) E fun x h1 => (match x with
    | .ref a => (match h1[a]? with | some (.lst xs) => Q ⟨xs, lstIs a xs⟩ h1 | some (.fls xs) => Q ⟨xs, lstIs a xs⟩ h1 | _ => False)
    | _ => False) := by
  unfold iLst
  simp only [wR_bind]
  congr; funext x h1
  split
  · split <;> simp_all
  · simp_all
theorem wR_iAlt {m n : MI} {s : En} {h : Heap} {E : Nat → Heap → Prop} {Q : Src → Heap → Prop} (w : wR (m s h) E Q ∨ (m s h = .stuck ∧ wR (n s h) E Q)) : wR (iAlt m n s h) E Q := by
  unfold iAlt
  rcases w with w | ⟨e, w⟩
  · cases e : m s h with
    | stuck => rw [e] at w; exact w.elim
    | ok a b => rw [e] at w; exact w
    | raised a b => rw [e] at w; exact w
  · rw [e]; exact w
/-- a walked name that holds a list -/
@[simp ↓] theorem wR_iAltV {i : Nat} {s : En} {h : Heap} {E : Nat → Heap → Prop} {Q : Src → Heap → Prop} : wR (iAlt (iLst (mV i)) (iTup_ (mV i)) s h) E Q = (match s[i]? with
    | some (some (.ref a)) => (match h[a]? with | some (.lst xs) => Q ⟨xs, lstIs a xs⟩ h | some (.fls xs) => Q ⟨xs, lstIs a xs⟩ h | _ => False)
    | some (some (.tup xs)) => Q ⟨xs, fun _ => true⟩ h
    | _ => False) := by
  unfold iAlt iLst iTup_ mV
  cases e : s[i]? with
  | none => simp [Res.bind]
  | some o => cases o with
    | none => simp [Res.bind]
    | some x => cases x with
      | ref a =>
        simp only [Res.bind]
        cases e2 : h[a]? with
        | none => simp
        | some o => cases o <;> simp
      | _ => simp [Res.bind]
theorem lstIs_at {a : Nat} {xs : List Val} {h : Heap} (e : h[a]? = some (.lst xs)) : lstIs a xs h = true := by simp [lstIs, e]
@[simp ↓] theorem wR_bAll {a : Nat} {h : Heap} {E : Nat → Heap → Prop} {Q : Val → Heap → Prop} : wR (bAll [.ref a] h) E Q = (match seqOf (.ref a) h with | some ys => (match optAll asBl ys with | some bs => Q (.bl (bs.all id)) h | none => False) | none => False) := by
  first | unfold bAll bSeq | unfold bAny bSeq | unfold bSum bSeq
  simp only
  split
  · split <;> simp_all
  · simp_all
@[simp ↓] theorem wR_bAny {a : Nat} {h : Heap} {E : Nat → Heap → Prop} {Q : Val → Heap → Prop} : wR (bAny [.ref a] h) E Q = (match seqOf (.ref a) h with | some ys => (match optAll asBl ys with | some bs => Q (.bl (bs.any id)) h | none => False) | none => False) := by
  first | unfold bAll bSeq | unfold bAny bSeq | unfold bSum bSeq
  simp only
  split
  · split <;> simp_all
  · simp_all
@[simp ↓] theorem wR_bSum {a : Nat} {h : Heap} {E : Nat → Heap → Prop} {Q : Val → Heap → Prop} : wR (bSum [.ref a] h) E Q = (match seqOf (.ref a) h with | some ys => (match optAll asInt ys with | some bs => Q (.int bs.sum) h | none => False) | none => False) := by
  first | unfold bAll bSeq | unfold bAny bSeq | unfold bSum bSeq
  simp only
  split
  · split <;> simp_all
  · simp_all
theorem optAll_map {α β γ : Type} {f : β → Option γ} {g : α → β} {k : α → γ} (h : ∀ x, f (g x) = some (k x)) : ∀ xs : List α, optAll f (xs.map g) = some (xs.map k)
  | [] => rfl
  | x :: xs => by simp [optAll, h, optAll_map h xs]
theorem seqOf_at {a : Nat} {xs : List Val} {h : Heap} (e : h[a]? = some (.lst xs)) : seqOf (.ref a) h = some xs := by simp [seqOf, e]
end PyM
namespace PyM
theorem wR_lcMap {chk : Heap → Bool} {tg : Val → En → Option En} {me : En → Heap → Res Val} {s0 : En} {E : Nat → Heap → Prop} {QU : Unit → Heap → Prop} {h : Heap} (f : Val → Val) {xs : List Val} (hl : xs.length < lim)
    (hc : ∀ acc, chk (h ++ [.lst acc]) = true)
    (ht : ∀ x acc, x ∈ xs → ∃ s2, tg x s0 = some s2 ∧ wR (me s2 (h ++ [.lst acc])) (fun _ _ => False) fun y h2 => y = f x ∧ h2 = h ++ [.lst acc])
    (q : QU () (h ++ [.lst (xs.map f)])) : wR (lcM chk tg tTrue me s0 h.length xs (h ++ [.lst []])) E QU := by
  refine wR_lcPure (fun _ => true) f hl hc (fun x acc hx => ?_) ?_
  · obtain ⟨s2, e, w⟩ := ht x acc hx
    exact ⟨s2, e, ⟨rfl, rfl⟩, fun _ => w⟩
  · have : xs.filter (fun _ => true) = xs := List.filter_eq_self.mpr (fun _ _ => rfl)
    rw [this]
    exact q
end PyM
namespace PyM
section
variable {E : Nat → Heap → Prop} {Q : Val → Heap → Prop} {h : Heap} {a b : Nat} {lo hi : Option Int} {xs : List Val} {y : Val}
@[simp ↓] theorem wR_oAddL : wR (oAdd (.ref a) (.ref b) h) E Q = (match h[a]?, h[b]? with | some (.lst xs), some (.lst ys) => xs.length + ys.length ≤ lim ∧ Q (.ref h.length) (h ++ [.lst (xs ++ ys)]) | _, _ => False) := by
  unfold oAdd; simp only; split
  · simp only [wR_ite, wR_ok, wR_stuck, ite_and']
    all_goals simp_all
  · simp_all
@[simp ↓] theorem wR_oSlT : wR (oSl (.tup xs) lo hi h) E Q = Q (.tup (cut xs lo hi)) h := rfl
@[simp ↓] theorem wR_oSlL : wR (oSl (.ref a) lo hi h) E Q = (match h[a]? with | some (.lst xs) => Q (.ref h.length) (h ++ [.lst (cut xs lo hi)]) | some (.fls xs) => Q (.ref h.length) (h ++ [.lst (cut xs lo hi)]) | _ => False) := by
  unfold oSl; simp only; split <;> simp_all
@[simp ↓] theorem wR_bCount : wR (bCount (.ref a) [y] h) E Q = (match h[a]? with | some (.lst ys) => (isFlat y = true ∧ ys.all isFlat = true) ∧ Q (.int ((ys.countP fun z => feq z y : Nat) : Int)) h | _ => False) := by
  unfold bCount; simp only; split
  · simp only [wR_ite, wR_ok, wR_stuck, ite_and']
    all_goals simp_all
  · simp_all
end
open PySem L2 in
theorem cut_from {k : Nat} (xs : List Val) : cut xs (some (k : Int)) none = xs.drop k := by
  unfold cut
  rw [HT.sIx_none, HT.sIx_nat]
  by_cases h : k ≤ xs.length
  · rw [Nat.min_eq_left h, List.take_of_length_le (by simp)]
  · rw [Nat.min_eq_right (by omega)]
    simp
    omega
theorem cut_from1 (xs : List Val) : cut xs (some 1) none = xs.drop 1 := cut_from (k := 1) xs
end PyM
namespace PyM
/-! ### == of plain values: no bools, no objects -/
mutual
def Val.d : Val → D
  | .non => .non
  | .bl b => .bl b
  | .int i => .int i
  | .str n => .str n
  | .tup xs => .tup (Val.ds xs)
  | .ref _ => .non
def Val.ds : List Val → List D
  | [] => []
  | x :: xs => x.d :: Val.ds xs
end
def pl : Nat → Val → Bool
  | 0, _ => false
  | n + 1, v => match v with
    | .non => true
    | .int _ => true
    | .str _ => true
    | .tup xs => xs.all (pl n)
    | .bl _ => false
    | .ref _ => false
theorem optAll_ds {f : Val → Option D} : ∀ {xs : List Val}, (∀ x ∈ xs, f x = some x.d) → optAll f xs = some (Val.ds xs)
  | [], _ => rfl
  | x :: xs, h => by
    rw [optAll, h x (by simp), optAll_ds (fun y hy => h y (by simp [hy]))]
    rfl
theorem conv_pl {h : Heap} : ∀ (n : Nat) (x : Val), pl n x = true → conv n h x = some x.d
  | 0, _, e => by simp [pl] at e
  | n + 1, x, e => by
    cases x with
    | tup xs =>
      simp only [pl, List.all_eq_true] at e
      simp only [conv, Val.d]
      rw [optAll_ds (fun y hy => conv_pl n y (e y hy))]
      rfl
    | bl b => simp [pl] at e
    | ref b => simp [pl] at e
    | _ => rfl
mutual
theorem deq_pl : ∀ (x y : Val) (n m : Nat), pl n x = true → pl m y = true → deq x.d y.d = decide (x = y)
  | x, y, 0, _, e, _ => by simp [pl] at e
  | x, y, _, 0, _, e => by simp [pl] at e
  | .tup xs, y, n + 1, m + 1, h1, h2 => by
    cases y with
    | tup ys =>
      simp only [pl] at h1 h2
      simp only [Val.d, deq]
      rw [deqs_pl xs ys n m h1 h2]
      by_cases e : xs = ys <;> simp [e]
    | _ => simp [Val.d, deq]
  | .non, y, n + 1, m + 1, h1, h2 => by cases y <;> simp [Val.d, deq, pl] at h2 ⊢
  | .int i, y, n + 1, m + 1, h1, h2 => by
    cases y with
    | int j => by_cases e : i = j <;> simp [Val.d, deq, e]
    | bl b => simp [pl] at h2
    | _ => simp [Val.d, deq, pl] at h2 ⊢
  | .str i, y, n + 1, m + 1, h1, h2 => by
    cases y with
    | str j => by_cases e : i = j <;> simp [Val.d, deq, e]
    | bl b => simp [pl] at h2
    | _ => simp [Val.d, deq, pl] at h2 ⊢
  | .bl _, y, n + 1, m + 1, h1, h2 => by simp [pl] at h1
  | .ref _, y, n + 1, m + 1, h1, h2 => by simp [pl] at h1
theorem deqs_pl : ∀ (xs ys : List Val) (n m : Nat), xs.all (pl n) = true → ys.all (pl m) = true → deqs (Val.ds xs) (Val.ds ys) = decide (xs = ys)
  | [], [], _, _, _, _ => rfl
  | [], _ :: _, _, _, _, _ => by simp [Val.ds, deqs]
  | _ :: _, [], _, _, _, _ => by simp [Val.ds, deqs]
  | x :: xs, y :: ys, n, m, h1, h2 => by
    rw [List.all_cons, Bool.and_eq_true] at h1 h2
    rw [Val.ds, Val.ds, deqs, deq_pl x y n m h1.1 h2.1, deqs_pl xs ys n m h1.2 h2.2]
    by_cases e : x = y <;> by_cases e2 : xs = ys <;> simp [e, e2]
end
theorem oEq_pl {neg : Bool} {x y : Val} {h : Heap} (hx : pl 60 x = true) (hy : pl 60 y = true) : oEq neg x y h = .ok (.bl (if neg then !decide (x = y) else decide (x = y))) h := by
  unfold oEq
  rw [conv_pl 60 x hx, conv_pl 60 y hy]
  simp only [deq_pl x y 60 60 hx hy]
theorem conv_lst {h : Heap} {a : Nat} {xs : List Val} (ea : h[a]? = some (.lst xs)) (hx : xs.all (pl 59) = true) : conv 60 h (.ref a) = some (.lst (Val.ds xs)) := by
  rw [conv]
  simp only [ea]
  rw [optAll_ds (fun x hx' => conv_pl 59 x (List.all_eq_true.mp hx x hx'))]
  rfl
theorem oEq_lst {neg : Bool} {a b : Nat} {xs ys : List Val} {h : Heap} (ea : h[a]? = some (.lst xs)) (eb : h[b]? = some (.lst ys)) (hx : xs.all (pl 59) = true) (hy : ys.all (pl 59) = true) :
    oEq neg (.ref a) (.ref b) h = .ok (.bl (if neg then !decide (xs = ys) else decide (xs = ys))) h := by
  unfold oEq
  rw [conv_lst ea hx, conv_lst eb hy]
  simp only [deq, deqs_pl xs ys 59 59 hx hy]
end PyM
namespace PyM
def Ext (h h' : Heap) : Prop := ∃ g, h' = h ++ g
theorem Ext.refl (h : Heap) : Ext h h := ⟨[], by simp⟩
theorem Ext.app {h h' : Heap} (e : Ext h h') (g : Heap) : Ext h (h' ++ g) := by
  obtain ⟨k, rfl⟩ := e
  exact ⟨k ++ g, by simp⟩
theorem Ext.set {h h' : Heap} (e : Ext h h') {p : Nat} (hp : h.length ≤ p) (o : Obj) : Ext h (h'.set p o) := by
  obtain ⟨k, rfl⟩ := e
  exact ⟨k.set (p - h.length) o, by rw [List.set_append_right _ _ hp]⟩
theorem Ext.at {h h' : Heap} (e : Ext h h') {p : Nat} {o : Obj} (hp : h[p]? = some o) : h'[p]? = some o := by
  obtain ⟨k, rfl⟩ := e
  exact at_push hp
theorem Ext.trans {a b c : Heap} (x : Ext a b) (y : Ext b c) : Ext a c := by
  obtain ⟨g, rfl⟩ := x
  obtain ⟨k, rfl⟩ := y
  exact ⟨g ++ k, List.append_assoc _ _ _⟩
theorem Ext.le {h h' : Heap} (e : Ext h h') : h.length ≤ h'.length := by
  obtain ⟨k, rfl⟩ := e
  simp
theorem rangeV_length {lo : Int} {n : Nat} : (rangeV lo n).length = n := by simp [rangeV]
/-- a loop over range(n) by its invariant -/
theorem wS_range {g : Val → En → Option En} {body : En → Heap → RS} {D : K4} {n : Nat} {s : En} {h : Heap} (Inv : Nat → En → Heap → Prop) (h0 : Inv 0 s h)
    (hs : ∀ (i : Nat) s h, i < n → Inv i s h → ∃ s1, g (.int (i : Int)) s = some s1 ∧ wS (body s1 h) { D with nx := Inv (i + 1), ct := Inv (i + 1), bk := D.nx })
    (hd : ∀ s h, Inv n s h → D.nx s h) : wS (forM_ (fun _ => true) g body (rangeV 0 n) s h) D := by
  refine wS_forM Inv _ 0 s h h0 (fun i x s h _ hx hi => ⟨rfl, ?_⟩) (fun s h hi => ⟨rfl, hd s h (by rw [Nat.zero_add, rangeV_length] at hi; exact hi)⟩)
  rw [Nat.sub_zero, rangeV_get] at hx
  split at hx
  · rename_i hlt
    cases hx
    rw [Int.zero_add]
    exact hs i s h hlt hi
  · cases hx
end PyM
namespace PyM
theorem lc_at {n : Nat} {h0 h : Heap} {chk : Heap → Bool} {tg : Val → En → Option En} {mt : En → Heap → Res Bool} {me : En → Heap → Res Val} {s0 : En} {E : Nat → Heap → Prop} {QU : Unit → Heap → Prop} {xs : List Val} (hn : n = h.length) (hh : h0 = h ++ [.lst []]) (w : wR (lcM chk tg mt me s0 h.length xs (h ++ [.lst []])) E QU) : wR (lcM chk tg mt me s0 n xs h0) E QU := by
  subst hn hh
  exact w
theorem at_app {h g : Heap} {n : Nat} {o : Obj} (k : Nat) (e : n = h.length + k) (q : g[k]? = some o) : (h ++ g)[n]? = some o := by
  subst e; rw [List.getElem?_append_right (by omega), Nat.add_sub_cancel_left]; exact q
theorem wS_mono {x : RS} {D D' : K4} (w : wS x D) (n : ∀ s h, D.nx s h → D'.nx s h) (r : ∀ v h, D.rt v h → D'.rt v h) (b : ∀ s h, D.bk s h → D'.bk s h) (c : ∀ s h, D.ct s h → D'.ct s h) (e : ∀ k h, D.ex k h → D'.ex k h) : wS x D' := by
  cases x
  · exact n _ _ w
  · exact r _ _ w
  · exact b _ _ w
  · exact c _ _ w
  · exact e _ _ w
  · exact w
end PyM

set_option Elab.async false
set_option linter.all false
set_option autoImplicit false
set_option maxHeartbeats 4000000
/-! frames of heaps, the tape, comprehensions that make room, bits -/
namespace PyM
/-- at most the object p has changed; there may be more objects -/
def Fr (p : Nat) (h h' : Heap) : Prop := h.length ≤ h'.length ∧ ∀ q, q ≠ p → q < h.length → h'[q]? = h[q]?
theorem Fr.refl (p : Nat) (h : Heap) : Fr p h h := ⟨Nat.le_refl _, fun _ _ _ => rfl⟩
theorem Fr.trans {p : Nat} {a b c : Heap} (x : Fr p a b) (y : Fr p b c) : Fr p a c := ⟨Nat.le_trans x.1 y.1, fun q h1 h2 => by rw [y.2 q h1 (Nat.lt_of_lt_of_le h2 x.1), x.2 q h1 h2]⟩
theorem Ext.fr {a b : Heap} (x : Ext a b) (p : Nat) : Fr p a b := by
  obtain ⟨g, rfl⟩ := x
  exact ⟨by simp, fun q _ h2 => List.getElem?_append_left h2⟩
theorem Fr.at {p : Nat} {h h' : Heap} (x : Fr p h h') {q : Nat} {o : Obj} (hq : q ≠ p) (e : h[q]? = some o) : h'[q]? = some o := by
  rw [x.2 q hq (List.getElem?_eq_some_iff.mp e).1]; exact e
theorem Fr.set {p : Nat} {h h' : Heap} (x : Fr p h h') (o : Obj) : Fr p h (h'.set p o) :=
  ⟨by rw [List.length_set]; exact x.1, fun q h1 h2 => by rw [at_set_ne (Ne.symm h1)]; exact x.2 q h1 h2⟩
theorem Fr.push {p : Nat} {h h' : Heap} (x : Fr p h h') (g : Heap) : Fr p h (h' ++ g) := x.trans (Ext.fr ⟨g, rfl⟩ p)
/-- a change of an object that is younger -/
theorem Fr.new {p : Nat} {h h' : Heap} (x : Fr p h h') {q : Nat} (hq : h.length ≤ q) (o : Obj) : Fr p h (h'.set q o) :=
  ⟨by rw [List.length_set]; exact x.1, fun r h1 h2 => by rw [at_set_ne (by omega)]; exact x.2 r h1 h2⟩
theorem at_lt {h : Heap} {q : Nat} {o : Obj} (e : h[q]? = some o) : q < h.length := (List.getElem?_eq_some_iff.mp e).1
/-- the tape of a script -/
def TP (p a : Nat) (ns : List Int) (h : Heap) : Prop := p ≠ a ∧ h[a]? = some (.lst (ns.map Val.int)) ∧ ∃ i r t, 0 ≤ i ∧ h[p]? = some (.lst [.ref a, .int i, .int r, .int t])
theorem TP.ext {p a : Nat} {ns : List Int} {h h' : Heap} (T : TP p a ns h) (x : Ext h h') : TP p a ns h' := by
  obtain ⟨ne, T, i, r, t, i0, e⟩ := T
  exact ⟨ne, x.at T, i, r, t, i0, x.at e⟩
theorem TP.push {p a : Nat} {ns : List Int} {h : Heap} (T : TP p a ns h) (g : Heap) : TP p a ns (h ++ g) := T.ext ⟨g, rfl⟩
theorem TP.fr {p a q : Nat} {ns : List Int} {h h' : Heap} (T : TP p a ns h) (x : Fr q h h') (h1 : p ≠ q) (h2 : a ≠ q) : TP p a ns h' := by
  obtain ⟨ne, T, i, r, t, i0, e⟩ := T
  exact ⟨ne, x.at h2 T, i, r, t, i0, x.at h1 e⟩
theorem TP.set {p a q : Nat} {ns : List Int} {h : Heap} (T : TP p a ns h) (h1 : p ≠ q) (h2 : a ≠ q) (o : Obj) : TP p a ns (h.set q o) := by
  obtain ⟨ne, T, i, r, t, i0, e⟩ := T
  exact ⟨ne, by rw [at_set_ne (Ne.symm h2)]; exact T, i, r, t, i0, by rw [at_set_ne (Ne.symm h1)]; exact e⟩
theorem TP.lt {p a : Nat} {ns : List Int} {h : Heap} (T : TP p a ns h) : p < h.length ∧ a < h.length := by
  obtain ⟨ne, T, i, r, t, i0, e⟩ := T
  exact ⟨at_lt e, at_lt T⟩
def m_next : List Val → Heap → Res Val := runB 2 4
    (sSeq (sAsg (gV 2) (mB oIx (mV 0) (mK (.int 2))))
    (sSeq (sIf (tB_ (mB oGt (mV 2) (mK (.int 0)))) (sSeq (sSub (mV 0) (mK (.int 2)) (mB oFd (mV 2) (mV 1)))
    (sRet (mB oMd (mL bInt (mCons (mV 2) (mNil))) (mV 1)))) (sNx))
    (sSeq (sAsg (gV 3) (mK (.int 0)))
    (sSeq (sIf (tB_ (mB oLt (mB oIx (mV 0) (mK (.int 1))) (mL bLen (mCons (mB oIx (mV 0) (mK (.int 0))) (mNil))))) (sSeq (sAsg (gV 3) (mL bAbs (mCons (mB oIx (mB oIx (mV 0) (mK (.int 0))) (mB oIx (mV 0) (mK (.int 1)))) (mNil))))
    (sSubA (oI fun i j => .int (i + j)) (mV 0) (mK (.int 1)) (mK (.int 1)))) (sNx))
    (sSeq (sIf (tB_ (mB oGe (mV 3) (mB oPw (mK (.int 10)) (mK (.int 18))))) (sSeq (sSub (mV 0) (mK (.int 2)) (mB oFd (mV 3) (mV 1)))
    (sRet (mB oMd (mL bInt (mCons (mV 3) (mNil))) (mV 1)))) (sNx))
    (sSeq (sSub (mV 0) (mK (.int 3)) (mB oMd (mL bInt (mCons (mB oAdd (mB oAdd (mB oMul (mB oIx (mV 0) (mK (.int 3))) (mK (.int 48271))) (mB oMul (mV 3) (mK (.int 69621)))) (mK (.int 11))) (mNil))) (mK (.int 2147483647))))
    (sRet (mB oMd (mL bInt (mCons (mB oFd (mB oMd (mB oMul (mB oIx (mV 0) (mK (.int 3))) (mK (.int 16807))) (mK (.int 2147483647))) (mK (.int 7))) (mNil))) (mV 1)))))))))
theorem TP.next {f : List Val → Heap → Res Val} (hf : f = m_next) {h : Heap} {p a : Nat} {ns : List Int} (T : TP p a ns h) {n : Int} (hn : 0 < n) (hn2 : n < 1073741824) :
    ∃ v h', 0 ≤ v ∧ v < n ∧ f [.ref p, .int n] h = .ok (.int v) h' ∧ TP p a ns h' ∧ Fr p h h' ∧ h'.length = h.length := by
  subst hf
  obtain ⟨ne, ha, i, r, t, hi, hp⟩ := T
  have md : ∀ x : Int, 0 ≤ x % n ∧ x % n < n := fun x => ⟨Int.emod_nonneg _ (by omega), Int.emod_lt_of_pos _ hn⟩
  have mk : ∀ (v i' r' t' : Int), 0 ≤ v → v < n → 0 ≤ i' → ∃ w : Int, 0 ≤ w ∧ w < n ∧ v = w ∧ TP p a ns (h.set p (.lst [.ref a, .int i', .int r', .int t'])) ∧ Fr p h (h.set p (.lst [.ref a, .int i', .int r', .int t'])) ∧ (h.set p (.lst [.ref a, .int i', .int r', .int t'])).length = h.length :=
    fun v i' r' t' v0 vn i0 => ⟨v, v0, vn, rfl, ⟨ne, by rw [at_set_ne ne]; exact ha, i', r', t', i0, at_set hp⟩, (Fr.refl p h).set _, by simp⟩
  have w : wR (m_next [.ref p, .int n] h) (fun _ _ => False) (fun x h' => ∃ w : Int, 0 ≤ w ∧ w < n ∧ x = .int w ∧ TP p a ns h' ∧ Fr p h h' ∧ h'.length = h.length) := by
    unfold m_next
    refine wRB rfl ?_
    have mk' : ∀ (v i' r' t' : Int), 0 ≤ v → v < n → 0 ≤ i' → ∃ w : Int, 0 ≤ w ∧ w < n ∧ Val.int v = .int w ∧ TP p a ns (h.set p (.lst [.ref a, .int i', .int r', .int t'])) ∧ Fr p h (h.set p (.lst [.ref a, .int i', .int r', .int t'])) ∧ (h.set p (.lst [.ref a, .int i', .int r', .int t'])).length = h.length :=
      fun v i' r' t' v0 vn i0 => by obtain ⟨w, a, b, c, d⟩ := mk v i' r' t' v0 vn i0; exact ⟨w, a, b, by rw [c], d⟩
    generalize hQ : (fun (x : Val) (h' : Heap) => ∃ w : Int, 0 ≤ w ∧ w < n ∧ x = .int w ∧ TP p a ns h' ∧ Fr p h h' ∧ h'.length = h.length) = Q
    have mq : ∀ (v i' r' t' : Int), 0 ≤ v → v < n → 0 ≤ i' → Q (.int v) (h.set p (.lst [.ref a, .int i', .int r', .int t'])) := by rw [← hQ]; exact mk'
    by_cases hr : 0 < r
    · simp [hp, ha, hn, hn2, gV, hr, at_set hp]
      exact mq _ _ _ _ (md _).1 (md _).2 hi
    · by_cases hl : i < (ns.length : Int)
      · obtain ⟨z, hz⟩ : ∃ z, ns[i.toNat]? = some z := ⟨_, List.getElem?_eq_getElem (by omega)⟩
        by_cases hc : 1000000000000000000 ≤ (if z < 0 then -z else z)
        · simp [hp, ha, hn, hn2, gV, hr, at_set hp, hl, atI_nn hi, hz, cPow, hc]
          exact mq _ _ _ _ (md _).1 (md _).2 (by omega)
        · simp [hp, ha, hn, hn2, gV, hr, at_set hp, hl, atI_nn hi, hz, cPow, hc]
          exact mq _ _ _ _ (md _).1 (md _).2 (by omega)
      · simp [hp, ha, hn, hn2, gV, hr, at_set hp, hl, cPow]
        exact mq _ _ _ _ (md _).1 (md _).2 (by omega)
  obtain ⟨x, h', e, v, h1, h2, rfl, h3⟩ := ex_of_wR w
  exact ⟨v, h', h1, h2, e, h3⟩
def m_next2 : List Val → Heap → Res Val := runB 2 4
    (sSeq (sAsg (gV 2) (mB oIx (mV 0) (mK (.int 2))))
    (sSeq (sIf (tB_ (mB (oEq false) (mV 2) (mK (.int 0)))) (sSeq (sAsg (gV 3) (mK (.int 0)))
    (sSeq (sIf (tB_ (mB oLt (mB oIx (mV 0) (mK (.int 1))) (mL bLen (mCons (mB oIx (mV 0) (mK (.int 0))) (mNil))))) (sSeq (sAsg (gV 3) (mL bAbs (mCons (mL bInt (mCons (mB oIx (mB oIx (mV 0) (mK (.int 0))) (mB oIx (mV 0) (mK (.int 1)))) (mNil))) (mNil))))
    (sSub (mV 0) (mK (.int 1)) (mB oAdd (mB oIx (mV 0) (mK (.int 1))) (mK (.int 1))))) (sNx))
    (sSeq (sAsg (gV 2) (mV 3))
    (sIf (tB_ (mB oLt (mV 3) (mB oPw (mK (.int 10)) (mK (.int 18))))) (sSeq (sSub (mV 0) (mK (.int 3)) (mB oMd (mL bInt (mCons (mB oAdd (mB oAdd (mB oMul (mB oIx (mV 0) (mK (.int 3))) (mK (.int 69621))) (mB oMul (mV 3) (mK (.int 40692)))) (mK (.int 17))) (mNil))) (mK (.int 2147483647))))
    (sRet (mB oMd (mB oMd (mL bInt (mCons (mB oMul (mB oFd (mB oIx (mV 0) (mK (.int 3))) (mK (.int 5))) (mK (.int 48271))) (mNil))) (mK (.int 2147483647))) (mV 1)))) (sNx))))) (sNx))
    (sSeq (sSub (mV 0) (mK (.int 2)) (mB oFd (mV 2) (mV 1)))
    (sRet (mB oMd (mL bInt (mCons (mV 2) (mNil))) (mV 1))))))
theorem TP.next2 {f : List Val → Heap → Res Val} (hf : f = m_next2) {h : Heap} {p a : Nat} {ns : List Int} (T : TP p a ns h) {n : Int} (hn : 0 < n) (hn2 : n < 1073741824) :
    ∃ v h', 0 ≤ v ∧ v < n ∧ f [.ref p, .int n] h = .ok (.int v) h' ∧ TP p a ns h' ∧ Fr p h h' ∧ h'.length = h.length := by
  subst hf
  obtain ⟨ne, ha, i, r, t, hi, hp⟩ := T
  have md : ∀ x : Int, 0 ≤ x % n ∧ x % n < n := fun x => ⟨Int.emod_nonneg _ (by omega), Int.emod_lt_of_pos _ hn⟩
  have w : wR (m_next2 [.ref p, .int n] h) (fun _ _ => False) (fun x h' => ∃ w : Int, 0 ≤ w ∧ w < n ∧ x = .int w ∧ TP p a ns h' ∧ Fr p h h' ∧ h'.length = h.length) := by
    unfold m_next2
    refine wRB rfl ?_
    have mk' : ∀ (v i' r' t' : Int), 0 ≤ v → v < n → 0 ≤ i' → ∃ w : Int, 0 ≤ w ∧ w < n ∧ Val.int v = .int w ∧ TP p a ns (h.set p (.lst [.ref a, .int i', .int r', .int t'])) ∧ Fr p h (h.set p (.lst [.ref a, .int i', .int r', .int t'])) ∧ (h.set p (.lst [.ref a, .int i', .int r', .int t'])).length = h.length :=
      fun v i' r' t' v0 vn i0 => ⟨v, v0, vn, rfl, ⟨ne, by rw [at_set_ne ne]; exact ha, i', r', t', i0, at_set hp⟩, (Fr.refl p h).set _, by simp⟩
    generalize hQ : (fun (x : Val) (h' : Heap) => ∃ w : Int, 0 ≤ w ∧ w < n ∧ x = .int w ∧ TP p a ns h' ∧ Fr p h h' ∧ h'.length = h.length) = Q
    have mq : ∀ (v i' r' t' : Int), 0 ≤ v → v < n → 0 ≤ i' → Q (.int v) (h.set p (.lst [.ref a, .int i', .int r', .int t'])) := by rw [← hQ]; exact mk'
    by_cases hr : r = 0
    · subst hr
      by_cases hl : i < (ns.length : Int)
      · obtain ⟨z, hz⟩ : ∃ z, ns[i.toNat]? = some z := ⟨_, List.getElem?_eq_getElem (by omega)⟩
        by_cases hc : (if z < 0 then -z else z) < 1000000000000000000
        · simp [hp, ha, hn, hn2, gV, at_set hp, hl, atI_nn hi, hz, cPow, hc]
          exact mq _ _ _ _ (md _).1 (md _).2 (by omega)
        · simp [hp, ha, hn, hn2, gV, at_set hp, hl, atI_nn hi, hz, cPow, hc]
          exact mq _ _ _ _ (md _).1 (md _).2 (by omega)
      · simp [hp, ha, hn, hn2, gV, at_set hp, hl, cPow]
        exact mq _ _ _ _ (md _).1 (md _).2 (by omega)
    · simp [hp, ha, hn, hn2, gV, hr, at_set hp]
      exact mq _ _ _ _ (md _).1 (md _).2 hi
  obtain ⟨x, h', e, v, h1, h2, rfl, h3⟩ := ex_of_wR w
  exact ⟨v, h', h1, h2, e, h3⟩
/-- comprehensions whose items make new objects -/
theorem wR_lcX {chk : Heap → Bool} {tg : Val → En → Option En} {mt : En → Heap → Res Bool} {me : En → Heap → Res Val} {s0 : En} {E : Nat → Heap → Prop} {QU : Unit → Heap → Prop} {h : Heap} (p : Val → Bool) (f : Val → Val) {xs : List Val} (hl : xs.length < lim)
    (hc : ∀ h', Ext h h' → chk h' = true)
    (ht : ∀ x h', x ∈ xs → Ext h h' → ∃ s2, tg x s0 = some s2 ∧ wR (mt s2 h') (fun _ _ => False) (fun b h1 => b = p x ∧ Ext h' h1 ∧ (p x = true → wR (me s2 h1) (fun _ _ => False) fun y h2 => y = f x ∧ Ext h1 h2)))
    (q : ∀ h', Ext h h' → h'[h.length]? = some (.lst ((xs.filter p).map f)) → QU () h') : wR (lcM chk tg mt me s0 h.length xs (h ++ [.lst []])) E QU := by
  refine wR_lcM (fun i acc h' => i ≤ xs.length ∧ acc = ((xs.take i).filter p).map f ∧ Ext h h' ∧ h'[h.length]? = some (.lst acc)) xs 0 [] _ ⟨Nat.zero_le _, rfl, ⟨_, rfl⟩, at_len⟩ ?_ ?_
  · rintro i x acc h' _ hx ⟨hi, ea, ex, el⟩
    simp only [Nat.sub_zero] at hx
    have hlt : i < xs.length := (List.getElem?_eq_some_iff.mp hx).1
    obtain ⟨s2, e, w1⟩ := ht x h' (List.mem_of_getElem? hx) ex
    refine ⟨hc h' ex, s2, e, wR_mono w1 ?_⟩
    rintro b h1 ⟨rfl, x1, w2⟩
    have tk : xs.take (i + 1) = xs.take i ++ [x] := by
      rw [List.take_add_one, hx]
      rfl
    have al : acc.length < lim := by
      rw [ea, List.length_map]
      have := List.length_filter_le p (xs.take i)
      have := List.length_take_le i xs
      omega
    by_cases hp : p x = true
    · rw [if_pos hp]
      refine wR_mono (w2 hp) ?_
      rintro y h2 ⟨rfl, x2⟩
      refine ⟨x2.at (x1.at el), al, hlt, ?_, ((ex.trans x1).trans x2).set (Nat.le_refl _) _, at_set (x2.at (x1.at el))⟩
      rw [tk, List.filter_append, List.map_append, ← ea]
      simp [hp]
    · rw [if_neg hp]
      refine ⟨hlt, ?_, ex.trans x1, x1.at el⟩
      rw [tk, List.filter_append, List.map_append, ← ea]
      simp [hp]
  · rintro acc h' ⟨_, ea, ex, el⟩
    refine ⟨hc _ ex, q h' ex ?_⟩
    rw [el, ea, Nat.zero_add, List.take_length]
theorem wR_lcXm {chk : Heap → Bool} {tg : Val → En → Option En} {me : En → Heap → Res Val} {s0 : En} {E : Nat → Heap → Prop} {QU : Unit → Heap → Prop} {h : Heap} (f : Val → Val) {xs : List Val} (hl : xs.length < lim)
    (hc : ∀ h', Ext h h' → chk h' = true)
    (ht : ∀ x h', x ∈ xs → Ext h h' → ∃ s2, tg x s0 = some s2 ∧ wR (me s2 h') (fun _ _ => False) fun y h2 => y = f x ∧ Ext h' h2)
    (q : ∀ h', Ext h h' → h'[h.length]? = some (.lst (xs.map f)) → QU () h') : wR (lcM chk tg tTrue me s0 h.length xs (h ++ [.lst []])) E QU := by
  refine wR_lcX (fun _ => true) f hl hc (fun x h' hx ex => ?_) ?_
  · obtain ⟨s2, e, w⟩ := ht x h' hx ex
    exact ⟨s2, e, by rw [wR_tTrue]; exact ⟨rfl, Ext.refl _, fun _ => w⟩⟩
  · have : xs.filter (fun _ => true) = xs := List.filter_eq_self.mpr (fun _ _ => rfl)
    rw [this]
    exact q
theorem oEq_self {x : Val} {neg : Bool} {h : Heap} (hx : pl 60 x = true) : oEq neg x x h = .ok (.bl (!neg)) h := by
  rw [oEq_pl hx hx]; cases neg <;> simp
theorem optAll_bl {α : Type} (b : α → Bool) (xs : List α) : optAll asBl (xs.map fun x => Val.bl (b x)) = some (xs.map b) := optAll_map (f := asBl) (g := fun x => Val.bl (b x)) (k := b) (fun _ => rfl) xs
theorem optAll_int {α : Type} (b : α → Int) (xs : List α) : optAll asInt (xs.map fun x => Val.int (b x)) = some (xs.map b) := optAll_map (f := asInt) (g := fun x => Val.int (b x)) (k := b) (fun _ => rfl) xs
/-! bits -/
theorem band (a b : Nat) : PySem.Builtin.bitAnd (a : Int) (b : Int) = ((a &&& b : Nat) : Int) := by
  rw [PyProof.Rows.bitAnd_pp (by omega) (by omega)]; simp
theorem bor (a b : Nat) : PySem.Builtin.bitOr (a : Int) (b : Int) = ((a ||| b : Nat) : Int) := by
  rw [Bits.bitOr_pp (by omega) (by omega)]; simp
theorem bxor (a b : Nat) : PySem.Builtin.bitXor (a : Int) (b : Int) = ((a ^^^ b : Nat) : Int) := by
  rw [Bits.bitXor_pp (by omega) (by omega)]; simp
theorem bit_eq (m b : Nat) : ((m : Int) / 2 ^ b) % 2 = if m.testBit b then 1 else 0 := by
  rw [Nat.testBit_eq_decide_div_mod_eq]
  have e : ((m : Int) / 2 ^ b) % 2 = ((m / 2 ^ b % 2 : Nat) : Int) := by simp
  rw [e]
  have := Nat.mod_two_eq_zero_or_one (m / 2 ^ b)
  rcases this with q | q <;> simp [q]
theorem wS_mono' {x : RS} {D D' : K4} (w : wS x D) (n : ∀ s h, D.nx s h → D'.nx s h) (r : ∀ v h, D.rt v h → D'.rt v h) (b : D.bk = fun _ _ => False) (c : D.ct = fun _ _ => False) (e : D.ex = fun _ _ => False) : wS x D' := by
  refine wS_mono w n r ?_ ?_ ?_
  · rw [b]; exact fun _ _ q => q.elim
  · rw [c]; exact fun _ _ q => q.elim
  · rw [e]; exact fun _ _ q => q.elim
/-- .. the items told by their place -/
theorem wR_lcXi {chk : Heap → Bool} {tg : Val → En → Option En} {me : En → Heap → Res Val} {s0 : En} {E : Nat → Heap → Prop} {QU : Unit → Heap → Prop} {h : Heap} (f : Nat → Val) {xs : List Val} (hl : xs.length < lim)
    (hc : ∀ h', Ext h h' → chk h' = true)
    (ht : ∀ i x h', xs[i]? = some x → Ext h h' → ∃ s2, tg x s0 = some s2 ∧ wR (me s2 h') (fun _ _ => False) fun y h2 => y = f i ∧ Ext h' h2)
    (q : ∀ h', Ext h h' → h'[h.length]? = some (.lst ((List.range xs.length).map f)) → QU () h') : wR (lcM chk tg tTrue me s0 h.length xs (h ++ [.lst []])) E QU := by
  refine wR_lcM (fun i acc h' => i ≤ xs.length ∧ acc = (List.range i).map f ∧ Ext h h' ∧ h'[h.length]? = some (.lst acc)) xs 0 [] _ ⟨Nat.zero_le _, rfl, ⟨_, rfl⟩, at_len⟩ ?_ ?_
  · rintro i x acc h' _ hx ⟨hi, ea, ex, el⟩
    simp only [Nat.sub_zero] at hx
    have hlt : i < xs.length := (List.getElem?_eq_some_iff.mp hx).1
    obtain ⟨s2, e, w1⟩ := ht i x h' hx ex
    refine ⟨hc h' ex, s2, e, ?_⟩
    rw [wR_tTrue, if_pos rfl]
    refine wR_mono w1 ?_
    rintro y h2 ⟨rfl, x2⟩
    have al : acc.length < lim := by
      rw [ea, List.length_map, List.length_range]
      omega
    refine ⟨x2.at el, al, hlt, ?_, (ex.trans x2).set (Nat.le_refl _) _, at_set (x2.at el)⟩
    rw [ea, List.range_succ, List.map_append]
    rfl
  · rintro acc h' ⟨_, ea, ex, el⟩
    refine ⟨hc _ ex, q h' ex ?_⟩
    rw [el, ea, Nat.zero_add]
theorem lookV_put {d : List (Val × Val)} {k v j : Val} : lookV (putV d k v) j = if j = k then some v else lookV d j := by
  unfold putV
  split
  · rename_i h
    induction d with
    | nil => simp at h
    | cons a d ih =>
      obtain ⟨a1, a2⟩ := a
      by_cases e1 : a1 = k
      · subst e1
        by_cases e2 : j = a1
        · subst e2; simp [lookV]
        · have hd : ∀ d : List (Val × Val), List.find? (fun kv => decide (kv.1 = j)) (d.map fun kv => if kv.1 = a1 then (kv.1, v) else kv) = List.find? (fun kv => decide (kv.1 = j)) d := by
            intro d
            induction d with
            | nil => rfl
            | cons b d ih2 =>
              obtain ⟨b1, b2⟩ := b
              by_cases e3 : b1 = a1
              · subst e3
                have hn : ¬ b1 = j := Ne.symm e2
                rw [List.map_cons, if_pos rfl, List.find?_cons, List.find?_cons]
                simp only [hn, decide_false]
                exact ih2
              · by_cases e4 : b1 = j
                · rw [List.map_cons, if_neg e3, List.find?_cons, List.find?_cons]
                  simp only [e4, decide_true]
                · rw [List.map_cons, if_neg e3, List.find?_cons, List.find?_cons]
                  simp only [e4, decide_false]
                  exact ih2
          simp only [lookV]
          rw [hd]
          rw [if_neg e2]
      · have h' : (d.any fun kv => decide (kv.1 = k)) = true := by simpa [e1] using h
        have := ih h'
        by_cases e2 : a1 = j
        · subst e2
          simp [lookV, e1]
        · simp only [lookV, List.map_cons, if_neg e1, List.find?_cons, e2, decide_false] at this ⊢
          exact this
  · rename_i h
    have hn : List.find? (fun kv : Val × Val => decide (kv.1 = k)) d = none := by
      rw [List.find?_eq_none]
      intro x hx hk
      exact h (List.any_eq_true.mpr ⟨x, hx, hk⟩)
    by_cases e2 : j = k
    · subst e2
      simp [lookV, hn]
    · rw [if_neg e2]
      unfold lookV
      rw [List.find?_append]
      simp [Ne.symm e2]
theorem putV_len {d : List (Val × Val)} {k v : Val} : (putV d k v).length ≤ d.length + 1 := by
  unfold putV; split <;> simp
section
variable {E : Nat → Heap → Prop} {Q : Val → Heap → Prop} {h : Heap} {neg : Bool} {x : Val}
@[simp ↓] theorem wR_bMin2 {i j : Int} : wR (bMin2 [.int i, .int j] h) E Q = Q (.int (if j < i then j else i)) h := rfl
@[simp ↓] theorem wR_bMax2 {i j : Int} : wR (bMax2 [.int i, .int j] h) E Q = Q (.int (if j > i then j else i)) h := rfl
theorem oIn_dct {a : Nat} {d : List (Val × Val)} (e : h[a]? = some (.dct d)) (hk : isKey x = true) : oIn neg x (.ref a) h = .ok (.bl (if neg then !(lookV d x).isSome else (lookV d x).isSome)) h := by
  unfold oIn; simp only [e, hk, if_true]
theorem oIn_tup {ys : List Val} (hx : isFlat x = true) (hy : ys.all isFlat = true) : oIn neg x (.tup ys) h = .ok (.bl (if neg then !(ys.any fun z => feq z x) else ys.any fun z => feq z x)) h := by
  unfold oIn; simp only [hx, hy, and_self, if_true]
theorem any_pl (hx : pl 60 x = true) : ∀ ys : List Val, ys.all (pl 59) = true → ((Val.ds ys).any fun z => deq z x.d) = decide (x ∈ ys)
  | [], _ => rfl
  | y :: ys, hy => by
    rw [List.all_cons, Bool.and_eq_true] at hy
    simp only [Val.ds, List.any_cons]
    rw [any_pl hx ys hy.2, deq_pl y x 59 60 hy.1 hx]
    by_cases q : x = y
    · simp [q]
    · simp [q, Ne.symm q]
theorem oIn_pl {a : Nat} {ys : List Val} (e : h[a]? = some (.lst ys)) (hx : pl 60 x = true) (hy : ys.all (pl 59) = true) : oIn neg x (.ref a) h = .ok (.bl (if neg then !decide (x ∈ ys) else decide (x ∈ ys))) h := by
  have e1 : inSeq x h ys = some (decide (x ∈ ys)) := by
    unfold inSeq
    rw [conv_pl 60 x hx, optAll_ds (fun y hy' => conv_pl 59 y (List.all_eq_true.mp hy y hy'))]
    exact congrArg some (any_pl hx ys hy)
  unfold oIn
  simp only [e, e1]
end
theorem cut_both {a b : Nat} (xs : List Val) : cut xs (some (a : Int)) (some (b : Int)) = (xs.take b).drop a := by
  unfold cut
  rw [HT.sIx_nat, HT.sIx_nat, List.drop_take]
  by_cases ha : a ≤ xs.length
  · have e1 : min a xs.length = a := by omega
    rw [e1]
    by_cases hb : b ≤ xs.length
    · rw [show min b xs.length = b by omega]
    · rw [show min b xs.length = xs.length by omega, List.take_of_length_le (by simp), List.take_of_length_le (by simp; omega)]
  · have e1 : min a xs.length = xs.length := by omega
    rw [e1, List.drop_of_length_le (Nat.le_refl _), List.drop_of_length_le (show xs.length ≤ a by omega)]
    simp
theorem cut_to {b : Nat} (xs : List Val) : cut xs none (some (b : Int)) = xs.take b := by
  unfold cut
  rw [HT.sIx_none, HT.sIx_nat]
  by_cases hb : b ≤ xs.length
  · rw [Nat.min_eq_left hb]; simp
  · rw [Nat.min_eq_right (by omega)]
    simp
    rw [List.take_of_length_le (by omega)]
theorem bAll_map {α : Type} {a : Nat} {h : Heap} {xs : List α} {b : α → Bool} (e : h[a]? = some (.lst (xs.map fun x => .bl (b x)))) : bAll [.ref a] h = .ok (.bl (xs.all b)) h := by
  refine eq_of_wR ?_
  rw [wR_bAll]
  simp only [seqOf_at e, optAll_bl]
  simp [List.all_map]
theorem bAny_map {α : Type} {a : Nat} {h : Heap} {xs : List α} {b : α → Bool} (e : h[a]? = some (.lst (xs.map fun x => .bl (b x)))) : bAny [.ref a] h = .ok (.bl (xs.any b)) h := by
  refine eq_of_wR ?_
  rw [wR_bAny]
  simp only [seqOf_at e, optAll_bl]
  simp [List.any_map]
theorem Fr.ext {p : Nat} {h h' : Heap} (x : Fr p h h') (hp : h.length ≤ p) : Ext h h' := by
  refine ⟨h'.drop h.length, ?_⟩
  apply List.ext_getElem?
  intro q
  by_cases hq : q < h.length
  · rw [List.getElem?_append_left hq, x.2 q (by omega) hq]
  · rw [List.getElem?_append_right (by omega), List.getElem?_drop]
    congr 1
    omega
theorem Fr.base {p : Nat} {h h1 h' : Heap} (x : Ext h h1) (y : Fr p h1 h') (hp : h.length ≤ p) : Ext h h' := ((x.fr p).trans y).ext hp
section
variable {E : Nat → Heap → Prop} {Q : Val → Heap → Prop} {h : Heap} {a : Nat} {i : Int}
theorem bPopAt_ok {ys : List Val} (e : h[a]? = some (.lst ys)) (h0 : 0 ≤ i) (h1 : i < ys.length) (h2 : i < 2 ^ 63) {y : Val} (hy : ys[i.toNat]? = some y) : bPopAt (.ref a) [.int i] h = .ok y (h.set a (.lst (ys.eraseIdx i.toNat))) := by
  have e1 : L2.ixN ys.length i = some i.toNat := by rw [ixN_nn h0, if_pos (by omega)]
  have c : -(2 ^ 63) ≤ i ∧ i < 2 ^ 63 := ⟨by omega, h2⟩
  unfold bPopAt
  simp only [e, if_pos c]
  rw [e1]
  simp only [hy]
end
theorem wR_iAltE {m : En → Heap → Res Val} {n : MI} {s : En} {h h1 : Heap} {a : Nat} {xs : List Val} {E : Nat → Heap → Prop} {Q : Src → Heap → Prop} (e : m s h = .ok (.ref a) h1) (el : h1[a]? = some (.lst xs)) (q : Q ⟨xs, lstIs a xs⟩ h1) : wR (iAlt (iLst m) n s h) E Q := by
  refine wR_iAlt (.inl ?_)
  rw [wR_iLst, e]
  simp only [wR_ok, el]
  exact q
end PyM

set_option Elab.async false
set_option linter.all false
set_option autoImplicit false
set_option maxHeartbeats 4000000
/-! frames over lists of places; comprehensions that use the tape -/
namespace PyM
/-- a comprehension whose items use the tape -/
theorem wR_lcT {chk : Heap → Bool} {tg : Val → En → Option En} {me : En → Heap → Res Val} {s0 : En} {E : Nat → Heap → Prop} {QU : Unit → Heap → Prop} {h : Heap} {p a : Nat} {ns : List Int} (T : TP p a ns h) (R : Val → Prop) {xs : List Val} (hl : xs.length < lim)
    (hc : ∀ h', Fr p h h' → chk h' = true)
    (ht : ∀ x h', x ∈ xs → TP p a ns h' → Fr p h h' → ∃ s2, tg x s0 = some s2 ∧ wR (me s2 h') (fun _ _ => False) fun y h2 => R y ∧ TP p a ns h2 ∧ Fr p h' h2)
    (q : ∀ ys h', ys.length = xs.length → (∀ y ∈ ys, R y) → TP p a ns h' → Fr p h h' → h'[h.length]? = some (.lst ys) → QU () h') : wR (lcM chk tg tTrue me s0 h.length xs (h ++ [.lst []])) E QU := by
  have lp := T.lt
  refine wR_lcM (fun i acc h' => i ≤ xs.length ∧ acc.length = i ∧ (∀ y ∈ acc, R y) ∧ TP p a ns h' ∧ Fr p h h' ∧ h'[h.length]? = some (.lst acc)) xs 0 [] _ ⟨Nat.zero_le _, rfl, by simp, T.push _, Ext.fr ⟨_, rfl⟩ p, at_len⟩ ?_ ?_
  · rintro i x acc h' _ hx ⟨hi, ea, hR, T', f', el⟩
    simp only [Nat.sub_zero] at hx
    have hlt : i < xs.length := (List.getElem?_eq_some_iff.mp hx).1
    obtain ⟨s2, e, w1⟩ := ht x h' (List.mem_of_getElem? hx) T' f'
    refine ⟨hc h' f', s2, e, ?_⟩
    rw [wR_tTrue, if_pos rfl]
    refine wR_mono w1 ?_
    rintro y h2 ⟨hy, T2, f2⟩
    have el2 := f2.at (show h.length ≠ p by omega) el
    refine ⟨el2, by omega, hlt, by simp [ea], fun z hz => ?_, T2.set (by omega) (by omega) _, (f'.trans f2).new (Nat.le_refl _) _, at_set el2⟩
    rcases List.mem_append.mp hz with hz | hz
    · exact hR z hz
    · rw [List.mem_singleton.mp hz]; exact hy
  · rintro acc h' ⟨_, ea, hR, T', f', el⟩
    exact ⟨hc _ f', q acc h' (by omega) hR T' f' el⟩
/-- at most the places of S have changed; there may be more objects -/
def Fs (S : List Nat) (h h' : Heap) : Prop := h.length ≤ h'.length ∧ ∀ q, q ∉ S → q < h.length → h'[q]? = h[q]?
theorem Fs.refl (S : List Nat) (h : Heap) : Fs S h h := ⟨Nat.le_refl _, fun _ _ _ => rfl⟩
theorem Fs.trans {S : List Nat} {a b c : Heap} (x : Fs S a b) (y : Fs S b c) : Fs S a c := ⟨Nat.le_trans x.1 y.1, fun q h1 h2 => by rw [y.2 q h1 (Nat.lt_of_lt_of_le h2 x.1), x.2 q h1 h2]⟩
theorem Fs.mono {S S' : List Nat} {a b : Heap} (x : Fs S a b) (s : ∀ q, q ∈ S → q ∈ S') : Fs S' a b := ⟨x.1, fun q h1 h2 => x.2 q (fun m => h1 (s q m)) h2⟩
theorem Ext.fs {a b : Heap} (x : Ext a b) (S : List Nat) : Fs S a b := by
  obtain ⟨g, rfl⟩ := x
  exact ⟨by simp, fun q _ h2 => List.getElem?_append_left h2⟩
theorem Fr.fs {p : Nat} {a b : Heap} (x : Fr p a b) {S : List Nat} (hp : p ∈ S) : Fs S a b := ⟨x.1, fun q h1 h2 => x.2 q (fun e => h1 (e ▸ hp)) h2⟩
theorem Fs.fr {p : Nat} {a b : Heap} (x : Fs [p] a b) : Fr p a b := ⟨x.1, fun q h1 h2 => x.2 q (by simpa using h1) h2⟩
theorem Fs.at {S : List Nat} {h h' : Heap} (x : Fs S h h') {q : Nat} {o : Obj} (hq : q ∉ S) (e : h[q]? = some o) : h'[q]? = some o := by
  rw [x.2 q hq (List.getElem?_eq_some_iff.mp e).1]; exact e
theorem Fs.set {S : List Nat} {h h' : Heap} (x : Fs S h h') {p : Nat} (hp : p ∈ S) (o : Obj) : Fs S h (h'.set p o) :=
  ⟨by rw [List.length_set]; exact x.1, fun q h1 h2 => by rw [at_set_ne (show p ≠ q from fun e => h1 (e ▸ hp))]; exact x.2 q h1 h2⟩
theorem Fs.push {S : List Nat} {h h' : Heap} (x : Fs S h h') (g : Heap) : Fs S h (h' ++ g) := x.trans (Ext.fs ⟨g, rfl⟩ S)
theorem Fs.new {S : List Nat} {h h' : Heap} (x : Fs S h h') {q : Nat} (hq : h.length ≤ q) (o : Obj) : Fs S h (h'.set q o) :=
  ⟨by rw [List.length_set]; exact x.1, fun r h1 h2 => by rw [at_set_ne (by omega)]; exact x.2 r h1 h2⟩
theorem Fs.le {S : List Nat} {h h' : Heap} (x : Fs S h h') : h.length ≤ h'.length := x.1
theorem TP.fs {p a : Nat} {S : List Nat} {ns : List Int} {h h' : Heap} (T : TP p a ns h) (x : Fs S h h') (h1 : p ∉ S) (h2 : a ∉ S) : TP p a ns h' := by
  obtain ⟨ne, T, i, r, t, i0, e⟩ := T
  exact ⟨ne, x.at h2 T, i, r, t, i0, x.at h1 e⟩
/-- frames over younger places close -/
theorem Fs.base {S : List Nat} {h h1 h' : Heap} (x : Ext h h1) (y : Fs S h1 h') (hS : ∀ q, q ∈ S → h.length ≤ q) : Ext h h' := by
  have z := (x.fs S).trans y
  refine ⟨h'.drop h.length, ?_⟩
  apply List.ext_getElem?
  intro q
  by_cases hq : q < h.length
  · rw [List.getElem?_append_left hq, z.2 q (fun m => by have := hS q m; omega) hq]
  · rw [List.getElem?_append_right (by omega), List.getElem?_drop]
    congr 1
    omega
theorem raised_of_wR {α : Type} {x : Res α} {P : Nat → Heap → Prop} (w : wR x P (fun _ _ => False)) : ∃ c h, x = .raised c h ∧ P c h := by
  cases x with
  | raised c h => exact ⟨c, h, rfl, w⟩
  | ok a h => exact w.elim
  | stuck => exact w.elim
@[simp ↓] theorem wR_iTup {m : En → Heap → Res Val} {s : En} {h : Heap} {E : Nat → Heap → Prop} {Q : Src → Heap → Prop} : wR (iTup_ m s h) E Q = wR (m s h) E fun x h1 => (match x with
    | .tup xs => Q ⟨xs, fun _ => true⟩ h1
    | _ => False) := by
  unfold iTup_
  simp only [wR_bind]
  congr; funext x h1
  split <;> simp_all
@[simp ↓] theorem wR_mAlt {a b : En → Heap → Res Val} {s : En} {h : Heap} {E : Nat → Heap → Prop} {Q : Val → Heap → Prop} : wR (mAlt a b s h) E Q = (match a s h with | .stuck => wR (b s h) E Q | x => wR x E Q) := by
  unfold mAlt
  cases a s h <;> rfl
theorem fix_pl {x : Val} (hx : pl 60 x = true) : ∀ {ys : List Val}, ys.all (pl 59) = true → x ∈ ys → fix x.d (Val.ds ys) = some (ys.idxOf x)
  | [], _, hm => by cases hm
  | y :: ys, hy, hm => by
    rw [List.all_cons, Bool.and_eq_true] at hy
    simp only [Val.ds, fix]
    rw [deq_pl y x 59 60 hy.1 hx]
    by_cases e : y = x
    · subst e; simp
    · have e' : ¬ (y == x) = true := by simpa using e
      rw [List.idxOf_cons, if_neg (by simpa using e)]
      have hm' : x ∈ ys := by
        rcases List.mem_cons.mp hm with q | q
        · exact absurd q.symm e
        · exact q
      simp only [fix_pl hx hy.2 hm', beq_eq_false_iff_ne.mpr e]
      rfl
theorem bIndex_pl {x : Val} {ys : List Val} {h : Heap} {a : Nat} (ea : h[a]? = some (.lst ys)) (hx : pl 60 x = true) (hy : ys.all (pl 59) = true) (hm : x ∈ ys) : bIndex (.ref a) [x] h = .ok (.int (ys.idxOf x : Nat)) h := by
  unfold bIndex
  simp only [ea]
  rw [conv_pl 60 x hx, optAll_ds (fun y hy' => conv_pl 59 y (List.all_eq_true.mp hy y hy'))]
  simp only [fix_pl hx hy hm]
end PyM

set_option Elab.async false
set_option linter.all false
set_option maxRecDepth 100000
set_option maxHeartbeats 4000000
namespace Lw
open PyM
def m__law_next : List Val → Heap → Res Val := runB 2 4
    (sSeq (sAsg (gV 2) (mB oIx (mV 0) (mK (.int 2))))
    (sSeq (sIf (tB_ (mB (oEq false) (mV 2) (mK (.int 0)))) (sSeq (sAsg (gV 3) (mK (.int 0)))
    (sSeq (sIf (tB_ (mB oLt (mB oIx (mV 0) (mK (.int 1))) (mL bLen (mCons (mB oIx (mV 0) (mK (.int 0))) (mNil))))) (sSeq (sAsg (gV 3) (mL bAbs (mCons (mL bInt (mCons (mB oIx (mB oIx (mV 0) (mK (.int 0))) (mB oIx (mV 0) (mK (.int 1)))) (mNil))) (mNil))))
    (sSub (mV 0) (mK (.int 1)) (mB oAdd (mB oIx (mV 0) (mK (.int 1))) (mK (.int 1))))) (sNx))
    (sSeq (sAsg (gV 2) (mV 3))
    (sIf (tB_ (mB oLt (mV 3) (mB oPw (mK (.int 10)) (mK (.int 18))))) (sSeq (sSub (mV 0) (mK (.int 3)) (mB oMd (mL bInt (mCons (mB oAdd (mB oAdd (mB oMul (mB oIx (mV 0) (mK (.int 3))) (mK (.int 69621))) (mB oMul (mV 3) (mK (.int 40692)))) (mK (.int 17))) (mNil))) (mK (.int 2147483647))))
    (sRet (mB oMd (mB oMd (mL bInt (mCons (mB oMul (mB oFd (mB oIx (mV 0) (mK (.int 3))) (mK (.int 5))) (mK (.int 48271))) (mNil))) (mK (.int 2147483647))) (mV 1)))) (sNx))))) (sNx))
    (sSeq (sSub (mV 0) (mK (.int 2)) (mB oFd (mV 2) (mV 1)))
    (sRet (mB oMd (mL bInt (mCons (mV 2) (mNil))) (mV 1))))))
def m_Types___init__ : List Val → Heap → Res Val := runB 2 2
    (sSeq (sFld 0 0 (mV 0) (mV 1))
    (sSeq (sFld 0 1 (mV 0) (mLst (mNil)))
    (sFld 0 2 (mV 0) (mLst (mNil)))))
def m_Types_count : List Val → Heap → Res Val := runB 1 1
    (sRet (mB oAdd (mK (.int 2)) (mL bLen (mCons (mU (getF 1) (mV 0)) (mNil)))))
def m_Types_programs : List Val → Heap → Res Val := runB 1 1
    (sRet (mL bList (mCons (mU (getF 1) (mV 0)) (mNil))))
def m__law_program : List Val → Heap → Res Val := runB 1 8
    (sSeq (sAsg (gV 1) (mLst (mNil)))
    (sSeq (sFor (iRng1 (mCons (mCall m__law_next [] (mCons (mV 0) (mCons (mK (.int 5)) (mNil)))) (mNil))) (gV 2) (sSeq (sAsg (gV 3) (mLst (mNil)))
    (sSeq (sFor (iRng1 (mCons (mCall m__law_next [] (mCons (mV 0) (mCons (mK (.int 3)) (mNil)))) (mNil))) (gV 4) (sSeq (sAsg (gV 5) (mB oIx (mLst (mCons (mK (.int 255)) (mCons (mK (.int 1)) (mCons (mK (.int 3)) (mCons (mB (oI fun i j => .int (i - j)) (mB oPw (mK (.int 2)) (mK (.int 32))) (mK (.int 1))) (mNil)))))) (mCall m__law_next [] (mCons (mV 0) (mCons (mK (.int 4)) (mNil))))))
    (sDrop (mBM bAppend (mV 3) (mCons (mTup (mCons (mCall m__law_next [] (mCons (mV 0) (mCons (mK (.int 8)) (mNil)))) (mCons (mV 5) (mCons (mCall m__law_next [] (mCons (mV 0) (mCons (mK (.int 4)) (mNil)))) (mNil))))) (mNil))))))
    (sSeq (sAsg (gV 6) (mCall m__law_next [] (mCons (mV 0) (mCons (mK (.int 8)) (mNil)))))
    (sSeq (sAsg (gV 7) (mB oIx (mLst (mCons (mB oAdd (mK (.int 1)) (mCall m__law_next [] (mCons (mV 0) (mCons (mB (oI fun i j => .int (i - j)) (mK (.int 8)) (mV 6)) (mNil))))) (mCons (mTup (mCons (mK (.str 0)) (mCons (mCall m__law_next [] (mCons (mV 0) (mCons (mK (.int 8)) (mNil)))) (mNil)))) (mNil)))) (mCall m__law_next [] (mCons (mV 0) (mCons (mK (.int 2)) (mNil))))))
    (sDrop (mBM bAppend (mV 1) (mCons (mTup (mCons (mL bTuple (mCons (mV 3) (mNil))) (mCons (mV 6) (mCons (mV 7) (mCons (mB oIx (mLst (mCons (mK (.int 0)) (mCons (mK (.str 1)) (mCons (mK (.int 2)) (mNil))))) (mCall m__law_next [] (mCons (mV 0) (mCons (mK (.int 3)) (mNil))))) (mNil)))))) (mNil)))))))))
    (sRet (mL bTuple (mCons (mV 1) (mNil))))))
def m_is_number : List Val → Heap → Res Val := runB 1 1
    (sRet (mAn (mIsi .int (mV 0)) (mNo (mIsi .bool (mV 0)))))
def m_is_index : List Val → Heap → Res Val := runB 1 1
    (sRet (mAn (mCall m_is_number [] (mCons (mV 0) (mNil))) (mChLeLt (mK (.int 0)) (mV 0) (mK (.int 8)))))
def m_is_word : List Val → Heap → Res Val := runB 1 1
    (sRet (mAn (mCall m_is_number [] (mCons (mV 0) (mNil))) (mChLeLe (mK (.int 0)) (mV 0) (mK (.int 4294967295)))))
def m_is_guard : List Val → Heap → Res Val := runB 1 1
    (sSeq (sIf (tOr_ (tNo (tTr (mIsi .tup (mV 0)))) (tB_ (mB (oEq true) (mL bLen (mCons (mV 0) (mNil))) (mK (.int 3))))) (sRet (mK (.bl false))) (sNx))
    (sRet (mAn (mCall m_is_index [] (mCons (mB oIx (mV 0) (mK (.int 0))) (mNil))) (mAn (mCall m_is_word [] (mCons (mB oIx (mV 0) (mK (.int 1))) (mNil))) (mCall m_is_word [] (mCons (mB oIx (mV 0) (mK (.int 2))) (mNil)))))))
def m_is_many : List Val → Heap → Res Val := runB 2 2
    (sSeq (sIf (tTr (mIsi .tup (mV 0))) (sRet (mAn (mB (oEq false) (mL bLen (mCons (mV 0) (mNil))) (mK (.int 2))) (mAn (mB (oEq false) (mB oIx (mV 0) (mK (.int 0))) (mK (.str 0))) (mCall m_is_index [] (mCons (mB oIx (mV 0) (mK (.int 1))) (mNil)))))) (sNx))
    (sRet (mAn (mCall m_is_number [] (mCons (mV 0) (mNil))) (mChLeLe (mK (.int 1)) (mV 0) (mB (oI fun i j => .int (i - j)) (mK (.int 8)) (mV 1))))))
def m_is_clause : List Val → Heap → Res Val := runB 2 7
    (sSeq (sIf (tOr_ (tNo (tTr (mIsi .tup (mV 0)))) (tOr_ (tB_ (mB (oEq true) (mL bLen (mCons (mV 0) (mNil))) (mK (.int 4)))) (tNo (tTr (mIsi .tup (mB oIx (mV 0) (mK (.int 0)))))))) (sRet (mK (.bl false))) (sNx))
    (sSeq (sAsg (gT (gsCons (gV 2) (gsCons (gV 3) (gsCons (gV 4) (gsCons (gV 5) (gsNil)))))) (mV 0))
    (sSeq (sIf (tOr_ (tB_ (mB oGt (mL bLen (mCons (mV 2) (mNil))) (mK (.int 4)))) (tNo (tTr (mL bAll (mCons (mLc (iAlt (iLst (mV 2)) (iTup_ (mV 2))) (gV 6) (tTrue) (mCall m_is_guard [] (mCons (mV 6) (mNil))) [6]) (mNil)))))) (sRet (mK (.bl false))) (sNx))
    (sSeq (sIf (tOr_ (tNo (tTr (mCall m_is_index [] (mCons (mV 3) (mNil))))) (tNo (tTr (mCall m_is_many [] (mCons (mV 4) (mCons (mV 3) (mNil))))))) (sRet (mK (.bl false))) (sNx))
    (sSeq (sIf (tTr (mIsi .str (mV 5))) (sRet (mB (oEq false) (mV 5) (mK (.str 1)))) (sNx))
    (sRet (mAn (mCall m_is_number [] (mCons (mV 5) (mNil))) (mOr_ (mB (oEq false) (mV 5) (mK (.int 0))) (mChLeLt (mK (.int 2)) (mV 5) (mV 1))))))))))
def m_is_program : List Val → Heap → Res Val := runB 2 3
    (sSeq (sIf (tOr_ (tNo (tTr (mIsi .tup (mV 0)))) (tB_ (mB oGt (mL bLen (mCons (mV 0) (mNil))) (mK (.int 8))))) (sRet (mK (.bl false))) (sNx))
    (sRet (mL bAll (mCons (mLc (iAlt (iLst (mV 0)) (iTup_ (mV 0))) (gV 2) (tTrue) (mCall m_is_clause [] (mCons (mV 2) (mCons (mV 1) (mNil)))) [2]) (mNil)))))
def m_Types_add : List Val → Heap → Res Val := runB 3 3
    (sSeq (sIf (tNo (tTr (mCall m_is_program [] (mCons (mV 1) (mCons (mMeth 0 m_Types_count [] (mV 0) (mNil)) (mNil)))))) (sRet (mK .non)) (sNx))
    (sSeq (sIf (tB_ (mB (oIn false) (mV 1) (mU (getF 1) (mV 0)))) (sRet (mB oAdd (mK (.int 2)) (mBM bIndex (mU (getF 1) (mV 0)) (mCons (mV 1) (mNil))))) (sNx))
    (sSeq (sIf (tB_ (mB oGe (mBM bCount (mU (getF 2) (mV 0)) (mCons (mV 2) (mNil))) (mK (.int 4)))) (sRet (mK .non)) (sNx))
    (sSeq (sDrop (mBM bAppend (mU (getF 1) (mV 0)) (mCons (mV 1) (mNil))))
    (sSeq (sDrop (mBM bAppend (mU (getF 2) (mV 0)) (mCons (mV 2) (mNil))))
    (sRet (mB (oI fun i j => .int (i - j)) (mMeth 0 m_Types_count [] (mV 0) (mNil)) (mK (.int 1)))))))))
def m_Types_is_known : List Val → Heap → Res Val := runB 2 2
    (sRet (mAn (mCall m_is_number [] (mCons (mV 1) (mNil))) (mChLeLt (mK (.int 0)) (mV 1) (mMeth 0 m_Types_count [] (mV 0) (mNil)))))
def m__law_root : List Val → Heap → Res Val := runB 3 3
    (sSeq (sIf (tB_ (mB (oEq false) (mB oIx (mV 0) (mK (.int 0))) (mK (.int 0)))) (sRet (mTup (mNil))) (sNx))
    (sSeq (sIf (tOr_ (tB_ (mB oLt (mB oIx (mV 0) (mK (.int 0))) (mK (.int 4)))) (tOr_ (tB_ (mB oGe (mB oIx (mV 0) (mK (.int 0))) (mV 1))) (tOr_ (tB_ (mB (oEq false) (mB oIx (mV 0) (mK (.int 1))) (mK (.int 1)))) (tB_ (mB oGe (mB oIx (mV 0) (mK (.int 1))) (mV 2)))))) (sRet (mK .non)) (sNx))
    (sRet (mTup (mCons (mTup (mCons (mB oIx (mV 0) (mK (.int 0))) (mCons (mB oIx (mV 0) (mK (.int 1))) (mNil)))) (mNil))))))
def m__law_run : List Val → Heap → Res Val := runB 4 16
    (sSeq (sAsg (gV 4) (mLst (mNil)))
    (sSeq (sFor (iAlt (iLst (mV 0)) (iTup_ (mV 0))) (gT (gsCons (gV 5) (gsCons (gV 6) (gsCons (gV 7) (gsCons (gV 8) (gsNil)))))) (sSeq (sAsg (gV 9) (mK (.bl true)))
    (sSeq (sFor (iAlt (iLst (mV 5)) (iTup_ (mV 5))) (gT (gsCons (gV 10) (gsCons (gV 11) (gsCons (gV 12) (gsNil))))) (sAsg (gV 9) (mAn (mV 9) (mB (oEq false) (mB oBa (mB oIx (mV 1) (mV 10)) (mV 11)) (mV 12)))))
    (sSeq (sIf (tNo (tTr (mIsi .int (mV 7)))) (sAsg (gV 7) (mB oIx (mV 1) (mB oIx (mV 7) (mK (.int 1))))) (sNx))
    (sFor (iRng2 (mCons (mV 6) (mCons (mL bMin2 (mCons (mK (.int 8)) (mCons (mB oAdd (mV 6) (mV 7)) (mNil)))) (mNil)))) (gV 10) (sIf (tAn (tTr (mV 9)) (tB_ (mB (oEq true) (mB oIx (mV 1) (mV 10)) (mK (.int 0))))) (sDrop (mBM bAppend (mV 4) (mCons (mTup (mCons (mB oIx (mV 1) (mV 10)) (mCons (mB oIx (mLst (mCons (mV 8) (mCons (mV 3) (mNil)))) (mL bInt (mCons (mB (oEq false) (mV 8) (mK (.str 1))) (mNil)))) (mNil)))) (mNil)))) (sNx)))))))
    (sSeq (sAsg (gV 13) (mLc (iAlt (iLst (mV 4)) (iTup_ (mV 4))) (gV 15) (tTrue) (mB oIx (mV 15) (mK (.int 0))) [15]))
    (sSeq (sFor (iRng1 (mCons (mL bLen (mCons (mV 13) (mNil))) (mNil))) (gV 14) (sIf (tOr_ (tB_ (mB oLt (mB oIx (mV 13) (mV 14)) (mK (.int 4)))) (tOr_ (tB_ (mB oGe (mB oIx (mV 13) (mV 14)) (mV 2))) (tB_ (mB (oIn false) (mB oIx (mV 13) (mV 14)) (mSl (mV 13) (pNo) (pSo (mV 14))))))) (sRet (mK .non)) (sNx)))
    (sRet (mL bTuple (mCons (mV 4) (mNil))))))))
def m_words_of : List Val → Heap → Res Val := runB 2 9
    (sSeq (sAsg (gT (gsCons (gV 2) (gsCons (gV 3) (gsCons (gV 4) (gsCons (gV 5) (gsNil)))))) (mV 0))
    (sSeq (sFor (iAlt (iLst (mV 2)) (iTup_ (mV 2))) (gT (gsCons (gV 6) (gsCons (gV 7) (gsCons (gV 8) (gsNil))))) (sIf (tB_ (mB (oEq true) (mB oBa (mB oIx (mV 1) (mV 6)) (mV 7)) (mV 8))) (sRet (mTup (mNil))) (sNx)))
    (sSeq (sIf (tTr (mIsi .tup (mV 4))) (sAsg (gV 4) (mB oIx (mV 1) (mB oIx (mV 4) (mK (.int 1))))) (sNx))
    (sRet (mSl (mV 1) (pSo (mV 3)) (pSo (mL bMin2 (mCons (mK (.int 8)) (mCons (mB oAdd (mV 3) (mV 4)) (mNil))))))))))
def m_is_block : List Val → Heap → Res Val := runB 2 2
    (sRet (mChLeLt (mK (.int 4)) (mV 0) (mV 1)))
def m_run_program : List Val → Heap → Res Val := runB 4 9
    (sSeq (sAsg (gV 4) (mLst (mNil)))
    (sSeq (sAsg (gV 5) (mDct))
    (sSeq (sFor (iAlt (iLst (mV 0)) (iTup_ (mV 0))) (gV 6) (sSeq (sAsg (gV 7) (mB oIx (mV 6) (mK (.int 3))))
    (sSeq (sIf (tB_ (mB (oEq false) (mV 7) (mK (.str 1)))) (sAsg (gV 7) (mV 3)) (sNx))
    (sFor (iAlt (iLst (mCall m_words_of [] (mCons (mV 6) (mCons (mV 1) (mNil))))) (iTup_ (mCall m_words_of [] (mCons (mV 6) (mCons (mV 1) (mNil)))))) (gV 8) (sIf (tB_ (mB (oEq true) (mV 8) (mK (.int 0)))) (sSeq (sIf (tOr_ (tNo (tTr (mCall m_is_block [] (mCons (mV 8) (mCons (mV 2) (mNil)))))) (tB_ (mB (oIn false) (mV 8) (mV 5)))) (sRet (mK .non)) (sNx))
    (sSeq (sSub (mV 5) (mV 8) (mK (.bl true)))
    (sDrop (mBM bAppend (mV 4) (mCons (mTup (mCons (mV 8) (mCons (mV 7) (mNil)))) (mNil)))))) (sNx))))))
    (sRet (mL bTuple (mCons (mV 4) (mNil)))))))
def m_Types_owned : List Val → Heap → Res Val := runB 3 3
    (sSeq (sIf (tB_ (mB (oEq false) (mV 1) (mK (.int 0)))) (sRet (mTup (mNil))) (sNx))
    (sSeq (sIf (tB_ (mB (oEq true) (mV 1) (mK (.int 1)))) (sRet (mCall m_run_program [] (mCons (mB oIx (mU (getF 1) (mV 0)) (mB (oI fun i j => .int (i - j)) (mV 1) (mK (.int 2)))) (mCons (mV 2) (mCons (mU (getF 0) (mV 0)) (mCons (mV 1) (mNil))))))) (sNx))
    (sSeq (sIf (tB_ (mB (oEq false) (mB oIx (mV 2) (mK (.int 0))) (mK (.int 0)))) (sRet (mTup (mNil))) (sNx))
    (sSeq (sIf (tOr_ (tNo (tTr (mCall m_is_block [] (mCons (mB oIx (mV 2) (mK (.int 0))) (mCons (mU (getF 0) (mV 0)) (mNil)))))) (tOr_ (tNo (tTr (mMeth 0 m_Types_is_known [] (mV 0) (mCons (mB oIx (mV 2) (mK (.int 1))) (mNil))))) (tB_ (mB (oEq false) (mB oIx (mV 2) (mK (.int 1))) (mK (.int 1)))))) (sRet (mK .non)) (sNx))
    (sRet (mTup (mCons (mTup (mCons (mB oIx (mV 2) (mK (.int 0))) (mCons (mB oIx (mV 2) (mK (.int 1))) (mNil)))) (mNil))))))))
def m_law : List Val → Heap → Res Val := runB 1 15
    (sSeq (sAsg (gV 1) (mLst (mCons (mL bList (mCons (mV 0) (mNil))) (mCons (mK (.int 0)) (mCons (mK (.int 0)) (mCons (mK (.int 7)) (mNil)))))))
    (sSeq (sAsg (gV 2) (mB oAdd (mK (.int 24)) (mCall m__law_next [] (mCons (mV 1) (mCons (mK (.int 41)) (mNil))))))
    (sSeq (sAsg (gV 3) (mMake 0 m_Types___init__ [] (mCons (mV 2) (mNil))))
    (sSeq (sAsg (gV 4) (mLst (mNil)))
    (sSeq (sAsg (gV 5) (mLst (mNil)))
    (sSeq (sIf (tOr_ (tB_ (mB (oEq true) (mK (.int 4)) (mK (.int 4)))) (tOr_ (tB_ (mB (oEq true) (mMeth 0 m_Types_count [] (mV 3) (mNil)) (mK (.int 2)))) (tB_ (mB (oEq true) (mMeth 0 m_Types_programs [] (mV 3) (mNil)) (mLst (mNil)))))) (sRet (mK (.bl false))) (sNx))
    (sSeq (sFor (iRng1 (mCons (mB oAdd (mK (.int 1)) (mCall m__law_next [] (mCons (mV 1) (mCons (mK (.int 16)) (mNil))))) (mNil))) (gV 6) (sSeq (sAsg (gV 7) (mCall m__law_program [] (mCons (mV 1) (mNil))))
    (sSeq (sIf (tAn (tB_ (mB (oEq true) (mV 4) (mLst (mNil)))) (tB_ (mB (oEq false) (mCall m__law_next [] (mCons (mV 1) (mCons (mK (.int 4)) (mNil)))) (mK (.int 0))))) (sAsg (gV 7) (mB oIx (mV 4) (mCall m__law_next [] (mCons (mV 1) (mCons (mL bLen (mCons (mV 4) (mNil))) (mNil)))))) (sNx))
    (sSeq (sAsg (gV 8) (mB (oEq false) (mL bLen (mCons (mLc (iAlt (iLst (mV 7)) (iTup_ (mV 7))) (gV 13) (tAn (tB_ (mB (oEq false) (mB oIx (mV 13) (mK (.int 3))) (mK (.int 2)))) (tB_ (mB (oEq false) (mV 4) (mLst (mNil))))) (mV 13) [13]) (mNil))) (mK (.int 0))))
    (sSeq (sIf (tB_ (mB (oEq false) (mCall m__law_next [] (mCons (mV 1) (mCons (mK (.int 8)) (mNil)))) (mK (.int 0)))) (sSeq (sAsg (gV 7) (mB oIx (mLst (mCons (mL bList (mCons (mV 7) (mNil))) (mCons (mK .non) (mCons (mB oAdd (mV 7) (mTup (mCons (mTup (mCons (mTup (mNil)) (mCons (mK (.int 0)) (mCons (mK (.int 1)) (mCons (mK (.int 40)) (mNil)))))) (mNil)))) (mNil))))) (mCall m__law_next [] (mCons (mV 1) (mCons (mK (.int 3)) (mNil))))))
    (sAsg (gV 8) (mK (.bl false)))) (sNx))
    (sSeq (sAsg (gV 9) (mCall m__law_next [] (mCons (mV 1) (mCons (mK (.int 4)) (mNil)))))
    (sSeq (sAsg (gV 10) (mK .non))
    (sSeq (sIf (tAn (tTr (mV 8)) (tB_ (mB (oIn false) (mV 7) (mV 4)))) (sAsg (gV 10) (mB oAdd (mK (.int 2)) (mBM bIndex (mV 4) (mCons (mV 7) (mNil))))) (sIf (tAn (tTr (mV 8)) (tB_ (mB oLt (mBM bCount (mV 5) (mCons (mV 9) (mNil))) (mK (.int 4))))) (sSeq (sAsg (gV 10) (mB oAdd (mK (.int 2)) (mL bLen (mCons (mV 4) (mNil)))))
    (sSeq (sDrop (mBM bAppend (mV 4) (mCons (mV 7) (mNil))))
    (sDrop (mBM bAppend (mV 5) (mCons (mV 9) (mNil)))))) (sNx)))
    (sSeq (sIf (tB_ (mB (oEq true) (mMeth 0 m_Types_add [] (mV 3) (mCons (mV 7) (mCons (mV 9) (mNil)))) (mV 10))) (sRet (mK (.bl false))) (sNx))
    (sSeq (sIf (tOr_ (tB_ (mB (oEq true) (mMeth 0 m_Types_programs [] (mV 3) (mNil)) (mV 4))) (tB_ (mB (oEq true) (mMeth 0 m_Types_count [] (mV 3) (mNil)) (mB oAdd (mK (.int 2)) (mL bLen (mCons (mV 4) (mNil))))))) (sRet (mK (.bl false))) (sNx))
    (sIf (tOr_ (tB_ (mB (oIsB true) (mMeth 0 m_Types_is_known [] (mV 3) (mCons (mB oAdd (mK (.int 1)) (mL bLen (mCons (mV 4) (mNil)))) (mNil))) (mK (.bl true)))) (tB_ (mB (oIsB true) (mMeth 0 m_Types_is_known [] (mV 3) (mCons (mB oAdd (mK (.int 2)) (mL bLen (mCons (mV 4) (mNil)))) (mNil))) (mK (.bl false))))) (sRet (mK (.bl false))) (sNx))))))))))))
    (sSeq (sFor (iRng1 (mCons (mK (.int 12)) (mNil))) (gV 6) (sSeq (sAsg (gV 11) (mL bTuple (mCons (mLc (iRng1 (mCons (mK (.int 8)) (mNil))) (gV 14) (tTrue) (mB oIx (mLst (mCons (mK (.int 0)) (mCons (mCall m__law_next [] (mCons (mV 1) (mCons (mK (.int 6)) (mNil)))) (mCons (mB oAdd (mK (.int 4)) (mCall m__law_next [] (mCons (mV 1) (mCons (mK (.int 12)) (mNil))))) (mCons (mV 2) (mNil)))))) (mCall m__law_next [] (mCons (mV 1) (mCons (mK (.int 4)) (mNil))))) [14]) (mNil))))
    (sSeq (sAsg (gV 12) (mCall m__law_next [] (mCons (mV 1) (mCons (mMeth 0 m_Types_count [] (mV 3) (mNil)) (mNil)))))
    (sSeq (sAsg (gV 10) (mTup (mNil)))
    (sSeq (sIf (tB_ (mB (oEq false) (mV 12) (mK (.int 1)))) (sAsg (gV 10) (mCall m__law_root [] (mCons (mV 11) (mCons (mV 2) (mCons (mMeth 0 m_Types_count [] (mV 3) (mNil)) (mNil)))))) (sIf (tB_ (mB oGt (mV 12) (mK (.int 1)))) (sAsg (gV 10) (mCall m__law_run [] (mCons (mB oIx (mV 4) (mB (oI fun i j => .int (i - j)) (mV 12) (mK (.int 2)))) (mCons (mV 11) (mCons (mV 2) (mCons (mV 12) (mNil))))))) (sNx)))
    (sIf (tB_ (mB (oEq true) (mMeth 0 m_Types_owned [] (mV 3) (mCons (mV 12) (mCons (mV 11) (mNil)))) (mV 10))) (sRet (mK (.bl false))) (sNx)))))))
    (sRet (mAn (mB (oIsB false) (mMeth 0 m_Types_is_known [] (mV 3) (mCons (mK .non) (mNil))) (mK (.bl false))) (mAn (mB (oIsB false) (mMeth 0 m_Types_is_known [] (mV 3) (mCons (mK (.bl true)) (mNil))) (mK (.bl false))) (mB (oIsB false) (mMeth 0 m_Types_is_known [] (mV 3) (mCons (mU oNeg (mK (.int 1))) (mNil))) (mK (.bl false))))))))))))))
end Lw

set_option Elab.async false
set_option linter.all false
set_option autoImplicit false
set_option maxHeartbeats 4000000
namespace Lw
open PyM
structure Cl where
  gs : List (Nat × Nat × Nat)
  st : Nat
  mw : Bool
  mn : Nat
  kd : Nat
def encG (g : Nat × Nat × Nat) : Val := .tup [.int g.1, .int g.2.1, .int g.2.2]
def encM (c : Cl) : Val := if c.mw = true then .tup [.str 0, .int c.mn] else .int c.mn
def encK (k : Nat) : Val := if k = 0 then .int 0 else if k = 1 then .str 1 else .int 2
def encC (c : Cl) : Val := .tup [.tup (c.gs.map encG), .int c.st, encM c, encK c.kd]
def encP (P : List Cl) : Val := .tup (P.map encC)
def goodG (g : Nat × Nat × Nat) : Prop := g.1 < 8 ∧ g.2.1 < 2 ^ 32 ∧ g.2.2 < 2 ^ 32
structure GoodC (c : Cl) : Prop where
  g : ∀ g ∈ c.gs, goodG g
  l : c.gs.length ≤ 4
  s : c.st < 8
  m : if c.mw = true then c.mn < 8 else 1 ≤ c.mn ∧ c.mn ≤ 8 - c.st
  k : c.kd < 3
def GoodP (P : List Cl) : Prop := P.length ≤ 4 ∧ ∀ c ∈ P, GoodC c
theorem nx_eq : m__law_next = m_next2 := rfl
structure PgB (p a : Nat) (ns : List Int) (h : Heap) (P : List Cl) (L2 : Nat) (v : Option Val) (n : Nat) (s' : En) (h' : Heap) : Prop where
  k : ∃ (gs : List (Nat × Nat × Nat)) (v4 v5 v6 v7 : Option Val), s' = [some (.ref p), some (.ref h.length), v, some (.ref L2), v4, v5, v6, v7] ∧ gs.length = n ∧ (∀ g ∈ gs, goodG g) ∧ h'[L2]? = some (.lst (gs.map encG))
  o : h'[h.length]? = some (.lst (P.map encC))
  t : TP p a ns h'
  f : Fr p h h'
structure PgA (p a : Nat) (ns : List Int) (h : Heap) (n : Nat) (s' : En) (h' : Heap) : Prop where
  k : ∃ (P : List Cl) (v2 v3 v4 v5 v6 v7 : Option Val), s' = [some (.ref p), some (.ref h.length), v2, v3, v4, v5, v6, v7] ∧ P.length = n ∧ (∀ c ∈ P, GoodC c) ∧ h'[h.length]? = some (.lst (P.map encC))
  t : TP p a ns h'
  f : Fr p h h'
structure PgQ (p a : Nat) (ns : List Int) (h : Heap) (x : Val) (h' : Heap) : Prop where
  k : ∃ P, x = encP P ∧ GoodP P
  t : TP p a ns h'
  f : Fr p h h'
theorem lim12 : 64 < lim := by decide
theorem pow32 : (4294967296 : Nat) = 2 ^ 32 := rfl
theorem program_ok {h : Heap} {p a : Nat} {ns : List Int} (T : TP p a ns h) : ∃ x h', m__law_program [.ref p] h = .ok x h' ∧ PgQ p a ns h x h' := by
  have w : wR (m__law_program [.ref p] h) (fun _ _ => False) (PgQ p a ns h) := by
    unfold m__law_program
    refine wRB rfl ?_
    have lp := T.lt
    have l12 := lim12
    have l0 : 0 ≤ lim := by omega
    have l2 : 2 ≤ lim := by omega
    have l3 : 3 ≤ lim := by omega
    have l4 : 4 ≤ lim := by omega
    obtain ⟨n, h1, n0, n5, e1, T1, f1, ll1⟩ := (T.push [Obj.lst []]).next2 nx_eq (n := 5) (by decide) (by decide)
    simp [l0, gV, e1]
    refine ⟨by omega, ?_⟩
    have g1 := f1.at (show h.length ≠ p by omega) at_len
    refine wS_range (PgA p a ns h) ⟨⟨[], _, _, _, _, _, _, rfl, rfl, by simp, g1⟩, T1, (Ext.fr ⟨_, rfl⟩ p).trans f1⟩ ?_ ?_
    · rintro i s' h' hi ⟨⟨P, v2, v3, v4, v5, v6, v7, rfl, lP, gP, e'⟩, T', f'⟩
      refine ⟨_, rfl, ?_⟩
      have hl := at_lt e'
      obtain ⟨m, h2, m0, m3, e2, T2, f2, ll2⟩ := (T'.push [Obj.lst []]).next2 nx_eq (n := 3) (by decide) (by decide)
      have lp' := T'.lt
      have g2 := f2.at (show h'.length ≠ p by omega) at_len
      have o2 := f2.at (show h.length ≠ p by omega) (at_push (g := [Obj.lst []]) e')
      simp [l0, gV, e2]
      refine ⟨by omega, ?_⟩
      refine wS_range (PgB p a ns h P h'.length (some (.int (i : Nat)))) ⟨⟨[], _, _, _, _, rfl, rfl, by simp, g2⟩, o2, T2, f'.trans ((Ext.fr ⟨_, rfl⟩ p).trans f2)⟩ ?_ ?_
      · rintro j s' h3 hj ⟨⟨gs, w4, w5, w6, w7, rfl, lg, gg, eg⟩, o3, T3, f3⟩
        refine ⟨_, rfl, ?_⟩
        obtain ⟨x, h4, x0, x4, e4, T4, f4, ll4⟩ := (T3.push [Obj.lst [.int 255, .int 1, .int 3, .int 4294967295]]).next2 nx_eq (n := 4) (by decide) (by decide)
        have lp3 := T3.lt
        have hl3 := at_lt eg
        have g4 := f4.at (show h3.length ≠ p by omega) at_len
        obtain ⟨y, h5, y0, y8, e5, T5, f5, ll5⟩ := T4.next2 nx_eq (n := 8) (by decide) (by decide)
        obtain ⟨z, h6, z0, z4, e6, T6, f6, ll6⟩ := T5.next2 nx_eq (n := 4) (by decide) (by decide)
        obtain ⟨mm, mlt, em⟩ : ∃ mm : Nat, mm < 2 ^ 32 ∧ L2.atI [Val.int 255, .int 1, .int 3, .int 4294967295] x = some (.int mm) := by
          have : x = 0 ∨ x = 1 ∨ x = 2 ∨ x = 3 := by omega
          rcases this with rfl | rfl | rfl | rfl
          · exact ⟨255, by decide, rfl⟩
          · exact ⟨1, by decide, rfl⟩
          · exact ⟨3, by decide, rfl⟩
          · exact ⟨4294967295, by decide, rfl⟩
        obtain ⟨y, rfl⟩ := Int.eq_ofNat_of_zero_le y0
        obtain ⟨z, rfl⟩ := Int.eq_ofNat_of_zero_le z0
        have F := (Ext.fr ⟨_, rfl⟩ p).trans (f4.trans (f5.trans f6))
        have eg4 : h4[h'.length]? = some (.lst (gs.map encG)) := f4.at (by omega) (at_push eg)
        have eg6 := F.at (show h'.length ≠ p by omega) eg
        have o6 := F.at (show h.length ≠ p by omega) o3
        simp [l4, l3, cPow, e4, g4, em, gV, seqOf_at eg4, e5, e6, eg6, lg, show j < lim by omega]
        refine ⟨⟨gs ++ [(y, mm, z)], _, _, _, _, rfl, by simp [lg], ?_, ?_⟩, ?_, ?_, ?_⟩
        · intro g hg
          rcases List.mem_append.mp hg with q | q
          · exact gg g q
          · simp at q
            subst q
            exact ⟨by simpa using (by omega : y < 8), mlt, by simp; omega⟩
        · rw [at_set eg6, List.map_append]; rfl
        · rw [at_set_ne (by omega)]; exact o6
        · exact T6.set (by omega) (by omega) _
        · exact (f3.trans F).new (by omega) _
      · rintro s' h3 ⟨⟨gs, w4, w5, w6, w7, rfl, lg, gg, eg⟩, o3, T3, f3⟩
        obtain ⟨st, h4, s0, s8, e4, T4, f4, ll4⟩ := T3.next2 nx_eq (n := 8) (by decide) (by decide)
        obtain ⟨x, h5, x0, x8, e5, T5, f5, ll5⟩ := T4.next2 nx_eq (n := 8 - st) (by omega) (by omega)
        obtain ⟨y, h6, y0, y8, e6, T6, f6, ll6⟩ := T5.next2 nx_eq (n := 8) (by decide) (by decide)
        obtain ⟨z, h7, z0, z2, e7, T7, f7, ll7⟩ := (T6.push [Obj.lst [.int (1 + x), .tup [.str 0, .int y]]]).next2 nx_eq (n := 2) (by decide) (by decide)
        obtain ⟨w, h8, w0, w3, e8, T8, f8, ll8⟩ := (T7.push [Obj.lst [.int 0, .str 1, .int 2]]).next2 nx_eq (n := 3) (by decide) (by decide)
        have lp3 := T3.lt
        have hl3 := at_lt eg
        have hlo := at_lt o3
        have lp7 := T7.lt
        have g7 := f7.at (show h6.length ≠ p by omega) at_len
        have g8 := f8.at (show h7.length ≠ p by omega) at_len
        have F7 := f4.trans (f5.trans (f6.trans ((Ext.fr ⟨_, rfl⟩ p).trans f7)))
        have F8 := (Ext.fr ⟨_, rfl⟩ p).trans f8
        have eg7 := F7.at (show h'.length ≠ p by omega) eg
        have o7 := F7.at (show h.length ≠ p by omega) o3
        have o8 := F8.at (show h.length ≠ p by omega) o7
        obtain ⟨st, rfl⟩ := Int.eq_ofNat_of_zero_le s0
        obtain ⟨x, rfl⟩ := Int.eq_ofNat_of_zero_le x0
        obtain ⟨y, rfl⟩ := Int.eq_ofNat_of_zero_le y0
        obtain ⟨w, rfl⟩ := Int.eq_ofNat_of_zero_le w0
        obtain ⟨mw, mn, em, hm⟩ : ∃ (mw : Bool) (mn : Nat), L2.atI [Val.int (1 + (x : Int)), .tup [.str 0, .int (y : Int)]] z = some (if mw = true then .tup [.str 0, .int (mn : Nat)] else .int (mn : Nat)) ∧ (if mw = true then mn < 8 else 1 ≤ mn ∧ mn ≤ 8 - st) := by
          have : z = 0 ∨ z = 1 := by omega
          rcases this with rfl | rfl
          · exact ⟨false, 1 + x, by simp, by simp only [Bool.false_eq_true, if_false]; omega⟩
          · exact ⟨true, y, by simp, by simp only [if_true]; omega⟩
        have ek : L2.atI [Val.int 0, .str 1, .int 2] (w : Int) = some (encK w) := by
          have : w = 0 ∨ w = 1 ∨ w = 2 := by omega
          rcases this with rfl | rfl | rfl <;> rfl
        have o6 : h6[h.length]? = some (.lst (P.map encC)) := (f4.trans (f5.trans f6)).at (by omega) o3
        have oo : h7[h.length]? = some (.lst (P.map encC)) := o7
        have e8' : m__law_next [.ref p, .int 3] (h7 ++ [Obj.lst [.int 0, .str 1, .int 2]]) = .ok (.int (w : Nat)) h8 := e8
        simp [l2, l3, l4, gV, e4, e5, e6, e7, g7, em, eg7, e8, g8, ek, seqOf_at o7, o8, lP, show i < lim by omega]
        refine ⟨⟨P ++ [⟨gs, st, mw, mn, w⟩], _, _, _, _, _, _, rfl, by simp [lP], ?_, ?_⟩, ?_, ?_⟩
        · intro c hc
          rcases List.mem_append.mp hc with q | q
          · exact gP c q
          · simp at q
            subst q
            exact ⟨gg, by show gs.length ≤ 4; omega, by show st < 8; omega, hm, by show w < 3; omega⟩
        · rw [at_set o8, List.map_append]
          rfl
        · exact T8.set (by omega) (by omega) _
        · exact (f3.trans (F7.trans F8)).new (Nat.le_refl _) _
    · rintro s' h' ⟨⟨P, v2, v3, v4, v5, v6, v7, rfl, lP, gP, e'⟩, T', f'⟩
      simp [e']
      exact ⟨⟨P, rfl, by omega, gP⟩, T', f'⟩
  obtain ⟨x, h', e, q⟩ := ex_of_wR w
  exact ⟨x, h', e, q⟩
end Lw

set_option Elab.async false
set_option linter.all false
set_option autoImplicit false
set_option maxHeartbeats 4000000
namespace Lw
open PyM
theorem num_int {i : Int} {h : Heap} : m_is_number [.int i] h = .ok (.bl true) h := rfl
theorem num_bl {b : Bool} {h : Heap} : m_is_number [.bl b] h = .ok (.bl false) h := rfl
theorem num_non {h : Heap} : m_is_number [.non] h = .ok (.bl false) h := rfl
theorem index_ok {i : Int} {h : Heap} : m_is_index [.int i] h = .ok (.bl (decide (0 ≤ i) && decide (i < 8))) h := by
  refine eq_of_wR ?_
  unfold m_is_index
  refine wRB rfl ?_
  by_cases h1 : 0 ≤ i <;> simp [num_int, h1]
theorem index_bl {b : Bool} {h : Heap} : m_is_index [.bl b] h = .ok (.bl false) h := by
  refine eq_of_wR ?_
  unfold m_is_index
  refine wRB rfl ?_
  simp [num_bl]
theorem word_ok {i : Int} {h : Heap} : m_is_word [.int i] h = .ok (.bl (decide (0 ≤ i) && decide (i ≤ 4294967295))) h := by
  refine eq_of_wR ?_
  unfold m_is_word
  refine wRB rfl ?_
  by_cases h1 : 0 ≤ i <;> simp [num_int, h1]
def gB (i m v : Int) : Bool := decide (0 ≤ i ∧ i < 8) && (decide (0 ≤ m ∧ m ≤ 4294967295) && decide (0 ≤ v ∧ v ≤ 4294967295))
theorem guard_ok {i m v : Int} {h : Heap} : m_is_guard [.tup [.int i, .int m, .int v]] h = .ok (.bl (gB i m v)) h := by
  refine eq_of_wR ?_
  unfold m_is_guard
  refine wRB rfl ?_
  simp only [gB, Bool.decide_and]
  by_cases h1 : 0 ≤ i
  · by_cases h2 : i < 8
    · by_cases h3 : 0 ≤ m
      · by_cases h4 : m ≤ 4294967295
        · simp [isTy, tyOf, truth, index_ok, word_ok, h1, h2, h3, h4]
        · simp [isTy, tyOf, truth, index_ok, word_ok, h1, h2, h3, h4]
      · simp [isTy, tyOf, truth, index_ok, word_ok, h1, h2, h3]
    · simp [isTy, tyOf, truth, index_ok, word_ok, h1, h2]
  · simp [isTy, tyOf, truth, index_ok, word_ok, h1]
theorem guard_two {x y : Val} {h : Heap} : m_is_guard [.tup [x, y]] h = .ok (.bl false) h := by
  refine eq_of_wR ?_
  unfold m_is_guard
  refine wRB rfl ?_
  simp [isTy, tyOf, truth]
theorem guard_good {g : Nat × Nat × Nat} (q : goodG g) {h : Heap} : m_is_guard [encG g] h = .ok (.bl true) h := by
  unfold encG
  rw [guard_ok]
  obtain ⟨a, b, c⟩ := q
  have : gB (g.1 : Nat) (g.2.1 : Nat) (g.2.2 : Nat) = true := by simp [gB]; omega
  rw [this]
theorem many_int {i s : Int} {h : Heap} : m_is_many [.int i, .int s] h = .ok (.bl (decide (1 ≤ i) && decide (i ≤ 8 - s))) h := by
  refine eq_of_wR ?_
  unfold m_is_many
  refine wRB rfl ?_
  by_cases h1 : 1 ≤ i <;> simp [isTy, tyOf, truth, num_int, h1]
theorem many_non {s : Int} {h : Heap} : m_is_many [.non, .int s] h = .ok (.bl false) h := by
  refine eq_of_wR ?_
  unfold m_is_many
  refine wRB rfl ?_
  simp [isTy, tyOf, truth, num_non]
theorem many_tup {n : Nat} {i s : Int} {h : Heap} : m_is_many [.tup [.str n, .int i], .int s] h = .ok (.bl (decide (n = 0) && (decide (0 ≤ i) && decide (i < 8)))) h := by
  refine eq_of_wR ?_
  unfold m_is_many
  refine wRB rfl ?_
  have e : oEq false (.str n) (.str 0) h = .ok (.bl (decide (n = 0))) h := by
    rw [oEq_pl rfl rfl]; simp
  by_cases hn : n = 0
  · subst hn
    simp [isTy, tyOf, truth, index_ok]
  · simp [isTy, tyOf, truth, hn]
theorem many_one {x : Val} {s : Int} {h : Heap} : m_is_many [.tup [x], .int s] h = .ok (.bl false) h := by
  refine eq_of_wR ?_
  unfold m_is_many
  refine wRB rfl ?_
  simp [isTy, tyOf, truth]
inductive KindB (cnt : Int) : Val → Bool → Prop
  | str (s : Nat) : KindB cnt (.str s) (decide (s = 1))
  | int (k : Int) : KindB cnt (.int k) (decide (k = 0) || (decide (2 ≤ k) && decide (k < cnt)))
  | bl (b : Bool) : KindB cnt (.bl b) false
theorem clause_ok {gs : List Val} {st mn kd : Val} {cnt : Int} {h : Heap} (b : Val → Bool) {ib mb kb : Bool} (hl : gs.length ≤ 4) (hb : ∀ x ∈ gs, ∀ h, m_is_guard [x] h = .ok (.bl (b x)) h)
    (hi : ∀ h, m_is_index [st] h = .ok (.bl ib) h) (hm : ib = true → ∀ h, m_is_many [mn, st] h = .ok (.bl mb) h) (hk : KindB cnt kd kb) :
    ∃ h', m_is_clause [.tup [.tup gs, st, mn, kd], .int cnt] h = .ok (.bl (gs.all b && (ib && (mb && kb)))) h' ∧ Ext h h' := by
  generalize hgb : gs.all b = gb
  have w : wR (m_is_clause [.tup [.tup gs, st, mn, kd], .int cnt] h) (fun _ _ => False) fun x h' => x = .bl (gb && (ib && (mb && kb))) ∧ Ext h h' := by
    unfold m_is_clause
    refine wRB rfl ?_
    have l12 := lim12
    have hl' : ¬ (4 : Int) < gs.length := by omega
    simp [isTy, tyOf, truth, gV, gT, gsCons, gsNil, hl', Int.not_lt.mp hl', -wR_bAll]
    refine wR_lcXm (fun x => .bl (b x)) (by omega) (fun _ _ => rfl) (fun x h' hx ex => ⟨_, rfl, ?_⟩) (fun h1 ex el => ?_)
    · simp [wipeE, hb x hx]
      exact Ext.refl _
    · refine wR_eq (bAll_map el) ?_
      rw [hgb]
      cases gb with
      | false => simp [ex]
      | true =>
        cases ib with
        | false => simp [hi, ex]
        | true =>
          cases mb with
          | false => simp [hi, hm rfl, ex]
          | true =>
            cases hk with
            | str s => 
              simp [hi, hm rfl, isTy, tyOf]
              exact ⟨by rw [Bool.eq_iff_iff]; simp, ex⟩
            | int k =>
              by_cases k0 : k = 0
              · simp [hi, hm rfl, isTy, tyOf, num_int, k0, ex]
              · by_cases k2 : 2 ≤ k
                · simp [hi, hm rfl, isTy, tyOf, num_int, k0, k2, ex]
                · simp [hi, hm rfl, isTy, tyOf, num_int, k0, k2, ex]
            | bl q => simp [hi, hm rfl, isTy, tyOf, num_bl, ex]
  obtain ⟨x, h', e, rfl, q⟩ := ex_of_wR w
  exact ⟨h', e, q⟩
theorem clause_good {c : Cl} (g : GoodC c) {cnt : Int} {h : Heap} : ∃ h', m_is_clause [encC c, .int cnt] h = .ok (.bl (decide (c.kd ≠ 2) || decide (2 < cnt))) h' ∧ Ext h h' := by
  have hk : KindB cnt (encK c.kd) (decide (c.kd ≠ 2) || decide (2 < cnt)) := by
    have := g.k
    have : c.kd = 0 ∨ c.kd = 1 ∨ c.kd = 2 := by omega
    rcases this with e | e | e <;> rw [e]
    · exact .int 0
    · exact .str 1
    · exact .int 2
  have hi : ∀ h, m_is_index [.int c.st] h = .ok (.bl true) h := fun h => by
    rw [index_ok]
    have := g.s
    have e : (decide (0 ≤ (c.st : Int)) && decide ((c.st : Int) < 8)) = true := by simp; omega
    rw [e]
  have hm : ∀ h, m_is_many [encM c, .int c.st] h = .ok (.bl true) h := fun h => by
    have := g.m
    have s8 := g.s
    unfold encM
    split
    · rename_i hw
      rw [if_pos hw] at this
      rw [many_tup]
      have e : (decide ((0 : Nat) = 0) && (decide (0 ≤ (c.mn : Int)) && decide ((c.mn : Int) < 8))) = true := by simp; omega
      rw [e]
    · rename_i hw
      rw [if_neg hw] at this
      rw [many_int]
      have e : (decide (1 ≤ (c.mn : Int)) && decide ((c.mn : Int) ≤ 8 - c.st)) = true := by simp; omega
      rw [e]
  have := clause_ok (gs := c.gs.map encG) (h := h) (fun _ => true) (by simpa using g.l) (fun x hx h => by
    obtain ⟨t, ht, rfl⟩ := List.mem_map.mp hx
    exact guard_good (g.g t ht)) hi (fun _ => hm) hk
  have ea : ((c.gs.map encG).all fun _ => true) = true := by rw [List.all_eq_true]; exact fun _ _ => rfl
  rw [ea] at this
  simp only [Bool.true_and] at this
  exact this
theorem program_run {rows : List Val} {cnt : Int} {h : Heap} (b : Nat → Bool) (hl : rows.length ≤ 8)
    (H : ∀ i x h', rows[i]? = some x → Ext h h' → ∃ h2, m_is_clause [x, .int cnt] h' = .ok (.bl (b i)) h2 ∧ Ext h' h2) :
    ∃ h', m_is_program [.tup rows, .int cnt] h = .ok (.bl ((List.range rows.length).all b)) h' ∧ Ext h h' := by
  have w : wR (m_is_program [.tup rows, .int cnt] h) (fun _ _ => False) fun x h' => x = .bl ((List.range rows.length).all b) ∧ Ext h h' := by
    unfold m_is_program
    refine wRB rfl ?_
    have l12 := lim12
    have hl' : ¬ (8 : Int) < rows.length := by omega
    simp [isTy, tyOf, truth, hl', Int.not_lt.mp hl', -wR_bAll]
    refine wR_lcXi (fun i => .bl (b i)) (by omega) (fun _ _ => rfl) (fun i x h' hx ex => ⟨_, rfl, ?_⟩) (fun h1 ex el => ?_)
    · obtain ⟨h2, e, x2⟩ := H i x h' hx ex
      simp [wipeE, e, x2]
    · refine wR_eq (bAll_map el) ?_
      exact ⟨rfl, ex⟩
  obtain ⟨x, h', e, rfl, q⟩ := ex_of_wR w
  exact ⟨h', e, q⟩
end Lw

set_option Elab.async false
set_option linter.all false
set_option autoImplicit false
set_option maxHeartbeats 4000000
namespace Lw
open PyM
theorem prog_long {rows : List Val} {cnt : Int} {h : Heap} (hl : 8 < rows.length) : m_is_program [.tup rows, .int cnt] h = .ok (.bl false) h := by
  refine eq_of_wR ?_
  unfold m_is_program
  refine wRB rfl ?_
  have : (8 : Int) < rows.length := by omega
  simp [isTy, tyOf, truth, this]
theorem prog_lst {a : Nat} {xs : List Val} {cnt : Int} {h : Heap} (e : h[a]? = some (.lst xs)) : m_is_program [.ref a, .int cnt] h = .ok (.bl false) h := by
  refine eq_of_wR ?_
  unfold m_is_program
  refine wRB rfl ?_
  simp [isTy, tyOf, truth, e]
theorem prog_non {cnt : Int} {h : Heap} : m_is_program [.non, .int cnt] h = .ok (.bl false) h := by
  refine eq_of_wR ?_
  unfold m_is_program
  refine wRB rfl ?_
  simp [isTy, tyOf, truth]
theorem prog_good {P : List Cl} (g : GoodP P) {cnt : Int} {h : Heap} : ∃ h', m_is_program [encP P, .int cnt] h = .ok (.bl (P.all fun c => decide (c.kd ≠ 2) || decide (2 < cnt))) h' ∧ Ext h h' := by
  have := program_run (rows := P.map encC) (cnt := cnt) (h := h) (fun i => match P[i]? with | some c => decide (c.kd ≠ 2) || decide (2 < cnt) | none => true) (by have := g.1; simp; omega) (fun i x h' hx ex => by
    rw [List.getElem?_map] at hx
    obtain ⟨c, hc, rfl⟩ := Option.map_eq_some_iff.mp hx
    obtain ⟨h2, e, x2⟩ := clause_good (g.2 c (List.mem_of_getElem? hc)) (cnt := cnt) (h := h')
    refine ⟨h2, ?_, x2⟩
    rw [hc]
    exact e)
  obtain ⟨h', e, x⟩ := this
  refine ⟨h', ?_, x⟩
  unfold encP
  rw [e]
  congr 2
  rw [Bool.eq_iff_iff, List.all_eq_true, List.all_eq_true]
  constructor
  · intro H c hc
    obtain ⟨i, hi⟩ := List.mem_iff_getElem?.mp hc
    have := H i (List.mem_range.mpr (by rw [List.length_map]; exact (List.getElem?_eq_some_iff.mp hi).1))
    rw [hi] at this
    exact this
  · intro H i hi
    rw [List.length_map] at hi
    have hi := List.mem_range.mp hi
    rw [List.getElem?_eq_getElem hi]
    exact H _ (List.getElem_mem hi)
end Lw

set_option Elab.async false
set_option linter.all false
set_option autoImplicit false
set_option maxHeartbeats 4000000
namespace Lw
open PyM
def encW (ws : List Nat) : Val := .tup (ws.map fun n => .int (n : Nat))
def gB' (ws : List Nat) (g : Nat × Nat × Nat) : Bool := decide (ws.getD g.1 0 &&& g.2.1 = g.2.2)
def mnOf (ws : List Nat) (c : Cl) : Nat := if c.mw = true then ws.getD c.mn 0 else c.mn
def seg (ws : List Nat) (c : Cl) : List Nat := (ws.take (min 8 (c.st + mnOf ws c))).drop c.st
def sel (ws : List Nat) (c : Cl) : List Nat := if c.gs.all (gB' ws) = true then seg ws c else []
theorem ws_at {ws : List Nat} {i : Nat} (hw : ws.length = 8) (h : i < 8) : L2.atI (ws.map fun n => Val.int (n : Nat)) (i : Int) = some (.int (ws.getD i 0 : Nat)) := by
  rw [atI_cast, List.getElem?_map, List.getElem?_eq_getElem (by omega)]
  simp [List.getElem?_eq_getElem (show i < ws.length by omega)]
structure WoI (c : Cl) (ws : List Nat) (h : Heap) (n : Nat) (s' : En) (h' : Heap) : Prop where
  e : h' = h
  k : ∃ a b d, s' = [some (encC c), some (encW ws), some (.tup (c.gs.map encG)), some (.int c.st), some (encM c), some (encK c.kd), a, b, d]
  g : ∀ g ∈ c.gs.take n, gB' ws g = true
theorem take_one {α : Type} {xs : List α} {i : Nat} {x : α} (h : xs[i]? = some x) : xs.take (i + 1) = xs.take i ++ [x] := by
  rw [List.take_add_one, h]; rfl
theorem take_mem {α : Type} {xs : List α} {i : Nat} {x y : α} (h : xs[i]? = some x) (hy : y ∈ xs.take (i + 1)) : y ∈ xs.take i ∨ y = x := by
  rw [take_one h] at hy
  rcases List.mem_append.mp hy with q | q
  · exact .inl q
  · exact .inr (by simpa using q)
theorem take_all {α β : Type} {f : α → β} {xs : List α} : xs.take (0 + (xs.map f).length) = xs := by
  rw [Nat.zero_add, List.length_map, List.take_length]
theorem and_eq {ws : List Nat} {g : Nat × Nat × Nat} : ((↑(ws.getD g.1 0 &&& g.2.1) : Int) == ↑g.2.2) = gB' ws g := by
  unfold gB'; rw [Bool.eq_iff_iff]; simp; omega
theorem wordsof_ok {c : Cl} (gc : GoodC c) {ws : List Nat} (hw : ws.length = 8) {h : Heap} : m_words_of [encC c, encW ws] h = .ok (.tup ((sel ws c).map fun n => .int (n : Nat))) h := by
  refine eq_of_wR ?_
  unfold m_words_of
  refine wRB rfl ?_
  simp [encC, gT, gsCons, gsNil, gV]
  refine wS_forM (WoI c ws h) _ 0 _ _ ⟨rfl, ⟨_, _, _, rfl⟩, by simp⟩ ?_ ?_
  · rintro i x s' h' _ hx ⟨rfl, ⟨a, b, d, rfl⟩, I⟩
    simp only [Nat.sub_zero, List.getElem?_map] at hx
    obtain ⟨g, hg, rfl⟩ := Option.map_eq_some_iff.mp hx
    have gg := gc.g g (List.mem_of_getElem? hg)
    refine ⟨rfl, [some (encC c), some (encW ws), some (.tup (c.gs.map encG)), some (.int c.st), some (encM c), some (encK c.kd), some (.int g.1), some (.int g.2.1), some (.int g.2.2)], rfl, ?_⟩
    have ea := ws_at hw gg.1
    by_cases hb : gB' ws g = true
    · have e2 := and_eq (ws := ws) (g := g)
      rw [hb] at e2
      simp only [encW]
      simp [ea, band, -List.getD_eq_getElem?_getD]
      simp only [beq_iff_eq] at e2
      simp [e2, -List.getD_eq_getElem?_getD]
      refine ⟨rfl, ⟨_, _, _, rfl⟩, fun u hu => ?_⟩
      rcases take_mem hg hu with q | rfl
      · exact I u q
      · exact hb
    · have e2 := and_eq (ws := ws) (g := g)
      have hb' : gB' ws g = false := by simpa using hb
      rw [hb'] at e2
      simp only [beq_eq_false_iff_ne, ne_eq] at e2
      simp only [encW]
      simp [ea, band, e2, -List.getD_eq_getElem?_getD]
      have : ¬ c.gs.all (gB' ws) = true := fun q => hb (List.all_eq_true.mp q g (List.mem_of_getElem? hg))
      simp [sel, this]
  · rintro s' h' ⟨rfl, ⟨a, b, d, rfl⟩, I⟩
    rw [take_all] at I
    have ga : c.gs.all (gB' ws) = true := List.all_eq_true.mpr I
    refine ⟨rfl, ?_⟩
    have gm := gc.m
    have hs := gc.s
    have cut' : ∀ m : Nat, cut (ws.map fun n => Val.int (n : Nat)) (some (c.st : Int)) (some (if (c.st : Int) + m < 8 then (c.st : Int) + m else 8)) = ((ws.take (min 8 (c.st + m))).drop c.st).map fun n => Val.int (n : Nat) := fun m => by
      have : (if (c.st : Int) + m < 8 then (c.st : Int) + m else 8) = ((min 8 (c.st + m) : Nat) : Int) := by split <;> omega
      rw [this, cut_both, ← List.map_take, ← List.map_drop]
    by_cases hm : c.mw = true
    · rw [if_pos hm] at gm
      have ea := ws_at hw gm
      simp only [encW, encM, if_pos hm]
      simp [isTy, tyOf, truth, gV, ea, cut', -List.getD_eq_getElem?_getD]
      simp [sel, ga, seg, mnOf, hm]
    · simp only [encW, encM, if_neg hm]
      simp [isTy, tyOf, truth, gV, cut']
      simp [sel, ga, seg, mnOf, hm]
end Lw

set_option Elab.async false
set_option linter.all false
set_option autoImplicit false
set_option maxHeartbeats 4000000
namespace Lw
open PyM
def kv (c : Cl) (own : Int) : Val := if c.kd = 1 then .int own else encK c.kd
def pC (ws : List Nat) (own : Int) (c : Cl) : List (Nat × Val) := ((sel ws c).filter (fun n => decide (n ≠ 0))).map fun n => (n, kv c own)
def encPr (x : Nat × Val) : Val := .tup [.int x.1, x.2]
def GoodN (B : Nat) (l : List Nat) : Prop := ∀ k n, l[k]? = some n → 4 ≤ n ∧ n < B ∧ n ∉ l.take k
theorem goodN_nil {B : Nat} : GoodN B [] := fun k n h => by simp at h
theorem goodN_snoc {B : Nat} {l : List Nat} {n : Nat} (g : GoodN B l) (h1 : 4 ≤ n) (h2 : n < B) (h3 : n ∉ l) : GoodN B (l ++ [n]) := fun k m h => by
  rcases Nat.lt_or_ge k l.length with q | q
  · rw [List.getElem?_append_left q] at h
    obtain ⟨a, b, c⟩ := g k m h
    refine ⟨a, b, ?_⟩
    rw [List.take_append_of_le_length (by omega)]
    exact c
  · rw [List.getElem?_append_right q] at h
    have hk : k = l.length := by
      have := (List.getElem?_eq_some_iff.mp h).1
      simp at this; omega
    subst hk
    simp at h
    subst h
    exact ⟨h1, h2, by simpa using h3⟩
theorem goodN_bad {B : Nat} {l r : List Nat} {n : Nat} (h : ¬ (4 ≤ n ∧ n < B) ∨ n ∈ l) : ¬ GoodN B (l ++ n :: r) := fun g => by
  obtain ⟨a, b, c⟩ := g l.length n (by simp)
  rw [List.take_left'] at c
  · rcases h with h | h
    · exact h ⟨a, b⟩
    · exact c h
  · rfl
theorem fm_split {α β : Type} {P : List α} {i : Nat} {c : α} {f : α → List β} (h : P[i]? = some c) : P.flatMap f = (P.take i).flatMap f ++ (f c ++ (P.drop (i + 1)).flatMap f) := by
  conv => lhs; rw [← List.take_append_drop i P]
  rw [List.flatMap_append]
  congr 1
  obtain ⟨hi, e⟩ := List.getElem?_eq_some_iff.mp h
  rw [List.drop_eq_getElem_cons hi, List.flatMap_cons, e]
theorem fm_take {α β : Type} {P : List α} {i : Nat} {c : α} {f : α → List β} (h : P[i]? = some c) : (P.take (i + 1)).flatMap f = (P.take i).flatMap f ++ f c := by
  rw [take_one h, List.flatMap_append]; simp
theorem fil_split {l : List Nat} {j n : Nat} (h : l[j]? = some n) (hn : n ≠ 0) : l.filter (fun n => decide (n ≠ 0)) = (l.take j).filter (fun n => decide (n ≠ 0)) ++ n :: (l.drop (j + 1)).filter (fun n => decide (n ≠ 0)) := by
  conv => lhs; rw [← List.take_append_drop j l]
  rw [List.filter_append]
  congr 1
  obtain ⟨hi, e⟩ := List.getElem?_eq_some_iff.mp h
  rw [List.drop_eq_getElem_cons hi, List.filter_cons, e]
  simp [hn]
def pP (ws : List Nat) (own : Int) (P : List Cl) : List (Nat × Val) := P.flatMap (pC ws own)
def nmz (l : List (Nat × Val)) : List Nat := l.map (·.1)
structure RunQ (B : Nat) (l : List (Nat × Val)) (h : Heap) (x : Val) (h' : Heap) : Prop where
  ext : Ext h h'
  q : (GoodN B (nmz l) ∧ x = .tup (l.map encPr)) ∨ (¬ GoodN B (nmz l) ∧ x = .non)
theorem block_ok {n B : Nat} {h : Heap} : m_is_block [.int n, .int B] h = .ok (.bl (decide (4 ≤ n) && decide (n < B))) h := by
  refine eq_of_wR ?_
  unfold m_is_block
  refine wRB rfl ?_
  by_cases h1 : 4 ≤ n
  · have : (4 : Int) ≤ n := by omega
    simp [h1, this]
  · have : ¬ (4 : Int) ≤ n := by omega
    simp [h1, this]
theorem seg_len {ws : List Nat} (hw : ws.length = 8) {c : Cl} : (sel ws c).length ≤ 8 := by
  unfold sel seg
  split
  · simp; omega
  · simp
/-- what has been found and seen -/
structure Rs (B : Nat) (ws : List Nat) (own : Int) (h : Heap) (acc : List (Nat × Val)) (n : Nat) (h' : Heap) : Prop where
  x : Ext h h'
  f : h'[h.length]? = some (.lst (acc.map encPr))
  s : ∃ d, h'[h.length + 1]? = some (.dct d) ∧ (∀ m : Nat, (lookV d (.int m)).isSome = true ↔ m ∈ nmz acc) ∧ d.length ≤ n
  g : GoodN B (nmz acc)
  l : acc.length ≤ n
structure RuA (P : List Cl) (B : Nat) (ws : List Nat) (own : Int) (h : Heap) (i : Nat) (s' : En) (h' : Heap) : Prop where
  k : ∃ a b c, s' = [some (encP P), some (encW ws), some (.int B), some (.int own), some (.ref h.length), some (.ref (h.length + 1)), a, b, c]
  r : Rs B ws own h ((P.take i).flatMap (pC ws own)) (8 * i) h'
structure RuB (P : List Cl) (B : Nat) (ws : List Nat) (own : Int) (c : Cl) (i : Nat) (h : Heap) (j : Nat) (s' : En) (h' : Heap) : Prop where
  k : ∃ a, s' = [some (encP P), some (encW ws), some (.int B), some (.int own), some (.ref h.length), some (.ref (h.length + 1)), some (encC c), some (kv c own), a]
  r : Rs B ws own h ((P.take i).flatMap (pC ws own) ++ (((sel ws c).take j).filter (fun n => decide (n ≠ 0))).map fun n => (n, kv c own)) (8 * i + j) h'
theorem encK_own {k : Nat} (h : k < 3) {hp : Heap} : oEq false (encK k) (.str 1) hp = .ok (.bl (decide (k = 1))) hp := by
  have : k = 0 ∨ k = 1 ∨ k = 2 := by omega
  rcases this with rfl | rfl | rfl
  · rw [oEq_pl rfl rfl]; rfl
  · rw [oEq_pl rfl rfl]; rfl
  · rw [oEq_pl rfl rfl]; rfl
def runFor : En → Heap → RS := (sFor (iAlt (iLst (mCall m_words_of [] (mCons (mV 6) (mCons (mV 1) (mNil))))) (iTup_ (mCall m_words_of [] (mCons (mV 6) (mCons (mV 1) (mNil)))))) (gV 8) (sIf (tB_ (mB (oEq true) (mV 8) (mK (.int 0)))) (sSeq (sIf (tOr_ (tNo (tTr (mCall m_is_block [] (mCons (mV 8) (mCons (mV 2) (mNil)))))) (tB_ (mB (oIn false) (mV 8) (mV 5)))) (sRet (mK .non)) (sNx))
    (sSeq (sSub (mV 5) (mV 8) (mK (.bl true)))
    (sDrop (mBM bAppend (mV 4) (mCons (mTup (mCons (mV 8) (mCons (mV 7) (mNil)))) (mNil)))))) (sNx)))
theorem m_run_program_eq_runFor : m_run_program = runB 4 9
    (sSeq (sAsg (gV 4) (mLst (mNil)))
    (sSeq (sAsg (gV 5) (mDct))
    (sSeq (sFor (iAlt (iLst (mV 0)) (iTup_ (mV 0))) (gV 6) (sSeq (sAsg (gV 7) (mB oIx (mV 6) (mK (.int 3))))
    (sSeq (sIf (tB_ (mB (oEq false) (mV 7) (mK (.str 1)))) (sAsg (gV 7) (mV 3)) (sNx))
    runFor)))
    (sRet (mL bTuple (mCons (mV 4) (mNil))))))) := rfl
theorem run_ok {P : List Cl} (g : GoodP P) {ws : List Nat} (hw : ws.length = 8) {B : Nat} {own : Int} {h : Heap} : ∃ x h', m_run_program [encP P, encW ws, .int B, .int own] h = .ok x h' ∧ RunQ B (pP ws own P) h x h' := by
  have w : wR (m_run_program [encP P, encW ws, .int B, .int own] h) (fun _ _ => False) (RunQ B (pP ws own P) h) := by
    rw [m_run_program_eq_runFor]
    refine wRB rfl ?_
    have l12 := lim12
    have l0 : 0 ≤ lim := by omega
    have lP := g.1
    simp [l0, gV]
    simp only [encP]
    refine wS_forM (RuA P B ws own h) _ 0 _ _ ⟨⟨_, _, _, rfl⟩, ⟨_, rfl⟩, at_app 0 rfl rfl, ⟨[], at_app 1 rfl rfl, by simp [lookV, nmz], by simp⟩, goodN_nil, by simp⟩ ?_ ?_
    · rintro i x s' h' _ hx ⟨⟨a, b, c', rfl⟩, R⟩
      simp only [Nat.sub_zero, List.getElem?_map] at hx
      obtain ⟨c, hc, rfl⟩ := Option.map_eq_some_iff.mp hx
      have gc := g.2 c (List.mem_of_getElem? hc)
      have hi : i < P.length := (List.getElem?_eq_some_iff.mp hc).1
      refine ⟨rfl, [some (encP P), some (encW ws), some (.int B), some (.int own), some (.ref h.length), some (.ref (h.length + 1)), some (encC c), b, c'], rfl, ?_⟩
      have e3 : ∀ h, oIx (encC c) (.int 3) h = .ok (encK c.kd) h := fun h => rfl
      have fin : ∀ D : K4, D.nx = RuA P B ws own h (i + 1) → D.rt = RunQ B (pP ws own P) h → wS (runFor [some (encP P), some (encW ws), some (.int B), some (.int own), some (.ref h.length), some (.ref (h.length + 1)), some (encC c), some (kv c own), c'] h') D := by
        intro D hD1 hD2
        unfold runFor
        rw [wS_sFor]
        refine wR_iAlt (.inr ⟨?_, ?_⟩)
        · simp [iLst, mCall, mCons, mV, mNil, Res.bind, wordsof_ok gc hw]
        · simp [iTup_, wordsof_ok gc hw]
          refine wS_forM (RuB P B ws own c i h) _ 0 _ _ ⟨⟨_, rfl⟩, by simpa using R⟩ ?_ ?_
          · rintro j y s' h2 _ hy ⟨⟨a2, rfl⟩, R2⟩
            simp only [Nat.sub_zero, List.getElem?_map] at hy
            obtain ⟨n, hn, rfl⟩ := Option.map_eq_some_iff.mp hy
            have hj : j < (sel ws c).length := (List.getElem?_eq_some_iff.mp hn).1
            have h8 := seg_len hw (c := c)
            refine ⟨rfl, [some (encP P), some (encW ws), some (.int B), some (.int own), some (.ref h.length), some (.ref (h.length + 1)), some (encC c), some (kv c own), some (.int n)], rfl, ?_⟩
            obtain ⟨ex2, ef, ⟨d, ed, hd, ld⟩, gg, la⟩ := R2
            by_cases n0 : n = 0
            · subst n0
              simp
              refine ⟨⟨_, rfl⟩, ex2, ?_, ⟨d, ed, ?_, by omega⟩, ?_, ?_⟩
              all_goals rw [take_one hn, List.filter_append]
              all_goals simp
              · simpa using ef
              · simpa using hd
              · simpa using gg
              · simp at la; omega
            · have n0' : ¬ (n : Int) = 0 := by omega
              have spl : ∃ r, nmz (pP ws own P) = nmz ((P.take i).flatMap (pC ws own) ++ (((sel ws c).take j).filter (fun n => decide (n ≠ 0))).map fun n => (n, kv c own)) ++ n :: r := by
                refine ⟨nmz ((((sel ws c).drop (j + 1)).filter (fun n => decide (n ≠ 0))).map fun n => (n, kv c own)) ++ nmz ((P.drop (i + 1)).flatMap (pC ws own)), ?_⟩
                rw [pP, fm_split hc]
                unfold pC
                rw [fil_split hn n0]
                simp [nmz]
              obtain ⟨r, er⟩ := spl
              have l2 : 2 ≤ lim := by omega
              have hd' := hd n
              have bad : (¬ (4 ≤ n ∧ n < B) ∨ n ∈ nmz ((P.take i).flatMap (pC ws own) ++ (((sel ws c).take j).filter (fun n => decide (n ≠ 0))).map fun n => (n, kv c own))) → D.rt .non h2 := fun q => by
                rw [hD2]
                exact ⟨ex2, .inr ⟨by rw [er]; exact goodN_bad q, rfl⟩⟩
              generalize hacc : (P.take i).flatMap (pC ws own) ++ (((sel ws c).take j).filter (fun n => decide (n ≠ 0))).map (fun n => (n, kv c own)) = acc at ef hd gg la er hd' bad
              by_cases hb : 4 ≤ n ∧ n < B
              · have ein := oIn_dct (neg := false) (x := .int n) ed rfl
                by_cases hm : n ∈ nmz acc
                · rw [hd'.mpr hm] at ein
                  simp [n0, block_ok, truth, hb, ein]
                  exact bad (.inr hm)
                · have hnn : (lookV d (.int n)).isSome = false := by
                    cases q : (lookV d (.int n)).isSome with
                    | false => rfl
                    | true => exact absurd (hd'.mp q) hm
                  rw [hnn] at ein
                  have ef2 : (h2.set (h.length + 1) (.dct (putV d (.int n) (.bl true))))[h.length]? = some (.lst (acc.map encPr)) := by
                    rw [at_set_ne (by omega)]; exact ef
                  simp [n0, block_ok, truth, hb, ein, ed, seqOf_at ef2, l2, ef, show d.length < lim by omega, show acc.length < lim by omega]
                  refine ⟨⟨_, rfl⟩, ?_⟩
                  rw [take_one hn, List.filter_append, List.map_append, ← List.append_assoc, hacc]
                  simp only [List.filter_cons, n0, ne_eq, not_false_eq_true, decide_true, if_true, List.filter_nil, List.map_cons, List.map_nil]
                  refine ⟨((ex2.set (by omega) _).set (Nat.le_refl _) _), ?_, ⟨putV d (.int n) (.bl true), ?_, ?_, ?_⟩, ?_, ?_⟩
                  · rw [at_set ef2, List.map_append]; rfl
                  · rw [at_set_ne (by omega)]; exact at_set ed
                  · intro m
                    rw [lookV_put]
                    by_cases e : m = n
                    · subst e; simp [nmz]
                    · have : ¬ (Val.int (m : Nat) = .int (n : Nat)) := by simp; omega
                      rw [if_neg this, hd m]
                      simp [nmz, e]
                  · have := @putV_len d (.int n) (.bl true); omega
                  · rw [nmz, List.map_append]
                    exact goodN_snoc gg hb.1 hb.2 hm
                  · simp; omega
              · simp [n0, block_ok, truth, hb]
                exact bad (.inl hb)
          · rintro s' h2 ⟨⟨a2, rfl⟩, R2⟩
            rw [take_all] at R2
            refine ⟨rfl, ?_⟩
            rw [hD1]
            refine ⟨⟨_, _, _, rfl⟩, ?_⟩
            obtain ⟨rx, rf, ⟨d, ed, hd, ld⟩, gg, la⟩ := R2
            have h8 := seg_len hw (c := c)
            have hl : (0 + (List.map (fun n => Val.int (n : Nat)) (sel ws c)).length) ≤ 8 := by simpa using h8
            rw [fm_take hc]
            exact ⟨rx, rf, ⟨d, ed, hd, by omega⟩, gg, Nat.le_trans la (by omega)⟩
      by_cases hk : c.kd = 1
      · have ekv : kv c own = .int own := by simp [kv, hk]
        rw [ekv] at fin
        simp [e3, gV, encK_own gc.k, hk]
        refine fin _ ?_ ?_ <;> rfl
      · have ekv : kv c own = encK c.kd := by simp [kv, hk]
        rw [ekv] at fin
        simp [e3, gV, encK_own gc.k, hk]
        refine fin _ ?_ ?_ <;> rfl
    · rintro s' h' ⟨⟨a, b, c', rfl⟩, R⟩
      rw [take_all] at R
      refine ⟨rfl, ?_⟩
      simp [R.f]
      exact ⟨R.x, .inl ⟨R.g, rfl⟩⟩
  obtain ⟨x, h', e, q⟩ := ex_of_wR w
  exact ⟨x, h', e, q⟩
end Lw

set_option Elab.async false
set_option linter.all false
set_option autoImplicit false
set_option maxHeartbeats 4000000
namespace Lw
open PyM
def lrGuard : En → Heap → RS := (sFor (iAlt (iLst (mV 5)) (iTup_ (mV 5))) (gT (gsCons (gV 10) (gsCons (gV 11) (gsCons (gV 12) (gsNil))))) (sAsg (gV 9) (mAn (mV 9) (mB (oEq false) (mB oBa (mB oIx (mV 1) (mV 10)) (mV 11)) (mV 12)))))
def lrRng : En → Heap → RS := (sFor (iRng2 (mCons (mV 6) (mCons (mL bMin2 (mCons (mK (.int 8)) (mCons (mB oAdd (mV 6) (mV 7)) (mNil)))) (mNil)))) (gV 10) (sIf (tAn (tTr (mV 9)) (tB_ (mB (oEq true) (mB oIx (mV 1) (mV 10)) (mK (.int 0))))) (sDrop (mBM bAppend (mV 4) (mCons (mTup (mCons (mB oIx (mV 1) (mV 10)) (mCons (mB oIx (mLst (mCons (mV 8) (mCons (mV 3) (mNil)))) (mL bInt (mCons (mB (oEq false) (mV 8) (mK (.str 1))) (mNil)))) (mNil)))) (mNil)))) (sNx)))
def lrChk : En → Heap → RS := (sFor (iRng1 (mCons (mL bLen (mCons (mV 13) (mNil))) (mNil))) (gV 14) (sIf (tOr_ (tB_ (mB oLt (mB oIx (mV 13) (mV 14)) (mK (.int 4)))) (tOr_ (tB_ (mB oGe (mB oIx (mV 13) (mV 14)) (mV 2))) (tB_ (mB (oIn false) (mB oIx (mV 13) (mV 14)) (mSl (mV 13) (pNo) (pSo (mV 14))))))) (sRet (mK .non)) (sNx)))
theorem m__law_run_cut : m__law_run = runB 4 16
    (sSeq (sAsg (gV 4) (mLst (mNil)))
    (sSeq (sFor (iAlt (iLst (mV 0)) (iTup_ (mV 0))) (gT (gsCons (gV 5) (gsCons (gV 6) (gsCons (gV 7) (gsCons (gV 8) (gsNil)))))) (sSeq (sAsg (gV 9) (mK (.bl true)))
    (sSeq lrGuard
    (sSeq (sIf (tNo (tTr (mIsi .int (mV 7)))) (sAsg (gV 7) (mB oIx (mV 1) (mB oIx (mV 7) (mK (.int 1))))) (sNx))
    lrRng))))
    (sSeq (sAsg (gV 13) (mLc (iAlt (iLst (mV 4)) (iTup_ (mV 4))) (gV 15) (tTrue) (mB oIx (mV 15) (mK (.int 0))) [15]))
    (sSeq lrChk
    (sRet (mL bTuple (mCons (mV 4) (mNil)))))))) := rfl
structure GuI (gs : List (Nat × Nat × Nat)) (ws : List Nat) (h : Heap) (env : Bool → Option Val → Option Val → Option Val → En) (n : Nat) (s' : En) (h' : Heap) : Prop where
  e : h' = h
  k : ∃ a b c, s' = env ((gs.take n).all (gB' ws)) a b c
theorem lrGuard_ok {gs : List (Nat × Nat × Nat)} (gg : ∀ g ∈ gs, goodG g) {ws : List Nat} (hw : ws.length = 8) {o0 o2 o3 o4 o6 o7 o8 a b c o13 o14 o15 : Option Val} {h : Heap} {D : K4}
    (hD : ∀ a b c, D.nx [o0, some (encW ws), o2, o3, o4, some (.tup (gs.map encG)), o6, o7, o8, some (.bl (gs.all (gB' ws))), a, b, c, o13, o14, o15] h) :
    wS (lrGuard [o0, some (encW ws), o2, o3, o4, some (.tup (gs.map encG)), o6, o7, o8, some (.bl true), a, b, c, o13, o14, o15] h) D := by
  unfold lrGuard
  simp
  refine wS_forM (GuI gs ws h fun q a b c => [o0, some (encW ws), o2, o3, o4, some (.tup (gs.map encG)), o6, o7, o8, some (.bl q), a, b, c, o13, o14, o15]) _ 0 _ _ ⟨rfl, _, _, _, rfl⟩ ?_ ?_
  · rintro i x s' h' _ hx ⟨rfl, a, b, c, rfl⟩
    simp only [Nat.sub_zero, List.getElem?_map] at hx
    obtain ⟨g, hg, rfl⟩ := Option.map_eq_some_iff.mp hx
    have g8 := (gg g (List.mem_of_getElem? hg)).1
    refine ⟨rfl, [o0, some (encW ws), o2, o3, o4, some (.tup (gs.map encG)), o6, o7, o8, some (.bl ((gs.take i).all (gB' ws))), some (.int g.1), some (.int g.2.1), some (.int g.2.2), o13, o14, o15], rfl, ?_⟩
    have ea := ws_at hw g8
    have e2 := and_eq (ws := ws) (g := g)
    have tk : (gs.take (i + 1)).all (gB' ws) = ((gs.take i).all (gB' ws) && gB' ws g) := by
      rw [take_one hg, List.all_append]; simp
    generalize (gs.take i).all (gB' ws) = q at tk
    simp only [encW]
    cases q with
    | false => 
      simp [gV]
      exact ⟨rfl, _, _, _, by rw [tk]; rfl⟩
    | true =>
      simp [gV, ea, band, e2, -List.getD_eq_getElem?_getD, -beq_iff_eq]
      exact ⟨rfl, _, _, _, by rw [tk]; rfl⟩
  · rintro s' h' ⟨rfl, a, b, c, rfl⟩
    refine ⟨rfl, ?_⟩
    rw [take_all]
    exact hD a b c
structure RgI (base : Heap) (f : Nat) (acc : List (Nat × Val)) (l : List Nat) (kv : Val) (env : Option Val → En) (n : Nat) (s' : En) (h' : Heap) : Prop where
  k : ∃ a, s' = env a
  x : Ext base h'
  f : h'[f]? = some (.lst ((acc ++ ((l.take n).filter (fun n => decide (n ≠ 0))).map fun n => (n, kv)).map encPr))
theorem lrRng_ok {F : En → Heap → RS} (hF : F = lrRng) {ws : List Nat} (hw : ws.length = 8) {base h : Heap} {f st mn kd : Nat} {own : Int} {good : Bool} {acc : List (Nat × Val)} (s8 : st < 8) (k3 : kd < 3) (hb : base.length ≤ f) (ex : Ext base h) (ef : h[f]? = some (.lst (acc.map encPr))) (la : acc.length ≤ 24)
    {o0 o2 o5 a b c o13 o14 o15 : Option Val} {D : K4}
    (hD : ∀ a h', Ext base h' → h'[f]? = some (.lst ((acc ++ ((if good = true then (ws.take (min 8 (st + mn))).drop st else []).filter (fun n => decide (n ≠ 0))).map fun n => (n, if kd = 1 then Val.int own else encK kd)).map encPr)) → D.nx [o0, some (encW ws), o2, some (.int own), some (.ref f), o5, some (.int st), some (.int mn), some (encK kd), some (.bl good), a, b, c, o13, o14, o15] h') :
    wS (F [o0, some (encW ws), o2, some (.int own), some (.ref f), o5, some (.int st), some (.int mn), some (encK kd), some (.bl good), a, b, c, o13, o14, o15] h) D := by
  rw [hF]
  clear hF F
  unfold lrRng
  have l12 := lim12
  have l2 : 2 ≤ lim := by omega
  simp
  have hm : (if (st : Int) + mn < 8 then (st : Int) + mn else 8) = ((min 8 (st + mn) : Nat) : Int) := by split <;> omega
  rw [hm]
  refine ⟨by omega, ?_⟩
  rw [Int.toNat_natCast]
  generalize hl : (if good = true then (ws.take (min 8 (st + mn))).drop st else []) = l at hD
  refine wS_forM (RgI base f acc l (if kd = 1 then Val.int own else encK kd) (fun a => [o0, some (encW ws), o2, some (.int own), some (.ref f), o5, some (.int st), some (.int mn), some (encK kd), some (.bl good), a, b, c, o13, o14, o15])) _ 0 _ _ ⟨⟨a, rfl⟩, ex, by simpa using ef⟩ ?_ ?_
  · rintro j x s' h' _ hx ⟨⟨a, rfl⟩, ex, ef⟩
    rw [Nat.sub_zero, rangeV_get] at hx
    split at hx
    · rename_i hj
      cases hx
      refine ⟨rfl, [o0, some (encW ws), o2, some (.int own), some (.ref f), o5, some (.int st), some (.int mn), some (encK kd), some (.bl good), some (.int ((st + j : Nat) : Int)), b, c, o13, o14, o15], by simp [gV], ?_⟩
      have ea := ws_at hw (show st + j < 8 by omega)
      cases good with
      | false =>
        have : l = [] := by rw [← hl]; rfl
        subst this
        simp [truth]
        exact ⟨⟨_, rfl⟩, ex, by simpa using ef⟩
      | true =>
        have hlj : l[j]? = some (ws.getD (st + j) 0) := by
          rw [← hl, if_pos rfl, List.getElem?_drop, List.getElem?_take, if_pos (by omega), List.getElem?_eq_getElem (by omega)]
          simp [List.getElem?_eq_getElem (show st + j < ws.length by omega)]
        generalize ws.getD (st + j) 0 = w at ea hlj
        simp only [encW]
        by_cases w0 : w = 0
        · subst w0
          simp [truth, -Int.natCast_add, ea]
          refine ⟨⟨_, rfl⟩, ex, ?_⟩
          rw [take_one hlj, List.filter_append]
          simpa using ef
        · have w0' : ¬ (w : Int) = 0 := by omega
          have hll : ((l.take j).filter (fun n => decide (n ≠ 0))).length ≤ 8 := by
            have a1 := List.length_filter_le (fun n : Nat => decide (n ≠ 0)) (l.take j)
            have a2 := List.length_take_le j l
            omega
          have ef1 : (h' ++ [Obj.lst [encK kd, .int own]])[f]? = some (.lst ((acc ++ ((l.take j).filter (fun n => decide (n ≠ 0))).map fun n => (n, if kd = 1 then Val.int own else encK kd)).map encPr)) := at_push ef
          have es : seqOf (.ref f) h' = some ((acc ++ ((l.take j).filter (fun n => decide (n ≠ 0))).map fun n => (n, if kd = 1 then Val.int own else encK kd)).map encPr) := seqOf_at ef
          have ei : L2.atI [encK kd, .int own] (if kd = 1 then 1 else 0) = some (if kd = 1 then Val.int own else encK kd) := by
            split <;> rfl
          have hlen : ((acc ++ ((l.take j).filter (fun n => decide (n ≠ 0))).map fun n => (n, if kd = 1 then Val.int own else encK kd)).map encPr).length < lim := by
            simp only [List.length_map, List.length_append]; omega
          generalize hA : (acc ++ ((l.take j).filter (fun n => decide (n ≠ 0))).map fun n => (n, if kd = 1 then Val.int own else encK kd)).map encPr = A at ef ef1 es hlen
          have hfl := at_lt ef
          have fin : ∀ x, RgI base f acc l (if kd = 1 then Val.int own else encK kd) (fun a => [o0, some (.tup (ws.map fun n => .int (n : Nat))), o2, some (.int own), some (.ref f), o5, some (.int st), some (.int mn), some (encK kd), some (.bl true), a, b, c, o13, o14, o15]) (j + 1) [o0, some (.tup (ws.map fun n => .int (n : Nat))), o2, some (.int own), some (.ref f), o5, some (.int st), some (.int mn), some (encK kd), some (.bl true), x, b, c, o13, o14, o15] ((h' ++ [Obj.lst [encK kd, .int own]]).set f (.lst (A ++ [.tup [.int w, if kd = 1 then Val.int own else encK kd]]))) := fun x => by
            refine ⟨⟨_, rfl⟩, (ex.app _).set hb _, ?_⟩
            rw [at_set ef1, take_one hlj, List.filter_append, ← hA]
            simp [w0, encPr]
          by_cases hk : kd = 1
          · simp only [hk, if_true] at fin ei ef1 ⊢
            have ek := encK_own k3 (hp := h')
            rw [hk] at ek
            simp [truth, -Int.natCast_add, ea, w0, w0', encK_own (k := 1) (by decide), es, l2, ei, hlen, ↓ef1]
            exact fin _
          · simp only [hk, if_false] at fin ei
            simp [truth, -Int.natCast_add, ea, w0, w0', encK_own k3, es, l2, ei, hlen, ↓ef1, hk]
            exact fin _
    · cases hx
  · rintro s' h' ⟨⟨a, rfl⟩, ex, ef⟩
    refine ⟨rfl, hD a h' ex ?_⟩
    rw [Nat.zero_add, rangeV_length] at ef
    have : l.take (min 8 (st + mn) - st) = l := by
      apply List.take_of_length_le
      rw [← hl]
      split
      · simp; omega
      · simp
    rw [this] at ef
    exact ef
end Lw

set_option Elab.async false
set_option linter.all false
set_option autoImplicit false
set_option maxHeartbeats 4000000
set_option maxRecDepth 100000
namespace Lw
open PyM
structure CkI (B : Nat) (l : List Nat) (h : Heap) (env : Option Val → En) (n : Nat) (s' : En) (h' : Heap) : Prop where
  k : ∃ a, s' = env a
  x : Ext h h'
  g : GoodN B (l.take n)
theorem ints_pl (l : List Nat) : (l.map fun n => Val.int (n : Nat)).all (pl 59) = true := by
  rw [List.all_eq_true]
  intro x hx
  obtain ⟨n, _, rfl⟩ := List.mem_map.mp hx
  rfl
theorem mem_ints {l : List Nat} {n : Nat} : Val.int (n : Nat) ∈ (l.map fun n => Val.int (n : Nat)) ↔ n ∈ l := by
  rw [List.mem_map]
  constructor
  · rintro ⟨m, hm, e⟩
    have : m = n := by injection e with e; omega
    exact this ▸ hm
  · exact fun hm => ⟨n, hm, rfl⟩
theorem lrChk_ok {l : List Nat} {B f : Nat} {h : Heap} (ef : h[f]? = some (.lst (l.map fun n => .int (n : Nat)))) (ll : l.length ≤ 64) {o0 o1 o3 o4 o5 o6 o7 o8 o9 o10 o11 o12 a o15 : Option Val} {D : K4}
    (hg : GoodN B l → ∀ a h', Ext h h' → D.nx [o0, o1, some (.int B), o3, o4, o5, o6, o7, o8, o9, o10, o11, o12, some (.ref f), a, o15] h') (hn : ¬ GoodN B l → ∀ h', Ext h h' → D.rt .non h') :
    wS (lrChk [o0, o1, some (.int B), o3, o4, o5, o6, o7, o8, o9, o10, o11, o12, some (.ref f), a, o15] h) D := by
  unfold lrChk
  simp [ef]
  refine ⟨by omega, ?_⟩
  refine wS_range (CkI B l h fun a => [o0, o1, some (.int B), o3, o4, o5, o6, o7, o8, o9, o10, o11, o12, some (.ref f), a, o15]) ⟨⟨a, rfl⟩, Ext.refl _, goodN_nil⟩ ?_ ?_
  · rintro k s' h' hk ⟨⟨a, rfl⟩, ex, g⟩
    refine ⟨[o0, o1, some (.int B), o3, o4, o5, o6, o7, o8, o9, o10, o11, o12, some (.ref f), some (.int (k : Nat)), o15], rfl, ?_⟩
    have ef' := ex.at ef
    have ea : L2.atI (l.map fun n => Val.int (n : Nat)) (k : Int) = some (.int (l[k] : Nat)) := by
      rw [atI_cast, List.getElem?_map, List.getElem?_eq_getElem hk]; rfl
    have hlk : l[k]? = some l[k] := List.getElem?_eq_getElem hk
    have spl : l = l.take k ++ l[k] :: l.drop (k + 1) := by
      conv => lhs; rw [← List.take_append_drop k l]
      congr 1
      exact List.drop_eq_getElem_cons hk
    generalize l[k] = n at ea hlk spl
    have bad : ¬ (4 ≤ n ∧ n < B) ∨ n ∈ l.take k → ∀ h', Ext h h' → D.rt .non h' := fun q h' x => hn (by rw [spl]; exact goodN_bad q) h' x
    by_cases h4 : n < 4
    · simp [ef', ea, h4, show (n : Int) < 4 by omega]
      exact bad (.inl (by omega)) _ ex
    · by_cases hB : B ≤ n
      · simp [ef', ea, h4, hB, show ¬ (n : Int) < 4 by omega]
        exact bad (.inl (by omega)) _ ex
      · have x1 : Ext h' (h' ++ [Obj.lst ((l.map fun n => Val.int (n : Nat)).take k)]) := ⟨_, rfl⟩
        have ein := oIn_pl (neg := false) (x := .int n) (a := h'.length) (ys := (l.take k).map fun n => Val.int (n : Nat)) (h := h' ++ [Obj.lst ((l.take k).map fun n => Val.int (n : Nat))]) at_len rfl (ints_pl _)
        have ed : decide (Val.int (n : Nat) ∈ (l.take k).map fun n => Val.int (n : Nat)) = decide (n ∈ l.take k) := by
          rw [Bool.eq_iff_iff]; simp only [decide_eq_true_eq]; exact mem_ints
        rw [ed] at ein
        by_cases hm : n ∈ l.take k
        · simp [ef', ea, h4, hB, show ¬ (n : Int) < 4 by omega, show ¬ (B : Int) ≤ n by omega, cut_to, ← List.map_take, ein, hm]
          exact bad (.inr hm) _ (ex.app _)
        · simp [ef', ea, h4, hB, show ¬ (n : Int) < 4 by omega, show ¬ (B : Int) ≤ n by omega, cut_to, ← List.map_take, ein, hm]
          refine ⟨⟨_, rfl⟩, ex.app _, ?_⟩
          rw [take_one hlk]
          exact goodN_snoc g (by omega) (by omega) hm
  · rintro s' h' ⟨⟨a, rfl⟩, ex, g⟩
    rw [List.take_length] at g
    exact hg g a h' ex
structure LrI (P : List Cl) (B : Nat) (ws : List Nat) (own : Int) (h : Heap) (n : Nat) (s' : En) (h' : Heap) : Prop where
  k : ∃ a5 a6 a7 a8 a9 a10 a11 a12, s' = [some (encP P), some (encW ws), some (.int B), some (.int own), some (.ref h.length), a5, a6, a7, a8, a9, a10, a11, a12, none, none, none]
  x : Ext h h'
  f : h'[h.length]? = some (.lst (((P.take n).flatMap (pC ws own)).map encPr))
theorem fm_len {P : List Cl} {ws : List Nat} (hw : ws.length = 8) {own : Int} : ∀ {n : Nat}, P.length ≤ n → (P.flatMap (pC ws own)).length ≤ 8 * n := by
  induction P with
  | nil => intro n _; simp
  | cons c P ih =>
    intro n hn
    have a := ih (n := n - 1) (by simp at hn; omega)
    have b := seg_len hw (c := c)
    have e : (pC ws own c).length ≤ 8 := by
      unfold pC
      rw [List.length_map]
      exact Nat.le_trans (List.length_filter_le ..) b
    rw [List.flatMap_cons, List.length_append]
    simp at hn
    omega
theorem lrun_ok {P : List Cl} (g : GoodP P) {ws : List Nat} (hw : ws.length = 8) {B : Nat} {own : Int} {h : Heap} : ∃ x h', m__law_run [encP P, encW ws, .int B, .int own] h = .ok x h' ∧ RunQ B (pP ws own P) h x h' := by
  have w : wR (m__law_run [encP P, encW ws, .int B, .int own] h) (fun _ _ => False) (RunQ B (pP ws own P) h) := by
    rw [m__law_run_cut]
    obtain ⟨F, hF⟩ : ∃ F, F = lrRng := ⟨_, rfl⟩
    rw [← hF]
    refine wRB rfl ?_
    have l12 := lim12
    have l0 : 0 ≤ lim := by omega
    have lP := g.1
    simp [l0, gV]
    simp only [encP]
    refine wS_forM (LrI P B ws own h) _ 0 _ _ ⟨⟨_, _, _, _, _, _, _, _, rfl⟩, ⟨_, rfl⟩, at_len⟩ ?_ ?_
    · rintro i x s' h' _ hx ⟨⟨a5, a6, a7, a8, a9, a10, a11, a12, rfl⟩, ex, ef⟩
      simp only [Nat.sub_zero, List.getElem?_map] at hx
      obtain ⟨c, hc, rfl⟩ := Option.map_eq_some_iff.mp hx
      have gc := g.2 c (List.mem_of_getElem? hc)
      have hi : i < P.length := (List.getElem?_eq_some_iff.mp hc).1
      refine ⟨rfl, [some (encP P), some (encW ws), some (.int B), some (.int own), some (.ref h.length), some (.tup (c.gs.map encG)), some (.int c.st), some (encM c), some (encK c.kd), a9, a10, a11, a12, none, none, none], rfl, ?_⟩
      simp [gV]
      refine lrGuard_ok gc.g hw (fun b10 b11 b12 => ?_)
      have la : ((P.take i).flatMap (pC ws own)).length ≤ 24 := by
        have := fm_len (P := P.take i) hw (own := own) (n := i) (List.length_take_le ..)
        omega
      have gm := gc.m
      have fin : ∀ D : K4, D.nx = LrI P B ws own h (i + 1) → ∀ b10, wS (F [some (encP P), some (encW ws), some (.int B), some (.int own), some (.ref h.length), some (.tup (c.gs.map encG)), some (.int c.st), some (.int (mnOf ws c)), some (encK c.kd), some (.bl (c.gs.all (gB' ws))), b10, b11, b12, none, none, none] h') D := fun D hD b10 => by
        refine lrRng_ok hF hw gc.s gc.k (Nat.le_refl _) ex ef la (fun a h2 x2 e2 => ?_)
        rw [hD]
        refine ⟨⟨_, _, _, _, _, _, _, _, rfl⟩, x2, ?_⟩
        rw [fm_take hc]
        exact e2
      by_cases hm : c.mw = true
      · rw [if_pos hm] at gm
        have e1 : mnOf ws c = ws.getD c.mn 0 := by simp [mnOf, hm]
        have ea := ws_at hw gm
        rw [e1] at fin
        simp only [encM, if_pos hm]
        simp only [encW] at fin ⊢
        simp [isTy, tyOf, truth, gV, ea, -List.getD_eq_getElem?_getD, -List.all_eq_true]
        refine fin _ ?_ _
        rfl
      · have e1 : mnOf ws c = c.mn := by simp [mnOf, hm]
        rw [e1] at fin
        simp only [encM, if_neg hm]
        simp [isTy, tyOf, truth, gV]
        refine fin _ ?_ _
        rfl
    · rintro s' h' ⟨⟨a5, a6, a7, a8, a9, a10, a11, a12, rfl⟩, ex, ef⟩
      rw [take_all] at ef
      refine ⟨rfl, ?_⟩
      have la := fm_len (P := P) hw (own := own) (n := 4) lP
      simp [ef]
      refine wR_lcXm (fun x => match x with | .tup (y :: _) => y | _ => .non) (by rw [List.length_map]; omega) (fun h2 x2 => lstIs_at (x2.at ef)) (fun x h2 hx x2 => ⟨_, rfl, ?_⟩) (fun h2 x2 e2 => ?_)
      · obtain ⟨t, ht, rfl⟩ := List.mem_map.mp hx
        simp [wipeE, encPr]
        exact Ext.refl _
      · have e2' : h2[h'.length]? = some (.lst ((nmz (P.flatMap (pC ws own))).map fun n => .int (n : Nat))) := by
          rw [e2, nmz, List.map_map, List.map_map]; rfl
        refine lrChk_ok e2' (by rw [nmz, List.length_map]; omega) (fun gg a h3 x3 => ?_) (fun gg h3 x3 => ?_)
        · simp [x3.at (x2.at ef)]
          exact ⟨ex.trans (x2.trans x3), .inl ⟨gg, rfl⟩⟩
        · exact ⟨ex.trans (x2.trans x3), .inr ⟨gg, rfl⟩⟩
  obtain ⟨x, h', e, q⟩ := ex_of_wR w
  exact ⟨x, h', e, q⟩
end Lw

set_option Elab.async false
set_option linter.all false
set_option autoImplicit false
set_option maxHeartbeats 4000000
set_option maxRecDepth 100000
namespace Lw
open PyM
def lwWords : En → Heap → RS := (sSeq (sAsg (gV 11) (mL bTuple (mCons (mLc (iRng1 (mCons (mK (.int 8)) (mNil))) (gV 14) (tTrue) (mB oIx (mLst (mCons (mK (.int 0)) (mCons (mCall m__law_next [] (mCons (mV 1) (mCons (mK (.int 6)) (mNil)))) (mCons (mB oAdd (mK (.int 4)) (mCall m__law_next [] (mCons (mV 1) (mCons (mK (.int 12)) (mNil))))) (mCons (mV 2) (mNil)))))) (mCall m__law_next [] (mCons (mV 1) (mCons (mK (.int 4)) (mNil))))) [14]) (mNil))))
    (sSeq (sAsg (gV 12) (mCall m__law_next [] (mCons (mV 1) (mCons (mMeth 0 m_Types_count [] (mV 3) (mNil)) (mNil)))))
    (sSeq (sAsg (gV 10) (mTup (mNil)))
    (sSeq (sIf (tB_ (mB (oEq false) (mV 12) (mK (.int 1)))) (sAsg (gV 10) (mCall m__law_root [] (mCons (mV 11) (mCons (mV 2) (mCons (mMeth 0 m_Types_count [] (mV 3) (mNil)) (mNil)))))) (sIf (tB_ (mB oGt (mV 12) (mK (.int 1)))) (sAsg (gV 10) (mCall m__law_run [] (mCons (mB oIx (mV 4) (mB (oI fun i j => .int (i - j)) (mV 12) (mK (.int 2)))) (mCons (mV 11) (mCons (mV 2) (mCons (mV 12) (mNil))))))) (sNx)))
    (sIf (tB_ (mB (oEq true) (mMeth 0 m_Types_owned [] (mV 3) (mCons (mV 12) (mCons (mV 11) (mNil)))) (mV 10))) (sRet (mK (.bl false))) (sNx))))))
def lwChk : En → Heap → RS := (sSeq (sIf (tOr_ (tB_ (mB (oEq true) (mMeth 0 m_Types_programs [] (mV 3) (mNil)) (mV 4))) (tB_ (mB (oEq true) (mMeth 0 m_Types_count [] (mV 3) (mNil)) (mB oAdd (mK (.int 2)) (mL bLen (mCons (mV 4) (mNil))))))) (sRet (mK (.bl false))) (sNx))
    (sIf (tOr_ (tB_ (mB (oIsB true) (mMeth 0 m_Types_is_known [] (mV 3) (mCons (mB oAdd (mK (.int 1)) (mL bLen (mCons (mV 4) (mNil)))) (mNil))) (mK (.bl true)))) (tB_ (mB (oIsB true) (mMeth 0 m_Types_is_known [] (mV 3) (mCons (mB oAdd (mK (.int 2)) (mL bLen (mCons (mV 4) (mNil)))) (mNil))) (mK (.bl false))))) (sRet (mK (.bl false))) (sNx)))
def lwAdd : En → Heap → RS := (sSeq (sAsg (gV 9) (mCall m__law_next [] (mCons (mV 1) (mCons (mK (.int 4)) (mNil)))))
    (sSeq (sAsg (gV 10) (mK .non))
    (sSeq (sIf (tAn (tTr (mV 8)) (tB_ (mB (oIn false) (mV 7) (mV 4)))) (sAsg (gV 10) (mB oAdd (mK (.int 2)) (mBM bIndex (mV 4) (mCons (mV 7) (mNil))))) (sIf (tAn (tTr (mV 8)) (tB_ (mB oLt (mBM bCount (mV 5) (mCons (mV 9) (mNil))) (mK (.int 4))))) (sSeq (sAsg (gV 10) (mB oAdd (mK (.int 2)) (mL bLen (mCons (mV 4) (mNil)))))
    (sSeq (sDrop (mBM bAppend (mV 4) (mCons (mV 7) (mNil))))
    (sDrop (mBM bAppend (mV 5) (mCons (mV 9) (mNil)))))) (sNx)))
    (sSeq (sIf (tB_ (mB (oEq true) (mMeth 0 m_Types_add [] (mV 3) (mCons (mV 7) (mCons (mV 9) (mNil)))) (mV 10))) (sRet (mK (.bl false))) (sNx))
    lwChk))))
def lwSpoil : En → Heap → RS := (sSeq (sIf (tB_ (mB (oEq false) (mCall m__law_next [] (mCons (mV 1) (mCons (mK (.int 8)) (mNil)))) (mK (.int 0)))) (sSeq (sAsg (gV 7) (mB oIx (mLst (mCons (mL bList (mCons (mV 7) (mNil))) (mCons (mK .non) (mCons (mB oAdd (mV 7) (mTup (mCons (mTup (mCons (mTup (mNil)) (mCons (mK (.int 0)) (mCons (mK (.int 1)) (mCons (mK (.int 40)) (mNil)))))) (mNil)))) (mNil))))) (mCall m__law_next [] (mCons (mV 1) (mCons (mK (.int 3)) (mNil))))))
    (sAsg (gV 8) (mK (.bl false)))) (sNx))
    lwAdd)
def lwGood : En → Heap → RS := (sSeq (sAsg (gV 8) (mB (oEq false) (mL bLen (mCons (mLc (iAlt (iLst (mV 7)) (iTup_ (mV 7))) (gV 13) (tAn (tB_ (mB (oEq false) (mB oIx (mV 13) (mK (.int 3))) (mK (.int 2)))) (tB_ (mB (oEq false) (mV 4) (mLst (mNil))))) (mV 13) [13]) (mNil))) (mK (.int 0))))
    lwSpoil)
def lwTurn : En → Heap → RS := (sSeq (sAsg (gV 7) (mCall m__law_program [] (mCons (mV 1) (mNil))))
    (sSeq (sIf (tAn (tB_ (mB (oEq true) (mV 4) (mLst (mNil)))) (tB_ (mB (oEq false) (mCall m__law_next [] (mCons (mV 1) (mCons (mK (.int 4)) (mNil)))) (mK (.int 0))))) (sAsg (gV 7) (mB oIx (mV 4) (mCall m__law_next [] (mCons (mV 1) (mCons (mL bLen (mCons (mV 4) (mNil))) (mNil)))))) (sNx))
    lwGood))
theorem m_law_cut : m_law = runB 1 15
    (sSeq (sAsg (gV 1) (mLst (mCons (mL bList (mCons (mV 0) (mNil))) (mCons (mK (.int 0)) (mCons (mK (.int 0)) (mCons (mK (.int 7)) (mNil)))))))
    (sSeq (sAsg (gV 2) (mB oAdd (mK (.int 24)) (mCall m__law_next [] (mCons (mV 1) (mCons (mK (.int 41)) (mNil))))))
    (sSeq (sAsg (gV 3) (mMake 0 m_Types___init__ [] (mCons (mV 2) (mNil))))
    (sSeq (sAsg (gV 4) (mLst (mNil)))
    (sSeq (sAsg (gV 5) (mLst (mNil)))
    (sSeq (sIf (tOr_ (tB_ (mB (oEq true) (mK (.int 4)) (mK (.int 4)))) (tOr_ (tB_ (mB (oEq true) (mMeth 0 m_Types_count [] (mV 3) (mNil)) (mK (.int 2)))) (tB_ (mB (oEq true) (mMeth 0 m_Types_programs [] (mV 3) (mNil)) (mLst (mNil)))))) (sRet (mK (.bl false))) (sNx))
    (sSeq (sFor (iRng1 (mCons (mB oAdd (mK (.int 1)) (mCall m__law_next [] (mCons (mV 1) (mCons (mK (.int 16)) (mNil))))) (mNil))) (gV 6) lwTurn)
    (sSeq (sFor (iRng1 (mCons (mK (.int 12)) (mNil))) (gV 6) lwWords)
    (sRet (mAn (mB (oIsB false) (mMeth 0 m_Types_is_known [] (mV 3) (mCons (mK .non) (mNil))) (mK (.bl false))) (mAn (mB (oIsB false) (mMeth 0 m_Types_is_known [] (mV 3) (mCons (mK (.bl true)) (mNil))) (mK (.bl false))) (mB (oIsB false) (mMeth 0 m_Types_is_known [] (mV 3) (mCons (mU oNeg (mK (.int 1))) (mNil))) (mK (.bl false)))))))))))))) := rfl

theorem pl_all {n : Nat} {xs : List Val} (h : ∀ x ∈ xs, pl n x = true) : pl (n + 1) (.tup xs) = true := by
  show xs.all (pl n) = true
  exact List.all_eq_true.mpr h
theorem encG_pl {g : Nat × Nat × Nat} : pl 5 (encG g) = true := rfl
theorem encM_pl {c : Cl} : pl 6 (encM c) = true := by
  unfold encM; split <;> rfl
theorem encK_pl {k : Nat} : pl 6 (encK k) = true := by
  unfold encK; split
  · rfl
  · split <;> rfl
theorem encC_pl {c : Cl} : pl 7 (encC c) = true := by
  refine pl_all fun x hx => ?_
  simp only [List.mem_cons, List.not_mem_nil, or_false] at hx
  rcases hx with rfl | rfl | rfl | rfl
  · refine pl_all fun x hx => ?_
    obtain ⟨g, _, rfl⟩ := List.mem_map.mp hx
    exact encG_pl
  · rfl
  · exact encM_pl
  · exact encK_pl
theorem pl_up {x : Val} : ∀ {n m : Nat}, n ≤ m → pl n x = true → pl m x = true := by
  intro n
  induction n generalizing x with
  | zero => intro m _ e; simp [pl] at e
  | succ n ih =>
    intro m hm e
    obtain ⟨m, rfl⟩ : ∃ k, m = k + 1 := ⟨m - 1, by omega⟩
    cases x with
    | tup xs =>
      simp only [pl, List.all_eq_true] at e ⊢
      exact fun y hy => ih (by omega) (e y hy)
    | bl b => simp [pl] at e
    | ref b => simp [pl] at e
    | _ => rfl
theorem encP_pl {P : List Cl} : pl 8 (encP P) = true := by
  refine pl_all fun x hx => ?_
  obtain ⟨c, _, rfl⟩ := List.mem_map.mp hx
  exact encC_pl
theorem encPs_pl {Ps : List (List Cl)} : (Ps.map encP).all (pl 59) = true := by
  refine List.all_eq_true.mpr fun x hx => ?_
  obtain ⟨c, _, rfl⟩ := List.mem_map.mp hx
  exact pl_up (by omega) encP_pl
structure TO (B : Nat) (Ps : List (List Cl)) (es : List Int) (d kn mk : Nat) (h : Heap) : Prop where
  eD : h[d]? = some (.ins 0 [(0, .int B), (1, .ref kn), (2, .ref mk)])
  eK : h[kn]? = some (.lst (Ps.map encP))
  eM : h[mk]? = some (.lst (es.map Val.int))
  n1 : d ≠ kn
  n2 : d ≠ mk
  n3 : kn ≠ mk
structure TI (B : Nat) (Ps : List (List Cl)) (es : List Int) (d kn mk L M : Nat) (ns : List Int) (h : Heap) : Prop where
  O : TO B Ps es d kn mk h
  eL : h[L]? = some (.lst (Ps.map encP))
  eN : h[M]? = some (.lst (es.map Val.int))
  T : TP 2 1 ns h
  nd : [2, 1, d, kn, mk, L, M].Nodup
  gP : ∀ P ∈ Ps, GoodP P
section
variable {B : Nat} {Ps : List (List Cl)} {es : List Int} {d kn mk L M : Nat} {ns : List Int} {h h' : Heap}
theorem TI.ne (I : TI B Ps es d kn mk L M ns h) : (d ≠ 2 ∧ kn ≠ 2 ∧ mk ≠ 2 ∧ L ≠ 2 ∧ M ≠ 2) ∧ (d ≠ 1 ∧ kn ≠ 1 ∧ mk ≠ 1 ∧ L ≠ 1 ∧ M ≠ 1) ∧ (d ≠ kn ∧ d ≠ mk ∧ d ≠ L ∧ d ≠ M) ∧ (kn ≠ mk ∧ kn ≠ L ∧ kn ≠ M) ∧ (mk ≠ L ∧ mk ≠ M) ∧ L ≠ M := by
  have := I.nd
  simp at this
  omega
theorem TO.fr (I : TO B Ps es d kn mk h) {S : List Nat} (f : Fs S h h') (h1 : d ∉ S) (h2 : kn ∉ S) (h3 : mk ∉ S) : TO B Ps es d kn mk h' :=
  ⟨f.at h1 I.eD, f.at h2 I.eK, f.at h3 I.eM, I.n1, I.n2, I.n3⟩
theorem TO.ext (I : TO B Ps es d kn mk h) (x : Ext h h') : TO B Ps es d kn mk h' := I.fr (x.fs []) (by simp) (by simp) (by simp)
theorem TI.fr (I : TI B Ps es d kn mk L M ns h) (f : Fr 2 h h') (T : TP 2 1 ns h') : TI B Ps es d kn mk L M ns h' := by
  obtain ⟨⟨a1, a2, a3, a4, a5⟩, _⟩ := I.ne
  exact ⟨⟨f.at a1 I.O.eD, f.at a2 I.O.eK, f.at a3 I.O.eM, I.O.n1, I.O.n2, I.O.n3⟩, f.at a4 I.eL, f.at a5 I.eN, T, I.nd, I.gP⟩
theorem TI.ext (I : TI B Ps es d kn mk L M ns h) (x : Ext h h') : TI B Ps es d kn mk L M ns h' := I.fr (x.fr 2) (I.T.ext x)
theorem TO.isI (I : TO B Ps es d kn mk h) : isIns 0 (.ref d) h = true := by simp [isIns, I.eD]
theorem count_ok (I : TO B Ps es d kn mk h) : m_Types_count [.ref d] h = .ok (.int (2 + Ps.length)) h := by
  refine eq_of_wR ?_
  unfold m_Types_count
  refine wRB rfl ?_
  simp [I.eD, lookF, I.eK]
theorem programs_ok (I : TO B Ps es d kn mk h) : m_Types_programs [.ref d] h = .ok (.ref h.length) (h ++ [Obj.lst (Ps.map encP)]) := by
  refine eq_of_wR ?_
  unfold m_Types_programs
  refine wRB rfl ?_
  simp [I.eD, lookF, I.eK]
theorem isk_ok (I : TO B Ps es d kn mk h) {n : Int} : m_Types_is_known [.ref d, .int n] h = .ok (.bl (decide (0 ≤ n) && decide (n < 2 + Ps.length))) h := by
  have e : m_is_number [.int n] h = .ok (.bl true) h := rfl
  refine eq_of_wR ?_
  unfold m_Types_is_known
  refine wRB rfl ?_
  by_cases h0 : 0 ≤ n
  · simp [e, h0, I.isI, count_ok I]
  · simp [e, h0]
theorem isk_non (I : TO B Ps es d kn mk h) : m_Types_is_known [.ref d, .non] h = .ok (.bl false) h := by
  have e : m_is_number [.non] h = .ok (.bl false) h := rfl
  refine eq_of_wR ?_
  unfold m_Types_is_known
  refine wRB rfl ?_
  simp [e]
theorem isk_bl (I : TO B Ps es d kn mk h) {b : Bool} : m_Types_is_known [.ref d, .bl b] h = .ok (.bl false) h := by
  have e : m_is_number [.bl b] h = .ok (.bl false) h := rfl
  refine eq_of_wR ?_
  unfold m_Types_is_known
  refine wRB rfl ?_
  simp [e]
def cnt (es : List Int) (e : Int) : Nat := (es.map Val.int).countP fun z => feq z (.int e)
theorem flat_ints : (es.map Val.int).all isFlat = true := by
  refine List.all_eq_true.mpr fun x hx => ?_
  obtain ⟨n, _, rfl⟩ := List.mem_map.mp hx
  rfl
theorem bCount_ints {a : Nat} {e : Int} (ea : h[a]? = some (.lst (es.map Val.int))) : bCount (.ref a) [.int e] h = .ok (.int (cnt es e : Nat)) h := by
  refine eq_of_wR ?_
  rw [wR_bCount, ea]
  exact ⟨⟨rfl, flat_ints⟩, rfl, rfl⟩
/-- what stands in the turn's name, and whether it is good -/
structure PV (Ps : List (List Cl)) (x : Val) (g : Bool) (h : Heap) : Prop where
  p : ∀ h', g = true ∨ Fr 2 h h' → ∃ h2, m_is_program [x, .int (2 + Ps.length)] h' = .ok (.bl g) h2 ∧ Ext h' h2
  q : g = true → ∃ P, GoodP P ∧ x = encP P
theorem PV.fr {x : Val} {g : Bool} (p : PV Ps x g h) (e : Fr 2 h h') : PV Ps x g h' := ⟨fun h2 x2 => p.p h2 (x2.imp id fun q => e.trans q), p.q⟩
/-- what is told, and the lists behind it -/
def due (Ps : List (List Cl)) (es : List Int) (x : Val) (g : Bool) (e : Int) : Val := if g = true ∧ x ∈ Ps.map encP then .int (2 + ((Ps.map encP).idxOf x : Nat)) else if g = true ∧ cnt es e < 4 then .int (2 + Ps.length) else .non
def adds (Ps : List (List Cl)) (es : List Int) (x : Val) (g : Bool) (e : Int) : Bool := g && !decide (x ∈ Ps.map encP) && decide (cnt es e < 4)
theorem add_ok (I : TO B Ps es d kn mk h) {x : Val} {g : Bool} (p : PV Ps x g h) {e : Int} (hl : Ps.length < 900) (hl2 : es.length < 900) : ∃ h1, Ext h h1 ∧ m_Types_add [.ref d, x, .int e] h = .ok (due Ps es x g e) (if adds Ps es x g e = true then (h1.set kn (.lst (Ps.map encP ++ [x]))).set mk (.lst (es.map Val.int ++ [.int e])) else h1) := by
  obtain ⟨h1, e1, x1⟩ := p.p h (.inr (Fr.refl _ _))
  refine ⟨h1, x1, ?_⟩
  have I1 := I.ext x1
  have n1 := I.n1
  have n2 := I.n2
  have n3 := I.n3
  have l12 := lim12
  have ll : 1000 < lim := by decide
  refine eq_of_wR ?_
  unfold m_Types_add
  refine wRB rfl ?_
  cases g with
  | false => simp [I.isI, count_ok I, e1, truth, due, adds]
  | true =>
    obtain ⟨P, gP, rfl⟩ := p.q rfl
    have ein := oIn_pl (neg := false) (x := encP P) I1.eK (pl_up (by omega) encP_pl) encPs_pl
    by_cases hm : encP P ∈ Ps.map encP
    · have ei := bIndex_pl I1.eK (pl_up (by omega) encP_pl) encPs_pl hm
      rw [decide_eq_true hm] at ein
      simp [I.isI, count_ok I, e1, truth, I1.eD, lookF, ein, seqOf_at I1.eK, ei, due, adds, hm, -List.mem_map, -wR_bCount]
    · rw [decide_eq_false hm] at ein
      have ec := bCount_ints (e := e) I1.eM
      by_cases hc : cnt es e < 4
      · have a1 : (h1.set kn (.lst (Ps.map encP ++ [encP P])))[d]? = some (.ins 0 [(0, .int B), (1, .ref kn), (2, .ref mk)]) := by rw [at_set_ne (by omega)]; exact I1.eD
        have a2 : (h1.set kn (.lst (Ps.map encP ++ [encP P])))[mk]? = some (.lst (es.map Val.int)) := by rw [at_set_ne (by omega)]; exact I1.eM
        have a3 : ((h1.set kn (.lst (Ps.map encP ++ [encP P]))).set mk (.lst (es.map Val.int ++ [.int e])))[d]? = some (.ins 0 [(0, .int B), (1, .ref kn), (2, .ref mk)]) := by rw [at_set_ne (by omega)]; exact a1
        have a4 : ((h1.set kn (.lst (Ps.map encP ++ [encP P]))).set mk (.lst (es.map Val.int ++ [.int e])))[kn]? = some (.lst (Ps.map encP ++ [encP P])) := by rw [at_set_ne (by omega)]; exact at_set I1.eK
        have ect : m_Types_count [.ref d] ((h1.set kn (.lst (Ps.map encP ++ [encP P]))).set mk (.lst (es.map Val.int ++ [.int e]))) = .ok (.int (2 + (Ps.length + 1 : Nat))) ((h1.set kn (.lst (Ps.map encP ++ [encP P]))).set mk (.lst (es.map Val.int ++ [.int e]))) := by
          refine eq_of_wR ?_
          unfold m_Types_count
          refine wRB rfl ?_
          simp [a3, lookF, a4]
        have i3 : isIns 0 (.ref d) ((h1.set kn (.lst (Ps.map encP ++ [encP P]))).set mk (.lst (es.map Val.int ++ [.int e]))) = true := by simp [isIns, a3]
        have hc' : ¬ 4 ≤ cnt es e := by omega
        simp [I.isI, count_ok I, e1, truth, I1.eD, lookF, ein, seqOf_at I1.eM, ec, hc, hc', seqOf_at I1.eK, I1.eK, show Ps.length < lim by omega, a1, seqOf_at a2, a2, show es.length < lim by omega, i3, ect, due, adds, hm, -List.mem_map, -wR_bCount]
        omega
      · have hc' : 4 ≤ cnt es e := by omega
        simp [I.isI, count_ok I, e1, truth, I1.eD, lookF, ein, seqOf_at I1.eM, ec, hc, hc', due, adds, hm, -List.mem_map, -wR_bCount]
        intro q; omega
end
end Lw

set_option Elab.async false
set_option linter.all false
set_option autoImplicit false
set_option maxHeartbeats 4000000
set_option maxRecDepth 100000
namespace Lw
open PyM
theorem init_ok {B : Int} {h : Heap} {d : Nat} (hd : h[d]? = some (.ins 0 [])) :
    ∃ h', m_Types___init__ [.ref d, .int B] h = .ok .non h' ∧ Fr d h h' ∧ h'[d]? = some (.ins 0 [(0, .int B), (1, .ref h.length), (2, .ref (h.length + 1))]) ∧ h'[h.length]? = some (.lst []) ∧ h'[h.length + 1]? = some (.lst []) := by
  have w : wR (m_Types___init__ [.ref d, .int B] h) (fun _ _ => False) fun x h' => x = .non ∧ Fr d h h' ∧ h'[d]? = some (.ins 0 [(0, .int B), (1, .ref h.length), (2, .ref (h.length + 1))]) ∧ h'[h.length]? = some (.lst []) ∧ h'[h.length + 1]? = some (.lst []) := by
    unfold m_Types___init__
    refine wRB rfl ?_
    have l12 := lim12
    have l0 : 0 ≤ lim := by omega
    have e1 : ∀ o g, (h.set d o ++ g)[d]? = some o := fun o g => at_push (at_set hd)
    have e2 : ∀ o o' g g', (((h.set d o ++ g).set d o') ++ g')[d]? = some o' := fun o o' g g' => at_push (at_set (e1 o g))
    have dl := at_lt hd
    simp [hd, setF, l0, ↓e1, ↓e2]
    refine ⟨(((((Fr.refl d h).set _).push _).set _).push _).set _, at_set (e2 _ _ _ _), ?_, ?_⟩
    · rw [at_set_ne (by omega)]
      refine at_push ?_
      rw [at_set_ne (by omega)]
      exact at_app 0 (by simp) rfl
    · apply Option.some.inj
      rw [← List.getElem?_eq_getElem, at_set_ne (by omega)]
      exact at_app 0 (by simp) rfl
  obtain ⟨x, h', e, rfl, q⟩ := ex_of_wR w
  exact ⟨h', e, q⟩
section
variable {B : Nat} {Ps : List (List Cl)} {es : List Int} {d kn mk L M : Nat} {ns : List Int} {h h' : Heap} {o0 o6 o7 o8 o9 o10 o11 o12 o13 o14 : Option Val} {D : K4}
theorem due_pl {x : Val} {g : Bool} {e : Int} : pl 60 (due Ps es x g e) = true := by
  unfold due
  split
  · rfl
  · split <;> rfl
theorem lwChk_ok (I : TI B Ps es d kn mk L M ns h) (hl : Ps.length < 900)
    (hD : ∀ h', TI B Ps es d kn mk L M ns h' → D.nx [o0, some (.ref 2), some (.int B), some (.ref d), some (.ref L), some (.ref M), o6, o7, o8, o9, o10, o11, o12, o13, o14] h') :
    wS (lwChk [o0, some (.ref 2), some (.int B), some (.ref d), some (.ref L), some (.ref M), o6, o7, o8, o9, o10, o11, o12, o13, o14] h) D := by
  have e1 := programs_ok I.O
  have q1 : oEq true (.ref h.length) (.ref L) (h ++ [Obj.lst (Ps.map encP)]) = .ok (.bl false) (h ++ [Obj.lst (Ps.map encP)]) := by
    rw [oEq_lst (xs := Ps.map encP) (ys := Ps.map encP) at_len (at_push I.eL) encPs_pl encPs_pl]; simp
  have I1 := I.ext (h' := h ++ [Obj.lst (Ps.map encP)]) ⟨_, rfl⟩
  generalize h ++ [Obj.lst (Ps.map encP)] = h1 at e1 q1 I1
  have k1 : m_Types_is_known [.ref d, .int (1 + Ps.length)] h1 = .ok (.bl true) h1 := by
    rw [isk_ok I1.O]
    have : (decide ((0 : Int) ≤ 1 + Ps.length) && decide ((1 + Ps.length : Int) < 2 + Ps.length)) = true := by simp; omega
    rw [this]
  have k2 : m_Types_is_known [.ref d, .int (2 + Ps.length)] h1 = .ok (.bl false) h1 := by
    rw [isk_ok I1.O]; simp
  unfold lwChk
  simp [I.O.isI, e1, q1, I1.O.isI, count_ok I1.O, I1.eL, k1, k2, hD _ I1]
theorem lwAdd_ok (I : TI B Ps es d kn mk L M ns h) (hl : Ps.length < 800) (hl2 : es.length < 800) {x : Val} {g : Bool} (p : PV Ps x g h)
    (hD : ∀ a9 a10 Ps' es' h', Ps'.length ≤ Ps.length + 1 → es'.length ≤ es.length + 1 → TI B Ps' es' d kn mk L M ns h' → D.nx [o0, some (.ref 2), some (.int B), some (.ref d), some (.ref L), some (.ref M), o6, some x, some (.bl g), a9, a10, o11, o12, o13, o14] h') :
    wS (lwAdd [o0, some (.ref 2), some (.int B), some (.ref d), some (.ref L), some (.ref M), o6, some x, some (.bl g), o9, o10, o11, o12, o13, o14] h) D := by
  have n := I.ne
  have ll : 1000 < lim := by decide
  obtain ⟨e, h1, e0, e4, en, T1, f1, _⟩ := I.T.next2 nx_eq (n := 4) (by decide) (by decide)
  have I1 := I.fr f1 T1
  have p1 := p.fr f1
  have dpl := due_pl (Ps := Ps) (es := es) (x := x) (g := g) (e := e)
  have ec := bCount_ints (e := e) I1.eN
  unfold lwAdd
  by_cases ha : adds Ps es x g e = true
  · have hg : g = true := by cases g with
      | true => rfl
      | false => simp [adds] at ha
    subst hg
    obtain ⟨P, gP, rfl⟩ := p.q rfl
    have ha' := ha
    simp only [adds, Bool.and_eq_true, Bool.not_eq_true', decide_eq_false_iff_not, decide_eq_true_eq, true_and] at ha'
    obtain ⟨hm, hc⟩ := ha'
    have ein := oIn_pl (neg := false) (x := encP P) I1.eL (pl_up (by omega) encP_pl) encPs_pl
    rw [decide_eq_false hm] at ein
    have hcI : ((cnt es e : Nat) : Int) < 4 := by omega
    have edue : due Ps es (encP P) true e = .int (2 + Ps.length) := by simp [due, hm, hc, -List.mem_map]
    -- the law's lists
    have b1 : (h1.set L (.lst (Ps.map encP ++ [encP P])))[M]? = some (.lst (es.map Val.int)) := by rw [at_set_ne (by omega)]; exact I1.eN
    generalize hh2 : (h1.set L (.lst (Ps.map encP ++ [encP P]))).set M (.lst (es.map Val.int ++ [.int e])) = h2
    have f2 : Fs [L, M] h1 h2 := by rw [← hh2]; exact ((Fs.refl _ _).set (by simp) _).set (by simp) _
    have O2 := I1.O.fr f2 (by simp; omega) (by simp; omega) (by simp; omega)
    have T2 := I1.T.fs f2 (by simp; omega) (by simp; omega)
    have eL2 : h2[L]? = some (.lst (Ps.map encP ++ [encP P])) := by rw [← hh2, at_set_ne (by omega)]; exact at_set I1.eL
    have eN2 : h2[M]? = some (.lst (es.map Val.int ++ [.int e])) := by rw [← hh2]; exact at_set b1
    have p2 : PV Ps (encP P) true h2 := ⟨fun h' _ => p.p h' (.inl rfl), p.q⟩
    obtain ⟨h3, x3, ea⟩ := add_ok O2 p2 (e := e) (by omega) (by omega)
    rw [if_pos ha, edue] at ea
    have O3 := O2.ext x3
    have T3 := T2.ext x3
    have c1 : (h3.set kn (.lst (Ps.map encP ++ [encP P])))[mk]? = some (.lst (es.map Val.int)) := by rw [at_set_ne (by omega)]; exact O3.eM
    generalize hh4 : (h3.set kn (.lst (Ps.map encP ++ [encP P]))).set mk (.lst (es.map Val.int ++ [.int e])) = h4 at ea
    have f4 : Fs [kn, mk] h3 h4 := by rw [← hh4]; exact ((Fs.refl _ _).set (by simp) _).set (by simp) _
    have I4 : TI B (Ps ++ [P]) (es ++ [e]) d kn mk L M ns h4 := by
      refine ⟨⟨f4.at (by simp; omega) O3.eD, ?_, ?_, O3.n1, O3.n2, O3.n3⟩, ?_, ?_, T3.fs f4 (by simp; omega) (by simp; omega), I.nd, ?_⟩
      · rw [← hh4, at_set_ne (by omega), at_set O3.eK, List.map_append]; rfl
      · rw [← hh4, at_set c1, List.map_append]; rfl
      · rw [f4.at (by simp; omega) (x3.at eL2), List.map_append]; rfl
      · rw [f4.at (by simp; omega) (x3.at eN2), List.map_append]; rfl
      · intro Q hQ
        rcases List.mem_append.mp hQ with hQ | hQ
        · exact I.gP Q hQ
        · rw [List.mem_singleton.mp hQ]; exact gP
    simp [en, gV, truth, ein, seqOf_at I1.eN, ec, hcI, I1.eL, seqOf_at I1.eL, show Ps.length < lim by omega, seqOf_at b1, b1, show es.length < lim by omega, hh2, O2.isI, ea, -wR_bCount]
    exact lwChk_ok I4 (by simp; omega) (fun h' I' => hD _ _ _ _ _ (by simp) (by simp) I')
  · obtain ⟨h2, x2, ea⟩ := add_ok I1.O p1 (e := e) (by omega) (by omega)
    rw [if_neg ha] at ea
    have I2 := I1.ext x2
    have qe := oEq_self (neg := true) (h := h2) dpl
    have fin := lwChk_ok (o0 := o0) (o6 := o6) (o7 := some x) (o8 := some (.bl g)) (o9 := some (.int e)) (o10 := some (due Ps es x g e)) (o11 := o11) (o12 := o12) (o13 := o13) (o14 := o14) (D := D) I2 (by omega) (fun h' I' => hD _ _ Ps es _ (by omega) (by omega) I')
    cases g with
    | false =>
      have ed : due Ps es x false e = .non := by simp [due]
      rw [ed] at ea qe fin
      simp [en, gV, truth, I1.O.isI, ea, qe]
      exact fin
    | true =>
      obtain ⟨P, gP, rfl⟩ := p.q rfl
      have ein := oIn_pl (neg := false) (x := encP P) I1.eL (pl_up (by omega) encP_pl) encPs_pl
      by_cases hm : encP P ∈ Ps.map encP
      · rw [decide_eq_true hm] at ein
        have ei := bIndex_pl I1.eL (pl_up (by omega) encP_pl) encPs_pl hm
        have ed : due Ps es (encP P) true e = .int (2 + ((Ps.map encP).idxOf (encP P) : Nat)) := by simp [due, hm, -List.mem_map]
        rw [ed] at ea qe fin
        simp [en, gV, truth, ein, seqOf_at I1.eL, ei, I1.O.isI, ea]
        exact fin
      · rw [decide_eq_false hm] at ein
        have hc : ¬ cnt es e < 4 := by
          intro hc
          exact ha (by simp [adds, hm, hc, -List.mem_map])
        have hcI : ¬ ((cnt es e : Nat) : Int) < 4 := by omega
        have ed : due Ps es (encP P) true e = .non := by simp [due, hm, hc, -List.mem_map]
        rw [ed] at ea qe fin
        simp [en, gV, truth, ein, seqOf_at I1.eN, ec, hcI, I1.O.isI, ea, qe, -wR_bCount]
        exact fin
end
end Lw

set_option Elab.async false
set_option linter.all false
set_option autoImplicit false
set_option maxHeartbeats 4000000
set_option maxRecDepth 100000
namespace Lw
open PyM
def badC : Val := .tup [.tup [], .int 0, .int 1, .int 40]
theorem badC_no {cnt : Int} (hc : cnt ≤ 40) {h : Heap} : ∃ h', m_is_clause [badC, .int cnt] h = .ok (.bl false) h' ∧ Ext h h' := by
  have q := clause_ok (gs := []) (st := .int 0) (mn := .int 1) (kd := .int 40) (cnt := cnt) (h := h) (fun _ => true) (ib := true) (mb := true) (by simp) (fun x hx => by cases hx) (fun h => by rw [index_ok]; rfl) (fun _ h => by rw [many_int]; rfl) (.int 40)
  have e : (decide ((40 : Int) = 0) || (decide ((2 : Int) ≤ 40) && decide ((40 : Int) < cnt))) = false := by simp; omega
  rw [e] at q
  exact q
theorem prog_more {P : List Cl} (g : GoodP P) {cnt : Int} (hc : cnt ≤ 40) {h : Heap} : ∃ h', m_is_program [.tup (P.map encC ++ [badC]), .int cnt] h = .ok (.bl false) h' ∧ Ext h h' := by
  have lP := g.1
  have := program_run (rows := P.map encC ++ [badC]) (cnt := cnt) (h := h) (fun i => match P[i]? with | some c => decide (c.kd ≠ 2) || decide (2 < cnt) | none => false) (by simp; omega) (fun i x h' hx ex => by
    by_cases hi : i < (P.map encC).length
    · rw [List.getElem?_append_left hi, List.getElem?_map] at hx
      obtain ⟨c, hc, rfl⟩ := Option.map_eq_some_iff.mp hx
      obtain ⟨h2, e, x2⟩ := clause_good (g.2 c (List.mem_of_getElem? hc)) (cnt := cnt) (h := h')
      exact ⟨h2, by rw [hc]; exact e, x2⟩
    · rw [List.getElem?_append_right (by omega)] at hx
      have : x = badC := by
        have hm := List.mem_of_getElem? hx
        simpa using hm
      subst this
      obtain ⟨h2, e, x2⟩ := badC_no hc (h := h')
      have en : P[i]? = none := List.getElem?_eq_none (by simpa using hi)
      exact ⟨h2, by rw [en]; exact e, x2⟩)
  obtain ⟨h', e, x⟩ := this
  refine ⟨h', ?_, x⟩
  rw [e]
  congr 2
  rw [List.all_eq_false]
  refine ⟨P.length, List.mem_range.mpr (by simp), ?_⟩
  rw [List.getElem?_eq_none (Nat.le_refl _)]
  simp
section
variable {B : Nat} {Ps : List (List Cl)} {es : List Int} {d kn mk L M : Nat} {ns : List Int} {h h' : Heap} {o0 o6 o7 o8 o9 o10 o11 o12 o13 o14 : Option Val} {D : K4}
theorem lwSpoil_ok (I : TI B Ps es d kn mk L M ns h) (hl : Ps.length ≤ 30) (hl2 : es.length < 800) {P : List Cl} (gP : GoodP P) {g : Bool} (p : PV Ps (encP P) g h)
    (hD : ∀ a7 a8 a9 a10 Ps' es' h', Ps'.length ≤ Ps.length + 1 → es'.length ≤ es.length + 1 → TI B Ps' es' d kn mk L M ns h' → D.nx [o0, some (.ref 2), some (.int B), some (.ref d), some (.ref L), some (.ref M), o6, a7, a8, a9, a10, o11, o12, o13, o14] h') :
    wS (lwSpoil [o0, some (.ref 2), some (.int B), some (.ref d), some (.ref L), some (.ref M), o6, some (encP P), some (.bl g), o9, o10, o11, o12, o13, o14] h) D := by
  have ll : 1000 < lim := by decide
  have l3 : 3 ≤ lim := by omega
  have l4 : 4 ≤ lim := by omega
  have l1 : 1 ≤ lim := by omega
  have l0 : 0 ≤ lim := by omega
  have lP := gP.1
  obtain ⟨k, h1, k0, k8, e1, T1, f1, _⟩ := I.T.next2 nx_eq (n := 8) (by decide) (by decide)
  have I1 := I.fr f1 T1
  unfold lwSpoil
  by_cases hk : k = 0
  · subst hk
    obtain ⟨u, h2, u0, u3, e2, T2, f2, _⟩ := (T1.push [Obj.lst (P.map encC), Obj.lst [.ref h1.length, .non, .tup (P.map encC ++ [badC])]]).next2 nx_eq (n := 3) (by decide) (by decide)
    have t1 := T1.lt
    have I2 := (I1.ext (h' := h1 ++ [Obj.lst (P.map encC), Obj.lst [.ref h1.length, .non, .tup (P.map encC ++ [badC])]]) ⟨_, rfl⟩).fr f2 T2
    have g2 : h2[h1.length + 1]? = some (Obj.lst [.ref h1.length, .non, .tup (P.map encC ++ [badC])]) := f2.at (by omega) (at_app 1 rfl rfl)
    have g3 : h2[h1.length]? = some (Obj.lst (P.map encC)) := f2.at (by omega) (at_app 0 rfl rfl)
    have hlp : P.length + 1 ≤ lim := by omega
    unfold badC at e2 g2
    simp only [encP] 
    simp [e1, l0, l1, l3, l4, hlp, e2, g2, gV]
    have fin : ∀ x, PV Ps x false h2 → wS (lwAdd [o0, some (.ref 2), some (.int B), some (.ref d), some (.ref L), some (.ref M), o6, some x, some (.bl false), o9, o10, o11, o12, o13, o14] h2) D :=
      fun x q => lwAdd_ok I2 (by omega) hl2 q (fun a9 a10 Ps' es' h' q1 q2 J => hD _ _ _ _ _ _ _ q1 q2 J)
    have : u = 0 ∨ u = 1 ∨ u = 2 := by omega
    rcases this with rfl | rfl | rfl
    · exact fin _ ⟨fun h' q => ⟨h', prog_lst ((q.resolve_left (by simp)).at (by omega) g3), Ext.refl _⟩, by simp⟩
    · exact fin _ ⟨fun h' q => ⟨h', prog_non, Ext.refl _⟩, by simp⟩
    · exact fin _ ⟨fun h' q => prog_more gP (by omega), by simp⟩
  · simp [e1, hk]
    exact lwAdd_ok I1 (by omega) hl2 (p.fr f1) (fun a9 a10 Ps' es' h' q1 q2 J => hD _ _ _ _ _ _ _ q1 q2 J)
theorem lwGood_ok (I : TI B Ps es d kn mk L M ns h) (hl : Ps.length ≤ 30) (hl2 : es.length < 800) {P : List Cl} (gP : GoodP P)
    (hD : ∀ a7 a8 a9 a10 Ps' es' h', Ps'.length ≤ Ps.length + 1 → es'.length ≤ es.length + 1 → TI B Ps' es' d kn mk L M ns h' → D.nx [o0, some (.ref 2), some (.int B), some (.ref d), some (.ref L), some (.ref M), o6, a7, a8, a9, a10, o11, o12, o13, o14] h') :
    wS (lwGood [o0, some (.ref 2), some (.int B), some (.ref d), some (.ref L), some (.ref M), o6, some (encP P), o8, o9, o10, o11, o12, o13, o14] h) D := by
  have ll : 1000 < lim := by decide
  have l0 : 0 ≤ lim := by omega
  have lP := gP.1
  unfold lwGood
  simp only [encP]
  simp
  refine wR_lcX (fun x => (match x with | .tup [_, _, _, k] => decide (k = .int 2) | _ => false) && decide (Ps = [])) (fun x => x) (by simp; omega) (fun _ _ => rfl) (fun x h' hx ex => ⟨_, rfl, ?_⟩) (fun h1 x1 e1 => ?_)
  · obtain ⟨c, hc, rfl⟩ := List.mem_map.mp hx
    have k3 := (gP.2 c hc).k
    have eo : oEq false (encK c.kd) (.int 2) h' = .ok (.bl (decide (encK c.kd = .int 2))) h' := by
      have : c.kd = 0 ∨ c.kd = 1 ∨ c.kd = 2 := by omega
      rcases this with e | e | e <;> rw [e] <;> rw [oEq_pl rfl rfl] <;> rfl
    have e3 : oIx (encC c) (.int 3) h' = .ok (encK c.kd) h' := rfl
    have I' := I.ext ex
    have el := oEq_lst (neg := false) (xs := Ps.map encP) (ys := []) (h := h' ++ [Obj.lst []]) (at_push I'.eL) at_len encPs_pl rfl
    by_cases h2 : encK c.kd = .int 2
    · simp [wipeE, e3, eo, h2, l0, el]
      exact ⟨by simp [encC, h2], ⟨_, rfl⟩, fun _ _ => Ext.refl _⟩
    · simp [wipeE, e3, eo, h2]
      exact ⟨by simp [encC, h2], Ext.refl _, fun _ _ => Ext.refl _⟩
  · rw [List.map_id'] at e1
    have eg : (P.all fun c => decide (c.kd ≠ 2) || decide ((2 : Int) < 2 + Ps.length)) = decide (((P.map encC).filter (fun x => (match x with | .tup [_, _, _, k] => decide (k = .int 2) | _ => false) && decide (Ps = []))) = []) := by
      have ke : ∀ c ∈ P, decide (encK c.kd = .int 2) = decide (c.kd = 2) := fun c hc => by
        have k3 := (gP.2 c hc).k
        have : c.kd = 0 ∨ c.kd = 1 ∨ c.kd = 2 := by omega
        rcases this with e | e | e <;> rw [e] <;> rfl
      rw [Bool.eq_iff_iff, decide_eq_true_eq, List.filter_eq_nil_iff, List.all_eq_true]
      constructor
      · intro H x hx
        obtain ⟨c, hc, rfl⟩ := List.mem_map.mp hx
        have := H c hc
        simp only [encC, ke c hc]
        by_cases q : c.kd = 2
        · simp only [q, ne_eq, not_true, decide_false, Bool.false_or, decide_eq_true_eq] at this
          have : Ps ≠ [] := by rintro rfl; simp at this
          simp [this]
        · simp [q]
      · intro H c hc
        have := H _ (List.mem_map_of_mem hc)
        simp only [encC, ke c hc] at this
        by_cases q : c.kd = 2
        · have q2 : Ps ≠ [] := by rintro rfl; simp [q] at this
          have := List.length_pos_iff.mpr q2
          simp; omega
        · simp [q]
    generalize ((P.map encC).filter (fun x => (match x with | .tup [_, _, _, k] => decide (k = .int 2) | _ => false) && decide (Ps = []))) = fl at e1 eg
    have I1 := I.ext x1
    have p1 : PV Ps (encP P) (decide (fl = [])) h1 := ⟨fun h' _ => by
      obtain ⟨h2, e2, x2⟩ := prog_good gP (cnt := 2 + Ps.length) (h := h')
      rw [eg] at e2
      exact ⟨h2, e2, x2⟩, fun _ => ⟨P, gP, rfl⟩⟩
    have fin := lwSpoil_ok (o0 := o0) (o6 := o6) (o9 := o9) (o10 := o10) (o11 := o11) (o12 := o12) (o13 := o13) (o14 := o14) (D := D) I1 hl hl2 gP p1 hD
    simp only [encP] at fin
    have hgl : ((fl.length : Int) == 0) = decide (fl = []) := by
      cases fl with
      | nil => rfl
      | cons a b => simp; omega
    simp [e1, gV, hgl]
    exact fin
theorem lwTurn_ok (I : TI B Ps es d kn mk L M ns h) (hl : Ps.length ≤ 30) (hl2 : es.length < 800)
    (hD : ∀ a7 a8 a9 a10 Ps' es' h', Ps'.length ≤ Ps.length + 1 → es'.length ≤ es.length + 1 → TI B Ps' es' d kn mk L M ns h' → D.nx [o0, some (.ref 2), some (.int B), some (.ref d), some (.ref L), some (.ref M), o6, a7, a8, a9, a10, o11, o12, o13, o14] h') :
    wS (lwTurn [o0, some (.ref 2), some (.int B), some (.ref d), some (.ref L), some (.ref M), o6, o7, o8, o9, o10, o11, o12, o13, o14] h) D := by
  have ll : 1000 < lim := by decide
  have l0 : 0 ≤ lim := by omega
  obtain ⟨x, h1, e1, ⟨P, rfl, gP⟩, T1, f1⟩ := program_ok I.T
  have I1 := I.fr f1 T1
  have el := oEq_lst (neg := true) (xs := Ps.map encP) (ys := []) (h := h1 ++ [Obj.lst []]) (at_push I1.eL) at_len encPs_pl rfl
  have I2 := I1.ext (h' := h1 ++ [Obj.lst []]) ⟨_, rfl⟩
  have T2 := T1.push [Obj.lst []]
  unfold lwTurn
  by_cases hP : Ps = []
  · simp [e1, gV, l0]
    refine wR_eq el ?_
    simp [hP]
    subst hP
    exact lwGood_ok I2 hl hl2 gP hD
  · obtain ⟨k, h3, k0, k4, e3, T3, f3, _⟩ := T2.next2 nx_eq (n := 4) (by decide) (by decide)
    have I3 := I2.fr f3 T3
    simp [e1, gV, l0]
    refine wR_eq el ?_
    by_cases hk : k = 0
    · subst hk
      have lp := List.length_pos_iff.mpr hP
      obtain ⟨u, h4, u0, u4, e4, T4, f4, _⟩ := T3.next2 nx_eq (n := (Ps.length : Int)) (by omega) (by omega)
      have I4 := I3.fr f4 T4
      obtain ⟨i, rfl⟩ := Int.eq_ofNat_of_zero_le u0
      have hi : i < Ps.length := by omega
      have ea : L2.atI (Ps.map encP) (i : Int) = some (encP Ps[i]) := by
        rw [atI_cast, List.getElem?_map, List.getElem?_eq_getElem hi]; rfl
      simp [hP, e3, I3.eL, e4, I4.eL, ea]
      exact lwGood_ok I4 hl hl2 (I.gP _ (List.getElem_mem hi)) hD
    · simp [hP, e3, hk]
      exact lwGood_ok I3 hl hl2 gP hD
def rootV (ws : List Nat) (B c : Nat) : Val := if ws.getD 0 0 = 0 then .tup [] else if 4 ≤ ws.getD 0 0 ∧ ws.getD 0 0 < B ∧ ws.getD 1 0 ≠ 1 ∧ ws.getD 1 0 < c then .tup [.tup [.int (ws.getD 0 0 : Nat), .int (ws.getD 1 0 : Nat)]] else .non
theorem rootV_pl {ws : List Nat} {c : Nat} : pl 60 (rootV ws B c) = true := by
  unfold rootV
  split
  · rfl
  · split <;> rfl
theorem lroot_ok {ws : List Nat} (hw : ws.length = 8) {c : Nat} : m__law_root [encW ws, .int B, .int c] h = .ok (rootV ws B c) h := by
  have l1 : 1 ≤ lim := by decide
  have l2 : 2 ≤ lim := by decide
  have l0 : 0 ≤ lim := by decide
  have a0 := ws_at hw (i := 0) (by omega)
  have a1 := ws_at hw (i := 1) (by omega)
  refine eq_of_wR ?_
  unfold m__law_root rootV
  refine wRB rfl ?_
  simp only [encW]
  simp only [atI_cast] at a0 a1
  generalize ws.getD 0 0 = x at a0 ⊢
  generalize ws.getD 1 0 = y at a1 ⊢
  generalize (ws.map fun n => Val.int (n : Nat)) = W at a0 a1 ⊢
  by_cases c0 : x = 0
  · subst c0
    simp [a0, l0]
  · by_cases c1 : x < 4
    · simp [a0, c0, l0, show (x : Int) < 4 by omega, show ¬ 4 ≤ x by omega]
    · by_cases c2 : B ≤ x
      · simp [a0, c0, l0, show ¬ (x : Int) < 4 by omega, c2, show ¬ x < B by omega]
      · by_cases c3 : y = 1
        · simp [a0, a1, c0, l0, show ¬ (x : Int) < 4 by omega, c2, c3]
        · by_cases c4 : c ≤ y
          · simp [a0, a1, c0, l0, show ¬ (x : Int) < 4 by omega, c2, c4, show ¬ y < c by omega, show ¬ (y : Int) = 1 by omega]
          · simp [a0, a1, c0, l0, l1, l2, show ¬ (x : Int) < 4 by omega, c2, c4, show y < c by omega, show ¬ (y : Int) = 1 by omega, c3, show 4 ≤ x by omega, show x < B by omega]
theorem owned0_ok {ws : List Nat} : m_Types_owned [.ref d, .int 0, encW ws] h = .ok (.tup []) h := by
  have l0 : 0 ≤ lim := by decide
  refine eq_of_wR ?_
  unfold m_Types_owned
  refine wRB rfl ?_
  simp [l0]
theorem owned1_ok (I : TO B Ps es d kn mk h) {ws : List Nat} (hw : ws.length = 8) : m_Types_owned [.ref d, .int 1, encW ws] h = .ok (rootV ws B (2 + Ps.length)) h := by
  have l1 : 1 ≤ lim := by decide
  have l2 : 2 ≤ lim := by decide
  have l0 : 0 ≤ lim := by decide
  have a0 := ws_at hw (i := 0) (by omega)
  have a1 := ws_at hw (i := 1) (by omega)
  refine eq_of_wR ?_
  unfold m_Types_owned rootV
  refine wRB rfl ?_
  simp only [encW]
  simp only [atI_cast] at a0 a1
  generalize ws.getD 0 0 = x at a0 ⊢
  generalize ws.getD 1 0 = y at a1 ⊢
  generalize (ws.map fun n => Val.int (n : Nat)) = W at a0 a1 ⊢
  have eb := block_ok (n := x) (B := B) (h := h)
  have ek := isk_ok I (n := (y : Int))
  by_cases c0 : x = 0
  · subst c0
    simp [a0, l0]
  · by_cases c1 : 4 ≤ x
    · by_cases c2 : x < B
      · have e1 : (decide (4 ≤ x) && decide (x < B)) = true := by simp [c1, c2]
        rw [e1] at eb
        by_cases c4 : y < 2 + Ps.length
        · have e2 : (decide ((0 : Int) ≤ y) && decide ((y : Int) < 2 + Ps.length)) = true := by simp; omega
          rw [e2] at ek
          by_cases c3 : y = 1
          · have ek1 : m_Types_is_known [.ref d, .int 1] h = .ok (.bl true) h := by rw [c3] at ek; exact ek
            simp [a0, a1, c0, l0, I.eD, lookF, eb, truth, I.isI, ek1, c3]
          · simp [a0, a1, c0, l0, l1, l2, I.eD, lookF, eb, truth, I.isI, ek, c3, show ¬ (y : Int) = 1 by omega, c1, c2, c4]
        · have e2 : (decide ((0 : Int) ≤ y) && decide ((y : Int) < 2 + Ps.length)) = false := by simp; omega
          rw [e2] at ek
          simp [a0, a1, c0, l0, I.eD, lookF, eb, truth, I.isI, ek, c4]
      · have e1 : (decide (4 ≤ x) && decide (x < B)) = false := by simp [c2]
        rw [e1] at eb
        simp [a0, c0, l0, I.eD, lookF, eb, truth, c2]
    · have e1 : (decide (4 ≤ x) && decide (x < B)) = false := by simp [c1]
      rw [e1] at eb
      simp [a0, c0, l0, I.eD, lookF, eb, truth, c1]
theorem owned2_ok (I : TO B Ps es d kn mk h) {ws : List Nat} {n : Int} (n0 : 2 ≤ n) {P : List Cl} (hP : Ps[(n - 2).toNat]? = some P) {x : Val} (er : m_run_program [encP P, encW ws, .int B, .int n] h = .ok x h') : m_Types_owned [.ref d, .int n, encW ws] h = .ok x h' := by
  refine eq_of_wR ?_
  unfold m_Types_owned
  refine wRB rfl ?_
  have ea : L2.atI (Ps.map encP) (n - 2) = some (encP P) := by
    rw [atI_nn (by omega), List.getElem?_map, hP]; rfl
  simp [show ¬ n = 0 by omega, show ¬ n = 1 by omega, I.eD, lookF, I.eK, ea, er]
theorem pr_pl (l : List (Nat × Val)) (h : ∀ x ∈ l, pl 58 x.2 = true) : pl 60 (.tup (l.map encPr)) = true := by
  refine pl_all fun x hx => ?_
  obtain ⟨t, ht, rfl⟩ := List.mem_map.mp hx
  refine pl_all fun y hy => ?_
  simp only [List.mem_cons, List.not_mem_nil, or_false] at hy
  rcases hy with rfl | rfl
  · rfl
  · exact h t ht
theorem kv_pl {c : Cl} {own : Int} : pl 58 (kv c own) = true := by
  unfold kv
  split
  · rfl
  · exact pl_up (by omega) encK_pl
theorem pP_pl {ws : List Nat} {own : Int} {P : List Cl} : ∀ x ∈ pP ws own P, pl 58 x.2 = true := by
  intro x hx
  unfold pP at hx
  obtain ⟨c, _, hc⟩ := List.mem_flatMap.mp hx
  unfold pC at hc
  obtain ⟨n, _, rfl⟩ := List.mem_map.mp hc
  exact kv_pl
end
end Lw

set_option Elab.async false
set_option linter.all false
set_option autoImplicit false
set_option maxHeartbeats 4000000
set_option maxRecDepth 100000
namespace Lw
open PyM
section
variable {B : Nat} {Ps : List (List Cl)} {es : List Int} {d kn mk L M : Nat} {ns : List Int} {h h' : Heap} {o0 o6 o7 o8 o9 o10 o11 o12 o13 o14 : Option Val} {D : K4}
theorem lwWords_ok (I : TI B Ps es d kn mk L M ns h) (b1 : 24 ≤ B) (b2 : B ≤ 64) (hl : Ps.length ≤ 30)
    (hD : ∀ a10 a11 a12 h', TI B Ps es d kn mk L M ns h' → D.nx [o0, some (.ref 2), some (.int B), some (.ref d), some (.ref L), some (.ref M), o6, o7, o8, o9, a10, a11, a12, o13, o14] h') :
    wS (lwWords [o0, some (.ref 2), some (.int B), some (.ref d), some (.ref L), some (.ref M), o6, o7, o8, o9, o10, o11, o12, o13, o14] h) D := by
  have ll : 1000 < lim := by decide
  have l0 : 0 ≤ lim := by omega
  have l4 : 4 ≤ lim := by omega
  unfold lwWords
  simp
  refine wR_lcT I.T (fun y => ∃ n : Nat, y = .int n) (by rw [rangeV_length]; omega) (fun _ _ => rfl) (fun x h' hx T' f' => ⟨_, rfl, ?_⟩) (fun ys h1 ly hR T1 f1 el => ?_)
  · obtain ⟨v, h1, v0, v6, e1, T1, f1, _⟩ := T'.next2 nx_eq (n := 6) (by decide) (by decide)
    obtain ⟨u, h2, u0, u3, e2, T2, f2, _⟩ := T1.next2 nx_eq (n := 12) (by decide) (by decide)
    obtain ⟨z, h3, z0, z4, e3, T3, f3, _⟩ := (T2.push [Obj.lst [.int 0, .int v, .int (4 + u), .int B]]).next2 nx_eq (n := 4) (by decide) (by decide)
    have lt := T2.lt
    have g3 := f3.at (show h2.length ≠ 2 by omega) at_len
    have fx : Fr 2 h' h3 := f1.trans (f2.trans ((Ext.fr ⟨_, rfl⟩ 2).trans f3))
    simp [wipeE, e1, e2, e3, g3, l4]
    have : z = 0 ∨ z = 1 ∨ z = 2 ∨ z = 3 := by omega
    rcases this with rfl | rfl | rfl | rfl
    · exact ⟨⟨0, rfl⟩, T3, fx⟩
    · exact ⟨⟨v.toNat, by simp; omega⟩, T3, fx⟩
    · exact ⟨⟨(4 + u).toNat, by simp; omega⟩, T3, fx⟩
    · exact ⟨⟨B, rfl⟩, T3, fx⟩
  · rw [rangeV_length] at ly
    obtain ⟨ws, hw, rfl⟩ : ∃ ws : List Nat, ws.length = 8 ∧ ys = ws.map fun n => .int (n : Nat) := by
      refine ⟨ys.map fun y => match y with | .int i => i.toNat | _ => 0, by simp [ly], ?_⟩
      rw [List.map_map]
      conv => lhs; rw [← List.map_id ys]
      exact List.map_congr_left (fun y hy => by obtain ⟨n, rfl⟩ := hR y hy; simp)
    have I1 := I.fr f1 T1
    have ec := count_ok I1.O
    obtain ⟨n, h2, n0, n1, e2, T2, f2, _⟩ := T1.next2 nx_eq (n := (2 + Ps.length : Int)) (by omega) (by omega)
    have I2 := I1.fr f2 T2
    by_cases c0 : n = 0
    · subst c0
      have eo := owned0_ok (d := d) (ws := ws) (h := h2)
      have eq := oEq_self (x := .tup []) (neg := true) (h := h2) rfl
      simp only [encW] at eo
      simp [el, gV, I1.O.isI, ec, e2, l0, I2.O.isI, eo, eq]
      exact hD _ _ _ _ I2
    · by_cases c1 : n = 1
      · subst c1
        have eo := owned1_ok I2.O hw
        have er := lroot_ok (B := B) (h := h2) hw (c := 2 + Ps.length)
        have eq := oEq_self (x := rootV ws B (2 + Ps.length)) (neg := true) (h := h2) rootV_pl
        have ec2 := count_ok I2.O
        simp only [encW] at eo er
        have er' : m__law_root [.tup (ws.map fun n => .int (n : Nat)), .int B, .int (2 + Ps.length)] h2 = .ok (rootV ws B (2 + Ps.length)) h2 := by
          have : ((2 + Ps.length : Nat) : Int) = 2 + Ps.length := by omega
          rw [this] at er; exact er
        simp [el, gV, I1.O.isI, ec, e2, l0, I2.O.isI, ec2, er', eo, eq]
        exact hD _ _ _ _ I2
      · obtain ⟨P, hP⟩ : ∃ P, Ps[(n - 2).toNat]? = some P := ⟨_, List.getElem?_eq_getElem (by omega)⟩
        have gP := I.gP P (List.mem_of_getElem? hP)
        obtain ⟨z, h3, e3, x3, q3⟩ := lrun_ok gP hw (B := B) (own := n) (h := h2)
        have I3 := I2.ext x3
        obtain ⟨y, h4, e4, x4, q4⟩ := run_ok gP hw (B := B) (own := n) (h := h3)
        have I4 := I3.ext x4
        have eo := owned2_ok I3.O (n := n) (by omega) hP e4
        have ey : y = z := by
          rcases q3 with ⟨a1, rfl⟩ | ⟨a1, rfl⟩ <;> rcases q4 with ⟨a2, rfl⟩ | ⟨a2, rfl⟩
          · rfl
          · exact absurd a1 a2
          · exact absurd a2 a1
          · rfl
        subst ey
        have hp : pl 60 y = true := by
          rcases q3 with ⟨_, rfl⟩ | ⟨_, rfl⟩
          · exact pr_pl _ pP_pl
          · rfl
        have eq := oEq_self (x := y) (neg := true) (h := h4) hp
        have ea : L2.atI (Ps.map encP) (n - 2) = some (encP P) := by
          rw [atI_nn (by omega), List.getElem?_map, hP]; rfl
        simp only [encW] at eo e3
        simp [el, gV, I1.O.isI, ec, e2, l0, c0, c1, show 1 < n by omega, I2.eL, ea, e3, I3.O.isI, eo, eq]
        exact hD _ _ _ _ I4
structure LaI (B d kn mk L M : Nat) (ns : List Int) (o0 : Option Val) (n : Nat) (s' : En) (h' : Heap) : Prop where
  k : ∃ a6 a7 a8 a9 a10 a11 a12 a13 a14 Ps es, s' = [o0, some (.ref 2), some (.int B), some (.ref d), some (.ref L), some (.ref M), a6, a7, a8, a9, a10, a11, a12, a13, a14] ∧ Ps.length ≤ n ∧ es.length ≤ n ∧ TI B Ps es d kn mk L M ns h'
end
theorem law_true (ns : List Int) (hns : ns.length ≤ 63) : ∃ h', m_law [.ref 0] [.fls (ns.map Val.int)] = .ok (.bl true) h' := by
  have w : wR (m_law [.ref 0] [.fls (ns.map Val.int)]) (fun _ _ => False) fun x h' => x = .bl true := by
    rw [m_law_cut]
    refine wRB rfl ?_
    have ll : 1000 < lim := by decide
    have l0 : 0 ≤ lim := by omega
    have l4 : 4 ≤ lim := by omega
    have T0 : TP 2 1 ns [Obj.fls (ns.map Val.int), Obj.lst (ns.map Val.int), Obj.lst [.ref 1, .int 0, .int 0, .int 7]] := ⟨by decide, rfl, 0, 0, 7, by decide, rfl⟩
    obtain ⟨v, h1, v0, v1, e1, T1, f1, _⟩ := T0.next2 nx_eq (n := 41) (by decide) (by decide)
    obtain ⟨B, hB⟩ := Int.eq_ofNat_of_zero_le (show 0 ≤ 24 + v by omega)
    have t1 := T1.lt
    obtain ⟨h2, e2, f2, g1, g2, g3⟩ := init_ok (B := (B : Int)) (h := h1 ++ [Obj.ins 0 []]) (d := h1.length) at_len
    have x2 : Ext h1 h2 := Fr.base ⟨_, rfl⟩ f2 (Nat.le_refl _)
    simp only [List.length_append, List.length_cons, List.length_nil] at g1 g2 g3
    have l2 := at_lt g3
    have I : TI B [] [] h1.length (h1.length + 1) (h1.length + 1 + 1) h2.length (h2.length + 1) ns (h2 ++ [Obj.lst [], Obj.lst []]) := by
      refine ⟨⟨at_push g1, at_push g2, at_push g3, by omega, by omega, by omega⟩, at_app 0 rfl rfl, at_app 1 rfl rfl, (T1.ext x2).push _, ?_, by simp⟩
      have a6 : ¬ h2 = [] := fun e => by rw [e] at l2; simp at l2
      have a7 : ¬ h1 = [] := fun e => by rw [e] at t1; simp at t1
      simp [a6, a7]
      omega
    simp [gV, l0, l4, e1, hB, e2]
    have ec := count_ok I.O
    have ep := programs_ok I.O
    generalize h2 ++ [Obj.lst [], Obj.lst []] = h3 at I ec ep
    have ec0 : m_Types_count [.ref h1.length] h3 = .ok (.int 2) h3 := ec
    have I3 := I.ext (h' := h3 ++ [Obj.lst (([] : List (List Cl)).map encP)]) ⟨_, rfl⟩
    have I4 := I3.ext (h' := h3 ++ [Obj.lst (([] : List (List Cl)).map encP)] ++ [Obj.lst []]) ⟨_, rfl⟩
    have el := oEq_lst (neg := true) (xs := []) (ys := []) (a := h3.length) (b := (h3 ++ [Obj.lst (([] : List (List Cl)).map encP)]).length) (h := h3 ++ [Obj.lst (([] : List (List Cl)).map encP)] ++ [Obj.lst []]) (at_push at_len) at_len rfl rfl
    generalize h3 ++ [Obj.lst (([] : List (List Cl)).map encP)] = h4 at I3 I4 el ep
    obtain ⟨u, h6, u0, u1, e6, T6, f6, _⟩ := I4.T.next2 nx_eq (n := 16) (by decide) (by decide)
    have I6 := I4.fr f6 T6
    simp [I.O.isI, ec0, ep, el, e6]
    refine ⟨by omega, ?_⟩
    refine wS_range (LaI B h1.length (h1.length + 1) (h1.length + 1 + 1) h2.length (h2.length + 1) ns (some (.ref 0))) ⟨_, _, _, _, _, _, _, _, _, _, _, rfl, by simp, by simp, I6⟩ ?_ ?_
    · rintro i s' h' hi ⟨a6, a7, a8, a9, a10, a11, a12, a13, a14, Ps, es, rfl, q1, q2, J⟩
      refine ⟨_, rfl, ?_⟩
      refine lwTurn_ok J (by omega) (by omega) (fun a7 a8 a9 a10 Ps' es' h' q3 q4 J' => ?_)
      exact ⟨_, _, _, _, _, _, _, _, _, _, _, rfl, by omega, by omega, J'⟩
    · rintro s' h' ⟨a6, a7, a8, a9, a10, a11, a12, a13, a14, Ps, es, rfl, q1, q2, J⟩
      refine wS_range (n := 12) (fun _ => LaI B h1.length (h1.length + 1) (h1.length + 1 + 1) h2.length (h2.length + 1) ns (some (.ref 0)) 30) ⟨_, _, _, _, _, _, _, _, _, _, _, rfl, by omega, by omega, J⟩ ?_ ?_
      · rintro i s' h' hi ⟨a6, a7, a8, a9, a10, a11, a12, a13, a14, Ps, es, rfl, q1, q2, J⟩
        refine ⟨_, rfl, ?_⟩
        refine lwWords_ok J (by omega) (by omega) (by omega) (fun a10 a11 a12 h' J' => ?_)
        exact ⟨_, _, _, _, _, _, _, _, _, _, _, rfl, by omega, by omega, J'⟩
      · rintro s' h' ⟨a6, a7, a8, a9, a10, a11, a12, a13, a14, Ps, es, rfl, q1, q2, J⟩
        have k3 : m_Types_is_known [.ref h1.length, .int (-1)] h' = .ok (.bl false) h' := by
          rw [isk_ok J.O]; rfl
        simp [J.O.isI, isk_non J.O, isk_bl J.O, k3]
  obtain ⟨x, h', e, rfl⟩ := ex_of_wR w
  exact ⟨h', e⟩
end Lw

set_option Elab.async false
set_option linter.all false
set_option maxRecDepth 100000
set_option maxHeartbeats 4000000
namespace Lw
open PySem L2 PyM
def top (i : Nat) : Stmt := PySem.Challenge.pw_steadhold_k03_types.main.body.getD i (.Pass ⟨0, 0, 0, 0⟩)
abbrev s__law_next : Stmt := (top 25)
abbrev N__law_next : List Str := ["_law_tape", "_law_many", "_law_rest", "_law_cell"]
abbrev s_Types___init__ : Stmt := (inClass (top 23) 0)
abbrev N_Types___init__ : List Str := ["self", "blocks"]
abbrev s_Types_count : Stmt := (inClass (top 23) 1)
abbrev N_Types_count : List Str := ["self"]
abbrev s_Types_programs : Stmt := (inClass (top 23) 3)
abbrev N_Types_programs : List Str := ["self"]
abbrev s__law_program : Stmt := (top 26)
abbrev N__law_program : List Str := ["_law_tape", "_law_clauses", "_law_k", "_law_guards", "_law_n", "_law_mask", "_law_start", "_law_many"]
abbrev s_is_number : Stmt := (top 2)
abbrev N_is_number : List Str := ["value"]
abbrev s_is_index : Stmt := (top 15)
abbrev N_is_index : List Str := ["value"]
abbrev s_is_word : Stmt := (top 6)
abbrev N_is_word : List Str := ["value"]
abbrev s_is_guard : Stmt := (top 16)
abbrev N_is_guard : List Str := ["value"]
abbrev s_is_many : Stmt := (top 17)
abbrev N_is_many : List Str := ["value", "start"]
abbrev s_is_clause : Stmt := (top 18)
abbrev N_is_clause : List Str := ["value", "count", "guards", "start", "many", "kind", "guard"]
abbrev s_is_program : Stmt := (top 19)
abbrev N_is_program : List Str := ["value", "count", "clause"]
abbrev s_Types_add : Stmt := (inClass (top 23) 4)
abbrev N_Types_add : List Str := ["self", "program", "environment"]
abbrev s_Types_is_known : Stmt := (inClass (top 23) 2)
abbrev N_Types_is_known : List Str := ["self", "number"]
abbrev s__law_root : Stmt := (top 28)
abbrev N__law_root : List Str := ["_law_words", "_law_blocks", "_law_count"]
abbrev s__law_run : Stmt := (top 27)
abbrev N__law_run : List Str := ["_law_program_here", "_law_words", "_law_blocks", "_law_own", "_law_found", "_law_guards", "_law_start", "_law_many", "_law_kind", "_law_good", "_law_index", "_law_mask", "_law_value", "_law_numbers", "_law_k", "_law_row"]
abbrev s_words_of : Stmt := (top 21)
abbrev N_words_of : List Str := ["clause", "words", "guards", "start", "many", "_", "index", "mask", "value"]
abbrev s_is_block : Stmt := (top 20)
abbrev N_is_block : List Str := ["word", "blocks"]
abbrev s_run_program : Stmt := (top 22)
abbrev N_run_program : List Str := ["program", "words", "blocks", "own", "found", "seen", "clause", "kind", "word"]
abbrev s_Types_owned : Stmt := (inClass (top 23) 5)
abbrev N_Types_owned : List Str := ["self", "number", "words"]
abbrev s_law : Stmt := (top 29)
abbrev N_law : List Str := ["_law_script", "_law_tape", "_law_blocks", "_law_types", "_law_known", "_law_makers", "_law_turn", "_law_program_here", "_law_good", "_law_environment", "_law_due", "_law_words", "_law_number", "_law_clause", "_law_k"]
def nms : List Str := ["blocks", "known", "makers"]
def sts : List Str := ["word", "own"]
structure Tx where
  c_Types : Addr
  f__law_next : Addr
  d__law_next : FuncData
  f_Types___init__ : Addr
  d_Types___init__ : FuncData
  f_Types_count : Addr
  d_Types_count : FuncData
  f_Types_programs : Addr
  d_Types_programs : FuncData
  f__law_program : Addr
  d__law_program : FuncData
  f_is_number : Addr
  d_is_number : FuncData
  f_is_index : Addr
  d_is_index : FuncData
  f_is_word : Addr
  d_is_word : FuncData
  f_is_guard : Addr
  d_is_guard : FuncData
  f_is_many : Addr
  d_is_many : FuncData
  f_is_clause : Addr
  d_is_clause : FuncData
  f_is_program : Addr
  d_is_program : FuncData
  f_Types_add : Addr
  d_Types_add : FuncData
  f_Types_is_known : Addr
  d_Types_is_known : FuncData
  f__law_root : Addr
  d__law_root : FuncData
  f__law_run : Addr
  d__law_run : FuncData
  f_words_of : Addr
  d_words_of : FuncData
  f_is_block : Addr
  d_is_block : FuncData
  f_run_program : Addr
  d_run_program : FuncData
  f_Types_owned : Addr
  d_Types_owned : FuncData
  f_law : Addr
  d_law : FuncData
  t_DATA : Tok
  t_ENVIRONMENTS : Tok
  t_FIRST_TYPE : Tok
  t_MOST_CLAUSES : Tok
  t_MOST_GUARDS : Tok
  t_MOST_TYPES : Tok
  t_OWN : Tok
  t_ROOT : Tok
  t_TOP : Tok
  t_WORDS : Tok
def Tx.G (T : Tx) (K : PySem.W.Frag) : Cfg := ⟨K, [T.c_Types], nms, sts⟩
structure TxOk (K : PySem.W.Frag) (mg : Str → Option Value) (T : Tx) : Prop where
  F__law_next : Fun K "_law_next" "_law_next" s__law_next T.f__law_next T.d__law_next
  b__law_next : Binds K T.d__law_next ["_law_tape", "_law_many"] []
  g__law_next : mg "_law_next" = some (.ref T.f__law_next)
  F_Types___init__ : Fun K "__init__" "Types.__init__" s_Types___init__ T.f_Types___init__ T.d_Types___init__
  b_Types___init__ : Binds K T.d_Types___init__ ["self", "blocks"] []
  F_Types_count : Fun K "count" "Types.count" s_Types_count T.f_Types_count T.d_Types_count
  b_Types_count : Binds K T.d_Types_count ["self"] []
  M_Types_count : Meth K T.c_Types "count" T.f_Types_count
  F_Types_programs : Fun K "programs" "Types.programs" s_Types_programs T.f_Types_programs T.d_Types_programs
  b_Types_programs : Binds K T.d_Types_programs ["self"] []
  M_Types_programs : Meth K T.c_Types "programs" T.f_Types_programs
  F__law_program : Fun K "_law_program" "_law_program" s__law_program T.f__law_program T.d__law_program
  b__law_program : Binds K T.d__law_program ["_law_tape"] []
  g__law_program : mg "_law_program" = some (.ref T.f__law_program)
  F_is_number : Fun K "is_number" "is_number" s_is_number T.f_is_number T.d_is_number
  b_is_number : Binds K T.d_is_number ["value"] []
  g_is_number : mg "is_number" = some (.ref T.f_is_number)
  F_is_index : Fun K "is_index" "is_index" s_is_index T.f_is_index T.d_is_index
  b_is_index : Binds K T.d_is_index ["value"] []
  g_is_index : mg "is_index" = some (.ref T.f_is_index)
  F_is_word : Fun K "is_word" "is_word" s_is_word T.f_is_word T.d_is_word
  b_is_word : Binds K T.d_is_word ["value"] []
  g_is_word : mg "is_word" = some (.ref T.f_is_word)
  F_is_guard : Fun K "is_guard" "is_guard" s_is_guard T.f_is_guard T.d_is_guard
  b_is_guard : Binds K T.d_is_guard ["value"] []
  g_is_guard : mg "is_guard" = some (.ref T.f_is_guard)
  F_is_many : Fun K "is_many" "is_many" s_is_many T.f_is_many T.d_is_many
  b_is_many : Binds K T.d_is_many ["value", "start"] []
  g_is_many : mg "is_many" = some (.ref T.f_is_many)
  F_is_clause : Fun K "is_clause" "is_clause" s_is_clause T.f_is_clause T.d_is_clause
  b_is_clause : Binds K T.d_is_clause ["value", "count"] []
  g_is_clause : mg "is_clause" = some (.ref T.f_is_clause)
  F_is_program : Fun K "is_program" "is_program" s_is_program T.f_is_program T.d_is_program
  b_is_program : Binds K T.d_is_program ["value", "count"] []
  g_is_program : mg "is_program" = some (.ref T.f_is_program)
  F_Types_add : Fun K "add" "Types.add" s_Types_add T.f_Types_add T.d_Types_add
  b_Types_add : Binds K T.d_Types_add ["self", "program", "environment"] []
  M_Types_add : Meth K T.c_Types "add" T.f_Types_add
  F_Types_is_known : Fun K "is_known" "Types.is_known" s_Types_is_known T.f_Types_is_known T.d_Types_is_known
  b_Types_is_known : Binds K T.d_Types_is_known ["self", "number"] []
  M_Types_is_known : Meth K T.c_Types "is_known" T.f_Types_is_known
  F__law_root : Fun K "_law_root" "_law_root" s__law_root T.f__law_root T.d__law_root
  b__law_root : Binds K T.d__law_root ["_law_words", "_law_blocks", "_law_count"] []
  g__law_root : mg "_law_root" = some (.ref T.f__law_root)
  F__law_run : Fun K "_law_run" "_law_run" s__law_run T.f__law_run T.d__law_run
  b__law_run : Binds K T.d__law_run ["_law_program_here", "_law_words", "_law_blocks", "_law_own"] []
  g__law_run : mg "_law_run" = some (.ref T.f__law_run)
  F_words_of : Fun K "words_of" "words_of" s_words_of T.f_words_of T.d_words_of
  b_words_of : Binds K T.d_words_of ["clause", "words"] []
  g_words_of : mg "words_of" = some (.ref T.f_words_of)
  F_is_block : Fun K "is_block" "is_block" s_is_block T.f_is_block T.d_is_block
  b_is_block : Binds K T.d_is_block ["word", "blocks"] []
  g_is_block : mg "is_block" = some (.ref T.f_is_block)
  F_run_program : Fun K "run_program" "run_program" s_run_program T.f_run_program T.d_run_program
  b_run_program : Binds K T.d_run_program ["program", "words", "blocks", "own"] []
  g_run_program : mg "run_program" = some (.ref T.f_run_program)
  F_Types_owned : Fun K "owned" "Types.owned" s_Types_owned T.f_Types_owned T.d_Types_owned
  b_Types_owned : Binds K T.d_Types_owned ["self", "number", "words"] []
  M_Types_owned : Meth K T.c_Types "owned" T.f_Types_owned
  F_law : Fun K "law" "law" s_law T.f_law T.d_law
  b_law : Binds K T.d_law ["_law_script"] []
  g_law : mg "law" = some (.ref T.f_law)
  cl_Types : Cls K T.c_Types
  gc_Types : mg "Types" = some (.ref T.c_Types)
  mk_Types : Mk K T.c_Types T.f_Types___init__
  na_Types_blocks : NoAttr K T.c_Types "blocks"
  na_Types_known : NoAttr K T.c_Types "known"
  na_Types_makers : NoAttr K T.c_Types "makers"
  n_abs : mg "abs" = none
  n_all : mg "all" = none
  n_bool : mg "bool" = none
  n_int : mg "int" = none
  n_isinstance : mg "isinstance" = none
  n_len : mg "len" = none
  n_list : mg "list" = none
  n_min : mg "min" = none
  n_range : mg "range" = none
  n_str : mg "str" = none
  n_tuple : mg "tuple" = none
  k_DATA : mg "DATA" = some (.int 0 T.t_DATA)
  k_ENVIRONMENTS : mg "ENVIRONMENTS" = some (.int 4 T.t_ENVIRONMENTS)
  k_FIRST_TYPE : mg "FIRST_TYPE" = some (.int 2 T.t_FIRST_TYPE)
  k_MOST_CLAUSES : mg "MOST_CLAUSES" = some (.int 8 T.t_MOST_CLAUSES)
  k_MOST_GUARDS : mg "MOST_GUARDS" = some (.int 4 T.t_MOST_GUARDS)
  k_MOST_TYPES : mg "MOST_TYPES" = some (.int 4 T.t_MOST_TYPES)
  k_OWN : mg "OWN" = some (.str "own" T.t_OWN)
  k_ROOT : mg "ROOT" = some (.int 1 T.t_ROOT)
  k_TOP : mg "TOP" = some (.int 4294967295 T.t_TOP)
  k_WORDS : mg "WORDS" = some (.int 8 T.t_WORDS)
section
variable {P : Program} {w : World} {K : PySem.W.Frag} {mg : Str → Option Value} {base : PySem.Heap} {T : Tx}
theorem gok : (T.G K).Ok := ⟨(by decide +kernel : nms.Nodup), (by decide +kernel : sts.Nodup), (by decide +kernel : ∀ x ∈ sts, PySem.PyData.strOk x = true)⟩
theorem sc__law_next : FnScope N__law_next ["_law_tape", "_law_many"] (defScope s__law_next) := ⟨rfl, rfl, rfl, by decide +kernel, rfl, by decide +kernel, by decide +kernel⟩
theorem ok__law_next (O : TxOk K mg T) : FnM (T.G K) P w mg base 1 T.f__law_next T.d__law_next ["_law_tape", "_law_many"] m__law_next := by
  refine fn_m O.F__law_next sc__law_next rfl rfl (fun cdv A outer s H E C tk => ?_)
  exact ⟨_, mss_cons (ms_asg (me_ix gok C (me_var 0) (me_int)) (mg_name 2 C.nd))
    (mss_cons (ms_if (mt_cmp (mc_eq gok C (me_var 2) (me_int))) (mss_cons (ms_asg (me_int) (mg_name 3 C.nd))
    (mss_cons (ms_if (mt_cmp (mc_lt (me_ix gok C (me_var 0) (me_int)) (me_blt (cl_len C) rl_len O.n_len bt_len (ma_cons (me_ix gok C (me_var 0) (me_int)) (ma_nil))))) (mss_cons (ms_asg (me_blt call_abs rl_abs O.n_abs bt_abs (ma_cons (me_bty call_int1 rl_int O.n_int bt_int (ma_cons (me_ix gok C (me_ix gok C (me_var 0) (me_int)) (me_ix gok C (me_var 0) (me_int))) (ma_nil))) (ma_nil))) (mg_name 3 C.nd))
    (mss_one (ms_sub gok C (me_var 0) (me_int) (me_add C (me_ix gok C (me_var 0) (me_int)) (me_int))))) (mss_nil))
    (mss_cons (ms_asg (me_var 3) (mg_name 2 C.nd))
    (mss_one (ms_if (mt_cmp (mc_lt (me_var 3) (me_pow (me_int) (me_int)))) (mss_cons (ms_sub gok C (me_var 0) (me_int) (me_mod (me_bty call_int1 rl_int O.n_int bt_int (ma_cons (me_add C (me_add C (me_mul C (me_ix gok C (me_var 0) (me_int)) (me_int)) (me_mul C (me_var 3) (me_int))) (me_int)) (ma_nil))) (me_int)))
    (mss_one (ms_ret (me_mod (me_mod (me_bty call_int1 rl_int O.n_int bt_int (ma_cons (me_mul C (me_fdiv (me_ix gok C (me_var 0) (me_int)) (me_int)) (me_int)) (ma_nil))) (me_int)) (me_var 1))))) (mss_nil)))))) (mss_nil))
    (mss_cons (ms_sub gok C (me_var 0) (me_int) (me_fdiv (me_var 2) (me_var 1)))
    (mss_one (ms_ret (me_mod (me_bty call_int1 rl_int O.n_int bt_int (ma_cons (me_var 2) (ma_nil))) (me_var 1))))))⟩
theorem sc_Types___init__ : FnScope N_Types___init__ ["self", "blocks"] (defScope s_Types___init__) := ⟨rfl, rfl, rfl, by decide +kernel, rfl, by decide +kernel, by decide +kernel⟩
theorem ok_Types___init__ (O : TxOk K mg T) : FnM (T.G K) P w mg base 1 T.f_Types___init__ T.d_Types___init__ ["self", "blocks"] m_Types___init__ := by
  refine fn_m O.F_Types___init__ sc_Types___init__ rfl rfl (fun cdv A outer s H E C tk => ?_)
  exact ⟨_, mss_cons (ms_fld gok C 0 0 rfl rfl O.na_Types_blocks (me_var 0) (me_var 1))
    (mss_cons (ms_fld gok C 0 1 rfl rfl O.na_Types_known (me_var 0) (me_lst (ma_nil)))
    (mss_one (ms_fld gok C 0 2 rfl rfl O.na_Types_makers (me_var 0) (me_lst (ma_nil)))))⟩
theorem sc_Types_count : FnScope N_Types_count ["self"] (defScope s_Types_count) := ⟨rfl, rfl, rfl, by decide +kernel, rfl, by decide +kernel, by decide +kernel⟩
theorem ok_Types_count (O : TxOk K mg T) : FnM (T.G K) P w mg base 1 T.f_Types_count T.d_Types_count ["self"] m_Types_count := by
  refine fn_m O.F_Types_count sc_Types_count rfl rfl (fun cdv A outer s H E C tk => ?_)
  exact ⟨_, mss_one (ms_ret (me_add C (me_glob 2 O.k_FIRST_TYPE) (me_blt (cl_len C) rl_len O.n_len bt_len (ma_cons (me_fld gok C 1 rfl (me_var 0)) (ma_nil)))))⟩
theorem sc_Types_programs : FnScope N_Types_programs ["self"] (defScope s_Types_programs) := ⟨rfl, rfl, rfl, by decide +kernel, rfl, by decide +kernel, by decide +kernel⟩
theorem ok_Types_programs (O : TxOk K mg T) : FnM (T.G K) P w mg base 1 T.f_Types_programs T.d_Types_programs ["self"] m_Types_programs := by
  refine fn_m O.F_Types_programs sc_Types_programs rfl rfl (fun cdv A outer s H E C tk => ?_)
  exact ⟨_, mss_one (ms_ret (me_bty (cl_list C) rl_list O.n_list bt_list (ma_cons (me_fld gok C 1 rfl (me_var 0)) (ma_nil))))⟩
theorem sc__law_program : FnScope N__law_program ["_law_tape"] (defScope s__law_program) := ⟨rfl, rfl, rfl, by decide +kernel, rfl, by decide +kernel, by decide +kernel⟩
theorem ok__law_program (O : TxOk K mg T) : FnM (T.G K) P w mg base 2 T.f__law_program T.d__law_program ["_law_tape"] m__law_program := by
  refine fn_m O.F__law_program sc__law_program rfl rfl (fun cdv A outer s H E C tk => ?_)
  exact ⟨_, mss_cons (ms_asg (me_lst (ma_nil)) (mg_name 1 C.nd))
    (mss_cons (ms_for C (mi_rng1 O.n_range (ma_cons (me_call C (ok__law_next O) df_nil (by decide) O.g__law_next O.F__law_next.kp O.b__law_next (ma_cons (me_var 0) (ma_cons (me_int) (ma_nil)))) (ma_nil))) (mg_name 2 C.nd) (mss_cons (ms_asg (me_lst (ma_nil)) (mg_name 3 C.nd))
    (mss_cons (ms_for C (mi_rng1 O.n_range (ma_cons (me_call C (ok__law_next O) df_nil (by decide) O.g__law_next O.F__law_next.kp O.b__law_next (ma_cons (me_var 0) (ma_cons (me_int) (ma_nil)))) (ma_nil))) (mg_name 4 C.nd) (mss_cons (ms_asg (me_ix gok C (me_lst (ma_cons (me_int) (ma_cons (me_int) (ma_cons (me_int) (ma_cons (me_sub (me_pow (me_int) (me_int)) (me_int)) (ma_nil)))))) (me_call C (ok__law_next O) df_nil (by decide) O.g__law_next O.F__law_next.kp O.b__law_next (ma_cons (me_var 0) (ma_cons (me_int) (ma_nil))))) (mg_name 5 C.nd))
    (mss_one (ms_expr (me_bm C PySem.F.slot_list_append PySem.F.type_list_append mt_append rm_append (me_var 3) (ma_cons (me_tup (ma_cons (me_call C (ok__law_next O) df_nil (by decide) O.g__law_next O.F__law_next.kp O.b__law_next (ma_cons (me_var 0) (ma_cons (me_int) (ma_nil)))) (ma_cons (me_var 5) (ma_cons (me_call C (ok__law_next O) df_nil (by decide) O.g__law_next O.F__law_next.kp O.b__law_next (ma_cons (me_var 0) (ma_cons (me_int) (ma_nil)))) (ma_nil))))) (ma_nil)))))))
    (mss_cons (ms_asg (me_call C (ok__law_next O) df_nil (by decide) O.g__law_next O.F__law_next.kp O.b__law_next (ma_cons (me_var 0) (ma_cons (me_int) (ma_nil)))) (mg_name 6 C.nd))
    (mss_cons (ms_asg (me_ix gok C (me_lst (ma_cons (me_add C (me_int) (me_call C (ok__law_next O) df_nil (by decide) O.g__law_next O.F__law_next.kp O.b__law_next (ma_cons (me_var 0) (ma_cons (me_sub (me_int) (me_var 6)) (ma_nil))))) (ma_cons (me_tup (ma_cons (me_str 0 rfl) (ma_cons (me_call C (ok__law_next O) df_nil (by decide) O.g__law_next O.F__law_next.kp O.b__law_next (ma_cons (me_var 0) (ma_cons (me_int) (ma_nil)))) (ma_nil)))) (ma_nil)))) (me_call C (ok__law_next O) df_nil (by decide) O.g__law_next O.F__law_next.kp O.b__law_next (ma_cons (me_var 0) (ma_cons (me_int) (ma_nil))))) (mg_name 7 C.nd))
    (mss_one (ms_expr (me_bm C PySem.F.slot_list_append PySem.F.type_list_append mt_append rm_append (me_var 1) (ma_cons (me_tup (ma_cons (me_bty (cl_tuple C) rl_tuple O.n_tuple bt_tuple (ma_cons (me_var 3) (ma_nil))) (ma_cons (me_var 6) (ma_cons (me_var 7) (ma_cons (me_ix gok C (me_lst (ma_cons (me_int) (ma_cons (me_str 1 rfl) (ma_cons (me_int) (ma_nil))))) (me_call C (ok__law_next O) df_nil (by decide) O.g__law_next O.F__law_next.kp O.b__law_next (ma_cons (me_var 0) (ma_cons (me_int) (ma_nil))))) (ma_nil)))))) (ma_nil))))))))))
    (mss_one (ms_ret (me_bty (cl_tuple C) rl_tuple O.n_tuple bt_tuple (ma_cons (me_var 1) (ma_nil))))))⟩
theorem sc_is_number : FnScope N_is_number ["value"] (defScope s_is_number) := ⟨rfl, rfl, rfl, by decide +kernel, rfl, by decide +kernel, by decide +kernel⟩
theorem ok_is_number (O : TxOk K mg T) : FnM (T.G K) P w mg base 1 T.f_is_number T.d_is_number ["value"] m_is_number := by
  refine fn_m O.F_is_number sc_is_number rfl rfl (fun cdv A outer s H E C tk => ?_)
  exact ⟨_, mss_one (ms_ret (me_andV (me_isi C .int (by decide) O.n_isinstance O.n_int bt_ty_int (me_var 0)) (me_one (me_notV (me_isi C .bool (by decide) O.n_isinstance O.n_bool bt_ty_bool (me_var 0))))))⟩
theorem sc_is_index : FnScope N_is_index ["value"] (defScope s_is_index) := ⟨rfl, rfl, rfl, by decide +kernel, rfl, by decide +kernel, by decide +kernel⟩
theorem ok_is_index (O : TxOk K mg T) : FnM (T.G K) P w mg base 2 T.f_is_index T.d_is_index ["value"] m_is_index := by
  refine fn_m O.F_is_index sc_is_index rfl rfl (fun cdv A outer s H E C tk => ?_)
  exact ⟨_, mss_one (ms_ret (me_andV (me_call C (ok_is_number O) df_nil (by decide) O.g_is_number O.F_is_number.kp O.b_is_number (ma_cons (me_var 0) (ma_nil))) (me_one (me_chLeLt (me_int) (me_var 0) (me_glob 8 O.k_WORDS)))))⟩
theorem sc_is_word : FnScope N_is_word ["value"] (defScope s_is_word) := ⟨rfl, rfl, rfl, by decide +kernel, rfl, by decide +kernel, by decide +kernel⟩
theorem ok_is_word (O : TxOk K mg T) : FnM (T.G K) P w mg base 2 T.f_is_word T.d_is_word ["value"] m_is_word := by
  refine fn_m O.F_is_word sc_is_word rfl rfl (fun cdv A outer s H E C tk => ?_)
  exact ⟨_, mss_one (ms_ret (me_andV (me_call C (ok_is_number O) df_nil (by decide) O.g_is_number O.F_is_number.kp O.b_is_number (ma_cons (me_var 0) (ma_nil))) (me_one (me_chLeLe (me_int) (me_var 0) (me_glob 4294967295 O.k_TOP)))))⟩
theorem sc_is_guard : FnScope N_is_guard ["value"] (defScope s_is_guard) := ⟨rfl, rfl, rfl, by decide +kernel, rfl, by decide +kernel, by decide +kernel⟩
theorem ok_is_guard (O : TxOk K mg T) : FnM (T.G K) P w mg base 3 T.f_is_guard T.d_is_guard ["value"] m_is_guard := by
  refine fn_m O.F_is_guard sc_is_guard rfl rfl (fun cdv A outer s H E C tk => ?_)
  exact ⟨_, mss_cons (ms_if ((mw_or (mt_not (mt_tr C (me_isi C .tup (by decide) O.n_isinstance O.n_tuple bt_ty_tup (me_var 0)))) (mw_or1 (mt_cmp (mc_ne gok C (me_blt (cl_len C) rl_len O.n_len bt_len (ma_cons (me_var 0) (ma_nil))) (me_int))))).mt) (mss_one (ms_ret (me_bl))) (mss_nil))
    (mss_one (ms_ret (me_andV (me_call C (ok_is_index O) df_nil (by decide) O.g_is_index O.F_is_index.kp O.b_is_index (ma_cons (me_ix gok C (me_var 0) (me_int)) (ma_nil))) (me_andV (me_call C (ok_is_word O) df_nil (by decide) O.g_is_word O.F_is_word.kp O.b_is_word (ma_cons (me_ix gok C (me_var 0) (me_int)) (ma_nil))) (me_one (me_call C (ok_is_word O) df_nil (by decide) O.g_is_word O.F_is_word.kp O.b_is_word (ma_cons (me_ix gok C (me_var 0) (me_int)) (ma_nil))))))))⟩
theorem sc_is_many : FnScope N_is_many ["value", "start"] (defScope s_is_many) := ⟨rfl, rfl, rfl, by decide +kernel, rfl, by decide +kernel, by decide +kernel⟩
theorem ok_is_many (O : TxOk K mg T) : FnM (T.G K) P w mg base 3 T.f_is_many T.d_is_many ["value", "start"] m_is_many := by
  refine fn_m O.F_is_many sc_is_many rfl rfl (fun cdv A outer s H E C tk => ?_)
  exact ⟨_, mss_cons (ms_if (mt_tr C (me_isi C .tup (by decide) O.n_isinstance O.n_tuple bt_ty_tup (me_var 0))) (mss_one (ms_ret (me_andV (me_cmp (mc_eq gok C (me_blt (cl_len C) rl_len O.n_len bt_len (ma_cons (me_var 0) (ma_nil))) (me_int))) (me_andV (me_cmp (mc_eq gok C (me_ix gok C (me_var 0) (me_int)) (me_str 0 rfl))) (me_one (me_call C (ok_is_index O) df_nil (by decide) O.g_is_index O.F_is_index.kp O.b_is_index (ma_cons (me_ix gok C (me_var 0) (me_int)) (ma_nil)))))))) (mss_nil))
    (mss_one (ms_ret (me_andV (me_call C (ok_is_number O) df_nil (by decide) O.g_is_number O.F_is_number.kp O.b_is_number (ma_cons (me_var 0) (ma_nil))) (me_one (me_chLeLe (me_int) (me_var 0) (me_sub (me_glob 8 O.k_WORDS) (me_var 1)))))))⟩
theorem sc_is_clause : FnScope N_is_clause ["value", "count"] (defScope s_is_clause) := ⟨rfl, rfl, rfl, by decide +kernel, rfl, by decide +kernel, by decide +kernel⟩
theorem ok_is_clause (O : TxOk K mg T) : FnM (T.G K) P w mg base 4 T.f_is_clause T.d_is_clause ["value", "count"] m_is_clause := by
  refine fn_m O.F_is_clause sc_is_clause rfl rfl (fun cdv A outer s H E C tk => ?_)
  exact ⟨_, mss_cons (ms_if ((mw_or (mt_not (mt_tr C (me_isi C .tup (by decide) O.n_isinstance O.n_tuple bt_ty_tup (me_var 0)))) (mw_or (mt_cmp (mc_ne gok C (me_blt (cl_len C) rl_len O.n_len bt_len (ma_cons (me_var 0) (ma_nil))) (me_int))) (mw_or1 (mt_not (mt_tr C (me_isi C .tup (by decide) O.n_isinstance O.n_tuple bt_ty_tup (me_ix gok C (me_var 0) (me_int)))))))).mt) (mss_one (ms_ret (me_bl))) (mss_nil))
    (mss_cons (ms_asg (me_var 0) (mg_tup C (mgs_cons (mg_name 2 C.nd) (mgs_cons (mg_name 3 C.nd) (mgs_cons (mg_name 4 C.nd) (mgs_cons (mg_name 5 C.nd) (mgs_nil))))) (gs_lenS (gs_lenS (gs_lenS (gs_lenS gs_len0))))))
    (mss_cons (ms_if ((mw_or (mt_cmp (mc_gt (me_blt (cl_len C) rl_len O.n_len bt_len (ma_cons (me_var 2) (ma_nil))) (me_glob 4 O.k_MOST_GUARDS))) (mw_or1 (mt_not (mt_tr C (me_blt (cl_all C) rl_all O.n_all bt_all (ma_cons (me_lc [("guard", 6)] C (mi_alt (mi_lst C (me_var 2)) (mi_tup C (me_var 2))) (blkOk_by (N := N_is_clause) (sc := defScope s_is_clause) (by decide +kernel)) (fun _ _ _ _ _ C => mg_name 6 C.nd) (fun _ _ _ _ _ C => mts_nil) (fun _ _ _ _ _ C => me_call C (ok_is_guard O) df_nil (by decide) O.g_is_guard O.F_is_guard.kp O.b_is_guard (ma_cons (me_var 6) (ma_nil))) (tgw_name (by decide))) (ma_nil))))))).mt) (mss_one (ms_ret (me_bl))) (mss_nil))
    (mss_cons (ms_if ((mw_or (mt_not (mt_tr C (me_call C (ok_is_index O) df_nil (by decide) O.g_is_index O.F_is_index.kp O.b_is_index (ma_cons (me_var 3) (ma_nil))))) (mw_or1 (mt_not (mt_tr C (me_call C (ok_is_many O) df_nil (by decide) O.g_is_many O.F_is_many.kp O.b_is_many (ma_cons (me_var 4) (ma_cons (me_var 3) (ma_nil)))))))).mt) (mss_one (ms_ret (me_bl))) (mss_nil))
    (mss_cons (ms_if (mt_tr C (me_isi C .str (by decide) O.n_isinstance O.n_str bt_ty_str (me_var 5))) (mss_one (ms_ret (me_cmp (mc_eq gok C (me_var 5) (me_globS 1 O.k_OWN rfl))))) (mss_nil))
    (mss_one (ms_ret (me_andV (me_call C (ok_is_number O) df_nil (by decide) O.g_is_number O.F_is_number.kp O.b_is_number (ma_cons (me_var 5) (ma_nil))) (me_one (me_orV (me_cmp (mc_eq gok C (me_var 5) (me_glob 0 O.k_DATA))) (me_one (me_chLeLt (me_glob 2 O.k_FIRST_TYPE) (me_var 5) (me_var 1))))))))))))⟩
theorem sc_is_program : FnScope N_is_program ["value", "count"] (defScope s_is_program) := ⟨rfl, rfl, rfl, by decide +kernel, rfl, by decide +kernel, by decide +kernel⟩
theorem ok_is_program (O : TxOk K mg T) : FnM (T.G K) P w mg base 5 T.f_is_program T.d_is_program ["value", "count"] m_is_program := by
  refine fn_m O.F_is_program sc_is_program rfl rfl (fun cdv A outer s H E C tk => ?_)
  exact ⟨_, mss_cons (ms_if ((mw_or (mt_not (mt_tr C (me_isi C .tup (by decide) O.n_isinstance O.n_tuple bt_ty_tup (me_var 0)))) (mw_or1 (mt_cmp (mc_gt (me_blt (cl_len C) rl_len O.n_len bt_len (ma_cons (me_var 0) (ma_nil))) (me_glob 8 O.k_MOST_CLAUSES))))).mt) (mss_one (ms_ret (me_bl))) (mss_nil))
    (mss_one (ms_ret (me_blt (cl_all C) rl_all O.n_all bt_all (ma_cons (me_lc [("clause", 2)] C (mi_alt (mi_lst C (me_var 0)) (mi_tup C (me_var 0))) (blkOk_by (N := N_is_program) (sc := defScope s_is_program) (by decide +kernel)) (fun _ _ _ _ _ C => mg_name 2 C.nd) (fun _ _ _ _ _ C => mts_nil) (fun _ _ _ _ _ C => me_call C (ok_is_clause O) df_nil (by decide) O.g_is_clause O.F_is_clause.kp O.b_is_clause (ma_cons (me_var 2) (ma_cons (me_var 1) (ma_nil)))) (tgw_name (by decide))) (ma_nil)))))⟩
theorem sc_Types_add : FnScope N_Types_add ["self", "program", "environment"] (defScope s_Types_add) := ⟨rfl, rfl, rfl, by decide +kernel, rfl, by decide +kernel, by decide +kernel⟩
theorem ok_Types_add (O : TxOk K mg T) : FnM (T.G K) P w mg base 6 T.f_Types_add T.d_Types_add ["self", "program", "environment"] m_Types_add := by
  refine fn_m O.F_Types_add sc_Types_add rfl rfl (fun cdv A outer s H E C tk => ?_)
  exact ⟨_, mss_cons (ms_if (mt_not (mt_tr C (me_call C (ok_is_program O) df_nil (by decide) O.g_is_program O.F_is_program.kp O.b_is_program (ma_cons (me_var 1) (ma_cons (me_meth0 C (ok_Types_count O) 0 rfl O.cl_Types O.M_Types_count df_nil (by decide) O.b_Types_count (me_var 0)) (ma_nil)))))) (mss_one (ms_ret (me_non))) (mss_nil))
    (mss_cons (ms_if (mt_cmp (mc_in gok C (me_var 1) (me_fld gok C 1 rfl (me_var 0)))) (mss_one (ms_ret (me_add C (me_glob 2 O.k_FIRST_TYPE) (me_bm C PySem.F.slot_list_index PySem.F.type_list_index (cl_index C) (rm_index gok) (me_fld gok C 1 rfl (me_var 0)) (ma_cons (me_var 1) (ma_nil)))))) (mss_nil))
    (mss_cons (ms_if (mt_cmp (mc_ge (me_bm C PySem.F.slot_list_count PySem.F.type_list_count (cl_count C) (rm_count gok) (me_fld gok C 2 rfl (me_var 0)) (ma_cons (me_var 2) (ma_nil))) (me_glob 4 O.k_MOST_TYPES))) (mss_one (ms_ret (me_non))) (mss_nil))
    (mss_cons (ms_expr (me_bm C PySem.F.slot_list_append PySem.F.type_list_append mt_append rm_append (me_fld gok C 1 rfl (me_var 0)) (ma_cons (me_var 1) (ma_nil))))
    (mss_cons (ms_expr (me_bm C PySem.F.slot_list_append PySem.F.type_list_append mt_append rm_append (me_fld gok C 2 rfl (me_var 0)) (ma_cons (me_var 2) (ma_nil))))
    (mss_one (ms_ret (me_sub (me_meth0 C (ok_Types_count O) 0 rfl O.cl_Types O.M_Types_count df_nil (by decide) O.b_Types_count (me_var 0)) (me_int))))))))⟩
theorem sc_Types_is_known : FnScope N_Types_is_known ["self", "number"] (defScope s_Types_is_known) := ⟨rfl, rfl, rfl, by decide +kernel, rfl, by decide +kernel, by decide +kernel⟩
theorem ok_Types_is_known (O : TxOk K mg T) : FnM (T.G K) P w mg base 2 T.f_Types_is_known T.d_Types_is_known ["self", "number"] m_Types_is_known := by
  refine fn_m O.F_Types_is_known sc_Types_is_known rfl rfl (fun cdv A outer s H E C tk => ?_)
  exact ⟨_, mss_one (ms_ret (me_andV (me_call C (ok_is_number O) df_nil (by decide) O.g_is_number O.F_is_number.kp O.b_is_number (ma_cons (me_var 1) (ma_nil))) (me_one (me_chLeLt (me_int) (me_var 1) (me_meth0 C (ok_Types_count O) 0 rfl O.cl_Types O.M_Types_count df_nil (by decide) O.b_Types_count (me_var 0))))))⟩
theorem sc__law_root : FnScope N__law_root ["_law_words", "_law_blocks", "_law_count"] (defScope s__law_root) := ⟨rfl, rfl, rfl, by decide +kernel, rfl, by decide +kernel, by decide +kernel⟩
theorem ok__law_root (O : TxOk K mg T) : FnM (T.G K) P w mg base 1 T.f__law_root T.d__law_root ["_law_words", "_law_blocks", "_law_count"] m__law_root := by
  refine fn_m O.F__law_root sc__law_root rfl rfl (fun cdv A outer s H E C tk => ?_)
  exact ⟨_, mss_cons (ms_if (mt_cmp (mc_eq gok C (me_ix gok C (me_var 0) (me_int)) (me_int))) (mss_one (ms_ret (me_tup (ma_nil)))) (mss_nil))
    (mss_cons (ms_if ((mw_or (mt_cmp (mc_lt (me_ix gok C (me_var 0) (me_int)) (me_int))) (mw_or (mt_cmp (mc_ge (me_ix gok C (me_var 0) (me_int)) (me_var 1))) (mw_or (mt_cmp (mc_eq gok C (me_ix gok C (me_var 0) (me_int)) (me_int))) (mw_or1 (mt_cmp (mc_ge (me_ix gok C (me_var 0) (me_int)) (me_var 2))))))).mt) (mss_one (ms_ret (me_non))) (mss_nil))
    (mss_one (ms_ret (me_tup (ma_cons (me_tup (ma_cons (me_ix gok C (me_var 0) (me_int)) (ma_cons (me_ix gok C (me_var 0) (me_int)) (ma_nil)))) (ma_nil))))))⟩
theorem sc__law_run : FnScope N__law_run ["_law_program_here", "_law_words", "_law_blocks", "_law_own"] (defScope s__law_run) := ⟨rfl, rfl, rfl, by decide +kernel, rfl, by decide +kernel, by decide +kernel⟩
theorem ok__law_run (O : TxOk K mg T) : FnM (T.G K) P w mg base 1 T.f__law_run T.d__law_run ["_law_program_here", "_law_words", "_law_blocks", "_law_own"] m__law_run := by
  refine fn_m O.F__law_run sc__law_run rfl rfl (fun cdv A outer s H E C tk => ?_)
  exact ⟨_, mss_cons (ms_asg (me_lst (ma_nil)) (mg_name 4 C.nd))
    (mss_cons (ms_for C (mi_alt (mi_lst C (me_var 0)) (mi_tup C (me_var 0))) (mg_tup C (mgs_cons (mg_name 5 C.nd) (mgs_cons (mg_name 6 C.nd) (mgs_cons (mg_name 7 C.nd) (mgs_cons (mg_name 8 C.nd) (mgs_nil))))) (gs_lenS (gs_lenS (gs_lenS (gs_lenS gs_len0))))) (mss_cons (ms_asg (me_bl) (mg_name 9 C.nd))
    (mss_cons (ms_for C (mi_alt (mi_lst C (me_var 5)) (mi_tup C (me_var 5))) (mg_tup C (mgs_cons (mg_name 10 C.nd) (mgs_cons (mg_name 11 C.nd) (mgs_cons (mg_name 12 C.nd) (mgs_nil)))) (gs_lenS (gs_lenS (gs_lenS gs_len0)))) (mss_one (ms_asg (me_andV (me_var 9) (me_one (me_cmp (mc_eq gok C (me_and (me_ix gok C (me_var 1) (me_var 10)) (me_var 11)) (me_var 12))))) (mg_name 9 C.nd))))
    (mss_cons (ms_if (mt_not (mt_tr C (me_isi C .int (by decide) O.n_isinstance O.n_int bt_ty_int (me_var 7)))) (mss_one (ms_asg (me_ix gok C (me_var 1) (me_ix gok C (me_var 7) (me_int))) (mg_name 7 C.nd))) (mss_nil))
    (mss_one (ms_for C (mi_rng2 O.n_range (ma_cons (me_var 6) (ma_cons (me_blt (call_min2 rfl) rl_min2 O.n_min bt_min (ma_cons (me_int) (ma_cons (me_add C (me_var 6) (me_var 7)) (ma_nil)))) (ma_nil)))) (mg_name 10 C.nd) (mss_one (ms_if ((mw_and (mt_tr C (me_var 9)) (mw_and1 (mt_cmp (mc_ne gok C (me_ix gok C (me_var 1) (me_var 10)) (me_int))))).mt) (mss_one (ms_expr (me_bm C PySem.F.slot_list_append PySem.F.type_list_append mt_append rm_append (me_var 4) (ma_cons (me_tup (ma_cons (me_ix gok C (me_var 1) (me_var 10)) (ma_cons (me_ix gok C (me_lst (ma_cons (me_var 8) (ma_cons (me_var 3) (ma_nil)))) (me_bty call_int1 rl_int O.n_int bt_int (ma_cons (me_cmp (mc_eq gok C (me_var 8) (me_str 1 rfl))) (ma_nil)))) (ma_nil)))) (ma_nil))))) (mss_nil)))))))))
    (mss_cons (ms_setLc 13 [("_law_row", 15)] C (mi_alt (mi_lst C (me_var 4)) (mi_tup C (me_var 4))) (blkOk_by (N := N__law_run) (sc := defScope s__law_run) (by decide +kernel)) (fun _ _ _ _ _ C => mg_name 15 C.nd) (fun _ _ _ _ _ C => mts_nil) (fun _ _ _ _ _ C => me_ix gok C (me_var 15) (me_int)) (tgw_name (by decide)) (sw_true rfl rfl rfl (by decide +kernel)))
    (mss_cons (ms_for C (mi_rng1 O.n_range (ma_cons (me_blt (cl_len C) rl_len O.n_len bt_len (ma_cons (me_var 13) (ma_nil))) (ma_nil))) (mg_name 14 C.nd) (mss_one (ms_if ((mw_or (mt_cmp (mc_lt (me_ix gok C (me_var 13) (me_var 14)) (me_int))) (mw_or (mt_cmp (mc_ge (me_ix gok C (me_var 13) (me_var 14)) (me_var 2))) (mw_or1 (mt_cmp (mc_in gok C (me_ix gok C (me_var 13) (me_var 14)) (me_sl C (me_var 13) (mo_no) (mo_so (me_var 14)))))))).mt) (mss_one (ms_ret (me_non))) (mss_nil))))
    (mss_one (ms_ret (me_bty (cl_tuple C) rl_tuple O.n_tuple bt_tuple (ma_cons (me_var 4) (ma_nil))))))))⟩
theorem sc_words_of : FnScope N_words_of ["clause", "words"] (defScope s_words_of) := ⟨rfl, rfl, rfl, by decide +kernel, rfl, by decide +kernel, by decide +kernel⟩
theorem ok_words_of (O : TxOk K mg T) : FnM (T.G K) P w mg base 1 T.f_words_of T.d_words_of ["clause", "words"] m_words_of := by
  refine fn_m O.F_words_of sc_words_of rfl rfl (fun cdv A outer s H E C tk => ?_)
  exact ⟨_, mss_cons (ms_asg (me_var 0) (mg_tup C (mgs_cons (mg_name 2 C.nd) (mgs_cons (mg_name 3 C.nd) (mgs_cons (mg_name 4 C.nd) (mgs_cons (mg_name 5 C.nd) (mgs_nil))))) (gs_lenS (gs_lenS (gs_lenS (gs_lenS gs_len0))))))
    (mss_cons (ms_for C (mi_alt (mi_lst C (me_var 2)) (mi_tup C (me_var 2))) (mg_tup C (mgs_cons (mg_name 6 C.nd) (mgs_cons (mg_name 7 C.nd) (mgs_cons (mg_name 8 C.nd) (mgs_nil)))) (gs_lenS (gs_lenS (gs_lenS gs_len0)))) (mss_one (ms_if (mt_cmp (mc_ne gok C (me_and (me_ix gok C (me_var 1) (me_var 6)) (me_var 7)) (me_var 8))) (mss_one (ms_ret (me_tup (ma_nil)))) (mss_nil))))
    (mss_cons (ms_if (mt_tr C (me_isi C .tup (by decide) O.n_isinstance O.n_tuple bt_ty_tup (me_var 4))) (mss_one (ms_asg (me_ix gok C (me_var 1) (me_ix gok C (me_var 4) (me_int))) (mg_name 4 C.nd))) (mss_nil))
    (mss_one (ms_ret (me_sl C (me_var 1) (mo_so (me_var 3)) (mo_so (me_blt (call_min2 rfl) rl_min2 O.n_min bt_min (ma_cons (me_glob 8 O.k_WORDS) (ma_cons (me_add C (me_var 3) (me_var 4)) (ma_nil))))))))))⟩
theorem sc_is_block : FnScope N_is_block ["word", "blocks"] (defScope s_is_block) := ⟨rfl, rfl, rfl, by decide +kernel, rfl, by decide +kernel, by decide +kernel⟩
theorem ok_is_block (O : TxOk K mg T) : FnM (T.G K) P w mg base 1 T.f_is_block T.d_is_block ["word", "blocks"] m_is_block := by
  refine fn_m O.F_is_block sc_is_block rfl rfl (fun cdv A outer s H E C tk => ?_)
  exact ⟨_, mss_one (ms_ret (me_chLeLt (me_glob 4 O.k_ENVIRONMENTS) (me_var 0) (me_var 1)))⟩
theorem sc_run_program : FnScope N_run_program ["program", "words", "blocks", "own"] (defScope s_run_program) := ⟨rfl, rfl, rfl, by decide +kernel, rfl, by decide +kernel, by decide +kernel⟩
theorem ok_run_program (O : TxOk K mg T) : FnM (T.G K) P w mg base 2 T.f_run_program T.d_run_program ["program", "words", "blocks", "own"] m_run_program := by
  refine fn_m O.F_run_program sc_run_program rfl rfl (fun cdv A outer s H E C tk => ?_)
  exact ⟨_, mss_cons (ms_asg (me_lst (ma_nil)) (mg_name 4 C.nd))
    (mss_cons (ms_asg (me_dict) (mg_name 5 C.nd))
    (mss_cons (ms_for C (mi_alt (mi_lst C (me_var 0)) (mi_tup C (me_var 0))) (mg_name 6 C.nd) (mss_cons (ms_asg (me_ix gok C (me_var 6) (me_int)) (mg_name 7 C.nd))
    (mss_cons (ms_if (mt_cmp (mc_eq gok C (me_var 7) (me_globS 1 O.k_OWN rfl))) (mss_one (ms_asg (me_var 3) (mg_name 7 C.nd))) (mss_nil))
    (mss_one (ms_for C (mi_alt (mi_lst C (me_call C (ok_words_of O) df_nil (by decide) O.g_words_of O.F_words_of.kp O.b_words_of (ma_cons (me_var 6) (ma_cons (me_var 1) (ma_nil))))) (mi_tup C (me_call C (ok_words_of O) df_nil (by decide) O.g_words_of O.F_words_of.kp O.b_words_of (ma_cons (me_var 6) (ma_cons (me_var 1) (ma_nil)))))) (mg_name 8 C.nd) (mss_one (ms_if (mt_cmp (mc_ne gok C (me_var 8) (me_int))) (mss_cons (ms_if ((mw_or (mt_not (mt_tr C (me_call C (ok_is_block O) df_nil (by decide) O.g_is_block O.F_is_block.kp O.b_is_block (ma_cons (me_var 8) (ma_cons (me_var 2) (ma_nil)))))) (mw_or1 (mt_cmp (mc_in gok C (me_var 8) (me_var 5))))).mt) (mss_one (ms_ret (me_non))) (mss_nil))
    (mss_cons (ms_sub gok C (me_var 5) (me_var 8) (me_bl))
    (mss_one (ms_expr (me_bm C PySem.F.slot_list_append PySem.F.type_list_append mt_append rm_append (me_var 4) (ma_cons (me_tup (ma_cons (me_var 8) (ma_cons (me_var 7) (ma_nil)))) (ma_nil))))))) (mss_nil))))))))
    (mss_one (ms_ret (me_bty (cl_tuple C) rl_tuple O.n_tuple bt_tuple (ma_cons (me_var 4) (ma_nil)))))))⟩
theorem sc_Types_owned : FnScope N_Types_owned ["self", "number", "words"] (defScope s_Types_owned) := ⟨rfl, rfl, rfl, by decide +kernel, rfl, by decide +kernel, by decide +kernel⟩
theorem ok_Types_owned (O : TxOk K mg T) : FnM (T.G K) P w mg base 3 T.f_Types_owned T.d_Types_owned ["self", "number", "words"] m_Types_owned := by
  refine fn_m O.F_Types_owned sc_Types_owned rfl rfl (fun cdv A outer s H E C tk => ?_)
  exact ⟨_, mss_cons (ms_if (mt_cmp (mc_eq gok C (me_var 1) (me_glob 0 O.k_DATA))) (mss_one (ms_ret (me_tup (ma_nil)))) (mss_nil))
    (mss_cons (ms_if (mt_cmp (mc_ne gok C (me_var 1) (me_glob 1 O.k_ROOT))) (mss_one (ms_ret (me_call C (ok_run_program O) df_nil (by decide) O.g_run_program O.F_run_program.kp O.b_run_program (ma_cons (me_ix gok C (me_fld gok C 1 rfl (me_var 0)) (me_sub (me_var 1) (me_glob 2 O.k_FIRST_TYPE))) (ma_cons (me_var 2) (ma_cons (me_fld gok C 0 rfl (me_var 0)) (ma_cons (me_var 1) (ma_nil)))))))) (mss_nil))
    (mss_cons (ms_if (mt_cmp (mc_eq gok C (me_ix gok C (me_var 2) (me_int)) (me_int))) (mss_one (ms_ret (me_tup (ma_nil)))) (mss_nil))
    (mss_cons (ms_if ((mw_or (mt_not (mt_tr C (me_call C (ok_is_block O) df_nil (by decide) O.g_is_block O.F_is_block.kp O.b_is_block (ma_cons (me_ix gok C (me_var 2) (me_int)) (ma_cons (me_fld gok C 0 rfl (me_var 0)) (ma_nil)))))) (mw_or (mt_not (mt_tr C (me_meth C (ok_Types_is_known O) 0 rfl O.cl_Types O.M_Types_is_known df_nil (by decide) O.b_Types_is_known (me_var 0) (ma_cons (me_ix gok C (me_var 2) (me_int)) (ma_nil))))) (mw_or1 (mt_cmp (mc_eq gok C (me_ix gok C (me_var 2) (me_int)) (me_glob 1 O.k_ROOT)))))).mt) (mss_one (ms_ret (me_non))) (mss_nil))
    (mss_one (ms_ret (me_tup (ma_cons (me_tup (ma_cons (me_ix gok C (me_var 2) (me_int)) (ma_cons (me_ix gok C (me_var 2) (me_int)) (ma_nil)))) (ma_nil))))))))⟩
theorem sc_law : FnScope N_law ["_law_script"] (defScope s_law) := ⟨rfl, rfl, rfl, by decide +kernel, rfl, by decide +kernel, by decide +kernel⟩
theorem ok_law (O : TxOk K mg T) : FnM (T.G K) P w mg base 7 T.f_law T.d_law ["_law_script"] m_law := by
  refine fn_m O.F_law sc_law rfl rfl (fun cdv A outer s H E C tk => ?_)
  exact ⟨_, mss_cons (ms_asg (me_lst (ma_cons (me_bty (cl_list C) rl_list O.n_list bt_list (ma_cons (me_var 0) (ma_nil))) (ma_cons (me_int) (ma_cons (me_int) (ma_cons (me_int) (ma_nil)))))) (mg_name 1 C.nd))
    (mss_cons (ms_asg (me_add C (me_int) (me_call C (ok__law_next O) df_nil (by decide) O.g__law_next O.F__law_next.kp O.b__law_next (ma_cons (me_var 1) (ma_cons (me_int) (ma_nil))))) (mg_name 2 C.nd))
    (mss_cons (ms_asg (me_make C (ok_Types___init__ O) 0 rfl O.cl_Types O.mk_Types df_nil (by decide) O.gc_Types O.b_Types___init__ (ma_cons (me_var 2) (ma_nil))) (mg_name 3 C.nd))
    (mss_cons (ms_asg (me_lst (ma_nil)) (mg_name 4 C.nd))
    (mss_cons (ms_asg (me_lst (ma_nil)) (mg_name 5 C.nd))
    (mss_cons (ms_if ((mw_or (mt_cmp (mc_ne gok C (me_glob 4 O.k_MOST_TYPES) (me_int))) (mw_or (mt_cmp (mc_ne gok C (me_meth0 C (ok_Types_count O) 0 rfl O.cl_Types O.M_Types_count df_nil (by decide) O.b_Types_count (me_var 3)) (me_int))) (mw_or1 (mt_cmp (mc_ne gok C (me_meth0 C (ok_Types_programs O) 0 rfl O.cl_Types O.M_Types_programs df_nil (by decide) O.b_Types_programs (me_var 3)) (me_lst (ma_nil))))))).mt) (mss_one (ms_ret (me_bl))) (mss_nil))
    (mss_cons (ms_for C (mi_rng1 O.n_range (ma_cons (me_add C (me_int) (me_call C (ok__law_next O) df_nil (by decide) O.g__law_next O.F__law_next.kp O.b__law_next (ma_cons (me_var 1) (ma_cons (me_int) (ma_nil))))) (ma_nil))) (mg_name 6 C.nd) (mss_cons (ms_asg (me_call C (ok__law_program O) df_nil (by decide) O.g__law_program O.F__law_program.kp O.b__law_program (ma_cons (me_var 1) (ma_nil))) (mg_name 7 C.nd))
    (mss_cons (ms_if ((mw_and (mt_cmp (mc_ne gok C (me_var 4) (me_lst (ma_nil)))) (mw_and1 (mt_cmp (mc_eq gok C (me_call C (ok__law_next O) df_nil (by decide) O.g__law_next O.F__law_next.kp O.b__law_next (ma_cons (me_var 1) (ma_cons (me_int) (ma_nil)))) (me_int))))).mt) (mss_one (ms_asg (me_ix gok C (me_var 4) (me_call C (ok__law_next O) df_nil (by decide) O.g__law_next O.F__law_next.kp O.b__law_next (ma_cons (me_var 1) (ma_cons (me_blt (cl_len C) rl_len O.n_len bt_len (ma_cons (me_var 4) (ma_nil))) (ma_nil))))) (mg_name 7 C.nd))) (mss_nil))
    (mss_cons (ms_asg (me_cmp (mc_eq gok C (me_blt (cl_len C) rl_len O.n_len bt_len (ma_cons (me_lc [("_law_clause", 13)] C (mi_alt (mi_lst C (me_var 7)) (mi_tup C (me_var 7))) (blkOk_by (N := N_law) (sc := defScope s_law) (by decide +kernel)) (fun _ _ _ _ _ C => mg_name 13 C.nd) (fun _ _ _ _ _ C => mts_one ((mw_and (mt_cmp (mc_eq gok C (me_ix gok C (me_var 13) (me_int)) (me_int))) (mw_and1 (mt_cmp (mc_eq gok C (me_var 4) (me_lst (ma_nil)))))).mt)) (fun _ _ _ _ _ C => me_var 13) (tgw_name (by decide))) (ma_nil))) (me_int))) (mg_name 8 C.nd))
    (mss_cons (ms_if (mt_cmp (mc_eq gok C (me_call C (ok__law_next O) df_nil (by decide) O.g__law_next O.F__law_next.kp O.b__law_next (ma_cons (me_var 1) (ma_cons (me_int) (ma_nil)))) (me_int))) (mss_cons (ms_asg (me_ix gok C (me_lst (ma_cons (me_bty (cl_list C) rl_list O.n_list bt_list (ma_cons (me_var 7) (ma_nil))) (ma_cons (me_non) (ma_cons (me_add C (me_var 7) (me_tup (ma_cons (me_tup (ma_cons (me_tup (ma_nil)) (ma_cons (me_int) (ma_cons (me_int) (ma_cons (me_int) (ma_nil)))))) (ma_nil)))) (ma_nil))))) (me_call C (ok__law_next O) df_nil (by decide) O.g__law_next O.F__law_next.kp O.b__law_next (ma_cons (me_var 1) (ma_cons (me_int) (ma_nil))))) (mg_name 7 C.nd))
    (mss_one (ms_asg (me_bl) (mg_name 8 C.nd)))) (mss_nil))
    (mss_cons (ms_asg (me_call C (ok__law_next O) df_nil (by decide) O.g__law_next O.F__law_next.kp O.b__law_next (ma_cons (me_var 1) (ma_cons (me_int) (ma_nil)))) (mg_name 9 C.nd))
    (mss_cons (ms_asg (me_non) (mg_name 10 C.nd))
    (mss_cons (ms_if ((mw_and (mt_tr C (me_var 8)) (mw_and1 (mt_cmp (mc_in gok C (me_var 7) (me_var 4))))).mt) (mss_one (ms_asg (me_add C (me_int) (me_bm C PySem.F.slot_list_index PySem.F.type_list_index (cl_index C) (rm_index gok) (me_var 4) (ma_cons (me_var 7) (ma_nil)))) (mg_name 10 C.nd))) (mss_one (ms_if ((mw_and (mt_tr C (me_var 8)) (mw_and1 (mt_cmp (mc_lt (me_bm C PySem.F.slot_list_count PySem.F.type_list_count (cl_count C) (rm_count gok) (me_var 5) (ma_cons (me_var 9) (ma_nil))) (me_int))))).mt) (mss_cons (ms_asg (me_add C (me_int) (me_blt (cl_len C) rl_len O.n_len bt_len (ma_cons (me_var 4) (ma_nil)))) (mg_name 10 C.nd))
    (mss_cons (ms_expr (me_bm C PySem.F.slot_list_append PySem.F.type_list_append mt_append rm_append (me_var 4) (ma_cons (me_var 7) (ma_nil))))
    (mss_one (ms_expr (me_bm C PySem.F.slot_list_append PySem.F.type_list_append mt_append rm_append (me_var 5) (ma_cons (me_var 9) (ma_nil))))))) (mss_nil))))
    (mss_cons (ms_if (mt_cmp (mc_ne gok C (me_meth C (ok_Types_add O) 0 rfl O.cl_Types O.M_Types_add df_nil (by decide) O.b_Types_add (me_var 3) (ma_cons (me_var 7) (ma_cons (me_var 9) (ma_nil)))) (me_var 10))) (mss_one (ms_ret (me_bl))) (mss_nil))
    (mss_cons (ms_if ((mw_or (mt_cmp (mc_ne gok C (me_meth0 C (ok_Types_programs O) 0 rfl O.cl_Types O.M_Types_programs df_nil (by decide) O.b_Types_programs (me_var 3)) (me_var 4))) (mw_or1 (mt_cmp (mc_ne gok C (me_meth0 C (ok_Types_count O) 0 rfl O.cl_Types O.M_Types_count df_nil (by decide) O.b_Types_count (me_var 3)) (me_add C (me_int) (me_blt (cl_len C) rl_len O.n_len bt_len (ma_cons (me_var 4) (ma_nil)))))))).mt) (mss_one (ms_ret (me_bl))) (mss_nil))
    (mss_one (ms_if ((mw_or (mt_cmp (mc_isnB (me_meth C (ok_Types_is_known O) 0 rfl O.cl_Types O.M_Types_is_known df_nil (by decide) O.b_Types_is_known (me_var 3) (ma_cons (me_add C (me_int) (me_blt (cl_len C) rl_len O.n_len bt_len (ma_cons (me_var 4) (ma_nil)))) (ma_nil))) (me_bl))) (mw_or1 (mt_cmp (mc_isnB (me_meth C (ok_Types_is_known O) 0 rfl O.cl_Types O.M_Types_is_known df_nil (by decide) O.b_Types_is_known (me_var 3) (ma_cons (me_add C (me_int) (me_blt (cl_len C) rl_len O.n_len bt_len (ma_cons (me_var 4) (ma_nil)))) (ma_nil))) (me_bl))))).mt) (mss_one (ms_ret (me_bl))) (mss_nil)))))))))))))
    (mss_cons (ms_for C (mi_rng1 O.n_range (ma_cons (me_int) (ma_nil))) (mg_name 6 C.nd) (mss_cons (ms_asg (me_bty (cl_tuple C) rl_tuple O.n_tuple bt_tuple (ma_cons (me_lc [("_law_k", 14)] C (mi_rng1 O.n_range (ma_cons (me_int) (ma_nil))) (blkOk_by (N := N_law) (sc := defScope s_law) (by decide +kernel)) (fun _ _ _ _ _ C => mg_name 14 C.nd) (fun _ _ _ _ _ C => mts_nil) (fun _ _ _ _ _ C => me_ix gok C (me_lst (ma_cons (me_int) (ma_cons (me_call C (ok__law_next O) df_nil (by decide) O.g__law_next O.F__law_next.kp O.b__law_next (ma_cons (me_var 1) (ma_cons (me_int) (ma_nil)))) (ma_cons (me_add C (me_int) (me_call C (ok__law_next O) df_nil (by decide) O.g__law_next O.F__law_next.kp O.b__law_next (ma_cons (me_var 1) (ma_cons (me_int) (ma_nil))))) (ma_cons (me_var 2) (ma_nil)))))) (me_call C (ok__law_next O) df_nil (by decide) O.g__law_next O.F__law_next.kp O.b__law_next (ma_cons (me_var 1) (ma_cons (me_int) (ma_nil))))) (tgw_name (by decide))) (ma_nil))) (mg_name 11 C.nd))
    (mss_cons (ms_asg (me_call C (ok__law_next O) df_nil (by decide) O.g__law_next O.F__law_next.kp O.b__law_next (ma_cons (me_var 1) (ma_cons (me_meth0 C (ok_Types_count O) 0 rfl O.cl_Types O.M_Types_count df_nil (by decide) O.b_Types_count (me_var 3)) (ma_nil)))) (mg_name 12 C.nd))
    (mss_cons (ms_asg (me_tup (ma_nil)) (mg_name 10 C.nd))
    (mss_cons (ms_if (mt_cmp (mc_eq gok C (me_var 12) (me_int))) (mss_one (ms_asg (me_call C (ok__law_root O) df_nil (by decide) O.g__law_root O.F__law_root.kp O.b__law_root (ma_cons (me_var 11) (ma_cons (me_var 2) (ma_cons (me_meth0 C (ok_Types_count O) 0 rfl O.cl_Types O.M_Types_count df_nil (by decide) O.b_Types_count (me_var 3)) (ma_nil))))) (mg_name 10 C.nd))) (mss_one (ms_if (mt_cmp (mc_gt (me_var 12) (me_int))) (mss_one (ms_asg (me_call C (ok__law_run O) df_nil (by decide) O.g__law_run O.F__law_run.kp O.b__law_run (ma_cons (me_ix gok C (me_var 4) (me_sub (me_var 12) (me_int))) (ma_cons (me_var 11) (ma_cons (me_var 2) (ma_cons (me_var 12) (ma_nil)))))) (mg_name 10 C.nd))) (mss_nil))))
    (mss_one (ms_if (mt_cmp (mc_ne gok C (me_meth C (ok_Types_owned O) 0 rfl O.cl_Types O.M_Types_owned df_nil (by decide) O.b_Types_owned (me_var 3) (ma_cons (me_var 12) (ma_cons (me_var 11) (ma_nil)))) (me_var 10))) (mss_one (ms_ret (me_bl))) (mss_nil))))))))
    (mss_one (ms_ret (me_andV (me_cmp (mc_isB (me_meth C (ok_Types_is_known O) 0 rfl O.cl_Types O.M_Types_is_known df_nil (by decide) O.b_Types_is_known (me_var 3) (ma_cons (me_non) (ma_nil))) (me_bl))) (me_andV (me_cmp (mc_isB (me_meth C (ok_Types_is_known O) 0 rfl O.cl_Types O.M_Types_is_known df_nil (by decide) O.b_Types_is_known (me_var 3) (ma_cons (me_bl) (ma_nil))) (me_bl))) (me_one (me_cmp (mc_isB (me_meth C (ok_Types_is_known O) 0 rfl O.cl_Types O.M_Types_is_known df_nil (by decide) O.b_Types_is_known (me_var 3) (ma_cons (me_neg (me_int)) (ma_nil))) (me_bl)))))))))))))))⟩
end
theorem all_mk {l : PySem.W.OpenLaw} {w : World} {K : PySem.W.Frag} {h : PySem.Heap} {mg : Str → Option Value} {fa : Addr} (X : K.In h) (G : h.Ns mainGlobals mg) (hfa : mg "law" = some (.ref fa))
    {f0 : Addr} {oc0 kV0 dc0 pm0 cd0 ct0 : Value} {od0 an0 : Option Addr} {sl0 : Array (Option Value)} {f1 : Addr} {oc1 kV1 dc1 pm1 cd1 ct1 : Value} {od1 an1 : Option Addr} {sl1 : Array (Option Value)} {f2 : Addr} {oc2 kV2 dc2 pm2 cd2 ct2 : Value} {od2 an2 : Option Addr} {sl2 : Array (Option Value)} {f3 : Addr} {oc3 kV3 dc3 pm3 cd3 ct3 : Value} {od3 an3 : Option Addr} {sl3 : Array (Option Value)} {f4 : Addr} {oc4 kV4 dc4 pm4 cd4 ct4 : Value} {od4 an4 : Option Addr} {sl4 : Array (Option Value)} {f5 : Addr} {oc5 kV5 dc5 pm5 cd5 ct5 : Value} {od5 an5 : Option Addr} {sl5 : Array (Option Value)} {f6 : Addr} {oc6 kV6 dc6 pm6 cd6 ct6 : Value} {od6 an6 : Option Addr} {sl6 : Array (Option Value)} {f7 : Addr} {oc7 kV7 dc7 pm7 cd7 ct7 : Value} {od7 an7 : Option Addr} {sl7 : Array (Option Value)} {f8 : Addr} {oc8 kV8 dc8 pm8 cd8 ct8 : Value} {od8 an8 : Option Addr} {sl8 : Array (Option Value)} {f9 : Addr} {oc9 kV9 dc9 pm9 cd9 ct9 : Value} {od9 an9 : Option Addr} {sl9 : Array (Option Value)} {f10 : Addr} {oc10 kV10 dc10 pm10 cd10 ct10 : Value} {od10 an10 : Option Addr} {sl10 : Array (Option Value)} {f11 : Addr} {oc11 kV11 dc11 pm11 cd11 ct11 : Value} {od11 an11 : Option Addr} {sl11 : Array (Option Value)} {f12 : Addr} {oc12 kV12 dc12 pm12 cd12 ct12 : Value} {od12 an12 : Option Addr} {sl12 : Array (Option Value)} {f13 : Addr} {oc13 kV13 dc13 pm13 cd13 ct13 : Value} {od13 an13 : Option Addr} {sl13 : Array (Option Value)} {f14 : Addr} {oc14 kV14 dc14 pm14 cd14 ct14 : Value} {od14 an14 : Option Addr} {sl14 : Array (Option Value)} {f15 : Addr} {oc15 kV15 dc15 pm15 cd15 ct15 : Value} {od15 an15 : Option Addr} {sl15 : Array (Option Value)} {f16 : Addr} {oc16 kV16 dc16 pm16 cd16 ct16 : Value} {od16 an16 : Option Addr} {sl16 : Array (Option Value)} {f17 : Addr} {oc17 kV17 dc17 pm17 cd17 ct17 : Value} {od17 an17 : Option Addr} {sl17 : Array (Option Value)} {f18 : Addr} {oc18 kV18 dc18 pm18 cd18 ct18 : Value} {od18 an18 : Option Addr} {sl18 : Array (Option Value)} {f19 : Addr} {oc19 kV19 dc19 pm19 cd19 ct19 : Value} {od19 an19 : Option Addr} {sl19 : Array (Option Value)} {f20 : Addr} {oc20 kV20 dc20 pm20 cd20 ct20 : Value} {od20 an20 : Option Addr} {sl20 : Array (Option Value)} {CTypes : Addr} {tDATA tENVIRONMENTS tFIRST_TYPE tMOST_CLAUSES tMOST_GUARDS tMOST_TYPES tOWN tROOT tTOP tWORDS : Tok}
    (ATypes : PySem.W.nsIn K mainGlobals "Types" = some (some (.ref CTypes)))
    (a0 : PySem.W.nsIn K mainGlobals "_law_next" = some (some (.ref f0)))
    (a1 : PySem.W.findIn K (.ref CTypes) "__init__" = some (some (.ref f1)))
    (i1 : PySem.W.isFn K (.ref f1) = true)
    (a2 : PySem.W.findIn K (.ref CTypes) "count" = some (some (.ref f2)))
    (i2 : PySem.W.isFn K (.ref f2) = true)
    (a3 : PySem.W.findIn K (.ref CTypes) "programs" = some (some (.ref f3)))
    (i3 : PySem.W.isFn K (.ref f3) = true)
    (a4 : PySem.W.nsIn K mainGlobals "_law_program" = some (some (.ref f4)))
    (a5 : PySem.W.nsIn K mainGlobals "is_number" = some (some (.ref f5)))
    (a6 : PySem.W.nsIn K mainGlobals "is_index" = some (some (.ref f6)))
    (a7 : PySem.W.nsIn K mainGlobals "is_word" = some (some (.ref f7)))
    (a8 : PySem.W.nsIn K mainGlobals "is_guard" = some (some (.ref f8)))
    (a9 : PySem.W.nsIn K mainGlobals "is_many" = some (some (.ref f9)))
    (a10 : PySem.W.nsIn K mainGlobals "is_clause" = some (some (.ref f10)))
    (a11 : PySem.W.nsIn K mainGlobals "is_program" = some (some (.ref f11)))
    (a12 : PySem.W.findIn K (.ref CTypes) "add" = some (some (.ref f12)))
    (i12 : PySem.W.isFn K (.ref f12) = true)
    (a13 : PySem.W.findIn K (.ref CTypes) "is_known" = some (some (.ref f13)))
    (i13 : PySem.W.isFn K (.ref f13) = true)
    (a14 : PySem.W.nsIn K mainGlobals "_law_root" = some (some (.ref f14)))
    (a15 : PySem.W.nsIn K mainGlobals "_law_run" = some (some (.ref f15)))
    (a16 : PySem.W.nsIn K mainGlobals "words_of" = some (some (.ref f16)))
    (a17 : PySem.W.nsIn K mainGlobals "is_block" = some (some (.ref f17)))
    (a18 : PySem.W.nsIn K mainGlobals "run_program" = some (some (.ref f18)))
    (a19 : PySem.W.findIn K (.ref CTypes) "owned" = some (some (.ref f19)))
    (i19 : PySem.W.isFn K (.ref f19) = true)
    (a20 : PySem.W.nsIn K mainGlobals "law" = some (some (.ref f20)))
    (KDATA : PySem.W.nsIn K mainGlobals "DATA" = some (some (.int 0 tDATA)))
    (KENVIRONMENTS : PySem.W.nsIn K mainGlobals "ENVIRONMENTS" = some (some (.int 4 tENVIRONMENTS)))
    (KFIRST_TYPE : PySem.W.nsIn K mainGlobals "FIRST_TYPE" = some (some (.int 2 tFIRST_TYPE)))
    (KMOST_CLAUSES : PySem.W.nsIn K mainGlobals "MOST_CLAUSES" = some (some (.int 8 tMOST_CLAUSES)))
    (KMOST_GUARDS : PySem.W.nsIn K mainGlobals "MOST_GUARDS" = some (some (.int 4 tMOST_GUARDS)))
    (KMOST_TYPES : PySem.W.nsIn K mainGlobals "MOST_TYPES" = some (some (.int 4 tMOST_TYPES)))
    (KOWN : PySem.W.nsIn K mainGlobals "OWN" = some (some (.str "own" tOWN)))
    (KROOT : PySem.W.nsIn K mainGlobals "ROOT" = some (some (.int 1 tROOT)))
    (KTOP : PySem.W.nsIn K mainGlobals "TOP" = some (some (.int 4294967295 tTOP)))
    (KWORDS : PySem.W.nsIn K mainGlobals "WORDS" = some (some (.int 8 tWORDS)))
    (l0 : K.lookup f0 = some ⟨oc0, od0, .func (PySem.W.fnOf "_law_next" "_law_next" (defArgs s__law_next) (defBody s__law_next) (defScope s__law_next) .none kV0 dc0 pm0 an0 cd0 ct0), sl0⟩)
    (c0 : PySem.W.codeIn K cd0 "_law_next" = true)
    (k0 : PySem.W.keepIn K (.ref f0) = true)
    (l1 : K.lookup f1 = some ⟨oc1, od1, .func (PySem.W.fnOf "__init__" "Types.__init__" (defArgs s_Types___init__) (defBody s_Types___init__) (defScope s_Types___init__) .none kV1 dc1 pm1 an1 cd1 ct1), sl1⟩)
    (c1 : PySem.W.codeIn K cd1 "Types.__init__" = true)
    (k1 : PySem.W.keepIn K (.ref f1) = true)
    (l2 : K.lookup f2 = some ⟨oc2, od2, .func (PySem.W.fnOf "count" "Types.count" (defArgs s_Types_count) (defBody s_Types_count) (defScope s_Types_count) .none kV2 dc2 pm2 an2 cd2 ct2), sl2⟩)
    (c2 : PySem.W.codeIn K cd2 "Types.count" = true)
    (k2 : PySem.W.keepIn K (.ref f2) = true)
    (l3 : K.lookup f3 = some ⟨oc3, od3, .func (PySem.W.fnOf "programs" "Types.programs" (defArgs s_Types_programs) (defBody s_Types_programs) (defScope s_Types_programs) .none kV3 dc3 pm3 an3 cd3 ct3), sl3⟩)
    (c3 : PySem.W.codeIn K cd3 "Types.programs" = true)
    (k3 : PySem.W.keepIn K (.ref f3) = true)
    (l4 : K.lookup f4 = some ⟨oc4, od4, .func (PySem.W.fnOf "_law_program" "_law_program" (defArgs s__law_program) (defBody s__law_program) (defScope s__law_program) .none kV4 dc4 pm4 an4 cd4 ct4), sl4⟩)
    (c4 : PySem.W.codeIn K cd4 "_law_program" = true)
    (k4 : PySem.W.keepIn K (.ref f4) = true)
    (l5 : K.lookup f5 = some ⟨oc5, od5, .func (PySem.W.fnOf "is_number" "is_number" (defArgs s_is_number) (defBody s_is_number) (defScope s_is_number) .none kV5 dc5 pm5 an5 cd5 ct5), sl5⟩)
    (c5 : PySem.W.codeIn K cd5 "is_number" = true)
    (k5 : PySem.W.keepIn K (.ref f5) = true)
    (l6 : K.lookup f6 = some ⟨oc6, od6, .func (PySem.W.fnOf "is_index" "is_index" (defArgs s_is_index) (defBody s_is_index) (defScope s_is_index) .none kV6 dc6 pm6 an6 cd6 ct6), sl6⟩)
    (c6 : PySem.W.codeIn K cd6 "is_index" = true)
    (k6 : PySem.W.keepIn K (.ref f6) = true)
    (l7 : K.lookup f7 = some ⟨oc7, od7, .func (PySem.W.fnOf "is_word" "is_word" (defArgs s_is_word) (defBody s_is_word) (defScope s_is_word) .none kV7 dc7 pm7 an7 cd7 ct7), sl7⟩)
    (c7 : PySem.W.codeIn K cd7 "is_word" = true)
    (k7 : PySem.W.keepIn K (.ref f7) = true)
    (l8 : K.lookup f8 = some ⟨oc8, od8, .func (PySem.W.fnOf "is_guard" "is_guard" (defArgs s_is_guard) (defBody s_is_guard) (defScope s_is_guard) .none kV8 dc8 pm8 an8 cd8 ct8), sl8⟩)
    (c8 : PySem.W.codeIn K cd8 "is_guard" = true)
    (k8 : PySem.W.keepIn K (.ref f8) = true)
    (l9 : K.lookup f9 = some ⟨oc9, od9, .func (PySem.W.fnOf "is_many" "is_many" (defArgs s_is_many) (defBody s_is_many) (defScope s_is_many) .none kV9 dc9 pm9 an9 cd9 ct9), sl9⟩)
    (c9 : PySem.W.codeIn K cd9 "is_many" = true)
    (k9 : PySem.W.keepIn K (.ref f9) = true)
    (l10 : K.lookup f10 = some ⟨oc10, od10, .func (PySem.W.fnOf "is_clause" "is_clause" (defArgs s_is_clause) (defBody s_is_clause) (defScope s_is_clause) .none kV10 dc10 pm10 an10 cd10 ct10), sl10⟩)
    (c10 : PySem.W.codeIn K cd10 "is_clause" = true)
    (k10 : PySem.W.keepIn K (.ref f10) = true)
    (l11 : K.lookup f11 = some ⟨oc11, od11, .func (PySem.W.fnOf "is_program" "is_program" (defArgs s_is_program) (defBody s_is_program) (defScope s_is_program) .none kV11 dc11 pm11 an11 cd11 ct11), sl11⟩)
    (c11 : PySem.W.codeIn K cd11 "is_program" = true)
    (k11 : PySem.W.keepIn K (.ref f11) = true)
    (l12 : K.lookup f12 = some ⟨oc12, od12, .func (PySem.W.fnOf "add" "Types.add" (defArgs s_Types_add) (defBody s_Types_add) (defScope s_Types_add) .none kV12 dc12 pm12 an12 cd12 ct12), sl12⟩)
    (c12 : PySem.W.codeIn K cd12 "Types.add" = true)
    (k12 : PySem.W.keepIn K (.ref f12) = true)
    (l13 : K.lookup f13 = some ⟨oc13, od13, .func (PySem.W.fnOf "is_known" "Types.is_known" (defArgs s_Types_is_known) (defBody s_Types_is_known) (defScope s_Types_is_known) .none kV13 dc13 pm13 an13 cd13 ct13), sl13⟩)
    (c13 : PySem.W.codeIn K cd13 "Types.is_known" = true)
    (k13 : PySem.W.keepIn K (.ref f13) = true)
    (l14 : K.lookup f14 = some ⟨oc14, od14, .func (PySem.W.fnOf "_law_root" "_law_root" (defArgs s__law_root) (defBody s__law_root) (defScope s__law_root) .none kV14 dc14 pm14 an14 cd14 ct14), sl14⟩)
    (c14 : PySem.W.codeIn K cd14 "_law_root" = true)
    (k14 : PySem.W.keepIn K (.ref f14) = true)
    (l15 : K.lookup f15 = some ⟨oc15, od15, .func (PySem.W.fnOf "_law_run" "_law_run" (defArgs s__law_run) (defBody s__law_run) (defScope s__law_run) .none kV15 dc15 pm15 an15 cd15 ct15), sl15⟩)
    (c15 : PySem.W.codeIn K cd15 "_law_run" = true)
    (k15 : PySem.W.keepIn K (.ref f15) = true)
    (l16 : K.lookup f16 = some ⟨oc16, od16, .func (PySem.W.fnOf "words_of" "words_of" (defArgs s_words_of) (defBody s_words_of) (defScope s_words_of) .none kV16 dc16 pm16 an16 cd16 ct16), sl16⟩)
    (c16 : PySem.W.codeIn K cd16 "words_of" = true)
    (k16 : PySem.W.keepIn K (.ref f16) = true)
    (l17 : K.lookup f17 = some ⟨oc17, od17, .func (PySem.W.fnOf "is_block" "is_block" (defArgs s_is_block) (defBody s_is_block) (defScope s_is_block) .none kV17 dc17 pm17 an17 cd17 ct17), sl17⟩)
    (c17 : PySem.W.codeIn K cd17 "is_block" = true)
    (k17 : PySem.W.keepIn K (.ref f17) = true)
    (l18 : K.lookup f18 = some ⟨oc18, od18, .func (PySem.W.fnOf "run_program" "run_program" (defArgs s_run_program) (defBody s_run_program) (defScope s_run_program) .none kV18 dc18 pm18 an18 cd18 ct18), sl18⟩)
    (c18 : PySem.W.codeIn K cd18 "run_program" = true)
    (k18 : PySem.W.keepIn K (.ref f18) = true)
    (l19 : K.lookup f19 = some ⟨oc19, od19, .func (PySem.W.fnOf "owned" "Types.owned" (defArgs s_Types_owned) (defBody s_Types_owned) (defScope s_Types_owned) .none kV19 dc19 pm19 an19 cd19 ct19), sl19⟩)
    (c19 : PySem.W.codeIn K cd19 "Types.owned" = true)
    (k19 : PySem.W.keepIn K (.ref f19) = true)
    (l20 : K.lookup f20 = some ⟨oc20, od20, .func (PySem.W.fnOf "law" "law" (defArgs s_law) (defBody s_law) (defScope s_law) .none kV20 dc20 pm20 an20 cd20 ct20), sl20⟩)
    (c20 : PySem.W.codeIn K cd20 "law" = true)
    (k20 : PySem.W.keepIn K (.ref f20) = true)
    (pgTypes : PySem.W.plainGet K CTypes Str.empty = true)
    (hdTypes : PySem.W.hasDictIn K CTypes = true)
    (poTypes : PySem.W.plainOver K CTypes = true)
    (saTypes : PySem.W.findIn K (.ref CTypes) "__setattr__" = some (some (.builtin "object.__setattr__")))
    (mkTypes : PySem.W.makesIn K CTypes = true)
    (kcTypes : PySem.W.keepIn K (.ref CTypes) = true)
    (naTypesblocks : PySem.W.findIn K (.ref CTypes) "blocks" = some none)
    (naTypesknown : PySem.W.findIn K (.ref CTypes) "known" = some none)
    (naTypesmakers : PySem.W.findIn K (.ref CTypes) "makers" = some none)
    (zabs : PySem.W.nsIn K mainGlobals "abs" = some none)
    (zall : PySem.W.nsIn K mainGlobals "all" = some none)
    (zbool : PySem.W.nsIn K mainGlobals "bool" = some none)
    (zint : PySem.W.nsIn K mainGlobals "int" = some none)
    (zisinstance : PySem.W.nsIn K mainGlobals "isinstance" = some none)
    (zlen : PySem.W.nsIn K mainGlobals "len" = some none)
    (zlist : PySem.W.nsIn K mainGlobals "list" = some none)
    (zmin : PySem.W.nsIn K mainGlobals "min" = some none)
    (zrange : PySem.W.nsIn K mainGlobals "range" = some none)
    (zstr : PySem.W.nsIn K mainGlobals "str" = some none)
    (ztuple : PySem.W.nsIn K mainGlobals "tuple" = some none) :
    ∃ fd : FuncData, (∀ (s : Shared) (v : Value), BindsTo s fd ⟨[v], []⟩ [("_law_script", v)]) ∧ ∀ base : PySem.Heap, K.In base → base.Ns mainGlobals mg → FnOk l.prog w K mg base (L2.CX l.prog w) 7 fa fd ["_law_script"] (spLaw K) := by
  have e : f20 = fa := by
    have e := (PySem.W.mg_of X G a20).symm.trans hfa
    cases e
    rfl
  subst e
  have O : TxOk K mg {
      c_Types := CTypes,
      f__law_next := f0,
      d__law_next := PySem.W.fnOf "_law_next" "_law_next" (defArgs s__law_next) (defBody s__law_next) (defScope s__law_next) .none kV0 dc0 pm0 an0 cd0 ct0,
      f_Types___init__ := f1,
      d_Types___init__ := PySem.W.fnOf "__init__" "Types.__init__" (defArgs s_Types___init__) (defBody s_Types___init__) (defScope s_Types___init__) .none kV1 dc1 pm1 an1 cd1 ct1,
      f_Types_count := f2,
      d_Types_count := PySem.W.fnOf "count" "Types.count" (defArgs s_Types_count) (defBody s_Types_count) (defScope s_Types_count) .none kV2 dc2 pm2 an2 cd2 ct2,
      f_Types_programs := f3,
      d_Types_programs := PySem.W.fnOf "programs" "Types.programs" (defArgs s_Types_programs) (defBody s_Types_programs) (defScope s_Types_programs) .none kV3 dc3 pm3 an3 cd3 ct3,
      f__law_program := f4,
      d__law_program := PySem.W.fnOf "_law_program" "_law_program" (defArgs s__law_program) (defBody s__law_program) (defScope s__law_program) .none kV4 dc4 pm4 an4 cd4 ct4,
      f_is_number := f5,
      d_is_number := PySem.W.fnOf "is_number" "is_number" (defArgs s_is_number) (defBody s_is_number) (defScope s_is_number) .none kV5 dc5 pm5 an5 cd5 ct5,
      f_is_index := f6,
      d_is_index := PySem.W.fnOf "is_index" "is_index" (defArgs s_is_index) (defBody s_is_index) (defScope s_is_index) .none kV6 dc6 pm6 an6 cd6 ct6,
      f_is_word := f7,
      d_is_word := PySem.W.fnOf "is_word" "is_word" (defArgs s_is_word) (defBody s_is_word) (defScope s_is_word) .none kV7 dc7 pm7 an7 cd7 ct7,
      f_is_guard := f8,
      d_is_guard := PySem.W.fnOf "is_guard" "is_guard" (defArgs s_is_guard) (defBody s_is_guard) (defScope s_is_guard) .none kV8 dc8 pm8 an8 cd8 ct8,
      f_is_many := f9,
      d_is_many := PySem.W.fnOf "is_many" "is_many" (defArgs s_is_many) (defBody s_is_many) (defScope s_is_many) .none kV9 dc9 pm9 an9 cd9 ct9,
      f_is_clause := f10,
      d_is_clause := PySem.W.fnOf "is_clause" "is_clause" (defArgs s_is_clause) (defBody s_is_clause) (defScope s_is_clause) .none kV10 dc10 pm10 an10 cd10 ct10,
      f_is_program := f11,
      d_is_program := PySem.W.fnOf "is_program" "is_program" (defArgs s_is_program) (defBody s_is_program) (defScope s_is_program) .none kV11 dc11 pm11 an11 cd11 ct11,
      f_Types_add := f12,
      d_Types_add := PySem.W.fnOf "add" "Types.add" (defArgs s_Types_add) (defBody s_Types_add) (defScope s_Types_add) .none kV12 dc12 pm12 an12 cd12 ct12,
      f_Types_is_known := f13,
      d_Types_is_known := PySem.W.fnOf "is_known" "Types.is_known" (defArgs s_Types_is_known) (defBody s_Types_is_known) (defScope s_Types_is_known) .none kV13 dc13 pm13 an13 cd13 ct13,
      f__law_root := f14,
      d__law_root := PySem.W.fnOf "_law_root" "_law_root" (defArgs s__law_root) (defBody s__law_root) (defScope s__law_root) .none kV14 dc14 pm14 an14 cd14 ct14,
      f__law_run := f15,
      d__law_run := PySem.W.fnOf "_law_run" "_law_run" (defArgs s__law_run) (defBody s__law_run) (defScope s__law_run) .none kV15 dc15 pm15 an15 cd15 ct15,
      f_words_of := f16,
      d_words_of := PySem.W.fnOf "words_of" "words_of" (defArgs s_words_of) (defBody s_words_of) (defScope s_words_of) .none kV16 dc16 pm16 an16 cd16 ct16,
      f_is_block := f17,
      d_is_block := PySem.W.fnOf "is_block" "is_block" (defArgs s_is_block) (defBody s_is_block) (defScope s_is_block) .none kV17 dc17 pm17 an17 cd17 ct17,
      f_run_program := f18,
      d_run_program := PySem.W.fnOf "run_program" "run_program" (defArgs s_run_program) (defBody s_run_program) (defScope s_run_program) .none kV18 dc18 pm18 an18 cd18 ct18,
      f_Types_owned := f19,
      d_Types_owned := PySem.W.fnOf "owned" "Types.owned" (defArgs s_Types_owned) (defBody s_Types_owned) (defScope s_Types_owned) .none kV19 dc19 pm19 an19 cd19 ct19,
      f_law := f20,
      d_law := PySem.W.fnOf "law" "law" (defArgs s_law) (defBody s_law) (defScope s_law) .none kV20 dc20 pm20 an20 cd20 ct20,
      t_DATA := tDATA,
      t_ENVIRONMENTS := tENVIRONMENTS,
      t_FIRST_TYPE := tFIRST_TYPE,
      t_MOST_CLAUSES := tMOST_CLAUSES,
      t_MOST_GUARDS := tMOST_GUARDS,
      t_MOST_TYPES := tMOST_TYPES,
      t_OWN := tOWN,
      t_ROOT := tROOT,
      t_TOP := tTOP,
      t_WORDS := tWORDS } :=
    { F__law_next := fun_mk (st := s__law_next) l0 c0 k0,
      b__law_next := (fun_mk (st := s__law_next) l0 c0 k0).binds (ps := ["_law_tape", "_law_many"]) fun _ _ _ _ _ _ us hl => match us, hl with | [_, _], _ => rfl,
      g__law_next := PySem.W.mg_of X G a0,
      F_Types___init__ := fun_mk (st := s_Types___init__) l1 c1 k1,
      b_Types___init__ := (fun_mk (st := s_Types___init__) l1 c1 k1).binds (ps := ["self", "blocks"]) fun _ _ _ _ _ _ us hl => match us, hl with | [_, _], _ => rfl,
      F_Types_count := fun_mk (st := s_Types_count) l2 c2 k2,
      b_Types_count := (fun_mk (st := s_Types_count) l2 c2 k2).binds (ps := ["self"]) fun _ _ _ _ _ _ us hl => match us, hl with | [_], _ => rfl,
      M_Types_count := ⟨a2, i2, k2⟩,
      F_Types_programs := fun_mk (st := s_Types_programs) l3 c3 k3,
      b_Types_programs := (fun_mk (st := s_Types_programs) l3 c3 k3).binds (ps := ["self"]) fun _ _ _ _ _ _ us hl => match us, hl with | [_], _ => rfl,
      M_Types_programs := ⟨a3, i3, k3⟩,
      F__law_program := fun_mk (st := s__law_program) l4 c4 k4,
      b__law_program := (fun_mk (st := s__law_program) l4 c4 k4).binds (ps := ["_law_tape"]) fun _ _ _ _ _ _ us hl => match us, hl with | [_], _ => rfl,
      g__law_program := PySem.W.mg_of X G a4,
      F_is_number := fun_mk (st := s_is_number) l5 c5 k5,
      b_is_number := (fun_mk (st := s_is_number) l5 c5 k5).binds (ps := ["value"]) fun _ _ _ _ _ _ us hl => match us, hl with | [_], _ => rfl,
      g_is_number := PySem.W.mg_of X G a5,
      F_is_index := fun_mk (st := s_is_index) l6 c6 k6,
      b_is_index := (fun_mk (st := s_is_index) l6 c6 k6).binds (ps := ["value"]) fun _ _ _ _ _ _ us hl => match us, hl with | [_], _ => rfl,
      g_is_index := PySem.W.mg_of X G a6,
      F_is_word := fun_mk (st := s_is_word) l7 c7 k7,
      b_is_word := (fun_mk (st := s_is_word) l7 c7 k7).binds (ps := ["value"]) fun _ _ _ _ _ _ us hl => match us, hl with | [_], _ => rfl,
      g_is_word := PySem.W.mg_of X G a7,
      F_is_guard := fun_mk (st := s_is_guard) l8 c8 k8,
      b_is_guard := (fun_mk (st := s_is_guard) l8 c8 k8).binds (ps := ["value"]) fun _ _ _ _ _ _ us hl => match us, hl with | [_], _ => rfl,
      g_is_guard := PySem.W.mg_of X G a8,
      F_is_many := fun_mk (st := s_is_many) l9 c9 k9,
      b_is_many := (fun_mk (st := s_is_many) l9 c9 k9).binds (ps := ["value", "start"]) fun _ _ _ _ _ _ us hl => match us, hl with | [_, _], _ => rfl,
      g_is_many := PySem.W.mg_of X G a9,
      F_is_clause := fun_mk (st := s_is_clause) l10 c10 k10,
      b_is_clause := (fun_mk (st := s_is_clause) l10 c10 k10).binds (ps := ["value", "count"]) fun _ _ _ _ _ _ us hl => match us, hl with | [_, _], _ => rfl,
      g_is_clause := PySem.W.mg_of X G a10,
      F_is_program := fun_mk (st := s_is_program) l11 c11 k11,
      b_is_program := (fun_mk (st := s_is_program) l11 c11 k11).binds (ps := ["value", "count"]) fun _ _ _ _ _ _ us hl => match us, hl with | [_, _], _ => rfl,
      g_is_program := PySem.W.mg_of X G a11,
      F_Types_add := fun_mk (st := s_Types_add) l12 c12 k12,
      b_Types_add := (fun_mk (st := s_Types_add) l12 c12 k12).binds (ps := ["self", "program", "environment"]) fun _ _ _ _ _ _ us hl => match us, hl with | [_, _, _], _ => rfl,
      M_Types_add := ⟨a12, i12, k12⟩,
      F_Types_is_known := fun_mk (st := s_Types_is_known) l13 c13 k13,
      b_Types_is_known := (fun_mk (st := s_Types_is_known) l13 c13 k13).binds (ps := ["self", "number"]) fun _ _ _ _ _ _ us hl => match us, hl with | [_, _], _ => rfl,
      M_Types_is_known := ⟨a13, i13, k13⟩,
      F__law_root := fun_mk (st := s__law_root) l14 c14 k14,
      b__law_root := (fun_mk (st := s__law_root) l14 c14 k14).binds (ps := ["_law_words", "_law_blocks", "_law_count"]) fun _ _ _ _ _ _ us hl => match us, hl with | [_, _, _], _ => rfl,
      g__law_root := PySem.W.mg_of X G a14,
      F__law_run := fun_mk (st := s__law_run) l15 c15 k15,
      b__law_run := (fun_mk (st := s__law_run) l15 c15 k15).binds (ps := ["_law_program_here", "_law_words", "_law_blocks", "_law_own"]) fun _ _ _ _ _ _ us hl => match us, hl with | [_, _, _, _], _ => rfl,
      g__law_run := PySem.W.mg_of X G a15,
      F_words_of := fun_mk (st := s_words_of) l16 c16 k16,
      b_words_of := (fun_mk (st := s_words_of) l16 c16 k16).binds (ps := ["clause", "words"]) fun _ _ _ _ _ _ us hl => match us, hl with | [_, _], _ => rfl,
      g_words_of := PySem.W.mg_of X G a16,
      F_is_block := fun_mk (st := s_is_block) l17 c17 k17,
      b_is_block := (fun_mk (st := s_is_block) l17 c17 k17).binds (ps := ["word", "blocks"]) fun _ _ _ _ _ _ us hl => match us, hl with | [_, _], _ => rfl,
      g_is_block := PySem.W.mg_of X G a17,
      F_run_program := fun_mk (st := s_run_program) l18 c18 k18,
      b_run_program := (fun_mk (st := s_run_program) l18 c18 k18).binds (ps := ["program", "words", "blocks", "own"]) fun _ _ _ _ _ _ us hl => match us, hl with | [_, _, _, _], _ => rfl,
      g_run_program := PySem.W.mg_of X G a18,
      F_Types_owned := fun_mk (st := s_Types_owned) l19 c19 k19,
      b_Types_owned := (fun_mk (st := s_Types_owned) l19 c19 k19).binds (ps := ["self", "number", "words"]) fun _ _ _ _ _ _ us hl => match us, hl with | [_, _, _], _ => rfl,
      M_Types_owned := ⟨a19, i19, k19⟩,
      F_law := fun_mk (st := s_law) l20 c20 k20,
      b_law := (fun_mk (st := s_law) l20 c20 k20).binds (ps := ["_law_script"]) fun _ _ _ _ _ _ us hl => match us, hl with | [_], _ => rfl,
      g_law := PySem.W.mg_of X G a20,
      cl_Types := ⟨pgTypes, hdTypes, poTypes, saTypes⟩,
      gc_Types := PySem.W.mg_of X G ATypes,
      mk_Types := ⟨mkTypes, a1, i1, kcTypes⟩,
      na_Types_blocks := naTypesblocks,
      na_Types_known := naTypesknown,
      na_Types_makers := naTypesmakers,
      n_abs := PySem.W.mg_none_of X G zabs,
      n_all := PySem.W.mg_none_of X G zall,
      n_bool := PySem.W.mg_none_of X G zbool,
      n_int := PySem.W.mg_none_of X G zint,
      n_isinstance := PySem.W.mg_none_of X G zisinstance,
      n_len := PySem.W.mg_none_of X G zlen,
      n_list := PySem.W.mg_none_of X G zlist,
      n_min := PySem.W.mg_none_of X G zmin,
      n_range := PySem.W.mg_none_of X G zrange,
      n_str := PySem.W.mg_none_of X G zstr,
      n_tuple := PySem.W.mg_none_of X G ztuple,
      k_DATA := PySem.W.mg_of X G KDATA,
      k_ENVIRONMENTS := PySem.W.mg_of X G KENVIRONMENTS,
      k_FIRST_TYPE := PySem.W.mg_of X G KFIRST_TYPE,
      k_MOST_CLAUSES := PySem.W.mg_of X G KMOST_CLAUSES,
      k_MOST_GUARDS := PySem.W.mg_of X G KMOST_GUARDS,
      k_MOST_TYPES := PySem.W.mg_of X G KMOST_TYPES,
      k_OWN := PySem.W.mg_of X G KOWN,
      k_ROOT := PySem.W.mg_of X G KROOT,
      k_TOP := PySem.W.mg_of X G KTOP,
      k_WORDS := PySem.W.mg_of X G KWORDS }
  exact ⟨_, fun s v => .of_eq rfl, fun base _ _ => law_of (ok_law (P := l.prog) (w := w) (base := base) O) law_true⟩
theorem walk {l : PySem.W.OpenLaw} {q : Program} {loose : List Str} {XP : (Str → Option Value) → PySem.Heap → Prop} {YP : World → PySem.Heap → Prop} {d : DefRec} {K : Params → PySem.W.Frag} (hn : l.most = some 63) (hdf : d.params.defaults = [])
    (hY : ∀ (w : World) (h : PySem.Heap), YP w h → (K w.params).In h)
    (F : ∀ (w : World) (mg : Str → Option Value) (fa : Addr) (h : PySem.Heap), (K w.params).In h → h.Ns mainGlobals mg → mg d.name = some (.ref fa) →
      ∃ fd : FuncData, (∀ (s : Shared) (u : Value), BindsTo s fd ⟨[u], []⟩ [("_law_script", u)]) ∧ ∀ base : PySem.Heap, (K w.params).In base → base.Ns mainGlobals mg → FnOk l.prog w (K w.params) mg base (L2.CX l.prog w) 7 fa fd ["_law_script"] (spLaw (K w.params))) :
    PySem.W.WalkO q loose XP YP l.row.toRowW d [] (fun f vs => PySem.call f vs) :=
  L2.walk_of (n := 63) (k := 7) (x := "_law_script") (CX := fun w => L2.CX l.prog w) (sp := fun w => spLaw (K w.params)) hn (by decide) hdf ⟨rfl, by decide, by decide⟩ hY F (fun _ H a ns hl hO hS => ⟨a, ns, rfl, hl, hO, hS, fun _ => rfl⟩) fun _ _ _ _ _ z => by
    obtain ⟨_, _, _, _, _, _, _, _, _, _, _, _, z⟩ := z
    exact z
end Lw

set_option Elab.async false
set_option linter.all false
open PySem PySem.W PyProof.Rows
set_option maxRecDepth 100000 in
set_option maxHeartbeats 0 in
theorem PySem.Challenge.cw_steadhold_k03_types_holds : PySem.Challenge.rw_steadhold_k03_types.Holds := by
  w_on; o_law; k_head; (case hw => w_witness2)
  k_fill
  refine Lw.walk (l := PySem.Challenge.rw_steadhold_k03_types) rfl rfl (fun w h Y => PySem.W.kIn_of Y) ?F
  case F =>
    intro w mg fa h KX G hmg
    refine' Lw.all_mk KX G hmg ?ATypes ?a0 ?a1 ?i1 ?a2 ?i2 ?a3 ?i3 ?a4 ?a5 ?a6 ?a7 ?a8 ?a9 ?a10 ?a11 ?a12 ?i12 ?a13 ?i13 ?a14 ?a15 ?a16 ?a17 ?a18 ?a19 ?i19 ?a20 ?KDATA ?KENVIRONMENTS ?KFIRST_TYPE ?KMOST_CLAUSES ?KMOST_GUARDS ?KMOST_TYPES ?KOWN ?KROOT ?KTOP ?KWORDS ?l0 ?c0 ?k0 ?l1 ?c1 ?k1 ?l2 ?c2 ?k2 ?l3 ?c3 ?k3 ?l4 ?c4 ?k4 ?l5 ?c5 ?k5 ?l6 ?c6 ?k6 ?l7 ?c7 ?k7 ?l8 ?c8 ?k8 ?l9 ?c9 ?k9 ?l10 ?c10 ?k10 ?l11 ?c11 ?k11 ?l12 ?c12 ?k12 ?l13 ?c13 ?k13 ?l14 ?c14 ?k14 ?l15 ?c15 ?k15 ?l16 ?c16 ?k16 ?l17 ?c17 ?k17 ?l18 ?c18 ?k18 ?l19 ?c19 ?k19 ?l20 ?c20 ?k20 ?pgTypes ?hdTypes ?poTypes ?saTypes ?mkTypes ?kcTypes ?naTypesblocks ?naTypesknown ?naTypesmakers ?zabs ?zall ?zbool ?zint ?zisinstance ?zlen ?zlist ?zmin ?zrange ?zstr ?ztuple
    (case ATypes => k_is)
    (case a0 => k_is)
    (case a1 => k_is)
    (case i1 => k_is)
    (case a2 => k_is)
    (case i2 => k_is)
    (case a3 => k_is)
    (case i3 => k_is)
    (case a4 => k_is)
    (case a5 => k_is)
    (case a6 => k_is)
    (case a7 => k_is)
    (case a8 => k_is)
    (case a9 => k_is)
    (case a10 => k_is)
    (case a11 => k_is)
    (case a12 => k_is)
    (case i12 => k_is)
    (case a13 => k_is)
    (case i13 => k_is)
    (case a14 => k_is)
    (case a15 => k_is)
    (case a16 => k_is)
    (case a17 => k_is)
    (case a18 => k_is)
    (case a19 => k_is)
    (case i19 => k_is)
    (case a20 => k_is)
    (case KDATA => k_is)
    (case KENVIRONMENTS => k_is)
    (case KFIRST_TYPE => k_is)
    (case KMOST_CLAUSES => k_is)
    (case KMOST_GUARDS => k_is)
    (case KMOST_TYPES => k_is)
    (case KOWN => k_is)
    (case KROOT => k_is)
    (case KTOP => k_is)
    (case KWORDS => k_is)
    (case l0 => k_is)
    (case c0 => k_is)
    (case k0 => k_is)
    (case l1 => k_is)
    (case c1 => k_is)
    (case k1 => k_is)
    (case l2 => k_is)
    (case c2 => k_is)
    (case k2 => k_is)
    (case l3 => k_is)
    (case c3 => k_is)
    (case k3 => k_is)
    (case l4 => k_is)
    (case c4 => k_is)
    (case k4 => k_is)
    (case l5 => k_is)
    (case c5 => k_is)
    (case k5 => k_is)
    (case l6 => k_is)
    (case c6 => k_is)
    (case k6 => k_is)
    (case l7 => k_is)
    (case c7 => k_is)
    (case k7 => k_is)
    (case l8 => k_is)
    (case c8 => k_is)
    (case k8 => k_is)
    (case l9 => k_is)
    (case c9 => k_is)
    (case k9 => k_is)
    (case l10 => k_is)
    (case c10 => k_is)
    (case k10 => k_is)
    (case l11 => k_is)
    (case c11 => k_is)
    (case k11 => k_is)
    (case l12 => k_is)
    (case c12 => k_is)
    (case k12 => k_is)
    (case l13 => k_is)
    (case c13 => k_is)
    (case k13 => k_is)
    (case l14 => k_is)
    (case c14 => k_is)
    (case k14 => k_is)
    (case l15 => k_is)
    (case c15 => k_is)
    (case k15 => k_is)
    (case l16 => k_is)
    (case c16 => k_is)
    (case k16 => k_is)
    (case l17 => k_is)
    (case c17 => k_is)
    (case k17 => k_is)
    (case l18 => k_is)
    (case c18 => k_is)
    (case k18 => k_is)
    (case l19 => k_is)
    (case c19 => k_is)
    (case k19 => k_is)
    (case l20 => k_is)
    (case c20 => k_is)
    (case k20 => k_is)
    (case pgTypes => k_is)
    (case hdTypes => k_is)
    (case poTypes => k_is)
    (case saTypes => k_is)
    (case mkTypes => k_is)
    (case kcTypes => k_is)
    (case naTypesblocks => k_is)
    (case naTypesknown => k_is)
    (case naTypesmakers => k_is)
    (case zabs => k_is)
    (case zall => k_is)
    (case zbool => k_is)
    (case zint => k_is)
    (case zisinstance => k_is)
    (case zlen => k_is)
    (case zlist => k_is)
    (case zmin => k_is)
    (case zrange => k_is)
    (case zstr => k_is)
    (case ztuple => k_is)
