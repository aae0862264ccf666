import PyProof.Rows.All
import Wide.All
import OpenK.AllK
import Wide.FinOn
import HandS.ForMost
import HandS.Exc
import HandS.TryOnly
import HandS.ExcOwn
import HandS.WordsExc
import HandS.TupAny
import HandS.Deep
import HandS.Words
import HandS.Defaults
import HandS.Head0
import HandS.Head1
import HandS.Head2
import HandS.HeadEnd
import HandS.HeadHook1
import HandS.HeadHook2
import HandS.HeadHook3
import HandS.TupMul
import HandS.IsInst
import HandS.Small
import HandS.SortInts
import HandS.TupLe
import HandS.More
import HandS.Style
import PyProof.DictMoreH
import HandS.DictTup
import HandS.SetFor
import HandS.Flow
import HandS.Text
import PySem.Challenge.RW_steadhold_k40_pipes_are_rows_of_eight_wo
set_option Elab.async false
set_option linter.all false
set_option maxRecDepth 100000
set_option autoImplicit false
/-! PyM: a plain model of the program: values, heap, results; and how it stands to the layer's readings. -/
namespace PyM
open PySem L2

inductive Val where
  | non | bl (b : Bool) | int (i : Int) | str (n : Nat) | tup (xs : List Val) | ref (n : Nat)
inductive Obj where
  | lst (xs : List Val) | fls (xs : List Val) | dct (kvs : List (Val × Val)) | dcT (kvs : List (Val × Val)) | fdc (kvs : List (Val × Val)) | fdT (kvs : List (Val × Val)) | ins (c : Nat) (fs : List (Nat × Val))
abbrev Heap := List Obj
inductive Res (α : Type) where
  | ok (a : α) (h : Heap) | raised (c : Nat) (h : Heap) | stuck
abbrev En := List (Option Val)
inductive RS where
  | nx (s : En) (h : Heap) | rt (v : Val) (h : Heap) | bk (s : En) (h : Heap) | ct (s : En) (h : Heap) | raised (c : Nat) (h : Heap) | stuck

structure Cfg where
  K : PySem.W.Frag
  cls : List Addr
  nms : List Str
  sts : List Str

section
variable (G : Cfg) (r : List Addr) (H : Hp)
mutual
inductive VR : Val → V → Prop
  | non : VR .non .non
  | bl (b : Bool) : VR (.bl b) (.bl b)
  | int (i : Int) : VR (.int i) (.int i)
  | str {n : Nat} {x : Str} : G.sts[n]? = some x → VR (.str n) (.str x)
  | tup {xs : List Val} {vs : List V} {a : Addr} : SqT G.K H a vs → VRs xs vs → VR (.tup xs) (.ref a)
  | ref {n : Nat} {a : Addr} : r[n]? = some a → VR (.ref n) (.ref a)
inductive VRs : List Val → List V → Prop
  | nil : VRs [] []
  | cons {x : Val} {v : V} {xs : List Val} {vs : List V} : VR x v → VRs xs vs → VRs (x :: xs) (v :: vs)
end
/-- slots -/
inductive SR : En → St → Prop
  | nil : SR [] []
  | no {o : Option V} {s : En} {t : St} : SR s t → SR (none :: s) (o :: t)
  | so {x : Val} {v : V} {s : En} {t : St} : VR G r H x v → SR s t → SR (some x :: s) (some v :: t)
inductive FR (C : Addr) : List (Nat × Val) → List (Str × V) → Prop
  | nil : FR C [] []
  | cons {f : Nat} {z : Str} {x : Val} {v : V} {fs gs} : G.nms[f]? = some z → NoAttr G.K C z → VR G r H x v → FR C fs gs → FR C ((f, x) :: fs) ((z, v) :: gs)
/-- keys of a dict -/
inductive KR : Val → Key → Prop
  | int (i : Int) : KR (.int i) (.inl i)
  | str {n : Nat} {x : Str} : G.sts[n]? = some x → KR (.str n) (.inr x)
inductive KRs : List Val → List Key → Prop
  | nil : KRs [] []
  | cons {x k xs ks} : KR G x k → KRs xs ks → KRs (x :: xs) (k :: ks)
inductive DR : List (Val × Val) → List (Key × V) → Prop
  | nil : DR [] []
  | cons {k x : Val} {q : Key} {v : V} {d e} : KR G k q → VR G r H x v → DR d e → DR ((k, x) :: d) ((q, v) :: e)
inductive DTR : List (Val × Val) → List (List Key × V) → Prop
  | nil : DTR [] []
  | cons {ks : List Val} {x : Val} {qs : List Key} {v : V} {d e} : KRs G ks qs → VR G r H x v → DTR d e → DTR ((.tup ks, x) :: d) ((qs, v) :: e)
/-- a list that is read alone: the script's -/
def FL (K : PySem.W.Frag) (H : Hp) (a : Addr) (xs : List V) : Prop := (∃ o, H a = some (.frz o (.lst xs))) ∨
  ∃ (o : PySem.Obj) (its : Array Value) (n : Nat), K.lookup a = some o ∧ o.cls = .type "list" ∧ o.dict = none ∧ o.data = .seq its n ∧ its.size ≤ sizeLine ∧ Vals xs its.toList
def isFls : Obj → Bool
  | .fls _ => true
  | _ => false
inductive OR : Obj → Addr → Prop
  | lst {xs vs a} : H a = some (.lst vs) → VRs G r H xs vs → OR (.lst xs) a
  | fls {xs vs a} : FL G.K H a vs → VRs G r H xs vs → OR (.fls xs) a
  | dct {d e a} : H a = some (.dK e) → DR G r H d e → OR (.dct d) a
  | dcT {d e a} : H a = some (.dT e) → DTR G r H d e → OR (.dcT d) a
  | fdc {d e o a} : H a = some (.frz o (.dK e)) → DR G r H d e → OR (.fdc d) a
  | fdT {d e o a} : H a = some (.frz o (.dT e)) → DTR G r H d e → OR (.fdT d) a
  | ins {c C dx fs gs a} : G.cls[c]? = some C → Cls G.K C → H a = some (.ins C dx gs) → FR G r H C fs gs → OR (.ins c fs) a
structure HR (h : Heap) : Prop where
  len : r.length = h.length
  nd : ∀ (i j : Nat) (a : Addr) (x y : Obj), h[i]? = some x → h[j]? = some y → r[i]? = some a → r[j]? = some a → isFls x = false → isFls y = false → i = j
  ob : ∀ (n : Nat) (o : Obj) (a : Addr), h[n]? = some o → r[n]? = some a → OR G r H o a
end

/-- tuples stay -/
structure Stp (K : PySem.W.Frag) (r : List Addr) (H : Hp) (r' : List Addr) (H' : Hp) : Prop where
  pre : ∀ (n : Nat) (a : Addr), r[n]? = some a → r'[n]? = some a
  tup : ∀ a xs, SqT K H a xs → SqT K H' a xs
  frl : ∀ a o xs, H a = some (.frz o xs) → H' a = some (.frz o xs)
  tpl : ∀ a xs, H a = some (.tup xs) → H' a = some (.tup xs)
theorem Stp.refl {K : PySem.W.Frag} {r : List Addr} {H : Hp} : Stp K r H r H := ⟨fun _ _ h => h, fun _ _ h => h, fun _ _ _ h => h, fun _ _ h => h⟩
theorem Stp.trans {K : PySem.W.Frag} {r r1 r2 : List Addr} {H H1 H2 : Hp} (a : Stp K r H r1 H1) (b : Stp K r1 H1 r2 H2) : Stp K r H r2 H2 :=
  ⟨fun n x h => b.pre n x (a.pre n x h), fun x xs h => b.tup x xs (a.tup x xs h), fun x o xs h => b.frl x o xs (a.frl x o xs h), fun x xs h => b.tpl x xs (a.tpl x xs h)⟩

/-- .. weaker: a dict may be unlocked -/
structure Stw (K : PySem.W.Frag) (r : List Addr) (H : Hp) (r' : List Addr) (H' : Hp) : Prop where
  pre : ∀ (n : Nat) (a : Addr), r[n]? = some a → r'[n]? = some a
  tup : ∀ a xs, SqT K H a xs → SqT K H' a xs
  frl : ∀ a o xs, H a = some (.frz o (.lst xs)) → H' a = some (.frz o (.lst xs))
theorem Stp.w {K : PySem.W.Frag} {r r' : List Addr} {H H' : Hp} (s : Stp K r H r' H') : Stw K r H r' H' := ⟨s.pre, s.tup, fun a o xs h => s.frl a o _ h⟩

section
variable {G : Cfg} {r r' : List Addr} {H H' : Hp}
mutual
theorem VR.monow (q : Stw G.K r H r' H') : ∀ (x : Val) (v : V), VR G r H x v → VR G r' H' x v
  | .non, _, .non => .non
  | .bl _, _, .bl b => .bl b
  | .int _, _, .int b => .int b
  | .str _, _, .str e => .str e
  | .tup xs, _, .tup e k => .tup (q.tup _ _ e) (VRs.monow q xs _ k)
  | .ref _, _, .ref e => .ref (q.pre _ _ e)
theorem VRs.monow (q : Stw G.K r H r' H') : ∀ (xs : List Val) (vs : List V), VRs G r H xs vs → VRs G r' H' xs vs
  | [], _, .nil => .nil
  | x :: xs, _, .cons a b => .cons (VR.monow q x _ a) (VRs.monow q xs _ b)
end
theorem SR.monow (q : Stw G.K r H r' H') {s t} (a : SR G r H s t) : SR G r' H' s t := by
  induction a with
  | nil => exact .nil
  | no _ ih => exact .no ih
  | so x _ ih => exact .so (x.monow q) ih
theorem FR.monow (q : Stw G.K r H r' H') {C s t} (a : FR G r H C s t) : FR G r' H' C s t := by
  induction a with
  | nil => exact .nil
  | cons a b c _ ih => exact .cons a b (c.monow q) ih
theorem DR.monow (q : Stw G.K r H r' H') {s t} (a : DR G r H s t) : DR G r' H' s t := by
  induction a with
  | nil => exact .nil
  | cons a c _ ih => exact .cons a (c.monow q) ih
theorem DTR.monow (q : Stw G.K r H r' H') {s t} (a : DTR G r H s t) : DTR G r' H' s t := by
  induction a with
  | nil => exact .nil
  | cons a c _ ih => exact .cons a (c.monow q) ih
theorem FL.sq {K : PySem.W.Frag} {a : Addr} {xs : List V} (f : FL K H a xs) : SqL K H a xs := f.elim (fun q => .inl (.inr q)) .inr
theorem FL.monow (q : Stw G.K r H r' H') {a : Addr} {xs : List V} (f : FL G.K H a xs) : FL G.K H' a xs := f.elim (fun ⟨o, e⟩ => .inl ⟨o, q.frl _ _ _ e⟩) .inr
/-- an object that stands where it stood -/
theorem OR.monow (q : Stw G.K r H r' H') {o a} (x : OR G r H o a) (h : isFls o = false → ∀ u, H a = some u → H' a = some u) : OR G r' H' o a := by
  cases x with
  | lst e k => exact .lst (h rfl _ e) (k.monow q)
  | fls e k => exact .fls (e.monow q) (k.monow q)
  | dct e k => exact .dct (h rfl _ e) (k.monow q)
  | dcT e k => exact .dcT (h rfl _ e) (k.monow q)
  | fdc e k => exact .fdc (h rfl _ e) (k.monow q)
  | fdT e k => exact .fdT (h rfl _ e) (k.monow q)
  | ins a b e k => exact .ins a b (h rfl _ e) (k.monow q)
theorem VR.mono (q : Stp G.K r H r' H') : ∀ (x : Val) (v : V), VR G r H x v → VR G r' H' x v := VR.monow q.w
theorem VRs.mono (q : Stp G.K r H r' H') : ∀ (xs : List Val) (vs : List V), VRs G r H xs vs → VRs G r' H' xs vs := VRs.monow q.w
theorem SR.mono (q : Stp G.K r H r' H') {s t} (a : SR G r H s t) : SR G r' H' s t := a.monow q.w
theorem FR.mono (q : Stp G.K r H r' H') {C s t} (a : FR G r H C s t) : FR G r' H' C s t := a.monow q.w
theorem DR.mono (q : Stp G.K r H r' H') {s t} (a : DR G r H s t) : DR G r' H' s t := a.monow q.w
theorem DTR.mono (q : Stp G.K r H r' H') {s t} (a : DTR G r H s t) : DTR G r' H' s t := a.monow q.w
theorem FL.mono (q : Stp G.K r H r' H') {a : Addr} {xs : List V} (f : FL G.K H a xs) : FL G.K H' a xs := f.monow q.w
theorem OR.mono (q : Stp G.K r H r' H') {o a} (x : OR G r H o a) (h : isFls o = false → ∀ u, H a = some u → H' a = some u) : OR G r' H' o a := x.monow q.w h
theorem OR.there {o a} (x : OR G r H o a) (f : isFls o = false) : ∃ u, H a = some u := by
  cases x with
  | lst e k => exact ⟨_, e⟩
  | fls e k => cases f
  | dct e k => exact ⟨_, e⟩
  | dcT e k => exact ⟨_, e⟩
  | fdc e k => exact ⟨_, e⟩
  | fdT e k => exact ⟨_, e⟩
  | ins a b e k => exact ⟨_, e⟩

theorem HR.at {h : Heap} (R : HR G r H h) {n : Nat} {o : Obj} (e : h[n]? = some o) : ∃ a, r[n]? = some a ∧ OR G r H o a := by
  have hl : n < r.length := by
    rw [R.len]
    exact (List.getElem?_eq_some_iff.mp e).1
  exact ⟨r[n], List.getElem?_eq_getElem hl, R.ob n o _ e (List.getElem?_eq_getElem hl)⟩

/-- tuples and what is frozen stay, where what is written is another thing -/
def NotT : HO → Prop
  | .tup _ => False
  | .frz _ _ => False
  | _ => True
theorem notT_ne {a b : Addr} {o : HO} (hn : ∀ o, H a = some o → NotT o) (h : H b = some o) (hf : ¬ NotT o) : b ≠ a := fun e => by
  subst e
  exact hf (hn _ h)
theorem sqt_upd {K : PySem.W.Frag} {a b : Addr} {u : HO} {xs : List V} (hn : ∀ o, H a = some o → NotT o) (h : SqT K H b xs) : SqT K (upd H a u) b xs := by
  rcases h with (h | ⟨o, h⟩) | h
  · exact .inl (.inl (by rw [upd_ne (notT_ne hn h (fun z => z))]; exact h))
  · exact .inl (.inr ⟨o, by rw [upd_ne (notT_ne hn h (fun z => z))]; exact h⟩)
  · exact .inr h
theorem Stp.upd {K : PySem.W.Frag} {a : Addr} {u : HO} (hn : ∀ o, H a = some o → NotT o) : Stp K r H r (upd H a u) := ⟨fun _ _ h => h, fun _ _ h => sqt_upd hn h, fun b o xs h => by rw [upd_ne (notT_ne hn h (fun z => z))]; exact h, fun b xs h => by rw [upd_ne (notT_ne hn h (fun z => z))]; exact h⟩
theorem notT_none {a : Addr} (hn : H a = none) : ∀ o, H a = some o → NotT o := fun o e => by rw [hn] at e; cases e
theorem Stp.new {K : PySem.W.Frag} {a p : Addr} {u : HO} (hn : H a = none) : Stp K r H (r ++ [p]) (L2.upd H a u) :=
  ⟨fun n a h => by rw [List.getElem?_append_left (List.getElem?_eq_some_iff.mp h).1]; exact h, fun _ _ h => sqt_upd (notT_none hn) h, fun b o xs h => by rw [upd_ne (notT_ne (notT_none hn) h (fun z => z))]; exact h, fun b xs h => by rw [upd_ne (notT_ne (notT_none hn) h (fun z => z))]; exact h⟩
theorem Stp.new0 {K : PySem.W.Frag} {a : Addr} {u : HO} (hn : H a = none) : Stp K r H r (L2.upd H a u) :=
  ⟨fun n a h => h, fun _ _ h => sqt_upd (notT_none hn) h, fun b o xs h => by rw [upd_ne (notT_ne (notT_none hn) h (fun z => z))]; exact h, fun b xs h => by rw [upd_ne (notT_ne (notT_none hn) h (fun z => z))]; exact h⟩

/-- a thing that is no object of ours is laid -/
theorem HR.lay {h : Heap} (R : HR G r H h) {p : Addr} {u : HO} (hp : H p = none) : HR G r (upd H p u) h :=
  ⟨R.len, R.nd, fun n o a e1 e2 => (R.ob n o a e1 e2).mono (Stp.new0 hp) fun _ v e => by rw [upd_ne (ne_of_none e hp)]; exact e⟩
theorem get_snoc {α : Type} {l : List α} {x y : α} {n : Nat} (e : (l ++ [x])[n]? = some y) : (n < l.length ∧ l[n]? = some y) ∨ (n = l.length ∧ x = y) := by
  by_cases h : n < l.length
  · rw [List.getElem?_append_left h] at e
    exact .inl ⟨h, e⟩
  · have := (List.getElem?_eq_some_iff.mp e).1
    have hn : n = l.length := by
      simp at this
      omega
    subst hn
    simp at e
    exact .inr ⟨rfl, e⟩
/-- a new object -/
theorem HR.push {h : Heap} (R : HR G r H h) {p : Addr} {u : HO} {o : Obj} (hp : H p = none) (ho : OR G (r ++ [p]) (upd H p u) o p) : HR G (r ++ [p]) (upd H p u) (h ++ [o]) := by
  have no : ∀ (i : Nat) (x : Obj), h[i]? = some x → r[i]? = some p → isFls x = false → False := fun i x e1 e2 f => by
    obtain ⟨v, hv⟩ := (R.ob i x p e1 e2).there f
    rw [hp] at hv
    cases hv
  refine ⟨by simp [R.len], fun i j a x y e1 e2 e3 e4 f1 f2 => ?_, fun n o' a e1 e2 => ?_⟩
  · rcases get_snoc e1 with ⟨l1, e1⟩ | ⟨l1, e1⟩ <;> rcases get_snoc e2 with ⟨l2, e2⟩ | ⟨l2, e2⟩ <;> rcases get_snoc e3 with ⟨l3, e3⟩ | ⟨l3, e3⟩ <;> rcases get_snoc e4 with ⟨l4, e4⟩ | ⟨l4, e4⟩
    all_goals (have hl := R.len)
    all_goals first
      | omega
      | exact R.nd i j a x y e1 e2 e3 e4 f1 f2
      | (subst e4; exact (no i x e1 e3 f1).elim)
      | (subst e3; exact (no j y e2 e4 f2).elim)
  · have e1' := e1
    clear e1
    rcases get_snoc e1' with ⟨l1, e1⟩ | ⟨l1, e1⟩
    · rcases get_snoc e2 with ⟨l2, e2⟩ | ⟨l2, e2⟩
      · exact (R.ob n o' a e1 e2).mono (Stp.new hp) fun _ v e => by rw [upd_ne (ne_of_none e hp)]; exact e
      · have := R.len
        omega
    · clear e1'
      subst l1
      subst e1
      rw [← R.len] at e2
      simp at e2
      subst e2
      exact ho
/-- an object is written -/
theorem HR.write {h : Heap} (R : HR G r H h) {n : Nat} {a : Addr} {u : HO} {o o0 : Obj} (e0 : h[n]? = some o0) (f0 : isFls o0 = false) (e : r[n]? = some a) (hn : ∀ o, H a = some o → NotT o) (ho : OR G r (upd H a u) o a) (f : isFls o = false) : HR G r (upd H a u) (h.set n o) := by
  have hl : n < h.length := (List.getElem?_eq_some_iff.mp e0).1
  have at_ : ∀ (i : Nat) (x : Obj), (h.set n o)[i]? = some x → isFls x = false → ∃ y, h[i]? = some y ∧ isFls y = false := fun i x e1 f1 => by
    by_cases hm : i = n
    · subst hm
      exact ⟨o0, e0, f0⟩
    · rw [List.getElem?_set_ne (Ne.symm hm)] at e1
      exact ⟨x, e1, f1⟩
  refine ⟨by simp [R.len], fun i j b x y e1 e2 e3 e4 f1 f2 => ?_, fun m o' b e1 e2 => ?_⟩
  · obtain ⟨x', e1', f1'⟩ := at_ i x e1 f1
    obtain ⟨y', e2', f2'⟩ := at_ j y e2 f2
    exact R.nd i j b x' y' e1' e2' e3 e4 f1' f2'
  · by_cases hm : m = n
    · subst hm
      rw [e] at e2
      cases e2
      rw [List.getElem?_set_self hl] at e1
      cases e1
      exact ho
    · rw [List.getElem?_set_ne (Ne.symm hm)] at e1
      refine (R.ob m o' b e1 e2).mono (Stp.upd hn) fun f' v q => ?_
      have hb : b ≠ a := fun q => by
        subst q
        exact hm (R.nd m n b o' o0 e1 e0 e2 e f' f0)
      rw [upd_ne hb]
      exact q
end
end PyM

set_option Elab.async false
set_option linter.all false
set_option autoImplicit false
set_option maxHeartbeats 4000000
set_option maxRecDepth 100000
/-! an end by facts at given places -/
namespace PyM
open PySem PySem.Spec PyProof.Rows L2 He
abbrev AlC : Type := AlT × Bool
def obsC (as : List Addr) (fa : List Fa) (fn : List DefD) (ts : List Tab) (ex : PySem.W.Frag → Bool) (g : Addr → Option PySem.Obj) : AlC := (obsT fa fn ts (frG g as), ex (frG g as))
def valC (fn : List DefD) (ts : List Tab) (w : World) : AlC := (valT fn ts w, true)
def hookC (as : List Addr) (fa : List Fa) (fn : List DefD) (ts : List Tab) (ex : PySem.W.Frag → Bool) : PySem.W.Hook where
  α := AlC
  obs := fun s => obsC as fa fn ts ex s.heap.get?
  val := fun w => valC fn ts w
  says := fun w h => ∃ K : PySem.W.Frag, K.In h ∧ SaysT fa fn ts w K ∧ ex K = true
  of := fun _ _ e => ⟨_, frG_in, congrArg (fun z : AlC => z.1) e, congrArg (fun z : AlC => z.2) e⟩
  keeps := fun _ _ _ ⟨K', z1, z2⟩ z3 => ⟨K', PySem.W.Frag.In.keeps z1 z3, z2⟩
theorem obsC_eq {as : List Addr} {fa : List Fa} {fn : List DefD} {ts : List Tab} {ex : PySem.W.Frag → Bool} {g : Addr → Option PySem.Obj} {s : Shared} (h : ∀ a, g a = s.heap.get? a) : obsC as fa fn ts ex g = (hookC as fa fn ts ex).obs s := by
  rw [show g = s.heap.get? from funext h] <;> rfl
/-! constants -/
mutual
def cvB (K : PySem.W.Frag) (sts : List Str) : Val → Value → Bool
  | .non, .none => true
  | .int i, .int j _ => decide (i = j)
  | .str n, .str x _ => decide (sts[n]? = some x)
  | .tup xs, .ref a => (match K.lookup a with
    | some o => (match o.cls with
      | .type c => decide (c = "tuple")
      | _ => false) && (match o.data with
      | .seq its _ => Nat.ble its.size 1000 && cvBs K sts xs its.toList
      | _ => false)
    | none => false)
  | _, _ => false
def cvBs (K : PySem.W.Frag) (sts : List Str) : List Val → List Value → Bool
  | [], [] => true
  | x :: xs, u :: us => cvB K sts x u && cvBs K sts xs us
  | _, _ => false
end
/-- a name of the module holds this -/
def ktB (K : PySem.W.Frag) (sts : List Str) (x : Str) (v : Val) : Bool := match PySem.W.nsIn K mainGlobals x with
  | some (some u) => cvB K sts v u
  | _ => false
/-- the entries of a table of the module -/
def ceB (K : PySem.W.Frag) (sts : List Str) : List (Nat × Val) → List DictEntry → Bool
  | [], [] => true
  | (i, v) :: l, e :: es => (match e.key with
    | .str z _ => decide (sts[i]? = some z)
    | _ => false) && (cvB K sts v e.val && ceB K sts l es)
  | _, _ => false
def kdB (K : PySem.W.Frag) (sts : List Str) (x : Str) (l : List (Nat × Val)) : Bool := match K.lookup (ga K x) with
  | some ⟨.type c, none, .dict es _, sl⟩ => decide (c = "dict") && (sl.isEmpty && (!(ga K x == sysModules) && ceB K sts l es.toList))
  | _ => false
end PyM

set_option maxHeartbeats 0
namespace Lw
open PySem L2 PyM
def top (i : Nat) : Stmt := PySem.Challenge.pw_steadhold_k40_pipes_are_rows_of_eight_wo.main.body.getD i (.Pass ⟨0, 0, 0, 0⟩)
abbrev s__law_next : Stmt := (top 85)
abbrev s_is_number : Stmt := (top 9)
abbrev s_is_environment : Stmt := (top 10)
abbrev s_Slices__step : Stmt := (inClass (top 11) 2)
abbrev s_Slices__find : Stmt := (inClass (top 11) 1)
abbrev s_Slices___init__ : Stmt := (inClass (top 11) 0)
abbrev s_Frames___init__ : Stmt := (inClass (top 20) 0)
abbrev s_Pages___init__ : Stmt := (inClass (top 67) 0)
abbrev s_Net___init__ : Stmt := (inClass (top 63) 0)
abbrev s_Types___init__ : Stmt := (inClass (top 42) 0)
abbrev s_Types_owned : Stmt := (inClass (top 42) 5)
abbrev s_Disk_words : Stmt := (inClass (top 25) 1)
abbrev s_Blocks_forest : Stmt := (inClass (top 47) 3)
abbrev s_Blocks_lasting_forest : Stmt := (inClass (top 47) 4)
abbrev s_Blocks___init__ : Stmt := (inClass (top 47) 0)
abbrev s_Kernel___init__ : Stmt := (inClass (top 72) 0)
abbrev s_Disk___init__ : Stmt := (inClass (top 25) 0)
abbrev s__law_kernel : Stmt := (top 86)
abbrev s_Memory___init__ : Stmt := (inClass (top 75) 0)
abbrev s_Pipes___init__ : Stmt := (inClass (top 79) 0)
abbrev s_Stack___init__ : Stmt := (inClass (top 2) 0)
abbrev s_Make_request : Stmt := (inClass (top 80) 1)
abbrev s_Put_request : Stmt := (inClass (top 81) 1)
abbrev s_Take_request : Stmt := (inClass (top 82) 1)
abbrev s_End_request : Stmt := (inClass (top 83) 1)
abbrev s_Memory_note_taken : Stmt := (inClass (top 75) 5)
abbrev s_Pipes_note : Stmt := (inClass (top 79) 5)
abbrev s_Make_accept : Stmt := (inClass (top 80) 2)
abbrev s_Pipes_frame : Stmt := (inClass (top 79) 3)
abbrev s_Pipes_head : Stmt := (inClass (top 79) 4)
abbrev s_Pipes_size : Stmt := (inClass (top 79) 2)
abbrev s_Put_accept : Stmt := (inClass (top 81) 2)
abbrev s_Take_accept : Stmt := (inClass (top 82) 2)
abbrev s_Memory_note_dropped : Stmt := (inClass (top 75) 6)
abbrev s_Pipes_forget : Stmt := (inClass (top 79) 6)
abbrev s_End_accept : Stmt := (inClass (top 83) 2)
abbrev s_Stack__settle : Stmt := (inClass (top 2) 1)
abbrev s_Frames_holdings : Stmt := (inClass (top 20) 9)
abbrev s_Frames_free : Stmt := (inClass (top 20) 6)
abbrev s_Frames_charge : Stmt := (inClass (top 20) 3)
abbrev s_Frames_share : Stmt := (inClass (top 20) 2)
abbrev s_Frames_left : Stmt := (inClass (top 20) 4)
abbrev s_Frames_may_hold_more : Stmt := (inClass (top 20) 5)
abbrev s_Frames_take : Stmt := (inClass (top 20) 7)
abbrev s_told : Stmt := (top 71)
abbrev s_Frames_is_frame : Stmt := (inClass (top 20) 1)
abbrev s_Frames_right : Stmt := (inClass (top 20) 8)
abbrev s_includes : Stmt := (top 19)
abbrev s_Frames_offer : Stmt := (inClass (top 20) 10)
abbrev s_Frames_accept : Stmt := (inClass (top 20) 11)
abbrev s_Frames__end_holding : Stmt := (inClass (top 20) 12)
abbrev s_Frames_drop : Stmt := (inClass (top 20) 13)
abbrev s_is_page : Stmt := (top 66)
abbrev s_Pages_entry : Stmt := (inClass (top 67) 3)
abbrev s_Pages__fall : Stmt := (inClass (top 67) 6)
abbrev s_Pages_ended : Stmt := (inClass (top 67) 7)
abbrev s_Frames_narrow : Stmt := (inClass (top 20) 14)
abbrev s_Pages_narrowed : Stmt := (inClass (top 67) 8)
abbrev s_Kernel__frames : Stmt := (inClass (top 72) 2)
abbrev s_Pages_map : Stmt := (inClass (top 67) 1)
abbrev s_Pages_unmap : Stmt := (inClass (top 67) 2)
abbrev s_Frames_read : Stmt := (inClass (top 20) 15)
abbrev s_Pages_load : Stmt := (inClass (top 67) 4)
abbrev s_is_word : Stmt := (top 18)
abbrev s_Frames_write : Stmt := (inClass (top 20) 16)
abbrev s_Pages_store : Stmt := (inClass (top 67) 5)
abbrev s_Kernel__pages : Stmt := (inClass (top 72) 3)
abbrev s_Kernel_request : Stmt := (inClass (top 72) 1)
abbrev s_Stack_step : Stmt := (inClass (top 2) 2)
abbrev s_Stack_ended : Stmt := (inClass (top 2) 3)
abbrev s_Stack_value : Stmt := (inClass (top 2) 4)
abbrev s__law_run : Stmt := (top 87)
abbrev s_Pipes_least : Stmt := (inClass (top 79) 7)
abbrev s_Memory_held : Stmt := (inClass (top 75) 3)
abbrev s_Memory_is_full : Stmt := (inClass (top 75) 4)
abbrev s_Make___init__ : Stmt := (inClass (top 80) 0)
abbrev s_Pipes_is_there : Stmt := (inClass (top 79) 1)
abbrev s_Put___init__ : Stmt := (inClass (top 81) 0)
abbrev s_Take___init__ : Stmt := (inClass (top 82) 0)
abbrev s_End___init__ : Stmt := (inClass (top 83) 0)
abbrev s_law : Stmt := (top 88)
def sts : List Str := ("rw" : Str) :: ("r" : Str) :: ("" : Str) :: ("w" : Str) :: ("call" : Str) :: ("end" : Str) :: ("word" : Str) :: ("own" : Str) :: ("no" : Str) :: ("ok" : Str) :: ("form" : Str) :: ("take" : Str) :: ("offer" : Str) :: ("accept" : Str) :: ("drop" : Str) :: ("narrow" : Str) :: ("held" : Str) :: ("map" : Str) :: ("unmap" : Str) :: ("load" : Str) :: ("store" : Str) :: ("asked" : Str) :: ("taken" : Str) :: ("filter" : Str) :: ("next" : Str) :: ("leave" : Str) :: ("send" : Str) :: ("hand on" : Str) :: ("pass" : Str) :: ("who" : Str) :: ("room" : Str) :: ("book" : Str) :: ("fault" : Str) :: []
def c_RIGHTS : Val := .tup [.str 1, .str 0]
def c_EMPTY : Val := .tup [.tup [], .tup []]
def c_BAD_kernel : Val := .tup [.str 8, .str 10]
def c_LENGTHS_kernel : List (Nat × Val) := [(11, .int 1), (12, .int 4), (13, .int 3), (14, .int 2), (15, .int 2), (16, .int 1), (17, .int 4), (18, .int 2), (19, .int 3), (20, .int 4), (21, .int 1), (22, .int 1), (23, .int 2), (24, .int 2), (25, .int 2), (26, .int 2), (27, .int 2), (28, .int 1), (29, .int 1)]
def eFa_0 : List He.Fa := [.glo "_law_next", .glo "is_number", .glo "is_environment", .meth "Slices" "_step", .meth "Slices" "_find", .meth "Types" "owned", .meth "Disk" "words", .meth "Blocks" "forest", .meth "Blocks" "lasting_forest", .glo "_law_kernel", .meth "Make" "request", .meth "Put" "request", .meth "Take" "request", .meth "End" "request", .meth "Memory" "note_taken", .meth "Pipes" "note", .meth "Make" "accept", .meth "Pipes" "frame", .meth "Pipes" "head", .meth "Pipes" "size"]
def eFa_1 : List He.Fa := [.meth "Put" "accept", .meth "Take" "accept", .meth "Memory" "note_dropped", .meth "Pipes" "forget", .meth "End" "accept", .meth "Stack" "_settle", .meth "Frames" "holdings", .meth "Frames" "free", .meth "Frames" "charge", .meth "Frames" "share", .meth "Frames" "left", .meth "Frames" "may_hold_more", .meth "Frames" "take", .glo "told", .meth "Frames" "is_frame", .meth "Frames" "right", .glo "includes", .meth "Frames" "offer", .meth "Frames" "accept", .meth "Frames" "_end_holding"]
def eFa_2 : List He.Fa := [.meth "Frames" "drop", .glo "is_page", .meth "Pages" "entry", .meth "Pages" "_fall", .meth "Pages" "ended", .meth "Frames" "narrow", .meth "Pages" "narrowed", .meth "Kernel" "_frames", .meth "Pages" "map", .meth "Pages" "unmap", .meth "Frames" "read", .meth "Pages" "load", .glo "is_word", .meth "Frames" "write", .meth "Pages" "store", .meth "Kernel" "_pages", .meth "Kernel" "request", .meth "Stack" "step", .meth "Stack" "ended", .meth "Stack" "value"]
def eFa_3 : List He.Fa := [.glo "_law_run", .meth "Pipes" "least", .meth "Memory" "held", .meth "Memory" "is_full", .meth "Pipes" "is_there", .glo "law", .cls "Stack", .glo "Stack", .mkr "Stack", .cls "Slices", .glo "Slices", .mkr "Slices", .cls "Frames", .glo "Frames", .mkr "Frames", .cls "Disk", .glo "Disk", .mkr "Disk", .cls "Types", .glo "Types"]
def eFa_4 : List He.Fa := [.mkr "Types", .cls "Blocks", .glo "Blocks", .mkr "Blocks", .cls "Net", .glo "Net", .mkr "Net", .cls "Pages", .glo "Pages", .mkr "Pages", .cls "Kernel", .glo "Kernel", .mkr "Kernel", .cls "Memory", .glo "Memory", .mkr "Memory", .cls "Pipes", .glo "Pipes", .mkr "Pipes", .cls "Make"]
def eFa_5 : List He.Fa := [.glo "Make", .mkr "Make", .cls "Put", .glo "Put", .mkr "Put", .cls "Take", .glo "Take", .mkr "Take", .cls "End", .glo "End", .mkr "End", .noat "Blocks" "buffers", .noat "Blocks" "disk", .noat "Blocks" "fresh", .noat "Blocks" "kept", .noat "Blocks" "shares", .noat "Blocks" "types", .noat "Disk" "blocks", .noat "Disk" "held", .noat "Disk" "waiting"]
def eFa_6 : List He.Fa := [.noat "End" "frame", .noat "End" "pipe", .noat "End" "pipes", .noat "End" "stage", .noat "End" "wanted", .noat "Frames" "holders", .noat "Frames" "lost", .noat "Frames" "many", .noat "Frames" "offers", .noat "Frames" "order", .noat "Frames" "shares", .noat "Frames" "wanted", .noat "Frames" "words", .noat "Kernel" "blocks", .noat "Kernel" "disk", .noat "Kernel" "frames", .noat "Kernel" "net", .noat "Kernel" "pages", .noat "Kernel" "slices", .noat "Make" "pipe"]
def eFa_7 : List He.Fa := [.noat "Make" "pipes", .noat "Make" "stage", .noat "Make" "wanted", .noat "Memory" "others", .noat "Memory" "share", .noat "Memory" "tables", .noat "Net" "gone", .noat "Net" "made", .noat "Net" "missed", .noat "Net" "regions", .noat "Net" "rings", .noat "Net" "rows", .noat "Net" "tree", .noat "Pages" "entries", .noat "Pages" "frames", .noat "Pipes" "memory", .noat "Pipes" "rows", .noat "Put" "pipe", .noat "Put" "pipes", .noat "Put" "wanted"]
def eFa_8 : List He.Fa := [.noat "Slices" "holder", .noat "Slices" "owners", .noat "Slices" "round", .noat "Slices" "slot", .noat "Slices" "unit", .noat "Stack" "machines", .noat "Stack" "result", .noat "Take" "pipe", .noat "Take" "pipes", .noat "Take" "wanted", .noat "Types" "blocks", .noat "Types" "known", .noat "Types" "makers", .free "abs", .free "all", .free "any", .free "bool", .free "int", .free "isinstance", .free "len"]
def eFa_9 : List He.Fa := [.free "list", .free "max", .free "min", .free "range", .free "str", .free "sum", .free "tuple", .int "DATA" 0, .int "ENVIRONMENTS" 4, .int "FIELDS" 6, .int "FIRST_PAGE" 24, .int "FIRST_TYPE" 2, .int "LEAST" 8, .int "LEAST_BLOCKS" 24, .glo "LENGTHS_kernel", .int "MOST_BLOCKS" 64, .int "MOST_GUARDS" 4, .int "MOST_frames" 64, .int "MOST_pipes" 4, .str "OWN" "own"]
def eFa_10 : List He.Fa := [.int "PAGES" 32, .int "ROOT" 1, .int "SLOTS_memory" 4, .int "SLOTS_slices" 8, .int "TOP" 4294967295, .int "WORDS" 8, .glo "NotValid", .exc "NotValid", .exm "NotValid" "NotValid" true]
def eFn_0 : List He.DefD := [⟨("_law_next", none), "_law_next", "_law_next", defArgs s__law_next, defBody s__law_next, defScope s__law_next, [], []⟩, ⟨("is_number", none), "is_number", "is_number", defArgs s_is_number, defBody s_is_number, defScope s_is_number, [], []⟩, ⟨("is_environment", none), "is_environment", "is_environment", defArgs s_is_environment, defBody s_is_environment, defScope s_is_environment, [], []⟩, ⟨("Slices", some "_step"), "_step", "Slices._step", defArgs s_Slices__step, defBody s_Slices__step, defScope s_Slices__step, [], []⟩, ⟨("Slices", some "_find"), "_find", "Slices._find", defArgs s_Slices__find, defBody s_Slices__find, defScope s_Slices__find, [], []⟩, ⟨("Slices", some "__init__"), "__init__", "Slices.__init__", defArgs s_Slices___init__, defBody s_Slices___init__, defScope s_Slices___init__, [], []⟩, ⟨("Frames", some "__init__"), "__init__", "Frames.__init__", defArgs s_Frames___init__, defBody s_Frames___init__, defScope s_Frames___init__, [], []⟩, ⟨("Pages", some "__init__"), "__init__", "Pages.__init__", defArgs s_Pages___init__, defBody s_Pages___init__, defScope s_Pages___init__, [], []⟩, ⟨("Net", some "__init__"), "__init__", "Net.__init__", defArgs s_Net___init__, defBody s_Net___init__, defScope s_Net___init__, [], []⟩, ⟨("Types", some "__init__"), "__init__", "Types.__init__", defArgs s_Types___init__, defBody s_Types___init__, defScope s_Types___init__, [], []⟩]
def eFn_1 : List He.DefD := [⟨("Types", some "owned"), "owned", "Types.owned", defArgs s_Types_owned, defBody s_Types_owned, defScope s_Types_owned, [], []⟩, ⟨("Disk", some "words"), "words", "Disk.words", defArgs s_Disk_words, defBody s_Disk_words, defScope s_Disk_words, [], []⟩, ⟨("Blocks", some "forest"), "forest", "Blocks.forest", defArgs s_Blocks_forest, defBody s_Blocks_forest, defScope s_Blocks_forest, [], []⟩, ⟨("Blocks", some "lasting_forest"), "lasting_forest", "Blocks.lasting_forest", defArgs s_Blocks_lasting_forest, defBody s_Blocks_lasting_forest, defScope s_Blocks_lasting_forest, [], []⟩, ⟨("Blocks", some "__init__"), "__init__", "Blocks.__init__", defArgs s_Blocks___init__, defBody s_Blocks___init__, defScope s_Blocks___init__, [.non], []⟩, ⟨("Kernel", some "__init__"), "__init__", "Kernel.__init__", defArgs s_Kernel___init__, defBody s_Kernel___init__, defScope s_Kernel___init__, [], []⟩, ⟨("Disk", some "__init__"), "__init__", "Disk.__init__", defArgs s_Disk___init__, defBody s_Disk___init__, defScope s_Disk___init__, [], []⟩, ⟨("_law_kernel", none), "_law_kernel", "_law_kernel", defArgs s__law_kernel, defBody s__law_kernel, defScope s__law_kernel, [], []⟩, ⟨("Memory", some "__init__"), "__init__", "Memory.__init__", defArgs s_Memory___init__, defBody s_Memory___init__, defScope s_Memory___init__, [], []⟩, ⟨("Pipes", some "__init__"), "__init__", "Pipes.__init__", defArgs s_Pipes___init__, defBody s_Pipes___init__, defScope s_Pipes___init__, [], []⟩]
def eFn_2 : List He.DefD := [⟨("Stack", some "__init__"), "__init__", "Stack.__init__", defArgs s_Stack___init__, defBody s_Stack___init__, defScope s_Stack___init__, [], []⟩, ⟨("Make", some "request"), "request", "Make.request", defArgs s_Make_request, defBody s_Make_request, defScope s_Make_request, [], []⟩, ⟨("Put", some "request"), "request", "Put.request", defArgs s_Put_request, defBody s_Put_request, defScope s_Put_request, [], []⟩, ⟨("Take", some "request"), "request", "Take.request", defArgs s_Take_request, defBody s_Take_request, defScope s_Take_request, [], []⟩, ⟨("End", some "request"), "request", "End.request", defArgs s_End_request, defBody s_End_request, defScope s_End_request, [], []⟩, ⟨("Memory", some "note_taken"), "note_taken", "Memory.note_taken", defArgs s_Memory_note_taken, defBody s_Memory_note_taken, defScope s_Memory_note_taken, [], []⟩, ⟨("Pipes", some "note"), "note", "Pipes.note", defArgs s_Pipes_note, defBody s_Pipes_note, defScope s_Pipes_note, [], []⟩, ⟨("Make", some "accept"), "accept", "Make.accept", defArgs s_Make_accept, defBody s_Make_accept, defScope s_Make_accept, [], []⟩, ⟨("Pipes", some "frame"), "frame", "Pipes.frame", defArgs s_Pipes_frame, defBody s_Pipes_frame, defScope s_Pipes_frame, [], []⟩, ⟨("Pipes", some "head"), "head", "Pipes.head", defArgs s_Pipes_head, defBody s_Pipes_head, defScope s_Pipes_head, [], []⟩]
def eFn_3 : List He.DefD := [⟨("Pipes", some "size"), "size", "Pipes.size", defArgs s_Pipes_size, defBody s_Pipes_size, defScope s_Pipes_size, [], []⟩, ⟨("Put", some "accept"), "accept", "Put.accept", defArgs s_Put_accept, defBody s_Put_accept, defScope s_Put_accept, [], []⟩, ⟨("Take", some "accept"), "accept", "Take.accept", defArgs s_Take_accept, defBody s_Take_accept, defScope s_Take_accept, [], []⟩, ⟨("Memory", some "note_dropped"), "note_dropped", "Memory.note_dropped", defArgs s_Memory_note_dropped, defBody s_Memory_note_dropped, defScope s_Memory_note_dropped, [], []⟩, ⟨("Pipes", some "forget"), "forget", "Pipes.forget", defArgs s_Pipes_forget, defBody s_Pipes_forget, defScope s_Pipes_forget, [], []⟩, ⟨("End", some "accept"), "accept", "End.accept", defArgs s_End_accept, defBody s_End_accept, defScope s_End_accept, [], []⟩, ⟨("Stack", some "_settle"), "_settle", "Stack._settle", defArgs s_Stack__settle, defBody s_Stack__settle, defScope s_Stack__settle, [], []⟩, ⟨("Frames", some "holdings"), "holdings", "Frames.holdings", defArgs s_Frames_holdings, defBody s_Frames_holdings, defScope s_Frames_holdings, [], []⟩, ⟨("Frames", some "free"), "free", "Frames.free", defArgs s_Frames_free, defBody s_Frames_free, defScope s_Frames_free, [], []⟩, ⟨("Frames", some "charge"), "charge", "Frames.charge", defArgs s_Frames_charge, defBody s_Frames_charge, defScope s_Frames_charge, [], []⟩]
def eFn_4 : List He.DefD := [⟨("Frames", some "share"), "share", "Frames.share", defArgs s_Frames_share, defBody s_Frames_share, defScope s_Frames_share, [], []⟩, ⟨("Frames", some "left"), "left", "Frames.left", defArgs s_Frames_left, defBody s_Frames_left, defScope s_Frames_left, [], []⟩, ⟨("Frames", some "may_hold_more"), "may_hold_more", "Frames.may_hold_more", defArgs s_Frames_may_hold_more, defBody s_Frames_may_hold_more, defScope s_Frames_may_hold_more, [], []⟩, ⟨("Frames", some "take"), "take", "Frames.take", defArgs s_Frames_take, defBody s_Frames_take, defScope s_Frames_take, [], []⟩, ⟨("told", none), "told", "told", defArgs s_told, defBody s_told, defScope s_told, [], []⟩, ⟨("Frames", some "is_frame"), "is_frame", "Frames.is_frame", defArgs s_Frames_is_frame, defBody s_Frames_is_frame, defScope s_Frames_is_frame, [], []⟩, ⟨("Frames", some "right"), "right", "Frames.right", defArgs s_Frames_right, defBody s_Frames_right, defScope s_Frames_right, [], []⟩, ⟨("includes", none), "includes", "includes", defArgs s_includes, defBody s_includes, defScope s_includes, [], []⟩, ⟨("Frames", some "offer"), "offer", "Frames.offer", defArgs s_Frames_offer, defBody s_Frames_offer, defScope s_Frames_offer, [], []⟩, ⟨("Frames", some "accept"), "accept", "Frames.accept", defArgs s_Frames_accept, defBody s_Frames_accept, defScope s_Frames_accept, [], []⟩]
def eFn_5 : List He.DefD := [⟨("Frames", some "_end_holding"), "_end_holding", "Frames._end_holding", defArgs s_Frames__end_holding, defBody s_Frames__end_holding, defScope s_Frames__end_holding, [], []⟩, ⟨("Frames", some "drop"), "drop", "Frames.drop", defArgs s_Frames_drop, defBody s_Frames_drop, defScope s_Frames_drop, [], []⟩, ⟨("is_page", none), "is_page", "is_page", defArgs s_is_page, defBody s_is_page, defScope s_is_page, [], []⟩, ⟨("Pages", some "entry"), "entry", "Pages.entry", defArgs s_Pages_entry, defBody s_Pages_entry, defScope s_Pages_entry, [], []⟩, ⟨("Pages", some "_fall"), "_fall", "Pages._fall", defArgs s_Pages__fall, defBody s_Pages__fall, defScope s_Pages__fall, [], []⟩, ⟨("Pages", some "ended"), "ended", "Pages.ended", defArgs s_Pages_ended, defBody s_Pages_ended, defScope s_Pages_ended, [], []⟩, ⟨("Frames", some "narrow"), "narrow", "Frames.narrow", defArgs s_Frames_narrow, defBody s_Frames_narrow, defScope s_Frames_narrow, [], []⟩, ⟨("Pages", some "narrowed"), "narrowed", "Pages.narrowed", defArgs s_Pages_narrowed, defBody s_Pages_narrowed, defScope s_Pages_narrowed, [], []⟩, ⟨("Kernel", some "_frames"), "_frames", "Kernel._frames", defArgs s_Kernel__frames, defBody s_Kernel__frames, defScope s_Kernel__frames, [], []⟩, ⟨("Pages", some "map"), "map", "Pages.map", defArgs s_Pages_map, defBody s_Pages_map, defScope s_Pages_map, [], []⟩]
def eFn_6 : List He.DefD := [⟨("Pages", some "unmap"), "unmap", "Pages.unmap", defArgs s_Pages_unmap, defBody s_Pages_unmap, defScope s_Pages_unmap, [], []⟩, ⟨("Frames", some "read"), "read", "Frames.read", defArgs s_Frames_read, defBody s_Frames_read, defScope s_Frames_read, [], []⟩, ⟨("Pages", some "load"), "load", "Pages.load", defArgs s_Pages_load, defBody s_Pages_load, defScope s_Pages_load, [], []⟩, ⟨("is_word", none), "is_word", "is_word", defArgs s_is_word, defBody s_is_word, defScope s_is_word, [], []⟩, ⟨("Frames", some "write"), "write", "Frames.write", defArgs s_Frames_write, defBody s_Frames_write, defScope s_Frames_write, [], []⟩, ⟨("Pages", some "store"), "store", "Pages.store", defArgs s_Pages_store, defBody s_Pages_store, defScope s_Pages_store, [], []⟩, ⟨("Kernel", some "_pages"), "_pages", "Kernel._pages", defArgs s_Kernel__pages, defBody s_Kernel__pages, defScope s_Kernel__pages, [], []⟩, ⟨("Kernel", some "request"), "request", "Kernel.request", defArgs s_Kernel_request, defBody s_Kernel_request, defScope s_Kernel_request, [], []⟩, ⟨("Stack", some "step"), "step", "Stack.step", defArgs s_Stack_step, defBody s_Stack_step, defScope s_Stack_step, [], []⟩, ⟨("Stack", some "ended"), "ended", "Stack.ended", defArgs s_Stack_ended, defBody s_Stack_ended, defScope s_Stack_ended, [], []⟩]
def eFn_7 : List He.DefD := [⟨("Stack", some "value"), "value", "Stack.value", defArgs s_Stack_value, defBody s_Stack_value, defScope s_Stack_value, [], []⟩, ⟨("_law_run", none), "_law_run", "_law_run", defArgs s__law_run, defBody s__law_run, defScope s__law_run, [], []⟩, ⟨("Pipes", some "least"), "least", "Pipes.least", defArgs s_Pipes_least, defBody s_Pipes_least, defScope s_Pipes_least, [], []⟩, ⟨("Memory", some "held"), "held", "Memory.held", defArgs s_Memory_held, defBody s_Memory_held, defScope s_Memory_held, [], []⟩, ⟨("Memory", some "is_full"), "is_full", "Memory.is_full", defArgs s_Memory_is_full, defBody s_Memory_is_full, defScope s_Memory_is_full, [], []⟩, ⟨("Make", some "__init__"), "__init__", "Make.__init__", defArgs s_Make___init__, defBody s_Make___init__, defScope s_Make___init__, [], []⟩, ⟨("Pipes", some "is_there"), "is_there", "Pipes.is_there", defArgs s_Pipes_is_there, defBody s_Pipes_is_there, defScope s_Pipes_is_there, [], []⟩, ⟨("Put", some "__init__"), "__init__", "Put.__init__", defArgs s_Put___init__, defBody s_Put___init__, defScope s_Put___init__, [], []⟩, ⟨("Take", some "__init__"), "__init__", "Take.__init__", defArgs s_Take___init__, defBody s_Take___init__, defScope s_Take___init__, [], []⟩, ⟨("End", some "__init__"), "__init__", "End.__init__", defArgs s_End___init__, defBody s_End___init__, defScope s_End___init__, [], []⟩]
def eFn_8 : List He.DefD := [⟨("law", none), "law", "law", defArgs s_law, defBody s_law, defScope s_law, [], []⟩]
def eNm_0 : List PySem.Str := [("_wall" : PySem.Str), ("__name__" : PySem.Str), ("Stack" : PySem.Str), ("SteadError" : PySem.Str), ("NotValid" : PySem.Str), ("SLOTS_slices" : PySem.Str), ("ENVIRONMENTS" : PySem.Str), ("is_number" : PySem.Str), ("is_environment" : PySem.Str), ("Slices" : PySem.Str), ("WORDS" : PySem.Str), ("TOP" : PySem.Str), ("LEAST" : PySem.Str), ("MOST_frames" : PySem.Str), ("RIGHTS" : PySem.Str), ("is_word" : PySem.Str), ("includes" : PySem.Str), ("Frames" : PySem.Str), ("LEAST_BLOCKS" : PySem.Str), ("MOST_BLOCKS" : PySem.Str)]
def eNm_1 : List PySem.Str := [("is_words" : PySem.Str), ("Disk" : PySem.Str), ("MOST_TYPES" : PySem.Str), ("MOST_CLAUSES" : PySem.Str), ("MOST_GUARDS" : PySem.Str), ("DATA" : PySem.Str), ("ROOT" : PySem.Str), ("FIRST_TYPE" : PySem.Str), ("OWN" : PySem.Str), ("is_index" : PySem.Str), ("is_guard" : PySem.Str), ("is_many" : PySem.Str), ("is_clause" : PySem.Str), ("is_program" : PySem.Str), ("is_block" : PySem.Str), ("words_of" : PySem.Str), ("run_program" : PySem.Str), ("Types" : PySem.Str), ("BAD_blocks" : PySem.Str), ("LENGTHS_blocks" : PySem.Str)]
def eNm_2 : List PySem.Str := [("no" : PySem.Str), ("Blocks" : PySem.Str), ("FIELDS" : PySem.Str), ("is_packet" : PySem.Str), ("is_test" : PySem.Str), ("is_filter" : PySem.Str), ("common" : PySem.Str), ("EMPTY" : PySem.Str), ("child_of" : PySem.Str), ("with_child" : PySem.Str), ("branch_of" : PySem.Str), ("with_branch" : PySem.Str), ("with_filter" : PySem.Str), ("without_filter" : PySem.Str), ("Net" : PySem.Str), ("PAGES" : PySem.Str), ("is_page" : PySem.Str), ("Pages" : PySem.Str), ("BAD_kernel" : PySem.Str), ("LENGTHS_kernel" : PySem.Str)]
def eNm_3 : List PySem.Str := [("told" : PySem.Str), ("Kernel" : PySem.Str), ("SLOTS_memory" : PySem.Str), ("Memory" : PySem.Str), ("MOST_pipes" : PySem.Str), ("FIRST_PAGE" : PySem.Str), ("Pipes" : PySem.Str), ("Make" : PySem.Str), ("Put" : PySem.Str), ("Take" : PySem.Str), ("End" : PySem.Str), ("_law_next" : PySem.Str), ("_law_kernel" : PySem.Str), ("_law_run" : PySem.Str)]
def eAs_0 : List Addr := [3, 66, 65, 80, 79, 93, 92, 180, 179, 348, 347, 421, 420, 529, 528, 739, 738, 896, 895, 978, 977, 1079, 1078, 1168, 1167, 1238, 1237, 1273, 1272, 1308, 1307, 1343, 1342, 1378, 1377, 35, 34, 42, 41, 49]
def eAs_1 : List Addr := [48, 56, 55, 63, 62, 102, 101, 109, 108, 121, 120, 128, 127, 135, 134, 192, 191, 199, 198, 211, 210, 218, 217, 225, 224, 232, 231, 237, 236, 242, 241, 247, 246, 254, 253, 261, 260, 268, 267, 275]
def eAs_2 : List Addr := [274, 282, 281, 289, 288, 296, 295, 303, 302, 310, 309, 317, 316, 371, 370, 378, 377, 491, 490, 526, 525, 535, 555, 554, 550, 572, 571, 579, 578, 818, 817, 907, 906, 919, 918, 926, 925, 933, 932, 940]
def eAs_3 : List Addr := [939, 947, 946, 954, 953, 961, 960, 968, 967, 975, 974, 984, 992, 991, 1006, 1005, 1013, 1012, 1020, 1019, 1027, 1026, 1095, 1094, 1116, 1115, 1123, 1122, 1130, 1129, 1137, 1136, 1186, 1185, 1193, 1192, 1200, 1199, 1207, 1206]
def eAs_4 : List Addr := [1214, 1213, 1221, 1220, 1228, 1227, 1235, 1234, 1256, 1255, 1263, 1262, 1270, 1269, 1291, 1290, 1298, 1297, 1305, 1304, 1326, 1325, 1333, 1332, 1340, 1339, 1361, 1360, 1368, 1367, 1375, 1374, 1389, 1388, 1396, 1395, 1403, 1402, 1408, 1407]
def eAs_5 : List Addr := [185, 770, 769, 768, 983]
def eFa : List He.Fa := eFa_0 ++ (eFa_1 ++ (eFa_2 ++ (eFa_3 ++ (eFa_4 ++ (eFa_5 ++ (eFa_6 ++ (eFa_7 ++ (eFa_8 ++ (eFa_9 ++ (eFa_10))))))))))
def eFn : List He.DefD := eFn_0 ++ (eFn_1 ++ (eFn_2 ++ (eFn_3 ++ (eFn_4 ++ (eFn_5 ++ (eFn_6 ++ (eFn_7 ++ (eFn_8))))))))
def eNm : List PySem.Str := eNm_0 ++ (eNm_1 ++ (eNm_2 ++ (eNm_3)))
def eAs : List Addr := eAs_0 ++ (eAs_1 ++ (eAs_2 ++ (eAs_3 ++ (eAs_4 ++ (eAs_5)))))
def eK0 : List PySem.Str := [("take" : PySem.Str), ("offer" : PySem.Str), ("accept" : PySem.Str), ("drop" : PySem.Str), ("narrow" : PySem.Str), ("held" : PySem.Str), ("map" : PySem.Str), ("unmap" : PySem.Str), ("load" : PySem.Str), ("store" : PySem.Str), ("asked" : PySem.Str), ("taken" : PySem.Str), ("filter" : PySem.Str), ("next" : PySem.Str), ("leave" : PySem.Str), ("send" : PySem.Str), ("hand on" : PySem.Str), ("pass" : PySem.Str), ("who" : PySem.Str)]
def eTs : List He.Tab := [(fun K => He.ga K "LENGTHS_kernel", eK0)]
def eX (K : PySem.W.Frag) : Bool := ktB K sts "BAD_kernel" c_BAD_kernel && (ktB K sts "EMPTY" c_EMPTY && (kdB K sts "LENGTHS_kernel" c_LENGTHS_kernel && (ktB K sts "RIGHTS" c_RIGHTS)))
theorem tabAt {w : World} {K : PySem.W.Frag} {fa : List He.Fa} {fn : List He.DefD} {ts : List He.Tab} (c : He.SaysT fa fn ts w K) (i : Nat) {t : He.Tab} (h : ts[i]? = some t) : He.dicW K (t.1 K) = some (He.keysIn w.params t.2) := by
  have z1 := congrArg (fun z : He.AlT => z.2[i]?) c
  have z2 : (ts.map fun y => He.dicW K (y.1 K))[i]? = (ts.map fun y => some (He.keysIn w.params y.2))[i]? := z1
  simpa [h] using z2
abbrev eR : PySem.W.OpenRow := PySem.W.OpenLaw.row PySem.Challenge.rw_steadhold_k40_pipes_are_rows_of_eight_wo
abbrev eQ : Program := PySem.W.view eR.prog [88]
abbrev eH : PySem.W.Hook := hookC eAs eFa eFn eTs eX
def eO (s : PySem.W.SharedT) : AlC := obsC eAs eFa eFn eTs eX (HandSHeadRun.getT s)
theorem eO_eq (s : PySem.W.SharedT) : eO s = eH.obs s.abs := obsC_eq (HandSHeadRun.getT_eq s)
theorem run_f (w : World) : HandSHeadRun.RunEq eR eQ eH eO 12000 eNm (w.withFollow "special-get-raises" false) := by
  intro os
  kernel_rfl
theorem run_t (w : World) : HandSHeadRun.RunEq eR eQ eH eO 12000 eNm (w.withFollow "special-get-raises" true) := by
  intro os
  kernel_rfl
theorem run_w (w : World) : HandSHeadRun.RunEq eR eQ eH eO 12000 eNm w :=
  PySem.W.byRow2 "special-get-raises" (P := fun w => HandSHeadRun.RunEq eR eQ eH eO 12000 eNm w) run_f run_t w
end Lw

set_option Elab.async false
set_option linter.all false
set_option maxRecDepth 100000
set_option autoImplicit false
namespace PyM
open PySem L2

/-! ### results -/
def Res.bind {α β : Type} (x : Res α) (k : α → Heap → Res β) : Res β := match x with
  | .ok a h => k a h
  | .raised c h => .raised c h
  | .stuck => .stuck
/-- what is wanted of a result, over all ways in which the heap may lie -/
def PostR {α β : Type} (G : Cfg) (R : List Addr → Hp → α → β → Prop) (r : List Addr) (H : Hp) (E : XK) (x : Res α) (Q : β → Hp → Prop) : Prop := match x with
  | .ok a h' => ∀ r' H' b, Stp G.K r H r' H' → HR G r' H' h' → R r' H' a b → Q b H'
  | .raised c h' => ∀ r' H' C, Stp G.K r H r' H' → HR G r' H' h' → G.cls[c]? = some C → E (.ref C) none H'
  | .stuck => False
def PostS (G : Cfg) (r : List Addr) (H : Hp) (E : XK) (x : RS) (D : Ends) : Prop := match x with
  | .nx s h' => ∀ r' H' t, Stp G.K r H r' H' → HR G r' H' h' → SR G r' H' s t → D.nx t H'
  | .bk s h' => ∀ r' H' t, Stp G.K r H r' H' → HR G r' H' h' → SR G r' H' s t → D.bk t H'
  | .ct s h' => ∀ r' H' t, Stp G.K r H r' H' → HR G r' H' h' → SR G r' H' s t → D.ct t H'
  | .rt x h' => ∀ r' H' v, Stp G.K r H r' H' → HR G r' H' h' → VR G r' H' x v → D.rt v H'
  | .raised c h' => ∀ r' H' C, Stp G.K r H r' H' → HR G r' H' h' → G.cls[c]? = some C → E (.ref C) none H'
  | .stuck => False
abbrev BR : List Addr → Hp → Bool → Bool → Prop := fun _ _ a b => a = b
section
variable {G : Cfg} {E : XK} {α β γ δ : Type}
theorem PostR.shift {R : List Addr → Hp → α → β → Prop} {r r1 : List Addr} {H H1 : Hp} {x : Res α} {Q : β → Hp → Prop} (s : Stp G.K r H r1 H1) (p : PostR G R r H E x Q) : PostR G R r1 H1 E x Q := by
  cases x with
  | ok a h => exact fun r' H' b s' => p r' H' b (s.trans s')
  | raised c h => exact fun r' H' C s' => p r' H' C (s.trans s')
  | stuck => exact p
theorem PostS.shift {r r1 : List Addr} {H H1 : Hp} {x : RS} {D : Ends} (s : Stp G.K r H r1 H1) (p : PostS G r H E x D) : PostS G r1 H1 E x D := by
  cases x with
  | nx a h => exact fun r' H' b s' => p r' H' b (s.trans s')
  | bk a h => exact fun r' H' b s' => p r' H' b (s.trans s')
  | ct a h => exact fun r' H' b s' => p r' H' b (s.trans s')
  | rt a h => exact fun r' H' b s' => p r' H' b (s.trans s')
  | raised c h => exact fun r' H' C s' => p r' H' C (s.trans s')
  | stuck => exact p
theorem PostR.seq {R1 : List Addr → Hp → α → β → Prop} {R2 : List Addr → Hp → γ → δ → Prop} {r : List Addr} {H : Hp} {x : Res α} {k : α → Heap → Res γ} {Q : δ → Hp → Prop} {Q' : β → Hp → Prop}
    (p : PostR G R2 r H E (x.bind k) Q) (f : ∀ a h1 r1 H1 b, Stp G.K r H r1 H1 → HR G r1 H1 h1 → R1 r1 H1 a b → PostR G R2 r1 H1 E (k a h1) Q → Q' b H1) : PostR G R1 r H E x Q' := by
  cases x with
  | ok a h => exact fun r' H' b s' hR vR => f a h r' H' b s' hR vR (p.shift s')
  | raised c h => exact p
  | stuck => exact p
theorem PostR.here {R : List Addr → Hp → α → β → Prop} {r : List Addr} {H : Hp} {a : α} {b : β} {h : Heap} {Q : β → Hp → Prop} (p : PostR G R r H E (.ok a h) Q) (hR : HR G r H h) (v : R r H a b) : Q b H := p r H b Stp.refl hR v
end

/-! ### the judgements -/
section
variable (G : Cfg) (E : XK)
structure Rf (t : TE) (m : En → Heap → Res Val) : Prop where
  run : ∀ r H h s σ Q, HR G r H h → SR G r H s σ → PostR G (VR G) r H E (m s h) Q → t σ H Q
structure RfT (t : TT) (m : En → Heap → Res Bool) : Prop where
  run : ∀ r H h s σ Q, HR G r H h → SR G r H s σ → PostR G BR r H E (m s h) Q → t σ H Q
structure RfA (t : TA) (m : En → Heap → Res (List Val)) : Prop where
  run : ∀ r H h s σ Q, HR G r H h → SR G r H s σ → PostR G (VRs G) r H E (m s h) Q → t σ H Q
structure RfS (t : TS) (m : En → Heap → RS) : Prop where
  run : ∀ r H h s σ D, HR G r H h → SR G r H s σ → PostS G r H E (m s h) D → t D σ H
/-- operations by values -/
structure Rf2 (t : R2) (m : Val → Val → Heap → Res Val) : Prop where
  run : ∀ r H h x y v u Q, HR G r H h → VR G r H x v → VR G r H y u → PostR G (VR G) r H E (m x y h) Q → t v u H Q
structure Rf1 (t : V → Hp → VK → Prop) (m : Val → Heap → Res Val) : Prop where
  run : ∀ r H h x v Q, HR G r H h → VR G r H x v → PostR G (VR G) r H E (m x h) Q → t v H Q
structure RfL (t : List V → Hp → VK → Prop) (m : List Val → Heap → Res Val) : Prop where
  run : ∀ r H h xs vs Q, HR G r H h → VRs G r H xs vs → PostR G (VR G) r H E (m xs h) Q → t vs H Q
structure RfM (t : V → List V → Hp → VK → Prop) (m : Val → List Val → Heap → Res Val) : Prop where
  run : ∀ r H h x v xs vs Q, HR G r H h → VR G r H x v → VRs G r H xs vs → PostR G (VR G) r H E (m x xs h) Q → t v vs H Q
variable (X : Cx)
structure ME (e : Expr) (t : TE) (m : En → Heap → Res Val) : Prop where
  pe : PE X e t
  rf : Rf G E t m
structure MT (e : Expr) (t : TT) (m : En → Heap → Res Bool) : Prop where
  pe : PT X e t
  rf : RfT G E t m
structure MW (e : Expr) (t : TT) (m : En → Heap → Res Bool) : Prop where
  pe : PW X e t
  rf : RfT G E t m
structure MA (e : List Expr) (t : TA) (m : En → Heap → Res (List Val)) : Prop where
  pe : PA X e t
  rf : RfA G E t m
structure MC (op : CmpOp) (a b : Expr) (t : TE) (m : En → Heap → Res Val) : Prop where
  pe : PC X op a b t
  rf : Rf G E t m
structure MS (st : Stmt) (t : TS) (m : En → Heap → RS) : Prop where
  pe : PS X st t
  rf : RfS G E t m
structure MSs (st : List Stmt) (t : TS) (m : En → Heap → RS) : Prop where
  pe : PSs X st t
  rf : RfS G E t m
/-- what is known of the context -/
structure XC (k : Nat) : Prop where
  K : X.K = G.K
  calm : X.calm = true
  nd : X.N.Nodup
  room : Room k X.A
  pass : Passes (L2.CX X.prog X.w) X E
  own : PassesOwn (model X.prog X.w) X.A X.env X.xe
end
/-- .. of the strings' table -/
structure Cfg.Ok (G : Cfg) : Prop where
  nn : G.nms.Nodup
  nd : G.sts.Nodup
  ok : ∀ x ∈ G.sts, PySem.PyData.strOk x = true

theorem VRs.len {G : Cfg} {r : List Addr} {H : Hp} : ∀ (xs : List Val) (vs : List V), VRs G r H xs vs → xs.length = vs.length
  | [], _, .nil => rfl
  | _ :: xs, _, .cons _ b => congrArg (· + 1) (VRs.len xs _ b)
theorem VRs.get {G : Cfg} {r : List Addr} {H : Hp} : ∀ {xs : List Val} {vs : List V}, VRs G r H xs vs → ∀ {i : Nat} {x : Val}, xs[i]? = some x → ∃ v, vs[i]? = some v ∧ VR G r H x v
  | _, _, .nil, i, x, e => by simp at e
  | _, _, .cons a b, 0, x, e => by
    simp at e
    subst e
    exact ⟨_, rfl, a⟩
  | _, _, .cons a b, i + 1, x, e => by
    obtain ⟨v, h1, h2⟩ := VRs.get b (i := i) (x := x) (by simpa using e)
    exact ⟨v, by simpa using h1, h2⟩
theorem VRs.app {G : Cfg} {r : List Addr} {H : Hp} : ∀ {xs ys : List Val} {vs us : List V}, VRs G r H xs vs → VRs G r H ys us → VRs G r H (xs ++ ys) (vs ++ us)
  | _, _, _, _, .nil, q => q
  | _, _, _, _, .cons a b, q => .cons a (VRs.app b q)
theorem VRs.drop {G : Cfg} {r : List Addr} {H : Hp} : ∀ (n : Nat) {xs : List Val} {vs : List V}, VRs G r H xs vs → VRs G r H (xs.drop n) (vs.drop n)
  | 0, _, _, q => q
  | _ + 1, _, _, .nil => .nil
  | n + 1, _, _, .cons _ b => VRs.drop n b
theorem VRs.take {G : Cfg} {r : List Addr} {H : Hp} : ∀ (n : Nat) {xs : List Val} {vs : List V}, VRs G r H xs vs → VRs G r H (xs.take n) (vs.take n)
  | 0, _, _, q => .nil
  | _ + 1, _, _, .nil => .nil
  | n + 1, _, _, .cons a b => .cons a (VRs.take n b)
theorem VRs.set {G : Cfg} {r : List Addr} {H : Hp} {x : Val} {v : V} (q : VR G r H x v) : ∀ (n : Nat) {xs : List Val} {vs : List V}, VRs G r H xs vs → VRs G r H (xs.set n x) (vs.set n v)
  | _, _, _, .nil => .nil
  | 0, _, _, .cons a b => .cons q b
  | n + 1, _, _, .cons a b => .cons a (VRs.set q n b)
theorem VRs.eraseIdx {G : Cfg} {r : List Addr} {H : Hp} : ∀ (n : Nat) {xs : List Val} {vs : List V}, VRs G r H xs vs → VRs G r H (xs.eraseIdx n) (vs.eraseIdx n)
  | _, _, _, .nil => .nil
  | 0, _, _, .cons a b => b
  | n + 1, _, _, .cons a b => .cons a (VRs.eraseIdx n b)
theorem VRs.dropLast {G : Cfg} {r : List Addr} {H : Hp} : ∀ {xs : List Val} {vs : List V}, VRs G r H xs vs → VRs G r H xs.dropLast vs.dropLast
  | _, _, .nil => .nil
  | _, _, .cons a .nil => .nil
  | _, _, .cons a (.cons b c) => .cons a (VRs.dropLast (.cons b c))
theorem SR.get {G : Cfg} {r : List Addr} {H : Hp} {s : En} {t : St} (q : SR G r H s t) : ∀ {i : Nat} {x : Val}, s[i]? = some (some x) → ∃ v, t[i]? = some (some v) ∧ VR G r H x v := by
  induction q with
  | nil =>
    intro i x e
    simp at e
  | no q ih =>
    intro i x e
    cases i with
    | zero => simp at e
    | succ i => simpa using ih (i := i) (x := x) (by simpa using e)
  | so a q ih =>
    intro i x e
    cases i with
    | zero =>
      simp at e
      subst e
      exact ⟨_, rfl, a⟩
    | succ i => simpa using ih (i := i) (x := x) (by simpa using e)
theorem SR.set {G : Cfg} {r : List Addr} {H : Hp} {s : En} {t : St} (q : SR G r H s t) {x : Val} {v : V} (a : VR G r H x v) : ∀ (i : Nat), SR G r H (s.set i (some x)) (t.set i (some v)) := by
  induction q with
  | nil => exact fun _ => .nil
  | no q ih => exact fun i => match i with
    | 0 => .so a q
    | i + 1 => .no (ih i)
  | so b q ih => exact fun i => match i with
    | 0 => .so a q
    | i + 1 => .so b (ih i)

/-- the most items of a list, a tuple, a dict -/
def lim : Nat := 1000000
theorem lim_le : lim ≤ sizeLine := by rw [sizeLine_eq]; decide
theorem lt_line {n : Nat} (h : n < lim) : n < sizeLine := Nat.lt_of_lt_of_le h lim_le
theorem le_line {n : Nat} (h : n ≤ lim) : n ≤ sizeLine := Nat.le_trans h lim_le

/-! ### the model's words -/
def mV (i : Nat) (s : En) (h : Heap) : Res Val := match s[i]? with
  | some (some x) => .ok x h
  | _ => .stuck
def mK (x : Val) (_ : En) (h : Heap) : Res Val := .ok x h
def mB (f : Val → Val → Heap → Res Val) (ma mb : En → Heap → Res Val) (s : En) (h : Heap) : Res Val := (ma s h).bind fun x h1 => (mb s h1).bind fun y h2 => f x y h2
def mU (f : Val → Heap → Res Val) (ma : En → Heap → Res Val) (s : En) (h : Heap) : Res Val := (ma s h).bind fun x h1 => f x h1
def mL (f : List Val → Heap → Res Val) (ma : En → Heap → Res (List Val)) (s : En) (h : Heap) : Res Val := (ma s h).bind fun x h1 => f x h1
def mM (f : Val → List Val → Heap → Res Val) (mo : En → Heap → Res Val) (ma : En → Heap → Res (List Val)) (s : En) (h : Heap) : Res Val := (mo s h).bind fun x h1 => (ma s h1).bind fun xs h2 => f x xs h2
def mNil (_ : En) (h : Heap) : Res (List Val) := .ok [] h
def mCons (ma : En → Heap → Res Val) (mr : En → Heap → Res (List Val)) (s : En) (h : Heap) : Res (List Val) := (ma s h).bind fun x h1 => (mr s h1).bind fun xs h2 => .ok (x :: xs) h2

section
variable {G : Cfg} {E : XK} {X : Cx} {k : Nat} {a b c e : Expr} {ta tb tc : TE} {ma mb mc : En → Heap → Res Val} {pos : Pos}

/-! ### names and constants -/
theorem me_var (i : Nat) {x : Str} (hN : X.N[i]? = some x := by rfl) (hv : Vis X.env.scope x := by first | exact Or.inl rfl | exact Or.inr (Or.inl rfl) | exact Or.inr (Or.inr rfl)) (hd : (x == ("__debug__" : Str)) = false := by decide) (hcd : (x == ("__classdict__" : Str)) = false := by decide) :
    ME G E X (.Name x pos) (tVar i) (mV i) := by
  refine ⟨pe_var hN hv hd hcd, ⟨fun r H h s σ Q hR sR p => ?_⟩⟩
  unfold mV at p
  split at p
  · rename_i x e
    obtain ⟨v, e', q⟩ := sR.get e
    exact ⟨v, e', p.here hR q⟩
  · exact p.elim
theorem me_int {i : Int} {j} : ME G E X (.Constant (.int i) j pos) (tC (.int i)) (mK (.int i)) := ⟨pe_int, ⟨fun _ _ _ _ _ _ hR _ p => p.here hR (.int i)⟩⟩
theorem me_bl {i : Bool} {j} : ME G E X (.Constant (.bool i) j pos) (tC (.bl i)) (mK (.bl i)) := ⟨pe_bl, ⟨fun _ _ _ _ _ _ hR _ p => p.here hR (.bl i)⟩⟩
theorem me_non {j} : ME G E X (.Constant .none j pos) (tC .non) (mK .non) := ⟨pe_non, ⟨fun _ _ _ _ _ _ hR _ p => p.here hR .non⟩⟩
theorem me_str (n : Nat) {x : Str} {j} (hx : G.sts[n]? = some x) : ME G E X (.Constant (.str x) j pos) (tC (.str x)) (mK (.str n)) := ⟨pe_str, ⟨fun _ _ _ _ _ _ hR _ p => p.here hR (.str hx)⟩⟩
theorem me_glob (i : Int) {x : Str} {t : Tok} (hm : X.mg x = some (.int i t)) (hg : Gl X x := by rfl) (hd : (x == ("__debug__" : Str)) = false := by decide) : ME G E X (.Name x pos) (tC (.int i)) (mK (.int i)) :=
  ⟨pe_glob hg hm ⟨_, rfl⟩ hd, ⟨fun _ _ _ _ _ _ hR _ p => p.here hR (.int i)⟩⟩
theorem me_globS (n : Nat) {x z : Str} {t : Tok} (hm : X.mg x = some (.str z t)) (hx : G.sts[n]? = some z) (hg : Gl X x := by rfl) (hd : (x == ("__debug__" : Str)) = false := by decide) : ME G E X (.Name x pos) (tC (.str z)) (mK (.str n)) :=
  ⟨pe_glob hg hm ⟨_, rfl⟩ hd, ⟨fun _ _ _ _ _ _ hR _ p => p.here hR (.str hx)⟩⟩

/-! ### composition -/
theorem Rf.b2 {r2 : R2} {f : Val → Val → Heap → Res Val} (h1 : Rf G E ta ma) (h2 : Rf G E tb mb) (hf : Rf2 G E r2 f) : Rf G E (tOp r2 ta tb) (mB f ma mb) := by
  refine ⟨fun r H h s σ Q hR sR p => ?_⟩
  refine h1.run r H h s σ _ hR sR (p.seq fun x h1' r1 H1 v s1 hR1 v1 p1 => ?_)
  refine h2.run r1 H1 h1' s σ _ hR1 (sR.mono s1) (p1.seq fun y h2' r2 H2 u s2 hR2 v2 p2 => ?_)
  exact hf.run r2 H2 h2' x y v u Q hR2 (v1.mono s2) v2 p2
theorem Rf.u1 {t : V → Hp → VK → Prop} {f : Val → Heap → Res Val} (h1 : Rf G E ta ma) (hf : Rf1 G E t f) : Rf G E (tUn t ta) (mU f ma) := by
  refine ⟨fun r H h s σ Q hR sR p => ?_⟩
  exact h1.run r H h s σ _ hR sR (p.seq fun x h1' r1 H1 v s1 hR1 v1 p1 => hf.run r1 H1 h1' x v Q hR1 v1 p1)
theorem Rf2.orL {t t' : R2} {f : Val → Val → Heap → Res Val} (h : Rf2 G E t f) : Rf2 G E (fun x y H Q => t x y H Q ∨ t' x y H Q) f := ⟨fun r H h' x y v u Q a b c p => .inl (h.run r H h' x y v u Q a b c p)⟩
theorem ma_nil : MA G E X [] tNil mNil := ⟨pa_nil, ⟨fun _ _ _ _ _ _ hR _ p => p.here hR .nil⟩⟩
theorem ma_cons {es : List Expr} {tr : TA} {mr : En → Heap → Res (List Val)} (ha : ME G E X e ta ma) (hr : MA G E X es tr mr) (hs : starEach (e :: es) X.env = (false, eval e X.env) :: starEach es X.env := by rfl) : MA G E X (e :: es) (tCons ta tr) (mCons ma mr) := by
  refine ⟨pa_cons ha.pe hr.pe hs, ⟨fun r H h s σ Q hR sR p => ?_⟩⟩
  refine ha.rf.run r H h s σ _ hR sR (p.seq fun x h1' r1 H1 v s1 hR1 v1 p1 => ?_)
  refine hr.rf.run r1 H1 h1' s σ _ hR1 (sR.mono s1) (p1.seq fun xs h2' r2 H2 vs s2 hR2 v2 p2 => ?_)
  exact p2.here hR2 (.cons (v1.mono s2) v2)
theorem RfA.l {t : List V → Hp → VK → Prop} {f : List Val → Heap → Res Val} {tA : TA} {mA : En → Heap → Res (List Val)} (h1 : RfA G E tA mA) (hf : RfL G E t f) : Rf G E (fun σ H Q => tA σ H fun vs H1 => t vs H1 Q) (mL f mA) := by
  refine ⟨fun r H h s σ Q hR sR p => ?_⟩
  exact h1.run r H h s σ _ hR sR (p.seq fun x h1' r1 H1 v s1 hR1 v1 p1 => hf.run r1 H1 h1' x v Q hR1 v1 p1)
end
end PyM

set_option Elab.async false
set_option linter.all false
set_option maxRecDepth 100000
set_option autoImplicit false
namespace PyM
open PySem L2

/-! ### data, for == -/
inductive D where
  | non | bl (b : Bool) | int (i : Int) | str (n : Nat) | tup (xs : List D) | lst (xs : List D)
mutual
def deq : D → D → Bool
  | .non, .non => true
  | .bl a, .bl b => a == b
  | .bl a, .int j => (if a then 1 else 0) == j
  | .int i, .bl b => i == (if b then 1 else 0)
  | .int i, .int j => i == j
  | .str x, .str y => x == y
  | .tup xs, .tup ys => deqs xs ys
  | .lst xs, .lst ys => deqs xs ys
  | _, _ => false
def deqs : List D → List D → Bool
  | [], [] => true
  | x :: xs, y :: ys => deq x y && deqs xs ys
  | _, _ => false
end
def optAll {α β : Type} (f : α → Option β) : List α → Option (List β)
  | [] => some []
  | x :: xs => match f x, optAll f xs with
    | some d, some ds => some (d :: ds)
    | _, _ => none
def conv : Nat → Heap → Val → Option D
  | 0, _, _ => none
  | n + 1, h, v => match v with
    | .non => some .non
    | .bl b => some (.bl b)
    | .int i => some (.int i)
    | .str x => some (.str x)
    | .tup xs => (optAll (conv n h) xs).map .tup
    | .ref a => match h[a]? with
      | some (.lst xs) => (optAll (conv n h) xs).map .lst
      | some (.fls xs) => (optAll (conv n h) xs).map .lst
      | _ => none
mutual
def D.py (G : Cfg) : D → PyData
  | .non => .none
  | .bl b => .bool b
  | .int i => .int i
  | .str n => .str (G.sts.getD n ⟨#[]⟩)
  | .tup xs => .tuple (D.pys G xs)
  | .lst xs => .list (D.pys G xs)
def D.pys (G : Cfg) : List D → List PyData
  | [] => []
  | x :: xs => D.py G x :: D.pys G xs
end
mutual
def D.wf (m n : Nat) : D → Bool
  | .str i => decide (i < m)
  | .tup xs => match n with
    | 0 => false
    | n + 1 => D.wfs m n xs
  | .lst xs => match n with
    | 0 => false
    | n + 1 => D.wfs m n xs
  | _ => true
def D.wfs (m n : Nat) : List D → Bool
  | [] => true
  | x :: xs => D.wf m n x && D.wfs m n xs
end
section
variable {G : Cfg}
theorem getD_at {α : Type} {l : List α} {i : Nat} {d : α} (h : i < l.length) : l.getD i d = l[i] := by simp [List.getD, h]
theorem getD_inj (ok : G.Ok) {i j : Nat} (hi : i < G.sts.length) (hj : j < G.sts.length) : (G.sts.getD i ⟨#[]⟩ == G.sts.getD j ⟨#[]⟩) = (i == j) := by
  rw [getD_at hi, getD_at hj]
  by_cases e : i = j
  · subst e
    simp
  · have : G.sts[i] ≠ G.sts[j] := fun q => e ((List.getElem_inj ok.nd).mp q)
    rw [beq_eq_false_iff_ne.mpr this, beq_eq_false_iff_ne.mpr e]
mutual
theorem eqv_py (ok : G.Ok) : ∀ (d e : D) (n m : Nat), d.wf G.sts.length n = true → e.wf G.sts.length m = true → PyData.eqv (d.py G) (e.py G) = deq d e
  | .non, e, n, m, h1, h2 => by cases e <;> simp [D.py, PyData.eqv, deq]
  | .bl a, e, n, m, h1, h2 => by cases e <;> simp [D.py, PyData.eqv, deq]
  | .int a, e, n, m, h1, h2 => by cases e <;> simp [D.py, PyData.eqv, deq]
  | .str a, e, n, m, h1, h2 => by
    cases e with
    | str b =>
      simp only [D.wf, decide_eq_true_eq] at h1 h2
      simp only [D.py, PyData.eqv, deq]
      exact getD_inj ok h1 h2
    | _ => simp [D.py, PyData.eqv, deq]
  | .tup xs, e, n, m, h1, h2 => by
    cases e with
    | tup ys =>
      cases n with
      | zero => simp [D.wf] at h1
      | succ n =>
        cases m with
        | zero => simp [D.wf] at h2
        | succ m =>
          simp only [D.py, PyData.eqv, deq]
          exact eqv_pys ok xs ys n m (by simpa [D.wf] using h1) (by simpa [D.wf] using h2)
    | _ => simp [D.py, PyData.eqv, deq]
  | .lst xs, e, n, m, h1, h2 => by
    cases e with
    | lst ys =>
      cases n with
      | zero => simp [D.wf] at h1
      | succ n =>
        cases m with
        | zero => simp [D.wf] at h2
        | succ m =>
          simp only [D.py, PyData.eqv, deq]
          exact eqv_pys ok xs ys n m (by simpa [D.wf] using h1) (by simpa [D.wf] using h2)
    | _ => simp [D.py, PyData.eqv, deq]
theorem eqv_pys (ok : G.Ok) : ∀ (d e : List D) (n m : Nat), D.wfs G.sts.length n d = true → D.wfs G.sts.length m e = true → PyData.eqvAll (D.pys G d) (D.pys G e) = deqs d e
  | [], [], _, _, _, _ => by simp [D.pys, PyData.eqvAll, deqs]
  | [], _ :: _, _, _, _, _ => by simp [D.pys, PyData.eqvAll, deqs]
  | _ :: _, [], _, _, _, _ => by simp [D.pys, PyData.eqvAll, deqs]
  | x :: xs, y :: ys, n, m, h1, h2 => by
    simp only [D.wfs, Bool.and_eq_true] at h1 h2
    simp only [D.pys, PyData.eqvAll, deqs]
    rw [eqv_py ok x y n m h1.1 h2.1, eqv_pys ok xs ys n m h1.2 h2.2]
end
mutual
theorem lay_py (ok : G.Ok) : ∀ (d : D) (n : Nat), d.wf G.sts.length n = true → (d.py G).canLay0 = true ∧ (d.py G).depth ≤ n
  | .non, n, _ => by simp [D.py, PyData.canLay0, PyData.depth]
  | .bl _, n, _ => by simp [D.py, PyData.canLay0, PyData.depth]
  | .int _, n, _ => by simp [D.py, PyData.canLay0, PyData.depth]
  | .str i, n, h => by
    simp only [D.wf, decide_eq_true_eq] at h
    simp only [D.py, PyData.canLay0, PyData.depth]
    refine ⟨?_, Nat.zero_le _⟩
    rw [getD_at h]
    exact ok.ok _ (List.getElem_mem _)
  | .tup xs, 0, h => by simp [D.wf] at h
  | .lst xs, 0, h => by simp [D.wf] at h
  | .tup xs, n + 1, h => by
    have := lay_pys ok xs n (by simpa [D.wf] using h)
    simp only [D.py, PyData.canLay0, PyData.depth]
    exact ⟨this.1, by omega⟩
  | .lst xs, n + 1, h => by
    have := lay_pys ok xs n (by simpa [D.wf] using h)
    simp only [D.py, PyData.canLay0, PyData.depth]
    exact ⟨this.1, by omega⟩
theorem lay_pys (ok : G.Ok) : ∀ (d : List D) (n : Nat), D.wfs G.sts.length n d = true → PyData.canLayAll0 (D.pys G d) = true ∧ PyData.depthAll (D.pys G d) ≤ n
  | [], n, _ => by simp [D.pys, PyData.canLayAll0, PyData.depthAll]
  | x :: xs, n, h => by
    simp only [D.wfs, Bool.and_eq_true] at h
    have h1 := lay_py ok x n h.1
    have h2 := lay_pys ok xs n h.2
    simp only [D.pys, PyData.canLayAll0, PyData.depthAll, Bool.and_eq_true]
    exact ⟨⟨h1.1, h2.1⟩, by omega⟩
end
theorem shaped_py (ok : G.Ok) {d : D} {n : Nat} (h : d.wf G.sts.length n = true) (hn : n ≤ 64) : SeqAt.shaped (d.py G) = true := by
  have := lay_py ok d n h
  simp only [SeqAt.shaped, Bool.and_eq_true, decide_eq_true_eq]
  exact ⟨this.1, by omega⟩
variable {r : List Addr} {H : Hp} {h : Heap}
theorem optAll_dp {n : Nat} (ih : ∀ x v d, VR G r H x v → conv n h x = some d → Dp G.K H v (d.py G) ∧ d.wf G.sts.length n = true) :
    ∀ (xs : List Val) (vs : List V) (ds : List D), VRs G r H xs vs → optAll (conv n h) xs = some ds → DpAll G.K H vs (D.pys G ds) ∧ D.wfs G.sts.length n ds = true
  | [], _, ds, .nil, e => by
    simp only [optAll, Option.some.injEq] at e
    subst e
    exact ⟨.nil, rfl⟩
  | x :: xs, _, ds, .cons a b, e => by
    simp only [optAll] at e
    split at e
    · rename_i d ds' e1 e2
      cases e
      obtain ⟨h1, h2⟩ := ih _ _ _ a e1
      obtain ⟨h3, h4⟩ := optAll_dp ih xs _ _ b e2
      refine ⟨by rw [D.pys]; exact .cons h1 h3, by simp [D.wfs, h2, h4]⟩
    · cases e
theorem conv_dp (R : HR G r H h) : ∀ (n : Nat) (x : Val) (v : V) (d : D), VR G r H x v → conv n h x = some d → Dp G.K H v (d.py G) ∧ d.wf G.sts.length n = true
  | 0, x, v, d, _, e => by simp [conv] at e
  | n + 1, x, v, d, q, e => by
    have ih := fun x v d => conv_dp R n x v d
    cases q with
    | non => simp only [conv, Option.some.injEq] at e; subst e; exact ⟨by rw [D.py]; exact .non, by simp [D.wf]⟩
    | bl b => simp only [conv, Option.some.injEq] at e; subst e; exact ⟨by rw [D.py]; exact .bl _, by simp [D.wf]⟩
    | int i => simp only [conv, Option.some.injEq] at e; subst e; exact ⟨by rw [D.py]; exact .int _, by simp [D.wf]⟩
    | @str n' z hz =>
      simp only [conv, Option.some.injEq] at e
      subst e
      have hl := (List.getElem?_eq_some_iff.mp hz)
      refine ⟨?_, by simp [D.wf, hl.1]⟩
      rw [D.py, getD_at hl.1, hl.2]
      exact .str _
    | tup hs hv =>
      simp only [conv] at e
      obtain ⟨ds, e1, rfl⟩ := Option.map_eq_some_iff.mp e
      obtain ⟨h1, h2⟩ := optAll_dp ih _ _ _ hv e1
      exact ⟨by rw [D.py]; exact .tup hs h1, by simpa [D.wf] using h2⟩
    | @ref m a ha =>
      simp only [conv] at e
      split at e
      · rename_i xs eo
        obtain ⟨ds, e1, rfl⟩ := Option.map_eq_some_iff.mp e
        cases R.ob _ _ _ eo ha with
        | lst hl hv =>
          obtain ⟨h1, h2⟩ := optAll_dp ih _ _ _ hv e1
          exact ⟨by rw [D.py]; exact .lst (SqL.of hl) h1, by simpa [D.wf] using h2⟩
      · rename_i xs eo
        obtain ⟨ds, e1, rfl⟩ := Option.map_eq_some_iff.mp e
        cases R.ob _ _ _ eo ha with
        | fls hl hv =>
          obtain ⟨h1, h2⟩ := optAll_dp ih _ _ _ hv e1
          exact ⟨by rw [D.py]; exact .lst hl.sq h1, by simpa [D.wf] using h2⟩
      · cases e
end

/-! ### operators by values -/
def oI (g : Int → Int → Val) (x y : Val) (h : Heap) : Res Val := match x, y with
  | .int i, .int j => .ok (g i j) h
  | _, _ => .stuck
def oIC (c : Int → Int → Bool) (g : Int → Int → Val) (x y : Val) (h : Heap) : Res Val := match x, y with
  | .int i, .int j => if c i j = true then .ok (g i j) h else .stuck
  | _, _ => .stuck
def oNeg (x : Val) (h : Heap) : Res Val := match x with
  | .int i => .ok (.int (-i)) h
  | _ => .stuck
def oAdd (x y : Val) (h : Heap) : Res Val := match x, y with
  | .int i, .int j => .ok (.int (i + j)) h
  | .tup xs, .tup ys => if xs.length + ys.length ≤ lim then .ok (.tup (xs ++ ys)) h else .stuck
  | .ref a, .ref b => match h[a]?, h[b]? with
    | some (.lst xs), some (.lst ys) => if xs.length + ys.length ≤ lim then .ok (.ref h.length) (h ++ [.lst (xs ++ ys)]) else .stuck
    | _, _ => .stuck
  | _, _ => .stuck
def repV {α : Type} (n : Nat) (xs : List α) : List α := (List.replicate n xs).flatten
def oMul (x y : Val) (h : Heap) : Res Val := match x, y with
  | .int i, .int j => if -(2 ^ 64) < j ∧ j < 2 ^ 64 ∨ -(2 ^ 64) < i ∧ i < 2 ^ 64 then .ok (.int (i * j)) h else .stuck
  | .tup xs, .int k => if xs.length ≠ 0 ∧ 2 ≤ k ∧ k ≤ 1000 ∧ xs.length ≤ 1000 then .ok (.tup (repV k.toNat xs)) h else .stuck
  | .ref a, .int k => match h[a]? with
    | some (.lst xs) => if k ≤ 100000 ∧ -100000 ≤ k ∧ xs.length * k.toNat ≤ lim then .ok (.ref h.length) (h ++ [.lst (repV k.toNat xs)]) else .stuck
    | _ => .stuck
  | _, _ => .stuck
def oEq (neg : Bool) (x y : Val) (h : Heap) : Res Val := match conv 60 h x, conv 60 h y with
  | some d, some e => .ok (.bl (if neg then !deq d e else deq d e)) h
  | _, _ => .stuck
def oIsN (neg : Bool) (x : Val) (h : Heap) : Res Val := .ok (.bl (match x with
  | .non => !neg
  | _ => neg)) h
section
variable {G : Cfg} {E : XK}
theorem rf_I0 {g : Int → Int → Int} : Rf2 G E (rI0 fun i j => .int (g i j)) (oI fun i j => .int (g i j)) := by
  refine ⟨fun r H h x y v u Q hR a b p => ?_⟩
  cases a with
  | int i => cases b with
    | int j => exact ⟨i, j, rfl, rfl, p.here hR (.int _)⟩
    | _ => exact False.elim p
  | _ => exact False.elim p
theorem rf_B0 {g : Int → Int → Bool} : Rf2 G E (rI0 fun i j => .bl (g i j)) (oI fun i j => .bl (g i j)) := by
  refine ⟨fun r H h x y v u Q hR a b p => ?_⟩
  cases a with
  | int i => cases b with
    | int j => exact ⟨i, j, rfl, rfl, p.here hR (.bl _)⟩
    | _ => exact False.elim p
  | _ => exact False.elim p
theorem rf_IC {C : Int → Int → Prop} {c : Int → Int → Bool} (hc : ∀ i j, c i j = true → C i j) {g : Int → Int → Int} : Rf2 G E (rI C fun i j => .int (g i j)) (oIC c fun i j => .int (g i j)) := by
  refine ⟨fun r H h x y v u Q hR a b p => ?_⟩
  cases a with
  | int i => cases b with
    | int j =>
      simp only [oIC] at p
      split at p
      · rename_i e
        exact ⟨i, j, rfl, rfl, hc _ _ e, p.here hR (.int _)⟩
      · exact p.elim
    | _ => exact False.elim p
  | _ => exact False.elim p
def rAdd (K : PySem.W.Frag) : R2 := fun x y H Q => rI0 (fun i j => .int (i + j)) x y H Q ∨ rCatA K x y H Q ∨ rCat x y H Q
theorem op_addM {X : Cx} : OpR X (binaryOp .Add) (rAdd X.K) := op_add.or (op_catA.or op_cat)
theorem rf_add : Rf2 G E (rAdd G.K) oAdd := by
  refine ⟨fun r H h x y v u Q hR a b p => ?_⟩
  cases a with
  | int i => cases b with
    | int j => exact .inl ⟨i, j, rfl, rfl, p.here hR (.int _)⟩
    | _ => exact False.elim p
  | tup ha va => cases b with
    | tup hb vb =>
      simp only [oAdd] at p
      split at p
      · rename_i hl
        have e1 := va.len
        have e2 := vb.len
        refine .inr (.inl ⟨_, _, _, _, rfl, rfl, ha, hb, le_line (by omega), fun e => ?_, fun _ e => ?_, fun _ _ q hq => ?_⟩)
        · subst e
          cases va
          exact p.here hR (.tup hb vb)
        · subst e
          cases vb
          exact p.here hR (.tup ha (by simpa using va))
        · refine p r _ _ (Stp.new0 hq) (hR.lay hq) (.tup (SqT.of upd_same) ?_)
          exact (va.app vb).mono (Stp.new0 hq)
      · exact p.elim
    | _ => exact False.elim p
  | @ref n a' ea => cases b with
    | @ref m b' eb =>
      simp only [oAdd] at p
      split at p
      · rename_i xs ys h1 h2
        split at p
        · rename_i hl
          cases hR.ob _ _ _ h1 ea with
          | lst ha va => cases hR.ob _ _ _ h2 eb with
            | lst hb vb =>
              have e1 := va.len
              have e2 := vb.len
              refine .inr (.inr ⟨_, _, _, _, rfl, rfl, ha, hb, le_line (by omega), fun q hq => ?_⟩)
              refine p (r ++ [q]) _ _ (Stp.new hq) (hR.push hq (.lst upd_same ((va.app vb).mono (Stp.new hq)))) (.ref ?_)
              rw [← hR.len]
              simp
        · exact p.elim
      · exact p.elim
    | _ => exact False.elim p
  | _ => exact False.elim p
theorem VRs.rep {r : List Addr} {H : Hp} {xs : List Val} {vs : List V} (a : VRs G r H xs vs) : ∀ n : Nat, VRs G r H (repV n xs) ((List.replicate n vs).flatten)
  | 0 => .nil
  | n + 1 => by
    unfold repV
    rw [List.replicate_succ, List.replicate_succ, List.flatten_cons, List.flatten_cons]
    exact a.app (VRs.rep a n)
def rMulA (K : PySem.W.Frag) : R2 := fun x y H Q => rI CMul (fun i j => .int (i * j)) x y H Q ∨ rRep x y H Q ∨ rRepT K x y H Q
theorem op_mulA {X : Cx} : OpR X (binaryOp .Mult) (rMulA X.K) := op_mul.or (op_rep.or op_repT)
theorem rf_mul : Rf2 G E (rMulA G.K) oMul := by
  refine ⟨fun r H h x y v u Q hR a b p => ?_⟩
  cases a with
  | int i => cases b with
    | int j =>
      simp only [oMul] at p
      split at p
      · rename_i e
        exact .inl ⟨i, j, rfl, rfl, e.symm, p.here hR (.int _)⟩
      · exact p.elim
    | _ => exact False.elim p
  | tup ha va => cases b with
    | int k =>
      simp only [oMul] at p
      split at p
      · rename_i e
        have e1 := va.len
        refine .inr (.inr ⟨_, k, _, rfl, rfl, ha, fun z => ?_, e.2.1, e.2.2.1, by rw [← e1]; exact e.2.2.2, fun q hq => ?_⟩)
        · subst z
          exact e.1 e1
        · exact p r _ _ (Stp.new0 hq) (hR.lay hq) (.tup (SqT.of upd_same) ((va.rep _).mono (Stp.new0 hq)))
      · exact p.elim
    | _ => exact False.elim p
  | @ref n a' ea => cases b with
    | int k =>
      simp only [oMul] at p
      split at p
      · rename_i xs h1
        split at p
        · rename_i hl
          cases hR.ob _ _ _ h1 ea with
          | lst ha va =>
            have e1 := va.len
            refine .inr (.inl ⟨_, k, _, rfl, rfl, ha, by omega, by omega, le_line (by rw [← e1]; exact hl.2.2), fun q hq => ?_⟩)
            refine p (r ++ [q]) _ _ (Stp.new hq) (hR.push hq (.lst upd_same ((va.rep _).mono (Stp.new hq)))) (.ref ?_)
            rw [← hR.len]
            simp
        · exact p.elim
      · exact p.elim
    | _ => exact False.elim p
  | _ => exact False.elim p
theorem rf_eq (ok : G.Ok) : Rf2 G E (rEqD G.K) (oEq false) := by
  refine ⟨fun r H h x y v u Q hR a b p => ?_⟩
  simp only [oEq] at p
  split at p
  · rename_i d e h1 h2
    obtain ⟨d1, w1⟩ := conv_dp hR _ _ _ _ a h1
    obtain ⟨d2, w2⟩ := conv_dp hR _ _ _ _ b h2
    refine ⟨_, _, d1, d2, shaped_py ok w1 (by decide), shaped_py ok w2 (by decide), ?_⟩
    rw [eqv_py ok d e _ _ w1 w2]
    exact p.here hR (.bl _)
  · exact p.elim
theorem rf_ne (ok : G.Ok) : Rf2 G E (rNeD G.K) (oEq true) := by
  refine ⟨fun r H h x y v u Q hR a b p => ?_⟩
  simp only [oEq] at p
  split at p
  · rename_i d e h1 h2
    obtain ⟨d1, w1⟩ := conv_dp hR _ _ _ _ a h1
    obtain ⟨d2, w2⟩ := conv_dp hR _ _ _ _ b h2
    refine ⟨_, _, d1, d2, shaped_py ok w1 (by decide), shaped_py ok w2 (by decide), ?_⟩
    rw [eqv_py ok d e _ _ w1 w2]
    exact p.here hR (.bl _)
  · exact p.elim
end
end PyM

set_option Elab.async false
set_option linter.all false
set_option maxRecDepth 100000
set_option autoImplicit false
namespace PyM
open PySem L2

mutual
def Val.dec : (a b : Val) → Decidable (a = b)
  | .non, b => match b with
    | .non => Decidable.isTrue rfl
    | .bl _ | .int _ | .str _ | .tup _ | .ref _ => Decidable.isFalse (fun h => by cases h)
  | .bl x, b => match b with
    | .bl y => if h : x = y then Decidable.isTrue (by rw [h]) else Decidable.isFalse (fun e => by cases e; exact h rfl)
    | .non | .int _ | .str _ | .tup _ | .ref _ => Decidable.isFalse (fun h => by cases h)
  | .int x, b => match b with
    | .int y => if h : x = y then Decidable.isTrue (by rw [h]) else Decidable.isFalse (fun e => by cases e; exact h rfl)
    | .non | .bl _ | .str _ | .tup _ | .ref _ => Decidable.isFalse (fun h => by cases h)
  | .str x, b => match b with
    | .str y => if h : x = y then Decidable.isTrue (by rw [h]) else Decidable.isFalse (fun e => by cases e; exact h rfl)
    | .non | .bl _ | .int _ | .tup _ | .ref _ => Decidable.isFalse (fun h => by cases h)
  | .ref x, b => match b with
    | .ref y => if h : x = y then Decidable.isTrue (by rw [h]) else Decidable.isFalse (fun e => by cases e; exact h rfl)
    | .non | .bl _ | .int _ | .tup _ | .str _ => Decidable.isFalse (fun h => by cases h)
  | .tup xs, b => match b with
    | .tup ys => match Val.decs xs ys with
      | Decidable.isTrue h => Decidable.isTrue (by rw [h])
      | Decidable.isFalse h => Decidable.isFalse (fun e => by cases e; exact h rfl)
    | .non | .bl _ | .int _ | .ref _ | .str _ => Decidable.isFalse (fun h => by cases h)
def Val.decs : (a b : List Val) → Decidable (a = b)
  | [], [] => Decidable.isTrue rfl
  | [], _ :: _ => Decidable.isFalse (fun h => by cases h)
  | _ :: _, [] => Decidable.isFalse (fun h => by cases h)
  | x :: xs, y :: ys => match Val.dec x y, Val.decs xs ys with
    | Decidable.isTrue h, Decidable.isTrue k => Decidable.isTrue (by rw [h, k])
    | Decidable.isFalse h, _ => Decidable.isFalse (fun e => by cases e; exact h rfl)
    | _, Decidable.isFalse k => Decidable.isFalse (fun e => by cases e; exact k rfl)
end
instance : DecidableEq Val := Val.dec

/-! ### dicts with keys that are ints or texts -/
def lookV (d : List (Val × Val)) (k : Val) : Option Val := (d.find? fun kv => decide (kv.1 = k)).map (·.2)
def putV (d : List (Val × Val)) (k v : Val) : List (Val × Val) := if (d.any fun kv => decide (kv.1 = k)) = true then d.map (fun kv => if kv.1 = k then (kv.1, v) else kv) else d ++ [(k, v)]
def dropV (d : List (Val × Val)) (k : Val) : List (Val × Val) := d.filter fun kv => decide (kv.1 ≠ k)
def isKey : Val → Bool
  | .int _ => true
  | .str _ => true
  | _ => false
section
variable {G : Cfg} {r : List Addr} {H : Hp} {h : Heap}
theorem sts_inj (ok : G.Ok) {i j : Nat} {x : Str} (hi : G.sts[i]? = some x) (hj : G.sts[j]? = some x) : i = j := by
  obtain ⟨h1, e1⟩ := List.getElem?_eq_some_iff.mp hi
  obtain ⟨h2, e2⟩ := List.getElem?_eq_some_iff.mp hj
  exact (List.getElem_inj ok.nd).mp (e1.trans e2.symm)
theorem KR.eq (ok : G.Ok) {k k' : Val} {q q' : Key} (a : KR G k q) (b : KR G k' q') : decide (k = k') = decide (q = q') := by
  cases a with
  | int i => cases b with
    | int j => by_cases e : i = j <;> simp [e]
    | str _ => simp
  | str hi => cases b with
    | int j => simp
    | @str m y hj =>
      rename_i n x
      by_cases e : n = m
      · subst e
        rw [hi] at hj
        cases hj
        simp
      · have : x ≠ y := fun z => e (by subst z; exact sts_inj ok hi hj)
        simp [e, this]
theorem KR.of {x : Val} {v : V} (a : VR G r H x v) (hk : isKey x = true) : ∃ q, KR G x q ∧ v = kV q := by
  cases a with
  | int i => exact ⟨_, .int i, rfl⟩
  | str e => exact ⟨_, .str e, rfl⟩
  | _ => simp [isKey] at hk
theorem KR.vr {x : Val} {q : Key} (a : KR G x q) : VR G r H x (kV q) := by
  cases a with
  | int i => exact .int i
  | str e => exact .str e
theorem DR.len {d e} (a : DR G r H d e) : d.length = e.length := by
  induction a with
  | nil => rfl
  | cons _ _ _ ih => simp [ih]
/-- what a key finds -/
theorem DR.look (ok : G.Ok) {d e} (a : DR G r H d e) {k : Val} {q : Key} (b : KR G k q) : (lookV d k = none ∧ valV e q = none) ∨ ∃ x v, lookV d k = some x ∧ valV e q = some v ∧ VR G r H x v := by
  induction a with
  | nil => exact .inl ⟨rfl, rfl⟩
  | @cons k' x q' v d e hk hv _ ih =>
    have e1 := KR.eq ok hk b
    by_cases hh : k' = k
    · have : q' = q := by simpa [hh] using e1
      exact .inr ⟨x, v, by simp [lookV, hh], by simp [valV, this], hv⟩
    · have : ¬ q' = q := by simpa [hh] using e1
      simpa [lookV, valV, List.find?_cons, hh, this] using ih
theorem DR.any (ok : G.Ok) {d e} (a : DR G r H d e) {k : Val} {q : Key} (b : KR G k q) : (d.any fun kv => decide (kv.1 = k)) = (e.any fun kv => decide (kv.1 = q)) := by
  induction a with
  | nil => rfl
  | cons hk _ _ ih => rw [List.any_cons, List.any_cons, ih, KR.eq ok hk b]
theorem DR.app {d e d' e'} (a : DR G r H d e) (b : DR G r H d' e') : DR G r H (d ++ d') (e ++ e') := by
  induction a with
  | nil => exact b
  | cons hk hv _ ih => exact .cons hk hv ih
theorem DR.upd (ok : G.Ok) {d e} (a : DR G r H d e) {k x : Val} {q : Key} {v : V} (b : KR G k q) (c : VR G r H x v) : DR G r H (d.map (fun kv => if kv.1 = k then (kv.1, x) else kv)) (e.map (fun kv => if kv.1 = q then (kv.1, v) else kv)) := by
  induction a with
  | nil => exact .nil
  | @cons k' x' q' v' d e hk hv _ ih =>
    have e1 := KR.eq ok hk b
    rw [List.map_cons, List.map_cons]
    by_cases hh : k' = k
    · have h2 : q' = q := by simpa [hh] using e1
      rw [if_pos hh, if_pos h2]
      exact .cons hk c ih
    · have h2 : ¬ q' = q := by simpa [hh] using e1
      rw [if_neg hh, if_neg h2]
      exact .cons hk hv ih
theorem DR.put (ok : G.Ok) {d e} (a : DR G r H d e) {k x : Val} {q : Key} {v : V} (b : KR G k q) (c : VR G r H x v) : DR G r H (putV d k x) (putK e q v) := by
  unfold putV putK
  rw [a.any ok b]
  by_cases hh : (e.any fun kv => decide (kv.1 = q)) = true
  · rw [if_pos hh, if_pos hh]
    exact a.upd ok b c
  · rw [if_neg hh, if_neg hh]
    exact a.app (.cons b c .nil)
theorem DR.drop (ok : G.Ok) {d e} (a : DR G r H d e) {k : Val} {q : Key} (b : KR G k q) : DR G r H (dropV d k) (dropK e q) := by
  unfold dropV dropK
  induction a with
  | nil => exact .nil
  | @cons k' x' q' v' d e hk hv _ ih =>
    have e1 := KR.eq ok hk b
    by_cases hh : k' = k
    · have h2 : q' = q := by simpa [hh] using e1
      rw [List.filter_cons_of_neg (by simp [hh]), List.filter_cons_of_neg (by simp [h2])]
      exact ih
    · have h2 : ¬ q' = q := by simpa [hh] using e1
      rw [List.filter_cons_of_pos (by simp [hh]), List.filter_cons_of_pos (by simp [h2])]
      exact .cons hk hv ih
end

/-! ### in -/
theorem DGet_kf {H : Hp} {a : Addr} {o : PySem.Obj} {kvs : List (Key × V)} {k : Key} (e : H a = some (.frz o (.dK kvs))) : DGet H a (kV k) (valV kvs k) := .inl ⟨kvs, k, .inr ⟨o, e⟩, rfl, rfl⟩
def rDIn : R2 := fun y x H Q => ∃ a o, x = .ref a ∧ DGet H a y o ∧ Q (.bl o.isSome) H
def rDNotIn : R2 := fun y x H Q => ∃ a o, x = .ref a ∧ DGet H a y o ∧ Q (.bl (!o.isSome)) H
theorem op_din {X : Cx} (hu : X.A.units + 1 < cLine) : OpR X (compareOp .In) rDIn := by
  intro pins s σ H x y v u Q I rx ry ⟨a, o, e, g, q⟩
  subst e
  obtain rfl : u = Value.ref a := ry
  exact d_in hu I g rx fun s3 I3 => ⟨.bl o.isSome, H, I3, rfl, q⟩
theorem op_dnotin {X : Cx} (hu : X.A.units + 1 < cLine) : OpR X (compareOp .NotIn) rDNotIn := by
  intro pins s σ H x y v u Q I rx ry ⟨a, o, e, g, q⟩
  subst e
  obtain rfl : u = Value.ref a := ry
  exact d_notIn hu I g rx fun s3 I3 => ⟨.bl (!o.isSome), H, I3, rfl, q⟩
def isFlat : Val → Bool
  | .non => true
  | .bl _ => true
  | .int _ => true
  | .str _ => true
  | _ => false
def feq : Val → Val → Bool
  | .non, .non => true
  | .bl a, .bl b => a == b
  | .bl a, .int j => (if a then 1 else 0) == j
  | .int i, .bl b => i == (if b then 1 else 0)
  | .int i, .int j => i == j
  | .str x, .str y => x == y
  | _, _ => false
def inSeq (x : Val) (h : Heap) (ys : List Val) : Option Bool := match conv 60 h x, optAll (conv 59 h) ys with
  | some d, some ds => some (ds.any fun z => deq z d)
  | _, _ => none
def oIn (neg : Bool) (x y : Val) (h : Heap) : Res Val := match y with
  | .tup ys => if isFlat x = true ∧ ys.all isFlat = true then .ok (.bl (if neg then !(ys.any fun z => feq z x) else ys.any fun z => feq z x)) h else .stuck
  | .ref a => match h[a]? with
    | some (.lst ys) => match inSeq x h ys with
      | some b => .ok (.bl (if neg then !b else b)) h
      | none => .stuck
    | some (.dct d) => if isKey x = true then .ok (.bl (if neg then !(lookV d x).isSome else (lookV d x).isSome)) h else .stuck
    | some (.fdc d) => if isKey x = true then .ok (.bl (if neg then !(lookV d x).isSome else (lookV d x).isSome)) h else .stuck
    | _ => .stuck
  | _ => .stuck
section
variable {G : Cfg} {E : XK} {r : List Addr} {H : Hp} {h : Heap}
theorem flat_of {x : Val} {v : V} (a : VR G r H x v) (f : isFlat x = true) : flatV v = true := by
  cases a <;> first | rfl | (simp [isFlat] at f)
theorem all_flat : ∀ {xs : List Val} {vs : List V}, VRs G r H xs vs → xs.all isFlat = true → vs.all flatV = true
  | _, _, .nil, _ => rfl
  | _, _, .cons a b, f => by
    rw [List.all_cons, Bool.and_eq_true] at f ⊢
    exact ⟨flat_of a f.1, all_flat b f.2⟩
theorem feq_of (ok : G.Ok) {x y : Val} {v u : V} (a : VR G r H x v) (b : VR G r H y u) (f : isFlat x = true) : feq x y = eqV v u := by
  cases a with
  | str hi => cases b with
    | str hj =>
      rename_i n z n' z'
      show (n == n') = (z == z')
      by_cases e : n = n'
      · subst e
        rw [hi] at hj
        cases hj
        simp
      · have : z ≠ z' := fun q => e (by subst q; exact sts_inj ok hi hj)
        rw [beq_eq_false_iff_ne.mpr e, beq_eq_false_iff_ne.mpr this]
    | _ => rfl
  | tup _ _ => simp [isFlat] at f
  | ref _ => simp [isFlat] at f
  | _ => cases b <;> rfl
theorem any_feq (ok : G.Ok) {y : Val} {u : V} (b : VR G r H y u) : ∀ {xs : List Val} {vs : List V}, VRs G r H xs vs → xs.all isFlat = true → (xs.any fun z => feq z y) = inV u vs
  | _, _, .nil, _ => rfl
  | _, _, .cons a c, f => by
    rw [List.all_cons, Bool.and_eq_true] at f
    unfold inV
    rw [List.any_cons, List.any_cons, feq_of ok a b f.1, any_feq ok b c f.2]
    rfl
theorem any_py (ok : G.Ok) {d : D} {n m : Nat} (hd : d.wf G.sts.length n = true) : ∀ (ds : List D), D.wfs G.sts.length m ds = true → ((D.pys G ds).any fun z => PyData.eqv z (d.py G)) = ds.any fun z => deq z d
  | [], _ => by simp [D.pys]
  | x :: xs, f => by
    simp only [D.wfs, Bool.and_eq_true] at f
    rw [D.pys, List.any_cons, List.any_cons, eqv_py ok x d _ _ f.1 hd, any_py ok hd xs f.2]
/-- in, not in -/
def rInA (K : PySem.W.Frag) : R2 := fun x y H Q => rIn K false x y H Q ∨ rInD K x y H Q ∨ rDIn x y H Q
def rNotInA (K : PySem.W.Frag) : R2 := fun x y H Q => rIn K true x y H Q ∨ rNotInD K x y H Q ∨ rDNotIn x y H Q
theorem op_inA {X : Cx} (hu : X.A.units + 65 < cLine) : OpR X (compareOp .In) (rInA X.K) := op_in_seq.or ((op_inD hu).or (op_din (by omega)))
theorem op_notInA {X : Cx} (hu : X.A.units + 65 < cLine) : OpR X (compareOp .NotIn) (rNotInA X.K) := op_notIn_seq.or ((op_notInD hu).or (op_dnotin (by omega)))
theorem inSeq_of (ok : G.Ok) (hR : HR G r H h) {x : Val} {v : V} {ys : List Val} {us : List V} {b : Bool} {a : Addr} (hx : VR G r H x v) (hs : SqL G.K H a us) (hy : VRs G r H ys us) (e : inSeq x h ys = some b) :
    ∃ (d : PyData) (ds : List PyData), Dp G.K H v d ∧ Dp G.K H (.ref a) (.list ds) ∧ SeqAt.shaped d = true ∧ SeqAt.shaped (.list ds) = true ∧ (ds.any fun z => PyData.eqv z d) = b := by
  unfold inSeq at e
  split at e
  · rename_i d ds e1 e2
    cases e
    obtain ⟨d1, w1⟩ := conv_dp hR _ _ _ _ hx e1
    obtain ⟨d2, w2⟩ := optAll_dp (fun x v d => conv_dp hR 59 x v d) _ _ _ hy e2
    refine ⟨_, _, d1, .lst hs d2, shaped_py ok w1 (by decide), ?_, any_py ok w1 ds w2⟩
    have : (D.lst ds).wf G.sts.length 60 = true := by simpa [D.wf] using w2
    have := shaped_py ok this (by decide)
    simpa [D.py] using this
  · cases e
theorem rf_in (ok : G.Ok) : Rf2 G E (rInA G.K) (oIn false) := by
  refine ⟨fun r H h x y v u Q hR a b p => ?_⟩
  cases b with
  | tup hb vb =>
    simp only [oIn] at p
    split at p
    · rename_i f
      refine .inl ⟨_, _, rfl, .inr hb, flat_of a f.1, all_flat vb f.2, ?_⟩
      rw [if_neg (by decide), ← any_feq ok a vb f.2]
      exact p.here hR (.bl _)
    · exact p.elim
  | @ref n c ec =>
    simp only [oIn] at p
    split at p
    · rename_i ys ey
      cases hR.ob _ _ _ ey ec with
      | lst hl hv =>
        split at p
        · rename_i z ez
          obtain ⟨d, ds, q1, q2, q3, q4, q5⟩ := inSeq_of ok hR a (SqL.of hl) hv ez
          refine .inr (.inl ⟨d, ds, q1, q2, q3, q4, ?_⟩)
          rw [q5]
          exact p.here hR (.bl _)
        · exact p.elim
    · rename_i d ed
      cases hR.ob _ _ _ ed ec with
      | dct hd hv =>
        split at p
        · rename_i hk
          obtain ⟨q, kq, rfl⟩ := KR.of a hk
          refine .inr (.inr ⟨_, _, rfl, DGet.k hd, ?_⟩)
          have := p.here hR (.bl _)
          rcases hv.look ok kq with ⟨e1, e2⟩ | ⟨x', v', e1, e2, _⟩
          · rw [e2]
            rw [e1] at this
            exact this
          · rw [e2]
            rw [e1] at this
            exact this
        · exact p.elim
    · rename_i d ed
      cases hR.ob _ _ _ ed ec with
      | fdc hd hv =>
        split at p
        · rename_i hk
          obtain ⟨q, kq, rfl⟩ := KR.of a hk
          refine .inr (.inr ⟨_, _, rfl, DGet_kf hd, ?_⟩)
          have := p.here hR (.bl _)
          rcases hv.look ok kq with ⟨e1, e2⟩ | ⟨x', v', e1, e2, _⟩
          · rw [e2]
            rw [e1] at this
            exact this
          · rw [e2]
            rw [e1] at this
            exact this
        · exact p.elim
    · exact p.elim
  | _ => exact False.elim p
theorem rf_notin (ok : G.Ok) : Rf2 G E (rNotInA G.K) (oIn true) := by
  refine ⟨fun r H h x y v u Q hR a b p => ?_⟩
  cases b with
  | tup hb vb =>
    simp only [oIn] at p
    split at p
    · rename_i f
      refine .inl ⟨_, _, rfl, .inr hb, flat_of a f.1, all_flat vb f.2, ?_⟩
      rw [if_pos rfl, ← any_feq ok a vb f.2]
      exact p.here hR (.bl _)
    · exact p.elim
  | @ref n c ec =>
    simp only [oIn] at p
    split at p
    · rename_i ys ey
      cases hR.ob _ _ _ ey ec with
      | lst hl hv =>
        split at p
        · rename_i z ez
          obtain ⟨d, ds, q1, q2, q3, q4, q5⟩ := inSeq_of ok hR a (SqL.of hl) hv ez
          refine .inr (.inl ⟨d, ds, q1, q2, q3, q4, ?_⟩)
          rw [q5]
          exact p.here hR (.bl _)
        · exact p.elim
    · rename_i d ed
      cases hR.ob _ _ _ ed ec with
      | dct hd hv =>
        split at p
        · rename_i hk
          obtain ⟨q, kq, rfl⟩ := KR.of a hk
          refine .inr (.inr ⟨_, _, rfl, DGet.k hd, ?_⟩)
          have := p.here hR (.bl _)
          rcases hv.look ok kq with ⟨e1, e2⟩ | ⟨x', v', e1, e2, _⟩
          · rw [e2]
            rw [e1] at this
            exact this
          · rw [e2]
            rw [e1] at this
            exact this
        · exact p.elim
    · rename_i d ed
      cases hR.ob _ _ _ ed ec with
      | fdc hd hv =>
        split at p
        · rename_i hk
          obtain ⟨q, kq, rfl⟩ := KR.of a hk
          refine .inr (.inr ⟨_, _, rfl, DGet_kf hd, ?_⟩)
          have := p.here hR (.bl _)
          rcases hv.look ok kq with ⟨e1, e2⟩ | ⟨x', v', e1, e2, _⟩
          · rw [e2]
            rw [e1] at this
            exact this
          · rw [e2]
            rw [e1] at this
            exact this
        · exact p.elim
    · exact p.elim
  | _ => exact False.elim p
end
end PyM

set_option Elab.async false
set_option linter.all false
set_option maxRecDepth 100000
set_option autoImplicit false
namespace PyM
open PySem L2

theorem pc_of {X : Cx} {a b : Expr} {ta tb : TE} {op : CmpOp} {r : R2} (ho : OpR X (compareOp op) r) (ha : PE X a ta) (hb : PE X b tb) : PC X op a b (tOp r ta tb) :=
  ⟨fun pins s σ H Q I h => bin ha hb I h fun v u s2 x y H2 I2 rx ry q => ho pins s2 σ H2 x y v u Q I2 rx ry q⟩

/-- truth -/
def truth (x : Val) (h : Heap) : Option Bool := match x with
  | .non => some false
  | .bl b => some b
  | .int i => some (i != 0)
  | .tup xs => some (!xs.isEmpty)
  | .ref a => match h[a]? with
    | some (.lst xs) => some (!xs.isEmpty)
    | some (.fls xs) => some (!xs.isEmpty)
    | some (.dct d) => some (!d.isEmpty)
    | _ => none
  | .str _ => none
def tB_ (ma : En → Heap → Res Val) (s : En) (h : Heap) : Res Bool := (ma s h).bind fun x h1 => match x with
  | .bl b => .ok b h1
  | _ => .stuck
def tTr (ma : En → Heap → Res Val) (s : En) (h : Heap) : Res Bool := (ma s h).bind fun x h1 => match truth x h1 with
  | some b => .ok b h1
  | none => .stuck
def tNo (m : En → Heap → Res Bool) (s : En) (h : Heap) : Res Bool := (m s h).bind fun b h1 => .ok (!b) h1
def tAn (m n : En → Heap → Res Bool) (s : En) (h : Heap) : Res Bool := (m s h).bind fun b h1 => if b = true then n s h1 else .ok false h1
def tOr_ (m n : En → Heap → Res Bool) (s : En) (h : Heap) : Res Bool := (m s h).bind fun b h1 => if b = true then .ok true h1 else n s h1
def mAn (m n : En → Heap → Res Val) (s : En) (h : Heap) : Res Val := (m s h).bind fun x h1 => match x with
  | .bl b => if b = true then n s h1 else .ok (.bl false) h1
  | _ => .stuck
def mOr_ (m n : En → Heap → Res Val) (s : En) (h : Heap) : Res Val := (m s h).bind fun x h1 => match x with
  | .bl b => if b = true then .ok (.bl true) h1 else n s h1
  | _ => .stuck
def mNo (m : En → Heap → Res Val) (s : En) (h : Heap) : Res Val := (m s h).bind fun x h1 => match x with
  | .bl b => .ok (.bl (!b)) h1
  | _ => .stuck
def mIf (t : En → Heap → Res Bool) (m n : En → Heap → Res Val) (s : En) (h : Heap) : Res Val := (t s h).bind fun b h1 => if b = true then m s h1 else n s h1
/-- a op b op' c, over ints -/
def mCh (p q : Int → Int → Bool) (ma mb mc : En → Heap → Res Val) (s : En) (h : Heap) : Res Val := (ma s h).bind fun x h1 => (mb s h1).bind fun y h2 => match x, y with
  | .int i, .int j => if p i j = true then (mc s h2).bind fun z h3 => match z with
      | .int k => .ok (.bl (q j k)) h3
      | _ => .stuck
    else .ok (.bl false) h2
  | _, _ => .stuck
def mTup (ma : En → Heap → Res (List Val)) (s : En) (h : Heap) : Res Val := (ma s h).bind fun xs h1 => if xs.length ≤ lim then .ok (.tup xs) h1 else .stuck
def mLst (ma : En → Heap → Res (List Val)) (s : En) (h : Heap) : Res Val := (ma s h).bind fun xs h1 => if xs.length ≤ lim then .ok (.ref h1.length) (h1 ++ [.lst xs]) else .stuck
def mDct (_ : En) (h : Heap) : Res Val := .ok (.ref h.length) (h ++ [.dct []])
def lookF (f : Nat) : List (Nat × Val) → Option Val
  | [] => none
  | (g, x) :: r => if g = f then some x else lookF f r
def setF (f : Nat) (x : Val) : List (Nat × Val) → List (Nat × Val)
  | [] => [(f, x)]
  | (g, y) :: r => if g = f then (f, x) :: r else (g, y) :: setF f x r
def getF (f : Nat) (x : Val) (h : Heap) : Res Val := match x with
  | .ref a => match h[a]? with
    | some (.ins c fs) => match lookF f fs with
      | some v => .ok v h
      | none => .stuck
    | _ => .stuck
  | _ => .stuck
/-- a[i]: a list, a tuple, a dict with keys that are ints or texts -/
def oIx (x y : Val) (h : Heap) : Res Val := match x with
  | .tup xs => match y with
    | .int i => match atI xs i with
      | some v => .ok v h
      | none => .stuck
    | _ => .stuck
  | .ref a => match h[a]? with
    | some (.lst xs) => match y with
      | .int i => match atI xs i with
        | some v => .ok v h
        | none => .stuck
      | _ => .stuck
    | some (.fls xs) => match y with
      | .int i => match atI xs i with
        | some v => .ok v h
        | none => .stuck
      | _ => .stuck
    | some (.dct d) => if isKey y = true then match lookV d y with
        | some v => .ok v h
        | none => .stuck
      else .stuck
    | some (.fdc d) => if isKey y = true then match lookV d y with
        | some v => .ok v h
        | none => .stuck
      else .stuck
    | _ => .stuck
  | _ => .stuck
def cut (xs : List Val) (lo hi : Option Int) : List Val := (xs.drop (HT.sIx xs.length 0 lo)).take (HT.sIx xs.length xs.length hi - HT.sIx xs.length 0 lo)
def oSl (x : Val) (lo hi : Option Int) (h : Heap) : Res Val := match x with
  | .tup xs => .ok (.tup (cut xs lo hi)) h
  | .ref a => match h[a]? with
    | some (.lst xs) => .ok (.ref h.length) (h ++ [.lst (cut xs lo hi)])
    | some (.fls xs) => .ok (.ref h.length) (h ++ [.lst (cut xs lo hi)])
    | _ => .stuck
  | _ => .stuck
def pNo (_ : En) (h : Heap) : Res (Option Int) := .ok none h
def pSo (m : En → Heap → Res Val) (s : En) (h : Heap) : Res (Option Int) := (m s h).bind fun x h1 => match x with
  | .int i => .ok (some i) h1
  | _ => .stuck
def mSl (m : En → Heap → Res Val) (p q : En → Heap → Res (Option Int)) (s : En) (h : Heap) : Res Val := (m s h).bind fun x h1 => (p s h1).bind fun lo h2 => (q s h2).bind fun hi h3 => oSl x lo hi h3
/-- the second way where the first is stuck -/
def mAlt (m n : En → Heap → Res Val) (s : En) (h : Heap) : Res Val := match m s h with
  | .stuck => n s h
  | x => x

section
variable {G : Cfg} {E : XK} {X : Cx} {k : Nat} {a b c e : Expr} {ta tb tc : TE} {ma mb mc : En → Heap → Res Val} {pos : Pos} {u v w : TT} {mu mv : En → Heap → Res Bool}
abbrev XCu (G : Cfg) (E : XK) (X : Cx) (k : Nat) := XC G E X k
theorem XC.hu (C : XC G E X k) : X.A.units + 65 < cLine := by have := C.room.un; omega

/-! ### two-place operators -/
theorem me_add (C : XC G E X k) (ha : ME G E X a ta ma) (hb : ME G E X b tb mb) : ME G E X (.BinOp a .Add b pos) (tOp (rAdd G.K) ta tb) (mB oAdd ma mb) := by
  refine ⟨?_, ha.rf.b2 hb.rf rf_add⟩
  have := pe_op (pos := pos) (op_addM (X := X)) ha.pe hb.pe
  rwa [C.K] at this
theorem me_sub (ha : ME G E X a ta ma) (hb : ME G E X b tb mb) : ME G E X (.BinOp a .Sub b pos) (tOp (rI0 fun i j => .int (i - j)) ta tb) (mB (oI fun i j => .int (i - j)) ma mb) := ⟨pe_op op_sub ha.pe hb.pe, ha.rf.b2 hb.rf (rf_I0 (g := fun i j => i - j))⟩
theorem me_mul (C : XC G E X k) (ha : ME G E X a ta ma) (hb : ME G E X b tb mb) : ME G E X (.BinOp a .Mult b pos) (tOp (rMulA G.K) ta tb) (mB oMul ma mb) := by
  refine ⟨?_, ha.rf.b2 hb.rf rf_mul⟩
  have := pe_op (pos := pos) (op_mulA (X := X)) ha.pe hb.pe
  rwa [C.K] at this
theorem me_fdiv (ha : ME G E X a ta ma) (hb : ME G E X b tb mb) : ME G E X (.BinOp a .FloorDiv b pos) (tOp (rI CDiv fun i j => .int (i / j)) ta tb) (mB (oIC (fun _ j => decide (0 < j ∧ j < 1073741824)) fun i j => .int (i / j)) ma mb) :=
  ⟨pe_op op_fdiv ha.pe hb.pe, ha.rf.b2 hb.rf (rf_IC (fun i j e => by simpa [CDiv] using e))⟩
theorem me_mod (ha : ME G E X a ta ma) (hb : ME G E X b tb mb) : ME G E X (.BinOp a .Mod b pos) (tOp (rI (fun _ j => 0 < j) fun i j => .int (i % j)) ta tb) (mB (oIC (fun _ j => decide (0 < j)) fun i j => .int (i % j)) ma mb) :=
  ⟨pe_op op_mod ha.pe hb.pe, ha.rf.b2 hb.rf (rf_IC (fun i j e => by simpa using e))⟩
def cPow (i j : Int) : Bool := decide (0 ≤ j ∧ j ≤ 1000000 ∧ i.natAbs < 2 ^ 64)
theorem me_pow (ha : ME G E X a ta ma) (hb : ME G E X b tb mb) : ME G E X (.BinOp a .Pow b pos) (tOp (rI CPow fun i j => .int (i ^ j.toNat)) ta tb) (mB (oIC cPow fun i j => .int (i ^ j.toNat)) ma mb) :=
  ⟨pe_op op_pow ha.pe hb.pe, ha.rf.b2 hb.rf (rf_IC (fun i j e => by simpa [CPow, cPow] using e))⟩
theorem me_shl (ha : ME G E X a ta ma) (hb : ME G E X b tb mb) : ME G E X (.BinOp a .LShift b pos) (tOp (rI CPow fun i j => .int (i * 2 ^ j.toNat)) ta tb) (mB (oIC cPow fun i j => .int (i * 2 ^ j.toNat)) ma mb) :=
  ⟨pe_op op_shl ha.pe hb.pe, ha.rf.b2 hb.rf (rf_IC (fun i j e => by simpa [CPow, cPow] using e))⟩
theorem me_shr (ha : ME G E X a ta ma) (hb : ME G E X b tb mb) : ME G E X (.BinOp a .RShift b pos) (tOp (rI (fun _ j => 0 ≤ j) fun i j => .int (i / 2 ^ j.toNat)) ta tb) (mB (oIC (fun _ j => decide (0 ≤ j)) fun i j => .int (i / 2 ^ j.toNat)) ma mb) :=
  ⟨pe_op op_shr ha.pe hb.pe, ha.rf.b2 hb.rf (rf_IC (fun i j e => by simpa using e))⟩
theorem me_and (ha : ME G E X a ta ma) (hb : ME G E X b tb mb) : ME G E X (.BinOp a .BitAnd b pos) (tOp (rI0 fun i j => .int (Builtin.bitAnd i j)) ta tb) (mB (oI fun i j => .int (Builtin.bitAnd i j)) ma mb) := ⟨pe_op op_and ha.pe hb.pe, ha.rf.b2 hb.rf rf_I0⟩
theorem me_or (ha : ME G E X a ta ma) (hb : ME G E X b tb mb) : ME G E X (.BinOp a .BitOr b pos) (tOp (rI0 fun i j => .int (Builtin.bitOr i j)) ta tb) (mB (oI fun i j => .int (Builtin.bitOr i j)) ma mb) := ⟨pe_op op_or ha.pe hb.pe, ha.rf.b2 hb.rf rf_I0⟩
theorem me_xor (ha : ME G E X a ta ma) (hb : ME G E X b tb mb) : ME G E X (.BinOp a .BitXor b pos) (tOp (rI0 fun i j => .int (Builtin.bitXor i j)) ta tb) (mB (oI fun i j => .int (Builtin.bitXor i j)) ma mb) := ⟨pe_op op_xor ha.pe hb.pe, ha.rf.b2 hb.rf rf_I0⟩
theorem me_neg (ha : ME G E X a ta ma) : ME G E X (.UnaryOp .USub a pos) (tUn (rU fun i => .int (-i)) ta) (mU oNeg ma) := by
  refine ⟨pe_un un_neg ha.pe, ha.rf.u1 ⟨fun r H h x v Q hR q p => ?_⟩⟩
  cases q with
  | int i => exact ⟨i, rfl, p.here hR (.int _)⟩
  | _ => exact False.elim p

/-! ### comparisons -/
theorem mc_eq (ok : G.Ok) (C : XC G E X k) (ha : ME G E X a ta ma) (hb : ME G E X b tb mb) : MC G E X .Eq a b (tOp (rEqD G.K) ta tb) (mB (oEq false) ma mb) := by
  refine ⟨?_, ha.rf.b2 hb.rf (rf_eq ok)⟩
  have := pc_of (op_eqD (X := X) (by have := C.hu; omega)) ha.pe hb.pe
  rwa [C.K] at this
theorem mc_ne (ok : G.Ok) (C : XC G E X k) (ha : ME G E X a ta ma) (hb : ME G E X b tb mb) : MC G E X .NotEq a b (tOp (rNeD G.K) ta tb) (mB (oEq true) ma mb) := by
  refine ⟨?_, ha.rf.b2 hb.rf (rf_ne ok)⟩
  have := pc_of (op_neD (X := X) (by have := C.hu; omega)) ha.pe hb.pe
  rwa [C.K] at this
theorem mc_lt (ha : ME G E X a ta ma) (hb : ME G E X b tb mb) : MC G E X .Lt a b (tOp (rI0 fun i j => .bl (decide (i < j))) ta tb) (mB (oI fun i j => .bl (decide (i < j))) ma mb) := ⟨pc_of op_lt ha.pe hb.pe, ha.rf.b2 hb.rf rf_B0⟩
theorem mc_le (ha : ME G E X a ta ma) (hb : ME G E X b tb mb) : MC G E X .LtE a b (tOp (rI0 fun i j => .bl (decide (i ≤ j))) ta tb) (mB (oI fun i j => .bl (decide (i ≤ j))) ma mb) := ⟨pc_of op_le ha.pe hb.pe, ha.rf.b2 hb.rf rf_B0⟩
theorem mc_gt (ha : ME G E X a ta ma) (hb : ME G E X b tb mb) : MC G E X .Gt a b (tOp (rI0 fun i j => .bl (decide (j < i))) ta tb) (mB (oI fun i j => .bl (decide (j < i))) ma mb) := ⟨pc_of op_gt ha.pe hb.pe, ha.rf.b2 hb.rf (rf_B0 (g := fun i j => decide (j < i)))⟩
theorem mc_ge (ha : ME G E X a ta ma) (hb : ME G E X b tb mb) : MC G E X .GtE a b (tOp (rI0 fun i j => .bl (decide (j ≤ i))) ta tb) (mB (oI fun i j => .bl (decide (j ≤ i))) ma mb) := ⟨pc_of op_ge ha.pe hb.pe, ha.rf.b2 hb.rf (rf_B0 (g := fun i j => decide (j ≤ i)))⟩
theorem mc_in (ok : G.Ok) (C : XC G E X k) (ha : ME G E X a ta ma) (hb : ME G E X b tb mb) : MC G E X .In a b (tOp (rInA G.K) ta tb) (mB (oIn false) ma mb) := by
  refine ⟨?_, ha.rf.b2 hb.rf (rf_in ok)⟩
  have := pc_of (op_inA (X := X) C.hu) ha.pe hb.pe
  rwa [C.K] at this
theorem mc_notin (ok : G.Ok) (C : XC G E X k) (ha : ME G E X a ta ma) (hb : ME G E X b tb mb) : MC G E X .NotIn a b (tOp (rNotInA G.K) ta tb) (mB (oIn true) ma mb) := by
  refine ⟨?_, ha.rf.b2 hb.rf (rf_notin ok)⟩
  have := pc_of (op_notInA (X := X) C.hu) ha.pe hb.pe
  rwa [C.K] at this
theorem rf_isN (h1 : Rf G E ta ma) : Rf G E (tIsN ta) (mU (oIsN false) ma) := by
  refine ⟨fun r H h s σ Q hR sR p => h1.run r H h s σ _ hR sR (p.seq fun x h1' r1 H1 v s1 hR1 v1 p1 => ?_)⟩
  have := p1.here hR1 (.bl _)
  cases v1 <;> exact this
theorem rf_notN (h1 : Rf G E ta ma) : Rf G E (tNotN ta) (mU (oIsN true) ma) := by
  refine ⟨fun r H h s σ Q hR sR p => h1.run r H h s σ _ hR sR (p.seq fun x h1' r1 H1 v s1 hR1 v1 p1 => ?_)⟩
  have := p1.here hR1 (.bl _)
  cases v1 <;> exact this
theorem mc_isN {j pos'} (ha : ME G E X a ta ma) : MC G E X .Is a (.Constant .none j pos') (tIsN ta) (mU (oIsN false) ma) := ⟨pc_isN ha.pe, rf_isN ha.rf⟩
theorem mc_notN {j pos'} (ha : ME G E X a ta ma) : MC G E X .IsNot a (.Constant .none j pos') (tNotN ta) (mU (oIsN true) ma) := ⟨pc_notN ha.pe, rf_notN ha.rf⟩
theorem me_cmp {op : CmpOp} {t : TE} {m} (h : MC G E X op a b t m) (h1 : behindInMarks op b = false := by first | exact nobehind _ (by decide) (by decide) | rfl) : ME G E X (.Compare a [op] [b] pos) t m := ⟨pe_cmp h.pe h1, h.rf⟩
theorem rf_tB {t : TE} {m} (h : Rf G E t m) : RfT G E (tB t) (tB_ m) := by
  refine ⟨fun r H h' s σ Q hR sR p => h.run r H h' s σ _ hR sR (p.seq fun x h1' r1 H1 v s1 hR1 v1 p1 => ?_)⟩
  cases v1 with
  | bl b => exact ⟨b, rfl, p1.here hR1 rfl⟩
  | _ => exact False.elim p1
theorem mt_cmp {op : CmpOp} {t : TE} {m} (h : MC G E X op a b t m) (h1 : behindInMarks op b = false := by first | exact nobehind _ (by decide) (by decide) | rfl) : MT G E X (.Compare a [op] [b] pos) (tB t) (tB_ m) := ⟨pt_cmp h.pe h1, rf_tB h.rf⟩
/-- a chain over ints -/
theorem rf_ch {p q : Int → Int → Bool} (h1 : Rf G E ta ma) (h2 : Rf G E tb mb) (h3 : Rf G E tc mc) : Rf G E (tChain (rI0 fun i j => .bl (p i j)) (rI0 fun i j => .bl (q i j)) ta tb tc) (mCh p q ma mb mc) := by
  refine ⟨fun r H h s σ Q hR sR z => ?_⟩
  refine h1.run r H h s σ _ hR sR (z.seq fun x h1' r1 H1 v s1 hR1 v1 p1 => ?_)
  refine h2.run r1 H1 h1' s σ _ hR1 (sR.mono s1) (p1.seq fun y h2' r2 H2 u s2 hR2 v2 p2 => ?_)
  have v1' := v1.mono s2
  cases v1' with
  | int i => cases v2 with
    | int j =>
      refine ⟨i, j, rfl, rfl, _, rfl, ?_⟩
      simp only at p2
      split at p2
      · rename_i hp
        rw [if_pos hp]
        refine h3.run r2 H2 h2' s σ _ hR2 (sR.mono (s1.trans s2)) (p2.seq fun z h3' r3 H3 w s3 hR3 v3 p3 => ?_)
        cases v3 with
        | int k => exact ⟨j, k, rfl, rfl, p3.here hR3 (.bl _)⟩
        | _ => exact False.elim p3
      · rename_i hp
        rw [if_neg hp]
        exact p2.here hR2 (.bl _)
    | _ => exact False.elim p2
  | _ => exact False.elim p2
theorem op_leB : OpR X (compareOp .LtE) (rI0 fun i j => .bl (decide (i ≤ j))) := op_le
theorem me_chLeLe (ha : ME G E X a ta ma) (hb : ME G E X b tb mb) (hc : ME G E X c tc mc) (hm : lastMarks [.LtE, .LtE] [b, c] = false := by with_unfolding_all rfl) : ME G E X (.Compare a [.LtE, .LtE] [b, c] pos) (tChain (rI0 fun i j => .bl (decide (i ≤ j))) (rI0 fun i j => .bl (decide (i ≤ j))) ta tb tc) (mCh (fun i j => decide (i ≤ j)) (fun i j => decide (i ≤ j)) ma mb mc) :=
  ⟨pe_chain op_le op_le ha.pe hb.pe hc.pe hm, rf_ch ha.rf hb.rf hc.rf⟩
theorem me_chLeLt (ha : ME G E X a ta ma) (hb : ME G E X b tb mb) (hc : ME G E X c tc mc) (hm : lastMarks [.LtE, .Lt] [b, c] = false := by with_unfolding_all rfl) : ME G E X (.Compare a [.LtE, .Lt] [b, c] pos) (tChain (rI0 fun i j => .bl (decide (i ≤ j))) (rI0 fun i j => .bl (decide (i < j))) ta tb tc) (mCh (fun i j => decide (i ≤ j)) (fun i j => decide (i < j)) ma mb mc) :=
  ⟨pe_chain op_le op_lt ha.pe hb.pe hc.pe hm, rf_ch ha.rf hb.rf hc.rf⟩
theorem rf_tT {t : TE} {m} (h : Rf G E t m) : RfT G E (tTest t) (tB_ m) := by
  refine ⟨fun r H h' s σ Q hR sR p => h.run r H h' s σ _ hR sR (p.seq fun x h1' r1 H1 v s1 hR1 v1 p1 => ?_)⟩
  cases v1 with
  | bl b => exact ⟨b, rfl, p1.here hR1 rfl⟩
  | _ => exact False.elim p1
theorem mt_chLeLe (ha : ME G E X a ta ma) (hb : ME G E X b tb mb) (hc : ME G E X c tc mc) (hm : lastMarks [.LtE, .LtE] [b, c] = false := by with_unfolding_all rfl) : MT G E X (.Compare a [.LtE, .LtE] [b, c] pos) (tTest (tChain (rI0 fun i j => .bl (decide (i ≤ j))) (rI0 fun i j => .bl (decide (i ≤ j))) ta tb tc)) (tB_ (mCh (fun i j => decide (i ≤ j)) (fun i j => decide (i ≤ j)) ma mb mc)) :=
  ⟨pt_chain op_le op_le ha.pe hb.pe hc.pe hm, rf_tT (rf_ch ha.rf hb.rf hc.rf)⟩
theorem mt_chLeLt (ha : ME G E X a ta ma) (hb : ME G E X b tb mb) (hc : ME G E X c tc mc) (hm : lastMarks [.LtE, .Lt] [b, c] = false := by with_unfolding_all rfl) : MT G E X (.Compare a [.LtE, .Lt] [b, c] pos) (tTest (tChain (rI0 fun i j => .bl (decide (i ≤ j))) (rI0 fun i j => .bl (decide (i < j))) ta tb tc)) (tB_ (mCh (fun i j => decide (i ≤ j)) (fun i j => decide (i < j)) ma mb mc)) :=
  ⟨pt_chain op_le op_lt ha.pe hb.pe hc.pe hm, rf_tT (rf_ch ha.rf hb.rf hc.rf)⟩

/-! ### truth, and, or, not, if -/
theorem mt_tr (C : XC G E X k) (ha : ME G E X a ta ma) (he : ∀ whole, isTrue a X.env whole = (do let v ← whole; standAt a.pos; holding [v] (truthy v)) := by intro _; rfl) : MT G E X a (fun σ H Q => ta σ H fun x H' => ∃ k, TruV G.K x H' k ∧ Q k H') (tTr ma) := by
  refine ⟨?_, ⟨fun r H h s σ Q hR sR p => ?_⟩⟩
  · have := pt_truth ha.pe he
    rwa [C.K] at this
  · refine ha.rf.run r H h s σ _ hR sR (p.seq fun x h1' r1 H1 v s1 hR1 v1 p1 => ?_)
    cases v1 with
    | non => exact ⟨_, rfl, p1.here hR1 rfl⟩
    | bl b => exact ⟨_, rfl, p1.here hR1 rfl⟩
    | int i => exact ⟨_, rfl, p1.here hR1 rfl⟩
    | str e => exact False.elim p1
    | tup hs hv =>
      have q := p1.here hR1 rfl
      cases hv with
      | nil => exact ⟨_, .inr (.inl ⟨_, hs, rfl⟩), q⟩
      | cons _ _ => exact ⟨_, .inr (.inl ⟨_, hs, rfl⟩), q⟩
    | @ref n a ea =>
      simp only [truth] at p1
      cases eo : h1'[n]? with
      | none => rw [eo] at p1; exact False.elim p1
      | some o =>
        rw [eo] at p1
        cases o with
        | lst xs => cases hR1.ob _ _ _ eo ea with
          | lst hl hv =>
            have q := p1.here hR1 rfl
            cases hv with
            | nil => exact ⟨_, .inl ⟨_, SqL.of hl, rfl⟩, q⟩
            | cons _ _ => exact ⟨_, .inl ⟨_, SqL.of hl, rfl⟩, q⟩
        | fls xs => cases hR1.ob _ _ _ eo ea with
          | fls hl hv =>
            have q := p1.here hR1 rfl
            cases hv with
            | nil => exact ⟨_, .inl ⟨_, hl.sq, rfl⟩, q⟩
            | cons _ _ => exact ⟨_, .inl ⟨_, hl.sq, rfl⟩, q⟩
        | dct d => cases hR1.ob _ _ _ eo ea with
          | dct hl hv =>
            have q := p1.here hR1 rfl
            cases hv with
            | nil => exact ⟨_, .inr (.inr ⟨_, hl, rfl⟩), q⟩
            | cons _ _ => exact ⟨_, .inr (.inr ⟨_, hl, rfl⟩), q⟩
        | dcT d => exact False.elim p1
        | fdc d => exact False.elim p1
        | fdT d => exact False.elim p1
        | ins _ _ => exact False.elim p1
variable {rest : List Expr}
theorem MW.mt (h : MW G E X a u mu) : MT G E X a u mu := ⟨h.pe.pt, h.rf⟩
theorem mw_and1 (h : MT G E X a u mu) : MW G E X (.BoolOp .And [a] pos) u mu := ⟨pw_and1 h.pe, h.rf⟩
theorem mw_or1 (h : MT G E X a u mu) : MW G E X (.BoolOp .Or [a] pos) u mu := ⟨pw_or1 h.pe, h.rf⟩
theorem mw_and (h : MT G E X a u mu) (h2 : MW G E X (.BoolOp .And (b :: rest) pos) v mv) : MW G E X (.BoolOp .And (a :: b :: rest) pos) (tAnd u v) (tAn mu mv) := by
  refine ⟨pw_and h.pe h2.pe, ⟨fun r H h' s σ Q hR sR p => h.rf.run r H h' s σ _ hR sR (p.seq fun x h1' r1 H1 v s1 hR1 v1 p1 => ?_)⟩⟩
  subst v1
  split at p1
  · rename_i e
    rw [if_pos e]
    exact h2.rf.run r1 H1 h1' s σ _ hR1 (sR.mono s1) p1
  · rename_i e
    rw [if_neg e]
    exact p1.here hR1 rfl
theorem mw_or (h : MT G E X a u mu) (h2 : MW G E X (.BoolOp .Or (b :: rest) pos) v mv) : MW G E X (.BoolOp .Or (a :: b :: rest) pos) (tOr u v) (tOr_ mu mv) := by
  refine ⟨pw_or h.pe h2.pe, ⟨fun r H h' s σ Q hR sR p => h.rf.run r H h' s σ _ hR sR (p.seq fun x h1' r1 H1 v s1 hR1 v1 p1 => ?_)⟩⟩
  subst v1
  split at p1
  · rename_i e
    rw [if_pos e]
    exact p1.here hR1 rfl
  · rename_i e
    rw [if_neg e]
    exact h2.rf.run r1 H1 h1' s σ _ hR1 (sR.mono s1) p1
theorem mt_not (h : MT G E X a u mu) : MT G E X (.UnaryOp .Not a pos) (tNot u) (tNo mu) := 
  ⟨pt_not h.pe, ⟨fun r H h' s σ Q hR sR p => h.rf.run r H h' s σ _ hR sR (p.seq fun x h1' r1 H1 v s1 hR1 v1 p1 => by subst v1; exact p1.here hR1 rfl)⟩⟩
theorem me_one {op} (h : ME G E X a ta ma) : ME G E X (.BoolOp op [a] pos) ta ma := ⟨pe_one h.pe, h.rf⟩
theorem me_andV (h : ME G E X a ta ma) (h2 : ME G E X (.BoolOp .And (b :: rest) pos) tb mb) : ME G E X (.BoolOp .And (a :: b :: rest) pos) (tAndV ta tb) (mAn ma mb) := by
  refine ⟨pe_and h.pe h2.pe, ⟨fun r H h' s σ Q hR sR p => h.rf.run r H h' s σ _ hR sR (p.seq fun x h1' r1 H1 v s1 hR1 v1 p1 => ?_)⟩⟩
  cases v1 with
  | bl c =>
    refine ⟨c, rfl, ?_⟩
    simp only at p1
    split at p1
    · rename_i e
      rw [if_pos e]
      exact h2.rf.run r1 H1 h1' s σ _ hR1 (sR.mono s1) p1
    · rename_i e
      rw [if_neg e]
      exact p1.here hR1 (.bl _)
  | _ => exact False.elim p1
theorem me_orV (h : ME G E X a ta ma) (h2 : ME G E X (.BoolOp .Or (b :: rest) pos) tb mb) : ME G E X (.BoolOp .Or (a :: b :: rest) pos) (tOrV ta tb) (mOr_ ma mb) := by
  refine ⟨pe_or h.pe h2.pe, ⟨fun r H h' s σ Q hR sR p => h.rf.run r H h' s σ _ hR sR (p.seq fun x h1' r1 H1 v s1 hR1 v1 p1 => ?_)⟩⟩
  cases v1 with
  | bl c =>
    refine ⟨c, rfl, ?_⟩
    simp only at p1
    split at p1
    · rename_i e
      rw [if_pos e]
      exact p1.here hR1 (.bl _)
    · rename_i e
      rw [if_neg e]
      exact h2.rf.run r1 H1 h1' s σ _ hR1 (sR.mono s1) p1
  | _ => exact False.elim p1
theorem me_notV (h : ME G E X a ta ma) : ME G E X (.UnaryOp .Not a pos) (tNotV ta) (mNo ma) := by
  refine ⟨pe_not h.pe, ⟨fun r H h' s σ Q hR sR p => h.rf.run r H h' s σ _ hR sR (p.seq fun x h1' r1 H1 v s1 hR1 v1 p1 => ?_)⟩⟩
  cases v1 with
  | bl c => exact ⟨c, rfl, p1.here hR1 (.bl _)⟩
  | _ => exact False.elim p1
theorem me_if (ht : MT G E X c u mu) (h : ME G E X a ta ma) (h2 : ME G E X b tb mb) : ME G E X (.IfExp c a b pos) (tIf u ta tb) (mIf mu ma mb) := by
  refine ⟨pe_ifExp ht.pe h.pe h2.pe, ⟨fun r H h' s σ Q hR sR p => ht.rf.run r H h' s σ _ hR sR (p.seq fun x h1' r1 H1 v s1 hR1 v1 p1 => ?_)⟩⟩
  subst v1
  split at p1
  · rename_i e
    rw [if_pos e]
    exact h.rf.run r1 H1 h1' s σ _ hR1 (sR.mono s1) p1
  · rename_i e
    rw [if_neg e]
    exact h2.rf.run r1 H1 h1' s σ _ hR1 (sR.mono s1) p1

/-! ### displays, attributes, subscripts -/
variable {es : List Expr} {tes : TA} {mas : En → Heap → Res (List Val)}
theorem me_tup {x1} (h : MA G E X es tes mas) : ME G E X (.Tuple es x1 pos) (tTup tes) (mTup mas) := by
  refine ⟨pe_tup h.pe, ⟨fun r H h' s σ Q hR sR p => h.rf.run r H h' s σ _ hR sR (p.seq fun xs h1' r1 H1 vs s1 hR1 v1 p1 => ?_)⟩⟩
  split at p1
  · rename_i hl
    have := v1.len
    refine ⟨le_line (by omega), fun q hq => ?_⟩
    exact p1 r1 _ _ (Stp.new0 hq) (hR1.lay hq) (.tup (SqT.of upd_same) (v1.mono (Stp.new0 hq)))
  · exact False.elim p1
theorem me_lst (h : MA G E X es tes mas) : ME G E X (.List es pos) (tLst tes) (mLst mas) := by
  refine ⟨pe_lst h.pe, ⟨fun r H h' s σ Q hR sR p => h.rf.run r H h' s σ _ hR sR (p.seq fun xs h1' r1 H1 vs s1 hR1 v1 p1 => ?_)⟩⟩
  split at p1
  · rename_i hl
    have := v1.len
    refine ⟨le_line (by omega), fun q hq => ?_⟩
    refine p1 (r1 ++ [q]) _ _ (Stp.new hq) (hR1.push hq (.lst upd_same (v1.mono (Stp.new hq)))) (.ref ?_)
    rw [← hR1.len]
    simp
  · exact False.elim p1
theorem me_dict : ME G E X (.Dict [] [] pos) tDNewK mDct := by
  refine ⟨pe_dnewK, ⟨fun r H h s σ Q hR sR p q hq => ?_⟩⟩
  refine p (r ++ [q]) _ _ (Stp.new hq) (hR.push hq (.dct upd_same .nil)) (.ref ?_)
  rw [← hR.len]
  simp
theorem FR.look (ok : G.Ok) {r : List Addr} {H : Hp} {D : Addr} {fs gs} (q : FR G r H D fs gs) {f : Nat} {z : Str} (hz : G.nms[f]? = some z) : (lookF f fs = none ∧ gs.lookup z = none) ∨ ∃ x v, lookF f fs = some x ∧ gs.lookup z = some v ∧ VR G r H x v ∧ NoAttr G.K D z := by
  induction q with
  | nil => exact .inl ⟨rfl, rfl⟩
  | @cons g y x v fs gs hy na hv _ ih =>
    by_cases e : g = f
    · subst e
      rw [hz] at hy
      cases hy
      exact .inr ⟨x, v, by simp [lookF], by simp [List.lookup], hv, na⟩
    · have : z ≠ y := fun q => e (by
        subst q
        obtain ⟨h1, e1⟩ := List.getElem?_eq_some_iff.mp hy
        obtain ⟨h2, e2⟩ := List.getElem?_eq_some_iff.mp hz
        exact (List.getElem_inj ok.nn).mp (e1.trans e2.symm))
      have : (z == y) = false := beq_eq_false_iff_ne.mpr this
      simpa [lookF, List.lookup, e, this] using ih
theorem me_fld (ok : G.Ok) (C : XC G E X k) (f : Nat) {z : Str} (hz : G.nms[f]? = some z) (h : ME G E X a ta ma) (hb : attributeBase a z X.env (eval a X.env) = eval a X.env := by rfl) : ME G E X (.Attribute a z pos) (tFld G.K ta z) (mU (getF f) ma) := by
  refine ⟨?_, ⟨fun r H h' s σ Q hR sR p => h.rf.run r H h' s σ _ hR sR (p.seq fun x h1' r1 H1 v s1 hR1 v1 p1 => ?_)⟩⟩
  · have := pe_fld (pos := pos) h.pe hb
    rwa [C.K] at this
  · cases v1 with
    | @ref n a ea =>
      simp only [getF] at p1
      split at p1
      · rename_i c fs eo
        split at p1
        · rename_i y ey
          cases hR1.ob _ _ _ eo ea with
          | ins hc hC ho hf =>
            rcases hf.look ok hz with ⟨e1, _⟩ | ⟨x', v', e1, e2, v2, na⟩
            · rw [e1] at ey
              cases ey
            · rw [e1] at ey
              cases ey
              exact ⟨_, _, _, _, _, rfl, ho, hC, na, e2, p1.here hR1 v2⟩
        · exact False.elim p1
      · exact False.elim p1
    | _ => exact False.elim p1
end
end PyM

set_option Elab.async false
set_option linter.all false
set_option maxRecDepth 100000
set_option autoImplicit false
namespace PyM
open PySem L2 PyProof.Rows

/-! ### subscripts -/
def rDGetR : R2 := fun x y H Q => ∃ a v, x = .ref a ∧ DGet H a y (some v) ∧ Q v H
theorem ix_dict {X : Cx} (hu : X.A.units + 1 < cLine) : IxR X rDGetR := by
  intro value slice pins s σ H x y v u Q I rx ry h hs
  obtain ⟨a, z, rfl, g, q⟩ := h
  obtain rfl : v = Value.ref a := rx
  have hT := dict_typeIs I g
  unfold subscriptTail
  refine wpAny_bind ?_
  rw [getitemInPython_of_ne hT.not_modules]
  refine wpAny_bind (wpAny_specialOf hT PySem.F.slot_dict_getitem.lookup ?_)
  have fin : wpAny (model X.prog X.w) X.A (subscripted slice false (.ref a) u) (fun r s₃ => wpAny (model X.prog X.w) X.A (letTemporaryGo value (.ref a) r >>= fun _ => pure r) (EP X pins σ Q) X.xe s₃) X.xe s := by
    rw [hs]
    exact wpAny_operating (wpAny_mono (d_getItem hu I g ry (Q := EP X pins σ Q) fun w' s3 I3 rw' => ⟨z, H, I3, rw', q⟩) (fun r s₃ h₃ => wpAny_bind (wpAny_letTemporaryGo (wpAny_pure h₃))) fun _ _ x => x)
  first
    | exact wpAny_pure (wpAny_bind fin)
    | exact wpAny_bind (wpAny_pure (wpAny_bind fin))
    | exact wpAny_bind fin
def rIxA (K : PySem.W.Frag) : R2 := fun x y H Q => rIxL K x y H Q ∨ rIxT K x y H Q ∨ rDGetR x y H Q
theorem ix_all {X : Cx} (hu : X.A.units + 1 < cLine) : IxR X (rIxA X.K) := ix_list.or (ix_tup.or (ix_dict hu))
theorem atI_len {α β : Type} {xs : List α} {ys : List β} (e : xs.length = ys.length) {i : Int} {v : α} (h : atI xs i = some v) : ∃ j : Nat, xs[j]? = some v ∧ ∀ u, ys[j]? = some u → atI ys i = some u := by
  unfold atI at h ⊢
  rw [e] at h
  cases q : ixN ys.length i with
  | none => rw [q] at h; cases h
  | some j =>
    rw [q] at h
    exact ⟨j, h, fun u hu => hu⟩
section
variable {G : Cfg} {E : XK}
theorem rf_ix (ok : G.Ok) : Rf2 G E (rIxA G.K) oIx := by
  refine ⟨fun r H h x y v u Q hR a b p => ?_⟩
  cases a with
  | tup ha va =>
    simp only [oIx] at p
    split at p
    · split at p
      · rename_i z ez
        cases b
        obtain ⟨j, e1, e2⟩ := atI_len va.len ez
        obtain ⟨w, e3, vw⟩ := va.get e1
        exact .inr (.inl ⟨_, _, _, _, rfl, rfl, ha, e2 _ e3, p.here hR vw⟩)
      · exact False.elim p
    · exact False.elim p
  | @ref n a ea =>
    simp only [oIx] at p
    split at p
    · rename_i xs eo
      split at p
      · split at p
        · rename_i z ez
          cases b
          cases hR.ob _ _ _ eo ea with
          | lst hl va =>
            obtain ⟨j, e1, e2⟩ := atI_len va.len ez
            obtain ⟨w, e3, vw⟩ := va.get e1
            exact .inl ⟨_, _, _, _, rfl, rfl, SqL.of hl, e2 _ e3, p.here hR vw⟩
        · exact False.elim p
      · exact False.elim p
    · rename_i xs eo
      split at p
      · split at p
        · rename_i z ez
          cases b
          cases hR.ob _ _ _ eo ea with
          | fls hl va =>
            obtain ⟨j, e1, e2⟩ := atI_len va.len ez
            obtain ⟨w, e3, vw⟩ := va.get e1
            exact .inl ⟨_, _, _, _, rfl, rfl, hl.sq, e2 _ e3, p.here hR vw⟩
        · exact False.elim p
      · exact False.elim p
    · rename_i d eo
      split at p
      · rename_i hk
        split at p
        · rename_i z ez
          cases hR.ob _ _ _ eo ea with
          | dct hd hv =>
            obtain ⟨q, kq, rfl⟩ := KR.of b hk
            rcases hv.look ok kq with ⟨e1, _⟩ | ⟨x', v', e1, e2, v2⟩
            · rw [e1] at ez
              cases ez
            · rw [e1] at ez
              cases ez
              exact .inr (.inr ⟨_, _, rfl, by rw [← e2]; exact DGet.k hd, p.here hR v2⟩)
        · exact False.elim p
      · exact False.elim p
    · rename_i d eo
      split at p
      · rename_i hk
        split at p
        · rename_i z ez
          cases hR.ob _ _ _ eo ea with
          | fdc hd hv =>
            obtain ⟨q, kq, rfl⟩ := KR.of b hk
            rcases hv.look ok kq with ⟨e1, _⟩ | ⟨x', v', e1, e2, v2⟩
            · rw [e1] at ez
              cases ez
            · rw [e1] at ez
              cases ez
              exact .inr (.inr ⟨_, _, rfl, by rw [← e2]; exact DGet_kf hd, p.here hR v2⟩)
        · exact False.elim p
      · exact False.elim p
    · exact False.elim p
  | _ => exact False.elim p
theorem VRs.cut {r : List Addr} {H : Hp} {xs : List Val} {vs : List V} (a : VRs G r H xs vs) (lo hi : Option Int) : VRs G r H (PyM.cut xs lo hi) (cutV vs lo hi) := by
  unfold PyM.cut cutV
  rw [a.len]
  exact (a.drop _).take _
structure RfO (G : Cfg) (E : XK) (t : TO) (m : En → Heap → Res (Option Int)) : Prop where
  run : ∀ r H h s σ Q, HR G r H h → SR G r H s σ → PostR G (fun _ _ a b => a = b) r H E (m s h) Q → t σ H Q
structure MO (G : Cfg) (E : XK) (X : Cx) (e : Option Expr) (t : TO) (m : En → Heap → Res (Option Int)) : Prop where
  pe : PO X e t
  rf : RfO G E t m
def rSlAll (K : PySem.W.Frag) : V → Option Int → Option Int → Hp → VK → Prop := fun x lo hi H Q => rSlL K x lo hi H Q ∨ rSlA K x lo hi H Q
theorem rf_sl {r : List Addr} {H : Hp} {h : Heap} {x : Val} {v : V} {lo hi : Option Int} {Q : VK} (hR : HR G r H h) (a : VR G r H x v) (p : PostR G (VR G) r H E (oSl x lo hi h) Q) : rSlAll G.K v lo hi H Q := by
  cases a with
  | tup ha va =>
    refine .inr ⟨_, _, rfl, ha, fun e => ?_, fun _ q hq => ?_⟩
    · refine p.here hR (.tup ha ?_)
      unfold PyM.cut
      rw [va.len, e.1, e.2, ← va.len]
      simpa using va
    · exact p r _ _ (Stp.new0 hq) (hR.lay hq) (.tup (SqT.of upd_same) ((va.cut lo hi).mono (Stp.new0 hq)))
  | @ref n a ea =>
    simp only [oSl] at p
    split at p
    · rename_i xs eo
      cases hR.ob _ _ _ eo ea with
      | lst hl va =>
        refine .inl ⟨_, _, rfl, SqL.of hl, fun q hq => ?_⟩
        refine p (r ++ [q]) _ _ (Stp.new hq) (hR.push hq (.lst upd_same ((va.cut lo hi).mono (Stp.new hq)))) (.ref ?_)
        rw [← hR.len]
        simp
    · rename_i xs eo
      cases hR.ob _ _ _ eo ea with
      | fls hl va =>
        refine .inl ⟨_, _, rfl, hl.sq, fun q hq => ?_⟩
        refine p (r ++ [q]) _ _ (Stp.new hq) (hR.push hq (.lst upd_same ((va.cut lo hi).mono (Stp.new hq)))) (.ref ?_)
        rw [← hR.len]
        simp
    · exact False.elim p
  | _ => exact False.elim p
variable {X : Cx} {k : Nat} {a b c e : Expr} {ta tb tc : TE} {ma mb mc : En → Heap → Res Val} {pos p2 : Pos}
theorem me_ix (ok : G.Ok) (C : XC G E X k) (ha : ME G E X a ta ma) (hb : ME G E X b tb mb) (hs : PlainIx b := by exact fun _ _ => rfl) : ME G E X (.Subscript a b pos) (tOp (rIxA G.K) ta tb) (mB oIx ma mb) := by
  refine ⟨?_, ha.rf.b2 hb.rf (rf_ix ok)⟩
  have := pe_ix (pos := pos) (ix_all (X := X) (by have := C.hu; omega)) ha.pe hb.pe hs
  rwa [C.K] at this
theorem mo_no : MO G E X none tNoPart pNo := ⟨po_none, ⟨fun r H h s σ Q hR sR p => p.here hR rfl⟩⟩
theorem mo_so (ha : ME G E X a ta ma) : MO G E X (some a) (tPart ta) (pSo ma) := by
  refine ⟨po_some ha.pe, ⟨fun r H h s σ Q hR sR p => ha.rf.run r H h s σ _ hR sR (p.seq fun x h1' r1 H1 v s1 hR1 v1 p1 => ?_)⟩⟩
  cases v1 with
  | int i => exact ⟨i, rfl, p1.here hR1 rfl⟩
  | _ => exact False.elim p1
theorem me_sl {lo hi : Option Expr} {tl th : TO} {ml mh : En → Heap → Res (Option Int)} (C : XC G E X k) (ha : ME G E X a ta ma) (hl : MO G E X lo tl ml) (hh : MO G E X hi th mh) : ME G E X (.Subscript a (.Slice lo hi none p2) pos) (tSl (rSlAll G.K) ta tl th) (mSl ma ml mh) := by
  refine ⟨?_, ⟨fun r H h s σ Q hR sR p => ha.rf.run r H h s σ _ hR sR (p.seq fun x h1 r1 H1 v s1 hR1 v1 p1 => ?_)⟩⟩
  · have := pe_slice (p2 := p2) (pos := pos) ((sl_list (X := X)).or sl_tupA) ha.pe hl.pe hh.pe
    rw [C.K] at this
    exact this
  · refine hl.rf.run r1 H1 h1 s σ _ hR1 (sR.mono s1) (p1.seq fun lo' h2 r2 H2 _ s2 hR2 e2 p2 => ?_)
    refine hh.rf.run r2 H2 h2 s σ _ hR2 (sR.mono (s1.trans s2)) (p2.seq fun hi' h3 r3 H3 _ s3 hR3 e3 p3 => ?_)
    subst e2 e3
    exact rf_sl hR3 (v1.mono (s2.trans s3)) p3

/-! ### two ways -/
theorem pe_or2 {t t' : TE} (h : PE X e t) (h' : PE X e t') : PE X e (fun σ H Q => t σ H Q ∨ t' σ H Q) := ⟨fun pins s σ H Q I q => q.elim (h.run pins s σ H Q I) (h'.run pins s σ H Q I)⟩
theorem me_alt {t t' : TE} {m m' : En → Heap → Res Val} (h : ME G E X e t m) (h' : ME G E X e t' m') : ME G E X e (fun σ H Q => t σ H Q ∨ t' σ H Q) (mAlt m m') := by
  refine ⟨pe_or2 h.pe h'.pe, ⟨fun r H hh s σ Q hR sR p => ?_⟩⟩
  unfold mAlt at p
  cases q : m s hh with
  | stuck => rw [q] at p; exact .inr (h'.rf.run r H hh s σ Q hR sR p)
  | ok x y => rw [q] at p; exact .inl (h.rf.run r H hh s σ Q hR sR (by rw [q]; exact p))
  | raised x y => rw [q] at p; exact .inl (h.rf.run r H hh s σ Q hR sR (by rw [q]; exact p))
end

/-! ### calls -/
def spM (G : Cfg) (n : Nat) (m : List Val → Heap → Res Val) : Sp := fun vs H Q E => vs.length = n ∧ ∃ r h xs, HR G r H h ∧ VRs G r H xs vs ∧ PostR G (VR G) r H E (m xs h) Q
structure FnM (G : Cfg) (P : Program) (w : World) (mg : Str → Option Value) (base : PySem.Heap) (k : Nat) (f : Addr) (fd : FuncData) (ps : List Str) (m : List Val → Heap → Res Val) : Prop where
  ok : FnOk P w G.K mg base (L2.CX P w) k f fd ps (spM G ps.length m)
  st : ∀ xs h, xs.length ≠ ps.length → m xs h = .stuck
/-- the defaults of a def -/
structure DfM (G : Cfg) (xs : List Val) (vs : List V) (us : List Value) : Prop where
  v : Vals vs us
  r : ∀ r H, VRs G r H xs vs
theorem df_nil {G : Cfg} : DfM G [] [] [] := ⟨.nil, fun _ _ => .nil⟩
theorem df_non {G : Cfg} : DfM G [.non] [.non] [.none] := ⟨.cons rfl .nil, fun _ _ => .cons .non .nil⟩
def mCall (m : List Val → Heap → Res Val) (ds : List Val) (ma : En → Heap → Res (List Val)) (s : En) (h : Heap) : Res Val := (ma s h).bind fun xs h1 => m (xs ++ ds) h1
def isIns (c : Nat) (x : Val) (h : Heap) : Bool := match x with
  | .ref a => match h[a]? with
    | some (.ins c' _) => c == c'
    | _ => false
  | _ => false
def mMeth (c : Nat) (m : List Val → Heap → Res Val) (ds : List Val) (mo : En → Heap → Res Val) (ma : En → Heap → Res (List Val)) (s : En) (h : Heap) : Res Val := (mo s h).bind fun x h1 => if isIns c x h1 = true then (ma s h1).bind fun xs h2 => m (x :: (xs ++ ds)) h2 else .stuck
def mMake (c : Nat) (m : List Val → Heap → Res Val) (ds : List Val) (ma : En → Heap → Res (List Val)) (s : En) (h : Heap) : Res Val := (ma s h).bind fun xs h1 => (m (.ref h1.length :: (xs ++ ds)) (h1 ++ [.ins c []])).bind fun x h2 => match x with
  | .non => .ok (.ref h1.length) h2
  | _ => .stuck
section
variable {G : Cfg} {E : XK} {X : Cx} {k j : Nat} {a b c e o : Expr} {es : List Expr} {ta tb tc : TE} {ma mb mc mo : En → Heap → Res Val} {pos p2 p apos : Pos} {f D : Addr} {fd : FuncData} {ps : List Str} {m : List Val → Heap → Res Val} {x y : Str}
  {dx : List Val} {dv : List V} {du : List Value} {tA : TA} {mA : En → Heap → Res (List Val)}
theorem FnM.run (F : FnM G X.prog X.w X.mg X.base j f fd ps m) {r : List Addr} {H : Hp} {h : Heap} {xs : List Val} {vs : List V} {Q : VK} (hR : HR G r H h) (v : VRs G r H xs vs) (p : PostR G (VR G) r H E (m xs h) Q) : spM G ps.length m vs H Q E := by
  refine ⟨?_, r, h, xs, hR, v, p⟩
  rw [← v.len]
  refine Decidable.byContradiction fun q => ?_
  rw [F.st xs h q] at p
  exact p
theorem rf_call (F : FnM G X.prog X.w X.mg X.base j f fd ps m) (d : DfM G dx dv du) (ha : RfA G E tA mA) : Rf G E (tCall (spM G ps.length m) dv E tA) (mCall m dx mA) := by
  refine ⟨fun r H h s σ Q hR sR p => ha.run r H h s σ _ hR sR (p.seq fun x h1 r1 H1 v s1 hR1 v1 p1 => ?_)⟩
  exact F.run hR1 (v1.app (d.r _ _)) p1
theorem me_call (C : XC G E X k) (F : FnM G X.prog X.w X.mg X.base j f fd ps m) (d : DfM G dx dv du) (hj : j ≤ k) (hm : X.mg x = some (.ref f)) (hk : PySem.W.keepIn X.K (.ref f) = true) (hb : Binds X.K fd ps du) (ha : MA G E X (e :: es) tA mA) (hg : Gl X x := by rfl)
    (hdb : (x == ("__debug__" : Str)) = false := by decide) (he : starEach (e :: es) X.env = (false, eval e X.env) :: starEach es X.env := by rfl) (hpl : (backTo pos (starEach es X.env)).any (·.1) = false := by rfl) :
    ME G E X (.Call (.Name x p) (e :: es) [] pos) (tCall (spM G ps.length m) dv E tA) (mCall m dx mA) :=
  ⟨pe_call (by rw [C.K]; exact F.ok) (C.room.mono hj) hg hm hk hb d.v C.pass ha.pe hdb he hpl, rf_call F d ha.rf⟩
theorem me_call0 (C : XC G E X k) (F : FnM G X.prog X.w X.mg X.base j f fd ps m) (d : DfM G dx dv du) (hj : j ≤ k) (hm : X.mg x = some (.ref f)) (hk : PySem.W.keepIn X.K (.ref f) = true) (hb : Binds X.K fd ps du) (hg : Gl X x := by rfl)
    (hdb : (x == ("__debug__" : Str)) = false := by decide) :
    ME G E X (.Call (.Name x p) [] [] pos) (tCall (spM G ps.length m) dv E tNil) (mCall m dx mNil) :=
  ⟨pe_call0 (by rw [C.K]; exact F.ok) (C.room.mono hj) hg hm hk hb d.v C.pass hdb, rf_call F d (ma_nil (X := X)).rf⟩
theorem rf_meth (F : FnM G X.prog X.w X.mg X.base j f fd ps m) {c : Nat} (hc : G.cls[c]? = some D) (hm : Meth G.K D y f) (d : DfM G dx dv du) (ho : Rf G E ta mo) (ha : RfA G E tA mA) : Rf G E (tMeth D y (spM G ps.length m) dv E ta tA) (mMeth c m dx mo mA) := by
  refine ⟨fun r H h s σ Q hR sR p => ho.run r H h s σ _ hR sR (p.seq fun x h1 r1 H1 v s1 hR1 v1 p1 => ?_)⟩
  split at p1
  · rename_i hi
    cases v1 with
    | @ref n a ea =>
      simp only [isIns] at hi
      split at hi
      · rename_i c' fs eo
        have : c = c' := by simpa using hi
        subst this
        cases hR1.ob _ _ _ eo ea with
        | @ins _ D' _ _ _ _ hc' hC hH hf =>
          rw [hc] at hc'
          cases hc'
          refine ⟨_, _, _, rfl, hH, ?_, ?_⟩
          · have key : ∀ {fs : List (Nat × Val)} {gs : List (Str × V)}, FR G r1 H1 D fs gs → gs.lookup y = none := by
              intro fs gs hf
              induction hf with
              | nil => rfl
              | @cons f' z x' v' fs gs hz na _ _ ih =>
                have : y ≠ z := fun q => by
                  subst q
                  have h1 := hm.at_
                  have h2 : PySem.W.findIn G.K (.ref D) y = some none := na
                  rw [h2] at h1
                  cases h1
                rw [List.lookup_cons, beq_eq_false_iff_ne.mpr this]
                exact ih
            exact key hf
          · refine ha.run r1 H1 h1 s σ _ hR1 (sR.mono s1) (p1.seq fun xs h2 r2 H2 vs s2 hR2 v2 p2 => ?_)
            exact F.run hR2 (.cons (.ref (s2.pre _ _ ea)) (v2.app (d.r _ _))) p2
      · cases hi
    | _ => simp [isIns] at hi
  · exact False.elim p1
theorem me_meth {pl : Sem Bool} (C : XC G E X k) (F : FnM G X.prog X.w X.mg X.base j f fd ps m) (c : Nat) (hc : G.cls[c]? = some D) (hC : Cls X.K D) (hm : Meth X.K D y f) (d : DfM G dx dv du) (hj : j ≤ k) (hb : Binds X.K fd ps du) (ho : ME G E X o ta mo) (ha : MA G E X (e :: es) tA mA)
    (hst : starEach (e :: es) X.env = (false, eval e X.env) :: starEach es X.env := by rfl) (hpl : (backTo pos (starEach es X.env)).any (·.1) = false := by rfl)
    (ht : eval (.Call (.Attribute o y apos) (e :: es) [] pos) X.env = (do
      let ov ← eval o X.env
      standAt apos.atName
      let (f, first) ← holding [ov] (getMethod ov y pl)
      callWith pos f first (backTo pos (starEach (e :: es) X.env)) (backToKw pos (keywordEach [] X.env))) := by rfl) :
    ME G E X (.Call (.Attribute o y apos) (e :: es) [] pos) (tMeth D y (spM G ps.length m) dv E ta tA) (mMeth c m dx mo mA) := by
  refine ⟨pe_meth ho.pe hC hm (by rw [C.K]; exact F.ok) (C.room.mono hj) hb d.v C.pass ha.pe hst hpl ht, rf_meth F hc (by rw [← C.K]; exact hm) d ho.rf ha.rf⟩
theorem me_meth0 {pl : Sem Bool} (C : XC G E X k) (F : FnM G X.prog X.w X.mg X.base j f fd ps m) (c : Nat) (hc : G.cls[c]? = some D) (hC : Cls X.K D) (hm : Meth X.K D y f) (d : DfM G dx dv du) (hj : j ≤ k) (hb : Binds X.K fd ps du) (ho : ME G E X o ta mo)
    (ht : eval (.Call (.Attribute o y apos) [] [] pos) X.env = (do
      let ov ← eval o X.env
      standAt apos.atName
      let (f, first) ← holding [ov] (getMethod ov y pl)
      callWith pos f first (backTo pos (starEach [] X.env)) (backToKw pos (keywordEach [] X.env))) := by rfl) :
    ME G E X (.Call (.Attribute o y apos) [] [] pos) (tMeth D y (spM G ps.length m) dv E ta tNil) (mMeth c m dx mo mNil) := by
  refine ⟨pe_meth0 ho.pe hC hm (by rw [C.K]; exact F.ok) (C.room.mono hj) hb d.v C.pass ht, rf_meth F hc (by rw [← C.K]; exact hm) d ho.rf (ma_nil (X := X)).rf⟩
theorem rf_make (F : FnM G X.prog X.w X.mg X.base j f fd ps m) {c : Nat} (hc : G.cls[c]? = some D) (hC : Cls G.K D) (d : DfM G dx dv du) (ha : RfA G E tA mA) : Rf G E (tMake D (spM G ps.length m) dv E tA) (mMake c m dx mA) := by
  refine ⟨fun r H h s σ Q hR sR p => ha.run r H h s σ _ hR sR (p.seq fun xs h1 r1 H1 vs s1 hR1 v1 p1 => ?_)⟩
  intro x ex nx nex ne
  have hx : (upd H1 ex (.own x)) x = none := by rw [upd_ne (Ne.symm ne)]; exact nx
  have st : Stp G.K r1 H1 (r1 ++ [x]) (upd (upd H1 ex (.own x)) x (.ins D ex [])) := (Stp.new0 (K := G.K) (r := r1) (u := .own x) nex).trans (Stp.new hx)
  have hR2 : HR G (r1 ++ [x]) (upd (upd H1 ex (.own x)) x (.ins D ex [])) (h1 ++ [.ins c []]) := (hR1.lay nex).push hx (.ins hc hC upd_same .nil)
  refine F.run hR2 (.cons (.ref (n := h1.length) ?_) ((v1.mono st).app (d.r _ _))) ?_
  · rw [← hR1.len]
    simp
  · have p2 := p1.shift st
    refine p2.seq fun z h2 r2 H2 v s2 hR3 v2 p3 => ?_
    cases v2 with
    | non =>
      refine ⟨rfl, p3.here hR3 (.ref (s2.pre _ _ ?_))⟩
      rw [← hR1.len]
      simp
    | _ => exact False.elim p3
theorem me_make (C : XC G E X k) (F : FnM G X.prog X.w X.mg X.base j f fd ps m) (c : Nat) (hc : G.cls[c]? = some D) (hC : Cls G.K D) (M : Mk X.K D f) (d : DfM G dx dv du) (hj : j + 1 ≤ k) (hm : X.mg x = some (.ref D)) (hb : Binds X.K fd ps du) (ha : MA G E X (e :: es) tA mA) (hg : Gl X x := by rfl)
    (hdb : (x == ("__debug__" : Str)) = false := by decide) (he : starEach (e :: es) X.env = (false, eval e X.env) :: starEach es X.env := by rfl) (hpl : (backTo pos (starEach es X.env)).any (·.1) = false := by rfl) :
    ME G E X (.Call (.Name x p) (e :: es) [] pos) (tMake D (spM G ps.length m) dv E tA) (mMake c m dx mA) :=
  ⟨pe_make M (by rw [C.K]; exact F.ok) (C.room.mono hj) hg hm hb d.v C.pass ha.pe hdb he hpl, rf_make F hc hC d ha.rf⟩
theorem me_make0 (C : XC G E X k) (F : FnM G X.prog X.w X.mg X.base j f fd ps m) (c : Nat) (hc : G.cls[c]? = some D) (hC : Cls G.K D) (M : Mk X.K D f) (d : DfM G dx dv du) (hj : j + 1 ≤ k) (hm : X.mg x = some (.ref D)) (hb : Binds X.K fd ps du) (hg : Gl X x := by rfl)
    (hdb : (x == ("__debug__" : Str)) = false := by decide) :
    ME G E X (.Call (.Name x p) [] [] pos) (tMake D (spM G ps.length m) dv E tNil) (mMake c m dx mNil) :=
  ⟨pe_make0 M (by rw [C.K]; exact F.ok) (C.room.mono hj) hg hm hb d.v C.pass hdb, rf_make F hc hC d (ma_nil (X := X)).rf⟩
end
end PyM

set_option Elab.async false
set_option linter.all false
set_option maxRecDepth 100000
set_option autoImplicit false
namespace PyM
open PySem L2

/-! ### statements -/
def RS.bind (x : RS) (k : En → Heap → RS) : RS := match x with
  | .nx s h => k s h
  | x => x
def Res.thenS {α : Type} (x : Res α) (k : α → Heap → RS) : RS := match x with
  | .ok a h => k a h
  | .raised c h => .raised c h
  | .stuck => .stuck
def sNx (s : En) (h : Heap) : RS := .nx s h
def sBk (s : En) (h : Heap) : RS := .bk s h
def sCt (s : En) (h : Heap) : RS := .ct s h
def sNever (_ : En) (_ : Heap) : RS := .stuck
def sSeq (a b : En → Heap → RS) (s : En) (h : Heap) : RS := (a s h).bind b
def sDrop (m : En → Heap → Res Val) (s : En) (h : Heap) : RS := (m s h).thenS fun _ h1 => .nx s h1
def sRet (m : En → Heap → Res Val) (s : En) (h : Heap) : RS := (m s h).thenS fun x h1 => .rt x h1
def sRetN (_ : En) (h : Heap) : RS := .rt .non h
def sIf (c : En → Heap → Res Bool) (a b : En → Heap → RS) (s : En) (h : Heap) : RS := (c s h).thenS fun x h1 => if x = true then a s h1 else b s h1
/-- targets -/
def gV (i : Nat) (x : Val) (s : En) : Option En := some (s.set i (some x))
def gsNil (xs : List Val) (s : En) : Option En := if xs.isEmpty = true then some s else none
def gsCons (g : Val → En → Option En) (gs : List Val → En → Option En) (xs : List Val) (s : En) : Option En := match xs with
  | x :: r => (g x s).bind fun s1 => gs r s1
  | [] => none
def gT (gs : List Val → En → Option En) (x : Val) (s : En) : Option En := match x with
  | .tup xs => gs xs s
  | _ => none
def sAsg (g : Val → En → Option En) (m : En → Heap → Res Val) (s : En) (h : Heap) : RS := (m s h).thenS fun x h1 => match g x s with
  | some s1 => .nx s1 h1
  | none => .stuck
def oSet (o i x : Val) (h : Heap) : Res Unit := match o with
  | .ref a => match h[a]? with
    | some (.lst xs) => match i with
      | .int k => match ixN xs.length k with
        | some j => .ok () (h.set a (.lst (xs.set j x)))
        | none => .stuck
      | _ => .stuck
    | some (.dct d) => if isKey i = true ∧ d.length < lim then .ok () (h.set a (.dct (putV d i x))) else .stuck
    | _ => .stuck
  | _ => .stuck
/-- o[i] = e: the value first -/
def sSub (mo mi me : En → Heap → Res Val) (s : En) (h : Heap) : RS := (me s h).thenS fun x h1 => (mo s h1).thenS fun o h2 => (mi s h2).thenS fun i h3 => (oSet o i x h3).thenS fun _ h4 => .nx s h4
/-- o[i], by values: a list's, a dict's -/
def oIxM (x y : Val) (h : Heap) : Res Val := match x with
  | .ref _ => oIx x y h
  | _ => .stuck
/-- o[i] op= e -/
def sSubA (f : Val → Val → Heap → Res Val) (mo mi me : En → Heap → Res Val) (s : En) (h : Heap) : RS := (mo s h).thenS fun o h1 => (mi s h1).thenS fun i h2 => (oIxM o i h2).thenS fun x h3 => (me s h3).thenS fun y h4 => (f x y h4).thenS fun z h5 => (oSet o i z h5).thenS fun _ h6 => .nx s h6
def oSetF (d f : Nat) (o x : Val) (h : Heap) : Res Unit := match o with
  | .ref a => match h[a]? with
    | some (.ins c fs) => if c = d ∧ fs.length < 1000 then .ok () (h.set a (.ins c (setF f x fs))) else .stuck
    | _ => .stuck
  | _ => .stuck
def sFld (d f : Nat) (mo me : En → Heap → Res Val) (s : En) (h : Heap) : RS := (me s h).thenS fun x h1 => (mo s h1).thenS fun o h2 => (oSetF d f o x h2).thenS fun _ h3 => .nx s h3
def sFldA (d f : Nat) (g : Val → Val → Heap → Res Val) (mo me : En → Heap → Res Val) (s : En) (h : Heap) : RS := (mo s h).thenS fun o h1 => (if isIns d o h1 = true then getF f o h1 else .stuck).thenS fun x h2 => (me s h2).thenS fun y h3 => (g x y h3).thenS fun z h4 => (oSetF d f o z h4).thenS fun _ h5 => .nx s h5
def sAug (i : Nat) (g : Val → Val → Heap → Res Val) (me : En → Heap → Res Val) (s : En) (h : Heap) : RS := match s[i]? with
  | some (some x) => (me s h).thenS fun y h1 => (g x y h1).thenS fun z h2 => .nx (s.set i (some z)) h2
  | _ => .stuck

section
variable {G : Cfg} {E : XK}
theorem PostS.seqS {α β : Type} {R1 : List Addr → Hp → α → β → Prop} {r : List Addr} {H : Hp} {x : Res α} {k : α → Heap → RS} {D : Ends} {Q' : β → Hp → Prop}
    (p : PostS G r H E (x.thenS k) D) (f : ∀ a h1 r1 H1 b, Stp G.K r H r1 H1 → HR G r1 H1 h1 → R1 r1 H1 a b → PostS G r1 H1 E (k a h1) D → Q' b H1) : PostR G R1 r H E x Q' := by
  cases x with
  | ok a h => exact fun r' H' b s' hR vR => f a h r' H' b s' hR vR (p.shift s')
  | raised c h => exact p
  | stuck => exact p
theorem PostS.here {r : List Addr} {H : Hp} {s : En} {t : St} {h : Heap} {D : Ends} (p : PostS G r H E (.nx s h) D) (hR : HR G r H h) (v : SR G r H s t) : D.nx t H := p r H t Stp.refl hR v
structure RfG (G : Cfg) (g : TG) (m : Val → En → Option En) : Prop where
  run : ∀ r H s σ x v (Q : St → Hp → Prop), SR G r H s σ → VR G r H x v → (∃ s1, m x s = some s1 ∧ ∀ σ1, SR G r H s1 σ1 → Q σ1 H) → g v σ H Q
structure RfGs (G : Cfg) (g : TGs) (m : List Val → En → Option En) : Prop where
  run : ∀ r H s σ xs vs (Q : St → Hp → Prop), SR G r H s σ → VRs G r H xs vs → (∃ s1, m xs s = some s1 ∧ ∀ σ1, SR G r H s1 σ1 → Q σ1 H) → g vs σ H Q
structure MG (G : Cfg) (X : Cx) (e : Expr) (g : TG) (m : Val → En → Option En) : Prop where
  pe : PG X e g
  rf : RfG G g m
structure MGs (G : Cfg) (X : Cx) (es : List Expr) (g : TGs) (m : List Val → En → Option En) : Prop where
  pe : PGs X es g
  rf : RfGs G g m
variable {X : Cx} {k : Nat} {a b c e o : Expr} {es : List Expr} {ta tb tc to ti : TE} {ma mb mc mo mi me : En → Heap → Res Val} {pos pos' p2 : Pos} {st : Stmt} {sts sts2 : List Stmt} {t u : TS} {m n : En → Heap → RS} {tt : TT} {mt : En → Heap → Res Bool}
theorem mg_name (i : Nat) {x : Str} (hN : X.N.Nodup) (hi : X.N[i]? = some x := by rfl) (hx : Loc X.env.scope x := by first | exact Or.inl rfl | exact Or.inr rfl) (hf : X.fn x = true ∨ X.env.scope.names.lookup x = some .local := by first | exact .inl rfl | exact .inr rfl | assumption) : MG G X (.Name x pos) (gName i) (gV i) :=
  ⟨pg_name hN hi hx hf, ⟨fun r H s σ x v Q sR vR ⟨s1, e1, q⟩ => by cases e1; exact q _ (sR.set vR i)⟩⟩
theorem mgs_nil : MGs G X [] gNil gsNil := ⟨pgs_nil, ⟨fun r H s σ xs vs Q sR vR ⟨s1, e1, q⟩ => by
  cases vR with
  | nil => cases e1; exact ⟨rfl, q _ sR⟩
  | cons _ _ => simp [gsNil] at e1⟩⟩
theorem mgs_cons {g : TG} {gs : TGs} {mg : Val → En → Option En} {mgs : List Val → En → Option En} (h : MG G X e g mg) (hs : MGs G X es gs mgs) (hx : (assignEach (e :: es) X.env).map (·.2) = assign e X.env :: (assignEach es X.env).map (·.2) := by rfl) : MGs G X (e :: es) (gCons g gs) (gsCons mg mgs) := by
  refine ⟨pgs_cons h.pe hs.pe hx, ⟨fun r H s σ xs vs Q sR vR ⟨s1, e1, q⟩ => ?_⟩⟩
  cases vR with
  | nil => simp [gsCons] at e1
  | cons v1 v2 =>
    simp only [gsCons] at e1
    cases hq : mg _ s with
    | none => rw [hq] at e1; cases e1
    | some s2 =>
      rw [hq] at e1
      exact ⟨_, _, rfl, h.rf.run r H s σ _ _ _ sR v1 ⟨s2, hq, fun σ1 sR1 => hs.rf.run r H s2 σ1 _ _ _ sR1 v2 ⟨s1, e1, q⟩⟩⟩
theorem mg_tup {gs : TGs} {mgs : List Val → En → Option En} {n : Nat} (C : XC G E X k) (h : MGs G X es gs mgs) (hl : ∀ xs s s1, mgs xs s = some s1 → xs.length = n) {kk : Nat}
    (hn : (assignEach es X.env).length = n := by rfl) (hst : (assignEach es X.env).findIdx? (·.1) = none := by rfl) : MG G X (.Tuple es kk pos) (gTup G.K n gs) (gT mgs) := by
  refine ⟨?_, ⟨fun r H s σ x v Q sR vR ⟨s1, e1, q⟩ => ?_⟩⟩
  · have := pg_tup (pos := pos) (k := kk) C.calm h.pe hn hst
    rwa [C.K] at this
  · cases vR with
    | tup hs hv => exact ⟨_, _, rfl, hs, by rw [← hv.len]; exact hl _ _ _ e1, h.rf.run r H s σ _ _ _ sR hv ⟨s1, e1, q⟩⟩
    | _ => cases e1
theorem gs_len0 (xs : List Val) (s s1 : En) (h : gsNil xs s = some s1) : xs.length = 0 := by
  cases xs with
  | nil => rfl
  | cons _ _ => simp [gsNil] at h
theorem gs_lenS {g : Val → En → Option En} {gs : List Val → En → Option En} {n : Nat} (ih : ∀ xs s s1, gs xs s = some s1 → xs.length = n) (xs : List Val) (s s1 : En) (h : gsCons g gs xs s = some s1) : xs.length = n + 1 := by
  cases xs with
  | nil => simp [gsCons] at h
  | cons x r =>
    simp only [gsCons] at h
    cases q : g x s with
    | none => rw [q] at h; cases h
    | some s2 => rw [q] at h; rw [List.length_cons, ih _ _ _ h]

/-! ### rules -/
theorem mss_nil : MSs G E X [] tNext sNx := ⟨pss_nil, ⟨fun r H h s σ D hR sR p => p.here hR sR⟩⟩
theorem PostS.ends {r : List Addr} {H : Hp} {x : RS} {D D' : Ends} (p : PostS G r H E x D) (h1 : D'.rt = D.rt) (h2 : D'.bk = D.bk) (h3 : D'.ct = D.ct) (h4 : ∀ s h, x ≠ .nx s h) : PostS G r H E x D' := by
  cases x with
  | nx s h => exact absurd rfl (h4 s h)
  | rt v h => intro r' H' v'; rw [h1]; exact p r' H' v'
  | bk s h => intro r' H' v'; rw [h2]; exact p r' H' v'
  | ct s h => intro r' H' v'; rw [h3]; exact p r' H' v'
  | raised c h => exact p
  | stuck => exact p
theorem mss_cons (h : MS G E X st t m) (h2 : MSs G E X sts u n) : MSs G E X (st :: sts) (tSeq t u) (sSeq m n) := by
  refine ⟨pss_cons h.pe h2.pe, ⟨fun r H hh s σ D hR sR p => h.rf.run r H hh s σ _ hR sR ?_⟩⟩
  unfold sSeq at p
  cases q : m s hh with
  | nx s1 h1 =>
    rw [q] at p
    exact fun r1 H1 σ1 s1' hR1 sR1 => h2.rf.run r1 H1 h1 s1 σ1 D hR1 sR1 (PostS.shift s1' p)
  | rt v h => rw [q] at p; exact p
  | bk v h => rw [q] at p; exact p
  | ct v h => rw [q] at p; exact p
  | raised v h => rw [q] at p; exact p
  | stuck => rw [q] at p; exact p
theorem mss_one (h : MS G E X st t m) : MSs G E X [st] t m := ⟨pss_one h.pe, h.rf⟩
theorem ms_pass : MS G E X (.Pass pos) tNext sNx := ⟨ps_pass, ⟨fun r H h s σ D hR sR p => p.here hR sR⟩⟩
theorem ms_break : MS G E X (.Break pos) tBreak sBk := ⟨ps_break, ⟨fun r H h s σ D hR sR p => p r H σ Stp.refl hR sR⟩⟩
theorem ms_continue : MS G E X (.Continue pos) tCont sCt := ⟨ps_continue, ⟨fun r H h s σ D hR sR p => p r H σ Stp.refl hR sR⟩⟩
theorem ms_never : MS G E X st tNever sNever := ⟨ps_never, ⟨fun r H h s σ D hR sR p => p⟩⟩
theorem ms_expr (ha : ME G E X a ta ma) (hs : swapsWith a none pos.line X.env = pure false := by rfl) : MS G E X (.Expr a pos) (tDrop ta) (sDrop ma) :=
  ⟨ps_expr ha.pe hs, ⟨fun r H h s σ D hR sR p => ha.rf.run r H h s σ _ hR sR (p.seqS fun x h1 r1 H1 v s1 hR1 v1 p1 => p1.here hR1 (sR.mono s1))⟩⟩
theorem ms_ret (ha : ME G E X a ta ma) : MS G E X (.Return (some a) pos) (tRet ta) (sRet ma) :=
  ⟨ps_ret ha.pe, ⟨fun r H h s σ D hR sR p => ha.rf.run r H h s σ _ hR sR (p.seqS fun x h1 r1 H1 v s1 hR1 v1 p1 => p1 r1 H1 v Stp.refl hR1 v1)⟩⟩
theorem ms_retN : MS G E X (.Return none pos) tRetN sRetN := ⟨ps_retN, ⟨fun r H h s σ D hR sR p => p r H _ Stp.refl hR .non⟩⟩
theorem ms_if (hc : MT G E X c tt mt) (h1 : MSs G E X sts t m) (h2 : MSs G E X sts2 u n) : MS G E X (.If c sts sts2 pos) (tIfS tt t u) (sIf mt m n) := by
  refine ⟨ps_if hc.pe h1.pe h2.pe, ⟨fun r H h s σ D hR sR p => hc.rf.run r H h s σ _ hR sR (p.seqS fun x h1' r1 H1 v s1 hR1 v1 p1 => ?_)⟩⟩
  subst v1
  split at p1
  · rename_i q
    rw [if_pos q]
    exact h1.rf.run r1 H1 h1' s σ D hR1 (sR.mono s1) p1
  · rename_i q
    rw [if_neg q]
    exact h2.rf.run r1 H1 h1' s σ D hR1 (sR.mono s1) p1
theorem ms_asg {tg : Expr} {g : TG} {mg : Val → En → Option En} (ha : ME G E X a ta ma) (hg : MG G X tg g mg) (hs : swapsWithSole [tg] a pos.line X.env = pure false := by rfl) (hw : swappedStores [tg] a X.env = pure none := by rfl) (h1 : (assignEach [tg] X.env).map (·.2) = [assign tg X.env] := by rfl) : MS G E X (.Assign [tg] a pos) (tAsg ta g) (sAsg mg ma) := by
  refine ⟨ps_asg ha.pe hg.pe hs hw h1, ⟨fun r H h s σ D hR sR p => ha.rf.run r H h s σ _ hR sR (p.seqS fun x h1' r1 H1 v s1 hR1 v1 p1 => ?_)⟩⟩
  cases q : mg x s with
  | none => rw [q] at p1; exact False.elim p1
  | some s2 => rw [q] at p1; exact hg.rf.run r1 H1 s σ x v _ (sR.mono s1) v1 ⟨s2, q, fun σ1 sR1 => p1.here hR1 sR1⟩
/-- a store to a list's place, to a dict's key -/
def rSetA : TSet := fun o i v H Q => rSetL o i v H Q ∨ ∃ a H1, o = .ref a ∧ DPut H a i v H1 ∧ Q H1
theorem set_all (hu : X.A.units + 1 < cLine) : PSet X rSetA := by
  intro pins s σ H o i v ov iv u Q I r1 r2 r3 q
  rcases q with q | ⟨a, H1, e, g, q⟩
  · exact set_list pins s σ H o i v ov iv u Q I r1 r2 r3 q
  · subst e
    obtain rfl : ov = Value.ref a := r1
    exact d_setItem hu I g r2 r3 fun s4 I4 => ⟨H1, I4, q⟩
theorem rf_set (ok : G.Ok) {r : List Addr} {H : Hp} {h : Heap} {o i x : Val} {ov iv v : V} {Q : Hp → Prop} (hR : HR G r H h) (r1 : VR G r H o ov) (r2 : VR G r H i iv) (r3 : VR G r H x v)
    (p : ∃ h1, oSet o i x h = .ok () h1 ∧ ∀ H1, Stp G.K r H r H1 → HR G r H1 h1 → Q H1) : rSetA ov iv v H Q := by
  obtain ⟨h1, p, q⟩ := p
  cases r1 with
  | @ref n a ea =>
    simp only [oSet] at p
    split at p
    · rename_i xs eo
      split at p
      · rename_i kk
        cases r2
        split at p
        · rename_i j ej
          cases p
          cases hR.ob _ _ _ eo ea with
          | lst hl hv =>
            refine .inl ⟨_, _, _, j, rfl, rfl, hl, by rw [← hv.len]; exact ej, q _ (Stp.upd fun o e => by rw [hl] at e; cases e; trivial) ?_⟩
            refine hR.write eo rfl ea (fun o e => by rw [hl] at e; cases e; trivial) (.lst upd_same ?_) rfl
            exact VRs.mono (Stp.upd fun o e => by rw [hl] at e; cases e; trivial) _ _ (VRs.set r3 j hv)
        · cases p
      · cases p
    · rename_i d eo
      split at p
      · rename_i hk
        cases p
        cases hR.ob _ _ _ eo ea with
        | dct hd hv =>
          obtain ⟨kq, hkq, rfl⟩ := KR.of r2 hk.1
          have st : ∀ u, Stp G.K r H r (upd H a u) := fun u => Stp.upd fun o e => by rw [hd] at e; cases e; trivial
          refine .inr ⟨_, _, rfl, DPut.k hd (lt_line (by rw [← hv.len]; exact hk.2)), q _ (st _) ?_⟩
          refine hR.write eo rfl ea (fun o e => by rw [hd] at e; cases e; trivial) (.dct upd_same ?_) rfl
          exact (hv.put ok hkq r3).mono (st _)
      · cases p
    · cases p
  | _ => cases p
theorem thenS_ok {α : Type} {r : List Addr} {H : Hp} {x : Res α} {k : α → Heap → RS} {D : Ends} (p : PostS G r H E (x.thenS k) D) (hn : ∀ c h, x ≠ .raised c h) : ∃ a h1, x = .ok a h1 ∧ PostS G r H E (k a h1) D := by
  cases x with
  | ok a h => exact ⟨a, h, rfl, p⟩
  | raised c h => exact absurd rfl (hn c h)
  | stuck => exact False.elim p
theorem oSet_nr (o i x : Val) (h : Heap) : ∀ c h1, oSet o i x h ≠ .raised c h1 := by
  intro c h1 e
  unfold oSet at e
  (repeat' split at e) <;> cases e
theorem ms_sub (ok : G.Ok) (C : XC G E X k) (ho : ME G E X o to mo) (hi : ME G E X b ti mi) (ha : ME G E X a ta ma) (hs : swapsWithSole [.Subscript o b pos'] a pos.line X.env = pure false := by rfl) (hw : swappedStores [.Subscript o b pos'] a X.env = pure none := by rfl)
    (hx : ∀ v, assign (.Subscript o b pos') X.env v = (do
      let ov ← holding [v] (eval o X.env)
      let iv ← holding [v, ov] (eval b X.env)
      standAt pos'
      holding [v, ov, iv] (setItem ov iv v)
      release [v, ov, iv] []) := by intro _; rfl) (h1 : (assignEach [.Subscript o b pos'] X.env).map (·.2) = [assign (.Subscript o b pos') X.env] := by rfl) :
    MS G E X (.Assign [.Subscript o b pos'] a pos) (tAsg ta (gSub to ti rSetA)) (sSub mo mi ma) := by
  refine ⟨ps_asg ha.pe (pg_sub ho.pe hi.pe (set_all (by have := C.hu; omega)) hx) hs hw h1, ⟨fun r H h s σ D hR sR p => ha.rf.run r H h s σ _ hR sR (p.seqS fun x h1 r1 H1 v s1 hR1 v1 p1 => ?_)⟩⟩
  refine ho.rf.run r1 H1 h1 s σ _ hR1 (sR.mono s1) (p1.seqS fun y h2 r2 H2 w s2 hR2 v2 p2 => ?_)
  refine hi.rf.run r2 H2 h2 s σ _ hR2 (sR.mono (s1.trans s2)) (p2.seqS fun z h3 r3 H3 w3 s3 hR3 v3 p3 => ?_)
  obtain ⟨_, h4, e4, p4⟩ := thenS_ok p3 (oSet_nr _ _ _ _)
  refine rf_set ok hR3 (v2.mono s3) v3 (v1.mono (s2.trans s3)) ⟨h4, e4, fun H4 s4 hR4 => ?_⟩
  exact (p4.shift s4).here hR4 (sR.mono ((s1.trans s2).trans (s3.trans s4)))
def rGetA (K : PySem.W.Frag) : V → V → Hp → VK → Prop := fun x y H Q => rIxL K x y H Q ∨ rDGetR x y H Q
theorem get_all (hu : X.A.units + 1 < cLine) : PGet X (rGetA X.K) := by
  intro pins s σ H x y v u Q I rx ry q
  rcases q with h | ⟨a, z, rfl, g, q⟩
  · obtain ⟨p, xs, i, z, rfl, rfl, hq, he, q⟩ := h
    cases rx
    obtain ⟨t, rfl⟩ := ry
    obtain ⟨its, r, pl, hz⟩ := I.list hq
    obtain ⟨j, h1, h2, h3, h4, h5⟩ := atI_get he
    obtain ⟨w, ew, rw'⟩ := r.get h2
    have hl := r.length
    have hn := line63
    have fin : EP X pins σ Q w s := ⟨z, H, I, rw', q⟩
    by_cases h0 : 0 ≤ i
    · have hj : i.toNat = j := by
        rw [seqIndex_of h0 h5] at h1
        exact Option.some.inj h1
      exact wpAny_getItem_list pl.isList h0 (by omega) (by rw [hj]; simpa using ew) fin
    · have hj : (i + (its.toArray.size : Int)).toNat = j := by
        rw [seqIndex_neg (by omega) h4] at h1
        rw [List.size_toArray, ← hl]
        exact Option.some.inj h1
      exact wpAny_getItem_list_neg pl.isList (by omega) (by rw [List.size_toArray] <;> omega) (by omega) (by rw [hj]; simpa using ew) fin
  · obtain rfl : v = Value.ref a := rx
    exact d_getItem hu I g ry fun w' s3 I3 rw' => ⟨z, H, I3, rw', q⟩
theorem rf_get (ok : G.Ok) {r : List Addr} {H : Hp} {h : Heap} {x y : Val} {v u : V} {Q : VK} (hR : HR G r H h) (a : VR G r H x v) (b : VR G r H y u) (p : PostR G (VR G) r H E (oIxM x y h) Q) : rGetA G.K v u H Q := by
  cases a with
  | @ref n a ea =>
    simp only [oIxM, oIx] at p
    split at p
    · rename_i xs eo
      split at p
      · split at p
        · rename_i z ez
          cases b
          cases hR.ob _ _ _ eo ea with
          | lst hl va =>
            obtain ⟨j, e1, e2⟩ := atI_len va.len ez
            obtain ⟨w, e3, vw⟩ := va.get e1
            exact .inl ⟨_, _, _, _, rfl, rfl, SqL.of hl, e2 _ e3, p.here hR vw⟩
        · exact False.elim p
      · exact False.elim p
    · rename_i xs eo
      split at p
      · split at p
        · rename_i z ez
          cases b
          cases hR.ob _ _ _ eo ea with
          | fls hl va =>
            obtain ⟨j, e1, e2⟩ := atI_len va.len ez
            obtain ⟨w, e3, vw⟩ := va.get e1
            exact .inl ⟨_, _, _, _, rfl, rfl, hl.sq, e2 _ e3, p.here hR vw⟩
        · exact False.elim p
      · exact False.elim p
    · rename_i d eo
      split at p
      · rename_i hk
        split at p
        · rename_i z ez
          cases hR.ob _ _ _ eo ea with
          | dct hd hv =>
            obtain ⟨q, kq, rfl⟩ := KR.of b hk
            rcases hv.look ok kq with ⟨e1, _⟩ | ⟨x', v', e1, e2, v2⟩
            · rw [e1] at ez
              cases ez
            · rw [e1] at ez
              cases ez
              exact .inr ⟨_, _, rfl, by rw [← e2]; exact DGet.k hd, p.here hR v2⟩
        · exact False.elim p
      · exact False.elim p
    · rename_i d eo
      split at p
      · rename_i hk
        split at p
        · rename_i z ez
          cases hR.ob _ _ _ eo ea with
          | fdc hd hv =>
            obtain ⟨q, kq, rfl⟩ := KR.of b hk
            rcases hv.look ok kq with ⟨e1, _⟩ | ⟨x', v', e1, e2, v2⟩
            · rw [e1] at ez
              cases ez
            · rw [e1] at ez
              cases ez
              exact .inr ⟨_, _, rfl, by rw [← e2]; exact DGet_kf hd, p.here hR v2⟩
        · exact False.elim p
      · exact False.elim p
    · exact False.elim p
  | _ => exact False.elim p
theorem ia_add : PIp X .Add (rI0 fun i j => .int (i + j)) := fun pins s σ H x y v u Q I r1 r2 h => iop_add pins s σ H x y v u Q I r1 r2 h
theorem ia_sub : PIp X .Sub (rI0 fun i j => .int (i - j)) := fun pins s σ H x y v u Q I r1 r2 h => iop_sub pins s σ H x y v u Q I r1 r2 h
theorem ms_subA (ok : G.Ok) (C : XC G E X k) {op : Operator} {t : TIp} {f : Val → Val → Heap → Res Val} (hop : PIp X op t) (hf : Rf2 G E t f) (ho : ME G E X o to mo) (hi : ME G E X b ti mi) (ha : ME G E X a ta ma)
    (hs : ∀ ov iv new, augStore b ov iv new = (do holding [new, ov, iv] (setItem ov iv new); release [new, ov, iv] []; pure .next) := by intros; rfl) :
    MS G E X (.AugAssign (.Subscript o b pos') op a pos) (tAugS to ti ta (rGetA G.K) t rSetA) (sSubA f mo mi ma) := by
  refine ⟨?_, ⟨fun r H h s σ D hR sR p => ho.rf.run r H h s σ _ hR sR (PostS.seqS (sSub_eq p) fun x h1 r1 H1 v s1 hR1 v1 p1 => ?_)⟩⟩
  · have := ps_augS (pos := pos) (tpos := pos') ho.pe hi.pe (get_all (X := X) (by have := C.hu; omega)) ha.pe hop (set_all (by have := C.hu; omega)) hs
    rwa [C.K] at this
  · refine hi.rf.run r1 H1 h1 s σ _ hR1 (sR.mono s1) (p1.seqS fun y h2 r2 H2 w s2 hR2 v2 p2 => ?_)
    refine rf_get (E := E) ok hR2 (v1.mono s2) v2 (p2.seqS fun z h3 r3 H3 w3 s3 hR3 v3 p3 => ?_)
    refine ha.rf.run r3 H3 h3 s σ _ hR3 (sR.mono ((s1.trans s2).trans s3)) (p3.seqS fun y' h4 r4 H4 w4 s4 hR4 v4 p4 => ?_)
    refine hf.run r4 H4 h4 z y' w3 w4 _ hR4 (v3.mono s4) v4 (p4.seqS fun z' h5 r5 H5 w5 s5 hR5 v5 p5 => ?_)
    obtain ⟨_, h6, e6, p6⟩ := thenS_ok p5 (oSet_nr _ _ _ _)
    have sA := (s3.trans s4).trans s5
    refine rf_set ok hR5 (v1.mono (s2.trans sA)) (v2.mono sA) v5 ⟨h6, e6, fun H6 s6 hR6 => ?_⟩
    exact (p6.shift s6).here hR6 (sR.mono (((s1.trans s2).trans sA).trans s6))
where
  sSub_eq {r H s h D} {mo mi me : En → Heap → Res Val} {f : Val → Val → Heap → Res Val} (p : PostS G r H E (sSubA f mo mi me s h) D) : PostS G r H E ((mo s h).thenS fun o h1 => (mi s h1).thenS fun i h2 => (oIxM o i h2).thenS fun x h3 => (me s h3).thenS fun y h4 => (f x y h4).thenS fun z h5 => (oSet o i z h5).thenS fun _ h6 => .nx s h6) D := p
/-! fields -/
theorem FR.len {r : List Addr} {H : Hp} {D : Addr} {fs gs} (q : FR G r H D fs gs) : fs.length = gs.length := by
  induction q with
  | nil => rfl
  | cons _ _ _ _ ih => simp [ih]
theorem FR.put (ok : G.Ok) {r : List Addr} {H : Hp} {D : Addr} {fs gs} (q : FR G r H D fs gs) {f : Nat} {z : Str} {x : Val} {v : V} (hz : G.nms[f]? = some z) (na : NoAttr G.K D z) (hv : VR G r H x v) : FR G r H D (setF f x fs) (putF z v gs) := by
  induction q with
  | nil => exact .cons hz na hv .nil
  | @cons g y x' v' fs gs hy na' hv' _ ih =>
    unfold setF putF
    by_cases e : g = f
    · subst e
      rw [hz] at hy
      cases hy
      rw [if_pos rfl, if_pos rfl]
      exact .cons hz na hv (by assumption)
    · have : ¬ y = z := fun q => e (by
        subst q
        obtain ⟨h1, e1⟩ := List.getElem?_eq_some_iff.mp hy
        obtain ⟨h2, e2⟩ := List.getElem?_eq_some_iff.mp hz
        exact (List.getElem_inj ok.nn).mp (e1.trans e2.symm))
      rw [if_neg e, if_neg this]
      exact .cons hy na' hv' ih
theorem oSetF_nr (d f : Nat) (o x : Val) (h : Heap) : ∀ c h1, oSetF d f o x h ≠ .raised c h1 := by
  intro c h1 e
  unfold oSetF at e
  (repeat' split at e) <;> cases e
theorem rf_setF (ok : G.Ok) {r : List Addr} {H : Hp} {h h1 : Heap} {o x : Val} {ov v : V} {d f : Nat} {B : Addr} {z : Str} (hz : G.nms[f]? = some z) (hB : G.cls[d]? = some B) (na : NoAttr G.K B z) {Q : Hp → Prop} (hR : HR G r H h) (r1 : VR G r H o ov) (r3 : VR G r H x v) (p : oSetF d f o x h = .ok () h1)
    (q : ∀ H1, Stp G.K r H r H1 → HR G r H1 h1 → Q H1) : ∃ a dx fs, ov = .ref a ∧ H a = some (.ins B dx fs) ∧ Cls G.K B ∧ NoAttr G.K B z ∧ fs.length < 1000 ∧ Q (upd H a (.ins B dx (putF z v fs))) := by
  cases r1 with
  | @ref n a ea =>
    simp only [oSetF] at p
    split at p
    · rename_i c fs eo
      split at p
      · rename_i hl
        obtain ⟨rfl, hl⟩ := hl
        cases p
        cases hR.ob _ _ _ eo ea with
        | ins hc hC hH hf =>
          rw [hB] at hc
          cases hc
          have st : ∀ u, Stp G.K r H r (upd H a u) := fun u => Stp.upd fun o e => by rw [hH] at e; cases e; trivial
          refine ⟨_, _, _, rfl, hH, hC, na, by rw [← hf.len]; exact hl, q _ (st _) ?_⟩
          exact hR.write eo rfl ea (fun o e => by rw [hH] at e; cases e; trivial) (.ins hB hC upd_same ((hf.put ok hz na r3).mono (st _))) rfl
      · cases p
    · cases p
  | _ => cases p
theorem ms_fld (ok : G.Ok) (C : XC G E X k) (d f : Nat) {B : Addr} {z : Str} (hz : G.nms[f]? = some z) (hB : G.cls[d]? = some B) (na : NoAttr G.K B z) (ho : ME G E X o to mo) (ha : ME G E X a ta ma) (hs : swapsWith a (some (.Attribute o z pos')) pos.line X.env = pure false := by rfl) :
    MS G E X (.Assign [.Attribute o z pos'] a pos) (L2.sFld G.K to ta z) (sFld d f mo ma) := by
  refine ⟨?_, ⟨fun r H h s σ D hR sR p => ha.rf.run r H h s σ _ hR sR (p.seqS fun x h1 r1 H1 v s1 hR1 v1 p1 => ?_)⟩⟩
  · have := ps_fld ho.pe ha.pe hs
    rwa [C.K] at this
  · refine ho.rf.run r1 H1 h1 s σ _ hR1 (sR.mono s1) (p1.seqS fun y h2 r2 H2 w s2 hR2 v2 p2 => ?_)
    obtain ⟨_, h3, e3, p3⟩ := thenS_ok p2 (oSetF_nr _ _ _ _ _)
    obtain ⟨a', dx', fs', q1, q2, q3, q4, q5, q6⟩ := rf_setF (Q := fun H3 => D.nx σ H3) ok hz hB na hR2 v2 (v1.mono s2) e3 fun H3 s3 hR3 => (p3.shift s3).here hR3 (sR.mono ((s1.trans s2).trans s3))
    exact ⟨a', B, dx', fs', q1, q2, q3, q4, q5, q6⟩
theorem getF_nr (f : Nat) (o : Val) (h : Heap) : ∀ c h1, getF f o h ≠ .raised c h1 := by
  intro c h1 e
  unfold getF at e
  (repeat' split at e) <;> cases e
theorem getF_ok {f : Nat} {o x : Val} {h h1 : Heap} (p : getF f o h = .ok x h1) : ∃ n c fs, o = .ref n ∧ h[n]? = some (.ins c fs) ∧ lookF f fs = some x ∧ h1 = h := by
  unfold getF at p
  split at p
  · split at p
    · rename_i c fs eo
      split at p
      · rename_i v ev
        cases p
        exact ⟨_, c, fs, rfl, eo, ev, rfl⟩
      · cases p
    · cases p
  · cases p
theorem ms_fldA (ok : G.Ok) (C : XC G E X k) (d f : Nat) {B : Addr} {z : Str} (hz : G.nms[f]? = some z) (hB : G.cls[d]? = some B) (na : NoAttr G.K B z) {op : Operator} {t : TIp} {g : Val → Val → Heap → Res Val} (hop : PIp X op t) (hg : Rf2 G E t g)
    (ho : ME G E X o to mo) (ha : ME G E X a ta ma) : MS G E X (.AugAssign (.Attribute o z pos') op a pos) (sFldAug G.K to ta t z) (sFldA d f g mo ma) := by
  refine ⟨?_, ⟨fun r H h s σ D hR sR p => ho.rf.run r H h s σ _ hR sR (p.seqS fun x h1 r1 H1 v s1 hR1 v1 p1 => ?_)⟩⟩
  · have := ps_fldaug (pos := pos) (tpos := pos') (f := z) (rd := t) ho.pe ha.pe (fun pins s σ H x y u v Q I r1 r2 h => hop pins s σ H x y u v Q I r1 r2 h)
    rwa [C.K] at this
  · obtain ⟨y, h2, e2, p2⟩ := thenS_ok p1 (by
      intro c h
      split
      · exact getF_nr _ _ _ _ _
      · exact fun q => by cases q)
    split at e2
    · rename_i hi
      obtain ⟨n, c, fs, rfl, eo, el, rfl⟩ := getF_ok e2
      simp only [isIns, eo, beq_iff_eq] at hi
      subst hi
      cases v1 with
      | ref ea =>
        cases hR1.ob _ _ _ eo ea with
        | ins hc hC hH hf =>
          rw [hB] at hc
          cases hc
          rcases hf.look ok hz with ⟨e1, _⟩ | ⟨x', v', e1, e2', v2, na'⟩
          · rw [e1] at el
            cases el
          · rw [e1] at el
            cases el
            refine ⟨_, _, _, _, _, rfl, hH, hC, na', e2', ?_⟩
            refine ha.rf.run r1 H1 h2 s σ _ hR1 (sR.mono s1) (p2.seqS fun y' h4 r4 H4 w4 s4 hR4 v4 p4 => ?_)
            refine hg.run r4 H4 h4 _ y' v' w4 _ hR4 (v2.mono s4) v4 (p4.seqS fun z' h5 r5 H5 w5 s5 hR5 v5 p5 => ?_)
            obtain ⟨_, h6, e6, p6⟩ := thenS_ok p5 (oSetF_nr _ _ _ _ _)
            obtain ⟨a', dx', fs', q1, q2, q3, q4, q5, q6⟩ := rf_setF (Q := fun H6 => D.nx σ H6) ok hz hB na hR5 (.ref ((s4.trans s5).pre _ _ ea)) v5 e6 fun H6 s6 hR6 => (p6.shift s6).here hR6 (sR.mono (s1.trans (s4.trans (s5.trans s6))))
            cases q1
            exact ⟨dx', fs', q2, q5, q6⟩
    · cases e2
theorem ms_aug (i : Nat) {x : Str} {op : Operator} {t : TIp} {g : Val → Val → Heap → Res Val} (hop : PIp X op t) (hg : Rf2 G E t g) (hN : X.N.Nodup) (ha : ME G E X a ta ma) (hi : X.N[i]? = some x := by rfl) (hx : Loc X.env.scope x := by first | exact Or.inl rfl | exact Or.inr rfl)
    (hf : X.fn x = true ∨ X.env.scope.names.lookup x = some .local := by first | exact .inl rfl | exact .inr rfl | assumption) : MS G E X (.AugAssign (.Name x pos') op a pos) (tAug i ta t) (sAug i g ma) := by
  refine ⟨ps_aug hN hi hx ha.pe hop hf, ⟨fun r H h s σ D hR sR p => ?_⟩⟩
  unfold sAug at p
  split at p
  · rename_i x' e
    obtain ⟨v, ev, vR⟩ := sR.get e
    refine ⟨v, ev, ?_⟩
    refine ha.rf.run r H h s σ _ hR sR (p.seqS fun y h1 r1 H1 w s1 hR1 v1 p1 => ?_)
    refine hg.run r1 H1 h1 _ y v w _ hR1 (vR.mono s1) v1 (p1.seqS fun z h2 r2 H2 w2 s2 hR2 v2 p2 => ?_)
    exact p2.here hR2 ((sR.mono (s1.trans s2)).set v2 i)
  · exact False.elim p
end
end PyM

set_option Elab.async false
set_option linter.all false
set_option maxRecDepth 100000
set_option autoImplicit false
namespace PyM
open PySem L2

/-! ### what a loop walks -/
structure Src where
  items : List Val
  chk : Heap → Bool
abbrev MI := En → Heap → Res Src
/-- the source lies under the layer's iterator J -/
structure ItOk (G : Cfg) (r : List Addr) (H : Hp) (J : It) (S : Src) : Prop where
  stop : ∀ r2 H2 h2, Stp G.K r H r2 H2 → HR G r2 H2 h2 → S.chk h2 = true → J.stop S.items.length H2
  go : ∀ r2 H2 h2 (i : Nat) (x : Val), Stp G.K r H r2 H2 → HR G r2 H2 h2 → S.chk h2 = true → S.items[i]? = some x →
    J.go i H2 ∧ ∀ v H3, J.yld i H2 v H3 → ∃ r3, Stp G.K r2 H2 r3 H3 ∧ HR G r3 H3 h2 ∧ VR G r3 H3 x v
structure RfI (G : Cfg) (E : XK) (t : TI) (m : MI) : Prop where
  run : ∀ r H h s σ (R : It → Hp → Prop), HR G r H h → SR G r H s σ → PostR G (fun r1 H1 (S : Src) (J : It) => ItOk G r1 H1 J S) r H E (m s h) R → t σ H R
structure MIt (G : Cfg) (E : XK) (X : Cx) (tg e : Expr) (t : TI) (m : MI) : Prop where
  pe : PI X tg e t
  rf : RfI G E t m
def lstIs (a : Nat) (xs : List Val) (h : Heap) : Bool := match h[a]? with
  | some (.lst ys) => decide (ys = xs)
  | some (.fls ys) => decide (ys = xs)
  | _ => false
def iSeq (m : En → Heap → Res Val) : MI := fun s h => (m s h).bind fun x h1 => match x with
  | .tup xs => .ok ⟨xs, fun _ => true⟩ h1
  | .ref a => match h1[a]? with
    | some (.lst xs) => .ok ⟨xs, lstIs a xs⟩ h1
    | some (.fls xs) => .ok ⟨xs, lstIs a xs⟩ h1
    | _ => .stuck
  | _ => .stuck
def iLst (m : En → Heap → Res Val) : MI := fun s h => (m s h).bind fun x h1 => match x with
  | .ref a => match h1[a]? with
    | some (.lst xs) => .ok ⟨xs, lstIs a xs⟩ h1
    | some (.fls xs) => .ok ⟨xs, lstIs a xs⟩ h1
    | _ => .stuck
  | _ => .stuck
def iTup_ (m : En → Heap → Res Val) : MI := fun s h => (m s h).bind fun x h1 => match x with
  | .tup xs => .ok ⟨xs, fun _ => true⟩ h1
  | _ => .stuck
def rangeV (lo : Int) (n : Nat) : List Val := (List.range n).map fun (i : Nat) => Val.int (lo + (i : Int))
def iRng1 (m : En → Heap → Res (List Val)) : MI := fun s h => (m s h).bind fun xs h1 => match xs with
  | [.int j] => if -(2 ^ 62) ≤ j ∧ j < 2 ^ 62 then .ok ⟨rangeV 0 j.toNat, fun _ => true⟩ h1 else .stuck
  | _ => .stuck
def iRng2 (m : En → Heap → Res (List Val)) : MI := fun s h => (m s h).bind fun xs h1 => match xs with
  | [.int i, .int j] => if -(2 ^ 62) ≤ i ∧ i < 2 ^ 62 ∧ -(2 ^ 62) ≤ j ∧ j < 2 ^ 62 then .ok ⟨rangeV i (j - i).toNat, fun _ => true⟩ h1 else .stuck
  | _ => .stuck
def iAlt (m n : MI) : MI := fun s h => match m s h with
  | .stuck => n s h
  | x => x
section
variable {G : Cfg} {E : XK} {X : Cx} {k : Nat} {a b c e tg : Expr} {es : List Expr} {ta tb tc : TE} {ma mb mc : En → Heap → Res Val} {pos p : Pos} {tA : TA} {mA : En → Heap → Res (List Val)}
theorem rangeV_get {lo : Int} {n i : Nat} : (rangeV lo n)[i]? = if i < n then some (.int (lo + (i : Int))) else none := by
  unfold rangeV
  rw [List.getElem?_map]
  by_cases h : i < n
  · rw [if_pos h, List.getElem?_range h]
    rfl
  · rw [if_neg h, List.getElem?_eq_none (by simpa using h)]
    rfl
theorem itl_ok {r1 : List Addr} {H1 : Hp} {ad : Addr} {xs : List Val} {n : Nat} (ea : r1[n]? = some ad) : ItOk G r1 H1 (Itl G.K ad) ⟨xs, lstIs n xs⟩ := by
  have key : ∀ r2 H2 h2, Stp G.K r1 H1 r2 H2 → HR G r2 H2 h2 → lstIs n xs h2 = true → ∃ vs, SqL G.K H2 ad vs ∧ VRs G r2 H2 xs vs := by
    intro r2 H2 h2 hp hR hc
    unfold lstIs at hc
    split at hc
    · rename_i ys eo
      have : ys = xs := by simpa using hc
      subst this
      cases hR.ob _ _ _ eo (hp.pre _ _ ea) with
      | lst hl hv => exact ⟨_, SqL.of hl, hv⟩
    · rename_i ys eo
      have : ys = xs := by simpa using hc
      subst this
      cases hR.ob _ _ _ eo (hp.pre _ _ ea) with
      | fls hl hv => exact ⟨_, hl.sq, hv⟩
    · cases hc
  refine ⟨fun r2 H2 h2 hp hR hc => ?_, fun r2 H2 h2 i x hp hR hc hx => ?_⟩
  · obtain ⟨vs, h1, h2⟩ := key r2 H2 h2 hp hR hc
    exact ⟨vs, h1, Nat.le_of_eq h2.len.symm⟩
  · obtain ⟨vs, h1, h2⟩ := key r2 H2 h2 hp hR hc
    obtain ⟨v, ev, vv⟩ := h2.get hx
    refine ⟨⟨vs, v, h1, ev⟩, fun v' H3 hy => ?_⟩
    obtain ⟨rfl, hy⟩ := hy
    have := hy vs h1
    rw [ev] at this
    cases this
    exact ⟨r2, Stp.refl, hR, vv⟩
theorem mi_lst (C : XC G E X k) (ha : ME G E X a ta ma) : MIt G E X tg a (iList G.K ta) (iLst ma) := by
  refine ⟨?_, ⟨fun r H h s σ R hR sR p => ha.rf.run r H h s σ _ hR sR (p.seq fun x h1 r1 H1 v s1 hR1 v1 p1 => ?_)⟩⟩
  · have := pi_list (tg := tg) ha.pe
    rwa [C.K] at this
  · cases v1 with
    | @ref n ad ea =>
      simp only at p1
      split at p1
      · rename_i xs eo
        cases hR1.ob _ _ _ eo ea with
        | lst hl hv => exact ⟨_, rfl, ⟨_, SqL.of hl⟩, p1.here hR1 (itl_ok ea)⟩
      · rename_i xs eo
        cases hR1.ob _ _ _ eo ea with
        | fls hl hv => exact ⟨_, rfl, ⟨_, hl.sq⟩, p1.here hR1 (itl_ok ea)⟩
      · exact False.elim p1
    | _ => exact False.elim p1
theorem itr_ok {r1 : List Addr} {H1 : Hp} {lo : Int} {n : Nat} : ItOk G r1 H1 (Itr lo n) ⟨rangeV lo n, fun _ => true⟩ := by
  refine ⟨fun r2 H2 h2 _ _ _ => ?_, fun r2 H2 h2 i x _ hR2 _ hx => ?_⟩
  · show n ≤ (rangeV lo n).length
    simp [rangeV]
  · have hx : (rangeV lo n)[i]? = some x := hx
    rw [rangeV_get] at hx
    split at hx
    · rename_i hi
      cases hx
      refine ⟨hi, fun v H3 hy => ?_⟩
      obtain ⟨rfl, rfl⟩ := hy
      exact ⟨r2, Stp.refl, hR2, .int _⟩
    · cases hx
theorem mi_rng1 (hm : X.mg "range" = none) (ha : MA G E X [a] tA mA) (hg : Gl X "range" := by rfl) (hs : starEach [a] X.env = [(false, eval a X.env)] := by rfl) : MIt G E X tg (.Call (.Name "range" p) [a] [] pos) (L2.iRng1 tA) (iRng1 mA) := by
  refine ⟨pi_range1 hg hm ha.pe hs, ⟨fun r H h s σ R hR sR p => ha.rf.run r H h s σ _ hR sR (p.seq fun x h1 r1 H1 v s1 hR1 v1 p1 => ?_)⟩⟩
  split at p1
  · rename_i j
    cases v1 with
    | cons q1 q2 =>
      cases q1
      cases q2
      split at p1
      · rename_i hj
        exact ⟨j, rfl, hj.1, hj.2, p1.here hR1 itr_ok⟩
      · exact False.elim p1
  · exact False.elim p1
theorem mi_rng2 (hm : X.mg "range" = none) (ha : MA G E X [a, b] tA mA) (hg : Gl X "range" := by rfl) (hs : starEach [a, b] X.env = [(false, eval a X.env), (false, eval b X.env)] := by rfl) (hs2 : starEach [b] X.env = [(false, eval b X.env)] := by rfl) :
    MIt G E X tg (.Call (.Name "range" p) [a, b] [] pos) (L2.iRng2 tA) (iRng2 mA) := by
  refine ⟨pi_range2 hg hm ha.pe hs hs2, ⟨fun r H h s σ R hR sR p => ha.rf.run r H h s σ _ hR sR (p.seq fun x h1 r1 H1 v s1 hR1 v1 p1 => ?_)⟩⟩
  split at p1
  · rename_i i j
    cases v1 with
    | cons q1 q2 => cases q2 with
      | cons q3 q4 =>
        cases q1
        cases q3
        cases q4
        split at p1
        · rename_i hj
          exact ⟨i, j, rfl, hj, p1.here hR1 itr_ok⟩
        · exact False.elim p1
  · exact False.elim p1
theorem itt_ok {r1 : List Addr} {H1 : Hp} {ad : Addr} {xs : List Val} {vs : List V} (hs : SqT G.K H1 ad vs) (hv : VRs G r1 H1 xs vs) : ItOk G r1 H1 (Itt G.K ad) ⟨xs, fun _ => true⟩ := by
  refine ⟨fun r2 H2 h2 hp _ _ => ⟨vs, hp.tup _ _ hs, Nat.le_of_eq hv.len.symm⟩, fun r2 H2 h2 i x hp hR2 _ hx => ?_⟩
  obtain ⟨v, ev, vv⟩ := hv.get hx
  refine ⟨⟨vs, v, hp.tup _ _ hs, ev⟩, fun v' H3 hy => ?_⟩
  obtain ⟨rfl, hy⟩ := hy
  have := hy vs (hp.tup _ _ hs)
  rw [ev] at this
  cases this
  exact ⟨r2, Stp.refl, hR2, vv.mono hp⟩
theorem mi_tup (C : XC G E X k) (ha : ME G E X a ta ma) : MIt G E X tg a (iTup G.K ta) (iTup_ ma) := by
  refine ⟨?_, ⟨fun r H h s σ R hR sR p => ha.rf.run r H h s σ _ hR sR (p.seq fun x h1 r1 H1 v s1 hR1 v1 p1 => ?_)⟩⟩
  · have := pi_tup (tg := tg) ha.pe
    rwa [C.K] at this
  · cases v1 with
    | tup hs hv => exact ⟨_, rfl, ⟨_, hs⟩, p1.here hR1 (itt_ok hs hv)⟩
    | _ => exact False.elim p1
theorem pi_or {tg e : Expr} {t t' : TI} (h : PI X tg e t) (h' : PI X tg e t') : PI X tg e (fun σ H R => t σ H R ∨ t' σ H R) := ⟨fun pins s σ H R I q => q.elim (h.run pins s σ H R I) (h'.run pins s σ H R I)⟩
theorem mi_alt {t t' : TI} {m m' : MI} (h : MIt G E X tg e t m) (h' : MIt G E X tg e t' m') : MIt G E X tg e (fun σ H R => t σ H R ∨ t' σ H R) (iAlt m m') := by
  refine ⟨pi_or h.pe h'.pe, ⟨fun r H hh s σ Q hR sR p => ?_⟩⟩
  unfold iAlt at p
  cases q : m s hh with
  | stuck => rw [q] at p; exact .inr (h'.rf.run r H hh s σ Q hR sR p)
  | ok x y => rw [q] at p; exact .inl (h.rf.run r H hh s σ Q hR sR (by rw [q]; exact p))
  | raised x y => rw [q] at p; exact .inl (h.rf.run r H hh s σ Q hR sR (by rw [q]; exact p))

/-! ### for -/
end
def forM_ (chk : Heap → Bool) (tg : Val → En → Option En) (body : En → Heap → RS) : List Val → En → Heap → RS
  | [], s, h => if chk h = true then .nx s h else .stuck
  | x :: xs, s, h => if chk h = true then match tg x s with
      | some s1 => match body s1 h with
        | .nx s2 h2 => forM_ chk tg body xs s2 h2
        | .ct s2 h2 => forM_ chk tg body xs s2 h2
        | .bk s2 h2 => .nx s2 h2
        | y => y
      | none => .stuck
    else .stuck
def sFor (mi : MI) (tg : Val → En → Option En) (body : En → Heap → RS) (s : En) (h : Heap) : RS := (mi s h).thenS fun S h1 => forM_ S.chk tg body S.items s h1
def whM (c : En → Heap → Res Bool) (body : En → Heap → RS) : Nat → En → Heap → RS
  | 0, _, _ => .stuck
  | n + 1, s, h => (c s h).thenS fun b h1 => if b = true then match body s h1 with
      | .nx s2 h2 => whM c body n s2 h2
      | .ct s2 h2 => whM c body n s2 h2
      | .bk s2 h2 => .nx s2 h2
      | y => y
    else .nx s h1
def wipeE (s : En) : List Nat → En
  | [] => s
  | v :: vs => (wipeE s vs).set v none
def lcM (chk : Heap → Bool) (tg : Val → En → Option En) (mt : En → Heap → Res Bool) (me : En → Heap → Res Val) (s0 : En) (n : Nat) : List Val → Heap → Res Unit
  | [], h => if chk h = true then .ok () h else .stuck
  | x :: xs, h => if chk h = true then match tg x s0 with
      | some s2 => match mt s2 h with
        | .ok b h1 => if b = true then match me s2 h1 with
            | .ok y h2 => match h2[n]? with
              | some (.lst acc) => if acc.length < lim then lcM chk tg mt me s0 n xs (h2.set n (.lst (acc ++ [y]))) else .stuck
              | _ => .stuck
            | _ => .stuck
          else lcM chk tg mt me s0 n xs h1
        | _ => .stuck
      | none => .stuck
    else .stuck
def mLc (mi : MI) (tg : Val → En → Option En) (mt : En → Heap → Res Bool) (me : En → Heap → Res Val) (vs : List Nat) (s : En) (h : Heap) : Res Val := (mi s h).bind fun S h1 => (lcM S.chk tg mt me (wipeE s vs) h1.length S.items (h1 ++ [.lst []])).bind fun _ h2 => .ok (.ref h1.length) h2
section
variable {G : Cfg} {E : XK} {X : Cx} {k : Nat} {a b c e tg iter elt : Expr} {es ifs : List Expr} {ta tb te : TE} {ma mb me : En → Heap → Res Val} {pos p : Pos} {tA : TA} {mA : En → Heap → Res (List Val)} {wi : TI} {mi : MI} {g : TG} {mg : Val → En → Option En}
  {sts : List Stmt} {t : TS} {m : En → Heap → RS} {tt : TT} {mt : En → Heap → Res Bool}
theorem rf_for (hi : RfI G E wi mi) (hg : RfG G g mg) (hb : RfS G E t m) : RfS G E (tFor wi g t) (sFor mi mg m) := by
  refine ⟨fun r H h s σ D hR sR p => hi.run r H h s σ _ hR sR (p.seqS fun S h1 r1 H1 J s1 hR1 J1 p1 => ?_)⟩
  refine ⟨fun i mm σ' H' => ∃ r' h' s', Stp G.K r1 H1 r' H' ∧ HR G r' H' h' ∧ SR G r' H' s' σ' ∧ mm = S.items.length - i ∧ i ≤ S.items.length ∧ PostS G r' H' E (forM_ S.chk mg m (S.items.drop i) s' h') D, ⟨_, r1, h1, s, Stp.refl, hR1, sR.mono s1, rfl, Nat.zero_le _, p1⟩, ?_⟩
  rintro i mm σ' H' ⟨r', h', s', st, hR', sR', rfl, hle, p'⟩
  cases hd : S.items.drop i with
  | nil =>
    have hi : i = S.items.length := by
      have := List.drop_eq_nil_iff.mp hd
      omega
    rw [hd] at p'
    unfold forM_ at p'
    split at p'
    · rename_i hc
      subst hi
      exact .inl ⟨J1.stop r' H' h' st hR' hc, p'.here hR' sR'⟩
    · exact False.elim p'
  | cons x rest =>
    have hlt : i < S.items.length := by
      refine Decidable.byContradiction fun q => ?_
      rw [List.drop_eq_nil_of_le (by omega)] at hd
      cases hd
    have hx : S.items[i]? = some x := by
      have := congrArg (fun l => l[0]?) hd
      simpa using this
    have hr : S.items.drop (i + 1) = rest := by
      rw [← List.drop_drop (i := 1) (j := i), hd]
      rfl
    rw [hd] at p'
    unfold forM_ at p'
    split at p'
    · rename_i hc
      obtain ⟨hgo, hy⟩ := J1.go r' H' h' i x st hR' hc hx
      refine .inr ⟨hgo, fun σ2 H2 => ∃ r2 h2 s2, Stp G.K r1 H1 r2 H2 ∧ HR G r2 H2 h2 ∧ SR G r2 H2 s2 σ2 ∧ PostS G r2 H2 E (forM_ S.chk mg m rest s2 h2) D, ?_, ?_⟩
      · rintro σ2 H2 ⟨r2, h2, s2, q1, q2, q3, q4⟩
        exact ⟨_, by omega, r2, h2, s2, q1, q2, q3, rfl, by omega, by rw [hr]; exact q4⟩
      · intro v H3 hyl
        obtain ⟨r3, st3, hR3, vR⟩ := hy v H3 hyl
        cases e1 : mg x s' with
        | none => rw [e1] at p'; exact False.elim p'
        | some s1' =>
          rw [e1] at p'
          refine hg.run r3 H3 s' σ' x v _ (sR'.mono st3) vR ⟨s1', e1, fun σ1 sR1 => ?_⟩
          refine hb.run r3 H3 h' s1' σ1 _ hR3 sR1 ?_
          simp only at p'
          cases e2 : m s1' h' with
          | nx s2 h2 =>
            rw [e2] at p'
            exact fun r4 H4 t4 st4 hR4 sR4 => ⟨r4, h2, s2, st.trans (st3.trans st4), hR4, sR4, p'.shift (st3.trans st4)⟩
          | ct s2 h2 =>
            rw [e2] at p'
            exact fun r4 H4 t4 st4 hR4 sR4 => ⟨r4, h2, s2, st.trans (st3.trans st4), hR4, sR4, p'.shift (st3.trans st4)⟩
          | bk s2 h2 =>
            rw [e2] at p'
            exact fun r4 H4 t4 st4 hR4 sR4 => p' r4 H4 t4 (st3.trans st4) hR4 sR4
          | rt v2 h2 =>
            rw [e2] at p'
            exact fun r4 H4 t4 st4 hR4 sR4 => p' r4 H4 t4 (st3.trans st4) hR4 sR4
          | raised c2 h2 =>
            rw [e2] at p'
            exact fun r4 H4 t4 st4 hR4 sR4 => p' r4 H4 t4 (st3.trans st4) hR4 sR4
          | stuck =>
            rw [e2] at p'
            exact p'
    · exact False.elim p'
theorem ms_for (C : XC G E X k) (hi : MIt G E X tg iter wi mi) (hg : MG G X tg g mg) (hb : MSs G E X sts t m) (hs : ∀ x, foldedSetIterable iter X.env x = pure x := by intro _; rfl) : MS G E X (.For tg iter sts [] pos) (tFor wi g t) (sFor mi mg m) :=
  ⟨ps_for C.own C.calm hi.pe hg.pe hb.pe hs, rf_for hi.rf hg.rf hb.rf⟩
theorem rf_while (n : Nat) (hc : RfT G E tt mt) (hb : RfS G E t m) : RfS G E (tWhile tt t) (whM mt m n) := by
  refine ⟨fun r H h s σ D hR sR p => ?_⟩
  refine ⟨fun mm σ' H' => ∃ r' h' s', Stp G.K r H r' H' ∧ HR G r' H' h' ∧ SR G r' H' s' σ' ∧ PostS G r' H' E (whM mt m mm s' h') D, ⟨n, r, h, s, Stp.refl, hR, sR, p⟩, ?_⟩
  rintro mm σ' H' ⟨r', h', s', st, hR', sR', p'⟩
  cases mm with
  | zero => exact False.elim p'
  | succ mm =>
    unfold whM at p'
    refine hc.run r' H' h' s' σ' _ hR' sR' (p'.seqS fun b h1 r1 H1 v s1 hR1 v1 p1 => ?_)
    subst v1
    split at p1
    · rename_i hb1
      rw [if_pos hb1]
      refine ⟨fun σ2 H2 => ∃ r2 h2 s2, Stp G.K r H r2 H2 ∧ HR G r2 H2 h2 ∧ SR G r2 H2 s2 σ2 ∧ PostS G r2 H2 E (whM mt m mm s2 h2) D, fun σ2 H2 q => ⟨mm, Nat.lt_succ_self _, q⟩, ?_⟩
      refine hb.run r1 H1 h1 s' σ' _ hR1 (sR'.mono s1) ?_
      cases e2 : m s' h1 with
      | nx s2 h2 =>
        rw [e2] at p1
        exact fun r4 H4 t4 st4 hR4 sR4 => ⟨r4, h2, s2, st.trans (s1.trans st4), hR4, sR4, PostS.shift st4 p1⟩
      | ct s2 h2 =>
        rw [e2] at p1
        exact fun r4 H4 t4 st4 hR4 sR4 => ⟨r4, h2, s2, st.trans (s1.trans st4), hR4, sR4, PostS.shift st4 p1⟩
      | bk s2 h2 =>
        rw [e2] at p1
        exact p1
      | rt v2 h2 =>
        rw [e2] at p1
        exact p1
      | raised c2 h2 =>
        rw [e2] at p1
        exact p1
      | stuck =>
        rw [e2] at p1
        exact p1
    · rename_i hb1
      rw [if_neg hb1]
      exact p1.here hR1 (sR'.mono s1)
theorem ms_while (n : Nat) (C : XC G E X k) (hc : MT G E X c tt mt) (hb : MSs G E X sts t m) : MS G E X (.While c sts [] pos) (tWhile tt t) (whM mt m n) :=
  ⟨ps_while C.own hc.pe hb.pe, rf_while n hc.rf hb.rf⟩

/-! ### list comprehensions -/
theorem SR.setN {r : List Addr} {H : Hp} {s : En} {t : L2.St} (q : SR G r H s t) : ∀ (i : Nat), SR G r H (s.set i none) (t.set i none) := by
  induction q with
  | nil => exact fun _ => .nil
  | no q ih => exact fun i => match i with
    | 0 => .no q
    | i + 1 => .no (ih i)
  | so b q ih => exact fun i => match i with
    | 0 => .no q
    | i + 1 => .so b (ih i)
theorem SR.wipe {r : List Addr} {H : Hp} {s : En} {t : L2.St} (q : SR G r H s t) : ∀ vs : List Nat, SR G r H (wipeE s vs) (L2.wipe t vs)
  | [] => q
  | v :: vs => (SR.wipe q vs).setN v
/-- a comprehension's target stores its own slots alone -/
structure TgW (vs : List Nat) (g : TG) : Prop where
  run : ∀ v σ σ0 H (Q : L2.St → Hp → Prop), L2.wipe σ vs = σ0 → g v σ H Q → g v σ H fun σ2 H2 => L2.wipe σ2 vs = σ0 ∧ Q σ2 H2
structure TgWs (vs : List Nat) (g : TGs) : Prop where
  run : ∀ v σ σ0 H (Q : L2.St → Hp → Prop), L2.wipe σ vs = σ0 → g v σ H Q → g v σ H fun σ2 H2 => L2.wipe σ2 vs = σ0 ∧ Q σ2 H2
theorem wipe_get (σ : L2.St) : ∀ (vs : List Nat) (i : Nat), (L2.wipe σ vs)[i]? = if i ∈ vs then (if i < σ.length then some none else none) else σ[i]?
  | [], i => by simp [L2.wipe]
  | v :: vs, i => by
    unfold L2.wipe
    rw [List.getElem?_set, wipe_length]
    by_cases h : v = i
    · subst h
      simp
    · have h' : ¬ i = v := fun e => h e.symm
      rw [if_neg h, wipe_get σ vs i]
      simp [h']
theorem wipe_set {σ : L2.St} {vs : List Nat} {i : Nat} {o : Option V} (hi : i ∈ vs) : L2.wipe (σ.set i o) vs = L2.wipe σ vs := by
  apply List.ext_getElem?
  intro j
  rw [wipe_get, wipe_get, List.length_set]
  by_cases h : j ∈ vs
  · rw [if_pos h, if_pos h]
  · rw [if_neg h, if_neg h, List.getElem?_set_ne (fun e => h (by rw [← e]; exact hi))]
theorem wipe_wipe {σ : L2.St} {vs : List Nat} : L2.wipe (L2.wipe σ vs) vs = L2.wipe σ vs := by
  apply List.ext_getElem?
  intro j
  rw [wipe_get, wipe_get, wipe_length]
  by_cases h : j ∈ vs <;> simp [h]
theorem tgw_name {vs : List Nat} {i : Nat} (hi : i ∈ vs) : TgW vs (gName i) := ⟨fun v σ σ0 H Q e q => ⟨by rw [wipe_set hi]; exact e, q⟩⟩
theorem tgws_nil {vs : List Nat} : TgWs vs gNil := ⟨fun v σ σ0 H Q e q => ⟨q.1, e, q.2⟩⟩
theorem tgws_cons {vs : List Nat} {g : TG} {gs : TGs} (h : TgW vs g) (hs : TgWs vs gs) (mono : ∀ v σ H (Q Q' : L2.St → Hp → Prop), (∀ σ H, Q σ H → Q' σ H) → g v σ H Q → g v σ H Q') : TgWs vs (gCons g gs) := by
  refine ⟨fun v σ σ0 H Q e ⟨x, r, e1, q⟩ => ⟨x, r, e1, ?_⟩⟩
  exact mono _ _ _ _ _ (fun σ2 H2 z => hs.run r σ2 σ0 H2 Q z.1 z.2) (h.run x σ σ0 H _ e q)
theorem tgw_tup {K : PySem.W.Frag} {vs : List Nat} {n : Nat} {gs : TGs} (h : TgWs vs gs) : TgW vs (gTup K n gs) := ⟨fun v σ σ0 H Q e ⟨a, xs, e1, e2, e3, q⟩ => ⟨a, xs, e1, e2, e3, h.run xs σ σ0 H Q e q⟩⟩
theorem mono_name {i : Nat} : ∀ v σ H (Q Q' : L2.St → Hp → Prop), (∀ σ H, Q σ H → Q' σ H) → gName i v σ H Q → gName i v σ H Q' := fun _ _ _ _ _ f q => f _ _ q
abbrev E0 : XK := L2.E0
theorem rf_lc {vs : List Nat} (hi : RfI G E wi mi) (hg : RfG G g mg) (hw : TgW vs g) (ht : RfT G E0 tt mt) (he : Rf G E0 te me) : Rf G E (tLc wi g tt te vs) (mLc mi mg mt me vs) := by
  refine ⟨fun r H h s σ Q hR sR p => hi.run r H h s σ _ hR sR (p.seq fun S h1 r1 H1 J s1 hR1 J1 p1 => ?_)⟩
  intro D hD
  have st0 : Stp G.K r1 H1 (r1 ++ [D]) (upd H1 D (.lst [])) := Stp.new hD
  have hR0 : HR G (r1 ++ [D]) (upd H1 D (.lst [])) (h1 ++ [.lst []]) := hR1.push hD (.lst upd_same .nil)
  have rD : (r1 ++ [D])[h1.length]? = some D := by rw [← hR1.len]; simp
  have sR1 := ((sR.mono s1).mono st0).wipe vs
  refine ⟨fun i mm H' => ∃ r' h', Stp G.K (r1 ++ [D]) (upd H1 D (.lst [])) r' H' ∧ HR G r' H' h' ∧ mm = S.items.length - i ∧ i ≤ S.items.length ∧
    PostR G (VR G) r' H' E ((lcM S.chk mg mt me (wipeE s vs) h1.length (S.items.drop i) h').bind fun _ h2 => .ok (.ref h1.length) h2) Q, ⟨_, _, _, Stp.refl, hR0, rfl, Nat.zero_le _, p1.shift st0⟩, ?_⟩
  rintro i mm H' ⟨r', h', st, hR', rfl, hle, p'⟩
  have stA := st0.trans st
  cases hd : S.items.drop i with
  | nil =>
    have hi : i = S.items.length := by
      have := List.drop_eq_nil_iff.mp hd
      omega
    rw [hd] at p'
    unfold lcM at p'
    split at p'
    · rename_i hc
      subst hi
      exact .inl ⟨J1.stop r' H' h' stA hR' hc, p'.here hR' (.ref (st.pre _ _ rD))⟩
    · exact False.elim p'
  | cons x rest =>
    have hlt : i < S.items.length := by
      refine Decidable.byContradiction fun q => ?_
      rw [List.drop_eq_nil_of_le (by omega)] at hd
      cases hd
    have hx : S.items[i]? = some x := by
      have := congrArg (fun l => l[0]?) hd
      simpa using this
    have hr : S.items.drop (i + 1) = rest := by
      rw [← List.drop_drop (i := 1) (j := i), hd]
      rfl
    rw [hd] at p'
    unfold lcM at p'
    split at p'
    · rename_i hc
      obtain ⟨hgo, hy⟩ := J1.go r' H' h' i x stA hR' hc hx
      refine .inr ⟨hgo, fun H2 => ∃ r2 h2, Stp G.K (r1 ++ [D]) (upd H1 D (.lst [])) r2 H2 ∧ HR G r2 H2 h2 ∧ PostR G (VR G) r2 H2 E ((lcM S.chk mg mt me (wipeE s vs) h1.length rest h2).bind fun _ h2 => .ok (.ref h1.length) h2) Q, ?_, ?_⟩
      · rintro H2 ⟨r2, h2, q1, q2, q4⟩
        exact ⟨_, by omega, r2, h2, q1, q2, rfl, by omega, by rw [hr]; exact q4⟩
      · intro v H3 hyl
        obtain ⟨r3, st3, hR3, vR⟩ := hy v H3 hyl
        refine hw.run v _ _ H3 _ wipe_wipe ?_
        cases e1 : mg x (wipeE s vs) with
        | none => rw [e1] at p'; exact False.elim p'
        | some s2 =>
          rw [e1] at p'
          refine hg.run r3 H3 _ _ x v _ ((sR1.mono st).mono st3) vR ⟨s2, e1, fun σ2 sR2 => ?_⟩
          refine ht.run r3 H3 h' s2 σ2 _ hR3 sR2 ?_
          simp only at p'
          cases e2 : mt s2 h' with
          | ok b h4 =>
            rw [e2] at p'
            intro r4 H4 b' st4 hR4 eb
            subst eb
            simp only at p'
            split at p'
            · rename_i hb
              rw [if_pos hb]
              refine he.run r4 H4 h4 s2 σ2 _ hR4 (sR2.mono st4) ?_
              cases e3 : me s2 h4 with
              | ok y h5 =>
                rw [e3] at p'
                intro r5 H5 y' st5 hR5 vy
                simp only at p'
                split at p'
                · rename_i acc eacc
                  have st5' := (st3.trans st4).trans st5
                  have rD5 := (st.trans st5').pre _ _ rD
                  cases hR5.ob _ _ _ eacc rD5 with
                  | @lst _ us _ hl hv =>
                    split at p'
                    · rename_i hlen
                      have stU : ∀ u, Stp G.K r5 H5 r5 (upd H5 D u) := fun u => Stp.upd fun o e => by rw [hl] at e; cases e; trivial
                      refine ⟨us, hl, lt_line (by rw [← hv.len]; exact hlen), r5, _, (st.trans st5').trans (stU _), hR5.write eacc rfl rD5 (fun o e => by rw [hl] at e; cases e; trivial) (.lst upd_same ?_) rfl, p'.shift (st5'.trans (stU _))⟩
                      exact (hv.app (.cons vy .nil)).mono (stU _)
                    · exact False.elim p'
                · exact False.elim p'
              | raised c h5 => rw [e3] at p'; exact False.elim p'
              | stuck => rw [e3] at p'; exact False.elim p'
            · rename_i hb
              rw [if_neg hb]
              exact ⟨r4, h4, st.trans (st3.trans st4), hR4, p'.shift (st3.trans st4)⟩
          | raised c h4 => rw [e2] at p'; exact False.elim p'
          | stuck => rw [e2] at p'; exact False.elim p'
    · exact False.elim p'
structure MTs (G : Cfg) (E : XK) (X : Cx) (es : List Expr) (t : TT) (m : En → Heap → Res Bool) : Prop where
  pe : PTs X es t
  rf : RfT G E t m
def tTrue (_ : En) (h : Heap) : Res Bool := .ok true h
theorem mts_nil : MTs G E X [] tYes tTrue := ⟨pts_nil, ⟨fun r H h s σ Q hR sR p => p.here hR rfl⟩⟩
theorem mts_one (h : MT G E X c tt mt) : MTs G E X [c] tt mt := ⟨pts_one h.pe, h.rf⟩
theorem XC.blk (C : XC G E X k) (s : Shared) (H : Hp) (scope : Scope) (cenv : Env) (fp : List Addr) : XC G E0 (X.blk s H scope cenv fp) k := ⟨C.K, C.calm, C.nd, C.room, passL, PassesOwn.never⟩
theorem me_lc {scope : Scope} (own : List (Str × Nat)) (C : XC G E X k) (hi : MIt G E X tg iter wi mi) (ok : BlkOk X.N X.env.scope scope own)
    (hg : ∀ (s : Shared) (H : Hp) (D : Addr) (cl : List (Str × Addr)) (fp : List Addr), XC G E0 (X.blk s H scope (compEnvC scope cl D X.env) fp) k → MG G (X.blk s H scope (compEnvC scope cl D X.env) fp) tg g mg)
    (ht : ∀ (s : Shared) (H : Hp) (D : Addr) (cl : List (Str × Addr)) (fp : List Addr), XC G E0 (X.blk s H scope (compEnvC scope cl D X.env) fp) k → MTs G E0 (X.blk s H scope (compEnvC scope cl D X.env) fp) ifs tt mt)
    (he : ∀ (s : Shared) (H : Hp) (D : Addr) (cl : List (Str × Addr)) (fp : List Addr), XC G E0 (X.blk s H scope (compEnvC scope cl D X.env) fp) k → ME G E0 (X.blk s H scope (compEnvC scope cl D X.env) fp) elt te me)
    (hw : TgW (own.map (·.2)) g) (hs : ∀ x, foldedSetIterable iter X.env x = pure x := by intro _; rfl) :
    ME G E X (.ListComp elt [⟨tg, iter, ifs, 0⟩] scope pos) (tLc wi g tt te (own.map (·.2))) (mLc mi mg mt me (own.map (·.2))) :=
  ⟨pe_lc C.calm C.nd hi.pe ok (fun s H D cl fp => (hg s H D cl fp (C.blk ..)).pe) (fun s H D cl fp => (ht s H D cl fp (C.blk ..)).pe) (fun s H D cl fp => (he s H D cl fp (C.blk ..)).pe) hs,
    rf_lc hi.rf (hg X.s_0 X.H_0 0 [] [] (C.blk ..)).rf hw (ht X.s_0 X.H_0 0 [] [] (C.blk ..)).rf (he X.s_0 X.H_0 0 [] [] (C.blk ..)).rf⟩
theorem ms_setLc {scope : Scope} {y : Str} {py spos : Pos} (i : Nat) (own : List (Str × Nat)) (C : XC G E X k) (hi : MIt G E X tg iter wi mi) (ok : BlkOk X.N X.env.scope scope own)
    (hg : ∀ (s : Shared) (H : Hp) (D : Addr) (cl : List (Str × Addr)) (fp : List Addr), XC G E0 (X.blk s H scope (compEnvC scope cl D X.env) fp) k → MG G (X.blk s H scope (compEnvC scope cl D X.env) fp) tg g mg)
    (ht : ∀ (s : Shared) (H : Hp) (D : Addr) (cl : List (Str × Addr)) (fp : List Addr), XC G E0 (X.blk s H scope (compEnvC scope cl D X.env) fp) k → MTs G E0 (X.blk s H scope (compEnvC scope cl D X.env) fp) ifs tt mt)
    (he : ∀ (s : Shared) (H : Hp) (D : Addr) (cl : List (Str × Addr)) (fp : List Addr), XC G E0 (X.blk s H scope (compEnvC scope cl D X.env) fp) k → ME G E0 (X.blk s H scope (compEnvC scope cl D X.env) fp) elt te me)
    (hw : TgW (own.map (·.2)) g) (hsw : swapsWith (.ListComp elt [⟨tg, iter, ifs, 0⟩] scope pos) (some (.Name y py)) spos.line X.env = pure true) (hy : X.N[i]? = some y := by rfl) (hyl : X.env.scope.names.lookup y = some .local := by rfl) (hs : ∀ x, foldedSetIterable iter X.env x = pure x := by intro _; rfl) :
    MS G E X (.Assign [.Name y py] (.ListComp elt [⟨tg, iter, ifs, 0⟩] scope pos) spos) (tAsg (tLc wi g tt te (own.map (·.2))) (gName i)) (sAsg (gV i) (mLc mi mg mt me (own.map (·.2)))) := by
  refine ⟨ps_setLc C.calm C.nd hy hyl hsw hi.pe ok (fun s H D cl fp => (hg s H D cl fp (C.blk ..)).pe) (fun s H D cl fp => (ht s H D cl fp (C.blk ..)).pe) (fun s H D cl fp => (he s H D cl fp (C.blk ..)).pe) hs, ⟨fun r H h s σ D hR sR p => ?_⟩⟩
  have rf := rf_lc (E := E) (vs := own.map (·.2)) hi.rf (hg X.s_0 X.H_0 0 [] [] (C.blk ..)).rf hw (ht X.s_0 X.H_0 0 [] [] (C.blk ..)).rf (he X.s_0 X.H_0 0 [] [] (C.blk ..)).rf
  exact rf.run r H h s σ _ hR sR (p.seqS fun x h1' r1 H1 v s1 hR1 v1 p1 => p1.here hR1 ((sR.mono s1).set v1 i))
end
end PyM

set_option Elab.async false
set_option linter.all false
set_option maxRecDepth 100000
set_option autoImplicit false
namespace PyM
open PySem L2

/-! ### built-ins by their names -/
theorem callR_or {X : Cx} {f : Value} {r r' : List V → Hp → VK → Prop} (h : CallR X f r) (h' : CallR X f r') : CallR X f (fun xs H Q => r xs H Q ∨ r' xs H Q) :=
  fun pins s σ H xs us Q I rv q => q.elim (h pins s σ H xs us Q I rv) (h' pins s σ H xs us Q I rv)
def bAbs (xs : List Val) (h : Heap) : Res Val := match xs with
  | [.int i] => .ok (.int (if i < 0 then -i else i)) h
  | _ => .stuck
def bInt (xs : List Val) (h : Heap) : Res Val := match xs with
  | [.int i] => .ok (.int i) h
  | [.bl b] => .ok (.int (if b then 1 else 0)) h
  | _ => .stuck
def bLen (xs : List Val) (h : Heap) : Res Val := match xs with
  | [.tup ys] => .ok (.int ys.length) h
  | [.ref a] => match h[a]? with
    | some (.lst ys) => .ok (.int ys.length) h
    | some (.fls ys) => .ok (.int ys.length) h
    | some (.dct d) => .ok (.int d.length) h
    | _ => .stuck
  | _ => .stuck
def bList (xs : List Val) (h : Heap) : Res Val := match xs with
  | [.tup ys] => .ok (.ref h.length) (h ++ [.lst ys])
  | [.ref a] => match h[a]? with
    | some (.lst ys) => .ok (.ref h.length) (h ++ [.lst ys])
    | some (.fls ys) => .ok (.ref h.length) (h ++ [.lst ys])
    | _ => .stuck
  | _ => .stuck
def bTuple (xs : List Val) (h : Heap) : Res Val := match xs with
  | [.tup ys] => .ok (.tup ys) h
  | [.ref a] => match h[a]? with
    | some (.lst ys) => .ok (.tup ys) h
    | some (.fls ys) => .ok (.tup ys) h
    | _ => .stuck
  | _ => .stuck
def asBl : Val → Option Bool
  | .bl b => some b
  | _ => none
def asInt : Val → Option Int
  | .int b => some b
  | _ => none
def seqOf (x : Val) (h : Heap) : Option (List Val) := match x with
  | .ref a => match h[a]? with
    | some (.lst ys) => some ys
    | some (.fls ys) => some ys
    | _ => none
  | _ => none
def bSeq {α : Type} (f : Val → Option α) (g : List α → Val) (xs : List Val) (h : Heap) : Res Val := match xs with
  | [x] => match seqOf x h with
    | some ys => match optAll f ys with
      | some bs => .ok (g bs) h
      | none => .stuck
    | none => .stuck
  | _ => .stuck
abbrev bAll := bSeq asBl fun bs => .bl (bs.all id)
abbrev bAny := bSeq asBl fun bs => .bl (bs.any id)
abbrev bSum := bSeq asInt fun bs => .int bs.sum
def bMax2 (xs : List Val) (h : Heap) : Res Val := match xs with
  | [.int i, .int j] => .ok (.int (if j > i then j else i)) h
  | _ => .stuck
def bMin2 (xs : List Val) (h : Heap) : Res Val := match xs with
  | [.int i, .int j] => .ok (.int (if j < i then j else i)) h
  | _ => .stuck
inductive Ty where
  | int | bool | str | tup | lst | dct | non
  deriving DecidableEq
def Ty.nm : Ty → String
  | .int => "int" | .bool => "bool" | .str => "str" | .tup => "tuple" | .lst => "list" | .dct => "dict" | .non => "NoneType"
def tyOf (x : Val) (h : Heap) : Option Ty := match x with
  | .non => some .non
  | .bl _ => some .bool
  | .int _ => some .int
  | .str _ => some .str
  | .tup _ => some .tup
  | .ref a => match h[a]? with
    | some (.lst _) => some .lst
    | some (.dct _) => some .dct
    | some (.dcT _) => some .dct
    | _ => none
def isTy (T : Ty) : Option Ty → Option Bool
  | some t => some (decide (t = T) || (decide (t = .bool) && decide (T = .int)))
  | none => none
def mIsi (T : Ty) (m : En → Heap → Res Val) (s : En) (h : Heap) : Res Val := (m s h).bind fun x h1 => match isTy T (tyOf x h1) with
  | some b => .ok (.bl b) h1
  | none => .stuck

section
variable {G : Cfg} {E : XK} {X : Cx} {k : Nat} {a b c e o e2 : Expr} {es : List Expr} {ta tb tc to : TE} {ma mb mc mo : En → Heap → Res Val} {pos p p2 apos : Pos} {tA : TA} {mA : En → Heap → Res (List Val)} {x : Str} {r : List Addr} {H : Hp} {h : Heap}
theorem me_blt {id : String} {t : List V → Hp → VK → Prop} {f : List Val → Heap → Res Val} (hc : CallR X (.builtin id) t) (hr : RfL G E t f) (hm : X.mg x = none) (hv : bootBuiltins x = some (.builtin id)) (ha : MA G E X (e :: es) tA mA) (hg : Gl X x := by rfl) (hn : x ≠ "__name__" := by decide) (hdb : (x == ("__debug__" : Str)) = false := by decide)
    (he : starEach (e :: es) X.env = (false, eval e X.env) :: starEach es X.env := by rfl) (hpl : (backTo pos (starEach es X.env)).any (·.1) = false := by rfl) : ME G E X (.Call (.Name x p) (e :: es) [] pos) (tCB t tA) (mL f mA) :=
  ⟨pe_callB hc hg hm hv ha.pe hn hdb he hpl, ha.rf.l hr⟩
theorem me_bty {id : String} {t : List V → Hp → VK → Prop} {f : List Val → Heap → Res Val} (hc : CallR X (.type id) t) (hr : RfL G E t f) (hm : X.mg x = none) (hv : bootBuiltins x = some (.type id)) (ha : MA G E X (e :: es) tA mA) (hg : Gl X x := by rfl) (hn : x ≠ "__name__" := by decide) (hdb : (x == ("__debug__" : Str)) = false := by decide)
    (he : starEach (e :: es) X.env = (false, eval e X.env) :: starEach es X.env := by rfl) (hpl : (backTo pos (starEach es X.env)).any (·.1) = false := by rfl) : ME G E X (.Call (.Name x p) (e :: es) [] pos) (tCB t tA) (mL f mA) :=
  ⟨pe_callTy hc hg hm hv ha.pe hn hdb he hpl, ha.rf.l hr⟩
theorem bt_abs : bootBuiltins "abs" = some (.builtin "abs") := by decide +kernel
theorem bt_int : bootBuiltins "int" = some (.type "int") := by decide +kernel
theorem bt_len : bootBuiltins "len" = some (.builtin "len") := by decide +kernel
theorem bt_list : bootBuiltins "list" = some (.type "list") := by decide +kernel
theorem bt_tuple : bootBuiltins "tuple" = some (.type "tuple") := by decide +kernel
theorem bt_all : bootBuiltins "all" = some (.builtin "all") := by decide +kernel
theorem bt_any : bootBuiltins "any" = some (.builtin "any") := by decide +kernel
theorem bt_sum : bootBuiltins "sum" = some (.builtin "sum") := by decide +kernel
theorem bt_max : bootBuiltins "max" = some (.builtin "max") := by decide +kernel
theorem bt_min : bootBuiltins "min" = some (.builtin "min") := by decide +kernel
theorem bt_sorted : bootBuiltins "sorted" = some (.builtin "sorted") := by decide +kernel
theorem bt_isi : bootBuiltins "isinstance" = some (.builtin "isinstance") := by decide +kernel

theorem vrs1 {xs : List Val} {v : V} {y : Val} (q : VRs G r H [y] [v]) : VR G r H y v := by cases q; assumption
theorem rl_abs : RfL G E (fun xs H Q => ∃ i, xs = [.int i] ∧ Q (.int (if i < 0 then -i else i)) H) bAbs := by
  refine ⟨fun r H h xs vs Q hR v p => ?_⟩
  unfold bAbs at p
  split at p
  · cases v with
    | cons q1 q2 => cases q1; cases q2; exact ⟨_, rfl, p.here hR (.int _)⟩
  · exact False.elim p
theorem rl_int : RfL G E (fun xs H Q => (∃ i, xs = [.int i] ∧ Q (.int i) H) ∨ ∃ k, xs = [.bl k] ∧ Q (.int (if k then 1 else 0)) H) bInt := by
  refine ⟨fun r H h xs vs Q hR v p => ?_⟩
  unfold bInt at p
  split at p
  · cases v with
    | cons q1 q2 => cases q1; cases q2; exact .inl ⟨_, rfl, p.here hR (.int _)⟩
  · cases v with
    | cons q1 q2 => cases q1; cases q2; exact .inr ⟨_, rfl, p.here hR (.int _)⟩
  · exact False.elim p
def rLenA (K : PySem.W.Frag) : List V → Hp → VK → Prop := fun xs H Q => (∃ x n, xs = [x] ∧ LenV K x H n ∧ Q (.int n) H) ∨ ∃ a kvs, xs = [V.ref a] ∧ H a = some (.dK kvs) ∧ Q (.int kvs.length) H
theorem cl_len (C : XC G E X k) : CallR X (.builtin "len") (rLenA G.K) := by
  have := callR_or (call_len (X := X)) call_lenD
  rw [C.K] at this
  exact this
theorem rl_len : RfL G E (rLenA G.K) bLen := by
  refine ⟨fun r H h xs vs Q hR v p => ?_⟩
  unfold bLen at p
  split at p
  · cases v with
    | cons q1 q2 => cases q2; cases q1 with
      | tup hs hv => exact .inl ⟨_, _, rfl, .inr ⟨_, hs, rfl⟩, by have := p.here hR (.int _); rw [hv.len] at this; exact this⟩
  · cases v with
    | cons q1 q2 => cases q2; cases q1 with
      | ref ea =>
        split at p
        · rename_i ys eo
          cases hR.ob _ _ _ eo ea with
          | lst hl hv => exact .inl ⟨_, _, rfl, .inl ⟨_, SqL.of hl, rfl⟩, by have := p.here hR (.int _); rw [hv.len] at this; exact this⟩
        · rename_i ys eo
          cases hR.ob _ _ _ eo ea with
          | fls hl hv => exact .inl ⟨_, _, rfl, .inl ⟨_, hl.sq, rfl⟩, by have := p.here hR (.int _); rw [hv.len] at this; exact this⟩
        · rename_i ys eo
          cases hR.ob _ _ _ eo ea with
          | dct hl hv => exact .inr ⟨_, _, rfl, hl, by have := p.here hR (.int _); rw [hv.len] at this; exact this⟩
        · exact False.elim p
  · exact False.elim p
def rListA (K : PySem.W.Frag) : List V → Hp → VK → Prop := fun xs H Q => ∃ p ys, xs = [.ref p] ∧ (SqL K H p ys ∨ SqT K H p ys) ∧ ∀ l, H l = none → Q (.ref l) (upd H l (.lst ys))
theorem cl_list (C : XC G E X k) : CallR X (.type "list") (rListA G.K) := by
  have := call_list_of (X := X)
  rw [C.K] at this
  exact this
theorem new_lst (hR : HR G r H h) {xs : List Val} {vs : List V} {Q : VK} (hv : VRs G r H xs vs) (p : PostR G (VR G) r H E (.ok (.ref h.length) (h ++ [.lst xs])) Q) (l : Addr) (hl : H l = none) : Q (.ref l) (upd H l (.lst vs)) := by
  refine p (r ++ [l]) _ _ (Stp.new hl) (hR.push hl (.lst upd_same (hv.mono (Stp.new hl)))) (.ref ?_)
  rw [← hR.len]
  simp
theorem rl_list : RfL G E (rListA G.K) bList := by
  refine ⟨fun r H h xs vs Q hR v p => ?_⟩
  unfold bList at p
  split at p
  · cases v with
    | cons q1 q2 => cases q2; cases q1 with
      | tup hs hv => exact ⟨_, _, rfl, .inr hs, new_lst hR hv p⟩
  · cases v with
    | cons q1 q2 => cases q2; cases q1 with
      | ref ea =>
        split at p
        · rename_i ys eo
          cases hR.ob _ _ _ eo ea with
          | lst hl hv => exact ⟨_, _, rfl, .inl (SqL.of hl), new_lst hR hv p⟩
        · rename_i ys eo
          cases hR.ob _ _ _ eo ea with
          | fls hl hv => exact ⟨_, _, rfl, .inl hl.sq, new_lst hR hv p⟩
        · exact False.elim p
  · exact False.elim p
def rTupA (K : PySem.W.Frag) : List V → Hp → VK → Prop := fun xs H Q => ∃ p ys, xs = [.ref p] ∧ ((SqL K H p ys ∧ ∀ l, H l = none → Q (.ref l) (upd H l (.tup ys))) ∨ (SqT K H p ys ∧ Q (.ref p) H))
theorem cl_tuple (C : XC G E X k) : CallR X (.type "tuple") (rTupA G.K) := by
  have := call_tuple_of (X := X)
  rw [C.K] at this
  exact this
theorem new_tup (hR : HR G r H h) {xs : List Val} {vs : List V} {Q : VK} (hv : VRs G r H xs vs) (p : PostR G (VR G) r H E (.ok (.tup xs) h) Q) (l : Addr) (hl : H l = none) : Q (.ref l) (upd H l (.tup vs)) :=
  p r _ _ (Stp.new0 hl) (hR.lay hl) (.tup (SqT.of upd_same) (hv.mono (Stp.new0 hl)))
theorem rl_tuple : RfL G E (rTupA G.K) bTuple := by
  refine ⟨fun r H h xs vs Q hR v p => ?_⟩
  unfold bTuple at p
  split at p
  · cases v with
    | cons q1 q2 => cases q2; cases q1 with
      | tup hs hv => exact ⟨_, _, rfl, .inr ⟨hs, p.here hR (.tup hs hv)⟩⟩
  · cases v with
    | cons q1 q2 => cases q2; cases q1 with
      | ref ea =>
        split at p
        · rename_i ys eo
          cases hR.ob _ _ _ eo ea with
          | lst hl hv => exact ⟨_, _, rfl, .inl ⟨SqL.of hl, new_tup hR hv p⟩⟩
        · rename_i ys eo
          cases hR.ob _ _ _ eo ea with
          | fls hl hv => exact ⟨_, _, rfl, .inl ⟨hl.sq, new_tup hR hv p⟩⟩
        · exact False.elim p
  · exact False.elim p
theorem seqOf_sq (hR : HR G r H h) {x : Val} {v : V} {ys : List Val} (q : VR G r H x v) (e : seqOf x h = some ys) : ∃ ad vs, v = .ref ad ∧ SqL G.K H ad vs ∧ VRs G r H ys vs := by
  cases q with
  | ref ea =>
    simp only [seqOf] at e
    split at e
    · rename_i zs eo
      cases e
      cases hR.ob _ _ _ eo ea with
      | lst hl hv => exact ⟨_, _, rfl, SqL.of hl, hv⟩
    · rename_i zs eo
      cases e
      cases hR.ob _ _ _ eo ea with
      | fls hl hv => exact ⟨_, _, rfl, hl.sq, hv⟩
    · cases e
  | _ => cases e
theorem all_bl : ∀ {ys : List Val} {vs : List V} {bs : List Bool}, VRs G r H ys vs → optAll asBl ys = some bs → vs = bs.map V.bl
  | _, _, _, .nil, e => by simp only [optAll, Option.some.injEq] at e; subst e; rfl
  | _, _, _, .cons a b, e => by
    simp only [optAll] at e
    split at e
    · rename_i d ds e1 e2
      cases e
      cases a with
      | bl b' => cases e1; rw [all_bl b e2]; rfl
      | _ => cases e1
    · cases e
theorem all_int : ∀ {ys : List Val} {vs : List V} {bs : List Int}, VRs G r H ys vs → optAll asInt ys = some bs → vs = bs.map V.int
  | _, _, _, .nil, e => by simp only [optAll, Option.some.injEq] at e; subst e; rfl
  | _, _, _, .cons a b, e => by
    simp only [optAll] at e
    split at e
    · rename_i d ds e1 e2
      cases e
      cases a with
      | int b' => cases e1; rw [all_int b e2]; rfl
      | _ => cases e1
    · cases e
theorem bSeq_ok {α : Type} {f : Val → Option α} {g : List α → Val} {xs : List Val} {vs : List V} {Q : VK} (hR : HR G r H h) (v : VRs G r H xs vs) (p : PostR G (VR G) r H E (bSeq f g xs h) Q) :
    ∃ ad us ys bs, vs = [V.ref ad] ∧ SqL G.K H ad us ∧ VRs G r H ys us ∧ optAll f ys = some bs ∧ PostR G (VR G) r H E (.ok (g bs) h) Q := by
  unfold bSeq at p
  split at p
  · cases v with
    | cons q1 q2 =>
      cases q2
      split at p
      · rename_i ys e1
        split at p
        · rename_i bs e2
          obtain ⟨ad, us, rfl, h1, h2⟩ := seqOf_sq hR q1 e1
          exact ⟨ad, us, ys, bs, rfl, h1, h2, e2, p⟩
        · exact False.elim p
      · exact False.elim p
  · exact False.elim p
theorem cl_all (C : XC G E X k) : CallR X (.builtin "all") (rAll G.K) := by have := cr_all (X := X) C.calm; rwa [C.K] at this
theorem cl_any (C : XC G E X k) : CallR X (.builtin "any") (rAny G.K) := by have := cr_any (X := X) C.calm; rwa [C.K] at this
theorem cl_sum (C : XC G E X k) : CallR X (.builtin "sum") (rSum G.K) := by have := cr_sum (X := X) C.calm; rwa [C.K] at this
theorem rl_all : RfL G E (rAll G.K) bAll := ⟨fun r H h xs vs Q hR v p => by
  obtain ⟨ad, us, ys, bs, rfl, h1, h2, e2, p⟩ := bSeq_ok hR v p
  rw [all_bl h2 e2] at h1
  exact ⟨ad, bs, rfl, h1, p.here hR (.bl _)⟩⟩
theorem rl_any : RfL G E (rAny G.K) bAny := ⟨fun r H h xs vs Q hR v p => by
  obtain ⟨ad, us, ys, bs, rfl, h1, h2, e2, p⟩ := bSeq_ok hR v p
  rw [all_bl h2 e2] at h1
  exact ⟨ad, bs, rfl, h1, p.here hR (.bl _)⟩⟩
theorem rl_sum : RfL G E (rSum G.K) bSum := ⟨fun r H h xs vs Q hR v p => by
  obtain ⟨ad, us, ys, bs, rfl, h1, h2, e2, p⟩ := bSeq_ok hR v p
  rw [all_int h2 e2] at h1
  exact ⟨ad, bs, rfl, h1, p.here hR (.int _)⟩⟩
theorem rl_max2 : RfL G E (fun xs H Q => ∃ i j, xs = [.int i, .int j] ∧ Q (.int (if j > i then j else i)) H) bMax2 := by
  refine ⟨fun r H h xs vs Q hR v p => ?_⟩
  unfold bMax2 at p
  split at p
  · cases v with
    | cons q1 q2 => cases q2 with
      | cons q3 q4 => cases q1; cases q3; cases q4; exact ⟨_, _, rfl, p.here hR (.int _)⟩
  · exact False.elim p
theorem rl_min2 : RfL G E (fun xs H Q => ∃ i j, xs = [.int i, .int j] ∧ Q (.int (if j < i then j else i)) H) bMin2 := by
  refine ⟨fun r H h xs vs Q hR v p => ?_⟩
  unfold bMin2 at p
  split at p
  · cases v with
    | cons q1 q2 => cases q2 with
      | cons q3 q4 => cases q1; cases q3; cases q4; exact ⟨_, _, rfl, p.here hR (.int _)⟩
  · exact False.elim p

/-! ### isinstance of a built-in class -/
theorem kit_all : ∀ t ∈ [Ty.int, Ty.bool, Ty.str, Ty.tup, Ty.lst, Ty.dct, Ty.non], ∀ T ∈ [Ty.int, Ty.bool, Ty.str, Ty.tup, Ty.lst, Ty.dct], kitB t.nm T.nm = some (decide (t = T) || (decide (t = .bool) && decide (T = .int))) := by decide +kernel
theorem tyOf_tyx (hR : HR G r H h) {x : Val} {v : V} {t : Ty} (q : VR G r H x v) (e : tyOf x h = some t) : TyX G.K H v (.type t.nm) := by
  cases q with
  | non => cases e; exact .base .non
  | bl b => cases e; exact .base (.bl _)
  | int b => cases e; exact .base (.int _)
  | str b => cases e; exact .base (.str _)
  | tup hs hv =>
    cases e
    rcases hs with (hs | ⟨o, hs⟩) | ⟨o, its, n, hk, hc, _⟩
    · exact .base (.tup hs)
    · exact .fTuple hs
    · exact .kTuple hk hc
  | ref ea =>
    simp only [tyOf] at e
    split at e
    · rename_i ys eo
      cases e
      cases hR.ob _ _ _ eo ea with
      | lst hl hv => exact .base (.lst hl)
    · rename_i ys eo
      cases e
      cases hR.ob _ _ _ eo ea with
      | dct hl hv => exact .base (.dK hl)
    · rename_i ys eo
      cases e
      cases hR.ob _ _ _ eo ea with
      | dcT hl hv => exact .base (.dT hl)
    · cases e
theorem me_isi (C : XC G E X k) (T : Ty) {y : Str} (hT : T ≠ .non) (hm : X.mg "isinstance" = none) (hy : X.mg y = none) (hb : bootBuiltins y = some (.type T.nm)) (ha : ME G E X a ta ma) (hg : Gl X "isinstance" := by rfl) (hgy : Gl X y := by rfl) (hn : y ≠ "__name__" := by decide) (hdb : (y == ("__debug__" : Str)) = false := by decide)
    (he : starEach (a :: [.Name y p2]) X.env = (false, eval a X.env) :: starEach [.Name y p2] X.env := by rfl) (he2 : starEach [.Name y p2] X.env = (false, eval (.Name y p2) X.env) :: starEach [] X.env := by rfl) (hpl : (backTo pos (starEach [.Name y p2] X.env)).any (·.1) = false := by rfl) :
    ME G E X (.Call (.Name "isinstance" p) [a, .Name y p2] [] pos) (tCB (rIsi G.K) (tCons ta (tCons (tC (.ty T.nm)) tNil))) (mIsi T ma) := by
  refine ⟨?_, ⟨fun r H h s σ Q hR sR p => ha.rf.run r H h s σ _ hR sR (p.seq fun x h1 r1 H1 v s1 hR1 v1 p1 => ?_)⟩⟩
  · have pa := pa_cons ha.pe (pa_cons (pe_bltn (v := .ty T.nm) (pos := p2) hgy hy hb rfl hn hdb) pa_nil he2) he
    have := pe_callB (pos := pos) (p := p) (call_isi (X := X)) hg hm bt_isi pa (by decide) (by decide) he hpl
    rw [C.K] at this
    exact this
  · split at p1
    · rename_i bb eb
      cases et : tyOf x h1 with
      | none => rw [et] at eb; cases eb
      | some t =>
        rw [et] at eb
        cases eb
        refine ⟨v, .ty T.nm, .type t.nm, .type T.nm, _, rfl, .ty _, tyOf_tyx hR1 v1 et, kit_ty (kit_all t ?_ T ?_), p1.here hR1 (.bl _)⟩
        · cases t <;> simp
        · cases T <;> first | (simp; done) | exact absurd rfl hT
    · exact False.elim p1

/-! ### methods of lists -/
def bAppend (x : Val) (xs : List Val) (h : Heap) : Res Val := match x, xs with
  | .ref a, [y] => match h[a]? with
    | some (.lst ys) => if ys.length < lim then .ok .non (h.set a (.lst (ys ++ [y]))) else .stuck
    | _ => .stuck
  | _, _ => .stuck
def bExtend (x : Val) (xs : List Val) (h : Heap) : Res Val := match x, xs with
  | .ref a, [.ref b] => match h[a]?, h[b]? with
    | some (.lst ys), some (.lst zs) => if ys.length + zs.length ≤ lim then .ok .non (h.set a (.lst (ys ++ zs))) else .stuck
    | _, _ => .stuck
  | _, _ => .stuck
def bPop (x : Val) (xs : List Val) (h : Heap) : Res Val := match x, xs with
  | .ref a, [] => match h[a]? with
    | some (.lst ys) => match ys[ys.length - 1]? with
      | some y => .ok y (h.set a (.lst ys.dropLast))
      | none => .stuck
    | _ => .stuck
  | _, _ => .stuck
def bPopAt (x : Val) (xs : List Val) (h : Heap) : Res Val := match x, xs with
  | .ref a, [.int i] => match h[a]? with
    | some (.lst ys) => if -(2 ^ 63) ≤ i ∧ i < 2 ^ 63 then match ixN ys.length i with
        | some j => match ys[j]? with
          | some y => .ok y (h.set a (.lst (ys.eraseIdx j)))
          | none => .stuck
        | none => .stuck
      else .stuck
    | _ => .stuck
  | _, _ => .stuck
def bCount (x : Val) (xs : List Val) (h : Heap) : Res Val := match x, xs with
  | .ref a, [y] => match h[a]? with
    | some (.lst ys) => if isFlat y = true ∧ ys.all isFlat = true then .ok (.int ((ys.countP fun z => feq z y : Nat) : Int)) h else .stuck
    | _ => .stuck
  | _, _ => .stuck
def mtOf (K : PySem.W.Frag) (x : V) (H : Hp) : Prop := tyV K "list" x H
def mBM (f : Val → List Val → Heap → Res Val) (mo : En → Heap → Res Val) (ma : En → Heap → Res (List Val)) (s : En) (h : Heap) : Res Val := (mo s h).bind fun x h1 => match seqOf x h1 with
  | some _ => (ma s h1).bind fun xs h2 => f x xs h2
  | none => .stuck
def mBM0 (f : Val → List Val → Heap → Res Val) (mo : En → Heap → Res Val) (s : En) (h : Heap) : Res Val := (mo s h).bind fun x h1 => match seqOf x h1 with
  | some _ => f x [] h1
  | none => .stuck
theorem tyL_of (hR : HR G r H h) {x : Val} {v : V} {ys : List Val} (q : VR G r H x v) (e : seqOf x h = some ys) : tyV G.K "list" v H := by
  obtain ⟨ad, vs, rfl, h1, _⟩ := seqOf_sq hR q e
  exact .inl ⟨rfl, _, h1⟩
theorem rf_bm {t : V → List V → Hp → VK → Prop} {f : Val → List Val → Heap → Res Val} (hf : RfM G E t f) (ho : Rf G E to mo) (ha : RfA G E tA mA) : Rf G E (tBM G.K "list" t to tA) (mBM f mo mA) := by
  refine ⟨fun r H h s σ Q hR sR p => ho.run r H h s σ _ hR sR (p.seq fun x h1 r1 H1 v s1 hR1 v1 p1 => ?_)⟩
  split at p1
  · rename_i ys ey
    refine ⟨tyL_of hR1 v1 ey, ha.run r1 H1 h1 s σ _ hR1 (sR.mono s1) (p1.seq fun xs h2 r2 H2 vs s2 hR2 v2 p2 => ?_)⟩
    exact hf.run r2 H2 h2 x v xs vs Q hR2 (v1.mono s2) v2 p2
  · exact False.elim p1
theorem rf_bm0 {t : V → List V → Hp → VK → Prop} {f : Val → List Val → Heap → Res Val} (hf : RfM G E t f) (ho : Rf G E to mo) : Rf G E (tBM0 G.K "list" t to) (mBM0 f mo) := by
  refine ⟨fun r H h s σ Q hR sR p => ho.run r H h s σ _ hR sR (p.seq fun x h1 r1 H1 v s1 hR1 v1 p1 => ?_)⟩
  split at p1
  · rename_i ys ey
    exact ⟨tyL_of hR1 v1 ey, hf.run r1 H1 h1 x v [] [] Q hR1 v1 .nil p1⟩
  · exact False.elim p1
theorem me_bm {name : Str} {id : String} {t : V → List V → Hp → VK → Prop} {f : Val → List Val → Heap → Res Val} (C : XC G E X k) (slot : Slot "list" name id) (hty : typeOf (.builtin id) = pure (.type "method_descriptor")) (hm : MtR X id t) (hf : RfM G E t f) (ho : ME G E X o to mo) (ha : MA G E X (e :: es) tA mA)
    (hbase : attributeBase o name X.env (eval o X.env) = eval o X.env := by rfl)
    (hfew : ((backTo pos (starEach (e :: es) X.env)).all (fun x => !x.1) && (backToKw pos (keywordEach [] X.env)).all (fun x => x.1.isSome)
      && decide ((e :: es).length + ([] : List Keyword).length + (if ([] : List Keyword).isEmpty then 0 else 1) < 30)) = true := by rfl)
    (hline : (apos.endLine == pos.line) = true := by rfl) (hs : starEach (e :: es) X.env = (false, eval e X.env) :: starEach es X.env := by rfl) (hplain : (backTo pos (starEach es X.env)).any (·.1) = false := by rfl) :
    ME G E X (.Call (.Attribute o name apos) (e :: es) [] pos) (tBM G.K "list" t to tA) (mBM f mo mA) := by
  refine ⟨?_, rf_bm hf ho.rf ha.rf⟩
  have := pe_bm PySem.F.plainAttrs_list slot hty hm ho.pe ha.pe hbase hfew hline hs hplain
  rwa [C.K] at this
theorem me_bm0 {name : Str} {id : String} {t : V → List V → Hp → VK → Prop} {f : Val → List Val → Heap → Res Val} (C : XC G E X k) (slot : Slot "list" name id) (hty : typeOf (.builtin id) = pure (.type "method_descriptor")) (hm : MtR X id t) (hf : RfM G E t f) (ho : ME G E X o to mo)
    (hbase : attributeBase o name X.env (eval o X.env) = eval o X.env := by rfl) (hline : (apos.endLine == pos.line) = true := by rfl) :
    ME G E X (.Call (.Attribute o name apos) [] [] pos) (tBM0 G.K "list" t to) (mBM0 f mo) := by
  refine ⟨?_, rf_bm0 hf ho.rf⟩
  have := pe_bm0 PySem.F.plainAttrs_list slot hty hm ho.pe hbase hline
  rwa [C.K] at this
theorem set_lst (hR : HR G r H h) {n : Nat} {ad : Addr} {xs ys : List Val} {us vs : List V} {x : Val} {v : V} {Q : VK} (eo : h[n]? = some (.lst xs)) (ea : r[n]? = some ad) (hl : H ad = some (.lst us)) (hv : VRs G r H ys vs) (hx : VR G r H x v) (p : PostR G (VR G) r H E (.ok x (h.set n (.lst ys))) Q) : Q v (upd H ad (.lst vs)) := by
  have st : Stp G.K r H r (upd H ad (.lst vs)) := Stp.upd fun o e => by rw [hl] at e; cases e; trivial
  exact p r _ _ st (hR.write eo rfl ea (fun o e => by rw [hl] at e; cases e; trivial) (.lst upd_same (hv.mono st)) rfl) (hx.mono st)
theorem rm_append : RfM G E rAppend bAppend := by
  refine ⟨fun r H h x v xs vs Q hR vx vv p => ?_⟩
  unfold bAppend at p
  split at p
  · cases vx with
    | ref ea => cases vv with
      | cons q1 q2 =>
        cases q2
        split at p
        · rename_i ys eo
          split at p
          · rename_i hlen
            cases hR.ob _ _ _ eo ea with
            | lst hl hv => exact ⟨_, _, _, rfl, rfl, hl, lt_line (by rw [← hv.len]; exact hlen), set_lst hR eo ea hl (hv.app (.cons q1 .nil)) .non p⟩
          · exact False.elim p
        · exact False.elim p
  · exact False.elim p
theorem rm_extend : RfM G E rExtend bExtend := by
  refine ⟨fun r H h x v xs vs Q hR vx vv p => ?_⟩
  unfold bExtend at p
  split at p
  · cases vx with
    | ref ea => cases vv with
      | cons q1 q2 =>
        cases q2
        cases q1 with
        | ref eb =>
          split at p
          · rename_i ys zs eo eo2
            split at p
            · rename_i hlen
              cases hR.ob _ _ _ eo ea with
              | lst hl hv => cases hR.ob _ _ _ eo2 eb with
                | lst hl2 hv2 => exact ⟨_, _, _, _, rfl, rfl, hl, hl2, le_line (by rw [← hv.len, ← hv2.len]; exact hlen), set_lst hR eo ea hl (hv.app hv2) .non p⟩
            · exact False.elim p
          · exact False.elim p
  · exact False.elim p
theorem rm_pop : RfM G E rPop bPop := by
  refine ⟨fun r H h x v xs vs Q hR vx vv p => ?_⟩
  unfold bPop at p
  split at p
  · cases vx with
    | ref ea =>
      cases vv
      split at p
      · rename_i ys eo
        split at p
        · rename_i y ey
          cases hR.ob _ _ _ eo ea with
          | lst hl hv =>
            obtain ⟨u, eu, vu⟩ := hv.get ey
            rw [hv.len] at eu
            exact ⟨_, _, _, rfl, rfl, hl, eu, set_lst hR eo ea hl hv.dropLast vu p⟩
        · exact False.elim p
      · exact False.elim p
  · exact False.elim p
theorem rm_popAt : RfM G E rPopAt bPopAt := by
  refine ⟨fun r H h x v xs vs Q hR vx vv p => ?_⟩
  unfold bPopAt at p
  split at p
  · cases vx with
    | ref ea => cases vv with
      | cons q1 q2 =>
        cases q2
        cases q1
        split at p
        · rename_i ys eo
          split at p
          · rename_i hb
            split at p
            · rename_i j ej
              split at p
              · rename_i y ey
                cases hR.ob _ _ _ eo ea with
                | lst hl hv =>
                  obtain ⟨u, eu, vu⟩ := hv.get ey
                  rw [hv.len] at ej
                  exact ⟨_, _, _, j, u, rfl, rfl, hl, hb.1, hb.2, (ixN_seq ej).1, eu, set_lst hR eo ea hl (hv.eraseIdx j) vu p⟩
              · exact False.elim p
            · exact False.elim p
          · exact False.elim p
        · exact False.elim p
  · exact False.elim p
def rCntF (K : PySem.W.Frag) : V → List V → Hp → VK → Prop := fun x xs H Q => ∃ (a : Addr) (ys : List V) (y : V), x = V.ref a ∧ xs = [y] ∧ SqL K H a ys ∧ flatV y = true ∧ ys.all flatV = true ∧ Q (.int ((ys.countP fun z => eqV z y : Nat) : Int)) H
theorem countU {y : V} : ∀ {ys : List V} {us : List Value}, Vals ys us → ys.all flatV = true → us.countP (eqU y) = ys.countP fun z => eqV z y
  | _, _, .nil, _ => rfl
  | _, _, .cons a b, f => by
    rw [List.all_cons, Bool.and_eq_true] at f
    rw [List.countP_cons, List.countP_cons, eqU_of a f.1, countU b f.2]
theorem mt_countF : MtR X "list.count" (rCntF X.K) := by
  intro pins s σ H x xs v us Q I rx rxs h
  obtain ⟨a, ys, y, rfl, rfl, hs, fy, fys, q⟩ := h
  cases rx
  cases rxs with
  | cons ry rt =>
    rename_i uy ut
    cases rt
    obtain ⟨its, rv, ⟨⟨cls, dd, data, sl⟩, n, ho, hc, hdn, hd⟩, hlen⟩ := I.list hs
    simp only at hc hd
    subst hc hd
    refine call_meets PySem.F.slot_list_count ⟨_, ho, rfl⟩ PySem.F.entry_list_count (PySem.F.args_list_count_2 _ _)
      (SeqAt.list_countAt a its.toArray n dd sl uy (eqU y)) ⟨ho, fun u' hu' => mem_eqAt ry fy rv fys u' (by simpa using hu'), ?_⟩
    have ec : its.toArray.toList.countP (eqU y) = ys.countP fun z => eqV z y := countU rv fys
    refine ⟨.int ((ys.countP fun z => eqV z y : Nat) : Int), H, I.tok _, ⟨s.toks, ?_⟩, q⟩
    rw [ec]
theorem countF (ok : G.Ok) {y : Val} {u : V} (b : VR G r H y u) : ∀ {xs : List Val} {vs : List V}, VRs G r H xs vs → xs.all isFlat = true → (xs.countP fun z => feq z y) = vs.countP fun z => eqV z u
  | _, _, .nil, _ => rfl
  | _, _, .cons a c, f => by
    rw [List.all_cons, Bool.and_eq_true] at f
    rw [List.countP_cons, List.countP_cons, feq_of ok a b f.1, countF ok b c f.2]
theorem rm_count (ok : G.Ok) : RfM G E (rCntF G.K) bCount := by
  refine ⟨fun r H h x v xs vs Q hR vx vv p => ?_⟩
  unfold bCount at p
  split at p
  · cases vx with
    | ref ea => cases vv with
      | cons q1 q2 =>
        cases q2
        split at p
        · rename_i ys eo
          split at p
          · rename_i hf
            cases hR.ob _ _ _ eo ea with
            | lst hl hv =>
              refine ⟨_, _, _, rfl, rfl, SqL.of hl, flat_of q1 hf.1, all_flat hv hf.2, ?_⟩
              rw [← countF ok q1 hv hf.2]
              exact p.here hR (.int _)
          · exact False.elim p
        · exact False.elim p
  · exact False.elim p
theorem cl_count (C : XC G E X k) : MtR X "list.count" (rCntF G.K) := by have := mt_countF (X := X); rwa [C.K] at this
end
end PyM

set_option Elab.async false
set_option linter.all false
set_option maxRecDepth 100000
set_option autoImplicit false
namespace PyM
open PySem L2

/-! ### exceptions of the program's own, without arguments -/
section
variable {X : Cx} {C : Addr} {bmB : List Value} {B newId initId : String}
theorem pmk_own0 {x : Str} {p pos : Pos} (F : ExcBaseFacts B newId initId bmB) (q : PySem.W.excIn X.K C bmB newId = true) (gC : X.mg x = some (.ref C)) (kC : PySem.W.keepIn X.K (.ref C) = true) (r : Raises X (.ref C)) (hg : Gl X x)
    (hdb : (x == ("__debug__" : Str)) = false := by decide) : PMk X (.Call (.Name x p) [] [] pos) (fun _ H Q => Q (.ref C) none H) := by
  intro pins s σ H Q I h
  refine wpAny_Call_Name_kw (ld_glob I hg gC ?_ hdb)
  refine PySem.W.callWith_K0 I.kIn kC ?_
  show wpAny _ _ (call (.ref C) []) _ _ _
  obtain ⟨bm, N, nm, qn, bs, hdct, sn, sub, ab, col, dd, k0, k1, k2, k3, k5, mN, hC, hN, hni, T⟩ := exc_obj I.kIn q
  refine wpAny_call_exc_subT F T hC hN hni (fun h' e hm => ?_) (Nat.zero_le _)
  exact mk_of I hm r h (I.hok.gone hm.new)
end
def sRaise (c : Nat) (_ : En) (h : Heap) : RS := .raised c h
def sTry (c : Nat) (mb ms : En → Heap → RS) (s : En) (h : Heap) : RS := match mb s h with
  | .raised c' h' => if c' = c then ms s h' else .stuck
  | x => x
/-- a def's body, run -/
def runB (np nl : Nat) (mb : En → Heap → RS) (xs : List Val) (h : Heap) : Res Val := if xs.length = np then
    match mb (xs.map some ++ List.replicate (nl - np) none) h with
    | .nx _ h' => .ok .non h'
    | .rt v h' => .ok v h'
    | .raised c h' => .raised c h'
    | _ => .stuck
  else .stuck
section
variable {G : Cfg} {E : XK} {X : Cx} {k : Nat} {e : Expr} {pos p pos2 np : Pos} {sts : List Stmt} {t : TS} {m : En → Heap → RS} {x : Str} {C : Addr}
abbrev Tk (X : Cx) (E : XK) : Prop := Takes X (fun cls d _ H => E cls d H)
theorem ms_raise (c : Nat) (XC_ : XC G E X k) (tk : Tk X E) (hc : G.cls[c]? = some C) (hp : PMk X (.Call (.Name x p) [] [] pos) (fun _ H Q => Q (.ref C) none H)) : MS G E X (.Raise (some (.Call (.Name x p) [] [] pos)) none pos2) (fun _ _ H => E (.ref C) none H) (sRaise c) :=
  ⟨ps_raise XC_.calm tk hp, ⟨fun r H h s σ D hR sR q => q r H C Stp.refl hR hc⟩⟩
/-- what the model says, as a reading -/
def tM (G : Cfg) (E : XK) (m : En → Heap → RS) : TS := fun D σ H => ∃ r h s, HR G r H h ∧ SR G r H s σ ∧ PostS G r H E (m s h) D
theorem pss_tM (h : MSs G E X sts t m) : PSs X sts (tM G E m) := ⟨fun pins s σ H D I ⟨r, hh, s', hR, sR, p⟩ => h.pe.run pins s σ H D I (h.rf.run r H hh s' σ D hR sR p)⟩
/-- try: body / except X: return constant -/
theorem ms_try (c : Nat) {e2 : Expr} {v : V} {y : Val} (C0 : XC G E X k) (hs : X.stack = X.env :: X.outer) (hf : X.env.frame = some X.env.locals) (hm : X.mg x = some (.ref C)) (tk : Tk X E) (hc : G.cls[c]? = some C) (hx : PySem.W.exmOne G.K (.ref C) (.ref C) = some true)
    (hv : ∀ r H, VR G r H y v) (h2 : ∀ X' : Cx, PE X' e2 (tC v)) {pos3 pos4 : Pos}
    (hb : ∀ (E' : XK) (pn : List (Addr × PySem.Obj)) (xe : Value → Shared → Prop), XC G E' (X.tr pn xe) k → ∃ t, MSs G E' (X.tr pn xe) sts t m) (hg : Gl X x := by rfl) (hdb : (x == ("__debug__" : Str)) = false := by decide) :
    MS G E X (.Try sts [.ExceptHandler (some (.Name x np)) none [.Return (some e2) pos3] pos4] [] [] pos) (tM G E (sTry c m (sRet (mK y)))) (sTry c m (sRet (mK y))) := by
  refine ⟨⟨fun pins s σ H D I ⟨r, h, s', hR, sR, p⟩ => ?_⟩, ⟨fun r H h s σ D hR sR p => ⟨r, h, s, hR, sR, p⟩⟩⟩
  have key := ps_try_only (X := X) (x := x) (c := .ref C) (body := sts) (suite := []) (b₀ := .Return (some e2) pos3) (np := np) (pos := pos) (pos' := pos4) (tb := fun W => tM G (fun cls d H' => ∀ σ', W cls d σ' H') m) (ts := fun _ _ _ => tRet (tC v)) (Wout := fun cls d _ H => E cls d H) hs hf ⟨hg, hdb, .inl hm⟩ tk
      (fun W pn xe tk' own => by
        obtain ⟨t, q⟩ := hb (fun cls d H' => ∀ σ', W cls d σ' H') pn xe ⟨C0.K, C0.calm, C0.nd, C0.room, passes_call tk' (fun cls d σ H q => q σ), own⟩
        exact pss_tM q)
      (fun a oe cls d pn _ _ => pss_one (ps_ret (h2 _)))
  refine key.run pins s σ H D I ⟨r, h, s', hR, sR, ?_⟩
  unfold sTry at p
  cases q : m s' h with
  | raised c' h' =>
    rw [q] at p
    simp only at p
    split at p
    · rename_i ec
      subst ec
      intro r' H' C' st hR' hC' σ'
      rw [hc] at hC'
      cases hC'
      refine ⟨true, by rw [C0.K]; exact hx, fun _ a ha => ?_, fun q => nomatch q⟩
      exact p r' H' v st hR' (hv _ _)
    · exact False.elim p
  | nx a b => rw [q] at p; exact p
  | rt a b => rw [q] at p; exact p
  | bk a b => rw [q] at p; exact p
  | ct a b => rw [q] at p; exact p
  | stuck => rw [q] at p; exact p
end

/-! ### defs -/
theorem SR_start {G : Cfg} {r : List Addr} {H : Hp} {n : Nat} : ∀ {xs : List Val} {vs : List V}, VRs G r H xs vs → SR G r H (xs.map some ++ List.replicate n none) (vs.map some ++ List.replicate n none)
  | _, _, .nil => by
    induction n with
    | zero => exact .nil
    | succ n ih => exact .no ih
  | _, _, .cons a b => .so a (SR_start b)
section
variable {P : Program} {w : World} {mg : Str → Option Value} {base : PySem.Heap} {G : Cfg}
theorem fn_m {x qual : Str} {st : Stmt} {f : Addr} {fd : FuncData} {N ps : List Str} {k np nl : Nat} {mb : En → Heap → RS} (F : Fun G.K x qual st f fd) (S : FnScope N ps (defScope st)) (hnp : ps.length = np) (hnl : N.length = nl)
    (hb : ∀ (cdv : Value) (A : Around) (outer : List Env) (s : Shared) (H : Hp) (E : XK), XC G E (cxOf (L2.CX P w) P w G.K mg base N qual (defScope st) f cdv A outer s H E) k → Tk (cxOf (L2.CX P w) P w G.K mg base N qual (defScope st) f cdv A outer s H E) E →
      ∃ t, MSs G E (cxOf (L2.CX P w) P w G.K mg base N qual (defScope st) f cdv A outer s H E) (defBody st) t mb) : FnM G P w mg base (k + 1) f fd ps (runB np nl mb) := by
  subst hnp hnl
  refine ⟨F.okX S (fun vs H Q E h => h.1) (fun cdv A outer s H vs Q E hr h => ?_), fun xs h hl => by unfold runB; rw [if_neg hl]⟩
  obtain ⟨hl, r, h, xs, hR, vR, p⟩ := h
  have tk : Tk (cxOf (L2.CX P w) P w G.K mg base N qual (defScope st) f cdv A outer s H E) E := takes_of rfl rfl rfl rfl
  obtain ⟨t, q⟩ := hb cdv A outer s H E ⟨rfl, rfl, S.nd, hr, passes_call tk (fun _ _ _ _ h => h), passes_of rfl⟩ tk
  have z := q.rf.run r H h _ _ { nx := fun _ H' => Q .non H', rt := Q } hR (SR_start (n := N.length - ps.length) vR) ?_
  · refine ⟨t, q.pe, ?_⟩
    rw [← hl] at z
    exact z
  · unfold runB at p
    rw [if_pos (by rw [vR.len]; exact hl)] at p
    cases e : mb (List.map some xs ++ List.replicate (N.length - ps.length) none) h with
    | nx a b =>
      rw [e] at p
      exact fun r' H' t st hR' _ => p r' H' _ st hR' .non
    | rt a b => rw [e] at p; exact p
    | raised a b => rw [e] at p; exact p
    | bk a b => rw [e] at p; exact p.elim
    | ct a b => rw [e] at p; exact p.elim
    | stuck => rw [e] at p; exact p.elim
/-- a def that is never run out of its levels -/
theorem fn_none {f : Addr} {fd : FuncData} {ps : List Str} {k : Nat} : FnM G P w mg base k f fd ps (fun _ _ => .stuck) :=
  ⟨⟨fun vs H Q E h => h.1, fun A outer s H args us vs Q E _ _ _ _ ⟨_, _, _, _, _, _, p⟩ => p.elim⟩, fun _ _ _ => rfl⟩
theorem FnM.mono {f : Addr} {fd : FuncData} {ps : List Str} {j k : Nat} {m : List Val → Heap → Res Val} (F : FnM G P w mg base j f fd ps m) (h : j ≤ k) : FnM G P w mg base k f fd ps m := ⟨F.ok.mono h, F.st⟩
/-- the law's own promise -/
def spLaw (K : PySem.W.Frag) : Sp := fun vs H Q _ => ∃ (a : Addr) (ns : List Int), vs = [.ref a] ∧ ns.length ≤ 63 ∧ Only H ∧ SqL K H a (ns.map V.int) ∧ ∀ H', Q (.bl true) H'
theorem vrs_ints {r : List Addr} {H : Hp} : ∀ ns : List Int, VRs G r H (ns.map Val.int) (ns.map V.int)
  | [] => .nil
  | n :: ns => .cons (.int n) (vrs_ints ns)
theorem law_of {f : Addr} {fd : FuncData} {x : Str} {k : Nat} {m : List Val → Heap → Res Val} (F : FnM G P w mg base k f fd [x] m) (h : ∀ ns : List Int, ns.length ≤ 63 → ∃ h', m [.ref 0] [.fls (ns.map Val.int)] = .ok (.bl true) h') :
    FnOk P w G.K mg base (L2.CX P w) k f fd [x] (spLaw G.K) := by
  refine F.ok.imp fun vs H Q E ⟨a, ns, e, hl, hO, hS, q⟩ => ?_
  subst e
  obtain ⟨h', e⟩ := h ns hl
  have fl : FL G.K H a (ns.map V.int) := by
    rcases hS with (hS | hS) | hS
    · rcases hO a with z | ⟨o, xs, z⟩
      · rw [z] at hS; cases hS
      · rw [z] at hS; cases hS
    · exact .inl hS
    · exact .inr hS
  refine ⟨rfl, [a], [.fls (ns.map Val.int)], [.ref 0], ⟨rfl, fun i j b x y e1 e2 e3 e4 f1 f2 => ?_, fun n o b e1 e2 => ?_⟩, .cons (.ref rfl) .nil, ?_⟩
  · cases i with
    | zero => cases j with
      | zero => rfl
      | succ j => simp at e2
    | succ i => simp at e1
  · cases n with
    | zero =>
      simp at e1 e2
      subst e1 e2
      exact .fls fl (vrs_ints ns)
    | succ n => simp at e1
  · rw [e]
    intro r' H' b st hR v
    cases v
    exact q H'
end
end PyM

set_option Elab.async false
set_option linter.all false
set_option autoImplicit false
namespace PyM
open PySem L2
abbrev oFd : Val → Val → Heap → Res Val := oIC (fun _ j => decide (0 < j ∧ j < 1073741824)) fun i j => .int (i / j)
abbrev oMd : Val → Val → Heap → Res Val := oIC (fun _ j => decide (0 < j)) fun i j => .int (i % j)
abbrev oPw : Val → Val → Heap → Res Val := oIC cPow fun i j => .int (i ^ j.toNat)
abbrev oShl : Val → Val → Heap → Res Val := oIC cPow fun i j => .int (i * 2 ^ j.toNat)
abbrev oShr : Val → Val → Heap → Res Val := oIC (fun _ j => decide (0 ≤ j)) fun i j => .int (i / 2 ^ j.toNat)
abbrev oBa : Val → Val → Heap → Res Val := oI fun i j => .int (Builtin.bitAnd i j)
abbrev oBo : Val → Val → Heap → Res Val := oI fun i j => .int (Builtin.bitOr i j)
abbrev oBx : Val → Val → Heap → Res Val := oI fun i j => .int (Builtin.bitXor i j)
abbrev oLt : Val → Val → Heap → Res Val := oI fun i j => .bl (decide (i < j))
abbrev oLe : Val → Val → Heap → Res Val := oI fun i j => .bl (decide (i ≤ j))
abbrev oGt : Val → Val → Heap → Res Val := oI fun i j => .bl (decide (j < i))
abbrev oGe : Val → Val → Heap → Res Val := oI fun i j => .bl (decide (j ≤ i))
abbrev mChLeLe := mCh (fun i j => decide (i ≤ j)) (fun i j => decide (i ≤ j))
abbrev mChLeLt := mCh (fun i j => decide (i ≤ j)) (fun i j => decide (i < j))
theorem bt_ty_int : bootBuiltins "int" = some (.type Ty.int.nm) := by decide +kernel
theorem bt_ty_bool : bootBuiltins "bool" = some (.type Ty.bool.nm) := by decide +kernel
theorem bt_ty_str : bootBuiltins "str" = some (.type Ty.str.nm) := by decide +kernel
theorem bt_ty_tup : bootBuiltins "tuple" = some (.type Ty.tup.nm) := by decide +kernel
theorem bt_ty_lst : bootBuiltins "list" = some (.type Ty.lst.nm) := by decide +kernel
theorem bt_ty_dct : bootBuiltins "dict" = some (.type Ty.dct.nm) := by decide +kernel
/-- an error of the class at S is what «except S» names -/
theorem exm_self {K : PySem.W.Frag} {S : Addr} (h1 : PySem.W.subIn K (.ref S) (.type "BaseException") = some true) (h2 : PySem.W.isClsIn K S = true) (h3 : PySem.W.typeIn K (.ref S) = some (.type "type")) (h4 : PySem.W.subIn K (.ref S) (.ref S) = some true) :
    PySem.W.exmOne K (.ref S) (.ref S) = some true := by
  have e1 : (PySem.W.subIn K (.ref S) (.type "BaseException") == some true) = true := by rw [h1] <;> rfl
  have e2 : ((PySem.W.clsIn K S).isSome && PySem.W.typeIn K (.ref S) == some (.type "type")) = true := by
    have h2' : (PySem.W.clsIn K S).isSome = true := h2
    rw [h2', h3] <;> rfl
  show (if (PySem.W.subIn K (.ref S) (.type "BaseException") == some true) = true then (if ((PySem.W.clsIn K S).isSome && PySem.W.typeIn K (.ref S) == some (.type "type")) = true then PySem.W.subIn K (.ref S) (.ref S) else none) else none) = some true
  rw [if_pos e1, if_pos e2]
  exact h4
end PyM

set_option Elab.async false
set_option linter.all false
set_option autoImplicit false
set_option maxHeartbeats 4000000
/-! more rules: is True, is False -/
namespace PyM
open PySem L2
variable {G : Cfg} {E : XK} {X : Cx} {k : Nat} {a b c e : Expr} {ta tb tc : TE} {ma mb mc : En → Heap → Res Val} {pos : Pos} {u v w : TT} {mu mv : En → Heap → Res Bool}
def oIsB (neg : Bool) (x y : Val) (h : Heap) : Res Val := match x, y with
  | .bl a, .bl b => .ok (.bl (if neg then !decide (a = b) else decide (a = b))) h
  | .str _, .bl _ => .ok (.bl neg) h
  | _, _ => .stuck
theorem op_is_sb {X : Cx} : OpR X (compareOp .Is) (fun x y H Q => ∃ a b, x = .str a ∧ y = .bl b ∧ Q (.bl false) H) := by
  intro pins s σ H x y v u Q I rx ry h
  obtain ⟨a, b, rfl, rfl, q⟩ := h
  obtain ⟨t, rfl⟩ := rx
  cases (show u = Value.bool b from ry)
  exact wpAny_is_other rfl (fun z => by cases z) ⟨.bl false, H, I, rfl, q⟩
theorem op_isnot_sb {X : Cx} : OpR X (compareOp .IsNot) (fun x y H Q => ∃ a b, x = .str a ∧ y = .bl b ∧ Q (.bl true) H) := by
  intro pins s σ H x y v u Q I rx ry h
  obtain ⟨a, b, rfl, rfl, q⟩ := h
  obtain ⟨t, rfl⟩ := rx
  cases (show u = Value.bool b from ry)
  exact wpAny_isNot_other rfl (fun z => by cases z) ⟨.bl true, H, I, rfl, q⟩
abbrev rIsB : R2 := fun x y H Q => (∃ a b, x = V.bl a ∧ y = V.bl b ∧ Q (V.bl (decide (a = b))) H) ∨ (∃ a b, x = V.str a ∧ y = V.bl b ∧ Q (V.bl false) H)
abbrev rIsnB : R2 := fun x y H Q => (∃ a b, x = V.bl a ∧ y = V.bl b ∧ Q (V.bl (!decide (a = b))) H) ∨ (∃ a b, x = V.str a ∧ y = V.bl b ∧ Q (V.bl true) H)
theorem rf_isB : Rf2 G E rIsB (oIsB false) := by
  refine ⟨fun r H h x y v u Q hR a b p => ?_⟩
  cases a with
  | bl i => cases b with
    | bl j => exact .inl ⟨i, j, rfl, rfl, p.here hR (.bl _)⟩
    | _ => exact False.elim p
  | str hx => cases b with
    | bl j => exact .inr ⟨_, j, rfl, rfl, p.here hR (.bl _)⟩
    | _ => exact False.elim p
  | _ => exact False.elim p
theorem rf_isnB : Rf2 G E rIsnB (oIsB true) := by
  refine ⟨fun r H h x y v u Q hR a b p => ?_⟩
  cases a with
  | bl i => cases b with
    | bl j => exact .inl ⟨i, j, rfl, rfl, p.here hR (.bl _)⟩
    | _ => exact False.elim p
  | str hx => cases b with
    | bl j => exact .inr ⟨_, j, rfl, rfl, p.here hR (.bl _)⟩
    | _ => exact False.elim p
  | _ => exact False.elim p
theorem mc_isB (ha : ME G E X a ta ma) (hb : ME G E X b tb mb) : MC G E X .Is a b (tOp rIsB ta tb) (mB (oIsB false) ma mb) := ⟨pc_of (op_is_bl.or op_is_sb) ha.pe hb.pe, ha.rf.b2 hb.rf rf_isB⟩
theorem mc_isnB (ha : ME G E X a ta ma) (hb : ME G E X b tb mb) : MC G E X .IsNot a b (tOp rIsnB ta tb) (mB (oIsB true) ma mb) := ⟨pc_of (op_isnot_bl.or op_isnot_sb) ha.pe hb.pe, ha.rf.b2 hb.rf rf_isnB⟩
end PyM

set_option Elab.async false
set_option linter.all false
set_option autoImplicit false
set_option maxHeartbeats 4000000
/-! more rules: list.index -/
namespace PyM
open PySem L2
variable {G : Cfg} {E : XK} {X : Cx} {k : Nat} {r : List Addr} {H : Hp} {h : Heap}
def fix (d : D) : List D → Option Nat
  | [] => none
  | z :: ds => if deq z d = true then some 0 else (fix d ds).map (· + 1)
theorem fix_py (ok : G.Ok) {d : D} {n m : Nat} (hd : d.wf G.sts.length n = true) : ∀ {ds : List D} {j : Nat}, D.wfs G.sts.length m ds = true → fix d ds = some j →
    (∃ z, (D.pys G ds)[j]? = some z ∧ PyData.eqv z (d.py G) = true) ∧ ∀ (m : Nat) (z' : PyData), m < j → (D.pys G ds)[m]? = some z' → PyData.eqv z' (d.py G) = false
  | [], j, _, e => by cases e
  | x :: ds, j, f, e => by
    simp only [D.wfs, Bool.and_eq_true] at f
    have q := eqv_py ok x d _ _ f.1 hd
    rw [fix] at e
    split at e
    · rename_i c
      cases e
      exact ⟨⟨x.py G, by simp [D.pys], by rw [q]; exact c⟩, fun m z' hm => by omega⟩
    · rename_i c
      obtain ⟨i, ei, rfl⟩ := Option.map_eq_some_iff.mp e
      obtain ⟨⟨z, h1, h2⟩, h3⟩ := fix_py ok hd f.2 ei
      refine ⟨⟨z, by simpa [D.pys] using h1, h2⟩, fun m z' hm hz => ?_⟩
      cases m with
      | zero =>
        simp [D.pys] at hz
        subst hz
        rw [q]
        simpa using c
      | succ m => exact h3 m z' (by omega) (by simpa [D.pys] using hz)
def bIndex (x : Val) (xs : List Val) (h : Heap) : Res Val := match x, xs with
  | .ref a, [y] => match h[a]? with
    | some (.lst ys) => match conv 60 h y, optAll (conv 59 h) ys with
      | some d, some ds => match fix d ds with
        | some j => .ok (.int (j : Nat)) h
        | none => .stuck
      | _, _ => .stuck
    | _ => .stuck
  | _, _ => .stuck
theorem rm_index (ok : G.Ok) : RfM G E (rIndexD G.K) bIndex := by
  refine ⟨fun r H h x v xs vs Q hR vx vv p => ?_⟩
  unfold bIndex at p
  split at p
  · cases vx with
    | ref ea => cases vv with
      | cons q1 q2 =>
        cases q2
        split at p
        · rename_i ys eo
          split at p
          · rename_i d ds e1 e2
            split at p
            · rename_i j ej
              cases hR.ob _ _ _ eo ea with
              | lst hl hv =>
                obtain ⟨d1, w1⟩ := conv_dp hR _ _ _ _ q1 e1
                obtain ⟨d2, w2⟩ := optAll_dp (fun x v d => conv_dp hR 59 x v d) _ _ _ hv e2
                obtain ⟨⟨z, z1, z2⟩, z3⟩ := fix_py ok w1 w2 ej
                have sl : SeqAt.shaped (.list (D.pys G ds)) = true := by
                  have : (D.lst ds).wf G.sts.length 60 = true := by simpa [D.wf] using w2
                  have := shaped_py ok this (by decide)
                  simpa [D.py] using this
                exact ⟨_, _, _, _, j, z, rfl, rfl, .lst (SqL.of hl) d2, d1, sl, shaped_py ok w1 (by decide), z1, z2, z3, p.here hR (.int _)⟩
            · exact False.elim p
          · exact False.elim p
        · exact False.elim p
  · exact False.elim p
theorem cl_index (C : XC G E X k) : MtR X "list.index" (rIndexD G.K) := by
  have := mt_indexD (X := X) C.hu
  rwa [C.K] at this
/-! ### what stands written in the module: tuples, dicts with text keys -/
mutual
inductive CV (K : PySem.W.Frag) (sts : List Str) : Val → Value → Prop
  | non : CV K sts .non .none
  | int (i : Int) {t : Tok} : CV K sts (.int i) (.int i t)
  | str {n : Nat} {x : Str} {t : Tok} : sts[n]? = some x → CV K sts (.str n) (.str x t)
  | tup {xs : List Val} {a : Addr} {o : PySem.Obj} {its : Array Value} {n : Nat} : K.lookup a = some o → o.cls = .type "tuple" → o.data = .seq its n → its.size ≤ sizeLine → CVs K sts xs its.toList → CV K sts (.tup xs) (.ref a)
inductive CVs (K : PySem.W.Frag) (sts : List Str) : List Val → List Value → Prop
  | nil : CVs K sts [] []
  | cons {x : Val} {v : Value} {xs : List Val} {vs : List Value} : CV K sts x v → CVs K sts xs vs → CVs K sts (x :: xs) (v :: vs)
end
mutual
theorem CV.vr {G : Cfg} : ∀ {x : Val} {u : Value}, CV G.K G.sts x u → ∃ v, RelV v u ∧ ∀ r H, VR G r H x v
  | _, _, .non => ⟨.non, rfl, fun _ _ => .non⟩
  | _, _, .int i (t := t) => ⟨.int i, ⟨t, rfl⟩, fun _ _ => .int i⟩
  | _, _, .str e (t := t) => ⟨.str _, ⟨t, rfl⟩, fun _ _ => .str e⟩
  | _, _, .tup (a := a) h1 h2 h3 h4 h5 => by
    obtain ⟨vs, q1, q2⟩ := CVs.vrs h5
    exact ⟨.ref a, rfl, fun r H => .tup (.inr ⟨_, _, _, h1, h2, h3, h4, q1⟩) (q2 r H)⟩
theorem CVs.vrs {G : Cfg} : ∀ {xs : List Val} {us : List Value}, CVs G.K G.sts xs us → ∃ vs, Vals vs us ∧ ∀ r H, VRs G r H xs vs
  | _, _, .nil => ⟨[], .nil, fun _ _ => .nil⟩
  | _, _, .cons a b => by
    obtain ⟨v, q1, q2⟩ := CV.vr a
    obtain ⟨vs, q3, q4⟩ := CVs.vrs b
    exact ⟨v :: vs, .cons q1 q3, fun r H => .cons (q2 r H) (q4 r H)⟩
end
/-- a name of the module that holds a written value -/
def KT (K : PySem.W.Frag) (mg : Str → Option Value) (sts : List Str) (x : Str) (v : Val) : Prop := ∃ u, mg x = some u ∧ CV K sts v u
theorem me_globC {x : Str} {v : Val} {pos : Pos} (C : XC G E X k) (q : KT G.K X.mg G.sts x v) (hg : Gl X x := by rfl) (hd : (x == ("__debug__" : Str)) = false := by decide) : ME G E X (.Name x pos) (fun σ H Q => ∀ u, RelV u ((X.mg x).getD .none) → (∀ r H, VR G r H v u) → Q u H) (mK v) := by
  obtain ⟨u, hm, hc⟩ := q
  obtain ⟨w, hw, hv⟩ := hc.vr
  refine ⟨?_, ⟨fun r H h s σ Q hR sR p u _ hu => p.here hR (hu r H)⟩⟩
  have := pe_glob (pos := pos) hg hm hw hd
  refine ⟨fun pins s σ H Q I z => this.run pins s σ H Q I (z w ?_ hv)⟩
  rw [hm]; exact hw
/-- entries of a written dict -/
inductive CE (w : World) (K : PySem.W.Frag) (sts : List Str) : List (Nat × Val) → List DictEntry → Prop
  | nil : CE w K sts [] []
  | cons {i : Nat} {v : Val} {z : Str} {t : Tok} {u : Value} {hh : Int} {l es} : sts[i]? = some z → hh = PyData.keyHash w.params z → CV K sts v u → CE w K sts l es → CE w K sts ((i, v) :: l) (⟨hh, .str z t, u⟩ :: es)
structure KD (w : World) (K : PySem.W.Frag) (mg : Str → Option Value) (sts : List Str) (x : Str) (a : Addr) (es : Array DictEntry) (n : Nat) (l : List (Nat × Val)) : Prop where
  mgx : mg x = some (.ref a)
  lk : K.lookup a = some ⟨.type "dict", none, .dict es n, #[]⟩
  low : (a == sysModules) = false
  ce : CE w K sts l es.toList
def lkN (l : List (Nat × Val)) (n : Nat) : Option Val := (l.find? fun kv => kv.1 == n).map (·.2)
theorem CE.lit {w : World} {K : PySem.W.Frag} {sts : List Str} : ∀ {l : List (Nat × Val)} {es : List DictEntry}, CE w K sts l es → PySem.W.KeysLit w.params es
  | _, _, .nil => trivial
  | _, _, .cons _ a _ b => ⟨⟨_, _, rfl, a⟩, CE.lit b⟩
theorem CE.nref {w : World} {K : PySem.W.Frag} {sts : List Str} : ∀ {l : List (Nat × Val)} {es : List DictEntry}, CE w K sts l es → es.any (·.refKey) = false
  | _, _, .nil => rfl
  | _, _, .cons _ _ _ b => by rw [List.any_cons, CE.nref b]; rfl
theorem CE.find (ok : G.Ok) {w : World} {n : Nat} {z : Str} (hz : G.sts[n]? = some z) : ∀ {l : List (Nat × Val)} {es : List DictEntry}, CE w G.K G.sts l es →
    (lkN l n = none ∧ es.find? (·.key.isStr z) = none) ∨ ∃ v e, lkN l n = some v ∧ es.find? (·.key.isStr z) = some e ∧ CV G.K G.sts v e.val
  | _, _, .nil => .inl ⟨rfl, rfl⟩
  | _, _, @CE.cons _ _ _ i v z' t u hh _ _ hi _ a b => by
    unfold lkN
    rw [List.find?_cons, List.find?_cons]
    by_cases e : i = n
    · subst e
      rw [hi] at hz
      cases hz
      right
      refine ⟨v, ⟨hh, Value.str z t, u⟩, ?_, ?_, a⟩
      · simp
      · have : (Value.str z t).isStr z = true := by simp [Value.isStr]
        simp only [this]
    · have hne : z' ≠ z := fun q => e (by subst q; exact sts_inj ok hi hz)
      have h1 : (i == n) = false := beq_eq_false_iff_ne.mpr e
      have h2 : (Value.str z' t).isStr z = false := by simp [Value.isStr, hne]
      simp only [h1, h2]
      exact CE.find ok hz b
theorem KD.ns (ok : G.Ok) {w : World} {a : Addr} {es : Array DictEntry} {m n : Nat} {z : Str} {l : List (Nat × Val)} (hl : G.K.lookup a = some ⟨.type "dict", none, .dict es m, #[]⟩) (ce : CE w G.K G.sts l es.toList) (hz : G.sts[n]? = some z) :
    (lkN l n = none ∧ PySem.W.nsIn G.K a z = some none) ∨ ∃ v u, lkN l n = some v ∧ PySem.W.nsIn G.K a z = some (some u) ∧ CV G.K G.sts v u := by
  unfold PySem.W.nsIn
  rw [hl]
  rcases ce.find ok hz with ⟨e1, e2⟩ | ⟨v, e, e1, e2, e3⟩
  · left
    refine ⟨e1, ?_⟩
    simp only [e2, ce.nref]
    simp
  · right
    refine ⟨v, e.val, e1, ?_, e3⟩
    simp only [e2]
/-- in, not in a written dict -/
def kIn (neg : Bool) (l : List (Nat × Val)) (x : Val) (h : Heap) : Res Val := match x with
  | .str n => .ok (.bl (if neg then !(lkN l n).isSome else (lkN l n).isSome)) h
  | _ => .stuck
def kIx (l : List (Nat × Val)) (x : Val) (h : Heap) : Res Val := match x with
  | .str n => match lkN l n with
    | some v => .ok v h
    | none => .stuck
  | _ => .stuck
def kGet (l : List (Nat × Val)) (x y : Val) (h : Heap) : Res Val := match x with
  | .str n => .ok ((lkN l n).getD y) h
  | _ => .stuck
section
variable {a b e f : Expr} {ta tb ty tx : TE} {ma mb : En → Heap → Res Val} {pos p p2 apos cpos : Pos} {x : Str} {l : List (Nat × Val)}
variable {d : Addr} {es : Array DictEntry} {n : Nat}
abbrev rKIn (K : PySem.W.Frag) (d : Addr) : R2 := fun x y H Q => ∃ (z : Str) (r : Option Value), x = .str z ∧ y = .ref d ∧ PySem.W.nsIn K d z = some r ∧ Q (.bl r.isSome) H
abbrev rKNotIn (K : PySem.W.Frag) (d : Addr) : R2 := fun x y H Q => ∃ (z : Str) (r : Option Value), x = .str z ∧ y = .ref d ∧ PySem.W.nsIn K d z = some r ∧ Q (.bl (!r.isSome)) H
theorem KD.kd (C : XC G E X k) (q : KD X.w G.K X.mg G.sts x d es n l) : KDict X.K X.w d es n := ⟨by rw [C.K]; exact q.lk, q.ce.lit, q.low⟩
theorem KD.pe (q : KD X.w G.K X.mg G.sts x d es n l) (hg : Gl X x) (hd : (x == ("__debug__" : Str)) = false) : PE X (.Name x p) (tC (.ref d)) := pe_glob (v := .ref d) hg q.mgx rfl hd
theorem mc_kin (ok : G.Ok) (C : XC G E X k) (q : KD X.w G.K X.mg G.sts x d es n l) (ha : ME G E X a ta ma) (hg : Gl X x := by rfl) (hd : (x == ("__debug__" : Str)) = false := by decide) : MC G E X .In a (.Name x p) (tOp (rKIn X.K d) ta (tC (.ref d))) (mU (kIn false l) ma) := by
  refine ⟨pc_of (op_in_kd (q.kd C)) ha.pe (q.pe hg hd), ⟨fun r H h s σ Q hR sR pp => ha.rf.run r H h s σ _ hR sR (pp.seq fun v h1 r1 H1 u s1 hR1 v1 p1 => ?_)⟩⟩
  cases v1 with
  | @str m z hz =>
    have p1' : PostR G (VR G) r1 H1 E (.ok (.bl (lkN l m).isSome) h1) Q := p1
    rcases KD.ns ok q.lk q.ce hz with ⟨e1, e2⟩ | ⟨v, w, e1, e2, e3⟩
    · rw [e1] at p1'
      exact ⟨z, none, rfl, rfl, by rw [C.K]; exact e2, p1'.here hR1 (.bl _)⟩
    · rw [e1] at p1'
      exact ⟨z, some w, rfl, rfl, by rw [C.K]; exact e2, p1'.here hR1 (.bl _)⟩
  | _ => exact False.elim p1
theorem mc_knotin (ok : G.Ok) (C : XC G E X k) (q : KD X.w G.K X.mg G.sts x d es n l) (ha : ME G E X a ta ma) (hg : Gl X x := by rfl) (hd : (x == ("__debug__" : Str)) = false := by decide) : MC G E X .NotIn a (.Name x p) (tOp (rKNotIn X.K d) ta (tC (.ref d))) (mU (kIn true l) ma) := by
  refine ⟨pc_of (op_notIn_kd (q.kd C)) ha.pe (q.pe hg hd), ⟨fun r H h s σ Q hR sR pp => ha.rf.run r H h s σ _ hR sR (pp.seq fun v h1 r1 H1 u s1 hR1 v1 p1 => ?_)⟩⟩
  cases v1 with
  | @str m z hz =>
    have p1' : PostR G (VR G) r1 H1 E (.ok (.bl (!(lkN l m).isSome)) h1) Q := p1
    rcases KD.ns ok q.lk q.ce hz with ⟨e1, e2⟩ | ⟨v, w, e1, e2, e3⟩
    · rw [e1] at p1'
      exact ⟨z, none, rfl, rfl, by rw [C.K]; exact e2, p1'.here hR1 (.bl _)⟩
    · rw [e1] at p1'
      exact ⟨z, some w, rfl, rfl, by rw [C.K]; exact e2, p1'.here hR1 (.bl _)⟩
  | _ => exact False.elim p1
/-- D[e] -/
theorem me_kix (ok : G.Ok) (C : XC G E X k) (q : KD X.w G.K X.mg G.sts x d es n l) (hb : ME G E X b tb mb) (hg : Gl X x := by rfl) (hd : (x == ("__debug__" : Str)) = false := by decide) (hs : PlainIx b := by exact fun _ _ => rfl) :
    ME G E X (.Subscript (.Name x p) b pos) (tOp (rIxD X.K X.w) (tC (.ref d)) tb) (mU (kIx l) mb) := by
  refine ⟨pe_ix ix_kdict (q.pe hg hd) hb.pe hs, ⟨fun r H h s σ Q hR sR pp => hb.rf.run r H h s σ _ hR sR (pp.seq fun v h1 r1 H1 u s1 hR1 v1 p1 => ?_)⟩⟩
  cases v1 with
  | @str m z hz =>
    rcases KD.ns ok q.lk q.ce hz with ⟨e1, e2⟩ | ⟨v, w, e1, e2, e3⟩
    · have : PostR G (VR G) r1 H1 E .stuck Q := by
        have p1' := p1
        unfold kIx at p1'; simp only [e1] at p1'
        exact p1'
      exact this.elim
    · have p1' : PostR G (VR G) r1 H1 E (.ok v h1) Q := by
        have p1' := p1
        unfold kIx at p1'; simp only [e1] at p1'
        exact p1'
      obtain ⟨w', hw, hv⟩ := e3.vr
      exact ⟨d, z, w', rfl, rfl, ⟨es, n, w, by rw [C.K]; exact q.lk, q.ce.lit, by rw [C.K]; exact e2, hw⟩, p1'.here hR1 (hv _ _)⟩
  | _ => exact False.elim p1
/-- D.get(e, f) -/
def tKGet (K : PySem.W.Frag) (d : Addr) (ty tx : TE) : TE := fun σ H Q => ty σ H fun y H2 => tx σ H2 fun z H3 => ∃ (z' : Str) (r : Option Value) (v : V), y = .str z' ∧ PySem.W.nsIn K d z' = some r ∧ (match r with | some u => RelV v u | none => v = z) ∧ Q v H3
theorem pe_kget2 {o : Expr} (D : KDict X.K X.w d es n) (ho : PE X o (tC (.ref d))) (he : PE X e ty) (hf : PE X f tx) (m : M2 X o "get" apos e f cpos) : PE X (.Call (.Attribute o "get" apos) [e, f] [] cpos) (tKGet X.K d ty tx) := by
  refine ⟨fun pins s σ H Q I hyp => ?_⟩
  have first := ho.run pins s σ H (fun v H' => v = .ref d ∧ tKGet X.K d ty tx σ H' Q) I ⟨rfl, hyp⟩
  refine wpAny_Call_method m.base m.few m.line PySem.F.plainAttrs_dict PySem.F.slot_dict_get PySem.F.type_dict_get (thn first fun ov sA ⟨xA, HA, IA, rA, eA, qA⟩ => ?_)
  subst eA
  obtain rfl : ov = Value.ref d := rA
  have mo := PySem.W.mapOf_K (prog := X.prog) (w := X.w) IA.kIn D.at_ D.lit
  refine ⟨mo.typeIs, fun b eb => ?_, ?_⟩
  · cases eb
    obtain ⟨ob, _, _, z1, z2, _⟩ := mo
    exact ⟨ob, z1, z2.2.1⟩
  · rw [m.trees]
    refine Calls.callWith_builtin rfl (Calls.evalArgs_plain (Calls.spliced_cons (thn (he.run pins sA σ HA _ IA qA) fun yv sB ⟨y, HB, IB, rB, qB⟩ => Calls.spliced_cons (thn (hf.run pins sB σ HB _ IB qB) fun zv sC ⟨z, HC, IC, rC, zz, rr, vv, ey, en, ev, qC⟩ => Calls.spliced_nil ?_))))
    subst ey
    obtain ⟨t, rfl⟩ := rB
    have mo2 := PySem.W.mapOf_K (prog := X.prog) (w := X.w) IC.kIn D.at_ D.lit
    refine call_meetsIn PySem.F.slot_dict_get mo2.typeIs PySem.F.entry_dict_get (PySem.F.args_dict_get_3 _ _ _) (meets_dict_get_default (strKind X.prog X.w) d (strKind_is X.prog X.w zz t) D.low zv) ⟨_, mo2, ?_⟩
    rw [PySem.W.find_K D.at_ en]
    refine ⟨vv, HC, IC.tok _, ?_, qC⟩
    cases rr with
    | none =>
      have : vv = z := ev
      subst this
      exact rC
    | some u0 => exact ev
theorem me_kget (ok : G.Ok) (C : XC G E X k) (q : KD X.w G.K X.mg G.sts x d es n l) (he : ME G E X e ty ma) (hf : ME G E X f tx mb)
    (m : M2 X (.Name x p) "get" apos e f cpos := by exact ⟨rfl, rfl, rfl, rfl⟩) (hg : Gl X x := by rfl) (hd : (x == ("__debug__" : Str)) = false := by decide) :
    ME G E X (.Call (.Attribute (.Name x p) "get" apos) [e, f] [] cpos) (tKGet X.K d ty tx) (mB (kGet l) ma mb) := by
  refine ⟨pe_kget2 (q.kd C) (q.pe hg hd) he.pe hf.pe m, ⟨fun r H h s σ Q hR sR pp => ?_⟩⟩
  refine he.rf.run r H h s σ _ hR sR (pp.seq fun v h1 r1 H1 u s1 hR1 v1 p1 => ?_)
  refine hf.rf.run r1 H1 h1 s σ _ hR1 (sR.mono s1) (p1.seq fun y h2 r2 H2 w s2 hR2 v2 p2 => ?_)
  have v1' := v1.mono s2
  cases v1' with
  | @str m z hz =>
    have p2' : PostR G (VR G) r2 H2 E (.ok ((lkN l m).getD y) h2) Q := p2
    rcases KD.ns ok q.lk q.ce hz with ⟨e1, e2⟩ | ⟨v, u', e1, e2, e3⟩
    · rw [e1] at p2'
      exact ⟨z, none, w, rfl, by rw [C.K]; exact e2, rfl, p2'.here hR2 v2⟩
    · rw [e1] at p2'
      obtain ⟨w', hw, hv⟩ := e3.vr
      exact ⟨z, some u', w', rfl, by rw [C.K]; exact e2, hw, p2'.here hR2 (hv _ _)⟩
  | _ => exact False.elim p2
end
/-! ### texts: length, one sign, by a table -/
def lkS (tbl : List (Nat × List Nat)) (n : Nat) : Option (List Nat) := (tbl.find? fun kv => kv.1 == n).map (·.2)
def oIxS (tbl : List (Nat × List Nat)) (x y : Val) (h : Heap) : Res Val := match x, y with
  | .str n, .int i => match lkS tbl n with
    | some l => match L2.atI l i with
      | some c => .ok (.str c) h
      | none => .stuck
    | none => .stuck
  | _, _ => .stuck
def bLenS (tbl : List (Nat × List Nat)) (xs : List Val) (h : Heap) : Res Val := match xs with
  | [.str n] => match lkS tbl n with
    | some l => .ok (.int l.length) h
    | none => .stuck
  | _ => .stuck
def stOk (sts : List Str) (tbl : List (Nat × List Nat)) : Bool := tbl.all fun kv => match sts[kv.1]? with
  | some z => decide (z.cps.size ≤ 1000) && (z.cps.toList.map (fun c => some (⟨#[c]⟩ : Str)) == kv.2.map (fun c => sts[c]?))
  | none => false
theorem stOk_at {sts : List Str} {tbl : List (Nat × List Nat)} (o : stOk sts tbl = true) {n : Nat} {l : List Nat} (e : lkS tbl n = some l) {z : Str} (hz : sts[n]? = some z) : z.cps.size ≤ 1000 ∧ z.cps.toList.map (fun c => some (⟨#[c]⟩ : Str)) = l.map (fun c => sts[c]?) := by
  unfold lkS at e
  obtain ⟨kv, h1, rfl⟩ := Option.map_eq_some_iff.mp e
  have hm := List.mem_of_find?_eq_some h1
  have hn := List.find?_some h1
  have := List.all_eq_true.mp o kv hm
  have hn' : kv.1 = n := by simpa using hn
  rw [hn', hz] at this
  simp only [Bool.and_eq_true, decide_eq_true_eq, beq_iff_eq] at this
  exact this
theorem atI_map' {α β : Type} (f : α → β) (xs : List α) (i : Int) : L2.atI (xs.map f) i = (L2.atI xs i).map f := by
  unfold L2.atI
  rw [List.length_map]
  cases L2.ixN xs.length i with
  | none => rfl
  | some j => simp
section
variable {a b e : Expr} {ta tb : TE} {ma mb : En → Heap → Res Val} {pos p : Pos} {tbl : List (Nat × List Nat)}
theorem rf_ixS (o : stOk G.sts tbl = true) : Rf2 G E rIxS (oIxS tbl) := by
  refine ⟨fun r H h x y v u Q hR vx vy p => ?_⟩
  unfold oIxS at p
  split at p
  · rename_i nn i
    cases vx with
    | @str n z hz => cases vy with
      | int _ =>
        split at p
        · rename_i l el
          split at p
          · rename_i c ec
            obtain ⟨q1, q2⟩ := stOk_at o el hz
            have q3 := atI_map' (fun c => some (⟨#[c]⟩ : Str)) z.cps.toList i
            rw [q2, atI_map', ec] at q3
            obtain ⟨cp, e1, e2⟩ := Option.map_eq_some_iff.mp q3.symm
            exact ⟨z, i, cp, rfl, rfl, Nat.le_trans q1 (by rw [sizeLine_eq]; decide), e1, p.here hR (.str e2.symm)⟩
          · exact False.elim p
        · exact False.elim p
  · exact False.elim p
theorem me_ixS (o : stOk G.sts tbl = true) (ha : ME G E X a ta ma) (hb : ME G E X b tb mb) (hs : PlainIx b := by exact fun _ _ => rfl) : ME G E X (.Subscript a b pos) (tOp rIxS ta tb) (mB (oIxS tbl) ma mb) :=
  ⟨pe_ix ix_str ha.pe hb.pe hs, ha.rf.b2 hb.rf (rf_ixS o)⟩
theorem rl_lenS (o : stOk G.sts tbl = true) : RfL G E (rLenA G.K) (bLenS tbl) := by
  refine ⟨fun r H h xs vs Q hR v p => ?_⟩
  unfold bLenS at p
  split at p
  · cases v with
    | cons q1 q2 =>
      cases q1
      cases q2
      rename_i n z hz
      split at p
      · rename_i l el
        obtain ⟨q1, q2⟩ := stOk_at o el hz
        have ql := congrArg List.length q2
        simp only [List.length_map, Array.length_toList] at ql
        refine .inl ⟨_, z.length, rfl, ⟨Nat.le_trans q1 (by rw [sizeLine_eq]; decide), rfl⟩, ?_⟩
        have e : z.length = l.length := ql
        rw [e]
        exact p.here hR (.int _)
      · exact False.elim p
  · exact False.elim p
end
/-! ### a, b = x, y and a, b, c = x, y, z -/
def sPar2 (i j : Nat) (mA : En → Heap → Res (List Val)) (s : En) (h : Heap) : RS := (mA s h).thenS fun xs h1 => match xs with
  | [x, y] => .nx ((s.set i (some x)).set j (some y)) h1
  | _ => .stuck
def sPar3 (i j l : Nat) (mA : En → Heap → Res (List Val)) (s : En) (h : Heap) : RS := (mA s h).thenS fun xs h1 => match xs with
  | [x, y, z] => .nx (((s.set i (some x)).set j (some y)).set l (some z)) h1
  | _ => .stuck
section
variable {a b c : Expr} {tA : TA} {mA : En → Heap → Res (List Val)} {px py pz pt pos : Pos} {kt k2 pt2} {x y z : Str}
theorem ms_par2 (i j : Nat) (C : XC G E X k) (hi : X.N[i]? = some x) (hj : X.N[j]? = some y) (hij : i ≠ j) (hx : X.env.scope.names.lookup x = some .local) (hy : X.env.scope.names.lookup y = some .local) (ha : MA G E X [a, b] tA mA)
    (hw : swappedStores [.Tuple [.Name x px, .Name y py] kt pt] (.Tuple [a, b] k2 pt2) X.env = pure (some [x, y]))
    (hs : swapsWithSole [.Tuple [.Name x px, .Name y py] kt pt] (.Tuple [a, b] k2 pt2) pos.line X.env = pure false := by rfl) :
    MS G E X (.Assign [.Tuple [.Name x px, .Name y py] kt pt] (.Tuple [a, b] k2 pt2) pos) (tPar i j tA) (sPar2 i j mA) := by
  refine ⟨ps_par C.calm C.nd hi hj hij hx hy ha.pe hw hs, ⟨fun r H h s σ D hR sR p => ?_⟩⟩
  refine ha.rf.run r H h s σ _ hR sR (p.seqS fun xs h1 r1 H1 vs s1 hR1 v1 p1 => ?_)
  split at p1
  · rename_i u w
    cases v1 with
    | cons q1 q2 => cases q2 with
      | cons q3 q4 =>
        cases q4
        exact ⟨_, _, rfl, p1.here hR1 (((sR.mono s1).set q1 i).set q3 j)⟩
  · exact False.elim p1
theorem ms_par3 (i j l : Nat) (C : XC G E X k) (hi : X.N[i]? = some x) (hj : X.N[j]? = some y) (hl : X.N[l]? = some z) (hij : i ≠ j) (hil : i ≠ l) (hjl : j ≠ l) (hx : X.env.scope.names.lookup x = some .local) (hy : X.env.scope.names.lookup y = some .local) (hz : X.env.scope.names.lookup z = some .local) (ha : MA G E X [a, b, c] tA mA)
    (hw : swappedStores [.Tuple [.Name x px, .Name y py, .Name z pz] kt pt] (.Tuple [a, b, c] k2 pt2) X.env = pure (some [x, y, z]))
    (hs : swapsWithSole [.Tuple [.Name x px, .Name y py, .Name z pz] kt pt] (.Tuple [a, b, c] k2 pt2) pos.line X.env = pure false := by rfl) :
    MS G E X (.Assign [.Tuple [.Name x px, .Name y py, .Name z pz] kt pt] (.Tuple [a, b, c] k2 pt2) pos) (tPar3 i j l tA) (sPar3 i j l mA) := by
  refine ⟨ps_par3 C.calm C.nd hi hj hl hij hil hjl hx hy hz ha.pe hw hs, ⟨fun r H h s σ D hR sR p => ?_⟩⟩
  refine ha.rf.run r H h s σ _ hR sR (p.seqS fun xs h1 r1 H1 vs s1 hR1 v1 p1 => ?_)
  split at p1
  · rename_i u w w'
    cases v1 with
    | cons q1 q2 => cases q2 with
      | cons q3 q4 => cases q4 with
        | cons q5 q6 =>
          cases q6
          exact ⟨_, _, _, rfl, p1.here hR1 ((((sR.mono s1).set q1 i).set q3 j).set q5 l)⟩
  · exact False.elim p1
end
end PyM

set_option Elab.async false
set_option linter.all false
set_option autoImplicit false
set_option maxHeartbeats 4000000
set_option maxRecDepth 100000
/-! an end by facts at given places -/
namespace PyM
open PySem PySem.Spec PyProof.Rows L2 He
theorem funOf {K : PySem.W.Frag} {x qual : Str} {st : Stmt} {f : Addr} {fd : FuncData} (F : FunD K x qual (defArgs st) (defBody st) (defScope st) [] [] f fd) : Fun K x qual st f fd := by
  obtain ⟨oc, od, dV, kV, doc, pm, an, cdv, ct, osl, e, lk, hcd, df, _⟩ := F.ex
  rcases df with ⟨_, rfl⟩ | ⟨h, _⟩
  · subst e
    exact fun_mk (st := st) lk hcd F.kp
  · exact absurd rfl h
/-! defs with defaults, called with all -/
section
variable {P : Program} {w : World} {mg : Str → Option Value} {base : PySem.Heap} {G : Cfg}
theorem fnd_m {dvs : List V} {kws : List (Str × V)} {x qual : Str} {st : Stmt} {f : Addr} {fd : FuncData} {N ps : List Str} {k np nl : Nat} {mb : En → Heap → RS} (F : FunD G.K x qual (defArgs st) (defBody st) (defScope st) dvs kws f fd) (S : FnScope N ps (defScope st)) (hnp : ps.length = np) (hnl : N.length = nl)
    (hb : ∀ (cdv : Value) (A : Around) (outer : List Env) (s : Shared) (H : Hp) (E : XK), XC G E (cxOf (L2.CX P w) P w G.K mg base N qual (defScope st) f cdv A outer s H E) k → Tk (cxOf (L2.CX P w) P w G.K mg base N qual (defScope st) f cdv A outer s H E) E →
      ∃ t, MSs G E (cxOf (L2.CX P w) P w G.K mg base N qual (defScope st) f cdv A outer s H E) (defBody st) t mb) : FnM G P w mg base (k + 1) f fd ps (runB np nl mb) := by
  subst hnp hnl
  refine ⟨F.ok S (fun vs H Q E h => h.1) (fun cdv A outer s H vs Q E hr h => ?_), fun xs h hl => by unfold runB; rw [if_neg hl]⟩
  obtain ⟨hl, r, h, xs, hR, vR, p⟩ := h
  have tk : Tk (cxOf (L2.CX P w) P w G.K mg base N qual (defScope st) f cdv A outer s H E) E := takes_of rfl rfl rfl rfl
  obtain ⟨t, q⟩ := hb cdv A outer s H E ⟨rfl, rfl, S.nd, hr, passes_call tk (fun _ _ _ _ h => h), passes_of rfl⟩ tk
  have z := q.rf.run r H h _ _ { nx := fun _ H' => Q .non H', rt := Q } hR (SR_start (n := N.length - ps.length) vR) ?_
  · refine ⟨t, q.pe, ?_⟩
    rw [← hl] at z
    exact z
  · unfold runB at p
    rw [if_pos (by rw [vR.len]; exact hl)] at p
    cases e : mb (List.map some xs ++ List.replicate (N.length - ps.length) none) h with
    | nx a b =>
      rw [e] at p
      exact fun r' H' t st hR' _ => p r' H' _ st hR' .non
    | rt a b => rw [e] at p; exact p
    | raised a b => rw [e] at p; exact p
    | bk a b => rw [e] at p; exact p.elim
    | ct a b => rw [e] at p; exact p.elim
    | stuck => rw [e] at p; exact p.elim
end
theorem bindD {K : PySem.W.Frag} {x qual : Str} {params : Arguments} {body : List Stmt} {scope : Scope} {v : V} {f : Addr} {fd : FuncData} {ps : List Str} (F : FunD K x qual params body scope [v] [] f fd)
    (h : ∀ (T : Addr) (kV doc pm : Value) (an : Option Addr) (cdv ct : Value) (us its : List Value), us.length = ps.length → its.length = 1 →
      ∃ k, bindArgs (PySem.W.fnOf x qual params body scope (.ref T) kV doc pm an cdv ct) ⟨us, []⟩ = seqItems? (.ref T) >>= k ∧ k (some its.toArray) = pure (ps.zip (us ++ its.drop 1))) : Binds K fd ps [] := by
  obtain ⟨ds, hv, hb⟩ := FunD.binds1 F ps.length 1 (by simp) (by simp) h
  cases hv
  exact hb
mutual
theorem cvB_ok {K : PySem.W.Frag} {sts : List Str} : ∀ {x : Val} {u : Value}, cvB K sts x u = true → CV K sts x u
  | .non, u, h => by
    cases u with
    | none => exact .non
    | _ => simp [cvB] at h
  | .int i, u, h => by
    cases u with
    | int j t =>
      have e : i = j := by simpa [cvB] using h
      subst e
      exact .int i
    | _ => simp [cvB] at h
  | .str n, u, h => by
    cases u with
    | str x t => exact .str (by simpa [cvB] using h)
    | _ => simp [cvB] at h
  | .tup xs, u, h => by
    cases u with
    | ref a =>
      rw [cvB] at h
      cases q : K.lookup a with
      | none => rw [q] at h; cases h
      | some o =>
        rw [q] at h
        obtain ⟨h1, h2⟩ := ba h
        cases qc : o.cls with
        | type c =>
          rw [qc] at h1
          have e1 : c = "tuple" := of_decide_eq_true h1
          subst e1
          cases qd : o.data with
          | seq its n =>
            rw [qd] at h2
            obtain ⟨h3, h4⟩ := ba h2
            have ll : 1000 ≤ lim := by decide
            have hs := Nat.le_of_ble_eq_true h3
            exact .tup q qc qd (le_line (by omega)) (cvBs_ok h4)
          | _ => rw [qd] at h2; cases h2
        | _ => rw [qc] at h1; cases h1
    | _ => simp [cvB] at h
  | .bl _, u, h => by cases u <;> simp [cvB] at h
  | .ref _, u, h => by cases u <;> simp [cvB] at h
theorem cvBs_ok {K : PySem.W.Frag} {sts : List Str} : ∀ {xs : List Val} {us : List Value}, cvBs K sts xs us = true → CVs K sts xs us
  | [], us, h => by
    cases us with
    | nil => exact .nil
    | cons => simp [cvBs] at h
  | x :: xs, us, h => by
    cases us with
    | nil => simp [cvBs] at h
    | cons u us =>
      rw [cvBs] at h
      obtain ⟨h1, h2⟩ := ba h
      exact .cons (cvB_ok h1) (cvBs_ok h2)
end
theorem ktB_ok {K : PySem.W.Frag} {sts : List Str} {h : PySem.Heap} {mg : Str → Option Value} {x : Str} {v : Val} (X : K.In h) (G : h.Ns mainGlobals mg) (e : ktB K sts x v = true) : KT K mg sts x v := by
  unfold ktB at e
  cases q : PySem.W.nsIn K mainGlobals x with
  | none => rw [q] at e; cases e
  | some r =>
    rw [q] at e
    cases r with
    | none => cases e
    | some u => exact ⟨u, PySem.W.mg_of X G q, cvB_ok e⟩
theorem ceB_ok {w : World} {K : PySem.W.Frag} {sts : List Str} : ∀ {l : List (Nat × Val)} {es : List DictEntry} {ks : List Str}, ceB K sts l es = true → es.map He.keyOf = keysIn w.params ks → CE w K sts l es
  | [], [], _, _, _ => .nil
  | [], _ :: _, _, h, _ => by simp [ceB] at h
  | _ :: _, [], _, h, _ => by simp [ceB] at h
  | (i, v) :: l, e :: es, [], h, hk => by simp [keysIn] at hk
  | (i, v) :: l, e :: es, k :: ks, h, hk => by
    rw [ceB] at h
    obtain ⟨h1, h2⟩ := ba h
    obtain ⟨h3, h4⟩ := ba h2
    obtain ⟨hh, kk, u⟩ := e
    have hk' : He.keyOf ⟨hh, kk, u⟩ :: es.map He.keyOf = some (k, PyData.keyHash w.params k) :: keysIn w.params ks := hk
    injection hk' with e1 e2
    cases kk with
    | str z t =>
      have e3 : sts[i]? = some z := of_decide_eq_true h1
      have e4 : (some (z, hh) : Option (Str × Int)) = some (k, PyData.keyHash w.params k) := e1
      injection e4 with e5
      injection e5 with e6 e7
      exact .cons e3 (by rw [e7, e6]) (cvB_ok h3) (ceB_ok h4 e2)
    | _ => cases h1
theorem kdB_ok {w : World} {K : PySem.W.Frag} {sts : List Str} {h : PySem.Heap} {mg : Str → Option Value} {x : Str} {l : List (Nat × Val)} {ks : List Str} (X : K.In h) (G : h.Ns mainGlobals mg) (gl : (Fa.glo x).ok K = true) (e : kdB K sts x l = true) (d : dicW K (ga K x) = some (keysIn w.params ks)) : ∃ es n, KD w K mg sts x (ga K x) es n l := by
  unfold kdB at e
  unfold dicW at d
  cases q : K.lookup (ga K x) with
  | none => rw [q] at e; cases e
  | some o =>
    obtain ⟨oc, od, dt, sl⟩ := o
    rw [q] at e d
    cases oc with
    | type c =>
      cases od with
      | none =>
        cases dt with
        | dict es n =>
          obtain ⟨h1, h2⟩ := ba e
          obtain ⟨h3, h4⟩ := ba h2
          obtain ⟨h5, h6⟩ := ba h4
          have e1 : c = "dict" := of_decide_eq_true h1
          subst e1
          have e2 : sl = #[] := Array.isEmpty_iff.mp h3
          subst e2
          refine ⟨es, n, glo_ok X G gl, q, by simpa using h5, ceB_ok (w := w) (ks := ks) h6 ?_⟩
          have d1 : (match decide (("dict" : String) = "dict") && ((#[] : Array (Option Value)).isEmpty && !(ga K x == sysModules)) with
            | true => some (es.toList.map He.keyOf)
            | false => none) = some (keysIn w.params ks) := d
          have hb : (decide (("dict" : String) = "dict") && ((#[] : Array (Option Value)).isEmpty && !(ga K x == sysModules))) = true := by
            rw [h5]; rfl
          rw [hb] at d1
          exact Option.some.inj d1
        | _ => cases e
      | some d' => cases dt <;> cases e
    | _ => cases od <;> cases dt <;> cases e
end PyM

set_option Elab.async false
set_option linter.all false
set_option autoImplicit false
set_option maxHeartbeats 4000000
/-! dicts: get, pop; keys that are tuples, written where they are used; list.remove -/
namespace PyM
open PySem L2 L2.DX
variable {G : Cfg} {E : XK} {X : Cx} {k : Nat} {r r' : List Addr} {H H' : Hp} {h : Heap}
theorem KRs.eq (ok : G.Ok) : ∀ {ks ks' : List Val} {qs qs' : List Key}, KRs G ks qs → KRs G ks' qs' → decide (ks = ks') = decide (qs = qs')
  | _, _, _, _, .nil, .nil => rfl
  | _, _, _, _, .nil, .cons _ _ => by simp
  | _, _, _, _, .cons _ _, .nil => by simp
  | _, _, _, _, .cons a b, .cons c d => by
    have e1 := KR.eq ok a c
    have e2 := KRs.eq ok b d
    simp only [decide_eq_decide] at e1 e2
    simp only [List.cons.injEq, decide_eq_decide]
    rw [e1, e2]
theorem KRs.of : ∀ {ks : List Val} {vs : List V}, VRs G r H ks vs → ks.all isKey = true → ∃ qs, KRs G ks qs ∧ vs = qs.map kV
  | _, _, .nil, _ => ⟨[], .nil, rfl⟩
  | _, _, .cons a b, hk => by
    rw [List.all_cons, Bool.and_eq_true] at hk
    obtain ⟨q, q1, rfl⟩ := KR.of a hk.1
    obtain ⟨qs, q2, rfl⟩ := KRs.of b hk.2
    exact ⟨q :: qs, .cons q1 q2, rfl⟩
theorem DTR.len {d e} (a : DTR G r H d e) : d.length = e.length := by
  induction a with
  | nil => rfl
  | cons _ _ _ ih => simp [ih]
theorem DTR.keq (ok : G.Ok) {ks ks' : List Val} {qs qs' : List Key} (a : KRs G ks qs) (b : KRs G ks' qs') : (Val.tup ks = Val.tup ks') ↔ qs = qs' := by
  have := KRs.eq ok a b
  simp only [decide_eq_decide] at this
  rw [← this]
  exact ⟨fun e => by injection e, fun e => by rw [e]⟩
theorem DTR.look (ok : G.Ok) {d e} (a : DTR G r H d e) {ks : List Val} {qs : List Key} (b : KRs G ks qs) : (lookV d (.tup ks) = none ∧ valV e qs = none) ∨ ∃ x v, lookV d (.tup ks) = some x ∧ valV e qs = some v ∧ VR G r H x v := by
  induction a with
  | nil => exact .inl ⟨rfl, rfl⟩
  | @cons ks' x qs' v d e hk hv _ ih =>
    have e1 := DTR.keq ok hk b
    by_cases hh : qs' = qs
    · have h2 := e1.mpr hh
      exact .inr ⟨x, v, by simp [lookV, h2], by simp [valV, hh], hv⟩
    · have h2 : ¬ Val.tup ks' = Val.tup ks := fun q => hh (e1.mp q)
      have l1 : lookV ((Val.tup ks', x) :: d) (.tup ks) = lookV d (.tup ks) := by simp only [lookV, List.find?_cons, h2, decide_false]
      have l2 : valV ((qs', v) :: e) qs = valV e qs := by simp only [valV, List.find?_cons, hh, decide_false]
      rw [l1, l2]
      exact ih
theorem DTR.any (ok : G.Ok) {d e} (a : DTR G r H d e) {ks : List Val} {qs : List Key} (b : KRs G ks qs) : (d.any fun kv => decide (kv.1 = .tup ks)) = (e.any fun kv => decide (kv.1 = qs)) := by
  induction a with
  | nil => rfl
  | cons hk _ _ ih =>
    rw [List.any_cons, List.any_cons, ih]
    congr 1
    exact decide_eq_decide.mpr (DTR.keq ok hk b)
theorem DTR.app {d e d' e'} (a : DTR G r H d e) (b : DTR G r H d' e') : DTR G r H (d ++ d') (e ++ e') := by
  induction a with
  | nil => exact b
  | cons hk hv _ ih => exact .cons hk hv ih
theorem DTR.upd (ok : G.Ok) {d e} (a : DTR G r H d e) {ks : List Val} {x : Val} {qs : List Key} {v : V} (b : KRs G ks qs) (c : VR G r H x v) : DTR G r H (d.map (fun kv => if kv.1 = .tup ks then (kv.1, x) else kv)) (e.map (fun kv => if kv.1 = qs then (kv.1, v) else kv)) := by
  induction a with
  | nil => exact .nil
  | @cons ks' x' qs' v' d e hk hv _ ih =>
    have e1 := DTR.keq ok hk b
    rw [List.map_cons, List.map_cons]
    by_cases hh : qs' = qs
    · rw [if_pos (e1.mpr hh), if_pos hh]
      exact .cons hk c ih
    · rw [if_neg (fun q => hh (e1.mp q)), if_neg hh]
      exact .cons hk hv ih
theorem DTR.put (ok : G.Ok) {d e} (a : DTR G r H d e) {ks : List Val} {x : Val} {qs : List Key} {v : V} (b : KRs G ks qs) (c : VR G r H x v) : DTR G r H (putV d (.tup ks) x) (putK e qs v) := by
  unfold putV putK
  rw [a.any ok b]
  by_cases hh : (e.any fun kv => decide (kv.1 = qs)) = true
  · rw [if_pos hh, if_pos hh]
    exact a.upd ok b c
  · rw [if_neg hh, if_neg hh]
    exact a.app (.cons b c .nil)
theorem DTR.drop (ok : G.Ok) {d e} (a : DTR G r H d e) {ks : List Val} {qs : List Key} (b : KRs G ks qs) : DTR G r H (dropV d (.tup ks)) (dropK e qs) := by
  unfold dropV dropK
  induction a with
  | nil => exact .nil
  | @cons ks' x' qs' v' d e hk hv _ ih =>
    have e1 := DTR.keq ok hk b
    by_cases hh : qs' = qs
    · rw [List.filter_cons_of_neg (by simp [e1.mpr hh]), List.filter_cons_of_neg (by simp [hh])]
      exact ih
    · have h2 : ¬ Val.tup ks' = Val.tup ks := fun q => hh (e1.mp q)
      rw [List.filter_cons_of_pos (by simpa using h2), List.filter_cons_of_pos (by simpa using hh)]
      exact .cons hk hv ih
/-- a dict of an instance is written -/
theorem set_dct (hR : HR G r H h) {n : Nat} {ad : Addr} {d d' : List (Val × Val)} {e e' : List (Key × V)} {x : Val} {v : V} {Q : VK} (eo : h[n]? = some (.dct d)) (ea : r[n]? = some ad) (hl : H ad = some (.dK e)) (hv : DR G r H d' e') (hx : VR G r H x v) (p : PostR G (VR G) r H E (.ok x (h.set n (.dct d'))) Q) : Q v (upd H ad (.dK e')) := by
  have st : Stp G.K r H r (upd H ad (.dK e')) := Stp.upd fun o e => by rw [hl] at e; cases e; trivial
  exact p r _ _ st (hR.write eo rfl ea (fun o e => by rw [hl] at e; cases e; trivial) (.dct upd_same (hv.mono st)) rfl) (hx.mono st)
theorem set_dcT (hR : HR G r H h) {n : Nat} {ad : Addr} {d d' : List (Val × Val)} {e e' : List (List Key × V)} {x : Val} {v : V} {Q : VK} (eo : h[n]? = some (.dcT d)) (ea : r[n]? = some ad) (hl : H ad = some (.dT e)) (hv : DTR G r H d' e') (hx : VR G r H x v) (p : PostR G (VR G) r H E (.ok x (h.set n (.dcT d'))) Q) : Q v (upd H ad (.dT e')) := by
  have st : Stp G.K r H r (upd H ad (.dT e')) := Stp.upd fun o e => by rw [hl] at e; cases e; trivial
  exact p r _ _ st (hR.write eo rfl ea (fun o e => by rw [hl] at e; cases e; trivial) (.dcT upd_same (hv.mono st)) rfl) (hx.mono st)

/-! ### d.get, d.pop with int and text keys -/
def isD (x : Val) (h : Heap) : Bool := match x with
  | .ref a => match h[a]? with
    | some (.dct _) => true
    | some (.dcT _) => true
    | _ => false
  | _ => false
theorem isD_of (hR : HR G r H h) {x : Val} {v : V} (q : VR G r H x v) (e : isD x h = true) : ∃ a, v = .ref a ∧ IsD H a := by
  cases q with
  | ref ea =>
    simp only [isD] at e
    split at e
    · rename_i d eo
      cases hR.ob _ _ _ eo ea with
      | dct hl hv => exact ⟨_, rfl, .inl ⟨_, .inl hl⟩⟩
    · rename_i d eo
      cases hR.ob _ _ _ eo ea with
      | dcT hl hv => exact ⟨_, rfl, .inr ⟨_, .inl hl⟩⟩
    · cases e
  | _ => simp [isD] at e
def dGet (o y z : Val) (h : Heap) : Res Val := match o with
  | .ref a => match h[a]? with
    | some (.dct d) => if isKey y = true then .ok ((lookV d y).getD z) h else .stuck
    | _ => .stuck
  | _ => .stuck
def dPop1 (o y : Val) (h : Heap) : Res Val := match o with
  | .ref a => match h[a]? with
    | some (.dct d) => if isKey y = true then match lookV d y with
        | some x => .ok x (h.set a (.dct (dropV d y)))
        | none => .stuck
      else .stuck
    | _ => .stuck
  | _ => .stuck
def dPop2 (o y z : Val) (h : Heap) : Res Val := match o with
  | .ref a => match h[a]? with
    | some (.dct d) => if isKey y = true then match lookV d y with
        | some x => .ok x (h.set a (.dct (dropV d y)))
        | none => .ok z h
      else .stuck
    | _ => .stuck
  | _ => .stuck
def mGet1 (mo my : En → Heap → Res Val) (s : En) (h : Heap) : Res Val := (mo s h).bind fun o h1 => if isD o h1 = true then (my s h1).bind fun y h2 => dGet o y .non h2 else .stuck
def mGet2 (mo my mz : En → Heap → Res Val) (s : En) (h : Heap) : Res Val := (mo s h).bind fun o h1 => if isD o h1 = true then (my s h1).bind fun y h2 => (mz s h2).bind fun z h3 => dGet o y z h3 else .stuck
def mPop1 (mo my : En → Heap → Res Val) (s : En) (h : Heap) : Res Val := (mo s h).bind fun o h1 => if isD o h1 = true then (my s h1).bind fun y h2 => dPop1 o y h2 else .stuck
def mPop2 (mo my mz : En → Heap → Res Val) (s : En) (h : Heap) : Res Val := (mo s h).bind fun o h1 => if isD o h1 = true then (my s h1).bind fun y h2 => (mz s h2).bind fun z h3 => dPop2 o y z h3 else .stuck
theorem dGet_of (ok : G.Ok) (hR : HR G r H h) {o y z : Val} {v w u : V} {Q : VK} (vo : VR G r H o v) (vy : VR G r H y w) (vz : VR G r H z u) (p : PostR G (VR G) r H E (dGet o y z h) Q) : ∃ a oo, v = .ref a ∧ DGet H a w oo ∧ Q (oo.getD u) H := by
  unfold dGet at p
  split at p
  · cases vo with
    | ref ea =>
      split at p
      · rename_i d eo
        split at p
        · rename_i hk
          cases hR.ob _ _ _ eo ea with
          | dct hl hv =>
            obtain ⟨q, kq, rfl⟩ := KR.of vy hk
            rcases hv.look ok kq with ⟨e1, e2⟩ | ⟨x', v', e1, e2, v2⟩
            · rw [e1] at p
              exact ⟨_, none, rfl, by rw [← e2]; exact DGet.k hl, p.here hR vz⟩
            · rw [e1] at p
              exact ⟨_, some v', rfl, by rw [← e2]; exact DGet.k hl, p.here hR v2⟩
        · exact False.elim p
      · exact False.elim p
  · exact False.elim p
section
variable {o e f : Expr} {td ty tx : TE} {mo my mz : En → Heap → Res Val} {apos cpos : Pos}
theorem me_get1 (ok : G.Ok) (C : XC G E X k) (ho : ME G E X o td mo) (he : ME G E X e ty my) (m : M1 X o "get" apos e cpos := by exact ⟨rfl, rfl, rfl, rfl⟩) : ME G E X (.Call (.Attribute o "get" apos) [e] [] cpos) (tDGet1 td ty) (mGet1 mo my) := by
  refine ⟨pe_dget1 (by have := C.hu; omega) ho.pe he.pe m, ⟨fun r H h s σ Q hR sR p => ho.rf.run r H h s σ _ hR sR (p.seq fun x h1 r1 H1 v s1 hR1 v1 p1 => ?_)⟩⟩
  split at p1
  · rename_i hd
    obtain ⟨a, rfl, id⟩ := isD_of hR1 v1 hd
    refine ⟨a, rfl, id, he.rf.run r1 H1 h1 s σ _ hR1 (sR.mono s1) (p1.seq fun y h2 r2 H2 w s2 hR2 v2 p2 => ?_)⟩
    obtain ⟨a', oo, ea, g, q⟩ := dGet_of ok hR2 (v1.mono s2) v2 .non p2
    cases ea
    exact ⟨oo, g, q⟩
  · exact False.elim p1
theorem me_get2 (ok : G.Ok) (C : XC G E X k) (ho : ME G E X o td mo) (he : ME G E X e ty my) (hf : ME G E X f tx mz) (m : M2 X o "get" apos e f cpos := by exact ⟨rfl, rfl, rfl, rfl⟩) : ME G E X (.Call (.Attribute o "get" apos) [e, f] [] cpos) (tDGet2 td ty tx) (mGet2 mo my mz) := by
  refine ⟨pe_dget2 (by have := C.hu; omega) ho.pe he.pe hf.pe m, ⟨fun r H h s σ Q hR sR p => ho.rf.run r H h s σ _ hR sR (p.seq fun x h1 r1 H1 v s1 hR1 v1 p1 => ?_)⟩⟩
  split at p1
  · rename_i hd
    obtain ⟨a, rfl, id⟩ := isD_of hR1 v1 hd
    refine ⟨a, rfl, id, he.rf.run r1 H1 h1 s σ _ hR1 (sR.mono s1) (p1.seq fun y h2 r2 H2 w s2 hR2 v2 p2 => ?_)⟩
    refine hf.rf.run r2 H2 h2 s σ _ hR2 ((sR.mono s1).mono s2) (p2.seq fun z h3 r3 H3 u s3 hR3 v3 p3 => ?_)
    obtain ⟨a', oo, ea, g, q⟩ := dGet_of ok hR3 ((v1.mono s2).mono s3) (v2.mono s3) v3 p3
    cases ea
    exact ⟨oo, g, q⟩
  · exact False.elim p1
theorem me_pop1 (ok : G.Ok) (ho : ME G E X o td mo) (he : ME G E X e ty my) (m : M1 X o "pop" apos e cpos := by exact ⟨rfl, rfl, rfl, rfl⟩) : ME G E X (.Call (.Attribute o "pop" apos) [e] [] cpos) (tDPop1 td ty) (mPop1 mo my) := by
  refine ⟨pe_dpop1 ho.pe he.pe m, ⟨fun r H h s σ Q hR sR p => ho.rf.run r H h s σ _ hR sR (p.seq fun x h1 r1 H1 v s1 hR1 v1 p1 => ?_)⟩⟩
  split at p1
  · rename_i hd
    obtain ⟨a, rfl, id⟩ := isD_of hR1 v1 hd
    refine ⟨a, rfl, id, he.rf.run r1 H1 h1 s σ _ hR1 (sR.mono s1) (p1.seq fun y h2 r2 H2 w s2 hR2 v2 p2 => ?_)⟩
    have vo := v1.mono s2
    unfold dPop1 at p2
    split at p2
    · cases vo with
      | ref ea =>
        split at p2
        · rename_i d eo
          split at p2
          · rename_i hk
            cases hR2.ob _ _ _ eo ea with
            | dct hl hv =>
              obtain ⟨q, kq, rfl⟩ := KR.of v2 hk
              rcases hv.look ok kq with ⟨e1, e2⟩ | ⟨x', v', e1, e2, v3⟩
              · rw [e1] at p2; exact False.elim p2
              · rw [e1] at p2
                exact ⟨_, q, v', hl, rfl, e2, set_dct hR2 eo ea hl (hv.drop ok kq) v3 p2⟩
          · exact False.elim p2
        · exact False.elim p2
    · exact False.elim p2
  · exact False.elim p1
theorem me_pop2 (ok : G.Ok) (ho : ME G E X o td mo) (he : ME G E X e ty my) (hf : ME G E X f tx mz) (m : M2 X o "pop" apos e f cpos := by exact ⟨rfl, rfl, rfl, rfl⟩) : ME G E X (.Call (.Attribute o "pop" apos) [e, f] [] cpos) (tDPop2 td ty tx) (mPop2 mo my mz) := by
  refine ⟨pe_dpop2 ho.pe he.pe hf.pe m, ⟨fun r H h s σ Q hR sR p => ho.rf.run r H h s σ _ hR sR (p.seq fun x h1 r1 H1 v s1 hR1 v1 p1 => ?_)⟩⟩
  split at p1
  · rename_i hd
    obtain ⟨a, rfl, id⟩ := isD_of hR1 v1 hd
    refine ⟨a, rfl, id, he.rf.run r1 H1 h1 s σ _ hR1 (sR.mono s1) (p1.seq fun y h2 r2 H2 w s2 hR2 v2 p2 => ?_)⟩
    refine hf.rf.run r2 H2 h2 s σ _ hR2 ((sR.mono s1).mono s2) (p2.seq fun z h3 r3 H3 u s3 hR3 v3 p3 => ?_)
    have vo := (v1.mono s2).mono s3
    have vy := v2.mono s3
    unfold dPop2 at p3
    split at p3
    · cases vo with
      | ref ea =>
        split at p3
        · rename_i d eo
          split at p3
          · rename_i hk
            cases hR3.ob _ _ _ eo ea with
            | dct hl hv =>
              obtain ⟨q, kq, rfl⟩ := KR.of vy hk
              rcases hv.look ok kq with ⟨e1, e2⟩ | ⟨x', v', e1, e2, v4⟩
              · rw [e1] at p3
                exact ⟨_, q, hl, rfl, (fun v' e' => by rw [e2] at e'; cases e'), (fun _ => p3.here hR3 v3)⟩
              · rw [e1] at p3
                exact ⟨_, q, hl, rfl, (fun v'' e' => by rw [e2] at e'; cases e'; exact set_dct hR3 eo ea hl (hv.drop ok kq) v4 p3), (fun e' => by rw [e2] at e'; cases e')⟩
          · exact False.elim p3
        · exact False.elim p3
    · exact False.elim p3
  · exact False.elim p1
end

/-! ### keys that are tuples, written where they are used -/
def mDctT (_ : En) (h : Heap) : Res Val := .ok (.ref h.length) (h ++ [.dcT []])
theorem me_dictT {pos : Pos} : ME G E X (.Dict [] [] pos) tDNewT mDctT := by
  refine ⟨pe_dnewT, ⟨fun r H h s σ Q hR sR p q hq => ?_⟩⟩
  refine p (r ++ [q]) _ _ (Stp.new hq) (hR.push hq (.dcT upd_same .nil)) (.ref ?_)
  rw [← hR.len]
  simp
def keysOk (ks : List Val) : Bool := ks.all isKey && decide (ks.length ≤ 1000)
def tLook (o : Val) (ks : List Val) (h : Heap) : Option (Option Val) := match o with
  | .ref a => match h[a]? with
    | some (.dcT d) => if keysOk ks = true then some (lookV d (.tup ks)) else none
    | _ => none
  | _ => none
def tIx (o : Val) (ks : List Val) (h : Heap) : Res Val := match tLook o ks h with
  | some (some v) => .ok v h
  | _ => .stuck
def tIn (neg : Bool) (ks : List Val) (o : Val) (h : Heap) : Res Val := match tLook o ks h with
  | some v => .ok (.bl (if neg then !v.isSome else v.isSome)) h
  | none => .stuck
def tGet (o : Val) (ks : List Val) (z : Val) (h : Heap) : Res Val := match tLook o ks h with
  | some v => .ok (v.getD z) h
  | none => .stuck
def tDrop (o : Val) (ks : List Val) (h : Heap) : Heap := match o with
  | .ref a => match h[a]? with
    | some (.dcT d) => h.set a (.dcT (dropV d (.tup ks)))
    | _ => h
  | _ => h
def tPop1 (o : Val) (ks : List Val) (h : Heap) : Res Val := match tLook o ks h with
  | some (some v) => .ok v (tDrop o ks h)
  | _ => .stuck
def tPop2 (o : Val) (ks : List Val) (z : Val) (h : Heap) : Res Val := match tLook o ks h with
  | some (some v) => .ok v (tDrop o ks h)
  | some none => .ok z h
  | none => .stuck
def tSet (o : Val) (ks : List Val) (v : Val) (h : Heap) : Res Unit := match o with
  | .ref a => match h[a]? with
    | some (.dcT d) => if keysOk ks = true ∧ d.length < lim then .ok () (h.set a (.dcT (putV d (.tup ks) v))) else .stuck
    | _ => .stuck
  | _ => .stuck
def mIxT (mo : En → Heap → Res Val) (mk : En → Heap → Res (List Val)) (s : En) (h : Heap) : Res Val := (mo s h).bind fun o h1 => (mk s h1).bind fun ks h2 => tIx o ks h2
def mInT (neg : Bool) (mk : En → Heap → Res (List Val)) (mo : En → Heap → Res Val) (s : En) (h : Heap) : Res Val := (mk s h).bind fun ks h1 => if ks.length ≤ 1000 then (mo s h1).bind fun o h2 => tIn neg ks o h2 else .stuck
def mGetT1 (mo : En → Heap → Res Val) (mk : En → Heap → Res (List Val)) (s : En) (h : Heap) : Res Val := (mo s h).bind fun o h1 => if isD o h1 = true then (mk s h1).bind fun ks h2 => tGet o ks .non h2 else .stuck
def mGetT2 (mo : En → Heap → Res Val) (mk : En → Heap → Res (List Val)) (mz : En → Heap → Res Val) (s : En) (h : Heap) : Res Val := (mo s h).bind fun o h1 => if isD o h1 = true then (mk s h1).bind fun ks h2 => if ks.length ≤ 1000 then (mz s h2).bind fun z h3 => tGet o ks z h3 else .stuck else .stuck
def mPopT1 (mo : En → Heap → Res Val) (mk : En → Heap → Res (List Val)) (s : En) (h : Heap) : Res Val := (mo s h).bind fun o h1 => if isD o h1 = true then (mk s h1).bind fun ks h2 => tPop1 o ks h2 else .stuck
def mPopT2 (mo : En → Heap → Res Val) (mk : En → Heap → Res (List Val)) (mz : En → Heap → Res Val) (s : En) (h : Heap) : Res Val := (mo s h).bind fun o h1 => if isD o h1 = true then (mk s h1).bind fun ks h2 => if ks.length ≤ 1000 then (mz s h2).bind fun z h3 => tPop2 o ks z h3 else .stuck else .stuck
def sSubT (mo : En → Heap → Res Val) (mk : En → Heap → Res (List Val)) (me : En → Heap → Res Val) (s : En) (h : Heap) : RS := (me s h).thenS fun v h1 => (mo s h1).thenS fun o h2 => (mk s h2).thenS fun ks h3 => (tSet o ks v h3).thenS fun _ h4 => .nx s h4

/-- the tuple is laid -/
theorem lay_tup (hR : HR G r H h) {xs : List Val} {vs : List V} {p : Addr} (hp : H p = none) : HR G r (upd H p (.tup vs)) h ∧ Stp G.K r H r (upd H p (.tup vs)) := ⟨hR.lay hp, Stp.new0 hp⟩
theorem tLook_of (ok : G.Ok) (hR : HR G r H h) {o : Val} {ks : List Val} {v : V} {vs : List V} {z : Option Val} (vo : VR G r H o v) (vk : VRs G r H ks vs) (e : tLook o ks h = some z) {p : Addr} (hp : H p = some (.tup vs)) :
    ∃ n a d e qs, o = .ref n ∧ h[n]? = some (.dcT d) ∧ r[n]? = some a ∧ v = .ref a ∧ H a = some (.dT e) ∧ DTR G r H d e ∧ KRs G ks qs ∧ vs = qs.map kV ∧ DGet H a (.ref p) (valV e qs) ∧
      ((z = none ∧ lookV d (.tup ks) = none ∧ valV e qs = none) ∨ ∃ x w, z = some x ∧ lookV d (.tup ks) = some x ∧ valV e qs = some w ∧ VR G r H x w) := by
  unfold tLook at e
  split at e
  · cases vo with
    | ref ea =>
      split at e
      · rename_i d eo
        split at e
        · rename_i hk
          cases e
          simp only [keysOk, Bool.and_eq_true] at hk
          cases hR.ob _ _ _ eo ea with
          | dcT hl hv =>
            obtain ⟨qs, kq, rfl⟩ := KRs.of vk hk.1
            refine ⟨_, _, _, _, qs, rfl, eo, ea, rfl, hl, hv, kq, rfl, DGet.t hl hp, ?_⟩
            rcases hv.look ok kq with ⟨e1, e2⟩ | ⟨x', v', e1, e2, v2⟩
            · exact .inl ⟨e1, e1, e2⟩
            · exact .inr ⟨x', v', e1, e1, e2, v2⟩
        · cases e
      · cases e
  · cases e
theorem tLook_len {o : Val} {ks : List Val} {z : Option Val} (e : tLook o ks h = some z) : ks.length ≤ 1000 := by
  unfold tLook at e
  split at e
  · split at e
    · split at e
      · rename_i hk
        simp only [keysOk, Bool.and_eq_true, decide_eq_true_eq] at hk
        exact hk.2
      · cases e
    · cases e
  · cases e
theorem len1000 {n : Nat} (h : n ≤ 1000) : n ≤ sizeLine := le_line (Nat.le_trans h (by decide))
section
variable {o e f a b : Expr} {es : List Expr} {td ty tx : TE} {tA : TA} {mo my mz me : En → Heap → Res Val} {mk : En → Heap → Res (List Val)} {apos cpos pos pos' kpos : Pos} {kc : Nat}
theorem me_ixT (ok : G.Ok) (C : XC G E X k) {x1} (ho : ME G E X o td mo) (hk : MA G E X es tA mk) (hs : NoSl (.Tuple es x1 kpos) := by exact fun _ _ => rfl) : ME G E X (.Subscript o (.Tuple es x1 kpos) pos) (tDGet td (tTup tA)) (mIxT mo mk) := by
  refine ⟨pe_dget (by have := C.hu; omega) ho.pe (pe_tup hk.pe) hs, ⟨fun r H h s σ Q hR sR p => ho.rf.run r H h s σ _ hR sR (p.seq fun x h1 r1 H1 v s1 hR1 v1 p1 => ?_)⟩⟩
  refine hk.rf.run r1 H1 h1 s σ _ hR1 (sR.mono s1) (p1.seq fun ks h2 r2 H2 vs s2 hR2 v2 p2 => ?_)
  unfold tIx at p2
  split at p2
  · rename_i w ew
    refine ⟨len1000 (by rw [← v2.len]; exact tLook_len ew), fun q hq => ?_⟩
    have st := (lay_tup (xs := ks) (vs := vs) hR2 hq).2
    have hR3 := (lay_tup (xs := ks) (vs := vs) hR2 hq).1
    obtain ⟨n, ad, d, e', qs, rfl, eo, ea, rfl, hl, hv, kq, rfl, g, q'⟩ := tLook_of ok hR3 ((v1.mono s2).mono st) (v2.mono st) ew upd_same
    rcases q' with ⟨e1, _⟩ | ⟨x', w', e1, _, e3, v3⟩
    · cases e1
    · cases e1
      rw [e3] at g
      exact ⟨ad, w', rfl, g, (p2.shift st).here hR3 v3⟩
  · exact False.elim p2
theorem mc_inT (ok : G.Ok) (C : XC G E X k) {x1} (hk : MA G E X es tA mk) (ho : ME G E X o td mo) : MC G E X .In (.Tuple es x1 kpos) o (tDIn (tTup tA) td) (mInT false mk mo) := by
  refine ⟨pc_din (by have := C.hu; omega) (pe_tup hk.pe) ho.pe, ⟨fun r H h s σ Q hR sR p => hk.rf.run r H h s σ _ hR sR (p.seq fun ks h1 r1 H1 vs s1 hR1 v1 p1 => ?_)⟩⟩
  split at p1
  · rename_i hlen
    refine ⟨len1000 (by rw [← v1.len]; exact hlen), fun q hq => ?_⟩
    have st := (lay_tup (xs := ks) (vs := vs) hR1 hq).2
    have hR1' := (lay_tup (xs := ks) (vs := vs) hR1 hq).1
    refine ho.rf.run r1 _ h1 s σ _ hR1' ((sR.mono s1).mono st) ((p1.shift st).seq fun x h2 r2 H2 v s2 hR2 v2 p2 => ?_)
    have tq : H2 q = some (.tup vs) := s2.tpl _ _ upd_same
    unfold tIn at p2
    split at p2
    · rename_i w ew
      obtain ⟨n, ad, d, e', qs, rfl, eo, ea, rfl, hl, hv, kq, rfl, g, q'⟩ := tLook_of ok hR2 v2 ((v1.mono st).mono s2) ew tq
      refine ⟨ad, _, rfl, g, ?_⟩
      rcases q' with ⟨rfl, _, e3⟩ | ⟨x', w', rfl, _, e3, v3⟩
      · rw [e3]; exact p2.here hR2 (.bl _)
      · rw [e3]; exact p2.here hR2 (.bl _)
    · exact False.elim p2
  · exact False.elim p1
theorem mc_notinT (ok : G.Ok) (C : XC G E X k) {x1} (hk : MA G E X es tA mk) (ho : ME G E X o td mo) : MC G E X .NotIn (.Tuple es x1 kpos) o (tDNotIn (tTup tA) td) (mInT true mk mo) := by
  refine ⟨pc_dnotin (by have := C.hu; omega) (pe_tup hk.pe) ho.pe, ⟨fun r H h s σ Q hR sR p => hk.rf.run r H h s σ _ hR sR (p.seq fun ks h1 r1 H1 vs s1 hR1 v1 p1 => ?_)⟩⟩
  split at p1
  · rename_i hlen
    refine ⟨len1000 (by rw [← v1.len]; exact hlen), fun q hq => ?_⟩
    have st := (lay_tup (xs := ks) (vs := vs) hR1 hq).2
    have hR1' := (lay_tup (xs := ks) (vs := vs) hR1 hq).1
    refine ho.rf.run r1 _ h1 s σ _ hR1' ((sR.mono s1).mono st) ((p1.shift st).seq fun x h2 r2 H2 v s2 hR2 v2 p2 => ?_)
    have tq : H2 q = some (.tup vs) := s2.tpl _ _ upd_same
    unfold tIn at p2
    split at p2
    · rename_i w ew
      obtain ⟨n, ad, d, e', qs, rfl, eo, ea, rfl, hl, hv, kq, rfl, g, q'⟩ := tLook_of ok hR2 v2 ((v1.mono st).mono s2) ew tq
      refine ⟨ad, _, rfl, g, ?_⟩
      rcases q' with ⟨rfl, _, e3⟩ | ⟨x', w', rfl, _, e3, v3⟩
      · rw [e3]; exact p2.here hR2 (.bl _)
      · rw [e3]; exact p2.here hR2 (.bl _)
    · exact False.elim p2
  · exact False.elim p1
theorem me_getT1 (ok : G.Ok) (C : XC G E X k) {x1} (ho : ME G E X o td mo) (hk : MA G E X es tA mk) (m : M1 X o "get" apos (.Tuple es x1 kpos) cpos := by exact ⟨rfl, rfl, rfl, rfl⟩) :
    ME G E X (.Call (.Attribute o "get" apos) [.Tuple es x1 kpos] [] cpos) (tDGet1 td (tTup tA)) (mGetT1 mo mk) := by
  refine ⟨pe_dget1 (by have := C.hu; omega) ho.pe (pe_tup hk.pe) m, ⟨fun r H h s σ Q hR sR p => ho.rf.run r H h s σ _ hR sR (p.seq fun x h1 r1 H1 v s1 hR1 v1 p1 => ?_)⟩⟩
  split at p1
  · rename_i hd
    obtain ⟨a, rfl, id⟩ := isD_of hR1 v1 hd
    refine ⟨a, rfl, id, hk.rf.run r1 H1 h1 s σ _ hR1 (sR.mono s1) (p1.seq fun ks h2 r2 H2 vs s2 hR2 v2 p2 => ?_)⟩
    unfold tGet at p2
    split at p2
    · rename_i w ew
      refine ⟨len1000 (by rw [← v2.len]; exact tLook_len ew), fun q hq => ?_⟩
      have st := (lay_tup (xs := ks) (vs := vs) hR2 hq).2
      have hR3 := (lay_tup (xs := ks) (vs := vs) hR2 hq).1
      obtain ⟨n, ad, d, e', qs, rfl, eo, ea, e0, hl, hv, kq, rfl, g, q'⟩ := tLook_of ok hR3 ((v1.mono s2).mono st) (v2.mono st) ew upd_same
      cases e0
      rcases q' with ⟨rfl, _, e3⟩ | ⟨x', w', rfl, _, e3, v3⟩
      · rw [e3] at g
        exact ⟨_, g, (p2.shift st).here hR3 .non⟩
      · rw [e3] at g
        exact ⟨_, g, (p2.shift st).here hR3 v3⟩
    · exact False.elim p2
  · exact False.elim p1
theorem me_getT2 (ok : G.Ok) (C : XC G E X k) {x1} (ho : ME G E X o td mo) (hk : MA G E X es tA mk) (hf : ME G E X f tx mz) (m : M2 X o "get" apos (.Tuple es x1 kpos) f cpos := by exact ⟨rfl, rfl, rfl, rfl⟩) :
    ME G E X (.Call (.Attribute o "get" apos) [.Tuple es x1 kpos, f] [] cpos) (tDGet2 td (tTup tA) tx) (mGetT2 mo mk mz) := by
  refine ⟨pe_dget2 (by have := C.hu; omega) ho.pe (pe_tup hk.pe) hf.pe m, ⟨fun r H h s σ Q hR sR p => ho.rf.run r H h s σ _ hR sR (p.seq fun x h1 r1 H1 v s1 hR1 v1 p1 => ?_)⟩⟩
  split at p1
  · rename_i hd
    obtain ⟨a, rfl, id⟩ := isD_of hR1 v1 hd
    refine ⟨a, rfl, id, hk.rf.run r1 H1 h1 s σ _ hR1 (sR.mono s1) (p1.seq fun ks h2 r2 H2 vs s2 hR2 v2 p2 => ?_)⟩
    split at p2
    · rename_i hlen
      refine ⟨len1000 (by rw [← v2.len]; exact hlen), fun q hq => ?_⟩
      have st := (lay_tup (xs := ks) (vs := vs) hR2 hq).2
      have hR2' := (lay_tup (xs := ks) (vs := vs) hR2 hq).1
      refine hf.rf.run r2 _ h2 s σ _ hR2' (((sR.mono s1).mono s2).mono st) ((p2.shift st).seq fun z h3 r3 H3 u s3 hR3 v3 p3 => ?_)
      have tq : H3 q = some (.tup vs) := s3.tpl _ _ upd_same
      unfold tGet at p3
      split at p3
      · rename_i w ew
        obtain ⟨n, ad, d, e', qs, rfl, eo, ea, e0, hl, hv, kq, rfl, g, q'⟩ := tLook_of ok hR3 (((v1.mono s2).mono st).mono s3) ((v2.mono st).mono s3) ew tq
        cases e0
        rcases q' with ⟨rfl, _, e3⟩ | ⟨x', w', rfl, _, e3, v4⟩
        · rw [e3] at g
          exact ⟨_, g, p3.here hR3 v3⟩
        · rw [e3] at g
          exact ⟨_, g, p3.here hR3 v4⟩
      · exact False.elim p3
    · exact False.elim p2
  · exact False.elim p1
theorem ms_subT (ok : G.Ok) (C : XC G E X k) {x1} (ho : ME G E X o td mo) (hk : MA G E X es tA mk) (hv : ME G E X e tx me) (hs : swapsWith e (some (.Subscript o (.Tuple es x1 kpos) pos')) pos.line X.env = pure false := by rfl) :
    MS G E X (.Assign [.Subscript o (.Tuple es x1 kpos) pos'] e pos) (sDPut td (tTup tA) tx) (sSubT mo mk me) := by
  refine ⟨ps_dput (by have := C.hu; omega) ho.pe (pe_tup hk.pe) hv.pe hs, ⟨fun r H h s σ D hR sR p => ?_⟩⟩
  refine hv.rf.run r H h s σ _ hR sR (p.seqS fun v h1 r1 H1 vv s1 hR1 v1 p1 => ?_)
  refine ho.rf.run r1 H1 h1 s σ _ hR1 (sR.mono s1) (p1.seqS fun x h2 r2 H2 vo s2 hR2 v2 p2 => ?_)
  refine hk.rf.run r2 H2 h2 s σ _ hR2 ((sR.mono s1).mono s2) (p2.seqS fun ks h3 r3 H3 vs s3 hR3 v3 p3 => ?_)
  unfold tSet at p3
  split at p3
  · rename_i n
    split at p3
    · rename_i d eo
      split at p3
      · rename_i hc
        have hk' := hc.1
        simp only [keysOk, Bool.and_eq_true, decide_eq_true_eq] at hk'
        refine ⟨len1000 (by rw [← v3.len]; exact hk'.2), fun q hq => ?_⟩
        have st := (lay_tup (xs := ks) (vs := vs) hR3 hq).2
        have hR4 := (lay_tup (xs := ks) (vs := vs) hR3 hq).1
        have vo' := (v2.mono s3).mono st
        have vv' := ((v1.mono s2).mono s3).mono st
        cases vo' with
        | @ref _ ad ea =>
          cases hR4.ob _ _ _ eo ea with
          | @dcT _ e0 _ hl hdv =>
            obtain ⟨qs, kq, rfl⟩ := KRs.of (v3.mono st) hk'.1
            refine ⟨_, _, rfl, DPut.t hl upd_same (lt_line (by rw [← hdv.len]; exact hc.2)), ?_⟩
            have st2 : Stp G.K r3 (upd H3 q (.tup (qs.map kV))) r3 (upd (upd H3 q (.tup (qs.map kV))) ad (.dT (putK e0 qs vv))) := Stp.upd fun o e => by rw [hl] at e; cases e; trivial
            exact p3 _ _ _ (st.trans st2) (hR4.write eo rfl ea (fun o e => by rw [hl] at e; cases e; trivial) (.dcT upd_same ((hdv.put ok kq vv').mono st2)) rfl) (((((sR.mono s1).mono s2).mono s3).mono st).mono st2)
      · exact False.elim p3
    · exact False.elim p3
  · exact False.elim p3
/-- d.pop((..)), the key there -/
def rPopT1 : V → List V → Hp → VK → Prop := fun x xs H Q => ∃ (a : Addr) (kvs : List (List Key × V)) (ks : List Key) (b : Addr) (v : V), x = .ref a ∧ xs = [.ref b] ∧ H a = some (.dT kvs) ∧ H b = some (.tup (ks.map kV)) ∧ valV kvs ks = some v ∧ Q v (upd H a (.dT (dropK kvs ks)))
theorem mt_popT1 (hu : X.A.units + 1 < cLine) : MtR X "dict.pop" rPopT1 := by
  rintro pins s σ H x xs v us Q I rx rxs ⟨ad, kvs, ks, b, w, rfl, rfl, hA, hB, hw, wish⟩
  cases rx
  obtain ⟨ub, rfl, rb⟩ : ∃ ub, us = [ub] ∧ RelV (.ref b) ub := by
    cases rxs with
    | cons p q => cases q; exact ⟨_, rfl, p⟩
  cases rb
  obtain ⟨lz, lo, zs, rel, dd⟩ := dt_of I.hok hA
  have lz' : zs.length ≤ sizeLine := by rw [← Paired.length rel]; exact lz
  have rk := rel.val ks
  rw [hw] at rk
  obtain ⟨pz, ez, rz⟩ : ∃ pz, atKey zs ks = some pz ∧ RelV w pz.2 := by
    cases q : atKey zs ks with
    | none => rw [q] at rk; exact False.elim rk
    | some pz => rw [q] at rk; exact ⟨pz, rfl, rk⟩
  refine PySem.call_pop_heap (knd := tupleKind (mixKind X.prog X.w)) (.inl rfl) (PySem.F.args_dict_pop_2 _ _) (tupleKind_room_in1 hu) (key_of I.hok hB) lo dd ez (fun h' dd' sb => ?_) lz'
  obtain ⟨ob, es, ep, g1, g2, g3, g4, _, g5⟩ := dd'
  have J : Inv X pins σ (upd H ad (.dT (dropK kvs ks))) { s with heap := h', toks := s.toks + (tupleKind (mixKind X.prog X.w)).draws ks } :=
    d_write I (by rw [hA]; exact True.intro) sb ⟨ob, g1⟩ ⟨Nat.le_trans (dropK_le kvs ks) lz, lo, _, (KT_drop ks rel).keeps (fun c ys ec => (by rw [upd_ne (ne_of ec hA (fun z => nomatch z))]; exact ec)), ob, es, ep, g1, g2, g3, g4, g5⟩
  exact ⟨w, _, J, rz, wish⟩
theorem tyD_of (hR : HR G r H h) {x : Val} {v : V} (q : VR G r H x v) (e : isD x h = true) : tyV G.K "dict" v H := by
  cases q with
  | ref ea =>
    simp only [isD] at e
    split at e
    · rename_i d eo
      cases hR.ob _ _ _ eo ea with
      | dct hl hv => exact .inr (.inr (.inl ⟨rfl, .inl ⟨_, hl⟩⟩))
    · rename_i d eo
      cases hR.ob _ _ _ eo ea with
      | dcT hl hv => exact .inr (.inr (.inl ⟨rfl, .inr ⟨_, hl⟩⟩))
    · cases e
  | _ => simp [isD] at e
theorem me_popT1 (ok : G.Ok) (C : XC G E X k) {x1} (ho : ME G E X o td mo) (hk : MA G E X es tA mk) (hbase : attributeBase o "pop" X.env (eval o X.env) = eval o X.env := by rfl)
    (hfew : ((backTo cpos (starEach [.Tuple es x1 kpos] X.env)).all (fun x => !x.1) && (backToKw cpos (keywordEach [] X.env)).all (fun x => x.1.isSome)
      && decide (([.Tuple es x1 kpos] : List Expr).length + ([] : List Keyword).length + (if ([] : List Keyword).isEmpty then 0 else 1) < 30)) = true := by rfl)
    (hline : (apos.endLine == cpos.line) = true := by rfl) (hs : starEach [.Tuple es x1 kpos] X.env = (false, eval (.Tuple es x1 kpos) X.env) :: starEach [] X.env := by rfl) (hplain : (backTo cpos (starEach [] X.env)).any (·.1) = false := by rfl) :
    ME G E X (.Call (.Attribute o "pop" apos) [.Tuple es x1 kpos] [] cpos) (tBM X.K "dict" rPopT1 td (tCons (tTup tA) tNil)) (mPopT1 mo mk) := by
  refine ⟨pe_bm PySem.F.plainAttrs_dict PySem.F.slot_dict_pop PySem.F.type_dict_pop (mt_popT1 (by have := C.hu; omega)) ho.pe (pa_cons (pe_tup hk.pe) pa_nil hs) hbase hfew hline hs hplain, ⟨fun r H h s σ Q hR sR p => ho.rf.run r H h s σ _ hR sR (p.seq fun x h1 r1 H1 v s1 hR1 v1 p1 => ?_)⟩⟩
  split at p1
  · rename_i hd
    refine ⟨by rw [C.K]; exact tyD_of hR1 v1 hd, hk.rf.run r1 H1 h1 s σ _ hR1 (sR.mono s1) (p1.seq fun ks h2 r2 H2 vs s2 hR2 v2 p2 => ?_)⟩
    unfold tPop1 at p2
    split at p2
    · rename_i w ew
      refine ⟨len1000 (by rw [← v2.len]; exact tLook_len ew), fun q hq => ?_⟩
      have st := (lay_tup (xs := ks) (vs := vs) hR2 hq).2
      have hR3 := (lay_tup (xs := ks) (vs := vs) hR2 hq).1
      obtain ⟨n, ad, d, e', qs, rfl, eo, ea, rfl, hl, hv, kq, rfl, g, q'⟩ := tLook_of ok hR3 ((v1.mono s2).mono st) (v2.mono st) ew upd_same
      rcases q' with ⟨e1, _⟩ | ⟨x', w', e1, _, e3, v3⟩
      · cases e1
      · cases e1
        refine ⟨ad, e', qs, q, w', rfl, rfl, hl, upd_same, e3, ?_⟩
        have p3 := p2.shift st
        simp only [tDrop, eo] at p3
        exact set_dcT hR3 eo ea hl (hv.drop ok kq) v3 p3
    · exact False.elim p2
  · exact False.elim p1
theorem me_popT2 (ok : G.Ok) (C : XC G E X k) {x1} (ho : ME G E X o td mo) (hk : MA G E X es tA mk) (hf : ME G E X f tx mz) (hbase : attributeBase o "pop" X.env (eval o X.env) = eval o X.env := by rfl)
    (hfew : ((backTo cpos (starEach [.Tuple es x1 kpos, f] X.env)).all (fun x => !x.1) && (backToKw cpos (keywordEach [] X.env)).all (fun x => x.1.isSome)
      && decide (([.Tuple es x1 kpos, f] : List Expr).length + ([] : List Keyword).length + (if ([] : List Keyword).isEmpty then 0 else 1) < 30)) = true := by rfl)
    (hline : (apos.endLine == cpos.line) = true := by rfl) (hs : starEach [.Tuple es x1 kpos, f] X.env = (false, eval (.Tuple es x1 kpos) X.env) :: starEach [f] X.env := by rfl) (hs2 : starEach [f] X.env = (false, eval f X.env) :: starEach [] X.env := by rfl) (hplain : (backTo cpos (starEach [f] X.env)).any (·.1) = false := by rfl) :
    ME G E X (.Call (.Attribute o "pop" apos) [.Tuple es x1 kpos, f] [] cpos) (tBM X.K "dict" rPopT td (tCons (tTup tA) (tCons tx tNil))) (mPopT2 mo mk mz) := by
  refine ⟨pe_bm PySem.F.plainAttrs_dict PySem.F.slot_dict_pop PySem.F.type_dict_pop (mt_popT (by have := C.hu; omega)) ho.pe (pa_cons (pe_tup hk.pe) (pa_cons hf.pe pa_nil hs2) hs) hbase hfew hline hs hplain, ⟨fun r H h s σ Q hR sR p => ho.rf.run r H h s σ _ hR sR (p.seq fun x h1 r1 H1 v s1 hR1 v1 p1 => ?_)⟩⟩
  split at p1
  · rename_i hd
    refine ⟨by rw [C.K]; exact tyD_of hR1 v1 hd, hk.rf.run r1 H1 h1 s σ _ hR1 (sR.mono s1) (p1.seq fun ks h2 r2 H2 vs s2 hR2 v2 p2 => ?_)⟩
    split at p2
    · rename_i hlen
      refine ⟨len1000 (by rw [← v2.len]; exact hlen), fun q hq => ?_⟩
      have st := (lay_tup (xs := ks) (vs := vs) hR2 hq).2
      have hR2' := (lay_tup (xs := ks) (vs := vs) hR2 hq).1
      refine hf.rf.run r2 _ h2 s σ _ hR2' (((sR.mono s1).mono s2).mono st) ((p2.shift st).seq fun z h3 r3 H3 u s3 hR3 v3 p3 => ?_)
      have tq : H3 q = some (.tup vs) := s3.tpl _ _ upd_same
      unfold tPop2 at p3
      split at p3
      · rename_i w ew
        obtain ⟨n, ad, d, e', qs, rfl, eo, ea, rfl, hl, hv, kq, rfl, g, q'⟩ := tLook_of ok hR3 (((v1.mono s2).mono st).mono s3) ((v2.mono st).mono s3) ew tq
        rcases q' with ⟨e1, _⟩ | ⟨x', w', e1, _, e3, v4⟩
        · cases e1
        · cases e1
          refine ⟨ad, e', qs, q, u, rfl, rfl, hl, tq, (fun v'' e'' => ?_), (fun e'' => by rw [e3] at e''; cases e'')⟩
          rw [e3] at e''
          cases e''
          simp only [tDrop, eo] at p3
          exact set_dcT hR3 eo ea hl (hv.drop ok kq) v4 p3
      · rename_i ew
        obtain ⟨n, ad, d, e', qs, rfl, eo, ea, rfl, hl, hv, kq, rfl, g, q'⟩ := tLook_of ok hR3 (((v1.mono s2).mono st).mono s3) ((v2.mono st).mono s3) ew tq
        rcases q' with ⟨_, _, e3⟩ | ⟨x', w', e1, _, e3, v4⟩
        · exact ⟨ad, e', qs, q, u, rfl, rfl, hl, tq, (fun v'' e'' => by rw [e3] at e''; cases e''), (fun _ => p3.here hR3 v3)⟩
        · cases e1
      · exact False.elim p3
    · exact False.elim p2
  · exact False.elim p1
end

/-! ### list.remove of ints -/
def fixI (i : Int) : List Int → Option Nat
  | [] => none
  | z :: zs => if z = i then some 0 else (fixI i zs).map (· + 1)
theorem fixI_ok {i : Int} : ∀ {zs : List Int} {j : Nat}, fixI i zs = some j → zs[j]? = some i ∧ ∀ m : Nat, m < j → zs[m]? ≠ some i
  | [], j, e => by cases e
  | z :: zs, j, e => by
    rw [fixI] at e
    split at e
    · rename_i c
      cases e
      subst c
      exact ⟨rfl, fun m hm => by omega⟩
    · rename_i c
      obtain ⟨j', e', rfl⟩ := Option.map_eq_some_iff.mp e
      obtain ⟨h1, h2⟩ := fixI_ok e'
      refine ⟨by simpa using h1, fun m hm => ?_⟩
      cases m with
      | zero => simpa using c
      | succ m => simpa using h2 m (by omega)
def bRemove (x : Val) (xs : List Val) (h : Heap) : Res Val := match x, xs with
  | .ref a, [.int i] => match h[a]? with
    | some (.lst ys) => match optAll asInt ys with
      | some zs => match fixI i zs with
        | some j => .ok .non (h.set a (.lst (ys.eraseIdx j)))
        | none => .stuck
      | none => .stuck
    | _ => .stuck
  | _, _ => .stuck
theorem rm_remove : RfM G E rRemI bRemove := by
  refine ⟨fun r H h x v xs vs Q hR vx vv p => ?_⟩
  unfold bRemove at p
  split at p
  · cases vx with
    | ref ea => cases vv with
      | cons q1 q2 =>
        cases q2
        cases q1
        split at p
        · rename_i ys eo
          split at p
          · rename_i zs ez
            split at p
            · rename_i j ej
              cases hR.ob _ _ _ eo ea with
              | lst hl hv =>
                have ev := all_int hv ez
                subst ev
                obtain ⟨h1, h2⟩ := fixI_ok ej
                refine ⟨_, zs, _, j, rfl, rfl, hl, h1, h2, ?_⟩
                have hv' := hv.eraseIdx j
                rw [erase_mapI] at hv'
                exact set_lst hR eo ea hl hv' .non p
            · exact False.elim p
          · exact False.elim p
        · exact False.elim p
  · exact False.elim p
end PyM

set_option Elab.async false
set_option linter.all false
set_option maxRecDepth 100000
set_option autoImplicit false
/-! code that is never reached; loops over dicts -/
namespace PyM
open PySem L2
section
variable {G : Cfg} {E : XK} {X : Cx} {e : Expr} {es : List Expr} {st : Stmt} {sts : List Stmt}
def mDead (_ : En) (_ : Heap) : Res Val := .stuck
def aDead (_ : En) (_ : Heap) : Res (List Val) := .stuck
def tDead (_ : En) (_ : Heap) : Res Bool := .stuck
def sDead (_ : En) (_ : Heap) : RS := .stuck
theorem me_dead : ME G E X e (fun _ _ _ => False) mDead := ⟨⟨fun _ _ _ _ _ _ q => q.elim⟩, ⟨fun _ _ _ _ _ _ _ _ p => p⟩⟩
theorem ma_dead : MA G E X es (fun _ _ _ => False) aDead := ⟨⟨fun _ _ _ _ _ _ _ q => q.elim⟩, ⟨fun _ _ _ _ _ _ _ _ p => p⟩⟩
theorem mt_dead : MT G E X e (fun _ _ _ => False) tDead := ⟨⟨fun _ _ _ _ _ _ q => q.elim⟩, ⟨fun _ _ _ _ _ _ _ _ p => p⟩⟩
theorem ms_dead : MS G E X st (fun _ _ _ => False) sDead := ⟨⟨fun _ _ _ _ _ _ q => q.elim⟩, ⟨fun _ _ _ _ _ _ _ _ p => p⟩⟩
end

/-! ### for k in d -/
section
variable {X : Cx} {tg e : Expr} {td : TE}
/-- the dict is locked behind the reckoning of it -/
def iKeysL (X : Cx) (td : TE) : TI := fun σ H R => td σ H fun x H1 => ∃ d, x = .ref d ∧
  ((∃ kvs, H1 d = some (.dK kvs) ∧ ∀ od, (∀ o' u', X.H_0 d ≠ some (.frz o' u')) → R (Itk d od kvs) (upd H1 d (.frz od (.dK kvs)))) ∨
   (∃ kvs, H1 d = some (.dT kvs) ∧ ∀ od, (∀ o' u', X.H_0 d ≠ some (.frz o' u')) → R (Itkt d od kvs) (upd H1 d (.frz od (.dT kvs)))))
theorem pi_keysL (he : PE X e td) : PI X tg e (iKeysL X td) := by
  refine ⟨fun pins s σ H R I h => ?_⟩
  refine thn (he.run pins s σ H _ I h) fun u s1 ⟨x, H1, I1, rx, d, ex, q⟩ => ?_
  subst ex
  obtain rfl : u = Value.ref d := rx
  rcases q with ⟨kvs, hd, q⟩ | ⟨kvs, hd, q⟩
  · obtain ⟨od, I2⟩ := I1.lock hd trivial
    have nf := I1.nofrz hd trivial
    obtain ⟨hs, hgd, hx, es, ep, vs, hdt, hsz, kv, hm⟩ := I2.frzK upd_same
    refine iter_keys hs hgd hx hdt (pi_one (tk := s1.toks) I2 _ (turn_keys _ hdt) ⟨_, Heap.get?_push_size _ rfl, rfl, ?_⟩ (q od nf))
    rw [hsz] <;> rfl
  · obtain ⟨od, I2⟩ := I1.lock hd trivial
    have nf := I1.nofrz hd trivial
    obtain ⟨hs, hgd, hx, es, ep, hdt, hsz, ent⟩ := I2.frzT upd_same
    refine iter_keys hs hgd hx hdt (pi_one (tk := s1.toks) I2 _ (turn_keysT _ hdt) ⟨_, Heap.get?_push_size _ rfl, rfl, ?_⟩ (q od nf))
    rw [hsz] <;> rfl
/-- what is wanted behind the unlocking -/
def unV (X : Cx) (Q : VK) : VK := fun v H' => ∃ d od u, H' d = some (.frz od u) ∧ (∀ o' u', X.H_0 d ≠ some (.frz o' u')) ∧ Q v (upd H' d u)
def unS (X : Cx) (Q : St → Hp → Prop) : St → Hp → Prop := fun σ H' => ∃ d od u, H' d = some (.frz od u) ∧ (∀ o' u', X.H_0 d ≠ some (.frz o' u')) ∧ Q σ (upd H' d u)
def unD (X : Cx) (D : Ends) : Ends := ⟨unS X D.nx, unV X D.rt, unS X D.bk, unS X D.ct⟩
theorem ps_unlock {st : Stmt} {t : TS} (h : PS X st t) : PS X st (fun D σ H => t (unD X D) σ H) := by
  refine ⟨fun pins s σ H D I hw => ?_⟩
  refine thn (h.run pins s σ H _ I hw) fun f s1 q => ?_
  cases f with
  | next => obtain ⟨σ', H', I2, d, od, u, e, n, q⟩ := q; exact ⟨σ', _, I2.unlock e n, q⟩
  | brk => obtain ⟨σ', H', I2, d, od, u, e, n, q⟩ := q; exact ⟨σ', _, I2.unlock e n, q⟩
  | cont => obtain ⟨σ', H', I2, d, od, u, e, n, q⟩ := q; exact ⟨σ', _, I2.unlock e n, q⟩
  | ret v => obtain ⟨x, σ', H', I2, r, d, od, u, e, n, q⟩ := q; exact ⟨x, σ', _, I2.unlock e n, r, q⟩
theorem pe_unlock {t : TE} (h : PE X e t) : PE X e (fun σ H Q => t σ H (unV X Q)) := by
  refine ⟨fun pins s σ H Q I hw => ?_⟩
  refine thn (h.run pins s σ H _ I hw) fun v s1 ⟨x, H1, I2, r, d, od, u, e2, n, q⟩ => ?_
  exact ⟨x, _, I2.unlock e2 n, r, q⟩
end
def unlH (n : Nat) (h : Heap) : Option Heap := match h[n]? with
  | some (.fdc d) => some (h.set n (.dct d))
  | some (.fdT d) => some (h.set n (.dcT d))
  | _ => none
def unlS (n : Nat) : RS → RS
  | .nx s h => match unlH n h with
    | some h' => .nx s h'
    | none => .stuck
  | .rt v h => match unlH n h with
    | some h' => .rt v h'
    | none => .stuck
  | _ => .stuck
/-- the keys, and the heap with the dict locked -/
def lockD (n : Nat) (h : Heap) : Option (List Val × Heap) := match h[n]? with
  | some (.dct d) => some (d.map (·.1), h.set n (.fdc d))
  | some (.dcT d) => some (d.map (·.1), h.set n (.fdT d))
  | _ => none
def sForD (me : En → Heap → Res Val) (tg : Val → En → Option En) (body : En → Heap → RS) (s : En) (h : Heap) : RS := (me s h).thenS fun x h1 => match x with
  | .ref n => match lockD n h1 with
    | some (ks, h2) => unlS n (forM_ (fun _ => true) tg body ks s h2)
    | none => .stuck
  | _ => .stuck
section
variable {G : Cfg} {E : XK} {X : Cx} {k : Nat} {e tg iter : Expr} {te td : TE} {me : En → Heap → Res Val} {pos : Pos} {g : TG} {mg : Val → En → Option En} {sts : List Stmt} {t : TS} {m : En → Heap → RS} {r : List Addr} {H : Hp} {h : Heap}
/-- a loop's reading behind its iterator -/
theorem for_core {S : Src} {J : It} {r1 : List Addr} {H1 : Hp} {h1 : Heap} {s : En} {σ : L2.St} {D : Ends} (hg : RfG G g mg) (hb : RfS G E t m) (hR1 : HR G r1 H1 h1) (sR : SR G r1 H1 s σ) (J1 : ItOk G r1 H1 J S) (p1 : PostS G r1 H1 E (forM_ S.chk mg m S.items s h1) D) :
    ∃ W : Nat → Nat → L2.St → Hp → Prop, (∃ m, W 0 m σ H1) ∧ ∀ i m σ H, W i m σ H →
  (J.stop i H ∧ D.nx σ H) ∨ (J.go i H ∧ ∃ N : L2.St → Hp → Prop, (∀ σ' H', N σ' H' → ∃ m', m' < m ∧ W (i + 1) m' σ' H') ∧ ∀ x H', J.yld i H x H' → g x σ H' fun σ2 H2 => t { D with nx := N, ct := N, bk := D.nx } σ2 H2) := by
  refine ⟨fun i mm σ' H' => ∃ r' h' s', Stp G.K r1 H1 r' H' ∧ HR G r' H' h' ∧ SR G r' H' s' σ' ∧ mm = S.items.length - i ∧ i ≤ S.items.length ∧ PostS G r' H' E (forM_ S.chk mg m (S.items.drop i) s' h') D, ⟨_, r1, h1, s, Stp.refl, hR1, sR, rfl, Nat.zero_le _, p1⟩, ?_⟩
  rintro i mm σ' H' ⟨r', h', s', st, hR', sR', rfl, hle, p'⟩
  cases hd : S.items.drop i with
  | nil =>
    have hi : i = S.items.length := by
      have := List.drop_eq_nil_iff.mp hd
      omega
    rw [hd] at p'
    unfold forM_ at p'
    split at p'
    · rename_i hc
      subst hi
      exact .inl ⟨J1.stop r' H' h' st hR' hc, p'.here hR' sR'⟩
    · exact False.elim p'
  | cons x rest =>
    have hlt : i < S.items.length := by
      refine Decidable.byContradiction fun q => ?_
      rw [List.drop_eq_nil_of_le (by omega)] at hd
      cases hd
    have hx : S.items[i]? = some x := by
      have := congrArg (fun l => l[0]?) hd
      simpa using this
    have hr : S.items.drop (i + 1) = rest := by
      rw [← List.drop_drop (i := 1) (j := i), hd]
      rfl
    rw [hd] at p'
    unfold forM_ at p'
    split at p'
    · rename_i hc
      obtain ⟨hgo, hy⟩ := J1.go r' H' h' i x st hR' hc hx
      refine .inr ⟨hgo, fun σ2 H2 => ∃ r2 h2 s2, Stp G.K r1 H1 r2 H2 ∧ HR G r2 H2 h2 ∧ SR G r2 H2 s2 σ2 ∧ PostS G r2 H2 E (forM_ S.chk mg m rest s2 h2) D, ?_, ?_⟩
      · rintro σ2 H2 ⟨r2, h2, s2, q1, q2, q3, q4⟩
        exact ⟨_, by omega, r2, h2, s2, q1, q2, q3, rfl, by omega, by rw [hr]; exact q4⟩
      · intro v H3 hyl
        obtain ⟨r3, st3, hR3, vR⟩ := hy v H3 hyl
        cases e1 : mg x s' with
        | none => rw [e1] at p'; exact False.elim p'
        | some s1' =>
          rw [e1] at p'
          refine hg.run r3 H3 s' σ' x v _ (sR'.mono st3) vR ⟨s1', e1, fun σ1 sR1 => ?_⟩
          refine hb.run r3 H3 h' s1' σ1 _ hR3 sR1 ?_
          simp only at p'
          cases e2 : m s1' h' with
          | nx s2 h2 =>
            rw [e2] at p'
            exact fun r4 H4 t4 st4 hR4 sR4 => ⟨r4, h2, s2, st.trans (st3.trans st4), hR4, sR4, p'.shift (st3.trans st4)⟩
          | ct s2 h2 =>
            rw [e2] at p'
            exact fun r4 H4 t4 st4 hR4 sR4 => ⟨r4, h2, s2, st.trans (st3.trans st4), hR4, sR4, p'.shift (st3.trans st4)⟩
          | bk s2 h2 =>
            rw [e2] at p'
            exact fun r4 H4 t4 st4 hR4 sR4 => p' r4 H4 t4 (st3.trans st4) hR4 sR4
          | rt v2 h2 =>
            rw [e2] at p'
            exact fun r4 H4 t4 st4 hR4 sR4 => p' r4 H4 t4 (st3.trans st4) hR4 sR4
          | raised c2 h2 =>
            rw [e2] at p'
            exact fun r4 H4 t4 st4 hR4 sR4 => p' r4 H4 t4 (st3.trans st4) hR4 sR4
          | stuck =>
            rw [e2] at p'
            exact p'
    · exact False.elim p'
theorem HR.lock {r : List Addr} {H : Hp} {h : Heap} (R : HR G r H h) {n : Nat} {ks : List Val} {h2 : Heap} (e : lockD n h = some (ks, h2)) {a : Addr} (ea : r[n]? = some a) :
    (∃ d f, h[n]? = some (.dct d) ∧ H a = some (.dK f) ∧ DR G r H d f ∧ ks = d.map (·.1) ∧ ∀ od, Stp G.K r H r (upd H a (.frz od (.dK f))) ∧ HR G r (upd H a (.frz od (.dK f))) h2) ∨
    (∃ d f, h[n]? = some (.dcT d) ∧ H a = some (.dT f) ∧ DTR G r H d f ∧ ks = d.map (·.1) ∧ ∀ od, Stp G.K r H r (upd H a (.frz od (.dT f))) ∧ HR G r (upd H a (.frz od (.dT f))) h2) := by
  unfold lockD at e
  split at e
  · rename_i d eo
    cases e
    cases R.ob _ _ _ eo ea with
    | @dct _ f _ hl hv =>
      refine .inl ⟨d, f, eo, hl, hv, rfl, fun od => ?_⟩
      have hn : ∀ o, H a = some o → NotT o := fun o e => by rw [hl] at e; cases e; trivial
      have st : Stp G.K r H r (upd H a (.frz od (.dK f))) := Stp.upd hn
      exact ⟨st, R.write eo rfl ea hn (.fdc upd_same (hv.mono st)) rfl⟩
  · rename_i d eo
    cases e
    cases R.ob _ _ _ eo ea with
    | @dcT _ f _ hl hv =>
      refine .inr ⟨d, f, eo, hl, hv, rfl, fun od => ?_⟩
      have hn : ∀ o, H a = some o → NotT o := fun o e => by rw [hl] at e; cases e; trivial
      have st : Stp G.K r H r (upd H a (.frz od (.dT f))) := Stp.upd hn
      exact ⟨st, R.write eo rfl ea hn (.fdT upd_same (hv.mono st)) rfl⟩
  · cases e
/-- where a thing that is no tuple and not locked is written, whatever has been done to it -/
theorem Stp.unl {K : PySem.W.Frag} {r : List Addr} {H : Hp} {a : Addr} {v : HO} {r0 : List Addr} {H0 : Hp} {u : HO} (h0 : H0 a = some u) (hu : NotT u) (st : Stp K r0 H0 r H) : Stp K r0 H0 r (L2.upd H a v) := by
  have ne : ∀ b w, H0 b = some w → ¬ NotT w → b ≠ a := fun b w e hn z => by subst z; rw [h0] at e; cases e; exact hn hu
  refine ⟨st.pre, fun b xs q => ?_, fun b o x q => ?_, fun b xs q => ?_⟩
  · by_cases hb : b = a
    · subst hb
      rcases q with (z | ⟨o, z⟩) | z
      · exact absurd rfl (ne b _ z (fun z => z))
      · exact absurd rfl (ne b _ z (fun z => z))
      · exact .inr z
    · rcases st.tup b xs q with (z | ⟨o, z⟩) | z
      · exact .inl (.inl (by rw [upd_ne hb]; exact z))
      · exact .inl (.inr ⟨o, by rw [upd_ne hb]; exact z⟩)
      · exact .inr z
  · rw [upd_ne (ne b _ q (fun z => z))]; exact st.frl b o x q
  · rw [upd_ne (ne b _ q (fun z => z))]; exact st.tpl b xs q
theorem Stw.unl {K : PySem.W.Frag} {r : List Addr} {H : Hp} {a : Addr} {o : PySem.Obj} {u v : HO} (h : H a = some (.frz o u)) (hu : ∀ xs, u ≠ .tup xs) (hl : ∀ xs, u ≠ .lst xs) : Stw K r H r (upd H a v) := by
  refine ⟨fun _ _ e => e, fun b xs q => ?_, fun b o' x q => ?_⟩
  · rcases q with (z | ⟨o', z⟩) | z
    · exact .inl (.inl (by rw [upd_ne (fun e => by subst e; rw [h] at z; cases z)]; exact z))
    · exact .inl (.inr ⟨o', by rw [upd_ne (fun e => by subst e; rw [h] at z; cases z; exact hu _ rfl)]; exact z⟩)
    · exact .inr z
  · rw [upd_ne (fun e => by subst e; rw [h] at q; cases q; exact hl _ rfl)]; exact q
theorem HR.writew {r : List Addr} {H : Hp} {h : Heap} (R : HR G r H h) {n : Nat} {a : Addr} {u : HO} {o o0 : Obj} (e0 : h[n]? = some o0) (f0 : isFls o0 = false) (e : r[n]? = some a) (st : Stw G.K r H r (upd H a u)) (ho : OR G r (upd H a u) o a) (f : isFls o = false) : HR G r (upd H a u) (h.set n o) := by
  have hl : n < h.length := (List.getElem?_eq_some_iff.mp e0).1
  have at_ : ∀ (i : Nat) (x : Obj), (h.set n o)[i]? = some x → isFls x = false → ∃ y, h[i]? = some y ∧ isFls y = false := fun i x e1 f1 => by
    by_cases hm : i = n
    · subst hm
      exact ⟨o0, e0, f0⟩
    · rw [List.getElem?_set_ne (Ne.symm hm)] at e1
      exact ⟨x, e1, f1⟩
  refine ⟨by simp [R.len], fun i j b x y e1 e2 e3 e4 f1 f2 => ?_, fun m o' b e1 e2 => ?_⟩
  · obtain ⟨x', e1', f1'⟩ := at_ i x e1 f1
    obtain ⟨y', e2', f2'⟩ := at_ j y e2 f2
    exact R.nd i j b x' y' e1' e2' e3 e4 f1' f2'
  · by_cases hm : m = n
    · subst hm
      rw [e] at e2
      cases e2
      rw [List.getElem?_set_self hl] at e1
      cases e1
      exact ho
    · rw [List.getElem?_set_ne (Ne.symm hm)] at e1
      refine (R.ob m o' b e1 e2).monow st fun f' v q => ?_
      have hb : b ≠ a := fun q => by
        subst q
        exact hm (R.nd m n b o' o0 e1 e0 e2 e f' f0)
      rw [upd_ne hb]
      exact q
theorem HR.unl {r : List Addr} {H : Hp} {h h3 : Heap} (R : HR G r H h) {n : Nat} {a : Addr} (e : unlH n h = some h3) (ea : r[n]? = some a) : ∃ o u, H a = some (.frz o u) ∧ Stw G.K r H r (upd H a u) ∧ HR G r (upd H a u) h3 := by
  unfold unlH at e
  split at e
  · rename_i d eo
    cases e
    cases R.ob _ _ _ eo ea with
    | @fdc _ f o _ hl hv =>
      have st : Stw G.K r H r (upd H a (.dK f)) := Stw.unl hl (fun _ z => nomatch z) (fun _ z => nomatch z)
      exact ⟨o, _, hl, st, R.writew eo rfl ea st (.dct upd_same (hv.monow st)) rfl⟩
  · rename_i d eo
    cases e
    cases R.ob _ _ _ eo ea with
    | @fdT _ f o _ hl hv =>
      have st : Stw G.K r H r (upd H a (.dT f)) := Stw.unl hl (fun _ z => nomatch z) (fun _ z => nomatch z)
      exact ⟨o, _, hl, st, R.writew eo rfl ea st (.dcT upd_same (hv.monow st)) rfl⟩
  · cases e
/-- the walk of a locked dict -/
theorem dk_get {r : List Addr} {H : Hp} {d : List (Val × Val)} {f : List (Key × V)} (v : DR G r H d f) : ∀ {i : Nat} {x : Val}, (d.map (·.1))[i]? = some x → ∃ q w, f[i]? = some (q, w) ∧ KR G x q := by
  induction v with
  | nil => intro i x e; simp at e
  | cons hk hv _ ih =>
    intro i x e
    cases i with
    | zero => simp at e; subst e; exact ⟨_, _, rfl, hk⟩
    | succ i => simpa using ih (i := i) (x := x) (by simpa using e)
theorem dt_get {r : List Addr} {H : Hp} {d : List (Val × Val)} {f : List (List Key × V)} (v : DTR G r H d f) : ∀ {i : Nat} {x : Val}, (d.map (·.1))[i]? = some x → ∃ ks qs w, x = .tup ks ∧ f[i]? = some (qs, w) ∧ KRs G ks qs := by
  induction v with
  | nil => intro i x e; simp at e
  | cons hk hv _ ih =>
    intro i x e
    cases i with
    | zero => simp at e; subst e; exact ⟨_, _, _, rfl, rfl, hk⟩
    | succ i => simpa using ih (i := i) (x := x) (by simpa using e)
theorem KRs.vr {r : List Addr} {H : Hp} : ∀ {ks : List Val} {qs : List Key}, KRs G ks qs → VRs G r H ks (qs.map kV)
  | _, _, .nil => .nil
  | _, _, .cons a b => .cons a.vr (KRs.vr b)
theorem itk_ok {r1 : List Addr} {H1 : Hp} {a : Addr} {od : PySem.Obj} {d : List (Val × Val)} {f : List (Key × V)} (ha : H1 a = some (.frz od (.dK f))) (hv : DR G r1 H1 d f) : ItOk G r1 H1 (Itk a od f) ⟨d.map (·.1), fun _ => true⟩ := by
  refine ⟨fun r2 H2 h2 hp _ _ => ⟨hp.frl _ _ _ ha, by simp [hv.len]⟩, fun r2 H2 h2 i x hp hR2 _ hx => ?_⟩
  obtain ⟨q, w, ef, kq⟩ := dk_get hv hx
  refine ⟨⟨hp.frl _ _ _ ha, (List.getElem?_eq_some_iff.mp ef).1⟩, fun v' H3 hy => ?_⟩
  obtain ⟨rfl, k, v, e2, rfl⟩ := hy
  rw [ef] at e2
  cases e2
  exact ⟨r2, Stp.refl, hR2, kq.vr⟩
theorem itkt_ok {r1 : List Addr} {H1 : Hp} {a : Addr} {od : PySem.Obj} {d : List (Val × Val)} {f : List (List Key × V)} (ha : H1 a = some (.frz od (.dT f))) (hv : DTR G r1 H1 d f) : ItOk G r1 H1 (Itkt a od f) ⟨d.map (·.1), fun _ => true⟩ := by
  refine ⟨fun r2 H2 h2 hp _ _ => ⟨hp.frl _ _ _ ha, by simp [hv.len]⟩, fun r2 H2 h2 i x hp hR2 _ hx => ?_⟩
  obtain ⟨ks, q, w, rfl, ef, kq⟩ := dt_get hv hx
  refine ⟨⟨hp.frl _ _ _ ha, (List.getElem?_eq_some_iff.mp ef).1⟩, fun v' H3 hy => ?_⟩
  obtain ⟨rfl, k, v, p, e2, rfl, hp3⟩ := hy
  rw [ef] at e2
  cases e2
  exact ⟨r2, Stp.refl, hR2, .tup (SqT.of hp3) kq.vr⟩
theorem post_unl {r1 : List Addr} {H1 : Hp} {a : Addr} {n : Nat} {u w : HO} {x : RS} {D : Ends} (ea : r1[n]? = some a) (h0 : H1 a = some u) (hu : NotT u) (st : Stp G.K r1 H1 r1 (upd H1 a w)) (nf : ∀ o' u', X.H_0 a ≠ some (.frz o' u')) (p : PostS G r1 H1 E (unlS n x) D) : PostS G r1 (upd H1 a w) E x (unD X D) := by
  cases x with
  | nx s' h' =>
    intro r' H' t st' hR' sR'
    simp only [unlS] at p
    split at p
    · rename_i h3 e3
      obtain ⟨o, u', hl, sw, hR3⟩ := hR'.unl e3 (st'.pre _ _ ea)
      exact ⟨a, o, u', hl, nf, p r' _ t (Stp.unl h0 hu (st.trans st')) hR3 (sR'.monow sw)⟩
    · exact p.elim
  | rt v' h' =>
    intro r' H' t st' hR' vR'
    simp only [unlS] at p
    split at p
    · rename_i h3 e3
      obtain ⟨o, u', hl, sw, hR3⟩ := hR'.unl e3 (st'.pre _ _ ea)
      exact ⟨a, o, u', hl, nf, p r' _ t (Stp.unl h0 hu (st.trans st')) hR3 (vR'.monow sw)⟩
    · exact p.elim
  | bk _ _ => exact p.elim
  | ct _ _ => exact p.elim
  | raised _ _ => exact p.elim
  | stuck => exact p.elim
theorem ms_forD (C : XC G E X k) (he : ME G E X iter td me) (hg : MG G X tg g mg) (hb : MSs G E X sts t m) (hs : ∀ x, foldedSetIterable iter X.env x = pure x := by intro _; rfl) :
    MS G E X (.For tg iter sts [] pos) (fun D σ H => tFor (iKeysL X td) g t (unD X D) σ H) (sForD me mg m) := by
  refine ⟨ps_unlock (ps_for C.own C.calm (pi_keysL he.pe) hg.pe hb.pe hs), ⟨fun r H h s σ D hR sR p => ?_⟩⟩
  refine he.rf.run r H h s σ _ hR sR (p.seqS fun x h1 r1 H1 v s1 hR1 v1 p1 => ?_)
  cases v1 with
  | @ref n a ea =>
    simp only at p1
    split at p1
    · rename_i ks h2 e2
      refine ⟨a, rfl, ?_⟩
      rcases hR1.lock e2 ea with ⟨d, f, eo, hl, hv, rfl, z⟩ | ⟨d, f, eo, hl, hv, rfl, z⟩
      · refine .inl ⟨f, hl, fun od nf => ?_⟩
        obtain ⟨st, hR2⟩ := z od
        exact for_core (S := ⟨d.map (·.1), fun _ => true⟩) hg.rf hb.rf hR2 ((sR.mono s1).mono st) (itk_ok upd_same (hv.mono st)) (post_unl ea hl trivial st nf p1)
      · refine .inr ⟨f, hl, fun od nf => ?_⟩
        obtain ⟨st, hR2⟩ := z od
        exact for_core (S := ⟨d.map (·.1), fun _ => true⟩) hg.rf hb.rf hR2 ((sR.mono s1).mono st) (itkt_ok upd_same (hv.mono st)) (post_unl ea hl trivial st nf p1)
    · exact False.elim p1
  | _ => exact False.elim p1
end
end PyM

set_option Elab.async false
set_option linter.all false
set_option maxRecDepth 100000
set_option autoImplicit false
/-! sum of a tuple -/
namespace PyM
open PySem PySem.Spec PyProof.Rows L2
section
variable {prog : Program} {w : World} {A : Around} {E : Value → Shared → Prop} {s : Shared} {l : Addr} {its : List Value} {ns : List Int} {Q : Value → Shared → Prop} {xs : Array (Int × Tok)}
theorem sum_intTupG (hh : A.handled = none) (hT : s.heap.IsTuple l (intItems xs))
    (h : ∀ h' tk t', (∀ b o, s.heap.get? b = some o → h'.get? b = some o) → Q (.int (preSum (numAt xs) xs.size) t') { s with heap := h', toks := tk }) :
    wpAny (model prog w) A (call (.builtin "sum") [.ref l]) Q E s := by
  have hlt : l < s.heap.objs.size := by obtain ⟨_, e, _⟩ := hT; exact Heap.lt_size e
  refine call_sum_walkG (wpAny_pyIter_tuple hT ?_)
  refine ⟨_, [_, l], [_], _, _, _, numAt xs, rfl, Walks.tuple (A := A.in1) hh _ l (Nat.ne_of_lt hlt) (intItems xs), ⟨⟨_, Heap.get?_push_size _ rfl, rfl, rfl⟩, hT.push _⟩, fun b hb => ?_, (fun _ _ => intItems_at), fun h' tk t' hk => ?_⟩
  · show b < (s.heap.push _).objs.size
    rw [Heap.size_push]
    rcases List.mem_cons.mp hb with rfl | hb
    · exact Nat.lt_succ_self _
    · rcases List.mem_cons.mp hb with rfl | hb
      · exact Nat.lt_succ_of_lt hlt
      · cases hb
  · have := h h' tk t' (fun b o e => hk b o (fun hm => by
      rcases List.mem_cons.mp hm with e1 | hm
      · exact absurd (e1 ▸ Heap.lt_size e) (Nat.lt_irrefl _)
      · cases hm) (Heap.get?_push_of_some _ e))
    simpa [intItems] using this
theorem sum_rawT (hh : A.handled = none) (hl : s.heap.IsTuple l its.toArray) (hi : IntsAre its ns)
    (h : ∀ h' tk t', (∀ b o, s.heap.get? b = some o → h'.get? b = some o) → Q (.int ns.sum t') { s with heap := h', toks := tk }) : wpAny (model prog w) A (call (.builtin "sum") [.ref l]) Q E s := by
  obtain ⟨xs, e⟩ := hi.allInts.items
  have hn : numsOf (intItems xs).toList = ns := by rw [← e]; exact hi.numsOf
  rw [nums_intItems] at hn
  rw [e] at hl
  refine sum_intTupG hh hl fun h' tk t' hk => ?_
  have := h h' tk t' hk
  rw [preSum_eq, List.take_of_length_le (by simp), hn]; exact this
end
section
variable {X : Cx} {G : Cfg} {E : XK} {k : Nat}
def rSumT (K : PySem.W.Frag) : List V → Hp → VK → Prop := fun vs H Q => ∃ (a : Addr) (ns : List Int), vs = [V.ref a] ∧ SqT K H a (ns.map V.int) ∧ Q (.int ns.sum) H
theorem cr_sumT (hc : X.calm = true) : CallR X (.builtin "sum") (rSumT X.K) := by
  intro pins s σ H vs us Q I r h
  obtain ⟨a, ns, rfl, hs, q⟩ := h
  obtain ⟨its, rv, hl, _⟩ := I.tuple hs
  rw [Vals.ref1 r]
  exact sum_rawT (I.ok.hd hc) hl rv.ints fun h' tk t' hk => ⟨.int _, H, I.kept hk, ⟨_, rfl⟩, q⟩
def bSumT (xs : List Val) (h : Heap) : Res Val := match xs with
  | [.tup ys] => match optAll asInt ys with
    | some ns => .ok (.int ns.sum) h
    | none => .stuck
  | _ => .stuck
theorem cl_sumT (C : XC G E X k) : CallR X (.builtin "sum") (rSumT G.K) := by have := cr_sumT (X := X) C.calm; rwa [C.K] at this
theorem rl_sumT : RfL G E (rSumT G.K) bSumT := by
  refine ⟨fun r H h xs vs Q hR v p => ?_⟩
  unfold bSumT at p
  split at p
  · cases v with
    | cons q1 q2 =>
      cases q2
      split at p
      · rename_i bs e2
        cases q1 with
        | tup hs hv =>
          rw [all_int hv e2] at hs
          exact ⟨_, bs, rfl, hs, p.here hR (.int _)⟩
      · exact False.elim p
  · exact False.elim p
variable {a : Expr} {ta : TE} {ma : En → Heap → Res Val} {pos : Pos}
/-- what is true, as mt_tr has it -/
theorem tru_of {r1 : List Addr} {H1 : Hp} {h1 : Heap} {x : Val} {v : V} {b : Bool} (hR1 : HR G r1 H1 h1) (v1 : VR G r1 H1 x v) (e : truth x h1 = some b) : TruV G.K v H1 b := by
  cases v1 with
  | non => cases e; rfl
  | bl b => cases e; rfl
  | int i => cases e; rfl
  | str q => cases e
  | tup hs hv =>
    cases e
    cases hv with
    | nil => exact .inr (.inl ⟨_, hs, rfl⟩)
    | cons _ _ => exact .inr (.inl ⟨_, hs, rfl⟩)
  | @ref n a ea =>
    simp only [truth] at e
    split at e
    · rename_i xs eo
      cases e
      cases hR1.ob _ _ _ eo ea with
      | lst hl hv => cases hv <;> exact .inl ⟨_, SqL.of hl, rfl⟩
    · rename_i xs eo
      cases e
      cases hR1.ob _ _ _ eo ea with
      | fls hl hv => cases hv <;> exact .inl ⟨_, hl.sq, rfl⟩
    · rename_i xs eo
      cases e
      cases hR1.ob _ _ _ eo ea with
      | dct hl hv => cases hv <;> exact .inr (.inr ⟨_, hl, rfl⟩)
    · cases e
/-- not x, by truth -/
def mNoT (ma : En → Heap → Res Val) (s : En) (h : Heap) : Res Val := (ma s h).bind fun x h1 => match truth x h1 with
  | some b => .ok (.bl (!b)) h1
  | none => .stuck
theorem me_notT (C : XC G E X k) (h : ME G E X a ta ma) : ME G E X (.UnaryOp .Not a pos) (tNotT G.K ta) (mNoT ma) := by
  refine ⟨?_, ⟨fun r H h' s σ Q hR sR p => h.rf.run r H h' s σ _ hR sR (p.seq fun x h1' r1 H1 v s1 hR1 v1 p1 => ?_)⟩⟩
  · have := pe_notT (pos := pos) h.pe
    rwa [C.K] at this
  · split at p1
    · rename_i b e
      exact ⟨b, tru_of hR1 v1 e, p1.here hR1 (.bl _)⟩
    · exact False.elim p1
end
end PyM

set_option Elab.async false
set_option linter.all false
set_option autoImplicit false
/-! how a model program is reckoned: weakest wishes, as equations for simp -/
namespace PyM

structure K4 where
  nx : En → Heap → Prop
  rt : Val → Heap → Prop
  bk : En → Heap → Prop := fun _ _ => False
  ct : En → Heap → Prop := fun _ _ => False
  ex : Nat → Heap → Prop := fun _ _ => False
def wR {α : Type} (x : Res α) (E : Nat → Heap → Prop) (Q : α → Heap → Prop) : Prop := match x with
  | .ok a h => Q a h
  | .raised c h => E c h
  | .stuck => False
def wS (x : RS) (D : K4) : Prop := match x with
  | .nx s h => D.nx s h
  | .rt v h => D.rt v h
  | .bk s h => D.bk s h
  | .ct s h => D.ct s h
  | .raised c h => D.ex c h
  | .stuck => False
section
variable {α β : Type} {E : Nat → Heap → Prop} {Q : α → Heap → Prop} {D : K4} {s : En} {h : Heap}
@[simp ↓] theorem wR_ok {a : α} : wR (.ok a h) E Q = Q a h := rfl
@[simp ↓] theorem wR_raised {c : Nat} : wR (.raised c h : Res α) E Q = E c h := rfl
@[simp ↓] theorem wR_stuck : wR (.stuck : Res α) E Q = False := rfl
@[simp ↓] theorem wS_nx : wS (.nx s h) D = D.nx s h := rfl
@[simp ↓] theorem wS_rt {v : Val} : wS (.rt v h) D = D.rt v h := rfl
@[simp ↓] theorem wS_bk : wS (.bk s h) D = D.bk s h := rfl
@[simp ↓] theorem wS_ct : wS (.ct s h) D = D.ct s h := rfl
@[simp ↓] theorem wS_raised {c : Nat} : wS (.raised c h) D = D.ex c h := rfl
@[simp ↓] theorem wS_stuck : wS .stuck D = False := rfl
@[simp ↓] theorem wR_bind {x : Res β} {k : β → Heap → Res α} : wR (x.bind k) E Q = wR x E fun b h1 => wR (k b h1) E Q := by cases x <;> rfl
@[simp ↓] theorem wS_thenS {x : Res β} {k : β → Heap → RS} : wS (x.thenS k) D = wR x D.ex fun b h1 => wS (k b h1) D := by cases x <;> rfl
@[simp ↓] theorem wS_bind {x : RS} {k : En → Heap → RS} : wS (x.bind k) D = wS x { D with nx := fun s h => wS (k s h) D } := by cases x <;> rfl
@[simp ↓] theorem wR_ite {c : Prop} [Decidable c] {a b : Res α} : wR (if c then a else b) E Q = if c then wR a E Q else wR b E Q := by split <;> rfl
@[simp ↓] theorem wS_ite {c : Prop} [Decidable c] {a b : RS} : wS (if c then a else b) D = if c then wS a D else wS b D := by split <;> rfl
theorem wR_mono {x : Res α} {Q' : α → Heap → Prop} (w : wR x E Q) (f : ∀ a h, Q a h → Q' a h) : wR x E Q' := by cases x <;> first | exact f _ _ w | exact w
theorem wR_eq {x : Res α} {a : α} (e : x = .ok a h) (q : Q a h) : wR x E Q := by rw [e]; exact q
end
section
variable {E : Nat → Heap → Prop} {Q : Val → Heap → Prop} {QA : List Val → Heap → Prop} {QB : Bool → Heap → Prop} {D : K4} {s : En} {h : Heap} {ma mb mc mo mi me : En → Heap → Res Val} {mA : En → Heap → Res (List Val)} {tu tv : En → Heap → Res Bool} {a b : En → Heap → RS}
@[simp ↓] theorem wR_mK {x : Val} : wR (mK x s h) E Q = Q x h := rfl
@[simp ↓] theorem wR_mV0 {x : Val} : wR (mV 0 (some x :: s) h) E Q = Q x h := rfl
@[simp ↓] theorem wR_mV1 {i : Nat} {o : Option Val} : wR (mV (i + 1) (o :: s) h) E Q = wR (mV i s h) E Q := rfl
@[simp ↓] theorem wR_mB {f : Val → Val → Heap → Res Val} : wR (mB f ma mb s h) E Q = wR (ma s h) E fun x h1 => wR (mb s h1) E fun y h2 => wR (f x y h2) E Q := by unfold mB; simp
@[simp ↓] theorem wR_mU {f : Val → Heap → Res Val} : wR (mU f ma s h) E Q = wR (ma s h) E fun x h1 => wR (f x h1) E Q := by unfold mU; simp
@[simp ↓] theorem wR_mL {f : List Val → Heap → Res Val} : wR (mL f mA s h) E Q = wR (mA s h) E fun x h1 => wR (f x h1) E Q := by unfold mL; simp
@[simp ↓] theorem wR_mNil : wR (mNil s h) E QA = QA [] h := rfl
@[simp ↓] theorem wR_mCons : wR (mCons ma mA s h) E QA = wR (ma s h) E fun x h1 => wR (mA s h1) E fun xs h2 => QA (x :: xs) h2 := by unfold mCons; simp
@[simp ↓] theorem wR_tB : wR (tB_ ma s h) E QB = wR (ma s h) E fun x h1 => (match x with | .bl c => QB c h1 | _ => False) := by
  unfold tB_; simp only [wR_bind]; congr; funext x h1; split <;> simp_all
@[simp ↓] theorem wR_tTr : wR (tTr ma s h) E QB = wR (ma s h) E fun x h1 => (match truth x h1 with | some c => QB c h1 | none => False) := by
  unfold tTr; simp only [wR_bind]; congr; funext x h1; split <;> simp_all
@[simp ↓] theorem wR_tTrue : wR (tTrue s h) E QB = QB true h := rfl
@[simp ↓] theorem wR_tNo : wR (tNo tu s h) E QB = wR (tu s h) E fun c h1 => QB (!c) h1 := by unfold tNo; simp
@[simp ↓] theorem wR_tAn : wR (tAn tu tv s h) E QB = wR (tu s h) E fun c h1 => if c = true then wR (tv s h1) E QB else QB false h1 := by unfold tAn; simp
@[simp ↓] theorem wR_tOr : wR (tOr_ tu tv s h) E QB = wR (tu s h) E fun c h1 => if c = true then QB true h1 else wR (tv s h1) E QB := by unfold tOr_; simp
@[simp ↓] theorem wR_mAn : wR (mAn ma mb s h) E Q = wR (ma s h) E fun x h1 => (match x with | .bl c => if c = true then wR (mb s h1) E Q else Q (.bl false) h1 | _ => False) := by
  unfold mAn; simp only [wR_bind]; congr; funext x h1; split <;> simp_all
@[simp ↓] theorem wR_mOr : wR (mOr_ ma mb s h) E Q = wR (ma s h) E fun x h1 => (match x with | .bl c => if c = true then Q (.bl true) h1 else wR (mb s h1) E Q | _ => False) := by
  unfold mOr_; simp only [wR_bind]; congr; funext x h1; split <;> simp_all
@[simp ↓] theorem wR_mNo : wR (mNo ma s h) E Q = wR (ma s h) E fun x h1 => (match x with | .bl c => Q (.bl (!c)) h1 | _ => False) := by
  unfold mNo; simp only [wR_bind]; congr; funext x h1; split <;> simp_all
@[simp ↓] theorem wR_mIf : wR (mIf tu ma mb s h) E Q = wR (tu s h) E fun c h1 => if c = true then wR (ma s h1) E Q else wR (mb s h1) E Q := by unfold mIf; simp
@[simp ↓] theorem wR_mCh {p q : Int → Int → Bool} : wR (mCh p q ma mb mc s h) E Q = wR (ma s h) E fun x h1 => wR (mb s h1) E fun y h2 => (match x, y with
    | .int i, .int j => if p i j = true then wR (mc s h2) E fun z h3 => (match z with | .int k => Q (.bl (q j k)) h3 | _ => False) else Q (.bl false) h2
    | _, _ => False) := by
  unfold mCh; simp only [wR_bind]; congr; funext x h1; congr; funext y h2; split
  · simp only [wR_ite, wR_bind, wR_ok]
    split
    · congr; funext z h3; split <;> simp_all
    · rfl
  · simp_all
@[simp ↓] theorem wR_mTup : wR (mTup mA s h) E Q = wR (mA s h) E fun xs h1 => xs.length ≤ lim ∧ Q (.tup xs) h1 := by unfold mTup; simp only [wR_bind]; congr; funext x h1; split <;> (simp_all <;> (intros; omega))
@[simp ↓] theorem wR_mLst : wR (mLst mA s h) E Q = wR (mA s h) E fun xs h1 => xs.length ≤ lim ∧ Q (.ref h1.length) (h1 ++ [.lst xs]) := by unfold mLst; simp only [wR_bind]; congr; funext x h1; split <;> (simp_all <;> (intros; omega))
@[simp ↓] theorem wR_mDct : wR (mDct s h) E Q = Q (.ref h.length) (h ++ [.dct []]) := rfl
@[simp ↓] theorem wR_mCall {m : List Val → Heap → Res Val} {ds : List Val} : wR (mCall m ds mA s h) E Q = wR (mA s h) E fun xs h1 => wR (m (xs ++ ds) h1) E Q := by unfold mCall; simp
@[simp ↓] theorem wR_mMeth {c : Nat} {m : List Val → Heap → Res Val} {ds : List Val} : wR (mMeth c m ds mo mA s h) E Q = wR (mo s h) E fun x h1 => isIns c x h1 = true ∧ wR (mA s h1) E fun xs h2 => wR (m (x :: (xs ++ ds)) h2) E Q := by
  unfold mMeth; simp only [wR_bind]; congr; funext x h1; split <;> simp_all
@[simp ↓] theorem wR_mMake {c : Nat} {m : List Val → Heap → Res Val} {ds : List Val} : wR (mMake c m ds mA s h) E Q = wR (mA s h) E fun xs h1 => wR (m (.ref h1.length :: (xs ++ ds)) (h1 ++ [.ins c []])) E fun x h2 => (match x with | .non => Q (.ref h1.length) h2 | _ => False) := by
  unfold mMake; simp only [wR_bind]; congr; funext x h1; congr; funext y h2; split <;> simp_all
@[simp ↓] theorem wR_mSl {p q : En → Heap → Res (Option Int)} : wR (mSl ma p q s h) E Q = wR (ma s h) E fun x h1 => wR (p s h1) E fun lo h2 => wR (q s h2) E fun hi h3 => wR (oSl x lo hi h3) E Q := by unfold mSl; simp
@[simp ↓] theorem wR_pNo {QO : Option Int → Heap → Prop} : wR (pNo s h) E QO = QO none h := rfl
@[simp ↓] theorem wR_pSo {QO : Option Int → Heap → Prop} : wR (pSo ma s h) E QO = wR (ma s h) E fun x h1 => (match x with | .int i => QO (some i) h1 | _ => False) := by
  unfold pSo; simp only [wR_bind]; congr; funext x h1; split <;> simp_all
@[simp ↓] theorem wR_mIsi {T : Ty} : wR (mIsi T ma s h) E Q = wR (ma s h) E fun x h1 => (match isTy T (tyOf x h1) with | some c => Q (.bl c) h1 | none => False) := by
  unfold mIsi; simp only [wR_bind]; congr; funext x h1; split <;> simp_all
@[simp ↓] theorem wR_mBM {f : Val → List Val → Heap → Res Val} : wR (mBM f mo mA s h) E Q = wR (mo s h) E fun x h1 => (seqOf x h1).isSome = true ∧ wR (mA s h1) E fun xs h2 => wR (f x xs h2) E Q := by
  unfold mBM; simp only [wR_bind]; congr; funext x h1; split <;> simp_all
@[simp ↓] theorem wR_mBM0 {f : Val → List Val → Heap → Res Val} : wR (mBM0 f mo s h) E Q = wR (mo s h) E fun x h1 => (seqOf x h1).isSome = true ∧ wR (f x [] h1) E Q := by
  unfold mBM0; simp only [wR_bind]; congr; funext x h1; split <;> simp_all
@[simp ↓] theorem wS_sNx : wS (sNx s h) D = D.nx s h := rfl
@[simp ↓] theorem wS_sBk : wS (sBk s h) D = D.bk s h := rfl
@[simp ↓] theorem wS_sCt : wS (sCt s h) D = D.ct s h := rfl
@[simp ↓] theorem wS_sSeq : wS (sSeq a b s h) D = wS (a s h) { D with nx := fun s h => wS (b s h) D } := by unfold sSeq; simp
@[simp ↓] theorem wS_sDrop : wS (sDrop ma s h) D = wR (ma s h) D.ex fun _ h1 => D.nx s h1 := by unfold sDrop; simp
@[simp ↓] theorem wS_sRet : wS (sRet ma s h) D = wR (ma s h) D.ex fun x h1 => D.rt x h1 := by unfold sRet; simp
@[simp ↓] theorem wS_sRetN : wS (sRetN s h) D = D.rt .non h := rfl
@[simp ↓] theorem wS_sIf : wS (sIf tu a b s h) D = wR (tu s h) D.ex fun c h1 => if c = true then wS (a s h1) D else wS (b s h1) D := by unfold sIf; simp
@[simp ↓] theorem wS_sAsg {g : Val → En → Option En} : wS (sAsg g ma s h) D = wR (ma s h) D.ex fun x h1 => (match g x s with | some s1 => D.nx s1 h1 | none => False) := by
  unfold sAsg; simp only [wS_thenS]; congr; funext x h1; split <;> simp_all
@[simp ↓] theorem wS_sSub : wS (sSub mo mi me s h) D = wR (me s h) D.ex fun x h1 => wR (mo s h1) D.ex fun o h2 => wR (mi s h2) D.ex fun i h3 => wR (oSet o i x h3) D.ex fun _ h4 => D.nx s h4 := by unfold sSub; simp
@[simp ↓] theorem wS_sSubA {f : Val → Val → Heap → Res Val} : wS (sSubA f mo mi me s h) D = wR (mo s h) D.ex fun o h1 => wR (mi s h1) D.ex fun i h2 => wR (oIxM o i h2) D.ex fun x h3 => wR (me s h3) D.ex fun y h4 => wR (f x y h4) D.ex fun z h5 => wR (oSet o i z h5) D.ex fun _ h6 => D.nx s h6 := by unfold sSubA; simp
@[simp ↓] theorem wS_sFld {d f : Nat} : wS (sFld d f mo me s h) D = wR (me s h) D.ex fun x h1 => wR (mo s h1) D.ex fun o h2 => wR (oSetF d f o x h2) D.ex fun _ h3 => D.nx s h3 := by unfold sFld; simp
@[simp ↓] theorem wS_sFldA {d f : Nat} {g : Val → Val → Heap → Res Val} : wS (sFldA d f g mo me s h) D = wR (mo s h) D.ex fun o h1 => isIns d o h1 = true ∧ wR (getF f o h1) D.ex fun x h2 => wR (me s h2) D.ex fun y h3 => wR (g x y h3) D.ex fun z h4 => wR (oSetF d f o z h4) D.ex fun _ h5 => D.nx s h5 := by
  unfold sFldA; simp only [wS_thenS, wR_ite]; congr; funext x h1; split <;> simp_all
@[simp ↓] theorem wS_sAug {i : Nat} {g : Val → Val → Heap → Res Val} : wS (sAug i g me s h) D = (match s[i]? with | some (some x) => wR (me s h) D.ex fun y h1 => wR (g x y h1) D.ex fun z h2 => D.nx (s.set i (some z)) h2 | _ => False) := by
  unfold sAug; split <;> simp_all
@[simp ↓] theorem wS_sRaise {c : Nat} : wS (sRaise c s h) D = D.ex c h := rfl
@[simp ↓] theorem wS_sTry {c : Nat} : wS (sTry c a b s h) D = wS (a s h) { D with ex := fun c' h' => c' = c ∧ wS (b s h') D } := by
  unfold sTry; cases e : a s h <;> (simp <;> (split <;> simp_all))
@[simp ↓] theorem wS_sFor {mi : MI} {g : Val → En → Option En} : wS (sFor mi g a s h) D = wR (mi s h) D.ex fun S h1 => wS (forM_ S.chk g a S.items s h1) D := by unfold sFor; simp
@[simp ↓] theorem wR_iRng1 {QS : Src → Heap → Prop} : wR (iRng1 mA s h) E QS = wR (mA s h) E fun xs h1 => (match xs with | [.int j] => (-(2 ^ 62) ≤ j ∧ j < 2 ^ 62) ∧ QS ⟨rangeV 0 j.toNat, fun _ => true⟩ h1 | _ => False) := by
  unfold iRng1; simp only [wR_bind]; congr; funext x h1; split <;> (simp <;> (split <;> simp_all))
@[simp ↓] theorem wR_iRng2 {QS : Src → Heap → Prop} : wR (iRng2 mA s h) E QS = wR (mA s h) E fun xs h1 => (match xs with | [.int i, .int j] => (-(2 ^ 62) ≤ i ∧ i < 2 ^ 62 ∧ -(2 ^ 62) ≤ j ∧ j < 2 ^ 62) ∧ QS ⟨rangeV i (j - i).toNat, fun _ => true⟩ h1 | _ => False) := by
  unfold iRng2; simp only [wR_bind]; congr; funext x h1; split <;> (simp <;> (split <;> simp_all))
end
theorem ite_and' {c A : Prop} [Decidable c] : (if c then A else False) = (c ∧ A) := by
  by_cases h : c <;> simp [h]
/-! operations by values -/
section
variable {E : Nat → Heap → Prop} {Q : Val → Heap → Prop} {QU : Unit → Heap → Prop} {h : Heap} {a : Nat} {x y : Val} {xs ys : List Val} {i j : Int} {b c : Bool}
@[simp ↓] theorem wR_oI {g : Int → Int → Val} : wR (oI g (.int i) (.int j) h) E Q = Q (g i j) h := rfl
@[simp ↓] theorem wR_oIC {p : Int → Int → Bool} {g : Int → Int → Val} : wR (oIC p g (.int i) (.int j) h) E Q = (p i j = true ∧ Q (g i j) h) := by
  unfold oIC; simp only; split <;> simp_all
@[simp ↓] theorem wR_oAdd : wR (oAdd (.int i) (.int j) h) E Q = Q (.int (i + j)) h := rfl
@[simp ↓] theorem wR_oAddT : wR (oAdd (.tup xs) (.tup ys) h) E Q = (xs.length + ys.length ≤ lim ∧ Q (.tup (xs ++ ys)) h) := by
  unfold oAdd; simp only [wR_ite, wR_ok, wR_stuck, ite_and']
@[simp ↓] theorem wR_oMul : wR (oMul (.int i) (.int j) h) E Q = ((-(2 ^ 64) < j ∧ j < 2 ^ 64 ∨ -(2 ^ 64) < i ∧ i < 2 ^ 64) ∧ Q (.int (i * j)) h) := by
  unfold oMul; simp only [wR_ite, wR_ok, wR_stuck, ite_and']
@[simp ↓] theorem wR_oMulT : wR (oMul (.tup xs) (.int i) h) E Q = ((xs.length ≠ 0 ∧ 2 ≤ i ∧ i ≤ 1000 ∧ xs.length ≤ 1000) ∧ Q (.tup (repV i.toNat xs)) h) := by
  unfold oMul; simp only [wR_ite, wR_ok, wR_stuck, ite_and']
@[simp ↓] theorem wR_oMulL : wR (oMul (.ref a) (.int i) h) E Q = (match h[a]? with | some (.lst xs) => (i ≤ 100000 ∧ -100000 ≤ i ∧ xs.length * i.toNat ≤ lim) ∧ Q (.ref h.length) (h ++ [.lst (repV i.toNat xs)]) | _ => False) := by
  unfold oMul; simp only; split
  · simp only [wR_ite, wR_ok, wR_stuck, ite_and']
    all_goals simp_all
  · simp_all
@[simp ↓] theorem wR_oNeg : wR (oNeg (.int i) h) E Q = Q (.int (-i)) h := rfl
@[simp ↓] theorem wR_oIsN {neg : Bool} : wR (oIsN neg x h) E Q = Q (.bl (match x with | .non => !neg | _ => neg)) h := rfl
@[simp ↓] theorem wR_oEqI {neg : Bool} : wR (oEq neg (.int i) (.int j) h) E Q = Q (.bl (if neg then !(i == j) else i == j)) h := rfl
@[simp ↓] theorem wR_oEqB {neg : Bool} : wR (oEq neg (.bl b) (.bl c) h) E Q = Q (.bl (if neg then !(b == c) else b == c)) h := rfl
@[simp ↓] theorem wR_oEqS {neg : Bool} {m n : Nat} : wR (oEq neg (.str m) (.str n) h) E Q = Q (.bl (if neg then !(m == n) else m == n)) h := rfl
@[simp ↓] theorem wR_oIsB {neg : Bool} : wR (oIsB neg (.bl b) (.bl c) h) E Q = Q (.bl (if neg then !decide (b = c) else decide (b = c))) h := rfl
@[simp ↓] theorem wR_oIsBs {neg b : Bool} {i : Nat} : wR (oIsB neg (.str i) (.bl b) h) E Q = Q (.bl neg) h := rfl
@[simp ↓] theorem wR_oIxT : wR (oIx (.tup xs) (.int i) h) E Q = (match L2.atI xs i with | some v => Q v h | none => False) := by
  unfold oIx; simp only; split <;> simp_all
@[simp ↓] theorem wR_oIxL : wR (oIx (.ref a) (.int i) h) E Q = (match h[a]? with
    | some (.lst xs) => (match L2.atI xs i with | some v => Q v h | none => False)
    | some (.fls xs) => (match L2.atI xs i with | some v => Q v h | none => False)
    | some (.dct d) => (match lookV d (.int i) with | some v => Q v h | none => False)
    | some (.fdc d) => (match lookV d (.int i) with | some v => Q v h | none => False)
    | _ => False) := by
  unfold oIx; simp only [isKey]; split
  · split <;> simp_all
  · split <;> simp_all
  · simp only [if_true]
    split <;> simp_all
  · simp only [if_true]
    split <;> simp_all
  · simp_all
@[simp ↓] theorem wR_oIxM : wR (oIxM (.ref a) y h) E Q = wR (oIx (.ref a) y h) E Q := rfl
@[simp ↓] theorem wR_oSetI : wR (oSet (.ref a) (.int i) x h) E QU = (match h[a]? with
    | some (.lst xs) => (match L2.ixN xs.length i with | some j => QU () (h.set a (.lst (xs.set j x))) | none => False)
    | some (.dct d) => d.length < lim ∧ QU () (h.set a (.dct (putV d (.int i) x)))
    | _ => False) := by
  unfold oSet; simp only [isKey]; split
  · split <;> simp_all
  · simp only [wR_ite, wR_ok, wR_stuck, ite_and']
    all_goals simp_all
  · simp_all
@[simp ↓] theorem wR_getF {f : Nat} : wR (getF f (.ref a) h) E Q = (match h[a]? with | some (.ins _ fs) => (match lookF f fs with | some v => Q v h | none => False) | _ => False) := by
  unfold getF; simp only; split
  · split <;> simp_all
  · simp_all
@[simp ↓] theorem wR_oSetF {d f : Nat} : wR (oSetF d f (.ref a) x h) E QU = (match h[a]? with | some (.ins c fs) => (c = d ∧ fs.length < 1000) ∧ QU () (h.set a (.ins c (setF f x fs))) | _ => False) := by
  unfold oSetF; simp only; split
  · simp only [wR_ite, wR_ok, wR_stuck, ite_and']
    all_goals simp_all
  · simp_all
@[simp ↓] theorem wR_bInt : wR (bInt [.int i] h) E Q = Q (.int i) h := rfl
@[simp ↓] theorem wR_bIntB : wR (bInt [.bl b] h) E Q = Q (.int (if b then 1 else 0)) h := rfl
@[simp ↓] theorem wR_bAbs : wR (bAbs [.int i] h) E Q = Q (.int (if i < 0 then -i else i)) h := rfl
@[simp ↓] theorem wR_bLenT : wR (bLen [.tup xs] h) E Q = Q (.int xs.length) h := rfl
@[simp ↓] theorem wR_bLenL : wR (bLen [.ref a] h) E Q = (match h[a]? with | some (.lst xs) => Q (.int xs.length) h | some (.fls xs) => Q (.int xs.length) h | some (.dct d) => Q (.int d.length) h | _ => False) := by
  unfold bLen; simp only; split <;> simp_all
@[simp ↓] theorem wR_bListT : wR (bList [.tup xs] h) E Q = Q (.ref h.length) (h ++ [.lst xs]) := rfl
@[simp ↓] theorem wR_bListL : wR (bList [.ref a] h) E Q = (match h[a]? with | some (.lst xs) => Q (.ref h.length) (h ++ [.lst xs]) | some (.fls xs) => Q (.ref h.length) (h ++ [.lst xs]) | _ => False) := by
  unfold bList; simp only; split <;> simp_all
@[simp ↓] theorem wR_bTupleT : wR (bTuple [.tup xs] h) E Q = Q (.tup xs) h := rfl
@[simp ↓] theorem wR_bTupleL : wR (bTuple [.ref a] h) E Q = (match h[a]? with | some (.lst xs) => Q (.tup xs) h | some (.fls xs) => Q (.tup xs) h | _ => False) := by
  unfold bTuple; simp only; split <;> simp_all
@[simp ↓] theorem wR_bAppend : wR (bAppend (.ref a) [y] h) E Q = (match h[a]? with | some (.lst xs) => xs.length < lim ∧ Q .non (h.set a (.lst (xs ++ [y]))) | _ => False) := by
  unfold bAppend; simp only; split
  · simp only [wR_ite, wR_ok, wR_stuck, ite_and']
    all_goals simp_all
  · simp_all
end
theorem ixN_cast (n k : Nat) : L2.ixN n (k : Int) = if k < n then some k else none := by
  unfold L2.ixN
  rw [if_pos (by omega)]
  by_cases h : k < n
  · rw [if_pos (by omega), if_pos h]
    simp
  · rw [if_neg (by omega), if_neg h]
theorem atI_cast {α : Type} (xs : List α) (k : Nat) : L2.atI xs (k : Int) = xs[k]? := by
  unfold L2.atI
  rw [ixN_cast]
  split
  · rfl
  · rw [List.getElem?_eq_none (by omega)]
    rfl
theorem atI_nn {α : Type} {xs : List α} {i : Int} (h : 0 ≤ i) : L2.atI xs i = xs[i.toNat]? := by
  obtain ⟨k, rfl⟩ := Int.eq_ofNat_of_zero_le h
  exact atI_cast xs k
theorem ixN_nn {n : Nat} {i : Int} (h : 0 ≤ i) : L2.ixN n i = if i.toNat < n then some i.toNat else none := by
  obtain ⟨k, rfl⟩ := Int.eq_ofNat_of_zero_le h
  exact ixN_cast n k
@[simp] theorem atI_0 {α : Type} (xs : List α) : L2.atI xs 0 = xs[0]? := atI_cast xs 0
@[simp] theorem ixN_0 (n : Nat) : L2.ixN n 0 = if 0 < n then some 0 else none := ixN_cast n 0
@[simp] theorem atI_1 {α : Type} (xs : List α) : L2.atI xs 1 = xs[1]? := atI_cast xs 1
@[simp] theorem ixN_1 (n : Nat) : L2.ixN n 1 = if 1 < n then some 1 else none := ixN_cast n 1
@[simp] theorem atI_2 {α : Type} (xs : List α) : L2.atI xs 2 = xs[2]? := atI_cast xs 2
@[simp] theorem ixN_2 (n : Nat) : L2.ixN n 2 = if 2 < n then some 2 else none := ixN_cast n 2
@[simp] theorem atI_3 {α : Type} (xs : List α) : L2.atI xs 3 = xs[3]? := atI_cast xs 3
@[simp] theorem ixN_3 (n : Nat) : L2.ixN n 3 = if 3 < n then some 3 else none := ixN_cast n 3
@[simp] theorem atI_4 {α : Type} (xs : List α) : L2.atI xs 4 = xs[4]? := atI_cast xs 4
@[simp] theorem ixN_4 (n : Nat) : L2.ixN n 4 = if 4 < n then some 4 else none := ixN_cast n 4
@[simp] theorem atI_5 {α : Type} (xs : List α) : L2.atI xs 5 = xs[5]? := atI_cast xs 5
@[simp] theorem ixN_5 (n : Nat) : L2.ixN n 5 = if 5 < n then some 5 else none := ixN_cast n 5
@[simp] theorem atI_6 {α : Type} (xs : List α) : L2.atI xs 6 = xs[6]? := atI_cast xs 6
@[simp] theorem ixN_6 (n : Nat) : L2.ixN n 6 = if 6 < n then some 6 else none := ixN_cast n 6
@[simp] theorem atI_7 {α : Type} (xs : List α) : L2.atI xs 7 = xs[7]? := atI_cast xs 7
@[simp] theorem ixN_7 (n : Nat) : L2.ixN n 7 = if 7 < n then some 7 else none := ixN_cast n 7
@[simp] theorem atI_8 {α : Type} (xs : List α) : L2.atI xs 8 = xs[8]? := atI_cast xs 8
@[simp] theorem ixN_8 (n : Nat) : L2.ixN n 8 = if 8 < n then some 8 else none := ixN_cast n 8
@[simp] theorem atI_9 {α : Type} (xs : List α) : L2.atI xs 9 = xs[9]? := atI_cast xs 9
@[simp] theorem ixN_9 (n : Nat) : L2.ixN n 9 = if 9 < n then some 9 else none := ixN_cast n 9
/-- what stands at a place -/
theorem at_set {h : Heap} {p : Nat} {o o0 : Obj} (e : h[p]? = some o0) : (h.set p o)[p]? = some o := by
  rw [List.getElem?_set_self (List.getElem?_eq_some_iff.mp e).1]
theorem at_set_ne {h : Heap} {p q : Nat} {o : Obj} (e : p ≠ q) : (h.set p o)[q]? = h[q]? := List.getElem?_set_ne e
theorem at_push {h g : Heap} {p : Nat} {o0 : Obj} (e : h[p]? = some o0) : (h ++ g)[p]? = some o0 := by
  rw [List.getElem?_append_left (List.getElem?_eq_some_iff.mp e).1]
  exact e
/-- a body's run -/
theorem wR_runB {np nl : Nat} {mb : En → Heap → RS} {xs : List Val} {h : Heap} {E : Nat → Heap → Prop} {Q : Val → Heap → Prop} (hl : xs.length = np) :
    wR (runB np nl mb xs h) E Q = wS (mb (xs.map some ++ List.replicate (nl - np) none) h) { nx := fun _ h' => Q .non h', rt := Q, ex := E } := by
  unfold runB
  rw [if_pos hl]
  cases mb (xs.map some ++ List.replicate (nl - np) none) h <;> simp
/-- from the wish to the equation -/
theorem eq_of_wR {α : Type} {x : Res α} {a : α} {h : Heap} (w : wR x (fun _ _ => False) fun b h' => b = a ∧ h' = h) : x = .ok a h := by
  cases x with
  | ok b h' => obtain ⟨rfl, rfl⟩ := w; rfl
  | raised c h' => exact w.elim
  | stuck => exact w.elim
theorem ex_of_wR {α : Type} {x : Res α} {Q : α → Heap → Prop} (w : wR x (fun _ _ => False) Q) : ∃ a h, x = .ok a h ∧ Q a h := by
  cases x with
  | ok b h' => exact ⟨b, h', rfl, w⟩
  | raised c h' => exact w.elim
  | stuck => exact w.elim
/-- a loop by its invariant -/
theorem wS_forM {chk : Heap → Bool} {g : Val → En → Option En} {body : En → Heap → RS} {D : K4} (Inv : Nat → En → Heap → Prop) : ∀ (xs : List Val) (n : Nat) (s : En) (h : Heap), Inv n s h →
    (∀ i x s h, n ≤ i → xs[i - n]? = some x → Inv i s h → chk h = true ∧ ∃ s1, g x s = some s1 ∧ wS (body s1 h) { D with nx := Inv (i + 1), ct := Inv (i + 1), bk := D.nx }) →
    (∀ s h, Inv (n + xs.length) s h → chk h = true ∧ D.nx s h) → wS (forM_ chk g body xs s h) D
  | [], n, s, h, h0, _, hd => by
    unfold forM_
    obtain ⟨c, q⟩ := hd s h h0
    simp [c, q]
  | x :: xs, n, s, h, h0, hs, hd => by
    unfold forM_
    obtain ⟨c, s1, e, w⟩ := hs n x s h (Nat.le_refl _) (by simp) h0
    rw [if_pos c, e]
    have ih := fun s2 h2 q => wS_forM (D := D) Inv xs (n + 1) s2 h2 q (fun i x s h hi hx => hs i x s h (by omega) (by
      have : i - n = (i - (n + 1)) + 1 := by omega
      rw [this]
      simpa using hx)) (fun s h q => hd s h (by
        have : n + (x :: xs).length = n + 1 + xs.length := by simp; omega
        rw [this]
        exact q))
    simp only
    cases eb : body s1 h with
    | nx s2 h2 => rw [eb] at w; exact ih s2 h2 w
    | ct s2 h2 => rw [eb] at w; exact ih s2 h2 w
    | bk s2 h2 => rw [eb] at w; exact w
    | rt v h2 => rw [eb] at w; exact w
    | raised c h2 => rw [eb] at w; exact w
    | stuck => rw [eb] at w; exact w
end PyM
namespace PyM
theorem wRB {np nl : Nat} {mb : En → Heap → RS} {xs : List Val} {h : Heap} {E : Nat → Heap → Prop} {Q : Val → Heap → Prop} (hl : xs.length = np)
    (w : wS (mb (xs.map some ++ List.replicate (nl - np) none) h) { nx := fun _ h' => Q .non h', rt := Q, ex := E }) : wR (runB np nl mb xs h) E Q := by
  rw [wR_runB hl]
  exact w
end PyM
namespace PyM
theorem wS_forM_nil {chk : Heap → Bool} {g : Val → En → Option En} {body : En → Heap → RS} {D : K4} {s : En} {h : Heap} : wS (forM_ chk g body [] s h) D = (chk h = true ∧ D.nx s h) := by
  unfold forM_
  by_cases c : chk h = true <;> simp [c]
theorem wS_forM_cons {chk : Heap → Bool} {g : Val → En → Option En} {body : En → Heap → RS} {D : K4} {s : En} {h : Heap} {x : Val} {xs : List Val} :
    wS (forM_ chk g body (x :: xs) s h) D = (chk h = true ∧ match g x s with
      | some s1 => wS (body s1 h) { D with nx := fun s2 h2 => wS (forM_ chk g body xs s2 h2) D, ct := fun s2 h2 => wS (forM_ chk g body xs s2 h2) D, bk := D.nx }
      | none => False) := by
  rw [forM_]
  by_cases c : chk h = true
  · rw [if_pos c]
    cases e : g x s with
    | none => simp
    | some s1 =>
      simp only [c, true_and]
      cases body s1 h <;> rfl
  · simp [c]
theorem eq_nx {x : RS} {s : En} {h : Heap} (w : wS x { nx := fun s' h' => s' = s ∧ h' = h, rt := fun _ _ => False }) : x = .nx s h := by
  cases x with
  | nx a b => obtain ⟨rfl, rfl⟩ := w; rfl
  | _ => exact w.elim
theorem eq_rt {x : RS} {v : Val} {h : Heap} (w : wS x { nx := fun _ _ => False, rt := fun s' h' => s' = v ∧ h' = h }) : x = .rt v h := by
  cases x with
  | rt a b => obtain ⟨rfl, rfl⟩ := w; rfl
  | _ => exact w.elim
theorem wS_of {x y : RS} {D : K4} (e : x = y) (w : wS y D) : wS x D := by rw [e]; exact w
theorem set_set {h : Heap} {p : Nat} {a b : Obj} : (h.set p a).set p b = h.set p b := List.set_set ..
end PyM
namespace PyM
/-! ### comprehensions -/
theorem wR_lcM {chk : Heap → Bool} {tg : Val → En → Option En} {mt : En → Heap → Res Bool} {me : En → Heap → Res Val} {s0 : En} {n : Nat} {E : Nat → Heap → Prop} {QU : Unit → Heap → Prop} (Inv : Nat → List Val → Heap → Prop) : ∀ (xs : List Val) (k : Nat) (acc : List Val) (h : Heap), Inv k acc h →
    (∀ i x acc h, k ≤ i → xs[i - k]? = some x → Inv i acc h → chk h = true ∧ ∃ s2, tg x s0 = some s2 ∧ wR (mt s2 h) (fun _ _ => False) fun b h1 => if b = true then wR (me s2 h1) (fun _ _ => False) fun y h2 => h2[n]? = some (.lst acc) ∧ acc.length < lim ∧ Inv (i + 1) (acc ++ [y]) (h2.set n (.lst (acc ++ [y]))) else Inv (i + 1) acc h1) →
    (∀ acc h, Inv (k + xs.length) acc h → chk h = true ∧ QU () h) → wR (lcM chk tg mt me s0 n xs h) E QU
  | [], k, acc, h, h0, _, hd => by
    unfold lcM
    obtain ⟨c, q⟩ := hd acc h h0
    simp [c, q]
  | x :: xs, k, acc, h, h0, hs, hd => by
    rw [lcM]
    obtain ⟨c, s2, e, w⟩ := hs k x acc h (Nat.le_refl _) (by simp) h0
    have ih := fun acc h q => wR_lcM (E := E) (QU := QU) Inv xs (k + 1) acc h q (fun i x acc h hi hx => hs i x acc h (by omega) (by
      have : i - k = (i - (k + 1)) + 1 := by omega
      rw [this]
      simpa using hx)) (fun acc h q => hd acc h (by
        have : k + (x :: xs).length = k + 1 + xs.length := by simp; omega
        rw [this]
        exact q))
    rw [if_pos c, e]
    simp only
    cases em : mt s2 h with
    | ok b h1 =>
      rw [em] at w
      simp only [wR_ok] at w
      by_cases hb : b = true
      · subst hb
        rw [if_pos rfl] at w
        simp only [if_true]
        cases ee : me s2 h1 with
        | ok y h2 =>
          rw [ee] at w
          simp only [wR_ok] at w
          obtain ⟨w1, w2, w3⟩ := w
          simp only [w1, w2, if_true]
          exact ih _ _ w3
        | raised a b => rw [ee] at w; exact w.elim
        | stuck => rw [ee] at w; exact w.elim
      · rw [if_neg hb] at w
        simp only [if_neg hb]
        exact ih _ _ w
    | raised a b => rw [em] at w; exact w.elim
    | stuck => rw [em] at w; exact w.elim
@[simp ↓] theorem wR_mLc {mi : MI} {tg : Val → En → Option En} {mt : En → Heap → Res Bool} {me : En → Heap → Res Val} {vs : List Nat} {s : En} {h : Heap} {E : Nat → Heap → Prop} {Q : Val → Heap → Prop} :
    wR (mLc mi tg mt me vs s h) E Q = wR (mi s h) E fun S h1 => wR (lcM S.chk tg mt me (wipeE s vs) h1.length S.items (h1 ++ [.lst []])) E fun _ h2 => Q (.ref h1.length) h2 := by
  unfold mLc
  simp
theorem at_len {h : Heap} {o : Obj} : (h ++ [o])[h.length]? = some o := by simp
theorem set_len {h : Heap} {o o' : Obj} : (h ++ [o]).set h.length o' = h ++ [o'] := by simp
/-- .. where the items leave the heap as it is -/
theorem wR_lcPure {chk : Heap → Bool} {tg : Val → En → Option En} {mt : En → Heap → Res Bool} {me : En → Heap → Res Val} {s0 : En} {E : Nat → Heap → Prop} {QU : Unit → Heap → Prop} {h : Heap} (p : Val → Bool) (f : Val → Val) {xs : List Val} (hl : xs.length < lim)
    (hc : ∀ acc, chk (h ++ [.lst acc]) = true)
    (ht : ∀ x acc, x ∈ xs → ∃ s2, tg x s0 = some s2 ∧ wR (mt s2 (h ++ [.lst acc])) (fun _ _ => False) (fun b h1 => b = p x ∧ h1 = h ++ [.lst acc]) ∧ (p x = true → wR (me s2 (h ++ [.lst acc])) (fun _ _ => False) fun y h2 => y = f x ∧ h2 = h ++ [.lst acc]))
    (q : QU () (h ++ [.lst ((xs.filter p).map f)])) : wR (lcM chk tg mt me s0 h.length xs (h ++ [.lst []])) E QU := by
  refine wR_lcM (fun i acc h' => i ≤ xs.length ∧ acc = ((xs.take i).filter p).map f ∧ h' = h ++ [.lst acc]) xs 0 [] _ ⟨Nat.zero_le _, rfl, rfl⟩ ?_ ?_
  · rintro i x acc h' _ hx ⟨hi, ea, rfl⟩
    simp only [Nat.sub_zero] at hx
    have hlt : i < xs.length := (List.getElem?_eq_some_iff.mp hx).1
    obtain ⟨s2, e, w1, w2⟩ := ht x acc (List.mem_of_getElem? hx)
    refine ⟨hc acc, s2, e, wR_mono w1 ?_⟩
    rintro b h1 ⟨rfl, rfl⟩
    have tk : xs.take (i + 1) = xs.take i ++ [x] := by
      rw [List.take_add_one, hx]
      rfl
    have al : acc.length < lim := by
      rw [ea, List.length_map]
      have := List.length_filter_le p (xs.take i)
      have := List.length_take_le i xs
      omega
    by_cases hp : p x = true
    · rw [if_pos hp]
      refine wR_mono (w2 hp) ?_
      rintro y h2 ⟨rfl, rfl⟩
      refine ⟨at_len, al, hlt, ?_, set_len⟩
      rw [tk, List.filter_append, List.map_append, ← ea]
      simp [hp]
    · rw [if_neg hp]
      refine ⟨hlt, ?_, rfl⟩
      rw [tk, List.filter_append, List.map_append, ← ea]
      simp [hp]
  · rintro acc h' ⟨_, ea, rfl⟩
    refine ⟨hc _, ?_⟩
    rw [ea]
    simpa using q
@[simp ↓] theorem wR_iLst {m : En → Heap → Res Val} {s : En} {h : Heap} {E : Nat → Heap → Prop} {Q : Src → Heap → Prop} : wR (iLst m s h) E Q = wR (m s h) E fun x h1 => (match x with
    | .ref a => (match h1[a]? with | some (.lst xs) => Q ⟨xs, lstIs a xs⟩ h1 | some (.fls xs) => Q ⟨xs, lstIs a xs⟩ h1 | _ => False)
    | _ => False) := by
  unfold iLst
  simp only [wR_bind]
  congr; funext x h1
  split
  · split <;> simp_all
  · simp_all
theorem wR_iAlt {m n : MI} {s : En} {h : Heap} {E : Nat → Heap → Prop} {Q : Src → Heap → Prop} (w : wR (m s h) E Q ∨ (m s h = .stuck ∧ wR (n s h) E Q)) : wR (iAlt m n s h) E Q := by
  unfold iAlt
  rcases w with w | ⟨e, w⟩
  · cases e : m s h with
    | stuck => rw [e] at w; exact w.elim
    | ok a b => rw [e] at w; exact w
    | raised a b => rw [e] at w; exact w
  · rw [e]; exact w
/-- a walked name that holds a list -/
@[simp ↓] theorem wR_iAltV {i : Nat} {s : En} {h : Heap} {E : Nat → Heap → Prop} {Q : Src → Heap → Prop} : wR (iAlt (iLst (mV i)) (iTup_ (mV i)) s h) E Q = (match s[i]? with
    | some (some (.ref a)) => (match h[a]? with | some (.lst xs) => Q ⟨xs, lstIs a xs⟩ h | some (.fls xs) => Q ⟨xs, lstIs a xs⟩ h | _ => False)
    | some (some (.tup xs)) => Q ⟨xs, fun _ => true⟩ h
    | _ => False) := by
  unfold iAlt iLst iTup_ mV
  cases e : s[i]? with
  | none => simp [Res.bind]
  | some o => cases o with
    | none => simp [Res.bind]
    | some x => cases x with
      | ref a =>
        simp only [Res.bind]
        cases e2 : h[a]? with
        | none => simp
        | some o => cases o <;> simp
      | _ => simp [Res.bind]
theorem lstIs_at {a : Nat} {xs : List Val} {h : Heap} (e : h[a]? = some (.lst xs)) : lstIs a xs h = true := by simp [lstIs, e]
@[simp ↓] theorem wR_bAll {a : Nat} {h : Heap} {E : Nat → Heap → Prop} {Q : Val → Heap → Prop} : wR (bAll [.ref a] h) E Q = (match seqOf (.ref a) h with | some ys => (match optAll asBl ys with | some bs => Q (.bl (bs.all id)) h | none => False) | none => False) := by
  first | unfold bAll bSeq | unfold bAny bSeq | unfold bSum bSeq
  simp only
  split
  · split <;> simp_all
  · simp_all
@[simp ↓] theorem wR_bAny {a : Nat} {h : Heap} {E : Nat → Heap → Prop} {Q : Val → Heap → Prop} : wR (bAny [.ref a] h) E Q = (match seqOf (.ref a) h with | some ys => (match optAll asBl ys with | some bs => Q (.bl (bs.any id)) h | none => False) | none => False) := by
  first | unfold bAll bSeq | unfold bAny bSeq | unfold bSum bSeq
  simp only
  split
  · split <;> simp_all
  · simp_all
@[simp ↓] theorem wR_bSum {a : Nat} {h : Heap} {E : Nat → Heap → Prop} {Q : Val → Heap → Prop} : wR (bSum [.ref a] h) E Q = (match seqOf (.ref a) h with | some ys => (match optAll asInt ys with | some bs => Q (.int bs.sum) h | none => False) | none => False) := by
  first | unfold bAll bSeq | unfold bAny bSeq | unfold bSum bSeq
  simp only
  split
  · split <;> simp_all
  · simp_all
theorem optAll_map {α β γ : Type} {f : β → Option γ} {g : α → β} {k : α → γ} (h : ∀ x, f (g x) = some (k x)) : ∀ xs : List α, optAll f (xs.map g) = some (xs.map k)
  | [] => rfl
  | x :: xs => by simp [optAll, h, optAll_map h xs]
theorem seqOf_at {a : Nat} {xs : List Val} {h : Heap} (e : h[a]? = some (.lst xs)) : seqOf (.ref a) h = some xs := by simp [seqOf, e]
end PyM
namespace PyM
theorem wR_lcMap {chk : Heap → Bool} {tg : Val → En → Option En} {me : En → Heap → Res Val} {s0 : En} {E : Nat → Heap → Prop} {QU : Unit → Heap → Prop} {h : Heap} (f : Val → Val) {xs : List Val} (hl : xs.length < lim)
    (hc : ∀ acc, chk (h ++ [.lst acc]) = true)
    (ht : ∀ x acc, x ∈ xs → ∃ s2, tg x s0 = some s2 ∧ wR (me s2 (h ++ [.lst acc])) (fun _ _ => False) fun y h2 => y = f x ∧ h2 = h ++ [.lst acc])
    (q : QU () (h ++ [.lst (xs.map f)])) : wR (lcM chk tg tTrue me s0 h.length xs (h ++ [.lst []])) E QU := by
  refine wR_lcPure (fun _ => true) f hl hc (fun x acc hx => ?_) ?_
  · obtain ⟨s2, e, w⟩ := ht x acc hx
    exact ⟨s2, e, ⟨rfl, rfl⟩, fun _ => w⟩
  · have : xs.filter (fun _ => true) = xs := List.filter_eq_self.mpr (fun _ _ => rfl)
    rw [this]
    exact q
end PyM
namespace PyM
section
variable {E : Nat → Heap → Prop} {Q : Val → Heap → Prop} {h : Heap} {a b : Nat} {lo hi : Option Int} {xs : List Val} {y : Val}
@[simp ↓] theorem wR_oAddL : wR (oAdd (.ref a) (.ref b) h) E Q = (match h[a]?, h[b]? with | some (.lst xs), some (.lst ys) => xs.length + ys.length ≤ lim ∧ Q (.ref h.length) (h ++ [.lst (xs ++ ys)]) | _, _ => False) := by
  unfold oAdd; simp only; split
  · simp only [wR_ite, wR_ok, wR_stuck, ite_and']
    all_goals simp_all
  · simp_all
@[simp ↓] theorem wR_oSlT : wR (oSl (.tup xs) lo hi h) E Q = Q (.tup (cut xs lo hi)) h := rfl
@[simp ↓] theorem wR_oSlL : wR (oSl (.ref a) lo hi h) E Q = (match h[a]? with | some (.lst xs) => Q (.ref h.length) (h ++ [.lst (cut xs lo hi)]) | some (.fls xs) => Q (.ref h.length) (h ++ [.lst (cut xs lo hi)]) | _ => False) := by
  unfold oSl; simp only; split <;> simp_all
@[simp ↓] theorem wR_bCount : wR (bCount (.ref a) [y] h) E Q = (match h[a]? with | some (.lst ys) => (isFlat y = true ∧ ys.all isFlat = true) ∧ Q (.int ((ys.countP fun z => feq z y : Nat) : Int)) h | _ => False) := by
  unfold bCount; simp only; split
  · simp only [wR_ite, wR_ok, wR_stuck, ite_and']
    all_goals simp_all
  · simp_all
end
open PySem L2 in
theorem cut_from {k : Nat} (xs : List Val) : cut xs (some (k : Int)) none = xs.drop k := by
  unfold cut
  rw [HT.sIx_none, HT.sIx_nat]
  by_cases h : k ≤ xs.length
  · rw [Nat.min_eq_left h, List.take_of_length_le (by simp)]
  · rw [Nat.min_eq_right (by omega)]
    simp
    omega
theorem cut_from1 (xs : List Val) : cut xs (some 1) none = xs.drop 1 := cut_from (k := 1) xs
end PyM
namespace PyM
/-! ### == of plain values: no bools, no objects -/
mutual
def Val.d : Val → D
  | .non => .non
  | .bl b => .bl b
  | .int i => .int i
  | .str n => .str n
  | .tup xs => .tup (Val.ds xs)
  | .ref _ => .non
def Val.ds : List Val → List D
  | [] => []
  | x :: xs => x.d :: Val.ds xs
end
def pl : Nat → Val → Bool
  | 0, _ => false
  | n + 1, v => match v with
    | .non => true
    | .int _ => true
    | .str _ => true
    | .tup xs => xs.all (pl n)
    | .bl _ => false
    | .ref _ => false
theorem optAll_ds {f : Val → Option D} : ∀ {xs : List Val}, (∀ x ∈ xs, f x = some x.d) → optAll f xs = some (Val.ds xs)
  | [], _ => rfl
  | x :: xs, h => by
    rw [optAll, h x (by simp), optAll_ds (fun y hy => h y (by simp [hy]))]
    rfl
theorem conv_pl {h : Heap} : ∀ (n : Nat) (x : Val), pl n x = true → conv n h x = some x.d
  | 0, _, e => by simp [pl] at e
  | n + 1, x, e => by
    cases x with
    | tup xs =>
      simp only [pl, List.all_eq_true] at e
      simp only [conv, Val.d]
      rw [optAll_ds (fun y hy => conv_pl n y (e y hy))]
      rfl
    | bl b => simp [pl] at e
    | ref b => simp [pl] at e
    | _ => rfl
mutual
theorem deq_pl : ∀ (x y : Val) (n m : Nat), pl n x = true → pl m y = true → deq x.d y.d = decide (x = y)
  | x, y, 0, _, e, _ => by simp [pl] at e
  | x, y, _, 0, _, e => by simp [pl] at e
  | .tup xs, y, n + 1, m + 1, h1, h2 => by
    cases y with
    | tup ys =>
      simp only [pl] at h1 h2
      simp only [Val.d, deq]
      rw [deqs_pl xs ys n m h1 h2]
      by_cases e : xs = ys <;> simp [e]
    | _ => simp [Val.d, deq]
  | .non, y, n + 1, m + 1, h1, h2 => by cases y <;> simp [Val.d, deq, pl] at h2 ⊢
  | .int i, y, n + 1, m + 1, h1, h2 => by
    cases y with
    | int j => by_cases e : i = j <;> simp [Val.d, deq, e]
    | bl b => simp [pl] at h2
    | _ => simp [Val.d, deq, pl] at h2 ⊢
  | .str i, y, n + 1, m + 1, h1, h2 => by
    cases y with
    | str j => by_cases e : i = j <;> simp [Val.d, deq, e]
    | bl b => simp [pl] at h2
    | _ => simp [Val.d, deq, pl] at h2 ⊢
  | .bl _, y, n + 1, m + 1, h1, h2 => by simp [pl] at h1
  | .ref _, y, n + 1, m + 1, h1, h2 => by simp [pl] at h1
theorem deqs_pl : ∀ (xs ys : List Val) (n m : Nat), xs.all (pl n) = true → ys.all (pl m) = true → deqs (Val.ds xs) (Val.ds ys) = decide (xs = ys)
  | [], [], _, _, _, _ => rfl
  | [], _ :: _, _, _, _, _ => by simp [Val.ds, deqs]
  | _ :: _, [], _, _, _, _ => by simp [Val.ds, deqs]
  | x :: xs, y :: ys, n, m, h1, h2 => by
    rw [List.all_cons, Bool.and_eq_true] at h1 h2
    rw [Val.ds, Val.ds, deqs, deq_pl x y n m h1.1 h2.1, deqs_pl xs ys n m h1.2 h2.2]
    by_cases e : x = y <;> by_cases e2 : xs = ys <;> simp [e, e2]
end
theorem oEq_pl {neg : Bool} {x y : Val} {h : Heap} (hx : pl 60 x = true) (hy : pl 60 y = true) : oEq neg x y h = .ok (.bl (if neg then !decide (x = y) else decide (x = y))) h := by
  unfold oEq
  rw [conv_pl 60 x hx, conv_pl 60 y hy]
  simp only [deq_pl x y 60 60 hx hy]
theorem conv_lst {h : Heap} {a : Nat} {xs : List Val} (ea : h[a]? = some (.lst xs)) (hx : xs.all (pl 59) = true) : conv 60 h (.ref a) = some (.lst (Val.ds xs)) := by
  rw [conv]
  simp only [ea]
  rw [optAll_ds (fun x hx' => conv_pl 59 x (List.all_eq_true.mp hx x hx'))]
  rfl
theorem oEq_lst {neg : Bool} {a b : Nat} {xs ys : List Val} {h : Heap} (ea : h[a]? = some (.lst xs)) (eb : h[b]? = some (.lst ys)) (hx : xs.all (pl 59) = true) (hy : ys.all (pl 59) = true) :
    oEq neg (.ref a) (.ref b) h = .ok (.bl (if neg then !decide (xs = ys) else decide (xs = ys))) h := by
  unfold oEq
  rw [conv_lst ea hx, conv_lst eb hy]
  simp only [deq, deqs_pl xs ys 59 59 hx hy]
end PyM
namespace PyM
def Ext (h h' : Heap) : Prop := ∃ g, h' = h ++ g
theorem Ext.refl (h : Heap) : Ext h h := ⟨[], by simp⟩
theorem Ext.app {h h' : Heap} (e : Ext h h') (g : Heap) : Ext h (h' ++ g) := by
  obtain ⟨k, rfl⟩ := e
  exact ⟨k ++ g, by simp⟩
theorem Ext.set {h h' : Heap} (e : Ext h h') {p : Nat} (hp : h.length ≤ p) (o : Obj) : Ext h (h'.set p o) := by
  obtain ⟨k, rfl⟩ := e
  exact ⟨k.set (p - h.length) o, by rw [List.set_append_right _ _ hp]⟩
theorem Ext.at {h h' : Heap} (e : Ext h h') {p : Nat} {o : Obj} (hp : h[p]? = some o) : h'[p]? = some o := by
  obtain ⟨k, rfl⟩ := e
  exact at_push hp
theorem Ext.trans {a b c : Heap} (x : Ext a b) (y : Ext b c) : Ext a c := by
  obtain ⟨g, rfl⟩ := x
  obtain ⟨k, rfl⟩ := y
  exact ⟨g ++ k, List.append_assoc _ _ _⟩
theorem Ext.le {h h' : Heap} (e : Ext h h') : h.length ≤ h'.length := by
  obtain ⟨k, rfl⟩ := e
  simp
theorem rangeV_length {lo : Int} {n : Nat} : (rangeV lo n).length = n := by simp [rangeV]
/-- a loop over range(n) by its invariant -/
theorem wS_range {g : Val → En → Option En} {body : En → Heap → RS} {D : K4} {n : Nat} {s : En} {h : Heap} (Inv : Nat → En → Heap → Prop) (h0 : Inv 0 s h)
    (hs : ∀ (i : Nat) s h, i < n → Inv i s h → ∃ s1, g (.int (i : Int)) s = some s1 ∧ wS (body s1 h) { D with nx := Inv (i + 1), ct := Inv (i + 1), bk := D.nx })
    (hd : ∀ s h, Inv n s h → D.nx s h) : wS (forM_ (fun _ => true) g body (rangeV 0 n) s h) D := by
  refine wS_forM Inv _ 0 s h h0 (fun i x s h _ hx hi => ⟨rfl, ?_⟩) (fun s h hi => ⟨rfl, hd s h (by rw [Nat.zero_add, rangeV_length] at hi; exact hi)⟩)
  rw [Nat.sub_zero, rangeV_get] at hx
  split at hx
  · rename_i hlt
    cases hx
    rw [Int.zero_add]
    exact hs i s h hlt hi
  · cases hx
end PyM
namespace PyM
theorem lc_at {n : Nat} {h0 h : Heap} {chk : Heap → Bool} {tg : Val → En → Option En} {mt : En → Heap → Res Bool} {me : En → Heap → Res Val} {s0 : En} {E : Nat → Heap → Prop} {QU : Unit → Heap → Prop} {xs : List Val} (hn : n = h.length) (hh : h0 = h ++ [.lst []]) (w : wR (lcM chk tg mt me s0 h.length xs (h ++ [.lst []])) E QU) : wR (lcM chk tg mt me s0 n xs h0) E QU := by
  subst hn hh
  exact w
theorem at_app {h g : Heap} {n : Nat} {o : Obj} (k : Nat) (e : n = h.length + k) (q : g[k]? = some o) : (h ++ g)[n]? = some o := by
  subst e; rw [List.getElem?_append_right (by omega), Nat.add_sub_cancel_left]; exact q
theorem wS_mono {x : RS} {D D' : K4} (w : wS x D) (n : ∀ s h, D.nx s h → D'.nx s h) (r : ∀ v h, D.rt v h → D'.rt v h) (b : ∀ s h, D.bk s h → D'.bk s h) (c : ∀ s h, D.ct s h → D'.ct s h) (e : ∀ k h, D.ex k h → D'.ex k h) : wS x D' := by
  cases x
  · exact n _ _ w
  · exact r _ _ w
  · exact b _ _ w
  · exact c _ _ w
  · exact e _ _ w
  · exact w
end PyM

set_option Elab.async false
set_option linter.all false
set_option autoImplicit false
set_option maxHeartbeats 4000000
/-! frames of heaps, the tape, comprehensions that make room, bits -/
namespace PyM
/-- at most the object p has changed; there may be more objects -/
def Fr (p : Nat) (h h' : Heap) : Prop := h.length ≤ h'.length ∧ ∀ q, q ≠ p → q < h.length → h'[q]? = h[q]?
theorem Fr.refl (p : Nat) (h : Heap) : Fr p h h := ⟨Nat.le_refl _, fun _ _ _ => rfl⟩
theorem Fr.trans {p : Nat} {a b c : Heap} (x : Fr p a b) (y : Fr p b c) : Fr p a c := ⟨Nat.le_trans x.1 y.1, fun q h1 h2 => by rw [y.2 q h1 (Nat.lt_of_lt_of_le h2 x.1), x.2 q h1 h2]⟩
theorem Ext.fr {a b : Heap} (x : Ext a b) (p : Nat) : Fr p a b := by
  obtain ⟨g, rfl⟩ := x
  exact ⟨by simp, fun q _ h2 => List.getElem?_append_left h2⟩
theorem Fr.at {p : Nat} {h h' : Heap} (x : Fr p h h') {q : Nat} {o : Obj} (hq : q ≠ p) (e : h[q]? = some o) : h'[q]? = some o := by
  rw [x.2 q hq (List.getElem?_eq_some_iff.mp e).1]; exact e
theorem Fr.set {p : Nat} {h h' : Heap} (x : Fr p h h') (o : Obj) : Fr p h (h'.set p o) :=
  ⟨by rw [List.length_set]; exact x.1, fun q h1 h2 => by rw [at_set_ne (Ne.symm h1)]; exact x.2 q h1 h2⟩
theorem Fr.push {p : Nat} {h h' : Heap} (x : Fr p h h') (g : Heap) : Fr p h (h' ++ g) := x.trans (Ext.fr ⟨g, rfl⟩ p)
/-- a change of an object that is younger -/
theorem Fr.new {p : Nat} {h h' : Heap} (x : Fr p h h') {q : Nat} (hq : h.length ≤ q) (o : Obj) : Fr p h (h'.set q o) :=
  ⟨by rw [List.length_set]; exact x.1, fun r h1 h2 => by rw [at_set_ne (by omega)]; exact x.2 r h1 h2⟩
theorem at_lt {h : Heap} {q : Nat} {o : Obj} (e : h[q]? = some o) : q < h.length := (List.getElem?_eq_some_iff.mp e).1
/-- the tape of a script -/
def TP (p a : Nat) (ns : List Int) (h : Heap) : Prop := p ≠ a ∧ h[a]? = some (.lst (ns.map Val.int)) ∧ ∃ i r t, 0 ≤ i ∧ h[p]? = some (.lst [.ref a, .int i, .int r, .int t])
theorem TP.ext {p a : Nat} {ns : List Int} {h h' : Heap} (T : TP p a ns h) (x : Ext h h') : TP p a ns h' := by
  obtain ⟨ne, T, i, r, t, i0, e⟩ := T
  exact ⟨ne, x.at T, i, r, t, i0, x.at e⟩
theorem TP.push {p a : Nat} {ns : List Int} {h : Heap} (T : TP p a ns h) (g : Heap) : TP p a ns (h ++ g) := T.ext ⟨g, rfl⟩
theorem TP.fr {p a q : Nat} {ns : List Int} {h h' : Heap} (T : TP p a ns h) (x : Fr q h h') (h1 : p ≠ q) (h2 : a ≠ q) : TP p a ns h' := by
  obtain ⟨ne, T, i, r, t, i0, e⟩ := T
  exact ⟨ne, x.at h2 T, i, r, t, i0, x.at h1 e⟩
theorem TP.set {p a q : Nat} {ns : List Int} {h : Heap} (T : TP p a ns h) (h1 : p ≠ q) (h2 : a ≠ q) (o : Obj) : TP p a ns (h.set q o) := by
  obtain ⟨ne, T, i, r, t, i0, e⟩ := T
  exact ⟨ne, by rw [at_set_ne (Ne.symm h2)]; exact T, i, r, t, i0, by rw [at_set_ne (Ne.symm h1)]; exact e⟩
theorem TP.lt {p a : Nat} {ns : List Int} {h : Heap} (T : TP p a ns h) : p < h.length ∧ a < h.length := by
  obtain ⟨ne, T, i, r, t, i0, e⟩ := T
  exact ⟨at_lt e, at_lt T⟩
def m_next : List Val → Heap → Res Val := runB 2 4
    (sSeq (sAsg (gV 2) (mB oIx (mV 0) (mK (.int 2))))
    (sSeq (sIf (tB_ (mB oGt (mV 2) (mK (.int 0)))) (sSeq (sSub (mV 0) (mK (.int 2)) (mB oFd (mV 2) (mV 1)))
    (sRet (mB oMd (mL bInt (mCons (mV 2) (mNil))) (mV 1)))) (sNx))
    (sSeq (sAsg (gV 3) (mK (.int 0)))
    (sSeq (sIf (tB_ (mB oLt (mB oIx (mV 0) (mK (.int 1))) (mL bLen (mCons (mB oIx (mV 0) (mK (.int 0))) (mNil))))) (sSeq (sAsg (gV 3) (mL bAbs (mCons (mB oIx (mB oIx (mV 0) (mK (.int 0))) (mB oIx (mV 0) (mK (.int 1)))) (mNil))))
    (sSubA (oI fun i j => .int (i + j)) (mV 0) (mK (.int 1)) (mK (.int 1)))) (sNx))
    (sSeq (sIf (tB_ (mB oGe (mV 3) (mB oPw (mK (.int 10)) (mK (.int 18))))) (sSeq (sSub (mV 0) (mK (.int 2)) (mB oFd (mV 3) (mV 1)))
    (sRet (mB oMd (mL bInt (mCons (mV 3) (mNil))) (mV 1)))) (sNx))
    (sSeq (sSub (mV 0) (mK (.int 3)) (mB oMd (mL bInt (mCons (mB oAdd (mB oAdd (mB oMul (mB oIx (mV 0) (mK (.int 3))) (mK (.int 48271))) (mB oMul (mV 3) (mK (.int 69621)))) (mK (.int 11))) (mNil))) (mK (.int 2147483647))))
    (sRet (mB oMd (mL bInt (mCons (mB oFd (mB oMd (mB oMul (mB oIx (mV 0) (mK (.int 3))) (mK (.int 16807))) (mK (.int 2147483647))) (mK (.int 7))) (mNil))) (mV 1)))))))))
theorem TP.next {f : List Val → Heap → Res Val} (hf : f = m_next) {h : Heap} {p a : Nat} {ns : List Int} (T : TP p a ns h) {n : Int} (hn : 0 < n) (hn2 : n < 1073741824) :
    ∃ v h', 0 ≤ v ∧ v < n ∧ f [.ref p, .int n] h = .ok (.int v) h' ∧ TP p a ns h' ∧ Fr p h h' ∧ h'.length = h.length := by
  subst hf
  obtain ⟨ne, ha, i, r, t, hi, hp⟩ := T
  have md : ∀ x : Int, 0 ≤ x % n ∧ x % n < n := fun x => ⟨Int.emod_nonneg _ (by omega), Int.emod_lt_of_pos _ hn⟩
  have mk : ∀ (v i' r' t' : Int), 0 ≤ v → v < n → 0 ≤ i' → ∃ w : Int, 0 ≤ w ∧ w < n ∧ v = w ∧ TP p a ns (h.set p (.lst [.ref a, .int i', .int r', .int t'])) ∧ Fr p h (h.set p (.lst [.ref a, .int i', .int r', .int t'])) ∧ (h.set p (.lst [.ref a, .int i', .int r', .int t'])).length = h.length :=
    fun v i' r' t' v0 vn i0 => ⟨v, v0, vn, rfl, ⟨ne, by rw [at_set_ne ne]; exact ha, i', r', t', i0, at_set hp⟩, (Fr.refl p h).set _, by simp⟩
  have w : wR (m_next [.ref p, .int n] h) (fun _ _ => False) (fun x h' => ∃ w : Int, 0 ≤ w ∧ w < n ∧ x = .int w ∧ TP p a ns h' ∧ Fr p h h' ∧ h'.length = h.length) := by
    unfold m_next
    refine wRB rfl ?_
    have mk' : ∀ (v i' r' t' : Int), 0 ≤ v → v < n → 0 ≤ i' → ∃ w : Int, 0 ≤ w ∧ w < n ∧ Val.int v = .int w ∧ TP p a ns (h.set p (.lst [.ref a, .int i', .int r', .int t'])) ∧ Fr p h (h.set p (.lst [.ref a, .int i', .int r', .int t'])) ∧ (h.set p (.lst [.ref a, .int i', .int r', .int t'])).length = h.length :=
      fun v i' r' t' v0 vn i0 => by obtain ⟨w, a, b, c, d⟩ := mk v i' r' t' v0 vn i0; exact ⟨w, a, b, by rw [c], d⟩
    generalize hQ : (fun (x : Val) (h' : Heap) => ∃ w : Int, 0 ≤ w ∧ w < n ∧ x = .int w ∧ TP p a ns h' ∧ Fr p h h' ∧ h'.length = h.length) = Q
    have mq : ∀ (v i' r' t' : Int), 0 ≤ v → v < n → 0 ≤ i' → Q (.int v) (h.set p (.lst [.ref a, .int i', .int r', .int t'])) := by rw [← hQ]; exact mk'
    by_cases hr : 0 < r
    · simp [hp, ha, hn, hn2, gV, hr, at_set hp]
      exact mq _ _ _ _ (md _).1 (md _).2 hi
    · by_cases hl : i < (ns.length : Int)
      · obtain ⟨z, hz⟩ : ∃ z, ns[i.toNat]? = some z := ⟨_, List.getElem?_eq_getElem (by omega)⟩
        by_cases hc : 1000000000000000000 ≤ (if z < 0 then -z else z)
        · simp [hp, ha, hn, hn2, gV, hr, at_set hp, hl, atI_nn hi, hz, cPow, hc]
          exact mq _ _ _ _ (md _).1 (md _).2 (by omega)
        · simp [hp, ha, hn, hn2, gV, hr, at_set hp, hl, atI_nn hi, hz, cPow, hc]
          exact mq _ _ _ _ (md _).1 (md _).2 (by omega)
      · simp [hp, ha, hn, hn2, gV, hr, at_set hp, hl, cPow]
        exact mq _ _ _ _ (md _).1 (md _).2 (by omega)
  obtain ⟨x, h', e, v, h1, h2, rfl, h3⟩ := ex_of_wR w
  exact ⟨v, h', h1, h2, e, h3⟩
def m_next2 : List Val → Heap → Res Val := runB 2 4
    (sSeq (sAsg (gV 2) (mB oIx (mV 0) (mK (.int 2))))
    (sSeq (sIf (tB_ (mB (oEq false) (mV 2) (mK (.int 0)))) (sSeq (sAsg (gV 3) (mK (.int 0)))
    (sSeq (sIf (tB_ (mB oLt (mB oIx (mV 0) (mK (.int 1))) (mL bLen (mCons (mB oIx (mV 0) (mK (.int 0))) (mNil))))) (sSeq (sAsg (gV 3) (mL bAbs (mCons (mL bInt (mCons (mB oIx (mB oIx (mV 0) (mK (.int 0))) (mB oIx (mV 0) (mK (.int 1)))) (mNil))) (mNil))))
    (sSub (mV 0) (mK (.int 1)) (mB oAdd (mB oIx (mV 0) (mK (.int 1))) (mK (.int 1))))) (sNx))
    (sSeq (sAsg (gV 2) (mV 3))
    (sIf (tB_ (mB oLt (mV 3) (mB oPw (mK (.int 10)) (mK (.int 18))))) (sSeq (sSub (mV 0) (mK (.int 3)) (mB oMd (mL bInt (mCons (mB oAdd (mB oAdd (mB oMul (mB oIx (mV 0) (mK (.int 3))) (mK (.int 69621))) (mB oMul (mV 3) (mK (.int 40692)))) (mK (.int 17))) (mNil))) (mK (.int 2147483647))))
    (sRet (mB oMd (mB oMd (mL bInt (mCons (mB oMul (mB oFd (mB oIx (mV 0) (mK (.int 3))) (mK (.int 5))) (mK (.int 48271))) (mNil))) (mK (.int 2147483647))) (mV 1)))) (sNx))))) (sNx))
    (sSeq (sSub (mV 0) (mK (.int 2)) (mB oFd (mV 2) (mV 1)))
    (sRet (mB oMd (mL bInt (mCons (mV 2) (mNil))) (mV 1))))))
theorem TP.next2 {f : List Val → Heap → Res Val} (hf : f = m_next2) {h : Heap} {p a : Nat} {ns : List Int} (T : TP p a ns h) {n : Int} (hn : 0 < n) (hn2 : n < 1073741824) :
    ∃ v h', 0 ≤ v ∧ v < n ∧ f [.ref p, .int n] h = .ok (.int v) h' ∧ TP p a ns h' ∧ Fr p h h' ∧ h'.length = h.length := by
  subst hf
  obtain ⟨ne, ha, i, r, t, hi, hp⟩ := T
  have md : ∀ x : Int, 0 ≤ x % n ∧ x % n < n := fun x => ⟨Int.emod_nonneg _ (by omega), Int.emod_lt_of_pos _ hn⟩
  have w : wR (m_next2 [.ref p, .int n] h) (fun _ _ => False) (fun x h' => ∃ w : Int, 0 ≤ w ∧ w < n ∧ x = .int w ∧ TP p a ns h' ∧ Fr p h h' ∧ h'.length = h.length) := by
    unfold m_next2
    refine wRB rfl ?_
    have mk' : ∀ (v i' r' t' : Int), 0 ≤ v → v < n → 0 ≤ i' → ∃ w : Int, 0 ≤ w ∧ w < n ∧ Val.int v = .int w ∧ TP p a ns (h.set p (.lst [.ref a, .int i', .int r', .int t'])) ∧ Fr p h (h.set p (.lst [.ref a, .int i', .int r', .int t'])) ∧ (h.set p (.lst [.ref a, .int i', .int r', .int t'])).length = h.length :=
      fun v i' r' t' v0 vn i0 => ⟨v, v0, vn, rfl, ⟨ne, by rw [at_set_ne ne]; exact ha, i', r', t', i0, at_set hp⟩, (Fr.refl p h).set _, by simp⟩
    generalize hQ : (fun (x : Val) (h' : Heap) => ∃ w : Int, 0 ≤ w ∧ w < n ∧ x = .int w ∧ TP p a ns h' ∧ Fr p h h' ∧ h'.length = h.length) = Q
    have mq : ∀ (v i' r' t' : Int), 0 ≤ v → v < n → 0 ≤ i' → Q (.int v) (h.set p (.lst [.ref a, .int i', .int r', .int t'])) := by rw [← hQ]; exact mk'
    by_cases hr : r = 0
    · subst hr
      by_cases hl : i < (ns.length : Int)
      · obtain ⟨z, hz⟩ : ∃ z, ns[i.toNat]? = some z := ⟨_, List.getElem?_eq_getElem (by omega)⟩
        by_cases hc : (if z < 0 then -z else z) < 1000000000000000000
        · simp [hp, ha, hn, hn2, gV, at_set hp, hl, atI_nn hi, hz, cPow, hc]
          exact mq _ _ _ _ (md _).1 (md _).2 (by omega)
        · simp [hp, ha, hn, hn2, gV, at_set hp, hl, atI_nn hi, hz, cPow, hc]
          exact mq _ _ _ _ (md _).1 (md _).2 (by omega)
      · simp [hp, ha, hn, hn2, gV, at_set hp, hl, cPow]
        exact mq _ _ _ _ (md _).1 (md _).2 (by omega)
    · simp [hp, ha, hn, hn2, gV, hr, at_set hp]
      exact mq _ _ _ _ (md _).1 (md _).2 hi
  obtain ⟨x, h', e, v, h1, h2, rfl, h3⟩ := ex_of_wR w
  exact ⟨v, h', h1, h2, e, h3⟩
/-- comprehensions whose items make new objects -/
theorem wR_lcX {chk : Heap → Bool} {tg : Val → En → Option En} {mt : En → Heap → Res Bool} {me : En → Heap → Res Val} {s0 : En} {E : Nat → Heap → Prop} {QU : Unit → Heap → Prop} {h : Heap} (p : Val → Bool) (f : Val → Val) {xs : List Val} (hl : xs.length < lim)
    (hc : ∀ h', Ext h h' → chk h' = true)
    (ht : ∀ x h', x ∈ xs → Ext h h' → ∃ s2, tg x s0 = some s2 ∧ wR (mt s2 h') (fun _ _ => False) (fun b h1 => b = p x ∧ Ext h' h1 ∧ (p x = true → wR (me s2 h1) (fun _ _ => False) fun y h2 => y = f x ∧ Ext h1 h2)))
    (q : ∀ h', Ext h h' → h'[h.length]? = some (.lst ((xs.filter p).map f)) → QU () h') : wR (lcM chk tg mt me s0 h.length xs (h ++ [.lst []])) E QU := by
  refine wR_lcM (fun i acc h' => i ≤ xs.length ∧ acc = ((xs.take i).filter p).map f ∧ Ext h h' ∧ h'[h.length]? = some (.lst acc)) xs 0 [] _ ⟨Nat.zero_le _, rfl, ⟨_, rfl⟩, at_len⟩ ?_ ?_
  · rintro i x acc h' _ hx ⟨hi, ea, ex, el⟩
    simp only [Nat.sub_zero] at hx
    have hlt : i < xs.length := (List.getElem?_eq_some_iff.mp hx).1
    obtain ⟨s2, e, w1⟩ := ht x h' (List.mem_of_getElem? hx) ex
    refine ⟨hc h' ex, s2, e, wR_mono w1 ?_⟩
    rintro b h1 ⟨rfl, x1, w2⟩
    have tk : xs.take (i + 1) = xs.take i ++ [x] := by
      rw [List.take_add_one, hx]
      rfl
    have al : acc.length < lim := by
      rw [ea, List.length_map]
      have := List.length_filter_le p (xs.take i)
      have := List.length_take_le i xs
      omega
    by_cases hp : p x = true
    · rw [if_pos hp]
      refine wR_mono (w2 hp) ?_
      rintro y h2 ⟨rfl, x2⟩
      refine ⟨x2.at (x1.at el), al, hlt, ?_, ((ex.trans x1).trans x2).set (Nat.le_refl _) _, at_set (x2.at (x1.at el))⟩
      rw [tk, List.filter_append, List.map_append, ← ea]
      simp [hp]
    · rw [if_neg hp]
      refine ⟨hlt, ?_, ex.trans x1, x1.at el⟩
      rw [tk, List.filter_append, List.map_append, ← ea]
      simp [hp]
  · rintro acc h' ⟨_, ea, ex, el⟩
    refine ⟨hc _ ex, q h' ex ?_⟩
    rw [el, ea, Nat.zero_add, List.take_length]
theorem wR_lcXm {chk : Heap → Bool} {tg : Val → En → Option En} {me : En → Heap → Res Val} {s0 : En} {E : Nat → Heap → Prop} {QU : Unit → Heap → Prop} {h : Heap} (f : Val → Val) {xs : List Val} (hl : xs.length < lim)
    (hc : ∀ h', Ext h h' → chk h' = true)
    (ht : ∀ x h', x ∈ xs → Ext h h' → ∃ s2, tg x s0 = some s2 ∧ wR (me s2 h') (fun _ _ => False) fun y h2 => y = f x ∧ Ext h' h2)
    (q : ∀ h', Ext h h' → h'[h.length]? = some (.lst (xs.map f)) → QU () h') : wR (lcM chk tg tTrue me s0 h.length xs (h ++ [.lst []])) E QU := by
  refine wR_lcX (fun _ => true) f hl hc (fun x h' hx ex => ?_) ?_
  · obtain ⟨s2, e, w⟩ := ht x h' hx ex
    exact ⟨s2, e, by rw [wR_tTrue]; exact ⟨rfl, Ext.refl _, fun _ => w⟩⟩
  · have : xs.filter (fun _ => true) = xs := List.filter_eq_self.mpr (fun _ _ => rfl)
    rw [this]
    exact q
theorem oEq_self {x : Val} {neg : Bool} {h : Heap} (hx : pl 60 x = true) : oEq neg x x h = .ok (.bl (!neg)) h := by
  rw [oEq_pl hx hx]; cases neg <;> simp
theorem optAll_bl {α : Type} (b : α → Bool) (xs : List α) : optAll asBl (xs.map fun x => Val.bl (b x)) = some (xs.map b) := optAll_map (f := asBl) (g := fun x => Val.bl (b x)) (k := b) (fun _ => rfl) xs
theorem optAll_int {α : Type} (b : α → Int) (xs : List α) : optAll asInt (xs.map fun x => Val.int (b x)) = some (xs.map b) := optAll_map (f := asInt) (g := fun x => Val.int (b x)) (k := b) (fun _ => rfl) xs
/-! bits -/
theorem band (a b : Nat) : PySem.Builtin.bitAnd (a : Int) (b : Int) = ((a &&& b : Nat) : Int) := by
  rw [PyProof.Rows.bitAnd_pp (by omega) (by omega)]; simp
theorem bor (a b : Nat) : PySem.Builtin.bitOr (a : Int) (b : Int) = ((a ||| b : Nat) : Int) := by
  rw [Bits.bitOr_pp (by omega) (by omega)]; simp
theorem bxor (a b : Nat) : PySem.Builtin.bitXor (a : Int) (b : Int) = ((a ^^^ b : Nat) : Int) := by
  rw [Bits.bitXor_pp (by omega) (by omega)]; simp
theorem bit_eq (m b : Nat) : ((m : Int) / 2 ^ b) % 2 = if m.testBit b then 1 else 0 := by
  rw [Nat.testBit_eq_decide_div_mod_eq]
  have e : ((m : Int) / 2 ^ b) % 2 = ((m / 2 ^ b % 2 : Nat) : Int) := by simp
  rw [e]
  have := Nat.mod_two_eq_zero_or_one (m / 2 ^ b)
  rcases this with q | q <;> simp [q]
theorem wS_mono' {x : RS} {D D' : K4} (w : wS x D) (n : ∀ s h, D.nx s h → D'.nx s h) (r : ∀ v h, D.rt v h → D'.rt v h) (b : D.bk = fun _ _ => False) (c : D.ct = fun _ _ => False) (e : D.ex = fun _ _ => False) : wS x D' := by
  refine wS_mono w n r ?_ ?_ ?_
  · rw [b]; exact fun _ _ q => q.elim
  · rw [c]; exact fun _ _ q => q.elim
  · rw [e]; exact fun _ _ q => q.elim
/-- .. the items told by their place -/
theorem wR_lcXi {chk : Heap → Bool} {tg : Val → En → Option En} {me : En → Heap → Res Val} {s0 : En} {E : Nat → Heap → Prop} {QU : Unit → Heap → Prop} {h : Heap} (f : Nat → Val) {xs : List Val} (hl : xs.length < lim)
    (hc : ∀ h', Ext h h' → chk h' = true)
    (ht : ∀ i x h', xs[i]? = some x → Ext h h' → ∃ s2, tg x s0 = some s2 ∧ wR (me s2 h') (fun _ _ => False) fun y h2 => y = f i ∧ Ext h' h2)
    (q : ∀ h', Ext h h' → h'[h.length]? = some (.lst ((List.range xs.length).map f)) → QU () h') : wR (lcM chk tg tTrue me s0 h.length xs (h ++ [.lst []])) E QU := by
  refine wR_lcM (fun i acc h' => i ≤ xs.length ∧ acc = (List.range i).map f ∧ Ext h h' ∧ h'[h.length]? = some (.lst acc)) xs 0 [] _ ⟨Nat.zero_le _, rfl, ⟨_, rfl⟩, at_len⟩ ?_ ?_
  · rintro i x acc h' _ hx ⟨hi, ea, ex, el⟩
    simp only [Nat.sub_zero] at hx
    have hlt : i < xs.length := (List.getElem?_eq_some_iff.mp hx).1
    obtain ⟨s2, e, w1⟩ := ht i x h' hx ex
    refine ⟨hc h' ex, s2, e, ?_⟩
    rw [wR_tTrue, if_pos rfl]
    refine wR_mono w1 ?_
    rintro y h2 ⟨rfl, x2⟩
    have al : acc.length < lim := by
      rw [ea, List.length_map, List.length_range]
      omega
    refine ⟨x2.at el, al, hlt, ?_, (ex.trans x2).set (Nat.le_refl _) _, at_set (x2.at el)⟩
    rw [ea, List.range_succ, List.map_append]
    rfl
  · rintro acc h' ⟨_, ea, ex, el⟩
    refine ⟨hc _ ex, q h' ex ?_⟩
    rw [el, ea, Nat.zero_add]
theorem lookV_put {d : List (Val × Val)} {k v j : Val} : lookV (putV d k v) j = if j = k then some v else lookV d j := by
  unfold putV
  split
  · rename_i h
    induction d with
    | nil => simp at h
    | cons a d ih =>
      obtain ⟨a1, a2⟩ := a
      by_cases e1 : a1 = k
      · subst e1
        by_cases e2 : j = a1
        · subst e2; simp [lookV]
        · have hd : ∀ d : List (Val × Val), List.find? (fun kv => decide (kv.1 = j)) (d.map fun kv => if kv.1 = a1 then (kv.1, v) else kv) = List.find? (fun kv => decide (kv.1 = j)) d := by
            intro d
            induction d with
            | nil => rfl
            | cons b d ih2 =>
              obtain ⟨b1, b2⟩ := b
              by_cases e3 : b1 = a1
              · subst e3
                have hn : ¬ b1 = j := Ne.symm e2
                rw [List.map_cons, if_pos rfl, List.find?_cons, List.find?_cons]
                simp only [hn, decide_false]
                exact ih2
              · by_cases e4 : b1 = j
                · rw [List.map_cons, if_neg e3, List.find?_cons, List.find?_cons]
                  simp only [e4, decide_true]
                · rw [List.map_cons, if_neg e3, List.find?_cons, List.find?_cons]
                  simp only [e4, decide_false]
                  exact ih2
          simp only [lookV]
          rw [hd]
          rw [if_neg e2]
      · have h' : (d.any fun kv => decide (kv.1 = k)) = true := by simpa [e1] using h
        have := ih h'
        by_cases e2 : a1 = j
        · subst e2
          simp [lookV, e1]
        · simp only [lookV, List.map_cons, if_neg e1, List.find?_cons, e2, decide_false] at this ⊢
          exact this
  · rename_i h
    have hn : List.find? (fun kv : Val × Val => decide (kv.1 = k)) d = none := by
      rw [List.find?_eq_none]
      intro x hx hk
      exact h (List.any_eq_true.mpr ⟨x, hx, hk⟩)
    by_cases e2 : j = k
    · subst e2
      simp [lookV, hn]
    · rw [if_neg e2]
      unfold lookV
      rw [List.find?_append]
      simp [Ne.symm e2]
theorem putV_len {d : List (Val × Val)} {k v : Val} : (putV d k v).length ≤ d.length + 1 := by
  unfold putV; split <;> simp
section
variable {E : Nat → Heap → Prop} {Q : Val → Heap → Prop} {h : Heap} {neg : Bool} {x : Val}
@[simp ↓] theorem wR_bMin2 {i j : Int} : wR (bMin2 [.int i, .int j] h) E Q = Q (.int (if j < i then j else i)) h := rfl
@[simp ↓] theorem wR_bMax2 {i j : Int} : wR (bMax2 [.int i, .int j] h) E Q = Q (.int (if j > i then j else i)) h := rfl
theorem oIn_dct {a : Nat} {d : List (Val × Val)} (e : h[a]? = some (.dct d)) (hk : isKey x = true) : oIn neg x (.ref a) h = .ok (.bl (if neg then !(lookV d x).isSome else (lookV d x).isSome)) h := by
  unfold oIn; simp only [e, hk, if_true]
theorem oIn_tup {ys : List Val} (hx : isFlat x = true) (hy : ys.all isFlat = true) : oIn neg x (.tup ys) h = .ok (.bl (if neg then !(ys.any fun z => feq z x) else ys.any fun z => feq z x)) h := by
  unfold oIn; simp only [hx, hy, and_self, if_true]
theorem any_pl (hx : pl 60 x = true) : ∀ ys : List Val, ys.all (pl 59) = true → ((Val.ds ys).any fun z => deq z x.d) = decide (x ∈ ys)
  | [], _ => rfl
  | y :: ys, hy => by
    rw [List.all_cons, Bool.and_eq_true] at hy
    simp only [Val.ds, List.any_cons]
    rw [any_pl hx ys hy.2, deq_pl y x 59 60 hy.1 hx]
    by_cases q : x = y
    · simp [q]
    · simp [q, Ne.symm q]
theorem oIn_pl {a : Nat} {ys : List Val} (e : h[a]? = some (.lst ys)) (hx : pl 60 x = true) (hy : ys.all (pl 59) = true) : oIn neg x (.ref a) h = .ok (.bl (if neg then !decide (x ∈ ys) else decide (x ∈ ys))) h := by
  have e1 : inSeq x h ys = some (decide (x ∈ ys)) := by
    unfold inSeq
    rw [conv_pl 60 x hx, optAll_ds (fun y hy' => conv_pl 59 y (List.all_eq_true.mp hy y hy'))]
    exact congrArg some (any_pl hx ys hy)
  unfold oIn
  simp only [e, e1]
end
theorem cut_both {a b : Nat} (xs : List Val) : cut xs (some (a : Int)) (some (b : Int)) = (xs.take b).drop a := by
  unfold cut
  rw [HT.sIx_nat, HT.sIx_nat, List.drop_take]
  by_cases ha : a ≤ xs.length
  · have e1 : min a xs.length = a := by omega
    rw [e1]
    by_cases hb : b ≤ xs.length
    · rw [show min b xs.length = b by omega]
    · rw [show min b xs.length = xs.length by omega, List.take_of_length_le (by simp), List.take_of_length_le (by simp; omega)]
  · have e1 : min a xs.length = xs.length := by omega
    rw [e1, List.drop_of_length_le (Nat.le_refl _), List.drop_of_length_le (show xs.length ≤ a by omega)]
    simp
theorem cut_to {b : Nat} (xs : List Val) : cut xs none (some (b : Int)) = xs.take b := by
  unfold cut
  rw [HT.sIx_none, HT.sIx_nat]
  by_cases hb : b ≤ xs.length
  · rw [Nat.min_eq_left hb]; simp
  · rw [Nat.min_eq_right (by omega)]
    simp
    rw [List.take_of_length_le (by omega)]
theorem bAll_map {α : Type} {a : Nat} {h : Heap} {xs : List α} {b : α → Bool} (e : h[a]? = some (.lst (xs.map fun x => .bl (b x)))) : bAll [.ref a] h = .ok (.bl (xs.all b)) h := by
  refine eq_of_wR ?_
  rw [wR_bAll]
  simp only [seqOf_at e, optAll_bl]
  simp [List.all_map]
theorem bAny_map {α : Type} {a : Nat} {h : Heap} {xs : List α} {b : α → Bool} (e : h[a]? = some (.lst (xs.map fun x => .bl (b x)))) : bAny [.ref a] h = .ok (.bl (xs.any b)) h := by
  refine eq_of_wR ?_
  rw [wR_bAny]
  simp only [seqOf_at e, optAll_bl]
  simp [List.any_map]
theorem Fr.ext {p : Nat} {h h' : Heap} (x : Fr p h h') (hp : h.length ≤ p) : Ext h h' := by
  refine ⟨h'.drop h.length, ?_⟩
  apply List.ext_getElem?
  intro q
  by_cases hq : q < h.length
  · rw [List.getElem?_append_left hq, x.2 q (by omega) hq]
  · rw [List.getElem?_append_right (by omega), List.getElem?_drop]
    congr 1
    omega
theorem Fr.base {p : Nat} {h h1 h' : Heap} (x : Ext h h1) (y : Fr p h1 h') (hp : h.length ≤ p) : Ext h h' := ((x.fr p).trans y).ext hp
section
variable {E : Nat → Heap → Prop} {Q : Val → Heap → Prop} {h : Heap} {a : Nat} {i : Int}
theorem bPopAt_ok {ys : List Val} (e : h[a]? = some (.lst ys)) (h0 : 0 ≤ i) (h1 : i < ys.length) (h2 : i < 2 ^ 63) {y : Val} (hy : ys[i.toNat]? = some y) : bPopAt (.ref a) [.int i] h = .ok y (h.set a (.lst (ys.eraseIdx i.toNat))) := by
  have e1 : L2.ixN ys.length i = some i.toNat := by rw [ixN_nn h0, if_pos (by omega)]
  have c : -(2 ^ 63) ≤ i ∧ i < 2 ^ 63 := ⟨by omega, h2⟩
  unfold bPopAt
  simp only [e, if_pos c]
  rw [e1]
  simp only [hy]
end
theorem wR_iAltE {m : En → Heap → Res Val} {n : MI} {s : En} {h h1 : Heap} {a : Nat} {xs : List Val} {E : Nat → Heap → Prop} {Q : Src → Heap → Prop} (e : m s h = .ok (.ref a) h1) (el : h1[a]? = some (.lst xs)) (q : Q ⟨xs, lstIs a xs⟩ h1) : wR (iAlt (iLst m) n s h) E Q := by
  refine wR_iAlt (.inl ?_)
  rw [wR_iLst, e]
  simp only [wR_ok, el]
  exact q
end PyM

set_option Elab.async false
set_option linter.all false
set_option autoImplicit false
set_option maxHeartbeats 4000000
/-! frames over lists of places; comprehensions that use the tape -/
namespace PyM
/-- a comprehension whose items use the tape -/
theorem wR_lcT {chk : Heap → Bool} {tg : Val → En → Option En} {me : En → Heap → Res Val} {s0 : En} {E : Nat → Heap → Prop} {QU : Unit → Heap → Prop} {h : Heap} {p a : Nat} {ns : List Int} (T : TP p a ns h) (R : Val → Prop) {xs : List Val} (hl : xs.length < lim)
    (hc : ∀ h', Fr p h h' → chk h' = true)
    (ht : ∀ x h', x ∈ xs → TP p a ns h' → Fr p h h' → ∃ s2, tg x s0 = some s2 ∧ wR (me s2 h') (fun _ _ => False) fun y h2 => R y ∧ TP p a ns h2 ∧ Fr p h' h2)
    (q : ∀ ys h', ys.length = xs.length → (∀ y ∈ ys, R y) → TP p a ns h' → Fr p h h' → h'[h.length]? = some (.lst ys) → QU () h') : wR (lcM chk tg tTrue me s0 h.length xs (h ++ [.lst []])) E QU := by
  have lp := T.lt
  refine wR_lcM (fun i acc h' => i ≤ xs.length ∧ acc.length = i ∧ (∀ y ∈ acc, R y) ∧ TP p a ns h' ∧ Fr p h h' ∧ h'[h.length]? = some (.lst acc)) xs 0 [] _ ⟨Nat.zero_le _, rfl, by simp, T.push _, Ext.fr ⟨_, rfl⟩ p, at_len⟩ ?_ ?_
  · rintro i x acc h' _ hx ⟨hi, ea, hR, T', f', el⟩
    simp only [Nat.sub_zero] at hx
    have hlt : i < xs.length := (List.getElem?_eq_some_iff.mp hx).1
    obtain ⟨s2, e, w1⟩ := ht x h' (List.mem_of_getElem? hx) T' f'
    refine ⟨hc h' f', s2, e, ?_⟩
    rw [wR_tTrue, if_pos rfl]
    refine wR_mono w1 ?_
    rintro y h2 ⟨hy, T2, f2⟩
    have el2 := f2.at (show h.length ≠ p by omega) el
    refine ⟨el2, by omega, hlt, by simp [ea], fun z hz => ?_, T2.set (by omega) (by omega) _, (f'.trans f2).new (Nat.le_refl _) _, at_set el2⟩
    rcases List.mem_append.mp hz with hz | hz
    · exact hR z hz
    · rw [List.mem_singleton.mp hz]; exact hy
  · rintro acc h' ⟨_, ea, hR, T', f', el⟩
    exact ⟨hc _ f', q acc h' (by omega) hR T' f' el⟩
/-- at most the places of S have changed; there may be more objects -/
def Fs (S : List Nat) (h h' : Heap) : Prop := h.length ≤ h'.length ∧ ∀ q, q ∉ S → q < h.length → h'[q]? = h[q]?
theorem Fs.refl (S : List Nat) (h : Heap) : Fs S h h := ⟨Nat.le_refl _, fun _ _ _ => rfl⟩
theorem Fs.trans {S : List Nat} {a b c : Heap} (x : Fs S a b) (y : Fs S b c) : Fs S a c := ⟨Nat.le_trans x.1 y.1, fun q h1 h2 => by rw [y.2 q h1 (Nat.lt_of_lt_of_le h2 x.1), x.2 q h1 h2]⟩
theorem Fs.mono {S S' : List Nat} {a b : Heap} (x : Fs S a b) (s : ∀ q, q ∈ S → q ∈ S') : Fs S' a b := ⟨x.1, fun q h1 h2 => x.2 q (fun m => h1 (s q m)) h2⟩
theorem Ext.fs {a b : Heap} (x : Ext a b) (S : List Nat) : Fs S a b := by
  obtain ⟨g, rfl⟩ := x
  exact ⟨by simp, fun q _ h2 => List.getElem?_append_left h2⟩
theorem Fr.fs {p : Nat} {a b : Heap} (x : Fr p a b) {S : List Nat} (hp : p ∈ S) : Fs S a b := ⟨x.1, fun q h1 h2 => x.2 q (fun e => h1 (e ▸ hp)) h2⟩
theorem Fs.fr {p : Nat} {a b : Heap} (x : Fs [p] a b) : Fr p a b := ⟨x.1, fun q h1 h2 => x.2 q (by simpa using h1) h2⟩
theorem Fs.at {S : List Nat} {h h' : Heap} (x : Fs S h h') {q : Nat} {o : Obj} (hq : q ∉ S) (e : h[q]? = some o) : h'[q]? = some o := by
  rw [x.2 q hq (List.getElem?_eq_some_iff.mp e).1]; exact e
theorem Fs.set {S : List Nat} {h h' : Heap} (x : Fs S h h') {p : Nat} (hp : p ∈ S) (o : Obj) : Fs S h (h'.set p o) :=
  ⟨by rw [List.length_set]; exact x.1, fun q h1 h2 => by rw [at_set_ne (show p ≠ q from fun e => h1 (e ▸ hp))]; exact x.2 q h1 h2⟩
theorem Fs.push {S : List Nat} {h h' : Heap} (x : Fs S h h') (g : Heap) : Fs S h (h' ++ g) := x.trans (Ext.fs ⟨g, rfl⟩ S)
theorem Fs.new {S : List Nat} {h h' : Heap} (x : Fs S h h') {q : Nat} (hq : h.length ≤ q) (o : Obj) : Fs S h (h'.set q o) :=
  ⟨by rw [List.length_set]; exact x.1, fun r h1 h2 => by rw [at_set_ne (by omega)]; exact x.2 r h1 h2⟩
theorem Fs.le {S : List Nat} {h h' : Heap} (x : Fs S h h') : h.length ≤ h'.length := x.1
theorem TP.fs {p a : Nat} {S : List Nat} {ns : List Int} {h h' : Heap} (T : TP p a ns h) (x : Fs S h h') (h1 : p ∉ S) (h2 : a ∉ S) : TP p a ns h' := by
  obtain ⟨ne, T, i, r, t, i0, e⟩ := T
  exact ⟨ne, x.at h2 T, i, r, t, i0, x.at h1 e⟩
/-- frames over younger places close -/
theorem Fs.base {S : List Nat} {h h1 h' : Heap} (x : Ext h h1) (y : Fs S h1 h') (hS : ∀ q, q ∈ S → h.length ≤ q) : Ext h h' := by
  have z := (x.fs S).trans y
  refine ⟨h'.drop h.length, ?_⟩
  apply List.ext_getElem?
  intro q
  by_cases hq : q < h.length
  · rw [List.getElem?_append_left hq, z.2 q (fun m => by have := hS q m; omega) hq]
  · rw [List.getElem?_append_right (by omega), List.getElem?_drop]
    congr 1
    omega
theorem raised_of_wR {α : Type} {x : Res α} {P : Nat → Heap → Prop} (w : wR x P (fun _ _ => False)) : ∃ c h, x = .raised c h ∧ P c h := by
  cases x with
  | raised c h => exact ⟨c, h, rfl, w⟩
  | ok a h => exact w.elim
  | stuck => exact w.elim
@[simp ↓] theorem wR_iTup {m : En → Heap → Res Val} {s : En} {h : Heap} {E : Nat → Heap → Prop} {Q : Src → Heap → Prop} : wR (iTup_ m s h) E Q = wR (m s h) E fun x h1 => (match x with
    | .tup xs => Q ⟨xs, fun _ => true⟩ h1
    | _ => False) := by
  unfold iTup_
  simp only [wR_bind]
  congr; funext x h1
  split <;> simp_all
@[simp ↓] theorem wR_mAlt {a b : En → Heap → Res Val} {s : En} {h : Heap} {E : Nat → Heap → Prop} {Q : Val → Heap → Prop} : wR (mAlt a b s h) E Q = (match a s h with | .stuck => wR (b s h) E Q | x => wR x E Q) := by
  unfold mAlt
  cases a s h <;> rfl
theorem fix_pl {x : Val} (hx : pl 60 x = true) : ∀ {ys : List Val}, ys.all (pl 59) = true → x ∈ ys → fix x.d (Val.ds ys) = some (ys.idxOf x)
  | [], _, hm => by cases hm
  | y :: ys, hy, hm => by
    rw [List.all_cons, Bool.and_eq_true] at hy
    simp only [Val.ds, fix]
    rw [deq_pl y x 59 60 hy.1 hx]
    by_cases e : y = x
    · subst e; simp
    · have e' : ¬ (y == x) = true := by simpa using e
      rw [List.idxOf_cons, if_neg (by simpa using e)]
      have hm' : x ∈ ys := by
        rcases List.mem_cons.mp hm with q | q
        · exact absurd q.symm e
        · exact q
      simp only [fix_pl hx hy.2 hm', beq_eq_false_iff_ne.mpr e]
      rfl
theorem bIndex_pl {x : Val} {ys : List Val} {h : Heap} {a : Nat} (ea : h[a]? = some (.lst ys)) (hx : pl 60 x = true) (hy : ys.all (pl 59) = true) (hm : x ∈ ys) : bIndex (.ref a) [x] h = .ok (.int (ys.idxOf x : Nat)) h := by
  unfold bIndex
  simp only [ea]
  rw [conv_pl 60 x hx, optAll_ds (fun y hy' => conv_pl 59 y (List.all_eq_true.mp hy y hy'))]
  simp only [fix_pl hx hy hm]
end PyM
namespace PyM
section
variable {E : Nat → Heap → Prop} {Q : Val → Heap → Prop} {h : Heap} {D : K4} {s : En}
@[simp ↓] theorem wR_kIn {neg : Bool} {l : List (Nat × Val)} {n : Nat} : wR (kIn neg l (.str n) h) E Q = Q (.bl (if neg then !(lkN l n).isSome else (lkN l n).isSome)) h := rfl
@[simp ↓] theorem wR_kIx {l : List (Nat × Val)} {n : Nat} : wR (kIx l (.str n) h) E Q = (match lkN l n with | some v => Q v h | none => False) := by
  unfold kIx; simp only; split <;> simp_all
@[simp ↓] theorem wR_kGet {l : List (Nat × Val)} {n : Nat} {y : Val} : wR (kGet l (.str n) y h) E Q = Q ((lkN l n).getD y) h := rfl
@[simp ↓] theorem wR_oIxS {tbl : List (Nat × List Nat)} {n : Nat} {i : Int} : wR (oIxS tbl (.str n) (.int i) h) E Q = (match lkS tbl n with | some l => (match L2.atI l i with | some c => Q (.str c) h | none => False) | none => False) := by
  unfold oIxS; simp only; split
  · split <;> simp_all
  · simp_all
@[simp ↓] theorem wR_bLenS {tbl : List (Nat × List Nat)} {n : Nat} : wR (bLenS tbl [.str n] h) E Q = (match lkS tbl n with | some l => Q (.int l.length) h | none => False) := by
  unfold bLenS; simp only; split <;> simp_all
@[simp ↓] theorem wS_sPar2 {i j : Nat} {mA : En → Heap → Res (List Val)} : wS (sPar2 i j mA s h) D = wR (mA s h) D.ex fun xs h1 => (match xs with | [x, y] => D.nx ((s.set i (some x)).set j (some y)) h1 | _ => False) := by
  unfold sPar2; simp only [wS_thenS]; congr; funext xs h1; split <;> simp_all
@[simp ↓] theorem wS_sPar3 {i j l : Nat} {mA : En → Heap → Res (List Val)} : wS (sPar3 i j l mA s h) D = wR (mA s h) D.ex fun xs h1 => (match xs with | [x, y, z] => D.nx (((s.set i (some x)).set j (some y)).set l (some z)) h1 | _ => False) := by
  unfold sPar3; simp only [wS_thenS]; congr; funext xs h1; split <;> simp_all
end
mutual
theorem deq_refl : ∀ d : D, deq d d = true
  | .non => by simp [deq]
  | .bl b => by simp [deq]
  | .int i => by simp [deq]
  | .str n => by simp [deq]
  | .tup xs => by simp only [deq]; exact deqs_refl xs
  | .lst xs => by simp only [deq]; exact deqs_refl xs
theorem deqs_refl : ∀ ds : List D, deqs ds ds = true
  | [] => by simp [deqs]
  | d :: ds => by simp [deqs, deq_refl d, deqs_refl ds]
end
theorem oEq_conv {x y : Val} {h : Heap} {neg : Bool} {d : D} (hx : conv 60 h x = some d) (hy : conv 60 h y = some d) : oEq neg x y h = .ok (.bl (!neg)) h := by
  unfold oEq
  rw [hx, hy]
  simp only [deq_refl]
  cases neg <;> rfl
theorem pl_up {x : Val} : ∀ {n m : Nat}, n ≤ m → pl n x = true → pl m x = true := by
  intro n
  induction n generalizing x with
  | zero => intro m _ e; simp [pl] at e
  | succ n ih =>
    intro m hm e
    obtain ⟨m, rfl⟩ : ∃ k, m = k + 1 := ⟨m - 1, by omega⟩
    cases x with
    | tup xs =>
      simp only [pl, List.all_eq_true] at e ⊢
      exact fun y hy => ih (by omega) (e y hy)
    | bl b => simp [pl] at e
    | ref b => simp [pl] at e
    | _ => rfl
theorem pl_tup {n : Nat} {xs : List Val} (h : ∀ x ∈ xs, pl n x = true) : pl (n + 1) (.tup xs) = true := by
  show xs.all (pl n) = true
  exact List.all_eq_true.mpr h
end PyM

set_option Elab.async false
set_option linter.all false
set_option autoImplicit false
set_option maxHeartbeats 4000000
/-! heaps as lists of places and what stands there, with a frame; wishes for the rules of dicts -/
namespace PyM
abbrev Nodes := List (Nat × Obj)
structure On (l : Nodes) (h : Heap) : Prop where
  nd : (l.map (·.1)).Nodup
  at_ : ∀ p ∈ l, h[p.1]? = some p.2
theorem On.get {l : Nodes} {h : Heap} (o : On l h) {i a : Nat} {x : Obj} (e : l[i]? = some (a, x)) : h[a]? = some x := o.at_ _ (List.mem_of_getElem? e)
theorem On.ext {l : Nodes} {h h' : Heap} (o : On l h) (x : Ext h h') : On l h' := ⟨o.nd, fun p hp => x.at (o.at_ p hp)⟩
theorem On.perm {l l' : Nodes} {h : Heap} (o : On l h) (p : l.Perm l') : On l' h := ⟨(p.map _).nodup_iff.mp o.nd, fun q hq => o.at_ q (p.mem_iff.mpr hq)⟩
theorem On.sub {l l' : Nodes} {h : Heap} (o : On (l ++ l') h) : On l h := ⟨by
  have := o.nd
  rw [List.map_append] at this
  exact (List.nodup_append.mp this).1, fun q hq => o.at_ q (List.mem_append_left _ hq)⟩
theorem On.sub2 {l l' : Nodes} {h : Heap} (o : On (l ++ l') h) : On l' h := (o.perm List.perm_append_comm).sub
theorem On.drop1 {p : Nat × Obj} {l : Nodes} {h : Heap} (o : On (p :: l) h) : On l h := On.sub2 (l := [p]) o
theorem On.lt {l : Nodes} {h : Heap} (o : On l h) {p : Nat × Obj} (hp : p ∈ l) : p.1 < h.length := at_lt (o.at_ p hp)
theorem On.ne {l : Nodes} {h : Heap} (o : On l h) {i j a b : Nat} {x y : Obj} (ei : l[i]? = some (a, x)) (ej : l[j]? = some (b, y)) (hij : i ≠ j) : a ≠ b := fun e => by
  subst e
  have h1 : (l.map (·.1))[i]? = some a := by rw [List.getElem?_map, ei]; rfl
  have h2 : (l.map (·.1))[j]? = some a := by rw [List.getElem?_map, ej]; rfl
  obtain ⟨l1, e1⟩ := List.getElem?_eq_some_iff.mp h1
  obtain ⟨l2, e2⟩ := List.getElem?_eq_some_iff.mp h2
  exact hij ((List.getElem_inj o.nd).mp (e1.trans e2.symm))
/-- one place is written -/
theorem On.set {l : Nodes} {h : Heap} (o : On l h) {i a : Nat} {x : Obj} (e : l[i]? = some (a, x)) (y : Obj) : On (l.set i (a, y)) (h.set a y) := by
  refine ⟨?_, fun p hp => ?_⟩
  · have : (l.set i (a, y)).map (·.1) = l.map (·.1) := by
      apply List.ext_getElem?
      intro j
      rw [List.getElem?_map, List.getElem?_map, List.getElem?_set]
      split
      · rename_i hj
        subst hj
        split
        · rw [e]; rfl
        · rename_i hl
          rw [List.getElem?_eq_none (by omega)]
      · rfl
    rw [this]
    exact o.nd
  · obtain ⟨j, hj⟩ := List.mem_iff_getElem?.mp hp
    rw [List.getElem?_set] at hj
    split at hj
    · split at hj
      · cases hj
        exact at_set (o.get e)
      · cases hj
    · rename_i hij
      obtain ⟨b, z⟩ := p
      show (h.set a y)[b]? = some z
      rw [at_set_ne (o.ne e hj hij)]
      exact o.get hj
theorem nodup_set {α : Type} : ∀ {l : List α} {x : α}, l.Nodup → x ∉ l → ∀ i, (l.set i x).Nodup
  | [], _, _, _, _ => by simp
  | y :: l, x, n, hx, 0 => by
    rw [List.set_cons_zero, List.nodup_cons]
    exact ⟨fun h => hx (List.mem_cons_of_mem _ h), (List.nodup_cons.mp n).2⟩
  | y :: l, x, n, hx, i + 1 => by
    rw [List.set_cons_succ, List.nodup_cons]
    have n' := List.nodup_cons.mp n
    refine ⟨fun h => ?_, nodup_set n'.2 (fun h => hx (List.mem_cons_of_mem _ h)) i⟩
    rcases List.mem_or_eq_of_mem_set h with h | h
    · exact n'.1 h
    · exact hx (by rw [← h]; exact List.mem_cons_self)
/-- another place in the stead of one -/
theorem On.repl {l : Nodes} {h : Heap} (o : On l h) {i a a' : Nat} {x y : Obj} (e : l[i]? = some (a, x)) (ea : h[a']? = some y) (hn : ∀ p ∈ l, p.1 ≠ a') : On (l.set i (a', y)) h := by
  refine ⟨?_, fun p hp => ?_⟩
  · rw [List.map_set]
    have hm : a' ∉ l.map (·.1) := fun hm => by
      obtain ⟨p, hp, q⟩ := List.mem_map.mp hm
      exact hn p hp q
    exact nodup_set o.nd hm _
  · rcases List.mem_or_eq_of_mem_set hp with hp | rfl
    · exact o.at_ p hp
    · exact ea
/-- a new place -/
theorem On.new {l : Nodes} {h : Heap} (o : On l h) (x : Obj) : On ((h.length, x) :: l) (h ++ [x]) := by
  refine ⟨?_, fun p hp => ?_⟩
  · rw [List.map_cons, List.nodup_cons]
    refine ⟨fun hm => ?_, o.nd⟩
    obtain ⟨p, hp, e⟩ := List.mem_map.mp hm
    have := o.lt hp
    have e' : p.1 = h.length := e
    omega
  · rcases List.mem_cons.mp hp with rfl | hp
    · exact at_len
    · exact at_push (o.at_ p hp)
theorem On.newAt {l : Nodes} {h h0 : Heap} (o : On l h) {a : Nat} {x : Obj} (ea : h[a]? = some x) (hl : ∀ p ∈ l, p.1 < h0.length) (ha : h0.length ≤ a) : On ((a, x) :: l) h := by
  refine ⟨?_, fun p hp => ?_⟩
  · rw [List.map_cons, List.nodup_cons]
    refine ⟨fun hm => ?_, o.nd⟩
    obtain ⟨p, hp, e⟩ := List.mem_map.mp hm
    have := hl p hp
    have e' : p.1 = a := e
    omega
  · rcases List.mem_cons.mp hp with rfl | hp
    · exact ea
    · exact o.at_ p hp
/-- with the tape -/
structure Tn (p a : Nat) (ns : List Int) (l : Nodes) (h : Heap) : Prop where
  k : ∃ i r t, 0 ≤ i ∧ On ((p, .lst [.ref a, .int i, .int r, .int t]) :: (a, .lst (ns.map Val.int)) :: l) h
theorem Tn.on {p a : Nat} {ns : List Int} {l : Nodes} {h : Heap} (T : Tn p a ns l h) : On l h := by
  obtain ⟨i, r, t, _, o⟩ := T.k
  exact o.drop1.drop1
theorem Tn.ext {p a : Nat} {ns : List Int} {l : Nodes} {h h' : Heap} (T : Tn p a ns l h) (x : Ext h h') : Tn p a ns l h' := by
  obtain ⟨i, r, t, i0, o⟩ := T.k
  exact ⟨i, r, t, i0, o.ext x⟩
theorem Tn.perm {p a : Nat} {ns : List Int} {l l' : Nodes} {h : Heap} (T : Tn p a ns l h) (q : l.Perm l') : Tn p a ns l' h := by
  obtain ⟨i, r, t, i0, o⟩ := T.k
  exact ⟨i, r, t, i0, o.perm ((q.cons _).cons _)⟩
theorem Tn.tp {p a : Nat} {ns : List Int} {l : Nodes} {h : Heap} (T : Tn p a ns l h) : TP p a ns h := by
  obtain ⟨i, r, t, i0, o⟩ := T.k
  exact ⟨o.ne (i := 0) (j := 1) rfl rfl (by decide), o.get (i := 1) rfl, i, r, t, i0, o.get (i := 0) rfl⟩
theorem Tn.nep {p a : Nat} {ns : List Int} {l : Nodes} {h : Heap} (T : Tn p a ns l h) {q : Nat × Obj} (hq : q ∈ l) : q.1 ≠ p ∧ q.1 ≠ a := by
  obtain ⟨i, r, t, i0, o⟩ := T.k
  obtain ⟨j, hj⟩ := List.mem_iff_getElem?.mp hq
  obtain ⟨b, z⟩ := q
  exact ⟨o.ne (i := j + 2) (j := 0) (by simpa using hj) rfl (by omega), o.ne (i := j + 2) (j := 1) (by simpa using hj) rfl (by omega)⟩
theorem Tn.of {p a : Nat} {ns : List Int} {l : Nodes} {h : Heap} (T : TP p a ns h) (o : On l h) (n : ∀ q ∈ l, q.1 ≠ p ∧ q.1 ≠ a) : Tn p a ns l h := by
  obtain ⟨ne, ha, i, r, t, i0, hp⟩ := T
  refine ⟨i, r, t, i0, ?_, fun q hq => ?_⟩
  · rw [List.map_cons, List.map_cons, List.nodup_cons, List.nodup_cons]
    refine ⟨fun hm => ?_, fun hm => ?_, o.nd⟩
    · rcases List.mem_cons.mp hm with e | hm
      · exact ne e
      · obtain ⟨q, hq, e⟩ := List.mem_map.mp hm
        exact (n q hq).1 e
    · obtain ⟨q, hq, e⟩ := List.mem_map.mp hm
      exact (n q hq).2 e
  · rcases List.mem_cons.mp hq with rfl | hq
    · exact hp
    · rcases List.mem_cons.mp hq with rfl | hq
      · exact ha
      · exact o.at_ q hq
/-- what changes the places of A alone, under any frame -/
theorem Tn.op {p a : Nat} {ns : List Int} {A R : Nodes} {h : Heap} {α : Type} {P : α → Heap → Prop} {A' : α → Nodes} (T : Tn p a ns (A ++ R) h) (f : ∀ R, On (A ++ R) h → ∃ x h', P x h' ∧ On (A' x ++ R) h') : ∃ x h', P x h' ∧ Tn p a ns (A' x ++ R) h' := by
  obtain ⟨i, r, t, i0, o⟩ := T.k
  have pm : ∀ B : Nodes, ((p, Obj.lst [.ref a, .int i, .int r, .int t]) :: (a, .lst (ns.map Val.int)) :: (B ++ R)).Perm (B ++ ((p, .lst [.ref a, .int i, .int r, .int t]) :: (a, .lst (ns.map Val.int)) :: R)) := fun B =>
    (List.perm_append_comm_assoc [(p, Obj.lst [.ref a, .int i, .int r, .int t]), (a, .lst (ns.map Val.int))] B R)
  obtain ⟨x, h', q1, q2⟩ := f _ (o.perm (pm A))
  exact ⟨x, h', q1, i, r, t, i0, q2.perm (pm (A' x)).symm⟩
theorem Tn.nx {p a : Nat} {ns : List Int} {l : Nodes} {h h' : Heap} (T : Tn p a ns l h) (T' : TP p a ns h') (f : Fr p h h') : Tn p a ns l h' :=
  .of T' ⟨T.on.nd, fun q hq => f.at (T.nep hq).1 (T.on.at_ q hq)⟩ fun q hq => T.nep hq
theorem Tn.next {f : List Val → Heap → Res Val} (hf : f = m_next) {h : Heap} {p a : Nat} {ns : List Int} {l : Nodes} (T : Tn p a ns l h) {n : Int} (hn : 0 < n) (hn2 : n < 1073741824) :
    ∃ v h', 0 ≤ v ∧ v < n ∧ f [.ref p, .int n] h = .ok (.int v) h' ∧ Tn p a ns l h' := by
  obtain ⟨v, h', v0, v1, e, T', fr, _⟩ := T.tp.next hf hn hn2
  exact ⟨v, h', v0, v1, e, T.nx T' fr⟩
theorem Tn.next2 {f : List Val → Heap → Res Val} (hf : f = m_next2) {h : Heap} {p a : Nat} {ns : List Int} {l : Nodes} (T : Tn p a ns l h) {n : Int} (hn : 0 < n) (hn2 : n < 1073741824) :
    ∃ v h', 0 ≤ v ∧ v < n ∧ f [.ref p, .int n] h = .ok (.int v) h' ∧ Tn p a ns l h' := by
  obtain ⟨v, h', v0, v1, e, T', fr, _⟩ := T.tp.next2 hf hn hn2
  exact ⟨v, h', v0, v1, e, T.nx T' fr⟩
/-! wishes -/
section
variable {E : Nat → Heap → Prop} {Q : Val → Heap → Prop} {QU : Unit → Heap → Prop} {h : Heap} {D : K4} {s : En} {a : Nat} {x y z : Val} {ks : List Val} {mo my mz me : En → Heap → Res Val} {mk : En → Heap → Res (List Val)}
@[simp ↓] theorem wR_mDctT : wR (mDctT s h) E Q = Q (.ref h.length) (h ++ [.dcT []]) := rfl
@[simp ↓] theorem wR_mGet1 : wR (mGet1 mo my s h) E Q = wR (mo s h) E fun o h1 => isD o h1 = true ∧ wR (my s h1) E fun y h2 => wR (dGet o y .non h2) E Q := by
  unfold mGet1; simp only [wR_bind]; congr; funext o h1; split <;> simp_all
@[simp ↓] theorem wR_mGet2 : wR (mGet2 mo my mz s h) E Q = wR (mo s h) E fun o h1 => isD o h1 = true ∧ wR (my s h1) E fun y h2 => wR (mz s h2) E fun z h3 => wR (dGet o y z h3) E Q := by
  unfold mGet2; simp only [wR_bind]; congr; funext o h1; split <;> simp_all
@[simp ↓] theorem wR_mPop1 : wR (mPop1 mo my s h) E Q = wR (mo s h) E fun o h1 => isD o h1 = true ∧ wR (my s h1) E fun y h2 => wR (dPop1 o y h2) E Q := by
  unfold mPop1; simp only [wR_bind]; congr; funext o h1; split <;> simp_all
@[simp ↓] theorem wR_mPop2 : wR (mPop2 mo my mz s h) E Q = wR (mo s h) E fun o h1 => isD o h1 = true ∧ wR (my s h1) E fun y h2 => wR (mz s h2) E fun z h3 => wR (dPop2 o y z h3) E Q := by
  unfold mPop2; simp only [wR_bind]; congr; funext o h1; split <;> simp_all
@[simp ↓] theorem wR_mIxT : wR (mIxT mo mk s h) E Q = wR (mo s h) E fun o h1 => wR (mk s h1) E fun ks h2 => wR (tIx o ks h2) E Q := by unfold mIxT; simp
@[simp ↓] theorem wR_mInT {neg : Bool} : wR (mInT neg mk mo s h) E Q = wR (mk s h) E fun ks h1 => ks.length ≤ 1000 ∧ wR (mo s h1) E fun o h2 => wR (tIn neg ks o h2) E Q := by
  unfold mInT; simp only [wR_bind]; congr; funext o h1; split <;> (simp_all <;> (intros; omega))
@[simp ↓] theorem wR_mGetT1 : wR (mGetT1 mo mk s h) E Q = wR (mo s h) E fun o h1 => isD o h1 = true ∧ wR (mk s h1) E fun ks h2 => wR (tGet o ks .non h2) E Q := by
  unfold mGetT1; simp only [wR_bind]; congr; funext o h1; split <;> simp_all
@[simp ↓] theorem wR_mGetT2 : wR (mGetT2 mo mk mz s h) E Q = wR (mo s h) E fun o h1 => isD o h1 = true ∧ wR (mk s h1) E fun ks h2 => ks.length ≤ 1000 ∧ wR (mz s h2) E fun z h3 => wR (tGet o ks z h3) E Q := by
  unfold mGetT2; simp only [wR_bind]; congr; funext o h1; split
  · simp only [wR_bind, *, true_and]; congr; funext ks h2; split <;> (simp_all <;> (intros; omega))
  · simp_all
@[simp ↓] theorem wR_mPopT1 : wR (mPopT1 mo mk s h) E Q = wR (mo s h) E fun o h1 => isD o h1 = true ∧ wR (mk s h1) E fun ks h2 => wR (tPop1 o ks h2) E Q := by
  unfold mPopT1; simp only [wR_bind]; congr; funext o h1; split <;> simp_all
@[simp ↓] theorem wR_mPopT2 : wR (mPopT2 mo mk mz s h) E Q = wR (mo s h) E fun o h1 => isD o h1 = true ∧ wR (mk s h1) E fun ks h2 => ks.length ≤ 1000 ∧ wR (mz s h2) E fun z h3 => wR (tPop2 o ks z h3) E Q := by
  unfold mPopT2; simp only [wR_bind]; congr; funext o h1; split
  · simp only [wR_bind, *, true_and]; congr; funext ks h2; split <;> (simp_all <;> (intros; omega))
  · simp_all
@[simp ↓] theorem wS_sSubT : wS (sSubT mo mk me s h) D = wR (me s h) D.ex fun v h1 => wR (mo s h1) D.ex fun o h2 => wR (mk s h2) D.ex fun ks h3 => wR (tSet o ks v h3) D.ex fun _ h4 => D.nx s h4 := by unfold sSubT; simp
theorem isD_dct {d : List (Val × Val)} (e : h[a]? = some (.dct d)) : isD (.ref a) h = true := by simp [isD, e]
theorem isD_dcT {d : List (Val × Val)} (e : h[a]? = some (.dcT d)) : isD (.ref a) h = true := by simp [isD, e]
theorem dGet_at {d : List (Val × Val)} (e : h[a]? = some (.dct d)) (hk : isKey y = true) : dGet (.ref a) y z h = .ok ((lookV d y).getD z) h := by simp [dGet, e, hk]
theorem dPop1_at {d : List (Val × Val)} (e : h[a]? = some (.dct d)) (hk : isKey y = true) (hy : lookV d y = some x) : dPop1 (.ref a) y h = .ok x (h.set a (.dct (dropV d y))) := by simp [dPop1, e, hk, hy]
theorem tLook_at {d : List (Val × Val)} (e : h[a]? = some (.dcT d)) (hk : keysOk ks = true) : tLook (.ref a) ks h = some (lookV d (.tup ks)) := by simp [tLook, e, hk]
theorem tIx_at {d : List (Val × Val)} (e : h[a]? = some (.dcT d)) (hk : keysOk ks = true) (hy : lookV d (.tup ks) = some x) : tIx (.ref a) ks h = .ok x h := by simp [tIx, tLook_at e hk, hy]
theorem tIn_at {d : List (Val × Val)} {neg : Bool} (e : h[a]? = some (.dcT d)) (hk : keysOk ks = true) : tIn neg ks (.ref a) h = .ok (.bl (if neg then !(lookV d (.tup ks)).isSome else (lookV d (.tup ks)).isSome)) h := by simp [tIn, tLook_at e hk]
theorem tGet_at {d : List (Val × Val)} (e : h[a]? = some (.dcT d)) (hk : keysOk ks = true) : tGet (.ref a) ks z h = .ok ((lookV d (.tup ks)).getD z) h := by simp [tGet, tLook_at e hk]
theorem tPop1_at {d : List (Val × Val)} (e : h[a]? = some (.dcT d)) (hk : keysOk ks = true) (hy : lookV d (.tup ks) = some x) : tPop1 (.ref a) ks h = .ok x (h.set a (.dcT (dropV d (.tup ks)))) := by simp [tPop1, tLook_at e hk, hy, tDrop, e]
theorem tSet_at {d : List (Val × Val)} (e : h[a]? = some (.dcT d)) (hk : keysOk ks = true) (hl : d.length < lim) : tSet (.ref a) ks x h = .ok () (h.set a (.dcT (putV d (.tup ks) x))) := by simp [tSet, e, hk, hl]
end
theorem lookV_drop {d : List (Val × Val)} {k j : Val} : lookV (dropV d k) j = if j = k then none else lookV d j := by
  unfold lookV dropV
  by_cases e : j = k
  · rw [if_pos e, List.find?_eq_none.mpr]
    · rfl
    · intro x hx
      have := (List.mem_filter.mp hx).2
      simp only [decide_eq_true_eq] at this ⊢
      rw [e]; exact this
  · rw [if_neg e]
    congr 1
    rw [List.find?_filter]
    congr 1
    funext x
    by_cases q : x.1 = j
    · simp [q, e]
    · simp [q]
theorem dropV_none {d : List (Val × Val)} {k : Val} (e : lookV d k = none) : dropV d k = d := by
  unfold lookV at e
  unfold dropV
  rw [List.filter_eq_self]
  intro x hx
  simp only [Option.map_eq_none_iff, List.find?_eq_none] at e
  have := e x hx
  simpa using this
theorem dropV_len {d : List (Val × Val)} {k : Val} : (dropV d k).length ≤ d.length := List.length_filter_le ..
/-- d.pop(k, x): the dict without k, whether it was there or not -/
theorem tPop2_at {d : List (Val × Val)} {h : Heap} {a : Nat} {ks : List Val} {z : Val} (e : h[a]? = some (.dcT d)) (hk : keysOk ks = true) : tPop2 (.ref a) ks z h = .ok ((lookV d (.tup ks)).getD z) (h.set a (.dcT (dropV d (.tup ks)))) := by
  unfold tPop2
  rw [tLook_at e hk]
  cases q : lookV d (.tup ks) with
  | some v => simp [tDrop, e]
  | none =>
    have : h.set a (.dcT (dropV d (.tup ks))) = h := by
      rw [dropV_none q]
      apply List.ext_getElem?
      intro i
      rw [List.getElem?_set]
      split
      · rename_i hi
        subst hi
        rw [if_pos (at_lt e), e]
      · rfl
    simp [this]
end PyM
namespace PyM
/-- while, by an invariant with a measure -/
theorem wS_whM {c : En → Heap → Res Bool} {body : En → Heap → RS} {D : K4} (Inv : Nat → En → Heap → Prop)
    (hs : ∀ m s h, Inv m s h → wR (c s h) D.ex fun b h1 => if b = true then wS (body s h1) { D with nx := fun s' h' => ∃ m' < m, Inv m' s' h', ct := fun s' h' => ∃ m' < m, Inv m' s' h', bk := D.nx } else D.nx s h1) :
    ∀ (n m : Nat) (s : En) (h : Heap), m < n → Inv m s h → wS (whM c body n s h) D
  | 0, m, _, _, hm, _ => by omega
  | n + 1, m, s, h, hm, hi => by
    have w := hs m s h hi
    unfold whM
    cases e : c s h with
    | ok b h1 =>
      rw [e] at w
      simp only [wR_ok] at w
      cases b with
      | false => simpa using w
      | true =>
        simp only [Res.thenS, if_true] at w ⊢
        cases eb : body s h1 with
        | nx s2 h2 =>
          rw [eb] at w
          obtain ⟨m', h1, h2'⟩ := w
          exact wS_whM Inv hs n m' _ _ (by omega) h2'
        | ct s2 h2 =>
          rw [eb] at w
          obtain ⟨m', h1, h2'⟩ := w
          exact wS_whM Inv hs n m' _ _ (by omega) h2'
        | bk s2 h2 => rw [eb] at w; exact w
        | rt v h2 => rw [eb] at w; exact w
        | raised a h2 => rw [eb] at w; exact w
        | stuck => rw [eb] at w; exact w
    | raised a h1 => rw [e] at w; exact w
    | stuck => rw [e] at w; exact w
end PyM

set_option Elab.async false
set_option linter.all false
set_option autoImplicit false
set_option maxHeartbeats 4000000
/-! wishes for loops over dicts; heaps with a new end -/
namespace PyM
section
variable {h : Heap} {D : K4} {s : En} {me : En → Heap → Res Val} {tg : Val → En → Option En} {body : En → Heap → RS} {n : Nat}
theorem wS_unlS {x : RS} : wS (unlS n x) D = wS x { nx := fun s' h' => (match unlH n h' with | some h2 => D.nx s' h2 | none => False), rt := fun v h' => (match unlH n h' with | some h2 => D.rt v h2 | none => False) } := by
  cases x with
  | nx a b => simp only [unlS, wS_nx]; split <;> simp_all
  | rt a b => simp only [unlS, wS_rt]; split <;> simp_all
  | _ => rfl
@[simp ↓] theorem wS_sForD : wS (sForD me tg body s h) D = wR (me s h) D.ex fun x h1 => (match x with
    | .ref n => (match lockD n h1 with
      | some (ks, h2) => wS (forM_ (fun _ => true) tg body ks s h2) { nx := fun s' h' => (match unlH n h' with | some h2 => D.nx s' h2 | none => False), rt := fun v h' => (match unlH n h' with | some h2 => D.rt v h2 | none => False) }
      | none => False)
    | _ => False) := by
  unfold sForD
  simp only [wS_thenS]
  congr; funext x h1
  cases x with
  | ref m =>
    simp only
    cases e : lockD m h1 with
    | none => rfl
    | some p => obtain ⟨ks, h2⟩ := p; exact wS_unlS
  | _ => rfl
theorem lockD_dct {d : List (Val × Val)} (e : h[n]? = some (.dct d)) : lockD n h = some (d.map (·.1), h.set n (.fdc d)) := by simp [lockD, e]
theorem lockD_dcT {d : List (Val × Val)} (e : h[n]? = some (.dcT d)) : lockD n h = some (d.map (·.1), h.set n (.fdT d)) := by simp [lockD, e]
theorem unlH_fdc {d : List (Val × Val)} (e : h[n]? = some (.fdc d)) : unlH n h = some (h.set n (.dct d)) := by simp [unlH, e]
theorem unlH_fdT {d : List (Val × Val)} (e : h[n]? = some (.fdT d)) : unlH n h = some (h.set n (.dcT d)) := by simp [unlH, e]
end
end PyM

set_option Elab.async false
set_option linter.all false
set_option autoImplicit false
set_option maxHeartbeats 4000000
set_option maxRecDepth 100000
namespace PyM
open PySem PySem.Spec PyProof.Rows L2 He
/-- a law over a head by facts, where what may be let out hangs on the world -/
theorem walk_ofC {l : PySem.W.OpenLaw} {n k : Nat} {q : Program} {loose : List Str} {XP : (Str → Option Value) → PySem.Heap → Prop} {YP : World → PySem.Heap → Prop} {d : DefRec} {CX : World → CXT} {x : Str}
    (hn : l.most = some n) (hn2 : n ≤ sizeLine) (hdf : d.params.defaults = []) (hr : Room k callerA)
    (F : ∀ (w : World) (mg : Str → Option Value) (fa : Addr) (h : PySem.Heap), YP w h → h.Ns mainGlobals mg → mg d.name = some (.ref fa) →
      ∃ (K : PySem.W.Frag) (fd : FuncData) (sp : Sp), K.In h ∧ (∀ (s : Shared) (u : Value), BindsTo s fd ⟨[u], []⟩ [(x, u)]) ∧
        (∀ (H : Hp) (a : Addr) (ns : List Int), ns.length ≤ n → Only H → SqL K H a (ns.map V.int) → sp [.ref a] H (fun v _ => v = .bl true) fun _ _ _ => False) ∧
        ∀ base : PySem.Heap, K.In base → base.Ns mainGlobals mg → FnOk l.prog w K mg base (CX w) k fa fd [x] sp)
    (hCX : ∀ (w : World) (H : Hp) (s : Shared) (e : Value) (s' : Shared), CX w [] H s (fun _ _ _ => False) e s' → False) :
    PySem.W.WalkO q loose XP YP l.row.toRowW d [] (fun f vs => PySem.call f vs) := by
  refine Att.attach_call hn hdf fun w s0 s1 m1 m2 f1 o1 p1 c1 d1 a1 vs ns G Y y1 y2 y3 y4 y5 y6 y7 y8 => ?_
  obtain ⟨K', fd', sp', z1, z2, z3, z4⟩ := F w m1 f1 _ Y G.T.g y4
  exact law_call z1 G.T.g G.T.b G.T.builtins G.T.nolimit y8 y5 y6 (Nat.le_trans y7 hn2) hr z4 z2 (fun H q1 q2 => z3 H a1 ns y7 q1 q2) fun H e1 e2 => hCX w H s1 e1 e2
end PyM

set_option Elab.async false
set_option linter.all false
set_option maxRecDepth 100000
set_option maxHeartbeats 4000000
namespace Lw
open PyM
def m__law_next : List Val → Heap → Res Val := runB 2 4
    (sSeq (sAsg (gV 2) (mB oIx (mV 0) (mK (.int 2))))
    (sSeq (sIf (tB_ (mB oGt (mV 2) (mK (.int 0)))) (sSeq (sSub (mV 0) (mK (.int 2)) (mB oFd (mV 2) (mV 1)))
    (sRet (mB oMd (mL bInt (mCons (mV 2) (mNil))) (mV 1)))) (sNx))
    (sSeq (sAsg (gV 3) (mK (.int 0)))
    (sSeq (sIf (tB_ (mB oLt (mB oIx (mV 0) (mK (.int 1))) (mL bLen (mCons (mB oIx (mV 0) (mK (.int 0))) (mNil))))) (sSeq (sAsg (gV 3) (mL bAbs (mCons (mB oIx (mB oIx (mV 0) (mK (.int 0))) (mB oIx (mV 0) (mK (.int 1)))) (mNil))))
    (sSubA (oI fun i j => .int (i + j)) (mV 0) (mK (.int 1)) (mK (.int 1)))) (sNx))
    (sSeq (sIf (tB_ (mB oGe (mV 3) (mB oPw (mK (.int 10)) (mK (.int 18))))) (sSeq (sSub (mV 0) (mK (.int 2)) (mB oFd (mV 3) (mV 1)))
    (sRet (mB oMd (mL bInt (mCons (mV 3) (mNil))) (mV 1)))) (sNx))
    (sSeq (sSub (mV 0) (mK (.int 3)) (mB oMd (mL bInt (mCons (mB oAdd (mB oAdd (mB oMul (mB oIx (mV 0) (mK (.int 3))) (mK (.int 48271))) (mB oMul (mV 3) (mK (.int 69621)))) (mK (.int 11))) (mNil))) (mK (.int 2147483647))))
    (sRet (mB oMd (mL bInt (mCons (mB oFd (mB oMd (mB oMul (mB oIx (mV 0) (mK (.int 3))) (mK (.int 16807))) (mK (.int 2147483647))) (mK (.int 7))) (mNil))) (mV 1)))))))))
def m_is_number : List Val → Heap → Res Val := runB 1 1
    (sRet (mAn (mIsi .int (mV 0)) (mNo (mIsi .bool (mV 0)))))
def m_is_environment : List Val → Heap → Res Val := runB 1 1
    (sRet (mAn (mCall m_is_number [] (mCons (mV 0) (mNil))) (mChLeLt (mK (.int 0)) (mV 0) (mK (.int 4)))))
def m_Slices__step : List Val → Heap → Res Val := runB 1 1
    (sSeq (sFld 4 15 (mV 0) (mK (.int 0)))
    (sSeq (sFldA 4 14 (oI fun i j => .int (i + j)) (mV 0) (mK (.int 1)))
    (sIf (tB_ (mB (oEq false) (mU (getF 14) (mV 0)) (mK (.int 8)))) (sSeq (sFld 4 14 (mV 0) (mK (.int 0)))
    (sFldA 4 13 (oI fun i j => .int (i + j)) (mV 0) (mK (.int 1)))) (sNx))))
def m_Slices__find : List Val → Heap → Res Val := runB 1 2
    (sSeq (sFor (iRng1 (mCons (mK (.int 8)) (mNil))) (gV 1) (sSeq (sIf (tB_ (mU (oIsN true) (mB oIx (mU (getF 12) (mV 0)) (mU (getF 14) (mV 0))))) (sSeq (sFld 4 16 (mV 0) (mB oIx (mU (getF 12) (mV 0)) (mU (getF 14) (mV 0))))
    (sRetN)) (sNx))
    (sDrop (mMeth 4 m_Slices__step [] (mV 0) (mNil)))))
    (sSeq (sFld 4 13 (mV 0) (mK (.int 0)))
    (sSeq (sFld 4 14 (mV 0) (mK (.int 0)))
    (sFld 4 16 (mV 0) (mK .non)))))
def m_Slices___init__ : List Val → Heap → Res Val := runB 2 3
    (sSeq (sIf (tOr_ (tNo (tTr (mIsi .lst (mV 1)))) (tB_ (mB (oEq true) (mL bLen (mCons (mV 1) (mNil))) (mK (.int 8))))) (sRaise 3) (sNx))
    (sSeq (sIf (tNo (tTr (mL bAll (mCons (mLc (iAlt (iLst (mV 1)) (iTup_ (mV 1))) (gV 2) (tTrue) (mOr_ (mU (oIsN false) (mV 2)) (mCall m_is_environment [] (mCons (mV 2) (mNil)))) [2]) (mNil))))) (sRaise 3) (sNx))
    (sSeq (sFld 4 12 (mV 0) (mL bList (mCons (mV 1) (mNil))))
    (sSeq (sFld 4 13 (mV 0) (mK (.int 0)))
    (sSeq (sFld 4 14 (mV 0) (mK (.int 0)))
    (sSeq (sFld 4 15 (mV 0) (mK (.int 0)))
    (sSeq (sFld 4 16 (mV 0) (mB oIx (mV 1) (mK (.int 0))))
    (sDrop (mMeth 4 m_Slices__find [] (mV 0) (mNil))))))))))
def m_Frames___init__ : List Val → Heap → Res Val := runB 3 5
    (sSeq (sIf (tOr_ (tNo (tTr (mCall m_is_number [] (mCons (mV 1) (mNil))))) (tNo (tB_ (mChLeLe (mK (.int 8)) (mV 1) (mK (.int 64)))))) (sRaise 3) (sNx))
    (sSeq (sIf (tOr_ (tNo (tTr (mIsi .lst (mV 2)))) (tB_ (mB (oEq true) (mL bLen (mCons (mV 2) (mNil))) (mK (.int 4))))) (sRaise 3) (sNx))
    (sSeq (sIf (tOr_ (tNo (tTr (mL bAll (mCons (mLc (iAlt (iLst (mV 2)) (iTup_ (mV 2))) (gV 3) (tTrue) (mAn (mCall m_is_number [] (mCons (mV 3) (mNil))) (mB oGe (mV 3) (mK (.int 0)))) [3]) (mNil))))) (tB_ (mB oGt (mL bSum (mCons (mV 2) (mNil))) (mV 1)))) (sRaise 3) (sNx))
    (sSeq (sFld 0 0 (mV 0) (mV 1))
    (sSeq (sFld 0 1 (mV 0) (mL bList (mCons (mV 2) (mNil))))
    (sSeq (sFld 0 2 (mV 0) (mLc (iRng1 (mCons (mV 1) (mNil))) (gV 4) (tTrue) (mDct) [4]))
    (sSeq (sFld 0 3 (mV 0) (mLc (iRng1 (mCons (mV 1) (mNil))) (gV 4) (tTrue) (mB oMul (mLst (mCons (mK (.int 0)) (mNil))) (mK (.int 8))) [4]))
    (sSeq (sFld 0 4 (mV 0) (mLc (iRng1 (mCons (mK (.int 4)) (mNil))) (gV 4) (tTrue) (mLst (mNil)) [4]))
    (sSeq (sFld 0 5 (mV 0) (mDctT))
    (sSeq (sFld 0 6 (mV 0) (mLc (iRng1 (mCons (mK (.int 4)) (mNil))) (gV 4) (tTrue) (mK .non) [4]))
    (sFld 0 7 (mV 0) (mLc (iRng1 (mCons (mK (.int 4)) (mNil))) (gV 4) (tTrue) (mLst (mNil)) [4]))))))))))))
def m_Pages___init__ : List Val → Heap → Res Val := runB 2 3
    (sSeq (sFld 1 8 (mV 0) (mV 1))
    (sFld 1 9 (mV 0) (mLc (iRng1 (mCons (mK (.int 4)) (mNil))) (gV 2) (tTrue) (mDct) [2])))
def m_Net___init__ : List Val → Heap → Res Val := runB 2 4
    (sSeq (sIf (tOr_ (tNo (tTr (mIsi .lst (mV 1)))) (tB_ (mB (oEq true) (mL bLen (mCons (mV 1) (mNil))) (mK (.int 4))))) (sRaise 3) (sNx))
    (sSeq (sIf (tNo (tTr (mL bAll (mCons (mLc (iAlt (iLst (mV 1)) (iTup_ (mV 1))) (gV 3) (tTrue) (mOr_ (mU (oIsN false) (mV 3)) (mDead)) [3]) (mNil))))) (sRaise 3) (sNx))
    (sSeq (sFld 8 27 (mV 0) (mL bList (mCons (mV 1) (mNil))))
    (sSeq (sFor (iRng1 (mCons (mK (.int 4)) (mNil))) (gV 2) (sSeq (sAsg (gV 3) (mB oIx (mV 1) (mV 2)))
    (sIf (tAn (tB_ (mU (oIsN true) (mV 3))) (tB_ (mU (oIsN true) (mDead)))) (sRaise 3) (sNx))))
    (sSeq (sFld 8 28 (mV 0) (mK (.int 0)))
    (sSeq (sFld 8 29 (mV 0) (mDct))
    (sSeq (sFld 8 30 (mV 0) (mDct))
    (sSeq (sFld 8 31 (mV 0) (mK c_EMPTY))
    (sSeq (sFld 8 32 (mV 0) (mLst (mNil)))
    (sFld 8 33 (mV 0) (mK (.int 0))))))))))))
def m_Types___init__ : List Val → Heap → Res Val := runB 2 2
    (sSeq (sFld 6 17 (mV 0) (mV 1))
    (sSeq (sFld 6 20 (mV 0) (mLst (mNil)))
    (sFld 6 21 (mV 0) (mLst (mNil)))))
def m_Types_owned : List Val → Heap → Res Val := runB 3 3
    (sSeq (sIf (tB_ (mB (oEq false) (mV 1) (mK (.int 0)))) (sRet (mTup (mNil))) (sNx))
    (sSeq (sIf (tB_ (mB (oEq true) (mV 1) (mK (.int 1)))) (sRet (mDead)) (sNx))
    (sSeq (sIf (tB_ (mB (oEq false) (mB oIx (mV 2) (mK (.int 0))) (mK (.int 0)))) (sRet (mTup (mNil))) (sNx))
    (sSeq (sIf (tOr_ (tNo (tTr (mDead))) (tOr_ (tNo (tTr (mDead))) (tB_ (mB (oEq false) (mB oIx (mV 2) (mK (.int 1))) (mK (.int 1)))))) (sRet (mK .non)) (sNx))
    (sRet (mTup (mCons (mTup (mCons (mB oIx (mV 2) (mK (.int 0))) (mCons (mB oIx (mV 2) (mK (.int 1))) (mNil)))) (mNil))))))))
def m_Disk_words : List Val → Heap → Res Val := runB 2 2
    (sRet (mB oIx (mU (getF 18) (mV 0)) (mV 1)))
def m_Blocks_forest : List Val → Heap → Res Val := runB 3 11
    (sSeq (sAsg (gV 3) (mDct))
    (sSeq (sAsg (gV 4) (mLc (iAlt (iLst (mV 1)) (iTup_ (mV 1))) (gT (gsCons (gV 5) (gsCons (gV 7) (gsNil)))) (tTrue) (mTup (mCons (mV 5) (mCons (mK .non) (mCons (mV 7) (mNil))))) [5, 7]))
    (sSeq (whM (tTr (mV 4)) (sSeq (sAsg (gT (gsCons (gV 5) (gsCons (gV 6) (gsCons (gV 7) (gsNil))))) (mBM bPopAt (mV 4) (mCons (mK (.int 0)) (mNil))))
    (sSeq (sIf (tB_ (mB (oIn false) (mV 5) (mV 3))) (sRet (mK .non)) (sNx))
    (sSeq (sSub (mV 3) (mV 5) (mTup (mCons (mV 6) (mCons (mV 7) (mNil)))))
    (sSeq (sAsg (gV 8) (mTup (mNil)))
    (sSeq (sIf (tB_ (mU (oIsN true) (mV 7))) (sAsg (gV 8) (mMeth 6 m_Types_owned [] (mU (getF 23) (mV 0)) (mCons (mV 7) (mCons (mGet2 (mV 2) (mV 5) (mMeth 5 m_Disk_words [] (mU (getF 22) (mV 0)) (mCons (mV 5) (mNil)))) (mNil))))) (sNx))
    (sSeq (sIf (tB_ (mU (oIsN false) (mV 8))) (sRet (mK .non)) (sNx))
    (sDrop (mBM bExtend (mV 4) (mCons (mLc (iAlt (iLst (mV 8)) (iTup_ (mV 8))) (gT (gsCons (gV 9) (gsCons (gV 10) (gsNil)))) (tTrue) (mTup (mCons (mV 9) (mCons (mV 5) (mCons (mV 10) (mNil))))) [9, 10]) (mNil)))))))))) 100000)
    (sRet (mV 3)))))
def m_Blocks_lasting_forest : List Val → Heap → Res Val := runB 2 2
    (sRet (mMeth 7 m_Blocks_forest [] (mV 0) (mCons (mLst (mCons (mTup (mCons (mV 1) (mCons (mK (.int 1)) (mNil)))) (mNil))) (mCons (mDct) (mNil)))))
def m_Blocks___init__ : List Val → Heap → Res Val := runB 4 7
    (sSeq (sIf (tOr_ (tB_ (mB (oEq true) (mL bLen (mCons (mV 2) (mNil))) (mK (.int 4)))) (tNo (tTr (mL bAll (mCons (mLc (iAlt (iLst (mV 2)) (iTup_ (mV 2))) (gV 6) (tTrue) (mAn (mCall m_is_number [] (mCons (mV 6) (mNil))) (mB oGe (mV 6) (mK (.int 0)))) [6]) (mNil)))))) (sRaise 3) (sNx))
    (sSeq (sIf (tB_ (mB oGt (mL bSumT (mCons (mV 2) (mNil))) (mB (oI fun i j => .int (i - j)) (mU (getF 17) (mV 1)) (mK (.int 4))))) (sRaise 3) (sNx))
    (sSeq (sFld 7 22 (mV 0) (mV 1))
    (sSeq (sFld 7 1 (mV 0) (mL bList (mCons (mV 2) (mNil))))
    (sSeq (sFld 7 23 (mV 0) (mV 3))
    (sSeq (sIf (tB_ (mU (oIsN false) (mV 3))) (sFld 7 23 (mV 0) (mMake 6 m_Types___init__ [] (mCons (mU (getF 17) (mV 1)) (mNil)))) (sNx))
    (sSeq (sFld 7 24 (mV 0) (mDct))
    (sSeq (sFld 7 25 (mV 0) (mDct))
    (sSeq (sFld 7 26 (mV 0) (mDct))
    (sFor (iRng1 (mCons (mK (.int 4)) (mNil))) (gV 4) (sForD (mMeth 7 m_Blocks_lasting_forest [] (mV 0) (mCons (mV 4) (mNil))) (gV 5) (sSub (mU (getF 26) (mV 0)) (mV 5) (mK (.bl true))))))))))))))
def m_Kernel___init__ : List Val → Heap → Res Val := runB 8 8
    (sSeq (sFld 9 34 (mV 0) (mMake 4 m_Slices___init__ [] (mCons (mV 1) (mNil))))
    (sSeq (sFld 9 8 (mV 0) (mMake 0 m_Frames___init__ [] (mCons (mV 2) (mCons (mV 3) (mNil)))))
    (sSeq (sFld 9 35 (mV 0) (mMake 1 m_Pages___init__ [] (mCons (mU (getF 8) (mV 0)) (mNil))))
    (sSeq (sFld 9 36 (mV 0) (mMake 8 m_Net___init__ [] (mCons (mV 7) (mNil))))
    (sSeq (sFld 9 22 (mV 0) (mV 4))
    (sFld 9 17 (mV 0) (mMake 7 m_Blocks___init__ [] (mCons (mV 4) (mCons (mL bTuple (mCons (mV 5) (mNil))) (mCons (mV 6) (mNil)))))))))))
def m_Disk___init__ : List Val → Heap → Res Val := runB 2 2
    (sSeq (sIf (tOr_ (tNo (tTr (mCall m_is_number [] (mCons (mV 1) (mNil))))) (tNo (tB_ (mChLeLe (mK (.int 24)) (mV 1) (mK (.int 64)))))) (sRaise 3) (sNx))
    (sSeq (sFld 5 17 (mV 0) (mV 1))
    (sSeq (sFld 5 18 (mV 0) (mB oMul (mLst (mCons (mB oMul (mTup (mCons (mK (.int 0)) (mNil))) (mK (.int 8))) (mNil))) (mV 1)))
    (sFld 5 19 (mV 0) (mLst (mNil))))))
def m__law_kernel : List Val → Heap → Res Val := runB 2 2
    (sRet (mMake 9 m_Kernel___init__ [] (mCons (mB oMul (mLst (mCons (mK (.int 0)) (mNil))) (mK (.int 8))) (mCons (mV 0) (mCons (mLst (mCons (mV 1) (mCons (mK (.int 0)) (mCons (mK (.int 0)) (mCons (mK (.int 0)) (mNil)))))) (mCons (mMake 5 m_Disk___init__ [] (mCons (mK (.int 24)) (mNil))) (mCons (mLst (mCons (mK (.int 8)) (mCons (mK (.int 0)) (mCons (mK (.int 0)) (mCons (mK (.int 0)) (mNil)))))) (mCons (mMake 6 m_Types___init__ [] (mCons (mK (.int 24)) (mNil))) (mCons (mB oMul (mLst (mCons (mK .non) (mNil))) (mK (.int 4))) (mNil))))))))))
def m_Memory___init__ : List Val → Heap → Res Val := runB 2 3
    (sSeq (sFld 12 37 (mV 0) (mV 1))
    (sSeq (sFld 12 38 (mV 0) (mLc (iRng1 (mCons (mK (.int 4)) (mNil))) (gV 2) (tTrue) (mLst (mNil)) [2]))
    (sFld 12 39 (mV 0) (mK (.int 0)))))
def m_Pipes___init__ : List Val → Heap → Res Val := runB 2 2
    (sSeq (sFld 13 40 (mV 0) (mV 1))
    (sFld 13 29 (mV 0) (mDct)))
def m_Stack___init__ : List Val → Heap → Res Val := runB 2 2
    (sSeq (sFld 10 10 (mV 0) (mLst (mCons (mV 1) (mNil))))
    (sFld 10 11 (mV 0) (mK .non)))
def m_Make_request : List Val → Heap → Res Val := runB 1 1
    (sRet (mU (getF 6) (mV 0)))
def m_Put_request : List Val → Heap → Res Val := runB 1 1
    (sRet (mU (getF 6) (mV 0)))
def m_Take_request : List Val → Heap → Res Val := runB 1 1
    (sRet (mU (getF 6) (mV 0)))
def m_End_request : List Val → Heap → Res Val := runB 1 1
    (sRet (mU (getF 6) (mV 0)))
def m_Memory_note_taken : List Val → Heap → Res Val := runB 1 1
    (sFldA 12 39 (oI fun i j => .int (i + j)) (mV 0) (mK (.int 1)))
def m_Pipes_note : List Val → Heap → Res Val := runB 5 5
    (sSub (mU (getF 29) (mV 0)) (mV 1) (mTup (mCons (mV 2) (mCons (mV 3) (mCons (mV 4) (mNil))))))
def m_Make_accept : List Val → Heap → Res Val := runB 2 2
    (sIf (tB_ (mB (oEq false) (mU (getF 43) (mV 0)) (mK (.str 11)))) (sSeq (sFld 14 43 (mV 0) (mK (.str 17)))
    (sSeq (sDrop (mMeth 12 m_Memory_note_taken [] (mU (getF 40) (mU (getF 41) (mV 0))) (mNil)))
    (sSeq (sDrop (mMeth 13 m_Pipes_note [] (mU (getF 41) (mV 0)) (mCons (mU (getF 42) (mV 0)) (mCons (mB oIx (mV 1) (mK (.int 1))) (mCons (mK (.int 0)) (mCons (mK (.int 0)) (mNil)))))))
    (sFld 14 6 (mV 0) (mTup (mCons (mK (.str 17)) (mCons (mB oAdd (mK (.int 24)) (mU (getF 42) (mV 0))) (mCons (mB oIx (mV 1) (mK (.int 1))) (mCons (mK (.str 0)) (mNil)))))))))) (sFld 14 6 (mV 0) (mTup (mCons (mK (.str 5)) (mCons (mU (getF 42) (mV 0)) (mNil))))))
def m_Pipes_frame : List Val → Heap → Res Val := runB 2 2
    (sRet (mB oIx (mB oIx (mU (getF 29) (mV 0)) (mV 1)) (mK (.int 0))))
def m_Pipes_head : List Val → Heap → Res Val := runB 2 2
    (sRet (mB oIx (mB oIx (mU (getF 29) (mV 0)) (mV 1)) (mK (.int 1))))
def m_Pipes_size : List Val → Heap → Res Val := runB 2 2
    (sRet (mB oIx (mB oIx (mU (getF 29) (mV 0)) (mV 1)) (mK (.int 2))))
def m_Put_accept : List Val → Heap → Res Val := runB 2 3
    (sSeq (sAsg (gV 2) (mU (getF 42) (mV 0)))
    (sSeq (sDrop (mMeth 13 m_Pipes_note [] (mU (getF 41) (mV 0)) (mCons (mV 2) (mCons (mMeth 13 m_Pipes_frame [] (mU (getF 41) (mV 0)) (mCons (mV 2) (mNil))) (mCons (mMeth 13 m_Pipes_head [] (mU (getF 41) (mV 0)) (mCons (mV 2) (mNil))) (mCons (mB oAdd (mMeth 13 m_Pipes_size [] (mU (getF 41) (mV 0)) (mCons (mV 2) (mNil))) (mK (.int 1))) (mNil)))))))
    (sFld 15 6 (mV 0) (mTup (mCons (mK (.str 5)) (mCons (mK (.bl true)) (mNil)))))))
def m_Take_accept : List Val → Heap → Res Val := runB 2 4
    (sSeq (sAsg (gV 2) (mU (getF 42) (mV 0)))
    (sSeq (sAsg (gV 3) (mB oMd (mB oAdd (mMeth 13 m_Pipes_head [] (mU (getF 41) (mV 0)) (mCons (mV 2) (mNil))) (mK (.int 1))) (mK (.int 8))))
    (sSeq (sDrop (mMeth 13 m_Pipes_note [] (mU (getF 41) (mV 0)) (mCons (mV 2) (mCons (mMeth 13 m_Pipes_frame [] (mU (getF 41) (mV 0)) (mCons (mV 2) (mNil))) (mCons (mV 3) (mCons (mB (oI fun i j => .int (i - j)) (mMeth 13 m_Pipes_size [] (mU (getF 41) (mV 0)) (mCons (mV 2) (mNil))) (mK (.int 1))) (mNil)))))))
    (sFld 16 6 (mV 0) (mTup (mCons (mK (.str 5)) (mCons (mB oIx (mV 1) (mK (.int 1))) (mNil))))))))
def m_Memory_note_dropped : List Val → Heap → Res Val := runB 1 1
    (sFldA 12 39 (oI fun i j => .int (i - j)) (mV 0) (mK (.int 1)))
def m_Pipes_forget : List Val → Heap → Res Val := runB 2 2
    (sDrop (mPop1 (mU (getF 29) (mV 0)) (mV 1)))
def m_End_accept : List Val → Heap → Res Val := runB 2 2
    (sIf (tB_ (mB (oEq false) (mU (getF 43) (mV 0)) (mK (.str 18)))) (sSeq (sFld 17 43 (mV 0) (mK (.str 14)))
    (sFld 17 6 (mV 0) (mTup (mCons (mK (.str 14)) (mCons (mU (getF 44) (mV 0)) (mNil)))))) (sSeq (sDrop (mMeth 12 m_Memory_note_dropped [] (mU (getF 40) (mU (getF 41) (mV 0))) (mNil)))
    (sSeq (sDrop (mMeth 13 m_Pipes_forget [] (mU (getF 41) (mV 0)) (mCons (mU (getF 42) (mV 0)) (mNil))))
    (sFld 17 6 (mV 0) (mTup (mCons (mK (.str 5)) (mCons (mK .non) (mNil))))))))
def m_Stack__settle : List Val → Heap → Res Val := runB 1 2
    (whM (tTr (mU (getF 10) (mV 0))) (sSeq (sAsg (gV 1) (mAlt (mMeth 14 m_Make_request [] (mB oIx (mU (getF 10) (mV 0)) (mU oNeg (mK (.int 1)))) (mNil)) (mAlt (mMeth 15 m_Put_request [] (mB oIx (mU (getF 10) (mV 0)) (mU oNeg (mK (.int 1)))) (mNil)) (mAlt (mMeth 16 m_Take_request [] (mB oIx (mU (getF 10) (mV 0)) (mU oNeg (mK (.int 1)))) (mNil)) (mMeth 17 m_End_request [] (mB oIx (mU (getF 10) (mV 0)) (mU oNeg (mK (.int 1)))) (mNil))))))
    (sIf (tB_ (mB (oEq false) (mB oIx (mV 1) (mK (.int 0))) (mK (.str 4)))) (sDrop (mBM bAppend (mU (getF 10) (mV 0)) (mCons (mB oIx (mV 1) (mK (.int 1))) (mNil)))) (sIf (tB_ (mB (oEq false) (mB oIx (mV 1) (mK (.int 0))) (mK (.str 5)))) (sSeq (sDrop (mBM0 bPop (mU (getF 10) (mV 0))))
    (sIf (tTr (mU (getF 10) (mV 0))) (sDrop (mAlt (mMeth 14 m_Make_accept [] (mB oIx (mU (getF 10) (mV 0)) (mU oNeg (mK (.int 1)))) (mCons (mB oIx (mV 1) (mK (.int 1))) (mNil))) (mAlt (mMeth 15 m_Put_accept [] (mB oIx (mU (getF 10) (mV 0)) (mU oNeg (mK (.int 1)))) (mCons (mB oIx (mV 1) (mK (.int 1))) (mNil))) (mAlt (mMeth 16 m_Take_accept [] (mB oIx (mU (getF 10) (mV 0)) (mU oNeg (mK (.int 1)))) (mCons (mB oIx (mV 1) (mK (.int 1))) (mNil))) (mMeth 17 m_End_accept [] (mB oIx (mU (getF 10) (mV 0)) (mU oNeg (mK (.int 1)))) (mCons (mB oIx (mV 1) (mK (.int 1))) (mNil))))))) (sFld 10 11 (mV 0) (mB oIx (mV 1) (mK (.int 1)))))) (sRetN)))) 100000)
def m_Frames_holdings : List Val → Heap → Res Val := runB 2 2
    (sRet (mL bList (mCons (mB oIx (mU (getF 4) (mV 0)) (mV 1)) (mNil))))
def m_Frames_free : List Val → Heap → Res Val := runB 1 2
    (sRet (mLc (iRng1 (mCons (mU (getF 0) (mV 0)) (mNil))) (gV 1) (tNo (tTr (mB oIx (mU (getF 2) (mV 0)) (mV 1)))) (mV 1) [1]))
def m_Frames_charge : List Val → Heap → Res Val := runB 2 2
    (sRet (mL bLen (mCons (mB oIx (mU (getF 4) (mV 0)) (mV 1)) (mNil))))
def m_Frames_share : List Val → Heap → Res Val := runB 2 2
    (sRet (mB oIx (mU (getF 1) (mV 0)) (mV 1)))
def m_Frames_left : List Val → Heap → Res Val := runB 1 2
    (sRet (mB (oI fun i j => .int (i - j)) (mU (getF 0) (mV 0)) (mL bSum (mCons (mLc (iAlt (iLst (mU (getF 4) (mV 0))) (iTup_ (mU (getF 4) (mV 0)))) (gV 1) (tTrue) (mL bLen (mCons (mV 1) (mNil))) [1]) (mNil)))))
def m_Frames_may_hold_more : List Val → Heap → Res Val := runB 2 4
    (sSeq (sIf (tB_ (mB oLt (mMeth 0 m_Frames_charge [] (mV 0) (mCons (mV 1) (mNil))) (mMeth 0 m_Frames_share [] (mV 0) (mCons (mV 1) (mNil))))) (sRet (mK (.bl true))) (sNx))
    (sSeq (sAsg (gV 2) (mLc (iRng1 (mCons (mK (.int 4)) (mNil))) (gV 3) (tTrue) (mL bMax2 (mCons (mK (.int 0)) (mCons (mB (oI fun i j => .int (i - j)) (mB oIx (mU (getF 1) (mV 0)) (mV 3)) (mMeth 0 m_Frames_charge [] (mV 0) (mCons (mV 3) (mNil)))) (mNil)))) [3]))
    (sRet (mB oGt (mMeth 0 m_Frames_left [] (mV 0) (mNil)) (mL bSum (mCons (mV 2) (mNil)))))))
def m_Frames_take : List Val → Heap → Res Val := runB 2 4
    (sSeq (sAsg (gV 2) (mMeth 0 m_Frames_free [] (mV 0) (mNil)))
    (sSeq (sIf (tOr_ (tNo (tTr (mV 2))) (tNo (tTr (mMeth 0 m_Frames_may_hold_more [] (mV 0) (mCons (mV 1) (mNil)))))) (sRet (mK .non)) (sNx))
    (sSeq (sAsg (gV 3) (mB oIx (mV 2) (mK (.int 0))))
    (sSeq (sSub (mU (getF 3) (mV 0)) (mV 3) (mB oMul (mLst (mCons (mK (.int 0)) (mNil))) (mK (.int 8))))
    (sSeq (sSub (mB oIx (mU (getF 2) (mV 0)) (mV 3)) (mV 1) (mK (.str 0)))
    (sSeq (sDrop (mBM bAppend (mB oIx (mU (getF 4) (mV 0)) (mV 1)) (mCons (mV 3) (mNil))))
    (sRet (mV 3))))))))
def m_told : List Val → Heap → Res Val := runB 2 2
    (sSeq (sIf (tTr (mV 0)) (sRet (mTup (mCons (mK (.str 9)) (mCons (mK .non) (mNil))))) (sNx))
    (sRet (mTup (mCons (mK (.str 8)) (mCons (mV 1) (mNil))))))
def m_Frames_is_frame : List Val → Heap → Res Val := runB 2 2
    (sRet (mAn (mCall m_is_number [] (mCons (mV 1) (mNil))) (mChLeLt (mK (.int 0)) (mV 1) (mU (getF 0) (mV 0)))))
def m_Frames_right : List Val → Heap → Res Val := runB 3 3
    (sSeq (sIf (tNo (tTr (mMeth 0 m_Frames_is_frame [] (mV 0) (mCons (mV 2) (mNil))))) (sRet (mK .non)) (sNx))
    (sRet (mGet2 (mB oIx (mU (getF 2) (mV 0)) (mV 2)) (mV 1) (mK .non))))
def m_includes : List Val → Heap → Res Val := runB 2 2
    (sRet (mOr_ (mB (oEq false) (mV 0) (mV 1)) (mAn (mB (oEq false) (mV 0) (mK (.str 0))) (mB (oEq false) (mV 1) (mK (.str 1))))))
def m_Frames_offer : List Val → Heap → Res Val := runB 5 6
    (sSeq (sIf (tOr_ (tNo (tTr (mCall m_is_environment [] (mCons (mV 3) (mNil))))) (tOr_ (tB_ (mB (oEq false) (mV 3) (mV 1))) (tB_ (mB (oIn true) (mV 4) (mK c_RIGHTS))))) (sRet (mK (.bl false))) (sNx))
    (sSeq (sAsg (gV 5) (mMeth 0 m_Frames_right [] (mV 0) (mCons (mV 1) (mCons (mV 2) (mNil)))))
    (sSeq (sIf (tOr_ (tB_ (mU (oIsN false) (mV 5))) (tNo (tTr (mCall m_includes [] (mCons (mV 5) (mCons (mV 4) (mNil))))))) (sRet (mK (.bl false))) (sNx))
    (sSeq (sSubT (mU (getF 5) (mV 0)) (mCons (mV 1) (mCons (mV 2) (mCons (mV 3) (mNil)))) (mV 4))
    (sRet (mK (.bl true)))))))
def m_Frames_accept : List Val → Heap → Res Val := runB 4 6
    (sSeq (sIf (tOr_ (tNo (tTr (mMeth 0 m_Frames_is_frame [] (mV 0) (mCons (mV 2) (mNil))))) (tNo (tTr (mCall m_is_environment [] (mCons (mV 3) (mNil)))))) (sRet (mK (.bl false))) (sNx))
    (sSeq (sAsg (gV 4) (mGetT2 (mU (getF 5) (mV 0)) (mCons (mV 3) (mCons (mV 2) (mCons (mV 1) (mNil)))) (mK .non)))
    (sSeq (sAsg (gV 5) (mMeth 0 m_Frames_right [] (mV 0) (mCons (mV 3) (mCons (mV 2) (mNil)))))
    (sSeq (sIf (tOr_ (tB_ (mU (oIsN false) (mV 4))) (tOr_ (tB_ (mU (oIsN false) (mV 5))) (tNo (tTr (mCall m_includes [] (mCons (mV 5) (mCons (mV 4) (mNil)))))))) (sRet (mK (.bl false))) (sNx))
    (sSeq (sIf (tOr_ (tB_ (mU (oIsN true) (mMeth 0 m_Frames_right [] (mV 0) (mCons (mV 1) (mCons (mV 2) (mNil)))))) (tNo (tTr (mMeth 0 m_Frames_may_hold_more [] (mV 0) (mCons (mV 1) (mNil)))))) (sRet (mK (.bl false))) (sNx))
    (sSeq (sDrop (mPopT1 (mU (getF 5) (mV 0)) (mCons (mV 3) (mCons (mV 2) (mCons (mV 1) (mNil))))))
    (sSeq (sSub (mB oIx (mU (getF 2) (mV 0)) (mV 2)) (mV 1) (mV 4))
    (sSeq (sDrop (mBM bAppend (mB oIx (mU (getF 4) (mV 0)) (mV 1)) (mCons (mV 2) (mNil))))
    (sRet (mK (.bl true)))))))))))
def m_Frames__end_holding : List Val → Heap → Res Val := runB 3 4
    (sSeq (sDrop (mPop1 (mB oIx (mU (getF 2) (mV 0)) (mV 2)) (mV 1)))
    (sSeq (sDrop (mBM bRemove (mB oIx (mU (getF 4) (mV 0)) (mV 1)) (mCons (mV 2) (mNil))))
    (sFor (iRng1 (mCons (mK (.int 4)) (mNil))) (gV 3) (sDrop (mPopT2 (mU (getF 5) (mV 0)) (mCons (mV 1) (mCons (mV 2) (mCons (mV 3) (mNil)))) (mK .non))))))
def m_Frames_drop : List Val → Heap → Res Val := runB 3 5
    (sSeq (sIf (tB_ (mU (oIsN false) (mMeth 0 m_Frames_right [] (mV 0) (mCons (mV 1) (mCons (mV 2) (mNil)))))) (sRet (mK (.bl false))) (sNx))
    (sSeq (sDrop (mMeth 0 m_Frames__end_holding [] (mV 0) (mCons (mV 1) (mCons (mV 2) (mNil)))))
    (sSeq (sIf (tB_ (mU (oIsN true) (mB oIx (mU (getF 6) (mV 0)) (mV 1)))) (sSeq (sAsg (gT (gsCons (gV 3) (gsCons (gV 4) (gsNil)))) (mB oIx (mU (getF 6) (mV 0)) (mV 1)))
    (sSub (mU (getF 6) (mV 0)) (mV 1) (mIf (tB_ (mB oGt (mV 3) (mK (.int 1)))) (mTup (mCons (mB (oI fun i j => .int (i - j)) (mV 3) (mK (.int 1))) (mCons (mV 4) (mNil)))) (mK .non)))) (sNx))
    (sRet (mK (.bl true))))))
def m_is_page : List Val → Heap → Res Val := runB 1 1
    (sRet (mAn (mCall m_is_number [] (mCons (mV 0) (mNil))) (mChLeLt (mK (.int 0)) (mV 0) (mK (.int 32)))))
def m_Pages_entry : List Val → Heap → Res Val := runB 3 3
    (sSeq (sIf (tNo (tTr (mCall m_is_page [] (mCons (mV 2) (mNil))))) (sRet (mK .non)) (sNx))
    (sRet (mGet2 (mB oIx (mU (getF 9) (mV 0)) (mV 1)) (mV 2) (mK .non))))
def m_Pages__fall : List Val → Heap → Res Val := runB 4 6
    (sFor (iRng1 (mCons (mK (.int 32)) (mNil))) (gV 4) (sSeq (sAsg (gV 5) (mMeth 1 m_Pages_entry [] (mV 0) (mCons (mV 1) (mCons (mV 4) (mNil)))))
    (sIf (tAn (tB_ (mU (oIsN true) (mV 5))) (tAn (tB_ (mB (oEq false) (mB oIx (mV 5) (mK (.int 0))) (mV 2))) (tB_ (mB (oIn false) (mB oIx (mV 5) (mK (.int 1))) (mV 3))))) (sDrop (mPop1 (mB oIx (mU (getF 9) (mV 0)) (mV 1)) (mV 4))) (sNx))))
def m_Pages_ended : List Val → Heap → Res Val := runB 3 3
    (sDrop (mMeth 1 m_Pages__fall [] (mV 0) (mCons (mV 1) (mCons (mV 2) (mCons (mK c_RIGHTS) (mNil))))))
def m_Frames_narrow : List Val → Heap → Res Val := runB 3 3
    (sSeq (sIf (tB_ (mB (oEq true) (mMeth 0 m_Frames_right [] (mV 0) (mCons (mV 1) (mCons (mV 2) (mNil)))) (mK (.str 0)))) (sRet (mK (.bl false))) (sNx))
    (sSeq (sSub (mB oIx (mU (getF 2) (mV 0)) (mV 2)) (mV 1) (mK (.str 1)))
    (sRet (mK (.bl true)))))
def m_Pages_narrowed : List Val → Heap → Res Val := runB 3 3
    (sDrop (mMeth 1 m_Pages__fall [] (mV 0) (mCons (mV 1) (mCons (mV 2) (mCons (mTup (mCons (mK (.str 0)) (mNil))) (mNil))))))
def m_Kernel__frames : List Val → Heap → Res Val := runB 3 6
    (sSeq (sAsg (gV 3) (mB oIx (mV 2) (mK (.int 0))))
    (sSeq (sIf (tB_ (mB (oEq false) (mV 3) (mK (.str 16)))) (sRet (mTup (mCons (mK (.str 9)) (mCons (mL bTuple (mCons (mMeth 0 m_Frames_holdings [] (mU (getF 8) (mV 0)) (mCons (mV 1) (mNil))) (mNil))) (mNil))))) (sNx))
    (sSeq (sIf (tB_ (mB (oEq false) (mV 3) (mK (.str 11)))) (sSeq (sAsg (gV 4) (mMeth 0 m_Frames_take [] (mU (getF 8) (mV 0)) (mCons (mV 1) (mNil))))
    (sRet (mIf (tB_ (mU (oIsN false) (mV 4))) (mTup (mCons (mK (.str 8)) (mCons (mK (.str 30)) (mNil)))) (mTup (mCons (mK (.str 9)) (mCons (mV 4) (mNil))))))) (sNx))
    (sSeq (sIf (tB_ (mB (oEq false) (mV 3) (mK (.str 12)))) (sRet (mCall m_told [] (mCons (mMeth 0 m_Frames_offer [] (mU (getF 8) (mV 0)) (mCons (mV 1) (mCons (mB oIx (mV 2) (mK (.int 1))) (mCons (mB oIx (mV 2) (mK (.int 2))) (mCons (mB oIx (mV 2) (mK (.int 3))) (mNil)))))) (mCons (mK (.str 31)) (mNil))))) (sNx))
    (sSeq (sIf (tB_ (mB (oEq false) (mV 3) (mK (.str 13)))) (sRet (mCall m_told [] (mCons (mMeth 0 m_Frames_accept [] (mU (getF 8) (mV 0)) (mCons (mV 1) (mCons (mB oIx (mV 2) (mK (.int 1))) (mCons (mB oIx (mV 2) (mK (.int 2))) (mNil))))) (mCons (mK (.str 31)) (mNil))))) (sNx))
    (sSeq (sIf (tB_ (mB (oEq false) (mV 3) (mK (.str 14)))) (sSeq (sAsg (gV 5) (mMeth 0 m_Frames_drop [] (mU (getF 8) (mV 0)) (mCons (mV 1) (mCons (mB oIx (mV 2) (mK (.int 1))) (mNil)))))
    (sSeq (sIf (tTr (mV 5)) (sDrop (mMeth 1 m_Pages_ended [] (mU (getF 35) (mV 0)) (mCons (mV 1) (mCons (mB oIx (mV 2) (mK (.int 1))) (mNil))))) (sNx))
    (sRet (mCall m_told [] (mCons (mV 5) (mCons (mK (.str 31)) (mNil))))))) (sNx))
    (sSeq (sAsg (gV 5) (mMeth 0 m_Frames_narrow [] (mU (getF 8) (mV 0)) (mCons (mV 1) (mCons (mB oIx (mV 2) (mK (.int 1))) (mNil)))))
    (sSeq (sIf (tTr (mV 5)) (sDrop (mMeth 1 m_Pages_narrowed [] (mU (getF 35) (mV 0)) (mCons (mV 1) (mCons (mB oIx (mV 2) (mK (.int 1))) (mNil))))) (sNx))
    (sRet (mCall m_told [] (mCons (mV 5) (mCons (mK (.str 31)) (mNil)))))))))))))
def m_Pages_map : List Val → Heap → Res Val := runB 5 6
    (sSeq (sIf (tOr_ (tNo (tTr (mCall m_is_page [] (mCons (mV 2) (mNil))))) (tB_ (mB (oIn true) (mV 4) (mK c_RIGHTS)))) (sRet (mK (.bl false))) (sNx))
    (sSeq (sAsg (gV 5) (mMeth 0 m_Frames_right [] (mU (getF 8) (mV 0)) (mCons (mV 1) (mCons (mV 3) (mNil)))))
    (sSeq (sIf (tOr_ (tB_ (mU (oIsN false) (mV 5))) (tNo (tTr (mCall m_includes [] (mCons (mV 5) (mCons (mV 4) (mNil))))))) (sRet (mK (.bl false))) (sNx))
    (sSeq (sSub (mB oIx (mU (getF 9) (mV 0)) (mV 1)) (mV 2) (mTup (mCons (mV 3) (mCons (mV 4) (mNil)))))
    (sRet (mK (.bl true)))))))
def m_Pages_unmap : List Val → Heap → Res Val := runB 3 3
    (sSeq (sIf (tNo (tTr (mCall m_is_page [] (mCons (mV 2) (mNil))))) (sRet (mK (.bl false))) (sNx))
    (sRet (mU (oIsN true) (mPop2 (mB oIx (mU (getF 9) (mV 0)) (mV 1)) (mV 2) (mK .non)))))
def m_Frames_read : List Val → Heap → Res Val := runB 3 3
    (sRet (mB oIx (mB oIx (mU (getF 3) (mV 0)) (mV 1)) (mV 2)))
def m_Pages_load : List Val → Heap → Res Val := runB 4 5
    (sSeq (sAsg (gV 4) (mMeth 1 m_Pages_entry [] (mV 0) (mCons (mV 1) (mCons (mV 2) (mNil)))))
    (sSeq (sIf (tOr_ (tB_ (mU (oIsN false) (mV 4))) (tOr_ (tNo (tTr (mCall m_is_number [] (mCons (mV 3) (mNil))))) (tNo (tB_ (mChLeLt (mK (.int 0)) (mV 3) (mK (.int 8))))))) (sRet (mK .non)) (sNx))
    (sRet (mMeth 0 m_Frames_read [] (mU (getF 8) (mV 0)) (mCons (mB oIx (mV 4) (mK (.int 0))) (mCons (mV 3) (mNil)))))))
def m_is_word : List Val → Heap → Res Val := runB 1 1
    (sRet (mAn (mCall m_is_number [] (mCons (mV 0) (mNil))) (mChLeLe (mK (.int 0)) (mV 0) (mK (.int 4294967295)))))
def m_Frames_write : List Val → Heap → Res Val := runB 4 4
    (sSub (mB oIx (mU (getF 3) (mV 0)) (mV 1)) (mV 2) (mV 3))
def m_Pages_store : List Val → Heap → Res Val := runB 5 6
    (sSeq (sAsg (gV 5) (mMeth 1 m_Pages_entry [] (mV 0) (mCons (mV 1) (mCons (mV 2) (mNil)))))
    (sSeq (sIf (tOr_ (tB_ (mU (oIsN false) (mV 5))) (tOr_ (tB_ (mB (oEq true) (mB oIx (mV 5) (mK (.int 1))) (mK (.str 0)))) (tNo (tTr (mCall m_is_word [] (mCons (mV 4) (mNil))))))) (sRet (mK (.bl false))) (sNx))
    (sSeq (sIf (tOr_ (tNo (tTr (mCall m_is_number [] (mCons (mV 3) (mNil))))) (tNo (tB_ (mChLeLt (mK (.int 0)) (mV 3) (mK (.int 8)))))) (sRet (mK (.bl false))) (sNx))
    (sSeq (sDrop (mMeth 0 m_Frames_write [] (mU (getF 8) (mV 0)) (mCons (mB oIx (mV 5) (mK (.int 0))) (mCons (mV 3) (mCons (mV 4) (mNil))))))
    (sRet (mK (.bl true)))))))
def m_Kernel__pages : List Val → Heap → Res Val := runB 3 5
    (sSeq (sAsg (gV 3) (mB oIx (mV 2) (mK (.int 0))))
    (sSeq (sIf (tB_ (mB (oEq false) (mV 3) (mK (.str 17)))) (sRet (mCall m_told [] (mCons (mMeth 1 m_Pages_map [] (mU (getF 35) (mV 0)) (mCons (mV 1) (mCons (mB oIx (mV 2) (mK (.int 1))) (mCons (mB oIx (mV 2) (mK (.int 2))) (mCons (mB oIx (mV 2) (mK (.int 3))) (mNil)))))) (mCons (mK (.str 31)) (mNil))))) (sNx))
    (sSeq (sIf (tB_ (mB (oEq false) (mV 3) (mK (.str 18)))) (sRet (mCall m_told [] (mCons (mMeth 1 m_Pages_unmap [] (mU (getF 35) (mV 0)) (mCons (mV 1) (mCons (mB oIx (mV 2) (mK (.int 1))) (mNil)))) (mCons (mK (.str 32)) (mNil))))) (sNx))
    (sSeq (sIf (tB_ (mB (oEq false) (mV 3) (mK (.str 19)))) (sSeq (sAsg (gV 4) (mMeth 1 m_Pages_load [] (mU (getF 35) (mV 0)) (mCons (mV 1) (mCons (mB oIx (mV 2) (mK (.int 1))) (mCons (mB oIx (mV 2) (mK (.int 2))) (mNil))))))
    (sRet (mIf (tB_ (mU (oIsN false) (mV 4))) (mTup (mCons (mK (.str 8)) (mCons (mK (.str 32)) (mNil)))) (mTup (mCons (mK (.str 9)) (mCons (mV 4) (mNil))))))) (sNx))
    (sRet (mCall m_told [] (mCons (mMeth 1 m_Pages_store [] (mU (getF 35) (mV 0)) (mCons (mV 1) (mCons (mB oIx (mV 2) (mK (.int 1))) (mCons (mB oIx (mV 2) (mK (.int 2))) (mCons (mB oIx (mV 2) (mK (.int 3))) (mNil)))))) (mCons (mK (.str 32)) (mNil)))))))))
def m_Kernel_request : List Val → Heap → Res Val := runB 3 4
    (sSeq (sIf (tOr_ (tNo (tTr (mIsi .tup (mV 2)))) (tOr_ (tB_ (mB (oEq false) (mL bLen (mCons (mV 2) (mNil))) (mK (.int 0)))) (tNo (tTr (mIsi .str (mB oIx (mV 2) (mK (.int 0)))))))) (sRet (mK c_BAD_kernel)) (sNx))
    (sSeq (sAsg (gV 3) (mB oIx (mV 2) (mK (.int 0))))
    (sSeq (sIf (tB_ (mU (kIn true c_LENGTHS_kernel) (mV 3))) (sRet (mDead)) (sNx))
    (sSeq (sIf (tB_ (mB (oEq true) (mL bLen (mCons (mV 2) (mNil))) (mU (kIx c_LENGTHS_kernel) (mV 3)))) (sRet (mK c_BAD_kernel)) (sNx))
    (sSeq (sIf (tB_ (mB (oIn false) (mV 3) (mTup (mCons (mK (.str 11)) (mCons (mK (.str 12)) (mCons (mK (.str 13)) (mCons (mK (.str 14)) (mCons (mK (.str 15)) (mCons (mK (.str 16)) (mNil)))))))))) (sRet (mMeth 9 m_Kernel__frames [] (mV 0) (mCons (mV 1) (mCons (mV 2) (mNil))))) (sNx))
    (sSeq (sIf (tB_ (mB (oIn false) (mV 3) (mTup (mCons (mK (.str 17)) (mCons (mK (.str 18)) (mCons (mK (.str 19)) (mCons (mK (.str 20)) (mNil)))))))) (sRet (mMeth 9 m_Kernel__pages [] (mV 0) (mCons (mV 1) (mCons (mV 2) (mNil))))) (sNx))
    (sSeq (sIf (tB_ (mB (oIn false) (mV 3) (mTup (mCons (mK (.str 23)) (mCons (mK (.str 24)) (mCons (mK (.str 25)) (mCons (mK (.str 26)) (mNil)))))))) (sRet (mDead)) (sNx))
    (sRet (mDead)))))))))
def m_Stack_step : List Val → Heap → Res Val := runB 3 4
    (sSeq (sDrop (mMeth 10 m_Stack__settle [] (mV 0) (mNil)))
    (sSeq (sIf (tNo (tTr (mU (getF 10) (mV 0)))) (sRet (mK (.bl false))) (sNx))
    (sSeq (sAsg (gV 3) (mB oIx (mU (getF 10) (mV 0)) (mU oNeg (mK (.int 1)))))
    (sSeq (sDrop (mAlt (mMeth 14 m_Make_accept [] (mV 3) (mCons (mMeth 9 m_Kernel_request [] (mV 1) (mCons (mV 2) (mCons (mAlt (mMeth 14 m_Make_request [] (mV 3) (mNil)) (mAlt (mMeth 15 m_Put_request [] (mV 3) (mNil)) (mAlt (mMeth 16 m_Take_request [] (mV 3) (mNil)) (mMeth 17 m_End_request [] (mV 3) (mNil))))) (mNil)))) (mNil))) (mAlt (mMeth 15 m_Put_accept [] (mV 3) (mCons (mMeth 9 m_Kernel_request [] (mV 1) (mCons (mV 2) (mCons (mAlt (mMeth 14 m_Make_request [] (mV 3) (mNil)) (mAlt (mMeth 15 m_Put_request [] (mV 3) (mNil)) (mAlt (mMeth 16 m_Take_request [] (mV 3) (mNil)) (mMeth 17 m_End_request [] (mV 3) (mNil))))) (mNil)))) (mNil))) (mAlt (mMeth 16 m_Take_accept [] (mV 3) (mCons (mMeth 9 m_Kernel_request [] (mV 1) (mCons (mV 2) (mCons (mAlt (mMeth 14 m_Make_request [] (mV 3) (mNil)) (mAlt (mMeth 15 m_Put_request [] (mV 3) (mNil)) (mAlt (mMeth 16 m_Take_request [] (mV 3) (mNil)) (mMeth 17 m_End_request [] (mV 3) (mNil))))) (mNil)))) (mNil))) (mMeth 17 m_End_accept [] (mV 3) (mCons (mMeth 9 m_Kernel_request [] (mV 1) (mCons (mV 2) (mCons (mAlt (mMeth 14 m_Make_request [] (mV 3) (mNil)) (mAlt (mMeth 15 m_Put_request [] (mV 3) (mNil)) (mAlt (mMeth 16 m_Take_request [] (mV 3) (mNil)) (mMeth 17 m_End_request [] (mV 3) (mNil))))) (mNil)))) (mNil)))))))
    (sSeq (sDrop (mMeth 10 m_Stack__settle [] (mV 0) (mNil)))
    (sRet (mK (.bl true))))))))
def m_Stack_ended : List Val → Heap → Res Val := runB 1 1
    (sRet (mNoT (mU (getF 10) (mV 0))))
def m_Stack_value : List Val → Heap → Res Val := runB 1 1
    (sRet (mU (getF 11) (mV 0)))
def m__law_run : List Val → Heap → Res Val := runB 2 4
    (sSeq (sAsg (gV 2) (mMake 10 m_Stack___init__ [] (mCons (mV 1) (mNil))))
    (sSeq (sFor (iRng1 (mCons (mK (.int 400)) (mNil))) (gV 3) (sSeq (sIf (tNo (tTr (mMeth 10 m_Stack_step [] (mV 2) (mCons (mV 0) (mCons (mK (.int 0)) (mNil)))))) (sBk) (sNx))
    (sIf (tTr (mMeth 10 m_Stack_ended [] (mV 2) (mNil))) (sBk) (sNx))))
    (sRet (mMeth 10 m_Stack_value [] (mV 2) (mNil)))))
def m_Pipes_least : List Val → Heap → Res Val := runB 1 2
    (sSeq (sFor (iRng1 (mCons (mK (.int 4)) (mNil))) (gV 1) (sIf (tB_ (mB (oIn true) (mV 1) (mU (getF 29) (mV 0)))) (sRet (mV 1)) (sNx)))
    (sRet (mK .non)))
def m_Memory_held : List Val → Heap → Res Val := runB 1 4
    (sSeq (sAsg (gV 1) (mLst (mNil)))
    (sSeq (sFor (iAlt (iLst (mU (getF 38) (mV 0))) (iTup_ (mU (getF 38) (mV 0)))) (gV 2) (sFor (iAlt (iLst (mV 2)) (iTup_ (mV 2))) (gV 3) (sIf (tB_ (mB (oIn true) (mV 3) (mV 1))) (sDrop (mBM bAppend (mV 1) (mCons (mV 3) (mNil)))) (sNx))))
    (sRet (mB oAdd (mL bLen (mCons (mV 1) (mNil))) (mU (getF 39) (mV 0))))))
def m_Memory_is_full : List Val → Heap → Res Val := runB 1 1
    (sRet (mB oGe (mMeth 12 m_Memory_held [] (mV 0) (mNil)) (mU (getF 37) (mV 0))))
def m_Make___init__ : List Val → Heap → Res Val := runB 2 2
    (sSeq (sFld 14 41 (mV 0) (mV 1))
    (sSeq (sFld 14 42 (mV 0) (mMeth 13 m_Pipes_least [] (mV 1) (mNil)))
    (sSeq (sFld 14 43 (mV 0) (mK (.str 11)))
    (sSeq (sFld 14 6 (mV 0) (mTup (mCons (mK (.str 11)) (mNil))))
    (sIf (tOr_ (tB_ (mU (oIsN false) (mU (getF 42) (mV 0)))) (tTr (mMeth 12 m_Memory_is_full [] (mU (getF 40) (mV 1)) (mNil)))) (sFld 14 6 (mV 0) (mTup (mCons (mK (.str 5)) (mCons (mK .non) (mNil))))) (sNx))))))
def m_Pipes_is_there : List Val → Heap → Res Val := runB 2 2
    (sRet (mB (oIn false) (mV 1) (mU (getF 29) (mV 0))))
def m_Put___init__ : List Val → Heap → Res Val := runB 4 6
    (sSeq (sFld 15 41 (mV 0) (mV 1))
    (sSeq (sFld 15 42 (mV 0) (mV 2))
    (sSeq (sAsg (gV 4) (mMeth 13 m_Pipes_size [] (mV 1) (mCons (mV 2) (mNil))))
    (sSeq (sFld 15 6 (mV 0) (mTup (mCons (mK (.str 5)) (mCons (mK (.bl false)) (mNil)))))
    (sIf (tB_ (mB oLt (mV 4) (mK (.int 8)))) (sSeq (sAsg (gV 5) (mB oMd (mB oAdd (mMeth 13 m_Pipes_head [] (mV 1) (mCons (mV 2) (mNil))) (mV 4)) (mK (.int 8))))
    (sFld 15 6 (mV 0) (mTup (mCons (mK (.str 20)) (mCons (mB oAdd (mK (.int 24)) (mV 2)) (mCons (mV 5) (mCons (mV 3) (mNil)))))))) (sNx))))))
def m_Take___init__ : List Val → Heap → Res Val := runB 3 3
    (sSeq (sFld 16 41 (mV 0) (mV 1))
    (sSeq (sFld 16 42 (mV 0) (mV 2))
    (sSeq (sFld 16 6 (mV 0) (mTup (mCons (mK (.str 5)) (mCons (mK .non) (mNil)))))
    (sIf (tB_ (mB oGt (mMeth 13 m_Pipes_size [] (mV 1) (mCons (mV 2) (mNil))) (mK (.int 0)))) (sFld 16 6 (mV 0) (mTup (mCons (mK (.str 19)) (mCons (mB oAdd (mK (.int 24)) (mV 2)) (mCons (mMeth 13 m_Pipes_head [] (mV 1) (mCons (mV 2) (mNil))) (mNil)))))) (sNx)))))
def m_End___init__ : List Val → Heap → Res Val := runB 3 3
    (sSeq (sFld 17 41 (mV 0) (mV 1))
    (sSeq (sFld 17 42 (mV 0) (mV 2))
    (sSeq (sFld 17 44 (mV 0) (mMeth 13 m_Pipes_frame [] (mV 1) (mCons (mV 2) (mNil))))
    (sSeq (sFld 17 43 (mV 0) (mK (.str 18)))
    (sFld 17 6 (mV 0) (mTup (mCons (mK (.str 18)) (mCons (mB oAdd (mK (.int 24)) (mV 2)) (mNil)))))))))
def m_law : List Val → Heap → Res Val := runB 1 18
    (sSeq (sAsg (gV 1) (mLst (mCons (mL bList (mCons (mV 0) (mNil))) (mCons (mK (.int 0)) (mCons (mK (.int 0)) (mCons (mK (.int 31)) (mNil)))))))
    (sSeq (sAsg (gV 2) (mB oAdd (mK (.int 2)) (mCall m__law_next [] (mCons (mV 1) (mCons (mK (.int 5)) (mNil))))))
    (sSeq (sAsg (gV 3) (mCall m__law_kernel [] (mCons (mK (.int 10)) (mCons (mV 2) (mNil)))))
    (sSeq (sAsg (gV 4) (mMake 12 m_Memory___init__ [] (mCons (mV 2) (mNil))))
    (sSeq (sAsg (gV 5) (mMake 13 m_Pipes___init__ [] (mCons (mV 4) (mNil))))
    (sSeq (sAsg (gV 6) (mDct))
    (sSeq (sAsg (gV 7) (mDct))
    (sSeq (sFor (iRng1 (mCons (mCall m__law_next [] (mCons (mV 1) (mCons (mB oIx (mLst (mCons (mK (.int 30)) (mCons (mK (.int 81)) (mNil)))) (mCall m__law_next [] (mCons (mV 1) (mCons (mK (.int 2)) (mNil))))) (mNil)))) (mNil))) (gV 8) (sSeq (sAsg (gV 9) (mCall m__law_next [] (mCons (mV 1) (mCons (mK (.int 9)) (mNil)))))
    (sSeq (sAsg (gV 10) (mCall m__law_next [] (mCons (mV 1) (mCons (mK (.int 4)) (mNil)))))
    (sSeq (sAsg (gV 11) (mK .non))
    (sSeq (sIf (tB_ (mB (oEq false) (mV 9) (mK (.int 0)))) (sSeq (sAsg (gV 12) (mLc (iRng1 (mCons (mK (.int 4)) (mNil))) (gV 15) (tB_ (mB (oIn true) (mV 15) (mV 6))) (mV 15) [15]))
    (sSeq (sIf (tAn (tTr (mV 12)) (tB_ (mB oLt (mL bLen (mCons (mV 6) (mNil))) (mV 2)))) (sSeq (sAsg (gV 11) (mB oIx (mV 12) (mK (.int 0))))
    (sSeq (sSub (mV 6) (mV 11) (mLst (mNil)))
    (sSub (mV 7) (mV 11) (mK (.int 0))))) (sNx))
    (sAsg (gV 13) (mCall m__law_run [] (mCons (mV 3) (mCons (mMake 14 m_Make___init__ [] (mCons (mV 5) (mNil))) (mNil))))))) (sIf (tB_ (mB (oIn true) (mV 10) (mV 6))) (sSeq (sIf (tTr (mMeth 13 m_Pipes_is_there [] (mV 5) (mCons (mV 10) (mNil)))) (sRet (mK (.bl false))) (sNx))
    (sCt)) (sIf (tB_ (mB oLt (mV 9) (mK (.int 5)))) (sSeq (sAsg (gV 14) (mCall m__law_next [] (mCons (mV 1) (mCons (mK (.int 1000)) (mNil)))))
    (sSeq (sAsg (gV 11) (mB oLt (mL bLen (mCons (mB oIx (mV 6) (mV 10)) (mNil))) (mK (.int 8))))
    (sSeq (sIf (tTr (mV 11)) (sDrop (mBM bAppend (mB oIx (mV 6) (mV 10)) (mCons (mV 14) (mNil)))) (sNx))
    (sAsg (gV 13) (mCall m__law_run [] (mCons (mV 3) (mCons (mMake 15 m_Put___init__ [] (mCons (mV 5) (mCons (mV 10) (mCons (mV 14) (mNil))))) (mNil)))))))) (sIf (tB_ (mB oLt (mV 9) (mK (.int 8)))) (sSeq (sIf (tTr (mB oIx (mV 6) (mV 10))) (sSeq (sAsg (gV 11) (mBM bPopAt (mB oIx (mV 6) (mV 10)) (mCons (mK (.int 0)) (mNil))))
    (sSub (mV 7) (mV 10) (mB oMd (mB oAdd (mB oIx (mV 7) (mV 10)) (mK (.int 1))) (mK (.int 8))))) (sNx))
    (sAsg (gV 13) (mCall m__law_run [] (mCons (mV 3) (mCons (mMake 16 m_Take___init__ [] (mCons (mV 5) (mCons (mV 10) (mNil)))) (mNil)))))) (sSeq (sDrop (mPop1 (mV 6) (mV 10)))
    (sAsg (gV 13) (mCall m__law_run [] (mCons (mV 3) (mCons (mMake 17 m_End___init__ [] (mCons (mV 5) (mCons (mV 10) (mNil)))) (mNil))))))))))
    (sSeq (sIf (tOr_ (tB_ (mB (oEq true) (mV 13) (mV 11))) (tOr_ (tB_ (mB (oEq true) (mMeth 12 m_Memory_held [] (mV 4) (mNil)) (mL bLen (mCons (mV 6) (mNil))))) (tB_ (mB (oEq true) (mMeth 0 m_Frames_charge [] (mU (getF 8) (mV 3)) (mCons (mK (.int 0)) (mNil))) (mL bLen (mCons (mV 6) (mNil))))))) (sRet (mK (.bl false))) (sNx))
    (sForD (mV 6) (gV 15) (sSeq (sIf (tOr_ (tNo (tTr (mMeth 13 m_Pipes_is_there [] (mV 5) (mCons (mV 15) (mNil))))) (tB_ (mB (oEq true) (mMeth 13 m_Pipes_size [] (mV 5) (mCons (mV 15) (mNil))) (mL bLen (mCons (mB oIx (mV 6) (mV 15)) (mNil)))))) (sRet (mK (.bl false))) (sNx))
    (sSeq (sAsg (gV 16) (mLc (iRng1 (mCons (mL bLen (mCons (mB oIx (mV 6) (mV 15)) (mNil))) (mNil))) (gV 17) (tTrue) (mMeth 1 m_Pages_load [] (mU (getF 35) (mV 3)) (mCons (mK (.int 0)) (mCons (mB oAdd (mK (.int 24)) (mV 15)) (mCons (mB oMd (mB oAdd (mB oIx (mV 7) (mV 15)) (mV 17)) (mK (.int 8))) (mNil))))) [17]))
    (sIf (tB_ (mB (oEq true) (mV 16) (mB oIx (mV 6) (mV 15)))) (sRet (mK (.bl false))) (sNx)))))))))))
    (sRet (mK (.bl true)))))))))))
end Lw

set_option Elab.async false
set_option linter.all false
set_option autoImplicit false
set_option maxHeartbeats 4000000
set_option maxRecDepth 100000
namespace Lw
open PyM
theorem lim8 : 100000 < lim := by decide
structure FS where
  F : Nat
  sh : Nat
  HL : Nat
  WL : Nat
  OL : Nat
  OF : Nat
  WA : Nat
  LO : Nat
  many : Nat
  shares : List Int
  hd : List (Nat × List (Val × Val))
  ws : List (Nat × List Val)
  os : List (Nat × List Int)
  offers : List (Val × Val)
  wanted : List Val
  ls : List (Nat × List Int)
def refs {α : Type} (l : List (Nat × α)) : List Val := l.map fun p => .ref p.1
def FS.obj (s : FS) : Obj := .ins 0 [(0, .int s.many), (1, .ref s.sh), (2, .ref s.HL), (3, .ref s.WL), (4, .ref s.OL), (5, .ref s.OF), (6, .ref s.WA), (7, .ref s.LO)]
def FS.base (s : FS) : Nodes := [(s.F, s.obj), (s.sh, .lst (s.shares.map Val.int)), (s.HL, .lst (refs s.hd)), (s.WL, .lst (refs s.ws)), (s.OL, .lst (refs s.os)), (s.OF, .dcT s.offers), (s.WA, .lst s.wanted), (s.LO, .lst (refs s.ls))]
def dN (p : Nat × List (Val × Val)) : Nat × Obj := (p.1, .dct p.2)
def vN (p : Nat × List Val) : Nat × Obj := (p.1, .lst p.2)
def iN (p : Nat × List Int) : Nat × Obj := (p.1, .lst (p.2.map Val.int))
def FS.nodes (s : FS) : Nodes := s.base ++ (s.hd.map dN ++ (s.ws.map vN ++ (s.os.map iN ++ s.ls.map iN)))
structure FOk (s : FS) : Prop where
  m0 : 8 ≤ s.many
  m1 : s.many ≤ 64
  sh : s.shares.length = 4
  hd : s.hd.length = s.many
  ws : s.ws.length = s.many
  os : s.os.length = 4
  wa : s.wanted.length = 4
  ls : s.ls.length = 4
structure Fd (s : FS) (h : Heap) : Prop where
  eF : h[s.F]? = some s.obj
  eS : h[s.sh]? = some (.lst (s.shares.map Val.int))
  eH : h[s.HL]? = some (.lst (refs s.hd))
  eW : h[s.WL]? = some (.lst (refs s.ws))
  eO : h[s.OL]? = some (.lst (refs s.os))
  eF5 : h[s.OF]? = some (.dcT s.offers)
  eA : h[s.WA]? = some (.lst s.wanted)
  eL : h[s.LO]? = some (.lst (refs s.ls))
  hd : ∀ (f a : Nat) (k : List (Val × Val)), s.hd[f]? = some (a, k) → h[a]? = some (.dct k)
  ws : ∀ (f a : Nat) (k : List Val), s.ws[f]? = some (a, k) → h[a]? = some (.lst k)
  os : ∀ (f a : Nat) (k : List Int), s.os[f]? = some (a, k) → h[a]? = some (.lst (k.map Val.int))
  ls : ∀ (f a : Nat) (k : List Int), s.ls[f]? = some (a, k) → h[a]? = some (.lst (k.map Val.int))
theorem Fd.ext {s : FS} {h h' : Heap} (r : Fd s h) (x : Ext h h') : Fd s h' :=
  ⟨x.at r.eF, x.at r.eS, x.at r.eH, x.at r.eW, x.at r.eO, x.at r.eF5, x.at r.eA, x.at r.eL, fun f a k e => x.at (r.hd f a k e), fun f a k e => x.at (r.ws f a k e), fun f a k e => x.at (r.os f a k e), fun f a k e => x.at (r.ls f a k e)⟩
theorem mem_map_at {α : Type} {g : α → Nat × Obj} {l : List α} {i : Nat} {x : α} (e : l[i]? = some x) : g x ∈ l.map g := List.mem_map_of_mem (List.mem_of_getElem? e)
theorem fr_of {s : FS} {R : Nodes} {h : Heap} (o : On (s.nodes ++ R) h) : Fd s h := by
  have b : ∀ (i : Nat) (x : Nat × Obj), s.base[i]? = some x → h[x.1]? = some x.2 := fun i x e => o.at_ x (List.mem_append_left _ (List.mem_append_left _ (List.mem_of_getElem? e)))
  refine ⟨b 0 _ rfl, b 1 _ rfl, b 2 _ rfl, b 3 _ rfl, b 4 _ rfl, b 5 _ rfl, b 6 _ rfl, b 7 _ rfl, fun f a k e => ?_, fun f a k e => ?_, fun f a k e => ?_, fun f a k e => ?_⟩
  · exact o.at_ _ (List.mem_append_left _ (List.mem_append_right _ (List.mem_append_left _ (mem_map_at (g := dN) e))))
  · exact o.at_ _ (List.mem_append_left _ (List.mem_append_right _ (List.mem_append_right _ (List.mem_append_left _ (mem_map_at (g := vN) e)))))
  · exact o.at_ _ (List.mem_append_left _ (List.mem_append_right _ (List.mem_append_right _ (List.mem_append_right _ (List.mem_append_left _ (mem_map_at (g := iN) e))))))
  · exact o.at_ _ (List.mem_append_left _ (List.mem_append_right _ (List.mem_append_right _ (List.mem_append_right _ (List.mem_append_right _ (mem_map_at (g := iN) e))))))
/-! places of the families -/
theorem app_at {α : Type} {A B : List α} {i n : Nat} {x : α} (hn : A.length = n) (e : B[i]? = some x) : (A ++ B)[n + i]? = some x := by
  rw [List.getElem?_append_right (by omega)]
  rw [show n + i - A.length = i by omega]; exact e
theorem app_l {α : Type} {A B : List α} {i : Nat} {x : α} (e : A[i]? = some x) : (A ++ B)[i]? = some x := by
  rw [List.getElem?_append_left (List.getElem?_eq_some_iff.mp e).1]; exact e
theorem app_setr {α : Type} {A B : List α} {i n : Nat} {x : α} (hn : A.length = n) : (A ++ B).set (n + i) x = A ++ B.set i x := by
  rw [List.set_append_right _ _ (by omega), show n + i - A.length = i by omega]
theorem app_setl {α : Type} {A B : List α} {i : Nat} {x y : α} (e : A[i]? = some y) : (A ++ B).set i x = A.set i x ++ B := by
  rw [List.set_append_left _ _ (List.getElem?_eq_some_iff.mp e).1]
theorem refs_set {α : Type} {l : List (Nat × α)} {i a : Nat} {x y : α} (e : l[i]? = some (a, x)) : refs (l.set i (a, y)) = refs l := by
  unfold refs
  apply List.ext_getElem?
  intro j
  rw [List.getElem?_map, List.getElem?_map, List.getElem?_set]
  split
  · rename_i hj
    subst hj
    rw [if_pos (List.getElem?_eq_some_iff.mp e).1, e]; rfl
  · rfl
section
variable {s : FS} {R : Nodes} {h : Heap}
theorem on_hd (o : On (s.nodes ++ R) h) {f a : Nat} {k k' : List (Val × Val)} (e : s.hd[f]? = some (a, k)) : On ({ s with hd := s.hd.set f (a, k') }.nodes ++ R) (h.set a (.dct k')) := by
  have e1 : (s.hd.map dN)[f]? = some (dN (a, k)) := by rw [List.getElem?_map, e]; rfl
  have e2 : (s.nodes ++ R)[8 + f]? = some (a, .dct k) := app_l (app_at rfl (app_l e1))
  have e3 := app_l (B := s.ws.map vN ++ (s.os.map iN ++ s.ls.map iN)) e1
  have z := o.set e2 (.dct k')
  have q : (s.nodes ++ R).set (8 + f) (a, .dct k') = { s with hd := s.hd.set f (a, k') }.nodes ++ R := by
    rw [app_setl (show s.nodes[8 + f]? = _ from app_at (A := s.base) rfl e3)]
    unfold FS.nodes
    rw [app_setr (A := s.base) (n := 8) rfl, app_setl e1]
    simp only [FS.base, FS.obj, List.map_set, refs_set e]
    rfl
  rw [q] at z
  exact z
theorem on_os (o : On (s.nodes ++ R) h) {f a : Nat} {k k' : List Int} (e : s.os[f]? = some (a, k)) : On ({ s with os := s.os.set f (a, k') }.nodes ++ R) (h.set a (.lst (k'.map Val.int))) := by
  have e1 : (s.os.map iN)[f]? = some (iN (a, k)) := by rw [List.getElem?_map, e]; rfl
  have e3 := app_l (B := s.ls.map iN) e1
  have e4 := app_at (A := s.ws.map vN) (n := s.ws.length) (by simp) e3
  have e5 := app_at (A := s.hd.map dN) (n := s.hd.length) (by simp) e4
  have e6 : s.nodes[8 + _]? = _ := app_at (A := s.base) (n := 8) rfl e5
  have z := o.set (app_l (B := R) e6) (.lst (k'.map Val.int))
  have q : (s.nodes ++ R).set (8 + (s.hd.length + (s.ws.length + f))) (a, .lst (k'.map Val.int)) = { s with os := s.os.set f (a, k') }.nodes ++ R := by
    rw [app_setl e6]
    unfold FS.nodes
    rw [app_setr (A := s.base) (n := 8) rfl, app_setr (n := s.hd.length) (by simp), app_setr (n := s.ws.length) (by simp), app_setl e1]
    simp only [FS.base, FS.obj, List.map_set, refs_set e]
    rfl
  rw [q] at z
  exact z
theorem on_ws (o : On (s.nodes ++ R) h) {f a : Nat} {k k' : List Val} (e : s.ws[f]? = some (a, k)) : On ({ s with ws := s.ws.set f (a, k') }.nodes ++ R) (h.set a (.lst k')) := by
  have e1 : (s.ws.map vN)[f]? = some (vN (a, k)) := by rw [List.getElem?_map, e]; rfl
  have e4 := app_l (B := s.os.map iN ++ s.ls.map iN) e1
  have e5 := app_at (A := s.hd.map dN) (n := s.hd.length) (by simp) e4
  have e6 : s.nodes[8 + _]? = _ := app_at (A := s.base) (n := 8) rfl e5
  have z := o.set (app_l (B := R) e6) (.lst k')
  have q : (s.nodes ++ R).set (8 + (s.hd.length + f)) (a, .lst k') = { s with ws := s.ws.set f (a, k') }.nodes ++ R := by
    rw [app_setl e6]
    unfold FS.nodes
    rw [app_setr (A := s.base) (n := 8) rfl, app_setr (n := s.hd.length) (by simp), app_setl e1]
    simp only [FS.base, FS.obj, List.map_set, refs_set e]
    rfl
  rw [q] at z
  exact z
theorem on_of (o : On (s.nodes ++ R) h) (d : List (Val × Val)) : On ({ s with offers := d }.nodes ++ R) (h.set s.OF (.dcT d)) := by
  have z := o.set (i := 5) (a := s.OF) (x := .dcT s.offers) rfl (.dcT d)
  exact z
theorem on_wa (o : On (s.nodes ++ R) h) (d : List Val) : On ({ s with wanted := d }.nodes ++ R) (h.set s.WA (.lst d)) := by
  have z := o.set (i := 6) (a := s.WA) (x := .lst s.wanted) rfl (.lst d)
  exact z
/-- a row of words anew: a new list -/
theorem on_wnew (o : On (s.nodes ++ R) h) {f a a' : Nat} {k k' : List Val} (e : s.ws[f]? = some (a, k)) (ea : h[a']? = some (.lst k')) (hn : ∀ p ∈ s.nodes ++ R, p.1 ≠ a') :
    On ({ s with ws := s.ws.set f (a', k') }.nodes ++ R) (h.set s.WL (.lst (refs (s.ws.set f (a', k'))))) := by
  have e1 : (s.ws.map vN)[f]? = some (vN (a, k)) := by rw [List.getElem?_map, e]; rfl
  have e4 := app_l (B := s.os.map iN ++ s.ls.map iN) e1
  have e5 := app_at (A := s.hd.map dN) (n := s.hd.length) (by simp) e4
  have e6 : s.nodes[8 + _]? = _ := app_at (A := s.base) (n := 8) rfl e5
  have z := o.repl (app_l (B := R) e6) ea hn
  have q : (s.nodes ++ R).set (8 + (s.hd.length + f)) (a', .lst k') = s.base ++ (s.hd.map dN ++ ((s.ws.set f (a', k')).map vN ++ (s.os.map iN ++ s.ls.map iN))) ++ R := by
    rw [app_setl e6]
    unfold FS.nodes
    rw [app_setr (A := s.base) (n := 8) rfl, app_setr (n := s.hd.length) (by simp), app_setl e1]
    simp only [List.map_set]
    rfl
  rw [q] at z
  exact z.set (i := 3) (a := s.WL) (x := .lst (refs s.ws)) rfl (.lst (refs (s.ws.set f (a', k'))))
theorem on_lnew (o : On (s.nodes ++ R) h) {f a a' : Nat} {k k' : List Int} (e : s.ls[f]? = some (a, k)) (ea : h[a']? = some (.lst (k'.map Val.int))) (hn : ∀ p ∈ s.nodes ++ R, p.1 ≠ a') :
    On ({ s with ls := s.ls.set f (a', k') }.nodes ++ R) (h.set s.LO (.lst (refs (s.ls.set f (a', k'))))) := by
  have e1 : (s.ls.map iN)[f]? = some (iN (a, k)) := by rw [List.getElem?_map, e]; rfl
  have e3 := app_at (A := s.os.map iN) (n := s.os.length) (by simp) e1
  have e4 := app_at (A := s.ws.map vN) (n := s.ws.length) (by simp) e3
  have e5 := app_at (A := s.hd.map dN) (n := s.hd.length) (by simp) e4
  have e6 : s.nodes[8 + _]? = _ := app_at (A := s.base) (n := 8) rfl e5
  have z := o.repl (app_l (B := R) e6) ea hn
  have q : (s.nodes ++ R).set (8 + (s.hd.length + (s.ws.length + (s.os.length + f)))) (a', .lst (k'.map Val.int)) = s.base ++ (s.hd.map dN ++ (s.ws.map vN ++ (s.os.map iN ++ (s.ls.set f (a', k')).map iN))) ++ R := by
    rw [app_setl e6]
    unfold FS.nodes
    rw [app_setr (A := s.base) (n := 8) rfl, app_setr (n := s.hd.length) (by simp), app_setr (n := s.ws.length) (by simp), app_setr (n := s.os.length) (by simp)]
    simp only [List.map_set]
    rfl
  rw [q] at z
  exact z.set (i := 7) (a := s.LO) (x := .lst (refs s.ls)) rfl (.lst (refs (s.ls.set f (a', k'))))
end
end Lw

set_option Elab.async false
set_option linter.all false
set_option autoImplicit false
set_option maxHeartbeats 4000000
set_option maxRecDepth 100000
namespace Lw
open PyM
theorem bSum_map {α : Type} {a : Nat} {h : Heap} {xs : List α} {b : α → Int} (e : h[a]? = some (.lst (xs.map fun x => .int (b x)))) : bSum [.ref a] h = .ok (.int (xs.map b).sum) h := by
  refine eq_of_wR ?_
  rw [wR_bSum]
  simp [seqOf_at e, optAll_int]
def FS.hdk (s : FS) (f : Nat) : List (Val × Val) := ((s.hd[f]?).map (·.2)).getD []
def FS.hda (s : FS) (f : Nat) : Nat := ((s.hd[f]?).map (·.1)).getD 0
def FS.ord (s : FS) (e : Nat) : List Int := ((s.os[e]?).map (·.2)).getD []
def FS.oa (s : FS) (e : Nat) : Nat := ((s.os[e]?).map (·.1)).getD 0
def FS.wd (s : FS) (f : Nat) : List Val := ((s.ws[f]?).map (·.2)).getD []
def FS.wa (s : FS) (f : Nat) : Nat := ((s.ws[f]?).map (·.1)).getD 0
def FS.lo (s : FS) (e : Nat) : List Int := ((s.ls[e]?).map (·.2)).getD []
def FS.la (s : FS) (e : Nat) : Nat := ((s.ls[e]?).map (·.1)).getD 0
def FS.shr (s : FS) (e : Nat) : Int := s.shares.getD e 0
def FS.len (s : FS) (e : Nat) : Int := (s.ord e).length
def FS.lft (s : FS) : Int := s.many - ((List.range 4).map s.len).sum
def FS.unf (s : FS) : Int := ((List.range 4).map fun e => if s.shr e - s.len e > 0 then s.shr e - s.len e else 0).sum
def FS.mhm (s : FS) (e : Nat) : Bool := decide (s.len e < s.shr e) || decide (s.unf < s.lft)
def FS.fre (s : FS) : List Nat := (List.range s.many).filter fun f => (s.hdk f).isEmpty
def FS.rt (s : FS) (e f : Nat) : Val := (lookV (s.hdk f) (.int e)).getD .non
def FS.wt (s : FS) (e : Nat) : Val := s.wanted.getD e .non
theorem getD_map {α β : Type} {l : List α} {i : Nat} (g : α → β) (d : β) (h : i < l.length) : ((l[i]?).map g).getD d = g l[i] := by
  rw [List.getElem?_eq_getElem h]; rfl
section
variable {s : FS} {h h' : Heap} {e f : Nat}
theorem FS.hd_at (s : FS) (hf : f < s.hd.length) : s.hd[f]? = some (s.hda f, s.hdk f) := by
  unfold FS.hda FS.hdk
  rw [getD_map _ _ hf, getD_map _ _ hf, List.getElem?_eq_getElem hf]
theorem FS.os_at (s : FS) (hf : f < s.os.length) : s.os[f]? = some (s.oa f, s.ord f) := by
  unfold FS.oa FS.ord
  rw [getD_map _ _ hf, getD_map _ _ hf, List.getElem?_eq_getElem hf]
theorem FS.ws_at (s : FS) (hf : f < s.ws.length) : s.ws[f]? = some (s.wa f, s.wd f) := by
  unfold FS.wa FS.wd
  rw [getD_map _ _ hf, getD_map _ _ hf, List.getElem?_eq_getElem hf]
theorem FS.ls_at (s : FS) (hf : f < s.ls.length) : s.ls[f]? = some (s.la f, s.lo f) := by
  unfold FS.la FS.lo
  rw [getD_map _ _ hf, getD_map _ _ hf, List.getElem?_eq_getElem hf]
theorem refs_at {α : Type} {l : List (Nat × α)} {i a : Nat} {x : α} (e : l[i]? = some (a, x)) : L2.atI (refs l) (i : Int) = some (.ref a) := by
  rw [atI_cast]; unfold refs; rw [List.getElem?_map, e]; rfl
theorem isF (r : Fd s h) : isIns 0 (.ref s.F) h = true := by
  have := r.eF; unfold FS.obj at this; simp [isIns, this]
theorem gF0 (r : Fd s h) : getF 0 (.ref s.F) h = .ok (.int s.many) h := by have := r.eF; unfold FS.obj at this; simp [getF, this, lookF]
theorem gF1 (r : Fd s h) : getF 1 (.ref s.F) h = .ok (.ref s.sh) h := by have := r.eF; unfold FS.obj at this; simp [getF, this, lookF]
theorem gF2 (r : Fd s h) : getF 2 (.ref s.F) h = .ok (.ref s.HL) h := by have := r.eF; unfold FS.obj at this; simp [getF, this, lookF]
theorem gF3 (r : Fd s h) : getF 3 (.ref s.F) h = .ok (.ref s.WL) h := by have := r.eF; unfold FS.obj at this; simp [getF, this, lookF]
theorem gF4 (r : Fd s h) : getF 4 (.ref s.F) h = .ok (.ref s.OL) h := by have := r.eF; unfold FS.obj at this; simp [getF, this, lookF]
theorem gF5 (r : Fd s h) : getF 5 (.ref s.F) h = .ok (.ref s.OF) h := by have := r.eF; unfold FS.obj at this; simp [getF, this, lookF]
theorem gF6 (r : Fd s h) : getF 6 (.ref s.F) h = .ok (.ref s.WA) h := by have := r.eF; unfold FS.obj at this; simp [getF, this, lookF]
theorem gF7 (r : Fd s h) : getF 7 (.ref s.F) h = .ok (.ref s.LO) h := by have := r.eF; unfold FS.obj at this; simp [getF, this, lookF]
theorem share_ok (K : FOk s) (r : Fd s h) (he : e < 4) : m_Frames_share [.ref s.F, .int e] h = .ok (.int (s.shr e)) h := by
  have ea : L2.atI (s.shares.map Val.int) (e : Int) = some (.int (s.shr e)) := by
    rw [atI_cast, List.getElem?_map, List.getElem?_eq_getElem (by have := K.sh; omega)]
    unfold FS.shr
    rw [List.getD_eq_getElem?_getD, List.getElem?_eq_getElem (by have := K.sh; omega)]; rfl
  refine eq_of_wR ?_
  unfold m_Frames_share
  refine wRB rfl ?_
  simp [gF1 r, r.eS, ea, -wR_getF]
theorem charge_ok (K : FOk s) (r : Fd s h) (he : e < 4) : m_Frames_charge [.ref s.F, .int e] h = .ok (.int (s.len e)) h := by
  have ho := s.os_at (f := e) (by have := K.os; omega)
  refine eq_of_wR ?_
  unfold m_Frames_charge
  refine wRB rfl ?_
  simp [gF4 r, r.eO, refs_at ho, r.os _ _ _ ho, FS.len, -wR_getF]
theorem left_ok (K : FOk s) (r : Fd s h) : ∃ h', m_Frames_left [.ref s.F] h = .ok (.int s.lft) h' ∧ Ext h h' := by
  have w : wR (m_Frames_left [.ref s.F] h) (fun _ _ => False) fun x h' => x = .int s.lft ∧ Ext h h' := by
    unfold m_Frames_left
    refine wRB rfl ?_
    have ll := lim8
    have lr : (refs s.os).length = 4 := by simp [refs, K.os]
    simp [gF0 r, -wR_getF, -wR_bSum]
    refine wR_iAltE (h1 := h) (a := s.OL) (xs := refs s.os) ?_ r.eO ?_
    · show mU (getF 4) (mV 0) _ h = _
      simp [mU, mV, Res.bind, gF4 r]
    · refine wR_lcXi (fun i => .int (s.len i)) (show (refs s.os).length < lim by omega) (fun h' ex => lstIs_at (ex.at r.eO)) (fun i x h' hx ex => ⟨_, rfl, ?_⟩) (fun h1 ex el => ?_)
      · have hx : (refs s.os)[i]? = some x := hx
        have hi : i < 4 := by have := (List.getElem?_eq_some_iff.mp hx).1; omega
        have ho := s.os_at (f := i) (by have := K.os; omega)
        have hx' : x = .ref (s.oa i) := by
          unfold refs at hx
          rw [List.getElem?_map, ho] at hx
          simpa using hx.symm
        subst hx'
        simp [wipeE, ex.at (r.os _ _ _ ho), FS.len]
        exact Ext.refl _
      · rw [lr] at el
        refine wR_eq (bSum_map el) ?_
        exact ⟨rfl, ex⟩
  obtain ⟨x, h', e, rfl, q⟩ := ex_of_wR w
  exact ⟨h', e, q⟩
theorem mhm_ok (K : FOk s) (r : Fd s h) (he : e < 4) : ∃ h', m_Frames_may_hold_more [.ref s.F, .int e] h = .ok (.bl (s.mhm e)) h' ∧ Ext h h' := by
  have w : wR (m_Frames_may_hold_more [.ref s.F, .int e] h) (fun _ _ => False) fun x h' => x = .bl (s.mhm e) ∧ Ext h h' := by
    unfold m_Frames_may_hold_more FS.mhm
    refine wRB rfl ?_
    have ll := lim8
    by_cases c : s.len e < s.shr e
    · simp [isF r, charge_ok K r he, share_ok K r he, c]
      exact Ext.refl _
    · simp [isF r, charge_ok K r he, share_ok K r he, c, -wR_bSum]
      refine wR_lcXi (fun i => .int (if s.shr i - s.len i > 0 then s.shr i - s.len i else 0)) (by rw [rangeV_length]; omega) (fun _ _ => rfl) (fun i x h' hx ex => ⟨_, rfl, ?_⟩) (fun h1 ex el => ?_)
      · rw [rangeV_get] at hx
        split at hx
        · rename_i hi
          cases hx
          have r' := r.ext ex
          have ea : L2.atI (s.shares.map Val.int) (i : Int) = some (.int (s.shr i)) := by
            rw [atI_cast, List.getElem?_map, List.getElem?_eq_getElem (by have := K.sh; omega)]
            unfold FS.shr
            rw [List.getD_eq_getElem?_getD, List.getElem?_eq_getElem (by have := K.sh; omega)]; rfl
          simp [wipeE, gF1 r', r'.eS, ea, isF r', charge_ok K r' hi, -wR_getF]
          exact Ext.refl _
        · cases hx
      · rw [rangeV_length] at el
        have r' := r.ext ex
        obtain ⟨h2, e2, x2⟩ := left_ok K r'
        simp [gV, isF r', e2, -wR_bSum]
        refine wR_eq (bSum_map (x2.at el)) ?_
        simp [FS.unf]
        exact ex.trans x2
  obtain ⟨x, h', e, rfl, q⟩ := ex_of_wR w
  exact ⟨h', e, q⟩
theorem filter_range {n : Nat} {p : Val → Bool} {b : Nat → Bool} (hp : ∀ i < n, p (.int (i : Nat)) = b i) : (rangeV 0 n).filter p = ((List.range n).filter b).map fun (i : Nat) => Val.int i := by
  unfold rangeV
  rw [List.filter_map]
  have : (List.range n).filter (p ∘ fun (i : Nat) => Val.int (0 + i)) = (List.range n).filter b := by
    apply List.filter_congr
    intro i hi
    show p (.int (0 + i)) = b i
    rw [Int.zero_add]
    exact hp i (List.mem_range.mp hi)
  rw [this]
  apply List.map_congr_left
  intro i _
  simp
theorem free_ok (K : FOk s) (r : Fd s h) : ∃ a h', m_Frames_free [.ref s.F] h = .ok (.ref a) h' ∧ Ext h h' ∧ h'[a]? = some (.lst (s.fre.map fun (i : Nat) => Val.int i)) := by
  have w : wR (m_Frames_free [.ref s.F] h) (fun _ _ => False) fun x h' => ∃ a, x = .ref a ∧ Ext h h' ∧ h'[a]? = some (.lst (s.fre.map fun (i : Nat) => Val.int i)) := by
    unfold m_Frames_free
    refine wRB rfl ?_
    have ll := lim8
    have hm := K.m1
    simp [gF0 r, -wR_getF, show -4611686018427387904 ≤ (s.many : Int) ∧ (s.many : Int) < 4611686018427387904 by omega]
    refine wR_lcX (fun x => match x with | .int i => (s.hdk i.toNat).isEmpty | _ => false) (fun x => x) (by rw [rangeV_length]; omega) (fun _ _ => rfl) (fun x h' hx ex => ⟨_, rfl, ?_⟩) (fun h1 ex el => ?_)
    · obtain ⟨i, hi⟩ := List.mem_iff_getElem?.mp hx
      rw [rangeV_get] at hi
      split at hi
      · rename_i hlt
        cases hi
        have r' := r.ext ex
        have hd := s.hd_at (f := i) (by have := K.hd; omega)
        simp [wipeE, gF2 r', r'.eH, refs_at hd, r'.hd _ _ _ hd, truth, -wR_getF]
        first
          | exact ⟨Ext.refl _, fun _ => Ext.refl _⟩
          | exact fun _ => Ext.refl _
          | exact Ext.refl _
          | trace_state
      · cases hi
    · rw [List.map_id', filter_range (b := fun f => (s.hdk f).isEmpty) (fun i _ => by simp)] at el
      first
        | exact ⟨_, rfl, ex, el⟩
        | exact ⟨ex, el⟩
  obtain ⟨x, h', e, a, rfl, q⟩ := ex_of_wR w
  exact ⟨a, h', e, q⟩
theorem isframe_ok (K : FOk s) (r : Fd s h) {f : Int} : m_Frames_is_frame [.ref s.F, .int f] h = .ok (.bl (decide (0 ≤ f) && decide (f < s.many))) h := by
  have : m_is_number [.int f] h = .ok (.bl true) h := rfl
  refine eq_of_wR ?_
  unfold m_Frames_is_frame
  refine wRB rfl ?_
  by_cases c : 0 ≤ f
  · simp [this, c, gF0 r, -wR_getF]
  · simp [this, c]
theorem right_ok (K : FOk s) (r : Fd s h) (hf : f < s.many) : m_Frames_right [.ref s.F, .int e, .int f] h = .ok (s.rt e f) h := by
  have hd := s.hd_at (f := f) (by have := K.hd; omega)
  have i1 := isframe_ok K r (f := (f : Int))
  have : (decide ((0 : Int) ≤ f) && decide ((f : Int) < s.many)) = true := by simp; omega
  rw [this] at i1
  refine eq_of_wR ?_
  unfold m_Frames_right
  refine wRB rfl ?_
  simp [isF r, i1, truth, gF2 r, r.eH, refs_at hd, isD_dct (r.hd _ _ _ hd), dGet_at (y := .int e) (z := .non) (r.hd _ _ _ hd) rfl, FS.rt, -wR_getF]
theorem isenv_ok {i : Int} : m_is_environment [.int i] h = .ok (.bl (decide (0 ≤ i) && decide (i < 4))) h := by
  have : m_is_number [.int i] h = .ok (.bl true) h := rfl
  refine eq_of_wR ?_
  unfold m_is_environment
  refine wRB rfl ?_
  by_cases c : 0 ≤ i
  · simp [this, c]
  · simp [this, c]
def incl (a b : Nat) : Bool := decide (a = b) || (decide (a = 0) && decide (b = 1))
theorem includes_ok {a b : Nat} : m_includes [.str a, .str b] h = .ok (.bl (incl a b)) h := by
  refine eq_of_wR ?_
  unfold m_includes incl
  refine wRB rfl ?_
  by_cases c : a = b
  · simp [c]
  · by_cases c2 : a = 0
    · subst c2
      simp [c]
      rw [Bool.eq_iff_iff]; simp
    · simp [c, c2]
end
end Lw

set_option Elab.async false
set_option linter.all false
set_option autoImplicit false
set_option maxHeartbeats 4000000
set_option maxRecDepth 100000
namespace Lw
open PyM
def FS.sHd (s : FS) (f : Nat) (k : List (Val × Val)) : FS := { s with hd := s.hd.set f (s.hda f, k) }
def FS.sOs (s : FS) (e : Nat) (k : List Int) : FS := { s with os := s.os.set e (s.oa e, k) }
def FS.sWs (s : FS) (f : Nat) (k : List Val) : FS := { s with ws := s.ws.set f (s.wa f, k) }
def FS.nWs (s : FS) (f a : Nat) (k : List Val) : FS := { s with ws := s.ws.set f (a, k) }
def FS.nLs (s : FS) (e a : Nat) (k : List Int) : FS := { s with ls := s.ls.set e (a, k) }
def FS.sOf (s : FS) (d : List (Val × Val)) : FS := { s with offers := d }
def FS.sWa (s : FS) (d : List Val) : FS := { s with wanted := d }
section
variable {s : FS} {R : Nodes} {h h' : Heap} {e f a : Nat}
theorem FOk.sHd (K : FOk s) {k : List (Val × Val)} : FOk (s.sHd f k) := { K with hd := by simp [FS.sHd, K.hd] }
theorem FOk.sOs (K : FOk s) {k : List Int} : FOk (s.sOs f k) := { K with os := by simp [FS.sOs, K.os] }
theorem FOk.sWs (K : FOk s) {k : List Val} : FOk (s.sWs f k) := { K with ws := by simp [FS.sWs, K.ws] }
theorem FOk.nWs (K : FOk s) {k : List Val} : FOk (s.nWs f a k) := { K with ws := by simp [FS.nWs, K.ws] }
theorem FOk.nLs (K : FOk s) {k : List Int} : FOk (s.nLs f a k) := { K with ls := by simp [FS.nLs, K.ls] }
theorem FOk.sOf (K : FOk s) {d : List (Val × Val)} : FOk (s.sOf d) := { K with }
theorem FOk.sWa (K : FOk s) {d : List Val} (hd : d.length = 4) : FOk (s.sWa d) := { K with wa := hd }
theorem hdk_sHd {k : List (Val × Val)} {g : Nat} (hf : f < s.hd.length) : (s.sHd f k).hdk g = if g = f then k else s.hdk g := by
  unfold FS.hdk FS.sHd
  simp only [List.getElem?_set]
  by_cases c : f = g
  · subst c; simp [hf]
  · rw [if_neg c, if_neg (Ne.symm c)]
theorem ord_sOs {k : List Int} {g : Nat} (hf : f < s.os.length) : (s.sOs f k).ord g = if g = f then k else s.ord g := by
  unfold FS.ord FS.sOs
  simp only [List.getElem?_set]
  by_cases c : f = g
  · subst c; simp [hf]
  · rw [if_neg c, if_neg (Ne.symm c)]
theorem lo_nLs {k : List Int} {g : Nat} (hf : f < s.ls.length) : (s.nLs f a k).lo g = if g = f then k else s.lo g := by
  unfold FS.lo FS.nLs
  simp only [List.getElem?_set]
  by_cases c : f = g
  · subst c; simp [hf]
  · rw [if_neg c, if_neg (Ne.symm c)]
theorem wd_nWs {k : List Val} {g : Nat} (hf : f < s.ws.length) : (s.nWs f a k).wd g = if g = f then k else s.wd g := by
  unfold FS.wd FS.nWs
  simp only [List.getElem?_set]
  by_cases c : f = g
  · subst c; simp [hf]
  · rw [if_neg c, if_neg (Ne.symm c)]
theorem wd_sWs {k : List Val} {g : Nat} (hf : f < s.ws.length) : (s.sWs f k).wd g = if g = f then k else s.wd g := wd_nWs hf
theorem wt_sWa {d : List Val} {g : Nat} : (s.sWa d).wt g = d.getD g .non := rfl
theorem on_sHd (o : On (s.nodes ++ R) h) (hf : f < s.hd.length) (k : List (Val × Val)) : On ((s.sHd f k).nodes ++ R) (h.set (s.hda f) (.dct k)) := on_hd o (s.hd_at hf)
theorem on_sOs (o : On (s.nodes ++ R) h) (hf : f < s.os.length) (k : List Int) : On ((s.sOs f k).nodes ++ R) (h.set (s.oa f) (.lst (k.map Val.int))) := on_os o (s.os_at hf)
theorem on_sWs (o : On (s.nodes ++ R) h) (hf : f < s.ws.length) (k : List Val) : On ((s.sWs f k).nodes ++ R) (h.set (s.wa f) (.lst k)) := on_ws o (s.ws_at hf)
theorem refs_upd {α : Type} {l : List (Nat × α)} {i a : Nat} {x : α} : refs (l.set i (a, x)) = (refs l).set i (.ref a) := by unfold refs; rw [List.map_set]
theorem on_nWs (o : On (s.nodes ++ R) h) (hf : f < s.ws.length) {k : List Val} (ea : h[a]? = some (.lst k)) (hn : ∀ p ∈ s.nodes ++ R, p.1 ≠ a) : On ((s.nWs f a k).nodes ++ R) (h.set s.WL (.lst ((refs s.ws).set f (.ref a)))) := by
  have := on_wnew o (s.ws_at hf) ea hn
  rw [refs_upd] at this
  exact this
theorem on_nLs (o : On (s.nodes ++ R) h) (hf : f < s.ls.length) {k : List Int} (ea : h[a]? = some (.lst (k.map Val.int))) (hn : ∀ p ∈ s.nodes ++ R, p.1 ≠ a) : On ((s.nLs f a k).nodes ++ R) (h.set s.LO (.lst ((refs s.ls).set f (.ref a)))) := by
  have := on_lnew o (s.ls_at hf) ea hn
  rw [refs_upd] at this
  exact this
theorem on_young (o : On (s.nodes ++ R) h) (ha : h.length ≤ a) : ∀ p ∈ s.nodes ++ R, p.1 ≠ a := fun p hp q => by
  have := o.lt hp
  omega
def z8 : List Val := repV 8 [.int 0]
def FS.tk (s : FS) (e f a : Nat) : FS := ((s.nWs f a z8).sHd f (putV (s.hdk f) (.int e) (.str 0))).sOs e (s.ord e ++ [(f : Int)])
inductive TkR (s : FS) (e : Nat) : Val → FS → Prop
  | no : s.fre = [] ∨ s.mhm e = false → TkR s e .non s
  | yes {f a : Nat} {l : List Nat} : s.fre = f :: l → s.mhm e = true → TkR s e (.int f) (s.tk e f a)
theorem fre_lt {l : List Nat} (hf : s.fre = f :: l) : f < s.many ∧ s.hdk f = [] := by
  have : f ∈ s.fre := by rw [hf]; exact List.mem_cons_self
  unfold FS.fre at this
  obtain ⟨h1, h2⟩ := List.mem_filter.mp this
  exact ⟨List.mem_range.mp h1, by simpa using h2⟩
theorem keysOk2 {a b : Val} (h1 : isKey a = true) (h2 : isKey b = true) : keysOk [a, b] = true := by simp [keysOk, h1, h2]
theorem take_ok (K : FOk s) (o : On (s.nodes ++ R) h) (he : e < 4) (hl : (s.ord e).length < 1000) : ∃ v s' h', m_Frames_take [.ref s.F, .int e] h = .ok v h' ∧ TkR s e v s' ∧ On (s'.nodes ++ R) h' := by
  have w : wR (m_Frames_take [.ref s.F, .int e] h) (fun _ _ => False) fun v h' => ∃ s', TkR s e v s' ∧ On (s'.nodes ++ R) h' := by
    have ll := lim8
    have l1 : 1 ≤ lim := by omega
    have l8 : 8 ≤ lim := by omega
    have r := fr_of o
    obtain ⟨a1, h1, e1, x1, g1⟩ := free_ok K r
    have r1 := r.ext x1
    obtain ⟨h2, e2, x2⟩ := mhm_ok K r1 he
    have r2 := r1.ext x2
    have g2 := x2.at g1
    have o2 := (o.ext x1).ext x2
    unfold m_Frames_take
    refine wRB rfl ?_
    cases hf : s.fre with
    | nil =>
      rw [hf] at g1
      simp [isF r, e1, gV, truth, g1]
      exact ⟨s, .no (.inl hf), o.ext x1⟩
    | cons f l =>
      rw [hf] at g1 g2
      cases hm : s.mhm e with
      | false =>
        rw [hm] at e2
        simp [isF r, e1, gV, truth, g1, isF r1, e2]
        exact ⟨s, .no (.inr hm), o2⟩
      | true =>
        rw [hm] at e2
        obtain ⟨flt, fe⟩ := fre_lt hf
        have hws := K.ws
        have hhd := K.hd
        have hos := K.os
        have x3 : Ext h2 (h2 ++ [Obj.lst [.int 0], Obj.lst (repV 8 [.int 0])]) := ⟨_, rfl⟩
        have o3 := o2.ext x3
        have r3 := r2.ext x3
        have ea : (h2 ++ [Obj.lst [.int 0], Obj.lst (repV 8 [.int 0])])[h2.length + 1]? = some (.lst z8) := at_app 1 rfl rfl
        have hn : ∀ p ∈ s.nodes ++ R, p.1 ≠ h2.length + 1 := fun p hp q => by have := o2.lt hp; omega
        have o4 := on_nWs o3 (f := f) (by omega) ea hn
        have r4 := fr_of o4
        have q4 : ∀ g, (h2 ++ g)[a1]? = some (.lst ((f :: l).map fun (i : Nat) => Val.int i)) := fun g => at_push g2
        generalize hh4 : (h2 ++ [Obj.lst [.int 0], Obj.lst (repV 8 [.int 0])]).set s.WL (.lst ((refs s.ws).set f (.ref (h2.length + 1)))) = h4 at o4 r4
        have o5 := on_sHd o4 (f := f) (show f < s.hd.length by omega) (putV (s.hdk f) (.int e) (.str 0))
        have r5 := fr_of o5
        have eh4 : h4[s.hda f]? = some (.dct (s.hdk f)) := r4.hd f _ _ (s.hd_at (by omega))
        have el4 : h4[s.HL]? = some (.lst (refs s.hd)) := r4.eH
        have hda : (s.nWs f (h2.length + 1) z8).hda f = s.hda f := rfl
        rw [hda] at o5 r5
        generalize hh5 : h4.set (s.hda f) (.dct (putV (s.hdk f) (.int e) (.str 0))) = h5 at o5 r5
        have o6 := on_sOs o5 (f := e) (show e < s.os.length by omega) (s.ord e ++ [(f : Int)])
        have eo5 : h5[s.OL]? = some (.lst (refs s.os)) := r5.eO
        have eo6 : h5[s.oa e]? = some (.lst ((s.ord e).map Val.int)) := r5.os e _ _ (s.os_at (by omega))
        have lw : (refs s.ws).length = s.many := by simp [refs, K.ws]
        have g3 : getF 3 (.ref s.F) (h2 ++ [Obj.lst [.int 0], Obj.lst (repV 8 [.int 0])]) = .ok (.ref s.WL) _ := gF3 r3
        have g4 : getF 2 (.ref s.F) h4 = .ok (.ref s.HL) h4 := by have q := gF2 r4; exact q
        have g5 : getF 4 (.ref s.F) h5 = .ok (.ref s.OL) h5 := by have q := gF4 r5; exact q
        have kl : (s.hdk f).length < lim := by rw [fe]; simp; omega
        simp [isF r, e1, gV, truth, g1, isF r1, e2, g2, l1, l8, g3, r3.eW, ixN_cast, lw, flt, hh4, g4, el4, refs_at (s.hd_at (show f < s.hd.length by omega)), eh4, kl, hh5, g5, eo5, refs_at (s.os_at (show e < s.os.length by omega)), seqOf_at eo6, eo6, show (s.ord e).length < lim by omega, -wR_getF]
        refine ⟨s.tk e f (h2.length + 1), .yes hf hm, ?_⟩
        rw [List.map_append] at o6
        exact o6
  obtain ⟨v, h', e, s', q1, q2⟩ := ex_of_wR w
  exact ⟨v, s', h', e, q1, q2⟩
/-- offers -/
def FS.ofr (s : FS) (e f o r : Nat) : Bool := decide (o ≠ e) && (match s.rt e f with | .str q => incl q r | _ => false)
def key3 (a b c : Nat) : Val := .tup [.int a, .int b, .int c]
theorem keysOk3 {a b c : Nat} : keysOk [.int (a : Nat), .int (b : Nat), .int (c : Nat)] = true := by simp [keysOk, isKey]
theorem rights_in {r : Nat} (hr : r = 0 ∨ r = 1) : oIn true (.str r) c_RIGHTS h = .ok (.bl false) h := by
  rcases hr with rfl | rfl <;> rfl
/-- rights are None, "r" or "rw" -/
def RtS (s : FS) : Prop := ∀ e f, e < 4 → f < s.many → s.rt e f = .non ∨ ∃ q, s.rt e f = .str q
theorem offer_ok (K : FOk s) (Rs : RtS s) (o : On (s.nodes ++ R) h) {e f w r : Nat} (he : e < 4) (hw : w < 4) (hf : f < s.many) (hr : r = 0 ∨ r = 1) (hl : s.offers.length < 100000) :
    ∃ h', m_Frames_offer [.ref s.F, .int e, .int f, .int w, .str r] h = .ok (.bl (s.ofr e f w r)) h' ∧ On ((if s.ofr e f w r = true then s.sOf (putV s.offers (key3 e f w) (.str r)) else s).nodes ++ R) h' := by
  have wi : wR (m_Frames_offer [.ref s.F, .int e, .int f, .int w, .str r] h) (fun _ _ => False) fun v h' => v = .bl (s.ofr e f w r) ∧ On ((if s.ofr e f w r = true then s.sOf (putV s.offers (key3 e f w) (.str r)) else s).nodes ++ R) h' := by
    have ll := lim8
    have rr := fr_of o
    have e1 := isenv_ok (h := h) (i := (w : Int))
    have e1' : (decide ((0 : Int) ≤ w) && decide ((w : Int) < 4)) = true := by simp; omega
    rw [e1'] at e1
    have e2 := right_ok K rr (e := e) hf
    have e3 := rights_in (h := h) hr
    unfold m_Frames_offer FS.ofr
    refine wRB rfl ?_
    by_cases c : w = e
    · subst c
      simp [e1, truth]
      exact o
    · have c' : ¬ ((w : Int) = e) := by omega
      rcases Rs e f he hf with q | ⟨q, hq⟩
      · rw [q] at e2
        simp [e1, truth, c, c', e3, isF rr, e2, gV, q]
        exact o
      · rw [hq] at e2
        have e4 := includes_ok (h := h) (a := q) (b := r)
        cases hi : incl q r with
        | false =>
          rw [hi] at e4
          simp [e1, truth, c, c', e3, isF rr, e2, gV, hq, hi, e4]
          exact o
        | true =>
          rw [hi] at e4
          have z := on_of o (putV s.offers (key3 e f w) (.str r))
          simp [e1, truth, c, c', e3, isF rr, e2, gV, hq, hi, e4, gF5 rr, tSet_at rr.eF5 keysOk3 (show s.offers.length < lim by omega), -wR_getF]
          exact z
  obtain ⟨v, h', e, rfl, q⟩ := ex_of_wR wi
  exact ⟨h', e, q⟩
/-- accepting -/
def FS.acc (s : FS) (e f w : Nat) : Bool := match lookV s.offers (key3 w f e), s.rt w f with
  | some (.str r), .str q => incl q r && (decide (s.rt e f = .non) && s.mhm e)
  | _, _ => false
def FS.ac (s : FS) (e f w : Nat) : FS := ((s.sOf (dropV s.offers (key3 w f e))).sHd f (putV (s.hdk f) (.int e) ((lookV s.offers (key3 w f e)).getD .non))).sOs e (s.ord e ++ [(f : Int)])
def OfS (s : FS) : Prop := ∀ k v, lookV s.offers k = some v → ∃ r, v = .str r
theorem accept_ok (K : FOk s) (Rs : RtS s) (Os : OfS s) (o : On (s.nodes ++ R) h) {e f w : Nat} (he : e < 4) (hw : w < 4) (hf : f < s.many) (hl : (s.ord e).length < 1000) (hl2 : (s.hdk f).length < 1000) :
    ∃ h', m_Frames_accept [.ref s.F, .int e, .int f, .int w] h = .ok (.bl (s.acc e f w)) h' ∧ On ((if s.acc e f w = true then s.ac e f w else s).nodes ++ R) h' := by
  have wi : wR (m_Frames_accept [.ref s.F, .int e, .int f, .int w] h) (fun _ _ => False) fun v h' => v = .bl (s.acc e f w) ∧ On ((if s.acc e f w = true then s.ac e f w else s).nodes ++ R) h' := by
    have ll := lim8
    have rr := fr_of o
    have e0 := isframe_ok K rr (f := (f : Int))
    have e0' : (decide ((0 : Int) ≤ f) && decide ((f : Int) < s.many)) = true := by simp; omega
    rw [e0'] at e0
    have e1 := isenv_ok (h := h) (i := (w : Int))
    have e1' : (decide ((0 : Int) ≤ w) && decide ((w : Int) < 4)) = true := by simp; omega
    rw [e1'] at e1
    have e2 := right_ok K rr (e := w) hf
    have e5 := right_ok K rr (e := e) hf
    have eg := tGet_at (z := .non) rr.eF5 (keysOk3 (a := w) (b := f) (c := e))
    have ek : Val.tup [.int (w : Nat), .int (f : Nat), .int (e : Nat)] = key3 w f e := rfl
    rw [ek] at eg
    have dd := isD_dcT rr.eF5
    unfold m_Frames_accept FS.acc
    refine wRB rfl ?_
    cases hlk : lookV s.offers (key3 w f e) with
    | none =>
      rw [hlk] at eg
      simp [isF rr, e0, truth, e1, gF5 rr, dd, eg, gV, e2, -wR_getF]
      exact o
    | some v =>
      obtain ⟨r, rfl⟩ := Os _ _ hlk
      rw [hlk] at eg
      rcases Rs w f hw hf with q | ⟨q, hq⟩
      · rw [q] at e2
        simp [isF rr, e0, truth, e1, gF5 rr, dd, eg, gV, e2, q, -wR_getF]
        exact o
      · rw [hq] at e2
        have e4 := includes_ok (h := h) (a := q) (b := r)
        cases hi : incl q r with
        | false =>
          rw [hi] at e4
          simp [isF rr, e0, truth, e1, gF5 rr, dd, eg, gV, e2, hq, hi, e4, -wR_getF]
          exact o
        | true =>
          rw [hi] at e4
          rcases Rs e f he hf with q5 | ⟨q5, hq5⟩
          · rw [q5] at e5
            obtain ⟨h1, e6, x1⟩ := mhm_ok K rr he
            cases hm : s.mhm e with
            | false =>
              rw [hm] at e6
              simp [isF rr, e0, truth, e1, gF5 rr, dd, eg, gV, e2, hq, hi, e4, e5, q5, e6, -wR_getF]
              exact o.ext x1
            | true =>
              rw [hm] at e6
              have hhd := K.hd
              have hos := K.os
              have r1 := rr.ext x1
              have o1 := o.ext x1
              have o2 := on_of o1 (dropV s.offers (key3 w f e))
              have ep := tPop1_at r1.eF5 (keysOk3 (a := w) (b := f) (c := e)) hlk
              rw [ek] at ep
              have dd1 := isD_dcT r1.eF5
              have g5 := gF5 r1
              generalize hh2 : h1.set s.OF (.dcT (dropV s.offers (key3 w f e))) = h2 at o2 ep
              have r2 := fr_of o2
              have g2 : getF 2 (.ref s.F) h2 = .ok (.ref s.HL) h2 := by have q := gF2 r2; exact q
              have eH : h2[s.HL]? = some (.lst (refs s.hd)) := r2.eH
              have hd0 := s.hd_at (f := f) (by omega)
              have eh : h2[s.hda f]? = some (.dct (s.hdk f)) := r2.hd f _ _ hd0
              have o3 := on_sHd o2 (f := f) (show f < s.hd.length by omega) (putV (s.hdk f) (.int e) (.str r))
              have hda : ({ s with offers := dropV s.offers (key3 w f e) } : FS).hda f = s.hda f := rfl
              rw [hda] at o3
              generalize hh3 : h2.set (s.hda f) (.dct (putV (s.hdk f) (.int e) (.str r))) = h3 at o3
              have r3 := fr_of o3
              have g4 : getF 4 (.ref s.F) h3 = .ok (.ref s.OL) h3 := by have q := gF4 r3; exact q
              have eO : h3[s.OL]? = some (.lst (refs s.os)) := r3.eO
              have ho0 := s.os_at (f := e) (by omega)
              have eo : h3[s.oa e]? = some (.lst ((s.ord e).map Val.int)) := r3.os e _ _ ho0
              have o4 := on_sOs o3 (f := e) (show e < s.os.length by omega) (s.ord e ++ [(f : Int)])
              rw [List.map_append] at o4
              simp [isF rr, e0, truth, e1, gF5 rr, dd, eg, gV, e2, hq, hi, e4, e5, q5, e6, g5, dd1, ep, g2, eH, refs_at hd0, eh, show (s.hdk f).length < lim by omega, hh3, g4, eO, refs_at ho0, seqOf_at eo, eo, show (s.ord e).length < lim by omega, -wR_getF]
              unfold FS.ac
              rw [hlk]
              exact o4
          · rw [hq5] at e5
            simp [isF rr, e0, truth, e1, gF5 rr, dd, eg, gV, e2, hq, hi, e4, e5, hq5, -wR_getF]
            exact o
  obtain ⟨v, h', e, rfl, q⟩ := ex_of_wR wi
  exact ⟨h', e, q⟩
end
end Lw

set_option Elab.async false
set_option linter.all false
set_option autoImplicit false
set_option maxHeartbeats 4000000
set_option maxRecDepth 100000
namespace Lw
open PyM
theorem asInt_map : ∀ zs : List Int, optAll asInt (zs.map Val.int) = some zs
  | [] => rfl
  | z :: zs => by simp [optAll, asInt, asInt_map zs]
theorem fixI_mem {i : Int} : ∀ {zs : List Int}, i ∈ zs → ∃ j, fixI i zs = some j ∧ zs.eraseIdx j = zs.erase i
  | [], h => by cases h
  | z :: zs, h => by
    by_cases c : z = i
    · exact ⟨0, by simp [fixI, c], by simp [c]⟩
    · obtain ⟨j, e1, e2⟩ := fixI_mem (zs := zs) (by
        rcases List.mem_cons.mp h with q | q
        · exact absurd q.symm c
        · exact q)
      refine ⟨j + 1, by simp [fixI, c, e1], ?_⟩
      rw [List.eraseIdx_cons_succ, e2, List.erase_cons_tail (by simpa using c)]
theorem erase_mapInt : ∀ (l : List Int) (j : Nat), (l.map Val.int).eraseIdx j = (l.eraseIdx j).map Val.int
  | [], _ => by simp
  | _ :: _, 0 => by simp
  | x :: l, j + 1 => by simp [erase_mapInt l j]
theorem bRemove_at {h : Heap} {a : Nat} {zs : List Int} {i : Int} (e : h[a]? = some (.lst (zs.map Val.int))) (hm : i ∈ zs) : bRemove (.ref a) [.int i] h = .ok .non (h.set a (.lst ((zs.erase i).map Val.int))) := by
  obtain ⟨j, e1, e2⟩ := fixI_mem hm
  unfold bRemove
  simp only [e, asInt_map, e1]
  rw [erase_mapInt, e2]
def dropOs (d : List (Val × Val)) (e f : Nat) : Nat → List (Val × Val)
  | 0 => d
  | n + 1 => dropV (dropOs d e f n) (key3 e f n)
theorem dropOs_len {d : List (Val × Val)} {e f : Nat} : ∀ n, (dropOs d e f n).length ≤ d.length
  | 0 => Nat.le_refl _
  | n + 1 => Nat.le_trans dropV_len (dropOs_len n)
def FS.eh (s : FS) (e f : Nat) : FS := ((s.sHd f (dropV (s.hdk f) (.int e))).sOs e ((s.ord e).erase (f : Int))).sOf (dropOs s.offers e f 4)
structure EhI (s : FS) (R : Nodes) (e f : Nat) (n : Nat) (s' : En) (h' : Heap) : Prop where
  k : ∃ a, s' = [some (.ref s.F), some (.int e), some (.int f), a]
  o : On ((((s.sHd f (dropV (s.hdk f) (.int e))).sOs e ((s.ord e).erase (f : Int))).sOf (dropOs s.offers e f n)).nodes ++ R) h'
section
variable {s : FS} {R : Nodes} {h h' : Heap} {e f a : Nat}
theorem FOk.eh (K : FOk s) : FOk (s.eh e f) := ((K.sHd).sOs).sOf
theorem end_ok (K : FOk s) (o : On (s.nodes ++ R) h) (he : e < 4) (hf : f < s.many) {x : Val} (hx : lookV (s.hdk f) (.int e) = some x) (hm : (f : Int) ∈ s.ord e) :
    ∃ h', m_Frames__end_holding [.ref s.F, .int e, .int f] h = .ok .non h' ∧ On ((s.eh e f).nodes ++ R) h' := by
  have wi : wR (m_Frames__end_holding [.ref s.F, .int e, .int f] h) (fun _ _ => False) fun v h' => v = .non ∧ On ((s.eh e f).nodes ++ R) h' := by
    have r := fr_of o
    have hhd := K.hd
    have hos := K.os
    have hd0 := s.hd_at (f := f) (by omega)
    have ep := dPop1_at (r.hd _ _ _ hd0) (y := .int e) rfl hx
    have o1 := on_sHd o (f := f) (by omega) (dropV (s.hdk f) (.int e))
    generalize hh1 : h.set (s.hda f) (.dct (dropV (s.hdk f) (.int e))) = h1 at ep o1
    have r1 := fr_of o1
    have g4 : getF 4 (.ref s.F) h1 = .ok (.ref s.OL) h1 := by have q := gF4 r1; exact q
    have eO : h1[s.OL]? = some (.lst (refs s.os)) := r1.eO
    have ho0 := s.os_at (f := e) (by omega)
    have eo : h1[s.oa e]? = some (.lst ((s.ord e).map Val.int)) := r1.os e _ _ ho0
    have er := bRemove_at eo hm
    have o2 := on_sOs o1 (f := e) (show e < s.os.length by omega) ((s.ord e).erase (f : Int))
    have hoa : (s.sHd f (dropV (s.hdk f) (.int e))).oa e = s.oa e := rfl
    rw [hoa] at o2
    generalize hh2 : h1.set (s.oa e) (.lst (((s.ord e).erase (f : Int)).map Val.int)) = h2 at er o2
    unfold m_Frames__end_holding
    refine wRB rfl ?_
    simp [gF2 r, r.eH, refs_at hd0, isD_dct (r.hd _ _ _ hd0), ep, g4, eO, refs_at ho0, seqOf_at eo, er, -wR_getF]
    refine wS_range (n := 4) (EhI s R e f) ⟨⟨_, rfl⟩, o2⟩ ?_ ?_
    · rintro i s' h3 hi ⟨⟨a, rfl⟩, o3⟩
      refine ⟨[some (.ref s.F), some (.int e), some (.int f), some (.int (i : Nat))], rfl, ?_⟩
      have r3 := fr_of o3
      have g5 : getF 5 (.ref s.F) h3 = .ok (.ref s.OF) h3 := by have q := gF5 r3; exact q
      have e5 : h3[s.OF]? = some (.dcT (dropOs s.offers e f i)) := r3.eF5
      have eq := tPop2_at (z := .non) e5 (keysOk3 (a := e) (b := f) (c := i))
      have o4 := on_of o3 (dropV (dropOs s.offers e f i) (key3 e f i))
      simp [g5, isD_dcT e5, eq, -wR_getF]
      exact ⟨⟨_, rfl⟩, o4⟩
    · rintro s' h3 ⟨⟨a, rfl⟩, o3⟩
      exact o3
  obtain ⟨v, h', e, rfl, q⟩ := ex_of_wR wi
  exact ⟨h', e, q⟩
theorem wt_at (K : FOk s) (he : e < 4) : s.wanted[e]? = some (s.wt e) := by
  unfold FS.wt
  rw [List.getD_eq_getElem?_getD, List.getElem?_eq_getElem (by have := K.wa; omega)]; rfl
theorem wtI (K : FOk s) (he : e < 4) : L2.atI s.wanted (e : Int) = some (s.wt e) := by rw [atI_cast]; exact wt_at K he
def FS.dr (s : FS) (e f : Nat) : FS := match s.wt e with
  | .tup [.int m, .int k] => (s.eh e f).sWa (s.wanted.set e (if m > 1 then .tup [.int (m - 1), .int k] else .non))
  | _ => s.eh e f
def WtS (s : FS) : Prop := ∀ e, e < 4 → s.wt e = .non ∨ ∃ m k, 1 ≤ m ∧ s.wt e = .tup [.int m, .int k]
theorem drop_ok (K : FOk s) (Rs : RtS s) (Ws : WtS s) (o : On (s.nodes ++ R) h) (he : e < 4) (hf : f < s.many) (hm : s.rt e f ≠ .non → (f : Int) ∈ s.ord e) :
    ∃ h', m_Frames_drop [.ref s.F, .int e, .int f] h = .ok (.bl (!decide (s.rt e f = .non))) h' ∧ On ((if s.rt e f = .non then s else s.dr e f).nodes ++ R) h' := by
  have wi : wR (m_Frames_drop [.ref s.F, .int e, .int f] h) (fun _ _ => False) fun v h' => v = .bl (!decide (s.rt e f = .non)) ∧ On ((if s.rt e f = .non then s else s.dr e f).nodes ++ R) h' := by
    have r := fr_of o
    have e1 := right_ok K r (e := e) hf
    have l2 : 2 ≤ lim := by decide
    unfold m_Frames_drop
    refine wRB rfl ?_
    rcases Rs e f he hf with q | ⟨q, hq⟩
    · rw [q] at e1
      simp [isF r, e1, q]
      exact o
    · have hn : s.rt e f ≠ .non := by rw [hq]; simp
      have hx : ∃ x, lookV (s.hdk f) (.int e) = some x := by
        unfold FS.rt at hn
        cases z : lookV (s.hdk f) (.int e) with
        | none => rw [z] at hn; exact absurd rfl hn
        | some x => exact ⟨x, rfl⟩
      obtain ⟨x, hx⟩ := hx
      rw [hq] at e1
      obtain ⟨h1, e2, o1⟩ := end_ok K o he hf hx (hm hn)
      have r1 := fr_of o1
      have g6 : getF 6 (.ref s.F) h1 = .ok (.ref s.WA) h1 := by have q := gF6 r1; exact q
      have eA : h1[s.WA]? = some (.lst s.wanted) := r1.eA
      have ew := wtI K he
      rcases Ws e he with w0 | ⟨m, k, m1, w0⟩
      · rw [w0] at ew
        simp [isF r, e1, hq, e2, g6, eA, ew, FS.dr, w0, -wR_getF]
        exact o1
      · rw [w0] at ew
        have hwa := K.wa
        have o2 := fun d => on_wa o1 d
        by_cases c : 1 < m
        · have z := o2 (s.wanted.set e (.tup [.int (m - 1), .int k]))
          simp [isF r, e1, hq, e2, g6, eA, ew, FS.dr, w0, gV, gT, gsCons, gsNil, c, l2, ixN_cast, hwa, he, -wR_getF]
          exact z
        · have z := o2 (s.wanted.set e .non)
          simp [isF r, e1, hq, e2, g6, eA, ew, FS.dr, w0, gV, gT, gsCons, gsNil, c, l2, ixN_cast, hwa, he, -wR_getF]
          exact z
  obtain ⟨v, h', e, rfl, q⟩ := ex_of_wR wi
  exact ⟨h', e, q⟩
def FS.nar (s : FS) (e f : Nat) : FS := s.sHd f (putV (s.hdk f) (.int e) (.str 1))
theorem narrow_ok (K : FOk s) (Rs : RtS s) (o : On (s.nodes ++ R) h) (he : e < 4) (hf : f < s.many) (hl : (s.hdk f).length < 1000) :
    ∃ h', m_Frames_narrow [.ref s.F, .int e, .int f] h = .ok (.bl (decide (s.rt e f = .str 0))) h' ∧ On ((if s.rt e f = .str 0 then s.nar e f else s).nodes ++ R) h' := by
  have wi : wR (m_Frames_narrow [.ref s.F, .int e, .int f] h) (fun _ _ => False) fun v h' => v = .bl (decide (s.rt e f = .str 0)) ∧ On ((if s.rt e f = .str 0 then s.nar e f else s).nodes ++ R) h' := by
    have ll := lim8
    have r := fr_of o
    have e1 := right_ok K r (e := e) hf
    have hhd := K.hd
    have hd0 := s.hd_at (f := f) (by omega)
    have pl1 : pl 60 (s.rt e f) = true := by
      rcases Rs e f he hf with q | ⟨q, hq⟩
      · rw [q]; rfl
      · rw [hq]; rfl
    have eq := oEq_pl (neg := true) (x := s.rt e f) (y := .str 0) (h := h) pl1 rfl
    unfold m_Frames_narrow
    refine wRB rfl ?_
    by_cases c : s.rt e f = .str 0
    · rw [c] at e1 eq
      have o1 := on_sHd o (f := f) (by omega) (putV (s.hdk f) (.int e) (.str 1))
      simp [isF r, e1, eq, c, gF2 r, r.eH, refs_at hd0, r.hd _ _ _ hd0, show (s.hdk f).length < lim by omega, -wR_getF]
      exact o1
    · simp [isF r, e1, eq, c]
      exact o
  obtain ⟨v, h', e, rfl, q⟩ := ex_of_wR wi
  exact ⟨h', e, q⟩
theorem read_ok (K : FOk s) (r : Fd s h) (hf : f < s.many) {i : Nat} {x : Val} (hx : (s.wd f)[i]? = some x) : m_Frames_read [.ref s.F, .int f, .int i] h = .ok x h := by
  have w0 := s.ws_at (f := f) (by have := K.ws; omega)
  refine eq_of_wR ?_
  unfold m_Frames_read
  refine wRB rfl ?_
  simp [gF3 r, r.eW, refs_at w0, r.ws _ _ _ w0, atI_cast, hx, -wR_getF]
theorem write_ok (K : FOk s) (o : On (s.nodes ++ R) h) (hf : f < s.many) {i : Nat} (hi : i < (s.wd f).length) {x : Val} : ∃ h', m_Frames_write [.ref s.F, .int f, .int i, x] h = .ok .non h' ∧ On ((s.sWs f ((s.wd f).set i x)).nodes ++ R) h' := by
  have r := fr_of o
  have hw := K.ws
  have w0 := s.ws_at (f := f) (by omega)
  refine ⟨_, eq_of_wR ?_, on_sWs o (f := f) (by omega) _⟩
  unfold m_Frames_write
  refine wRB rfl ?_
  simp [gF3 r, r.eW, refs_at w0, r.ws _ _ _ w0, ixN_cast, hi, -wR_getF]
end
end Lw

set_option Elab.async false
set_option linter.all false
set_option autoImplicit false
set_option maxHeartbeats 4000000
set_option maxRecDepth 100000
namespace Lw
open PyM
/-- what is kept of the book alone: rights stand in the order's lists -/
structure OrS (s : FS) : Prop where
  r : ∀ e f : Nat, e < 4 → f < s.many → ((∃ x, lookV (s.hdk f) (.int e) = some x) ↔ (f : Int) ∈ s.ord e)
  b : ∀ (e : Nat) (x : Int), e < 4 → x ∈ s.ord e → 0 ≤ x ∧ x < s.many
  n : ∀ e : Nat, e < 4 → (s.ord e).Nodup
section
variable {s : FS} {R : Nodes} {h h' : Heap} {e f a : Nat}
theorem ord_eh (K : FOk s) (he : e < 4) {g : Nat} : (s.eh e f).ord g = if g = e then (s.ord e).erase (f : Int) else s.ord g := by
  have : (s.eh e f).ord g = ((s.sHd f (dropV (s.hdk f) (.int e))).sOs e ((s.ord e).erase (f : Int))).ord g := rfl
  rw [this, ord_sOs (by show e < s.os.length; rw [K.os]; exact he)]
  rfl
theorem hdk_eh (K : FOk s) (hf : f < s.many) {g : Nat} : (s.eh e f).hdk g = if g = f then dropV (s.hdk f) (.int e) else s.hdk g := by
  have : (s.eh e f).hdk g = (s.sHd f (dropV (s.hdk f) (.int e))).hdk g := rfl
  rw [this, hdk_sHd (by rw [K.hd]; exact hf)]
theorem OrS.eh (K : FOk s) (O : OrS s) (he : e < 4) (hf : f < s.many) : OrS (s.eh e f) := by
  refine ⟨fun g f' hg hf' => ?_, fun g x hg hx => ?_, fun g hg => ?_⟩
  · rw [ord_eh K he, hdk_eh K hf]
    have o := O.r g f' hg hf'
    have nd := O.n e he
    by_cases c1 : f' = f
    · subst c1
      rw [if_pos rfl, lookV_drop]
      by_cases c2 : g = e
      · subst c2
        rw [if_pos rfl, if_pos rfl]
        constructor
        · rintro ⟨x, hx⟩; cases hx
        · intro hm; exact absurd hm (List.Nodup.not_mem_erase nd)
      · rw [if_neg (by intro q; injection q with q; omega), if_neg c2]
        exact o
    · rw [if_neg c1]
      by_cases c2 : g = e
      · subst c2
        rw [if_pos rfl, List.mem_erase_of_ne (by omega)]
        exact o
      · rw [if_neg c2]
        exact o
  · rw [ord_eh K he] at hx
    by_cases c2 : g = e
    · subst c2
      rw [if_pos rfl] at hx
      exact O.b g x hg (List.mem_of_mem_erase hx)
    · rw [if_neg c2] at hx
      exact O.b g x hg hx
  · rw [ord_eh K he]
    split
    · exact (O.n e he).erase _
    · exact O.n g hg
theorem On.cons_mid {A R : Nodes} {p : Nat × Obj} {h : Heap} (o : On (A ++ R) h) (hp : h[p.1]? = some p.2) (hn : ∀ q ∈ A ++ R, q.1 ≠ p.1) : On (A ++ (p :: R)) h := by
  have z : On (p :: (A ++ R)) h := by
    refine ⟨?_, fun q hq => ?_⟩
    · rw [List.map_cons, List.nodup_cons]
      refine ⟨fun hm => ?_, o.nd⟩
      obtain ⟨q, hq, e⟩ := List.mem_map.mp hm
      exact hn q hq e
    · rcases List.mem_cons.mp hq with rfl | hq
      · exact hp
      · exact o.at_ q hq
  exact z.perm List.perm_middle.symm
end
end Lw

set_option Elab.async false
set_option linter.all false
set_option autoImplicit false
set_option maxHeartbeats 4000000
set_option maxRecDepth 100000
namespace Lw
open PyM
/-! the law's own book -/
structure LB where
  HL : Nat
  Rt : Nat
  Of : Nat
  Wn : Nat
  hs : List (Nat × List Int)
  rights : List (Val × Val)
  offers : List (Val × Val)
  kvs : List (Val × Val)
  wa : List (Option (Nat × Int × Int))
def wN : Option (Nat × Int × Int) → Nodes
  | some (a, m, k) => [(a, .lst [.int m, .int k])]
  | none => []
def LB.base (b : LB) : Nodes := [(b.HL, .lst (refs b.hs)), (b.Rt, .dcT b.rights), (b.Of, .dcT b.offers), (b.Wn, .dct b.kvs)]
def LB.nodes (b : LB) : Nodes := b.base ++ (b.hs.map iN ++ b.wa.flatMap wN)
def LB.val (b : LB) : Val := .tup [.ref b.HL, .ref b.Rt, .ref b.Of, .ref b.Wn]
def LB.hld (b : LB) (e : Nat) : List Int := ((b.hs[e]?).map (·.2)).getD []
def LB.ha (b : LB) (e : Nat) : Nat := ((b.hs[e]?).map (·.1)).getD 0
def LB.wan (b : LB) (e : Nat) : Option (Nat × Int × Int) := b.wa.getD e none
structure LOk (b : LB) : Prop where
  hs : b.hs.length = 4
  wa : b.wa.length = 4
  kv : ∀ e : Nat, e < 4 → lookV b.kvs (.int e) = (b.wan e).map fun w => .ref w.1
structure Ld (b : LB) (h : Heap) : Prop where
  eH : h[b.HL]? = some (.lst (refs b.hs))
  eR : h[b.Rt]? = some (.dcT b.rights)
  eO : h[b.Of]? = some (.dcT b.offers)
  eW : h[b.Wn]? = some (.dct b.kvs)
  hs : ∀ (f a : Nat) (k : List Int), b.hs[f]? = some (a, k) → h[a]? = some (.lst (k.map Val.int))
  wa : ∀ (e a : Nat) (m k : Int), b.wan e = some (a, m, k) → h[a]? = some (.lst [.int m, .int k])
theorem Ld.ext {b : LB} {h h' : Heap} (r : Ld b h) (x : Ext h h') : Ld b h' :=
  ⟨x.at r.eH, x.at r.eR, x.at r.eO, x.at r.eW, fun f a k e => x.at (r.hs f a k e), fun e a m k q => x.at (r.wa e a m k q)⟩
theorem fm_perm : ∀ {wa : List (Option (Nat × Int × Int))} {e : Nat}, e < wa.length → (wa.flatMap wN).Perm (wN (wa.getD e none) ++ (wa.eraseIdx e).flatMap wN)
  | [], _, h => by simp at h
  | x :: wa, 0, _ => by simp
  | x :: wa, e + 1, h => by
    have ih := fm_perm (wa := wa) (e := e) (by simpa using h)
    rw [List.flatMap_cons, List.eraseIdx_cons_succ, List.flatMap_cons, List.getD_cons_succ]
    exact (ih.append_left _).trans (List.perm_append_comm_assoc _ _ _)
theorem fm_set {wa : List (Option (Nat × Int × Int))} {e : Nat} {y : Option (Nat × Int × Int)} (h : e < wa.length) : ((wa.set e y).flatMap wN).Perm (wN y ++ (wa.eraseIdx e).flatMap wN) := by
  have q := fm_perm (wa := wa.set e y) (e := e) (by simpa using h)
  have e1 : (wa.set e y).getD e none = y := by
    rw [List.getD_eq_getElem?_getD, List.getElem?_set_self h]; rfl
  have e2 : (wa.set e y).eraseIdx e = wa.eraseIdx e := by
    rw [List.eraseIdx_set_eq]
  rw [e1, e2] at q
  exact q
section
variable {b : LB} {R : Nodes} {h h' : Heap} {e f a : Nat}
theorem LB.hs_at (b : LB) (hf : f < b.hs.length) : b.hs[f]? = some (b.ha f, b.hld f) := by
  unfold LB.ha LB.hld
  rw [getD_map _ _ hf, getD_map _ _ hf, List.getElem?_eq_getElem hf]
theorem ld_of (K : b.wa.length = 4) (o : On (b.nodes ++ R) h) : Ld b h := by
  have q : ∀ (i : Nat) (x : Nat × Obj), b.base[i]? = some x → h[x.1]? = some x.2 := fun i x e => o.at_ x (List.mem_append_left _ (List.mem_append_left _ (List.mem_of_getElem? e)))
  refine ⟨q 0 _ rfl, q 1 _ rfl, q 2 _ rfl, q 3 _ rfl, fun f a k e => ?_, fun e a m k w => ?_⟩
  · exact o.at_ _ (List.mem_append_left _ (List.mem_append_right _ (List.mem_append_left _ (mem_map_at (g := iN) e))))
  · refine o.at_ (a, .lst [.int m, .int k]) (List.mem_append_left _ (List.mem_append_right _ (List.mem_append_right _ ?_)))
    refine List.mem_flatMap.mpr ⟨some (a, m, k), ?_, by simp [wN]⟩
    unfold LB.wan at w
    rw [List.getD_eq_getElem?_getD] at w
    cases q : b.wa[e]? with
    | none => rw [q] at w; cases w
    | some z => rw [q] at w; simp at w; subst w; exact List.mem_of_getElem? q
def LB.sH (b : LB) (e : Nat) (k : List Int) : LB := { b with hs := b.hs.set e (b.ha e, k) }
def LB.sR (b : LB) (d : List (Val × Val)) : LB := { b with rights := d }
def LB.sO (b : LB) (d : List (Val × Val)) : LB := { b with offers := d }
def LB.sW (b : LB) (e : Nat) (y : Option (Nat × Int × Int)) (kvs : List (Val × Val)) : LB := { b with kvs := kvs, wa := b.wa.set e y }
theorem on_sH (o : On (b.nodes ++ R) h) (hf : e < b.hs.length) (k : List Int) : On ((b.sH e k).nodes ++ R) (h.set (b.ha e) (.lst (k.map Val.int))) := by
  have e0 := b.hs_at hf
  have e1 : (b.hs.map iN)[e]? = some (iN (b.ha e, b.hld e)) := by rw [List.getElem?_map, e0]; rfl
  have e5 := app_l (B := b.wa.flatMap wN) e1
  have e6 : b.nodes[4 + _]? = _ := app_at (A := b.base) (n := 4) rfl e5
  have z := o.set (app_l (B := R) e6) (.lst (k.map Val.int))
  have q : (b.nodes ++ R).set (4 + e) (b.ha e, .lst (k.map Val.int)) = (b.sH e k).nodes ++ R := by
    rw [app_setl e6]
    unfold LB.nodes
    rw [app_setr (A := b.base) (n := 4) rfl, app_setl e1]
    simp only [LB.base, LB.sH, List.map_set, refs_set e0]
    rfl
  rw [q] at z
  exact z
theorem on_sR (o : On (b.nodes ++ R) h) (d : List (Val × Val)) : On ((b.sR d).nodes ++ R) (h.set b.Rt (.dcT d)) := o.set (i := 1) (a := b.Rt) (x := .dcT b.rights) rfl (.dcT d)
theorem on_sO (o : On (b.nodes ++ R) h) (d : List (Val × Val)) : On ((b.sO d).nodes ++ R) (h.set b.Of (.dcT d)) := o.set (i := 2) (a := b.Of) (x := .dcT b.offers) rfl (.dcT d)
theorem wa_perm (K : b.wa.length = 4) (he : e < 4) : (b.nodes ++ R).Perm (wN (b.wan e) ++ (b.base ++ (b.hs.map iN ++ (b.wa.eraseIdx e).flatMap wN) ++ R)) := by
  have p := fm_perm (wa := b.wa) (e := e) (by omega)
  unfold LB.nodes
  have p1 : (b.base ++ (b.hs.map iN ++ b.wa.flatMap wN)).Perm (wN (b.wan e) ++ (b.base ++ (b.hs.map iN ++ (b.wa.eraseIdx e).flatMap wN))) := by
    refine ((p.append_left _).append_left _).trans ?_
    refine (List.Perm.append_left _ (List.perm_append_comm_assoc _ _ _)).trans ?_
    exact List.perm_append_comm_assoc _ _ _
  have p2 := p1.append_right R
  rw [List.append_assoc (wN _)] at p2
  exact p2
theorem wa_perm2 (K : b.wa.length = 4) (he : e < 4) (y : Option (Nat × Int × Int)) (kvs : List (Val × Val)) : ((b.sW e y kvs).nodes ++ R).Perm (wN y ++ ((b.sW e y kvs).base ++ (b.hs.map iN ++ (b.wa.eraseIdx e).flatMap wN) ++ R)) := by
  have z := wa_perm (b := b.sW e y kvs) (R := R) (e := e) (by simp [LB.sW, K]) he
  have e1 : (b.sW e y kvs).wan e = y := by
    unfold LB.wan LB.sW
    rw [List.getD_eq_getElem?_getD, List.getElem?_set_self (by omega)]; rfl
  have e2 : (b.sW e y kvs).wa.eraseIdx e = b.wa.eraseIdx e := by
    unfold LB.sW
    rw [List.eraseIdx_set_eq]
  rw [e1, e2] at z
  exact z
/-- the asking's row is written -/
theorem on_sW (K : b.wa.length = 4) (he : e < 4) (o : On (b.nodes ++ R) h) {m k m' k' : Int} (w : b.wan e = some (a, m, k)) : On ((b.sW e (some (a, m', k')) b.kvs).nodes ++ R) (h.set a (.lst [.int m', .int k'])) := by
  have o1 := o.perm (wa_perm K he)
  rw [w] at o1
  have o2 := o1.set (i := 0) (a := a) (x := .lst [.int m, .int k]) rfl (.lst [.int m', .int k'])
  exact o2.perm (wa_perm2 K he (some (a, m', k')) b.kvs).symm
/-- the asking goes -/
theorem on_pW (K : b.wa.length = 4) (he : e < 4) (o : On (b.nodes ++ R) h) : On ((b.sW e none (dropV b.kvs (.int e))).nodes ++ R) (h.set b.Wn (.dct (dropV b.kvs (.int e)))) := by
  have o1 := (o.perm (wa_perm K he)).sub2
  have o2 := o1.set (i := 3) (a := b.Wn) (x := .dct b.kvs) rfl (.dct (dropV b.kvs (.int e)))
  exact o2.perm (wa_perm2 K he none (dropV b.kvs (.int e))).symm
/-- an asking anew -/
theorem on_nW (K : b.wa.length = 4) (he : e < 4) (o : On (b.nodes ++ R) h) {m k : Int} (ea : h[a]? = some (.lst [.int m, .int k])) (hn : ∀ p ∈ b.nodes ++ R, p.1 ≠ a) (kvs : List (Val × Val)) : On ((b.sW e (some (a, m, k)) kvs).nodes ++ R) (h.set b.Wn (.dct kvs)) := by
  have pm := wa_perm (R := R) K he
  have o1 := (o.perm pm).sub2
  have o2 : On ((a, .lst [.int m, .int k]) :: (b.base ++ (b.hs.map iN ++ (b.wa.eraseIdx e).flatMap wN) ++ R)) h := by
    refine ⟨?_, fun q hq => ?_⟩
    · rw [List.map_cons, List.nodup_cons]
      refine ⟨fun hm => ?_, o1.nd⟩
      obtain ⟨q, hq, e⟩ := List.mem_map.mp hm
      exact hn q (pm.mem_iff.mpr (List.mem_append_right _ hq)) e
    · rcases List.mem_cons.mp hq with rfl | hq
      · exact ea
      · exact o1.at_ q hq
  have o3 := o2.set (i := 4) (a := b.Wn) (x := .dct b.kvs) rfl (.dct kvs)
  exact o3.perm (wa_perm2 K he (some (a, m, k)) kvs).symm
theorem LOk.sH (K : LOk b) {k : List Int} : LOk (b.sH e k) := ⟨by simp [LB.sH, K.hs], K.wa, K.kv⟩
theorem LOk.sR (K : LOk b) {d : List (Val × Val)} : LOk (b.sR d) := ⟨K.hs, K.wa, K.kv⟩
theorem LOk.sO (K : LOk b) {d : List (Val × Val)} : LOk (b.sO d) := ⟨K.hs, K.wa, K.kv⟩
theorem hld_sH {k : List Int} {g : Nat} (hf : e < b.hs.length) : (b.sH e k).hld g = if g = e then k else b.hld g := by
  unfold LB.hld LB.sH
  simp only [List.getElem?_set]
  by_cases c : e = g
  · subst c; simp [hf]
  · rw [if_neg c, if_neg (Ne.symm c)]
theorem wan_sW {y : Option (Nat × Int × Int)} {kvs : List (Val × Val)} {g : Nat} (K : b.wa.length = 4) (he : e < 4) : (b.sW e y kvs).wan g = if g = e then y else b.wan g := by
  unfold LB.wan LB.sW
  simp only [List.getD_eq_getElem?_getD, List.getElem?_set]
  by_cases c : e = g
  · subst c; simp [show e < b.wa.length by omega]
  · rw [if_neg c, if_neg (Ne.symm c)]
theorem LOk.sW (K : LOk b) (he : e < 4) {m k m' k' : Int} (w : b.wan e = some (a, m, k)) : LOk (b.sW e (some (a, m', k')) b.kvs) := ⟨K.hs, by simp [LB.sW, K.wa], fun g hg => by
  rw [wan_sW K.wa he]
  show lookV b.kvs _ = _
  rw [K.kv g hg]
  by_cases c : g = e
  · subst c; rw [if_pos rfl, w]; rfl
  · rw [if_neg c]⟩
theorem LOk.pW (K : LOk b) (he : e < 4) : LOk (b.sW e none (dropV b.kvs (.int e))) := ⟨K.hs, by simp [LB.sW, K.wa], fun g hg => by
  rw [wan_sW K.wa he]
  show lookV (dropV b.kvs (.int e)) _ = _
  rw [lookV_drop]
  by_cases c : g = e
  · subst c; rw [if_pos rfl, if_pos rfl]; rfl
  · rw [if_neg c, if_neg (by intro q; injection q with q; omega), K.kv g hg]⟩
theorem LOk.nW (K : LOk b) (he : e < 4) {m k : Int} : LOk (b.sW e (some (a, m, k)) (putV b.kvs (.int e) (.ref a))) := ⟨K.hs, by simp [LB.sW, K.wa], fun g hg => by
  rw [wan_sW K.wa he]
  show lookV (putV b.kvs (.int e) (.ref a)) _ = _
  rw [lookV_put]
  by_cases c : g = e
  · subst c; rw [if_pos rfl, if_pos rfl]; rfl
  · rw [if_neg c, if_neg (by intro q; injection q with q; omega), K.kv g hg]⟩
end
end Lw

set_option Elab.async false
set_option linter.all false
set_option autoImplicit false
set_option maxHeartbeats 4000000
set_option maxRecDepth 100000
namespace Lw
open PyM
/-- what both books reckon alike -/
def mhmF (od : Nat → List Int) (shr : Nat → Int) (many : Int) (e : Nat) : Bool := decide (((od e).length : Int) < shr e) ||
  decide (((List.range 4).map fun e => if shr e - (od e).length > 0 then shr e - ((od e).length : Int) else 0).sum < many - ((List.range 4).map fun e => ((od e).length : Int)).sum)
theorem mhm_eq {s : FS} {e : Nat} : s.mhm e = mhmF s.ord s.shr s.many e := rfl
def key2 (a b : Nat) : Val := .tup [.int a, .int b]
theorem key2_ok {a b : Nat} : keysOk [.int (a : Nat), .int (b : Nat)] = true := by simp [keysOk, isKey]
theorem ints_pl {zs : List Int} : (zs.map Val.int).all (pl 59) = true := List.all_eq_true.mpr fun x hx => by
  obtain ⟨i, _, rfl⟩ := List.mem_map.mp hx
  rfl
theorem mem_ints {zs : List Int} {z : Int} : decide (Val.int z ∈ zs.map Val.int) = decide (z ∈ zs) := by
  rw [Bool.eq_iff_iff, decide_eq_true_eq, decide_eq_true_eq, List.mem_map]
  constructor
  · rintro ⟨y, hy, q⟩; injection q with q; exact q ▸ hy
  · exact fun hz => ⟨z, hz, rfl⟩
section
variable {s : FS} {b : LB} {R : Nodes} {h h' : Heap} {e f w a c sa n r : Nat} {x v : Val} {shares : List Int} {many : Nat}
/-- an end of a holding -/
def LB.en (b : LB) (e f : Nat) : LB := ((b.sH e ((b.hld e).erase (f : Int))).sR (dropV b.rights (key2 e f))).sO (dropOs b.offers e f 4)
theorem LOk.en (K : LOk b) : LOk (b.en e f) := ((K.sH).sR).sO
theorem hld_en (K : LOk b) (he : e < 4) {g : Nat} : (b.en e f).hld g = if g = e then (b.hld e).erase (f : Int) else b.hld g := by
  have : (b.en e f).hld g = (b.sH e ((b.hld e).erase (f : Int))).hld g := rfl
  rw [this, hld_sH (by rw [K.hs]; exact he)]
theorem key2_inj {a b c d : Nat} : key2 a b = key2 c d ↔ a = c ∧ b = d := by
  unfold key2
  constructor
  · intro q
    injection q with q
    injection q with q1 q2
    injection q2 with q2 _
    injection q1 with q1
    injection q2 with q2
    omega
  · rintro ⟨rfl, rfl⟩; rfl
structure LS (b : LB) (many : Nat) : Prop where
  r : ∀ e f : Nat, e < 4 → f < many → ((∃ x, lookV b.rights (key2 e f) = some x) ↔ (f : Int) ∈ b.hld e)
  bd : ∀ (e : Nat) (x : Int), e < 4 → x ∈ b.hld e → 0 ≤ x ∧ x < many
  n : ∀ e : Nat, e < 4 → (b.hld e).Nodup
theorem oEq_ints {l : List Int} (e1 : h[a]? = some (.lst (l.map Val.int))) (e2 : h[c]? = some (.lst (l.map Val.int))) : oEq true (.ref a) (.ref c) h = .ok (.bl false) h := oEq_conv (conv_lst e1 ints_pl) (conv_lst e2 ints_pl)
theorem _root_.PyM.Tn.new {p a : Nat} {ns : List Int} {l : Nodes} {h : Heap} (T : Tn p a ns l h) (x : Obj) : Tn p a ns ((h.length, x) :: l) (h ++ [x]) := by
  obtain ⟨i, r, t, i0, o⟩ := T.k
  exact ⟨i, r, t, i0, (o.new x).perm (List.perm_append_comm_assoc [(h.length, x)] [(p, Obj.lst [.ref a, .int i, .int r, .int t]), (a, .lst (ns.map Val.int))] l)⟩
theorem _root_.PyM.Tn.drop1 {p a : Nat} {ns : List Int} {q : Nat × Obj} {l : Nodes} {h : Heap} (T : Tn p a ns (q :: l) h) : Tn p a ns l h := by
  obtain ⟨i, r, t, i0, o⟩ := T.k
  exact ⟨i, r, t, i0, (o.perm (List.perm_append_comm_assoc [(p, Obj.lst [.ref a, .int i, .int r, .int t]), (a, .lst (ns.map Val.int))] [q] l)).drop1⟩
theorem ints_of {P : Int → Prop} : ∀ {ys : List Val}, (∀ y ∈ ys, ∃ z, P z ∧ y = .int z) → ∃ zs : List Int, (∀ z ∈ zs, P z) ∧ ys = zs.map Val.int
  | [], _ => ⟨[], by simp, rfl⟩
  | y :: ys, H => by
    obtain ⟨z, hz, rfl⟩ := H y (by simp)
    obtain ⟨zs, g, rfl⟩ := ints_of (ys := ys) (fun z hz => H z (by simp [hz]))
    refine ⟨z :: zs, fun j hj => ?_, rfl⟩
    rcases List.mem_cons.mp hj with rfl | hj
    · exact hz
    · exact g j hj
end
end Lw

set_option Elab.async false
set_option linter.all false
set_option autoImplicit false
set_option maxHeartbeats 4000000
set_option maxRecDepth 100000
namespace Lw
open PyM
/-! both books alike -/
def wtv : Option (Nat × Int × Int) → Val
  | none => .non
  | some (_, m, k) => .tup [.int m, .int k]
structure Iv (s : FS) (b : LB) (shares : List Int) (n : Nat) : Prop where
  K : FOk s
  B : LOk b
  sh : s.shares = shares
  sh0 : ∀ e : Nat, e < 4 → 0 ≤ shares.getD e 0
  O : OrS s
  od : ∀ e : Nat, e < 4 → b.hld e = s.ord e
  rt : ∀ e f : Nat, e < 4 → f < s.many → lookV b.rights (key2 e f) = lookV (s.hdk f) (.int e)
  of : ∀ e f w : Nat, e < 4 → f < s.many → w < 4 → lookV b.offers (key3 e f w) = lookV s.offers (key3 e f w)
  wt : ∀ e : Nat, e < 4 → s.wt e = wtv (b.wan e)
  wm : ∀ (e a : Nat) (m k : Int), e < 4 → b.wan e = some (a, m, k) → 1 ≤ m
  rv : ∀ k v, lookV b.rights k = some v → ∃ r, r < 2 ∧ v = .str r
  ov : ∀ k v, lookV b.offers k = some v → ∃ r, r < 2 ∧ v = .str r
  sv : ∀ k v, lookV s.offers k = some v → ∃ r, r < 2 ∧ v = .str r
  ks : ∀ f : Nat, f < s.many → ∀ k v, lookV (s.hdk f) k = some v → ∃ e : Nat, e < 4 ∧ k = .int e
  un : s.unf ≤ s.lft
  l1 : ∀ e : Nat, e < 4 → (s.ord e).length + (s.lo e).length ≤ n
  l2 : ∀ f : Nat, f < s.many → (s.hdk f).length ≤ n
  l3 : s.offers.length ≤ n
  l4 : b.rights.length ≤ n
  l5 : b.offers.length ≤ n
  l6 : b.kvs.length ≤ n
def FS.gr (s : FS) (e f : Nat) (x : Val) : FS := (s.sHd f (putV (s.hdk f) (.int e) x)).sOs e (s.ord e ++ [(f : Int)])
def LB.gr (b : LB) (e f : Nat) (x : Val) : LB := (b.sH e (b.hld e ++ [(f : Int)])).sR (putV b.rights (key2 e f) x)
section
variable {s : FS} {b : LB} {R : Nodes} {h h' : Heap} {e f a sa n : Nat} {shares : List Int}
theorem Iv.mono (I : Iv s b shares n) {n' : Nat} (hn : n ≤ n') : Iv s b shares n' := { I with
  l1 := fun e he => Nat.le_trans (I.l1 e he) hn
  l2 := fun e he => Nat.le_trans (I.l2 e he) hn
  l3 := Nat.le_trans I.l3 hn
  l4 := Nat.le_trans I.l4 hn
  l5 := Nat.le_trans I.l5 hn
  l6 := Nat.le_trans I.l6 hn }
theorem int_inj {a b : Nat} : Val.int (a : Int) = Val.int (b : Int) ↔ a = b := by
  constructor
  · intro q; injection q with q; omega
  · rintro rfl; rfl
theorem un_gr {s s' : FS} (he : e < 4) (hm : s'.many = s.many) (hs : ∀ i, s'.shr i = s.shr i) (hl : ∀ i, i < 4 → s'.len i = s.len i + if i = e then 1 else 0) (c : s.len e < s.shr e ∨ s.unf < s.lft) (u : s.unf ≤ s.lft) : s'.unf ≤ s'.lft := by
  unfold FS.unf FS.lft at *
  have h0 := hl 0 (by omega)
  have h1 := hl 1 (by omega)
  have h2 := hl 2 (by omega)
  have h3 := hl 3 (by omega)
  simp only [show List.range 4 = [0, 1, 2, 3] from rfl, List.map_cons, List.map_nil, List.sum_cons, List.sum_nil, hs, hm, h0, h1, h2, h3] at *
  have q : e = 0 ∨ e = 1 ∨ e = 2 ∨ e = 3 := by omega
  rcases q with rfl | rfl | rfl | rfl <;> simp at * <;> omega
theorem un_en {s s' : FS} (he : e < 4) (hm : s'.many = s.many) (hs : ∀ i, s'.shr i = s.shr i) (hl : ∀ i, i < 4 → s'.len i = s.len i - if i = e then 1 else 0) (u : s.unf ≤ s.lft) : s'.unf ≤ s'.lft := by
  unfold FS.unf FS.lft at *
  have h0 := hl 0 (by omega)
  have h1 := hl 1 (by omega)
  have h2 := hl 2 (by omega)
  have h3 := hl 3 (by omega)
  simp only [show List.range 4 = [0, 1, 2, 3] from rfl, List.map_cons, List.map_nil, List.sum_cons, List.sum_nil, hs, hm, h0, h1, h2, h3] at *
  have q : e = 0 ∨ e = 1 ∨ e = 2 ∨ e = 3 := by omega
  rcases q with rfl | rfl | rfl | rfl <;> simp at * <;> omega
theorem ord_gr (K : FOk s) (he : e < 4) {x : Val} {g : Nat} : (s.gr e f x).ord g = if g = e then s.ord e ++ [(f : Int)] else s.ord g := by
  unfold FS.gr
  rw [ord_sOs (by show e < s.os.length; rw [K.os]; exact he)]
  rfl
theorem hdk_gr (K : FOk s) (hf : f < s.many) {x : Val} {g : Nat} : (s.gr e f x).hdk g = if g = f then putV (s.hdk f) (.int e) x else s.hdk g := by
  have : (s.gr e f x).hdk g = (s.sHd f (putV (s.hdk f) (.int e) x)).hdk g := rfl
  rw [this, hdk_sHd (by rw [K.hd]; exact hf)]
theorem hld_gr (K : LOk b) (he : e < 4) {x : Val} {g : Nat} : (b.gr e f x).hld g = if g = e then b.hld e ++ [(f : Int)] else b.hld g := by
  have : (b.gr e f x).hld g = (b.sH e (b.hld e ++ [(f : Int)])).hld g := rfl
  rw [this, hld_sH (by rw [K.hs]; exact he)]
theorem Iv.gr (I : Iv s b shares n) (he : e < 4) (hf : f < s.many) (hno : lookV (s.hdk f) (.int e) = none) (hm : s.mhm e = true) {r : Nat} (hr : r < 2) : Iv (s.gr e f (.str r)) (b.gr e f (.str r)) shares (n + 1) := by
  have hnm : ¬ (f : Int) ∈ s.ord e := fun q => by
    obtain ⟨x, hx⟩ := (I.O.r e f he hf).mpr q
    rw [hno] at hx; cases hx
  refine ⟨(I.K.sHd).sOs, (I.B.sH).sR, I.sh, I.sh0, ⟨fun g f' hg hf' => ?_, fun g x hg hx => ?_, fun g hg => ?_⟩, fun g hg => ?_, fun g f' hg hf' => ?_, I.of, I.wt, I.wm, fun k v hk => ?_, I.ov, I.sv, fun f' hf' k v hk => ?_, ?_, fun g hg => ?_, fun f' hf' => ?_, Nat.le_succ_of_le I.l3, ?_, Nat.le_succ_of_le I.l5, Nat.le_succ_of_le I.l6⟩
  · rw [ord_gr I.K he, hdk_gr I.K hf]
    have o := I.O.r g f' hg hf'
    by_cases c1 : f' = f
    · subst c1
      rw [if_pos rfl, lookV_put]
      by_cases c2 : g = e
      · subst c2; simp
      · rw [if_neg (fun q => c2 (int_inj.mp q)), if_neg c2]; exact o
    · rw [if_neg c1]
      by_cases c2 : g = e
      · subst c2
        rw [if_pos rfl, o, List.mem_append, List.mem_singleton]
        constructor
        · exact .inl
        · rintro (q | q)
          · exact q
          · omega
      · rw [if_neg c2]; exact o
  · rw [ord_gr I.K he] at hx
    by_cases c2 : g = e
    · subst c2
      rw [if_pos rfl, List.mem_append, List.mem_singleton] at hx
      rcases hx with hx | rfl
      · exact I.O.b g x hg hx
      · show 0 ≤ (f : Int) ∧ (f : Int) < (s.many : Nat)
        omega
    · rw [if_neg c2] at hx
      exact I.O.b g x hg hx
  · rw [ord_gr I.K he]
    split
    · rw [List.nodup_append]
      refine ⟨I.O.n e he, by simp, ?_⟩
      intro x hx y hy
      rw [List.mem_singleton] at hy
      subst hy
      rintro rfl
      exact hnm hx
    · exact I.O.n g hg
  · rw [ord_gr I.K he, hld_gr I.B he, I.od e he, I.od g hg]
  · rw [hdk_gr I.K hf]
    show lookV (putV b.rights _ _) _ = _
    rw [lookV_put]
    have o := I.rt g f' hg hf'
    by_cases c1 : f' = f
    · subst c1
      rw [if_pos rfl, lookV_put]
      by_cases c2 : g = e
      · subst c2; simp
      · rw [if_neg (fun q => c2 (key2_inj.mp q).1), if_neg (fun q => c2 (int_inj.mp q))]; exact o
    · rw [if_neg (fun q => c1 (key2_inj.mp q).2), if_neg c1]; exact o
  · have hk : lookV (putV b.rights (key2 e f) (.str r)) k = some v := hk
    rw [lookV_put] at hk
    split at hk
    · injection hk with hk; exact ⟨r, hr, hk.symm⟩
    · exact I.rv k v hk
  · rw [hdk_gr I.K hf] at hk
    split at hk
    · rw [lookV_put] at hk
      split at hk
      · exact ⟨e, he, by assumption⟩
      · exact I.ks f hf k v hk
    · exact I.ks f' hf' k v hk
  · refine un_gr (s := s) he rfl (fun _ => rfl) (fun i hi => ?_) ?_ I.un
    · unfold FS.len
      rw [ord_gr I.K he]
      split
      · subst_vars; simp
      · simp
    · unfold FS.mhm at hm
      simpa using hm
  · have q := I.l1 g hg
    have e1 : (s.gr e f (.str r)).lo g = s.lo g := rfl
    rw [ord_gr I.K he, e1]
    split
    · subst_vars; simp; omega
    · omega
  · rw [hdk_gr I.K hf]
    split
    · exact Nat.le_trans putV_len (Nat.succ_le_succ (I.l2 f hf))
    · exact Nat.le_succ_of_le (I.l2 f' hf')
  · exact Nat.le_trans putV_len (Nat.succ_le_succ I.l4)
end
end Lw

set_option Elab.async false
set_option linter.all false
set_option autoImplicit false
set_option maxHeartbeats 4000000
set_option maxRecDepth 100000
namespace Lw
open PyM
section
variable {s : FS} {b : LB} {R : Nodes} {h h' : Heap} {e f a sa n : Nat} {shares : List Int}
theorem dropOs_cong {d1 d2 : List (Val × Val)} {k : Val} (q : lookV d1 k = lookV d2 k) : ∀ m, lookV (dropOs d1 e f m) k = lookV (dropOs d2 e f m) k
  | 0 => q
  | m + 1 => by
    unfold dropOs
    rw [lookV_drop, lookV_drop, dropOs_cong q m]
theorem dropOs_some {d : List (Val × Val)} {k v : Val} : ∀ m, lookV (dropOs d e f m) k = some v → lookV d k = some v
  | 0, h => h
  | m + 1, h => by
    unfold dropOs at h
    rw [lookV_drop] at h
    split at h
    · cases h
    · exact dropOs_some m h
theorem Iv.LS (I : Iv s b shares n) : LS b s.many := ⟨fun g f hg hf => by rw [I.rt g f hg hf, I.od g hg]; exact I.O.r g f hg hf, fun g x hg hx => I.O.b g x hg (by rw [← I.od g hg]; exact hx), fun g hg => by rw [I.od g hg]; exact I.O.n g hg⟩
theorem Iv.en (I : Iv s b shares n) (he : e < 4) (hf : f < s.many) (hm : (f : Int) ∈ s.ord e) : Iv (s.eh e f) (b.en e f) shares n := by
  refine ⟨I.K.eh, I.B.en, I.sh, I.sh0, I.O.eh I.K he hf, fun g hg => ?_, fun g f' hg hf' => ?_, fun g f' w hg hf' hw => dropOs_cong (I.of g f' w hg hf' hw) 4, I.wt, I.wm, fun k v hk => ?_, fun k v hk => I.ov k v (dropOs_some 4 hk), fun k v hk => I.sv k v (dropOs_some 4 hk), fun f' hf' k v hk => ?_, ?_, fun g hg => ?_, fun f' hf' => ?_, Nat.le_trans (dropOs_len 4) I.l3, Nat.le_trans dropV_len I.l4, Nat.le_trans (dropOs_len 4) I.l5, I.l6⟩
  · rw [ord_eh I.K he, hld_en I.B he, I.od e he, I.od g hg]
  · rw [hdk_eh I.K hf]
    show lookV (dropV b.rights _) _ = _
    rw [lookV_drop]
    have o := I.rt g f' hg hf'
    by_cases c1 : f' = f
    · subst c1
      rw [if_pos rfl, lookV_drop]
      by_cases c2 : g = e
      · subst c2; simp
      · rw [if_neg (fun q => c2 (key2_inj.mp q).1), if_neg (fun q => c2 (int_inj.mp q))]; exact o
    · rw [if_neg (fun q => c1 (key2_inj.mp q).2), if_neg c1]; exact o
  · have hk : lookV (dropV b.rights (key2 e f)) k = some v := hk
    rw [lookV_drop] at hk
    split at hk
    · cases hk
    · exact I.rv k v hk
  · rw [hdk_eh I.K hf] at hk
    split at hk
    · rw [lookV_drop] at hk
      split at hk
      · cases hk
      · exact I.ks f hf k v hk
    · exact I.ks f' hf' k v hk
  · refine un_en (s := s) he rfl (fun _ => rfl) (fun i hi => ?_) I.un
    unfold FS.len
    rw [ord_eh I.K he]
    have pos := List.length_pos_of_mem hm
    split
    · subst_vars; rw [List.length_erase_of_mem hm]; omega
    · simp
  · have q := I.l1 g hg
    have e1 : (s.eh e f).lo g = s.lo g := rfl
    rw [ord_eh I.K he, e1]
    split
    · subst_vars; rw [List.length_erase_of_mem hm]; omega
    · omega
  · rw [hdk_eh I.K hf]
    split
    · exact Nat.le_trans dropV_len (I.l2 f hf)
    · exact I.l2 f' hf'
theorem key3_inj {a b c d i j : Nat} : key3 a b i = key3 c d j ↔ a = c ∧ b = d ∧ i = j := by
  unfold key3
  constructor
  · intro q
    injection q with q
    injection q with q1 q2
    injection q2 with q2 q3
    injection q3 with q3 _
    injection q1 with q1
    injection q2 with q2
    injection q3 with q3
    omega
  · rintro ⟨rfl, rfl, rfl⟩; rfl
theorem Iv.ofP (I : Iv s b shares n) {w r : Nat} (hr : r < 2) : Iv (s.sOf (putV s.offers (key3 e f w) (.str r))) (b.sO (putV b.offers (key3 e f w) (.str r))) shares (n + 1) :=
  { I.mono (Nat.le_succ n) with
    K := I.K.sOf
    B := I.B.sO
    O := ⟨I.O.r, I.O.b, I.O.n⟩
    of := fun g f' w' hg hf' hw => by
      show lookV (putV _ _ _) _ = lookV (putV _ _ _) _
      rw [lookV_put, lookV_put, I.of g f' w' hg hf' hw]
    ov := fun k v hk => by
      have hk : lookV (putV b.offers _ _) k = some v := hk
      rw [lookV_put] at hk
      split at hk
      · injection hk with hk; exact ⟨r, hr, hk.symm⟩
      · exact I.ov k v hk
    sv := fun k v hk => by
      have hk : lookV (putV s.offers _ _) k = some v := hk
      rw [lookV_put] at hk
      split at hk
      · injection hk with hk; exact ⟨r, hr, hk.symm⟩
      · exact I.sv k v hk
    l3 := Nat.le_trans putV_len (Nat.succ_le_succ I.l3)
    l5 := Nat.le_trans putV_len (Nat.succ_le_succ I.l5) }
theorem Iv.ofD (I : Iv s b shares n) (k0 : Val) : Iv (s.sOf (dropV s.offers k0)) (b.sO (dropV b.offers k0)) shares n :=
  { I with
    K := I.K.sOf
    B := I.B.sO
    O := ⟨I.O.r, I.O.b, I.O.n⟩
    of := fun g f' w' hg hf' hw => by
      show lookV (dropV _ _) _ = lookV (dropV _ _) _
      rw [lookV_drop, lookV_drop, I.of g f' w' hg hf' hw]
    ov := fun k v hk => by
      have hk : lookV (dropV b.offers _) k = some v := hk
      rw [lookV_drop] at hk
      split at hk
      · cases hk
      · exact I.ov k v hk
    sv := fun k v hk => by
      have hk : lookV (dropV s.offers _) k = some v := hk
      rw [lookV_drop] at hk
      split at hk
      · cases hk
      · exact I.sv k v hk
    l3 := Nat.le_trans dropV_len I.l3
    l5 := Nat.le_trans dropV_len I.l5 }
theorem Iv.nar (I : Iv s b shares n) (he : e < 4) (hf : f < s.many) {x : Val} (hx : lookV (s.hdk f) (.int e) = some x) : Iv (s.nar e f) (b.sR (putV b.rights (key2 e f) (.str 1))) shares (n + 1) := by
  have hh : ∀ g, (s.nar e f).hdk g = if g = f then putV (s.hdk f) (.int e) (.str 1) else s.hdk g := fun g => hdk_sHd (by rw [I.K.hd]; exact hf)
  exact { I.mono (Nat.le_succ n) with
    K := I.K.sHd
    B := I.B.sR
    O := ⟨fun g f' hg hf' => by
      rw [hh]
      have o := I.O.r g f' hg hf'
      show _ ↔ (f' : Int) ∈ s.ord g
      split
      · subst_vars
        rw [lookV_put]
        split
        · rename_i q
          obtain rfl := int_inj.mp q
          rw [← o]
          exact ⟨fun _ => ⟨x, hx⟩, fun _ => ⟨_, rfl⟩⟩
        · exact o
      · exact o, I.O.b, I.O.n⟩
    rt := fun g f' hg hf' => by
      rw [hh]
      show lookV (putV b.rights _ _) _ = _
      rw [lookV_put]
      have o := I.rt g f' hg hf'
      by_cases c1 : f' = f
      · subst c1
        rw [if_pos rfl, lookV_put]
        by_cases c2 : g = e
        · subst c2; simp
        · rw [if_neg (fun q => c2 (key2_inj.mp q).1), if_neg (fun q => c2 (int_inj.mp q))]; exact o
      · rw [if_neg (fun q => c1 (key2_inj.mp q).2), if_neg c1]; exact o
    rv := fun k v hk => by
      have hk : lookV (putV b.rights _ _) k = some v := hk
      rw [lookV_put] at hk
      split at hk
      · injection hk with hk; exact ⟨1, by omega, hk.symm⟩
      · exact I.rv k v hk
    ks := fun f' hf' k v hk => by
      rw [hh] at hk
      split at hk
      · rw [lookV_put] at hk
        split at hk
        · exact ⟨e, he, by assumption⟩
        · exact I.ks f hf k v hk
      · exact I.ks f' hf' k v hk
    l2 := fun f' hf' => by
      rw [hh]
      split
      · exact Nat.le_trans putV_len (Nat.succ_le_succ (I.l2 f hf))
      · exact Nat.le_succ_of_le (I.l2 f' hf')
    l4 := Nat.le_trans putV_len (Nat.succ_le_succ I.l4) }
theorem wt_set (hwa : s.wanted.length = 4) (he : e < 4) {x : Val} {g : Nat} : (s.sWa (s.wanted.set e x)).wt g = if g = e then x else s.wt g := by
  unfold FS.wt FS.sWa
  simp only [List.getD_eq_getElem?_getD, List.getElem?_set]
  by_cases c : e = g
  · subst c; simp [show e < s.wanted.length by omega]
  · rw [if_neg c, if_neg (Ne.symm c)]
theorem Iv.wan (I : Iv s b shares n) (he : e < 4) {y : Option (Nat × Int × Int)} {kvs : List (Val × Val)} (B : LOk (b.sW e y kvs)) (hy : ∀ a m k, y = some (a, m, k) → 1 ≤ m) {n' : Nat} (hn : n ≤ n') (hk : kvs.length ≤ n') : Iv (s.sWa (s.wanted.set e (wtv y))) (b.sW e y kvs) shares n' :=
  { I.mono hn with
    K := I.K.sWa (by simp [I.K.wa])
    B := B
    O := ⟨I.O.r, I.O.b, I.O.n⟩
    wt := fun g hg => by
      rw [wt_set I.K.wa he, wan_sW I.B.wa he]
      split
      · rfl
      · exact I.wt g hg
    wm := fun g a m k hg hw => by
      rw [wan_sW I.B.wa he] at hw
      split at hw
      · exact hy a m k hw
      · exact I.wm g a m k hg hw
    l6 := hk }
theorem Iv.nws (I : Iv s b shares n) {k : List Val} : Iv (s.nWs f a k) b shares n := { I with K := I.K.nWs, O := ⟨I.O.r, I.O.b, I.O.n⟩ }
theorem Iv.sws (I : Iv s b shares n) {k : List Val} : Iv (s.sWs f k) b shares n := { I with K := I.K.sWs, O := ⟨I.O.r, I.O.b, I.O.n⟩ }
theorem Iv.nls (I : Iv s b shares n) (he : e < 4) {t : List Int} (hl : t.length + (s.ord e).length + (s.lo e).length ≤ n) : Iv (s.nLs e a (s.lo e ++ t)) b shares n := { I with
  K := I.K.nLs
  O := ⟨I.O.r, I.O.b, I.O.n⟩
  l1 := fun g hg => by
    rw [lo_nLs (by rw [I.K.ls]; exact he)]
    show (s.ord g).length + _ ≤ _
    split
    · subst_vars; rw [List.length_append]; omega
    · exact I.l1 g hg }
end
end Lw

set_option Elab.async false
set_option linter.all false
set_option autoImplicit false
set_option maxHeartbeats 4000000
set_option maxRecDepth 100000
namespace Lw
open PyM
section
variable {s : FS} {b : LB} {R : Nodes} {h h' : Heap} {e f w a c sa n r : Nat} {x v : Val} {shares : List Int} {many : Nat}
theorem Iv.rs (I : Iv s b shares n) (he : e < 4) (hf : f < s.many) (q : lookV (s.hdk f) (.int e) = some v) : ∃ r, r < 2 ∧ v = .str r := I.rv _ _ (by rw [I.rt e f he hf]; exact q)
theorem Iv.Rt (I : Iv s b shares n) : RtS s := fun e f he hf => by
  unfold FS.rt
  cases q : lookV (s.hdk f) (.int e) with
  | none => exact .inl rfl
  | some v =>
    obtain ⟨r, _, rfl⟩ := I.rs he hf q
    exact .inr ⟨r, rfl⟩
theorem Iv.Os (I : Iv s b shares n) : OfS s := fun k v q => by
  obtain ⟨r, _, e⟩ := I.sv k v q
  exact ⟨r, e⟩
theorem Iv.Ws (I : Iv s b shares n) : WtS s := fun e he => by
  rw [I.wt e he]
  cases q : b.wan e with
  | none => exact .inl rfl
  | some t =>
    obtain ⟨a, m, k⟩ := t
    exact .inr ⟨m, k, I.wm e a m k he q, rfl⟩
theorem Iv.shr (I : Iv s b shares n) : s.shr = fun e => shares.getD e 0 := by
  funext e
  unfold FS.shr
  rw [I.sh]
theorem sw {A B C : Nodes} (o : On (A ++ (B ++ C)) h) : On (B ++ (A ++ C)) h := o.perm (List.perm_append_comm_assoc A B C)
end
/-- a comprehension that makes new places -/
theorem fam_lc {α : Type} {chk : Heap → Bool} {tg : Val → En → Option En} {me : En → Heap → Res Val} {s0 : En} {E : Nat → Heap → Prop} {QU : Unit → Heap → Prop} {h : Heap} (nd : Nat × α → Nat × Obj) (v0 : α) (hnd : ∀ a, (nd (a, v0)).1 = a) {xs : List Val} {B : Nodes} (o : On B h) (hl : xs.length < lim)
    (hc : ∀ h', chk h' = true)
    (ht : ∀ x h', x ∈ xs → ∃ s2, tg x s0 = some s2 ∧ wR (me s2 h') (fun _ _ => False) fun y h2 => ∃ a, y = .ref a ∧ h'.length ≤ a ∧ Ext h' h2 ∧ h2[a]? = some (nd (a, v0)).2)
    (q : ∀ (ps : List (Nat × α)) h', ps.length = xs.length → (∀ p ∈ ps, p.2 = v0) → On ((h.length, .lst (refs ps)) :: (ps.map nd ++ B)) h' → QU () h') : wR (lcM chk tg tTrue me s0 h.length xs (h ++ [.lst []])) E QU := by
  refine wR_lcM (fun i acc h' => i ≤ xs.length ∧ ∃ ps : List (Nat × α), ps.length = i ∧ (∀ p ∈ ps, p.2 = v0) ∧ acc = refs ps ∧ On ((h.length, .lst acc) :: (ps.map nd ++ B)) h') xs 0 [] _ ⟨Nat.zero_le _, [], rfl, by simp, rfl, o.new _⟩ ?_ ?_
  · rintro i x acc h' _ hx ⟨hi, ps, hps, hv, rfl, o1⟩
    simp only [Nat.sub_zero] at hx
    have hlt : i < xs.length := (List.getElem?_eq_some_iff.mp hx).1
    obtain ⟨s2, e, w1⟩ := ht x h' (List.mem_of_getElem? hx)
    refine ⟨hc h', s2, e, ?_⟩
    rw [wR_tTrue, if_pos rfl]
    refine wR_mono w1 ?_
    rintro y h2 ⟨a, rfl, ha, x2, ea⟩
    have o2 := o1.ext x2
    have o3 := o2.newAt ea (fun p hp => o1.lt hp) ha
    have o4 := (o3.perm (List.Perm.swap _ _ _)).set (i := 0) rfl (Obj.lst (refs ps ++ [.ref a]))
    have el := o2.get (i := 0) rfl
    refine ⟨el, by rw [show (refs ps).length = i by simp [refs, hps]]; omega, hlt, ps ++ [(a, v0)], by simp [hps], fun p hp => ?_, by simp [refs], ?_⟩
    · rcases List.mem_append.mp hp with hp | hp
      · exact hv p hp
      · rw [List.mem_singleton.mp hp]
    · refine o4.perm ?_
      refine List.Perm.cons _ ?_
      rw [List.map_append]
      have e9 : ((ps.map nd ++ [(a, v0)].map nd) ++ B) = ps.map nd ++ (nd (a, v0) :: B) := by simp
      rw [e9]
      have e8 : (a, (nd (a, v0)).2) = nd (a, v0) := by
        conv => lhs; lhs; rw [← hnd a]
      rw [e8]
      exact (List.perm_middle (l₁ := ps.map nd)).symm
  · rintro acc h' ⟨_, ps, hps, hv, rfl, o1⟩
    exact ⟨hc _, q ps h' (by omega) hv o1⟩
theorem mvF {p q : Nat × Obj} {A B : Nodes} {h : Heap} (o : On (p :: (A ++ (q :: B))) h) : On (q :: p :: (A ++ B)) h := o.perm ((List.Perm.cons _ List.perm_middle).trans (List.Perm.swap _ _ _))
theorem fam_nil {α : Type} {l : List (Nat × List α)} (h : ∀ p ∈ l, p.2 = []) (f : Nat) : ((l[f]?).map (·.2)).getD [] = [] := by
  cases q : l[f]? with
  | none => rfl
  | some p => exact h p (List.mem_of_getElem? q)
/-- the book at the start -/
structure S0 (s : FS) (F many : Nat) (shares : List Int) : Prop where
  F : s.F = F
  m : s.many = many
  sh : s.shares = shares
  hd : ∀ f, s.hdk f = []
  os : ∀ e, s.ord e = []
  of : s.offers = []
  wt : ∀ e, s.wt e = .non
  lo : ∀ e, s.lo e = []
  K : FOk s
section
variable {h : Heap} {R : Nodes} {c many : Nat} {shares : List Int}
theorem init_ok (o : On R h) (ec : h[c]? = some (.lst (shares.map Val.int))) (m0 : 8 ≤ many) (m1 : many ≤ 64) (hl : shares.length = 4) (hz : ∀ z ∈ shares, 0 ≤ z) (hs : shares.sum ≤ many) :
    ∃ s h', m_Frames___init__ [.ref h.length, .int many, .ref c] (h ++ [.ins 0 []]) = .ok .non h' ∧ S0 s h.length many shares ∧ On (s.nodes ++ R) h' := by
  have wi : wR (m_Frames___init__ [.ref h.length, .int many, .ref c] (h ++ [.ins 0 []])) (fun _ _ => False) fun v h' => v = .non ∧ ∃ s, S0 s h.length many shares ∧ On (s.nodes ++ R) h' := by
    have ll := lim8
    have l1 : 1 ≤ lim := by omega
    have l0 : 0 ≤ lim := by omega
    have en : ∀ (i : Int) (h : Heap), m_is_number [.int i] h = .ok (.bl true) h := fun _ _ => rfl
    have oF := o.new (Obj.ins 0 [])
    have ec1 : (h ++ [Obj.ins 0 []])[c]? = some (.lst (shares.map Val.int)) := at_push ec
    have lc := at_lt ec
    generalize hh1 : h ++ [Obj.ins 0 []] = h1 at oF ec1
    have lF : h.length < h1.length := by rw [← hh1]; simp
    have ls1 := lstIs_at ec1
    have eis : isTy .lst (tyOf (.ref c) h1) = some true := by simp [tyOf, ec1, isTy]
    unfold m_Frames___init__
    refine wRB rfl ?_
    simp -implicitDefEqProofs [en, truth, show (8 : Int) ≤ many by omega, show (many : Int) ≤ 64 by omega, eis, ec1, hl, -wR_bAll, -wR_bSum]
    refine wR_lcXi (fun _ => .bl true) (by simp [hl]; omega) (fun h' ex => lstIs_at (ex.at ec1)) (fun i x h' hx ex => ?_) (fun h2 x2 el => ?_)
    · have hm := List.mem_of_getElem? hx
      obtain ⟨z, hz1, rfl⟩ := List.mem_map.mp hm
      have hz2 := hz z hz1
      refine ⟨_, rfl, ?_⟩
      simp -implicitDefEqProofs [wipeE, en, truth, hz2]
      exact Ext.refl _
    rw [List.length_map, hl] at el
    have q1 := bAll_map (b := fun _ => true) el
    have o2 := oF.ext x2
    have ec2 := x2.at ec1
    have q2 : bSum [.ref c] h2 = .ok (.int shares.sum) h2 := by
      have := bSum_map (b := fun z => z) ec2
      rwa [List.map_id'] at this
    have eF2 := o2.get (i := 0) rfl
    have o3 := o2.set (i := 0) rfl (.ins 0 [(0, .int many)])
    generalize hh3 : h2.set h.length (.ins 0 [(0, .int many)]) = h3 at o3
    have ec3 : h3[c]? = some (.lst (shares.map Val.int)) := by rw [← hh3, at_set_ne (by omega)]; exact ec2
    have hl3 : h3.length = h2.length := by rw [← hh3, List.length_set]
    have o4 := (o3.new (.lst (shares.map Val.int))).perm (List.Perm.swap _ _ _)
    rw [hl3] at o4
    have eF4 := o4.get (i := 0) rfl
    have o5 := o4.set (i := 0) rfl (.ins 0 [(0, .int many), (1, .ref h2.length)])
    generalize hh5 : (h3 ++ [Obj.lst (shares.map Val.int)]).set h.length (.ins 0 [(0, .int many), (1, .ref h2.length)]) = h5 at o5
    have hl5 : h5.length = h2.length + 1 := by rw [← hh5, List.length_set, List.length_append, hl3]; rfl
    refine wR_eq q1 ?_
    have ns : ¬ (many : Int) < shares.sum := by omega
    have mr : -4611686018427387904 ≤ (many : Int) ∧ (many : Int) < 4611686018427387904 := by omega
    simp -implicitDefEqProofs [truth, q2, ns, eF2, setF, hh3, ec3, eF4, hh5, mr, hl3, -wR_bSum]
    rw [← hl5]
    refine fam_lc dN [] (fun _ => rfl) o5 (by rw [rangeV_length]; omega) (fun _ => rfl) (fun x h' _ => ⟨_, rfl, ?_⟩) (fun hd h6 n2 v2 o6 => ?_)
    · simp -implicitDefEqProofs [wipeE]
      exact ⟨⟨_, rfl⟩, rfl⟩
    have o6 := mvF o6
    have eF6 := o6.get (i := 0) rfl
    have o7 := o6.set (i := 0) rfl (.ins 0 [(0, .int many), (1, .ref h2.length), (2, .ref h5.length)])
    generalize hh7 : h6.set h.length (.ins 0 [(0, .int many), (1, .ref h2.length), (2, .ref h5.length)]) = h7 at o7
    have hl7 : h7.length = h6.length := by rw [← hh7, List.length_set]
    simp -implicitDefEqProofs [eF6, setF, hh7, mr]
    rw [← hl7]
    refine fam_lc vN z8 (fun _ => rfl) o7 (by rw [rangeV_length]; omega) (fun _ => rfl) (fun x h' _ => ⟨_, rfl, ?_⟩) (fun ws h8 n3 v3 o8 => ?_)
    · simp -implicitDefEqProofs [wipeE, l1, show 8 ≤ lim by omega]
      exact ⟨⟨_, rfl⟩, rfl⟩
    have o8 := mvF o8
    have eF8 := o8.get (i := 0) rfl
    have o9 := o8.set (i := 0) rfl (.ins 0 [(0, .int many), (1, .ref h2.length), (2, .ref h5.length), (3, .ref h7.length)])
    generalize hh9 : h8.set h.length (.ins 0 [(0, .int many), (1, .ref h2.length), (2, .ref h5.length), (3, .ref h7.length)]) = h9 at o9
    have hl9 : h9.length = h8.length := by rw [← hh9, List.length_set]
    simp -implicitDefEqProofs [eF8, setF, hh9]
    rw [← hl9]
    refine fam_lc iN [] (fun _ => rfl) o9 (by rw [rangeV_length]; omega) (fun _ => rfl) (fun x h' _ => ⟨_, rfl, ?_⟩) (fun os h10 n4 v4 o10 => ?_)
    · simp -implicitDefEqProofs [wipeE, l0]
      exact ⟨⟨_, rfl⟩, rfl⟩
    have o10 := mvF o10
    have eF10 := o10.get (i := 0) rfl
    have o11 := o10.set (i := 0) rfl (.ins 0 [(0, .int many), (1, .ref h2.length), (2, .ref h5.length), (3, .ref h7.length), (4, .ref h9.length)])
    generalize hh11 : h10.set h.length (.ins 0 [(0, .int many), (1, .ref h2.length), (2, .ref h5.length), (3, .ref h7.length), (4, .ref h9.length)]) = h11 at o11
    have hl11 : h11.length = h10.length := by rw [← hh11, List.length_set]
    have o12 := (o11.new (.dcT [])).perm (List.Perm.swap _ _ _)
    rw [hl11] at o12
    have eF12 := o12.get (i := 0) rfl
    have o13 := o12.set (i := 0) rfl (.ins 0 [(0, .int many), (1, .ref h2.length), (2, .ref h5.length), (3, .ref h7.length), (4, .ref h9.length), (5, .ref h10.length)])
    generalize hh13 : (h11 ++ [Obj.dcT []]).set h.length (.ins 0 [(0, .int many), (1, .ref h2.length), (2, .ref h5.length), (3, .ref h7.length), (4, .ref h9.length), (5, .ref h10.length)]) = h13 at o13
    have hl13 : h13.length = h10.length + 1 := by rw [← hh13, List.length_set, List.length_append, hl11]; rfl
    simp -implicitDefEqProofs [eF10, setF, hh11, hl11, eF12, hh13]
    rw [← hl13]
    refine wR_lcXi (fun _ => .non) (by rw [rangeV_length]; omega) (fun _ _ => rfl) (fun i x h' hx ex => ⟨_, rfl, ?_⟩) (fun h14 x14 el => ?_)
    · simp -implicitDefEqProofs [wipeE]
      exact Ext.refl _
    rw [rangeV_length] at el
    have o14 := ((o13.ext x14).newAt el (fun p hp => o13.lt hp) (Nat.le_refl _)).perm (List.Perm.swap _ _ _)
    have eF14 := o14.get (i := 0) rfl
    have o15 := o14.set (i := 0) rfl (.ins 0 [(0, .int many), (1, .ref h2.length), (2, .ref h5.length), (3, .ref h7.length), (4, .ref h9.length), (5, .ref h10.length), (6, .ref h13.length)])
    generalize hh15 : h14.set h.length (.ins 0 [(0, .int many), (1, .ref h2.length), (2, .ref h5.length), (3, .ref h7.length), (4, .ref h9.length), (5, .ref h10.length), (6, .ref h13.length)]) = h15 at o15
    have hl15 : h15.length = h14.length := by rw [← hh15, List.length_set]
    simp -implicitDefEqProofs [eF14, setF, hh15]
    rw [← hl15]
    refine fam_lc iN [] (fun _ => rfl) o15 (by rw [rangeV_length]; omega) (fun _ => rfl) (fun x h' _ => ⟨_, rfl, ?_⟩) (fun ls h16 n7 v7 o16 => ?_)
    · simp -implicitDefEqProofs [wipeE, l0]
      exact ⟨⟨_, rfl⟩, rfl⟩
    have o16 := mvF o16
    have eF16 := o16.get (i := 0) rfl
    have o17 := o16.set (i := 0) rfl (.ins 0 [(0, .int many), (1, .ref h2.length), (2, .ref h5.length), (3, .ref h7.length), (4, .ref h9.length), (5, .ref h10.length), (6, .ref h13.length), (7, .ref h15.length)])
    simp -implicitDefEqProofs [eF16, setF]
    rw [rangeV_length] at n2 n3 n4 n7
    refine ⟨⟨h.length, h2.length, h5.length, h7.length, h9.length, h10.length, h13.length, h15.length, many, shares, hd, ws, os, [], [.non, .non, .non, .non], ls⟩, ⟨rfl, rfl, rfl, fam_nil v2, fam_nil v4, rfl, fun e => ?_, fam_nil v7, ⟨m0, m1, hl, n2, n3, n4, rfl, n7⟩⟩, o17.perm ?_⟩
    · unfold FS.wt
      rw [List.getD_eq_getElem?_getD]
      match e with
      | 0 => rfl
      | 1 => rfl
      | 2 => rfl
      | 3 => rfl
      | e + 4 => rfl
    · classical
      rw [List.perm_iff_count]
      intro x
      simp only [FS.nodes, FS.base, FS.obj, List.set_cons_zero, List.count_append, List.count_cons, List.count_nil, List.append_assoc, show (List.range 4).map (fun _ => Val.non) = [.non, .non, .non, .non] from rfl]
      omega
  obtain ⟨v, h', e, rfl, s, q⟩ := ex_of_wR wi
  exact ⟨s, h', e, q⟩
end
def bk0 (L : Nat) : LB := ⟨L + 4, L + 5, L + 6, L + 7, [(L, []), (L + 1, []), (L + 2, []), (L + 3, [])], [], [], [], [none, none, none, none]⟩
theorem wan0 {L : Nat} (e : Nat) : (bk0 L).wan e = none := by
  match e with
  | 0 => rfl
  | 1 => rfl
  | 2 => rfl
  | 3 => rfl
  | e + 4 => rfl
theorem hld0 {L : Nat} (e : Nat) : (bk0 L).hld e = [] := by
  match e with
  | 0 => rfl
  | 1 => rfl
  | 2 => rfl
  | 3 => rfl
  | e + 4 => rfl
theorem iv0 {s : FS} {F many L : Nat} {shares : List Int} (q : S0 s F many shares) (hz : ∀ z ∈ shares, 0 ≤ z) (hs : shares.sum ≤ many) : Iv s (bk0 L) shares 0 := by
  have nil : ∀ k : Val, lookV ([] : List (Val × Val)) k = none := fun _ => rfl
  have hl : shares.length = 4 := by rw [← q.sh]; exact q.K.sh
  refine ⟨q.K, ⟨rfl, rfl, fun e _ => by rw [wan0]; rfl⟩, q.sh, fun e he => ?_, ⟨fun e f _ _ => ?_, fun e x _ hx => ?_, fun e _ => ?_⟩, fun e _ => ?_, fun e f _ _ => ?_, fun e f w _ _ _ => ?_, fun e _ => ?_, fun e a m k _ h => ?_, (fun k v h => by cases h), (fun k v h => by cases h), fun k v h => ?_, fun f _ k v h => ?_, ?_, fun e _ => ?_, fun f _ => ?_, ?_, Nat.le_refl 0, Nat.le_refl 0, Nat.le_refl 0⟩
  · rw [List.getD_eq_getElem?_getD, List.getElem?_eq_getElem (by omega)]
    exact hz _ (List.getElem_mem _)
  · rw [q.hd, q.os, nil]; simp
  · rw [q.os] at hx; cases hx
  · rw [q.os]; exact List.nodup_nil
  · rw [q.os, hld0]
  · rw [q.hd]; rfl
  · rw [q.of]; rfl
  · rw [q.wt, wan0]; rfl
  · rw [wan0] at h; cases h
  · rw [q.of] at h; cases h
  · rw [q.hd] at h; cases h
  · unfold FS.unf FS.lft FS.len FS.shr
    rw [q.sh, q.m]
    simp only [q.os]
    match shares, hl with
    | [a, b, c, d], _ =>
      have h1 := hz a (by simp)
      have h2 := hz b (by simp)
      have h3 := hz c (by simp)
      have h4 := hz d (by simp)
      simp [show List.range 4 = [0, 1, 2, 3] from rfl] at hs ⊢
      omega
  · rw [q.os, q.lo]; simp
  · rw [q.hd]; simp
  · rw [q.of]; simp
end Lw

set_option Elab.async false
set_option linter.all false
set_option autoImplicit false
set_option maxHeartbeats 4000000
set_option maxRecDepth 100000
namespace Lw
open PyM
structure PS where
  P : Nat
  F : Nat
  EL : Nat
  es : List (Nat × List (Val × Val))
def PS.obj (p : PS) : Obj := .ins 1 [(8, .ref p.F), (9, .ref p.EL)]
def PS.nodes (p : PS) : Nodes := [(p.P, p.obj), (p.EL, .lst (refs p.es))] ++ p.es.map dN
def PS.ent (p : PS) (e : Nat) : List (Val × Val) := ((p.es[e]?).map (·.2)).getD []
def PS.ea (p : PS) (e : Nat) : Nat := ((p.es[e]?).map (·.1)).getD 0
def PS.sE (p : PS) (e : Nat) (k : List (Val × Val)) : PS := { p with es := p.es.set e (p.ea e, k) }
structure Pd (p : PS) (h : Heap) : Prop where
  eP : h[p.P]? = some p.obj
  eL : h[p.EL]? = some (.lst (refs p.es))
  es : ∀ (f a : Nat) (k : List (Val × Val)), p.es[f]? = some (a, k) → h[a]? = some (.dct k)
def EvS (p : PS) : Prop := ∀ (e q : Nat) (v : Val), e < 4 → q < 32 → lookV (p.ent e) (.int q) = some v → ∃ f r : Nat, r < 2 ∧ v = .tup [.int f, .str r]
def PS.en (p : PS) (e q : Nat) : Val := if q < 32 then (lookV (p.ent e) (.int q)).getD .non else .non
def falV (P : Val → Bool) : Nat → List (Val × Val) → List (Val × Val)
  | 0, d => d
  | n + 1, d => match lookV d (.int n) with
    | some v => if P v = true then dropV (falV P n d) (.int n) else falV P n d
    | none => falV P n d
def PF (f : Nat) (rs : Nat → Bool) : Val → Bool
  | .tup [.int f', .str r] => decide (f' = f) && rs r
  | _ => false
theorem int_inj' {a b : Nat} : Val.int (a : Int) = Val.int (b : Int) ↔ a = b := int_inj
theorem falV_look {P : Val → Bool} {d : List (Val × Val)} {q : Nat} : ∀ n, lookV (falV P n d) (.int q) = if q < n then (lookV d (.int q)).filter (fun v => !P v) else lookV d (.int q)
  | 0 => by simp [falV]
  | n + 1 => by
    have ih := falV_look (P := P) (d := d) (q := q) n
    unfold falV
    by_cases c : q = n
    · subst c
      rw [if_pos (by omega)]
      rw [if_neg (by omega)] at ih
      cases e : lookV d (.int q) with
      | none =>
        show lookV (falV P q d) (.int q) = _
        rw [ih, e]; rfl
      | some v =>
        show lookV (if P v = true then dropV (falV P q d) (.int q) else falV P q d) (.int q) = _
        split
        · rename_i hp
          rw [lookV_drop, if_pos rfl]
          simp [Option.filter, hp]
        · rename_i hp
          rw [ih, e]
          simp [Option.filter, hp]
    · have e2 : (q < n + 1) ↔ q < n := by omega
      simp only [e2]
      split
      · split
        · rw [lookV_drop, if_neg (fun z => c (int_inj.mp z))]; exact ih
        · exact ih
      · exact ih
theorem falV_len {P : Val → Bool} {d : List (Val × Val)} : ∀ n, (falV P n d).length ≤ d.length
  | 0 => Nat.le_refl _
  | n + 1 => by
    have ih := falV_len (P := P) (d := d) n
    unfold falV
    split
    · split
      · exact Nat.le_trans dropV_len ih
      · exact ih
    · exact ih
structure FaI (p : PS) (R : Nodes) (e f : Nat) (rv : Val) (P : Val → Bool) (n : Nat) (s' : En) (h' : Heap) : Prop where
  k : ∃ a b, s' = [some (.ref p.P), some (.int e), some (.int f), some rv, a, b]
  o : On ((p.sE e (falV P n (p.ent e))).nodes ++ R) h'
section
variable {p : PS} {R : Nodes} {h h' : Heap} {e f a q : Nat} {v rv : Val}
theorem PS.es_at (p : PS) (hf : f < p.es.length) : p.es[f]? = some (p.ea f, p.ent f) := by
  unfold PS.ea PS.ent
  rw [getD_map _ _ hf, getD_map _ _ hf, List.getElem?_eq_getElem hf]
theorem pd_of (o : On (p.nodes ++ R) h) : Pd p h := ⟨o.at_ (p.P, p.obj) (by simp [PS.nodes]), o.at_ (p.EL, .lst (refs p.es)) (by simp [PS.nodes]), fun f a k e => o.at_ _ (List.mem_append_left _ (List.mem_append_right _ (mem_map_at (g := dN) e)))⟩
theorem Pd.ext (r : Pd p h) (x : Ext h h') : Pd p h' := ⟨x.at r.eP, x.at r.eL, fun f a k e => x.at (r.es f a k e)⟩
theorem ent_sE {k : List (Val × Val)} {g : Nat} (hf : e < p.es.length) : (p.sE e k).ent g = if g = e then k else p.ent g := by
  unfold PS.ent PS.sE
  simp only [List.getElem?_set]
  by_cases c : e = g
  · subst c; simp [hf]
  · rw [if_neg c, if_neg (Ne.symm c)]
theorem sE_sE (hf : e < p.es.length) {k k' : List (Val × Val)} : (p.sE e k).sE e k' = p.sE e k' := by
  have : (p.sE e k).ea e = p.ea e := by
    unfold PS.sE
    show (((p.es.set e _)[e]?).map (·.1)).getD 0 = _
    rw [List.getElem?_set_self hf]
    rfl
  unfold PS.sE at *
  simp only [this, List.set_set]
theorem on_sE (o : On (p.nodes ++ R) h) (hf : e < p.es.length) (k : List (Val × Val)) : On ((p.sE e k).nodes ++ R) (h.set (p.ea e) (.dct k)) := by
  have e0 := p.es_at hf
  have e1 : (p.es.map dN)[e]? = some (dN (p.ea e, p.ent e)) := by rw [List.getElem?_map, e0]; rfl
  have e6 : p.nodes[2 + e]? = _ := app_at (A := [(p.P, p.obj), (p.EL, .lst (refs p.es))]) (n := 2) rfl e1
  have z := o.set (app_l (B := R) e6) (.dct k)
  have q : (p.nodes ++ R).set (2 + e) (p.ea e, .dct k) = (p.sE e k).nodes ++ R := by
    rw [app_setl e6]
    unfold PS.nodes
    rw [app_setr (A := [(p.P, p.obj), (p.EL, .lst (refs p.es))]) (n := 2) rfl]
    simp only [PS.obj, PS.sE, List.map_set, refs_set e0]
    rfl
  rw [q] at z
  exact z
theorem isP (r : Pd p h) : isIns 1 (.ref p.P) h = true := by
  have := r.eP
  unfold PS.obj at this
  simp [isIns, this]
theorem gP8 (r : Pd p h) : getF 8 (.ref p.P) h = .ok (.ref p.F) h := by have := r.eP; unfold PS.obj at this; simp [getF, this, lookF]
theorem gP9 (r : Pd p h) : getF 9 (.ref p.P) h = .ok (.ref p.EL) h := by have := r.eP; unfold PS.obj at this; simp [getF, this, lookF]
theorem ispage_ok {i : Int} : m_is_page [.int i] h = .ok (.bl (decide (0 ≤ i) && decide (i < 32))) h := by
  have en : m_is_number [.int i] h = .ok (.bl true) h := rfl
  refine eq_of_wR ?_
  unfold m_is_page
  refine wRB rfl ?_
  simp -implicitDefEqProofs [en, truth]
  by_cases c : 0 ≤ i <;> simp [c]
theorem entry_ok (pl : p.es.length = 4) (r : Pd p h) (he : e < 4) : m_Pages_entry [.ref p.P, .int e, .int q] h = .ok (p.en e q) h := by
  have e0 := p.es_at (f := e) (by omega)
  have ip := ispage_ok (i := (q : Int)) (h := h)
  refine eq_of_wR ?_
  unfold m_Pages_entry PS.en
  refine wRB rfl ?_
  by_cases c : q < 32
  · have c1 : (decide ((0 : Int) ≤ q) && decide ((q : Int) < 32)) = true := by simp; omega
    rw [c1] at ip
    have eg := dGet_at (z := .non) (r.es _ _ _ e0) (y := .int (q : Nat)) rfl
    simp -implicitDefEqProofs [ip, truth, c, gP9 r, r.eL, refs_at e0, isD_dct (r.es _ _ _ e0), eg, -wR_getF]
  · have c1 : (decide ((0 : Int) ≤ q) && decide ((q : Int) < 32)) = false := by simp; omega
    rw [c1] at ip
    simp -implicitDefEqProofs [ip, truth, c]
theorem fall_ok (pl : p.es.length = 4) (o : On (p.nodes ++ R) h) (V : EvS p) (he : e < 4) {rs : Nat → Bool} (hr : ∀ r h, r < 2 → oIn false (.str r) rv h = .ok (.bl (rs r)) h) :
    ∃ h', m_Pages__fall [.ref p.P, .int e, .int f, rv] h = .ok .non h' ∧ On ((p.sE e (falV (PF f rs) 32 (p.ent e))).nodes ++ R) h' := by
  have wi : wR (m_Pages__fall [.ref p.P, .int e, .int f, rv] h) (fun _ _ => False) fun v h' => v = .non ∧ On ((p.sE e (falV (PF f rs) 32 (p.ent e))).nodes ++ R) h' := by
    have hl : e < p.es.length := by omega
    unfold m_Pages__fall
    refine wRB rfl ?_
    have o0 : On ((p.sE e (falV (PF f rs) 0 (p.ent e))).nodes ++ R) h := by
      have e0 := p.es_at hl
      have : p.sE e (p.ent e) = p := by
        unfold PS.sE
        have : p.es.set e (p.ea e, p.ent e) = p.es := by
          apply List.ext_getElem?
          intro j
          rw [List.getElem?_set]
          split
          · rename_i c; subst c; first | rw [if_pos hl, e0] | rw [e0]
          · rfl
        rw [this]
      show On ((p.sE e (p.ent e)).nodes ++ R) h
      rw [this]
      exact o
    simp -implicitDefEqProofs
    refine wS_range (n := 32) (FaI p R e f rv (PF f rs)) ⟨⟨_, _, rfl⟩, o0⟩ ?_ ?_
    · rintro i s' h1 hi ⟨⟨a, b, rfl⟩, o1⟩
      refine ⟨[some (.ref p.P), some (.int e), some (.int f), some rv, some (.int (i : Nat)), b], rfl, ?_⟩
      have r1 := pd_of o1
      have pl1 : (p.sE e (falV (PF f rs) i (p.ent e))).es.length = 4 := by simp [PS.sE, pl]
      have e1 : m_Pages_entry [.ref p.P, .int e, .int i] h1 = .ok ((p.sE e (falV (PF f rs) i (p.ent e))).en e i) h1 := entry_ok pl1 r1 he
      have e2 : (p.sE e (falV (PF f rs) i (p.ent e))).en e i = (lookV (p.ent e) (.int i)).getD .non := by
        unfold PS.en
        rw [if_pos hi, ent_sE hl, if_pos rfl, falV_look, if_neg (by omega)]
      rw [e2] at e1
      have ip : isIns 1 (.ref p.P) h1 = true := by have z := isP r1; exact z
      have g9 : getF 9 (.ref p.P) h1 = .ok (.ref p.EL) h1 := by have z := gP9 r1; exact z
      have eL : h1[p.EL]? = some (.lst (refs (p.sE e (falV (PF f rs) i (p.ent e))).es)) := r1.eL
      have ha := (p.sE e (falV (PF f rs) i (p.ent e))).es_at (f := e) (by rw [pl1]; exact he)
      rw [ent_sE hl, if_pos rfl] at ha
      cases hk : lookV (p.ent e) (.int i) with
      | none =>
        rw [hk] at e1
        have hf : falV (PF f rs) (i + 1) (p.ent e) = falV (PF f rs) i (p.ent e) := by rw [falV, hk]
        simp -implicitDefEqProofs [ip, e1, gV]
        exact ⟨⟨_, _, rfl⟩, by rw [hf]; exact o1⟩
      | some v =>
        obtain ⟨f', r, hr2, rfl⟩ := V e i v he hi hk
        rw [hk] at e1
        have hin := hr r h1 hr2
        by_cases c : f' = f ∧ rs r = true
        · have hf : falV (PF f rs) (i + 1) (p.ent e) = dropV (falV (PF f rs) i (p.ent e)) (.int i) := by
            rw [falV, hk]
            show (if PF f rs (.tup [.int f', .str r]) = true then _ else _) = _
            rw [if_pos (by simp [PF, c.1, c.2])]
          have hkk : lookV (falV (PF f rs) i (p.ent e)) (.int i) = some (.tup [.int f', .str r]) := by rw [falV_look, if_neg (by omega), hk]
          have ep := dPop1_at (r1.es _ _ _ ha) (y := .int (i : Nat)) rfl hkk
          have o2 := on_sE o1 (e := e) (by rw [pl1]; exact he) (dropV (falV (PF f rs) i (p.ent e)) (.int i))
          rw [sE_sE hl] at o2
          rw [c.2] at hin
          obtain ⟨rfl, c2⟩ := c
          simp -implicitDefEqProofs [ip, e1, gV, hin, g9, eL, refs_at ha, isD_dct (r1.es _ _ _ ha), ep, -wR_getF]
          exact ⟨⟨_, _, rfl⟩, by rw [hf]; exact o2⟩
        · have hf : falV (PF f rs) (i + 1) (p.ent e) = falV (PF f rs) i (p.ent e) := by
            rw [falV, hk]
            show (if PF f rs (.tup [.int f', .str r]) = true then _ else _) = _
            rw [if_neg (fun z => c (by simp [PF] at z; exact ⟨by omega, z.2⟩))]
          by_cases c1 : f' = f
          · subst c1
            have c2 : rs r = false := by simpa using c
            rw [c2] at hin
            simp -implicitDefEqProofs [ip, e1, gV, hin]
            exact ⟨⟨_, _, rfl⟩, by rw [hf]; exact o1⟩
          · have c1' : ¬ ((f' : Int) = f) := by omega
            simp -implicitDefEqProofs [ip, e1, gV, c1, c1']
            exact ⟨⟨_, _, rfl⟩, by rw [hf]; exact o1⟩
    · rintro s' h1 ⟨⟨a, b, rfl⟩, o1⟩
      simp -implicitDefEqProofs
      exact o1
  obtain ⟨v, h', e, rfl, q⟩ := ex_of_wR wi
  exact ⟨h', e, q⟩
theorem ended_ok (pl : p.es.length = 4) (o : On (p.nodes ++ R) h) (V : EvS p) (he : e < 4) :
    ∃ h', m_Pages_ended [.ref p.P, .int e, .int f] h = .ok .non h' ∧ On ((p.sE e (falV (PF f fun _ => true) 32 (p.ent e))).nodes ++ R) h' := by
  obtain ⟨h', e1, o1⟩ := fall_ok (f := f) (rv := c_RIGHTS) (rs := fun _ => true) pl o V he (fun r h hr => by
    have : r = 0 ∨ r = 1 := by omega
    rcases this with rfl | rfl <;> rfl)
  refine ⟨h', eq_of_wR ?_, o1⟩
  unfold m_Pages_ended
  refine wRB rfl ?_
  simp -implicitDefEqProofs [isP (pd_of o), e1]
theorem narrowed_ok (pl : p.es.length = 4) (o : On (p.nodes ++ R) h) (V : EvS p) (he : e < 4) :
    ∃ h', m_Pages_narrowed [.ref p.P, .int e, .int f] h = .ok .non h' ∧ On ((p.sE e (falV (PF f fun r => decide (r = 0)) 32 (p.ent e))).nodes ++ R) h' := by
  obtain ⟨h', e1, o1⟩ := fall_ok (f := f) (rv := .tup [.str 0]) (rs := fun r => decide (r = 0)) pl o V he (fun r h hr => by
    have : r = 0 ∨ r = 1 := by omega
    rcases this with rfl | rfl <;> rfl)
  refine ⟨h', eq_of_wR ?_, o1⟩
  have l1 : 1 ≤ lim := by decide
  unfold m_Pages_narrowed
  refine wRB rfl ?_
  simp -implicitDefEqProofs [isP (pd_of o), e1, l1]
end
end Lw

set_option Elab.async false
set_option linter.all false
set_option autoImplicit false
set_option maxHeartbeats 4000000
set_option maxRecDepth 100000
namespace Lw
open PyM
def FS.rtI (s : FS) (e : Nat) (f : Int) : Val := if 0 ≤ f ∧ f < s.many then s.rt e f.toNat else .non
def inI (x : Val) (r : Nat) : Bool := match x with
  | .str q => incl q r
  | _ => false
def mapB (s : FS) (e : Nat) (i f : Int) (r : Nat) : Bool := decide (0 ≤ i) && decide (i < 32) && (decide (r < 2) && inI (s.rtI e f) r)
def EvT (p : PS) (many : Nat) : Prop := ∀ (e q : Nat) (v : Val), e < 4 → q < 32 → lookV (p.ent e) (.int q) = some v → ∃ f r : Nat, r < 2 ∧ f < many ∧ v = .tup [.int f, .str r]
def ldV (s : FS) (i : Int) : Val → Val
  | .tup [.int f, .str _] => if 0 ≤ i ∧ i < 8 then (s.wd f.toNat).getD i.toNat .non else .non
  | _ => .non
def stB (i w : Int) : Val → Option Nat
  | .tup [.int f, .str r] => if (r = 0 ∧ 0 ≤ w ∧ w ≤ 4294967295) ∧ 0 ≤ i ∧ i < 8 then some f.toNat else none
  | _ => none
section
variable {s : FS} {p : PS} {R : Nodes} {h h' : Heap} {e a q : Nat} {v rv : Val}
theorem EvT.S {many : Nat} (V : EvT p many) : EvS p := fun e q v he hq hl => by
  obtain ⟨f, r, h1, h2, h3⟩ := V e q v he hq hl
  exact ⟨f, r, h1, h3⟩
theorem rightI_ok (K : FOk s) (r : Fd s h) {f : Int} : m_Frames_right [.ref s.F, .int e, .int f] h = .ok (s.rtI e f) h := by
  unfold FS.rtI
  by_cases c : 0 ≤ f ∧ f < s.many
  · obtain ⟨f, rfl⟩ := Int.eq_ofNat_of_zero_le c.1
    rw [if_pos c]
    exact right_ok K r (by omega)
  · have e0 := isframe_ok K r (f := f)
    have c1 : (decide (0 ≤ f) && decide (f < s.many)) = false := by
      rw [Bool.eq_false_iff]; intro z; simp at z; exact c z
    rw [c1] at e0
    rw [if_neg c]
    refine eq_of_wR ?_
    unfold m_Frames_right
    refine wRB rfl ?_
    simp -implicitDefEqProofs [isF r, e0, truth]
theorem rtI_cases (Rs : RtS s) (he : e < 4) (f : Int) : s.rtI e f = .non ∨ ∃ q, s.rtI e f = .str q := by
  unfold FS.rtI
  split
  · rename_i c
    exact Rs e f.toNat he (by omega)
  · exact .inl rfl
theorem map_ok (K : FOk s) (Rs : RtS s) (rs : Fd s h) (hF : p.F = s.F) (pl : p.es.length = 4) (o : On (p.nodes ++ R) h) (he : e < 4) (hl : (p.ent e).length < 1000) {i f : Int} {r : Nat} (hr : r = 0 ∨ r = 1 ∨ r = 3) :
    ∃ h', m_Pages_map [.ref p.P, .int e, .int i, .int f, .str r] h = .ok (.bl (mapB s e i f r)) h' ∧ On ((if mapB s e i f r = true then p.sE e (putV (p.ent e) (.int i) (.tup [.int f, .str r])) else p).nodes ++ R) h' := by
  have wi : wR (m_Pages_map [.ref p.P, .int e, .int i, .int f, .str r] h) (fun _ _ => False) fun v h' => v = .bl (mapB s e i f r) ∧ On ((if mapB s e i f r = true then p.sE e (putV (p.ent e) (.int i) (.tup [.int f, .str r])) else p).nodes ++ R) h' := by
    have ll := lim8
    have l2 : 2 ≤ lim := by omega
    have rp := pd_of o
    have e0 := p.es_at (f := e) (by omega)
    have e1 := ispage_ok (i := i) (h := h)
    have e2 := rightI_ok K rs (e := e) (f := f)
    rw [← hF] at e2
    have iF := isF rs
    rw [← hF] at iF
    have e3 : oIn true (.str r) c_RIGHTS h = .ok (.bl (!decide (r < 2))) h := by
      rcases hr with rfl | rfl | rfl <;> rfl
    unfold m_Pages_map mapB
    refine wRB rfl ?_
    by_cases c1 : 0 ≤ i ∧ i < 32
    · have c1' : (decide (0 ≤ i) && decide (i < 32)) = true := by simp [c1]
      rw [c1'] at e1 ⊢
      by_cases c2 : r < 2
      · rw [show decide (r < 2) = true from decide_eq_true c2] at e3 ⊢
        rcases rtI_cases Rs he f with q | ⟨q, hq⟩
        · rw [q] at e2 ⊢
          simp -implicitDefEqProofs [e1, truth, e3, gP8 rp, iF, e2, gV, inI, -wR_getF]
          exact o
        · rw [hq] at e2 ⊢
          have e4 := includes_ok (h := h) (a := q) (b := r)
          cases hi : incl q r with
          | false =>
            rw [hi] at e4
            simp -implicitDefEqProofs [e1, truth, e3, gP8 rp, iF, e2, gV, inI, e4, hi, -wR_getF]
            exact o
          | true =>
            rw [hi] at e4
            have o2 := on_sE o (e := e) (by omega) (putV (p.ent e) (.int i) (.tup [.int f, .str r]))
            simp -implicitDefEqProofs [e1, truth, e3, gP8 rp, iF, e2, gV, inI, e4, hi, l2, gP9 rp, rp.eL, refs_at e0, rp.es _ _ _ e0, show (p.ent e).length < lim by omega, -wR_getF]
            exact o2
      · rw [show decide (r < 2) = false from decide_eq_false c2] at e3 ⊢
        simp -implicitDefEqProofs [e1, truth, e3]
        exact o
    · have c1' : (decide (0 ≤ i) && decide (i < 32)) = false := by
        rw [Bool.eq_false_iff]; intro z; simp at z; exact c1 z
      rw [c1'] at e1 ⊢
      simp -implicitDefEqProofs [e1, truth]
      exact o
  obtain ⟨v, h', e, rfl, q⟩ := ex_of_wR wi
  exact ⟨h', e, q⟩
theorem dPop2_at {d : List (Val × Val)} {h : Heap} {a : Nat} {y z : Val} (e : h[a]? = some (.dct d)) (hk : isKey y = true) : dPop2 (.ref a) y z h = .ok ((lookV d y).getD z) (h.set a (.dct (dropV d y))) := by
  unfold dPop2
  simp only [e, hk]
  cases q : lookV d y with
  | none =>
    rw [dropV_none q]
    have : h.set a (.dct d) = h := by
      apply List.ext_getElem?
      intro j
      rw [List.getElem?_set]
      split
      · rename_i c
        subst c
        rw [if_pos (at_lt e), e]
      · rfl
    rw [this]
    rfl
  | some x => simp
theorem unmap_ok (pl : p.es.length = 4) (V : EvS p) (o : On (p.nodes ++ R) h) (he : e < 4) :
    ∃ h', m_Pages_unmap [.ref p.P, .int e, .int q] h = .ok (.bl (!decide (p.en e q = .non))) h' ∧ On ((if q < 32 then p.sE e (dropV (p.ent e) (.int q)) else p).nodes ++ R) h' := by
  have wi : wR (m_Pages_unmap [.ref p.P, .int e, .int q] h) (fun _ _ => False) fun v h' => v = .bl (!decide (p.en e q = .non)) ∧ On ((if q < 32 then p.sE e (dropV (p.ent e) (.int q)) else p).nodes ++ R) h' := by
    have rp := pd_of o
    have e0 := p.es_at (f := e) (by omega)
    have e1 := ispage_ok (i := (q : Int)) (h := h)
    unfold m_Pages_unmap PS.en
    refine wRB rfl ?_
    by_cases c : q < 32
    · have c1 : (decide ((0 : Int) ≤ q) && decide ((q : Int) < 32)) = true := by simp; omega
      rw [c1] at e1
      have ep := dPop2_at (z := .non) (rp.es _ _ _ e0) (y := .int (q : Nat)) rfl
      have o2 := on_sE o (e := e) (by omega) (dropV (p.ent e) (.int q))
      cases hk : lookV (p.ent e) (.int q) with
      | none =>
        rw [hk] at ep
        simp -implicitDefEqProofs [e1, truth, gP9 rp, rp.eL, refs_at e0, isD_dct (rp.es _ _ _ e0), ep, c, hk, -wR_getF]
        exact o2
      | some v =>
        obtain ⟨f, r, hr, rfl⟩ := V e q v he c hk
        rw [hk] at ep
        simp -implicitDefEqProofs [e1, truth, gP9 rp, rp.eL, refs_at e0, isD_dct (rp.es _ _ _ e0), ep, c, hk, -wR_getF]
        exact o2
    · have c1 : (decide ((0 : Int) ≤ q) && decide ((q : Int) < 32)) = false := by simp; omega
      rw [c1] at e1
      simp -implicitDefEqProofs [e1, truth, c]
      exact o
  obtain ⟨v, h', e, rfl, q⟩ := ex_of_wR wi
  exact ⟨h', e, q⟩
theorem en_cases (V : EvT p s.many) (he : e < 4) (q : Nat) : p.en e q = .non ∨ ∃ f r : Nat, q < 32 ∧ r < 2 ∧ f < s.many ∧ lookV (p.ent e) (.int q) = some (.tup [.int f, .str r]) ∧ p.en e q = .tup [.int f, .str r] := by
  unfold PS.en
  split
  · rename_i c
    cases hk : lookV (p.ent e) (.int q) with
    | none => exact .inl rfl
    | some v =>
      obtain ⟨f, r, h1, h2, rfl⟩ := V e q v he c hk
      exact .inr ⟨f, r, c, h1, h2, rfl, rfl⟩
  · exact .inl rfl
theorem load_ok (K : FOk s) (rs : Fd s h) (hF : p.F = s.F) (pl : p.es.length = 4) (V : EvT p s.many) (rp : Pd p h) (he : e < 4) (w8 : ∀ f r : Nat, p.en e q = .tup [.int f, .str r] → (s.wd f).length = 8) {i : Int} :
    m_Pages_load [.ref p.P, .int e, .int q, .int i] h = .ok (ldV s i (p.en e q)) h := by
  have e1 := entry_ok pl rp he (q := q)
  have en : m_is_number [.int i] h = .ok (.bl true) h := rfl
  have iF := isF rs
  rw [← hF] at iF
  refine eq_of_wR ?_
  unfold m_Pages_load
  refine wRB rfl ?_
  rcases en_cases V he q with z | ⟨f, r, hq, hr, hf, hl, z⟩
  · rw [z] at e1 ⊢
    simp -implicitDefEqProofs [isP rp, e1, gV, ldV]
  · have h8 := w8 f r z
    rw [z] at e1 ⊢
    by_cases c : 0 ≤ i ∧ i < 8
    · obtain ⟨j, rfl⟩ := Int.eq_ofNat_of_zero_le c.1
      have hj : j < (s.wd f).length := by omega
      have e2 := read_ok K rs hf (i := j) (x := (s.wd f)[j]) (List.getElem?_eq_getElem hj)
      rw [← hF] at e2
      simp -implicitDefEqProofs [isP rp, e1, gV, ldV, en, truth, c, gP8 rp, iF, e2, hj, show (j : Int) < 8 by omega, -wR_getF]
    · by_cases c1 : 0 ≤ i
      · simp -implicitDefEqProofs [isP rp, e1, gV, ldV, en, truth, c, c1, show ¬ i < 8 by omega]
      · simp -implicitDefEqProofs [isP rp, e1, gV, ldV, en, truth, c, c1]
theorem store_ok (K : FOk s) (hF : p.F = s.F) (pl : p.es.length = 4) (V : EvT p s.many) (rp : Pd p h) (o : On (s.nodes ++ R) h) (he : e < 4) (w8 : ∀ f r : Nat, p.en e q = .tup [.int f, .str r] → (s.wd f).length = 8) {i w : Int} :
    ∃ h', m_Pages_store [.ref p.P, .int e, .int q, .int i, .int w] h = .ok (.bl (stB i w (p.en e q)).isSome) h' ∧ On ((match stB i w (p.en e q) with | some f => s.sWs f ((s.wd f).set i.toNat (.int w)) | none => s).nodes ++ R) h' := by
  have wi : wR (m_Pages_store [.ref p.P, .int e, .int q, .int i, .int w] h) (fun _ _ => False) fun v h' => v = .bl (stB i w (p.en e q)).isSome ∧ On ((match stB i w (p.en e q) with | some f => s.sWs f ((s.wd f).set i.toNat (.int w)) | none => s).nodes ++ R) h' := by
    have rs := fr_of o
    have e1 := entry_ok pl rp he (q := q)
    have en : ∀ j : Int, m_is_number [.int j] h = .ok (.bl true) h := fun _ => rfl
    have iF := isF rs
    rw [← hF] at iF
    have ew : m_is_word [.int w] h = .ok (.bl (decide (0 ≤ w) && decide (w ≤ 4294967295))) h := by
      refine eq_of_wR ?_
      unfold m_is_word
      refine wRB rfl ?_
      simp -implicitDefEqProofs [en, truth]
      by_cases c : 0 ≤ w <;> simp [c]
    unfold m_Pages_store
    refine wRB rfl ?_
    rcases en_cases V he q with z | ⟨f, r, hq, hr, hf, hl, z⟩
    · rw [z] at e1 ⊢
      simp -implicitDefEqProofs [isP rp, e1, gV, stB]
      exact o
    · have h8 := w8 f r z
      rw [z] at e1 ⊢
      by_cases c0 : r = 0
      · subst c0
        by_cases cw : 0 ≤ w ∧ w ≤ 4294967295
        · have cw' : (decide (0 ≤ w) && decide (w ≤ 4294967295)) = true := by simp [cw]
          rw [cw'] at ew
          by_cases c : 0 ≤ i ∧ i < 8
          · obtain ⟨j, rfl⟩ := Int.eq_ofNat_of_zero_le c.1
            have hj : j < (s.wd f).length := by omega
            obtain ⟨h1, e2, o2⟩ := write_ok K o hf hj (x := .int w)
            rw [← hF] at e2
            simp -implicitDefEqProofs [isP rp, e1, gV, stB, en, ew, truth, c, cw, gP8 rp, iF, e2, show (j : Int) < 8 by omega, -wR_getF]
            exact o2
          · by_cases c1 : 0 ≤ i
            · simp -implicitDefEqProofs [isP rp, e1, gV, stB, en, ew, truth, c, c1, show ¬ i < 8 by omega]
              exact o
            · simp -implicitDefEqProofs [isP rp, e1, gV, stB, en, ew, truth, c, c1]
              exact o
        · have cw' : (decide (0 ≤ w) && decide (w ≤ 4294967295)) = false := by
            rw [Bool.eq_false_iff]; intro z; simp at z; exact cw z
          rw [cw'] at ew
          simp -implicitDefEqProofs [isP rp, e1, gV, stB, ew, truth, cw]
          exact o
      · simp -implicitDefEqProofs [isP rp, e1, gV, stB, c0]
        exact o
  obtain ⟨v, h', e, rfl, q⟩ := ex_of_wR wi
  exact ⟨h', e, q⟩
end
end Lw

set_option Elab.async false
set_option linter.all false
set_option autoImplicit false
set_option maxHeartbeats 4000000
set_option maxRecDepth 100000
namespace Lw
open PyM
/-! the kernel's gate, where environment 0 alone holds frames -/
structure KH where
  K : Nat
  a : Val
  b : Val
  c : Val
  d : Val
  s : FS
  p : PS
def kob (F P : Nat) (a b c d : Val) : Obj := .ins 9 [(34, a), (8, .ref F), (35, .ref P), (36, b), (22, c), (17, d)]
def KH.nodes (k : KH) : Nodes := (k.K, kob k.s.F k.p.P k.a k.b k.c k.d) :: (k.s.nodes ++ k.p.nodes)
structure K1 (k : KH) (fs : List Nat) (en : Nat → Option (Nat × Nat)) (wd : Nat → List Int) (sh n : Nat) : Prop where
  K : FOk k.s
  od : k.s.ord 0 = fs.map fun (f : Nat) => (f : Int)
  nd : fs.Nodup
  lt : ∀ f ∈ fs, f < k.s.many
  ot : ∀ e : Nat, e ≠ 0 → e < 4 → k.s.ord e = []
  hd : ∀ f : Nat, f < k.s.many → k.s.hdk f = if f ∈ fs then [(.int 0, .str 0)] else []
  wt : ∀ e : Nat, e < 4 → k.s.wt e = .non
  sh0 : k.s.shr 0 = sh
  sm : sh ≤ k.s.many
  fl : fs.length ≤ sh
  wdp : ∀ f : Nat, f ∈ fs → k.s.wd f = (wd f).map Val.int ∧ (wd f).length = 8
  pl : k.p.es.length = 4
  pF : k.p.F = k.s.F
  enp : ∀ q : Nat, q < 32 → lookV (k.p.ent 0) (.int q) = (en q).map fun x => .tup [.int x.1, .str x.2]
  er : ∀ (q f r : Nat), q < 32 → en q = some (f, r) → r < 2 ∧ f ∈ fs
  eo : ∀ e : Nat, e ≠ 0 → k.p.ent e = []
  el : (k.p.ent 0).length ≤ n
  n0 : n < 1000
section
variable {k : KH} {R : Nodes} {h h' : Heap} {fs : List Nat} {en : Nat → Option (Nat × Nat)} {wd : Nat → List Int} {sh n e f q : Nat}
theorem K1.mono (J : K1 k fs en wd sh n) {m : Nat} (hm : n ≤ m) (h2 : m < 1000) : K1 k fs en wd sh m := { J with el := Nat.le_trans J.el hm, n0 := h2 }
theorem K1.rt (J : K1 k fs en wd sh n) (hf : f < k.s.many) (e : Nat) : k.s.rt e f = if e = 0 ∧ f ∈ fs then .str 0 else .non := by
  unfold FS.rt
  rw [J.hd f hf]
  by_cases c : f ∈ fs
  · rw [if_pos c]
    by_cases c2 : e = 0
    · subst c2; rw [if_pos ⟨rfl, c⟩]; rfl
    · rw [if_neg (fun z => c2 z.1)]
      have : ¬ ((0 : Int) = (e : Int)) := by omega
      simp [lookV, this]
  · rw [if_neg c, if_neg (fun z => c z.2)]; rfl
theorem K1.Rs (J : K1 k fs en wd sh n) : RtS k.s := fun e f he hf => by
  rw [J.rt hf e]
  split
  · exact .inr ⟨0, rfl⟩
  · exact .inl rfl
theorem K1.Ws (J : K1 k fs en wd sh n) : WtS k.s := fun e he => .inl (J.wt e he)
theorem K1.V (J : K1 k fs en wd sh n) : EvT k.p k.s.many := fun e q v he hq hl => by
  by_cases c : e = 0
  · subst c
    rw [J.enp q hq] at hl
    cases x : en q with
    | none => rw [x] at hl; cases hl
    | some y =>
      obtain ⟨f, r⟩ := y
      rw [x] at hl
      cases hl
      obtain ⟨h1, h2⟩ := J.er q f r hq x
      exact ⟨f, r, h1, J.lt f h2, rfl⟩
  · rw [J.eo e c] at hl
    cases hl
theorem K1.pen (J : K1 k fs en wd sh n) (hq : q < 32) : k.p.en 0 q = match en q with | some x => .tup [.int x.1, .str x.2] | none => .non := by
  unfold PS.en
  rw [if_pos hq, J.enp q hq]
  cases en q <;> rfl
theorem KH.ofs (o : On (k.nodes ++ R) h) : On (k.s.nodes ++ ((k.K, kob k.s.F k.p.P k.a k.b k.c k.d) :: (k.p.nodes ++ R))) h := o.perm (by
  unfold KH.nodes
  rw [List.cons_append, List.append_assoc]
  exact List.perm_middle.symm)
theorem KH.unofs {s' : FS} (hF : s'.F = k.s.F) (o : On (s'.nodes ++ ((k.K, kob k.s.F k.p.P k.a k.b k.c k.d) :: (k.p.nodes ++ R))) h) : On (({ k with s := s' } : KH).nodes ++ R) h := by
  have := KH.ofs (k := { k with s := s' }) (R := R) (h := h)
  refine o.perm ?_
  unfold KH.nodes
  rw [List.cons_append, List.append_assoc]
  rw [← hF]
  exact List.perm_middle
theorem KH.ops (o : On (k.nodes ++ R) h) : On (k.p.nodes ++ ((k.K, kob k.s.F k.p.P k.a k.b k.c k.d) :: (k.s.nodes ++ R))) h := o.perm (by
  unfold KH.nodes
  rw [List.cons_append, List.append_assoc]
  exact (List.Perm.cons _ (List.perm_append_comm_assoc _ _ _)).trans List.perm_middle.symm)
theorem KH.unops {p' : PS} (hP : p'.P = k.p.P) (o : On (p'.nodes ++ ((k.K, kob k.s.F k.p.P k.a k.b k.c k.d) :: (k.s.nodes ++ R))) h) : On (({ k with p := p' } : KH).nodes ++ R) h := by
  refine o.perm ?_
  unfold KH.nodes
  rw [List.cons_append, List.append_assoc, ← hP]
  exact List.perm_middle.trans (List.Perm.cons _ (List.perm_append_comm_assoc _ _ _))
theorem eK (o : On (k.nodes ++ R) h) : h[k.K]? = some (kob k.s.F k.p.P k.a k.b k.c k.d) := o.at_ (k.K, kob k.s.F k.p.P k.a k.b k.c k.d) (by simp [KH.nodes])
theorem isK (o : On (k.nodes ++ R) h) : isIns 9 (.ref k.K) h = true := by
  have := eK o; unfold kob at this; simp [isIns, this]
theorem gK8 (o : On (k.nodes ++ R) h) : getF 8 (.ref k.K) h = .ok (.ref k.s.F) h := by
  have := eK o; unfold kob at this; simp [getF, this, lookF]
theorem gK35 (o : On (k.nodes ++ R) h) : getF 35 (.ref k.K) h = .ok (.ref k.p.P) h := by
  have := eK o; unfold kob at this; simp [getF, this, lookF]
/-- the words -/
theorem kq_f (o : On (k.nodes ++ R) h) {w : Nat} {xs : List Val} (hw : (w = 11 ∧ xs.length = 0) ∨ (w = 14 ∧ xs.length = 1)) {E : Nat → Heap → Prop} {Q : Val → Heap → Prop} (q : wR (m_Kernel__frames [.ref k.K, .int e, .tup (.str w :: xs)] h) E Q) :
    wR (m_Kernel_request [.ref k.K, .int e, .tup (.str w :: xs)] h) E Q := by
  have i9 := isK o
  have l6 : 6 ≤ lim := by decide
  unfold m_Kernel_request
  refine wRB rfl ?_
  rcases hw with ⟨rfl, hl⟩ | ⟨rfl, hl⟩
  · have : xs = [] := List.length_eq_zero_iff.mp hl
    subst this
    have e6 : oIn false (.str 11) (.tup [.str 11, .str 12, .str 13, .str 14, .str 15, .str 16]) h = .ok (.bl true) h := rfl
    simp -implicitDefEqProofs [isTy, tyOf, truth, gV, c_LENGTHS_kernel, lkN, i9, l6, e6]
    exact q
  · obtain ⟨x, rfl⟩ := List.length_eq_one_iff.mp hl
    have e6 : oIn false (.str 14) (.tup [.str 11, .str 12, .str 13, .str 14, .str 15, .str 16]) h = .ok (.bl true) h := rfl
    simp -implicitDefEqProofs [isTy, tyOf, truth, gV, c_LENGTHS_kernel, lkN, i9, l6, e6]
    exact q
theorem kq_p (o : On (k.nodes ++ R) h) {w : Nat} {xs : List Val} (hw : (w = 17 ∧ xs.length = 3) ∨ (w = 18 ∧ xs.length = 1) ∨ (w = 19 ∧ xs.length = 2) ∨ (w = 20 ∧ xs.length = 3)) {E : Nat → Heap → Prop} {Q : Val → Heap → Prop} (q : wR (m_Kernel__pages [.ref k.K, .int e, .tup (.str w :: xs)] h) E Q) :
    wR (m_Kernel_request [.ref k.K, .int e, .tup (.str w :: xs)] h) E Q := by
  have i9 := isK o
  have l6 : 6 ≤ lim := by decide
  have l4 : 4 ≤ lim := by decide
  unfold m_Kernel_request
  refine wRB rfl ?_
  have e6 : ∀ w : Nat, (w = 17 ∨ w = 18 ∨ w = 19 ∨ w = 20) → oIn false (.str w) (.tup [.str 11, .str 12, .str 13, .str 14, .str 15, .str 16]) h = .ok (.bl false) h ∧ oIn false (.str w) (.tup [.str 17, .str 18, .str 19, .str 20]) h = .ok (.bl true) h := by
    rintro w (rfl | rfl | rfl | rfl) <;> exact ⟨rfl, rfl⟩
  obtain ⟨e7, e8⟩ := e6 w (by omega)
  clear e6
  rcases hw with ⟨rfl, hl⟩ | ⟨rfl, hl⟩ | ⟨rfl, hl⟩ | ⟨rfl, hl⟩
  all_goals
    simp -implicitDefEqProofs [isTy, tyOf, truth, gV, c_LENGTHS_kernel, lkN, i9, l6, l4, hl, e7, e8]
    exact q
end
end Lw

set_option Elab.async false
set_option linter.all false
set_option autoImplicit false
set_option maxHeartbeats 4000000
set_option maxRecDepth 100000
namespace Lw
open PyM
theorem pigeon : ∀ (n : Nat) (l : List Nat), (∀ i, i < n → i ∈ l) → n ≤ l.length
  | 0, _, _ => Nat.zero_le _
  | n + 1, l, h => by
    have hm := h n (Nat.lt_succ_self _)
    have ih := pigeon n (l.erase n) (fun i hi => (List.mem_erase_of_ne (by omega)).mpr (h i (by omega)))
    rw [List.length_erase_of_mem hm] at ih
    have : 0 < l.length := List.length_pos_of_mem hm
    omega
def fu {α : Type} (g : Nat → α) (f : Nat) (x : α) : Nat → α := fun i => if i = f then x else g i
section
variable {k : KH} {R : Nodes} {h h' : Heap} {fs : List Nat} {en : Nat → Option (Nat × Nat)} {wd : Nat → List Int} {sh n f q r : Nat}
theorem fre_ex (J : K1 k fs en wd sh n) (hl : fs.length < k.s.many) : ∃ f l, k.s.fre = f :: l ∧ f < k.s.many ∧ f ∉ fs := by
  cases hf : k.s.fre with
  | nil =>
    exfalso
    have : k.s.many ≤ fs.length := pigeon _ _ fun i hi => by
      refine Decidable.byContradiction fun c => ?_
      have hm : i ∈ k.s.fre := by
        unfold FS.fre
        rw [List.mem_filter]
        refine ⟨List.mem_range.mpr hi, ?_⟩
        rw [J.hd i hi, if_neg c]; rfl
      rw [hf] at hm
      cases hm
    omega
  | cons f l =>
    obtain ⟨h1, h2⟩ := fre_lt hf
    refine ⟨f, l, rfl, h1, fun c => ?_⟩
    rw [J.hd f h1, if_pos c] at h2
    cases h2
theorem len0 (J : K1 k fs en wd sh n) : k.s.len 0 = fs.length := by
  unfold FS.len
  rw [J.od, List.length_map]
theorem kq_take (J : K1 k fs en wd sh n) (o : On (k.nodes ++ R) h) (hl : fs.length < sh) :
    ∃ f k' h', m_Kernel_request [.ref k.K, .int 0, .tup [.str 11]] h = .ok (.tup [.str 9, .int (f : Nat)]) h' ∧ (f ∉ fs ∧ k'.K = k.K ∧ k'.s.many = k.s.many ∧ K1 k' (fs ++ [f]) en (fu wd f (List.replicate 8 0)) sh n) ∧ On (k'.nodes ++ R) h' := by
  obtain ⟨v, s', h', e1, q1, q2⟩ := take_ok J.K (KH.ofs o) (e := 0) (by omega) (by rw [J.od, List.length_map]; have := J.sm; have := J.K.m1; omega)
  have e1' : m_Frames_take [.ref k.s.F, .int 0] h = .ok v h' := e1
  have hm : k.s.mhm 0 = true := by
    unfold FS.mhm
    rw [len0 J, J.sh0]
    have : ((fs.length : Nat) : Int) < sh := by omega
    simp [this]
  obtain ⟨f0, l0, hf0, hlt, hnot⟩ := fre_ex J (by have := J.sm; omega)
  have l2 : 2 ≤ lim := by decide
  cases q1 with
  | no c =>
    rcases c with c | c
    · rw [hf0] at c; cases c
    · rw [hm] at c; cases c
  | @yes f a l hf _ =>
    rw [hf0] at hf
    cases hf
    have hws := J.K.ws
    have hhd := J.K.hd
    have hos := J.K.os
    have od : ∀ g, (k.s.tk 0 f0 a).ord g = if g = 0 then k.s.ord 0 ++ [(f0 : Int)] else k.s.ord g := fun g => by
      have : (k.s.tk 0 f0 a).ord g = (((k.s.nWs f0 a z8).sHd f0 (putV (k.s.hdk f0) (.int 0) (.str 0))).sOs 0 (k.s.ord 0 ++ [(f0 : Int)])).ord g := rfl
      rw [this, ord_sOs (by show 0 < k.s.os.length; omega)]
      rfl
    have hd : ∀ g, (k.s.tk 0 f0 a).hdk g = if g = f0 then putV (k.s.hdk f0) (.int 0) (.str 0) else k.s.hdk g := fun g => by
      have : (k.s.tk 0 f0 a).hdk g = ((k.s.nWs f0 a z8).sHd f0 (putV (k.s.hdk f0) (.int 0) (.str 0))).hdk g := rfl
      rw [this, hdk_sHd (by show f0 < k.s.hd.length; omega)]
      rfl
    have wdd : ∀ g, (k.s.tk 0 f0 a).wd g = if g = f0 then z8 else k.s.wd g := fun g => by
      have : (k.s.tk 0 f0 a).wd g = (k.s.nWs f0 a z8).wd g := rfl
      rw [this, wd_nWs (by omega)]
    refine ⟨f0, { k with s := k.s.tk 0 f0 a }, h', ?_, ⟨hnot, rfl, rfl, ?_⟩, KH.unofs rfl q2⟩
    · refine eq_of_wR (kq_f (e := 0) o (.inl ⟨rfl, rfl⟩) ?_)
      unfold m_Kernel__frames
      refine wRB rfl ?_
      simp -implicitDefEqProofs [gV, gK8 o, isF (fr_of (KH.ofs o)), e1', l2, -wR_getF]
    · refine ⟨J.K.nWs.sHd.sOs, ?_, ?_, fun g hg => ?_, fun e h1 h2 => ?_, fun g hg => ?_, J.wt, J.sh0, J.sm, ?_, fun g hg => ?_, J.pl, J.pF, J.enp, fun q f r hq he => ?_, J.eo, J.el, J.n0⟩
      · show (k.s.tk 0 f0 a).ord 0 = _
        rw [od, if_pos rfl, J.od]; simp
      · rw [List.nodup_append]
        refine ⟨J.nd, by simp, fun x hx y hy => ?_⟩
        rw [List.mem_singleton] at hy
        subst hy
        rintro rfl
        exact hnot hx
      · rcases List.mem_append.mp hg with c | c
        · exact J.lt g c
        · rw [List.mem_singleton] at c; subst c; exact hlt
      · show (k.s.tk 0 f0 a).ord e = _
        rw [od, if_neg h1]; exact J.ot e h1 h2
      · show (k.s.tk 0 f0 a).hdk g = _
        rw [hd]
        by_cases c : g = f0
        · subst c
          rw [if_pos rfl, if_pos (by simp), J.hd g hg, if_neg hnot]; rfl
        · rw [if_neg c, J.hd g hg]
          have : (g ∈ fs ++ [f0]) ↔ g ∈ fs := by simp [c]
          simp only [this]
      · rw [List.length_append]; simp; omega
      · show (k.s.tk 0 f0 a).wd g = _ ∧ _
        rw [wdd]
        unfold fu
        by_cases c : g = f0
        · subst c
          rw [if_pos rfl, if_pos rfl]
          exact ⟨rfl, rfl⟩
        · rw [if_neg c, if_neg c]
          exact J.wdp g (by simpa [c] using hg)
      · obtain ⟨h1, h2⟩ := J.er q f r hq he
        exact ⟨h1, List.mem_append_left _ h2⟩
theorem told_ok {b : Bool} {w : Nat} : m_told [.bl b, .str w] h = .ok (if b = true then .tup [.str 9, .non] else .tup [.str 8, .str w]) h := by
  have l2 : 2 ≤ lim := by decide
  refine eq_of_wR ?_
  unfold m_told
  refine wRB rfl ?_
  cases b <;> simp [truth, l2]
theorem K1.ks (J : K1 k fs en wd sh n) {p' : PS} {en' : Nat → Option (Nat × Nat)} {m : Nat} (pl : p'.es.length = 4) (pF : p'.F = k.p.F) (e0 : ∀ q : Nat, q < 32 → lookV (p'.ent 0) (.int q) = (en' q).map fun x => .tup [.int x.1, .str x.2]) (er : ∀ (q f r : Nat), q < 32 → en' q = some (f, r) → r < 2 ∧ f ∈ fs) (eo : ∀ e : Nat, e ≠ 0 → p'.ent e = []) (el : (p'.ent 0).length ≤ m) (hm : m < 1000) : K1 { k with p := p' } fs en' wd sh m :=
  ⟨J.K, J.od, J.nd, J.lt, J.ot, J.hd, J.wt, J.sh0, J.sm, J.fl, J.wdp, pl, pF.trans J.pF, e0, er, eo, el, hm⟩
theorem kq_map (J : K1 k fs en wd sh n) (o : On (k.nodes ++ R) h) (hq : q < 32) (hf : f ∈ fs) (hr : r < 2) (hn : n + 1 < 1000) :
    ∃ k' h', m_Kernel_request [.ref k.K, .int 0, .tup [.str 17, .int (q : Nat), .int (f : Nat), .str r]] h = .ok (.tup [.str 9, .non]) h' ∧ (k'.K = k.K ∧ k'.s = k.s ∧ K1 k' fs (fu en q (some (f, r))) wd sh (n + 1)) ∧ On (k'.nodes ++ R) h' := by
  have el := J.el
  have n0 := J.n0
  have rs := fr_of (KH.ofs o)
  obtain ⟨h', e1, o1⟩ := map_ok J.K J.Rs rs J.pF J.pl (KH.ops o) (e := 0) (by omega) (by omega) (i := (q : Int)) (f := (f : Int)) (r := r) (by omega)
  have hb : mapB k.s 0 (q : Int) (f : Int) r = true := by
    unfold mapB FS.rtI
    have h1 : (0 : Int) ≤ f ∧ (f : Int) < k.s.many := by have := J.lt f hf; omega
    rw [if_pos h1]
    have : k.s.rt 0 (f : Int).toNat = .str 0 := by
      rw [Int.toNat_natCast, J.rt (J.lt f hf), if_pos ⟨rfl, hf⟩]
    rw [this]
    have : incl 0 r = true := by unfold incl; have : r = 0 ∨ r = 1 := by omega
                                 rcases this with rfl | rfl <;> rfl
    simp [inI, this, hr]; omega
  rw [hb] at e1 o1
  rw [if_pos rfl] at o1
  have e1' : m_Pages_map [.ref k.p.P, .int 0, .int (q : Nat), .int (f : Nat), .str r] h = .ok (.bl true) h' := e1
  have pl := J.pl
  refine ⟨{ k with p := k.p.sE 0 (putV (k.p.ent 0) (.int q) (.tup [.int f, .str r])) }, h', ?_, ⟨rfl, rfl, ?_⟩, KH.unops (p' := k.p.sE 0 (putV (k.p.ent 0) (.int q) (.tup [.int f, .str r]))) rfl o1⟩
  · refine eq_of_wR (kq_p (e := 0) o (.inl ⟨rfl, rfl⟩) ?_)
    unfold m_Kernel__pages
    refine wRB rfl ?_
    simp -implicitDefEqProofs [gV, gK35 o, isP (pd_of (KH.ops o)), e1', told_ok, -wR_getF]
  · refine J.ks (by simp [PS.sE, pl]) rfl (fun q' hq' => ?_) (fun q' f' r' hq' he => ?_) (fun e he => ?_) ?_ hn
    · rw [ent_sE (by omega), if_pos rfl, lookV_put]
      unfold fu
      by_cases c : q' = q
      · subst c; simp
      · rw [if_neg c, if_neg (fun z => c (by injection z; omega))]; exact J.enp q' hq'
    · unfold fu at he
      by_cases c : q' = q
      · rw [if_pos c] at he; cases he; exact ⟨hr, hf⟩
      · rw [if_neg c] at he; exact J.er q' f' r' hq' he
    · rw [ent_sE (by omega), if_neg he]; exact J.eo e he
    · rw [ent_sE (by omega), if_pos rfl]
      exact Nat.le_trans putV_len (by omega)
theorem kq_unmap (J : K1 k fs en wd sh n) (o : On (k.nodes ++ R) h) (hq : q < 32) {x : Nat × Nat} (hx : en q = some x) :
    ∃ k' h', m_Kernel_request [.ref k.K, .int 0, .tup [.str 18, .int (q : Nat)]] h = .ok (.tup [.str 9, .non]) h' ∧ (k'.K = k.K ∧ k'.s = k.s ∧ K1 k' fs (fu en q none) wd sh n) ∧ On (k'.nodes ++ R) h' := by
  have pl := J.pl
  obtain ⟨h', e1, o1⟩ := unmap_ok J.pl J.V.S (KH.ops o) (e := 0) (by omega) (q := q)
  have hp := J.pen hq
  rw [hx] at hp
  rw [hp] at e1
  rw [if_pos hq] at o1
  have e1' : m_Pages_unmap [.ref k.p.P, .int 0, .int (q : Nat)] h = .ok (.bl true) h' := e1
  refine ⟨{ k with p := k.p.sE 0 (dropV (k.p.ent 0) (.int q)) }, h', ?_, ⟨rfl, rfl, ?_⟩, KH.unops (p' := k.p.sE 0 (dropV (k.p.ent 0) (.int q))) rfl o1⟩
  · refine eq_of_wR (kq_p (e := 0) o (.inr (.inl ⟨rfl, rfl⟩)) ?_)
    unfold m_Kernel__pages
    refine wRB rfl ?_
    simp -implicitDefEqProofs [gV, gK35 o, isP (pd_of (KH.ops o)), e1', told_ok, -wR_getF]
  · refine J.ks (by simp [PS.sE, pl]) rfl (fun q' hq' => ?_) (fun q' f' r' hq' he => ?_) (fun e he => ?_) ?_ J.n0
    · rw [ent_sE (by omega), if_pos rfl, lookV_drop]
      unfold fu
      by_cases c : q' = q
      · subst c; simp
      · rw [if_neg c, if_neg (fun z => c (by injection z; omega))]; exact J.enp q' hq'
    · unfold fu at he
      by_cases c : q' = q
      · rw [if_pos c] at he; cases he
      · rw [if_neg c] at he; exact J.er q' f' r' hq' he
    · rw [ent_sE (by omega), if_neg he]; exact J.eo e he
    · rw [ent_sE (by omega), if_pos rfl]
      exact Nat.le_trans dropV_len J.el
theorem K1.w8 (J : K1 k fs en wd sh n) (hq : q < 32) : ∀ f r : Nat, k.p.en 0 q = .tup [.int f, .str r] → (k.s.wd f).length = 8 := fun f r e => by
  rw [J.pen hq] at e
  cases x : en q with
  | none => rw [x] at e; cases e
  | some y =>
    obtain ⟨f', r'⟩ := y
    rw [x] at e
    simp only [Val.tup.injEq, List.cons.injEq, Val.int.injEq] at e
    have : f' = f := by omega
    subst this
    obtain ⟨_, h2⟩ := J.er q f' r' hq x
    obtain ⟨w1, w2⟩ := J.wdp f' h2
    rw [w1, List.length_map, w2]
theorem pload (J : K1 k fs en wd sh n) (o : On (k.nodes ++ R) h) (hq : q < 32) (hx : en q = some (f, r)) {i : Nat} (hi : i < 8) : m_Pages_load [.ref k.p.P, .int 0, .int (q : Nat), .int (i : Nat)] h = .ok (.int ((wd f).getD i 0)) h := by
  have e1 := load_ok J.K (fr_of (KH.ofs o)) J.pF J.pl J.V (pd_of (KH.ops o)) (e := 0) (by omega) (q := q) (J.w8 hq) (i := (i : Int))
  have hp := J.pen hq
  rw [hx] at hp
  rw [hp] at e1
  have e2 : ldV k.s (i : Int) (.tup [.int (f : Nat), .str r]) = .int ((wd f).getD i 0) := by
    show (if (0 : Int) ≤ (i : Int) ∧ (i : Int) < 8 then (k.s.wd (f : Int).toNat).getD (i : Int).toNat .non else .non) = _
    rw [if_pos (by omega)]
    obtain ⟨_, h2⟩ := J.er q f r hq hx
    obtain ⟨w1, w2⟩ := J.wdp f h2
    rw [Int.toNat_natCast, Int.toNat_natCast, w1, List.getD_eq_getElem?_getD, List.getD_eq_getElem?_getD, List.getElem?_map, List.getElem?_eq_getElem (by omega)]
    rfl
  rw [e2] at e1
  exact e1
theorem kq_load (J : K1 k fs en wd sh n) (o : On (k.nodes ++ R) h) (hq : q < 32) (hx : en q = some (f, r)) {i : Nat} (hi : i < 8) :
    m_Kernel_request [.ref k.K, .int 0, .tup [.str 19, .int (q : Nat), .int (i : Nat)]] h = .ok (.tup [.str 9, .int ((wd f).getD i 0)]) h := by
  have e1 := pload J o hq hx hi
  have l2 : 2 ≤ lim := by decide
  refine eq_of_wR (kq_p (e := 0) o (.inr (.inr (.inl ⟨rfl, rfl⟩))) ?_)
  unfold m_Kernel__pages
  refine wRB rfl ?_
  simp -implicitDefEqProofs [gV, gK35 o, isP (pd_of (KH.ops o)), e1, l2, -wR_getF]
theorem kq_store (J : K1 k fs en wd sh n) (o : On (k.nodes ++ R) h) (hq : q < 32) (hx : en q = some (f, 0)) {i : Nat} (hi : i < 8) {w : Int} (w0 : 0 ≤ w) (w1 : w ≤ 4294967295) :
    ∃ k' h', m_Kernel_request [.ref k.K, .int 0, .tup [.str 20, .int (q : Nat), .int (i : Nat), .int w]] h = .ok (.tup [.str 9, .non]) h' ∧ (k'.K = k.K ∧ k'.p = k.p ∧ k'.s.many = k.s.many ∧ K1 k' fs en (fu wd f ((wd f).set i w)) sh n) ∧ On (k'.nodes ++ R) h' := by
  obtain ⟨_, hfs⟩ := J.er q f 0 hq hx
  obtain ⟨h', e1, o1⟩ := store_ok J.K J.pF J.pl J.V (pd_of (KH.ops o)) (KH.ofs o) (e := 0) (by omega) (q := q) (J.w8 hq) (i := (i : Int)) (w := w)
  have hp := J.pen hq
  rw [hx] at hp
  have sb : stB (i : Int) w (k.p.en 0 q) = some f := by
    rw [hp]
    show (if ((0 : Nat) = 0 ∧ 0 ≤ w ∧ w ≤ 4294967295) ∧ (0 : Int) ≤ (i : Int) ∧ (i : Int) < 8 then some (f : Int).toNat else none) = some f
    rw [if_pos ⟨⟨rfl, w0, w1⟩, by omega, by omega⟩, Int.toNat_natCast]
  rw [sb] at e1 o1
  have e1' : m_Pages_store [.ref k.p.P, .int 0, .int (q : Nat), .int (i : Nat), .int w] h = .ok (.bl true) h' := e1
  have hws := J.K.ws
  have hlt := J.lt f hfs
  refine ⟨{ k with s := k.s.sWs f ((k.s.wd f).set i (.int w)) }, h', ?_, ⟨rfl, rfl, rfl, ?_⟩, KH.unofs (s' := k.s.sWs f ((k.s.wd f).set i (.int w))) rfl o1⟩
  · refine eq_of_wR (kq_p (e := 0) o (.inr (.inr (.inr ⟨rfl, rfl⟩))) ?_)
    unfold m_Kernel__pages
    refine wRB rfl ?_
    simp -implicitDefEqProofs [gV, gK35 o, isP (pd_of (KH.ops o)), e1', told_ok, -wR_getF]
  · refine ⟨J.K.sWs, J.od, J.nd, J.lt, J.ot, J.hd, J.wt, J.sh0, J.sm, J.fl, fun g hg => ?_, J.pl, J.pF, J.enp, J.er, J.eo, J.el, J.n0⟩
    show (k.s.sWs f _).wd g = _ ∧ _
    rw [wd_sWs (by omega)]
    unfold fu
    by_cases c : g = f
    · subst c
      obtain ⟨z1, z2⟩ := J.wdp g hg
      rw [if_pos rfl, if_pos rfl, z1, List.map_set, List.length_set]
      exact ⟨rfl, z2⟩
    · rw [if_neg c, if_neg c]
      exact J.wdp g hg
end
end Lw

set_option Elab.async false
set_option linter.all false
set_option autoImplicit false
set_option maxHeartbeats 4000000
set_option maxRecDepth 100000
namespace Lw
open PyM
section
variable {k : KH} {R : Nodes} {h h' : Heap} {fs : List Nat} {en : Nat → Option (Nat × Nat)} {wd : Nat → List Int} {sh n f q r : Nat}
theorem erase_map {f : Nat} : ∀ {l : List Nat}, (l.map fun (x : Nat) => (x : Int)).erase (f : Int) = (l.erase f).map fun (x : Nat) => (x : Int)
  | [] => rfl
  | x :: l => by
    rw [List.map_cons]
    by_cases c : x = f
    · subst c; simp
    · rw [List.erase_cons_tail (by simp; omega), List.erase_cons_tail (by simpa using c), List.map_cons, erase_map]
/-- the entries that lead to a frame fall -/
def enF (en : Nat → Option (Nat × Nat)) (f : Nat) : Nat → Option (Nat × Nat) := fun q => (en q).filter fun x => !decide (x.1 = f)
theorem mul1 {m i : Nat} : (m : Int) = (i : Int) ↔ m = i := by omega
theorem kq_drop (J : K1 k fs en wd sh n) (o : On (k.nodes ++ R) h) (hf : f ∈ fs) :
    ∃ k' h', m_Kernel_request [.ref k.K, .int 0, .tup [.str 14, .int (f : Nat)]] h = .ok (.tup [.str 9, .non]) h' ∧ (k'.K = k.K ∧ k'.s.many = k.s.many ∧ K1 k' (fs.erase f) (enF en f) wd sh n) ∧ On (k'.nodes ++ R) h' := by
  have hlt := J.lt f hf
  have hrt : k.s.rt 0 f = .str 0 := by rw [J.rt hlt, if_pos ⟨rfl, hf⟩]
  have hmo : (f : Int) ∈ k.s.ord 0 := by rw [J.od]; exact List.mem_map.mpr ⟨f, hf, rfl⟩
  obtain ⟨h1, e1, o1⟩ := drop_ok J.K J.Rs J.Ws (KH.ofs o) (e := 0) (f := f) (by omega) hlt (fun _ => hmo)
  have hn : k.s.rt 0 f ≠ .non := by rw [hrt]; intro z; cases z
  rw [if_neg hn] at o1
  have hb : (!decide (k.s.rt 0 f = .non)) = true := by simp [hn]
  rw [hb] at e1
  have hdr : k.s.dr 0 f = k.s.eh 0 f := by unfold FS.dr; rw [J.wt 0 (by omega)]
  rw [hdr] at o1
  have e1' : m_Frames_drop [.ref k.s.F, .int 0, .int (f : Nat)] h = .ok (.bl true) h1 := e1
  have o2 : On (({ k with s := k.s.eh 0 f } : KH).nodes ++ R) h1 := KH.unofs (s' := k.s.eh 0 f) rfl o1
  obtain ⟨h2, e2, o3⟩ := ended_ok J.pl (KH.ops (k := { k with s := k.s.eh 0 f }) o2) J.V.S (e := 0) (f := f) (by omega)
  have e2' : m_Pages_ended [.ref k.p.P, .int 0, .int (f : Nat)] h1 = .ok .non h2 := e2
  have pl := J.pl
  have g35 : getF 35 (.ref k.K) h1 = .ok (.ref k.p.P) h1 := by have z := gK35 (k := { k with s := k.s.eh 0 f }) o2; exact z
  have ip : isIns 1 (.ref k.p.P) h1 = true := by have z := isP (pd_of (KH.ops (k := { k with s := k.s.eh 0 f }) o2)); exact z
  have len : (fs.erase f).length + 1 = fs.length := by
    rw [List.length_erase_of_mem hf]
    have := List.length_pos_of_mem hf
    omega
  refine ⟨{ k with s := k.s.eh 0 f, p := k.p.sE 0 (falV (PF f fun _ => true) 32 (k.p.ent 0)) }, h2, ?_, ⟨rfl, rfl, ?_⟩, KH.unops (k := { k with s := k.s.eh 0 f }) (p' := k.p.sE 0 (falV (PF f fun _ => true) 32 (k.p.ent 0))) rfl o3⟩
  · refine eq_of_wR (kq_f (e := 0) o (.inr ⟨rfl, rfl⟩) ?_)
    unfold m_Kernel__frames
    refine wRB rfl ?_
    simp -implicitDefEqProofs [gV, gK8 o, isF (fr_of (KH.ofs o)), e1', truth, g35, ip, e2', told_ok, -wR_getF]
  · refine ⟨J.K.eh, ?_, J.nd.erase f, fun g hg => J.lt g (List.mem_of_mem_erase hg), fun e h1 h2 => ?_, fun g hg => ?_, J.wt, J.sh0, J.sm, ?_, fun g hg => J.wdp g (List.mem_of_mem_erase hg), by simp [PS.sE, pl], J.pF, fun q hq => ?_, fun q f' r hq he => ?_, fun e he => ?_, ?_, J.n0⟩
    · show (k.s.eh 0 f).ord 0 = _
      rw [ord_eh J.K (by omega), if_pos rfl, J.od, erase_map]
    · show (k.s.eh 0 f).ord e = _
      rw [ord_eh J.K (by omega), if_neg h1]
      exact J.ot e h1 h2
    · show (k.s.eh 0 f).hdk g = _
      rw [hdk_eh J.K hlt]
      by_cases c : g = f
      · subst c
        rw [if_pos rfl, J.hd g hlt, if_pos hf, if_neg (List.Nodup.not_mem_erase J.nd)]
        rfl
      · rw [if_neg c, J.hd g hg]
        have : (g ∈ fs.erase f) ↔ g ∈ fs := List.mem_erase_of_ne c
        simp only [this]
    · have := J.fl
      omega
    · rw [ent_sE (by omega), if_pos rfl, falV_look, if_pos hq, J.enp q hq]
      unfold enF
      cases x : en q with
      | none => rfl
      | some y =>
        obtain ⟨f', r⟩ := y
        simp only [Option.map_some, Option.filter, PF]
        by_cases c : f' = f
        · subst c; simp
        · have : ¬ ((f' : Int) = f) := by omega
          simp [c, this]
    · unfold enF at he
      cases x : en q with
      | none => rw [x] at he; cases he
      | some y =>
        obtain ⟨f2, r2⟩ := y
        rw [x] at he
        simp only [Option.filter] at he
        split at he
        · rename_i c
          cases he
          obtain ⟨h1, h2⟩ := J.er q f' r hq x
          exact ⟨h1, (List.mem_erase_of_ne (by simpa using c)).mpr h2⟩
        · cases he
    · show (k.p.sE 0 _).ent e = []
      rw [ent_sE (by omega), if_neg he]; exact J.eo e he
    · show ((k.p.sE 0 _).ent 0).length ≤ n
      rw [ent_sE (by omega), if_pos rfl]
      exact Nat.le_trans (falV_len 32) J.el
end
end Lw

set_option Elab.async false
set_option linter.all false
set_option autoImplicit false
set_option maxHeartbeats 4000000
set_option maxRecDepth 100000
namespace Lw
open PyM
theorem wS_whM_s {c : En → Heap → Res Bool} {body : En → Heap → RS} {D : K4} {n : Nat} {s : En} {h : Heap} : wS (whM c body (n + 1) s h) D = wR (c s h) D.ex fun b h1 => if b = true then wS (body s h1) { D with nx := fun s' h' => wS (whM c body n s' h') D, ct := fun s' h' => wS (whM c body n s' h') D, bk := D.nx } else D.nx s h1 := by
  rw [whM, wS_thenS]
  congr
  funext b h1
  split
  · cases body s h1 <;> rfl
  · rfl
theorem mAlt_r {a b : En → Heap → Res Val} {s : En} {h : Heap} (e : a s h = .stuck) : mAlt a b s h = b s h := by unfold mAlt; rw [e]
theorem mAlt_l {a b : En → Heap → Res Val} {s : En} {h h' : Heap} {v : Val} (e : a s h = .ok v h') : mAlt a b s h = .ok v h' := by unfold mAlt; rw [e]
theorem mMeth_no {c : Nat} {m : List Val → Heap → Res Val} {ds : List Val} {mo : En → Heap → Res Val} {ma : En → Heap → Res (List Val)} {s : En} {h h1 : Heap} {x : Val} (e : mo s h = .ok x h1) (i : isIns c x h1 = false) : mMeth c m ds mo ma s h = .stuck := by
  unfold mMeth
  rw [e]
  simp [Res.bind, i]
theorem mMeth_so {c : Nat} {m : List Val → Heap → Res Val} {ds : List Val} {mo : En → Heap → Res Val} {ma : En → Heap → Res (List Val)} {s : En} {h h1 h2 h3 : Heap} {x v : Val} {xs : List Val} (e : mo s h = .ok x h1) (i : isIns c x h1 = true) (ea : ma s h1 = .ok xs h2) (em : m (x :: (xs ++ ds)) h2 = .ok v h3) : mMeth c m ds mo ma s h = .ok v h3 := by
  unfold mMeth
  rw [e]
  simp [Res.bind, i, ea, em]
def accF : Nat → List Val → Heap → Res Val
  | 14 => m_Make_accept
  | 15 => m_Put_accept
  | 16 => m_Take_accept
  | _ => m_End_accept
def reqA (mo : En → Heap → Res Val) : En → Heap → Res Val := mAlt (mMeth 14 m_Make_request [] mo mNil) (mAlt (mMeth 15 m_Put_request [] mo mNil) (mAlt (mMeth 16 m_Take_request [] mo mNil) (mMeth 17 m_End_request [] mo mNil)))
def accA (mo : En → Heap → Res Val) (ma : En → Heap → Res (List Val)) : En → Heap → Res Val := mAlt (mMeth 14 m_Make_accept [] mo ma) (mAlt (mMeth 15 m_Put_accept [] mo ma) (mAlt (mMeth 16 m_Take_accept [] mo ma) (mMeth 17 m_End_accept [] mo ma)))
section
variable {mo : En → Heap → Res Val} {ma : En → Heap → Res (List Val)} {s : En} {h h1 h2 h3 : Heap} {c m S L : Nat} {fs fs2 : List (Nat × Val)} {x r v v2 : Val}
theorem cls_cases (hc : 14 ≤ c ∧ c ≤ 17) : c = 14 ∨ c = 15 ∨ c = 16 ∨ c = 17 := by omega
theorem ins_at {d : Nat} (em : h[m]? = some (.ins c fs)) : isIns d (.ref m) h = (d == c) := by simp [isIns, em]
theorem req1 {f : List Val → Heap → Res Val} (hf : f = m_Make_request) (em : h[m]? = some (.ins c fs)) (ew : lookF 6 fs = some x) : f [.ref m] h = .ok x h := by
  subst hf
  refine eq_of_wR ?_
  unfold m_Make_request
  refine wRB rfl ?_
  simp [em, ew]
theorem req_ok (hc : 14 ≤ c ∧ c ≤ 17) (e : mo s h = .ok (.ref m) h) (em : h[m]? = some (.ins c fs)) (ew : lookF 6 fs = some x) : reqA mo s h = .ok x h := by
  unfold reqA
  have i : ∀ d, isIns d (.ref m) h = (d == c) := fun d => ins_at em
  rcases cls_cases hc with rfl | rfl | rfl | rfl
  · exact mAlt_l (mMeth_so e (i 14) rfl (req1 (f := m_Make_request) rfl em ew))
  · rw [mAlt_r (mMeth_no e (i 14))]
    exact mAlt_l (mMeth_so e (i 15) rfl (req1 (f := m_Put_request) rfl em ew))
  · rw [mAlt_r (mMeth_no e (i 14)), mAlt_r (mMeth_no e (i 15))]
    exact mAlt_l (mMeth_so e (i 16) rfl (req1 (f := m_Take_request) rfl em ew))
  · rw [mAlt_r (mMeth_no e (i 14)), mAlt_r (mMeth_no e (i 15)), mAlt_r (mMeth_no e (i 16))]
    exact mMeth_so e (i 17) rfl (req1 (f := m_End_request) rfl em ew)
theorem acc_ok (hc : 14 ≤ c ∧ c ≤ 17) (e : mo s h = .ok (.ref m) h) (em : h[m]? = some (.ins c fs)) (ea : ma s h = .ok [r] h1) (ex : accF c [.ref m, r] h1 = .ok v h2) : accA mo ma s h = .ok v h2 := by
  unfold accA
  have i : ∀ d, isIns d (.ref m) h = (d == c) := fun d => ins_at em
  rcases cls_cases hc with rfl | rfl | rfl | rfl
  · exact mAlt_l (mMeth_so e (i 14) ea ex)
  · rw [mAlt_r (mMeth_no e (i 14))]
    exact mAlt_l (mMeth_so e (i 15) ea ex)
  · rw [mAlt_r (mMeth_no e (i 14)), mAlt_r (mMeth_no e (i 15))]
    exact mAlt_l (mMeth_so e (i 16) ea ex)
  · rw [mAlt_r (mMeth_no e (i 14)), mAlt_r (mMeth_no e (i 15)), mAlt_r (mMeth_no e (i 16))]
    exact mMeth_so e (i 17) ea ex
def sob (L : Nat) (v : Val) : Obj := .ins 10 [(10, .ref L), (11, v)]
def seB : En → Heap → RS := (sSeq (sAsg (gV 1) (reqA (mB oIx (mU (getF 10) (mV 0)) (mU oNeg (mK (.int 1))))))
    (sIf (tB_ (mB (oEq false) (mB oIx (mV 1) (mK (.int 0))) (mK (.str 4)))) (sDrop (mBM bAppend (mU (getF 10) (mV 0)) (mCons (mB oIx (mV 1) (mK (.int 1))) (mNil)))) (sIf (tB_ (mB (oEq false) (mB oIx (mV 1) (mK (.int 0))) (mK (.str 5)))) (sSeq (sDrop (mBM0 bPop (mU (getF 10) (mV 0))))
    (sIf (tTr (mU (getF 10) (mV 0))) (sDrop (accA (mB oIx (mU (getF 10) (mV 0)) (mU oNeg (mK (.int 1)))) (mCons (mB oIx (mV 1) (mK (.int 1))) (mNil)))) (sFld 10 11 (mV 0) (mB oIx (mV 1) (mK (.int 1)))))) (sRetN))))
theorem settle_cut : m_Stack__settle = runB 1 2 (whM (tTr (mU (getF 10) (mV 0))) seB (99998 + 1 + 1)) := rfl
structure Sk (h : Heap) (S L m c : Nat) (fs : List (Nat × Val)) (v : Val) : Prop where
  eS : h[S]? = some (sob L v)
  eL : h[L]? = some (.lst [.ref m])
  em : h[m]? = some (.ins c fs)
  hc : 14 ≤ c ∧ c ≤ 17
theorem Sk.g10 (k : Sk h S L m c fs v) : getF 10 (.ref S) h = .ok (.ref L) h := by have := k.eS; unfold sob at this; simp [getF, this, lookF]
theorem Sk.last (k : Sk h S L m c fs v) {o : Option Val} : mB oIx (mU (getF 10) (mV 0)) (mU oNeg (mK (.int 1))) [some (.ref S), o] h = .ok (.ref m) h := by
  refine eq_of_wR ?_
  have : L2.atI [Val.ref m] (-1) = some (.ref m) := rfl
  simp [k.g10, k.eL, this, -wR_getF]
theorem settle_req (k : Sk h S L m c fs v) {w : Nat} {xs : List Val} (ew : lookF 6 fs = some (.tup (.str w :: xs))) (h4 : w ≠ 4) (h5 : w ≠ 5) : m_Stack__settle [.ref S] h = .ok .non h := by
  refine eq_of_wR ?_
  rw [settle_cut]
  refine wRB rfl ?_
  have er := req_ok k.hc (k.last (o := none)) k.em ew
  rw [wS_whM_s]
  unfold seB
  simp -implicitDefEqProofs [k.g10, truth, k.eL, er, gV, h4, h5, -wR_getF]
theorem settle_end (k : Sk h S L m c fs v) (ew : lookF 6 fs = some (.tup [.str 5, v2])) : m_Stack__settle [.ref S] h = .ok .non ((h.set L (.lst [])).set S (sob L v2)) := by
  have hSL : S ≠ L := by
    rintro rfl
    have := k.eS.symm.trans k.eL
    unfold sob at this
    cases this
  refine eq_of_wR ?_
  rw [settle_cut]
  refine wRB rfl ?_
  have er := req_ok k.hc (k.last (o := none)) k.em ew
  have eS1 : (h.set L (.lst []))[S]? = some (sob L v) := by rw [at_set_ne (Ne.symm hSL)]; exact k.eS
  have eL1 : (h.set L (.lst []))[L]? = some (.lst []) := at_set k.eL
  generalize hh1 : h.set L (.lst []) = h1 at eS1 eL1
  have g1 : getF 10 (.ref S) h1 = .ok (.ref L) h1 := by unfold sob at eS1; simp [getF, eS1, lookF]
  have s1 : oSetF 10 11 (.ref S) v2 h1 = .ok () (h1.set S (sob L v2)) := by unfold sob at eS1 ⊢; simp [oSetF, eS1, setF]
  have eS2 : (h1.set S (sob L v2))[S]? = some (sob L v2) := at_set eS1
  have eL2 : (h1.set S (sob L v2))[L]? = some (.lst []) := by rw [at_set_ne hSL]; exact eL1
  generalize h1.set S (sob L v2) = h2 at s1 eS2 eL2
  have g2 : getF 10 (.ref S) h2 = .ok (.ref L) h2 := by unfold sob at eS2; simp [getF, eS2, lookF]
  have ep : bPop (.ref L) [] h = .ok (.ref m) h1 := by unfold bPop; simp [k.eL, ← hh1]
  rw [wS_whM_s]
  unfold seB
  generalize hN : 99998 + 1 = N
  simp -implicitDefEqProofs [k.g10, truth, k.eL, er, gV, seqOf_at k.eL, ep, g1, eL1, s1, -wR_getF, -wR_oSetF]
  rw [← hN, wS_whM_s]
  simp -implicitDefEqProofs [g2, truth, eL2, -wR_getF]
end
end Lw

set_option Elab.async false
set_option linter.all false
set_option autoImplicit false
set_option maxHeartbeats 4000000
set_option maxRecDepth 100000
namespace Lw
open PyM
section
variable {h h1 h2 h3 h4' : Heap} {c m S L K w w2 w3 : Nat} {fs fs2 fs3 : List (Nat × Val)} {x r u v v2 r2 u2 : Val} {xs xs2 xs3 : List Val}
def fin (h : Heap) (S L : Nat) (v : Val) : Heap := (h.set L (.lst [])).set S (sob L v)
theorem mCons_ok {ma : En → Heap → Res Val} {mA : En → Heap → Res (List Val)} {s : En} {xs : List Val} (e : ma s h = .ok x h1) (ea : mA s h1 = .ok xs h2) : mCons ma mA s h = .ok (x :: xs) h2 := by
  unfold mCons
  rw [e]
  show ((mA s h1).bind fun xs h2 => Res.ok (x :: xs) h2) = _
  rw [ea]
  rfl
theorem step_cut : m_Stack_step = runB 3 4 (sSeq (sDrop (mMeth 10 m_Stack__settle [] (mV 0) (mNil)))
    (sSeq (sIf (tNo (tTr (mU (getF 10) (mV 0)))) (sRet (mK (.bl false))) (sNx))
    (sSeq (sAsg (gV 3) (mB oIx (mU (getF 10) (mV 0)) (mU oNeg (mK (.int 1)))))
    (sSeq (sDrop (accA (mV 3) (mCons (mMeth 9 m_Kernel_request [] (mV 1) (mCons (mV 2) (mCons (reqA (mV 3)) (mNil)))) (mNil))))
    (sSeq (sDrop (mMeth 10 m_Stack__settle [] (mV 0) (mNil)))
    (sRet (mK (.bl true)))))))) := rfl
theorem Sk.is (k : Sk h S L m c fs v) : isIns 10 (.ref S) h = true := by have := k.eS; unfold sob at this; simp [isIns, this]
theorem Sk.ne (k : Sk h S L m c fs v) : S ≠ L := by
  rintro rfl
  have := k.eS.symm.trans k.eL
  unfold sob at this
  cases this
theorem Sk.fS (k : Sk h S L m c fs v) : (fin h S L v2)[S]? = some (sob L v2) := by
  unfold fin
  exact at_set (o0 := sob L v) (by rw [at_set_ne (Ne.symm k.ne)]; exact k.eS)
theorem Sk.fL (k : Sk h S L m c fs v) : (fin h S L v2)[L]? = some (.lst []) := by
  unfold fin
  rw [at_set_ne k.ne]
  exact at_set k.eL
theorem step_end (k : Sk h S L m c fs v) (ew : lookF 6 fs = some (.tup [.str 5, v2])) {y z : Val} : m_Stack_step [.ref S, y, z] h = .ok (.bl false) (fin h S L v2) := by
  have e1 := settle_end k ew
  have e2 := k.fS (v2 := v2)
  have e3 := k.fL (v2 := v2)
  rw [show (h.set L (.lst [])).set S (sob L v2) = fin h S L v2 from rfl] at e1
  generalize fin h S L v2 = h1 at e1 e2 e3
  have g1 : getF 10 (.ref S) h1 = .ok (.ref L) h1 := by unfold sob at e2; simp [getF, e2, lookF]
  refine eq_of_wR ?_
  rw [step_cut]
  refine wRB rfl ?_
  simp -implicitDefEqProofs [k.is, e1, g1, truth, e3, -wR_getF]
theorem step_mid (k : Sk h S L m c fs v) (ew : lookF 6 fs = some (.tup (.str w :: xs))) (h4 : w ≠ 4) (h5 : w ≠ 5) (i9 : isIns 9 (.ref K) h = true)
    (er : m_Kernel_request [.ref K, .int 0, .tup (.str w :: xs)] h = .ok r h1) (ea : accF c [.ref m, r] h1 = .ok u h2) (i2 : isIns 10 (.ref S) h2 = true) (es : m_Stack__settle [.ref S] h2 = .ok v2 h3) : m_Stack_step [.ref S, .ref K, .int 0] h = .ok (.bl true) h3 := by
  have e1 := settle_req k ew h4 h5
  have e2 := req_ok k.hc (mo := mV 3) (s := [some (.ref S), some (.ref K), some (.int 0), some (.ref m)]) (h := h) rfl k.em ew
  have e3 : mCons (mMeth 9 m_Kernel_request [] (mV 1) (mCons (mV 2) (mCons (reqA (mV 3)) (mNil)))) (mNil) [some (.ref S), some (.ref K), some (.int 0), some (.ref m)] h = .ok [r] h1 := by
    have : mMeth 9 m_Kernel_request [] (mV 1) (mCons (mV 2) (mCons (reqA (mV 3)) (mNil))) [some (.ref S), some (.ref K), some (.int 0), some (.ref m)] h = .ok r h1 := by
      refine mMeth_so (x := .ref K) (xs := [.int 0, .tup (.str w :: xs)]) (h1 := h) (h2 := h) rfl i9 ?_ er
      exact mCons_ok rfl (mCons_ok e2 rfl)
    exact mCons_ok this rfl
  have e4 := acc_ok k.hc (mo := mV 3) (s := [some (.ref S), some (.ref K), some (.int 0), some (.ref m)]) (h := h) rfl k.em e3 ea
  have e5 := k.last (o := none)
  have hl : L2.atI [Val.ref m] (-1) = some (.ref m) := rfl
  refine eq_of_wR ?_
  rw [step_cut]
  refine wRB rfl ?_
  simp -implicitDefEqProofs [k.is, e1, k.g10, truth, k.eL, hl, gV, e4, i2, es, -wR_getF]
theorem ended_st (e2 : h[S]? = some (sob L v)) (e3 : h[L]? = some (.lst xs)) : m_Stack_ended [.ref S] h = .ok (.bl xs.isEmpty) h := by
  have g1 : getF 10 (.ref S) h = .ok (.ref L) h := by unfold sob at e2; simp [getF, e2, lookF]
  refine eq_of_wR ?_
  unfold m_Stack_ended
  refine wRB rfl ?_
  have : wR (mNoT (mU (getF 10) (mV 0)) [some (.ref S)] h) (fun _ _ => False) fun b h' => b = .bl xs.isEmpty ∧ h' = h := by
    unfold mNoT
    simp [g1, truth, e3, -wR_getF]
  simpa using this
theorem value_st (e2 : h[S]? = some (sob L v)) : m_Stack_value [.ref S] h = .ok v h := by
  refine eq_of_wR ?_
  unfold m_Stack_value
  refine wRB rfl ?_
  unfold sob at e2
  simp [e2, lookF]
theorem stack_init {a : Nat} : m_Stack___init__ [.ref h.length, .ref a] (h ++ [.ins 10 []]) = .ok .non (h ++ [sob (h.length + 1) .non, .lst [.ref a]]) := by
  have l1 : 1 ≤ lim := by decide
  refine eq_of_wR ?_
  unfold m_Stack___init__
  refine wRB rfl ?_
  simp -implicitDefEqProofs [l1, sob, setF]
theorem rangeV_s {lo : Int} {n : Nat} : rangeV lo (n + 1) = .int lo :: rangeV (lo + 1) n := by
  unfold rangeV
  rw [List.range_succ_eq_map, List.map_cons, List.map_map, show lo + ((0 : Nat) : Int) = lo by omega]
  congr 1
  apply List.map_congr_left
  intro i _
  simp only [Function.comp]
  congr 1
  push_cast
  omega
def h0 (h : Heap) (a : Nat) : Heap := h ++ [sob (h.length + 1) .non, .lst [.ref a]]
theorem sk0 (em : h[m]? = some (.ins c fs)) (hc : 14 ≤ c ∧ c ≤ 17) : Sk (h0 h m) h.length (h.length + 1) m c fs .non :=
  ⟨by simp [h0], by simp [h0], at_push em, hc⟩
theorem run0 (em : h[m]? = some (.ins c fs)) (hc : 14 ≤ c ∧ c ≤ 17) (ew : lookF 6 fs = some (.tup [.str 5, v])) {y : Val} : m__law_run [y, .ref m] h = .ok v (fin (h0 h m) h.length (h.length + 1) v) := by
  have k := sk0 em hc
  have e1 := step_end k ew (y := y) (z := .int 0)
  have i1 := k.is
  have eS := k.fS (v2 := v)
  have e3 := value_st eS
  have i2 : isIns 10 (.ref h.length) (fin (h0 h m) h.length (h.length + 1) v) = true := by unfold sob at eS; simp [isIns, eS]
  have ei := stack_init (h := h) (a := m)
  rw [show h ++ [sob (h.length + 1) .non, .lst [.ref m]] = h0 h m from rfl] at ei
  generalize fin (h0 h m) h.length (h.length + 1) v = h1 at e1 e3 i2
  generalize h0 h m = hh at e1 i1 ei
  refine eq_of_wR ?_
  unfold m__law_run
  refine wRB rfl ?_
  simp -implicitDefEqProofs [gV, ei]
  rw [show (400 : Nat) = 399 + 1 from rfl, rangeV_s, wS_forM_cons]
  simp -implicitDefEqProofs [gV, i1, e1, truth, i2, e3]
theorem run1 (em : h[m]? = some (.ins c fs)) (hc : 14 ≤ c ∧ c ≤ 17) (ew : lookF 6 fs = some (.tup (.str w :: xs))) (h4 : w ≠ 4) (h5 : w ≠ 5) (i9 : isIns 9 (.ref K) (h0 h m) = true)
    (er : m_Kernel_request [.ref K, .int 0, .tup (.str w :: xs)] (h0 h m) = .ok r h1) (ea : accF c [.ref m, r] h1 = .ok u h2) (k2 : Sk h2 h.length (h.length + 1) m c fs2 .non) (ew2 : lookF 6 fs2 = some (.tup [.str 5, v])) : m__law_run [.ref K, .ref m] h = .ok v (fin h2 h.length (h.length + 1) v) := by
  have k := sk0 em hc
  have e1 := step_mid k ew h4 h5 i9 er ea k2.is (settle_end k2 ew2)
  rw [show (h2.set (h.length + 1) (.lst [])).set h.length (sob (h.length + 1) v) = fin h2 h.length (h.length + 1) v from rfl] at e1
  have i1 := k.is
  have eS := k2.fS (v2 := v)
  have eL := k2.fL (v2 := v)
  have e3 := value_st eS
  have e4 := ended_st eS eL
  have i2 : isIns 10 (.ref h.length) (fin h2 h.length (h.length + 1) v) = true := by unfold sob at eS; simp [isIns, eS]
  have ei := stack_init (h := h) (a := m)
  rw [show h ++ [sob (h.length + 1) .non, .lst [.ref m]] = h0 h m from rfl] at ei
  generalize fin h2 h.length (h.length + 1) v = h5 at e1 e3 e4 i2
  generalize h0 h m = hh at e1 i1 ei
  refine eq_of_wR ?_
  unfold m__law_run
  refine wRB rfl ?_
  simp -implicitDefEqProofs [gV, ei]
  rw [show (400 : Nat) = 399 + 1 from rfl, rangeV_s, wS_forM_cons]
  simp -implicitDefEqProofs [gV, i1, e1, truth, i2, e3, e4]
theorem run2 (em : h[m]? = some (.ins c fs)) (hc : 14 ≤ c ∧ c ≤ 17) (ew : lookF 6 fs = some (.tup (.str w :: xs))) (h4 : w ≠ 4) (h5 : w ≠ 5) (i9 : isIns 9 (.ref K) (h0 h m) = true)
    (er : m_Kernel_request [.ref K, .int 0, .tup (.str w :: xs)] (h0 h m) = .ok r h1) (ea : accF c [.ref m, r] h1 = .ok u h2) (k2 : Sk h2 h.length (h.length + 1) m c fs2 .non)
    (ew2 : lookF 6 fs2 = some (.tup (.str w2 :: xs2))) (h42 : w2 ≠ 4) (h52 : w2 ≠ 5) (i92 : isIns 9 (.ref K) h2 = true)
    (er2 : m_Kernel_request [.ref K, .int 0, .tup (.str w2 :: xs2)] h2 = .ok r2 h3) (ea2 : accF c [.ref m, r2] h3 = .ok u2 h4') (k3 : Sk h4' h.length (h.length + 1) m c fs3 .non) (ew3 : lookF 6 fs3 = some (.tup [.str 5, v])) : m__law_run [.ref K, .ref m] h = .ok v (fin h4' h.length (h.length + 1) v) := by
  have k := sk0 em hc
  have e1 := step_mid k ew h4 h5 i9 er ea k2.is (settle_req k2 ew2 h42 h52)
  have e5 := ended_st k2.eS k2.eL
  have j1 := k2.is
  have e2 := step_mid k2 ew2 h42 h52 i92 er2 ea2 k3.is (settle_end k3 ew3)
  rw [show (h4'.set (h.length + 1) (.lst [])).set h.length (sob (h.length + 1) v) = fin h4' h.length (h.length + 1) v from rfl] at e2
  have i1 := k.is
  have eS := k3.fS (v2 := v)
  have eL := k3.fL (v2 := v)
  have e3 := value_st eS
  have e4 := ended_st eS eL
  have i2 : isIns 10 (.ref h.length) (fin h4' h.length (h.length + 1) v) = true := by unfold sob at eS; simp [isIns, eS]
  have ei := stack_init (h := h) (a := m)
  rw [show h ++ [sob (h.length + 1) .non, .lst [.ref m]] = h0 h m from rfl] at ei
  generalize fin h4' h.length (h.length + 1) v = h5 at e2 e3 e4 i2
  generalize h0 h m = hh at e1 i1 ei
  refine eq_of_wR ?_
  unfold m__law_run
  refine wRB rfl ?_
  simp -implicitDefEqProofs [gV, ei]
  rw [show (400 : Nat) = 398 + 1 + 1 from rfl, rangeV_s, wS_forM_cons]
  simp -implicitDefEqProofs [gV, i1, e1, truth, j1, e5]
  rw [rangeV_s, wS_forM_cons]
  simp -implicitDefEqProofs [gV, j1, e2, truth, i2, e3, e4]
end
end Lw

set_option Elab.async false
set_option linter.all false
set_option autoImplicit false
set_option maxHeartbeats 4000000
set_option maxRecDepth 100000
namespace Lw
open PyM
/-! the program's part: memory without pages, pipes -/
structure PP where
  M : Nat
  TL : Nat
  t0 : Nat
  t1 : Nat
  t2 : Nat
  t3 : Nat
  PO : Nat
  RW : Nat
  sh : Nat
  oth : Int
  rows : List (Val × Val)
def mob (TL sh : Nat) (n : Int) : Obj := .ins 12 [(37, .int sh), (38, .ref TL), (39, .int n)]
def pob (M RW : Nat) : Obj := .ins 13 [(40, .ref M), (29, .ref RW)]
def PP.nodes (p : PP) : Nodes := [(p.M, mob p.TL p.sh p.oth), (p.TL, .lst [.ref p.t0, .ref p.t1, .ref p.t2, .ref p.t3]), (p.t0, .lst []), (p.t1, .lst []), (p.t2, .lst []), (p.t3, .lst []), (p.PO, pob p.M p.RW), (p.RW, .dct p.rows)]
section
variable {h h1 h2 : Heap} {p : PP} {X : Nodes} {m a c S L i f : Nat} {fs : List (Nat × Val)} {v x y r : Val} {n : Int}
theorem gf (e : h[a]? = some (.ins c fs)) {g : Nat} (l : lookF g fs = some v) : getF g (.ref a) h = .ok v h := by simp [getF, e, l]
theorem sf (e : h[a]? = some (.ins c fs)) {g : Nat} (hl : fs.length < 1000) : oSetF c g (.ref a) x h = .ok () (h.set a (.ins c (setF g x fs))) := by simp [oSetF, e, hl]
structure Pd2 (p : PP) (h : Heap) : Prop where
  eM : h[p.M]? = some (mob p.TL p.sh p.oth)
  eT : h[p.TL]? = some (.lst [.ref p.t0, .ref p.t1, .ref p.t2, .ref p.t3])
  e0 : h[p.t0]? = some (.lst [])
  e1 : h[p.t1]? = some (.lst [])
  e2 : h[p.t2]? = some (.lst [])
  e3 : h[p.t3]? = some (.lst [])
  eP : h[p.PO]? = some (pob p.M p.RW)
  eR : h[p.RW]? = some (.dct p.rows)
theorem pd2 {T : Nodes} (o : On (T ++ (p.nodes ++ X)) h) : Pd2 p h := by
  have b : ∀ (i : Nat) (z : Nat × Obj), p.nodes[i]? = some z → h[z.1]? = some z.2 := fun i z e => o.at_ z (List.mem_append_right _ (List.mem_append_left _ (List.mem_of_getElem? e)))
  exact ⟨b 0 _ rfl, b 1 _ rfl, b 2 _ rfl, b 3 _ rfl, b 4 _ rfl, b 5 _ rfl, b 6 _ rfl, b 7 _ rfl⟩
theorem Pd2.ext (d : Pd2 p h) (x : Ext h h1) : Pd2 p h1 := ⟨x.at d.eM, x.at d.eT, x.at d.e0, x.at d.e1, x.at d.e2, x.at d.e3, x.at d.eP, x.at d.eR⟩
theorem Pd2.iM (d : Pd2 p h) : isIns 12 (.ref p.M) h = true := by have := d.eM; unfold mob at this; simp [isIns, this]
theorem Pd2.iP (d : Pd2 p h) : isIns 13 (.ref p.PO) h = true := by have := d.eP; unfold pob at this; simp [isIns, this]
theorem Pd2.g37 (d : Pd2 p h) : getF 37 (.ref p.M) h = .ok (.int p.sh) h := gf (c := 12) d.eM rfl
theorem Pd2.g38 (d : Pd2 p h) : getF 38 (.ref p.M) h = .ok (.ref p.TL) h := gf (c := 12) d.eM rfl
theorem Pd2.g39 (d : Pd2 p h) : getF 39 (.ref p.M) h = .ok (.int p.oth) h := gf (c := 12) d.eM rfl
theorem Pd2.g40 (d : Pd2 p h) : getF 40 (.ref p.PO) h = .ok (.ref p.M) h := gf (c := 13) d.eP rfl
theorem Pd2.g29 (d : Pd2 p h) : getF 29 (.ref p.PO) h = .ok (.ref p.RW) h := gf (c := 13) d.eP rfl
theorem note_taken_ok (d : Pd2 p h) : m_Memory_note_taken [.ref p.M] h = .ok .non (h.set p.M (mob p.TL p.sh (p.oth + 1))) := by
  have s := sf (g := 39) (x := .int (p.oth + 1)) d.eM (show 3 < 1000 by decide)
  refine eq_of_wR ?_
  unfold m_Memory_note_taken
  refine wRB rfl ?_
  simp -implicitDefEqProofs [d.iM, d.g39, s, -wR_getF, -wR_oSetF]
  rfl
theorem note_dropped_ok (d : Pd2 p h) : m_Memory_note_dropped [.ref p.M] h = .ok .non (h.set p.M (mob p.TL p.sh (p.oth - 1))) := by
  have s := sf (g := 39) (x := .int (p.oth - 1)) d.eM (show 3 < 1000 by decide)
  refine eq_of_wR ?_
  unfold m_Memory_note_dropped
  refine wRB rfl ?_
  simp -implicitDefEqProofs [d.iM, d.g39, s, -wR_getF, -wR_oSetF]
  rfl
theorem note_ok (d : Pd2 p h) (hl : p.rows.length < 1000) {i : Int} {x y z : Val} : m_Pipes_note [.ref p.PO, .int i, x, y, z] h = .ok .non (h.set p.RW (.dct (putV p.rows (.int i) (.tup [x, y, z])))) := by
  have l3 : 3 ≤ lim := by decide
  have ll := lim8
  refine eq_of_wR ?_
  unfold m_Pipes_note
  refine wRB rfl ?_
  simp -implicitDefEqProofs [l3, d.g29, d.eR, show p.rows.length < lim by omega, -wR_getF]
theorem row_ok (d : Pd2 p h) {i : Int} (hl : lookV p.rows (.int i) = some v) : oIx (.ref p.RW) (.int i) h = .ok v h := by
  refine eq_of_wR ?_
  simp [d.eR, hl]
theorem pframe_ok (d : Pd2 p h) {i : Int} (hl : lookV p.rows (.int i) = some (.tup [x, y, v])) : m_Pipes_frame [.ref p.PO, .int i] h = .ok x h := by
  have e := row_ok d hl
  refine eq_of_wR ?_
  unfold m_Pipes_frame
  refine wRB rfl ?_
  simp -implicitDefEqProofs [d.g29, e, -wR_getF, -wR_oIxL]
theorem phead_ok (d : Pd2 p h) {i : Int} (hl : lookV p.rows (.int i) = some (.tup [x, y, v])) : m_Pipes_head [.ref p.PO, .int i] h = .ok y h := by
  have e := row_ok d hl
  refine eq_of_wR ?_
  unfold m_Pipes_head
  refine wRB rfl ?_
  simp -implicitDefEqProofs [d.g29, e, -wR_getF, -wR_oIxL]
theorem psize_ok (d : Pd2 p h) {i : Int} (hl : lookV p.rows (.int i) = some (.tup [x, y, v])) : m_Pipes_size [.ref p.PO, .int i] h = .ok v h := by
  have e := row_ok d hl
  refine eq_of_wR ?_
  unfold m_Pipes_size
  refine wRB rfl ?_
  simp -implicitDefEqProofs [d.g29, e, -wR_getF, -wR_oIxL]
theorem forget_ok (d : Pd2 p h) {i : Int} (hl : lookV p.rows (.int i) = some v) : m_Pipes_forget [.ref p.PO, .int i] h = .ok .non (h.set p.RW (.dct (dropV p.rows (.int i)))) := by
  have e := dPop1_at d.eR (y := .int i) rfl hl
  refine eq_of_wR ?_
  unfold m_Pipes_forget
  refine wRB rfl ?_
  simp -implicitDefEqProofs [d.g29, isD_dct d.eR, e, -wR_getF]
theorem there_ok (d : Pd2 p h) {i : Int} : m_Pipes_is_there [.ref p.PO, .int i] h = .ok (.bl (lookV p.rows (.int i)).isSome) h := by
  have e := oIn_dct (neg := false) d.eR (x := .int i) rfl
  refine eq_of_wR ?_
  unfold m_Pipes_is_there
  refine wRB rfl ?_
  simp -implicitDefEqProofs [d.g29, e, -wR_getF]
def lv (rows : List (Val × Val)) : Val := if (lookV rows (.int 0)).isSome then (if (lookV rows (.int 1)).isSome then (if (lookV rows (.int 2)).isSome then (if (lookV rows (.int 3)).isSome then .non else .int 3) else .int 2) else .int 1) else .int 0
theorem least_ok (d : Pd2 p h) : m_Pipes_least [.ref p.PO] h = .ok (lv p.rows) h := by
  have e := fun i : Int => oIn_dct (neg := true) d.eR (x := .int i) rfl
  have r4 : rangeV 0 4 = [.int 0, .int 1, .int 2, .int 3] := rfl
  refine eq_of_wR ?_
  unfold m_Pipes_least lv
  refine wRB rfl ?_
  cases c0 : lookV p.rows (.int 0) <;> cases c1 : lookV p.rows (.int 1) <;> cases c2 : lookV p.rows (.int 2) <;> cases c3 : lookV p.rows (.int 3) <;> simp -implicitDefEqProofs [r4, wS_forM_cons, wS_forM_nil, gV, d.g29, e, c0, c1, c2, c3, -wR_getF]
theorem held_ok (d : Pd2 p h) : m_Memory_held [.ref p.M] h = .ok (.int p.oth) (h ++ [.lst []]) := by
  have x1 : Ext h (h ++ [Obj.lst []]) := ⟨_, rfl⟩
  have d1 := d.ext x1
  have eg : (h ++ [Obj.lst []])[h.length]? = some (.lst []) := at_len
  refine eq_of_wR ?_
  unfold m_Memory_held
  refine wRB rfl ?_
  simp -implicitDefEqProofs [gV, -wR_getF]
  generalize hh : h ++ [Obj.lst []] = h1 at d1 eg
  refine wR_iAltE (h1 := h1) (a := p.TL) (xs := [.ref p.t0, .ref p.t1, .ref p.t2, .ref p.t3]) ?_ d1.eT ?_
  · show mU (getF 38) (mV 0) _ h1 = _
    simp [mU, mV, Res.bind, d1.g38]
  · refine wS_forM (fun i s' h' => h' = h1 ∧ ∃ a b, s' = [some (.ref p.M), some (.ref h.length), a, b]) _ 0 _ _ ⟨rfl, _, _, rfl⟩ ?_ ?_
    · rintro i x s' h' _ hx ⟨rfl, a, b, rfl⟩
      refine ⟨lstIs_at d1.eT, _, rfl, ?_⟩
      have hx' : ∃ t, x = .ref t ∧ h'[t]? = some (.lst []) := by
        have hm := List.mem_of_getElem? hx
        simp only [List.mem_cons, List.not_mem_nil, or_false] at hm
        rcases hm with rfl | rfl | rfl | rfl
        · exact ⟨_, rfl, d1.e0⟩
        · exact ⟨_, rfl, d1.e1⟩
        · exact ⟨_, rfl, d1.e2⟩
        · exact ⟨_, rfl, d1.e3⟩
      obtain ⟨t, rfl, et⟩ := hx'
      simp -implicitDefEqProofs [et, wS_forM_nil, lstIs_at et]
    · rintro s' h' ⟨rfl, a, b, rfl⟩
      refine ⟨lstIs_at d1.eT, ?_⟩
      simp -implicitDefEqProofs [eg, d1.g39, -wR_getF]
theorem full_ok (d : Pd2 p h) : m_Memory_is_full [.ref p.M] h = .ok (.bl (decide ((p.sh : Int) ≤ p.oth))) (h ++ [.lst []]) := by
  have d1 := d.ext (h1 := h ++ [Obj.lst []]) ⟨_, rfl⟩
  refine eq_of_wR ?_
  unfold m_Memory_is_full
  refine wRB rfl ?_
  simp -implicitDefEqProofs [d.iM, held_ok d, d1.g37, -wR_getF]
end
end Lw

set_option Elab.async false
set_option linter.all false
set_option autoImplicit false
set_option maxHeartbeats 4000000
set_option maxRecDepth 100000
namespace Lw
open PyM
def mkF (PO : Nat) (v : Val) (st : Nat) (w : Val) : List (Nat × Val) := [(41, .ref PO), (42, v), (43, .str st), (6, w)]
section
variable {h h1 h2 : Heap} {p : PP} {X : Nodes} {m a c S L i f : Nat} {fs : List (Nat × Val)} {v x y r w : Val} {n : Int} {b1 b2 : Obj}
theorem lv_cases (rows : List (Val × Val)) : lv rows = .non ∨ ∃ i : Nat, i < 4 ∧ lv rows = .int (i : Nat) := by
  unfold lv
  split
  · split
    · split
      · split
        · exact .inl rfl
        · exact .inr ⟨3, by omega, rfl⟩
      · exact .inr ⟨2, by omega, rfl⟩
    · exact .inr ⟨1, by omega, rfl⟩
  · exact .inr ⟨0, by omega, rfl⟩
def mkW (p : PP) : Val := if lv p.rows = .non ∨ (p.sh : Int) ≤ p.oth then .tup [.str 5, .non] else .tup [.str 11]
theorem make_init (o : On (p.nodes ++ X) h) : ∃ h1, m_Make___init__ [.ref h.length, .ref p.PO] (h ++ [.ins 14 []]) = .ok .non h1 ∧ On ((h.length, .ins 14 (mkF p.PO (lv p.rows) 11 (mkW p))) :: (p.nodes ++ X)) h1 := by
  have wi : wR (m_Make___init__ [.ref h.length, .ref p.PO] (h ++ [.ins 14 []])) (fun _ _ => False) fun v h1 => v = .non ∧ On ((h.length, .ins 14 (mkF p.PO (lv p.rows) 11 (mkW p))) :: (p.nodes ++ X)) h1 := by
    have l1 : 1 ≤ lim := by decide
    have l2 : 2 ≤ lim := by decide
    have o0 := o.new (.ins 14 [])
    generalize hm : h.length = m at o0
    generalize h ++ [Obj.ins 14 []] = g0 at o0
    have s1 := sf (g := 41) (x := .ref p.PO) (o0.get (i := 0) rfl) (by decide)
    have o1 := o0.set (i := 0) rfl (.ins 14 [(41, .ref p.PO)])
    rw [show setF 41 (.ref p.PO) [] = [(41, .ref p.PO)] from rfl] at s1
    generalize g0.set m (.ins 14 [(41, .ref p.PO)]) = g1 at s1 o1
    have d1 := pd2 (T := [_]) o1
    have e1 := least_ok d1
    have s2 := sf (g := 42) (x := lv p.rows) (o1.get (i := 0) rfl) (show 1 < 1000 by decide)
    have o2 := o1.set (i := 0) rfl (.ins 14 [(41, .ref p.PO), (42, lv p.rows)])
    rw [show setF 42 (lv p.rows) [(41, Val.ref p.PO)] = [(41, .ref p.PO), (42, lv p.rows)] from rfl] at s2
    generalize g1.set m (.ins 14 [(41, .ref p.PO), (42, lv p.rows)]) = g2 at s2 o2
    have s3 := sf (g := 43) (x := .str 11) (o2.get (i := 0) rfl) (show 2 < 1000 by decide)
    have o3 := o2.set (i := 0) rfl (.ins 14 [(41, .ref p.PO), (42, lv p.rows), (43, .str 11)])
    rw [show setF 43 (.str 11) [(41, Val.ref p.PO), (42, lv p.rows)] = [(41, .ref p.PO), (42, lv p.rows), (43, .str 11)] from rfl] at s3
    generalize g2.set m (.ins 14 [(41, .ref p.PO), (42, lv p.rows), (43, .str 11)]) = g3 at s3 o3
    have s4 := sf (g := 6) (x := .tup [.str 11]) (o3.get (i := 0) rfl) (show 3 < 1000 by decide)
    have o4 := o3.set (i := 0) rfl (.ins 14 (mkF p.PO (lv p.rows) 11 (.tup [.str 11])))
    rw [show setF 6 (.tup [.str 11]) [(41, Val.ref p.PO), (42, lv p.rows), (43, .str 11)] = mkF p.PO (lv p.rows) 11 (.tup [.str 11]) from rfl] at s4
    generalize g3.set m (.ins 14 (mkF p.PO (lv p.rows) 11 (.tup [.str 11]))) = g4 at s4 o4
    have d4 := pd2 (T := [_]) o4
    have g42 := gf (g := 42) (v := lv p.rows) (o4.get (i := 0) rfl) rfl
    have s5 := fun g (o4 : On ((m, .ins 14 (mkF p.PO (lv p.rows) 11 (.tup [.str 11]))) :: (p.nodes ++ X)) g) => sf (g := 6) (x := .tup [.str 5, .non]) (o4.get (i := 0) rfl) (show 4 < 1000 by decide)
    have o5 := fun g (o4 : On ((m, .ins 14 (mkF p.PO (lv p.rows) 11 (.tup [.str 11]))) :: (p.nodes ++ X)) g) => o4.set (i := 0) rfl (.ins 14 (mkF p.PO (lv p.rows) 11 (.tup [.str 5, .non])))
    unfold m_Make___init__ mkW
    refine wRB rfl ?_
    simp -implicitDefEqProofs [s1, d1.iP, e1, s2, s3, l1, s4, g42, d4.g40, d4.iM, full_ok d4, truth, -wR_getF, -wR_oSetF]
    rcases lv_cases p.rows with c | ⟨i, _, c⟩
    · rw [c] at s5 o5 ⊢
      rw [c] at o4
      simp -implicitDefEqProofs [l2, s5 g4 o4, -wR_oSetF]
      exact o5 g4 o4
    · rw [c] at s5 o5 ⊢
      rw [c] at o4
      have o4' := o4.ext (h' := g4 ++ [Obj.lst []]) ⟨_, rfl⟩
      by_cases c2 : (p.sh : Int) ≤ p.oth
      · simp -implicitDefEqProofs [l2, c2, s5 _ o4', -wR_oSetF]
        exact o5 _ o4'
      · simp -implicitDefEqProofs [c2]
        exact o4'
  obtain ⟨v, h', e, rfl, q⟩ := ex_of_wR wi
  exact ⟨h', e, q⟩
theorem make_acc1 (o : On ((S, b1) :: (L, b2) :: (m, .ins 14 (mkF p.PO (.int (i : Nat)) 11 w)) :: (p.nodes ++ X)) h) (hl : p.rows.length < 1000) :
    ∃ h', m_Make_accept [.ref m, .tup [.str 9, .int (f : Nat)]] h = .ok .non h' ∧ On ((S, b1) :: (L, b2) :: (m, .ins 14 (mkF p.PO (.int (i : Nat)) 17 (.tup [.str 17, .int ((24 + i : Nat) : Int), .int (f : Nat), .str 0]))) :: (({ p with oth := p.oth + 1, rows := putV p.rows (.int (i : Nat)) (.tup [.int (f : Nat), .int 0, .int 0]) } : PP).nodes ++ X)) h' := by
  have l4 : 4 ≤ lim := by decide
  have g43 := gf (g := 43) (v := .str 11) (o.get (i := 2) rfl) rfl
  have s1 := sf (g := 43) (x := .str 17) (o.get (i := 2) rfl) (show 4 < 1000 by decide)
  have o1 := o.set (i := 2) rfl (.ins 14 (mkF p.PO (.int (i : Nat)) 17 w))
  rw [show setF 43 (.str 17) (mkF p.PO (.int (i : Nat)) 11 w) = mkF p.PO (.int (i : Nat)) 17 w from rfl] at s1
  generalize h.set m (.ins 14 (mkF p.PO (.int (i : Nat)) 17 w)) = g1 at s1 o1
  have d1 := pd2 (T := [_, _, _]) o1
  have e1 := note_taken_ok d1
  have g41 := gf (g := 41) (v := .ref p.PO) (o1.get (i := 2) rfl) rfl
  have o2 : On ((S, b1) :: (L, b2) :: (m, .ins 14 (mkF p.PO (.int (i : Nat)) 17 w)) :: (({ p with oth := p.oth + 1 } : PP).nodes ++ X)) (g1.set p.M (mob p.TL p.sh (p.oth + 1))) := o1.set (i := 3) rfl _
  generalize g1.set p.M (mob p.TL p.sh (p.oth + 1)) = g2 at e1 o2
  have d2 := pd2 (p := { p with oth := p.oth + 1 }) (T := [_, _, _]) o2
  have i2 : isIns 13 (.ref p.PO) g2 = true := d2.iP
  have e2 : m_Pipes_note [.ref p.PO, .int (i : Nat), .int (f : Nat), .int 0, .int 0] g2 = .ok .non _ := note_ok d2 hl
  have g41' := gf (g := 41) (v := .ref p.PO) (o2.get (i := 2) rfl) rfl
  have g42' := gf (g := 42) (v := .int (i : Nat)) (o2.get (i := 2) rfl) rfl
  have o3 : On ((S, b1) :: (L, b2) :: (m, .ins 14 (mkF p.PO (.int (i : Nat)) 17 w)) :: (({ p with oth := p.oth + 1, rows := putV p.rows (.int (i : Nat)) (.tup [.int (f : Nat), .int 0, .int 0]) } : PP).nodes ++ X)) (g2.set p.RW (.dct (putV p.rows (.int (i : Nat)) (.tup [.int (f : Nat), .int 0, .int 0])))) := o2.set (i := 10) rfl _
  have e2' : m_Pipes_note [.ref p.PO, .int (i : Nat), .int (f : Nat), .int 0, .int 0] g2 = .ok .non (g2.set p.RW (.dct (putV p.rows (.int (i : Nat)) (.tup [.int (f : Nat), .int 0, .int 0])))) := e2
  generalize g2.set p.RW (.dct (putV p.rows (.int (i : Nat)) (.tup [.int (f : Nat), .int 0, .int 0]))) = g3 at e2' o3
  have g42'' := gf (g := 42) (v := .int (i : Nat)) (o3.get (i := 2) rfl) rfl
  have s4 := sf (g := 6) (x := .tup [.str 17, .int ((24 + i : Nat) : Int), .int (f : Nat), .str 0]) (o3.get (i := 2) rfl) (show 4 < 1000 by decide)
  refine ⟨_, eq_of_wR ?_, o3.set (i := 2) rfl _⟩
  unfold m_Make_accept
  refine wRB rfl ?_
  simp only [Int.natCast_add, Int.cast_ofNat_Int] at s4
  simp -implicitDefEqProofs [g43, s1, g41, d1.g40, d1.iM, e1, g41', i2, g42', e2', l4, g42'', s4, -wR_getF, -wR_oSetF]
  rfl
theorem make_acc2 (o : On ((S, b1) :: (L, b2) :: (m, .ins 14 (mkF p.PO v 17 w)) :: (p.nodes ++ X)) h) : ∃ h', m_Make_accept [.ref m, r] h = .ok .non h' ∧ On ((S, b1) :: (L, b2) :: (m, .ins 14 (mkF p.PO v 17 (.tup [.str 5, v]))) :: (p.nodes ++ X)) h' := by
  have l2 : 2 ≤ lim := by decide
  have g43 := gf (g := 43) (v := .str 17) (o.get (i := 2) rfl) rfl
  have g42 := gf (g := 42) (v := v) (o.get (i := 2) rfl) rfl
  have s1 := sf (g := 6) (x := .tup [.str 5, v]) (o.get (i := 2) rfl) (show 4 < 1000 by decide)
  refine ⟨_, eq_of_wR ?_, o.set (i := 2) rfl _⟩
  unfold m_Make_accept
  refine wRB rfl ?_
  simp -implicitDefEqProofs [g43, g42, l2, s1, -wR_getF, -wR_oSetF]
  rfl
end
end Lw

set_option Elab.async false
set_option linter.all false
set_option autoImplicit false
set_option maxHeartbeats 4000000
set_option maxRecDepth 100000
namespace Lw
open PyM
def puF (PO : Nat) (v w : Val) : List (Nat × Val) := [(41, .ref PO), (42, v), (6, w)]
def edF (PO : Nat) (v f : Val) (st : Nat) (w : Val) : List (Nat × Val) := [(41, .ref PO), (42, v), (44, f), (43, .str st), (6, w)]
section
variable {h h1 h2 : Heap} {p : PP} {X : Nodes} {m a c S L i f : Nat} {fs : List (Nat × Val)} {v x y r w : Val} {n hd sz : Int} {b1 b2 : Obj}
def puW (i : Nat) (hd sz : Int) (w : Val) : Val := if sz < 8 then .tup [.str 20, .int ((24 + i : Nat) : Int), .int ((hd + sz) % 8), w] else .tup [.str 5, .bl false]
theorem put_init (o : On (p.nodes ++ X) h) (hl : lookV p.rows (.int (i : Nat)) = some (.tup [x, .int hd, .int sz])) :
    ∃ h1, m_Put___init__ [.ref h.length, .ref p.PO, .int (i : Nat), w] (h ++ [.ins 15 []]) = .ok .non h1 ∧ On ((h.length, .ins 15 (puF p.PO (.int (i : Nat)) (puW i hd sz w))) :: (p.nodes ++ X)) h1 := by
  have wi : wR (m_Put___init__ [.ref h.length, .ref p.PO, .int (i : Nat), w] (h ++ [.ins 15 []])) (fun _ _ => False) fun v h1 => v = .non ∧ On ((h.length, .ins 15 (puF p.PO (.int (i : Nat)) (puW i hd sz w))) :: (p.nodes ++ X)) h1 := by
    have l4 : 4 ≤ lim := by decide
    have l2 : 2 ≤ lim := by decide
    have o0 := o.new (.ins 15 [])
    generalize hm : h.length = m at o0
    generalize h ++ [Obj.ins 15 []] = g0 at o0
    have s1 := sf (g := 41) (x := .ref p.PO) (o0.get (i := 0) rfl) (by decide)
    have o1 := o0.set (i := 0) rfl (.ins 15 [(41, .ref p.PO)])
    rw [show setF 41 (.ref p.PO) [] = [(41, .ref p.PO)] from rfl] at s1
    generalize g0.set m (.ins 15 [(41, .ref p.PO)]) = g1 at s1 o1
    have s2 := sf (g := 42) (x := .int (i : Nat)) (o1.get (i := 0) rfl) (show 1 < 1000 by decide)
    have o2 := o1.set (i := 0) rfl (.ins 15 [(41, .ref p.PO), (42, .int (i : Nat))])
    rw [show setF 42 (.int (i : Nat)) [(41, Val.ref p.PO)] = [(41, .ref p.PO), (42, .int (i : Nat))] from rfl] at s2
    generalize g1.set m (.ins 15 [(41, .ref p.PO), (42, .int (i : Nat))]) = g2 at s2 o2
    have d2 := pd2 (T := [_]) o2
    have e2 := psize_ok d2 hl
    have s3 := sf (g := 6) (x := .tup [.str 5, .bl false]) (o2.get (i := 0) rfl) (show 2 < 1000 by decide)
    have o3 := o2.set (i := 0) rfl (.ins 15 (puF p.PO (.int (i : Nat)) (.tup [.str 5, .bl false])))
    rw [show setF 6 (.tup [.str 5, .bl false]) [(41, Val.ref p.PO), (42, .int (i : Nat))] = puF p.PO (.int (i : Nat)) (.tup [.str 5, .bl false]) from rfl] at s3
    generalize g2.set m (.ins 15 (puF p.PO (.int (i : Nat)) (.tup [.str 5, .bl false]))) = g3 at s3 o3
    have d3 := pd2 (T := [_]) o3
    have e3 := phead_ok d3 hl
    have s4 := sf (g := 6) (x := .tup [.str 20, .int ((24 + i : Nat) : Int), .int ((hd + sz) % 8), w]) (o3.get (i := 0) rfl) (show 3 < 1000 by decide)
    have o4 := o3.set (i := 0) rfl (.ins 15 (puF p.PO (.int (i : Nat)) (.tup [.str 20, .int ((24 + i : Nat) : Int), .int ((hd + sz) % 8), w])))
    rw [show setF 6 (.tup [.str 20, .int ((24 + i : Nat) : Int), .int ((hd + sz) % 8), w]) (puF p.PO (.int (i : Nat)) (.tup [.str 5, .bl false])) = puF p.PO (.int (i : Nat)) (.tup [.str 20, .int ((24 + i : Nat) : Int), .int ((hd + sz) % 8), w]) from rfl] at s4
    unfold m_Put___init__ puW
    refine wRB rfl ?_
    simp only [Int.natCast_add, Int.cast_ofNat_Int] at s4 o4
    by_cases c : sz < 8
    · simp -implicitDefEqProofs [gV, s1, s2, d2.iP, e2, s3, l2, c, d3.iP, e3, l4, s4, -wR_getF, -wR_oSetF]
      exact o4
    · simp -implicitDefEqProofs [gV, s1, s2, d2.iP, e2, s3, l2, c, -wR_getF, -wR_oSetF]
      exact o3
  obtain ⟨v, h', e, rfl, q⟩ := ex_of_wR wi
  exact ⟨h', e, q⟩
theorem put_acc (o : On ((S, b1) :: (L, b2) :: (m, .ins 15 (puF p.PO (.int (i : Nat)) w)) :: (p.nodes ++ X)) h) (hl : p.rows.length < 1000) (hr : lookV p.rows (.int (i : Nat)) = some (.tup [.int (f : Nat), .int hd, .int sz])) :
    ∃ h', m_Put_accept [.ref m, r] h = .ok .non h' ∧ On ((S, b1) :: (L, b2) :: (m, .ins 15 (puF p.PO (.int (i : Nat)) (.tup [.str 5, .bl true]))) :: (({ p with rows := putV p.rows (.int (i : Nat)) (.tup [.int (f : Nat), .int hd, .int (sz + 1)]) } : PP).nodes ++ X)) h' := by
  have l2 : 2 ≤ lim := by decide
  have d1 := pd2 (T := [_, _, _]) o
  have g41 := gf (g := 41) (v := .ref p.PO) (o.get (i := 2) rfl) rfl
  have g42 := gf (g := 42) (v := .int (i : Nat)) (o.get (i := 2) rfl) rfl
  have e1 := pframe_ok d1 hr
  have e2 := phead_ok d1 hr
  have e3 := psize_ok d1 hr
  have e4 : m_Pipes_note [.ref p.PO, .int (i : Nat), .int (f : Nat), .int hd, .int (sz + 1)] h = .ok .non (h.set p.RW (.dct (putV p.rows (.int (i : Nat)) (.tup [.int (f : Nat), .int hd, .int (sz + 1)])))) := note_ok d1 hl
  have o3 : On ((S, b1) :: (L, b2) :: (m, .ins 15 (puF p.PO (.int (i : Nat)) w)) :: (({ p with rows := putV p.rows (.int (i : Nat)) (.tup [.int (f : Nat), .int hd, .int (sz + 1)]) } : PP).nodes ++ X)) (h.set p.RW (.dct (putV p.rows (.int (i : Nat)) (.tup [.int (f : Nat), .int hd, .int (sz + 1)])))) := o.set (i := 10) rfl _
  generalize h.set p.RW (.dct (putV p.rows (.int (i : Nat)) (.tup [.int (f : Nat), .int hd, .int (sz + 1)]))) = g3 at e4 o3
  have s4 := sf (g := 6) (x := .tup [.str 5, .bl true]) (o3.get (i := 2) rfl) (show 3 < 1000 by decide)
  refine ⟨_, eq_of_wR ?_, o3.set (i := 2) rfl _⟩
  unfold m_Put_accept
  refine wRB rfl ?_
  simp -implicitDefEqProofs [gV, g41, g42, d1.iP, e1, e2, e3, e4, l2, s4, -wR_getF, -wR_oSetF]
  rfl
def tkW (i : Nat) (hd sz : Int) : Val := if 0 < sz then .tup [.str 19, .int ((24 + i : Nat) : Int), .int hd] else .tup [.str 5, .non]
theorem take_init (o : On (p.nodes ++ X) h) (hl : lookV p.rows (.int (i : Nat)) = some (.tup [x, .int hd, .int sz])) :
    ∃ h1, m_Take___init__ [.ref h.length, .ref p.PO, .int (i : Nat)] (h ++ [.ins 16 []]) = .ok .non h1 ∧ On ((h.length, .ins 16 (puF p.PO (.int (i : Nat)) (tkW i hd sz))) :: (p.nodes ++ X)) h1 := by
  have wi : wR (m_Take___init__ [.ref h.length, .ref p.PO, .int (i : Nat)] (h ++ [.ins 16 []])) (fun _ _ => False) fun v h1 => v = .non ∧ On ((h.length, .ins 16 (puF p.PO (.int (i : Nat)) (tkW i hd sz))) :: (p.nodes ++ X)) h1 := by
    have l3 : 3 ≤ lim := by decide
    have l2 : 2 ≤ lim := by decide
    have o0 := o.new (.ins 16 [])
    generalize hm : h.length = m at o0
    generalize h ++ [Obj.ins 16 []] = g0 at o0
    have s1 := sf (g := 41) (x := .ref p.PO) (o0.get (i := 0) rfl) (by decide)
    have o1 := o0.set (i := 0) rfl (.ins 16 [(41, .ref p.PO)])
    rw [show setF 41 (.ref p.PO) [] = [(41, .ref p.PO)] from rfl] at s1
    generalize g0.set m (.ins 16 [(41, .ref p.PO)]) = g1 at s1 o1
    have s2 := sf (g := 42) (x := .int (i : Nat)) (o1.get (i := 0) rfl) (show 1 < 1000 by decide)
    have o2 := o1.set (i := 0) rfl (.ins 16 [(41, .ref p.PO), (42, .int (i : Nat))])
    rw [show setF 42 (.int (i : Nat)) [(41, Val.ref p.PO)] = [(41, .ref p.PO), (42, .int (i : Nat))] from rfl] at s2
    generalize g1.set m (.ins 16 [(41, .ref p.PO), (42, .int (i : Nat))]) = g2 at s2 o2
    have s3 := sf (g := 6) (x := .tup [.str 5, .non]) (o2.get (i := 0) rfl) (show 2 < 1000 by decide)
    have o3 := o2.set (i := 0) rfl (.ins 16 (puF p.PO (.int (i : Nat)) (.tup [.str 5, .non])))
    rw [show setF 6 (.tup [.str 5, .non]) [(41, Val.ref p.PO), (42, .int (i : Nat))] = puF p.PO (.int (i : Nat)) (.tup [.str 5, .non]) from rfl] at s3
    generalize g2.set m (.ins 16 (puF p.PO (.int (i : Nat)) (.tup [.str 5, .non]))) = g3 at s3 o3
    have d3 := pd2 (T := [_]) o3
    have e2 := psize_ok d3 hl
    have e3 := phead_ok d3 hl
    have s4 := sf (g := 6) (x := .tup [.str 19, .int ((24 + i : Nat) : Int), .int hd]) (o3.get (i := 0) rfl) (show 3 < 1000 by decide)
    have o4 := o3.set (i := 0) rfl (.ins 16 (puF p.PO (.int (i : Nat)) (.tup [.str 19, .int ((24 + i : Nat) : Int), .int hd])))
    rw [show setF 6 (.tup [.str 19, .int ((24 + i : Nat) : Int), .int hd]) (puF p.PO (.int (i : Nat)) (.tup [.str 5, .non])) = puF p.PO (.int (i : Nat)) (.tup [.str 19, .int ((24 + i : Nat) : Int), .int hd]) from rfl] at s4
    unfold m_Take___init__ tkW
    refine wRB rfl ?_
    simp only [Int.natCast_add, Int.cast_ofNat_Int] at s4 o4
    by_cases c : 0 < sz
    · simp -implicitDefEqProofs [gV, s1, s2, d3.iP, e2, s3, l2, c, e3, l3, s4, -wR_getF, -wR_oSetF]
      exact o4
    · simp -implicitDefEqProofs [gV, s1, s2, d3.iP, e2, s3, l2, c, -wR_getF, -wR_oSetF]
      exact o3
  obtain ⟨v, h', e, rfl, q⟩ := ex_of_wR wi
  exact ⟨h', e, q⟩
theorem take_acc (o : On ((S, b1) :: (L, b2) :: (m, .ins 16 (puF p.PO (.int (i : Nat)) w)) :: (p.nodes ++ X)) h) (hl : p.rows.length < 1000) (hr : lookV p.rows (.int (i : Nat)) = some (.tup [.int (f : Nat), .int hd, .int sz])) :
    ∃ h', m_Take_accept [.ref m, .tup [y, v]] h = .ok .non h' ∧ On ((S, b1) :: (L, b2) :: (m, .ins 16 (puF p.PO (.int (i : Nat)) (.tup [.str 5, v]))) :: (({ p with rows := putV p.rows (.int (i : Nat)) (.tup [.int (f : Nat), .int ((hd + 1) % 8), .int (sz - 1)]) } : PP).nodes ++ X)) h' := by
  have l2 : 2 ≤ lim := by decide
  have d1 := pd2 (T := [_, _, _]) o
  have g41 := gf (g := 41) (v := .ref p.PO) (o.get (i := 2) rfl) rfl
  have g42 := gf (g := 42) (v := .int (i : Nat)) (o.get (i := 2) rfl) rfl
  have e1 := pframe_ok d1 hr
  have e2 := phead_ok d1 hr
  have e3 := psize_ok d1 hr
  have e4 : m_Pipes_note [.ref p.PO, .int (i : Nat), .int (f : Nat), .int ((hd + 1) % 8), .int (sz - 1)] h = .ok .non (h.set p.RW (.dct (putV p.rows (.int (i : Nat)) (.tup [.int (f : Nat), .int ((hd + 1) % 8), .int (sz - 1)])))) := note_ok d1 hl
  have o3 : On ((S, b1) :: (L, b2) :: (m, .ins 16 (puF p.PO (.int (i : Nat)) w)) :: (({ p with rows := putV p.rows (.int (i : Nat)) (.tup [.int (f : Nat), .int ((hd + 1) % 8), .int (sz - 1)]) } : PP).nodes ++ X)) (h.set p.RW (.dct (putV p.rows (.int (i : Nat)) (.tup [.int (f : Nat), .int ((hd + 1) % 8), .int (sz - 1)])))) := o.set (i := 10) rfl _
  generalize h.set p.RW (.dct (putV p.rows (.int (i : Nat)) (.tup [.int (f : Nat), .int ((hd + 1) % 8), .int (sz - 1)]))) = g3 at e4 o3
  have s4 := sf (g := 6) (x := .tup [.str 5, v]) (o3.get (i := 2) rfl) (show 3 < 1000 by decide)
  refine ⟨_, eq_of_wR ?_, o3.set (i := 2) rfl _⟩
  unfold m_Take_accept
  refine wRB rfl ?_
  simp -implicitDefEqProofs [gV, g41, g42, d1.iP, e1, e2, e3, e4, l2, s4, -wR_getF, -wR_oSetF]
  rfl
theorem end_init (o : On (p.nodes ++ X) h) (hl : lookV p.rows (.int (i : Nat)) = some (.tup [.int (f : Nat), x, y])) :
    ∃ h1, m_End___init__ [.ref h.length, .ref p.PO, .int (i : Nat)] (h ++ [.ins 17 []]) = .ok .non h1 ∧ On ((h.length, .ins 17 (edF p.PO (.int (i : Nat)) (.int (f : Nat)) 18 (.tup [.str 18, .int ((24 + i : Nat) : Int)]))) :: (p.nodes ++ X)) h1 := by
  have wi : wR (m_End___init__ [.ref h.length, .ref p.PO, .int (i : Nat)] (h ++ [.ins 17 []])) (fun _ _ => False) fun v h1 => v = .non ∧ On ((h.length, .ins 17 (edF p.PO (.int (i : Nat)) (.int (f : Nat)) 18 (.tup [.str 18, .int ((24 + i : Nat) : Int)]))) :: (p.nodes ++ X)) h1 := by
    have l2 : 2 ≤ lim := by decide
    have o0 := o.new (.ins 17 [])
    generalize hm : h.length = m at o0
    generalize h ++ [Obj.ins 17 []] = g0 at o0
    have s1 := sf (g := 41) (x := .ref p.PO) (o0.get (i := 0) rfl) (by decide)
    have o1 := o0.set (i := 0) rfl (.ins 17 [(41, .ref p.PO)])
    rw [show setF 41 (.ref p.PO) [] = [(41, .ref p.PO)] from rfl] at s1
    generalize g0.set m (.ins 17 [(41, .ref p.PO)]) = g1 at s1 o1
    have s2 := sf (g := 42) (x := .int (i : Nat)) (o1.get (i := 0) rfl) (show 1 < 1000 by decide)
    have o2 := o1.set (i := 0) rfl (.ins 17 [(41, .ref p.PO), (42, .int (i : Nat))])
    rw [show setF 42 (.int (i : Nat)) [(41, Val.ref p.PO)] = [(41, .ref p.PO), (42, .int (i : Nat))] from rfl] at s2
    generalize g1.set m (.ins 17 [(41, .ref p.PO), (42, .int (i : Nat))]) = g2 at s2 o2
    have d2 := pd2 (T := [_]) o2
    have e2 := pframe_ok d2 hl
    have s3 := sf (g := 44) (x := .int (f : Nat)) (o2.get (i := 0) rfl) (show 2 < 1000 by decide)
    have o3 := o2.set (i := 0) rfl (.ins 17 [(41, .ref p.PO), (42, .int (i : Nat)), (44, .int (f : Nat))])
    rw [show setF 44 (.int (f : Nat)) [(41, Val.ref p.PO), (42, .int (i : Nat))] = [(41, .ref p.PO), (42, .int (i : Nat)), (44, .int (f : Nat))] from rfl] at s3
    generalize g2.set m (.ins 17 [(41, .ref p.PO), (42, .int (i : Nat)), (44, .int (f : Nat))]) = g3 at s3 o3
    have s4 := sf (g := 43) (x := .str 18) (o3.get (i := 0) rfl) (show 3 < 1000 by decide)
    have o4 := o3.set (i := 0) rfl (.ins 17 [(41, .ref p.PO), (42, .int (i : Nat)), (44, .int (f : Nat)), (43, .str 18)])
    rw [show setF 43 (.str 18) [(41, Val.ref p.PO), (42, .int (i : Nat)), (44, .int (f : Nat))] = [(41, .ref p.PO), (42, .int (i : Nat)), (44, .int (f : Nat)), (43, .str 18)] from rfl] at s4
    generalize g3.set m (.ins 17 [(41, .ref p.PO), (42, .int (i : Nat)), (44, .int (f : Nat)), (43, .str 18)]) = g4 at s4 o4
    have s5 := sf (g := 6) (x := .tup [.str 18, .int ((24 + i : Nat) : Int)]) (o4.get (i := 0) rfl) (show 4 < 1000 by decide)
    have o5 := o4.set (i := 0) rfl (.ins 17 (edF p.PO (.int (i : Nat)) (.int (f : Nat)) 18 (.tup [.str 18, .int ((24 + i : Nat) : Int)])))
    rw [show setF 6 (.tup [.str 18, .int ((24 + i : Nat) : Int)]) [(41, Val.ref p.PO), (42, .int (i : Nat)), (44, .int (f : Nat)), (43, .str 18)] = edF p.PO (.int (i : Nat)) (.int (f : Nat)) 18 (.tup [.str 18, .int ((24 + i : Nat) : Int)]) from rfl] at s5
    unfold m_End___init__
    refine wRB rfl ?_
    simp only [Int.natCast_add, Int.cast_ofNat_Int] at s5 o5 ⊢
    simp -implicitDefEqProofs [gV, s1, s2, d2.iP, e2, s3, s4, l2, s5, -wR_getF, -wR_oSetF]
    exact o5
  obtain ⟨v, h', e, rfl, q⟩ := ex_of_wR wi
  exact ⟨h', e, q⟩
theorem end_acc1 (o : On ((S, b1) :: (L, b2) :: (m, .ins 17 (edF p.PO (.int (i : Nat)) (.int (f : Nat)) 18 w)) :: (p.nodes ++ X)) h) :
    ∃ h', m_End_accept [.ref m, r] h = .ok .non h' ∧ On ((S, b1) :: (L, b2) :: (m, .ins 17 (edF p.PO (.int (i : Nat)) (.int (f : Nat)) 14 (.tup [.str 14, .int (f : Nat)]))) :: (p.nodes ++ X)) h' := by
  have l2 : 2 ≤ lim := by decide
  have g43 := gf (g := 43) (v := .str 18) (o.get (i := 2) rfl) rfl
  have s1 := sf (g := 43) (x := .str 14) (o.get (i := 2) rfl) (show 5 < 1000 by decide)
  have o1 := o.set (i := 2) rfl (.ins 17 (edF p.PO (.int (i : Nat)) (.int (f : Nat)) 14 w))
  rw [show setF 43 (.str 14) (edF p.PO (.int (i : Nat)) (.int (f : Nat)) 18 w) = edF p.PO (.int (i : Nat)) (.int (f : Nat)) 14 w from rfl] at s1
  generalize h.set m (.ins 17 (edF p.PO (.int (i : Nat)) (.int (f : Nat)) 14 w)) = g1 at s1 o1
  have g44 := gf (g := 44) (v := .int (f : Nat)) (o1.get (i := 2) rfl) rfl
  have s4 := sf (g := 6) (x := .tup [.str 14, .int (f : Nat)]) (o1.get (i := 2) rfl) (show 5 < 1000 by decide)
  refine ⟨_, eq_of_wR ?_, o1.set (i := 2) rfl _⟩
  unfold m_End_accept
  refine wRB rfl ?_
  simp -implicitDefEqProofs [g43, s1, g44, l2, s4, -wR_getF, -wR_oSetF]
  rfl
theorem end_acc2 (o : On ((S, b1) :: (L, b2) :: (m, .ins 17 (edF p.PO (.int (i : Nat)) (.int (f : Nat)) 14 w)) :: (p.nodes ++ X)) h) (hr : lookV p.rows (.int (i : Nat)) = some v) :
    ∃ h', m_End_accept [.ref m, r] h = .ok .non h' ∧ On ((S, b1) :: (L, b2) :: (m, .ins 17 (edF p.PO (.int (i : Nat)) (.int (f : Nat)) 14 (.tup [.str 5, .non]))) :: (({ p with oth := p.oth - 1, rows := dropV p.rows (.int (i : Nat)) } : PP).nodes ++ X)) h' := by
  have l2 : 2 ≤ lim := by decide
  have g43 := gf (g := 43) (v := .str 14) (o.get (i := 2) rfl) rfl
  have g41 := gf (g := 41) (v := .ref p.PO) (o.get (i := 2) rfl) rfl
  have d1 := pd2 (T := [_, _, _]) o
  have e1 := note_dropped_ok d1
  have o2 : On ((S, b1) :: (L, b2) :: (m, .ins 17 (edF p.PO (.int (i : Nat)) (.int (f : Nat)) 14 w)) :: (({ p with oth := p.oth - 1 } : PP).nodes ++ X)) (h.set p.M (mob p.TL p.sh (p.oth - 1))) := o.set (i := 3) rfl _
  generalize h.set p.M (mob p.TL p.sh (p.oth - 1)) = g2 at e1 o2
  have d2 := pd2 (p := { p with oth := p.oth - 1 }) (T := [_, _, _]) o2
  have i2 : isIns 13 (.ref p.PO) g2 = true := d2.iP
  have e2 : m_Pipes_forget [.ref p.PO, .int (i : Nat)] g2 = .ok .non (g2.set p.RW (.dct (dropV p.rows (.int (i : Nat))))) := forget_ok d2 hr
  have g41' := gf (g := 41) (v := .ref p.PO) (o2.get (i := 2) rfl) rfl
  have g42' := gf (g := 42) (v := .int (i : Nat)) (o2.get (i := 2) rfl) rfl
  have o3 : On ((S, b1) :: (L, b2) :: (m, .ins 17 (edF p.PO (.int (i : Nat)) (.int (f : Nat)) 14 w)) :: (({ p with oth := p.oth - 1, rows := dropV p.rows (.int (i : Nat)) } : PP).nodes ++ X)) (g2.set p.RW (.dct (dropV p.rows (.int (i : Nat))))) := o2.set (i := 10) rfl _
  generalize g2.set p.RW (.dct (dropV p.rows (.int (i : Nat)))) = g3 at e2 o3
  have s4 := sf (g := 6) (x := .tup [.str 5, .non]) (o3.get (i := 2) rfl) (show 5 < 1000 by decide)
  refine ⟨_, eq_of_wR ?_, o3.set (i := 2) rfl _⟩
  unfold m_End_accept
  refine wRB rfl ?_
  simp -implicitDefEqProofs [g43, g41, d1.g40, d1.iM, e1, g41', i2, g42', e2, l2, s4, -wR_getF, -wR_oSetF]
  rfl
end
end Lw

set_option Elab.async false
set_option linter.all false
set_option autoImplicit false
set_option maxHeartbeats 4000000
set_option maxRecDepth 100000
namespace Lw
open PyM
section
variable {k : KH} {R N A B C D : Nodes} {h h1 h2 : Heap} {p : PP} {fs : List Nat} {en : Nat → Option (Nat × Nat)} {wd : Nat → List Int} {sh n m c S L i f : Nat} {gs : List (Nat × Val)} {v x y r w : Val} {hd sz : Int} {b1 b2 b3 : Obj}
theorem toK (o : On (A ++ (B ++ (C ++ D))) h) : On (C ++ (A ++ (B ++ D))) h := o.perm (by
  rw [← List.append_assoc A B (C ++ D), ← List.append_assoc A B D]
  exact List.perm_append_comm_assoc _ _ _)
theorem ofK (o : On (C ++ (A ++ (B ++ D))) h) : On (A ++ (B ++ (C ++ D))) h := o.perm (by
  rw [← List.append_assoc A B (C ++ D), ← List.append_assoc A B D]
  exact List.perm_append_comm_assoc _ _ _)
theorem h0_on (o : On ((m, b3) :: N) h) : On ((h.length, sob (h.length + 1) .non) :: (h.length + 1, .lst [.ref m]) :: (m, b3) :: N) (h0 h m) := by
  have z := (o.new (sob (h.length + 1) .non)).new (.lst [.ref m])
  rw [List.append_assoc] at z
  have hl : (h ++ [sob (h.length + 1) Val.non]).length = h.length + 1 := by simp
  rw [hl] at z
  exact z.perm (List.Perm.swap _ _ _)
theorem fin_on (o : On ((S, b1) :: (L, b2) :: (m, b3) :: N) h) : On N (fin h S L v) := by
  have z := (o.set (i := 1) rfl (.lst [])).set (i := 0) rfl (sob L v)
  exact z.drop1.drop1.drop1
theorem sk_on (o : On ((S, sob L v) :: (L, .lst [.ref m]) :: (m, .ins c gs) :: N) h) (hc : 14 ≤ c ∧ c ≤ 17) : Sk h S L m c gs v := ⟨o.get (i := 0) rfl, o.get (i := 1) rfl, o.get (i := 2) rfl, hc⟩
theorem isK2 (o : On (A ++ (B ++ (k.nodes ++ R))) h) : isIns 9 (.ref k.K) h = true := isK (toK o)
/-- making -/
theorem make_no (o : On (p.nodes ++ N) h) (hw : mkW p = .tup [.str 5, .non]) :
    ∃ h1 h2, m_Make___init__ [.ref h.length, .ref p.PO] (h ++ [.ins 14 []]) = .ok .non h1 ∧ m__law_run [y, .ref h.length] h1 = .ok .non h2 ∧ On (p.nodes ++ N) h2 := by
  obtain ⟨h1, e1, o1⟩ := make_init o
  rw [hw] at o1
  have e2 := run0 (o1.get (i := 0) rfl) ⟨by omega, by omega⟩ (v := .non) rfl (y := y)
  exact ⟨h1, _, e1, e2, fin_on (h0_on o1)⟩
theorem make_yes (J : K1 k fs en wd sh n) (hn : n + 1 < 1000) (o : On (p.nodes ++ (k.nodes ++ R)) h) (hi : i < 4) (hv : lv p.rows = .int (i : Nat)) (hw : mkW p = .tup [.str 11]) (hl : p.rows.length < 1000) (hs : fs.length < sh) :
    ∃ h1 h2 f k', m_Make___init__ [.ref h.length, .ref p.PO] (h ++ [.ins 14 []]) = .ok .non h1 ∧ m__law_run [.ref k.K, .ref h.length] h1 = .ok (.int (i : Nat)) h2 ∧
      f ∉ fs ∧ k'.K = k.K ∧ k'.s.many = k.s.many ∧ K1 k' (fs ++ [f]) (fu en (24 + i) (some (f, 0))) (fu wd f (List.replicate 8 0)) sh (n + 1) ∧
      On (({ p with oth := p.oth + 1, rows := putV p.rows (.int (i : Nat)) (.tup [.int (f : Nat), .int 0, .int 0]) } : PP).nodes ++ (k'.nodes ++ R)) h2 := by
  obtain ⟨h1, e1, o1⟩ := make_init o
  rw [hw, hv] at o1
  have em := o1.get (i := 0) rfl
  have o2 := h0_on o1
  have i9 := isK2 (A := [_, _, _]) (B := p.nodes) o2
  obtain ⟨f, k1, h3, er, ⟨hf, hK, hm1, J1⟩, o3⟩ := kq_take J (toK (A := [_, _, _]) (B := p.nodes) o2) hs
  obtain ⟨h4, ea, o4⟩ := make_acc1 (f := f) (ofK (A := [_, _, _]) (B := p.nodes) o3) hl
  have k2 := sk_on o4 ⟨by omega, by omega⟩
  have i92 := isK2 (A := [_, _, _]) (B := PP.nodes _) o4
  obtain ⟨k3, h5, er2, ⟨hK2, hs2, J2⟩, o5⟩ := kq_map (q := 24 + i) (f := f) (r := 0) J1 (toK (A := [_, _, _]) (B := PP.nodes _) o4) (by omega) (by simp) (by omega) hn
  obtain ⟨h6, ea2, o6⟩ := make_acc2 (p := { p with oth := p.oth + 1, rows := putV p.rows (.int (i : Nat)) (.tup [.int (f : Nat), .int 0, .int 0]) }) (r := .tup [.str 9, .non]) (ofK (A := [_, _, _]) (B := PP.nodes _) o5)
  have k6 := sk_on o6 ⟨by omega, by omega⟩
  rw [hK] at i92 er2
  have e2 := run2 em ⟨by omega, by omega⟩ rfl (by decide) (by decide) i9 er ea k2 rfl (by decide) (by decide) i92 er2 ea2 k6 rfl
  exact ⟨h1, _, f, k3, e1, e2, hf, hK2.trans hK, by rw [hs2]; exact hm1, J2, fin_on o6⟩
/-- putting -/
theorem put_no (o : On (p.nodes ++ N) h) (hl : lookV p.rows (.int (i : Nat)) = some (.tup [x, .int hd, .int sz])) (hs : ¬ sz < 8) :
    ∃ h1 h2, m_Put___init__ [.ref h.length, .ref p.PO, .int (i : Nat), w] (h ++ [.ins 15 []]) = .ok .non h1 ∧ m__law_run [y, .ref h.length] h1 = .ok (.bl false) h2 ∧ On (p.nodes ++ N) h2 := by
  obtain ⟨h1, e1, o1⟩ := put_init (w := w) o hl
  rw [show puW i hd sz w = .tup [.str 5, .bl false] by unfold puW; rw [if_neg hs]] at o1
  have e2 := run0 (o1.get (i := 0) rfl) ⟨by omega, by omega⟩ (v := .bl false) rfl (y := y)
  exact ⟨h1, _, e1, e2, fin_on (h0_on o1)⟩
theorem put_yes (J : K1 k fs en wd sh n) (o : On (p.nodes ++ (k.nodes ++ R)) h) (hi : i < 4) {hd sz : Nat} (hr : lookV p.rows (.int (i : Nat)) = some (.tup [.int (f : Nat), .int (hd : Nat), .int (sz : Nat)])) (hs : sz < 8) (hl : p.rows.length < 1000) (he : en (24 + i) = some (f, 0)) {w : Int} (w0 : 0 ≤ w) (w1 : w ≤ 4294967295) :
    ∃ h1 h2 k', m_Put___init__ [.ref h.length, .ref p.PO, .int (i : Nat), .int w] (h ++ [.ins 15 []]) = .ok .non h1 ∧ m__law_run [.ref k.K, .ref h.length] h1 = .ok (.bl true) h2 ∧
      k'.K = k.K ∧ k'.s.many = k.s.many ∧ K1 k' fs en (fu wd f ((wd f).set ((hd + sz) % 8) w)) sh n ∧
      On (({ p with rows := putV p.rows (.int (i : Nat)) (.tup [.int (f : Nat), .int (hd : Nat), .int ((sz + 1 : Nat) : Int)]) } : PP).nodes ++ (k'.nodes ++ R)) h2 := by
  obtain ⟨h1, e1, o1⟩ := put_init (w := .int w) o hr
  rw [show puW i (hd : Int) (sz : Int) (.int w) = .tup [.str 20, .int ((24 + i : Nat) : Int), .int (((hd + sz) % 8 : Nat) : Int), .int w] by unfold puW; rw [if_pos (by omega)]; simp] at o1
  have em := o1.get (i := 0) rfl
  have o2 := h0_on o1
  have i9 := isK2 (A := [_, _, _]) (B := p.nodes) o2
  obtain ⟨k1, h3, er, ⟨hK, hp1, hm1, J1⟩, o3⟩ := kq_store J (toK (A := [_, _, _]) (B := p.nodes) o2) (q := 24 + i) (by omega) he (i := (hd + sz) % 8) (by omega) w0 w1
  obtain ⟨h4, ea, o4⟩ := put_acc (r := .tup [.str 9, .non]) (ofK (A := [_, _, _]) (B := p.nodes) o3) hl hr
  have k2 := sk_on o4 ⟨by omega, by omega⟩
  have e2 := run1 em ⟨by omega, by omega⟩ rfl (by decide) (by decide) i9 er ea k2 rfl
  exact ⟨h1, _, k1, e1, e2, hK, hm1, J1, fin_on o4⟩
/-- taking -/
theorem take_no (o : On (p.nodes ++ N) h) (hl : lookV p.rows (.int (i : Nat)) = some (.tup [x, .int hd, .int sz])) (hs : ¬ 0 < sz) :
    ∃ h1 h2, m_Take___init__ [.ref h.length, .ref p.PO, .int (i : Nat)] (h ++ [.ins 16 []]) = .ok .non h1 ∧ m__law_run [y, .ref h.length] h1 = .ok .non h2 ∧ On (p.nodes ++ N) h2 := by
  obtain ⟨h1, e1, o1⟩ := take_init o hl
  rw [show tkW i hd sz = .tup [.str 5, .non] by unfold tkW; rw [if_neg hs]] at o1
  have e2 := run0 (o1.get (i := 0) rfl) ⟨by omega, by omega⟩ (v := .non) rfl (y := y)
  exact ⟨h1, _, e1, e2, fin_on (h0_on o1)⟩
theorem take_yes (J : K1 k fs en wd sh n) (o : On (p.nodes ++ (k.nodes ++ R)) h) (hi : i < 4) {hd sz : Nat} (hr : lookV p.rows (.int (i : Nat)) = some (.tup [.int (f : Nat), .int (hd : Nat), .int ((sz + 1 : Nat) : Int)])) (hh : hd < 8) (hl : p.rows.length < 1000) (he : en (24 + i) = some (f, 0)) :
    ∃ h1 h2, m_Take___init__ [.ref h.length, .ref p.PO, .int (i : Nat)] (h ++ [.ins 16 []]) = .ok .non h1 ∧ m__law_run [.ref k.K, .ref h.length] h1 = .ok (.int ((wd f).getD hd 0)) h2 ∧
      On (({ p with rows := putV p.rows (.int (i : Nat)) (.tup [.int (f : Nat), .int (((hd + 1) % 8 : Nat) : Int), .int (sz : Nat)]) } : PP).nodes ++ (k.nodes ++ R)) h2 := by
  obtain ⟨h1, e1, o1⟩ := take_init o hr
  rw [show tkW i (hd : Int) ((sz + 1 : Nat) : Int) = .tup [.str 19, .int ((24 + i : Nat) : Int), .int (hd : Nat)] by unfold tkW; rw [if_pos (by omega)]] at o1
  have em := o1.get (i := 0) rfl
  have o2 := h0_on o1
  have i9 := isK2 (A := [_, _, _]) (B := p.nodes) o2
  have er := kq_load J (toK (A := [_, _, _]) (B := p.nodes) o2) (q := 24 + i) (by omega) he (i := hd) hh
  obtain ⟨h4, ea, o4⟩ := take_acc (y := .str 9) (v := .int ((wd f).getD hd 0)) o2 hl hr
  have k2 := sk_on o4 ⟨by omega, by omega⟩
  have e2 := run1 em ⟨by omega, by omega⟩ rfl (by decide) (by decide) i9 er ea k2 rfl
  have o5 := fin_on (v := .int ((wd f).getD hd 0)) o4
  have q1 : ((hd : Int) + 1) % 8 = (((hd + 1) % 8 : Nat) : Int) := by simp
  have q2 : ((sz + 1 : Nat) : Int) - 1 = (sz : Nat) := by omega
  rw [q1, q2] at o5
  exact ⟨h1, _, e1, e2, o5⟩
/-- ending -/
theorem end_yes (J : K1 k fs en wd sh n) (o : On (p.nodes ++ (k.nodes ++ R)) h) (hi : i < 4) (hr : lookV p.rows (.int (i : Nat)) = some (.tup [.int (f : Nat), x, y])) (he : en (24 + i) = some (f, 0)) (hf : f ∈ fs) :
    ∃ h1 h2 k', m_End___init__ [.ref h.length, .ref p.PO, .int (i : Nat)] (h ++ [.ins 17 []]) = .ok .non h1 ∧ m__law_run [.ref k.K, .ref h.length] h1 = .ok .non h2 ∧
      k'.K = k.K ∧ k'.s.many = k.s.many ∧ K1 k' (fs.erase f) (enF (fu en (24 + i) none) f) wd sh n ∧
      On (({ p with oth := p.oth - 1, rows := dropV p.rows (.int (i : Nat)) } : PP).nodes ++ (k'.nodes ++ R)) h2 := by
  obtain ⟨h1, e1, o1⟩ := end_init o hr
  have em := o1.get (i := 0) rfl
  have o2 := h0_on o1
  have i9 := isK2 (A := [_, _, _]) (B := p.nodes) o2
  obtain ⟨k1, h3, er, ⟨hK, hs1, J1⟩, o3⟩ := kq_unmap J (toK (A := [_, _, _]) (B := p.nodes) o2) (q := 24 + i) (by omega) he
  obtain ⟨h4, ea, o4⟩ := end_acc1 (r := .tup [.str 9, .non]) (ofK (A := [_, _, _]) (B := p.nodes) o3)
  have k2 := sk_on o4 ⟨by omega, by omega⟩
  have i92 := isK2 (A := [_, _, _]) (B := PP.nodes _) o4
  obtain ⟨k3, h5, er2, ⟨hK2, hm2, J2⟩, o5⟩ := kq_drop J1 (toK (A := [_, _, _]) (B := PP.nodes _) o4) hf
  obtain ⟨h6, ea2, o6⟩ := end_acc2 (r := .tup [.str 9, .non]) (ofK (A := [_, _, _]) (B := PP.nodes _) o5) hr
  have k6 := sk_on o6 ⟨by omega, by omega⟩
  rw [hK] at i92 er2
  have e2 := run2 em ⟨by omega, by omega⟩ rfl (by decide) (by decide) i9 er ea k2 rfl (by decide) (by decide) i92 er2 ea2 k6 rfl
  exact ⟨h1, _, k3, e1, e2, hK2.trans hK, by rw [hm2, hs1], J2, fin_on o6⟩
end
end Lw

set_option Elab.async false
set_option linter.all false
set_option autoImplicit false
set_option maxHeartbeats 4000000
set_option maxRecDepth 100000
namespace Lw
open PyM
section
variable {R : Nodes} {h h1 : Heap} {a : Nat}
def own0 : List Val := repV 8 [.int 0]
theorem own0_mem {x : Val} (hx : x ∈ own0) : x = .int 0 := by
  have : own0 = List.replicate 8 (.int 0) := rfl
  rw [this] at hx
  exact (List.mem_replicate.mp hx).2
theorem slices_init (o : On ((a, .lst own0) :: R) h) : ∃ h', m_Slices___init__ [.ref h.length, .ref a] (h ++ [.ins 4 []]) = .ok .non h' ∧ On ((a, .lst own0) :: R) h' := by
  have wi : wR (m_Slices___init__ [.ref h.length, .ref a] (h ++ [.ins 4 []])) (fun _ _ => False) fun v h' => v = .non ∧ On ((a, .lst own0) :: R) h' := by
    have ll := lim8
    have o0 := o.new (.ins 4 [])
    generalize hm : h.length = m at o0
    generalize h ++ [Obj.ins 4 []] = g0 at o0
    have ea := o0.get (i := 1) rfl
    have eis : isTy .lst (tyOf (.ref a) g0) = some true := by simp [tyOf, ea, isTy]
    have l8 : own0.length = 8 := rfl
    unfold m_Slices___init__
    refine wRB rfl ?_
    simp -implicitDefEqProofs [truth, eis, ea, l8, -wR_bAll, -wR_oSetF, -wR_getF, -wR_oIxL]
    refine wR_lcMap (fun _ => .bl true) (by rw [l8]; omega) (fun acc => lstIs_at (at_push ea)) (fun x acc hx => ?_) ?_
    · rw [own0_mem hx]
      refine ⟨_, rfl, ?_⟩
      have e1 := isenv_ok (h := g0 ++ [Obj.lst acc]) (i := 0)
      simp -implicitDefEqProofs [wipeE, e1]
    have o1 := o0.ext (h' := g0 ++ [Obj.lst (own0.map fun _ => .bl true)]) ⟨_, rfl⟩
    have eq1 : (g0 ++ [Obj.lst (own0.map fun _ => Val.bl true)])[g0.length]? = some (.lst (own0.map fun _ => .bl true)) := at_len
    generalize g0 ++ [Obj.lst (own0.map fun _ => .bl true)] = g1 at o1 eq1
    refine wR_eq (bAll_map (b := fun _ => true) eq1) ?_
    have ea1 := o1.get (i := 1) rfl
    have o2' := o1.new (.lst own0)
    have o2 : On ((m, .ins 4 []) :: (g1.length, .lst own0) :: (a, .lst own0) :: R) (g1 ++ [Obj.lst own0]) := o2'.perm (List.Perm.swap _ _ _)
    have hg : g1.length = g1.length := rfl
    generalize hl1 : g1.length = b at o2
    generalize hg2 : g1 ++ [Obj.lst own0] = g2 at o2
    have s1 := sf (g := 12) (x := .ref b) (o2.get (i := 0) rfl) (by decide)
    have o3 := o2.set (i := 0) rfl (.ins 4 [(12, .ref b)])
    rw [show setF 12 (.ref b) [] = [(12, .ref b)] from rfl] at s1
    generalize g2.set m (.ins 4 [(12, .ref b)]) = g3 at s1 o3
    have s2 := sf (g := 13) (x := .int 0) (o3.get (i := 0) rfl) (show 1 < 1000 by decide)
    have o4 := o3.set (i := 0) rfl (.ins 4 [(12, .ref b), (13, .int 0)])
    rw [show setF 13 (.int 0) [(12, Val.ref b)] = [(12, .ref b), (13, .int 0)] from rfl] at s2
    generalize g3.set m (.ins 4 [(12, .ref b), (13, .int 0)]) = g4 at s2 o4
    have s3 := sf (g := 14) (x := .int 0) (o4.get (i := 0) rfl) (show 2 < 1000 by decide)
    have o5 := o4.set (i := 0) rfl (.ins 4 [(12, .ref b), (13, .int 0), (14, .int 0)])
    rw [show setF 14 (.int 0) [(12, Val.ref b), (13, .int 0)] = [(12, .ref b), (13, .int 0), (14, .int 0)] from rfl] at s3
    generalize g4.set m (.ins 4 [(12, .ref b), (13, .int 0), (14, .int 0)]) = g5 at s3 o5
    have s4 := sf (g := 15) (x := .int 0) (o5.get (i := 0) rfl) (show 3 < 1000 by decide)
    have o6 := o5.set (i := 0) rfl (.ins 4 [(12, .ref b), (13, .int 0), (14, .int 0), (15, .int 0)])
    rw [show setF 15 (.int 0) [(12, Val.ref b), (13, .int 0), (14, .int 0)] = [(12, .ref b), (13, .int 0), (14, .int 0), (15, .int 0)] from rfl] at s4
    generalize g5.set m (.ins 4 [(12, .ref b), (13, .int 0), (14, .int 0), (15, .int 0)]) = g6 at s4 o6
    have ea6 := o6.get (i := 2) rfl
    have s5 := sf (g := 16) (x := .int 0) (o6.get (i := 0) rfl) (show 4 < 1000 by decide)
    have o7 := o6.set (i := 0) rfl (.ins 4 [(12, .ref b), (13, .int 0), (14, .int 0), (15, .int 0), (16, .int 0)])
    rw [show setF 16 (.int 0) [(12, Val.ref b), (13, .int 0), (14, .int 0), (15, .int 0)] = [(12, .ref b), (13, .int 0), (14, .int 0), (15, .int 0), (16, .int 0)] from rfl] at s5
    generalize g6.set m (.ins 4 [(12, .ref b), (13, .int 0), (14, .int 0), (15, .int 0), (16, .int 0)]) = g7 at s5 o7
    have em7 := o7.get (i := 0) rfl
    have eb7 := o7.get (i := 1) rfl
    have i7 : isIns 4 (.ref m) g7 = true := by simp [isIns, em7]
    have s6 := sf (g := 16) (x := .int 0) em7 (show 5 < 1000 by decide)
    have g12 := gf (g := 12) em7 rfl
    have g14 := gf (g := 14) em7 rfl
    have ix : own0[0]? = some (.int 0) := rfl
    have e8 : ∃ h', m_Slices__find [.ref m] g7 = .ok .non h' ∧ On ((a, .lst own0) :: R) h' := by
      refine ⟨_, eq_of_wR ?_, (o7.set (i := 0) rfl (.ins 4 (setF 16 (.int 0) [(12, .ref b), (13, .int 0), (14, .int 0), (15, .int 0), (16, .int 0)]))).drop1.drop1⟩
      unfold m_Slices__find
      refine wRB rfl ?_
      rw [wS_sSeq, wS_sFor]
      simp -implicitDefEqProofs
      rw [show (8 : Nat) = 7 + 1 from rfl, rangeV_s, wS_forM_cons]
      simp -implicitDefEqProofs [gV, g12, g14, eb7, ix, s6, -wR_getF, -wR_oSetF]
    obtain ⟨h', e8, o8⟩ := e8
    simp -implicitDefEqProofs [truth, ea1, hl1, hg2, s1, s2, s3, s4, ea6, ix, s5, i7, e8, -wR_oSetF]
    exact o8
  obtain ⟨v, h', e, rfl, q⟩ := ex_of_wR wi
  exact ⟨h', e, q⟩
def zz : Val := .tup (repV 8 [.int 0])
def dob (m : Nat) : Obj := .ins 5 [(17, .int 24), (18, .ref (m + 2)), (19, .ref (m + 3))]
theorem disk_init : m_Disk___init__ [.ref h.length, .int 24] (h ++ [.ins 5 []]) = .ok .non (h ++ [dob h.length, .lst [zz], .lst (repV 24 [zz]), .lst []]) := by
  have l1 : 1 ≤ lim := by decide
  have l24 : 24 ≤ lim := by decide
  have en : ∀ (i : Int) (h : Heap), m_is_number [.int i] h = .ok (.bl true) h := fun _ _ => rfl
  refine eq_of_wR ?_
  unfold m_Disk___init__
  refine wRB rfl ?_
  simp -implicitDefEqProofs [l1, l24, en, truth, dob, setF, zz]
def tob (m : Nat) : Obj := .ins 6 [(17, .int 24), (20, .ref (m + 1)), (21, .ref (m + 2))]
theorem types_init : m_Types___init__ [.ref h.length, .int 24] (h ++ [.ins 6 []]) = .ok .non (h ++ [tob h.length, .lst [], .lst []]) := by
  refine eq_of_wR ?_
  unfold m_Types___init__
  refine wRB rfl ?_
  simp -implicitDefEqProofs [tob, setF]
end
end Lw

set_option Elab.async false
set_option linter.all false
set_option autoImplicit false
set_option maxHeartbeats 4000000
set_option maxRecDepth 100000
namespace Lw
open PyM
section
variable {R : Nodes} {h h1 : Heap} {a : Nat}
def non4 : List Val := repV 4 [.non]
theorem non4_mem {x : Val} (hx : x ∈ non4) : x = .non := by
  have : non4 = List.replicate 4 .non := rfl
  rw [this] at hx
  exact (List.mem_replicate.mp hx).2
/-- one field more -/
theorem addF {m c : Nat} {fs : List (Nat × Val)} (o : On ((m, .ins c fs) :: R) h) {g : Nat} {x : Val} (hl : fs.length < 1000) : ∃ h', oSetF c g (.ref m) x h = .ok () h' ∧ On ((m, .ins c (setF g x fs)) :: R) h' := ⟨_, sf (o.get (i := 0) rfl) hl, o.set (i := 0) rfl _⟩
theorem net_init (o : On ((a, .lst non4) :: R) h) : ∃ h', m_Net___init__ [.ref h.length, .ref a] (h ++ [.ins 8 []]) = .ok .non h' ∧ On ((a, .lst non4) :: R) h' := by
  have wi : wR (m_Net___init__ [.ref h.length, .ref a] (h ++ [.ins 8 []])) (fun _ _ => False) fun v h' => v = .non ∧ On ((a, .lst non4) :: R) h' := by
    have ll := lim8
    have l0 : 0 ≤ lim := by omega
    have o0 := o.new (.ins 8 [])
    generalize hm : h.length = m at o0
    generalize h ++ [Obj.ins 8 []] = g0 at o0
    have ea := o0.get (i := 1) rfl
    have eis : isTy .lst (tyOf (.ref a) g0) = some true := by simp [tyOf, ea, isTy]
    have l4 : non4.length = 4 := rfl
    unfold m_Net___init__
    refine wRB rfl ?_
    simp -implicitDefEqProofs [truth, eis, ea, l4, -wR_bAll, -wR_oSetF, -wR_getF, -wR_oIxL]
    refine wR_lcMap (fun _ => .bl true) (by rw [l4]; omega) (fun acc => lstIs_at (at_push ea)) (fun x acc hx => ?_) ?_
    · rw [non4_mem hx]
      refine ⟨_, rfl, ?_⟩
      simp -implicitDefEqProofs [wipeE]
    have o1 := o0.ext (h' := g0 ++ [Obj.lst (non4.map fun _ => .bl true)]) ⟨_, rfl⟩
    have eq1 : (g0 ++ [Obj.lst (non4.map fun _ => Val.bl true)])[g0.length]? = some (.lst (non4.map fun _ => .bl true)) := at_len
    generalize g0 ++ [Obj.lst (non4.map fun _ => .bl true)] = g1 at o1 eq1
    refine wR_eq (bAll_map (b := fun _ => true) eq1) ?_
    have ea1 := o1.get (i := 1) rfl
    have o2' := o1.new (.lst non4)
    have o2 : On ((m, .ins 8 []) :: (a, .lst non4) :: R) (g1 ++ [Obj.lst non4]) := o2'.drop1
    generalize hl1 : g1.length = b
    generalize hg2 : g1 ++ [Obj.lst non4] = g2 at o2
    obtain ⟨g3, s1, o3⟩ := addF (g := 27) (x := .ref b) o2 (by simp [setF])
    simp -implicitDefEqProofs [truth, ea1, hl1, hg2, s1, -wR_oSetF, -wR_getF, -wR_oIxL]
    refine wS_range (n := 4) (fun i s' h' => h' = g3 ∧ ∃ x y, s' = [some (.ref m), some (.ref a), x, y]) ⟨rfl, _, _, rfl⟩ ?_ ?_
    · rintro i s' h' hi ⟨rfl, x, y, rfl⟩
      refine ⟨_, rfl, ?_⟩
      have ea3 := o3.get (i := 1) rfl
      have ix : non4[i]? = some .non := by
        have : i = 0 ∨ i = 1 ∨ i = 2 ∨ i = 3 := by omega
        rcases this with rfl | rfl | rfl | rfl <;> rfl
      simp -implicitDefEqProofs [gV, ea3, atI_cast, ix]
    · rintro s' h' ⟨rfl, x, y, rfl⟩
      have k := fun (g5 : Heap) (fs : List (Nat × Val)) (o : On ((m, .ins 8 fs) :: (a, .lst non4) :: R) g5) (x : Obj) => (o.new x).drop1
      obtain ⟨g4, s2, o4⟩ := addF (g := 28) (x := .int 0) o3 (by simp [setF])
      have o4' := (o4.new (.dct [])).drop1
      obtain ⟨g5, s3, o5⟩ := addF (g := 29) (x := .ref g4.length) o4' (by simp [setF])
      have o5' := (o5.new (.dct [])).drop1
      obtain ⟨g6, s4, o6⟩ := addF (g := 30) (x := .ref g5.length) o5' (by simp [setF])
      obtain ⟨g7, s5, o7⟩ := addF (g := 31) (x := c_EMPTY) o6 (by simp [setF])
      have o7' := (o7.new (.lst [])).drop1
      obtain ⟨g8, s6, o8⟩ := addF (g := 32) (x := .ref g7.length) o7' (by simp [setF])
      obtain ⟨g9, s7, o9⟩ := addF (g := 33) (x := .int 0) o8 (by simp [setF])
      simp -implicitDefEqProofs [s2, s3, s4, s5, s6, s7, -wR_oSetF]
      exact o9.drop1
  obtain ⟨v, h', e, rfl, q⟩ := ex_of_wR wi
  exact ⟨h', e, q⟩
end
end Lw

set_option Elab.async false
set_option linter.all false
set_option autoImplicit false
set_option maxHeartbeats 4000000
set_option maxRecDepth 100000
namespace Lw
open PyM
theorem _root_.PyM.On.sub_mid {p q r : Nat × Obj} {N : Nodes} {h : Heap} (o : On (p :: q :: r :: N) h) : On (p :: N) h :=
  ((o.perm ((List.Perm.swap q p (r :: N)).trans (List.Perm.cons _ (List.Perm.swap r p N)))).drop1).drop1
structure BN where
  B : Nat
  D : Nat
  SH : Nat
  Ty : Nat
  b1 : Nat
  b2 : Nat
  FR : Nat
  HD : Nat
  WT : Nat
  fsT : List (Nat × Val)
def BN.nodes (b : BN) : Nodes := [(b.B, .ins 7 [(22, .ref b.D), (1, .ref b.SH), (23, .ref b.Ty), (24, .ref b.b1), (25, .ref b.b2), (26, .ref b.FR)]), (b.D, .ins 5 [(17, .int 24), (18, .ref b.HD), (19, .ref b.WT)]), (b.HD, .lst (repV 24 [zz])), (b.Ty, .ins 6 b.fsT)]
section
variable {R T : Nodes} {h h1 : Heap} {a e : Nat} {b : BN}
structure Bd (b : BN) (h : Heap) : Prop where
  eB : h[b.B]? = some (.ins 7 [(22, .ref b.D), (1, .ref b.SH), (23, .ref b.Ty), (24, .ref b.b1), (25, .ref b.b2), (26, .ref b.FR)])
  eD : h[b.D]? = some (.ins 5 [(17, .int 24), (18, .ref b.HD), (19, .ref b.WT)])
  eH : h[b.HD]? = some (.lst (repV 24 [zz]))
  eT : h[b.Ty]? = some (.ins 6 b.fsT)
theorem bd_of (o : On (T ++ (b.nodes ++ R)) h) : Bd b h := by
  have q : ∀ (i : Nat) (z : Nat × Obj), b.nodes[i]? = some z → h[z.1]? = some z.2 := fun i z e => o.at_ z (List.mem_append_right _ (List.mem_append_left _ (List.mem_of_getElem? e)))
  exact ⟨q 0 _ rfl, q 1 _ rfl, q 2 _ rfl, q 3 _ rfl⟩
theorem Bd.ext (d : Bd b h) (x : Ext h h1) : Bd b h1 := ⟨x.at d.eB, x.at d.eD, x.at d.eH, x.at d.eT⟩
theorem zz_at (he : e < 24) : L2.atI (repV 24 [zz]) (e : Int) = some zz := by
  rw [atI_cast]
  have : repV 24 [zz] = List.replicate 24 zz := rfl
  rw [this, List.getElem?_replicate, if_pos he]
theorem dwords_ok (d : Bd b h) (he : e < 24) : m_Disk_words [.ref b.D, .int e] h = .ok zz h := by
  refine eq_of_wR ?_
  unfold m_Disk_words
  refine wRB rfl ?_
  simp -implicitDefEqProofs [d.eD, lookF, d.eH, zz_at he]
theorem owned_ok {t : Val} : m_Types_owned [t, .int 1, zz] h = .ok (.tup []) h := by
  have l0 : 0 ≤ lim := by decide
  have z0 : L2.atI (repV 8 [Val.int 0]) 0 = some (.int 0) := rfl
  refine eq_of_wR ?_
  unfold m_Types_owned zz
  refine wRB rfl ?_
  simp -implicitDefEqProofs [l0, z0]
def frB : En → Heap → RS := (sSeq (sAsg (gT (gsCons (gV 5) (gsCons (gV 6) (gsCons (gV 7) (gsNil))))) (mBM bPopAt (mV 4) (mCons (mK (.int 0)) (mNil))))
    (sSeq (sIf (tB_ (mB (oIn false) (mV 5) (mV 3))) (sRet (mK .non)) (sNx))
    (sSeq (sSub (mV 3) (mV 5) (mTup (mCons (mV 6) (mCons (mV 7) (mNil)))))
    (sSeq (sAsg (gV 8) (mTup (mNil)))
    (sSeq (sIf (tB_ (mU (oIsN true) (mV 7))) (sAsg (gV 8) (mMeth 6 m_Types_owned [] (mU (getF 23) (mV 0)) (mCons (mV 7) (mCons (mGet2 (mV 2) (mV 5) (mMeth 5 m_Disk_words [] (mU (getF 22) (mV 0)) (mCons (mV 5) (mNil)))) (mNil))))) (sNx))
    (sSeq (sIf (tB_ (mU (oIsN false) (mV 8))) (sRet (mK .non)) (sNx))
    (sDrop (mBM bExtend (mV 4) (mCons (mLc (iAlt (iLst (mV 8)) (iTup_ (mV 8))) (gT (gsCons (gV 9) (gsCons (gV 10) (gsNil)))) (tTrue) (mTup (mCons (mV 9) (mCons (mV 5) (mCons (mV 10) (mNil))))) [9, 10]) (mNil))))))))))
theorem forest_cut : m_Blocks_forest = runB 3 11
    (sSeq (sAsg (gV 3) (mDct))
    (sSeq (sAsg (gV 4) (mLc (iAlt (iLst (mV 1)) (iTup_ (mV 1))) (gT (gsCons (gV 5) (gsCons (gV 7) (gsNil)))) (tTrue) (mTup (mCons (mV 5) (mCons (mK .non) (mCons (mV 7) (mNil))))) [5, 7]))
    (sSeq (whM (tTr (mV 4)) frB (99998 + 1 + 1))
    (sRet (mV 3))))) := rfl
theorem forest_ok (o : On (b.nodes ++ R) h) (he : e < 4) : ∃ d h', m_Blocks_lasting_forest [.ref b.B, .int e] h = .ok (.ref d) h' ∧ On ((d, .dct [(.int e, .tup [.non, .int 1])]) :: (b.nodes ++ R)) h' := by
  have wi : wR (m_Blocks_lasting_forest [.ref b.B, .int e] h) (fun _ _ => False) fun v h' => ∃ d, v = .ref d ∧ On ((d, .dct [(.int e, .tup [.non, .int 1])]) :: (b.nodes ++ R)) h' := by
    have ll := lim8
    have l1 : 1 ≤ lim := by omega
    have l2 : 2 ≤ lim := by omega
    have l3 : 3 ≤ lim := by omega
    have l0 : 0 ≤ lim := by omega
    have d0 := bd_of (T := []) o
    have iB : isIns 7 (.ref b.B) h = true := by simp [isIns, d0.eB]
    have o1 := (o.new (.lst [.tup [.int e, .int 1]])).new (.dct [])
    generalize hr : h.length = r at o1
    have hr2 : (h ++ [Obj.lst [.tup [.int e, .int 1]]]).length = r + 1 := by simp [hr]
    rw [hr2] at o1
    unfold m_Blocks_lasting_forest
    refine wRB rfl ?_
    simp -implicitDefEqProofs [iB, l1, l2, hr]
    rw [List.append_assoc] at o1
    simp only [List.cons_append, List.nil_append] at o1
    generalize h ++ [Obj.lst [.tup [.int e, .int 1]], Obj.dct []] = g1 at o1
    rw [forest_cut]
    obtain ⟨B, hB⟩ : ∃ B, B = b.B := ⟨_, rfl⟩
    rw [← hB]
    refine wRB rfl ?_
    rw [hB]
    have er1 := o1.get (i := 1) rfl
    have o2 := o1.new (.dct [])
    generalize hf : g1.length = f at o2
    generalize hg2 : g1 ++ [Obj.dct []] = g2 at o2
    have er2 := o2.get (i := 2) rfl
    have q1 : g1 ++ [Obj.dct [], Obj.lst []] = g2 ++ [Obj.lst []] := by rw [← hg2]; simp
    have q2 : f + 1 = g2.length := by rw [← hg2, ← hf]; simp
    simp -implicitDefEqProofs [gV, hf, hg2, er2]
    refine wR_lcMap (fun x => .tup [.int e, .non, .int 1]) (by simp; omega) (fun acc => lstIs_at (at_push er2)) (fun x acc hx => ?_) ?_
    · rw [List.mem_singleton] at hx
      subst hx
      refine ⟨_, rfl, ?_⟩
      simp -implicitDefEqProofs [wipeE, gV, l3]
    simp -implicitDefEqProofs only [List.map_cons, List.map_nil]
    have o3 := o2.new (.lst [.tup [.int e, .non, .int 1]])
    generalize ht : g2.length = t at o3
    generalize g2 ++ [Obj.lst [.tup [.int e, .non, .int 1]]] = g3 at o3
    -- the first turn
    have et3 := o3.get (i := 0) rfl
    have ef3 := o3.get (i := 1) rfl
    have ep : bPopAt (.ref t) [.int 0] g3 = .ok (.tup [.int e, .non, .int 1]) (g3.set t (.lst [])) := bPopAt_ok et3 (by omega) (by simp) (by omega) rfl
    have o4 := o3.set (i := 0) rfl (.lst [])
    generalize g3.set t (.lst []) = g4 at ep o4
    have ef4 := o4.get (i := 1) rfl
    have ei4 := oIn_dct (neg := false) ef4 (x := .int e) rfl
    have o5 := o4.set (i := 1) rfl (.dct [(.int e, .tup [.non, .int 1])])
    have es5 : oSet (.ref f) (.int e) (.tup [.non, .int 1]) g4 = .ok () (g4.set f (.dct [(.int e, .tup [.non, .int 1])])) := by
      refine eq_of_wR ?_
      simp [ef4, putV]
      omega
    generalize g4.set f (.dct [(.int e, .tup [.non, .int 1])]) = g5 at es5 o5
    have d5 := bd_of (T := [_, _, _, _]) o5
    have g22 := gf (g := 22) d5.eB rfl
    have g23 := gf (g := 23) d5.eB rfl
    have iD : isIns 5 (.ref b.D) g5 = true := by simp [isIns, d5.eD]
    have iT : isIns 6 (.ref b.Ty) g5 = true := by simp [isIns, d5.eT]
    have ew := dwords_ok d5 (e := e) (by omega)
    have etb := o5.get (i := 2) rfl
    have eg := dGet_at (z := zz) etb (y := .int e) rfl
    have et5 := o5.get (i := 0) rfl
    have o6 := o5.new (.lst [])
    have et6 := o6.get (i := 1) rfl
    have eq6 := o6.get (i := 0) rfl
    have ex : bExtend (.ref t) [.ref g5.length] (g5 ++ [Obj.lst []]) = .ok .non ((g5 ++ [Obj.lst []]).set t (.lst [])) := by
      unfold bExtend
      simp only [et6, eq6]
      simp
    have o7 := o6.set (i := 1) rfl (.lst [])
    generalize (g5 ++ [Obj.lst []]).set t (.lst []) = g7 at ex o7
    have et7 := o7.get (i := 1) rfl
    rw [wS_whM_s]
    unfold frB
    simp -implicitDefEqProofs [truth, et3, seqOf_at et3, ep, gV, gT, gsCons, gsNil, ei4, lookV, l2, es5, l0, g23, iT, isD_dct etb, g22, iD, ew, eg, owned_ok, seqOf_at et5, lcM, ex, -wR_getF, -wR_oSetI]
    rw [show (99999 : Nat) = 99998 + 1 from rfl, wS_whM_s]
    simp -implicitDefEqProofs [truth, et7]
    exact (o7.drop1.drop1).sub_mid
  obtain ⟨v, h', e, d, rfl, q⟩ := ex_of_wR wi
  exact ⟨d, h', e, q⟩
end
end Lw

set_option Elab.async false
set_option linter.all false
set_option autoImplicit false
set_option maxHeartbeats 4000000
set_option maxRecDepth 100000
namespace Lw
open PyM
section
variable {R T : Nodes} {h h1 : Heap} {a e D HD WT Ty : Nat} {b : BN} {fsT : List (Nat × Val)}
theorem bSumT_ok {bs : List Int} : bSumT [.tup (bs.map Val.int)] h = .ok (.int bs.sum) h := by
  unfold bSumT
  simp only [asInt_map]
structure BlI (b : BN) (R : Nodes) (sh : Val) (i : Nat) (s' : En) (h' : Heap) : Prop where
  k : ∃ x y z, s' = [some (.ref b.B), some (.ref b.D), some sh, some (.ref b.Ty), x, y, z]
  o : ∃ fr : List (Val × Val), fr.length ≤ i ∧ On ((b.FR, .dct fr) :: (b.nodes ++ R)) h'
def blB : En → Heap → RS := sForD (mMeth 7 m_Blocks_lasting_forest [] (mV 0) (mCons (mV 4) (mNil))) (gV 5) (sSub (mU (getF 26) (mV 0)) (mV 5) (mK (.bl true)))
theorem bl_turn {sh x y z : Val} {o5 o6 : Option Val} {fr : List (Val × Val)} {i : Nat} (hi : i < 4) (hf : fr.length ≤ i) (o : On ((b.FR, .dct fr) :: (b.nodes ++ R)) h) {D : K4}
    (hD : ∀ s' h', BlI b R sh (i + 1) s' h' → D.nx s' h') : wS (blB [some (.ref b.B), some (.ref b.D), some sh, some (.ref b.Ty), some (.int (i : Nat)), o5, o6] h) D := by
  have ll := lim8
  have o1 : On (b.nodes ++ ((b.FR, .dct fr) :: R)) h := o.perm List.perm_middle.symm
  have iB : isIns 7 (.ref b.B) h = true := by simp [isIns, (bd_of (T := []) o1).eB]
  obtain ⟨d, h2, e2, o2⟩ := forest_ok o1 hi
  have ed := o2.get (i := 0) rfl
  have el := lockD_dct ed
  have o3 := o2.set (i := 0) rfl (.fdc [(.int i, .tup [.non, .int 1])])
  generalize h2.set d (.fdc [(.int i, .tup [.non, .int 1])]) = h3 at el o3
  have o3' : On ((b.FR, .dct fr) :: (d, .fdc [(.int i, .tup [.non, .int 1])]) :: (b.nodes ++ R)) h3 := o3.perm (by
    refine (List.Perm.cons _ List.perm_middle).trans (List.Perm.swap _ _ _))
  have eF := o3'.get (i := 0) rfl
  have g26 := gf (g := 26) (bd_of (T := [_, _]) o3').eB rfl
  have o4 := o3'.set (i := 0) rfl (.dct (putV fr (.int (i : Nat)) (.bl true)))
  have es : oSet (.ref b.FR) (.int (i : Nat)) (.bl true) h3 = .ok () (h3.set b.FR (.dct (putV fr (.int (i : Nat)) (.bl true)))) := by
    refine eq_of_wR ?_
    simp [eF]
    omega
  generalize h3.set b.FR (.dct (putV fr (.int (i : Nat)) (.bl true))) = h4 at es o4
  have ed4 := o4.get (i := 1) rfl
  have eu := unlH_fdc ed4
  have o5 := o4.set (i := 1) rfl (.dct [(.int i, .tup [.non, .int 1])])
  generalize h4.set d (.dct [(.int i, .tup [.non, .int 1])]) = h5 at eu o5
  have o6 : On ((b.FR, .dct (putV fr (.int (i : Nat)) (.bl true))) :: (b.nodes ++ R)) h5 := (o5.perm (List.Perm.swap _ _ _)).drop1
  unfold blB
  simp -implicitDefEqProofs [iB, e2, el, wS_forM_cons, wS_forM_nil, gV, g26, es, eu, -wR_getF, -wR_oSetI]
  exact hD _ _ ⟨⟨_, _, _, rfl⟩, _, Nat.le_trans putV_len (by omega), o6⟩
theorem blocks_cut : m_Blocks___init__ = runB 4 7
    (sSeq (sIf (tOr_ (tB_ (mB (oEq true) (mL bLen (mCons (mV 2) (mNil))) (mK (.int 4)))) (tNo (tTr (mL bAll (mCons (mLc (iAlt (iLst (mV 2)) (iTup_ (mV 2))) (gV 6) (tTrue) (mAn (mCall m_is_number [] (mCons (mV 6) (mNil))) (mB oGe (mV 6) (mK (.int 0)))) [6]) (mNil)))))) (sRaise 3) (sNx))
    (sSeq (sIf (tB_ (mB oGt (mL bSumT (mCons (mV 2) (mNil))) (mB (oI fun i j => .int (i - j)) (mU (getF 17) (mV 1)) (mK (.int 4))))) (sRaise 3) (sNx))
    (sSeq (sFld 7 22 (mV 0) (mV 1))
    (sSeq (sFld 7 1 (mV 0) (mL bList (mCons (mV 2) (mNil))))
    (sSeq (sFld 7 23 (mV 0) (mV 3))
    (sSeq (sIf (tB_ (mU (oIsN false) (mV 3))) (sFld 7 23 (mV 0) (mMake 6 m_Types___init__ [] (mCons (mU (getF 17) (mV 1)) (mNil)))) (sNx))
    (sSeq (sFld 7 24 (mV 0) (mDct))
    (sSeq (sFld 7 25 (mV 0) (mDct))
    (sSeq (sFld 7 26 (mV 0) (mDct))
    (sFor (iRng1 (mCons (mK (.int 4)) (mNil))) (gV 4) blB)))))))))) := rfl
theorem blocks_init (o : On ((D, .ins 5 [(17, .int 24), (18, .ref HD), (19, .ref WT)]) :: (HD, .lst (repV 24 [zz])) :: (Ty, .ins 6 fsT) :: R) h) {bs : List Int} (hl : bs.length = 4) (h0 : ∀ z ∈ bs, 0 ≤ z) (hs : bs.sum ≤ 20) :
    ∃ h', m_Blocks___init__ [.ref h.length, .ref D, .tup (bs.map Val.int), .ref Ty] (h ++ [.ins 7 []]) = .ok .non h' ∧ On ((D, .ins 5 [(17, .int 24), (18, .ref HD), (19, .ref WT)]) :: (HD, .lst (repV 24 [zz])) :: (Ty, .ins 6 fsT) :: R) h' := by
  have wi : wR (m_Blocks___init__ [.ref h.length, .ref D, .tup (bs.map Val.int), .ref Ty] (h ++ [.ins 7 []])) (fun _ _ => False) fun v h' => v = .non ∧ On ((D, .ins 5 [(17, .int 24), (18, .ref HD), (19, .ref WT)]) :: (HD, .lst (repV 24 [zz])) :: (Ty, .ins 6 fsT) :: R) h' := by
    have ll := lim8
    have en : ∀ (i : Int) (h : Heap), m_is_number [.int i] h = .ok (.bl true) h := fun _ _ => rfl
    have o0 := o.new (.ins 7 [])
    generalize hm : h.length = m at o0
    generalize h ++ [Obj.ins 7 []] = g0 at o0
    rw [blocks_cut]
    refine wRB rfl ?_
    simp -implicitDefEqProofs [truth, hl, -wR_bAll, -wR_oSetF, -wR_getF, -wR_oIxL, -wR_bListT]
    refine wR_lcMap (fun _ => .bl true) (by simp [hl]; omega) (fun acc => rfl) (fun x acc hx => ?_) ?_
    · obtain ⟨z, hz1, rfl⟩ := List.mem_map.mp hx
      refine ⟨_, rfl, ?_⟩
      simp -implicitDefEqProofs [wipeE, en, h0 z hz1]
    have o1 := o0.ext (h' := g0 ++ [Obj.lst ((bs.map Val.int).map fun _ => .bl true)]) ⟨_, rfl⟩
    have eq1 : (g0 ++ [Obj.lst ((bs.map Val.int).map fun _ => Val.bl true)])[g0.length]? = some (.lst ((bs.map Val.int).map fun _ => .bl true)) := at_len
    generalize g0 ++ [Obj.lst ((bs.map Val.int).map fun _ => .bl true)] = g1 at o1 eq1
    refine wR_eq (bAll_map (b := fun _ => true) eq1) ?_
    have ns : ¬ (24 - 4 : Int) < bs.sum := by omega
    have ns2 : ¬ (20 : Int) < bs.sum := by omega
    have g17 := gf (g := 17) (o1.get (i := 1) rfl) rfl
    obtain ⟨g2, s1, o2⟩ := addF (g := 22) (x := .ref D) o1 (by simp)
    have o2' := (o2.new (.lst (bs.map Val.int))).drop1
    obtain ⟨g3, s2, o3⟩ := addF (g := 1) (x := .ref g2.length) o2' (by simp [setF])
    obtain ⟨g4, s3, o4⟩ := addF (g := 23) (x := .ref Ty) o3 (by simp [setF])
    have o4' := (o4.new (.dct [])).drop1
    obtain ⟨g5, s4, o5⟩ := addF (g := 24) (x := .ref g4.length) o4' (by simp [setF])
    have o5' := (o5.new (.dct [])).drop1
    obtain ⟨g6, s5, o6⟩ := addF (g := 25) (x := .ref g5.length) o5' (by simp [setF])
    have o6' := (o6.new (.dct [])).perm (List.Perm.swap _ _ _)
    obtain ⟨g7, s6, o7⟩ := addF (g := 26) (x := .ref g6.length) o6' (by simp [setF])
    have o8 : On ((g6.length, .dct []) :: ((BN.nodes ⟨m, D, g2.length, Ty, g4.length, g5.length, g6.length, HD, WT, fsT⟩) ++ R)) g7 := o7.perm (List.Perm.swap _ _ _)
    simp -implicitDefEqProofs [truth, bSumT_ok, g17, ns, ns2, s1, s2, s3, s4, s5, s6, -wR_oSetF, -wR_getF, -wR_oIxL]
    refine wS_range (n := 4) (BlI ⟨m, D, g2.length, Ty, g4.length, g5.length, g6.length, HD, WT, fsT⟩ R (.tup (bs.map Val.int))) ⟨⟨_, _, _, rfl⟩, [], Nat.le_refl _, o8⟩ ?_ ?_
    · rintro i s' h' hi ⟨⟨x, y, z, rfl⟩, fr, hf, o9⟩
      exact ⟨_, rfl, bl_turn (b := ⟨m, D, g2.length, Ty, g4.length, g5.length, g6.length, HD, WT, fsT⟩) (x := .non) (y := .non) (z := .non) hi hf o9 (fun s1 h1 q => q)⟩
    · rintro s' h' ⟨⟨x, y, z, rfl⟩, fr, hf, o9⟩
      exact o9.drop1.drop1
  obtain ⟨v, h', e, rfl, q⟩ := ex_of_wR wi
  exact ⟨h', e, q⟩
end
end Lw

set_option Elab.async false
set_option linter.all false
set_option autoImplicit false
set_option maxHeartbeats 4000000
set_option maxRecDepth 100000
namespace Lw
open PyM
section
variable {h : Heap} {R : Nodes} {F : Nat}
theorem pinit_ok (o : On R h) : ∃ (p : PS) (h' : Heap), m_Pages___init__ [.ref h.length, .ref F] (h ++ [.ins 1 []]) = .ok .non h' ∧ (p.P = h.length ∧ p.F = F ∧ p.es.length = 4 ∧ ∀ e, p.ent e = []) ∧ On (p.nodes ++ R) h' := by
  have wi : wR (m_Pages___init__ [.ref h.length, .ref F] (h ++ [.ins 1 []])) (fun _ _ => False) fun v h' => v = .non ∧ ∃ p : PS, (p.P = h.length ∧ p.F = F ∧ p.es.length = 4 ∧ ∀ e, p.ent e = []) ∧ On (p.nodes ++ R) h' := by
    have ll := lim8
    have oF := o.new (Obj.ins 1 [])
    generalize hh1 : h ++ [Obj.ins 1 []] = h1 at oF
    have eF1 := oF.get (i := 0) rfl
    have o3 := oF.set (i := 0) rfl (.ins 1 [(8, .ref F)])
    generalize hh3 : h1.set h.length (.ins 1 [(8, .ref F)]) = h3 at o3
    have hl3 : h3.length = h1.length := by rw [← hh3, List.length_set]
    unfold m_Pages___init__
    refine wRB rfl ?_
    simp -implicitDefEqProofs [eF1, setF, hh3]
    rw [← hl3]
    refine fam_lc dN [] (fun _ => rfl) o3 (by rw [rangeV_length]; omega) (fun _ => rfl) (fun x h' _ => ⟨_, rfl, ?_⟩) (fun es h6 n2 v2 o6 => ?_)
    · simp -implicitDefEqProofs [wipeE]
      exact ⟨⟨_, rfl⟩, rfl⟩
    have o6 := mvF o6
    have eF6 := o6.get (i := 0) rfl
    have o7 := o6.set (i := 0) rfl (.ins 1 [(8, .ref F), (9, .ref h3.length)])
    simp -implicitDefEqProofs [eF6, setF]
    rw [rangeV_length] at n2
    refine ⟨⟨h.length, F, h3.length, es⟩, ⟨rfl, rfl, n2, fam_nil v2⟩, o7.perm ?_⟩
    classical
    rw [List.perm_iff_count]
    intro x
    simp only [PS.nodes, PS.obj, List.set_cons_zero, List.count_append, List.count_cons, List.count_nil, List.append_assoc]
    omega
  obtain ⟨v, h', e, rfl, s, q⟩ := ex_of_wR wi
  exact ⟨s, h', e, q⟩
end
theorem dfl {m : Nat} : dob m = .ins 5 [(17, .int 24), (18, .ref (m + 2)), (19, .ref (m + 3))] := rfl
section
variable {R : Nodes} {h : Heap} {ow nn D HD WT Ty bs fsh many : Nat} {bsl shares : List Int} {fsT : List (Nat × Val)}
theorem kernel_init (o : On ((ow, .lst own0) :: (nn, .lst non4) :: (D, .ins 5 [(17, .int 24), (18, .ref HD), (19, .ref WT)]) :: (HD, .lst (repV 24 [zz])) :: (Ty, .ins 6 fsT) :: (bs, .lst (bsl.map Val.int)) :: (fsh, .lst (shares.map Val.int)) :: R) h)
    (m0 : 8 ≤ many) (m1 : many ≤ 64) (hl : shares.length = 4) (hz : ∀ z ∈ shares, 0 ≤ z) (hs : shares.sum ≤ many) (bl : bsl.length = 4) (b0 : ∀ z ∈ bsl, 0 ≤ z) (b1 : bsl.sum ≤ 20) :
    ∃ k h', m_Kernel___init__ [.ref h.length, .ref ow, .int many, .ref fsh, .ref D, .ref bs, .ref Ty, .ref nn] (h ++ [.ins 9 []]) = .ok .non h' ∧ (KH.K k = h.length ∧ S0 k.s k.s.F many shares ∧ k.p.F = k.s.F ∧ k.p.es.length = 4 ∧ ∀ e, k.p.ent e = []) ∧ On (k.nodes ++ R) h' := by
  have wi : wR (m_Kernel___init__ [.ref h.length, .ref ow, .int many, .ref fsh, .ref D, .ref bs, .ref Ty, .ref nn] (h ++ [.ins 9 []])) (fun _ _ => False) fun v h' => v = .non ∧ ∃ k, (KH.K k = h.length ∧ S0 k.s k.s.F many shares ∧ k.p.F = k.s.F ∧ k.p.es.length = 4 ∧ ∀ e, k.p.ent e = []) ∧ On (k.nodes ++ R) h' := by
    have o0 := o.new (.ins 9 [])
    generalize hm : h.length = m at o0
    generalize h ++ [Obj.ins 9 []] = g0 at o0
    -- slices
    have o0' := o0.perm (List.Perm.swap _ _ _)
    obtain ⟨g1, e1, o1⟩ := slices_init o0'
    have o1' := o1.perm (List.Perm.swap _ _ _)
    obtain ⟨g2, s1, o2⟩ := addF (g := 34) (x := .ref g0.length) o1' (by simp)
    -- frames
    have efs := o2.at_ (fsh, .lst (shares.map Val.int)) (by simp)
    obtain ⟨s, g3, e3, q3, o3⟩ := init_ok o2 efs m0 m1 hl hz hs
    have hF := q3.F
    have o3' : On ((m, .ins 9 (setF 34 (.ref g0.length) [])) :: (s.nodes ++ ((ow, .lst own0) :: (nn, .lst non4) :: (D, .ins 5 [(17, .int 24), (18, .ref HD), (19, .ref WT)]) :: (HD, .lst (repV 24 [zz])) :: (Ty, .ins 6 fsT) :: (bs, .lst (bsl.map Val.int)) :: (fsh, .lst (shares.map Val.int)) :: R))) g3 := o3.perm List.perm_middle
    obtain ⟨g4, s2, o4⟩ := addF (g := 8) (x := .ref g2.length) o3' (by simp [setF])
    -- pages
    obtain ⟨p, g5, e5, q5, o5⟩ := pinit_ok (F := g2.length) o4
    have o5' := o5.perm (List.perm_middle (l₁ := p.nodes))
    obtain ⟨g6, s3, o6⟩ := addF (g := 35) (x := .ref g4.length) o5' (by simp [setF])
    -- net
    have o6' : On ((nn, .lst non4) :: (m, .ins 9 (setF 35 (.ref g4.length) (setF 8 (.ref g2.length) (setF 34 (.ref g0.length) [])))) :: (p.nodes ++ (s.nodes ++ ((ow, .lst own0) :: (D, .ins 5 [(17, .int 24), (18, .ref HD), (19, .ref WT)]) :: (HD, .lst (repV 24 [zz])) :: (Ty, .ins 6 fsT) :: (bs, .lst (bsl.map Val.int)) :: (fsh, .lst (shares.map Val.int)) :: R)))) g6 := o6.perm (by
      classical
      rw [List.perm_iff_count]
      intro x
      simp only [List.count_append, List.count_cons]
      omega)
    obtain ⟨g7, e7, o7⟩ := net_init o6'
    have o7' := o7.perm (List.Perm.swap _ _ _)
    obtain ⟨g8, s4, o8⟩ := addF (g := 36) (x := .ref g6.length) o7' (by simp [setF])
    obtain ⟨g9, s5, o9⟩ := addF (g := 22) (x := .ref D) o8 (by simp [setF])
    -- blocks
    have ebs := o9.at_ (bs, .lst (bsl.map Val.int)) (by simp)
    have o9' : On ((D, .ins 5 [(17, .int 24), (18, .ref HD), (19, .ref WT)]) :: (HD, .lst (repV 24 [zz])) :: (Ty, .ins 6 fsT) :: ((m, .ins 9 (setF 22 (.ref D) (setF 36 (.ref g6.length) (setF 35 (.ref g4.length) (setF 8 (.ref g2.length) (setF 34 (.ref g0.length) [])))))) :: (nn, .lst non4) :: (p.nodes ++ (s.nodes ++ ((ow, .lst own0) :: (bs, .lst (bsl.map Val.int)) :: (fsh, .lst (shares.map Val.int)) :: R))))) g9 := o9.perm (by
      classical
      rw [List.perm_iff_count]
      intro x
      simp only [List.count_append, List.count_cons]
      omega)
    obtain ⟨g10, e10, o10⟩ := blocks_init o9' bl b0 b1
    have o10' : On ((m, .ins 9 (setF 22 (.ref D) (setF 36 (.ref g6.length) (setF 35 (.ref g4.length) (setF 8 (.ref g2.length) (setF 34 (.ref g0.length) [])))))) :: (s.nodes ++ (p.nodes ++ R)) ++ [(D, .ins 5 [(17, .int 24), (18, .ref HD), (19, .ref WT)]), (HD, .lst (repV 24 [zz])), (Ty, .ins 6 fsT), (nn, .lst non4), (ow, .lst own0), (bs, .lst (bsl.map Val.int)), (fsh, .lst (shares.map Val.int))]) g10 := o10.perm (by
      classical
      rw [List.perm_iff_count]
      intro x
      simp only [List.count_append, List.count_cons, List.count_nil, List.cons_append]
      omega)
    obtain ⟨g11, s6, o11⟩ := addF (g := 17) (x := .ref g9.length) o10' (by simp [setF])
    have gg8 := gf (g := 8) (v := .ref g2.length) (o4.get (i := 0) rfl) rfl
    unfold m_Kernel___init__
    refine wRB rfl ?_
    simp -implicitDefEqProofs [e1, s1, e3, s2, gg8, e5, s3, e7, s4, s5, ebs, e10, s6, -wR_oSetF, -wR_getF]
    have hq : p.F = s.F := by rw [q5.2.1, hF]
    refine ⟨⟨m, .ref g0.length, .ref g6.length, .ref D, .ref g9.length, s, p⟩, ⟨rfl, by rw [hF]; exact q3, hq, q5.2.2.1, q5.2.2.2⟩, ?_⟩
    have o12 : On ((m, .ins 9 (setF 17 (.ref g9.length) (setF 22 (.ref D) (setF 36 (.ref g6.length) (setF 35 (.ref g4.length) (setF 8 (.ref g2.length) (setF 34 (.ref g0.length) []))))))) :: (s.nodes ++ (p.nodes ++ R))) g11 := On.sub (l' := [(D, .ins 5 [(17, .int 24), (18, .ref HD), (19, .ref WT)]), (HD, .lst (repV 24 [zz])), (Ty, .ins 6 fsT), (nn, .lst non4), (ow, .lst own0), (bs, .lst (bsl.map Val.int)), (fsh, .lst (shares.map Val.int))]) o11
    have ek : Obj.ins 9 (setF 17 (.ref g9.length) (setF 22 (.ref D) (setF 36 (.ref g6.length) (setF 35 (.ref g4.length) (setF 8 (.ref g2.length) (setF 34 (.ref g0.length) [])))))) = kob s.F p.P (.ref g0.length) (.ref g6.length) (.ref D) (.ref g9.length) := by
      rw [hF, q5.1]; rfl
    rw [ek] at o12
    unfold KH.nodes
    rw [List.cons_append, List.append_assoc]
    exact o12
  obtain ⟨v, h', e, rfl, k, q1, q2⟩ := ex_of_wR wi
  exact ⟨k, h', e, q1, q2⟩
end
end Lw

set_option Elab.async false
set_option linter.all false
set_option autoImplicit false
set_option maxHeartbeats 4000000
set_option maxRecDepth 100000
namespace Lw
open PyM
section
variable {R : Nodes} {h : Heap} {k : KH} {many sh : Nat}
theorem k1_of (q : S0 k.s k.s.F many [(sh : Int), 0, 0, 0]) (pF : k.p.F = k.s.F) (pl : k.p.es.length = 4) (pe : ∀ e, k.p.ent e = []) (hs : sh ≤ many) : K1 k [] (fun _ => none) (fun _ => []) sh 0 := by
  have nil : ∀ v : Val, lookV ([] : List (Val × Val)) v = none := fun _ => rfl
  refine ⟨q.K, ?_, List.nodup_nil, by simp, fun e _ _ => q.os e, fun f _ => ?_, fun e _ => q.wt e, ?_, by rw [q.m]; exact hs, Nat.zero_le _, by simp, pl, pF, fun q' _ => ?_, fun q' f r _ h => (by cases h), fun e _ => pe e, by rw [pe]; exact Nat.le_refl 0, by omega⟩
  · rw [q.os]; rfl
  · rw [q.hd]; simp
  · unfold FS.shr
    rw [q.sh]; rfl
  · rw [pe]; rfl
theorem lkernel_ok (o : On R h) (m0 : 8 ≤ many) (m1 : many ≤ 64) (hs : sh ≤ many) : ∃ k h', m__law_kernel [.int many, .int sh] h = .ok (.ref (KH.K k)) h' ∧ (k.s.many = many ∧ K1 k [] (fun _ => none) (fun _ => []) sh 0) ∧ On (k.nodes ++ R) h' := by
  have ll := lim8
  have l1 : 1 ≤ lim := by omega
  have l4 : 4 ≤ lim := by omega
  have l8 : 8 ≤ lim := by omega
  generalize hn : h.length = n
  have z := (((((((((((((o.new (.lst [.int 0])).new (.lst own0)).new (.lst ([(sh : Int), 0, 0, 0].map Val.int))).new (dob (n + 3))).new (.lst [zz])).new (.lst (repV 24 [zz]))).new (.lst [])).new (.lst ([8, 0, 0, 0].map Val.int))).new (tob (n + 8))).new (.lst [])).new (.lst [])).new (.lst [.non])).new (.lst non4))
  simp only [List.append_assoc, List.cons_append, List.nil_append, List.length_append, List.length_cons, List.length_nil, hn, Nat.add_assoc, Nat.zero_add, Nat.reduceAdd, Nat.add_zero] at z
  generalize hg : h ++ [Obj.lst [Val.int 0], Obj.lst own0, Obj.lst ([(sh : Int), 0, 0, 0].map Val.int), dob (n + 3), Obj.lst [zz], Obj.lst (repV 24 [zz]), Obj.lst [], Obj.lst ([8, 0, 0, 0].map Val.int), tob (n + 8), Obj.lst [], Obj.lst [], Obj.lst [.non], Obj.lst non4] = g at z
  have z2 : On (((n + 1, .lst own0) :: (n + 12, .lst non4) :: (n + 3, .ins 5 [(17, .int 24), (18, .ref (n + 3 + 2)), (19, .ref (n + 3 + 3))]) :: (n + 5, .lst (repV 24 [zz])) :: (n + 8, .ins 6 [(17, .int 24), (20, .ref (n + 8 + 1)), (21, .ref (n + 8 + 2))]) :: (n + 7, .lst ([8, 0, 0, 0].map Val.int)) :: (n + 2, .lst ([(sh : Int), 0, 0, 0].map Val.int)) :: R) ++ [(n, .lst [.int 0]), (n + 4, .lst [zz]), (n + 6, .lst []), (n + 9, .lst []), (n + 10, .lst []), (n + 11, .lst [.non])]) g := z.perm (by
    classical
    rw [List.perm_iff_count]
    intro x
    simp only [List.count_append, List.count_cons, List.count_nil, dob, tob]
    omega)
  obtain ⟨k, h', e, ⟨hK, q, q1, q2, q3⟩, o2⟩ := kernel_init (many := many) (z2.sub) m0 m1 rfl (by simp) (by simp; omega) rfl (by simp) (by simp)
  refine ⟨k, h', ?_, ⟨q.m, k1_of q q1 q2 q3 hs⟩, o2⟩
  have hgl : g.length = n + 13 := by rw [← hg]; simp [hn]
  rw [hgl] at e hK
  refine eq_of_wR ?_
  unfold m__law_kernel
  refine wRB rfl ?_
  have dd := fun (h : Heap) => disk_init (h := h)
  have tt := fun (h : Heap) => types_init (h := h)
  have d1 := dd (h ++ [Obj.lst [.int 0], Obj.lst own0, Obj.lst ([(sh : Int), 0, 0, 0].map Val.int)])
  have t1 := tt (h ++ [Obj.lst [.int 0], Obj.lst own0, Obj.lst ([(sh : Int), 0, 0, 0].map Val.int), dob (n + 3), Obj.lst [zz], Obj.lst (repV 24 [zz]), Obj.lst [], Obj.lst ([8, 0, 0, 0].map Val.int)])
  rw [← hg] at e
  simp only [List.length_append, List.length_cons, List.length_nil, hn, Nat.reduceAdd, Nat.zero_add, List.append_assoc, List.cons_append, List.nil_append, List.map_cons, List.map_nil, own0, non4] at d1 t1 e
  simp -implicitDefEqProofs [l1, l4, l8, hn, d1, t1, hK]
  simp only [Nat.add_assoc, Nat.reduceAdd]
  rw [e]
  simp
end
end Lw

set_option Elab.async false
set_option linter.all false
set_option autoImplicit false
set_option maxHeartbeats 4000000
set_option maxRecDepth 100000
namespace Lw
open PyM
theorem _root_.PyM.Tn.set {p a : Nat} {ns : List Int} {l : Nodes} {h : Heap} (T : Tn p a ns l h) {i b : Nat} {x : Obj} (e : l[i]? = some (b, x)) (y : Obj) : Tn p a ns (l.set i (b, y)) (h.set b y) := by
  obtain ⟨j, r, t, i0, o⟩ := T.k
  exact ⟨j, r, t, i0, o.set (i := i + 2) (by simpa using e) y⟩
structure PR where
  f : Nat
  hd : Nat
  wl : List Int
  la : Nat
structure St where
  k : KH
  p : PP
  LR : Nat
  LH : Nat
  lh : List (Val × Val)
  ks : List (Nat × PR)
def rowsOf (ks : List (Nat × PR)) : List (Val × Val) := ks.map fun x => (.int x.1, .tup [.int x.2.f, .int x.2.hd, .int (x.2.wl.length : Nat)])
def lrOf (ks : List (Nat × PR)) : List (Val × Val) := ks.map fun x => (.int x.1, .ref x.2.la)
def lN (x : Nat × PR) : Nat × Obj := (x.2.la, .lst (x.2.wl.map Val.int))
def St.nodes (t : St) : Nodes := (t.LR, .dct (lrOf t.ks)) :: (t.LH, .dct t.lh) :: (t.ks.map lN ++ (t.p.nodes ++ t.k.nodes))
def gt (ks : List (Nat × PR)) (i : Nat) : Option PR := (ks.find? fun x => decide (x.1 = i)).map (·.2)
theorem lk_map {g : Nat × PR → Val} {i : Nat} : ∀ (ks : List (Nat × PR)), lookV (ks.map fun x => (.int x.1, g x)) (.int i) = (ks.find? fun x => decide (x.1 = i)).map g
  | [] => rfl
  | x :: ks => by
    have ih := lk_map (g := g) (i := i) ks
    unfold lookV at ih ⊢
    rw [List.map_cons, List.find?_cons, List.find?_cons]
    by_cases c : x.1 = i
    · subst c; simp
    · have : ¬ (Val.int (x.1 : Nat) = .int (i : Nat)) := fun z => c (by injection z; omega)
      simp only [this, decide_false, c]
      exact ih
theorem gt_find {ks : List (Nat × PR)} {i : Nat} {r : PR} (e : gt ks i = some r) : (ks.find? fun x => decide (x.1 = i)) = some (i, r) := by
  unfold gt at e
  cases q : ks.find? fun x => decide (x.1 = i) with
  | none => rw [q] at e; cases e
  | some x =>
    rw [q] at e
    have h1 := List.find?_some q
    have h2 : x.1 = i := by simpa using h1
    cases e
    subst h2
    rfl
theorem gt_mem {ks : List (Nat × PR)} {i : Nat} {r : PR} (e : gt ks i = some r) : (i, r) ∈ ks := List.mem_of_find?_eq_some (gt_find e)
theorem gt_of {ks : List (Nat × PR)} (nd : (ks.map (·.1)).Nodup) {x : Nat × PR} (hx : x ∈ ks) : gt ks x.1 = some x.2 := by
  induction ks with
  | nil => cases hx
  | cons y ks ih =>
    rw [List.map_cons, List.nodup_cons] at nd
    unfold gt
    rw [List.find?_cons]
    rcases List.mem_cons.mp hx with rfl | hx
    · simp
    · have : y.1 ≠ x.1 := fun e => nd.1 (by rw [e]; exact List.mem_map_of_mem hx)
      simp only [this, decide_false]
      exact ih nd.2 hx
theorem gt_none {ks : List (Nat × PR)} {i : Nat} : gt ks i = none ↔ (ks.find? fun x => decide (x.1 = i)) = none := by
  unfold gt; simp
theorem rows_lk {ks : List (Nat × PR)} {i : Nat} {r : PR} (e : gt ks i = some r) : lookV (rowsOf ks) (.int i) = some (.tup [.int r.f, .int r.hd, .int (r.wl.length : Nat)]) := by
  unfold rowsOf; rw [lk_map, gt_find e]; rfl
theorem lr_lk {ks : List (Nat × PR)} {i : Nat} {r : PR} (e : gt ks i = some r) : lookV (lrOf ks) (.int i) = some (.ref r.la) := by
  unfold lrOf; rw [lk_map, gt_find e]; rfl
theorem rows_no {ks : List (Nat × PR)} {i : Nat} (e : gt ks i = none) : lookV (rowsOf ks) (.int i) = none := by
  unfold rowsOf; rw [lk_map, gt_none.mp e]; rfl
theorem lr_no {ks : List (Nat × PR)} {i : Nat} (e : gt ks i = none) : lookV (lrOf ks) (.int i) = none := by
  unfold lrOf; rw [lk_map, gt_none.mp e]; rfl
structure Jn (t : St) (sh n : Nat) : Prop where
  J : ∃ (fs : List Nat) (en : Nat → Option (Nat × Nat)) (wd : Nat → List Int), K1 t.k fs en wd sh n ∧ fs.length = t.ks.length ∧ (∀ x ∈ t.ks, x.2.f ∈ fs) ∧ (∀ x ∈ t.ks, en (24 + x.1) = some (x.2.f, 0)) ∧
    ∀ x ∈ t.ks, ∀ j : Nat, j < x.2.wl.length → (wd x.2.f).getD ((x.2.hd + j) % 8) 0 = x.2.wl.getD j 0
  fn : (t.ks.map (·.2.f)).Nodup
  rw_ : t.p.rows = rowsOf t.ks
  oth : t.p.oth = t.ks.length
  psh : t.p.sh = sh
  s1 : 2 ≤ sh
  s2 : sh ≤ 6
  kn : (t.ks.map (·.1)).Nodup
  kl : ∀ x ∈ t.ks, x.1 < 4
  hd : ∀ x ∈ t.ks, x.2.hd < 8 ∧ x.2.wl.length ≤ 8
  lh : ∀ x ∈ t.ks, lookV t.lh (.int x.1) = some (.int x.2.hd)
  ll : t.lh.length ≤ n
  n0 : n < 900
def tailP : En → Heap → RS := (sSeq (sIf (tOr_ (tB_ (mB (oEq true) (mV 13) (mV 11))) (tOr_ (tB_ (mB (oEq true) (mMeth 12 m_Memory_held [] (mV 4) (mNil)) (mL bLen (mCons (mV 6) (mNil))))) (tB_ (mB (oEq true) (mMeth 0 m_Frames_charge [] (mU (getF 8) (mV 3)) (mCons (mK (.int 0)) (mNil))) (mL bLen (mCons (mV 6) (mNil))))))) (sRet (mK (.bl false))) (sNx))
    (sForD (mV 6) (gV 15) (sSeq (sIf (tOr_ (tNo (tTr (mMeth 13 m_Pipes_is_there [] (mV 5) (mCons (mV 15) (mNil))))) (tB_ (mB (oEq true) (mMeth 13 m_Pipes_size [] (mV 5) (mCons (mV 15) (mNil))) (mL bLen (mCons (mB oIx (mV 6) (mV 15)) (mNil)))))) (sRet (mK (.bl false))) (sNx))
    (sSeq (sAsg (gV 16) (mLc (iRng1 (mCons (mL bLen (mCons (mB oIx (mV 6) (mV 15)) (mNil))) (mNil))) (gV 17) (tTrue) (mMeth 1 m_Pages_load [] (mU (getF 35) (mV 3)) (mCons (mK (.int 0)) (mCons (mB oAdd (mK (.int 24)) (mV 15)) (mCons (mB oMd (mB oAdd (mB oIx (mV 7) (mV 15)) (mV 17)) (mK (.int 8))) (mNil))))) [17]))
    (sIf (tB_ (mB (oEq true) (mV 16) (mB oIx (mV 6) (mV 15)))) (sRet (mK (.bl false))) (sNx))))))
def env (o0 : Option Val) (t : St) (sh : Nat) (o8 o9 o10 o11 o12 o13 o14 o15 o16 o17 : Option Val) : En := [o0, some (.ref 2), some (.int sh), some (.ref t.k.K), some (.ref t.p.M), some (.ref t.p.PO), some (.ref t.LR), some (.ref t.LH), o8, o9, o10, o11, o12, o13, o14, o15, o16, o17]
section
variable {ns : List Int} {t : St} {h h' : Heap} {sh n i : Nat} {R A B C D' : Nodes}
theorem t1 (o : On (A ++ (B ++ C)) h) : On (B ++ (C ++ A)) h := o.perm (by rw [← List.append_assoc B C A]; exact List.perm_append_comm)
/-- the law's part with the dict in any state -/
def St.nd (t : St) (x : Obj) : Nodes := (t.LR, x) :: (t.LH, .dct t.lh) :: (t.ks.map lN ++ (t.p.nodes ++ t.k.nodes))
theorem dP {x : Obj} (o : On (t.nd x) h) : Pd2 t.p h := pd2 (T := (t.LR, x) :: (t.LH, .dct t.lh) :: t.ks.map lN) (X := t.k.nodes) (o.perm (by
  unfold St.nd
  exact List.Perm.refl _))
theorem oK {x : Obj} (o : On (t.nd x) h) : On (t.k.nodes ++ ((t.LR, x) :: (t.LH, .dct t.lh) :: (t.ks.map lN ++ t.p.nodes))) h := o.perm (by
  unfold St.nd
  classical
  rw [List.perm_iff_count]
  intro y
  simp only [List.count_append, List.count_cons]
  omega)
theorem eL {x : Obj} (o : On (t.nd x) h) {r : PR} (e : gt t.ks i = some r) : h[r.la]? = some (.lst (r.wl.map Val.int)) :=
  o.at_ (r.la, .lst (r.wl.map Val.int)) (List.mem_cons_of_mem _ (List.mem_cons_of_mem _ (List.mem_append_left _ (List.mem_map.mpr ⟨(i, r), gt_mem e, rfl⟩))))
structure TlI (t : St) (o : Option Val) (sh : Nat) (ns : List Int) (o8 o9 o10 o11 o12 o13 o14 : Option Val) (i : Nat) (s' : En) (h' : Heap) : Prop where
  k : ∃ x y z, s' = env o t sh o8 o9 o10 o11 o12 o13 o14 x y z
  o : Tn 2 1 ns (t.nd (.fdc (lrOf t.ks))) h'
theorem tail_ok (J : Jn t sh n) (T : Tn 2 1 ns t.nodes h) {o0 o8 o9 o10 o12 o14 o15 o16 o17 : Option Val} {v : Val} (hv : ∀ h, oEq true v v h = .ok (.bl false) h) {D : K4}
    (hD : ∀ x y z h', Tn 2 1 ns t.nodes h' → D.nx (env o0 t sh o8 o9 o10 (some v) o12 (some v) o14 x y z) h') : wS (tailP (env o0 t sh o8 o9 o10 (some v) o12 (some v) o14 o15 o16 o17) h) D := by
  have ll := lim8
  obtain ⟨fs, en, wd, J1, hfs, hff, hen, hwd⟩ := J.J
  have o : On (t.nd (.dct (lrOf t.ks))) h := T.on
  have d := dP o
  have eh := held_ok d
  have T1 := T.ext (h' := h ++ [Obj.lst []]) ⟨_, rfl⟩
  have o1 : On (t.nd (.dct (lrOf t.ks))) (h ++ [Obj.lst []]) := T1.on
  generalize hh1 : h ++ [Obj.lst []] = h1 at eh T1 o1
  have eR := o1.get (i := 0) rfl
  have ok1 := oK o1
  have g8 := gK8 ok1
  have iF := isF (fr_of (KH.ofs ok1))
  have ec : m_Frames_charge [.ref t.k.s.F, .int 0] h1 = .ok (.int (t.ks.length : Nat)) h1 := by
    have z : m_Frames_charge [.ref t.k.s.F, .int 0] h1 = .ok (.int (t.k.s.len 0)) h1 := charge_ok J1.K (fr_of (KH.ofs ok1)) (e := 0) (by omega)
    rw [len0 J1, hfs] at z
    exact z
  have lrl : (lrOf t.ks).length = t.ks.length := by simp [lrOf]
  have hoth := J.oth
  have el := lockD_dct eR
  have T2 : Tn 2 1 ns (t.nd (.fdc (lrOf t.ks))) (h1.set t.LR (.fdc (lrOf t.ks))) := T1.set (i := 0) rfl _
  generalize h1.set t.LR (.fdc (lrOf t.ks)) = h2 at el T2
  have hko : (lrOf t.ks).map (·.1) = t.ks.map fun x => Val.int x.1 := by unfold lrOf; rw [List.map_map]; rfl
  rw [hko] at el
  unfold tailP env
  simp -implicitDefEqProofs [hv, d.iM, eh, eR, lrl, hoth, g8, iF, ec, el, -wR_getF]
  refine wS_forM (TlI t o0 sh ns o8 o9 o10 (some v) o12 (some v) o14) _ 0 _ _ ⟨⟨_, _, _, rfl⟩, T2⟩ ?_ ?_
  · rintro i x s' h' _ hx ⟨⟨x15, x16, x17, rfl⟩, T3⟩
    refine ⟨rfl, _, rfl, ?_⟩
    obtain ⟨y, hy, rfl⟩ := List.mem_map.mp (List.mem_of_getElem? hx)
    have hg := gt_of J.kn hy
    have o3 := T3.on
    have d3 := dP o3
    have hr := rows_lk hg
    rw [← J.rw_] at hr
    have e1 := there_ok d3 (i := (y.1 : Int))
    rw [hr] at e1
    have e2 := psize_ok d3 hr
    have eR3 := o3.get (i := 0) rfl
    have eH3 := o3.get (i := 1) rfl
    have hl := lr_lk hg
    have el3 := eL o3 hg
    have hlh := J.lh y hy
    obtain ⟨hd8, wl8⟩ := J.hd y hy
    have kl := J.kl y hy
    simp -implicitDefEqProofs [env, gV, d3.iP, e1, truth, e2, eR3, hl, el3, -wR_getF]
    refine ⟨by omega, ?_⟩
    refine wR_lcXi (fun j => .int (y.2.wl.getD j 0)) (by rw [rangeV_length]; omega) (fun _ _ => rfl) (fun j z h4 hz ex => ?_) (fun h4 ex ef => ?_)
    · rw [rangeV_get] at hz
      split at hz
      · rename_i hj
        cases hz
        refine ⟨_, rfl, ?_⟩
        have T4 := T3.ext ex
        have o4 := T4.on
        have ok4 := oK o4
        have g35 := gK35 ok4
        have iP := isP (pd_of (KH.ops ok4))
        have eH4 := o4.get (i := 1) rfl
        have ep := pload J1 ok4 (q := 24 + y.1) (by omega) (hen y hy) (i := (y.2.hd + j) % 8) (by omega)
        rw [hwd y hy j hj] at ep
        have q1 : ((24 + y.1 : Nat) : Int) = 24 + (y.1 : Int) := by omega
        have q2 : (((y.2.hd + j) % 8 : Nat) : Int) = ((y.2.hd : Int) + (0 + (j : Int))) % 8 := by omega
        rw [q1, q2] at ep
        simp -implicitDefEqProofs [env, wipeE, g35, iP, eH4, hlh, -wR_getF]
        simp only [Int.zero_add] at ep
        rw [ep]
        simp
        exact Ext.refl _
      · cases hz
    · rw [rangeV_length] at ef
      have T4 := T3.ext ex
      have o4 := T4.on
      have eR4 := o4.get (i := 0) rfl
      have el4 := eL o4 hg
      have ef' : h4[h'.length]? = some (.lst (y.2.wl.map Val.int)) := by
        rw [ef]
        congr 2
        apply List.ext_getElem?
        intro j
        rw [List.getElem?_map, List.getElem?_map]
        by_cases c : j < y.2.wl.length
        · rw [List.getElem?_range c, List.getElem?_eq_getElem c]
          simp [List.getD_eq_getElem?_getD, c]
        · rw [List.getElem?_eq_none (by simpa using c), List.getElem?_eq_none (by omega)]
          rfl
      have eq4 := oEq_ints ef' el4
      simp -implicitDefEqProofs [env, gV, eR4, hl, eq4]
      exact ⟨⟨_, _, _, rfl⟩, T4⟩
  · rintro s' h' ⟨⟨x, y, z, rfl⟩, T3⟩
    refine ⟨rfl, ?_⟩
    have eR3 := T3.on.get (i := 0) rfl
    show (match unlH t.LR h' with | some h2 => D.nx _ h2 | none => False)
    rw [unlH_fdc eR3]
    exact hD _ _ _ _ (T3.set (i := 0) rfl (.dct (lrOf t.ks)))
end
end Lw

set_option Elab.async false
set_option linter.all false
set_option autoImplicit false
set_option maxHeartbeats 4000000
set_option maxRecDepth 100000
namespace Lw
open PyM
theorem lv_L (ks : List (Nat × PR)) : lv (rowsOf ks) = match (List.range 4).filter fun i => (gt ks i).isNone with | i :: _ => .int (i : Nat) | [] => .non := by
  have e : ∀ i : Nat, (lookV (rowsOf ks) (.int (i : Nat))).isSome = (gt ks i).isSome := fun i => by
    cases q : gt ks i with
    | none => rw [rows_no q]; rfl
    | some r => rw [rows_lk q]; rfl
  have r4 : List.range 4 = [0, 1, 2, 3] := rfl
  unfold lv
  have e0 : (lookV (rowsOf ks) (.int 0)).isSome = (gt ks 0).isSome := e 0
  have e1 : (lookV (rowsOf ks) (.int 1)).isSome = (gt ks 1).isSome := e 1
  have e2 : (lookV (rowsOf ks) (.int 2)).isSome = (gt ks 2).isSome := e 2
  have e3 : (lookV (rowsOf ks) (.int 3)).isSome = (gt ks 3).isSome := e 3
  rw [e0, e1, e2, e3, r4]
  cases c0 : gt ks 0 <;> cases c1 : gt ks 1 <;> cases c2 : gt ks 2 <;> cases c3 : gt ks 3 <;> simp [List.filter, c0, c1, c2, c3]
theorem putV_new {g : Nat × PR → Val} {i : Nat} {v : Val} {ks : List (Nat × PR)} (e : gt ks i = none) : putV (ks.map fun x => (Val.int x.1, g x)) (.int i) v = (ks.map fun x => (Val.int x.1, g x)) ++ [(.int i, v)] := by
  unfold putV
  have : ((ks.map fun x => (Val.int x.1, g x)).any fun kv => decide (kv.1 = .int (i : Nat))) = false := by
    rw [List.any_eq_false]
    intro y hy
    obtain ⟨x, hx, rfl⟩ := List.mem_map.mp hy
    have := List.find?_eq_none.mp (gt_none.mp e) x hx
    simp only [decide_eq_true_eq] at this ⊢
    exact fun z => this (by injection z; omega)
  rw [this]
  rfl
def makeP : En → Heap → RS := (sSeq (sAsg (gV 12) (mLc (iRng1 (mCons (mK (.int 4)) (mNil))) (gV 15) (tB_ (mB (oIn true) (mV 15) (mV 6))) (mV 15) [15]))
    (sSeq (sIf (tAn (tTr (mV 12)) (tB_ (mB oLt (mL bLen (mCons (mV 6) (mNil))) (mV 2)))) (sSeq (sAsg (gV 11) (mB oIx (mV 12) (mK (.int 0))))
    (sSeq (sSub (mV 6) (mV 11) (mLst (mNil)))
    (sSub (mV 7) (mV 11) (mK (.int 0))))) (sNx))
    (sAsg (gV 13) (mCall m__law_run [] (mCons (mV 3) (mCons (mMake 14 m_Make___init__ [] (mCons (mV 5) (mNil))) (mNil)))))))
section
variable {ns : List Int} {t : St} {h h' : Heap} {sh n i : Nat} {R A B C D' : Nodes} {o0 o8 o9 o10 o12 o13 o14 o15 o16 o17 : Option Val} {D : K4}
structure Sm (t t' : St) : Prop where
  K : t'.k.K = t.k.K
  M : t'.p.M = t.p.M
  P : t'.p.PO = t.p.PO
  R : t'.LR = t.LR
  H : t'.LH = t.LH
/-- what a deed leaves -/
def Post (ns : List Int) (t : St) (sh n : Nat) (o0 o8 o9 o10 : Option Val) (D : K4) : Prop := ∀ (t' : St) (v : Val) (o12 o14 o15 o16 o17 : Option Val) (h' : Heap), Jn t' sh (n + 1) → Tn 2 1 ns t'.nodes h' → Sm t t' → (∀ h, oEq true v v h = .ok (.bl false) h) → D.nx (env o0 t' sh o8 o9 o10 (some v) o12 (some v) o14 o15 o16 o17) h'
theorem env_sm {t' : St} (s : Sm t t') {o11 o13 : Option Val} : env o0 t' sh o8 o9 o10 o11 o12 o13 o14 o15 o16 o17 = env o0 t sh o8 o9 o10 o11 o12 o13 o14 o15 o16 o17 := by
  unfold env
  rw [s.K, s.M, s.P, s.R, s.H]
theorem Jn.mono (J : Jn t sh n) {m : Nat} (hm : n ≤ m) (h2 : m < 900) : Jn t sh m := by
  obtain ⟨fs, en, wd, J1, q⟩ := J.J
  exact { J with J := ⟨fs, en, wd, J1.mono hm (by omega), q⟩, ll := Nat.le_trans J.ll hm, n0 := h2 }
def St.mk1 (t : St) (k' : KH) (i f a : Nat) : St := { t with k := k', p := { t.p with oth := t.p.oth + 1, rows := putV t.p.rows (.int (i : Nat)) (.tup [.int (f : Nat), .int 0, .int 0]) }, lh := putV t.lh (.int (i : Nat)) (.int 0), ks := t.ks ++ [(i, ⟨f, 0, [], a⟩)] }
theorem Jn.made (J : Jn t sh n) (hn : n + 1 < 900) {fs : List Nat} {en : Nat → Option (Nat × Nat)} {wd : Nat → List Int} {k' : KH} {f a : Nat} (J1 : K1 t.k fs en wd sh n) (hfs : fs.length = t.ks.length) (hff : ∀ x ∈ t.ks, x.2.f ∈ fs) (hen : ∀ x ∈ t.ks, en (24 + x.1) = some (x.2.f, 0))
    (hwd : ∀ x ∈ t.ks, ∀ j : Nat, j < x.2.wl.length → (wd x.2.f).getD ((x.2.hd + j) % 8) 0 = x.2.wl.getD j 0) (hi : i < 4) (hg : gt t.ks i = none) (hf : f ∉ fs) (q : K1 k' (fs ++ [f]) (fu en (24 + i) (some (f, 0))) (fu wd f (List.replicate 8 0)) sh (n + 1)) : Jn (t.mk1 k' i f a) sh (n + 1) := by
  have hne : ∀ x ∈ t.ks, x.1 ≠ i := fun x hx e => by
    have := List.find?_eq_none.mp (gt_none.mp hg) x hx
    simp at this
    exact this e
  have hnf : ∀ x ∈ t.ks, x.2.f ≠ f := fun x hx e => hf (by rw [← e]; exact hff x hx)
  have mem : ∀ x ∈ (t.mk1 k' i f a).ks, x ∈ t.ks ∨ x = (i, ⟨f, 0, [], a⟩) := fun x hx => by
    rcases List.mem_append.mp hx with h | h
    · exact .inl h
    · exact .inr (List.mem_singleton.mp h)
  refine ⟨⟨fs ++ [f], _, _, q, ?_, fun x hx => ?_, fun x hx => ?_, fun x hx j hj => ?_⟩, ?_, ?_, ?_, J.psh, J.s1, J.s2, ?_, fun x hx => ?_, fun x hx => ?_, fun x hx => ?_, ?_, hn⟩
  · show _ = (t.ks ++ _).length
    simp [hfs]
  · rcases mem x hx with h | rfl
    · exact List.mem_append_left _ (hff x h)
    · simp
  · unfold fu
    rcases mem x hx with h | rfl
    · rw [if_neg (by have := hne x h; omega)]; exact hen x h
    · simp
  · unfold fu
    rcases mem x hx with h | rfl
    · rw [if_neg (hnf x h)]; exact hwd x h j hj
    · simp at hj
  · show ((t.ks ++ _).map _).Nodup
    rw [List.map_append, List.nodup_append]
    refine ⟨J.fn, by simp, fun x hx y hy => ?_⟩
    obtain ⟨z, hz, rfl⟩ := List.mem_map.mp hx
    simp at hy
    subst hy
    exact hnf z hz
  · show putV t.p.rows _ _ = rowsOf (t.ks ++ _)
    rw [J.rw_]
    unfold rowsOf
    rw [putV_new hg, List.map_append]
    rfl
  · show t.p.oth + 1 = ((t.ks ++ _).length : Nat)
    rw [J.oth]; simp
  · show ((t.ks ++ _).map _).Nodup
    rw [List.map_append, List.nodup_append]
    refine ⟨J.kn, by simp, fun x hx y hy => ?_⟩
    obtain ⟨z, hz, rfl⟩ := List.mem_map.mp hx
    simp at hy
    subst hy
    exact hne z hz
  · rcases mem x hx with h | rfl
    · exact J.kl x h
    · exact hi
  · rcases mem x hx with h | rfl
    · exact J.hd x h
    · simp
  · show lookV (putV t.lh _ _) _ = _
    rw [lookV_put]
    rcases mem x hx with h | rfl
    · rw [if_neg (fun z => hne x h (by injection z; omega))]; exact J.lh x h
    · simp
  · show (putV t.lh _ _).length ≤ n + 1
    have := J.ll
    exact Nat.le_trans putV_len (by omega)
theorem mv {x y : Nat × Obj} {X Y Z : Nodes} : (x :: y :: (X ++ (Y ++ Z))).Perm (Y ++ (Z ++ (x :: y :: X))) := by
  classical
  rw [List.perm_iff_count]
  intro z
  simp only [List.count_append, List.count_cons]
  omega
theorem make_ok (J : Jn t sh n) (hn : n + 1 < 900) (T : Tn 2 1 ns t.nodes h) (hD : Post ns t sh n o0 o8 o9 o10 D) : wS (makeP (env o0 t sh o8 o9 o10 (some .non) o12 o13 o14 o15 o16 o17) h) D := by
  have ll := lim8
  have l0 : 0 ≤ lim := by omega
  obtain ⟨fs, en, wd, J1, hfs, hff, hen, hwd⟩ := J.J
  have lrl : (lrOf t.ks).length = t.ks.length := by simp [lrOf]
  have kslt : t.ks.length ≤ 6 := by have := J1.fl; have := J.s2; omega
  have eR := T.on.get (i := 0) rfl
  have hoth := J.oth
  have hpsh := J.psh
  have hlv := lv_L t.ks
  rw [← J.rw_] at hlv
  have hrl : t.p.rows.length < 1000 := by rw [J.rw_]; simp [rowsOf]; omega
  unfold makeP env
  simp -implicitDefEqProofs
  refine wR_lcPure (fun x => !(lookV (lrOf t.ks) x).isSome) (fun x => x) (by rw [rangeV_length]; omega) (fun _ => rfl) (fun x acc hx => ?_) ?_
  · obtain ⟨j, hj⟩ := List.mem_iff_getElem?.mp hx
    rw [rangeV_get] at hj
    split at hj
    · cases hj
      have e := oIn_dct (neg := true) (at_push (g := [Obj.lst acc]) eR) (x := .int (0 + (j : Int))) rfl
      refine ⟨_, rfl, ?_, fun _ => ?_⟩
      · simp -implicitDefEqProofs [wipeE, e, gV]
        simp only [Int.zero_add] at e
        simp -implicitDefEqProofs [e]
      · simp -implicitDefEqProofs [wipeE, gV]
    · cases hj
  have ef : ((rangeV 0 4).filter fun x => !(lookV (lrOf t.ks) x).isSome) = ((List.range 4).filter fun i => (gt t.ks i).isNone).map fun (i : Nat) => Val.int i := filter_range (fun i _ => by
    cases q : gt t.ks i with
    | none => rw [lr_no q]; rfl
    | some r => rw [lr_lk q]; rfl)
  rw [ef, List.map_id']
  have T1 := T.new (Obj.lst (((List.range 4).filter fun i => (gt t.ks i).isNone).map fun (i : Nat) => Val.int i))
  have eq1 := T1.on.get (i := 0) rfl
  have T2 := T1.drop1
  generalize hhl : h.length = b at eq1
  generalize h ++ [Obj.lst (((List.range 4).filter fun i => (gt t.ks i).isNone).map fun (i : Nat) => Val.int i)] = h1 at T2 eq1
  have eR1 := T2.on.get (i := 0) rfl
  have no : (lv t.p.rows = .non ∨ sh ≤ t.ks.length) → ∃ h2 h3, m_Make___init__ [.ref h1.length, .ref t.p.PO] (h1 ++ [.ins 14 []]) = .ok .non h2 ∧ m__law_run [.ref t.k.K, .ref h1.length] h2 = .ok .non h3 ∧ Tn 2 1 ns t.nodes h3 := fun c => by
    have hw : mkW t.p = .tup [.str 5, .non] := by
      unfold mkW
      rw [hoth, hpsh, if_pos]
      rcases c with c | c
      · exact .inl c
      · exact .inr (by omega)
    obtain ⟨x, h3, ⟨h2, q1, q2⟩, q3⟩ := (T2.perm (mv (x := (t.LR, .dct (lrOf t.ks))) (y := (t.LH, .dct t.lh)) (X := t.ks.map lN) (Y := t.p.nodes) (Z := t.k.nodes))).op (α := Unit) (A := t.p.nodes) (P := fun _ h3 => ∃ h2, m_Make___init__ [.ref h1.length, .ref t.p.PO] (h1 ++ [.ins 14 []]) = .ok .non h2 ∧ m__law_run [.ref t.k.K, .ref h1.length] h2 = .ok .non h3) (A' := fun _ => t.p.nodes) (fun R o => by
      obtain ⟨h2, h3, q1, q2, q3⟩ := make_no (y := .ref t.k.K) o hw
      exact ⟨(), h3, ⟨h2, q1, q2⟩, q3⟩)
    exact ⟨h2, h3, q1, q2, q3.perm mv.symm⟩
  have eqn : ∀ h, oEq true .non .non h = .ok (.bl false) h := fun h => oEq_self (x := .non) (neg := true) (h := h) rfl
  cases hL : (List.range 4).filter fun i => (gt t.ks i).isNone with
  | nil =>
    rw [hL] at eq1 hlv
    obtain ⟨h2, h3, q1, q2, T3⟩ := no (.inl hlv)
    simp -implicitDefEqProofs [gV, hhl, eq1, truth, q1, q2]
    exact hD t .non _ _ _ _ _ h3 (J.mono (by omega) hn) T3 ⟨rfl, rfl, rfl, rfl, rfl⟩ eqn
  | cons i l =>
    rw [hL] at eq1 hlv
    have hi : i < 4 ∧ gt t.ks i = none := by
      have : i ∈ (List.range 4).filter fun i => (gt t.ks i).isNone := by rw [hL]; exact List.mem_cons_self
      obtain ⟨h1, h2⟩ := List.mem_filter.mp this
      exact ⟨List.mem_range.mp h1, by simpa using h2⟩
    by_cases c : t.ks.length < sh
    · have c' : ((t.ks.length : Nat) : Int) < sh := by omega
      -- the law's part
      have T3 := T2.new (Obj.lst [])
      have eR3 := T3.on.get (i := 1) rfl
      have T4 := T3.set (i := 1) rfl (.dct (putV (lrOf t.ks) (.int (i : Nat)) (.ref h1.length)))
      have s4 : oSet (.ref t.LR) (.int (i : Nat)) (.ref h1.length) (h1 ++ [Obj.lst []]) = .ok () ((h1 ++ [Obj.lst []]).set t.LR (.dct (putV (lrOf t.ks) (.int (i : Nat)) (.ref h1.length)))) := by
        refine eq_of_wR ?_
        simp -implicitDefEqProofs only [wR_oSetI, eR3]
        exact ⟨by rw [lrl]; omega, trivial, trivial⟩
      generalize hla : h1.length = a at s4 T4
      have T4' : Tn 2 1 ns ((a, .lst []) :: (t.LR, .dct (putV (lrOf t.ks) (.int (i : Nat)) (.ref a))) :: (t.LH, .dct t.lh) :: (t.ks.map lN ++ (t.p.nodes ++ t.k.nodes))) ((h1 ++ [Obj.lst []]).set t.LR (.dct (putV (lrOf t.ks) (.int (i : Nat)) (.ref a)))) := T4
      generalize (h1 ++ [Obj.lst []]).set t.LR (.dct (putV (lrOf t.ks) (.int (i : Nat)) (.ref a))) = h4 at s4 T4'
      have eH4 := T4'.on.get (i := 2) rfl
      have T5 := T4'.set (i := 2) rfl (.dct (putV t.lh (.int (i : Nat)) (.int 0)))
      have hll := J.ll
      have s5 : oSet (.ref t.LH) (.int (i : Nat)) (.int 0) h4 = .ok () (h4.set t.LH (.dct (putV t.lh (.int (i : Nat)) (.int 0)))) := by
        refine eq_of_wR ?_
        simp -implicitDefEqProofs only [wR_oSetI, eH4]
        exact ⟨by omega, trivial, trivial⟩
      have T5' : Tn 2 1 ns ((t.LR, .dct (putV (lrOf t.ks) (.int (i : Nat)) (.ref a))) :: (t.LH, .dct (putV t.lh (.int (i : Nat)) (.int 0))) :: ((t.ks.map lN ++ [(a, .lst [])]) ++ (t.p.nodes ++ t.k.nodes))) (h4.set t.LH (.dct (putV t.lh (.int (i : Nat)) (.int 0)))) := T5.perm (by
        classical
        rw [List.perm_iff_count]
        intro z
        simp only [List.set_cons_succ, List.set_cons_zero, List.count_append, List.count_cons, List.count_nil]
        omega)
      generalize h4.set t.LH (.dct (putV t.lh (.int (i : Nat)) (.int 0))) = h5 at s5 T5'
      have hw : mkW t.p = .tup [.str 11] := by
        unfold mkW
        rw [hoth, hpsh, hlv, if_neg]
        rintro (z | z)
        · cases z
        · omega
      have T5'' := T5'.perm mv
      rw [← List.append_assoc] at T5''
      obtain ⟨⟨f, k'⟩, h7, ⟨h6, q1, q2, q3, q4, q5, q6⟩, T7⟩ := T5''.op (α := Nat × KH) (A := t.p.nodes ++ t.k.nodes) (P := fun z h7 => ∃ h6, m_Make___init__ [.ref h5.length, .ref t.p.PO] (h5 ++ [.ins 14 []]) = .ok .non h6 ∧ m__law_run [.ref t.k.K, .ref h5.length] h6 = .ok (.int (i : Nat)) h7 ∧ z.1 ∉ fs ∧ z.2.K = t.k.K ∧ z.2.s.many = t.k.s.many ∧ K1 z.2 (fs ++ [z.1]) (fu en (24 + i) (some (z.1, 0))) (fu wd z.1 (List.replicate 8 0)) sh (n + 1))
        (A' := fun z => ({ t.p with oth := t.p.oth + 1, rows := putV t.p.rows (.int (i : Nat)) (.tup [.int (z.1 : Nat), .int 0, .int 0]) } : PP).nodes ++ z.2.nodes) (fun R o => by
          rw [List.append_assoc] at o
          obtain ⟨h6, h7, f, k', q1, q2, q3, q4, q5, q6, q7⟩ := make_yes J1 (by omega) o hi.1 hlv hw hrl (by rw [hfs]; exact c)
          exact ⟨(f, k'), h7, ⟨h6, q1, q2, q3, q4, q5, q6⟩, by rw [List.append_assoc]; exact q7⟩)
      simp only at q3 q4 q5 q6 T7
      simp -implicitDefEqProofs [gV, hhl, eq1, truth, eR1, lrl, c', l0, hla, s4, s5, q1, q2, -wR_oSetI]
      have J' := J.made hn J1 hfs hff hen hwd hi.1 hi.2 q3 q6 (a := a)
      have T' : Tn 2 1 ns (t.mk1 k' i f a).nodes h7 := T7.perm (by
        unfold St.nodes St.mk1
        simp only [lrOf, List.map_append, List.map_cons, List.map_nil, putV_new (g := fun x => .ref x.2.la) hi.2, lN]
        classical
        rw [List.perm_iff_count]
        intro z
        simp only [List.count_append, List.count_cons, List.count_nil]
        omega)
      have z := hD (t.mk1 k' i f a) (.int (i : Nat)) (some (.ref b)) o14 o15 o16 o17 h7 J' T' ⟨q4, rfl, rfl, rfl, rfl⟩ (fun h => oEq_self (x := .int (i : Nat)) (neg := true) (h := h) rfl)
      rw [env_sm (t := t) (t' := t.mk1 k' i f a) ⟨q4, rfl, rfl, rfl, rfl⟩] at z
      exact z
    · have c' : ¬ ((t.ks.length : Nat) : Int) < sh := by omega
      obtain ⟨h2, h3, q1, q2, T3⟩ := no (.inr (by omega))
      simp -implicitDefEqProofs [gV, hhl, eq1, truth, eR1, lrl, c', q1, q2]
      exact hD t .non _ _ _ _ _ h3 (J.mono (by omega) hn) T3 ⟨rfl, rfl, rfl, rfl, rfl⟩ eqn
end
end Lw

set_option Elab.async false
set_option linter.all false
set_option autoImplicit false
set_option maxHeartbeats 4000000
set_option maxRecDepth 100000
namespace Lw
open PyM
section
variable {ks : List (Nat × PR)} {i j : Nat} {r r' : PR} {g : Nat × PR → Val} {v : Val}
theorem nd_ix {α β : Type} {l : List α} {f : α → β} (nd : (l.map f).Nodup) {a b : Nat} {x y : α} (ha : l[a]? = some x) (hb : l[b]? = some y) (e : f x = f y) : a = b := by
  have h1 : (l.map f)[a]? = some (f x) := by rw [List.getElem?_map, ha]; rfl
  have h2 : (l.map f)[b]? = some (f y) := by rw [List.getElem?_map, hb]; rfl
  obtain ⟨l1, e1⟩ := List.getElem?_eq_some_iff.mp h1
  obtain ⟨l2, e2⟩ := List.getElem?_eq_some_iff.mp h2
  exact (List.getElem_inj nd).mp (e1.trans (e.trans e2.symm))
theorem mem_st (kn : (ks.map (·.1)).Nodup) (fn : (ks.map (·.2.f)).Nodup) (hj : ks[j]? = some (i, r)) {x : Nat × PR} (hx : x ∈ ks.set j (i, r')) : x = (i, r') ∨ (x ∈ ks ∧ x.1 ≠ i ∧ x.2.f ≠ r.f) := by
  obtain ⟨a, ha⟩ := List.mem_iff_getElem?.mp hx
  rw [List.getElem?_set] at ha
  split at ha
  · split at ha
    · cases ha; exact .inl rfl
    · cases ha
  · rename_i hn
    refine .inr ⟨List.mem_of_getElem? ha, fun e => hn ?_, fun e => hn ?_⟩
    · exact nd_ix (f := fun x : Nat × PR => x.1) kn hj ha e.symm
    · exact nd_ix (f := fun x : Nat × PR => x.2.f) fn hj ha e.symm
theorem mem_er (kn : (ks.map (·.1)).Nodup) (fn : (ks.map (·.2.f)).Nodup) (hj : ks[j]? = some (i, r)) {x : Nat × PR} (hx : x ∈ ks.eraseIdx j) : x ∈ ks ∧ x.1 ≠ i ∧ x.2.f ≠ r.f := by
  obtain ⟨a, ha⟩ := List.mem_iff_getElem?.mp hx
  rw [List.getElem?_eraseIdx] at ha
  split at ha
  · exact ⟨List.mem_of_getElem? ha, fun e => by have := nd_ix (f := fun x : Nat × PR => x.1) kn hj ha e.symm; omega, fun e => by have := nd_ix (f := fun x : Nat × PR => x.2.f) fn hj ha e.symm; omega⟩
  · exact ⟨List.mem_of_getElem? ha, fun e => by have := nd_ix (f := fun x : Nat × PR => x.1) kn hj ha e.symm; omega, fun e => by have := nd_ix (f := fun x : Nat × PR => x.2.f) fn hj ha e.symm; omega⟩
theorem set_same {α : Type} {l : List α} {j : Nat} {x : α} (h : l[j]? = some x) : l.set j x = l := by
  apply List.ext_getElem?
  intro k
  rw [List.getElem?_set]
  split
  · rename_i e; subst e; rw [if_pos (List.getElem?_eq_some_iff.mp h).1, h]
  · rfl
theorem putV_at (nd : (ks.map (·.1)).Nodup) (hj : ks[j]? = some (i, r)) : putV (ks.map fun x => (Val.int x.1, g x)) (.int i) v = (ks.map fun x => (Val.int x.1, g x)).set j (.int i, v) := by
  unfold putV
  have ha : ((ks.map fun x => (Val.int x.1, g x)).any fun kv => decide (kv.1 = .int (i : Nat))) = true := by
    rw [List.any_eq_true]
    exact ⟨_, List.mem_map.mpr ⟨_, List.mem_of_getElem? hj, rfl⟩, by simp⟩
  rw [if_pos ha]
  apply List.ext_getElem?
  intro k
  rw [List.getElem?_map, List.getElem?_set, List.getElem?_map]
  by_cases c : j = k
  · subst c
    have hl := (List.getElem?_eq_some_iff.mp hj).1
    rw [if_pos rfl, hj, if_pos (by simpa using hl)]
    simp
  · rw [if_neg c]
    cases q : ks[k]? with
    | none => rfl
    | some y =>
      have : y.1 ≠ i := fun e => c (nd_ix (f := fun x : Nat × PR => x.1) nd hj q e.symm)
      have h2 : ¬ (Val.int (y.1 : Nat) = .int (i : Nat)) := fun z => this (by injection z; omega)
      simp [h2]
theorem dropV_at : ∀ {ks : List (Nat × PR)} {j : Nat}, (ks.map (·.1)).Nodup → ks[j]? = some (i, r) → dropV (ks.map fun x => (Val.int x.1, g x)) (.int i) = (ks.eraseIdx j).map fun x => (Val.int x.1, g x)
  | [], j, _, h => by simp at h
  | y :: ks, 0, nd, h => by
    simp at h
    subst h
    rw [List.map_cons, List.nodup_cons] at nd
    unfold dropV
    rw [List.map_cons, List.filter_cons_of_neg (by simp), List.eraseIdx_cons_zero, List.filter_eq_self]
    intro x hx
    obtain ⟨z, hz, rfl⟩ := List.mem_map.mp hx
    simp only [decide_eq_true_eq]
    intro e
    exact nd.1 (List.mem_map.mpr ⟨z, hz, by injection e; omega⟩)
  | y :: ks, j + 1, nd, h => by
    rw [List.map_cons, List.nodup_cons] at nd
    have ih := dropV_at (j := j) nd.2 (by simpa using h)
    have hne : y.1 ≠ i := fun e => nd.1 (List.mem_map.mpr ⟨(i, r), List.mem_of_getElem? (by simpa using h), e.symm⟩)
    unfold dropV at ih ⊢
    rw [List.map_cons, List.filter_cons_of_pos (by simp; omega), ih, List.eraseIdx_cons_succ, List.map_cons]
end
section
variable {ns : List Int} {t : St} {h h' : Heap} {sh n i j : Nat} {r r' : PR} {k' : KH} {fs : List Nat} {en : Nat → Option (Nat × Nat)} {wd wd' : Nat → List Int}
def rv (r : PR) : Val := .tup [.int (r.f : Nat), .int (r.hd : Nat), .int (r.wl.length : Nat)]
def St.up1 (t : St) (k' : KH) (i j : Nat) (r' : PR) (lh' : List (Val × Val)) : St := { t with k := k', p := { t.p with rows := putV t.p.rows (.int (i : Nat)) (rv r') }, lh := lh', ks := t.ks.set j (i, r') }
theorem Jn.updd (J : Jn t sh n) (hn : n + 1 < 900) (hj : t.ks[j]? = some (i, r)) (hf : r'.f = r.f) (J1 : K1 k' fs en wd' sh (n + 1)) (hfs : fs.length = t.ks.length) (hff : ∀ x ∈ t.ks, x.2.f ∈ fs) (hen : ∀ x ∈ t.ks, en (24 + x.1) = some (x.2.f, 0))
    (hwd : ∀ x ∈ t.ks, ∀ j : Nat, j < x.2.wl.length → (wd x.2.f).getD ((x.2.hd + j) % 8) 0 = x.2.wl.getD j 0) (ho : ∀ g, g ≠ r.f → wd' g = wd g) (hw' : ∀ a : Nat, a < r'.wl.length → (wd' r.f).getD ((r'.hd + a) % 8) 0 = r'.wl.getD a 0) (h8 : r'.hd < 8 ∧ r'.wl.length ≤ 8)
    {lh' : List (Val × Val)} (hl : ∀ x ∈ t.ks, x.1 ≠ i → lookV lh' (.int x.1) = lookV t.lh (.int x.1)) (hl2 : lookV lh' (.int i) = some (.int r'.hd)) (hl3 : lh'.length ≤ n + 1) : Jn (t.up1 k' i j r' lh') sh (n + 1) := by
  have mem : ∀ x ∈ (t.up1 k' i j r' lh').ks, x = (i, r') ∨ (x ∈ t.ks ∧ x.1 ≠ i ∧ x.2.f ≠ r.f) := fun x hx => mem_st J.kn J.fn hj hx
  have hm := List.mem_of_getElem? hj
  refine ⟨⟨fs, en, wd', J1, ?_, fun x hx => ?_, fun x hx => ?_, fun x hx a ha => ?_⟩, ?_, ?_, ?_, J.psh, J.s1, J.s2, ?_, fun x hx => ?_, fun x hx => ?_, fun x hx => ?_, hl3, hn⟩
  · show _ = (t.ks.set j _).length
    rw [List.length_set]; exact hfs
  · rcases mem x hx with rfl | ⟨h1, _, _⟩
    · show r'.f ∈ fs
      rw [hf]; exact hff _ hm
    · exact hff x h1
  · rcases mem x hx with rfl | ⟨h1, _, _⟩
    · show en (24 + i) = some (r'.f, 0)
      rw [hf]; exact hen _ hm
    · exact hen x h1
  · rcases mem x hx with rfl | ⟨h1, _, h3⟩
    · show (wd' r'.f).getD _ 0 = _
      rw [hf]; exact hw' a ha
    · rw [ho _ h3]; exact hwd x h1 a ha
  · show ((t.ks.set j (i, r')).map (·.2.f)).Nodup
    rw [List.map_set, set_same (by rw [List.getElem?_map, hj]; show some r.f = some r'.f; rw [hf])]
    exact J.fn
  · show putV t.p.rows _ _ = rowsOf (t.ks.set j _)
    rw [J.rw_]
    unfold rowsOf
    rw [putV_at J.kn hj, List.map_set]
    rfl
  · show t.p.oth = ((t.ks.set j _).length : Nat)
    rw [List.length_set]; exact J.oth
  · show ((t.ks.set j (i, r')).map (·.1)).Nodup
    rw [List.map_set, set_same (by rw [List.getElem?_map, hj]; rfl)]
    exact J.kn
  · rcases mem x hx with rfl | ⟨h1, _, _⟩
    · exact J.kl (i, r) hm
    · exact J.kl x h1
  · rcases mem x hx with rfl | ⟨h1, _, _⟩
    · exact h8
    · exact J.hd x h1
  · rcases mem x hx with rfl | ⟨h1, h2, _⟩
    · exact hl2
    · show lookV lh' _ = _
      rw [hl x h1 h2]; exact J.lh x h1
def St.en1 (t : St) (k' : KH) (i j : Nat) : St := { t with k := k', p := { t.p with oth := t.p.oth - 1, rows := dropV t.p.rows (.int (i : Nat)) }, ks := t.ks.eraseIdx j }
theorem Jn.ended (J : Jn t sh n) (hn : n + 1 < 900) (hj : t.ks[j]? = some (i, r)) (hfs : fs.length = t.ks.length) (hff : ∀ x ∈ t.ks, x.2.f ∈ fs) (hen : ∀ x ∈ t.ks, en (24 + x.1) = some (x.2.f, 0))
    (hwd : ∀ x ∈ t.ks, ∀ j : Nat, j < x.2.wl.length → (wd x.2.f).getD ((x.2.hd + j) % 8) 0 = x.2.wl.getD j 0) (J1 : K1 k' (fs.erase r.f) (enF (fu en (24 + i) none) r.f) wd sh n) : Jn (t.en1 k' i j) sh (n + 1) := by
  have mem : ∀ x ∈ (t.en1 k' i j).ks, x ∈ t.ks ∧ x.1 ≠ i ∧ x.2.f ≠ r.f := fun x hx => mem_er J.kn J.fn hj hx
  have hm := List.mem_of_getElem? hj
  have hl := (List.getElem?_eq_some_iff.mp hj).1
  have le : (t.ks.eraseIdx j).length + 1 = t.ks.length := by rw [List.length_eraseIdx_of_lt hl]; omega
  have hll := J.ll
  refine ⟨⟨fs.erase r.f, _, wd, J1.mono (Nat.le_succ n) (by omega), ?_, fun x hx => ?_, fun x hx => ?_, fun x hx a ha => ?_⟩, ?_, ?_, ?_, J.psh, J.s1, J.s2, ?_, fun x hx => ?_, fun x hx => ?_, fun x hx => ?_, ?_, hn⟩
  · show _ = (t.ks.eraseIdx j).length
    rw [List.length_erase_of_mem (hff _ hm)]
    show fs.length - 1 = _
    omega
  · obtain ⟨h1, _, h3⟩ := mem x hx
    exact (List.mem_erase_of_ne h3).mpr (hff x h1)
  · obtain ⟨h1, h2, h3⟩ := mem x hx
    unfold enF fu
    rw [if_neg (by omega), hen x h1]
    simp [Option.filter, h3]
  · obtain ⟨h1, _, _⟩ := mem x hx
    exact hwd x h1 a ha
  · show ((t.ks.eraseIdx j).map (·.2.f)).Nodup
    exact (List.Sublist.map _ (List.eraseIdx_sublist ..)).nodup J.fn
  · show dropV t.p.rows _ = rowsOf (t.ks.eraseIdx j)
    rw [J.rw_]
    unfold rowsOf
    exact dropV_at J.kn hj
  · show t.p.oth - 1 = ((t.ks.eraseIdx j).length : Nat)
    rw [J.oth]; omega
  · show ((t.ks.eraseIdx j).map (·.1)).Nodup
    exact (List.Sublist.map _ (List.eraseIdx_sublist ..)).nodup J.kn
  · exact J.kl x (mem x hx).1
  · exact J.hd x (mem x hx).1
  · exact J.lh x (mem x hx).1
  · show t.lh.length ≤ n + 1
    omega
end
end Lw

set_option Elab.async false
set_option linter.all false
set_option autoImplicit false
set_option maxHeartbeats 4000000
set_option maxRecDepth 100000
namespace Lw
open PyM
theorem perm_er {α : Type} {x : α} : ∀ {l : List α} {j : Nat}, l[j]? = some x → l.Perm (x :: l.eraseIdx j)
  | [], _, h => by simp at h
  | y :: l, 0, h => by simp at h; subst h; exact List.Perm.refl _
  | y :: l, j + 1, h => ((perm_er (l := l) (j := j) (by simpa using h)).cons y).trans (List.Perm.swap x y _)
theorem nx_eq : m__law_next = m_next := rfl
def runP (c : Nat) (m : List Val → Heap → Res Val) (a : En → Heap → Res (List Val)) : En → Heap → RS := sAsg (gV 13) (mCall m__law_run [] (mCons (mV 3) (mCons (mMake c m [] a) (mNil))))
def putP : En → Heap → RS := (sSeq (sAsg (gV 14) (mCall m__law_next [] (mCons (mV 1) (mCons (mK (.int 1000)) (mNil)))))
    (sSeq (sAsg (gV 11) (mB oLt (mL bLen (mCons (mB oIx (mV 6) (mV 10)) (mNil))) (mK (.int 8))))
    (sSeq (sIf (tTr (mV 11)) (sDrop (mBM bAppend (mB oIx (mV 6) (mV 10)) (mCons (mV 14) (mNil)))) (sNx))
    (runP 15 m_Put___init__ (mCons (mV 5) (mCons (mV 10) (mCons (mV 14) (mNil))))))))
def takeP : En → Heap → RS := (sSeq (sIf (tTr (mB oIx (mV 6) (mV 10))) (sSeq (sAsg (gV 11) (mBM bPopAt (mB oIx (mV 6) (mV 10)) (mCons (mK (.int 0)) (mNil))))
    (sSub (mV 7) (mV 10) (mB oMd (mB oAdd (mB oIx (mV 7) (mV 10)) (mK (.int 1))) (mK (.int 8))))) (sNx))
    (runP 16 m_Take___init__ (mCons (mV 5) (mCons (mV 10) (mNil)))))
def endP : En → Heap → RS := (sSeq (sDrop (mPop1 (mV 6) (mV 10))) (runP 17 m_End___init__ (mCons (mV 5) (mCons (mV 10) (mNil)))))
section
variable {ns : List Int} {t : St} {h h' : Heap} {sh n i j : Nat} {r r' : PR} {o0 o8 o9 o10 o12 o13 o14 o15 o16 o17 : Option Val} {D : K4}
theorem la_at (hj : t.ks[j]? = some (i, r)) {x y : Nat × Obj} {Z : Nodes} : (x :: y :: (t.ks.map lN ++ Z))[j + 2]? = some (r.la, .lst (r.wl.map Val.int)) := by
  show (t.ks.map lN ++ Z)[j]? = _
  rw [List.getElem?_append_left (by simpa using (List.getElem?_eq_some_iff.mp hj).1), List.getElem?_map, hj]
  rfl
theorem la_set (hj : t.ks[j]? = some (i, r)) {x y : Nat × Obj} {Z : Nodes} {o : Obj} : (x :: y :: (t.ks.map lN ++ Z)).set (j + 2) (r.la, o) = x :: y :: ((t.ks.map lN).set j (r.la, o) ++ Z) := by
  show x :: y :: ((t.ks.map lN ++ Z).set j (r.la, o)) = _
  rw [List.set_append_left _ _ (by simpa using (List.getElem?_eq_some_iff.mp hj).1)]
theorem lr_set (hj : t.ks[j]? = some (i, r)) (hl : r'.la = r.la) : lrOf (t.ks.set j (i, r')) = lrOf t.ks := by
  unfold lrOf
  rw [List.map_set]
  refine set_same ?_
  rw [List.getElem?_map, hj, hl]
  rfl
theorem put_ok (J : Jn t sh n) (hn : n + 1 < 900) (T : Tn 2 1 ns t.nodes h) (hj : t.ks[j]? = some (i, r)) (hD : Post ns t sh n o0 o8 o9 (some (.int (i : Nat))) D) {o11 : Option Val} : wS (putP (env o0 t sh o8 o9 (some (.int (i : Nat))) o11 o12 o13 o14 o15 o16 o17) h) D := by
  have ll := lim8
  obtain ⟨fs, en, wd, J1, hfs, hff, hen, hwd⟩ := J.J
  have hm := List.mem_of_getElem? hj
  have hg := gt_of J.kn hm
  have hi := J.kl _ hm
  obtain ⟨hd8, wl8⟩ : r.hd < 8 ∧ r.wl.length ≤ 8 := J.hd _ hm
  have kslt : t.ks.length ≤ 6 := by have := J1.fl; have := J.s2; omega
  have hrl : t.p.rows.length < 1000 := by rw [J.rw_]; simp [rowsOf]; omega
  have hr := rows_lk hg
  rw [← J.rw_] at hr
  have hlr := lr_lk hg
  obtain ⟨w, h1, a1, b1, e1, T1⟩ := T.next nx_eq (n := 1000) (by omega) (by omega)
  have eR1 := T1.on.get (i := 0) rfl
  have el1 := T1.on.get (i := j + 2) (la_at hj)
  have hwl := (J1.wdp _ (hff _ hm)).2
  have hv : ∀ (b : Bool) h, oEq true (.bl b) (.bl b) h = .ok (.bl false) h := fun b h => eq_of_wR (by simp)
  by_cases c : r.wl.length < 8
  · have c' : ((r.wl.length : Nat) : Int) < 8 := by omega
    have T2 := T1.set (la_at hj) (.lst (r.wl.map Val.int ++ [.int w]))
    rw [St.nodes, la_set hj] at T2
    have ea : bAppend (.ref r.la) [.int w] h1 = .ok .non (h1.set r.la (.lst (r.wl.map Val.int ++ [.int w]))) := by
      refine eq_of_wR ?_
      simp [el1]
      omega
    generalize h1.set r.la (.lst (r.wl.map Val.int ++ [.int w])) = h2 at ea T2
    have T3 := T2.perm mv
    rw [← List.append_assoc] at T3
    obtain ⟨k', h4, ⟨h3, q1, q2, q3, q4, q5⟩, T4⟩ := T3.op (α := KH) (A := t.p.nodes ++ t.k.nodes) (P := fun k' h4 => ∃ h3, m_Put___init__ [.ref h2.length, .ref t.p.PO, .int (i : Nat), .int w] (h2 ++ [.ins 15 []]) = .ok .non h3 ∧ m__law_run [.ref t.k.K, .ref h2.length] h3 = .ok (.bl true) h4 ∧ k'.K = t.k.K ∧ k'.s.many = t.k.s.many ∧ K1 k' fs en (fu wd r.f ((wd r.f).set ((r.hd + r.wl.length) % 8) w)) sh n)
      (A' := fun k' => ({ t.p with rows := putV t.p.rows (.int (i : Nat)) (.tup [.int (r.f : Nat), .int (r.hd : Nat), .int ((r.wl.length + 1 : Nat) : Int)]) } : PP).nodes ++ k'.nodes) (fun R o => by
        rw [List.append_assoc] at o
        obtain ⟨h3, h4, k', q1, q2, q3, q4, q5, q6⟩ := put_yes J1 o hi hr c hrl (hen _ hm) a1 (by omega)
        exact ⟨k', h4, ⟨h3, q1, q2, q3, q4, q5⟩, by rw [List.append_assoc]; exact q6⟩)
    have J' : Jn (t.up1 k' i j { r with wl := r.wl ++ [w] } t.lh) sh (n + 1) := by
      refine J.updd (r' := { r with wl := r.wl ++ [w] }) hn hj rfl (q5.mono (m := n + 1) (Nat.le_succ n) (by omega)) hfs hff hen hwd (fun g hg => by unfold fu; rw [if_neg hg]) (fun a ha => ?_) ⟨hd8, ?_⟩ (fun _ _ _ => rfl) (J.lh _ hm) (by have := J.ll; omega)
      · unfold fu
        rw [if_pos rfl]
        have ha : a < r.wl.length + 1 := by simpa using ha
        show ((wd r.f).set ((r.hd + r.wl.length) % 8) w).getD ((r.hd + a) % 8) 0 = (r.wl ++ [w]).getD a 0
        by_cases e : a = r.wl.length
        · subst e
          rw [List.getD_eq_getElem?_getD, List.getElem?_set_self (by rw [hwl]; omega), List.getD_eq_getElem?_getD, List.getElem?_append_right (Nat.le_refl _)]
          simp
        · have h3 := hwd _ hm a (show a < r.wl.length by omega)
          rw [List.getD_eq_getElem?_getD, List.getElem?_set_ne (by omega), ← List.getD_eq_getElem?_getD, h3, List.getD_eq_getElem?_getD, List.getD_eq_getElem?_getD, List.getElem?_append_left (by omega)]
      · show (r.wl ++ [w]).length ≤ 8
        simp; omega
    have T' : Tn 2 1 ns (t.up1 k' i j { r with wl := r.wl ++ [w] } t.lh).nodes h4 := by
      refine T4.perm ?_
      unfold St.nodes
      show List.Perm _ ((t.LR, .dct (lrOf (t.ks.set j (i, _)))) :: (t.LH, .dct t.lh) :: ((t.ks.set j (i, _)).map lN ++ (_ ++ k'.nodes)))
      rw [lr_set (r' := { r with wl := r.wl ++ [w] }) hj rfl, List.map_set]
      have e1 : lN (i, { r with wl := r.wl ++ [w] }) = (r.la, .lst (r.wl.map Val.int ++ [.int w])) := by simp [lN]
      have e2 : rv { r with wl := r.wl ++ [w] } = .tup [.int (r.f : Nat), .int (r.hd : Nat), .int ((r.wl.length + 1 : Nat) : Int)] := by simp [rv]
      rw [e1]
      show List.Perm _ ((t.LR, .dct (lrOf t.ks)) :: (t.LH, .dct t.lh) :: ((t.ks.map lN).set j _ ++ ((St.up1 t k' i j { r with wl := r.wl ++ [w] } t.lh).p.nodes ++ k'.nodes)))
      unfold St.up1
      rw [e2]
      classical
      rw [List.perm_iff_count]
      intro z
      simp only [List.count_append, List.count_cons]
      omega
    have z := hD _ (.bl true) o12 (some (.int w)) o15 o16 o17 h4 J' T' ⟨q3, rfl, rfl, rfl, rfl⟩ (hv true)
    rw [env_sm (t := t) (t' := t.up1 k' i j { r with wl := r.wl ++ [w] } t.lh) ⟨q3, rfl, rfl, rfl, rfl⟩] at z
    unfold putP runP env
    simp -implicitDefEqProofs [e1, gV, eR1, hlr, el1, c', truth, seqOf_at el1, ea, q1, q2, -wR_bAppend]
    exact z
  · have c' : ¬ ((r.wl.length : Nat) : Int) < 8 := by omega
    have T3 := T1.perm mv
    obtain ⟨_, h4, ⟨h3, q1, q2⟩, T4⟩ := T3.op (α := Unit) (A := t.p.nodes) (P := fun _ h4 => ∃ h3, m_Put___init__ [.ref h1.length, .ref t.p.PO, .int (i : Nat), .int w] (h1 ++ [.ins 15 []]) = .ok .non h3 ∧ m__law_run [.ref t.k.K, .ref h1.length] h3 = .ok (.bl false) h4) (A' := fun _ => t.p.nodes) (fun R o => by
      obtain ⟨h3, h4, q1, q2, q3⟩ := put_no (w := .int w) (y := .ref t.k.K) o hr c'
      exact ⟨(), h4, ⟨h3, q1, q2⟩, q3⟩)
    have z := hD t (.bl false) o12 (some (.int w)) o15 o16 o17 h4 (J.mono (Nat.le_succ n) hn) (T4.perm mv.symm) ⟨rfl, rfl, rfl, rfl, rfl⟩ (hv false)
    unfold putP runP env
    simp -implicitDefEqProofs [e1, gV, eR1, hlr, el1, c', truth, q1, q2]
    exact z
theorem take_okP (J : Jn t sh n) (hn : n + 1 < 900) (T : Tn 2 1 ns t.nodes h) (hj : t.ks[j]? = some (i, r)) (hD : Post ns t sh n o0 o8 o9 (some (.int (i : Nat))) D) : wS (takeP (env o0 t sh o8 o9 (some (.int (i : Nat))) (some .non) o12 o13 o14 o15 o16 o17) h) D := by
  have ll := lim8
  obtain ⟨fs, en, wd, J1, hfs, hff, hen, hwd⟩ := J.J
  have hm := List.mem_of_getElem? hj
  have hg := gt_of J.kn hm
  have hi := J.kl _ hm
  obtain ⟨hd8, wl8⟩ : r.hd < 8 ∧ r.wl.length ≤ 8 := J.hd _ hm
  have kslt : t.ks.length ≤ 6 := by have := J1.fl; have := J.s2; omega
  have hrl : t.p.rows.length < 1000 := by rw [J.rw_]; simp [rowsOf]; omega
  have hr := rows_lk hg
  rw [← J.rw_] at hr
  have hlr := lr_lk hg
  have eR1 := T.on.get (i := 0) rfl
  have eH1 := T.on.get (i := 1) rfl
  have el1 := T.on.get (i := j + 2) (la_at hj)
  have hlh := J.lh _ hm
  have hll := J.ll
  cases hw : r.wl with
  | nil =>
    rw [hw] at el1 hr
    have T3 := T.perm mv
    obtain ⟨_, h4, ⟨h3, q1, q2⟩, T4⟩ := T3.op (α := Unit) (A := t.p.nodes) (P := fun _ h4 => ∃ h3, m_Take___init__ [.ref h.length, .ref t.p.PO, .int (i : Nat)] (h ++ [.ins 16 []]) = .ok .non h3 ∧ m__law_run [.ref t.k.K, .ref h.length] h3 = .ok .non h4) (A' := fun _ => t.p.nodes) (fun R o => by
      obtain ⟨h3, h4, q1, q2, q3⟩ := take_no (y := .ref t.k.K) o hr (by simp)
      exact ⟨(), h4, ⟨h3, q1, q2⟩, q3⟩)
    have z := hD t .non o12 o14 o15 o16 o17 h4 (J.mono (Nat.le_succ n) hn) (T4.perm mv.symm) ⟨rfl, rfl, rfl, rfl, rfl⟩ (fun h => oEq_self (x := .non) (neg := true) (h := h) rfl)
    unfold takeP runP env
    simp -implicitDefEqProofs [eR1, hlr, el1, truth, gV, q1, q2]
    exact z
  | cons w rest =>
    rw [hw] at el1 hr
    have T2 := T.set (la_at hj) (.lst (rest.map Val.int))
    rw [St.nodes, la_set hj] at T2
    have ep : bPopAt (.ref r.la) [.int 0] h = .ok (.int w) (h.set r.la (.lst (rest.map Val.int))) := bPopAt_ok el1 (by omega) (by simp) (by omega) rfl
    generalize h.set r.la (.lst (rest.map Val.int)) = h1 at ep T2
    have eR2 := T2.on.get (i := 0) rfl
    have eH2 := T2.on.get (i := 1) rfl
    have T3 := T2.set (i := 1) rfl (.dct (putV t.lh (.int (i : Nat)) (.int (((r.hd + 1) % 8 : Nat) : Int))))
    have es : oSet (.ref t.LH) (.int (i : Nat)) (.int (((r.hd + 1) % 8 : Nat) : Int)) h1 = .ok () (h1.set t.LH (.dct (putV t.lh (.int (i : Nat)) (.int (((r.hd + 1) % 8 : Nat) : Int))))) := by
      refine eq_of_wR ?_
      simp -implicitDefEqProofs only [wR_oSetI, eH2]
      exact ⟨by omega, trivial, trivial⟩
    have T3' : Tn 2 1 ns ((t.LR, .dct (lrOf t.ks)) :: (t.LH, .dct (putV t.lh (.int (i : Nat)) (.int (((r.hd + 1) % 8 : Nat) : Int)))) :: ((t.ks.map lN).set j (r.la, .lst (rest.map Val.int)) ++ (t.p.nodes ++ t.k.nodes))) (h1.set t.LH (.dct (putV t.lh (.int (i : Nat)) (.int (((r.hd + 1) % 8 : Nat) : Int))))) := T3
    generalize h1.set t.LH (.dct (putV t.lh (.int (i : Nat)) (.int (((r.hd + 1) % 8 : Nat) : Int)))) = h2 at es T3'
    have T4 := T3'.perm mv
    rw [← List.append_assoc] at T4
    have w0 := hwd _ hm 0 (by rw [hw]; simp)
    rw [hw] at w0
    have w0' : (wd r.f).getD r.hd 0 = w := by
      have e : (r.hd + 0) % 8 = r.hd := by omega
      simp only [e] at w0
      exact w0
    obtain ⟨_, h4, ⟨h3, q1, q2⟩, T5⟩ := T4.op (α := Unit) (A := t.p.nodes ++ t.k.nodes) (P := fun _ h4 => ∃ h3, m_Take___init__ [.ref h2.length, .ref t.p.PO, .int (i : Nat)] (h2 ++ [.ins 16 []]) = .ok .non h3 ∧ m__law_run [.ref t.k.K, .ref h2.length] h3 = .ok (.int w) h4)
      (A' := fun _ => ({ t.p with rows := putV t.p.rows (.int (i : Nat)) (.tup [.int (r.f : Nat), .int (((r.hd + 1) % 8 : Nat) : Int), .int (rest.length : Nat)]) } : PP).nodes ++ t.k.nodes) (fun R o => by
        rw [List.append_assoc] at o
        obtain ⟨h3, h4, q1, q2, q3⟩ := take_yes (sz := rest.length) J1 o hi hr hd8 hrl (hen _ hm)
        rw [w0'] at q2
        exact ⟨(), h4, ⟨h3, q1, q2⟩, by rw [List.append_assoc]; exact q3⟩)
    have J' : Jn (t.up1 t.k i j ⟨r.f, (r.hd + 1) % 8, rest, r.la⟩ (putV t.lh (.int (i : Nat)) (.int (((r.hd + 1) % 8 : Nat) : Int)))) sh (n + 1) := by
      refine J.updd (r' := ⟨r.f, (r.hd + 1) % 8, rest, r.la⟩) (lh' := putV t.lh (.int (i : Nat)) (.int (((r.hd + 1) % 8 : Nat) : Int))) hn hj rfl (J1.mono (m := n + 1) (Nat.le_succ n) (by omega)) hfs hff hen hwd (fun _ _ => rfl) (fun a ha => ?_) ⟨Nat.mod_lt _ (by omega), ?_⟩ (fun x _ hx => ?_) ?_ (Nat.le_trans putV_len (by omega))
      · have h3 := hwd _ hm (a + 1) (by rw [hw]; simpa using ha)
        rw [hw] at h3
        have e : ((r.hd + 1) % 8 + a) % 8 = (r.hd + (a + 1)) % 8 := by omega
        show (wd r.f).getD (((r.hd + 1) % 8 + a) % 8) 0 = rest.getD a 0
        rw [e]
        exact h3
      · rw [hw] at wl8
        have wl8' : rest.length + 1 ≤ 8 := wl8
        show rest.length ≤ 8
        omega
      · rw [lookV_put, if_neg (fun z => hx (by injection z; omega))]
      · rw [lookV_put, if_pos rfl]
    have T' : Tn 2 1 ns (t.up1 t.k i j ⟨r.f, (r.hd + 1) % 8, rest, r.la⟩ (putV t.lh (.int (i : Nat)) (.int (((r.hd + 1) % 8 : Nat) : Int)))).nodes h4 := by
      refine T5.perm ?_
      unfold St.nodes
      show List.Perm _ ((t.LR, .dct (lrOf (t.ks.set j (i, _)))) :: (t.LH, .dct _) :: ((t.ks.set j (i, _)).map lN ++ (_ ++ t.k.nodes)))
      rw [lr_set (r' := ⟨r.f, (r.hd + 1) % 8, rest, r.la⟩) hj rfl, List.map_set]
      show List.Perm _ ((t.LR, .dct (lrOf t.ks)) :: (t.LH, .dct (putV t.lh (.int (i : Nat)) (.int (((r.hd + 1) % 8 : Nat) : Int)))) :: ((t.ks.map lN).set j (r.la, .lst (rest.map Val.int)) ++ (({ t.p with rows := putV t.p.rows (.int (i : Nat)) (.tup [.int (r.f : Nat), .int (((r.hd + 1) % 8 : Nat) : Int), .int (rest.length : Nat)]) } : PP).nodes ++ t.k.nodes)))
      classical
      rw [List.perm_iff_count]
      intro z
      simp only [List.count_append, List.count_cons]
      omega
    have z := hD _ (.int w) o12 o14 o15 o16 o17 h4 J' T' ⟨rfl, rfl, rfl, rfl, rfl⟩ (fun h => oEq_self (x := .int w) (neg := true) (h := h) rfl)
    rw [env_sm (t := t) (t' := t.up1 t.k i j ⟨r.f, (r.hd + 1) % 8, rest, r.la⟩ (putV t.lh (.int (i : Nat)) (.int (((r.hd + 1) % 8 : Nat) : Int)))) ⟨rfl, rfl, rfl, rfl, rfl⟩] at z
    have q8 : (((r.hd + 1) % 8 : Nat) : Int) = ((r.hd : Int) + 1) % 8 := by omega
    rw [q8] at es
    unfold takeP runP env
    simp -implicitDefEqProofs [eR1, hlr, el1, truth, seqOf_at el1, ep, gV, eH2, hlh, es, q1, q2, -wR_oSetI]
    exact z
theorem end_okP (J : Jn t sh n) (hn : n + 1 < 900) (T : Tn 2 1 ns t.nodes h) (hj : t.ks[j]? = some (i, r)) (hD : Post ns t sh n o0 o8 o9 (some (.int (i : Nat))) D) : wS (endP (env o0 t sh o8 o9 (some (.int (i : Nat))) (some .non) o12 o13 o14 o15 o16 o17) h) D := by
  have ll := lim8
  obtain ⟨fs, en, wd, J1, hfs, hff, hen, hwd⟩ := J.J
  have hm := List.mem_of_getElem? hj
  have hg := gt_of J.kn hm
  have hi := J.kl _ hm
  have hr := rows_lk hg
  rw [← J.rw_] at hr
  have hlr := lr_lk hg
  have eR1 := T.on.get (i := 0) rfl
  have ep := dPop1_at eR1 (y := .int (i : Nat)) rfl hlr
  have T2 := T.set (i := 0) rfl (.dct (dropV (lrOf t.ks) (.int (i : Nat))))
  have T2' : Tn 2 1 ns ((t.LR, .dct (dropV (lrOf t.ks) (.int (i : Nat)))) :: (t.LH, .dct t.lh) :: (t.ks.map lN ++ (t.p.nodes ++ t.k.nodes))) (h.set t.LR (.dct (dropV (lrOf t.ks) (.int (i : Nat))))) := T2
  generalize h.set t.LR (.dct (dropV (lrOf t.ks) (.int (i : Nat)))) = h2 at ep T2'
  have T4 := T2'.perm mv
  rw [← List.append_assoc] at T4
  obtain ⟨k', h4, ⟨h3, q1, q2, q3, q4, q5⟩, T5⟩ := T4.op (α := KH) (A := t.p.nodes ++ t.k.nodes) (P := fun k' h4 => ∃ h3, m_End___init__ [.ref h2.length, .ref t.p.PO, .int (i : Nat)] (h2 ++ [.ins 17 []]) = .ok .non h3 ∧ m__law_run [.ref t.k.K, .ref h2.length] h3 = .ok .non h4 ∧ k'.K = t.k.K ∧ k'.s.many = t.k.s.many ∧ K1 k' (fs.erase r.f) (enF (fu en (24 + i) none) r.f) wd sh n)
    (A' := fun k' => ({ t.p with oth := t.p.oth - 1, rows := dropV t.p.rows (.int (i : Nat)) } : PP).nodes ++ k'.nodes) (fun R o => by
      rw [List.append_assoc] at o
      obtain ⟨h3, h4, k', q1, q2, q3, q4, q5, q6⟩ := end_yes J1 o hi hr (hen _ hm) (hff _ hm)
      exact ⟨k', h4, ⟨h3, q1, q2, q3, q4, q5⟩, by rw [List.append_assoc]; exact q6⟩)
  have J' := J.ended hn hj hfs hff hen hwd q5
  have hlj := (List.getElem?_eq_some_iff.mp hj).1
  have pj : (t.ks.map lN).Perm (lN (i, r) :: (t.ks.eraseIdx j).map lN) := by
    exact (perm_er hj).map lN
  have T' : Tn 2 1 ns (t.en1 k' i j).nodes h4 := by
    have T6 : Tn 2 1 ns (lN (i, r) :: (t.en1 k' i j).nodes) h4 := T5.perm (by
      unfold St.nodes
      show List.Perm _ (lN (i, r) :: (t.LR, .dct (lrOf (t.ks.eraseIdx j))) :: (t.LH, .dct t.lh) :: ((t.ks.eraseIdx j).map lN ++ (({ t.p with oth := t.p.oth - 1, rows := dropV t.p.rows (.int (i : Nat)) } : PP).nodes ++ k'.nodes)))
      have e1 : dropV (lrOf t.ks) (.int (i : Nat)) = lrOf (t.ks.eraseIdx j) := dropV_at J.kn hj
      rw [e1]
      classical
      rw [List.perm_iff_count]
      intro z
      have pz := List.perm_iff_count.mp pj z
      simp only [List.count_append, List.count_cons] at pz ⊢
      omega)
    exact T6.drop1
  have z := hD _ .non o12 o14 o15 o16 o17 h4 J' T' ⟨q3, rfl, rfl, rfl, rfl⟩ (fun h => oEq_self (x := .non) (neg := true) (h := h) rfl)
  rw [env_sm (t := t) (t' := t.en1 k' i j) ⟨q3, rfl, rfl, rfl, rfl⟩] at z
  unfold endP runP env
  simp -implicitDefEqProofs [isD_dct eR1, ep, gV, q1, q2]
  exact z
end
end Lw

set_option Elab.async false
set_option linter.all false
set_option autoImplicit false
set_option maxHeartbeats 4000000
set_option maxRecDepth 100000
namespace Lw
open PyM
def lawBody : En → Heap → RS := (sSeq (sAsg (gV 9) (mCall m__law_next [] (mCons (mV 1) (mCons (mK (.int 9)) (mNil)))))
    (sSeq (sAsg (gV 10) (mCall m__law_next [] (mCons (mV 1) (mCons (mK (.int 4)) (mNil)))))
    (sSeq (sAsg (gV 11) (mK .non))
    (sSeq (sIf (tB_ (mB (oEq false) (mV 9) (mK (.int 0)))) makeP (sIf (tB_ (mB (oIn true) (mV 10) (mV 6))) (sSeq (sIf (tTr (mMeth 13 m_Pipes_is_there [] (mV 5) (mCons (mV 10) (mNil)))) (sRet (mK (.bl false))) (sNx))
    (sCt)) (sIf (tB_ (mB oLt (mV 9) (mK (.int 5)))) putP (sIf (tB_ (mB oLt (mV 9) (mK (.int 8)))) takeP endP))))
    tailP))))
def lawLoop : En → Heap → RS := (sSeq (sFor (iRng1 (mCons (mCall m__law_next [] (mCons (mV 1) (mCons (mB oIx (mLst (mCons (mK (.int 30)) (mCons (mK (.int 81)) (mNil)))) (mCall m__law_next [] (mCons (mV 1) (mCons (mK (.int 2)) (mNil))))) (mNil)))) (mNil))) (gV 8) lawBody)
    (sRet (mK (.bl true))))
theorem m_law_cut : m_law = runB 1 18
    (sSeq (sAsg (gV 1) (mLst (mCons (mL bList (mCons (mV 0) (mNil))) (mCons (mK (.int 0)) (mCons (mK (.int 0)) (mCons (mK (.int 31)) (mNil)))))))
    (sSeq (sAsg (gV 2) (mB oAdd (mK (.int 2)) (mCall m__law_next [] (mCons (mV 1) (mCons (mK (.int 5)) (mNil))))))
    (sSeq (sAsg (gV 3) (mCall m__law_kernel [] (mCons (mK (.int 10)) (mCons (mV 2) (mNil)))))
    (sSeq (sAsg (gV 4) (mMake 12 m_Memory___init__ [] (mCons (mV 2) (mNil))))
    (sSeq (sAsg (gV 5) (mMake 13 m_Pipes___init__ [] (mCons (mV 4) (mNil))))
    (sSeq (sAsg (gV 6) (mDct))
    (sSeq (sAsg (gV 7) (mDct))
    lawLoop))))))) := rfl
structure LwJ (ns : List Int) (o0 : Option Val) (t0 : St) (sh n : Nat) (s' : En) (h' : Heap) : Prop where
  k : ∃ (t : St) (o8 o9 o10 o11 o12 o13 o14 o15 o16 o17 : Option Val), s' = env o0 t0 sh o8 o9 o10 o11 o12 o13 o14 o15 o16 o17 ∧ Sm t0 t ∧ Jn t sh n ∧ Tn 2 1 ns t.nodes h'
section
variable {ns : List Int} {t t0 : St} {h h' : Heap} {sh n i j : Nat} {o0 o8 o9 o10 o11 o12 o13 o14 o15 o16 o17 : Option Val} {D : K4}
theorem Sm.trans {a b c : St} (x : Sm a b) (y : Sm b c) : Sm a c := ⟨y.K.trans x.K, y.M.trans x.M, y.P.trans x.P, y.R.trans x.R, y.H.trans x.H⟩
theorem body_ok (s0 : Sm t0 t) (J : Jn t sh n) (hn : n + 1 < 900) (T : Tn 2 1 ns t.nodes h) (hD : ∀ s' h', LwJ ns o0 t0 sh (n + 1) s' h' → D.nx s' h') (hC : ∀ s' h', LwJ ns o0 t0 sh (n + 1) s' h' → D.ct s' h') :
    wS (lawBody (env o0 t sh o8 o9 o10 o11 o12 o13 o14 o15 o16 o17) h) D := by
  obtain ⟨k, h1, a1, b1, e1, T1⟩ := T.next nx_eq (n := 9) (by omega) (by omega)
  obtain ⟨i, h2, a2, b2, e2, T2⟩ := T1.next nx_eq (n := 4) (by omega) (by omega)
  obtain ⟨i, rfl⟩ := Int.eq_ofNat_of_zero_le a2
  have post : Post ns t sh n o0 o8 (some (.int k)) (some (.int (i : Nat))) { D with nx := fun s h => wS (tailP s h) D } := fun t' v o12 o14 o15 o16 o17 h' J' T' S' hv =>
    tail_ok J' T' hv fun x y z h'' T'' => hD _ _ ⟨t', o8, _, _, _, _, _, _, x, y, z, by rw [env_sm (s0.trans S')], s0.trans S', J', T''⟩
  have eR := T2.on.get (i := 0) rfl
  have ei := oIn_dct (neg := true) eR (x := .int (i : Nat)) rfl
  unfold lawBody
  by_cases c0 : k = 0
  · subst c0
    have z := make_ok J hn T2 (o12 := o12) (o13 := o13) (o14 := o14) (o15 := o15) (o16 := o16) (o17 := o17) post
    unfold env at z ⊢
    simp -implicitDefEqProofs [gV, e1, e2]
    exact z
  · cases hg : gt t.ks i with
    | none =>
      have d2 := dP (t := t) (x := .dct (lrOf t.ks)) T2.on
      have et := there_ok d2 (i := (i : Int))
      have hr := rows_no hg
      rw [← J.rw_] at hr
      rw [hr] at et
      rw [lr_no hg] at ei
      have z := hC (env o0 t sh o8 (some (.int k)) (some (.int (i : Nat))) (some .non) o12 o13 o14 o15 o16 o17) h2 ⟨t, o8, _, _, _, _, _, _, _, _, _, by rw [env_sm s0], s0, J.mono (Nat.le_succ n) hn, T2⟩
      unfold env at z ⊢
      simp -implicitDefEqProofs [gV, e1, e2, c0, ei, d2.iP, et, truth]
      exact z
    | some r =>
      rw [lr_lk hg] at ei
      obtain ⟨j, hj⟩ := List.mem_iff_getElem?.mp (gt_mem hg)
      by_cases c5 : k < 5
      · have z := put_ok J hn T2 hj (o11 := some .non) (o12 := o12) (o13 := o13) (o14 := o14) (o15 := o15) (o16 := o16) (o17 := o17) post
        unfold env at z ⊢
        simp -implicitDefEqProofs [gV, e1, e2, c0, ei, c5]
        exact z
      · by_cases c8 : k < 8
        · have z := take_okP J hn T2 hj (o12 := o12) (o13 := o13) (o14 := o14) (o15 := o15) (o16 := o16) (o17 := o17) post
          unfold env at z ⊢
          simp -implicitDefEqProofs [gV, e1, e2, c0, ei, c5, c8]
          exact z
        · have z := end_okP J hn T2 hj (o12 := o12) (o13 := o13) (o14 := o14) (o15 := o15) (o16 := o16) (o17 := o17) post
          unfold env at z ⊢
          simp -implicitDefEqProofs [gV, e1, e2, c0, ei, c5, c8]
          exact z
theorem loop_ok (J : Jn t sh 0) (T : Tn 2 1 ns t.nodes h) : wS (lawLoop (env o0 t sh o8 o9 o10 o11 o12 o13 o14 o15 o16 o17) h) { nx := fun _ _ => False, rt := fun v _ => v = .bl true } := by
  have l2 : 2 ≤ lim := by decide
  have T8 := T.new (Obj.lst [.int 30, .int 81])
  obtain ⟨k, h7, k0, k1, e7, T9⟩ := T8.next nx_eq (n := 2) (by omega) (by omega)
  have g9 := T9.on.at_ _ List.mem_cons_self
  have T10 := T9.drop1
  have hk : ∃ m : Int, (m = 30 ∨ m = 81) ∧ L2.atI [Val.int 30, .int 81] k = some (.int m) := by
    have : k = 0 ∨ k = 1 := by omega
    rcases this with rfl | rfl
    · exact ⟨30, by omega, rfl⟩
    · exact ⟨81, by omega, rfl⟩
  obtain ⟨m, hm, hk⟩ := hk
  obtain ⟨r, h8, r0, r1, e8, T11⟩ := T10.next nx_eq (n := m) (by omega) (by omega)
  obtain ⟨r, rfl⟩ := Int.eq_ofNat_of_zero_le r0
  unfold lawLoop env
  simp -implicitDefEqProofs [e7, g9, hk, e8, l2]
  refine ⟨by omega, ?_⟩
  refine wS_range (n := r) (LwJ ns o0 t sh) ⟨⟨t, o8, o9, o10, o11, o12, o13, o14, o15, o16, o17, rfl, ⟨rfl, rfl, rfl, rfl, rfl⟩, J, T11⟩⟩ ?_ ?_
  · rintro i s' h' hi ⟨t', p8, p9, p10, p11, p12, p13, p14, p15, p16, p17, rfl, S', J', T'⟩
    refine ⟨env o0 t sh (some (.int (i : Nat))) p9 p10 p11 p12 p13 p14 p15 p16 p17, rfl, ?_⟩
    rw [← env_sm S']
    exact body_ok S' J' (by omega) T' (fun _ _ q => q) (fun _ _ q => q)
  · rintro s' h' ⟨t', p8, p9, p10, p11, p12, p13, p14, p15, p16, p17, rfl, S', J', T'⟩
    simp -implicitDefEqProofs [env]
theorem mem_init {R : Nodes} (o : On R h) : ∃ (TL t0 t1 t2 t3 : Nat) (h' : Heap), m_Memory___init__ [.ref h.length, .int sh] (h ++ [.ins 12 []]) = .ok .non h' ∧ On ((h.length, mob TL sh 0) :: (TL, .lst [.ref t0, .ref t1, .ref t2, .ref t3]) :: (t0, .lst []) :: (t1, .lst []) :: (t2, .lst []) :: (t3, .lst []) :: R) h' := by
  have wi : wR (m_Memory___init__ [.ref h.length, .int sh] (h ++ [.ins 12 []])) (fun _ _ => False) fun v h' => v = .non ∧ ∃ TL t0 t1 t2 t3 : Nat, On ((h.length, mob TL sh 0) :: (TL, .lst [.ref t0, .ref t1, .ref t2, .ref t3]) :: (t0, .lst []) :: (t1, .lst []) :: (t2, .lst []) :: (t3, .lst []) :: R) h' := by
    have ll := lim8
    have l0 : 0 ≤ lim := by omega
    have o0 := o.new (.ins 12 [])
    generalize hm : h.length = m at o0
    generalize h ++ [Obj.ins 12 []] = g0 at o0
    obtain ⟨g1, s1, o1⟩ := addF (g := 37) (x := .int sh) o0 (by decide)
    unfold m_Memory___init__
    refine wRB rfl ?_
    simp -implicitDefEqProofs [s1, -wR_oSetF]
    refine fam_lc vN [] (fun _ => rfl) o1 (by rw [rangeV_length]; omega) (fun _ => rfl) (fun x h' _ => ⟨_, rfl, ?_⟩) (fun ps g2 n2 v2 o2 => ?_)
    · simp -implicitDefEqProofs [wipeE, l0]
      exact ⟨⟨_, rfl⟩, rfl⟩
    rw [rangeV_length] at n2
    obtain ⟨p0, p1, p2, p3, rfl⟩ : ∃ p0 p1 p2 p3, ps = [p0, p1, p2, p3] := by
      match ps, n2 with
      | [a, b, c, d], _ => exact ⟨a, b, c, d, rfl⟩
    have e0 := v2 p0 (by simp)
    have e1 := v2 p1 (by simp)
    have e2 := v2 p2 (by simp)
    have e3 := v2 p3 (by simp)
    have o3 : On ((m, .ins 12 (setF 37 (.int sh) [])) :: (g1.length, .lst [.ref p0.1, .ref p1.1, .ref p2.1, .ref p3.1]) :: (p0.1, .lst []) :: (p1.1, .lst []) :: (p2.1, .lst []) :: (p3.1, .lst []) :: R) g2 := o2.perm (by
      simp only [List.map_cons, List.map_nil, vN, e0, e1, e2, e3, refs]
      classical
      rw [List.perm_iff_count]
      intro z
      simp only [List.count_append, List.count_cons, List.count_nil]
      omega)
    obtain ⟨g3, s2, o4⟩ := addF (g := 38) (x := .ref g1.length) o3 (by simp [setF])
    obtain ⟨g4, s3, o5⟩ := addF (g := 39) (x := .int 0) o4 (by simp [setF])
    simp -implicitDefEqProofs [s2, s3, -wR_oSetF]
    exact ⟨_, _, _, _, _, o5⟩
  obtain ⟨v, h', e, rfl, TL, t0, t1, t2, t3, q⟩ := ex_of_wR wi
  exact ⟨TL, t0, t1, t2, t3, h', e, q⟩
theorem pipes_init {M : Nat} : m_Pipes___init__ [.ref h.length, .ref M] (h ++ [.ins 13 []]) = .ok .non (h ++ [pob M (h.length + 1), .dct []]) := by
  refine eq_of_wR ?_
  unfold m_Pipes___init__
  refine wRB rfl ?_
  simp -implicitDefEqProofs [pob, setF]
end
theorem law_true (ns : List Int) (hns : ns.length ≤ 63) : ∃ h', m_law [.ref 0] [.fls (ns.map Val.int)] = .ok (.bl true) h' := by
  have key : ∀ (F : List Val → Heap → Res Val) (v0 : Val) (H0 : Heap), F = m_law → v0 = .ref 0 → H0 = [.fls (ns.map Val.int)] → wR (F [v0] H0) (fun _ _ => False) fun x h' => x = .bl true := by
    intro F v0 H0 hF0 hv0 hH0
    have ll := lim8
    have l4 : 4 ≤ lim := by omega
    obtain ⟨H3, hH3⟩ : ∃ H3 : Heap, H3 = [Obj.fls (ns.map Val.int), Obj.lst (ns.map Val.int), Obj.lst [.ref 1, .int 0, .int 0, .int 31]] := ⟨_, rfl⟩
    have T0 : TP 2 1 ns H3 := by rw [hH3]; exact ⟨by decide, rfl, 0, 0, 31, by decide, rfl⟩
    have T1 : Tn 2 1 ns ([] ++ []) H3 := Tn.of (l := []) T0 ⟨by simp, by simp⟩ (by simp)
    obtain ⟨v, h1, v0', v1, e1, T2⟩ := T1.next nx_eq (n := 5) (by omega) (by omega)
    obtain ⟨v, rfl⟩ := Int.eq_ofNat_of_zero_le v0'
    obtain ⟨k, h2, ⟨e2, q2, q3⟩, T3⟩ := T2.op (A := []) (α := KH) (P := fun k h' => m__law_kernel [.int ((10 : Nat) : Int), .int ((2 + v : Nat) : Int)] h1 = .ok (.ref k.K) h' ∧ k.s.many = 10 ∧ K1 k [] (fun _ => none) (fun _ => []) (2 + v) 0) (A' := fun k => k.nodes) (fun R o => by
      obtain ⟨k, h', q1, ⟨q2, q3⟩, q4⟩ := lkernel_ok (many := 10) (sh := 2 + v) o (by omega) (by omega) (by omega)
      exact ⟨k, h', ⟨q1, q2, q3⟩, q4⟩)
    obtain ⟨⟨TL, a0, a1, a2, a3⟩, h3, e3, T4⟩ := (T3.perm (l' := [] ++ k.nodes) (by simp)).op (A := []) (α := Nat × Nat × Nat × Nat × Nat) (P := fun _ h' => m_Memory___init__ [.ref h2.length, .int ((2 + v : Nat) : Int)] (h2 ++ [.ins 12 []]) = .ok .non h') (A' := fun z => [(h2.length, mob z.1 (2 + v) 0), (z.1, .lst [.ref z.2.1, .ref z.2.2.1, .ref z.2.2.2.1, .ref z.2.2.2.2]), (z.2.1, .lst []), (z.2.2.1, .lst []), (z.2.2.2.1, .lst []), (z.2.2.2.2, .lst [])]) (fun R o => by
      obtain ⟨TL, a0, a1, a2, a3, h', q1, q2⟩ := mem_init (sh := 2 + v) o
      exact ⟨(TL, a0, a1, a2, a3), h', q1, q2⟩)
    have e4 := pipes_init (h := h3) (M := h2.length)
    have T5 := (T4.new (pob h2.length (h3.length + 1))).new (.dct [])
    rw [List.append_assoc] at T5
    have hl1 : (h3 ++ [pob h2.length (h3.length + 1)]).length = h3.length + 1 := by simp
    rw [hl1] at T5
    have T5' : Tn 2 1 ns ((h3.length + 1, .dct []) :: (h3.length, pob h2.length (h3.length + 1)) :: ([(h2.length, mob TL (2 + v) 0), (TL, .lst [.ref a0, .ref a1, .ref a2, .ref a3]), (a0, .lst []), (a1, .lst []), (a2, .lst []), (a3, .lst [])] ++ k.nodes)) (h3 ++ [pob h2.length (h3.length + 1), .dct []]) := T5
    generalize h3 ++ [pob h2.length (h3.length + 1), Obj.dct []] = h4 at e4 T5'
    have T6 := (T5'.new (.dct [])).new (.dct [])
    rw [List.append_assoc] at T6
    have hl2 : (h4 ++ [Obj.dct []]).length = h4.length + 1 := by simp
    rw [hl2] at T6
    have J0 : Jn ⟨k, ⟨h2.length, TL, a0, a1, a2, a3, h3.length, h3.length + 1, 2 + v, 0, []⟩, h4.length, h4.length + 1, [], []⟩ (2 + v) 0 :=
      ⟨⟨[], _, _, q3, rfl, by simp, by simp, by simp⟩, by simp, rfl, rfl, rfl, by omega, by omega, by simp, by simp, by simp, by simp, Nat.le_refl 0, by omega⟩
    have T7 : Tn 2 1 ns (St.nodes ⟨k, ⟨h2.length, TL, a0, a1, a2, a3, h3.length, h3.length + 1, 2 + v, 0, []⟩, h4.length, h4.length + 1, [], []⟩) (h4 ++ ([Obj.dct []] ++ [Obj.dct []])) := T6.perm (by
      unfold St.nodes PP.nodes
      classical
      rw [List.perm_iff_count]
      intro z
      simp only [lrOf, List.map_nil, List.count_append, List.count_cons, List.count_nil, List.nil_append]
      omega)
    have L := loop_ok (o0 := some (.ref 0)) (o8 := none) (o9 := none) (o10 := none) (o11 := none) (o12 := none) (o13 := none) (o14 := none) (o15 := none) (o16 := none) (o17 := none) J0 T7
    rw [hH3] at e1
    have q10 : (((2 + v : Nat) : Nat) : Int) = 2 + (v : Int) := by omega
    unfold env at L
    simp only [q10] at e2 e3 L
    rw [hF0, m_law_cut]
    refine wRB rfl ?_
    rw [hv0, hH0]
    simp -implicitDefEqProofs [gV, l4, e1]
    simp only [Int.cast_ofNat_Int] at e2
    simp -implicitDefEqProofs [gV, e2, e3, e4]
    exact wS_mono' L (fun _ _ q => q.elim) (fun _ _ q => q) rfl rfl rfl
  obtain ⟨F, hF⟩ : ∃ F, F = m_law := ⟨_, rfl⟩
  obtain ⟨x, h', e, rfl⟩ := ex_of_wR (key F _ _ hF rfl rfl)
  exact ⟨h', by rw [← hF]; exact e⟩
end Lw

set_option Elab.async false
set_option linter.all false
set_option maxRecDepth 100000
set_option maxHeartbeats 4000000
namespace Lw
open PySem L2 PyM
abbrev N__law_next : List Str := ["_law_tape", "_law_many", "_law_rest", "_law_cell"]
abbrev N_is_number : List Str := ["value"]
abbrev N_is_environment : List Str := ["value"]
abbrev N_Slices__step : List Str := ["self"]
abbrev N_Slices__find : List Str := ["self", "_"]
abbrev N_Slices___init__ : List Str := ["self", "owners", "owner"]
abbrev N_Frames___init__ : List Str := ["self", "many", "shares", "share", "_"]
abbrev N_Pages___init__ : List Str := ["self", "frames", "_"]
abbrev N_Net___init__ : List Str := ["self", "regions", "environment", "region"]
abbrev N_Types___init__ : List Str := ["self", "blocks"]
abbrev N_Types_owned : List Str := ["self", "number", "words"]
abbrev N_Disk_words : List Str := ["self", "block"]
abbrev N_Blocks_forest : List Str := ["self", "roots", "table", "found", "todo", "block", "owner", "kind", "owned", "child", "child_kind"]
abbrev N_Blocks_lasting_forest : List Str := ["self", "environment"]
abbrev N_Blocks___init__ : List Str := ["self", "disk", "shares", "types", "environment", "block", "share"]
abbrev N_Kernel___init__ : List Str := ["self", "owners", "frames", "frame_shares", "disk", "block_shares", "types", "regions"]
abbrev N_Disk___init__ : List Str := ["self", "blocks"]
abbrev N__law_kernel : List Str := ["_law_many", "_law_share"]
abbrev N_Memory___init__ : List Str := ["self", "share", "_"]
abbrev N_Pipes___init__ : List Str := ["self", "memory"]
abbrev N_Stack___init__ : List Str := ["self", "machine"]
abbrev N_Make_request : List Str := ["self"]
abbrev N_Put_request : List Str := ["self"]
abbrev N_Take_request : List Str := ["self"]
abbrev N_End_request : List Str := ["self"]
abbrev N_Memory_note_taken : List Str := ["self"]
abbrev N_Pipes_note : List Str := ["self", "pipe", "frame", "head", "size"]
abbrev N_Make_accept : List Str := ["self", "result"]
abbrev N_Pipes_frame : List Str := ["self", "pipe"]
abbrev N_Pipes_head : List Str := ["self", "pipe"]
abbrev N_Pipes_size : List Str := ["self", "pipe"]
abbrev N_Put_accept : List Str := ["self", "result", "pipe"]
abbrev N_Take_accept : List Str := ["self", "result", "pipe", "head"]
abbrev N_Memory_note_dropped : List Str := ["self"]
abbrev N_Pipes_forget : List Str := ["self", "pipe"]
abbrev N_End_accept : List Str := ["self", "result"]
abbrev N_Stack__settle : List Str := ["self", "wanted"]
abbrev N_Frames_holdings : List Str := ["self", "environment"]
abbrev N_Frames_free : List Str := ["self", "frame"]
abbrev N_Frames_charge : List Str := ["self", "environment"]
abbrev N_Frames_share : List Str := ["self", "environment"]
abbrev N_Frames_left : List Str := ["self", "held"]
abbrev N_Frames_may_hold_more : List Str := ["self", "environment", "unfilled", "one"]
abbrev N_Frames_take : List Str := ["self", "environment", "free", "frame"]
abbrev N_told : List Str := ["done", "word"]
abbrev N_Frames_is_frame : List Str := ["self", "frame"]
abbrev N_Frames_right : List Str := ["self", "environment", "frame"]
abbrev N_includes : List Str := ["right", "wanted"]
abbrev N_Frames_offer : List Str := ["self", "environment", "frame", "other", "right", "held"]
abbrev N_Frames_accept : List Str := ["self", "environment", "frame", "owner", "right", "held"]
abbrev N_Frames__end_holding : List Str := ["self", "environment", "frame", "other"]
abbrev N_Frames_drop : List Str := ["self", "environment", "frame", "many", "slots"]
abbrev N_is_page : List Str := ["value"]
abbrev N_Pages_entry : List Str := ["self", "environment", "page"]
abbrev N_Pages__fall : List Str := ["self", "environment", "frame", "rights", "page", "entry"]
abbrev N_Pages_ended : List Str := ["self", "environment", "frame"]
abbrev N_Frames_narrow : List Str := ["self", "environment", "frame"]
abbrev N_Pages_narrowed : List Str := ["self", "environment", "frame"]
abbrev N_Kernel__frames : List Str := ["self", "environment", "request", "word", "frame", "done"]
abbrev N_Pages_map : List Str := ["self", "environment", "page", "frame", "right", "held"]
abbrev N_Pages_unmap : List Str := ["self", "environment", "page"]
abbrev N_Frames_read : List Str := ["self", "frame", "index"]
abbrev N_Pages_load : List Str := ["self", "environment", "page", "index", "entry"]
abbrev N_is_word : List Str := ["value"]
abbrev N_Frames_write : List Str := ["self", "frame", "index", "word"]
abbrev N_Pages_store : List Str := ["self", "environment", "page", "index", "word", "entry"]
abbrev N_Kernel__pages : List Str := ["self", "environment", "request", "word", "value"]
abbrev N_Kernel_request : List Str := ["self", "environment", "request", "word"]
abbrev N_Stack_step : List Str := ["self", "kernel", "environment", "machine"]
abbrev N_Stack_ended : List Str := ["self"]
abbrev N_Stack_value : List Str := ["self"]
abbrev N__law_run : List Str := ["_law_kernel_here", "_law_machine", "_law_stack", "_law_turn"]
abbrev N_Pipes_least : List Str := ["self", "pipe"]
abbrev N_Memory_held : List Str := ["self", "frames", "table", "frame"]
abbrev N_Memory_is_full : List Str := ["self"]
abbrev N_Make___init__ : List Str := ["self", "pipes"]
abbrev N_Pipes_is_there : List Str := ["self", "pipe"]
abbrev N_Put___init__ : List Str := ["self", "pipes", "pipe", "word", "size", "index"]
abbrev N_Take___init__ : List Str := ["self", "pipes", "pipe"]
abbrev N_End___init__ : List Str := ["self", "pipes", "pipe"]
abbrev N_law : List Str := ["_law_script", "_law_tape", "_law_share", "_law_kernel_here", "_law_memory", "_law_pipes", "_law_rows", "_law_heads", "_law_turn", "_law_kind", "_law_pipe", "_law_due", "_law_left", "_law_told", "_law_word", "_law_one", "_law_found", "_law_k"]
def nms : List Str := ("many" : Str) :: ("shares" : Str) :: ("holders" : Str) :: ("words" : Str) :: ("order" : Str) :: ("offers" : Str) :: ("wanted" : Str) :: ("lost" : Str) :: ("frames" : Str) :: ("entries" : Str) :: ("machines" : Str) :: ("result" : Str) :: ("owners" : Str) :: ("round" : Str) :: ("slot" : Str) :: ("unit" : Str) :: ("holder" : Str) :: ("blocks" : Str) :: ("held" : Str) :: ("waiting" : Str) :: ("known" : Str) :: ("makers" : Str) :: ("disk" : Str) :: ("types" : Str) :: ("buffers" : Str) :: ("kept" : Str) :: ("fresh" : Str) :: ("regions" : Str) :: ("made" : Str) :: ("rows" : Str) :: ("rings" : Str) :: ("tree" : Str) :: ("gone" : Str) :: ("missed" : Str) :: ("slices" : Str) :: ("pages" : Str) :: ("net" : Str) :: ("share" : Str) :: ("tables" : Str) :: ("others" : Str) :: ("memory" : Str) :: ("pipes" : Str) :: ("pipe" : Str) :: ("stage" : Str) :: ("frame" : Str) :: []
structure Tx where
  c_Frames : Addr
  c_Pages : Addr
  c_SteadError : Addr
  c_NotValid : Addr
  c_Slices : Addr
  c_Disk : Addr
  c_Types : Addr
  c_Blocks : Addr
  c_Net : Addr
  c_Kernel : Addr
  c_Stack : Addr
  c_Requests : Addr
  c_Memory : Addr
  c_Pipes : Addr
  c_Make : Addr
  c_Put : Addr
  c_Take : Addr
  c_End : Addr
  c_Read : Addr
  c_Own : Addr
  c_Write : Addr
  c_Grow : Addr
  c_Fork : Addr
  c_Clear : Addr
  f__law_next : Addr
  d__law_next : FuncData
  f_is_number : Addr
  d_is_number : FuncData
  f_is_environment : Addr
  d_is_environment : FuncData
  f_Slices__step : Addr
  d_Slices__step : FuncData
  f_Slices__find : Addr
  d_Slices__find : FuncData
  f_Slices___init__ : Addr
  d_Slices___init__ : FuncData
  f_Frames___init__ : Addr
  d_Frames___init__ : FuncData
  f_Pages___init__ : Addr
  d_Pages___init__ : FuncData
  f_Net___init__ : Addr
  d_Net___init__ : FuncData
  f_Types___init__ : Addr
  d_Types___init__ : FuncData
  f_Types_owned : Addr
  d_Types_owned : FuncData
  f_Disk_words : Addr
  d_Disk_words : FuncData
  f_Blocks_forest : Addr
  d_Blocks_forest : FuncData
  f_Blocks_lasting_forest : Addr
  d_Blocks_lasting_forest : FuncData
  f_Blocks___init__ : Addr
  d_Blocks___init__ : FuncData
  f_Kernel___init__ : Addr
  d_Kernel___init__ : FuncData
  f_Disk___init__ : Addr
  d_Disk___init__ : FuncData
  f__law_kernel : Addr
  d__law_kernel : FuncData
  f_Memory___init__ : Addr
  d_Memory___init__ : FuncData
  f_Pipes___init__ : Addr
  d_Pipes___init__ : FuncData
  f_Stack___init__ : Addr
  d_Stack___init__ : FuncData
  f_Make_request : Addr
  d_Make_request : FuncData
  f_Put_request : Addr
  d_Put_request : FuncData
  f_Take_request : Addr
  d_Take_request : FuncData
  f_End_request : Addr
  d_End_request : FuncData
  f_Memory_note_taken : Addr
  d_Memory_note_taken : FuncData
  f_Pipes_note : Addr
  d_Pipes_note : FuncData
  f_Make_accept : Addr
  d_Make_accept : FuncData
  f_Pipes_frame : Addr
  d_Pipes_frame : FuncData
  f_Pipes_head : Addr
  d_Pipes_head : FuncData
  f_Pipes_size : Addr
  d_Pipes_size : FuncData
  f_Put_accept : Addr
  d_Put_accept : FuncData
  f_Take_accept : Addr
  d_Take_accept : FuncData
  f_Memory_note_dropped : Addr
  d_Memory_note_dropped : FuncData
  f_Pipes_forget : Addr
  d_Pipes_forget : FuncData
  f_End_accept : Addr
  d_End_accept : FuncData
  f_Stack__settle : Addr
  d_Stack__settle : FuncData
  f_Frames_holdings : Addr
  d_Frames_holdings : FuncData
  f_Frames_free : Addr
  d_Frames_free : FuncData
  f_Frames_charge : Addr
  d_Frames_charge : FuncData
  f_Frames_share : Addr
  d_Frames_share : FuncData
  f_Frames_left : Addr
  d_Frames_left : FuncData
  f_Frames_may_hold_more : Addr
  d_Frames_may_hold_more : FuncData
  f_Frames_take : Addr
  d_Frames_take : FuncData
  f_told : Addr
  d_told : FuncData
  f_Frames_is_frame : Addr
  d_Frames_is_frame : FuncData
  f_Frames_right : Addr
  d_Frames_right : FuncData
  f_includes : Addr
  d_includes : FuncData
  f_Frames_offer : Addr
  d_Frames_offer : FuncData
  f_Frames_accept : Addr
  d_Frames_accept : FuncData
  f_Frames__end_holding : Addr
  d_Frames__end_holding : FuncData
  f_Frames_drop : Addr
  d_Frames_drop : FuncData
  f_is_page : Addr
  d_is_page : FuncData
  f_Pages_entry : Addr
  d_Pages_entry : FuncData
  f_Pages__fall : Addr
  d_Pages__fall : FuncData
  f_Pages_ended : Addr
  d_Pages_ended : FuncData
  f_Frames_narrow : Addr
  d_Frames_narrow : FuncData
  f_Pages_narrowed : Addr
  d_Pages_narrowed : FuncData
  f_Kernel__frames : Addr
  d_Kernel__frames : FuncData
  f_Pages_map : Addr
  d_Pages_map : FuncData
  f_Pages_unmap : Addr
  d_Pages_unmap : FuncData
  f_Frames_read : Addr
  d_Frames_read : FuncData
  f_Pages_load : Addr
  d_Pages_load : FuncData
  f_is_word : Addr
  d_is_word : FuncData
  f_Frames_write : Addr
  d_Frames_write : FuncData
  f_Pages_store : Addr
  d_Pages_store : FuncData
  f_Kernel__pages : Addr
  d_Kernel__pages : FuncData
  f_Kernel_request : Addr
  d_Kernel_request : FuncData
  f_Stack_step : Addr
  d_Stack_step : FuncData
  f_Stack_ended : Addr
  d_Stack_ended : FuncData
  f_Stack_value : Addr
  d_Stack_value : FuncData
  f__law_run : Addr
  d__law_run : FuncData
  f_Pipes_least : Addr
  d_Pipes_least : FuncData
  f_Memory_held : Addr
  d_Memory_held : FuncData
  f_Memory_is_full : Addr
  d_Memory_is_full : FuncData
  f_Make___init__ : Addr
  d_Make___init__ : FuncData
  f_Pipes_is_there : Addr
  d_Pipes_is_there : FuncData
  f_Put___init__ : Addr
  d_Put___init__ : FuncData
  f_Take___init__ : Addr
  d_Take___init__ : FuncData
  f_End___init__ : Addr
  d_End___init__ : FuncData
  f_law : Addr
  d_law : FuncData
  t_DATA : Tok
  t_ENVIRONMENTS : Tok
  t_FIELDS : Tok
  t_FIRST_PAGE : Tok
  t_FIRST_TYPE : Tok
  t_LEAST : Tok
  t_LEAST_BLOCKS : Tok
  a_LENGTHS_kernel : Addr
  e_LENGTHS_kernel : Array DictEntry
  n_LENGTHS_kernel : Nat
  t_MOST_BLOCKS : Tok
  t_MOST_GUARDS : Tok
  t_MOST_frames : Tok
  t_MOST_pipes : Tok
  t_OWN : Tok
  t_PAGES : Tok
  t_ROOT : Tok
  t_SLOTS_memory : Tok
  t_SLOTS_slices : Tok
  t_TOP : Tok
  t_WORDS : Tok
def Tx.G (T : Tx) (K : PySem.W.Frag) : Cfg := ⟨K, [T.c_Frames, T.c_Pages, T.c_SteadError, T.c_NotValid, T.c_Slices, T.c_Disk, T.c_Types, T.c_Blocks, T.c_Net, T.c_Kernel, T.c_Stack, T.c_Requests, T.c_Memory, T.c_Pipes, T.c_Make, T.c_Put, T.c_Take, T.c_End, T.c_Read, T.c_Own, T.c_Write, T.c_Grow, T.c_Fork, T.c_Clear], nms, sts⟩
structure TxOk (w : World) (K : PySem.W.Frag) (mg : Str → Option Value) (T : Tx) : Prop where
  F__law_next : Fun K "_law_next" "_law_next" s__law_next T.f__law_next T.d__law_next
  b__law_next : Binds K T.d__law_next ["_law_tape", "_law_many"] []
  g__law_next : mg "_law_next" = some (.ref T.f__law_next)
  F_is_number : Fun K "is_number" "is_number" s_is_number T.f_is_number T.d_is_number
  b_is_number : Binds K T.d_is_number ["value"] []
  g_is_number : mg "is_number" = some (.ref T.f_is_number)
  F_is_environment : Fun K "is_environment" "is_environment" s_is_environment T.f_is_environment T.d_is_environment
  b_is_environment : Binds K T.d_is_environment ["value"] []
  g_is_environment : mg "is_environment" = some (.ref T.f_is_environment)
  F_Slices__step : Fun K "_step" "Slices._step" s_Slices__step T.f_Slices__step T.d_Slices__step
  b_Slices__step : Binds K T.d_Slices__step ["self"] []
  M_Slices__step : Meth K T.c_Slices "_step" T.f_Slices__step
  F_Slices__find : Fun K "_find" "Slices._find" s_Slices__find T.f_Slices__find T.d_Slices__find
  b_Slices__find : Binds K T.d_Slices__find ["self"] []
  M_Slices__find : Meth K T.c_Slices "_find" T.f_Slices__find
  F_Slices___init__ : Fun K "__init__" "Slices.__init__" s_Slices___init__ T.f_Slices___init__ T.d_Slices___init__
  b_Slices___init__ : Binds K T.d_Slices___init__ ["self", "owners"] []
  F_Frames___init__ : Fun K "__init__" "Frames.__init__" s_Frames___init__ T.f_Frames___init__ T.d_Frames___init__
  b_Frames___init__ : Binds K T.d_Frames___init__ ["self", "many", "shares"] []
  F_Pages___init__ : Fun K "__init__" "Pages.__init__" s_Pages___init__ T.f_Pages___init__ T.d_Pages___init__
  b_Pages___init__ : Binds K T.d_Pages___init__ ["self", "frames"] []
  F_Net___init__ : Fun K "__init__" "Net.__init__" s_Net___init__ T.f_Net___init__ T.d_Net___init__
  b_Net___init__ : Binds K T.d_Net___init__ ["self", "regions"] []
  F_Types___init__ : Fun K "__init__" "Types.__init__" s_Types___init__ T.f_Types___init__ T.d_Types___init__
  b_Types___init__ : Binds K T.d_Types___init__ ["self", "blocks"] []
  F_Types_owned : Fun K "owned" "Types.owned" s_Types_owned T.f_Types_owned T.d_Types_owned
  b_Types_owned : Binds K T.d_Types_owned ["self", "number", "words"] []
  M_Types_owned : Meth K T.c_Types "owned" T.f_Types_owned
  F_Disk_words : Fun K "words" "Disk.words" s_Disk_words T.f_Disk_words T.d_Disk_words
  b_Disk_words : Binds K T.d_Disk_words ["self", "block"] []
  M_Disk_words : Meth K T.c_Disk "words" T.f_Disk_words
  F_Blocks_forest : Fun K "forest" "Blocks.forest" s_Blocks_forest T.f_Blocks_forest T.d_Blocks_forest
  b_Blocks_forest : Binds K T.d_Blocks_forest ["self", "roots", "table"] []
  M_Blocks_forest : Meth K T.c_Blocks "forest" T.f_Blocks_forest
  F_Blocks_lasting_forest : Fun K "lasting_forest" "Blocks.lasting_forest" s_Blocks_lasting_forest T.f_Blocks_lasting_forest T.d_Blocks_lasting_forest
  b_Blocks_lasting_forest : Binds K T.d_Blocks_lasting_forest ["self", "environment"] []
  M_Blocks_lasting_forest : Meth K T.c_Blocks "lasting_forest" T.f_Blocks_lasting_forest
  F_Blocks___init__ : FunD K "__init__" "Blocks.__init__" (defArgs s_Blocks___init__) (defBody s_Blocks___init__) (defScope s_Blocks___init__) [.non] [] T.f_Blocks___init__ T.d_Blocks___init__
  b_Blocks___init__ : Binds K T.d_Blocks___init__ ["self", "disk", "shares", "types"] []
  F_Kernel___init__ : Fun K "__init__" "Kernel.__init__" s_Kernel___init__ T.f_Kernel___init__ T.d_Kernel___init__
  b_Kernel___init__ : Binds K T.d_Kernel___init__ ["self", "owners", "frames", "frame_shares", "disk", "block_shares", "types", "regions"] []
  F_Disk___init__ : Fun K "__init__" "Disk.__init__" s_Disk___init__ T.f_Disk___init__ T.d_Disk___init__
  b_Disk___init__ : Binds K T.d_Disk___init__ ["self", "blocks"] []
  F__law_kernel : Fun K "_law_kernel" "_law_kernel" s__law_kernel T.f__law_kernel T.d__law_kernel
  b__law_kernel : Binds K T.d__law_kernel ["_law_many", "_law_share"] []
  g__law_kernel : mg "_law_kernel" = some (.ref T.f__law_kernel)
  F_Memory___init__ : Fun K "__init__" "Memory.__init__" s_Memory___init__ T.f_Memory___init__ T.d_Memory___init__
  b_Memory___init__ : Binds K T.d_Memory___init__ ["self", "share"] []
  F_Pipes___init__ : Fun K "__init__" "Pipes.__init__" s_Pipes___init__ T.f_Pipes___init__ T.d_Pipes___init__
  b_Pipes___init__ : Binds K T.d_Pipes___init__ ["self", "memory"] []
  F_Stack___init__ : Fun K "__init__" "Stack.__init__" s_Stack___init__ T.f_Stack___init__ T.d_Stack___init__
  b_Stack___init__ : Binds K T.d_Stack___init__ ["self", "machine"] []
  F_Make_request : Fun K "request" "Make.request" s_Make_request T.f_Make_request T.d_Make_request
  b_Make_request : Binds K T.d_Make_request ["self"] []
  M_Make_request : Meth K T.c_Make "request" T.f_Make_request
  F_Put_request : Fun K "request" "Put.request" s_Put_request T.f_Put_request T.d_Put_request
  b_Put_request : Binds K T.d_Put_request ["self"] []
  M_Put_request : Meth K T.c_Put "request" T.f_Put_request
  F_Take_request : Fun K "request" "Take.request" s_Take_request T.f_Take_request T.d_Take_request
  b_Take_request : Binds K T.d_Take_request ["self"] []
  M_Take_request : Meth K T.c_Take "request" T.f_Take_request
  F_End_request : Fun K "request" "End.request" s_End_request T.f_End_request T.d_End_request
  b_End_request : Binds K T.d_End_request ["self"] []
  M_End_request : Meth K T.c_End "request" T.f_End_request
  F_Memory_note_taken : Fun K "note_taken" "Memory.note_taken" s_Memory_note_taken T.f_Memory_note_taken T.d_Memory_note_taken
  b_Memory_note_taken : Binds K T.d_Memory_note_taken ["self"] []
  M_Memory_note_taken : Meth K T.c_Memory "note_taken" T.f_Memory_note_taken
  F_Pipes_note : Fun K "note" "Pipes.note" s_Pipes_note T.f_Pipes_note T.d_Pipes_note
  b_Pipes_note : Binds K T.d_Pipes_note ["self", "pipe", "frame", "head", "size"] []
  M_Pipes_note : Meth K T.c_Pipes "note" T.f_Pipes_note
  F_Make_accept : Fun K "accept" "Make.accept" s_Make_accept T.f_Make_accept T.d_Make_accept
  b_Make_accept : Binds K T.d_Make_accept ["self", "result"] []
  M_Make_accept : Meth K T.c_Make "accept" T.f_Make_accept
  F_Pipes_frame : Fun K "frame" "Pipes.frame" s_Pipes_frame T.f_Pipes_frame T.d_Pipes_frame
  b_Pipes_frame : Binds K T.d_Pipes_frame ["self", "pipe"] []
  M_Pipes_frame : Meth K T.c_Pipes "frame" T.f_Pipes_frame
  F_Pipes_head : Fun K "head" "Pipes.head" s_Pipes_head T.f_Pipes_head T.d_Pipes_head
  b_Pipes_head : Binds K T.d_Pipes_head ["self", "pipe"] []
  M_Pipes_head : Meth K T.c_Pipes "head" T.f_Pipes_head
  F_Pipes_size : Fun K "size" "Pipes.size" s_Pipes_size T.f_Pipes_size T.d_Pipes_size
  b_Pipes_size : Binds K T.d_Pipes_size ["self", "pipe"] []
  M_Pipes_size : Meth K T.c_Pipes "size" T.f_Pipes_size
  F_Put_accept : Fun K "accept" "Put.accept" s_Put_accept T.f_Put_accept T.d_Put_accept
  b_Put_accept : Binds K T.d_Put_accept ["self", "result"] []
  M_Put_accept : Meth K T.c_Put "accept" T.f_Put_accept
  F_Take_accept : Fun K "accept" "Take.accept" s_Take_accept T.f_Take_accept T.d_Take_accept
  b_Take_accept : Binds K T.d_Take_accept ["self", "result"] []
  M_Take_accept : Meth K T.c_Take "accept" T.f_Take_accept
  F_Memory_note_dropped : Fun K "note_dropped" "Memory.note_dropped" s_Memory_note_dropped T.f_Memory_note_dropped T.d_Memory_note_dropped
  b_Memory_note_dropped : Binds K T.d_Memory_note_dropped ["self"] []
  M_Memory_note_dropped : Meth K T.c_Memory "note_dropped" T.f_Memory_note_dropped
  F_Pipes_forget : Fun K "forget" "Pipes.forget" s_Pipes_forget T.f_Pipes_forget T.d_Pipes_forget
  b_Pipes_forget : Binds K T.d_Pipes_forget ["self", "pipe"] []
  M_Pipes_forget : Meth K T.c_Pipes "forget" T.f_Pipes_forget
  F_End_accept : Fun K "accept" "End.accept" s_End_accept T.f_End_accept T.d_End_accept
  b_End_accept : Binds K T.d_End_accept ["self", "result"] []
  M_End_accept : Meth K T.c_End "accept" T.f_End_accept
  F_Stack__settle : Fun K "_settle" "Stack._settle" s_Stack__settle T.f_Stack__settle T.d_Stack__settle
  b_Stack__settle : Binds K T.d_Stack__settle ["self"] []
  M_Stack__settle : Meth K T.c_Stack "_settle" T.f_Stack__settle
  F_Frames_holdings : Fun K "holdings" "Frames.holdings" s_Frames_holdings T.f_Frames_holdings T.d_Frames_holdings
  b_Frames_holdings : Binds K T.d_Frames_holdings ["self", "environment"] []
  M_Frames_holdings : Meth K T.c_Frames "holdings" T.f_Frames_holdings
  F_Frames_free : Fun K "free" "Frames.free" s_Frames_free T.f_Frames_free T.d_Frames_free
  b_Frames_free : Binds K T.d_Frames_free ["self"] []
  M_Frames_free : Meth K T.c_Frames "free" T.f_Frames_free
  F_Frames_charge : Fun K "charge" "Frames.charge" s_Frames_charge T.f_Frames_charge T.d_Frames_charge
  b_Frames_charge : Binds K T.d_Frames_charge ["self", "environment"] []
  M_Frames_charge : Meth K T.c_Frames "charge" T.f_Frames_charge
  F_Frames_share : Fun K "share" "Frames.share" s_Frames_share T.f_Frames_share T.d_Frames_share
  b_Frames_share : Binds K T.d_Frames_share ["self", "environment"] []
  M_Frames_share : Meth K T.c_Frames "share" T.f_Frames_share
  F_Frames_left : Fun K "left" "Frames.left" s_Frames_left T.f_Frames_left T.d_Frames_left
  b_Frames_left : Binds K T.d_Frames_left ["self"] []
  M_Frames_left : Meth K T.c_Frames "left" T.f_Frames_left
  F_Frames_may_hold_more : Fun K "may_hold_more" "Frames.may_hold_more" s_Frames_may_hold_more T.f_Frames_may_hold_more T.d_Frames_may_hold_more
  b_Frames_may_hold_more : Binds K T.d_Frames_may_hold_more ["self", "environment"] []
  M_Frames_may_hold_more : Meth K T.c_Frames "may_hold_more" T.f_Frames_may_hold_more
  F_Frames_take : Fun K "take" "Frames.take" s_Frames_take T.f_Frames_take T.d_Frames_take
  b_Frames_take : Binds K T.d_Frames_take ["self", "environment"] []
  M_Frames_take : Meth K T.c_Frames "take" T.f_Frames_take
  F_told : Fun K "told" "told" s_told T.f_told T.d_told
  b_told : Binds K T.d_told ["done", "word"] []
  g_told : mg "told" = some (.ref T.f_told)
  F_Frames_is_frame : Fun K "is_frame" "Frames.is_frame" s_Frames_is_frame T.f_Frames_is_frame T.d_Frames_is_frame
  b_Frames_is_frame : Binds K T.d_Frames_is_frame ["self", "frame"] []
  M_Frames_is_frame : Meth K T.c_Frames "is_frame" T.f_Frames_is_frame
  F_Frames_right : Fun K "right" "Frames.right" s_Frames_right T.f_Frames_right T.d_Frames_right
  b_Frames_right : Binds K T.d_Frames_right ["self", "environment", "frame"] []
  M_Frames_right : Meth K T.c_Frames "right" T.f_Frames_right
  F_includes : Fun K "includes" "includes" s_includes T.f_includes T.d_includes
  b_includes : Binds K T.d_includes ["right", "wanted"] []
  g_includes : mg "includes" = some (.ref T.f_includes)
  F_Frames_offer : Fun K "offer" "Frames.offer" s_Frames_offer T.f_Frames_offer T.d_Frames_offer
  b_Frames_offer : Binds K T.d_Frames_offer ["self", "environment", "frame", "other", "right"] []
  M_Frames_offer : Meth K T.c_Frames "offer" T.f_Frames_offer
  F_Frames_accept : Fun K "accept" "Frames.accept" s_Frames_accept T.f_Frames_accept T.d_Frames_accept
  b_Frames_accept : Binds K T.d_Frames_accept ["self", "environment", "frame", "owner"] []
  M_Frames_accept : Meth K T.c_Frames "accept" T.f_Frames_accept
  F_Frames__end_holding : Fun K "_end_holding" "Frames._end_holding" s_Frames__end_holding T.f_Frames__end_holding T.d_Frames__end_holding
  b_Frames__end_holding : Binds K T.d_Frames__end_holding ["self", "environment", "frame"] []
  M_Frames__end_holding : Meth K T.c_Frames "_end_holding" T.f_Frames__end_holding
  F_Frames_drop : Fun K "drop" "Frames.drop" s_Frames_drop T.f_Frames_drop T.d_Frames_drop
  b_Frames_drop : Binds K T.d_Frames_drop ["self", "environment", "frame"] []
  M_Frames_drop : Meth K T.c_Frames "drop" T.f_Frames_drop
  F_is_page : Fun K "is_page" "is_page" s_is_page T.f_is_page T.d_is_page
  b_is_page : Binds K T.d_is_page ["value"] []
  g_is_page : mg "is_page" = some (.ref T.f_is_page)
  F_Pages_entry : Fun K "entry" "Pages.entry" s_Pages_entry T.f_Pages_entry T.d_Pages_entry
  b_Pages_entry : Binds K T.d_Pages_entry ["self", "environment", "page"] []
  M_Pages_entry : Meth K T.c_Pages "entry" T.f_Pages_entry
  F_Pages__fall : Fun K "_fall" "Pages._fall" s_Pages__fall T.f_Pages__fall T.d_Pages__fall
  b_Pages__fall : Binds K T.d_Pages__fall ["self", "environment", "frame", "rights"] []
  M_Pages__fall : Meth K T.c_Pages "_fall" T.f_Pages__fall
  F_Pages_ended : Fun K "ended" "Pages.ended" s_Pages_ended T.f_Pages_ended T.d_Pages_ended
  b_Pages_ended : Binds K T.d_Pages_ended ["self", "environment", "frame"] []
  M_Pages_ended : Meth K T.c_Pages "ended" T.f_Pages_ended
  F_Frames_narrow : Fun K "narrow" "Frames.narrow" s_Frames_narrow T.f_Frames_narrow T.d_Frames_narrow
  b_Frames_narrow : Binds K T.d_Frames_narrow ["self", "environment", "frame"] []
  M_Frames_narrow : Meth K T.c_Frames "narrow" T.f_Frames_narrow
  F_Pages_narrowed : Fun K "narrowed" "Pages.narrowed" s_Pages_narrowed T.f_Pages_narrowed T.d_Pages_narrowed
  b_Pages_narrowed : Binds K T.d_Pages_narrowed ["self", "environment", "frame"] []
  M_Pages_narrowed : Meth K T.c_Pages "narrowed" T.f_Pages_narrowed
  F_Kernel__frames : Fun K "_frames" "Kernel._frames" s_Kernel__frames T.f_Kernel__frames T.d_Kernel__frames
  b_Kernel__frames : Binds K T.d_Kernel__frames ["self", "environment", "request"] []
  M_Kernel__frames : Meth K T.c_Kernel "_frames" T.f_Kernel__frames
  F_Pages_map : Fun K "map" "Pages.map" s_Pages_map T.f_Pages_map T.d_Pages_map
  b_Pages_map : Binds K T.d_Pages_map ["self", "environment", "page", "frame", "right"] []
  M_Pages_map : Meth K T.c_Pages "map" T.f_Pages_map
  F_Pages_unmap : Fun K "unmap" "Pages.unmap" s_Pages_unmap T.f_Pages_unmap T.d_Pages_unmap
  b_Pages_unmap : Binds K T.d_Pages_unmap ["self", "environment", "page"] []
  M_Pages_unmap : Meth K T.c_Pages "unmap" T.f_Pages_unmap
  F_Frames_read : Fun K "read" "Frames.read" s_Frames_read T.f_Frames_read T.d_Frames_read
  b_Frames_read : Binds K T.d_Frames_read ["self", "frame", "index"] []
  M_Frames_read : Meth K T.c_Frames "read" T.f_Frames_read
  F_Pages_load : Fun K "load" "Pages.load" s_Pages_load T.f_Pages_load T.d_Pages_load
  b_Pages_load : Binds K T.d_Pages_load ["self", "environment", "page", "index"] []
  M_Pages_load : Meth K T.c_Pages "load" T.f_Pages_load
  F_is_word : Fun K "is_word" "is_word" s_is_word T.f_is_word T.d_is_word
  b_is_word : Binds K T.d_is_word ["value"] []
  g_is_word : mg "is_word" = some (.ref T.f_is_word)
  F_Frames_write : Fun K "write" "Frames.write" s_Frames_write T.f_Frames_write T.d_Frames_write
  b_Frames_write : Binds K T.d_Frames_write ["self", "frame", "index", "word"] []
  M_Frames_write : Meth K T.c_Frames "write" T.f_Frames_write
  F_Pages_store : Fun K "store" "Pages.store" s_Pages_store T.f_Pages_store T.d_Pages_store
  b_Pages_store : Binds K T.d_Pages_store ["self", "environment", "page", "index", "word"] []
  M_Pages_store : Meth K T.c_Pages "store" T.f_Pages_store
  F_Kernel__pages : Fun K "_pages" "Kernel._pages" s_Kernel__pages T.f_Kernel__pages T.d_Kernel__pages
  b_Kernel__pages : Binds K T.d_Kernel__pages ["self", "environment", "request"] []
  M_Kernel__pages : Meth K T.c_Kernel "_pages" T.f_Kernel__pages
  F_Kernel_request : Fun K "request" "Kernel.request" s_Kernel_request T.f_Kernel_request T.d_Kernel_request
  b_Kernel_request : Binds K T.d_Kernel_request ["self", "environment", "request"] []
  M_Kernel_request : Meth K T.c_Kernel "request" T.f_Kernel_request
  F_Stack_step : Fun K "step" "Stack.step" s_Stack_step T.f_Stack_step T.d_Stack_step
  b_Stack_step : Binds K T.d_Stack_step ["self", "kernel", "environment"] []
  M_Stack_step : Meth K T.c_Stack "step" T.f_Stack_step
  F_Stack_ended : Fun K "ended" "Stack.ended" s_Stack_ended T.f_Stack_ended T.d_Stack_ended
  b_Stack_ended : Binds K T.d_Stack_ended ["self"] []
  M_Stack_ended : Meth K T.c_Stack "ended" T.f_Stack_ended
  F_Stack_value : Fun K "value" "Stack.value" s_Stack_value T.f_Stack_value T.d_Stack_value
  b_Stack_value : Binds K T.d_Stack_value ["self"] []
  M_Stack_value : Meth K T.c_Stack "value" T.f_Stack_value
  F__law_run : Fun K "_law_run" "_law_run" s__law_run T.f__law_run T.d__law_run
  b__law_run : Binds K T.d__law_run ["_law_kernel_here", "_law_machine"] []
  g__law_run : mg "_law_run" = some (.ref T.f__law_run)
  F_Pipes_least : Fun K "least" "Pipes.least" s_Pipes_least T.f_Pipes_least T.d_Pipes_least
  b_Pipes_least : Binds K T.d_Pipes_least ["self"] []
  M_Pipes_least : Meth K T.c_Pipes "least" T.f_Pipes_least
  F_Memory_held : Fun K "held" "Memory.held" s_Memory_held T.f_Memory_held T.d_Memory_held
  b_Memory_held : Binds K T.d_Memory_held ["self"] []
  M_Memory_held : Meth K T.c_Memory "held" T.f_Memory_held
  F_Memory_is_full : Fun K "is_full" "Memory.is_full" s_Memory_is_full T.f_Memory_is_full T.d_Memory_is_full
  b_Memory_is_full : Binds K T.d_Memory_is_full ["self"] []
  M_Memory_is_full : Meth K T.c_Memory "is_full" T.f_Memory_is_full
  F_Make___init__ : Fun K "__init__" "Make.__init__" s_Make___init__ T.f_Make___init__ T.d_Make___init__
  b_Make___init__ : Binds K T.d_Make___init__ ["self", "pipes"] []
  F_Pipes_is_there : Fun K "is_there" "Pipes.is_there" s_Pipes_is_there T.f_Pipes_is_there T.d_Pipes_is_there
  b_Pipes_is_there : Binds K T.d_Pipes_is_there ["self", "pipe"] []
  M_Pipes_is_there : Meth K T.c_Pipes "is_there" T.f_Pipes_is_there
  F_Put___init__ : Fun K "__init__" "Put.__init__" s_Put___init__ T.f_Put___init__ T.d_Put___init__
  b_Put___init__ : Binds K T.d_Put___init__ ["self", "pipes", "pipe", "word"] []
  F_Take___init__ : Fun K "__init__" "Take.__init__" s_Take___init__ T.f_Take___init__ T.d_Take___init__
  b_Take___init__ : Binds K T.d_Take___init__ ["self", "pipes", "pipe"] []
  F_End___init__ : Fun K "__init__" "End.__init__" s_End___init__ T.f_End___init__ T.d_End___init__
  b_End___init__ : Binds K T.d_End___init__ ["self", "pipes", "pipe"] []
  F_law : Fun K "law" "law" s_law T.f_law T.d_law
  b_law : Binds K T.d_law ["_law_script"] []
  g_law : mg "law" = some (.ref T.f_law)
  cl_Stack : Cls K T.c_Stack
  gc_Stack : mg "Stack" = some (.ref T.c_Stack)
  mk_Stack : Mk K T.c_Stack T.f_Stack___init__
  cl_Slices : Cls K T.c_Slices
  gc_Slices : mg "Slices" = some (.ref T.c_Slices)
  mk_Slices : Mk K T.c_Slices T.f_Slices___init__
  cl_Frames : Cls K T.c_Frames
  gc_Frames : mg "Frames" = some (.ref T.c_Frames)
  mk_Frames : Mk K T.c_Frames T.f_Frames___init__
  cl_Disk : Cls K T.c_Disk
  gc_Disk : mg "Disk" = some (.ref T.c_Disk)
  mk_Disk : Mk K T.c_Disk T.f_Disk___init__
  cl_Types : Cls K T.c_Types
  gc_Types : mg "Types" = some (.ref T.c_Types)
  mk_Types : Mk K T.c_Types T.f_Types___init__
  cl_Blocks : Cls K T.c_Blocks
  gc_Blocks : mg "Blocks" = some (.ref T.c_Blocks)
  mk_Blocks : Mk K T.c_Blocks T.f_Blocks___init__
  cl_Net : Cls K T.c_Net
  gc_Net : mg "Net" = some (.ref T.c_Net)
  mk_Net : Mk K T.c_Net T.f_Net___init__
  cl_Pages : Cls K T.c_Pages
  gc_Pages : mg "Pages" = some (.ref T.c_Pages)
  mk_Pages : Mk K T.c_Pages T.f_Pages___init__
  cl_Kernel : Cls K T.c_Kernel
  gc_Kernel : mg "Kernel" = some (.ref T.c_Kernel)
  mk_Kernel : Mk K T.c_Kernel T.f_Kernel___init__
  cl_Memory : Cls K T.c_Memory
  gc_Memory : mg "Memory" = some (.ref T.c_Memory)
  mk_Memory : Mk K T.c_Memory T.f_Memory___init__
  cl_Pipes : Cls K T.c_Pipes
  gc_Pipes : mg "Pipes" = some (.ref T.c_Pipes)
  mk_Pipes : Mk K T.c_Pipes T.f_Pipes___init__
  cl_Make : Cls K T.c_Make
  gc_Make : mg "Make" = some (.ref T.c_Make)
  mk_Make : Mk K T.c_Make T.f_Make___init__
  cl_Put : Cls K T.c_Put
  gc_Put : mg "Put" = some (.ref T.c_Put)
  mk_Put : Mk K T.c_Put T.f_Put___init__
  cl_Take : Cls K T.c_Take
  gc_Take : mg "Take" = some (.ref T.c_Take)
  mk_Take : Mk K T.c_Take T.f_Take___init__
  cl_End : Cls K T.c_End
  gc_End : mg "End" = some (.ref T.c_End)
  mk_End : Mk K T.c_End T.f_End___init__
  na_Blocks_buffers : NoAttr K T.c_Blocks "buffers"
  na_Blocks_disk : NoAttr K T.c_Blocks "disk"
  na_Blocks_fresh : NoAttr K T.c_Blocks "fresh"
  na_Blocks_kept : NoAttr K T.c_Blocks "kept"
  na_Blocks_shares : NoAttr K T.c_Blocks "shares"
  na_Blocks_types : NoAttr K T.c_Blocks "types"
  na_Disk_blocks : NoAttr K T.c_Disk "blocks"
  na_Disk_held : NoAttr K T.c_Disk "held"
  na_Disk_waiting : NoAttr K T.c_Disk "waiting"
  na_End_frame : NoAttr K T.c_End "frame"
  na_End_pipe : NoAttr K T.c_End "pipe"
  na_End_pipes : NoAttr K T.c_End "pipes"
  na_End_stage : NoAttr K T.c_End "stage"
  na_End_wanted : NoAttr K T.c_End "wanted"
  na_Frames_holders : NoAttr K T.c_Frames "holders"
  na_Frames_lost : NoAttr K T.c_Frames "lost"
  na_Frames_many : NoAttr K T.c_Frames "many"
  na_Frames_offers : NoAttr K T.c_Frames "offers"
  na_Frames_order : NoAttr K T.c_Frames "order"
  na_Frames_shares : NoAttr K T.c_Frames "shares"
  na_Frames_wanted : NoAttr K T.c_Frames "wanted"
  na_Frames_words : NoAttr K T.c_Frames "words"
  na_Kernel_blocks : NoAttr K T.c_Kernel "blocks"
  na_Kernel_disk : NoAttr K T.c_Kernel "disk"
  na_Kernel_frames : NoAttr K T.c_Kernel "frames"
  na_Kernel_net : NoAttr K T.c_Kernel "net"
  na_Kernel_pages : NoAttr K T.c_Kernel "pages"
  na_Kernel_slices : NoAttr K T.c_Kernel "slices"
  na_Make_pipe : NoAttr K T.c_Make "pipe"
  na_Make_pipes : NoAttr K T.c_Make "pipes"
  na_Make_stage : NoAttr K T.c_Make "stage"
  na_Make_wanted : NoAttr K T.c_Make "wanted"
  na_Memory_others : NoAttr K T.c_Memory "others"
  na_Memory_share : NoAttr K T.c_Memory "share"
  na_Memory_tables : NoAttr K T.c_Memory "tables"
  na_Net_gone : NoAttr K T.c_Net "gone"
  na_Net_made : NoAttr K T.c_Net "made"
  na_Net_missed : NoAttr K T.c_Net "missed"
  na_Net_regions : NoAttr K T.c_Net "regions"
  na_Net_rings : NoAttr K T.c_Net "rings"
  na_Net_rows : NoAttr K T.c_Net "rows"
  na_Net_tree : NoAttr K T.c_Net "tree"
  na_Pages_entries : NoAttr K T.c_Pages "entries"
  na_Pages_frames : NoAttr K T.c_Pages "frames"
  na_Pipes_memory : NoAttr K T.c_Pipes "memory"
  na_Pipes_rows : NoAttr K T.c_Pipes "rows"
  na_Put_pipe : NoAttr K T.c_Put "pipe"
  na_Put_pipes : NoAttr K T.c_Put "pipes"
  na_Put_wanted : NoAttr K T.c_Put "wanted"
  na_Slices_holder : NoAttr K T.c_Slices "holder"
  na_Slices_owners : NoAttr K T.c_Slices "owners"
  na_Slices_round : NoAttr K T.c_Slices "round"
  na_Slices_slot : NoAttr K T.c_Slices "slot"
  na_Slices_unit : NoAttr K T.c_Slices "unit"
  na_Stack_machines : NoAttr K T.c_Stack "machines"
  na_Stack_result : NoAttr K T.c_Stack "result"
  na_Take_pipe : NoAttr K T.c_Take "pipe"
  na_Take_pipes : NoAttr K T.c_Take "pipes"
  na_Take_wanted : NoAttr K T.c_Take "wanted"
  na_Types_blocks : NoAttr K T.c_Types "blocks"
  na_Types_known : NoAttr K T.c_Types "known"
  na_Types_makers : NoAttr K T.c_Types "makers"
  n_abs : mg "abs" = none
  n_all : mg "all" = none
  n_any : mg "any" = none
  n_bool : mg "bool" = none
  n_int : mg "int" = none
  n_isinstance : mg "isinstance" = none
  n_len : mg "len" = none
  n_list : mg "list" = none
  n_max : mg "max" = none
  n_min : mg "min" = none
  n_range : mg "range" = none
  n_str : mg "str" = none
  n_sum : mg "sum" = none
  n_tuple : mg "tuple" = none
  k_BAD_kernel : KT K mg sts "BAD_kernel" c_BAD_kernel
  k_DATA : mg "DATA" = some (.int 0 T.t_DATA)
  k_EMPTY : KT K mg sts "EMPTY" c_EMPTY
  k_ENVIRONMENTS : mg "ENVIRONMENTS" = some (.int 4 T.t_ENVIRONMENTS)
  k_FIELDS : mg "FIELDS" = some (.int 6 T.t_FIELDS)
  k_FIRST_PAGE : mg "FIRST_PAGE" = some (.int 24 T.t_FIRST_PAGE)
  k_FIRST_TYPE : mg "FIRST_TYPE" = some (.int 2 T.t_FIRST_TYPE)
  k_LEAST : mg "LEAST" = some (.int 8 T.t_LEAST)
  k_LEAST_BLOCKS : mg "LEAST_BLOCKS" = some (.int 24 T.t_LEAST_BLOCKS)
  k_LENGTHS_kernel : KD w K mg sts "LENGTHS_kernel" T.a_LENGTHS_kernel T.e_LENGTHS_kernel T.n_LENGTHS_kernel c_LENGTHS_kernel
  k_MOST_BLOCKS : mg "MOST_BLOCKS" = some (.int 64 T.t_MOST_BLOCKS)
  k_MOST_GUARDS : mg "MOST_GUARDS" = some (.int 4 T.t_MOST_GUARDS)
  k_MOST_frames : mg "MOST_frames" = some (.int 64 T.t_MOST_frames)
  k_MOST_pipes : mg "MOST_pipes" = some (.int 4 T.t_MOST_pipes)
  k_OWN : mg "OWN" = some (.str "own" T.t_OWN)
  k_PAGES : mg "PAGES" = some (.int 32 T.t_PAGES)
  k_RIGHTS : KT K mg sts "RIGHTS" c_RIGHTS
  k_ROOT : mg "ROOT" = some (.int 1 T.t_ROOT)
  k_SLOTS_memory : mg "SLOTS_memory" = some (.int 4 T.t_SLOTS_memory)
  k_SLOTS_slices : mg "SLOTS_slices" = some (.int 8 T.t_SLOTS_slices)
  k_TOP : mg "TOP" = some (.int 4294967295 T.t_TOP)
  k_WORDS : mg "WORDS" = some (.int 8 T.t_WORDS)
  gc_NotValid : mg "NotValid" = some (.ref T.c_NotValid)
  x_NotValid : PySem.W.excIn K T.c_NotValid [.type "ValueError", .type "Exception", .type "BaseException", .type "object"] "ValueError.__new__" = true
  kp_NotValid : PySem.W.keepIn K (.ref T.c_NotValid) = true
  bs_NotValid : PySem.W.subIn K (.ref T.c_NotValid) (.type "BaseException") = some true
  ty_NotValid : PySem.W.typeIn K (.ref T.c_NotValid) = some (.type "type")
  ex_NotValid : PySem.W.exmOne K (.ref T.c_NotValid) (.ref T.c_NotValid) = some true
section
variable {P : Program} {w : World} {K : PySem.W.Frag} {mg : Str → Option Value} {base : PySem.Heap} {T : Tx}
theorem gok : (T.G K).Ok := ⟨(by decide +kernel : nms.Nodup), (by decide +kernel : sts.Nodup), (by decide +kernel : ∀ x ∈ sts, PySem.PyData.strOk x = true)⟩
theorem sc__law_next : FnScope N__law_next ["_law_tape", "_law_many"] (defScope s__law_next) := ⟨rfl, rfl, rfl, by decide +kernel, rfl, by decide +kernel, by decide +kernel⟩
theorem ok__law_next (O : TxOk w K mg T) : FnM (T.G K) P w mg base 1 T.f__law_next T.d__law_next ["_law_tape", "_law_many"] m__law_next := by
  refine fn_m O.F__law_next sc__law_next rfl rfl (fun cdv A outer s H E C tk => ?_)
  exact ⟨_, mss_cons (ms_asg (me_ix gok C (me_var 0) (me_int)) (mg_name 2 C.nd))
    (mss_cons (ms_if (mt_cmp (mc_gt (me_var 2) (me_int))) (mss_cons (ms_sub gok C (me_var 0) (me_int) (me_fdiv (me_var 2) (me_var 1)))
    (mss_one (ms_ret (me_mod (me_bty call_int1 rl_int O.n_int bt_int (ma_cons (me_var 2) (ma_nil))) (me_var 1))))) (mss_nil))
    (mss_cons (ms_asg (me_int) (mg_name 3 C.nd))
    (mss_cons (ms_if (mt_cmp (mc_lt (me_ix gok C (me_var 0) (me_int)) (me_blt (cl_len C) rl_len O.n_len bt_len (ma_cons (me_ix gok C (me_var 0) (me_int)) (ma_nil))))) (mss_cons (ms_asg (me_blt call_abs rl_abs O.n_abs bt_abs (ma_cons (me_ix gok C (me_ix gok C (me_var 0) (me_int)) (me_ix gok C (me_var 0) (me_int))) (ma_nil))) (mg_name 3 C.nd))
    (mss_one (ms_subA gok C ia_add (rf_I0 (g := fun i j => i + j)) (me_var 0) (me_int) (me_int)))) (mss_nil))
    (mss_cons (ms_if (mt_cmp (mc_ge (me_var 3) (me_pow (me_int) (me_int)))) (mss_cons (ms_sub gok C (me_var 0) (me_int) (me_fdiv (me_var 3) (me_var 1)))
    (mss_one (ms_ret (me_mod (me_bty call_int1 rl_int O.n_int bt_int (ma_cons (me_var 3) (ma_nil))) (me_var 1))))) (mss_nil))
    (mss_cons (ms_sub gok C (me_var 0) (me_int) (me_mod (me_bty call_int1 rl_int O.n_int bt_int (ma_cons (me_add C (me_add C (me_mul C (me_ix gok C (me_var 0) (me_int)) (me_int)) (me_mul C (me_var 3) (me_int))) (me_int)) (ma_nil))) (me_int)))
    (mss_one (ms_ret (me_mod (me_bty call_int1 rl_int O.n_int bt_int (ma_cons (me_fdiv (me_mod (me_mul C (me_ix gok C (me_var 0) (me_int)) (me_int)) (me_int)) (me_int)) (ma_nil))) (me_var 1)))))))))⟩
theorem sc_is_number : FnScope N_is_number ["value"] (defScope s_is_number) := ⟨rfl, rfl, rfl, by decide +kernel, rfl, by decide +kernel, by decide +kernel⟩
theorem ok_is_number (O : TxOk w K mg T) : FnM (T.G K) P w mg base 1 T.f_is_number T.d_is_number ["value"] m_is_number := by
  refine fn_m O.F_is_number sc_is_number rfl rfl (fun cdv A outer s H E C tk => ?_)
  exact ⟨_, mss_one (ms_ret (me_andV (me_isi C .int (by decide) O.n_isinstance O.n_int bt_ty_int (me_var 0)) (me_one (me_notV (me_isi C .bool (by decide) O.n_isinstance O.n_bool bt_ty_bool (me_var 0))))))⟩
theorem sc_is_environment : FnScope N_is_environment ["value"] (defScope s_is_environment) := ⟨rfl, rfl, rfl, by decide +kernel, rfl, by decide +kernel, by decide +kernel⟩
theorem ok_is_environment (O : TxOk w K mg T) : FnM (T.G K) P w mg base 2 T.f_is_environment T.d_is_environment ["value"] m_is_environment := by
  refine fn_m O.F_is_environment sc_is_environment rfl rfl (fun cdv A outer s H E C tk => ?_)
  exact ⟨_, mss_one (ms_ret (me_andV (me_call C (ok_is_number O) df_nil (by decide) O.g_is_number O.F_is_number.kp O.b_is_number (ma_cons (me_var 0) (ma_nil))) (me_one (me_chLeLt (me_int) (me_var 0) (me_glob 4 O.k_ENVIRONMENTS)))))⟩
theorem sc_Slices__step : FnScope N_Slices__step ["self"] (defScope s_Slices__step) := ⟨rfl, rfl, rfl, by decide +kernel, rfl, by decide +kernel, by decide +kernel⟩
theorem ok_Slices__step (O : TxOk w K mg T) : FnM (T.G K) P w mg base 1 T.f_Slices__step T.d_Slices__step ["self"] m_Slices__step := by
  refine fn_m O.F_Slices__step sc_Slices__step rfl rfl (fun cdv A outer s H E C tk => ?_)
  exact ⟨_, mss_cons (ms_fld gok C 4 15 rfl rfl O.na_Slices_unit (me_var 0) (me_int))
    (mss_cons (ms_fldA gok C 4 14 rfl rfl O.na_Slices_slot ia_add (rf_I0 (g := fun i j => i + j)) (me_var 0) (me_int))
    (mss_one (ms_if (mt_cmp (mc_eq gok C (me_fld gok C 14 rfl (me_var 0)) (me_glob 8 O.k_SLOTS_slices))) (mss_cons (ms_fld gok C 4 14 rfl rfl O.na_Slices_slot (me_var 0) (me_int))
    (mss_one (ms_fldA gok C 4 13 rfl rfl O.na_Slices_round ia_add (rf_I0 (g := fun i j => i + j)) (me_var 0) (me_int)))) (mss_nil))))⟩
theorem sc_Slices__find : FnScope N_Slices__find ["self"] (defScope s_Slices__find) := ⟨rfl, rfl, rfl, by decide +kernel, rfl, by decide +kernel, by decide +kernel⟩
theorem ok_Slices__find (O : TxOk w K mg T) : FnM (T.G K) P w mg base 2 T.f_Slices__find T.d_Slices__find ["self"] m_Slices__find := by
  refine fn_m O.F_Slices__find sc_Slices__find rfl rfl (fun cdv A outer s H E C tk => ?_)
  exact ⟨_, mss_cons (ms_for C (mi_rng1 O.n_range (ma_cons (me_glob 8 O.k_SLOTS_slices) (ma_nil))) (mg_name 1 C.nd) (mss_cons (ms_if (mt_cmp (mc_notN (me_ix gok C (me_fld gok C 12 rfl (me_var 0)) (me_fld gok C 14 rfl (me_var 0))))) (mss_cons (ms_fld gok C 4 16 rfl rfl O.na_Slices_holder (me_var 0) (me_ix gok C (me_fld gok C 12 rfl (me_var 0)) (me_fld gok C 14 rfl (me_var 0))))
    (mss_one (ms_retN))) (mss_nil))
    (mss_one (ms_expr (me_meth0 C (ok_Slices__step O) 4 rfl O.cl_Slices O.M_Slices__step df_nil (by decide) O.b_Slices__step (me_var 0))))))
    (mss_cons (ms_fld gok C 4 13 rfl rfl O.na_Slices_round (me_var 0) (me_int))
    (mss_cons (ms_fld gok C 4 14 rfl rfl O.na_Slices_slot (me_var 0) (me_int))
    (mss_one (ms_fld gok C 4 16 rfl rfl O.na_Slices_holder (me_var 0) (me_non)))))⟩
theorem sc_Slices___init__ : FnScope N_Slices___init__ ["self", "owners"] (defScope s_Slices___init__) := ⟨rfl, rfl, rfl, by decide +kernel, rfl, by decide +kernel, by decide +kernel⟩
theorem ok_Slices___init__ (O : TxOk w K mg T) : FnM (T.G K) P w mg base 3 T.f_Slices___init__ T.d_Slices___init__ ["self", "owners"] m_Slices___init__ := by
  refine fn_m O.F_Slices___init__ sc_Slices___init__ rfl rfl (fun cdv A outer s H E C tk => ?_)
  exact ⟨_, mss_cons (ms_if ((mw_or (mt_not (mt_tr C (me_isi C .lst (by decide) O.n_isinstance O.n_list bt_ty_lst (me_var 1)))) (mw_or1 (mt_cmp (mc_ne gok C (me_blt (cl_len C) rl_len O.n_len bt_len (ma_cons (me_var 1) (ma_nil))) (me_glob 8 O.k_SLOTS_slices))))).mt) (mss_one (ms_raise 3 C tk rfl (pmk_own0 PySem.F.excBase_ValueError O.x_NotValid O.gc_NotValid O.kp_NotValid (raises_own O.bs_NotValid O.ty_NotValid) rfl))) (mss_nil))
    (mss_cons (ms_if (mt_not (mt_tr C (me_blt (cl_all C) rl_all O.n_all bt_all (ma_cons (me_lc [("owner", 2)] C (mi_alt (mi_lst C (me_var 1)) (mi_tup C (me_var 1))) (blkOk_by (N := N_Slices___init__) (sc := defScope s_Slices___init__) (by decide +kernel)) (fun _ _ _ _ _ C => mg_name 2 C.nd) (fun _ _ _ _ _ C => mts_nil) (fun _ _ _ _ _ C => me_orV (me_cmp (mc_isN (me_var 2))) (me_one (me_call C (ok_is_environment O) df_nil (by decide) O.g_is_environment O.F_is_environment.kp O.b_is_environment (ma_cons (me_var 2) (ma_nil))))) (tgw_name (by decide))) (ma_nil))))) (mss_one (ms_raise 3 C tk rfl (pmk_own0 PySem.F.excBase_ValueError O.x_NotValid O.gc_NotValid O.kp_NotValid (raises_own O.bs_NotValid O.ty_NotValid) rfl))) (mss_nil))
    (mss_cons (ms_fld gok C 4 12 rfl rfl O.na_Slices_owners (me_var 0) (me_bty (cl_list C) rl_list O.n_list bt_list (ma_cons (me_var 1) (ma_nil))))
    (mss_cons (ms_fld gok C 4 13 rfl rfl O.na_Slices_round (me_var 0) (me_int))
    (mss_cons (ms_fld gok C 4 14 rfl rfl O.na_Slices_slot (me_var 0) (me_int))
    (mss_cons (ms_fld gok C 4 15 rfl rfl O.na_Slices_unit (me_var 0) (me_int))
    (mss_cons (ms_fld gok C 4 16 rfl rfl O.na_Slices_holder (me_var 0) (me_ix gok C (me_var 1) (me_int)))
    (mss_one (ms_expr (me_meth0 C (ok_Slices__find O) 4 rfl O.cl_Slices O.M_Slices__find df_nil (by decide) O.b_Slices__find (me_var 0))))))))))⟩
theorem sc_Frames___init__ : FnScope N_Frames___init__ ["self", "many", "shares"] (defScope s_Frames___init__) := ⟨rfl, rfl, rfl, by decide +kernel, rfl, by decide +kernel, by decide +kernel⟩
theorem ok_Frames___init__ (O : TxOk w K mg T) : FnM (T.G K) P w mg base 2 T.f_Frames___init__ T.d_Frames___init__ ["self", "many", "shares"] m_Frames___init__ := by
  refine fn_m O.F_Frames___init__ sc_Frames___init__ rfl rfl (fun cdv A outer s H E C tk => ?_)
  exact ⟨_, mss_cons (ms_if ((mw_or (mt_not (mt_tr C (me_call C (ok_is_number O) df_nil (by decide) O.g_is_number O.F_is_number.kp O.b_is_number (ma_cons (me_var 1) (ma_nil))))) (mw_or1 (mt_not (mt_chLeLe (me_glob 8 O.k_LEAST) (me_var 1) (me_glob 64 O.k_MOST_frames))))).mt) (mss_one (ms_raise 3 C tk rfl (pmk_own0 PySem.F.excBase_ValueError O.x_NotValid O.gc_NotValid O.kp_NotValid (raises_own O.bs_NotValid O.ty_NotValid) rfl))) (mss_nil))
    (mss_cons (ms_if ((mw_or (mt_not (mt_tr C (me_isi C .lst (by decide) O.n_isinstance O.n_list bt_ty_lst (me_var 2)))) (mw_or1 (mt_cmp (mc_ne gok C (me_blt (cl_len C) rl_len O.n_len bt_len (ma_cons (me_var 2) (ma_nil))) (me_glob 4 O.k_ENVIRONMENTS))))).mt) (mss_one (ms_raise 3 C tk rfl (pmk_own0 PySem.F.excBase_ValueError O.x_NotValid O.gc_NotValid O.kp_NotValid (raises_own O.bs_NotValid O.ty_NotValid) rfl))) (mss_nil))
    (mss_cons (ms_if ((mw_or (mt_not (mt_tr C (me_blt (cl_all C) rl_all O.n_all bt_all (ma_cons (me_lc [("share", 3)] C (mi_alt (mi_lst C (me_var 2)) (mi_tup C (me_var 2))) (blkOk_by (N := N_Frames___init__) (sc := defScope s_Frames___init__) (by decide +kernel)) (fun _ _ _ _ _ C => mg_name 3 C.nd) (fun _ _ _ _ _ C => mts_nil) (fun _ _ _ _ _ C => me_andV (me_call C (ok_is_number O) df_nil (by decide) O.g_is_number O.F_is_number.kp O.b_is_number (ma_cons (me_var 3) (ma_nil))) (me_one (me_cmp (mc_ge (me_var 3) (me_int))))) (tgw_name (by decide))) (ma_nil))))) (mw_or1 (mt_cmp (mc_gt (me_blt (cl_sum C) rl_sum O.n_sum bt_sum (ma_cons (me_var 2) (ma_nil))) (me_var 1))))).mt) (mss_one (ms_raise 3 C tk rfl (pmk_own0 PySem.F.excBase_ValueError O.x_NotValid O.gc_NotValid O.kp_NotValid (raises_own O.bs_NotValid O.ty_NotValid) rfl))) (mss_nil))
    (mss_cons (ms_fld gok C 0 0 rfl rfl O.na_Frames_many (me_var 0) (me_var 1))
    (mss_cons (ms_fld gok C 0 1 rfl rfl O.na_Frames_shares (me_var 0) (me_bty (cl_list C) rl_list O.n_list bt_list (ma_cons (me_var 2) (ma_nil))))
    (mss_cons (ms_fld gok C 0 2 rfl rfl O.na_Frames_holders (me_var 0) (me_lc [("_", 4)] C (mi_rng1 O.n_range (ma_cons (me_var 1) (ma_nil))) (blkOk_by (N := N_Frames___init__) (sc := defScope s_Frames___init__) (by decide +kernel)) (fun _ _ _ _ _ C => mg_name 4 C.nd) (fun _ _ _ _ _ C => mts_nil) (fun _ _ _ _ _ C => me_dict) (tgw_name (by decide))))
    (mss_cons (ms_fld gok C 0 3 rfl rfl O.na_Frames_words (me_var 0) (me_lc [("_", 4)] C (mi_rng1 O.n_range (ma_cons (me_var 1) (ma_nil))) (blkOk_by (N := N_Frames___init__) (sc := defScope s_Frames___init__) (by decide +kernel)) (fun _ _ _ _ _ C => mg_name 4 C.nd) (fun _ _ _ _ _ C => mts_nil) (fun _ _ _ _ _ C => me_mul C (me_lst (ma_cons (me_int) (ma_nil))) (me_glob 8 O.k_WORDS)) (tgw_name (by decide))))
    (mss_cons (ms_fld gok C 0 4 rfl rfl O.na_Frames_order (me_var 0) (me_lc [("_", 4)] C (mi_rng1 O.n_range (ma_cons (me_glob 4 O.k_ENVIRONMENTS) (ma_nil))) (blkOk_by (N := N_Frames___init__) (sc := defScope s_Frames___init__) (by decide +kernel)) (fun _ _ _ _ _ C => mg_name 4 C.nd) (fun _ _ _ _ _ C => mts_nil) (fun _ _ _ _ _ C => me_lst (ma_nil)) (tgw_name (by decide))))
    (mss_cons (ms_fld gok C 0 5 rfl rfl O.na_Frames_offers (me_var 0) (me_dictT))
    (mss_cons (ms_fld gok C 0 6 rfl rfl O.na_Frames_wanted (me_var 0) (me_lc [("_", 4)] C (mi_rng1 O.n_range (ma_cons (me_glob 4 O.k_ENVIRONMENTS) (ma_nil))) (blkOk_by (N := N_Frames___init__) (sc := defScope s_Frames___init__) (by decide +kernel)) (fun _ _ _ _ _ C => mg_name 4 C.nd) (fun _ _ _ _ _ C => mts_nil) (fun _ _ _ _ _ C => me_non) (tgw_name (by decide))))
    (mss_one (ms_fld gok C 0 7 rfl rfl O.na_Frames_lost (me_var 0) (me_lc [("_", 4)] C (mi_rng1 O.n_range (ma_cons (me_glob 4 O.k_ENVIRONMENTS) (ma_nil))) (blkOk_by (N := N_Frames___init__) (sc := defScope s_Frames___init__) (by decide +kernel)) (fun _ _ _ _ _ C => mg_name 4 C.nd) (fun _ _ _ _ _ C => mts_nil) (fun _ _ _ _ _ C => me_lst (ma_nil)) (tgw_name (by decide))))))))))))))⟩
theorem sc_Pages___init__ : FnScope N_Pages___init__ ["self", "frames"] (defScope s_Pages___init__) := ⟨rfl, rfl, rfl, by decide +kernel, rfl, by decide +kernel, by decide +kernel⟩
theorem ok_Pages___init__ (O : TxOk w K mg T) : FnM (T.G K) P w mg base 1 T.f_Pages___init__ T.d_Pages___init__ ["self", "frames"] m_Pages___init__ := by
  refine fn_m O.F_Pages___init__ sc_Pages___init__ rfl rfl (fun cdv A outer s H E C tk => ?_)
  exact ⟨_, mss_cons (ms_fld gok C 1 8 rfl rfl O.na_Pages_frames (me_var 0) (me_var 1))
    (mss_one (ms_fld gok C 1 9 rfl rfl O.na_Pages_entries (me_var 0) (me_lc [("_", 2)] C (mi_rng1 O.n_range (ma_cons (me_glob 4 O.k_ENVIRONMENTS) (ma_nil))) (blkOk_by (N := N_Pages___init__) (sc := defScope s_Pages___init__) (by decide +kernel)) (fun _ _ _ _ _ C => mg_name 2 C.nd) (fun _ _ _ _ _ C => mts_nil) (fun _ _ _ _ _ C => me_dict) (tgw_name (by decide)))))⟩
theorem sc_Net___init__ : FnScope N_Net___init__ ["self", "regions"] (defScope s_Net___init__) := ⟨rfl, rfl, rfl, by decide +kernel, rfl, by decide +kernel, by decide +kernel⟩
theorem ok_Net___init__ (O : TxOk w K mg T) : FnM (T.G K) P w mg base 1 T.f_Net___init__ T.d_Net___init__ ["self", "regions"] m_Net___init__ := by
  refine fn_m O.F_Net___init__ sc_Net___init__ rfl rfl (fun cdv A outer s H E C tk => ?_)
  exact ⟨_, mss_cons (ms_if ((mw_or (mt_not (mt_tr C (me_isi C .lst (by decide) O.n_isinstance O.n_list bt_ty_lst (me_var 1)))) (mw_or1 (mt_cmp (mc_ne gok C (me_blt (cl_len C) rl_len O.n_len bt_len (ma_cons (me_var 1) (ma_nil))) (me_glob 4 O.k_ENVIRONMENTS))))).mt) (mss_one (ms_raise 3 C tk rfl (pmk_own0 PySem.F.excBase_ValueError O.x_NotValid O.gc_NotValid O.kp_NotValid (raises_own O.bs_NotValid O.ty_NotValid) rfl))) (mss_nil))
    (mss_cons (ms_if (mt_not (mt_tr C (me_blt (cl_all C) rl_all O.n_all bt_all (ma_cons (me_lc [("region", 3)] C (mi_alt (mi_lst C (me_var 1)) (mi_tup C (me_var 1))) (blkOk_by (N := N_Net___init__) (sc := defScope s_Net___init__) (by decide +kernel)) (fun _ _ _ _ _ C => mg_name 3 C.nd) (fun _ _ _ _ _ C => mts_nil) (fun _ _ _ _ _ C => me_orV (me_cmp (mc_isN (me_var 3))) (me_one (me_dead))) (tgw_name (by decide))) (ma_nil))))) (mss_one (ms_raise 3 C tk rfl (pmk_own0 PySem.F.excBase_ValueError O.x_NotValid O.gc_NotValid O.kp_NotValid (raises_own O.bs_NotValid O.ty_NotValid) rfl))) (mss_nil))
    (mss_cons (ms_fld gok C 8 27 rfl rfl O.na_Net_regions (me_var 0) (me_bty (cl_list C) rl_list O.n_list bt_list (ma_cons (me_var 1) (ma_nil))))
    (mss_cons (ms_for C (mi_rng1 O.n_range (ma_cons (me_glob 4 O.k_ENVIRONMENTS) (ma_nil))) (mg_name 2 C.nd) (mss_cons (ms_asg (me_ix gok C (me_var 1) (me_var 2)) (mg_name 3 C.nd))
    (mss_one (ms_if ((mw_and (mt_cmp (mc_notN (me_var 3))) (mw_and1 (mt_cmp (mc_notN (me_dead))))).mt) (mss_one (ms_raise 3 C tk rfl (pmk_own0 PySem.F.excBase_ValueError O.x_NotValid O.gc_NotValid O.kp_NotValid (raises_own O.bs_NotValid O.ty_NotValid) rfl))) (mss_nil)))))
    (mss_cons (ms_fld gok C 8 28 rfl rfl O.na_Net_made (me_var 0) (me_int))
    (mss_cons (ms_fld gok C 8 29 rfl rfl O.na_Net_rows (me_var 0) (me_dict))
    (mss_cons (ms_fld gok C 8 30 rfl rfl O.na_Net_rings (me_var 0) (me_dict))
    (mss_cons (ms_fld gok C 8 31 rfl rfl O.na_Net_tree (me_var 0) (me_globC C O.k_EMPTY))
    (mss_cons (ms_fld gok C 8 32 rfl rfl O.na_Net_gone (me_var 0) (me_lst (ma_nil)))
    (mss_one (ms_fld gok C 8 33 rfl rfl O.na_Net_missed (me_var 0) (me_int)))))))))))⟩
theorem sc_Types___init__ : FnScope N_Types___init__ ["self", "blocks"] (defScope s_Types___init__) := ⟨rfl, rfl, rfl, by decide +kernel, rfl, by decide +kernel, by decide +kernel⟩
theorem ok_Types___init__ (O : TxOk w K mg T) : FnM (T.G K) P w mg base 1 T.f_Types___init__ T.d_Types___init__ ["self", "blocks"] m_Types___init__ := by
  refine fn_m O.F_Types___init__ sc_Types___init__ rfl rfl (fun cdv A outer s H E C tk => ?_)
  exact ⟨_, mss_cons (ms_fld gok C 6 17 rfl rfl O.na_Types_blocks (me_var 0) (me_var 1))
    (mss_cons (ms_fld gok C 6 20 rfl rfl O.na_Types_known (me_var 0) (me_lst (ma_nil)))
    (mss_one (ms_fld gok C 6 21 rfl rfl O.na_Types_makers (me_var 0) (me_lst (ma_nil)))))⟩
theorem sc_Types_owned : FnScope N_Types_owned ["self", "number", "words"] (defScope s_Types_owned) := ⟨rfl, rfl, rfl, by decide +kernel, rfl, by decide +kernel, by decide +kernel⟩
theorem ok_Types_owned (O : TxOk w K mg T) : FnM (T.G K) P w mg base 1 T.f_Types_owned T.d_Types_owned ["self", "number", "words"] m_Types_owned := by
  refine fn_m O.F_Types_owned sc_Types_owned rfl rfl (fun cdv A outer s H E C tk => ?_)
  exact ⟨_, mss_cons (ms_if (mt_cmp (mc_eq gok C (me_var 1) (me_glob 0 O.k_DATA))) (mss_one (ms_ret (me_tup (ma_nil)))) (mss_nil))
    (mss_cons (ms_if (mt_cmp (mc_ne gok C (me_var 1) (me_glob 1 O.k_ROOT))) (mss_one (ms_ret (me_dead))) (mss_nil))
    (mss_cons (ms_if (mt_cmp (mc_eq gok C (me_ix gok C (me_var 2) (me_int)) (me_int))) (mss_one (ms_ret (me_tup (ma_nil)))) (mss_nil))
    (mss_cons (ms_if ((mw_or (mt_not (mt_tr C (me_dead))) (mw_or (mt_not (mt_tr C (me_dead))) (mw_or1 (mt_cmp (mc_eq gok C (me_ix gok C (me_var 2) (me_int)) (me_glob 1 O.k_ROOT)))))).mt) (mss_one (ms_ret (me_non))) (mss_nil))
    (mss_one (ms_ret (me_tup (ma_cons (me_tup (ma_cons (me_ix gok C (me_var 2) (me_int)) (ma_cons (me_ix gok C (me_var 2) (me_int)) (ma_nil)))) (ma_nil))))))))⟩
theorem sc_Disk_words : FnScope N_Disk_words ["self", "block"] (defScope s_Disk_words) := ⟨rfl, rfl, rfl, by decide +kernel, rfl, by decide +kernel, by decide +kernel⟩
theorem ok_Disk_words (O : TxOk w K mg T) : FnM (T.G K) P w mg base 1 T.f_Disk_words T.d_Disk_words ["self", "block"] m_Disk_words := by
  refine fn_m O.F_Disk_words sc_Disk_words rfl rfl (fun cdv A outer s H E C tk => ?_)
  exact ⟨_, mss_one (ms_ret (me_ix gok C (me_fld gok C 18 rfl (me_var 0)) (me_var 1)))⟩
theorem sc_Blocks_forest : FnScope N_Blocks_forest ["self", "roots", "table"] (defScope s_Blocks_forest) := ⟨rfl, rfl, rfl, by decide +kernel, rfl, by decide +kernel, by decide +kernel⟩
theorem ok_Blocks_forest (O : TxOk w K mg T) : FnM (T.G K) P w mg base 2 T.f_Blocks_forest T.d_Blocks_forest ["self", "roots", "table"] m_Blocks_forest := by
  refine fn_m O.F_Blocks_forest sc_Blocks_forest rfl rfl (fun cdv A outer s H E C tk => ?_)
  exact ⟨_, mss_cons (ms_asg (me_dict) (mg_name 3 C.nd))
    (mss_cons (ms_setLc 4 [("block", 5), ("kind", 7)] C (mi_alt (mi_lst C (me_var 1)) (mi_tup C (me_var 1))) (blkOk_by (N := N_Blocks_forest) (sc := defScope s_Blocks_forest) (by decide +kernel)) (fun _ _ _ _ _ C => mg_tup C (mgs_cons (mg_name 5 C.nd) (mgs_cons (mg_name 7 C.nd) (mgs_nil))) (gs_lenS (gs_lenS gs_len0))) (fun _ _ _ _ _ C => mts_nil) (fun _ _ _ _ _ C => me_tup (ma_cons (me_var 5) (ma_cons (me_non) (ma_cons (me_var 7) (ma_nil))))) (tgw_tup (tgws_cons (tgw_name (by decide)) (tgws_cons (tgw_name (by decide)) (tgws_nil) mono_name) mono_name)) (sw_true rfl rfl rfl (by decide +kernel)))
    (mss_cons (ms_while 100000 C (mt_tr C (me_var 4)) (mss_cons (ms_asg (me_bm C PySem.F.slot_list_pop PySem.F.type_list_pop mt_popAt rm_popAt (me_var 4) (ma_cons (me_int) (ma_nil))) (mg_tup C (mgs_cons (mg_name 5 C.nd) (mgs_cons (mg_name 6 C.nd) (mgs_cons (mg_name 7 C.nd) (mgs_nil)))) (gs_lenS (gs_lenS (gs_lenS gs_len0)))))
    (mss_cons (ms_if (mt_cmp (mc_in gok C (me_var 5) (me_var 3))) (mss_one (ms_ret (me_non))) (mss_nil))
    (mss_cons (ms_sub gok C (me_var 3) (me_var 5) (me_tup (ma_cons (me_var 6) (ma_cons (me_var 7) (ma_nil)))))
    (mss_cons (ms_asg (me_tup (ma_nil)) (mg_name 8 C.nd))
    (mss_cons (ms_if (mt_cmp (mc_notN (me_var 7))) (mss_one (ms_asg (me_meth C (ok_Types_owned O) 6 rfl O.cl_Types O.M_Types_owned df_nil (by decide) O.b_Types_owned (me_fld gok C 23 rfl (me_var 0)) (ma_cons (me_var 7) (ma_cons (me_get2 gok C (me_var 2) (me_var 5) (me_meth C (ok_Disk_words O) 5 rfl O.cl_Disk O.M_Disk_words df_nil (by decide) O.b_Disk_words (me_fld gok C 22 rfl (me_var 0)) (ma_cons (me_var 5) (ma_nil)))) (ma_nil)))) (mg_name 8 C.nd))) (mss_nil))
    (mss_cons (ms_if (mt_cmp (mc_isN (me_var 8))) (mss_one (ms_ret (me_non))) (mss_nil))
    (mss_one (ms_expr (me_bm C PySem.F.slot_list_extend PySem.F.type_list_extend mt_extend rm_extend (me_var 4) (ma_cons (me_lc [("child", 9), ("child_kind", 10)] C (mi_alt (mi_lst C (me_var 8)) (mi_tup C (me_var 8))) (blkOk_by (N := N_Blocks_forest) (sc := defScope s_Blocks_forest) (by decide +kernel)) (fun _ _ _ _ _ C => mg_tup C (mgs_cons (mg_name 9 C.nd) (mgs_cons (mg_name 10 C.nd) (mgs_nil))) (gs_lenS (gs_lenS gs_len0))) (fun _ _ _ _ _ C => mts_nil) (fun _ _ _ _ _ C => me_tup (ma_cons (me_var 9) (ma_cons (me_var 5) (ma_cons (me_var 10) (ma_nil))))) (tgw_tup (tgws_cons (tgw_name (by decide)) (tgws_cons (tgw_name (by decide)) (tgws_nil) mono_name) mono_name))) (ma_nil))))))))))))
    (mss_one (ms_ret (me_var 3)))))⟩
theorem sc_Blocks_lasting_forest : FnScope N_Blocks_lasting_forest ["self", "environment"] (defScope s_Blocks_lasting_forest) := ⟨rfl, rfl, rfl, by decide +kernel, rfl, by decide +kernel, by decide +kernel⟩
theorem ok_Blocks_lasting_forest (O : TxOk w K mg T) : FnM (T.G K) P w mg base 3 T.f_Blocks_lasting_forest T.d_Blocks_lasting_forest ["self", "environment"] m_Blocks_lasting_forest := by
  refine fn_m O.F_Blocks_lasting_forest sc_Blocks_lasting_forest rfl rfl (fun cdv A outer s H E C tk => ?_)
  exact ⟨_, mss_one (ms_ret (me_meth C (ok_Blocks_forest O) 7 rfl O.cl_Blocks O.M_Blocks_forest df_nil (by decide) O.b_Blocks_forest (me_var 0) (ma_cons (me_lst (ma_cons (me_tup (ma_cons (me_var 1) (ma_cons (me_glob 1 O.k_ROOT) (ma_nil)))) (ma_nil))) (ma_cons (me_dict) (ma_nil)))))⟩
theorem sc_Blocks___init__ : FnScope N_Blocks___init__ ["self", "disk", "shares", "types"] (defScope s_Blocks___init__) := ⟨rfl, rfl, rfl, by decide +kernel, rfl, by decide +kernel, by decide +kernel⟩
theorem ok_Blocks___init__ (O : TxOk w K mg T) : FnM (T.G K) P w mg base 4 T.f_Blocks___init__ T.d_Blocks___init__ ["self", "disk", "shares", "types"] m_Blocks___init__ := by
  refine fnd_m O.F_Blocks___init__ sc_Blocks___init__ rfl rfl (fun cdv A outer s H E C tk => ?_)
  exact ⟨_, mss_cons (ms_if ((mw_or (mt_cmp (mc_ne gok C (me_blt (cl_len C) rl_len O.n_len bt_len (ma_cons (me_var 2) (ma_nil))) (me_glob 4 O.k_ENVIRONMENTS))) (mw_or1 (mt_not (mt_tr C (me_blt (cl_all C) rl_all O.n_all bt_all (ma_cons (me_lc [("share", 6)] C (mi_alt (mi_lst C (me_var 2)) (mi_tup C (me_var 2))) (blkOk_by (N := N_Blocks___init__) (sc := defScope s_Blocks___init__) (by decide +kernel)) (fun _ _ _ _ _ C => mg_name 6 C.nd) (fun _ _ _ _ _ C => mts_nil) (fun _ _ _ _ _ C => me_andV (me_call C (ok_is_number O) df_nil (by decide) O.g_is_number O.F_is_number.kp O.b_is_number (ma_cons (me_var 6) (ma_nil))) (me_one (me_cmp (mc_ge (me_var 6) (me_int))))) (tgw_name (by decide))) (ma_nil))))))).mt) (mss_one (ms_raise 3 C tk rfl (pmk_own0 PySem.F.excBase_ValueError O.x_NotValid O.gc_NotValid O.kp_NotValid (raises_own O.bs_NotValid O.ty_NotValid) rfl))) (mss_nil))
    (mss_cons (ms_if (mt_cmp (mc_gt (me_blt (cl_sumT C) rl_sumT O.n_sum bt_sum (ma_cons (me_var 2) (ma_nil))) (me_sub (me_fld gok C 17 rfl (me_var 1)) (me_glob 4 O.k_ENVIRONMENTS)))) (mss_one (ms_raise 3 C tk rfl (pmk_own0 PySem.F.excBase_ValueError O.x_NotValid O.gc_NotValid O.kp_NotValid (raises_own O.bs_NotValid O.ty_NotValid) rfl))) (mss_nil))
    (mss_cons (ms_fld gok C 7 22 rfl rfl O.na_Blocks_disk (me_var 0) (me_var 1))
    (mss_cons (ms_fld gok C 7 1 rfl rfl O.na_Blocks_shares (me_var 0) (me_bty (cl_list C) rl_list O.n_list bt_list (ma_cons (me_var 2) (ma_nil))))
    (mss_cons (ms_fld gok C 7 23 rfl rfl O.na_Blocks_types (me_var 0) (me_var 3))
    (mss_cons (ms_if (mt_cmp (mc_isN (me_var 3))) (mss_one (ms_fld gok C 7 23 rfl rfl O.na_Blocks_types (me_var 0) (me_make C (ok_Types___init__ O) 6 rfl O.cl_Types O.mk_Types df_nil (by decide) O.gc_Types O.b_Types___init__ (ma_cons (me_fld gok C 17 rfl (me_var 1)) (ma_nil))))) (mss_nil))
    (mss_cons (ms_fld gok C 7 24 rfl rfl O.na_Blocks_buffers (me_var 0) (me_dict))
    (mss_cons (ms_fld gok C 7 25 rfl rfl O.na_Blocks_kept (me_var 0) (me_dict))
    (mss_cons (ms_fld gok C 7 26 rfl rfl O.na_Blocks_fresh (me_var 0) (me_dict))
    (mss_one (ms_for C (mi_rng1 O.n_range (ma_cons (me_glob 4 O.k_ENVIRONMENTS) (ma_nil))) (mg_name 4 C.nd) (mss_one (ms_forD C (me_meth C (ok_Blocks_lasting_forest O) 7 rfl O.cl_Blocks O.M_Blocks_lasting_forest df_nil (by decide) O.b_Blocks_lasting_forest (me_var 0) (ma_cons (me_var 4) (ma_nil))) (mg_name 5 C.nd) (mss_one (ms_sub gok C (me_fld gok C 26 rfl (me_var 0)) (me_var 5) (me_bl)))))))))))))))⟩
theorem sc_Kernel___init__ : FnScope N_Kernel___init__ ["self", "owners", "frames", "frame_shares", "disk", "block_shares", "types", "regions"] (defScope s_Kernel___init__) := ⟨rfl, rfl, rfl, by decide +kernel, rfl, by decide +kernel, by decide +kernel⟩
theorem ok_Kernel___init__ (O : TxOk w K mg T) : FnM (T.G K) P w mg base 6 T.f_Kernel___init__ T.d_Kernel___init__ ["self", "owners", "frames", "frame_shares", "disk", "block_shares", "types", "regions"] m_Kernel___init__ := by
  refine fn_m O.F_Kernel___init__ sc_Kernel___init__ rfl rfl (fun cdv A outer s H E C tk => ?_)
  exact ⟨_, mss_cons (ms_fld gok C 9 34 rfl rfl O.na_Kernel_slices (me_var 0) (me_make C (ok_Slices___init__ O) 4 rfl O.cl_Slices O.mk_Slices df_nil (by decide) O.gc_Slices O.b_Slices___init__ (ma_cons (me_var 1) (ma_nil))))
    (mss_cons (ms_fld gok C 9 8 rfl rfl O.na_Kernel_frames (me_var 0) (me_make C (ok_Frames___init__ O) 0 rfl O.cl_Frames O.mk_Frames df_nil (by decide) O.gc_Frames O.b_Frames___init__ (ma_cons (me_var 2) (ma_cons (me_var 3) (ma_nil)))))
    (mss_cons (ms_fld gok C 9 35 rfl rfl O.na_Kernel_pages (me_var 0) (me_make C (ok_Pages___init__ O) 1 rfl O.cl_Pages O.mk_Pages df_nil (by decide) O.gc_Pages O.b_Pages___init__ (ma_cons (me_fld gok C 8 rfl (me_var 0)) (ma_nil))))
    (mss_cons (ms_fld gok C 9 36 rfl rfl O.na_Kernel_net (me_var 0) (me_make C (ok_Net___init__ O) 8 rfl O.cl_Net O.mk_Net df_nil (by decide) O.gc_Net O.b_Net___init__ (ma_cons (me_var 7) (ma_nil))))
    (mss_cons (ms_fld gok C 9 22 rfl rfl O.na_Kernel_disk (me_var 0) (me_var 4))
    (mss_one (ms_fld gok C 9 17 rfl rfl O.na_Kernel_blocks (me_var 0) (me_make C (ok_Blocks___init__ O) 7 rfl O.cl_Blocks O.mk_Blocks df_nil (by decide) O.gc_Blocks O.b_Blocks___init__ (ma_cons (me_var 4) (ma_cons (me_bty (cl_tuple C) rl_tuple O.n_tuple bt_tuple (ma_cons (me_var 5) (ma_nil))) (ma_cons (me_var 6) (ma_nil)))))))))))⟩
theorem sc_Disk___init__ : FnScope N_Disk___init__ ["self", "blocks"] (defScope s_Disk___init__) := ⟨rfl, rfl, rfl, by decide +kernel, rfl, by decide +kernel, by decide +kernel⟩
theorem ok_Disk___init__ (O : TxOk w K mg T) : FnM (T.G K) P w mg base 2 T.f_Disk___init__ T.d_Disk___init__ ["self", "blocks"] m_Disk___init__ := by
  refine fn_m O.F_Disk___init__ sc_Disk___init__ rfl rfl (fun cdv A outer s H E C tk => ?_)
  exact ⟨_, mss_cons (ms_if ((mw_or (mt_not (mt_tr C (me_call C (ok_is_number O) df_nil (by decide) O.g_is_number O.F_is_number.kp O.b_is_number (ma_cons (me_var 1) (ma_nil))))) (mw_or1 (mt_not (mt_chLeLe (me_glob 24 O.k_LEAST_BLOCKS) (me_var 1) (me_glob 64 O.k_MOST_BLOCKS))))).mt) (mss_one (ms_raise 3 C tk rfl (pmk_own0 PySem.F.excBase_ValueError O.x_NotValid O.gc_NotValid O.kp_NotValid (raises_own O.bs_NotValid O.ty_NotValid) rfl))) (mss_nil))
    (mss_cons (ms_fld gok C 5 17 rfl rfl O.na_Disk_blocks (me_var 0) (me_var 1))
    (mss_cons (ms_fld gok C 5 18 rfl rfl O.na_Disk_held (me_var 0) (me_mul C (me_lst (ma_cons (me_mul C (me_tup (ma_cons (me_int) (ma_nil))) (me_glob 8 O.k_WORDS)) (ma_nil))) (me_var 1)))
    (mss_one (ms_fld gok C 5 19 rfl rfl O.na_Disk_waiting (me_var 0) (me_lst (ma_nil))))))⟩
theorem sc__law_kernel : FnScope N__law_kernel ["_law_many", "_law_share"] (defScope s__law_kernel) := ⟨rfl, rfl, rfl, by decide +kernel, rfl, by decide +kernel, by decide +kernel⟩
theorem ok__law_kernel (O : TxOk w K mg T) : FnM (T.G K) P w mg base 8 T.f__law_kernel T.d__law_kernel ["_law_many", "_law_share"] m__law_kernel := by
  refine fn_m O.F__law_kernel sc__law_kernel rfl rfl (fun cdv A outer s H E C tk => ?_)
  exact ⟨_, mss_one (ms_ret (me_make C (ok_Kernel___init__ O) 9 rfl O.cl_Kernel O.mk_Kernel df_nil (by decide) O.gc_Kernel O.b_Kernel___init__ (ma_cons (me_mul C (me_lst (ma_cons (me_int) (ma_nil))) (me_int)) (ma_cons (me_var 0) (ma_cons (me_lst (ma_cons (me_var 1) (ma_cons (me_int) (ma_cons (me_int) (ma_cons (me_int) (ma_nil)))))) (ma_cons (me_make C (ok_Disk___init__ O) 5 rfl O.cl_Disk O.mk_Disk df_nil (by decide) O.gc_Disk O.b_Disk___init__ (ma_cons (me_int) (ma_nil))) (ma_cons (me_lst (ma_cons (me_int) (ma_cons (me_int) (ma_cons (me_int) (ma_cons (me_int) (ma_nil)))))) (ma_cons (me_make C (ok_Types___init__ O) 6 rfl O.cl_Types O.mk_Types df_nil (by decide) O.gc_Types O.b_Types___init__ (ma_cons (me_int) (ma_nil))) (ma_cons (me_mul C (me_lst (ma_cons (me_non) (ma_nil))) (me_int)) (ma_nil))))))))))⟩
theorem sc_Memory___init__ : FnScope N_Memory___init__ ["self", "share"] (defScope s_Memory___init__) := ⟨rfl, rfl, rfl, by decide +kernel, rfl, by decide +kernel, by decide +kernel⟩
theorem ok_Memory___init__ (O : TxOk w K mg T) : FnM (T.G K) P w mg base 1 T.f_Memory___init__ T.d_Memory___init__ ["self", "share"] m_Memory___init__ := by
  refine fn_m O.F_Memory___init__ sc_Memory___init__ rfl rfl (fun cdv A outer s H E C tk => ?_)
  exact ⟨_, mss_cons (ms_fld gok C 12 37 rfl rfl O.na_Memory_share (me_var 0) (me_var 1))
    (mss_cons (ms_fld gok C 12 38 rfl rfl O.na_Memory_tables (me_var 0) (me_lc [("_", 2)] C (mi_rng1 O.n_range (ma_cons (me_glob 4 O.k_SLOTS_memory) (ma_nil))) (blkOk_by (N := N_Memory___init__) (sc := defScope s_Memory___init__) (by decide +kernel)) (fun _ _ _ _ _ C => mg_name 2 C.nd) (fun _ _ _ _ _ C => mts_nil) (fun _ _ _ _ _ C => me_lst (ma_nil)) (tgw_name (by decide))))
    (mss_one (ms_fld gok C 12 39 rfl rfl O.na_Memory_others (me_var 0) (me_int))))⟩
theorem sc_Pipes___init__ : FnScope N_Pipes___init__ ["self", "memory"] (defScope s_Pipes___init__) := ⟨rfl, rfl, rfl, by decide +kernel, rfl, by decide +kernel, by decide +kernel⟩
theorem ok_Pipes___init__ (O : TxOk w K mg T) : FnM (T.G K) P w mg base 1 T.f_Pipes___init__ T.d_Pipes___init__ ["self", "memory"] m_Pipes___init__ := by
  refine fn_m O.F_Pipes___init__ sc_Pipes___init__ rfl rfl (fun cdv A outer s H E C tk => ?_)
  exact ⟨_, mss_cons (ms_fld gok C 13 40 rfl rfl O.na_Pipes_memory (me_var 0) (me_var 1))
    (mss_one (ms_fld gok C 13 29 rfl rfl O.na_Pipes_rows (me_var 0) (me_dict)))⟩
theorem sc_Stack___init__ : FnScope N_Stack___init__ ["self", "machine"] (defScope s_Stack___init__) := ⟨rfl, rfl, rfl, by decide +kernel, rfl, by decide +kernel, by decide +kernel⟩
theorem ok_Stack___init__ (O : TxOk w K mg T) : FnM (T.G K) P w mg base 1 T.f_Stack___init__ T.d_Stack___init__ ["self", "machine"] m_Stack___init__ := by
  refine fn_m O.F_Stack___init__ sc_Stack___init__ rfl rfl (fun cdv A outer s H E C tk => ?_)
  exact ⟨_, mss_cons (ms_fld gok C 10 10 rfl rfl O.na_Stack_machines (me_var 0) (me_lst (ma_cons (me_var 1) (ma_nil))))
    (mss_one (ms_fld gok C 10 11 rfl rfl O.na_Stack_result (me_var 0) (me_non)))⟩
theorem sc_Make_request : FnScope N_Make_request ["self"] (defScope s_Make_request) := ⟨rfl, rfl, rfl, by decide +kernel, rfl, by decide +kernel, by decide +kernel⟩
theorem ok_Make_request (O : TxOk w K mg T) : FnM (T.G K) P w mg base 1 T.f_Make_request T.d_Make_request ["self"] m_Make_request := by
  refine fn_m O.F_Make_request sc_Make_request rfl rfl (fun cdv A outer s H E C tk => ?_)
  exact ⟨_, mss_one (ms_ret (me_fld gok C 6 rfl (me_var 0)))⟩
theorem sc_Put_request : FnScope N_Put_request ["self"] (defScope s_Put_request) := ⟨rfl, rfl, rfl, by decide +kernel, rfl, by decide +kernel, by decide +kernel⟩
theorem ok_Put_request (O : TxOk w K mg T) : FnM (T.G K) P w mg base 1 T.f_Put_request T.d_Put_request ["self"] m_Put_request := by
  refine fn_m O.F_Put_request sc_Put_request rfl rfl (fun cdv A outer s H E C tk => ?_)
  exact ⟨_, mss_one (ms_ret (me_fld gok C 6 rfl (me_var 0)))⟩
theorem sc_Take_request : FnScope N_Take_request ["self"] (defScope s_Take_request) := ⟨rfl, rfl, rfl, by decide +kernel, rfl, by decide +kernel, by decide +kernel⟩
theorem ok_Take_request (O : TxOk w K mg T) : FnM (T.G K) P w mg base 1 T.f_Take_request T.d_Take_request ["self"] m_Take_request := by
  refine fn_m O.F_Take_request sc_Take_request rfl rfl (fun cdv A outer s H E C tk => ?_)
  exact ⟨_, mss_one (ms_ret (me_fld gok C 6 rfl (me_var 0)))⟩
theorem sc_End_request : FnScope N_End_request ["self"] (defScope s_End_request) := ⟨rfl, rfl, rfl, by decide +kernel, rfl, by decide +kernel, by decide +kernel⟩
theorem ok_End_request (O : TxOk w K mg T) : FnM (T.G K) P w mg base 1 T.f_End_request T.d_End_request ["self"] m_End_request := by
  refine fn_m O.F_End_request sc_End_request rfl rfl (fun cdv A outer s H E C tk => ?_)
  exact ⟨_, mss_one (ms_ret (me_fld gok C 6 rfl (me_var 0)))⟩
theorem sc_Memory_note_taken : FnScope N_Memory_note_taken ["self"] (defScope s_Memory_note_taken) := ⟨rfl, rfl, rfl, by decide +kernel, rfl, by decide +kernel, by decide +kernel⟩
theorem ok_Memory_note_taken (O : TxOk w K mg T) : FnM (T.G K) P w mg base 1 T.f_Memory_note_taken T.d_Memory_note_taken ["self"] m_Memory_note_taken := by
  refine fn_m O.F_Memory_note_taken sc_Memory_note_taken rfl rfl (fun cdv A outer s H E C tk => ?_)
  exact ⟨_, mss_one (ms_fldA gok C 12 39 rfl rfl O.na_Memory_others ia_add (rf_I0 (g := fun i j => i + j)) (me_var 0) (me_int))⟩
theorem sc_Pipes_note : FnScope N_Pipes_note ["self", "pipe", "frame", "head", "size"] (defScope s_Pipes_note) := ⟨rfl, rfl, rfl, by decide +kernel, rfl, by decide +kernel, by decide +kernel⟩
theorem ok_Pipes_note (O : TxOk w K mg T) : FnM (T.G K) P w mg base 1 T.f_Pipes_note T.d_Pipes_note ["self", "pipe", "frame", "head", "size"] m_Pipes_note := by
  refine fn_m O.F_Pipes_note sc_Pipes_note rfl rfl (fun cdv A outer s H E C tk => ?_)
  exact ⟨_, mss_one (ms_sub gok C (me_fld gok C 29 rfl (me_var 0)) (me_var 1) (me_tup (ma_cons (me_var 2) (ma_cons (me_var 3) (ma_cons (me_var 4) (ma_nil))))))⟩
theorem sc_Make_accept : FnScope N_Make_accept ["self", "result"] (defScope s_Make_accept) := ⟨rfl, rfl, rfl, by decide +kernel, rfl, by decide +kernel, by decide +kernel⟩
theorem ok_Make_accept (O : TxOk w K mg T) : FnM (T.G K) P w mg base 2 T.f_Make_accept T.d_Make_accept ["self", "result"] m_Make_accept := by
  refine fn_m O.F_Make_accept sc_Make_accept rfl rfl (fun cdv A outer s H E C tk => ?_)
  exact ⟨_, mss_one (ms_if (mt_cmp (mc_eq gok C (me_fld gok C 43 rfl (me_var 0)) (me_str 11 rfl))) (mss_cons (ms_fld gok C 14 43 rfl rfl O.na_Make_stage (me_var 0) (me_str 17 rfl))
    (mss_cons (ms_expr (me_meth0 C (ok_Memory_note_taken O) 12 rfl O.cl_Memory O.M_Memory_note_taken df_nil (by decide) O.b_Memory_note_taken (me_fld gok C 40 rfl (me_fld gok C 41 rfl (me_var 0)))))
    (mss_cons (ms_expr (me_meth C (ok_Pipes_note O) 13 rfl O.cl_Pipes O.M_Pipes_note df_nil (by decide) O.b_Pipes_note (me_fld gok C 41 rfl (me_var 0)) (ma_cons (me_fld gok C 42 rfl (me_var 0)) (ma_cons (me_ix gok C (me_var 1) (me_int)) (ma_cons (me_int) (ma_cons (me_int) (ma_nil)))))))
    (mss_one (ms_fld gok C 14 6 rfl rfl O.na_Make_wanted (me_var 0) (me_tup (ma_cons (me_str 17 rfl) (ma_cons (me_add C (me_glob 24 O.k_FIRST_PAGE) (me_fld gok C 42 rfl (me_var 0))) (ma_cons (me_ix gok C (me_var 1) (me_int)) (ma_cons (me_str 0 rfl) (ma_nil))))))))))) (mss_one (ms_fld gok C 14 6 rfl rfl O.na_Make_wanted (me_var 0) (me_tup (ma_cons (me_str 5 rfl) (ma_cons (me_fld gok C 42 rfl (me_var 0)) (ma_nil)))))))⟩
theorem sc_Pipes_frame : FnScope N_Pipes_frame ["self", "pipe"] (defScope s_Pipes_frame) := ⟨rfl, rfl, rfl, by decide +kernel, rfl, by decide +kernel, by decide +kernel⟩
theorem ok_Pipes_frame (O : TxOk w K mg T) : FnM (T.G K) P w mg base 1 T.f_Pipes_frame T.d_Pipes_frame ["self", "pipe"] m_Pipes_frame := by
  refine fn_m O.F_Pipes_frame sc_Pipes_frame rfl rfl (fun cdv A outer s H E C tk => ?_)
  exact ⟨_, mss_one (ms_ret (me_ix gok C (me_ix gok C (me_fld gok C 29 rfl (me_var 0)) (me_var 1)) (me_int)))⟩
theorem sc_Pipes_head : FnScope N_Pipes_head ["self", "pipe"] (defScope s_Pipes_head) := ⟨rfl, rfl, rfl, by decide +kernel, rfl, by decide +kernel, by decide +kernel⟩
theorem ok_Pipes_head (O : TxOk w K mg T) : FnM (T.G K) P w mg base 1 T.f_Pipes_head T.d_Pipes_head ["self", "pipe"] m_Pipes_head := by
  refine fn_m O.F_Pipes_head sc_Pipes_head rfl rfl (fun cdv A outer s H E C tk => ?_)
  exact ⟨_, mss_one (ms_ret (me_ix gok C (me_ix gok C (me_fld gok C 29 rfl (me_var 0)) (me_var 1)) (me_int)))⟩
theorem sc_Pipes_size : FnScope N_Pipes_size ["self", "pipe"] (defScope s_Pipes_size) := ⟨rfl, rfl, rfl, by decide +kernel, rfl, by decide +kernel, by decide +kernel⟩
theorem ok_Pipes_size (O : TxOk w K mg T) : FnM (T.G K) P w mg base 1 T.f_Pipes_size T.d_Pipes_size ["self", "pipe"] m_Pipes_size := by
  refine fn_m O.F_Pipes_size sc_Pipes_size rfl rfl (fun cdv A outer s H E C tk => ?_)
  exact ⟨_, mss_one (ms_ret (me_ix gok C (me_ix gok C (me_fld gok C 29 rfl (me_var 0)) (me_var 1)) (me_int)))⟩
theorem sc_Put_accept : FnScope N_Put_accept ["self", "result"] (defScope s_Put_accept) := ⟨rfl, rfl, rfl, by decide +kernel, rfl, by decide +kernel, by decide +kernel⟩
theorem ok_Put_accept (O : TxOk w K mg T) : FnM (T.G K) P w mg base 2 T.f_Put_accept T.d_Put_accept ["self", "result"] m_Put_accept := by
  refine fn_m O.F_Put_accept sc_Put_accept rfl rfl (fun cdv A outer s H E C tk => ?_)
  exact ⟨_, mss_cons (ms_asg (me_fld gok C 42 rfl (me_var 0)) (mg_name 2 C.nd))
    (mss_cons (ms_expr (me_meth C (ok_Pipes_note O) 13 rfl O.cl_Pipes O.M_Pipes_note df_nil (by decide) O.b_Pipes_note (me_fld gok C 41 rfl (me_var 0)) (ma_cons (me_var 2) (ma_cons (me_meth C (ok_Pipes_frame O) 13 rfl O.cl_Pipes O.M_Pipes_frame df_nil (by decide) O.b_Pipes_frame (me_fld gok C 41 rfl (me_var 0)) (ma_cons (me_var 2) (ma_nil))) (ma_cons (me_meth C (ok_Pipes_head O) 13 rfl O.cl_Pipes O.M_Pipes_head df_nil (by decide) O.b_Pipes_head (me_fld gok C 41 rfl (me_var 0)) (ma_cons (me_var 2) (ma_nil))) (ma_cons (me_add C (me_meth C (ok_Pipes_size O) 13 rfl O.cl_Pipes O.M_Pipes_size df_nil (by decide) O.b_Pipes_size (me_fld gok C 41 rfl (me_var 0)) (ma_cons (me_var 2) (ma_nil))) (me_int)) (ma_nil)))))))
    (mss_one (ms_fld gok C 15 6 rfl rfl O.na_Put_wanted (me_var 0) (me_tup (ma_cons (me_str 5 rfl) (ma_cons (me_bl) (ma_nil)))))))⟩
theorem sc_Take_accept : FnScope N_Take_accept ["self", "result"] (defScope s_Take_accept) := ⟨rfl, rfl, rfl, by decide +kernel, rfl, by decide +kernel, by decide +kernel⟩
theorem ok_Take_accept (O : TxOk w K mg T) : FnM (T.G K) P w mg base 2 T.f_Take_accept T.d_Take_accept ["self", "result"] m_Take_accept := by
  refine fn_m O.F_Take_accept sc_Take_accept rfl rfl (fun cdv A outer s H E C tk => ?_)
  exact ⟨_, mss_cons (ms_asg (me_fld gok C 42 rfl (me_var 0)) (mg_name 2 C.nd))
    (mss_cons (ms_asg (me_mod (me_add C (me_meth C (ok_Pipes_head O) 13 rfl O.cl_Pipes O.M_Pipes_head df_nil (by decide) O.b_Pipes_head (me_fld gok C 41 rfl (me_var 0)) (ma_cons (me_var 2) (ma_nil))) (me_int)) (me_glob 8 O.k_WORDS)) (mg_name 3 C.nd))
    (mss_cons (ms_expr (me_meth C (ok_Pipes_note O) 13 rfl O.cl_Pipes O.M_Pipes_note df_nil (by decide) O.b_Pipes_note (me_fld gok C 41 rfl (me_var 0)) (ma_cons (me_var 2) (ma_cons (me_meth C (ok_Pipes_frame O) 13 rfl O.cl_Pipes O.M_Pipes_frame df_nil (by decide) O.b_Pipes_frame (me_fld gok C 41 rfl (me_var 0)) (ma_cons (me_var 2) (ma_nil))) (ma_cons (me_var 3) (ma_cons (me_sub (me_meth C (ok_Pipes_size O) 13 rfl O.cl_Pipes O.M_Pipes_size df_nil (by decide) O.b_Pipes_size (me_fld gok C 41 rfl (me_var 0)) (ma_cons (me_var 2) (ma_nil))) (me_int)) (ma_nil)))))))
    (mss_one (ms_fld gok C 16 6 rfl rfl O.na_Take_wanted (me_var 0) (me_tup (ma_cons (me_str 5 rfl) (ma_cons (me_ix gok C (me_var 1) (me_int)) (ma_nil))))))))⟩
theorem sc_Memory_note_dropped : FnScope N_Memory_note_dropped ["self"] (defScope s_Memory_note_dropped) := ⟨rfl, rfl, rfl, by decide +kernel, rfl, by decide +kernel, by decide +kernel⟩
theorem ok_Memory_note_dropped (O : TxOk w K mg T) : FnM (T.G K) P w mg base 1 T.f_Memory_note_dropped T.d_Memory_note_dropped ["self"] m_Memory_note_dropped := by
  refine fn_m O.F_Memory_note_dropped sc_Memory_note_dropped rfl rfl (fun cdv A outer s H E C tk => ?_)
  exact ⟨_, mss_one (ms_fldA gok C 12 39 rfl rfl O.na_Memory_others ia_sub (rf_I0 (g := fun i j => i - j)) (me_var 0) (me_int))⟩
theorem sc_Pipes_forget : FnScope N_Pipes_forget ["self", "pipe"] (defScope s_Pipes_forget) := ⟨rfl, rfl, rfl, by decide +kernel, rfl, by decide +kernel, by decide +kernel⟩
theorem ok_Pipes_forget (O : TxOk w K mg T) : FnM (T.G K) P w mg base 1 T.f_Pipes_forget T.d_Pipes_forget ["self", "pipe"] m_Pipes_forget := by
  refine fn_m O.F_Pipes_forget sc_Pipes_forget rfl rfl (fun cdv A outer s H E C tk => ?_)
  exact ⟨_, mss_one (ms_expr (me_pop1 gok (me_fld gok C 29 rfl (me_var 0)) (me_var 1)))⟩
theorem sc_End_accept : FnScope N_End_accept ["self", "result"] (defScope s_End_accept) := ⟨rfl, rfl, rfl, by decide +kernel, rfl, by decide +kernel, by decide +kernel⟩
theorem ok_End_accept (O : TxOk w K mg T) : FnM (T.G K) P w mg base 2 T.f_End_accept T.d_End_accept ["self", "result"] m_End_accept := by
  refine fn_m O.F_End_accept sc_End_accept rfl rfl (fun cdv A outer s H E C tk => ?_)
  exact ⟨_, mss_one (ms_if (mt_cmp (mc_eq gok C (me_fld gok C 43 rfl (me_var 0)) (me_str 18 rfl))) (mss_cons (ms_fld gok C 17 43 rfl rfl O.na_End_stage (me_var 0) (me_str 14 rfl))
    (mss_one (ms_fld gok C 17 6 rfl rfl O.na_End_wanted (me_var 0) (me_tup (ma_cons (me_str 14 rfl) (ma_cons (me_fld gok C 44 rfl (me_var 0)) (ma_nil))))))) (mss_cons (ms_expr (me_meth0 C (ok_Memory_note_dropped O) 12 rfl O.cl_Memory O.M_Memory_note_dropped df_nil (by decide) O.b_Memory_note_dropped (me_fld gok C 40 rfl (me_fld gok C 41 rfl (me_var 0)))))
    (mss_cons (ms_expr (me_meth C (ok_Pipes_forget O) 13 rfl O.cl_Pipes O.M_Pipes_forget df_nil (by decide) O.b_Pipes_forget (me_fld gok C 41 rfl (me_var 0)) (ma_cons (me_fld gok C 42 rfl (me_var 0)) (ma_nil))))
    (mss_one (ms_fld gok C 17 6 rfl rfl O.na_End_wanted (me_var 0) (me_tup (ma_cons (me_str 5 rfl) (ma_cons (me_non) (ma_nil)))))))))⟩
theorem sc_Stack__settle : FnScope N_Stack__settle ["self"] (defScope s_Stack__settle) := ⟨rfl, rfl, rfl, by decide +kernel, rfl, by decide +kernel, by decide +kernel⟩
theorem ok_Stack__settle (O : TxOk w K mg T) : FnM (T.G K) P w mg base 3 T.f_Stack__settle T.d_Stack__settle ["self"] m_Stack__settle := by
  refine fn_m O.F_Stack__settle sc_Stack__settle rfl rfl (fun cdv A outer s H E C tk => ?_)
  exact ⟨_, mss_one (ms_while 100000 C (mt_tr C (me_fld gok C 10 rfl (me_var 0))) (mss_cons (ms_asg (me_alt (me_meth0 C (ok_Make_request O) 14 rfl O.cl_Make O.M_Make_request df_nil (by decide) O.b_Make_request (me_ix gok C (me_fld gok C 10 rfl (me_var 0)) (me_neg (me_int)))) (me_alt (me_meth0 C (ok_Put_request O) 15 rfl O.cl_Put O.M_Put_request df_nil (by decide) O.b_Put_request (me_ix gok C (me_fld gok C 10 rfl (me_var 0)) (me_neg (me_int)))) (me_alt (me_meth0 C (ok_Take_request O) 16 rfl O.cl_Take O.M_Take_request df_nil (by decide) O.b_Take_request (me_ix gok C (me_fld gok C 10 rfl (me_var 0)) (me_neg (me_int)))) (me_meth0 C (ok_End_request O) 17 rfl O.cl_End O.M_End_request df_nil (by decide) O.b_End_request (me_ix gok C (me_fld gok C 10 rfl (me_var 0)) (me_neg (me_int))))))) (mg_name 1 C.nd))
    (mss_one (ms_if (mt_cmp (mc_eq gok C (me_ix gok C (me_var 1) (me_int)) (me_str 4 rfl))) (mss_one (ms_expr (me_bm C PySem.F.slot_list_append PySem.F.type_list_append mt_append rm_append (me_fld gok C 10 rfl (me_var 0)) (ma_cons (me_ix gok C (me_var 1) (me_int)) (ma_nil))))) (mss_one (ms_if (mt_cmp (mc_eq gok C (me_ix gok C (me_var 1) (me_int)) (me_str 5 rfl))) (mss_cons (ms_expr (me_bm0 C PySem.F.slot_list_pop PySem.F.type_list_pop mt_pop rm_pop (me_fld gok C 10 rfl (me_var 0))))
    (mss_one (ms_if (mt_tr C (me_fld gok C 10 rfl (me_var 0))) (mss_one (ms_expr (me_alt (me_meth C (ok_Make_accept O) 14 rfl O.cl_Make O.M_Make_accept df_nil (by decide) O.b_Make_accept (me_ix gok C (me_fld gok C 10 rfl (me_var 0)) (me_neg (me_int))) (ma_cons (me_ix gok C (me_var 1) (me_int)) (ma_nil))) (me_alt (me_meth C (ok_Put_accept O) 15 rfl O.cl_Put O.M_Put_accept df_nil (by decide) O.b_Put_accept (me_ix gok C (me_fld gok C 10 rfl (me_var 0)) (me_neg (me_int))) (ma_cons (me_ix gok C (me_var 1) (me_int)) (ma_nil))) (me_alt (me_meth C (ok_Take_accept O) 16 rfl O.cl_Take O.M_Take_accept df_nil (by decide) O.b_Take_accept (me_ix gok C (me_fld gok C 10 rfl (me_var 0)) (me_neg (me_int))) (ma_cons (me_ix gok C (me_var 1) (me_int)) (ma_nil))) (me_meth C (ok_End_accept O) 17 rfl O.cl_End O.M_End_accept df_nil (by decide) O.b_End_accept (me_ix gok C (me_fld gok C 10 rfl (me_var 0)) (me_neg (me_int))) (ma_cons (me_ix gok C (me_var 1) (me_int)) (ma_nil)))))))) (mss_one (ms_fld gok C 10 11 rfl rfl O.na_Stack_result (me_var 0) (me_ix gok C (me_var 1) (me_int))))))) (mss_one (ms_retN))))))))⟩
theorem sc_Frames_holdings : FnScope N_Frames_holdings ["self", "environment"] (defScope s_Frames_holdings) := ⟨rfl, rfl, rfl, by decide +kernel, rfl, by decide +kernel, by decide +kernel⟩
theorem ok_Frames_holdings (O : TxOk w K mg T) : FnM (T.G K) P w mg base 1 T.f_Frames_holdings T.d_Frames_holdings ["self", "environment"] m_Frames_holdings := by
  refine fn_m O.F_Frames_holdings sc_Frames_holdings rfl rfl (fun cdv A outer s H E C tk => ?_)
  exact ⟨_, mss_one (ms_ret (me_bty (cl_list C) rl_list O.n_list bt_list (ma_cons (me_ix gok C (me_fld gok C 4 rfl (me_var 0)) (me_var 1)) (ma_nil))))⟩
theorem sc_Frames_free : FnScope N_Frames_free ["self"] (defScope s_Frames_free) := ⟨rfl, rfl, rfl, by decide +kernel, rfl, by decide +kernel, by decide +kernel⟩
theorem ok_Frames_free (O : TxOk w K mg T) : FnM (T.G K) P w mg base 1 T.f_Frames_free T.d_Frames_free ["self"] m_Frames_free := by
  refine fn_m O.F_Frames_free sc_Frames_free rfl rfl (fun cdv A outer s H E C tk => ?_)
  exact ⟨_, mss_one (ms_ret (me_lc [("frame", 1)] C (mi_rng1 O.n_range (ma_cons (me_fld gok C 0 rfl (me_var 0)) (ma_nil))) (blkOk_by (N := N_Frames_free) (sc := defScope s_Frames_free) (by decide +kernel)) (fun _ _ _ _ _ C => mg_name 1 C.nd) (fun _ _ _ _ _ C => mts_one (mt_not (mt_tr C (me_ix gok C (me_fld gok C 2 rfl (me_var 0)) (me_var 1))))) (fun _ _ _ _ _ C => me_var 1) (tgw_name (by decide))))⟩
theorem sc_Frames_charge : FnScope N_Frames_charge ["self", "environment"] (defScope s_Frames_charge) := ⟨rfl, rfl, rfl, by decide +kernel, rfl, by decide +kernel, by decide +kernel⟩
theorem ok_Frames_charge (O : TxOk w K mg T) : FnM (T.G K) P w mg base 1 T.f_Frames_charge T.d_Frames_charge ["self", "environment"] m_Frames_charge := by
  refine fn_m O.F_Frames_charge sc_Frames_charge rfl rfl (fun cdv A outer s H E C tk => ?_)
  exact ⟨_, mss_one (ms_ret (me_blt (cl_len C) rl_len O.n_len bt_len (ma_cons (me_ix gok C (me_fld gok C 4 rfl (me_var 0)) (me_var 1)) (ma_nil))))⟩
theorem sc_Frames_share : FnScope N_Frames_share ["self", "environment"] (defScope s_Frames_share) := ⟨rfl, rfl, rfl, by decide +kernel, rfl, by decide +kernel, by decide +kernel⟩
theorem ok_Frames_share (O : TxOk w K mg T) : FnM (T.G K) P w mg base 1 T.f_Frames_share T.d_Frames_share ["self", "environment"] m_Frames_share := by
  refine fn_m O.F_Frames_share sc_Frames_share rfl rfl (fun cdv A outer s H E C tk => ?_)
  exact ⟨_, mss_one (ms_ret (me_ix gok C (me_fld gok C 1 rfl (me_var 0)) (me_var 1)))⟩
theorem sc_Frames_left : FnScope N_Frames_left ["self"] (defScope s_Frames_left) := ⟨rfl, rfl, rfl, by decide +kernel, rfl, by decide +kernel, by decide +kernel⟩
theorem ok_Frames_left (O : TxOk w K mg T) : FnM (T.G K) P w mg base 1 T.f_Frames_left T.d_Frames_left ["self"] m_Frames_left := by
  refine fn_m O.F_Frames_left sc_Frames_left rfl rfl (fun cdv A outer s H E C tk => ?_)
  exact ⟨_, mss_one (ms_ret (me_sub (me_fld gok C 0 rfl (me_var 0)) (me_blt (cl_sum C) rl_sum O.n_sum bt_sum (ma_cons (me_lc [("held", 1)] C (mi_alt (mi_lst C (me_fld gok C 4 rfl (me_var 0))) (mi_tup C (me_fld gok C 4 rfl (me_var 0)))) (blkOk_by (N := N_Frames_left) (sc := defScope s_Frames_left) (by decide +kernel)) (fun _ _ _ _ _ C => mg_name 1 C.nd) (fun _ _ _ _ _ C => mts_nil) (fun _ _ _ _ _ C => me_blt (cl_len C) rl_len O.n_len bt_len (ma_cons (me_var 1) (ma_nil))) (tgw_name (by decide))) (ma_nil)))))⟩
theorem sc_Frames_may_hold_more : FnScope N_Frames_may_hold_more ["self", "environment"] (defScope s_Frames_may_hold_more) := ⟨rfl, rfl, rfl, by decide +kernel, rfl, by decide +kernel, by decide +kernel⟩
theorem ok_Frames_may_hold_more (O : TxOk w K mg T) : FnM (T.G K) P w mg base 2 T.f_Frames_may_hold_more T.d_Frames_may_hold_more ["self", "environment"] m_Frames_may_hold_more := by
  refine fn_m O.F_Frames_may_hold_more sc_Frames_may_hold_more rfl rfl (fun cdv A outer s H E C tk => ?_)
  exact ⟨_, mss_cons (ms_if (mt_cmp (mc_lt (me_meth C (ok_Frames_charge O) 0 rfl O.cl_Frames O.M_Frames_charge df_nil (by decide) O.b_Frames_charge (me_var 0) (ma_cons (me_var 1) (ma_nil))) (me_meth C (ok_Frames_share O) 0 rfl O.cl_Frames O.M_Frames_share df_nil (by decide) O.b_Frames_share (me_var 0) (ma_cons (me_var 1) (ma_nil))))) (mss_one (ms_ret (me_bl))) (mss_nil))
    (mss_cons (ms_setLc 2 [("one", 3)] C (mi_rng1 O.n_range (ma_cons (me_glob 4 O.k_ENVIRONMENTS) (ma_nil))) (blkOk_by (N := N_Frames_may_hold_more) (sc := defScope s_Frames_may_hold_more) (by decide +kernel)) (fun _ _ _ _ _ C => mg_name 3 C.nd) (fun _ _ _ _ _ C => mts_nil) (fun _ _ _ _ _ C => me_blt (call_max2 rfl) rl_max2 O.n_max bt_max (ma_cons (me_int) (ma_cons (me_sub (me_ix gok C (me_fld gok C 1 rfl (me_var 0)) (me_var 3)) (me_meth C (ok_Frames_charge O) 0 rfl O.cl_Frames O.M_Frames_charge df_nil (by decide) O.b_Frames_charge (me_var 0) (ma_cons (me_var 3) (ma_nil)))) (ma_nil)))) (tgw_name (by decide)) (sw_true rfl rfl rfl (by decide +kernel)))
    (mss_one (ms_ret (me_cmp (mc_gt (me_meth0 C (ok_Frames_left O) 0 rfl O.cl_Frames O.M_Frames_left df_nil (by decide) O.b_Frames_left (me_var 0)) (me_blt (cl_sum C) rl_sum O.n_sum bt_sum (ma_cons (me_var 2) (ma_nil))))))))⟩
theorem sc_Frames_take : FnScope N_Frames_take ["self", "environment"] (defScope s_Frames_take) := ⟨rfl, rfl, rfl, by decide +kernel, rfl, by decide +kernel, by decide +kernel⟩
theorem ok_Frames_take (O : TxOk w K mg T) : FnM (T.G K) P w mg base 3 T.f_Frames_take T.d_Frames_take ["self", "environment"] m_Frames_take := by
  refine fn_m O.F_Frames_take sc_Frames_take rfl rfl (fun cdv A outer s H E C tk => ?_)
  exact ⟨_, mss_cons (ms_asg (me_meth0 C (ok_Frames_free O) 0 rfl O.cl_Frames O.M_Frames_free df_nil (by decide) O.b_Frames_free (me_var 0)) (mg_name 2 C.nd))
    (mss_cons (ms_if ((mw_or (mt_not (mt_tr C (me_var 2))) (mw_or1 (mt_not (mt_tr C (me_meth C (ok_Frames_may_hold_more O) 0 rfl O.cl_Frames O.M_Frames_may_hold_more df_nil (by decide) O.b_Frames_may_hold_more (me_var 0) (ma_cons (me_var 1) (ma_nil))))))).mt) (mss_one (ms_ret (me_non))) (mss_nil))
    (mss_cons (ms_asg (me_ix gok C (me_var 2) (me_int)) (mg_name 3 C.nd))
    (mss_cons (ms_sub gok C (me_fld gok C 3 rfl (me_var 0)) (me_var 3) (me_mul C (me_lst (ma_cons (me_int) (ma_nil))) (me_glob 8 O.k_WORDS)))
    (mss_cons (ms_sub gok C (me_ix gok C (me_fld gok C 2 rfl (me_var 0)) (me_var 3)) (me_var 1) (me_str 0 rfl))
    (mss_cons (ms_expr (me_bm C PySem.F.slot_list_append PySem.F.type_list_append mt_append rm_append (me_ix gok C (me_fld gok C 4 rfl (me_var 0)) (me_var 1)) (ma_cons (me_var 3) (ma_nil))))
    (mss_one (ms_ret (me_var 3))))))))⟩
theorem sc_told : FnScope N_told ["done", "word"] (defScope s_told) := ⟨rfl, rfl, rfl, by decide +kernel, rfl, by decide +kernel, by decide +kernel⟩
theorem ok_told (O : TxOk w K mg T) : FnM (T.G K) P w mg base 1 T.f_told T.d_told ["done", "word"] m_told := by
  refine fn_m O.F_told sc_told rfl rfl (fun cdv A outer s H E C tk => ?_)
  exact ⟨_, mss_cons (ms_if (mt_tr C (me_var 0)) (mss_one (ms_ret (me_tup (ma_cons (me_str 9 rfl) (ma_cons (me_non) (ma_nil)))))) (mss_nil))
    (mss_one (ms_ret (me_tup (ma_cons (me_str 8 rfl) (ma_cons (me_var 1) (ma_nil))))))⟩
theorem sc_Frames_is_frame : FnScope N_Frames_is_frame ["self", "frame"] (defScope s_Frames_is_frame) := ⟨rfl, rfl, rfl, by decide +kernel, rfl, by decide +kernel, by decide +kernel⟩
theorem ok_Frames_is_frame (O : TxOk w K mg T) : FnM (T.G K) P w mg base 2 T.f_Frames_is_frame T.d_Frames_is_frame ["self", "frame"] m_Frames_is_frame := by
  refine fn_m O.F_Frames_is_frame sc_Frames_is_frame rfl rfl (fun cdv A outer s H E C tk => ?_)
  exact ⟨_, mss_one (ms_ret (me_andV (me_call C (ok_is_number O) df_nil (by decide) O.g_is_number O.F_is_number.kp O.b_is_number (ma_cons (me_var 1) (ma_nil))) (me_one (me_chLeLt (me_int) (me_var 1) (me_fld gok C 0 rfl (me_var 0))))))⟩
theorem sc_Frames_right : FnScope N_Frames_right ["self", "environment", "frame"] (defScope s_Frames_right) := ⟨rfl, rfl, rfl, by decide +kernel, rfl, by decide +kernel, by decide +kernel⟩
theorem ok_Frames_right (O : TxOk w K mg T) : FnM (T.G K) P w mg base 3 T.f_Frames_right T.d_Frames_right ["self", "environment", "frame"] m_Frames_right := by
  refine fn_m O.F_Frames_right sc_Frames_right rfl rfl (fun cdv A outer s H E C tk => ?_)
  exact ⟨_, mss_cons (ms_if (mt_not (mt_tr C (me_meth C (ok_Frames_is_frame O) 0 rfl O.cl_Frames O.M_Frames_is_frame df_nil (by decide) O.b_Frames_is_frame (me_var 0) (ma_cons (me_var 2) (ma_nil))))) (mss_one (ms_ret (me_non))) (mss_nil))
    (mss_one (ms_ret (me_get2 gok C (me_ix gok C (me_fld gok C 2 rfl (me_var 0)) (me_var 2)) (me_var 1) (me_non))))⟩
theorem sc_includes : FnScope N_includes ["right", "wanted"] (defScope s_includes) := ⟨rfl, rfl, rfl, by decide +kernel, rfl, by decide +kernel, by decide +kernel⟩
theorem ok_includes (O : TxOk w K mg T) : FnM (T.G K) P w mg base 1 T.f_includes T.d_includes ["right", "wanted"] m_includes := by
  refine fn_m O.F_includes sc_includes rfl rfl (fun cdv A outer s H E C tk => ?_)
  exact ⟨_, mss_one (ms_ret (me_orV (me_cmp (mc_eq gok C (me_var 0) (me_var 1))) (me_one (me_andV (me_cmp (mc_eq gok C (me_var 0) (me_str 0 rfl))) (me_one (me_cmp (mc_eq gok C (me_var 1) (me_str 1 rfl))))))))⟩
theorem sc_Frames_offer : FnScope N_Frames_offer ["self", "environment", "frame", "other", "right"] (defScope s_Frames_offer) := ⟨rfl, rfl, rfl, by decide +kernel, rfl, by decide +kernel, by decide +kernel⟩
theorem ok_Frames_offer (O : TxOk w K mg T) : FnM (T.G K) P w mg base 4 T.f_Frames_offer T.d_Frames_offer ["self", "environment", "frame", "other", "right"] m_Frames_offer := by
  refine fn_m O.F_Frames_offer sc_Frames_offer rfl rfl (fun cdv A outer s H E C tk => ?_)
  exact ⟨_, mss_cons (ms_if ((mw_or (mt_not (mt_tr C (me_call C (ok_is_environment O) df_nil (by decide) O.g_is_environment O.F_is_environment.kp O.b_is_environment (ma_cons (me_var 3) (ma_nil))))) (mw_or (mt_cmp (mc_eq gok C (me_var 3) (me_var 1))) (mw_or1 (mt_cmp (mc_notin gok C (me_var 4) (me_globC C O.k_RIGHTS)))))).mt) (mss_one (ms_ret (me_bl))) (mss_nil))
    (mss_cons (ms_asg (me_meth C (ok_Frames_right O) 0 rfl O.cl_Frames O.M_Frames_right df_nil (by decide) O.b_Frames_right (me_var 0) (ma_cons (me_var 1) (ma_cons (me_var 2) (ma_nil)))) (mg_name 5 C.nd))
    (mss_cons (ms_if ((mw_or (mt_cmp (mc_isN (me_var 5))) (mw_or1 (mt_not (mt_tr C (me_call C (ok_includes O) df_nil (by decide) O.g_includes O.F_includes.kp O.b_includes (ma_cons (me_var 5) (ma_cons (me_var 4) (ma_nil)))))))).mt) (mss_one (ms_ret (me_bl))) (mss_nil))
    (mss_cons (ms_subT gok C (me_fld gok C 5 rfl (me_var 0)) (ma_cons (me_var 1) (ma_cons (me_var 2) (ma_cons (me_var 3) (ma_nil)))) (me_var 4))
    (mss_one (ms_ret (me_bl))))))⟩
theorem sc_Frames_accept : FnScope N_Frames_accept ["self", "environment", "frame", "owner"] (defScope s_Frames_accept) := ⟨rfl, rfl, rfl, by decide +kernel, rfl, by decide +kernel, by decide +kernel⟩
theorem ok_Frames_accept (O : TxOk w K mg T) : FnM (T.G K) P w mg base 4 T.f_Frames_accept T.d_Frames_accept ["self", "environment", "frame", "owner"] m_Frames_accept := by
  refine fn_m O.F_Frames_accept sc_Frames_accept rfl rfl (fun cdv A outer s H E C tk => ?_)
  exact ⟨_, mss_cons (ms_if ((mw_or (mt_not (mt_tr C (me_meth C (ok_Frames_is_frame O) 0 rfl O.cl_Frames O.M_Frames_is_frame df_nil (by decide) O.b_Frames_is_frame (me_var 0) (ma_cons (me_var 2) (ma_nil))))) (mw_or1 (mt_not (mt_tr C (me_call C (ok_is_environment O) df_nil (by decide) O.g_is_environment O.F_is_environment.kp O.b_is_environment (ma_cons (me_var 3) (ma_nil))))))).mt) (mss_one (ms_ret (me_bl))) (mss_nil))
    (mss_cons (ms_asg (me_getT2 gok C (me_fld gok C 5 rfl (me_var 0)) (ma_cons (me_var 3) (ma_cons (me_var 2) (ma_cons (me_var 1) (ma_nil)))) (me_non)) (mg_name 4 C.nd))
    (mss_cons (ms_asg (me_meth C (ok_Frames_right O) 0 rfl O.cl_Frames O.M_Frames_right df_nil (by decide) O.b_Frames_right (me_var 0) (ma_cons (me_var 3) (ma_cons (me_var 2) (ma_nil)))) (mg_name 5 C.nd))
    (mss_cons (ms_if ((mw_or (mt_cmp (mc_isN (me_var 4))) (mw_or (mt_cmp (mc_isN (me_var 5))) (mw_or1 (mt_not (mt_tr C (me_call C (ok_includes O) df_nil (by decide) O.g_includes O.F_includes.kp O.b_includes (ma_cons (me_var 5) (ma_cons (me_var 4) (ma_nil))))))))).mt) (mss_one (ms_ret (me_bl))) (mss_nil))
    (mss_cons (ms_if ((mw_or (mt_cmp (mc_notN (me_meth C (ok_Frames_right O) 0 rfl O.cl_Frames O.M_Frames_right df_nil (by decide) O.b_Frames_right (me_var 0) (ma_cons (me_var 1) (ma_cons (me_var 2) (ma_nil)))))) (mw_or1 (mt_not (mt_tr C (me_meth C (ok_Frames_may_hold_more O) 0 rfl O.cl_Frames O.M_Frames_may_hold_more df_nil (by decide) O.b_Frames_may_hold_more (me_var 0) (ma_cons (me_var 1) (ma_nil))))))).mt) (mss_one (ms_ret (me_bl))) (mss_nil))
    (mss_cons (ms_expr (me_popT1 gok C (me_fld gok C 5 rfl (me_var 0)) (ma_cons (me_var 3) (ma_cons (me_var 2) (ma_cons (me_var 1) (ma_nil))))))
    (mss_cons (ms_sub gok C (me_ix gok C (me_fld gok C 2 rfl (me_var 0)) (me_var 2)) (me_var 1) (me_var 4))
    (mss_cons (ms_expr (me_bm C PySem.F.slot_list_append PySem.F.type_list_append mt_append rm_append (me_ix gok C (me_fld gok C 4 rfl (me_var 0)) (me_var 1)) (ma_cons (me_var 2) (ma_nil))))
    (mss_one (ms_ret (me_bl))))))))))⟩
theorem sc_Frames__end_holding : FnScope N_Frames__end_holding ["self", "environment", "frame"] (defScope s_Frames__end_holding) := ⟨rfl, rfl, rfl, by decide +kernel, rfl, by decide +kernel, by decide +kernel⟩
theorem ok_Frames__end_holding (O : TxOk w K mg T) : FnM (T.G K) P w mg base 1 T.f_Frames__end_holding T.d_Frames__end_holding ["self", "environment", "frame"] m_Frames__end_holding := by
  refine fn_m O.F_Frames__end_holding sc_Frames__end_holding rfl rfl (fun cdv A outer s H E C tk => ?_)
  exact ⟨_, mss_cons (ms_expr (me_pop1 gok (me_ix gok C (me_fld gok C 2 rfl (me_var 0)) (me_var 2)) (me_var 1)))
    (mss_cons (ms_expr (me_bm C PySem.F.slot_list_remove PySem.F.type_list_remove mt_remove rm_remove (me_ix gok C (me_fld gok C 4 rfl (me_var 0)) (me_var 1)) (ma_cons (me_var 2) (ma_nil))))
    (mss_one (ms_for C (mi_rng1 O.n_range (ma_cons (me_glob 4 O.k_ENVIRONMENTS) (ma_nil))) (mg_name 3 C.nd) (mss_one (ms_expr (me_popT2 gok C (me_fld gok C 5 rfl (me_var 0)) (ma_cons (me_var 1) (ma_cons (me_var 2) (ma_cons (me_var 3) (ma_nil)))) (me_non)))))))⟩
theorem sc_Frames_drop : FnScope N_Frames_drop ["self", "environment", "frame"] (defScope s_Frames_drop) := ⟨rfl, rfl, rfl, by decide +kernel, rfl, by decide +kernel, by decide +kernel⟩
theorem ok_Frames_drop (O : TxOk w K mg T) : FnM (T.G K) P w mg base 4 T.f_Frames_drop T.d_Frames_drop ["self", "environment", "frame"] m_Frames_drop := by
  refine fn_m O.F_Frames_drop sc_Frames_drop rfl rfl (fun cdv A outer s H E C tk => ?_)
  exact ⟨_, mss_cons (ms_if (mt_cmp (mc_isN (me_meth C (ok_Frames_right O) 0 rfl O.cl_Frames O.M_Frames_right df_nil (by decide) O.b_Frames_right (me_var 0) (ma_cons (me_var 1) (ma_cons (me_var 2) (ma_nil)))))) (mss_one (ms_ret (me_bl))) (mss_nil))
    (mss_cons (ms_expr (me_meth C (ok_Frames__end_holding O) 0 rfl O.cl_Frames O.M_Frames__end_holding df_nil (by decide) O.b_Frames__end_holding (me_var 0) (ma_cons (me_var 1) (ma_cons (me_var 2) (ma_nil)))))
    (mss_cons (ms_if (mt_cmp (mc_notN (me_ix gok C (me_fld gok C 6 rfl (me_var 0)) (me_var 1)))) (mss_cons (ms_asg (me_ix gok C (me_fld gok C 6 rfl (me_var 0)) (me_var 1)) (mg_tup C (mgs_cons (mg_name 3 C.nd) (mgs_cons (mg_name 4 C.nd) (mgs_nil))) (gs_lenS (gs_lenS gs_len0))))
    (mss_one (ms_sub gok C (me_fld gok C 6 rfl (me_var 0)) (me_var 1) (me_if (mt_cmp (mc_gt (me_var 3) (me_int))) (me_tup (ma_cons (me_sub (me_var 3) (me_int)) (ma_cons (me_var 4) (ma_nil)))) (me_non))))) (mss_nil))
    (mss_one (ms_ret (me_bl)))))⟩
theorem sc_is_page : FnScope N_is_page ["value"] (defScope s_is_page) := ⟨rfl, rfl, rfl, by decide +kernel, rfl, by decide +kernel, by decide +kernel⟩
theorem ok_is_page (O : TxOk w K mg T) : FnM (T.G K) P w mg base 2 T.f_is_page T.d_is_page ["value"] m_is_page := by
  refine fn_m O.F_is_page sc_is_page rfl rfl (fun cdv A outer s H E C tk => ?_)
  exact ⟨_, mss_one (ms_ret (me_andV (me_call C (ok_is_number O) df_nil (by decide) O.g_is_number O.F_is_number.kp O.b_is_number (ma_cons (me_var 0) (ma_nil))) (me_one (me_chLeLt (me_int) (me_var 0) (me_glob 32 O.k_PAGES)))))⟩
theorem sc_Pages_entry : FnScope N_Pages_entry ["self", "environment", "page"] (defScope s_Pages_entry) := ⟨rfl, rfl, rfl, by decide +kernel, rfl, by decide +kernel, by decide +kernel⟩
theorem ok_Pages_entry (O : TxOk w K mg T) : FnM (T.G K) P w mg base 3 T.f_Pages_entry T.d_Pages_entry ["self", "environment", "page"] m_Pages_entry := by
  refine fn_m O.F_Pages_entry sc_Pages_entry rfl rfl (fun cdv A outer s H E C tk => ?_)
  exact ⟨_, mss_cons (ms_if (mt_not (mt_tr C (me_call C (ok_is_page O) df_nil (by decide) O.g_is_page O.F_is_page.kp O.b_is_page (ma_cons (me_var 2) (ma_nil))))) (mss_one (ms_ret (me_non))) (mss_nil))
    (mss_one (ms_ret (me_get2 gok C (me_ix gok C (me_fld gok C 9 rfl (me_var 0)) (me_var 1)) (me_var 2) (me_non))))⟩
theorem sc_Pages__fall : FnScope N_Pages__fall ["self", "environment", "frame", "rights"] (defScope s_Pages__fall) := ⟨rfl, rfl, rfl, by decide +kernel, rfl, by decide +kernel, by decide +kernel⟩
theorem ok_Pages__fall (O : TxOk w K mg T) : FnM (T.G K) P w mg base 4 T.f_Pages__fall T.d_Pages__fall ["self", "environment", "frame", "rights"] m_Pages__fall := by
  refine fn_m O.F_Pages__fall sc_Pages__fall rfl rfl (fun cdv A outer s H E C tk => ?_)
  exact ⟨_, mss_one (ms_for C (mi_rng1 O.n_range (ma_cons (me_glob 32 O.k_PAGES) (ma_nil))) (mg_name 4 C.nd) (mss_cons (ms_asg (me_meth C (ok_Pages_entry O) 1 rfl O.cl_Pages O.M_Pages_entry df_nil (by decide) O.b_Pages_entry (me_var 0) (ma_cons (me_var 1) (ma_cons (me_var 4) (ma_nil)))) (mg_name 5 C.nd))
    (mss_one (ms_if ((mw_and (mt_cmp (mc_notN (me_var 5))) (mw_and (mt_cmp (mc_eq gok C (me_ix gok C (me_var 5) (me_int)) (me_var 2))) (mw_and1 (mt_cmp (mc_in gok C (me_ix gok C (me_var 5) (me_int)) (me_var 3)))))).mt) (mss_one (ms_expr (me_pop1 gok (me_ix gok C (me_fld gok C 9 rfl (me_var 0)) (me_var 1)) (me_var 4)))) (mss_nil)))))⟩
theorem sc_Pages_ended : FnScope N_Pages_ended ["self", "environment", "frame"] (defScope s_Pages_ended) := ⟨rfl, rfl, rfl, by decide +kernel, rfl, by decide +kernel, by decide +kernel⟩
theorem ok_Pages_ended (O : TxOk w K mg T) : FnM (T.G K) P w mg base 5 T.f_Pages_ended T.d_Pages_ended ["self", "environment", "frame"] m_Pages_ended := by
  refine fn_m O.F_Pages_ended sc_Pages_ended rfl rfl (fun cdv A outer s H E C tk => ?_)
  exact ⟨_, mss_one (ms_expr (me_meth C (ok_Pages__fall O) 1 rfl O.cl_Pages O.M_Pages__fall df_nil (by decide) O.b_Pages__fall (me_var 0) (ma_cons (me_var 1) (ma_cons (me_var 2) (ma_cons (me_globC C O.k_RIGHTS) (ma_nil))))))⟩
theorem sc_Frames_narrow : FnScope N_Frames_narrow ["self", "environment", "frame"] (defScope s_Frames_narrow) := ⟨rfl, rfl, rfl, by decide +kernel, rfl, by decide +kernel, by decide +kernel⟩
theorem ok_Frames_narrow (O : TxOk w K mg T) : FnM (T.G K) P w mg base 4 T.f_Frames_narrow T.d_Frames_narrow ["self", "environment", "frame"] m_Frames_narrow := by
  refine fn_m O.F_Frames_narrow sc_Frames_narrow rfl rfl (fun cdv A outer s H E C tk => ?_)
  exact ⟨_, mss_cons (ms_if (mt_cmp (mc_ne gok C (me_meth C (ok_Frames_right O) 0 rfl O.cl_Frames O.M_Frames_right df_nil (by decide) O.b_Frames_right (me_var 0) (ma_cons (me_var 1) (ma_cons (me_var 2) (ma_nil)))) (me_str 0 rfl))) (mss_one (ms_ret (me_bl))) (mss_nil))
    (mss_cons (ms_sub gok C (me_ix gok C (me_fld gok C 2 rfl (me_var 0)) (me_var 2)) (me_var 1) (me_str 1 rfl))
    (mss_one (ms_ret (me_bl))))⟩
theorem sc_Pages_narrowed : FnScope N_Pages_narrowed ["self", "environment", "frame"] (defScope s_Pages_narrowed) := ⟨rfl, rfl, rfl, by decide +kernel, rfl, by decide +kernel, by decide +kernel⟩
theorem ok_Pages_narrowed (O : TxOk w K mg T) : FnM (T.G K) P w mg base 5 T.f_Pages_narrowed T.d_Pages_narrowed ["self", "environment", "frame"] m_Pages_narrowed := by
  refine fn_m O.F_Pages_narrowed sc_Pages_narrowed rfl rfl (fun cdv A outer s H E C tk => ?_)
  exact ⟨_, mss_one (ms_expr (me_meth C (ok_Pages__fall O) 1 rfl O.cl_Pages O.M_Pages__fall df_nil (by decide) O.b_Pages__fall (me_var 0) (ma_cons (me_var 1) (ma_cons (me_var 2) (ma_cons (me_tup (ma_cons (me_str 0 rfl) (ma_nil))) (ma_nil))))))⟩
theorem sc_Kernel__frames : FnScope N_Kernel__frames ["self", "environment", "request"] (defScope s_Kernel__frames) := ⟨rfl, rfl, rfl, by decide +kernel, rfl, by decide +kernel, by decide +kernel⟩
theorem ok_Kernel__frames (O : TxOk w K mg T) : FnM (T.G K) P w mg base 6 T.f_Kernel__frames T.d_Kernel__frames ["self", "environment", "request"] m_Kernel__frames := by
  refine fn_m O.F_Kernel__frames sc_Kernel__frames rfl rfl (fun cdv A outer s H E C tk => ?_)
  exact ⟨_, mss_cons (ms_asg (me_ix gok C (me_var 2) (me_int)) (mg_name 3 C.nd))
    (mss_cons (ms_if (mt_cmp (mc_eq gok C (me_var 3) (me_str 16 rfl))) (mss_one (ms_ret (me_tup (ma_cons (me_str 9 rfl) (ma_cons (me_bty (cl_tuple C) rl_tuple O.n_tuple bt_tuple (ma_cons (me_meth C (ok_Frames_holdings O) 0 rfl O.cl_Frames O.M_Frames_holdings df_nil (by decide) O.b_Frames_holdings (me_fld gok C 8 rfl (me_var 0)) (ma_cons (me_var 1) (ma_nil))) (ma_nil))) (ma_nil)))))) (mss_nil))
    (mss_cons (ms_if (mt_cmp (mc_eq gok C (me_var 3) (me_str 11 rfl))) (mss_cons (ms_asg (me_meth C (ok_Frames_take O) 0 rfl O.cl_Frames O.M_Frames_take df_nil (by decide) O.b_Frames_take (me_fld gok C 8 rfl (me_var 0)) (ma_cons (me_var 1) (ma_nil))) (mg_name 4 C.nd))
    (mss_one (ms_ret (me_if (mt_cmp (mc_isN (me_var 4))) (me_tup (ma_cons (me_str 8 rfl) (ma_cons (me_str 30 rfl) (ma_nil)))) (me_tup (ma_cons (me_str 9 rfl) (ma_cons (me_var 4) (ma_nil)))))))) (mss_nil))
    (mss_cons (ms_if (mt_cmp (mc_eq gok C (me_var 3) (me_str 12 rfl))) (mss_one (ms_ret (me_call C (ok_told O) df_nil (by decide) O.g_told O.F_told.kp O.b_told (ma_cons (me_meth C (ok_Frames_offer O) 0 rfl O.cl_Frames O.M_Frames_offer df_nil (by decide) O.b_Frames_offer (me_fld gok C 8 rfl (me_var 0)) (ma_cons (me_var 1) (ma_cons (me_ix gok C (me_var 2) (me_int)) (ma_cons (me_ix gok C (me_var 2) (me_int)) (ma_cons (me_ix gok C (me_var 2) (me_int)) (ma_nil)))))) (ma_cons (me_str 31 rfl) (ma_nil)))))) (mss_nil))
    (mss_cons (ms_if (mt_cmp (mc_eq gok C (me_var 3) (me_str 13 rfl))) (mss_one (ms_ret (me_call C (ok_told O) df_nil (by decide) O.g_told O.F_told.kp O.b_told (ma_cons (me_meth C (ok_Frames_accept O) 0 rfl O.cl_Frames O.M_Frames_accept df_nil (by decide) O.b_Frames_accept (me_fld gok C 8 rfl (me_var 0)) (ma_cons (me_var 1) (ma_cons (me_ix gok C (me_var 2) (me_int)) (ma_cons (me_ix gok C (me_var 2) (me_int)) (ma_nil))))) (ma_cons (me_str 31 rfl) (ma_nil)))))) (mss_nil))
    (mss_cons (ms_if (mt_cmp (mc_eq gok C (me_var 3) (me_str 14 rfl))) (mss_cons (ms_asg (me_meth C (ok_Frames_drop O) 0 rfl O.cl_Frames O.M_Frames_drop df_nil (by decide) O.b_Frames_drop (me_fld gok C 8 rfl (me_var 0)) (ma_cons (me_var 1) (ma_cons (me_ix gok C (me_var 2) (me_int)) (ma_nil)))) (mg_name 5 C.nd))
    (mss_cons (ms_if (mt_tr C (me_var 5)) (mss_one (ms_expr (me_meth C (ok_Pages_ended O) 1 rfl O.cl_Pages O.M_Pages_ended df_nil (by decide) O.b_Pages_ended (me_fld gok C 35 rfl (me_var 0)) (ma_cons (me_var 1) (ma_cons (me_ix gok C (me_var 2) (me_int)) (ma_nil)))))) (mss_nil))
    (mss_one (ms_ret (me_call C (ok_told O) df_nil (by decide) O.g_told O.F_told.kp O.b_told (ma_cons (me_var 5) (ma_cons (me_str 31 rfl) (ma_nil)))))))) (mss_nil))
    (mss_cons (ms_asg (me_meth C (ok_Frames_narrow O) 0 rfl O.cl_Frames O.M_Frames_narrow df_nil (by decide) O.b_Frames_narrow (me_fld gok C 8 rfl (me_var 0)) (ma_cons (me_var 1) (ma_cons (me_ix gok C (me_var 2) (me_int)) (ma_nil)))) (mg_name 5 C.nd))
    (mss_cons (ms_if (mt_tr C (me_var 5)) (mss_one (ms_expr (me_meth C (ok_Pages_narrowed O) 1 rfl O.cl_Pages O.M_Pages_narrowed df_nil (by decide) O.b_Pages_narrowed (me_fld gok C 35 rfl (me_var 0)) (ma_cons (me_var 1) (ma_cons (me_ix gok C (me_var 2) (me_int)) (ma_nil)))))) (mss_nil))
    (mss_one (ms_ret (me_call C (ok_told O) df_nil (by decide) O.g_told O.F_told.kp O.b_told (ma_cons (me_var 5) (ma_cons (me_str 31 rfl) (ma_nil)))))))))))))⟩
theorem sc_Pages_map : FnScope N_Pages_map ["self", "environment", "page", "frame", "right"] (defScope s_Pages_map) := ⟨rfl, rfl, rfl, by decide +kernel, rfl, by decide +kernel, by decide +kernel⟩
theorem ok_Pages_map (O : TxOk w K mg T) : FnM (T.G K) P w mg base 4 T.f_Pages_map T.d_Pages_map ["self", "environment", "page", "frame", "right"] m_Pages_map := by
  refine fn_m O.F_Pages_map sc_Pages_map rfl rfl (fun cdv A outer s H E C tk => ?_)
  exact ⟨_, mss_cons (ms_if ((mw_or (mt_not (mt_tr C (me_call C (ok_is_page O) df_nil (by decide) O.g_is_page O.F_is_page.kp O.b_is_page (ma_cons (me_var 2) (ma_nil))))) (mw_or1 (mt_cmp (mc_notin gok C (me_var 4) (me_globC C O.k_RIGHTS))))).mt) (mss_one (ms_ret (me_bl))) (mss_nil))
    (mss_cons (ms_asg (me_meth C (ok_Frames_right O) 0 rfl O.cl_Frames O.M_Frames_right df_nil (by decide) O.b_Frames_right (me_fld gok C 8 rfl (me_var 0)) (ma_cons (me_var 1) (ma_cons (me_var 3) (ma_nil)))) (mg_name 5 C.nd))
    (mss_cons (ms_if ((mw_or (mt_cmp (mc_isN (me_var 5))) (mw_or1 (mt_not (mt_tr C (me_call C (ok_includes O) df_nil (by decide) O.g_includes O.F_includes.kp O.b_includes (ma_cons (me_var 5) (ma_cons (me_var 4) (ma_nil)))))))).mt) (mss_one (ms_ret (me_bl))) (mss_nil))
    (mss_cons (ms_sub gok C (me_ix gok C (me_fld gok C 9 rfl (me_var 0)) (me_var 1)) (me_var 2) (me_tup (ma_cons (me_var 3) (ma_cons (me_var 4) (ma_nil)))))
    (mss_one (ms_ret (me_bl))))))⟩
theorem sc_Pages_unmap : FnScope N_Pages_unmap ["self", "environment", "page"] (defScope s_Pages_unmap) := ⟨rfl, rfl, rfl, by decide +kernel, rfl, by decide +kernel, by decide +kernel⟩
theorem ok_Pages_unmap (O : TxOk w K mg T) : FnM (T.G K) P w mg base 3 T.f_Pages_unmap T.d_Pages_unmap ["self", "environment", "page"] m_Pages_unmap := by
  refine fn_m O.F_Pages_unmap sc_Pages_unmap rfl rfl (fun cdv A outer s H E C tk => ?_)
  exact ⟨_, mss_cons (ms_if (mt_not (mt_tr C (me_call C (ok_is_page O) df_nil (by decide) O.g_is_page O.F_is_page.kp O.b_is_page (ma_cons (me_var 2) (ma_nil))))) (mss_one (ms_ret (me_bl))) (mss_nil))
    (mss_one (ms_ret (me_cmp (mc_notN (me_pop2 gok (me_ix gok C (me_fld gok C 9 rfl (me_var 0)) (me_var 1)) (me_var 2) (me_non))))))⟩
theorem sc_Frames_read : FnScope N_Frames_read ["self", "frame", "index"] (defScope s_Frames_read) := ⟨rfl, rfl, rfl, by decide +kernel, rfl, by decide +kernel, by decide +kernel⟩
theorem ok_Frames_read (O : TxOk w K mg T) : FnM (T.G K) P w mg base 1 T.f_Frames_read T.d_Frames_read ["self", "frame", "index"] m_Frames_read := by
  refine fn_m O.F_Frames_read sc_Frames_read rfl rfl (fun cdv A outer s H E C tk => ?_)
  exact ⟨_, mss_one (ms_ret (me_ix gok C (me_ix gok C (me_fld gok C 3 rfl (me_var 0)) (me_var 1)) (me_var 2)))⟩
theorem sc_Pages_load : FnScope N_Pages_load ["self", "environment", "page", "index"] (defScope s_Pages_load) := ⟨rfl, rfl, rfl, by decide +kernel, rfl, by decide +kernel, by decide +kernel⟩
theorem ok_Pages_load (O : TxOk w K mg T) : FnM (T.G K) P w mg base 4 T.f_Pages_load T.d_Pages_load ["self", "environment", "page", "index"] m_Pages_load := by
  refine fn_m O.F_Pages_load sc_Pages_load rfl rfl (fun cdv A outer s H E C tk => ?_)
  exact ⟨_, mss_cons (ms_asg (me_meth C (ok_Pages_entry O) 1 rfl O.cl_Pages O.M_Pages_entry df_nil (by decide) O.b_Pages_entry (me_var 0) (ma_cons (me_var 1) (ma_cons (me_var 2) (ma_nil)))) (mg_name 4 C.nd))
    (mss_cons (ms_if ((mw_or (mt_cmp (mc_isN (me_var 4))) (mw_or (mt_not (mt_tr C (me_call C (ok_is_number O) df_nil (by decide) O.g_is_number O.F_is_number.kp O.b_is_number (ma_cons (me_var 3) (ma_nil))))) (mw_or1 (mt_not (mt_chLeLt (me_int) (me_var 3) (me_glob 8 O.k_WORDS)))))).mt) (mss_one (ms_ret (me_non))) (mss_nil))
    (mss_one (ms_ret (me_meth C (ok_Frames_read O) 0 rfl O.cl_Frames O.M_Frames_read df_nil (by decide) O.b_Frames_read (me_fld gok C 8 rfl (me_var 0)) (ma_cons (me_ix gok C (me_var 4) (me_int)) (ma_cons (me_var 3) (ma_nil)))))))⟩
theorem sc_is_word : FnScope N_is_word ["value"] (defScope s_is_word) := ⟨rfl, rfl, rfl, by decide +kernel, rfl, by decide +kernel, by decide +kernel⟩
theorem ok_is_word (O : TxOk w K mg T) : FnM (T.G K) P w mg base 2 T.f_is_word T.d_is_word ["value"] m_is_word := by
  refine fn_m O.F_is_word sc_is_word rfl rfl (fun cdv A outer s H E C tk => ?_)
  exact ⟨_, mss_one (ms_ret (me_andV (me_call C (ok_is_number O) df_nil (by decide) O.g_is_number O.F_is_number.kp O.b_is_number (ma_cons (me_var 0) (ma_nil))) (me_one (me_chLeLe (me_int) (me_var 0) (me_glob 4294967295 O.k_TOP)))))⟩
theorem sc_Frames_write : FnScope N_Frames_write ["self", "frame", "index", "word"] (defScope s_Frames_write) := ⟨rfl, rfl, rfl, by decide +kernel, rfl, by decide +kernel, by decide +kernel⟩
theorem ok_Frames_write (O : TxOk w K mg T) : FnM (T.G K) P w mg base 1 T.f_Frames_write T.d_Frames_write ["self", "frame", "index", "word"] m_Frames_write := by
  refine fn_m O.F_Frames_write sc_Frames_write rfl rfl (fun cdv A outer s H E C tk => ?_)
  exact ⟨_, mss_one (ms_sub gok C (me_ix gok C (me_fld gok C 3 rfl (me_var 0)) (me_var 1)) (me_var 2) (me_var 3))⟩
theorem sc_Pages_store : FnScope N_Pages_store ["self", "environment", "page", "index", "word"] (defScope s_Pages_store) := ⟨rfl, rfl, rfl, by decide +kernel, rfl, by decide +kernel, by decide +kernel⟩
theorem ok_Pages_store (O : TxOk w K mg T) : FnM (T.G K) P w mg base 4 T.f_Pages_store T.d_Pages_store ["self", "environment", "page", "index", "word"] m_Pages_store := by
  refine fn_m O.F_Pages_store sc_Pages_store rfl rfl (fun cdv A outer s H E C tk => ?_)
  exact ⟨_, mss_cons (ms_asg (me_meth C (ok_Pages_entry O) 1 rfl O.cl_Pages O.M_Pages_entry df_nil (by decide) O.b_Pages_entry (me_var 0) (ma_cons (me_var 1) (ma_cons (me_var 2) (ma_nil)))) (mg_name 5 C.nd))
    (mss_cons (ms_if ((mw_or (mt_cmp (mc_isN (me_var 5))) (mw_or (mt_cmp (mc_ne gok C (me_ix gok C (me_var 5) (me_int)) (me_str 0 rfl))) (mw_or1 (mt_not (mt_tr C (me_call C (ok_is_word O) df_nil (by decide) O.g_is_word O.F_is_word.kp O.b_is_word (ma_cons (me_var 4) (ma_nil)))))))).mt) (mss_one (ms_ret (me_bl))) (mss_nil))
    (mss_cons (ms_if ((mw_or (mt_not (mt_tr C (me_call C (ok_is_number O) df_nil (by decide) O.g_is_number O.F_is_number.kp O.b_is_number (ma_cons (me_var 3) (ma_nil))))) (mw_or1 (mt_not (mt_chLeLt (me_int) (me_var 3) (me_glob 8 O.k_WORDS))))).mt) (mss_one (ms_ret (me_bl))) (mss_nil))
    (mss_cons (ms_expr (me_meth C (ok_Frames_write O) 0 rfl O.cl_Frames O.M_Frames_write df_nil (by decide) O.b_Frames_write (me_fld gok C 8 rfl (me_var 0)) (ma_cons (me_ix gok C (me_var 5) (me_int)) (ma_cons (me_var 3) (ma_cons (me_var 4) (ma_nil))))))
    (mss_one (ms_ret (me_bl))))))⟩
theorem sc_Kernel__pages : FnScope N_Kernel__pages ["self", "environment", "request"] (defScope s_Kernel__pages) := ⟨rfl, rfl, rfl, by decide +kernel, rfl, by decide +kernel, by decide +kernel⟩
theorem ok_Kernel__pages (O : TxOk w K mg T) : FnM (T.G K) P w mg base 5 T.f_Kernel__pages T.d_Kernel__pages ["self", "environment", "request"] m_Kernel__pages := by
  refine fn_m O.F_Kernel__pages sc_Kernel__pages rfl rfl (fun cdv A outer s H E C tk => ?_)
  exact ⟨_, mss_cons (ms_asg (me_ix gok C (me_var 2) (me_int)) (mg_name 3 C.nd))
    (mss_cons (ms_if (mt_cmp (mc_eq gok C (me_var 3) (me_str 17 rfl))) (mss_one (ms_ret (me_call C (ok_told O) df_nil (by decide) O.g_told O.F_told.kp O.b_told (ma_cons (me_meth C (ok_Pages_map O) 1 rfl O.cl_Pages O.M_Pages_map df_nil (by decide) O.b_Pages_map (me_fld gok C 35 rfl (me_var 0)) (ma_cons (me_var 1) (ma_cons (me_ix gok C (me_var 2) (me_int)) (ma_cons (me_ix gok C (me_var 2) (me_int)) (ma_cons (me_ix gok C (me_var 2) (me_int)) (ma_nil)))))) (ma_cons (me_str 31 rfl) (ma_nil)))))) (mss_nil))
    (mss_cons (ms_if (mt_cmp (mc_eq gok C (me_var 3) (me_str 18 rfl))) (mss_one (ms_ret (me_call C (ok_told O) df_nil (by decide) O.g_told O.F_told.kp O.b_told (ma_cons (me_meth C (ok_Pages_unmap O) 1 rfl O.cl_Pages O.M_Pages_unmap df_nil (by decide) O.b_Pages_unmap (me_fld gok C 35 rfl (me_var 0)) (ma_cons (me_var 1) (ma_cons (me_ix gok C (me_var 2) (me_int)) (ma_nil)))) (ma_cons (me_str 32 rfl) (ma_nil)))))) (mss_nil))
    (mss_cons (ms_if (mt_cmp (mc_eq gok C (me_var 3) (me_str 19 rfl))) (mss_cons (ms_asg (me_meth C (ok_Pages_load O) 1 rfl O.cl_Pages O.M_Pages_load df_nil (by decide) O.b_Pages_load (me_fld gok C 35 rfl (me_var 0)) (ma_cons (me_var 1) (ma_cons (me_ix gok C (me_var 2) (me_int)) (ma_cons (me_ix gok C (me_var 2) (me_int)) (ma_nil))))) (mg_name 4 C.nd))
    (mss_one (ms_ret (me_if (mt_cmp (mc_isN (me_var 4))) (me_tup (ma_cons (me_str 8 rfl) (ma_cons (me_str 32 rfl) (ma_nil)))) (me_tup (ma_cons (me_str 9 rfl) (ma_cons (me_var 4) (ma_nil)))))))) (mss_nil))
    (mss_one (ms_ret (me_call C (ok_told O) df_nil (by decide) O.g_told O.F_told.kp O.b_told (ma_cons (me_meth C (ok_Pages_store O) 1 rfl O.cl_Pages O.M_Pages_store df_nil (by decide) O.b_Pages_store (me_fld gok C 35 rfl (me_var 0)) (ma_cons (me_var 1) (ma_cons (me_ix gok C (me_var 2) (me_int)) (ma_cons (me_ix gok C (me_var 2) (me_int)) (ma_cons (me_ix gok C (me_var 2) (me_int)) (ma_nil)))))) (ma_cons (me_str 32 rfl) (ma_nil)))))))))⟩
theorem sc_Kernel_request : FnScope N_Kernel_request ["self", "environment", "request"] (defScope s_Kernel_request) := ⟨rfl, rfl, rfl, by decide +kernel, rfl, by decide +kernel, by decide +kernel⟩
theorem ok_Kernel_request (O : TxOk w K mg T) : FnM (T.G K) P w mg base 7 T.f_Kernel_request T.d_Kernel_request ["self", "environment", "request"] m_Kernel_request := by
  refine fn_m O.F_Kernel_request sc_Kernel_request rfl rfl (fun cdv A outer s H E C tk => ?_)
  exact ⟨_, mss_cons (ms_if ((mw_or (mt_not (mt_tr C (me_isi C .tup (by decide) O.n_isinstance O.n_tuple bt_ty_tup (me_var 2)))) (mw_or (mt_cmp (mc_eq gok C (me_blt (cl_len C) rl_len O.n_len bt_len (ma_cons (me_var 2) (ma_nil))) (me_int))) (mw_or1 (mt_not (mt_tr C (me_isi C .str (by decide) O.n_isinstance O.n_str bt_ty_str (me_ix gok C (me_var 2) (me_int)))))))).mt) (mss_one (ms_ret (me_globC C O.k_BAD_kernel))) (mss_nil))
    (mss_cons (ms_asg (me_ix gok C (me_var 2) (me_int)) (mg_name 3 C.nd))
    (mss_cons (ms_if (mt_cmp (mc_knotin gok C O.k_LENGTHS_kernel (me_var 3))) (mss_one (ms_ret (me_dead))) (mss_nil))
    (mss_cons (ms_if (mt_cmp (mc_ne gok C (me_blt (cl_len C) rl_len O.n_len bt_len (ma_cons (me_var 2) (ma_nil))) (me_kix gok C O.k_LENGTHS_kernel (me_var 3)))) (mss_one (ms_ret (me_globC C O.k_BAD_kernel))) (mss_nil))
    (mss_cons (ms_if (mt_cmp (mc_in gok C (me_var 3) (me_tup (ma_cons (me_str 11 rfl) (ma_cons (me_str 12 rfl) (ma_cons (me_str 13 rfl) (ma_cons (me_str 14 rfl) (ma_cons (me_str 15 rfl) (ma_cons (me_str 16 rfl) (ma_nil)))))))))) (mss_one (ms_ret (me_meth C (ok_Kernel__frames O) 9 rfl O.cl_Kernel O.M_Kernel__frames df_nil (by decide) O.b_Kernel__frames (me_var 0) (ma_cons (me_var 1) (ma_cons (me_var 2) (ma_nil)))))) (mss_nil))
    (mss_cons (ms_if (mt_cmp (mc_in gok C (me_var 3) (me_tup (ma_cons (me_str 17 rfl) (ma_cons (me_str 18 rfl) (ma_cons (me_str 19 rfl) (ma_cons (me_str 20 rfl) (ma_nil)))))))) (mss_one (ms_ret (me_meth C (ok_Kernel__pages O) 9 rfl O.cl_Kernel O.M_Kernel__pages df_nil (by decide) O.b_Kernel__pages (me_var 0) (ma_cons (me_var 1) (ma_cons (me_var 2) (ma_nil)))))) (mss_nil))
    (mss_cons (ms_if (mt_cmp (mc_in gok C (me_var 3) (me_tup (ma_cons (me_str 23 rfl) (ma_cons (me_str 24 rfl) (ma_cons (me_str 25 rfl) (ma_cons (me_str 26 rfl) (ma_nil)))))))) (mss_one (ms_ret (me_dead))) (mss_nil))
    (mss_one (ms_ret (me_dead)))))))))⟩
theorem sc_Stack_step : FnScope N_Stack_step ["self", "kernel", "environment"] (defScope s_Stack_step) := ⟨rfl, rfl, rfl, by decide +kernel, rfl, by decide +kernel, by decide +kernel⟩
theorem ok_Stack_step (O : TxOk w K mg T) : FnM (T.G K) P w mg base 8 T.f_Stack_step T.d_Stack_step ["self", "kernel", "environment"] m_Stack_step := by
  refine fn_m O.F_Stack_step sc_Stack_step rfl rfl (fun cdv A outer s H E C tk => ?_)
  exact ⟨_, mss_cons (ms_expr (me_meth0 C (ok_Stack__settle O) 10 rfl O.cl_Stack O.M_Stack__settle df_nil (by decide) O.b_Stack__settle (me_var 0)))
    (mss_cons (ms_if (mt_not (mt_tr C (me_fld gok C 10 rfl (me_var 0)))) (mss_one (ms_ret (me_bl))) (mss_nil))
    (mss_cons (ms_asg (me_ix gok C (me_fld gok C 10 rfl (me_var 0)) (me_neg (me_int))) (mg_name 3 C.nd))
    (mss_cons (ms_expr (me_alt (me_meth C (ok_Make_accept O) 14 rfl O.cl_Make O.M_Make_accept df_nil (by decide) O.b_Make_accept (me_var 3) (ma_cons (me_meth C (ok_Kernel_request O) 9 rfl O.cl_Kernel O.M_Kernel_request df_nil (by decide) O.b_Kernel_request (me_var 1) (ma_cons (me_var 2) (ma_cons (me_alt (me_meth0 C (ok_Make_request O) 14 rfl O.cl_Make O.M_Make_request df_nil (by decide) O.b_Make_request (me_var 3)) (me_alt (me_meth0 C (ok_Put_request O) 15 rfl O.cl_Put O.M_Put_request df_nil (by decide) O.b_Put_request (me_var 3)) (me_alt (me_meth0 C (ok_Take_request O) 16 rfl O.cl_Take O.M_Take_request df_nil (by decide) O.b_Take_request (me_var 3)) (me_meth0 C (ok_End_request O) 17 rfl O.cl_End O.M_End_request df_nil (by decide) O.b_End_request (me_var 3))))) (ma_nil)))) (ma_nil))) (me_alt (me_meth C (ok_Put_accept O) 15 rfl O.cl_Put O.M_Put_accept df_nil (by decide) O.b_Put_accept (me_var 3) (ma_cons (me_meth C (ok_Kernel_request O) 9 rfl O.cl_Kernel O.M_Kernel_request df_nil (by decide) O.b_Kernel_request (me_var 1) (ma_cons (me_var 2) (ma_cons (me_alt (me_meth0 C (ok_Make_request O) 14 rfl O.cl_Make O.M_Make_request df_nil (by decide) O.b_Make_request (me_var 3)) (me_alt (me_meth0 C (ok_Put_request O) 15 rfl O.cl_Put O.M_Put_request df_nil (by decide) O.b_Put_request (me_var 3)) (me_alt (me_meth0 C (ok_Take_request O) 16 rfl O.cl_Take O.M_Take_request df_nil (by decide) O.b_Take_request (me_var 3)) (me_meth0 C (ok_End_request O) 17 rfl O.cl_End O.M_End_request df_nil (by decide) O.b_End_request (me_var 3))))) (ma_nil)))) (ma_nil))) (me_alt (me_meth C (ok_Take_accept O) 16 rfl O.cl_Take O.M_Take_accept df_nil (by decide) O.b_Take_accept (me_var 3) (ma_cons (me_meth C (ok_Kernel_request O) 9 rfl O.cl_Kernel O.M_Kernel_request df_nil (by decide) O.b_Kernel_request (me_var 1) (ma_cons (me_var 2) (ma_cons (me_alt (me_meth0 C (ok_Make_request O) 14 rfl O.cl_Make O.M_Make_request df_nil (by decide) O.b_Make_request (me_var 3)) (me_alt (me_meth0 C (ok_Put_request O) 15 rfl O.cl_Put O.M_Put_request df_nil (by decide) O.b_Put_request (me_var 3)) (me_alt (me_meth0 C (ok_Take_request O) 16 rfl O.cl_Take O.M_Take_request df_nil (by decide) O.b_Take_request (me_var 3)) (me_meth0 C (ok_End_request O) 17 rfl O.cl_End O.M_End_request df_nil (by decide) O.b_End_request (me_var 3))))) (ma_nil)))) (ma_nil))) (me_meth C (ok_End_accept O) 17 rfl O.cl_End O.M_End_accept df_nil (by decide) O.b_End_accept (me_var 3) (ma_cons (me_meth C (ok_Kernel_request O) 9 rfl O.cl_Kernel O.M_Kernel_request df_nil (by decide) O.b_Kernel_request (me_var 1) (ma_cons (me_var 2) (ma_cons (me_alt (me_meth0 C (ok_Make_request O) 14 rfl O.cl_Make O.M_Make_request df_nil (by decide) O.b_Make_request (me_var 3)) (me_alt (me_meth0 C (ok_Put_request O) 15 rfl O.cl_Put O.M_Put_request df_nil (by decide) O.b_Put_request (me_var 3)) (me_alt (me_meth0 C (ok_Take_request O) 16 rfl O.cl_Take O.M_Take_request df_nil (by decide) O.b_Take_request (me_var 3)) (me_meth0 C (ok_End_request O) 17 rfl O.cl_End O.M_End_request df_nil (by decide) O.b_End_request (me_var 3))))) (ma_nil)))) (ma_nil)))))))
    (mss_cons (ms_expr (me_meth0 C (ok_Stack__settle O) 10 rfl O.cl_Stack O.M_Stack__settle df_nil (by decide) O.b_Stack__settle (me_var 0)))
    (mss_one (ms_ret (me_bl)))))))⟩
theorem sc_Stack_ended : FnScope N_Stack_ended ["self"] (defScope s_Stack_ended) := ⟨rfl, rfl, rfl, by decide +kernel, rfl, by decide +kernel, by decide +kernel⟩
theorem ok_Stack_ended (O : TxOk w K mg T) : FnM (T.G K) P w mg base 1 T.f_Stack_ended T.d_Stack_ended ["self"] m_Stack_ended := by
  refine fn_m O.F_Stack_ended sc_Stack_ended rfl rfl (fun cdv A outer s H E C tk => ?_)
  exact ⟨_, mss_one (ms_ret (me_notT C (me_fld gok C 10 rfl (me_var 0))))⟩
theorem sc_Stack_value : FnScope N_Stack_value ["self"] (defScope s_Stack_value) := ⟨rfl, rfl, rfl, by decide +kernel, rfl, by decide +kernel, by decide +kernel⟩
theorem ok_Stack_value (O : TxOk w K mg T) : FnM (T.G K) P w mg base 1 T.f_Stack_value T.d_Stack_value ["self"] m_Stack_value := by
  refine fn_m O.F_Stack_value sc_Stack_value rfl rfl (fun cdv A outer s H E C tk => ?_)
  exact ⟨_, mss_one (ms_ret (me_fld gok C 11 rfl (me_var 0)))⟩
theorem sc__law_run : FnScope N__law_run ["_law_kernel_here", "_law_machine"] (defScope s__law_run) := ⟨rfl, rfl, rfl, by decide +kernel, rfl, by decide +kernel, by decide +kernel⟩
theorem ok__law_run (O : TxOk w K mg T) : FnM (T.G K) P w mg base 9 T.f__law_run T.d__law_run ["_law_kernel_here", "_law_machine"] m__law_run := by
  refine fn_m O.F__law_run sc__law_run rfl rfl (fun cdv A outer s H E C tk => ?_)
  exact ⟨_, mss_cons (ms_asg (me_make C (ok_Stack___init__ O) 10 rfl O.cl_Stack O.mk_Stack df_nil (by decide) O.gc_Stack O.b_Stack___init__ (ma_cons (me_var 1) (ma_nil))) (mg_name 2 C.nd))
    (mss_cons (ms_for C (mi_rng1 O.n_range (ma_cons (me_int) (ma_nil))) (mg_name 3 C.nd) (mss_cons (ms_if (mt_not (mt_tr C (me_meth C (ok_Stack_step O) 10 rfl O.cl_Stack O.M_Stack_step df_nil (by decide) O.b_Stack_step (me_var 2) (ma_cons (me_var 0) (ma_cons (me_int) (ma_nil)))))) (mss_one (ms_break)) (mss_nil))
    (mss_one (ms_if (mt_tr C (me_meth0 C (ok_Stack_ended O) 10 rfl O.cl_Stack O.M_Stack_ended df_nil (by decide) O.b_Stack_ended (me_var 2))) (mss_one (ms_break)) (mss_nil)))))
    (mss_one (ms_ret (me_meth0 C (ok_Stack_value O) 10 rfl O.cl_Stack O.M_Stack_value df_nil (by decide) O.b_Stack_value (me_var 2)))))⟩
theorem sc_Pipes_least : FnScope N_Pipes_least ["self"] (defScope s_Pipes_least) := ⟨rfl, rfl, rfl, by decide +kernel, rfl, by decide +kernel, by decide +kernel⟩
theorem ok_Pipes_least (O : TxOk w K mg T) : FnM (T.G K) P w mg base 1 T.f_Pipes_least T.d_Pipes_least ["self"] m_Pipes_least := by
  refine fn_m O.F_Pipes_least sc_Pipes_least rfl rfl (fun cdv A outer s H E C tk => ?_)
  exact ⟨_, mss_cons (ms_for C (mi_rng1 O.n_range (ma_cons (me_glob 4 O.k_MOST_pipes) (ma_nil))) (mg_name 1 C.nd) (mss_one (ms_if (mt_cmp (mc_notin gok C (me_var 1) (me_fld gok C 29 rfl (me_var 0)))) (mss_one (ms_ret (me_var 1))) (mss_nil))))
    (mss_one (ms_ret (me_non)))⟩
theorem sc_Memory_held : FnScope N_Memory_held ["self"] (defScope s_Memory_held) := ⟨rfl, rfl, rfl, by decide +kernel, rfl, by decide +kernel, by decide +kernel⟩
theorem ok_Memory_held (O : TxOk w K mg T) : FnM (T.G K) P w mg base 1 T.f_Memory_held T.d_Memory_held ["self"] m_Memory_held := by
  refine fn_m O.F_Memory_held sc_Memory_held rfl rfl (fun cdv A outer s H E C tk => ?_)
  exact ⟨_, mss_cons (ms_asg (me_lst (ma_nil)) (mg_name 1 C.nd))
    (mss_cons (ms_for C (mi_alt (mi_lst C (me_fld gok C 38 rfl (me_var 0))) (mi_tup C (me_fld gok C 38 rfl (me_var 0)))) (mg_name 2 C.nd) (mss_one (ms_for C (mi_alt (mi_lst C (me_var 2)) (mi_tup C (me_var 2))) (mg_name 3 C.nd) (mss_one (ms_if (mt_cmp (mc_notin gok C (me_var 3) (me_var 1))) (mss_one (ms_expr (me_bm C PySem.F.slot_list_append PySem.F.type_list_append mt_append rm_append (me_var 1) (ma_cons (me_var 3) (ma_nil))))) (mss_nil))))))
    (mss_one (ms_ret (me_add C (me_blt (cl_len C) rl_len O.n_len bt_len (ma_cons (me_var 1) (ma_nil))) (me_fld gok C 39 rfl (me_var 0))))))⟩
theorem sc_Memory_is_full : FnScope N_Memory_is_full ["self"] (defScope s_Memory_is_full) := ⟨rfl, rfl, rfl, by decide +kernel, rfl, by decide +kernel, by decide +kernel⟩
theorem ok_Memory_is_full (O : TxOk w K mg T) : FnM (T.G K) P w mg base 2 T.f_Memory_is_full T.d_Memory_is_full ["self"] m_Memory_is_full := by
  refine fn_m O.F_Memory_is_full sc_Memory_is_full rfl rfl (fun cdv A outer s H E C tk => ?_)
  exact ⟨_, mss_one (ms_ret (me_cmp (mc_ge (me_meth0 C (ok_Memory_held O) 12 rfl O.cl_Memory O.M_Memory_held df_nil (by decide) O.b_Memory_held (me_var 0)) (me_fld gok C 37 rfl (me_var 0)))))⟩
theorem sc_Make___init__ : FnScope N_Make___init__ ["self", "pipes"] (defScope s_Make___init__) := ⟨rfl, rfl, rfl, by decide +kernel, rfl, by decide +kernel, by decide +kernel⟩
theorem ok_Make___init__ (O : TxOk w K mg T) : FnM (T.G K) P w mg base 3 T.f_Make___init__ T.d_Make___init__ ["self", "pipes"] m_Make___init__ := by
  refine fn_m O.F_Make___init__ sc_Make___init__ rfl rfl (fun cdv A outer s H E C tk => ?_)
  exact ⟨_, mss_cons (ms_fld gok C 14 41 rfl rfl O.na_Make_pipes (me_var 0) (me_var 1))
    (mss_cons (ms_fld gok C 14 42 rfl rfl O.na_Make_pipe (me_var 0) (me_meth0 C (ok_Pipes_least O) 13 rfl O.cl_Pipes O.M_Pipes_least df_nil (by decide) O.b_Pipes_least (me_var 1)))
    (mss_cons (ms_fld gok C 14 43 rfl rfl O.na_Make_stage (me_var 0) (me_str 11 rfl))
    (mss_cons (ms_fld gok C 14 6 rfl rfl O.na_Make_wanted (me_var 0) (me_tup (ma_cons (me_str 11 rfl) (ma_nil))))
    (mss_one (ms_if ((mw_or (mt_cmp (mc_isN (me_fld gok C 42 rfl (me_var 0)))) (mw_or1 (mt_tr C (me_meth0 C (ok_Memory_is_full O) 12 rfl O.cl_Memory O.M_Memory_is_full df_nil (by decide) O.b_Memory_is_full (me_fld gok C 40 rfl (me_var 1)))))).mt) (mss_one (ms_fld gok C 14 6 rfl rfl O.na_Make_wanted (me_var 0) (me_tup (ma_cons (me_str 5 rfl) (ma_cons (me_non) (ma_nil)))))) (mss_nil))))))⟩
theorem sc_Pipes_is_there : FnScope N_Pipes_is_there ["self", "pipe"] (defScope s_Pipes_is_there) := ⟨rfl, rfl, rfl, by decide +kernel, rfl, by decide +kernel, by decide +kernel⟩
theorem ok_Pipes_is_there (O : TxOk w K mg T) : FnM (T.G K) P w mg base 1 T.f_Pipes_is_there T.d_Pipes_is_there ["self", "pipe"] m_Pipes_is_there := by
  refine fn_m O.F_Pipes_is_there sc_Pipes_is_there rfl rfl (fun cdv A outer s H E C tk => ?_)
  exact ⟨_, mss_one (ms_ret (me_cmp (mc_in gok C (me_var 1) (me_fld gok C 29 rfl (me_var 0)))))⟩
theorem sc_Put___init__ : FnScope N_Put___init__ ["self", "pipes", "pipe", "word"] (defScope s_Put___init__) := ⟨rfl, rfl, rfl, by decide +kernel, rfl, by decide +kernel, by decide +kernel⟩
theorem ok_Put___init__ (O : TxOk w K mg T) : FnM (T.G K) P w mg base 2 T.f_Put___init__ T.d_Put___init__ ["self", "pipes", "pipe", "word"] m_Put___init__ := by
  refine fn_m O.F_Put___init__ sc_Put___init__ rfl rfl (fun cdv A outer s H E C tk => ?_)
  exact ⟨_, mss_cons (ms_fld gok C 15 41 rfl rfl O.na_Put_pipes (me_var 0) (me_var 1))
    (mss_cons (ms_fld gok C 15 42 rfl rfl O.na_Put_pipe (me_var 0) (me_var 2))
    (mss_cons (ms_asg (me_meth C (ok_Pipes_size O) 13 rfl O.cl_Pipes O.M_Pipes_size df_nil (by decide) O.b_Pipes_size (me_var 1) (ma_cons (me_var 2) (ma_nil))) (mg_name 4 C.nd))
    (mss_cons (ms_fld gok C 15 6 rfl rfl O.na_Put_wanted (me_var 0) (me_tup (ma_cons (me_str 5 rfl) (ma_cons (me_bl) (ma_nil)))))
    (mss_one (ms_if (mt_cmp (mc_lt (me_var 4) (me_glob 8 O.k_WORDS))) (mss_cons (ms_asg (me_mod (me_add C (me_meth C (ok_Pipes_head O) 13 rfl O.cl_Pipes O.M_Pipes_head df_nil (by decide) O.b_Pipes_head (me_var 1) (ma_cons (me_var 2) (ma_nil))) (me_var 4)) (me_glob 8 O.k_WORDS)) (mg_name 5 C.nd))
    (mss_one (ms_fld gok C 15 6 rfl rfl O.na_Put_wanted (me_var 0) (me_tup (ma_cons (me_str 20 rfl) (ma_cons (me_add C (me_glob 24 O.k_FIRST_PAGE) (me_var 2)) (ma_cons (me_var 5) (ma_cons (me_var 3) (ma_nil))))))))) (mss_nil))))))⟩
theorem sc_Take___init__ : FnScope N_Take___init__ ["self", "pipes", "pipe"] (defScope s_Take___init__) := ⟨rfl, rfl, rfl, by decide +kernel, rfl, by decide +kernel, by decide +kernel⟩
theorem ok_Take___init__ (O : TxOk w K mg T) : FnM (T.G K) P w mg base 2 T.f_Take___init__ T.d_Take___init__ ["self", "pipes", "pipe"] m_Take___init__ := by
  refine fn_m O.F_Take___init__ sc_Take___init__ rfl rfl (fun cdv A outer s H E C tk => ?_)
  exact ⟨_, mss_cons (ms_fld gok C 16 41 rfl rfl O.na_Take_pipes (me_var 0) (me_var 1))
    (mss_cons (ms_fld gok C 16 42 rfl rfl O.na_Take_pipe (me_var 0) (me_var 2))
    (mss_cons (ms_fld gok C 16 6 rfl rfl O.na_Take_wanted (me_var 0) (me_tup (ma_cons (me_str 5 rfl) (ma_cons (me_non) (ma_nil)))))
    (mss_one (ms_if (mt_cmp (mc_gt (me_meth C (ok_Pipes_size O) 13 rfl O.cl_Pipes O.M_Pipes_size df_nil (by decide) O.b_Pipes_size (me_var 1) (ma_cons (me_var 2) (ma_nil))) (me_int))) (mss_one (ms_fld gok C 16 6 rfl rfl O.na_Take_wanted (me_var 0) (me_tup (ma_cons (me_str 19 rfl) (ma_cons (me_add C (me_glob 24 O.k_FIRST_PAGE) (me_var 2)) (ma_cons (me_meth C (ok_Pipes_head O) 13 rfl O.cl_Pipes O.M_Pipes_head df_nil (by decide) O.b_Pipes_head (me_var 1) (ma_cons (me_var 2) (ma_nil))) (ma_nil))))))) (mss_nil)))))⟩
theorem sc_End___init__ : FnScope N_End___init__ ["self", "pipes", "pipe"] (defScope s_End___init__) := ⟨rfl, rfl, rfl, by decide +kernel, rfl, by decide +kernel, by decide +kernel⟩
theorem ok_End___init__ (O : TxOk w K mg T) : FnM (T.G K) P w mg base 2 T.f_End___init__ T.d_End___init__ ["self", "pipes", "pipe"] m_End___init__ := by
  refine fn_m O.F_End___init__ sc_End___init__ rfl rfl (fun cdv A outer s H E C tk => ?_)
  exact ⟨_, mss_cons (ms_fld gok C 17 41 rfl rfl O.na_End_pipes (me_var 0) (me_var 1))
    (mss_cons (ms_fld gok C 17 42 rfl rfl O.na_End_pipe (me_var 0) (me_var 2))
    (mss_cons (ms_fld gok C 17 44 rfl rfl O.na_End_frame (me_var 0) (me_meth C (ok_Pipes_frame O) 13 rfl O.cl_Pipes O.M_Pipes_frame df_nil (by decide) O.b_Pipes_frame (me_var 1) (ma_cons (me_var 2) (ma_nil))))
    (mss_cons (ms_fld gok C 17 43 rfl rfl O.na_End_stage (me_var 0) (me_str 18 rfl))
    (mss_one (ms_fld gok C 17 6 rfl rfl O.na_End_wanted (me_var 0) (me_tup (ma_cons (me_str 18 rfl) (ma_cons (me_add C (me_glob 24 O.k_FIRST_PAGE) (me_var 2)) (ma_nil)))))))))⟩
theorem sc_law : FnScope N_law ["_law_script"] (defScope s_law) := ⟨rfl, rfl, rfl, by decide +kernel, rfl, by decide +kernel, by decide +kernel⟩
theorem ok_law (O : TxOk w K mg T) : FnM (T.G K) P w mg base 10 T.f_law T.d_law ["_law_script"] m_law := by
  refine fn_m O.F_law sc_law rfl rfl (fun cdv A outer s H E C tk => ?_)
  exact ⟨_, mss_cons (ms_asg (me_lst (ma_cons (me_bty (cl_list C) rl_list O.n_list bt_list (ma_cons (me_var 0) (ma_nil))) (ma_cons (me_int) (ma_cons (me_int) (ma_cons (me_int) (ma_nil)))))) (mg_name 1 C.nd))
    (mss_cons (ms_asg (me_add C (me_int) (me_call C (ok__law_next O) df_nil (by decide) O.g__law_next O.F__law_next.kp O.b__law_next (ma_cons (me_var 1) (ma_cons (me_int) (ma_nil))))) (mg_name 2 C.nd))
    (mss_cons (ms_asg (me_call C (ok__law_kernel O) df_nil (by decide) O.g__law_kernel O.F__law_kernel.kp O.b__law_kernel (ma_cons (me_int) (ma_cons (me_var 2) (ma_nil)))) (mg_name 3 C.nd))
    (mss_cons (ms_asg (me_make C (ok_Memory___init__ O) 12 rfl O.cl_Memory O.mk_Memory df_nil (by decide) O.gc_Memory O.b_Memory___init__ (ma_cons (me_var 2) (ma_nil))) (mg_name 4 C.nd))
    (mss_cons (ms_asg (me_make C (ok_Pipes___init__ O) 13 rfl O.cl_Pipes O.mk_Pipes df_nil (by decide) O.gc_Pipes O.b_Pipes___init__ (ma_cons (me_var 4) (ma_nil))) (mg_name 5 C.nd))
    (mss_cons (ms_asg (me_dict) (mg_name 6 C.nd))
    (mss_cons (ms_asg (me_dict) (mg_name 7 C.nd))
    (mss_cons (ms_for C (mi_rng1 O.n_range (ma_cons (me_call C (ok__law_next O) df_nil (by decide) O.g__law_next O.F__law_next.kp O.b__law_next (ma_cons (me_var 1) (ma_cons (me_ix gok C (me_lst (ma_cons (me_int) (ma_cons (me_int) (ma_nil)))) (me_call C (ok__law_next O) df_nil (by decide) O.g__law_next O.F__law_next.kp O.b__law_next (ma_cons (me_var 1) (ma_cons (me_int) (ma_nil))))) (ma_nil)))) (ma_nil))) (mg_name 8 C.nd) (mss_cons (ms_asg (me_call C (ok__law_next O) df_nil (by decide) O.g__law_next O.F__law_next.kp O.b__law_next (ma_cons (me_var 1) (ma_cons (me_int) (ma_nil)))) (mg_name 9 C.nd))
    (mss_cons (ms_asg (me_call C (ok__law_next O) df_nil (by decide) O.g__law_next O.F__law_next.kp O.b__law_next (ma_cons (me_var 1) (ma_cons (me_int) (ma_nil)))) (mg_name 10 C.nd))
    (mss_cons (ms_asg (me_non) (mg_name 11 C.nd))
    (mss_cons (ms_if (mt_cmp (mc_eq gok C (me_var 9) (me_int))) (mss_cons (ms_setLc 12 [("_law_one", 15)] C (mi_rng1 O.n_range (ma_cons (me_int) (ma_nil))) (blkOk_by (N := N_law) (sc := defScope s_law) (by decide +kernel)) (fun _ _ _ _ _ C => mg_name 15 C.nd) (fun _ _ _ _ _ C => mts_one (mt_cmp (mc_notin gok C (me_var 15) (me_var 6)))) (fun _ _ _ _ _ C => me_var 15) (tgw_name (by decide)) (sw_true rfl rfl rfl (by decide +kernel)))
    (mss_cons (ms_if ((mw_and (mt_tr C (me_var 12)) (mw_and1 (mt_cmp (mc_lt (me_blt (cl_len C) rl_len O.n_len bt_len (ma_cons (me_var 6) (ma_nil))) (me_var 2))))).mt) (mss_cons (ms_asg (me_ix gok C (me_var 12) (me_int)) (mg_name 11 C.nd))
    (mss_cons (ms_sub gok C (me_var 6) (me_var 11) (me_lst (ma_nil)))
    (mss_one (ms_sub gok C (me_var 7) (me_var 11) (me_int))))) (mss_nil))
    (mss_one (ms_asg (me_call C (ok__law_run O) df_nil (by decide) O.g__law_run O.F__law_run.kp O.b__law_run (ma_cons (me_var 3) (ma_cons (me_make C (ok_Make___init__ O) 14 rfl O.cl_Make O.mk_Make df_nil (by decide) O.gc_Make O.b_Make___init__ (ma_cons (me_var 5) (ma_nil))) (ma_nil)))) (mg_name 13 C.nd))))) (mss_one (ms_if (mt_cmp (mc_notin gok C (me_var 10) (me_var 6))) (mss_cons (ms_if (mt_tr C (me_meth C (ok_Pipes_is_there O) 13 rfl O.cl_Pipes O.M_Pipes_is_there df_nil (by decide) O.b_Pipes_is_there (me_var 5) (ma_cons (me_var 10) (ma_nil)))) (mss_one (ms_ret (me_bl))) (mss_nil))
    (mss_one (ms_continue))) (mss_one (ms_if (mt_cmp (mc_lt (me_var 9) (me_int))) (mss_cons (ms_asg (me_call C (ok__law_next O) df_nil (by decide) O.g__law_next O.F__law_next.kp O.b__law_next (ma_cons (me_var 1) (ma_cons (me_int) (ma_nil)))) (mg_name 14 C.nd))
    (mss_cons (ms_asg (me_cmp (mc_lt (me_blt (cl_len C) rl_len O.n_len bt_len (ma_cons (me_ix gok C (me_var 6) (me_var 10)) (ma_nil))) (me_int))) (mg_name 11 C.nd))
    (mss_cons (ms_if (mt_tr C (me_var 11)) (mss_one (ms_expr (me_bm C PySem.F.slot_list_append PySem.F.type_list_append mt_append rm_append (me_ix gok C (me_var 6) (me_var 10)) (ma_cons (me_var 14) (ma_nil))))) (mss_nil))
    (mss_one (ms_asg (me_call C (ok__law_run O) df_nil (by decide) O.g__law_run O.F__law_run.kp O.b__law_run (ma_cons (me_var 3) (ma_cons (me_make C (ok_Put___init__ O) 15 rfl O.cl_Put O.mk_Put df_nil (by decide) O.gc_Put O.b_Put___init__ (ma_cons (me_var 5) (ma_cons (me_var 10) (ma_cons (me_var 14) (ma_nil))))) (ma_nil)))) (mg_name 13 C.nd)))))) (mss_one (ms_if (mt_cmp (mc_lt (me_var 9) (me_int))) (mss_cons (ms_if (mt_tr C (me_ix gok C (me_var 6) (me_var 10))) (mss_cons (ms_asg (me_bm C PySem.F.slot_list_pop PySem.F.type_list_pop mt_popAt rm_popAt (me_ix gok C (me_var 6) (me_var 10)) (ma_cons (me_int) (ma_nil))) (mg_name 11 C.nd))
    (mss_one (ms_sub gok C (me_var 7) (me_var 10) (me_mod (me_add C (me_ix gok C (me_var 7) (me_var 10)) (me_int)) (me_int))))) (mss_nil))
    (mss_one (ms_asg (me_call C (ok__law_run O) df_nil (by decide) O.g__law_run O.F__law_run.kp O.b__law_run (ma_cons (me_var 3) (ma_cons (me_make C (ok_Take___init__ O) 16 rfl O.cl_Take O.mk_Take df_nil (by decide) O.gc_Take O.b_Take___init__ (ma_cons (me_var 5) (ma_cons (me_var 10) (ma_nil)))) (ma_nil)))) (mg_name 13 C.nd)))) (mss_cons (ms_expr (me_pop1 gok (me_var 6) (me_var 10)))
    (mss_one (ms_asg (me_call C (ok__law_run O) df_nil (by decide) O.g__law_run O.F__law_run.kp O.b__law_run (ma_cons (me_var 3) (ma_cons (me_make C (ok_End___init__ O) 17 rfl O.cl_End O.mk_End df_nil (by decide) O.gc_End O.b_End___init__ (ma_cons (me_var 5) (ma_cons (me_var 10) (ma_nil)))) (ma_nil)))) (mg_name 13 C.nd)))))))))))
    (mss_cons (ms_if ((mw_or (mt_cmp (mc_ne gok C (me_var 13) (me_var 11))) (mw_or (mt_cmp (mc_ne gok C (me_meth0 C (ok_Memory_held O) 12 rfl O.cl_Memory O.M_Memory_held df_nil (by decide) O.b_Memory_held (me_var 4)) (me_blt (cl_len C) rl_len O.n_len bt_len (ma_cons (me_var 6) (ma_nil))))) (mw_or1 (mt_cmp (mc_ne gok C (me_meth C (ok_Frames_charge O) 0 rfl O.cl_Frames O.M_Frames_charge df_nil (by decide) O.b_Frames_charge (me_fld gok C 8 rfl (me_var 3)) (ma_cons (me_int) (ma_nil))) (me_blt (cl_len C) rl_len O.n_len bt_len (ma_cons (me_var 6) (ma_nil)))))))).mt) (mss_one (ms_ret (me_bl))) (mss_nil))
    (mss_one (ms_forD C (me_var 6) (mg_name 15 C.nd) (mss_cons (ms_if ((mw_or (mt_not (mt_tr C (me_meth C (ok_Pipes_is_there O) 13 rfl O.cl_Pipes O.M_Pipes_is_there df_nil (by decide) O.b_Pipes_is_there (me_var 5) (ma_cons (me_var 15) (ma_nil))))) (mw_or1 (mt_cmp (mc_ne gok C (me_meth C (ok_Pipes_size O) 13 rfl O.cl_Pipes O.M_Pipes_size df_nil (by decide) O.b_Pipes_size (me_var 5) (ma_cons (me_var 15) (ma_nil))) (me_blt (cl_len C) rl_len O.n_len bt_len (ma_cons (me_ix gok C (me_var 6) (me_var 15)) (ma_nil))))))).mt) (mss_one (ms_ret (me_bl))) (mss_nil))
    (mss_cons (ms_setLc 16 [("_law_k", 17)] C (mi_rng1 O.n_range (ma_cons (me_blt (cl_len C) rl_len O.n_len bt_len (ma_cons (me_ix gok C (me_var 6) (me_var 15)) (ma_nil))) (ma_nil))) (blkOk_by (N := N_law) (sc := defScope s_law) (by decide +kernel)) (fun _ _ _ _ _ C => mg_name 17 C.nd) (fun _ _ _ _ _ C => mts_nil) (fun _ _ _ _ _ C => me_meth C (ok_Pages_load O) 1 rfl O.cl_Pages O.M_Pages_load df_nil (by decide) O.b_Pages_load (me_fld gok C 35 rfl (me_var 3)) (ma_cons (me_int) (ma_cons (me_add C (me_int) (me_var 15)) (ma_cons (me_mod (me_add C (me_ix gok C (me_var 7) (me_var 15)) (me_var 17)) (me_int)) (ma_nil))))) (tgw_name (by decide)) (sw_true rfl rfl rfl (by decide +kernel)))
    (mss_one (ms_if (mt_cmp (mc_ne gok C (me_var 16) (me_ix gok C (me_var 6) (me_var 15)))) (mss_one (ms_ret (me_bl))) (mss_nil)))))))))))))
    (mss_one (ms_ret (me_bl))))))))))⟩
end
end Lw

set_option maxHeartbeats 0
namespace Lw
open PySem L2 PyM
theorem facts {P : Program} {w : World} {K : PySem.W.Frag} {h : PySem.Heap} {mg : Str → Option Value} {f : Addr} (X : K.In h) (G : h.Ns mainGlobals mg) (hfa : mg "law" = some (.ref f)) (c : He.SaysT eFa eFn eTs w K) (cx : eX K = true) :
    ∃ fd : FuncData, (∀ (s : Shared) (v : Value), BindsTo s fd ⟨[v], []⟩ [("_law_script", v)]) ∧ ∀ base : PySem.Heap, K.In base → base.Ns mainGlobals mg → FnOk P w K mg base (L2.CX P w) 10 f fd ["_law_script"] (spLaw K) := by
  unfold eX at cx
  obtain ⟨ex0, cx⟩ := He.ba cx
  obtain ⟨ex1, cx⟩ := He.ba cx
  obtain ⟨ex2, cx⟩ := He.ba cx
  have ex3 := cx
  obtain ⟨d0, F0⟩ := c.d.def_ 0 (d := ⟨("_law_next", none), "_law_next", "_law_next", defArgs s__law_next, defBody s__law_next, defScope s__law_next, [], []⟩) rfl
  obtain ⟨d1, F1⟩ := c.d.def_ 1 (d := ⟨("is_number", none), "is_number", "is_number", defArgs s_is_number, defBody s_is_number, defScope s_is_number, [], []⟩) rfl
  obtain ⟨d2, F2⟩ := c.d.def_ 2 (d := ⟨("is_environment", none), "is_environment", "is_environment", defArgs s_is_environment, defBody s_is_environment, defScope s_is_environment, [], []⟩) rfl
  obtain ⟨d3, F3⟩ := c.d.def_ 3 (d := ⟨("Slices", some "_step"), "_step", "Slices._step", defArgs s_Slices__step, defBody s_Slices__step, defScope s_Slices__step, [], []⟩) rfl
  obtain ⟨d4, F4⟩ := c.d.def_ 4 (d := ⟨("Slices", some "_find"), "_find", "Slices._find", defArgs s_Slices__find, defBody s_Slices__find, defScope s_Slices__find, [], []⟩) rfl
  obtain ⟨d5, F5⟩ := c.d.def_ 5 (d := ⟨("Slices", some "__init__"), "__init__", "Slices.__init__", defArgs s_Slices___init__, defBody s_Slices___init__, defScope s_Slices___init__, [], []⟩) rfl
  obtain ⟨d6, F6⟩ := c.d.def_ 6 (d := ⟨("Frames", some "__init__"), "__init__", "Frames.__init__", defArgs s_Frames___init__, defBody s_Frames___init__, defScope s_Frames___init__, [], []⟩) rfl
  obtain ⟨d7, F7⟩ := c.d.def_ 7 (d := ⟨("Pages", some "__init__"), "__init__", "Pages.__init__", defArgs s_Pages___init__, defBody s_Pages___init__, defScope s_Pages___init__, [], []⟩) rfl
  obtain ⟨d8, F8⟩ := c.d.def_ 8 (d := ⟨("Net", some "__init__"), "__init__", "Net.__init__", defArgs s_Net___init__, defBody s_Net___init__, defScope s_Net___init__, [], []⟩) rfl
  obtain ⟨d9, F9⟩ := c.d.def_ 9 (d := ⟨("Types", some "__init__"), "__init__", "Types.__init__", defArgs s_Types___init__, defBody s_Types___init__, defScope s_Types___init__, [], []⟩) rfl
  obtain ⟨d10, F10⟩ := c.d.def_ 10 (d := ⟨("Types", some "owned"), "owned", "Types.owned", defArgs s_Types_owned, defBody s_Types_owned, defScope s_Types_owned, [], []⟩) rfl
  obtain ⟨d11, F11⟩ := c.d.def_ 11 (d := ⟨("Disk", some "words"), "words", "Disk.words", defArgs s_Disk_words, defBody s_Disk_words, defScope s_Disk_words, [], []⟩) rfl
  obtain ⟨d12, F12⟩ := c.d.def_ 12 (d := ⟨("Blocks", some "forest"), "forest", "Blocks.forest", defArgs s_Blocks_forest, defBody s_Blocks_forest, defScope s_Blocks_forest, [], []⟩) rfl
  obtain ⟨d13, F13⟩ := c.d.def_ 13 (d := ⟨("Blocks", some "lasting_forest"), "lasting_forest", "Blocks.lasting_forest", defArgs s_Blocks_lasting_forest, defBody s_Blocks_lasting_forest, defScope s_Blocks_lasting_forest, [], []⟩) rfl
  obtain ⟨d14, F14⟩ := c.d.def_ 14 (d := ⟨("Blocks", some "__init__"), "__init__", "Blocks.__init__", defArgs s_Blocks___init__, defBody s_Blocks___init__, defScope s_Blocks___init__, [.non], []⟩) rfl
  obtain ⟨d15, F15⟩ := c.d.def_ 15 (d := ⟨("Kernel", some "__init__"), "__init__", "Kernel.__init__", defArgs s_Kernel___init__, defBody s_Kernel___init__, defScope s_Kernel___init__, [], []⟩) rfl
  obtain ⟨d16, F16⟩ := c.d.def_ 16 (d := ⟨("Disk", some "__init__"), "__init__", "Disk.__init__", defArgs s_Disk___init__, defBody s_Disk___init__, defScope s_Disk___init__, [], []⟩) rfl
  obtain ⟨d17, F17⟩ := c.d.def_ 17 (d := ⟨("_law_kernel", none), "_law_kernel", "_law_kernel", defArgs s__law_kernel, defBody s__law_kernel, defScope s__law_kernel, [], []⟩) rfl
  obtain ⟨d18, F18⟩ := c.d.def_ 18 (d := ⟨("Memory", some "__init__"), "__init__", "Memory.__init__", defArgs s_Memory___init__, defBody s_Memory___init__, defScope s_Memory___init__, [], []⟩) rfl
  obtain ⟨d19, F19⟩ := c.d.def_ 19 (d := ⟨("Pipes", some "__init__"), "__init__", "Pipes.__init__", defArgs s_Pipes___init__, defBody s_Pipes___init__, defScope s_Pipes___init__, [], []⟩) rfl
  obtain ⟨d20, F20⟩ := c.d.def_ 20 (d := ⟨("Stack", some "__init__"), "__init__", "Stack.__init__", defArgs s_Stack___init__, defBody s_Stack___init__, defScope s_Stack___init__, [], []⟩) rfl
  obtain ⟨d21, F21⟩ := c.d.def_ 21 (d := ⟨("Make", some "request"), "request", "Make.request", defArgs s_Make_request, defBody s_Make_request, defScope s_Make_request, [], []⟩) rfl
  obtain ⟨d22, F22⟩ := c.d.def_ 22 (d := ⟨("Put", some "request"), "request", "Put.request", defArgs s_Put_request, defBody s_Put_request, defScope s_Put_request, [], []⟩) rfl
  obtain ⟨d23, F23⟩ := c.d.def_ 23 (d := ⟨("Take", some "request"), "request", "Take.request", defArgs s_Take_request, defBody s_Take_request, defScope s_Take_request, [], []⟩) rfl
  obtain ⟨d24, F24⟩ := c.d.def_ 24 (d := ⟨("End", some "request"), "request", "End.request", defArgs s_End_request, defBody s_End_request, defScope s_End_request, [], []⟩) rfl
  obtain ⟨d25, F25⟩ := c.d.def_ 25 (d := ⟨("Memory", some "note_taken"), "note_taken", "Memory.note_taken", defArgs s_Memory_note_taken, defBody s_Memory_note_taken, defScope s_Memory_note_taken, [], []⟩) rfl
  obtain ⟨d26, F26⟩ := c.d.def_ 26 (d := ⟨("Pipes", some "note"), "note", "Pipes.note", defArgs s_Pipes_note, defBody s_Pipes_note, defScope s_Pipes_note, [], []⟩) rfl
  obtain ⟨d27, F27⟩ := c.d.def_ 27 (d := ⟨("Make", some "accept"), "accept", "Make.accept", defArgs s_Make_accept, defBody s_Make_accept, defScope s_Make_accept, [], []⟩) rfl
  obtain ⟨d28, F28⟩ := c.d.def_ 28 (d := ⟨("Pipes", some "frame"), "frame", "Pipes.frame", defArgs s_Pipes_frame, defBody s_Pipes_frame, defScope s_Pipes_frame, [], []⟩) rfl
  obtain ⟨d29, F29⟩ := c.d.def_ 29 (d := ⟨("Pipes", some "head"), "head", "Pipes.head", defArgs s_Pipes_head, defBody s_Pipes_head, defScope s_Pipes_head, [], []⟩) rfl
  obtain ⟨d30, F30⟩ := c.d.def_ 30 (d := ⟨("Pipes", some "size"), "size", "Pipes.size", defArgs s_Pipes_size, defBody s_Pipes_size, defScope s_Pipes_size, [], []⟩) rfl
  obtain ⟨d31, F31⟩ := c.d.def_ 31 (d := ⟨("Put", some "accept"), "accept", "Put.accept", defArgs s_Put_accept, defBody s_Put_accept, defScope s_Put_accept, [], []⟩) rfl
  obtain ⟨d32, F32⟩ := c.d.def_ 32 (d := ⟨("Take", some "accept"), "accept", "Take.accept", defArgs s_Take_accept, defBody s_Take_accept, defScope s_Take_accept, [], []⟩) rfl
  obtain ⟨d33, F33⟩ := c.d.def_ 33 (d := ⟨("Memory", some "note_dropped"), "note_dropped", "Memory.note_dropped", defArgs s_Memory_note_dropped, defBody s_Memory_note_dropped, defScope s_Memory_note_dropped, [], []⟩) rfl
  obtain ⟨d34, F34⟩ := c.d.def_ 34 (d := ⟨("Pipes", some "forget"), "forget", "Pipes.forget", defArgs s_Pipes_forget, defBody s_Pipes_forget, defScope s_Pipes_forget, [], []⟩) rfl
  obtain ⟨d35, F35⟩ := c.d.def_ 35 (d := ⟨("End", some "accept"), "accept", "End.accept", defArgs s_End_accept, defBody s_End_accept, defScope s_End_accept, [], []⟩) rfl
  obtain ⟨d36, F36⟩ := c.d.def_ 36 (d := ⟨("Stack", some "_settle"), "_settle", "Stack._settle", defArgs s_Stack__settle, defBody s_Stack__settle, defScope s_Stack__settle, [], []⟩) rfl
  obtain ⟨d37, F37⟩ := c.d.def_ 37 (d := ⟨("Frames", some "holdings"), "holdings", "Frames.holdings", defArgs s_Frames_holdings, defBody s_Frames_holdings, defScope s_Frames_holdings, [], []⟩) rfl
  obtain ⟨d38, F38⟩ := c.d.def_ 38 (d := ⟨("Frames", some "free"), "free", "Frames.free", defArgs s_Frames_free, defBody s_Frames_free, defScope s_Frames_free, [], []⟩) rfl
  obtain ⟨d39, F39⟩ := c.d.def_ 39 (d := ⟨("Frames", some "charge"), "charge", "Frames.charge", defArgs s_Frames_charge, defBody s_Frames_charge, defScope s_Frames_charge, [], []⟩) rfl
  obtain ⟨d40, F40⟩ := c.d.def_ 40 (d := ⟨("Frames", some "share"), "share", "Frames.share", defArgs s_Frames_share, defBody s_Frames_share, defScope s_Frames_share, [], []⟩) rfl
  obtain ⟨d41, F41⟩ := c.d.def_ 41 (d := ⟨("Frames", some "left"), "left", "Frames.left", defArgs s_Frames_left, defBody s_Frames_left, defScope s_Frames_left, [], []⟩) rfl
  obtain ⟨d42, F42⟩ := c.d.def_ 42 (d := ⟨("Frames", some "may_hold_more"), "may_hold_more", "Frames.may_hold_more", defArgs s_Frames_may_hold_more, defBody s_Frames_may_hold_more, defScope s_Frames_may_hold_more, [], []⟩) rfl
  obtain ⟨d43, F43⟩ := c.d.def_ 43 (d := ⟨("Frames", some "take"), "take", "Frames.take", defArgs s_Frames_take, defBody s_Frames_take, defScope s_Frames_take, [], []⟩) rfl
  obtain ⟨d44, F44⟩ := c.d.def_ 44 (d := ⟨("told", none), "told", "told", defArgs s_told, defBody s_told, defScope s_told, [], []⟩) rfl
  obtain ⟨d45, F45⟩ := c.d.def_ 45 (d := ⟨("Frames", some "is_frame"), "is_frame", "Frames.is_frame", defArgs s_Frames_is_frame, defBody s_Frames_is_frame, defScope s_Frames_is_frame, [], []⟩) rfl
  obtain ⟨d46, F46⟩ := c.d.def_ 46 (d := ⟨("Frames", some "right"), "right", "Frames.right", defArgs s_Frames_right, defBody s_Frames_right, defScope s_Frames_right, [], []⟩) rfl
  obtain ⟨d47, F47⟩ := c.d.def_ 47 (d := ⟨("includes", none), "includes", "includes", defArgs s_includes, defBody s_includes, defScope s_includes, [], []⟩) rfl
  obtain ⟨d48, F48⟩ := c.d.def_ 48 (d := ⟨("Frames", some "offer"), "offer", "Frames.offer", defArgs s_Frames_offer, defBody s_Frames_offer, defScope s_Frames_offer, [], []⟩) rfl
  obtain ⟨d49, F49⟩ := c.d.def_ 49 (d := ⟨("Frames", some "accept"), "accept", "Frames.accept", defArgs s_Frames_accept, defBody s_Frames_accept, defScope s_Frames_accept, [], []⟩) rfl
  obtain ⟨d50, F50⟩ := c.d.def_ 50 (d := ⟨("Frames", some "_end_holding"), "_end_holding", "Frames._end_holding", defArgs s_Frames__end_holding, defBody s_Frames__end_holding, defScope s_Frames__end_holding, [], []⟩) rfl
  obtain ⟨d51, F51⟩ := c.d.def_ 51 (d := ⟨("Frames", some "drop"), "drop", "Frames.drop", defArgs s_Frames_drop, defBody s_Frames_drop, defScope s_Frames_drop, [], []⟩) rfl
  obtain ⟨d52, F52⟩ := c.d.def_ 52 (d := ⟨("is_page", none), "is_page", "is_page", defArgs s_is_page, defBody s_is_page, defScope s_is_page, [], []⟩) rfl
  obtain ⟨d53, F53⟩ := c.d.def_ 53 (d := ⟨("Pages", some "entry"), "entry", "Pages.entry", defArgs s_Pages_entry, defBody s_Pages_entry, defScope s_Pages_entry, [], []⟩) rfl
  obtain ⟨d54, F54⟩ := c.d.def_ 54 (d := ⟨("Pages", some "_fall"), "_fall", "Pages._fall", defArgs s_Pages__fall, defBody s_Pages__fall, defScope s_Pages__fall, [], []⟩) rfl
  obtain ⟨d55, F55⟩ := c.d.def_ 55 (d := ⟨("Pages", some "ended"), "ended", "Pages.ended", defArgs s_Pages_ended, defBody s_Pages_ended, defScope s_Pages_ended, [], []⟩) rfl
  obtain ⟨d56, F56⟩ := c.d.def_ 56 (d := ⟨("Frames", some "narrow"), "narrow", "Frames.narrow", defArgs s_Frames_narrow, defBody s_Frames_narrow, defScope s_Frames_narrow, [], []⟩) rfl
  obtain ⟨d57, F57⟩ := c.d.def_ 57 (d := ⟨("Pages", some "narrowed"), "narrowed", "Pages.narrowed", defArgs s_Pages_narrowed, defBody s_Pages_narrowed, defScope s_Pages_narrowed, [], []⟩) rfl
  obtain ⟨d58, F58⟩ := c.d.def_ 58 (d := ⟨("Kernel", some "_frames"), "_frames", "Kernel._frames", defArgs s_Kernel__frames, defBody s_Kernel__frames, defScope s_Kernel__frames, [], []⟩) rfl
  obtain ⟨d59, F59⟩ := c.d.def_ 59 (d := ⟨("Pages", some "map"), "map", "Pages.map", defArgs s_Pages_map, defBody s_Pages_map, defScope s_Pages_map, [], []⟩) rfl
  obtain ⟨d60, F60⟩ := c.d.def_ 60 (d := ⟨("Pages", some "unmap"), "unmap", "Pages.unmap", defArgs s_Pages_unmap, defBody s_Pages_unmap, defScope s_Pages_unmap, [], []⟩) rfl
  obtain ⟨d61, F61⟩ := c.d.def_ 61 (d := ⟨("Frames", some "read"), "read", "Frames.read", defArgs s_Frames_read, defBody s_Frames_read, defScope s_Frames_read, [], []⟩) rfl
  obtain ⟨d62, F62⟩ := c.d.def_ 62 (d := ⟨("Pages", some "load"), "load", "Pages.load", defArgs s_Pages_load, defBody s_Pages_load, defScope s_Pages_load, [], []⟩) rfl
  obtain ⟨d63, F63⟩ := c.d.def_ 63 (d := ⟨("is_word", none), "is_word", "is_word", defArgs s_is_word, defBody s_is_word, defScope s_is_word, [], []⟩) rfl
  obtain ⟨d64, F64⟩ := c.d.def_ 64 (d := ⟨("Frames", some "write"), "write", "Frames.write", defArgs s_Frames_write, defBody s_Frames_write, defScope s_Frames_write, [], []⟩) rfl
  obtain ⟨d65, F65⟩ := c.d.def_ 65 (d := ⟨("Pages", some "store"), "store", "Pages.store", defArgs s_Pages_store, defBody s_Pages_store, defScope s_Pages_store, [], []⟩) rfl
  obtain ⟨d66, F66⟩ := c.d.def_ 66 (d := ⟨("Kernel", some "_pages"), "_pages", "Kernel._pages", defArgs s_Kernel__pages, defBody s_Kernel__pages, defScope s_Kernel__pages, [], []⟩) rfl
  obtain ⟨d67, F67⟩ := c.d.def_ 67 (d := ⟨("Kernel", some "request"), "request", "Kernel.request", defArgs s_Kernel_request, defBody s_Kernel_request, defScope s_Kernel_request, [], []⟩) rfl
  obtain ⟨d68, F68⟩ := c.d.def_ 68 (d := ⟨("Stack", some "step"), "step", "Stack.step", defArgs s_Stack_step, defBody s_Stack_step, defScope s_Stack_step, [], []⟩) rfl
  obtain ⟨d69, F69⟩ := c.d.def_ 69 (d := ⟨("Stack", some "ended"), "ended", "Stack.ended", defArgs s_Stack_ended, defBody s_Stack_ended, defScope s_Stack_ended, [], []⟩) rfl
  obtain ⟨d70, F70⟩ := c.d.def_ 70 (d := ⟨("Stack", some "value"), "value", "Stack.value", defArgs s_Stack_value, defBody s_Stack_value, defScope s_Stack_value, [], []⟩) rfl
  obtain ⟨d71, F71⟩ := c.d.def_ 71 (d := ⟨("_law_run", none), "_law_run", "_law_run", defArgs s__law_run, defBody s__law_run, defScope s__law_run, [], []⟩) rfl
  obtain ⟨d72, F72⟩ := c.d.def_ 72 (d := ⟨("Pipes", some "least"), "least", "Pipes.least", defArgs s_Pipes_least, defBody s_Pipes_least, defScope s_Pipes_least, [], []⟩) rfl
  obtain ⟨d73, F73⟩ := c.d.def_ 73 (d := ⟨("Memory", some "held"), "held", "Memory.held", defArgs s_Memory_held, defBody s_Memory_held, defScope s_Memory_held, [], []⟩) rfl
  obtain ⟨d74, F74⟩ := c.d.def_ 74 (d := ⟨("Memory", some "is_full"), "is_full", "Memory.is_full", defArgs s_Memory_is_full, defBody s_Memory_is_full, defScope s_Memory_is_full, [], []⟩) rfl
  obtain ⟨d75, F75⟩ := c.d.def_ 75 (d := ⟨("Make", some "__init__"), "__init__", "Make.__init__", defArgs s_Make___init__, defBody s_Make___init__, defScope s_Make___init__, [], []⟩) rfl
  obtain ⟨d76, F76⟩ := c.d.def_ 76 (d := ⟨("Pipes", some "is_there"), "is_there", "Pipes.is_there", defArgs s_Pipes_is_there, defBody s_Pipes_is_there, defScope s_Pipes_is_there, [], []⟩) rfl
  obtain ⟨d77, F77⟩ := c.d.def_ 77 (d := ⟨("Put", some "__init__"), "__init__", "Put.__init__", defArgs s_Put___init__, defBody s_Put___init__, defScope s_Put___init__, [], []⟩) rfl
  obtain ⟨d78, F78⟩ := c.d.def_ 78 (d := ⟨("Take", some "__init__"), "__init__", "Take.__init__", defArgs s_Take___init__, defBody s_Take___init__, defScope s_Take___init__, [], []⟩) rfl
  obtain ⟨d79, F79⟩ := c.d.def_ 79 (d := ⟨("End", some "__init__"), "__init__", "End.__init__", defArgs s_End___init__, defBody s_End___init__, defScope s_End___init__, [], []⟩) rfl
  obtain ⟨d80, F80⟩ := c.d.def_ 80 (d := ⟨("law", none), "law", "law", defArgs s_law, defBody s_law, defScope s_law, [], []⟩) rfl
  obtain ⟨tDATA, qDATA⟩ := He.int_ok X G (c.d.fact 187 (f := .int "DATA" 0) rfl)
  obtain ⟨tENVIRONMENTS, qENVIRONMENTS⟩ := He.int_ok X G (c.d.fact 188 (f := .int "ENVIRONMENTS" 4) rfl)
  obtain ⟨tFIELDS, qFIELDS⟩ := He.int_ok X G (c.d.fact 189 (f := .int "FIELDS" 6) rfl)
  obtain ⟨tFIRST_PAGE, qFIRST_PAGE⟩ := He.int_ok X G (c.d.fact 190 (f := .int "FIRST_PAGE" 24) rfl)
  obtain ⟨tFIRST_TYPE, qFIRST_TYPE⟩ := He.int_ok X G (c.d.fact 191 (f := .int "FIRST_TYPE" 2) rfl)
  obtain ⟨tLEAST, qLEAST⟩ := He.int_ok X G (c.d.fact 192 (f := .int "LEAST" 8) rfl)
  obtain ⟨tLEAST_BLOCKS, qLEAST_BLOCKS⟩ := He.int_ok X G (c.d.fact 193 (f := .int "LEAST_BLOCKS" 24) rfl)
  obtain ⟨eLENGTHS_kernel, nLENGTHS_kernel, qLENGTHS_kernel⟩ := kdB_ok (w := w) (ks := eK0) X G (c.d.fact 194 (f := .glo "LENGTHS_kernel") rfl) (ex2) (tabAt c 0 rfl)
  obtain ⟨tMOST_BLOCKS, qMOST_BLOCKS⟩ := He.int_ok X G (c.d.fact 195 (f := .int "MOST_BLOCKS" 64) rfl)
  obtain ⟨tMOST_GUARDS, qMOST_GUARDS⟩ := He.int_ok X G (c.d.fact 196 (f := .int "MOST_GUARDS" 4) rfl)
  obtain ⟨tMOST_frames, qMOST_frames⟩ := He.int_ok X G (c.d.fact 197 (f := .int "MOST_frames" 64) rfl)
  obtain ⟨tMOST_pipes, qMOST_pipes⟩ := He.int_ok X G (c.d.fact 198 (f := .int "MOST_pipes" 4) rfl)
  obtain ⟨tOWN, qOWN⟩ := He.str_ok X G (c.d.fact 199 (f := .str "OWN" "own") rfl)
  obtain ⟨tPAGES, qPAGES⟩ := He.int_ok X G (c.d.fact 200 (f := .int "PAGES" 32) rfl)
  obtain ⟨tROOT, qROOT⟩ := He.int_ok X G (c.d.fact 201 (f := .int "ROOT" 1) rfl)
  obtain ⟨tSLOTS_memory, qSLOTS_memory⟩ := He.int_ok X G (c.d.fact 202 (f := .int "SLOTS_memory" 4) rfl)
  obtain ⟨tSLOTS_slices, qSLOTS_slices⟩ := He.int_ok X G (c.d.fact 203 (f := .int "SLOTS_slices" 8) rfl)
  obtain ⟨tTOP, qTOP⟩ := He.int_ok X G (c.d.fact 204 (f := .int "TOP" 4294967295) rfl)
  obtain ⟨tWORDS, qWORDS⟩ := He.int_ok X G (c.d.fact 205 (f := .int "WORDS" 8) rfl)
  have e := hfa.symm.trans (He.glo_ok X G (c.d.fact 65 (f := .glo "law") rfl))
  cases e
  have O : TxOk w K mg {
      c_Frames := He.ga K "Frames",
      c_Pages := He.ga K "Pages",
      c_SteadError := 0,
      c_NotValid := He.ga K "NotValid",
      c_Slices := He.ga K "Slices",
      c_Disk := He.ga K "Disk",
      c_Types := He.ga K "Types",
      c_Blocks := He.ga K "Blocks",
      c_Net := He.ga K "Net",
      c_Kernel := He.ga K "Kernel",
      c_Stack := He.ga K "Stack",
      c_Requests := 0,
      c_Memory := He.ga K "Memory",
      c_Pipes := He.ga K "Pipes",
      c_Make := He.ga K "Make",
      c_Put := He.ga K "Put",
      c_Take := He.ga K "Take",
      c_End := He.ga K "End",
      c_Read := 0,
      c_Own := 0,
      c_Write := 0,
      c_Grow := 0,
      c_Fork := 0,
      c_Clear := 0,
      f__law_next := He.fAd K ("_law_next", none),
      d__law_next := d0,
      f_is_number := He.fAd K ("is_number", none),
      d_is_number := d1,
      f_is_environment := He.fAd K ("is_environment", none),
      d_is_environment := d2,
      f_Slices__step := He.fAd K ("Slices", some "_step"),
      d_Slices__step := d3,
      f_Slices__find := He.fAd K ("Slices", some "_find"),
      d_Slices__find := d4,
      f_Slices___init__ := He.fAd K ("Slices", some "__init__"),
      d_Slices___init__ := d5,
      f_Frames___init__ := He.fAd K ("Frames", some "__init__"),
      d_Frames___init__ := d6,
      f_Pages___init__ := He.fAd K ("Pages", some "__init__"),
      d_Pages___init__ := d7,
      f_Net___init__ := He.fAd K ("Net", some "__init__"),
      d_Net___init__ := d8,
      f_Types___init__ := He.fAd K ("Types", some "__init__"),
      d_Types___init__ := d9,
      f_Types_owned := He.fAd K ("Types", some "owned"),
      d_Types_owned := d10,
      f_Disk_words := He.fAd K ("Disk", some "words"),
      d_Disk_words := d11,
      f_Blocks_forest := He.fAd K ("Blocks", some "forest"),
      d_Blocks_forest := d12,
      f_Blocks_lasting_forest := He.fAd K ("Blocks", some "lasting_forest"),
      d_Blocks_lasting_forest := d13,
      f_Blocks___init__ := He.fAd K ("Blocks", some "__init__"),
      d_Blocks___init__ := d14,
      f_Kernel___init__ := He.fAd K ("Kernel", some "__init__"),
      d_Kernel___init__ := d15,
      f_Disk___init__ := He.fAd K ("Disk", some "__init__"),
      d_Disk___init__ := d16,
      f__law_kernel := He.fAd K ("_law_kernel", none),
      d__law_kernel := d17,
      f_Memory___init__ := He.fAd K ("Memory", some "__init__"),
      d_Memory___init__ := d18,
      f_Pipes___init__ := He.fAd K ("Pipes", some "__init__"),
      d_Pipes___init__ := d19,
      f_Stack___init__ := He.fAd K ("Stack", some "__init__"),
      d_Stack___init__ := d20,
      f_Make_request := He.fAd K ("Make", some "request"),
      d_Make_request := d21,
      f_Put_request := He.fAd K ("Put", some "request"),
      d_Put_request := d22,
      f_Take_request := He.fAd K ("Take", some "request"),
      d_Take_request := d23,
      f_End_request := He.fAd K ("End", some "request"),
      d_End_request := d24,
      f_Memory_note_taken := He.fAd K ("Memory", some "note_taken"),
      d_Memory_note_taken := d25,
      f_Pipes_note := He.fAd K ("Pipes", some "note"),
      d_Pipes_note := d26,
      f_Make_accept := He.fAd K ("Make", some "accept"),
      d_Make_accept := d27,
      f_Pipes_frame := He.fAd K ("Pipes", some "frame"),
      d_Pipes_frame := d28,
      f_Pipes_head := He.fAd K ("Pipes", some "head"),
      d_Pipes_head := d29,
      f_Pipes_size := He.fAd K ("Pipes", some "size"),
      d_Pipes_size := d30,
      f_Put_accept := He.fAd K ("Put", some "accept"),
      d_Put_accept := d31,
      f_Take_accept := He.fAd K ("Take", some "accept"),
      d_Take_accept := d32,
      f_Memory_note_dropped := He.fAd K ("Memory", some "note_dropped"),
      d_Memory_note_dropped := d33,
      f_Pipes_forget := He.fAd K ("Pipes", some "forget"),
      d_Pipes_forget := d34,
      f_End_accept := He.fAd K ("End", some "accept"),
      d_End_accept := d35,
      f_Stack__settle := He.fAd K ("Stack", some "_settle"),
      d_Stack__settle := d36,
      f_Frames_holdings := He.fAd K ("Frames", some "holdings"),
      d_Frames_holdings := d37,
      f_Frames_free := He.fAd K ("Frames", some "free"),
      d_Frames_free := d38,
      f_Frames_charge := He.fAd K ("Frames", some "charge"),
      d_Frames_charge := d39,
      f_Frames_share := He.fAd K ("Frames", some "share"),
      d_Frames_share := d40,
      f_Frames_left := He.fAd K ("Frames", some "left"),
      d_Frames_left := d41,
      f_Frames_may_hold_more := He.fAd K ("Frames", some "may_hold_more"),
      d_Frames_may_hold_more := d42,
      f_Frames_take := He.fAd K ("Frames", some "take"),
      d_Frames_take := d43,
      f_told := He.fAd K ("told", none),
      d_told := d44,
      f_Frames_is_frame := He.fAd K ("Frames", some "is_frame"),
      d_Frames_is_frame := d45,
      f_Frames_right := He.fAd K ("Frames", some "right"),
      d_Frames_right := d46,
      f_includes := He.fAd K ("includes", none),
      d_includes := d47,
      f_Frames_offer := He.fAd K ("Frames", some "offer"),
      d_Frames_offer := d48,
      f_Frames_accept := He.fAd K ("Frames", some "accept"),
      d_Frames_accept := d49,
      f_Frames__end_holding := He.fAd K ("Frames", some "_end_holding"),
      d_Frames__end_holding := d50,
      f_Frames_drop := He.fAd K ("Frames", some "drop"),
      d_Frames_drop := d51,
      f_is_page := He.fAd K ("is_page", none),
      d_is_page := d52,
      f_Pages_entry := He.fAd K ("Pages", some "entry"),
      d_Pages_entry := d53,
      f_Pages__fall := He.fAd K ("Pages", some "_fall"),
      d_Pages__fall := d54,
      f_Pages_ended := He.fAd K ("Pages", some "ended"),
      d_Pages_ended := d55,
      f_Frames_narrow := He.fAd K ("Frames", some "narrow"),
      d_Frames_narrow := d56,
      f_Pages_narrowed := He.fAd K ("Pages", some "narrowed"),
      d_Pages_narrowed := d57,
      f_Kernel__frames := He.fAd K ("Kernel", some "_frames"),
      d_Kernel__frames := d58,
      f_Pages_map := He.fAd K ("Pages", some "map"),
      d_Pages_map := d59,
      f_Pages_unmap := He.fAd K ("Pages", some "unmap"),
      d_Pages_unmap := d60,
      f_Frames_read := He.fAd K ("Frames", some "read"),
      d_Frames_read := d61,
      f_Pages_load := He.fAd K ("Pages", some "load"),
      d_Pages_load := d62,
      f_is_word := He.fAd K ("is_word", none),
      d_is_word := d63,
      f_Frames_write := He.fAd K ("Frames", some "write"),
      d_Frames_write := d64,
      f_Pages_store := He.fAd K ("Pages", some "store"),
      d_Pages_store := d65,
      f_Kernel__pages := He.fAd K ("Kernel", some "_pages"),
      d_Kernel__pages := d66,
      f_Kernel_request := He.fAd K ("Kernel", some "request"),
      d_Kernel_request := d67,
      f_Stack_step := He.fAd K ("Stack", some "step"),
      d_Stack_step := d68,
      f_Stack_ended := He.fAd K ("Stack", some "ended"),
      d_Stack_ended := d69,
      f_Stack_value := He.fAd K ("Stack", some "value"),
      d_Stack_value := d70,
      f__law_run := He.fAd K ("_law_run", none),
      d__law_run := d71,
      f_Pipes_least := He.fAd K ("Pipes", some "least"),
      d_Pipes_least := d72,
      f_Memory_held := He.fAd K ("Memory", some "held"),
      d_Memory_held := d73,
      f_Memory_is_full := He.fAd K ("Memory", some "is_full"),
      d_Memory_is_full := d74,
      f_Make___init__ := He.fAd K ("Make", some "__init__"),
      d_Make___init__ := d75,
      f_Pipes_is_there := He.fAd K ("Pipes", some "is_there"),
      d_Pipes_is_there := d76,
      f_Put___init__ := He.fAd K ("Put", some "__init__"),
      d_Put___init__ := d77,
      f_Take___init__ := He.fAd K ("Take", some "__init__"),
      d_Take___init__ := d78,
      f_End___init__ := He.fAd K ("End", some "__init__"),
      d_End___init__ := d79,
      f_law := He.fAd K ("law", none),
      d_law := d80,
      t_DATA := tDATA,
      t_ENVIRONMENTS := tENVIRONMENTS,
      t_FIELDS := tFIELDS,
      t_FIRST_PAGE := tFIRST_PAGE,
      t_FIRST_TYPE := tFIRST_TYPE,
      t_LEAST := tLEAST,
      t_LEAST_BLOCKS := tLEAST_BLOCKS,
      a_LENGTHS_kernel := He.ga K "LENGTHS_kernel",
      e_LENGTHS_kernel := eLENGTHS_kernel,
      n_LENGTHS_kernel := nLENGTHS_kernel,
      t_MOST_BLOCKS := tMOST_BLOCKS,
      t_MOST_GUARDS := tMOST_GUARDS,
      t_MOST_frames := tMOST_frames,
      t_MOST_pipes := tMOST_pipes,
      t_OWN := tOWN,
      t_PAGES := tPAGES,
      t_ROOT := tROOT,
      t_SLOTS_memory := tSLOTS_memory,
      t_SLOTS_slices := tSLOTS_slices,
      t_TOP := tTOP,
      t_WORDS := tWORDS } :=
    { F__law_next := funOf (st := s__law_next) F0,
      b__law_next := (funOf (st := s__law_next) F0).binds (ps := ["_law_tape", "_law_many"]) fun _ _ _ _ _ _ us hl => match us, hl with | [_, _], _ => rfl,
      g__law_next := He.glo_ok X G (c.d.fact 0 (f := .glo "_law_next") rfl),
      F_is_number := funOf (st := s_is_number) F1,
      b_is_number := (funOf (st := s_is_number) F1).binds (ps := ["value"]) fun _ _ _ _ _ _ us hl => match us, hl with | [_], _ => rfl,
      g_is_number := He.glo_ok X G (c.d.fact 1 (f := .glo "is_number") rfl),
      F_is_environment := funOf (st := s_is_environment) F2,
      b_is_environment := (funOf (st := s_is_environment) F2).binds (ps := ["value"]) fun _ _ _ _ _ _ us hl => match us, hl with | [_], _ => rfl,
      g_is_environment := He.glo_ok X G (c.d.fact 2 (f := .glo "is_environment") rfl),
      F_Slices__step := funOf (st := s_Slices__step) F3,
      b_Slices__step := (funOf (st := s_Slices__step) F3).binds (ps := ["self"]) fun _ _ _ _ _ _ us hl => match us, hl with | [_], _ => rfl,
      M_Slices__step := He.meth_ok (c.d.fact 3 (f := .meth "Slices" "_step") rfl),
      F_Slices__find := funOf (st := s_Slices__find) F4,
      b_Slices__find := (funOf (st := s_Slices__find) F4).binds (ps := ["self"]) fun _ _ _ _ _ _ us hl => match us, hl with | [_], _ => rfl,
      M_Slices__find := He.meth_ok (c.d.fact 4 (f := .meth "Slices" "_find") rfl),
      F_Slices___init__ := funOf (st := s_Slices___init__) F5,
      b_Slices___init__ := (funOf (st := s_Slices___init__) F5).binds (ps := ["self", "owners"]) fun _ _ _ _ _ _ us hl => match us, hl with | [_, _], _ => rfl,
      F_Frames___init__ := funOf (st := s_Frames___init__) F6,
      b_Frames___init__ := (funOf (st := s_Frames___init__) F6).binds (ps := ["self", "many", "shares"]) fun _ _ _ _ _ _ us hl => match us, hl with | [_, _, _], _ => rfl,
      F_Pages___init__ := funOf (st := s_Pages___init__) F7,
      b_Pages___init__ := (funOf (st := s_Pages___init__) F7).binds (ps := ["self", "frames"]) fun _ _ _ _ _ _ us hl => match us, hl with | [_, _], _ => rfl,
      F_Net___init__ := funOf (st := s_Net___init__) F8,
      b_Net___init__ := (funOf (st := s_Net___init__) F8).binds (ps := ["self", "regions"]) fun _ _ _ _ _ _ us hl => match us, hl with | [_, _], _ => rfl,
      F_Types___init__ := funOf (st := s_Types___init__) F9,
      b_Types___init__ := (funOf (st := s_Types___init__) F9).binds (ps := ["self", "blocks"]) fun _ _ _ _ _ _ us hl => match us, hl with | [_, _], _ => rfl,
      F_Types_owned := funOf (st := s_Types_owned) F10,
      b_Types_owned := (funOf (st := s_Types_owned) F10).binds (ps := ["self", "number", "words"]) fun _ _ _ _ _ _ us hl => match us, hl with | [_, _, _], _ => rfl,
      M_Types_owned := He.meth_ok (c.d.fact 5 (f := .meth "Types" "owned") rfl),
      F_Disk_words := funOf (st := s_Disk_words) F11,
      b_Disk_words := (funOf (st := s_Disk_words) F11).binds (ps := ["self", "block"]) fun _ _ _ _ _ _ us hl => match us, hl with | [_, _], _ => rfl,
      M_Disk_words := He.meth_ok (c.d.fact 6 (f := .meth "Disk" "words") rfl),
      F_Blocks_forest := funOf (st := s_Blocks_forest) F12,
      b_Blocks_forest := (funOf (st := s_Blocks_forest) F12).binds (ps := ["self", "roots", "table"]) fun _ _ _ _ _ _ us hl => match us, hl with | [_, _, _], _ => rfl,
      M_Blocks_forest := He.meth_ok (c.d.fact 7 (f := .meth "Blocks" "forest") rfl),
      F_Blocks_lasting_forest := funOf (st := s_Blocks_lasting_forest) F13,
      b_Blocks_lasting_forest := (funOf (st := s_Blocks_lasting_forest) F13).binds (ps := ["self", "environment"]) fun _ _ _ _ _ _ us hl => match us, hl with | [_, _], _ => rfl,
      M_Blocks_lasting_forest := He.meth_ok (c.d.fact 8 (f := .meth "Blocks" "lasting_forest") rfl),
      F_Blocks___init__ := F14,
      b_Blocks___init__ := bindD F14 fun _ _ _ _ _ _ _ us its hl hi => match us, its, hl, hi with | [_, _, _, _], [_], _, _ => ⟨_, rfl, rfl⟩,
      F_Kernel___init__ := funOf (st := s_Kernel___init__) F15,
      b_Kernel___init__ := (funOf (st := s_Kernel___init__) F15).binds (ps := ["self", "owners", "frames", "frame_shares", "disk", "block_shares", "types", "regions"]) fun _ _ _ _ _ _ us hl => match us, hl with | [_, _, _, _, _, _, _, _], _ => rfl,
      F_Disk___init__ := funOf (st := s_Disk___init__) F16,
      b_Disk___init__ := (funOf (st := s_Disk___init__) F16).binds (ps := ["self", "blocks"]) fun _ _ _ _ _ _ us hl => match us, hl with | [_, _], _ => rfl,
      F__law_kernel := funOf (st := s__law_kernel) F17,
      b__law_kernel := (funOf (st := s__law_kernel) F17).binds (ps := ["_law_many", "_law_share"]) fun _ _ _ _ _ _ us hl => match us, hl with | [_, _], _ => rfl,
      g__law_kernel := He.glo_ok X G (c.d.fact 9 (f := .glo "_law_kernel") rfl),
      F_Memory___init__ := funOf (st := s_Memory___init__) F18,
      b_Memory___init__ := (funOf (st := s_Memory___init__) F18).binds (ps := ["self", "share"]) fun _ _ _ _ _ _ us hl => match us, hl with | [_, _], _ => rfl,
      F_Pipes___init__ := funOf (st := s_Pipes___init__) F19,
      b_Pipes___init__ := (funOf (st := s_Pipes___init__) F19).binds (ps := ["self", "memory"]) fun _ _ _ _ _ _ us hl => match us, hl with | [_, _], _ => rfl,
      F_Stack___init__ := funOf (st := s_Stack___init__) F20,
      b_Stack___init__ := (funOf (st := s_Stack___init__) F20).binds (ps := ["self", "machine"]) fun _ _ _ _ _ _ us hl => match us, hl with | [_, _], _ => rfl,
      F_Make_request := funOf (st := s_Make_request) F21,
      b_Make_request := (funOf (st := s_Make_request) F21).binds (ps := ["self"]) fun _ _ _ _ _ _ us hl => match us, hl with | [_], _ => rfl,
      M_Make_request := He.meth_ok (c.d.fact 10 (f := .meth "Make" "request") rfl),
      F_Put_request := funOf (st := s_Put_request) F22,
      b_Put_request := (funOf (st := s_Put_request) F22).binds (ps := ["self"]) fun _ _ _ _ _ _ us hl => match us, hl with | [_], _ => rfl,
      M_Put_request := He.meth_ok (c.d.fact 11 (f := .meth "Put" "request") rfl),
      F_Take_request := funOf (st := s_Take_request) F23,
      b_Take_request := (funOf (st := s_Take_request) F23).binds (ps := ["self"]) fun _ _ _ _ _ _ us hl => match us, hl with | [_], _ => rfl,
      M_Take_request := He.meth_ok (c.d.fact 12 (f := .meth "Take" "request") rfl),
      F_End_request := funOf (st := s_End_request) F24,
      b_End_request := (funOf (st := s_End_request) F24).binds (ps := ["self"]) fun _ _ _ _ _ _ us hl => match us, hl with | [_], _ => rfl,
      M_End_request := He.meth_ok (c.d.fact 13 (f := .meth "End" "request") rfl),
      F_Memory_note_taken := funOf (st := s_Memory_note_taken) F25,
      b_Memory_note_taken := (funOf (st := s_Memory_note_taken) F25).binds (ps := ["self"]) fun _ _ _ _ _ _ us hl => match us, hl with | [_], _ => rfl,
      M_Memory_note_taken := He.meth_ok (c.d.fact 14 (f := .meth "Memory" "note_taken") rfl),
      F_Pipes_note := funOf (st := s_Pipes_note) F26,
      b_Pipes_note := (funOf (st := s_Pipes_note) F26).binds (ps := ["self", "pipe", "frame", "head", "size"]) fun _ _ _ _ _ _ us hl => match us, hl with | [_, _, _, _, _], _ => rfl,
      M_Pipes_note := He.meth_ok (c.d.fact 15 (f := .meth "Pipes" "note") rfl),
      F_Make_accept := funOf (st := s_Make_accept) F27,
      b_Make_accept := (funOf (st := s_Make_accept) F27).binds (ps := ["self", "result"]) fun _ _ _ _ _ _ us hl => match us, hl with | [_, _], _ => rfl,
      M_Make_accept := He.meth_ok (c.d.fact 16 (f := .meth "Make" "accept") rfl),
      F_Pipes_frame := funOf (st := s_Pipes_frame) F28,
      b_Pipes_frame := (funOf (st := s_Pipes_frame) F28).binds (ps := ["self", "pipe"]) fun _ _ _ _ _ _ us hl => match us, hl with | [_, _], _ => rfl,
      M_Pipes_frame := He.meth_ok (c.d.fact 17 (f := .meth "Pipes" "frame") rfl),
      F_Pipes_head := funOf (st := s_Pipes_head) F29,
      b_Pipes_head := (funOf (st := s_Pipes_head) F29).binds (ps := ["self", "pipe"]) fun _ _ _ _ _ _ us hl => match us, hl with | [_, _], _ => rfl,
      M_Pipes_head := He.meth_ok (c.d.fact 18 (f := .meth "Pipes" "head") rfl),
      F_Pipes_size := funOf (st := s_Pipes_size) F30,
      b_Pipes_size := (funOf (st := s_Pipes_size) F30).binds (ps := ["self", "pipe"]) fun _ _ _ _ _ _ us hl => match us, hl with | [_, _], _ => rfl,
      M_Pipes_size := He.meth_ok (c.d.fact 19 (f := .meth "Pipes" "size") rfl),
      F_Put_accept := funOf (st := s_Put_accept) F31,
      b_Put_accept := (funOf (st := s_Put_accept) F31).binds (ps := ["self", "result"]) fun _ _ _ _ _ _ us hl => match us, hl with | [_, _], _ => rfl,
      M_Put_accept := He.meth_ok (c.d.fact 20 (f := .meth "Put" "accept") rfl),
      F_Take_accept := funOf (st := s_Take_accept) F32,
      b_Take_accept := (funOf (st := s_Take_accept) F32).binds (ps := ["self", "result"]) fun _ _ _ _ _ _ us hl => match us, hl with | [_, _], _ => rfl,
      M_Take_accept := He.meth_ok (c.d.fact 21 (f := .meth "Take" "accept") rfl),
      F_Memory_note_dropped := funOf (st := s_Memory_note_dropped) F33,
      b_Memory_note_dropped := (funOf (st := s_Memory_note_dropped) F33).binds (ps := ["self"]) fun _ _ _ _ _ _ us hl => match us, hl with | [_], _ => rfl,
      M_Memory_note_dropped := He.meth_ok (c.d.fact 22 (f := .meth "Memory" "note_dropped") rfl),
      F_Pipes_forget := funOf (st := s_Pipes_forget) F34,
      b_Pipes_forget := (funOf (st := s_Pipes_forget) F34).binds (ps := ["self", "pipe"]) fun _ _ _ _ _ _ us hl => match us, hl with | [_, _], _ => rfl,
      M_Pipes_forget := He.meth_ok (c.d.fact 23 (f := .meth "Pipes" "forget") rfl),
      F_End_accept := funOf (st := s_End_accept) F35,
      b_End_accept := (funOf (st := s_End_accept) F35).binds (ps := ["self", "result"]) fun _ _ _ _ _ _ us hl => match us, hl with | [_, _], _ => rfl,
      M_End_accept := He.meth_ok (c.d.fact 24 (f := .meth "End" "accept") rfl),
      F_Stack__settle := funOf (st := s_Stack__settle) F36,
      b_Stack__settle := (funOf (st := s_Stack__settle) F36).binds (ps := ["self"]) fun _ _ _ _ _ _ us hl => match us, hl with | [_], _ => rfl,
      M_Stack__settle := He.meth_ok (c.d.fact 25 (f := .meth "Stack" "_settle") rfl),
      F_Frames_holdings := funOf (st := s_Frames_holdings) F37,
      b_Frames_holdings := (funOf (st := s_Frames_holdings) F37).binds (ps := ["self", "environment"]) fun _ _ _ _ _ _ us hl => match us, hl with | [_, _], _ => rfl,
      M_Frames_holdings := He.meth_ok (c.d.fact 26 (f := .meth "Frames" "holdings") rfl),
      F_Frames_free := funOf (st := s_Frames_free) F38,
      b_Frames_free := (funOf (st := s_Frames_free) F38).binds (ps := ["self"]) fun _ _ _ _ _ _ us hl => match us, hl with | [_], _ => rfl,
      M_Frames_free := He.meth_ok (c.d.fact 27 (f := .meth "Frames" "free") rfl),
      F_Frames_charge := funOf (st := s_Frames_charge) F39,
      b_Frames_charge := (funOf (st := s_Frames_charge) F39).binds (ps := ["self", "environment"]) fun _ _ _ _ _ _ us hl => match us, hl with | [_, _], _ => rfl,
      M_Frames_charge := He.meth_ok (c.d.fact 28 (f := .meth "Frames" "charge") rfl),
      F_Frames_share := funOf (st := s_Frames_share) F40,
      b_Frames_share := (funOf (st := s_Frames_share) F40).binds (ps := ["self", "environment"]) fun _ _ _ _ _ _ us hl => match us, hl with | [_, _], _ => rfl,
      M_Frames_share := He.meth_ok (c.d.fact 29 (f := .meth "Frames" "share") rfl),
      F_Frames_left := funOf (st := s_Frames_left) F41,
      b_Frames_left := (funOf (st := s_Frames_left) F41).binds (ps := ["self"]) fun _ _ _ _ _ _ us hl => match us, hl with | [_], _ => rfl,
      M_Frames_left := He.meth_ok (c.d.fact 30 (f := .meth "Frames" "left") rfl),
      F_Frames_may_hold_more := funOf (st := s_Frames_may_hold_more) F42,
      b_Frames_may_hold_more := (funOf (st := s_Frames_may_hold_more) F42).binds (ps := ["self", "environment"]) fun _ _ _ _ _ _ us hl => match us, hl with | [_, _], _ => rfl,
      M_Frames_may_hold_more := He.meth_ok (c.d.fact 31 (f := .meth "Frames" "may_hold_more") rfl),
      F_Frames_take := funOf (st := s_Frames_take) F43,
      b_Frames_take := (funOf (st := s_Frames_take) F43).binds (ps := ["self", "environment"]) fun _ _ _ _ _ _ us hl => match us, hl with | [_, _], _ => rfl,
      M_Frames_take := He.meth_ok (c.d.fact 32 (f := .meth "Frames" "take") rfl),
      F_told := funOf (st := s_told) F44,
      b_told := (funOf (st := s_told) F44).binds (ps := ["done", "word"]) fun _ _ _ _ _ _ us hl => match us, hl with | [_, _], _ => rfl,
      g_told := He.glo_ok X G (c.d.fact 33 (f := .glo "told") rfl),
      F_Frames_is_frame := funOf (st := s_Frames_is_frame) F45,
      b_Frames_is_frame := (funOf (st := s_Frames_is_frame) F45).binds (ps := ["self", "frame"]) fun _ _ _ _ _ _ us hl => match us, hl with | [_, _], _ => rfl,
      M_Frames_is_frame := He.meth_ok (c.d.fact 34 (f := .meth "Frames" "is_frame") rfl),
      F_Frames_right := funOf (st := s_Frames_right) F46,
      b_Frames_right := (funOf (st := s_Frames_right) F46).binds (ps := ["self", "environment", "frame"]) fun _ _ _ _ _ _ us hl => match us, hl with | [_, _, _], _ => rfl,
      M_Frames_right := He.meth_ok (c.d.fact 35 (f := .meth "Frames" "right") rfl),
      F_includes := funOf (st := s_includes) F47,
      b_includes := (funOf (st := s_includes) F47).binds (ps := ["right", "wanted"]) fun _ _ _ _ _ _ us hl => match us, hl with | [_, _], _ => rfl,
      g_includes := He.glo_ok X G (c.d.fact 36 (f := .glo "includes") rfl),
      F_Frames_offer := funOf (st := s_Frames_offer) F48,
      b_Frames_offer := (funOf (st := s_Frames_offer) F48).binds (ps := ["self", "environment", "frame", "other", "right"]) fun _ _ _ _ _ _ us hl => match us, hl with | [_, _, _, _, _], _ => rfl,
      M_Frames_offer := He.meth_ok (c.d.fact 37 (f := .meth "Frames" "offer") rfl),
      F_Frames_accept := funOf (st := s_Frames_accept) F49,
      b_Frames_accept := (funOf (st := s_Frames_accept) F49).binds (ps := ["self", "environment", "frame", "owner"]) fun _ _ _ _ _ _ us hl => match us, hl with | [_, _, _, _], _ => rfl,
      M_Frames_accept := He.meth_ok (c.d.fact 38 (f := .meth "Frames" "accept") rfl),
      F_Frames__end_holding := funOf (st := s_Frames__end_holding) F50,
      b_Frames__end_holding := (funOf (st := s_Frames__end_holding) F50).binds (ps := ["self", "environment", "frame"]) fun _ _ _ _ _ _ us hl => match us, hl with | [_, _, _], _ => rfl,
      M_Frames__end_holding := He.meth_ok (c.d.fact 39 (f := .meth "Frames" "_end_holding") rfl),
      F_Frames_drop := funOf (st := s_Frames_drop) F51,
      b_Frames_drop := (funOf (st := s_Frames_drop) F51).binds (ps := ["self", "environment", "frame"]) fun _ _ _ _ _ _ us hl => match us, hl with | [_, _, _], _ => rfl,
      M_Frames_drop := He.meth_ok (c.d.fact 40 (f := .meth "Frames" "drop") rfl),
      F_is_page := funOf (st := s_is_page) F52,
      b_is_page := (funOf (st := s_is_page) F52).binds (ps := ["value"]) fun _ _ _ _ _ _ us hl => match us, hl with | [_], _ => rfl,
      g_is_page := He.glo_ok X G (c.d.fact 41 (f := .glo "is_page") rfl),
      F_Pages_entry := funOf (st := s_Pages_entry) F53,
      b_Pages_entry := (funOf (st := s_Pages_entry) F53).binds (ps := ["self", "environment", "page"]) fun _ _ _ _ _ _ us hl => match us, hl with | [_, _, _], _ => rfl,
      M_Pages_entry := He.meth_ok (c.d.fact 42 (f := .meth "Pages" "entry") rfl),
      F_Pages__fall := funOf (st := s_Pages__fall) F54,
      b_Pages__fall := (funOf (st := s_Pages__fall) F54).binds (ps := ["self", "environment", "frame", "rights"]) fun _ _ _ _ _ _ us hl => match us, hl with | [_, _, _, _], _ => rfl,
      M_Pages__fall := He.meth_ok (c.d.fact 43 (f := .meth "Pages" "_fall") rfl),
      F_Pages_ended := funOf (st := s_Pages_ended) F55,
      b_Pages_ended := (funOf (st := s_Pages_ended) F55).binds (ps := ["self", "environment", "frame"]) fun _ _ _ _ _ _ us hl => match us, hl with | [_, _, _], _ => rfl,
      M_Pages_ended := He.meth_ok (c.d.fact 44 (f := .meth "Pages" "ended") rfl),
      F_Frames_narrow := funOf (st := s_Frames_narrow) F56,
      b_Frames_narrow := (funOf (st := s_Frames_narrow) F56).binds (ps := ["self", "environment", "frame"]) fun _ _ _ _ _ _ us hl => match us, hl with | [_, _, _], _ => rfl,
      M_Frames_narrow := He.meth_ok (c.d.fact 45 (f := .meth "Frames" "narrow") rfl),
      F_Pages_narrowed := funOf (st := s_Pages_narrowed) F57,
      b_Pages_narrowed := (funOf (st := s_Pages_narrowed) F57).binds (ps := ["self", "environment", "frame"]) fun _ _ _ _ _ _ us hl => match us, hl with | [_, _, _], _ => rfl,
      M_Pages_narrowed := He.meth_ok (c.d.fact 46 (f := .meth "Pages" "narrowed") rfl),
      F_Kernel__frames := funOf (st := s_Kernel__frames) F58,
      b_Kernel__frames := (funOf (st := s_Kernel__frames) F58).binds (ps := ["self", "environment", "request"]) fun _ _ _ _ _ _ us hl => match us, hl with | [_, _, _], _ => rfl,
      M_Kernel__frames := He.meth_ok (c.d.fact 47 (f := .meth "Kernel" "_frames") rfl),
      F_Pages_map := funOf (st := s_Pages_map) F59,
      b_Pages_map := (funOf (st := s_Pages_map) F59).binds (ps := ["self", "environment", "page", "frame", "right"]) fun _ _ _ _ _ _ us hl => match us, hl with | [_, _, _, _, _], _ => rfl,
      M_Pages_map := He.meth_ok (c.d.fact 48 (f := .meth "Pages" "map") rfl),
      F_Pages_unmap := funOf (st := s_Pages_unmap) F60,
      b_Pages_unmap := (funOf (st := s_Pages_unmap) F60).binds (ps := ["self", "environment", "page"]) fun _ _ _ _ _ _ us hl => match us, hl with | [_, _, _], _ => rfl,
      M_Pages_unmap := He.meth_ok (c.d.fact 49 (f := .meth "Pages" "unmap") rfl),
      F_Frames_read := funOf (st := s_Frames_read) F61,
      b_Frames_read := (funOf (st := s_Frames_read) F61).binds (ps := ["self", "frame", "index"]) fun _ _ _ _ _ _ us hl => match us, hl with | [_, _, _], _ => rfl,
      M_Frames_read := He.meth_ok (c.d.fact 50 (f := .meth "Frames" "read") rfl),
      F_Pages_load := funOf (st := s_Pages_load) F62,
      b_Pages_load := (funOf (st := s_Pages_load) F62).binds (ps := ["self", "environment", "page", "index"]) fun _ _ _ _ _ _ us hl => match us, hl with | [_, _, _, _], _ => rfl,
      M_Pages_load := He.meth_ok (c.d.fact 51 (f := .meth "Pages" "load") rfl),
      F_is_word := funOf (st := s_is_word) F63,
      b_is_word := (funOf (st := s_is_word) F63).binds (ps := ["value"]) fun _ _ _ _ _ _ us hl => match us, hl with | [_], _ => rfl,
      g_is_word := He.glo_ok X G (c.d.fact 52 (f := .glo "is_word") rfl),
      F_Frames_write := funOf (st := s_Frames_write) F64,
      b_Frames_write := (funOf (st := s_Frames_write) F64).binds (ps := ["self", "frame", "index", "word"]) fun _ _ _ _ _ _ us hl => match us, hl with | [_, _, _, _], _ => rfl,
      M_Frames_write := He.meth_ok (c.d.fact 53 (f := .meth "Frames" "write") rfl),
      F_Pages_store := funOf (st := s_Pages_store) F65,
      b_Pages_store := (funOf (st := s_Pages_store) F65).binds (ps := ["self", "environment", "page", "index", "word"]) fun _ _ _ _ _ _ us hl => match us, hl with | [_, _, _, _, _], _ => rfl,
      M_Pages_store := He.meth_ok (c.d.fact 54 (f := .meth "Pages" "store") rfl),
      F_Kernel__pages := funOf (st := s_Kernel__pages) F66,
      b_Kernel__pages := (funOf (st := s_Kernel__pages) F66).binds (ps := ["self", "environment", "request"]) fun _ _ _ _ _ _ us hl => match us, hl with | [_, _, _], _ => rfl,
      M_Kernel__pages := He.meth_ok (c.d.fact 55 (f := .meth "Kernel" "_pages") rfl),
      F_Kernel_request := funOf (st := s_Kernel_request) F67,
      b_Kernel_request := (funOf (st := s_Kernel_request) F67).binds (ps := ["self", "environment", "request"]) fun _ _ _ _ _ _ us hl => match us, hl with | [_, _, _], _ => rfl,
      M_Kernel_request := He.meth_ok (c.d.fact 56 (f := .meth "Kernel" "request") rfl),
      F_Stack_step := funOf (st := s_Stack_step) F68,
      b_Stack_step := (funOf (st := s_Stack_step) F68).binds (ps := ["self", "kernel", "environment"]) fun _ _ _ _ _ _ us hl => match us, hl with | [_, _, _], _ => rfl,
      M_Stack_step := He.meth_ok (c.d.fact 57 (f := .meth "Stack" "step") rfl),
      F_Stack_ended := funOf (st := s_Stack_ended) F69,
      b_Stack_ended := (funOf (st := s_Stack_ended) F69).binds (ps := ["self"]) fun _ _ _ _ _ _ us hl => match us, hl with | [_], _ => rfl,
      M_Stack_ended := He.meth_ok (c.d.fact 58 (f := .meth "Stack" "ended") rfl),
      F_Stack_value := funOf (st := s_Stack_value) F70,
      b_Stack_value := (funOf (st := s_Stack_value) F70).binds (ps := ["self"]) fun _ _ _ _ _ _ us hl => match us, hl with | [_], _ => rfl,
      M_Stack_value := He.meth_ok (c.d.fact 59 (f := .meth "Stack" "value") rfl),
      F__law_run := funOf (st := s__law_run) F71,
      b__law_run := (funOf (st := s__law_run) F71).binds (ps := ["_law_kernel_here", "_law_machine"]) fun _ _ _ _ _ _ us hl => match us, hl with | [_, _], _ => rfl,
      g__law_run := He.glo_ok X G (c.d.fact 60 (f := .glo "_law_run") rfl),
      F_Pipes_least := funOf (st := s_Pipes_least) F72,
      b_Pipes_least := (funOf (st := s_Pipes_least) F72).binds (ps := ["self"]) fun _ _ _ _ _ _ us hl => match us, hl with | [_], _ => rfl,
      M_Pipes_least := He.meth_ok (c.d.fact 61 (f := .meth "Pipes" "least") rfl),
      F_Memory_held := funOf (st := s_Memory_held) F73,
      b_Memory_held := (funOf (st := s_Memory_held) F73).binds (ps := ["self"]) fun _ _ _ _ _ _ us hl => match us, hl with | [_], _ => rfl,
      M_Memory_held := He.meth_ok (c.d.fact 62 (f := .meth "Memory" "held") rfl),
      F_Memory_is_full := funOf (st := s_Memory_is_full) F74,
      b_Memory_is_full := (funOf (st := s_Memory_is_full) F74).binds (ps := ["self"]) fun _ _ _ _ _ _ us hl => match us, hl with | [_], _ => rfl,
      M_Memory_is_full := He.meth_ok (c.d.fact 63 (f := .meth "Memory" "is_full") rfl),
      F_Make___init__ := funOf (st := s_Make___init__) F75,
      b_Make___init__ := (funOf (st := s_Make___init__) F75).binds (ps := ["self", "pipes"]) fun _ _ _ _ _ _ us hl => match us, hl with | [_, _], _ => rfl,
      F_Pipes_is_there := funOf (st := s_Pipes_is_there) F76,
      b_Pipes_is_there := (funOf (st := s_Pipes_is_there) F76).binds (ps := ["self", "pipe"]) fun _ _ _ _ _ _ us hl => match us, hl with | [_, _], _ => rfl,
      M_Pipes_is_there := He.meth_ok (c.d.fact 64 (f := .meth "Pipes" "is_there") rfl),
      F_Put___init__ := funOf (st := s_Put___init__) F77,
      b_Put___init__ := (funOf (st := s_Put___init__) F77).binds (ps := ["self", "pipes", "pipe", "word"]) fun _ _ _ _ _ _ us hl => match us, hl with | [_, _, _, _], _ => rfl,
      F_Take___init__ := funOf (st := s_Take___init__) F78,
      b_Take___init__ := (funOf (st := s_Take___init__) F78).binds (ps := ["self", "pipes", "pipe"]) fun _ _ _ _ _ _ us hl => match us, hl with | [_, _, _], _ => rfl,
      F_End___init__ := funOf (st := s_End___init__) F79,
      b_End___init__ := (funOf (st := s_End___init__) F79).binds (ps := ["self", "pipes", "pipe"]) fun _ _ _ _ _ _ us hl => match us, hl with | [_, _, _], _ => rfl,
      F_law := funOf (st := s_law) F80,
      b_law := (funOf (st := s_law) F80).binds (ps := ["_law_script"]) fun _ _ _ _ _ _ us hl => match us, hl with | [_], _ => rfl,
      g_law := He.glo_ok X G (c.d.fact 65 (f := .glo "law") rfl),
      cl_Stack := He.cls_ok (c.d.fact 66 (f := .cls "Stack") rfl),
      gc_Stack := He.glo_ok X G (c.d.fact 67 (f := .glo "Stack") rfl),
      mk_Stack := He.mkr_ok (c.d.fact 68 (f := .mkr "Stack") rfl),
      cl_Slices := He.cls_ok (c.d.fact 69 (f := .cls "Slices") rfl),
      gc_Slices := He.glo_ok X G (c.d.fact 70 (f := .glo "Slices") rfl),
      mk_Slices := He.mkr_ok (c.d.fact 71 (f := .mkr "Slices") rfl),
      cl_Frames := He.cls_ok (c.d.fact 72 (f := .cls "Frames") rfl),
      gc_Frames := He.glo_ok X G (c.d.fact 73 (f := .glo "Frames") rfl),
      mk_Frames := He.mkr_ok (c.d.fact 74 (f := .mkr "Frames") rfl),
      cl_Disk := He.cls_ok (c.d.fact 75 (f := .cls "Disk") rfl),
      gc_Disk := He.glo_ok X G (c.d.fact 76 (f := .glo "Disk") rfl),
      mk_Disk := He.mkr_ok (c.d.fact 77 (f := .mkr "Disk") rfl),
      cl_Types := He.cls_ok (c.d.fact 78 (f := .cls "Types") rfl),
      gc_Types := He.glo_ok X G (c.d.fact 79 (f := .glo "Types") rfl),
      mk_Types := He.mkr_ok (c.d.fact 80 (f := .mkr "Types") rfl),
      cl_Blocks := He.cls_ok (c.d.fact 81 (f := .cls "Blocks") rfl),
      gc_Blocks := He.glo_ok X G (c.d.fact 82 (f := .glo "Blocks") rfl),
      mk_Blocks := He.mkr_ok (c.d.fact 83 (f := .mkr "Blocks") rfl),
      cl_Net := He.cls_ok (c.d.fact 84 (f := .cls "Net") rfl),
      gc_Net := He.glo_ok X G (c.d.fact 85 (f := .glo "Net") rfl),
      mk_Net := He.mkr_ok (c.d.fact 86 (f := .mkr "Net") rfl),
      cl_Pages := He.cls_ok (c.d.fact 87 (f := .cls "Pages") rfl),
      gc_Pages := He.glo_ok X G (c.d.fact 88 (f := .glo "Pages") rfl),
      mk_Pages := He.mkr_ok (c.d.fact 89 (f := .mkr "Pages") rfl),
      cl_Kernel := He.cls_ok (c.d.fact 90 (f := .cls "Kernel") rfl),
      gc_Kernel := He.glo_ok X G (c.d.fact 91 (f := .glo "Kernel") rfl),
      mk_Kernel := He.mkr_ok (c.d.fact 92 (f := .mkr "Kernel") rfl),
      cl_Memory := He.cls_ok (c.d.fact 93 (f := .cls "Memory") rfl),
      gc_Memory := He.glo_ok X G (c.d.fact 94 (f := .glo "Memory") rfl),
      mk_Memory := He.mkr_ok (c.d.fact 95 (f := .mkr "Memory") rfl),
      cl_Pipes := He.cls_ok (c.d.fact 96 (f := .cls "Pipes") rfl),
      gc_Pipes := He.glo_ok X G (c.d.fact 97 (f := .glo "Pipes") rfl),
      mk_Pipes := He.mkr_ok (c.d.fact 98 (f := .mkr "Pipes") rfl),
      cl_Make := He.cls_ok (c.d.fact 99 (f := .cls "Make") rfl),
      gc_Make := He.glo_ok X G (c.d.fact 100 (f := .glo "Make") rfl),
      mk_Make := He.mkr_ok (c.d.fact 101 (f := .mkr "Make") rfl),
      cl_Put := He.cls_ok (c.d.fact 102 (f := .cls "Put") rfl),
      gc_Put := He.glo_ok X G (c.d.fact 103 (f := .glo "Put") rfl),
      mk_Put := He.mkr_ok (c.d.fact 104 (f := .mkr "Put") rfl),
      cl_Take := He.cls_ok (c.d.fact 105 (f := .cls "Take") rfl),
      gc_Take := He.glo_ok X G (c.d.fact 106 (f := .glo "Take") rfl),
      mk_Take := He.mkr_ok (c.d.fact 107 (f := .mkr "Take") rfl),
      cl_End := He.cls_ok (c.d.fact 108 (f := .cls "End") rfl),
      gc_End := He.glo_ok X G (c.d.fact 109 (f := .glo "End") rfl),
      mk_End := He.mkr_ok (c.d.fact 110 (f := .mkr "End") rfl),
      na_Blocks_buffers := He.noat_ok (c.d.fact 111 (f := .noat "Blocks" "buffers") rfl),
      na_Blocks_disk := He.noat_ok (c.d.fact 112 (f := .noat "Blocks" "disk") rfl),
      na_Blocks_fresh := He.noat_ok (c.d.fact 113 (f := .noat "Blocks" "fresh") rfl),
      na_Blocks_kept := He.noat_ok (c.d.fact 114 (f := .noat "Blocks" "kept") rfl),
      na_Blocks_shares := He.noat_ok (c.d.fact 115 (f := .noat "Blocks" "shares") rfl),
      na_Blocks_types := He.noat_ok (c.d.fact 116 (f := .noat "Blocks" "types") rfl),
      na_Disk_blocks := He.noat_ok (c.d.fact 117 (f := .noat "Disk" "blocks") rfl),
      na_Disk_held := He.noat_ok (c.d.fact 118 (f := .noat "Disk" "held") rfl),
      na_Disk_waiting := He.noat_ok (c.d.fact 119 (f := .noat "Disk" "waiting") rfl),
      na_End_frame := He.noat_ok (c.d.fact 120 (f := .noat "End" "frame") rfl),
      na_End_pipe := He.noat_ok (c.d.fact 121 (f := .noat "End" "pipe") rfl),
      na_End_pipes := He.noat_ok (c.d.fact 122 (f := .noat "End" "pipes") rfl),
      na_End_stage := He.noat_ok (c.d.fact 123 (f := .noat "End" "stage") rfl),
      na_End_wanted := He.noat_ok (c.d.fact 124 (f := .noat "End" "wanted") rfl),
      na_Frames_holders := He.noat_ok (c.d.fact 125 (f := .noat "Frames" "holders") rfl),
      na_Frames_lost := He.noat_ok (c.d.fact 126 (f := .noat "Frames" "lost") rfl),
      na_Frames_many := He.noat_ok (c.d.fact 127 (f := .noat "Frames" "many") rfl),
      na_Frames_offers := He.noat_ok (c.d.fact 128 (f := .noat "Frames" "offers") rfl),
      na_Frames_order := He.noat_ok (c.d.fact 129 (f := .noat "Frames" "order") rfl),
      na_Frames_shares := He.noat_ok (c.d.fact 130 (f := .noat "Frames" "shares") rfl),
      na_Frames_wanted := He.noat_ok (c.d.fact 131 (f := .noat "Frames" "wanted") rfl),
      na_Frames_words := He.noat_ok (c.d.fact 132 (f := .noat "Frames" "words") rfl),
      na_Kernel_blocks := He.noat_ok (c.d.fact 133 (f := .noat "Kernel" "blocks") rfl),
      na_Kernel_disk := He.noat_ok (c.d.fact 134 (f := .noat "Kernel" "disk") rfl),
      na_Kernel_frames := He.noat_ok (c.d.fact 135 (f := .noat "Kernel" "frames") rfl),
      na_Kernel_net := He.noat_ok (c.d.fact 136 (f := .noat "Kernel" "net") rfl),
      na_Kernel_pages := He.noat_ok (c.d.fact 137 (f := .noat "Kernel" "pages") rfl),
      na_Kernel_slices := He.noat_ok (c.d.fact 138 (f := .noat "Kernel" "slices") rfl),
      na_Make_pipe := He.noat_ok (c.d.fact 139 (f := .noat "Make" "pipe") rfl),
      na_Make_pipes := He.noat_ok (c.d.fact 140 (f := .noat "Make" "pipes") rfl),
      na_Make_stage := He.noat_ok (c.d.fact 141 (f := .noat "Make" "stage") rfl),
      na_Make_wanted := He.noat_ok (c.d.fact 142 (f := .noat "Make" "wanted") rfl),
      na_Memory_others := He.noat_ok (c.d.fact 143 (f := .noat "Memory" "others") rfl),
      na_Memory_share := He.noat_ok (c.d.fact 144 (f := .noat "Memory" "share") rfl),
      na_Memory_tables := He.noat_ok (c.d.fact 145 (f := .noat "Memory" "tables") rfl),
      na_Net_gone := He.noat_ok (c.d.fact 146 (f := .noat "Net" "gone") rfl),
      na_Net_made := He.noat_ok (c.d.fact 147 (f := .noat "Net" "made") rfl),
      na_Net_missed := He.noat_ok (c.d.fact 148 (f := .noat "Net" "missed") rfl),
      na_Net_regions := He.noat_ok (c.d.fact 149 (f := .noat "Net" "regions") rfl),
      na_Net_rings := He.noat_ok (c.d.fact 150 (f := .noat "Net" "rings") rfl),
      na_Net_rows := He.noat_ok (c.d.fact 151 (f := .noat "Net" "rows") rfl),
      na_Net_tree := He.noat_ok (c.d.fact 152 (f := .noat "Net" "tree") rfl),
      na_Pages_entries := He.noat_ok (c.d.fact 153 (f := .noat "Pages" "entries") rfl),
      na_Pages_frames := He.noat_ok (c.d.fact 154 (f := .noat "Pages" "frames") rfl),
      na_Pipes_memory := He.noat_ok (c.d.fact 155 (f := .noat "Pipes" "memory") rfl),
      na_Pipes_rows := He.noat_ok (c.d.fact 156 (f := .noat "Pipes" "rows") rfl),
      na_Put_pipe := He.noat_ok (c.d.fact 157 (f := .noat "Put" "pipe") rfl),
      na_Put_pipes := He.noat_ok (c.d.fact 158 (f := .noat "Put" "pipes") rfl),
      na_Put_wanted := He.noat_ok (c.d.fact 159 (f := .noat "Put" "wanted") rfl),
      na_Slices_holder := He.noat_ok (c.d.fact 160 (f := .noat "Slices" "holder") rfl),
      na_Slices_owners := He.noat_ok (c.d.fact 161 (f := .noat "Slices" "owners") rfl),
      na_Slices_round := He.noat_ok (c.d.fact 162 (f := .noat "Slices" "round") rfl),
      na_Slices_slot := He.noat_ok (c.d.fact 163 (f := .noat "Slices" "slot") rfl),
      na_Slices_unit := He.noat_ok (c.d.fact 164 (f := .noat "Slices" "unit") rfl),
      na_Stack_machines := He.noat_ok (c.d.fact 165 (f := .noat "Stack" "machines") rfl),
      na_Stack_result := He.noat_ok (c.d.fact 166 (f := .noat "Stack" "result") rfl),
      na_Take_pipe := He.noat_ok (c.d.fact 167 (f := .noat "Take" "pipe") rfl),
      na_Take_pipes := He.noat_ok (c.d.fact 168 (f := .noat "Take" "pipes") rfl),
      na_Take_wanted := He.noat_ok (c.d.fact 169 (f := .noat "Take" "wanted") rfl),
      na_Types_blocks := He.noat_ok (c.d.fact 170 (f := .noat "Types" "blocks") rfl),
      na_Types_known := He.noat_ok (c.d.fact 171 (f := .noat "Types" "known") rfl),
      na_Types_makers := He.noat_ok (c.d.fact 172 (f := .noat "Types" "makers") rfl),
      n_abs := He.free_ok X G (c.d.fact 173 (f := .free "abs") rfl),
      n_all := He.free_ok X G (c.d.fact 174 (f := .free "all") rfl),
      n_any := He.free_ok X G (c.d.fact 175 (f := .free "any") rfl),
      n_bool := He.free_ok X G (c.d.fact 176 (f := .free "bool") rfl),
      n_int := He.free_ok X G (c.d.fact 177 (f := .free "int") rfl),
      n_isinstance := He.free_ok X G (c.d.fact 178 (f := .free "isinstance") rfl),
      n_len := He.free_ok X G (c.d.fact 179 (f := .free "len") rfl),
      n_list := He.free_ok X G (c.d.fact 180 (f := .free "list") rfl),
      n_max := He.free_ok X G (c.d.fact 181 (f := .free "max") rfl),
      n_min := He.free_ok X G (c.d.fact 182 (f := .free "min") rfl),
      n_range := He.free_ok X G (c.d.fact 183 (f := .free "range") rfl),
      n_str := He.free_ok X G (c.d.fact 184 (f := .free "str") rfl),
      n_sum := He.free_ok X G (c.d.fact 185 (f := .free "sum") rfl),
      n_tuple := He.free_ok X G (c.d.fact 186 (f := .free "tuple") rfl),
      k_BAD_kernel := ktB_ok X G (ex0),
      k_DATA := qDATA,
      k_EMPTY := ktB_ok X G (ex1),
      k_ENVIRONMENTS := qENVIRONMENTS,
      k_FIELDS := qFIELDS,
      k_FIRST_PAGE := qFIRST_PAGE,
      k_FIRST_TYPE := qFIRST_TYPE,
      k_LEAST := qLEAST,
      k_LEAST_BLOCKS := qLEAST_BLOCKS,
      k_LENGTHS_kernel := qLENGTHS_kernel,
      k_MOST_BLOCKS := qMOST_BLOCKS,
      k_MOST_GUARDS := qMOST_GUARDS,
      k_MOST_frames := qMOST_frames,
      k_MOST_pipes := qMOST_pipes,
      k_OWN := qOWN,
      k_PAGES := qPAGES,
      k_RIGHTS := ktB_ok X G (ex3),
      k_ROOT := qROOT,
      k_SLOTS_memory := qSLOTS_memory,
      k_SLOTS_slices := qSLOTS_slices,
      k_TOP := qTOP,
      k_WORDS := qWORDS,
      gc_NotValid := He.glo_ok X G (c.d.fact 206 (f := .glo "NotValid") rfl),
      x_NotValid := (He.exc_ok (c.d.fact 207 (f := .exc "NotValid") rfl)).1,
      kp_NotValid := (He.exc_ok (c.d.fact 207 (f := .exc "NotValid") rfl)).2.1,
      bs_NotValid := (He.exc_ok (c.d.fact 207 (f := .exc "NotValid") rfl)).2.2.1,
      ty_NotValid := (He.exc_ok (c.d.fact 207 (f := .exc "NotValid") rfl)).2.2.2,
      ex_NotValid := He.exm_ok (c.d.fact 208 (f := .exm "NotValid" "NotValid" true) rfl) }
  have b := FunD.bindsA (ps := ["_law_script"]) F80 fun _ _ _ _ _ _ us hl => match us, hl with | [_], _ => rfl
  exact ⟨_, fun s v => b s [v] rfl, fun base _ _ => law_of (ok_law (P := P) (w := w) (base := base) O) law_true⟩
end Lw
open PySem PySem.W PySem.Calls PyProof.Rows
theorem PySem.Challenge.cw_steadhold_k40_pipes_are_rows_of_eight_wo_holds : PySem.Challenge.rw_steadhold_k40_pipes_are_rows_of_eight_wo.Holds := by
  w_on; o_law
  refine HandSHeadRun.head_any (r := OpenLaw.row PySem.Challenge.rw_steadhold_k40_pipes_are_rows_of_eight_wo) (q := Lw.eQ) (H := Lw.eH) (ob := Lw.eO) (M := 12000) (loose := Lw.eNm) (d := HandSHeadRun.topDef (OpenLaw.row PySem.Challenge.rw_steadhold_k40_pipes_are_rows_of_eight_wo).prog 88) (kwd := []) Lw.eO_eq
    (by kernel_rfl) (fun s => by kernel_rfl) Lw.run_w (by kernel_rfl) (by kernel_rfl) (by kernel_rfl) (by rfl) (by first | assumption | decide +kernel) (by decide +kernel) ⟨rfl, rfl, rfl, rfl, rfl, by decide +kernel⟩ ?hw ?hc
  case hw => w_witness2
  case hc =>
    refine PyM.walk_ofC (l := PySem.Challenge.rw_steadhold_k40_pipes_are_rows_of_eight_wo) (n := 63) (k := 10) (x := "_law_script") (CX := fun w => L2.CX (PySem.Challenge.rw_steadhold_k40_pipes_are_rows_of_eight_wo).prog w) rfl (by decide) (by kernel_rfl) ⟨rfl, by decide, by decide⟩ ?F (fun _ _ _ _ _ z => by
      obtain ⟨_, _, _, _, _, _, _, _, _, _, _, _, z⟩ := z
      exact z)
    intro w mg fa h Y G hmg0
    obtain ⟨K, KX, c, cx⟩ := Y
    have hmg : mg ("law" : PySem.Str) = some (.ref fa) := by
      have e : (HandSHeadRun.topDef (OpenLaw.row PySem.Challenge.rw_steadhold_k40_pipes_are_rows_of_eight_wo).prog 88).name = ("law" : PySem.Str) := by kernel_rfl
      rw [← e]
      exact hmg0
    obtain ⟨fd, hb, hF⟩ := Lw.facts (P := (PySem.Challenge.rw_steadhold_k40_pipes_are_rows_of_eight_wo).prog) (w := w) KX G hmg c cx
    exact ⟨K, fd, PyM.spLaw K, KX, hb, fun H a ns hl hO hS => ⟨a, ns, rfl, hl, hO, hS, fun _ => rfl⟩, hF⟩
