import PyProof.Rows.All
import Wide.All
import OpenK.AllK
import Wide.FinOn
import HandS.ForMost
import HandS.Style
import HandS.Wide
import HandS.Deep
import HandS.TupAny
import HandS.Flow
import HandS.IsInst
import HandS.RaiseMore
import HandS.Text
import HandS.Conv
import KE.DataMinMax
import KE.SortData
import PyProof.MaxThree
import PyProof.ReprRoads
import HandS.Iter
import HandS.Zip
import PyProof.AutoSeq1
import HandS.Ends
import PyProof.ReprLen
import PySem.Challenge.RW_allitreaches_k06_whole_cells_of_points
set_option Elab.async false
set_option linter.all false
set_option maxRecDepth 100000
set_option maxHeartbeats 4000000
/-! Rk0: what a law's text computes, as plain Lean functions of a small state. -/
namespace Rk
open PySem PySem.Spec PyProof.Rows L2

/-- values that may be kept anywhere -/
inductive W where
  | non | bl (b : Bool) | int (i : Int) | str (x : Str) | tup (xs : List W) | rol (xs : List W) | loc (n : Nat) | glo (n : Nat) | ty (n : String)
/-- objects that may be shared -/
inductive Ob where
  | lst (xs : List W)
  | dK (kvs : List (Key × W))
  | dT (kvs : List (List Key × W))
  | ins (c : Nat) (fs : List (Str × W))
/-- what an expression gives: a value, a list or dict that nobody else holds, or the list that slot i holds alone -/
inductive T where
  | w (x : W) | lst (xs : List W) | dK (kvs : List (Key × W)) | dT (kvs : List (List Key × W)) | sl (i : Nat)
structure S where
  sg : List (Option T)
  M : List Ob
structure Exn where
  cls : Nat
  val : W
inductive Out (A : Type) where
  | ok (a : A) (s : S) | ex (x : Exn) (s : S) | bad
inductive Fl where
  | nx (s : S) | rt (t : T) (M : List Ob) | bk (s : S) | ct (s : S) | ex (x : Exn) (s : S) | bad
inductive Res where
  | ok (t : T) (M : List Ob) | ex (x : Exn) (M : List Ob) | bad
/-- the defs, by their names' numbers -/
structure Orc where
  fn : Nat → List T → List Ob → Res
  ini : Nat → List T → List Ob → Res

@[simp] def Out.bind {A B : Type} : Out A → (A → S → Out B) → Out B
  | .ok a s, f => f a s
  | .ex x s, _ => .ex x s
  | .bad, _ => .bad
@[simp] def Out.fl {A : Type} : Out A → (A → S → Fl) → Fl
  | .ok a s, f => f a s
  | .ex x s, _ => .ex x s
  | .bad, _ => .bad
@[simp] def Fl.then : Fl → (S → Fl) → Fl
  | .nx s, f => f s
  | .rt t M, _ => .rt t M
  | .bk s, _ => .bk s
  | .ct s, _ => .ct s
  | .ex x s, _ => .ex x s
  | .bad, _ => .bad
abbrev DE := S → Out T
abbrev DW := S → Out W
abbrev DB := S → Out Bool
abbrev DTs := S → Out (List T)
abbrev DWs := S → Out (List W)
abbrev DS := S → Fl
abbrev DG := W → S → Out Unit

/-! ### looks -/
/-- a value as what it is: a slot's list by value -/
@[simp] def S.get (s : S) : T → Option T
  | .sl i => (match s.sg[i]? with
      | some (some (.lst xs)) => some (.lst xs)
      | some (some (.dK kvs)) => some (.dK kvs)
      | some (some (.dT kvs)) => some (.dT kvs)
      | some (some (.w x)) => some (.w x)
      | _ => none)
  | t => some t
/-- a list's or tuple's items -/
@[simp] def seqT (s : S) : T → Option (List W)
  | .w (.tup xs) => some xs
  | .w (.rol xs) => some xs
  | .w (.loc n) => (match s.M[n]? with
      | some (.lst xs) => some xs
      | _ => none)
  | .lst xs => some xs
  | _ => none
@[simp] def seqOf (s : S) (t : T) : Option (List W) := (s.get t).bind (seqT s)
/-- a list's items -/
@[simp] def lstT (s : S) : T → Option (List W)
  | .w (.rol xs) => some xs
  | .w (.loc n) => (match s.M[n]? with
      | some (.lst xs) => some xs
      | _ => none)
  | .lst xs => some xs
  | _ => none
@[simp] def lstOf (s : S) (t : T) : Option (List W) := (s.get t).bind (lstT s)

/-! ### data -/
@[simp] def omap {A B : Type} (f : A → Option B) : List A → Option (List B)
  | [] => some []
  | x :: xs => (f x).bind fun y => (omap f xs).map (y :: ·)
/-- as plain data; n: how deep -/
def datW (M : List Ob) : Nat → W → Option PyData
  | _, .non => some .none
  | _, .bl b => some (.bool b)
  | _, .int i => some (.int i)
  | _, .str x => some (.str x)
  | n + 1, .tup xs => (omap (datW M n) xs).map .tuple
  | n + 1, .rol xs => (omap (datW M n) xs).map .list
  | n + 1, .loc l => (match M[l]? with
      | some (.lst xs) => (omap (datW M n) xs).map .list
      | _ => none)
  | _, _ => none
def DEEP : Nat := 40
def datT (s : S) : T → Option PyData
  | .w x => datW s.M DEEP x
  | .lst xs => (omap (datW s.M DEEP) xs).map .list
  | _ => none
def datOf (s : S) (t : T) : Option PyData := (s.get t).bind (datT s)

/-! ### keeping a value -/
@[simp] def esc : T → S → Out W
  | .w x, s => .ok x s
  | .lst xs, s => .ok (.loc s.M.length) ⟨s.sg, s.M ++ [.lst xs]⟩
  | .dK kvs, s => .ok (.loc s.M.length) ⟨s.sg, s.M ++ [.dK kvs]⟩
  | .dT kvs, s => .ok (.loc s.M.length) ⟨s.sg, s.M ++ [.dT kvs]⟩
  | .sl i, s => (match s.sg[i]? with
      | some (some (.lst xs)) => .ok (.loc s.M.length) ⟨s.sg.set i (some (.w (.loc s.M.length))), s.M ++ [.lst xs]⟩
      | some (some (.dK kvs)) => .ok (.loc s.M.length) ⟨s.sg.set i (some (.w (.loc s.M.length))), s.M ++ [.dK kvs]⟩
      | some (some (.dT kvs)) => .ok (.loc s.M.length) ⟨s.sg.set i (some (.w (.loc s.M.length))), s.M ++ [.dT kvs]⟩
      | some (some (.w x)) => .ok x s
      | _ => .bad)
/-- handed on: what nobody else holds stays so -/
@[simp] def giv : T → S → Out T
  | .sl i, s => (esc (.sl i) s).bind fun x s => .ok (.w x) s
  | t, s => .ok t s
@[simp] def dW (d : DE) : DW := fun s => (d s).bind esc
@[simp] def dT (d : DE) : DE := fun s => (d s).bind giv
@[simp] def dWs : List DE → DWs
  | [] => fun s => .ok [] s
  | d :: r => fun s => (dW d s).bind fun x s => (dWs r s).bind fun xs s => .ok (x :: xs) s
@[simp] def dTs : List DE → DTs
  | [] => fun s => .ok [] s
  | d :: r => fun s => (dT d s).bind fun x s => (dTs r s).bind fun xs s => .ok (x :: xs) s
end Rk

/-! Rk1: how the small state lies in the machine's heap. -/
namespace Rk
open PySem PySem.Spec PyProof.Rows L2

structure Cf where
  K : PySem.W.Frag
  ga : Nat → Option Addr

section
variable (C : Cf) (rho : List Addr) (H : Hp)
/-- a list that is only read -/
def RdOnly (a : Addr) (vs : List V) : Prop :=
  (∃ o, H a = some (.frz o (.lst vs))) ∨
    ∃ (o : Obj) (its : Array Value) (n : Nat), C.K.lookup a = some o ∧ o.cls = .type "list" ∧ o.dict = none ∧ o.data = .seq its n ∧ its.size ≤ sizeLine ∧ Vals vs its.toList
mutual
def RW : W → V → Prop
  | .non, v => v = .non
  | .bl b, v => v = .bl b
  | .int i, v => v = .int i
  | .str x, v => v = .str x
  | .tup xs, v => ∃ a vs, v = .ref a ∧ SqT C.K H a vs ∧ RWs xs vs
  | .rol xs, v => ∃ a vs, v = .ref a ∧ RdOnly C H a vs ∧ RWs xs vs
  | .loc n, v => ∃ a, v = .ref a ∧ rho[n]? = some a
  | .glo n, v => ∃ a, v = .ref a ∧ C.ga n = some a
  | .ty n, v => v = .ty n
def RWs : List W → List V → Prop
  | [], vs => vs = []
  | x :: xs, vs => ∃ y ys, vs = y :: ys ∧ RW x y ∧ RWs xs ys
end
abbrev RKV {k : Type} : List (k × W) → List (k × V) → Prop := Paired fun p q => p.1 = q.1 ∧ RW C rho H p.2 q.2
/-- what stands at an address that nobody else holds -/
def RB : Ob → Addr → Prop
  | .lst xs, a => ∃ vs, H a = some (.lst vs) ∧ RWs C rho H xs vs
  | .dK kvs, a => ∃ us, H a = some (.dK us) ∧ RKV C rho H kvs us
  | .dT kvs, a => ∃ us, H a = some (.dT us) ∧ RKV C rho H kvs us
  | .ins c fs, a => ∃ Ca dx us, H a = some (.ins Ca dx us) ∧ C.ga c = some Ca ∧ RKV C rho H fs us
/-- a value that is no slot's, with the addresses that it alone holds -/
def R0 : T → V → List Addr → Prop
  | .w x, v, fr => RW C rho H x v ∧ fr = []
  | .lst xs, v, fr => ∃ a, v = .ref a ∧ fr = [a] ∧ RB C rho H (.lst xs) a
  | .dK kvs, v, fr => ∃ a, v = .ref a ∧ fr = [a] ∧ RB C rho H (.dK kvs) a
  | .dT kvs, v, fr => ∃ a, v = .ref a ∧ fr = [a] ∧ RB C rho H (.dT kvs) a
  | .sl _, _, _ => False
def RSl : List (Option T) → L2.St → List Addr → Prop
  | [], vs, os => vs = [] ∧ os = []
  | none :: r, vs, os => ∃ y ys, vs = y :: ys ∧ RSl r ys os
  | some t :: r, vs, os => ∃ v ys fr os', vs = some v :: ys ∧ os = fr ++ os' ∧ R0 C rho H t v fr ∧ RSl r ys os'
end
theorem RWs.length {C : Cf} {rho : List Addr} {H : Hp} : ∀ {xs : List W} {vs : List V}, RWs C rho H xs vs → xs.length = vs.length
  | [], vs, h => by simp only [RWs] at h; subst h; rfl
  | x :: xs, vs, h => by
    simp only [RWs] at h
    obtain ⟨y, ys, rfl, _, t⟩ := h
    simp [RWs.length t]
theorem RWs.get {C : Cf} {rho : List Addr} {H : Hp} : ∀ {xs : List W} {vs : List V} {i : Nat} {x : W}, RWs C rho H xs vs → xs[i]? = some x → ∃ v, vs[i]? = some v ∧ RW C rho H x v
  | [], vs, i, x, h, e => by simp at e
  | y :: xs, vs, 0, x, h, e => by
    simp only [RWs] at h
    obtain ⟨z, zs, rfl, r, t⟩ := h
    simp at e; subst e
    exact ⟨z, by simp, r⟩
  | y :: xs, vs, i + 1, x, h, e => by
    simp only [RWs] at h
    obtain ⟨z, zs, rfl, r, t⟩ := h
    obtain ⟨v, h1, h2⟩ := RWs.get (i := i) t (by simpa using e)
    exact ⟨v, by simpa using h1, h2⟩
theorem RWs.append {C : Cf} {rho : List Addr} {H : Hp} : ∀ {xs ys : List W} {vs us : List V}, RWs C rho H xs vs → RWs C rho H ys us → RWs C rho H (xs ++ ys) (vs ++ us)
  | [], ys, vs, us, h, g => by simp only [RWs] at h; subst h; simpa using g
  | x :: xs, ys, vs, us, h, g => by
    simp only [RWs] at h
    obtain ⟨z, zs, rfl, r, t⟩ := h
    simp only [List.cons_append, RWs]
    exact ⟨z, zs ++ us, rfl, r, RWs.append t g⟩
theorem RWs.one {C : Cf} {rho : List Addr} {H : Hp} {x : W} {v : V} (h : RW C rho H x v) : RWs C rho H [x] [v] := by
  simp only [RWs]; exact ⟨v, [], rfl, h, rfl⟩

/-! ### what is kept -/
/-- the kinds that are never held alone -/
def Still : HO → Prop
  | .tup _ => True
  | .frz _ _ => True
  | _ => False
/-- from H to H': whatever is tracked beside mg is kept and does not come into mg' -/
def Kp (mg : List Addr) (H : Hp) (mg' : List Addr) (H' : Hp) : Prop := ∀ b o, H b = some o → b ∉ mg → H' b = some o ∧ b ∉ mg'
theorem Kp.refl {mg : List Addr} {H : Hp} : Kp mg H mg H := fun _ _ e n => ⟨e, n⟩
theorem Kp.trans {m1 m2 m3 : List Addr} {H1 H2 H3 : Hp} (a : Kp m1 H1 m2 H2) (b : Kp m2 H2 m3 H3) : Kp m1 H1 m3 H3 := fun c o e n => by
  obtain ⟨e1, n1⟩ := a c o e n
  exact b c o e1 n1
theorem Kp.mono {m1 m2 m3 m4 : List Addr} {H1 H2 : Hp} (a : Kp m1 H1 m2 H2) (h1 : ∀ b ∈ m1, b ∈ m3) (h2 : ∀ b ∈ m4, b ∈ m2) : Kp m3 H1 m4 H2 := fun c o e n => by
  obtain ⟨e1, n1⟩ := a c o e fun z => n (h1 c z)
  exact ⟨e1, fun z => n1 (h2 c z)⟩
/-- still things are kept, the shared ones keep their addresses -/
structure Up (rho : List Addr) (H : Hp) (rho' : List Addr) (H' : Hp) : Prop where
  pre : rho <+: rho'
  still : ∀ b o, H b = some o → Still o → H' b = some o
theorem Up.refl {rho : List Addr} {H : Hp} : Up rho H rho H := ⟨List.prefix_refl _, fun _ _ e _ => e⟩
theorem Up.trans {r1 r2 r3 : List Addr} {H1 H2 H3 : Hp} (a : Up r1 H1 r2 H2) (b : Up r2 H2 r3 H3) : Up r1 H1 r3 H3 :=
  ⟨a.pre.trans b.pre, fun c o e n => b.still c o (a.still c o e n) n⟩
section
variable {C : Cf} {rho rho' : List Addr} {H H' : Hp}
theorem Up.loc (u : Up rho H rho' H') {n : Nat} {a : Addr} (h : rho[n]? = some a) : rho'[n]? = some a := by
  obtain ⟨t, rfl⟩ := u.pre
  rw [List.getElem?_append_left (List.getElem?_eq_some_iff.mp h).1]; exact h
theorem Up.sqT (u : Up rho H rho' H') {K : PySem.W.Frag} {a : Addr} {vs : List V} (h : SqT K H a vs) : SqT K H' a vs := by
  rcases h with (h | ⟨o, h⟩) | h
  · exact .inl (.inl (u.still _ _ h trivial))
  · exact .inl (.inr ⟨o, u.still _ _ h trivial⟩)
  · exact .inr h
theorem Up.rdOnly (u : Up rho H rho' H') {a : Addr} {vs : List V} (h : RdOnly C H a vs) : RdOnly C H' a vs := by
  rcases h with ⟨o, h⟩ | h
  · exact .inl ⟨o, u.still _ _ h trivial⟩
  · exact .inr h
theorem RdOnly.seq {a : Addr} {vs : List V} (h : RdOnly C H a vs) : SqL C.K H a vs := by
  rcases h with ⟨o, h⟩ | h
  · exact .inl (.inr ⟨o, h⟩)
  · exact .inr h
mutual
theorem RW.up (u : Up rho H rho' H') : ∀ {x : W} {v : V}, RW C rho H x v → RW C rho' H' x v
  | .non, v, h => by simpa only [RW] using h
  | .bl b, v, h => by simpa only [RW] using h
  | .int i, v, h => by simpa only [RW] using h
  | .str x, v, h => by simpa only [RW] using h
  | .tup xs, v, h => by
    simp only [RW] at h ⊢
    obtain ⟨a, vs, e, q, r⟩ := h
    exact ⟨a, vs, e, u.sqT q, RWs.up u r⟩
  | .rol xs, v, h => by
    simp only [RW] at h ⊢
    obtain ⟨a, vs, e, q, r⟩ := h
    exact ⟨a, vs, e, u.rdOnly q, RWs.up u r⟩
  | .loc n, v, h => by
    simp only [RW] at h ⊢
    obtain ⟨a, e, q⟩ := h
    exact ⟨a, e, u.loc q⟩
  | .glo n, v, h => by simpa only [RW] using h
  | .ty n, v, h => by simpa only [RW] using h
theorem RWs.up (u : Up rho H rho' H') : ∀ {xs : List W} {vs : List V}, RWs C rho H xs vs → RWs C rho' H' xs vs
  | [], vs, h => by simpa only [RWs] using h
  | x :: xs, vs, h => by
    simp only [RWs] at h ⊢
    obtain ⟨y, ys, e, r, t⟩ := h
    exact ⟨y, ys, e, RW.up u r, RWs.up u t⟩
end
theorem RKV.up {k : Type} (u : Up rho H rho' H') {xs : List (k × W)} {vs : List (k × V)} (h : RKV C rho H xs vs) : RKV C rho' H' xs vs :=
  Paired.mapP h fun _ _ z => ⟨z.1, z.2.up u⟩
/-- an object whose own address keeps its content -/
theorem RB.up (u : Up rho H rho' H') {b : Ob} {a : Addr} (k : ∀ o, H a = some o → H' a = some o) (h : RB C rho H b a) : RB C rho' H' b a := by
  cases b with
  | lst xs => obtain ⟨vs, e, r⟩ := h; exact ⟨vs, k _ e, r.up u⟩
  | dK kvs => obtain ⟨vs, e, r⟩ := h; exact ⟨vs, k _ e, RKV.up u r⟩
  | dT kvs => obtain ⟨vs, e, r⟩ := h; exact ⟨vs, k _ e, RKV.up u r⟩
  | ins c fs => obtain ⟨Ca, dx, us, e, g, r⟩ := h; exact ⟨Ca, dx, us, k _ e, g, RKV.up u r⟩
theorem R0.up (u : Up rho H rho' H') {t : T} {v : V} {fr : List Addr} (k : ∀ a ∈ fr, ∀ o, H a = some o → H' a = some o) (h : R0 C rho H t v fr) : R0 C rho' H' t v fr := by
  cases t with
  | w x => exact ⟨h.1.up u, h.2⟩
  | lst xs => obtain ⟨a, rfl, rfl, r⟩ := h; exact ⟨a, rfl, rfl, r.up u (k a (by simp))⟩
  | dK kvs => obtain ⟨a, rfl, rfl, r⟩ := h; exact ⟨a, rfl, rfl, r.up u (k a (by simp))⟩
  | dT kvs => obtain ⟨a, rfl, rfl, r⟩ := h; exact ⟨a, rfl, rfl, r.up u (k a (by simp))⟩
  | sl i => exact h.elim
theorem RSl.up (u : Up rho H rho' H') : ∀ {ts : List (Option T)} {vs : L2.St} {os : List Addr}, (∀ a ∈ os, ∀ o, H a = some o → H' a = some o) → RSl C rho H ts vs os → RSl C rho' H' ts vs os
  | [], vs, os, k, h => h
  | none :: r, vs, os, k, h => by
    obtain ⟨y, ys, e, t⟩ := h
    exact ⟨y, ys, e, RSl.up u k t⟩
  | some t :: r, vs, os, k, h => by
    obtain ⟨v, ys, fr, os', rfl, rfl, q, t⟩ := h
    exact ⟨v, ys, fr, os', rfl, rfl, q.up u fun a ha => k a (List.mem_append_left _ ha), RSl.up u (fun a ha => k a (List.mem_append_right _ ha)) t⟩
/-- an object held alone is tracked, and is not still -/
theorem RB.at {b : Ob} {a : Addr} (h : RB C rho H b a) : ∃ o, H a = some o ∧ ¬ Still o := by
  cases b with
  | lst xs => obtain ⟨vs, e, _⟩ := h; exact ⟨_, e, fun z => z⟩
  | dK kvs => obtain ⟨vs, e, _⟩ := h; exact ⟨_, e, fun z => z⟩
  | dT kvs => obtain ⟨vs, e, _⟩ := h; exact ⟨_, e, fun z => z⟩
  | ins c fs => obtain ⟨Ca, dx, us, e, _⟩ := h; exact ⟨_, e, fun z => z⟩
theorem R0.at {t : T} {v : V} {fr : List Addr} (h : R0 C rho H t v fr) : ∀ a ∈ fr, ∃ o, H a = some o ∧ ¬ Still o := by
  cases t with
  | w x => obtain ⟨_, rfl⟩ := h; intro a ha; cases ha
  | lst xs => obtain ⟨a, rfl, rfl, r⟩ := h; intro b hb; obtain rfl := List.mem_singleton.mp hb; exact r.at
  | dK kvs => obtain ⟨a, rfl, rfl, r⟩ := h; intro b hb; obtain rfl := List.mem_singleton.mp hb; exact r.at
  | dT kvs => obtain ⟨a, rfl, rfl, r⟩ := h; intro b hb; obtain rfl := List.mem_singleton.mp hb; exact r.at
  | sl i => exact h.elim
theorem RSl.at : ∀ {ts : List (Option T)} {vs : L2.St} {os : List Addr}, RSl C rho H ts vs os → ∀ a ∈ os, ∃ o, H a = some o ∧ ¬ Still o
  | [], vs, os, h => by
    obtain ⟨_, rfl⟩ := h; intro a ha; cases ha
  | none :: r, vs, os, h => by
    obtain ⟨y, ys, e, t⟩ := h
    exact RSl.at t
  | some t :: r, vs, os, h => by
    obtain ⟨v, ys, fr, os', rfl, rfl, q, t⟩ := h
    intro a ha
    rcases List.mem_append.mp ha with z | z
    · exact q.at a z
    · exact RSl.at t a z
theorem RSl.length : ∀ {ts : List (Option T)} {vs : L2.St} {os : List Addr}, RSl C rho H ts vs os → ts.length = vs.length
  | [], vs, os, h => by obtain ⟨rfl, _⟩ := h; rfl
  | none :: r, vs, os, h => by
    obtain ⟨y, ys, rfl, t⟩ := h
    simp [RSl.length t]
  | some t :: r, vs, os, h => by
    obtain ⟨v, ys, fr, os', rfl, rfl, q, t⟩ := h
    simp [RSl.length t]
end

/-! ### the state in the heap -/
structure Rel (C : Cf) (rho own : List Addr) (s : S) (sg : L2.St) (H : Hp) : Prop where
  sl : RSl C rho H s.sg sg own
  mem : Paired (RB C rho H) s.M rho
  nd : (rho ++ own).Nodup
section
variable {C : Cf} {rho own : List Addr} {s : S} {sg : L2.St} {H H' : Hp}
theorem mem_at {M : List Ob} {rho rho' : List Addr} (h : Paired (RB C rho' H) M rho) : ∀ a ∈ rho, ∃ o, H a = some o ∧ ¬ Still o := fun a ha => by
  obtain ⟨b, hb⟩ := Paired.right h a ha
  exact hb.at
theorem Rel.at (r : Rel C rho own s sg H) : ∀ a ∈ rho ++ own, ∃ o, H a = some o ∧ ¬ Still o := fun a ha =>
  (List.mem_append.mp ha).elim (mem_at r.mem a) (r.sl.at a)
theorem Rel.still (r : Rel C rho own s sg H) {b : Addr} {o : HO} (e : H b = some o) (n : Still o) : b ∉ rho ++ own := fun hb => by
  obtain ⟨o', e', n'⟩ := r.at b hb
  rw [e] at e'; cases e'; exact n' n
theorem Rel.len (r : Rel C rho own s sg H) : s.M.length = rho.length := Paired.length r.mem
theorem Paired.getI {a b : Type} {F : a → b → Prop} : ∀ {xs : List a} {ys : List b} {i : Nat} {x : a}, Paired F xs ys → xs[i]? = some x → ∃ y, ys[i]? = some y ∧ F x y
  | _, _, _, _, .nil, e => by simp at e
  | _, _, 0, _, .cons r _, e => by simp at e; subst e; exact ⟨_, rfl, r⟩
  | _, _, i + 1, x, .cons _ t, e => by
    obtain ⟨u, h1, h2⟩ := Paired.getI (i := i) (x := x) t (by simpa using e)
    exact ⟨u, by simpa using h1, h2⟩
theorem Rel.ob (r : Rel C rho own s sg H) {n : Nat} {b : Ob} (e : s.M[n]? = some b) : ∃ a, rho[n]? = some a ∧ RB C rho H b a := Paired.getI r.mem e
end
/-- behind an expression (or a statement): what is in flight: fr -/
structure Nxt (C : Cf) (rho own : List Addr) (H : Hp) (rho' own' : List Addr) (s' : S) (sg' : L2.St) (H' : Hp) (fr : List Addr) : Prop where
  rel : Rel C rho' own' s' sg' H'
  pre : rho <+: rho'
  nd : (rho' ++ own' ++ fr).Nodup
  kp : Kp (rho ++ own) H (rho' ++ own' ++ fr) H'
section
variable {C : Cf} {rho own rho1 own1 rho2 own2 fr1 fr2 : List Addr} {s s1 s2 : S} {sg sg1 sg2 : L2.St} {H H1 H2 : Hp}
theorem Nxt.refl (r : Rel C rho own s sg H) : Nxt C rho own H rho own s sg H [] := ⟨r, List.prefix_refl _, by simpa using r.nd, by simpa using Kp.refl⟩
theorem Nxt.up (r : Rel C rho own s sg H) (n : Nxt C rho own H rho1 own1 s1 sg1 H1 fr1) : Up rho H rho1 H1 := ⟨n.pre, fun b o e z => (n.kp b o e (r.still e z)).1⟩
theorem Nxt.trans (n : Nxt C rho own H rho1 own1 s1 sg1 H1 fr1) (m : Nxt C rho1 own1 H1 rho2 own2 s2 sg2 H2 fr2) : Nxt C rho own H rho2 own2 s2 sg2 H2 fr2 :=
  ⟨m.rel, n.pre.trans m.pre, m.nd, fun b o e z => by
    obtain ⟨e1, z1⟩ := n.kp b o e z
    exact m.kp b o e1 fun q => z1 (List.mem_append_left _ q)⟩
/-- what was in flight ahead stays so -/
theorem Nxt.both (n : Nxt C rho own H rho1 own1 s1 sg1 H1 fr1) (tr : ∀ a ∈ fr1, ∃ o, H1 a = some o) (m : Nxt C rho1 own1 H1 rho2 own2 s2 sg2 H2 fr2) : Nxt C rho own H rho2 own2 s2 sg2 H2 (fr1 ++ fr2) := by
  have out : ∀ a ∈ fr1, a ∉ rho1 ++ own1 := fun a ha hb => (List.nodup_append.mp n.nd).2.2 a hb a ha rfl
  have k1 : ∀ a ∈ fr1, a ∉ rho2 ++ own2 ++ fr2 := fun a ha => by
    obtain ⟨o, e⟩ := tr a ha
    exact (m.kp a o e (out a ha)).2
  refine ⟨m.rel, n.pre.trans m.pre, ?_, fun b o e z => ?_⟩
  · rw [List.nodup_append]
    have h2 := List.nodup_append.mp m.nd
    refine ⟨h2.1, ?_, ?_⟩
    · rw [List.nodup_append]
      refine ⟨(List.nodup_append.mp n.nd).2.1, h2.2.1, ?_⟩
      rintro a ha b hb rfl
      exact k1 a ha (List.mem_append_right _ hb)
    · rintro a ha b hb rfl
      rcases List.mem_append.mp hb with hb | hb
      · exact k1 a hb (List.mem_append_left _ ha)
      · exact h2.2.2 a ha a hb rfl
  · obtain ⟨e1, z1⟩ := n.kp b o e z
    obtain ⟨e2, z2⟩ := m.kp b o e1 fun q => z1 (List.mem_append_left _ q)
    refine ⟨e2, fun q => ?_⟩
    rcases List.mem_append.mp q with q | q
    · exact z2 (List.mem_append_left _ q)
    · rcases List.mem_append.mp q with q | q
      · exact z1 (List.mem_append_right _ q)
      · exact z2 (List.mem_append_right _ q)
/-- dropped in flight -/
theorem Nxt.drop (n : Nxt C rho own H rho1 own1 s1 sg1 H1 fr1) (h : ∀ a ∈ fr2, a ∈ fr1) (nd : fr2.Nodup) : Nxt C rho own H rho1 own1 s1 sg1 H1 fr2 := by
  refine ⟨n.rel, n.pre, ?_, n.kp.mono (fun _ z => z) fun b hb => ?_⟩
  · rw [List.nodup_append]
    have h2 := List.nodup_append.mp n.nd
    exact ⟨h2.1, nd, fun a ha b hb => h2.2.2 a ha b (h b hb)⟩
  · rcases List.mem_append.mp hb with q | q
    · exact List.mem_append_left _ q
    · exact List.mem_append_right _ (h b q)
theorem Nxt.drop0 (n : Nxt C rho own H rho1 own1 s1 sg1 H1 fr1) : Nxt C rho own H rho1 own1 s1 sg1 H1 [] := n.drop (fun _ z => nomatch z) List.nodup_nil
end
end Rk

/-! Rk2: the readings of semantic functions; steps on the state. -/
namespace Rk
open PySem PySem.Spec PyProof.Rows L2

section
variable {C : Cf} {rho own : List Addr} {s : S} {sg : L2.St} {H H' : Hp}
/-- a slot, taken out and put back -/
theorem RSl.split : ∀ {ts : List (Option T)} {vs : L2.St} {os : List Addr} {i : Nat} {t : T}, RSl C rho H ts vs os → ts[i]? = some (some t) →
    ∃ v o1 fr o2, vs[i]? = some (some v) ∧ R0 C rho H t v fr ∧ os = o1 ++ fr ++ o2 ∧
      ∀ t' v' fr', R0 C rho H t' v' fr' → RSl C rho H (ts.set i (some t')) (vs.set i (some v')) (o1 ++ fr' ++ o2)
  | [], vs, os, i, t, h, e => by simp at e
  | none :: r, vs, os, 0, t, h, e => by simp at e
  | none :: r, vs, os, i + 1, t, h, e => by
    obtain ⟨y, ys, rfl, h⟩ := h
    obtain ⟨v, o1, fr, o2, e1, r1, e2, p⟩ := RSl.split (i := i) (t := t) h (by simpa using e)
    exact ⟨v, o1, fr, o2, by simpa using e1, r1, e2, fun t' v' fr' q => ⟨y, _, rfl, p t' v' fr' q⟩⟩
  | some u :: r, vs, os, 0, t, h, e => by
    obtain ⟨v, ys, fr, os', rfl, rfl, q, h⟩ := h
    have e' : u = t := by simpa using e
    subst e'
    refine ⟨v, [], fr, os', by simp, q, by simp, fun t' v' fr' q' => ?_⟩
    exact ⟨v', ys, fr', os', rfl, by simp, q', h⟩
  | some u :: r, vs, os, i + 1, t, h, e => by
    obtain ⟨v0, ys, fr0, os', rfl, rfl, q, h⟩ := h
    obtain ⟨v, o1, fr, o2, e1, r1, rfl, p⟩ := RSl.split (i := i) (t := t) h (by simpa using e)
    refine ⟨v, fr0 ++ o1, fr, o2, by simpa using e1, r1, by simp, fun t' v' fr' q' => ?_⟩
    exact ⟨v0, _, fr0, o1 ++ fr' ++ o2, rfl, by simp, q, p t' v' fr' q'⟩
/-- a slot is filled, whatever stood there -/
theorem RSl.put : ∀ {ts : List (Option T)} {vs : L2.St} {os : List Addr} {i : Nat} {t : T} {v : V} {fr : List Addr}, RSl C rho H ts vs os → i < ts.length → R0 C rho H t v fr →
    ∃ o1 old o2, os = o1 ++ old ++ o2 ∧ RSl C rho H (ts.set i (some t)) (vs.set i (some v)) (o1 ++ fr ++ o2)
  | [], vs, os, i, t, v, fr, h, e, q => by simp at e
  | none :: r, vs, os, 0, t, v, fr, h, e, q => by
    obtain ⟨y, ys, rfl, h⟩ := h
    exact ⟨[], [], os, by simp, ⟨v, ys, fr, os, rfl, by simp, q, h⟩⟩
  | some u :: r, vs, os, 0, t, v, fr, h, e, q => by
    obtain ⟨v0, ys, fr0, os', rfl, rfl, q0, h⟩ := h
    exact ⟨[], fr0, os', by simp, ⟨v, ys, fr, os', rfl, by simp, q, h⟩⟩
  | none :: r, vs, os, i + 1, t, v, fr, h, e, q => by
    obtain ⟨y, ys, rfl, h⟩ := h
    obtain ⟨o1, old, o2, e1, p⟩ := RSl.put (i := i) h (by simpa using e) q
    exact ⟨o1, old, o2, e1, ⟨y, _, rfl, p⟩⟩
  | some u :: r, vs, os, i + 1, t, v, fr, h, e, q => by
    obtain ⟨v0, ys, fr0, os', rfl, rfl, q0, h⟩ := h
    obtain ⟨o1, old, o2, rfl, p⟩ := RSl.put (i := i) h (by simpa using e) q
    exact ⟨fr0 ++ o1, old, o2, by simp, ⟨v0, _, fr0, o1 ++ fr ++ o2, rfl, by simp, q0, p⟩⟩
theorem set_self {a : Type} : ∀ {l : List a} {i : Nat} {x : a}, l[i]? = some x → l.set i x = l
  | [], i, x, e => by simp at e
  | y :: l, 0, x, e => by simp at e; subst e; rfl
  | y :: l, i + 1, x, e => by
    simp only [List.set_cons_succ]
    rw [set_self (by simpa using e)]

theorem Up.new {p : Addr} {o : HO} (n : H p = none) : Up rho H rho (upd H p o) := ⟨List.prefix_refl _, fun b u e _ => by rw [upd_ne (ne_of_none e n)]; exact e⟩
theorem kp_new {p : Addr} {o : HO} {mg : List Addr} (n : H p = none) : Kp mg H (mg ++ [p]) (upd H p o) := fun b u e z => by
  have h := ne_of_none e n
  exact ⟨by rw [upd_ne h]; exact e, by simp [z, h]⟩
theorem upd_keep {p : Addr} {o : HO} (n : H p = none) {a : Addr} (u : HO) (e : H a = some u) : upd H p o a = some u := by rw [upd_ne (ne_of_none e n)]; exact e
theorem Rel.new {p : Addr} {o : HO} (r : Rel C rho own s sg H) (n : H p = none) : Rel C rho own s sg (upd H p o) :=
  ⟨r.sl.up (Up.new n) fun a _ u e => upd_keep n u e, Paired.mapP r.mem fun b a z => z.up (Up.new n) fun u e => upd_keep n u e, r.nd⟩
/-- a new object, in flight -/
theorem Nxt.new {p : Addr} {o : HO} (r : Rel C rho own s sg H) (n : H p = none) : Nxt C rho own H rho own s sg (upd H p o) [p] := by
  refine ⟨r.new n, List.prefix_refl _, ?_, kp_new n⟩
  rw [List.nodup_append]
  refine ⟨r.nd, by simp, fun a ha b hb => ?_⟩
  obtain rfl := List.mem_singleton.mp hb
  obtain ⟨o', e, _⟩ := r.at a ha
  exact ne_of_none e n
/-- .. dropped at once (or still) -/
theorem Nxt.new0 {p : Addr} {o : HO} (r : Rel C rho own s sg H) (n : H p = none) : Nxt C rho own H rho own s sg (upd H p o) [] := (Nxt.new r n).drop0
end

/-- a value in an expression -/
def RT (C : Cf) (rho : List Addr) (H : Hp) (sg : L2.St) (t : T) (v : V) (fr : List Addr) : Prop := match t with
  | .sl i => sg[i]? = some (some v) ∧ fr = []
  | t => R0 C rho H t v fr
section
variable {C : Cf} {rho own rho' own' fr fr' : List Addr} {s s' : S} {sg : L2.St} {H H' : Hp} {t : T} {v : V}
theorem RT.of0 (h : R0 C rho H t v fr) : RT C rho H sg t v fr := by
  cases t with
  | sl i => exact h.elim
  | _ => exact h
theorem RT.at (h : RT C rho H sg t v fr) : ∀ a ∈ fr, ∃ o, H a = some o ∧ ¬ Still o := by
  cases t with
  | sl i => obtain ⟨_, rfl⟩ := h; intro a ha; cases ha
  | w x => exact R0.at (t := .w x) h
  | lst x => exact R0.at (t := .lst x) h
  | dK x => exact R0.at (t := .dK x) h
  | dT x => exact R0.at (t := .dT x) h
theorem RT.nd (h : RT C rho H sg t v fr) : fr.Nodup := by
  cases t with
  | sl i => obtain ⟨_, rfl⟩ := h; exact List.nodup_nil
  | w x => obtain ⟨_, rfl⟩ := h; exact List.nodup_nil
  | lst x => obtain ⟨_, _, rfl, _⟩ := h; simp
  | dK x => obtain ⟨_, _, rfl, _⟩ := h; simp
  | dT x => obtain ⟨_, _, rfl, _⟩ := h; simp
theorem RT.up (u : Up rho H rho' H') (k : ∀ a ∈ fr, ∀ o, H a = some o → H' a = some o) (h : RT C rho H sg t v fr) : RT C rho' H' sg t v fr := by
  cases t with
  | sl i => exact h
  | w x => exact R0.up (t := .w x) u k h
  | lst x => exact R0.up (t := .lst x) u k h
  | dK x => exact R0.up (t := .dK x) u k h
  | dT x => exact R0.up (t := .dT x) u k h
/-- a value that waits while something else is done -/
theorem RT.wait (h : RT C rho H sg t v fr) (r : Rel C rho own s sg H) (out : ∀ a ∈ fr, a ∉ rho ++ own) (n : Nxt C rho own H rho' own' s' sg H' fr') : RT C rho' H' sg t v fr :=
  h.up (n.up r) fun a ha o e => (n.kp a o e (out a ha)).1
/-- a value as what it is now -/
theorem Rel.get (r : Rel C rho own s sg H) (h : RT C rho H sg t v fr) {u : T} (e : s.get t = some u) : ∃ fr', R0 C rho H u v fr' := by
  cases t with
  | sl i =>
    obtain ⟨e1, rfl⟩ := h
    have go : ∀ t : T, s.sg[i]? = some (some t) → ∃ fr', R0 C rho H t v fr' := fun t q => by
      obtain ⟨v', o1, fr, o2, e2, r2, _, _⟩ := r.sl.split q
      rw [e1] at e2; cases e2
      exact ⟨fr, r2⟩
    simp only [S.get] at e
    split at e
    · rename_i xs q; cases e; exact go _ q
    · rename_i xs q; cases e; exact go _ q
    · rename_i xs q; cases e; exact go _ q
    · rename_i xs q; cases e; exact go _ q
    · cases e
  | w x => simp only [S.get, Option.some.injEq] at e; subst e; exact ⟨_, h⟩
  | lst x => simp only [S.get, Option.some.injEq] at e; subst e; exact ⟨_, h⟩
  | dK x => simp only [S.get, Option.some.injEq] at e; subst e; exact ⟨_, h⟩
  | dT x => simp only [S.get, Option.some.injEq] at e; subst e; exact ⟨_, h⟩
/-- a list that may be read -/
theorem Rel.lst (r : Rel C rho own s sg H) (h : RT C rho H sg t v fr) {xs : List W} (e : lstOf s t = some xs) : ∃ a vs, v = .ref a ∧ SqL C.K H a vs ∧ RWs C rho H xs vs := by
  unfold lstOf at e
  cases q : s.get t with
  | none => rw [q] at e; cases e
  | some u =>
    rw [q] at e
    obtain ⟨fr', h'⟩ := r.get h q
    simp only [Option.bind_some] at e
    unfold lstT at e
    split at e
    · cases e
      obtain ⟨h', _⟩ := h'
      simp only [RW] at h'
      obtain ⟨a, vs, rfl, q, rs⟩ := h'
      exact ⟨a, vs, rfl, q.seq, rs⟩
    · split at e
      · rename_i n _ ys q
        cases e
        obtain ⟨h', _⟩ := h'
        simp only [RW] at h'
        obtain ⟨a, rfl, qa⟩ := h'
        obtain ⟨a', qa', vs, eh, rs⟩ := r.ob q
        rw [qa] at qa'; cases qa'
        exact ⟨a, vs, rfl, SqL.of eh, rs⟩
      · cases e
    · cases e
      obtain ⟨a, rfl, _, vs, eh, rs⟩ := h'
      exact ⟨a, vs, rfl, SqL.of eh, rs⟩
    · cases e
theorem Rel.seq (r : Rel C rho own s sg H) (h : RT C rho H sg t v fr) {xs : List W} (e : seqOf s t = some xs) : ∃ a vs, v = .ref a ∧ (SqL C.K H a vs ∨ SqT C.K H a vs) ∧ RWs C rho H xs vs := by
  by_cases l : lstOf s t = some xs
  · obtain ⟨a, vs, e1, e2, e3⟩ := r.lst h l
    exact ⟨a, vs, e1, .inl e2, e3⟩
  · unfold seqOf at e
    cases q : s.get t with
    | none => rw [q] at e; cases e
    | some u =>
      rw [q] at e
      obtain ⟨fr', h'⟩ := r.get h q
      simp only [Option.bind_some] at e
      unfold seqT at e
      split at e
      · cases e
        obtain ⟨h', _⟩ := h'
        simp only [RW] at h'
        obtain ⟨a, vs, rfl, q, rs⟩ := h'
        exact ⟨a, vs, rfl, .inr q, rs⟩
      · exact absurd (by unfold lstOf; rw [q]; simpa using e) l
      · exact absurd (by unfold lstOf; rw [q]; simpa using e) l
      · exact absurd (by unfold lstOf; rw [q]; simpa using e) l
      · cases e
end

/-! ### the readings -/
def tE (C : Cf) (d : DE) : TE := fun sg H Q => ∃ rho own s, Rel C rho own s sg H ∧ ∃ t s', d s = .ok t s' ∧
  ∀ rho' own' H' v fr, Nxt C rho own H rho' own' s' sg H' fr → RT C rho' H' sg t v fr → Q v H'
def tW (C : Cf) (d : DW) : TE := fun sg H Q => ∃ rho own s, Rel C rho own s sg H ∧ ∃ x s', d s = .ok x s' ∧
  ∀ rho' own' H' v, Nxt C rho own H rho' own' s' sg H' [] → RW C rho' H' x v → Q v H'
def tB (C : Cf) (d : DB) : TT := fun sg H Q => ∃ rho own s, Rel C rho own s sg H ∧ ∃ b s', d s = .ok b s' ∧
  ∀ rho' own' H', Nxt C rho own H rho' own' s' sg H' [] → Q b H'
def RTs (C : Cf) (rho : List Addr) (H : Hp) : List T → List V → List Addr → Prop
  | [], vs, fr => vs = [] ∧ fr = []
  | t :: ts, vs, fr => ∃ v ys f1 f2, vs = v :: ys ∧ fr = f1 ++ f2 ∧ R0 C rho H t v f1 ∧ RTs C rho H ts ys f2
def tTs (C : Cf) (d : DTs) : TA := fun sg H Q => ∃ rho own s, Rel C rho own s sg H ∧ ∃ ts s', d s = .ok ts s' ∧
  ∀ rho' own' H' vs fr, Nxt C rho own H rho' own' s' sg H' fr → RTs C rho' H' ts vs fr → Q vs H'
def tWs (C : Cf) (d : DWs) : TA := fun sg H Q => ∃ rho own s, Rel C rho own s sg H ∧ ∃ xs s', d s = .ok xs s' ∧
  ∀ rho' own' H' vs, Nxt C rho own H rho' own' s' sg H' [] → RWs C rho' H' xs vs → Q vs H'
/-- behind a def: the slots are gone -/
structure NxtR (C : Cf) (rho own : List Addr) (H : Hp) (rho' : List Addr) (M' : List Ob) (H' : Hp) (fr : List Addr) : Prop where
  mem : Paired (RB C rho' H') M' rho'
  pre : rho <+: rho'
  nd : (rho' ++ fr).Nodup
  kp : Kp (rho ++ own) H (rho' ++ fr) H'
/-- the slots beside A stand as they stood -/
def Frm (A : List Nat) (sg sg' : L2.St) : Prop := sg'.length = sg.length ∧ ∀ j, j ∉ A → sg'[j]? = sg[j]?
theorem Frm.refl {A : List Nat} {sg : L2.St} : Frm A sg sg := ⟨rfl, fun _ _ => rfl⟩
theorem Frm.trans {A : List Nat} {s1 s2 s3 : L2.St} (a : Frm A s1 s2) (b : Frm A s2 s3) : Frm A s1 s3 := ⟨b.1.trans a.1, fun j h => (b.2 j h).trans (a.2 j h)⟩
theorem Frm.mono {A B : List Nat} {s1 s2 : L2.St} (a : Frm A s1 s2) (h : ∀ j ∈ A, j ∈ B) : Frm B s1 s2 := ⟨a.1, fun j n => a.2 j fun z => n (h j z)⟩
theorem Frm.set {A : List Nat} {sg : L2.St} {i : Nat} {x : Option V} (h : i ∈ A) : Frm A sg (sg.set i x) := ⟨List.length_set, fun j n => by
  rw [List.getElem?_set_ne]
  rintro rfl
  exact n h⟩
def EndS (C : Cf) (A : List Nat) (rho own : List Addr) (sg : L2.St) (H : Hp) (D : Ends) : Fl → Prop
  | .nx s' => ∀ rho' own' sg' H', Nxt C rho own H rho' own' s' sg' H' [] → Frm A sg sg' → D.nx sg' H'
  | .bk s' => ∀ rho' own' sg' H', Nxt C rho own H rho' own' s' sg' H' [] → Frm A sg sg' → D.bk sg' H'
  | .ct s' => ∀ rho' own' sg' H', Nxt C rho own H rho' own' s' sg' H' [] → Frm A sg sg' → D.ct sg' H'
  | .rt t M' => ∀ rho' H' v fr, NxtR C rho own H rho' M' H' fr → R0 C rho' H' t v fr → D.rt v H'
  | _ => False
def tS (C : Cf) (A : List Nat) (d : DS) : TS := fun D sg H => ∃ rho own s, Rel C rho own s sg H ∧ EndS C A rho own sg H D (d s)
theorem _root_.L2.PE.weak {X : Cx} {e : Expr} {t t' : TE} (h : PE X e t) (w : ∀ sg H Q, t' sg H Q → t sg H Q) : PE X e t' := ⟨fun pins s sg H Q I q => h.run pins s sg H Q I (w sg H Q q)⟩
theorem _root_.L2.PT.weak {X : Cx} {e : Expr} {t t' : TT} (h : PT X e t) (w : ∀ sg H Q, t' sg H Q → t sg H Q) : PT X e t' := ⟨fun pins s sg H Q I q => h.run pins s sg H Q I (w sg H Q q)⟩
theorem _root_.L2.PA.weak {X : Cx} {e : List Expr} {t t' : TA} (h : PA X e t) (w : ∀ sg H Q, t' sg H Q → t sg H Q) : PA X e t' := ⟨fun pos pins s sg H Q I q => h.run pos pins s sg H Q I (w sg H Q q)⟩
theorem _root_.L2.PS.weak {X : Cx} {e : Stmt} {t t' : TS} (h : PS X e t) (w : ∀ D sg H, t' D sg H → t D sg H) : PS X e t' := ⟨fun pins s sg H D I q => h.run pins s sg H D I (w D sg H q)⟩
theorem _root_.L2.PSs.weak {X : Cx} {e : List Stmt} {t t' : TS} (h : PSs X e t) (w : ∀ D sg H, t' D sg H → t D sg H) : PSs X e t' := ⟨fun pins s sg H D I q => h.run pins s sg H D I (w D sg H q)⟩
end Rk

/-! Rk3: values kept; argument lists; names, constants, tuples, lists. -/
namespace Rk
open PySem PySem.Spec PyProof.Rows L2

section
variable {C : Cf} {rho own rho1 own1 fr : List Addr} {s s1 s2 : S} {sg : L2.St} {H H1 : Hp} {t : T} {v : V}
theorem Up.snoc {a : Addr} : Up rho H (rho ++ [a]) H := ⟨List.prefix_append _ _, fun _ _ e _ => e⟩
theorem loc_last {a : Addr} (r : Rel C rho own s sg H) : (rho ++ [a])[s.M.length]? = some a := by rw [r.len]; simp
theorem perm_nd {a : Addr} {l1 l2 : List Addr} (h : (l1 ++ l2 ++ [a]).Nodup) : (l1 ++ [a] ++ l2).Nodup := by
  have p : (l1 ++ l2 ++ [a]).Perm (l1 ++ [a] ++ l2) := by
    rw [List.append_assoc, List.append_assoc]
    exact List.Perm.append_left l1 List.perm_append_comm
  exact p.nodup h
/-- what is in flight is shared from now on -/
theorem Nxt.share {ob : Ob} {a : Addr} (n : Nxt C rho own H rho1 own1 s1 sg H1 [a]) (rb : RB C rho1 H1 ob a) :
    Nxt C rho own H (rho1 ++ [a]) own1 ⟨s1.sg, s1.M ++ [ob]⟩ sg H1 [] ∧ RW C (rho1 ++ [a]) H1 (.loc s1.M.length) (.ref a) := by
  refine ⟨⟨⟨n.rel.sl.up Up.snoc fun _ _ _ e => e, Paired.snoc (Paired.mapP n.rel.mem fun b c z => z.up Up.snoc fun _ e => e) (rb.up Up.snoc fun _ e => e), perm_nd n.nd⟩, n.pre.trans (List.prefix_append _ _), ?_, ?_⟩, ?_⟩
  · rw [List.append_nil]; exact perm_nd n.nd
  · refine n.kp.mono (fun _ z => z) fun b hb => ?_
    simp only [List.mem_append, List.mem_singleton, List.not_mem_nil] at hb ⊢
    rcases hb with ((h | h) | h) | h
    · exact .inl (.inl h)
    · exact .inr h
    · exact .inl (.inr h)
    · exact h.elim
  · simp only [RW]; exact ⟨a, rfl, loc_last n.rel⟩
/-- a slot's own is shared from now on -/
theorem Nxt.shareSl {ob : Ob} {u : T} {i : Nat} (n : Nxt C rho own H rho1 own1 s1 sg H1 []) (e : s1.sg[i]? = some (some u)) (hv : sg[i]? = some (some v))
    (hu : ∀ fr, R0 C rho1 H1 u v fr → ∃ a, v = .ref a ∧ fr = [a] ∧ RB C rho1 H1 ob a) :
    ∃ rho2 own2, Nxt C rho own H rho2 own2 ⟨s1.sg.set i (some (.w (.loc s1.M.length))), s1.M ++ [ob]⟩ sg H1 [] ∧ RW C rho2 H1 (.loc s1.M.length) v := by
  obtain ⟨v', o1, fr, o2, e2, r2, e3, put⟩ := n.rel.sl.split e
  rw [hv] at e2; cases e2
  obtain ⟨a, rfl, rfl, rb⟩ := hu fr r2
  have hw : RW C (rho1 ++ [a]) H1 (.loc s1.M.length) (.ref a) := by simp only [RW]; exact ⟨a, rfl, loc_last n.rel⟩
  have hsl := n.rel.sl.up (C := C) (Up.snoc (a := a)) fun _ _ _ e => e
  obtain ⟨v', o1', fr', o2', e2, r2', e3', put'⟩ := hsl.split e
  rw [hv] at e2; cases e2
  have q := put' (.w (.loc s1.M.length)) (.ref a) [] ⟨hw, rfl⟩
  rw [set_self hv] at q
  have hfr : fr' = [a] := by
    cases u with
    | w x =>
      obtain ⟨_, h⟩ := r2
      cases h
    | lst x => obtain ⟨b, h1, h2, _⟩ := r2'; cases h1; exact h2
    | dK x => obtain ⟨b, h1, h2, _⟩ := r2'; cases h1; exact h2
    | dT x => obtain ⟨b, h1, h2, _⟩ := r2'; cases h1; exact h2
    | sl j => exact r2.elim
  subst hfr
  have nd := n.rel.nd
  rw [e3'] at nd
  have p : (rho1 ++ (o1' ++ [a] ++ o2')).Perm (rho1 ++ [a] ++ (o1' ++ [] ++ o2')) := by
    rw [List.append_assoc rho1]
    refine List.Perm.append_left rho1 ?_
    rw [List.append_nil, List.append_assoc, ← List.append_assoc [a]]
    refine (List.perm_append_comm_assoc o1' [a] o2').trans ?_
    rw [List.append_assoc]
  have nd2 := p.nodup nd
  refine ⟨rho1 ++ [a], o1' ++ [] ++ o2', ⟨⟨q, Paired.snoc (Paired.mapP n.rel.mem fun b c z => z.up Up.snoc fun _ e => e) (rb.up Up.snoc fun _ e => e), nd2⟩, n.pre.trans (List.prefix_append _ _), by rw [List.append_nil]; exact nd2, ?_⟩, hw⟩
  refine n.kp.mono (fun _ z => z) fun b hb => ?_
  rw [List.append_nil] at hb ⊢
  rw [e3']
  exact p.mem_iff.mpr hb
theorem esc_ok {x : W} (n : Nxt C rho own H rho1 own1 s1 sg H1 fr) (r : RT C rho1 H1 sg t v fr) (e : esc t s1 = .ok x s2) :
    ∃ rho2 own2, Nxt C rho own H rho2 own2 s2 sg H1 [] ∧ RW C rho2 H1 x v := by
  cases t with
  | w y =>
    simp only [esc, Out.ok.injEq] at e
    obtain ⟨rfl, rfl⟩ := e
    obtain ⟨h, rfl⟩ := r
    exact ⟨rho1, own1, n, h⟩
  | lst xs =>
    simp only [esc, Out.ok.injEq] at e
    obtain ⟨rfl, rfl⟩ := e
    obtain ⟨a, rfl, rfl, rb⟩ := r
    exact ⟨_, _, n.share rb⟩
  | dK xs =>
    simp only [esc, Out.ok.injEq] at e
    obtain ⟨rfl, rfl⟩ := e
    obtain ⟨a, rfl, rfl, rb⟩ := r
    exact ⟨_, _, n.share rb⟩
  | dT xs =>
    simp only [esc, Out.ok.injEq] at e
    obtain ⟨rfl, rfl⟩ := e
    obtain ⟨a, rfl, rfl, rb⟩ := r
    exact ⟨_, _, n.share rb⟩
  | sl i =>
    obtain ⟨hv, rfl⟩ := r
    simp only [esc] at e
    split at e
    · rename_i xs q
      simp only [Out.ok.injEq] at e
      obtain ⟨rfl, rfl⟩ := e
      exact n.shareSl q hv fun fr h => h
    · rename_i xs q
      simp only [Out.ok.injEq] at e
      obtain ⟨rfl, rfl⟩ := e
      exact n.shareSl q hv fun fr h => h
    · rename_i xs q
      simp only [Out.ok.injEq] at e
      obtain ⟨rfl, rfl⟩ := e
      exact n.shareSl q hv fun fr h => h
    · rename_i y q
      simp only [Out.ok.injEq] at e
      obtain ⟨rfl, rfl⟩ := e
      obtain ⟨v', o1, fr, o2, e2, r2, _, _⟩ := n.rel.sl.split q
      rw [hv] at e2; cases e2
      exact ⟨rho1, own1, n, r2.1⟩
    · cases e
theorem giv_ok {u : T} (n : Nxt C rho own H rho1 own1 s1 sg H1 fr) (r : RT C rho1 H1 sg t v fr) (e : giv t s1 = .ok u s2) :
    ∃ rho2 own2 fr2, Nxt C rho own H rho2 own2 s2 sg H1 fr2 ∧ R0 C rho2 H1 u v fr2 := by
  cases t with
  | sl i =>
    simp only [giv] at e
    cases q : esc (.sl i) s1 with
    | ok x s3 =>
      rw [q] at e
      simp only [Out.bind, Out.ok.injEq] at e
      obtain ⟨rfl, rfl⟩ := e
      obtain ⟨rho2, own2, n2, r2⟩ := esc_ok n r q
      exact ⟨rho2, own2, [], n2, r2, rfl⟩
    | ex x s3 => rw [q] at e; cases e
    | bad => rw [q] at e; cases e
  | w x => simp only [giv, Out.ok.injEq] at e; obtain ⟨rfl, rfl⟩ := e; exact ⟨rho1, own1, fr, n, r⟩
  | lst x => simp only [giv, Out.ok.injEq] at e; obtain ⟨rfl, rfl⟩ := e; exact ⟨rho1, own1, fr, n, r⟩
  | dK x => simp only [giv, Out.ok.injEq] at e; obtain ⟨rfl, rfl⟩ := e; exact ⟨rho1, own1, fr, n, r⟩
  | dT x => simp only [giv, Out.ok.injEq] at e; obtain ⟨rfl, rfl⟩ := e; exact ⟨rho1, own1, fr, n, r⟩
end
theorem bind_ok {A B : Type} {d : Out A} {f : A → S → Out B} {b : B} {s' : S} (h : d.bind f = .ok b s') : ∃ a s1, d = .ok a s1 ∧ f a s1 = .ok b s' := by
  cases d with
  | ok a s => exact ⟨a, s, rfl, h⟩
  | ex x s => cases h
  | bad => cases h

section
variable {X : Cx} {C : Cf} {e : Expr} {es : List Expr} {d : DE} {ds : List DE} {pos : Pos}
/-- a value kept -/
theorem pe_W (h : PE X e (tE C d)) : PE X e (tW C (dW d)) := h.weak fun sg H Q q => by
  obtain ⟨rho, own, s, r, x, s', e, k⟩ := q
  obtain ⟨t, s1, e1, e2⟩ := bind_ok e
  refine ⟨rho, own, s, r, t, s1, e1, fun rho1 own1 H1 v fr n rt => ?_⟩
  obtain ⟨rho2, own2, n2, r2⟩ := esc_ok n rt e2
  exact k rho2 own2 H1 v n2 r2
theorem pe_ofW {d : DW} (h : PE X e (tW C d)) : PE X e (tE C fun s => (d s).bind fun x s => .ok (.w x) s) := h.weak fun sg H Q q => by
  obtain ⟨rho, own, s, r, x, s', e, k⟩ := q
  obtain ⟨t, s1, e1, e2⟩ := bind_ok e
  simp only [Out.ok.injEq] at e2
  obtain ⟨rfl, rfl⟩ := e2
  exact ⟨rho, own, s, r, t, s1, e1, fun rho1 own1 H1 v n rt => k rho1 own1 H1 v [] n ⟨rt, rfl⟩⟩
/-- pieces of an argument list -/
theorem pa_Ws0 : PA X [] (tWs C (dWs [])) := pa_nil.weak fun sg H Q q => by
  obtain ⟨rho, own, s, r, x, s', e, k⟩ := q
  simp only [dWs, Out.ok.injEq] at e
  obtain ⟨rfl, rfl⟩ := e
  exact k rho own H [] (Nxt.refl r) rfl
theorem pa_Ws (h : PE X e (tE C d)) (hr : PA X es (tWs C (dWs ds))) (hs : starEach (e :: es) X.env = (false, eval e X.env) :: starEach es X.env) : PA X (e :: es) (tWs C (dWs (d :: ds))) :=
  (pa_cons (pe_W h) hr hs).weak fun sg H Q q => by
    obtain ⟨rho, own, s, r, xs, s', e, k⟩ := q
    obtain ⟨x, s1, e1, e2⟩ := bind_ok e
    obtain ⟨ys, s2, e4, e3⟩ := bind_ok e2
    simp only [Out.ok.injEq] at e3
    obtain ⟨rfl, rfl⟩ := e3
    refine ⟨rho, own, s, r, x, s1, e1, fun rho1 own1 H1 v n1 r1 => ⟨rho1, own1, s1, n1.rel, ys, _, e4, fun rho2 own2 H2 vs n2 r2 => ?_⟩⟩
    refine k rho2 own2 H2 (v :: vs) (n1.trans n2) ?_
    simp only [RWs]
    exact ⟨v, vs, rfl, r1.up (n2.up n1.rel), r2⟩
theorem R0.wait {rho own rho' own' fr fr' : List Addr} {s s' : S} {sg : L2.St} {H H' : Hp} {t : T} {v : V} (h : R0 C rho H t v fr) (r : Rel C rho own s sg H) (out : ∀ a ∈ fr, a ∉ rho ++ own) (n : Nxt C rho own H rho' own' s' sg H' fr') : R0 C rho' H' t v fr :=
  h.up (n.up r) fun a ha o e => (n.kp a o e (out a ha)).1
theorem Nxt.out {rho own rho' own' fr : List Addr} {s' : S} {sg : L2.St} {H H' : Hp} (n : Nxt C rho own H rho' own' s' sg H' fr) : ∀ a ∈ fr, a ∉ rho' ++ own' := fun a ha hb => (List.nodup_append.mp n.nd).2.2 a hb a ha rfl
theorem pa_Ts0 : PA X [] (tTs C (dTs [])) := pa_nil.weak fun sg H Q q => by
  obtain ⟨rho, own, s, r, x, s', e, k⟩ := q
  simp only [dTs, Out.ok.injEq] at e
  obtain ⟨rfl, rfl⟩ := e
  exact k rho own H [] [] (Nxt.refl r) ⟨rfl, rfl⟩
theorem pa_Ts (h : PE X e (tE C d)) (hr : PA X es (tTs C (dTs ds))) (hs : starEach (e :: es) X.env = (false, eval e X.env) :: starEach es X.env) : PA X (e :: es) (tTs C (dTs (d :: ds))) :=
  (pa_cons h hr hs).weak fun sg H Q q => by
    obtain ⟨rho, own, s, r, xs, s', e, k⟩ := q
    obtain ⟨x, s1, e1, e2⟩ := bind_ok e
    obtain ⟨ys, s2, e4, e3⟩ := bind_ok e2
    simp only [Out.ok.injEq] at e3
    obtain ⟨rfl, rfl⟩ := e3
    obtain ⟨t, s0, e0, e5⟩ := bind_ok e1
    refine ⟨rho, own, s, r, t, s0, e0, fun rho0 own0 H1 v fr0 n0 r0 => ?_⟩
    obtain ⟨rho1, own1, fr1, n1, r1⟩ := giv_ok n0 r0 e5
    refine ⟨rho1, own1, s1, n1.rel, ys, _, e4, fun rho2 own2 H2 vs fr2 n2 r2 => ?_⟩
    refine k rho2 own2 H2 (v :: vs) (fr1 ++ fr2) (n1.both (fun a ha => let ⟨o, e, _⟩ := r1.at a ha; ⟨o, e⟩) n2) ?_
    exact ⟨v, vs, fr1, fr2, rfl, rfl, r1.wait n1.rel n1.out n2, r2⟩
end

/-! ### names, constants, tuples, lists -/
@[simp] def dvar (i : Nat) : DE := fun s => match s.sg[i]? with
  | some (some (.w x)) => .ok (.w x) s
  | some (some _) => .ok (.sl i) s
  | _ => .bad
@[simp] def dcon (x : W) : DE := fun s => .ok (.w x) s
@[simp] def dtup (ds : List DE) : DE := fun s => (dWs ds s).bind fun xs s => if xs.length ≤ sizeLine then .ok (.w (.tup xs)) s else .bad
@[simp] def dlst (ds : List DE) : DE := fun s => (dWs ds s).bind fun xs s => if xs.length ≤ sizeLine then .ok (.lst xs) s else .bad
section
variable {X : Cx} {C : Cf} {e : Expr} {es : List Expr} {d : DE} {ds : List DE} {pos : Pos}
theorem pe_dvar {i : Nat} {x : Str} (hN : X.N[i]? = some x) (hv : Vis X.env.scope x) (hd : (x == ("__debug__" : Str)) = false) (hcd : (x == ("__classdict__" : Str)) = false) : PE X (.Name x pos) (tE C (dvar i)) :=
  (pe_var hN hv hd hcd).weak fun sg H Q q => by
    obtain ⟨rho, own, s, r, t, s', e, k⟩ := q
    simp only [dvar] at e
    split at e
    · rename_i x q
      simp only [Out.ok.injEq] at e
      obtain ⟨rfl, rfl⟩ := e
      obtain ⟨v, o1, fr, o2, e1, r1, _⟩ := r.sl.split q
      exact ⟨v, e1, k rho own H v [] (Nxt.refl r) ⟨r1.1, rfl⟩⟩
    · rename_i u nw q
      simp only [Out.ok.injEq] at e
      obtain ⟨rfl, rfl⟩ := e
      obtain ⟨v, o1, fr, o2, e1, r1, _⟩ := r.sl.split q
      exact ⟨v, e1, k rho own H v [] (Nxt.refl r) ⟨e1, rfl⟩⟩
    · cases e
theorem pe_dcon {x : W} {v : V} (h : PE X e (tC v)) (r : ∀ rho H, RW C rho H x v) : PE X e (tE C (dcon x)) := h.weak fun sg H Q q => by
  obtain ⟨rho, own, s, rl, t, s', e, k⟩ := q
  simp only [dcon, Out.ok.injEq] at e
  obtain ⟨rfl, rfl⟩ := e
  exact k rho own H v [] (Nxt.refl rl) ⟨r rho H, rfl⟩
theorem pe_dtup {k : Nat} (h : PA X es (tWs C (dWs ds))) : PE X (.Tuple es k pos) (tE C (dtup ds)) := (pe_tup h).weak fun sg H Q q => by
  obtain ⟨rho, own, s, rl, t, s', e, k⟩ := q
  obtain ⟨xs, s1, e1, e2⟩ := bind_ok e
  split at e2
  · rename_i hl
    simp only [Out.ok.injEq] at e2
    obtain ⟨rfl, rfl⟩ := e2
    refine ⟨rho, own, s, rl, xs, _, e1, fun rho1 own1 H1 vs n r => ⟨by rw [← r.length]; exact hl, fun p np => ?_⟩⟩
    refine k rho1 own1 _ (.ref p) [] (n.trans (Nxt.new0 n.rel np)) ⟨?_, rfl⟩
    simp only [RW]
    exact ⟨p, vs, rfl, SqT.of upd_same, r.up (Up.new np)⟩
  · cases e2
theorem pe_dlst (h : PA X es (tWs C (dWs ds))) : PE X (.List es pos) (tE C (dlst ds)) := (pe_lst h).weak fun sg H Q q => by
  obtain ⟨rho, own, s, rl, t, s', e, k⟩ := q
  obtain ⟨xs, s1, e1, e2⟩ := bind_ok e
  split at e2
  · rename_i hl
    simp only [Out.ok.injEq] at e2
    obtain ⟨rfl, rfl⟩ := e2
    refine ⟨rho, own, s, rl, xs, _, e1, fun rho1 own1 H1 vs n r => ⟨by rw [← r.length]; exact hl, fun p np => ?_⟩⟩
    exact k rho1 own1 _ (.ref p) [p] (n.trans (Nxt.new n.rel np)) ⟨p, rfl, rfl, vs, upd_same, r.up (Up.new np)⟩
  · cases e2
end
end Rk

/-! Rk4: operators and comparisons. -/
namespace Rk
open PySem PySem.Spec PyProof.Rows L2

/-- two values in, one out; nothing else changes -/
def r2 (C : Cf) (f : S → T → T → Option T) : R2 := fun x y H Q => ∃ rho own s sg t1 t2 f1 f2 t, Rel C rho own s sg H ∧ RT C rho H sg t1 x f1 ∧ RT C rho H sg t2 y f2 ∧ f s t1 t2 = some t ∧
  ∀ H' v fr, Nxt C rho own H rho own s sg H' fr → R0 C rho H' t v fr → Q v H'
section
variable {X : Cx} {C : Cf} {rho own fr : List Addr} {s : S} {sg : L2.St} {H : Hp} {t : T} {v : V}
theorem OpR.by {f : Value → Value → Sem Value} {r r' : R2} (h : OpR X f r) (w : ∀ x y H Q, r' x y H Q → r x y H Q) : OpR X f r' := fun pins s sg H x y v u Q I rx ry q => h pins s sg H x y v u Q I rx ry (w x y H Q q)
theorem OpR.none {f : Value → Value → Sem Value} : OpR X f (fun _ _ _ _ => False) := fun _ _ _ _ _ _ _ _ _ _ _ _ q => q.elim
theorem Rel.getInt (r : Rel C rho own s sg H) (h : RT C rho H sg t v fr) {i : Int} (e : s.get t = some (.w (.int i))) : v = .int i := by
  obtain ⟨fr', h', _⟩ := r.get h e
  simpa only [RW] using h'
theorem Rel.getStr (r : Rel C rho own s sg H) (h : RT C rho H sg t v fr) {i : Str} (e : s.get t = some (.w (.str i))) : v = .str i := by
  obtain ⟨fr', h', _⟩ := r.get h e
  simpa only [RW] using h'
theorem Rel.getBl (r : Rel C rho own s sg H) (h : RT C rho H sg t v fr) {i : Bool} (e : s.get t = some (.w (.bl i))) : v = .bl i := by
  obtain ⟨fr', h', _⟩ := r.get h e
  simpa only [RW] using h'
theorem Rel.getNon (r : Rel C rho own s sg H) (h : RT C rho H sg t v fr) (e : s.get t = some (.w .non)) : v = .non := by
  obtain ⟨fr', h', _⟩ := r.get h e
  simpa only [RW] using h'
theorem Rel.getTup (r : Rel C rho own s sg H) (h : RT C rho H sg t v fr) {xs : List W} (e : s.get t = some (.w (.tup xs))) : ∃ a vs, v = .ref a ∧ SqT C.K H a vs ∧ RWs C rho H xs vs := by
  obtain ⟨fr', h', _⟩ := r.get h e
  simpa only [RW] using h'
/-- the plain values -/
theorem r0_int {i : Int} : R0 C rho H (.w (.int i)) (.int i) [] := ⟨by simp only [RW], rfl⟩
theorem r0_bl {i : Bool} : R0 C rho H (.w (.bl i)) (.bl i) [] := ⟨by simp only [RW], rfl⟩
theorem r0_str {i : Str} : R0 C rho H (.w (.str i)) (.str i) [] := ⟨by simp only [RW], rfl⟩
theorem r0_non : R0 C rho H (.w .non) .non [] := ⟨by simp only [RW], rfl⟩
end

/-! ### sums and the like -/
def mulOk (i j : Int) : Bool := decide (i.natAbs < 18446744073709551616) || decide (j.natAbs < 18446744073709551616) || decide (i.natAbs.log2 + j.natAbs.log2 < 1000000)
def divOk (j : Int) : Bool := decide (j ≠ 0) && (decide (j.natAbs < 1073741824) || decide (j.natAbs.log2 < 9000))
def powOk (i n : Int) : Bool := decide (0 ≤ n) && ((decide (i.natAbs < 18446744073709551616) && decide (n ≤ 1000000)) || decide ((Builtin.Int.intBits i : Int) * n ≤ 134217728))
def shlOk (i n : Int) : Bool := decide (0 ≤ n) && decide (n ≤ 1000000) && (decide (i.natAbs < 18446744073709551616) || decide (i.natAbs.log2 < 1000000))
@[simp] def iDiv (i j : Int) : Int := if 0 < j then i / j else i.fdiv j
@[simp] def iMod (i j : Int) : Int := if 0 < j then i % j else i.fmod j
theorem mulOk_ok {i j : Int} (h : mulOk i j = true) : IntMulOk i j := by
  unfold mulOk at h
  simp only [Bool.or_eq_true, decide_eq_true_eq] at h
  rcases h with (h | h) | h
  · exact (CMul.ok (.inl (by omega)))
  · exact (CMul.ok (.inr (by omega)))
  · exact CMulW.ok h
theorem iDiv_eq {i j : Int} : iDiv i j = i.fdiv j := by
  unfold iDiv
  split
  · rw [Int.fdiv_eq_ediv_of_nonneg i (by omega)]
  · rfl
theorem iMod_eq {i j : Int} : iMod i j = i.fmod j := by
  unfold iMod
  split
  · rw [Int.fmod_eq_emod_of_nonneg i (by omega)]
  · rfl
/-- an operator on two ints -/
def intOp : Operator → Int → Int → Option Int
  | .Add, i, j => some (i + j)
  | .Sub, i, j => some (i - j)
  | .Mult, i, j => if mulOk i j then some (i * j) else none
  | .FloorDiv, i, j => if divOk j then some (iDiv i j) else none
  | .Mod, i, j => if decide (j ≠ 0) then some (iMod i j) else none
  | .Pow, i, j => if powOk i j then some (i ^ j.toNat) else none
  | .LShift, i, j => if shlOk i j then some (i * 2 ^ j.toNat) else none
  | .RShift, i, j => if decide (0 ≤ j) then some (i / 2 ^ j.toNat) else none
  | .BitAnd, i, j => some (Builtin.bitAnd i j)
  | .BitOr, i, j => some (Builtin.bitOr i j)
  | .BitXor, i, j => some (Builtin.bitXor i j)
  | _, _, _ => none
def rIntOp (op : Operator) : R2 := fun x y H Q => ∃ i j k, x = .int i ∧ y = .int j ∧ intOp op i j = some k ∧ Q (.int k) H
theorem bits_shl {i n : Int} (h : shlOk i n = true) : 0 ≤ n ∧ (Builtin.Int.intBits i : Int) + n ≤ 2 ^ 27 := by
  unfold shlOk at h
  simp only [Bool.and_eq_true, Bool.or_eq_true, decide_eq_true_eq] at h
  obtain ⟨⟨h0, h1⟩, h2⟩ := h
  refine ⟨h0, ?_⟩
  have hb : Builtin.Int.intBits i ≤ i.natAbs.log2 + 1 := by
    unfold Builtin.Int.intBits
    split <;> omega
  have hl : i.natAbs.log2 < 1000000 := by
    rcases h2 with h2 | h2
    · by_cases z : i.natAbs = 0
      · rw [z]; decide
      · have := (Nat.log2_lt z (k := 64)).mpr h2
        omega
    · exact h2
  have e : (2 : Int) ^ 27 = 134217728 := by decide
  rw [e]
  omega
theorem pow_bits {i n : Int} (h : powOk i n = true) : 0 ≤ n ∧ (Builtin.Int.intBits i : Int) * n ≤ 2 ^ 27 := by
  unfold powOk at h
  simp only [Bool.and_eq_true, Bool.or_eq_true, decide_eq_true_eq] at h
  obtain ⟨h0, h1⟩ := h
  refine ⟨h0, ?_⟩
  rcases h1 with ⟨h1, h2⟩ | h1
  · exact bits_mul_le h1 h0 h2
  · have e : (2 : Int) ^ 27 = 134217728 := by decide
    rw [e]; exact h1
theorem opR_int (X : Cx) (op : Operator) : OpR X (binaryOp op) (rIntOp op) := by
  intro pins s sg H x y v u Q I rx ry q
  obtain ⟨i, j, k, rfl, rfl, e, q⟩ := q
  obtain ⟨t, rfl⟩ := rx
  obtain ⟨t', rfl⟩ := ry
  have fin : EP X pins sg Q (.int k s.toks) { s with toks := s.toks + 1 } := ⟨.int k, H, I.tok _, ⟨_, rfl⟩, q⟩
  cases op <;> simp only [intOp] at e
  case Add => cases e; exact add_int fin
  case Sub => cases e; exact sub_int fin
  case Mult =>
    split at e
    · rename_i h; cases e; exact mul_int fin (mulOk_ok h)
    · cases e
  case Mod =>
    split at e
    · rename_i h; cases e; exact mod_int' (of_decide_eq_true h) (by rw [← iMod_eq]; exact fin)
    · cases e
  case Pow =>
    split at e
    · rename_i h; cases e; exact pow_int (pow_bits h).1 (pow_bits h).2 fin
    · cases e
  case LShift =>
    split at e
    · rename_i h; cases e; exact lshift_int (bits_shl h).1 (bits_shl h).2 fin
    · cases e
  case RShift =>
    split at e
    · rename_i h; cases e; exact rshift_int (of_decide_eq_true h) (by rw [Int.fdiv_eq_ediv_of_nonneg i (two_pow_nn _)]; exact fin)
    · cases e
  case BitOr => cases e; exact or_int fin
  case BitXor => cases e; exact xor_int fin
  case BitAnd => cases e; exact and_int fin
  case FloorDiv =>
    split at e
    · rename_i h
      cases e
      unfold divOk at h
      simp only [Bool.and_eq_true, Bool.or_eq_true, decide_eq_true_eq] at h
      refine floordiv_int h.1 (by rw [← iDiv_eq]; exact fin) (.inl ?_)
      rcases h.2 with h | h
      · exact PyProof.noPylong_small h
      · exact PyProof.noPylong_of_log2 h
    · cases e
  all_goals cases e

/-- a list that may be changed: its items -/
@[simp] def mutT (s : S) : T → Option (List W)
  | .w (.loc n) => (match s.M[n]? with
      | some (.lst xs) => some xs
      | _ => none)
  | .lst xs => some xs
  | _ => none
@[simp] def mutOf (s : S) (t : T) : Option (List W) := (s.get t).bind (mutT s)
theorem Rel.mut {C : Cf} {rho own fr : List Addr} {s : S} {sg : L2.St} {H : Hp} {t : T} {v : V} (r : Rel C rho own s sg H) (h : RT C rho H sg t v fr) {xs : List W} (e : mutOf s t = some xs) : ∃ a vs, v = .ref a ∧ H a = some (.lst vs) ∧ RWs C rho H xs vs := by
  unfold mutOf at e
  cases q : s.get t with
  | none => rw [q] at e; cases e
  | some u =>
    rw [q] at e
    obtain ⟨fr', h'⟩ := r.get h q
    simp only [Option.bind_some] at e
    unfold mutT at e
    split at e
    · split at e
      · rename_i n _ ys q
        cases e
        obtain ⟨h', _⟩ := h'
        simp only [RW] at h'
        obtain ⟨a, rfl, qa⟩ := h'
        obtain ⟨a', qa', vs, eh, rs⟩ := r.ob q
        rw [qa] at qa'; cases qa'
        exact ⟨a, vs, rfl, eh, rs⟩
      · cases e
    · cases e
      obtain ⟨a, rfl, _, vs, eh, rs⟩ := h'
      exact ⟨a, vs, rfl, eh, rs⟩
    · cases e
def opBin (op : Operator) (s : S) (t1 t2 : T) : Option T :=
  match s.get t1, s.get t2 with
  | some (.w (.int i)), some (.w (.int j)) => (intOp op i j).map fun k => .w (.int k)
  | some (.w (.str x)), some (.w (.str y)) => (match op with
      | .Add => if x.length + y.length ≤ sizeLine then some (.w (.str (x ++ y))) else none
      | _ => none)
  | some (.w (.tup xs)), some (.w (.tup ys)) => (match op with
      | .Add => if xs.length + ys.length ≤ sizeLine then some (.w (.tup (xs ++ ys))) else none
      | _ => none)
  | _, _ => (match op, mutOf s t1, mutOf s t2 with
      | .Add, some xs, some ys => if xs.length + ys.length ≤ sizeLine then some (.lst (xs ++ ys)) else none
      | _, _, _ => none)
theorem opR_bin (X : Cx) (op : Operator) {C : Cf} (hK : C.K = X.K) : OpR X (binaryOp op) (r2 C (opBin op)) := by
  intro pins ss sgs H x y v u Q I rx ry q
  obtain ⟨rho, own, s, sg, t1, t2, f1, f2, t, r, h1, h2, e, k⟩ := q
  unfold opBin at e
  split at e
  · rename_i i j e1 e2
    cases z : intOp op i j with
    | none => rw [z] at e; cases e
    | some m =>
      rw [z] at e; cases e
      exact opR_int X op pins ss sgs H x y v u Q I rx ry ⟨i, j, m, r.getInt h1 e1, r.getInt h2 e2, z, k H _ [] (Nxt.refl r) r0_int⟩
  · rename_i i j e1 e2
    split at e
    · split at e
      · rename_i hl
        cases e
        exact op_add_str pins ss sgs H x y v u Q I rx ry ⟨i, j, r.getStr h1 e1, r.getStr h2 e2, hl, k H _ [] (Nxt.refl r) r0_str⟩
      · cases e
    · cases e
  · rename_i xs ys e1 e2
    split at e
    · split at e
      · rename_i hl
        cases e
        obtain ⟨a, vs, ea, sa, ra⟩ := r.getTup h1 e1
        obtain ⟨b, us, eb, sb, rb⟩ := r.getTup h2 e2
        rw [hK] at sa sb
        have la := ra.length
        have lb := rb.length
        refine op_catA pins ss sgs H x y v u Q I rx ry ⟨a, b, vs, us, ea, eb, sa, sb, by omega, fun z => ?_, fun _ z => ?_, fun _ _ p np => ?_⟩
        · subst z
          have z : xs = [] := List.length_eq_zero_iff.mp la
          subst z
          refine k H _ [] (Nxt.refl r) ⟨?_, rfl⟩
          simp only [RW]
          exact ⟨b, us, rfl, hK ▸ sb, rb⟩
        · subst z
          have z : ys = [] := List.length_eq_zero_iff.mp lb
          subst z
          rw [List.append_nil] at k
          refine k H _ [] (Nxt.refl r) ⟨?_, rfl⟩
          simp only [RW]
          exact ⟨a, vs, rfl, hK ▸ sa, ra⟩
        · refine k _ _ [] (Nxt.new0 r np) ⟨?_, rfl⟩
          simp only [RW]
          exact ⟨p, vs ++ us, rfl, SqT.of upd_same, (RWs.append ra rb).up (Up.new np)⟩
      · cases e
    · cases e
  · split at e
    · rename_i xs ys _ e1 e2
      split at e
      · rename_i hl
        cases e
        obtain ⟨a, vs, ea, sa, ra⟩ := r.mut h1 e1
        obtain ⟨b, us, eb, sb, rb⟩ := r.mut h2 e2
        have la := ra.length
        have lb := rb.length
        refine op_cat pins ss sgs H x y v u Q I rx ry ⟨a, b, vs, us, ea, eb, sa, sb, by omega, fun p np => ?_⟩
        exact k _ _ [p] (Nxt.new r np) ⟨p, rfl, rfl, vs ++ us, upd_same, (RWs.append ra rb).up (Up.new np)⟩
      · cases e
    · cases e
@[simp] def dbin (op : Operator) (d1 d2 : DE) : DE := fun s => (d1 s).bind fun t1 s => (d2 s).bind fun t2 s => match opBin op s t1 t2 with
  | some t => .ok t s
  | none => .bad
theorem two_ok {C : Cf} {d1 d2 : DE} {f : S → T → T → Option T} {sg : L2.St} {H : Hp} {Q : VK}
    (h : tE C (fun s => (d1 s).bind fun t1 s => (d2 s).bind fun t2 s => match f s t1 t2 with
      | some t => .ok t s
      | none => .bad) sg H Q) : tOp (r2 C f) (tE C d1) (tE C d2) sg H Q := by
  obtain ⟨rho, own, s, r, t, s', e, k⟩ := h
  obtain ⟨t1, s1, e1, e⟩ := bind_ok e
  obtain ⟨t2, s2, e2, e⟩ := bind_ok e
  split at e
  · rename_i t' ef
    simp only [Out.ok.injEq] at e
    obtain ⟨rfl, rfl⟩ := e
    refine ⟨rho, own, s, r, t1, s1, e1, fun rho1 own1 H1 v1 f1 n1 r1 => ⟨rho1, own1, s1, n1.rel, t2, _, e2, fun rho2 own2 H2 v2 f2 n2 r2 => ?_⟩⟩
    refine ⟨rho2, own2, _, sg, t1, t2, f1, f2, t', n2.rel, r1.wait n1.rel n1.out n2, r2, ef, fun H' v fr n3 r3 => ?_⟩
    exact k rho2 own2 H' v fr ((n1.trans n2).trans n3) (RT.of0 r3)
  · cases e
theorem pe_dbin {X : Cx} {C : Cf} {a b : Expr} {d1 d2 : DE} {op : Operator} {pos : Pos} (hK : C.K = X.K) (ha : PE X a (tE C d1)) (hb : PE X b (tE C d2)) : PE X (.BinOp a op b pos) (tE C (dbin op d1 d2)) :=
  (pe_op (opR_bin X op hK) ha hb).weak fun sg H Q q => two_ok q
end Rk

/-! Rk5: comparisons, tests. -/
namespace Rk
open PySem PySem.Spec PyProof.Rows L2

section
variable {C : Cf} {rho own fr : List Addr} {s : S} {sg : L2.St} {H : Hp} {t : T} {v : V}
/-! ### data -/
theorem omap_dp {K : PySem.W.Frag} {f : W → Option PyData} {xs : List W} (hf : ∀ x v d, RW C rho H x v → f x = some d → Dp C.K H v d) : ∀ {vs : List V} {ds : List PyData}, RWs C rho H xs vs → omap f xs = some ds → DpAll C.K H vs ds := by
  induction xs with
  | nil =>
    intro vs ds r e
    simp only [RWs] at r
    simp only [omap, Option.some.injEq] at e
    subst r e
    exact .nil
  | cons x xs ih =>
    intro vs ds r e
    simp only [RWs] at r
    obtain ⟨y, ys, rfl, r1, r2⟩ := r
    simp only [omap] at e
    cases q : f x with
    | none => rw [q] at e; cases e
    | some d =>
      rw [q] at e
      cases q2 : omap f xs with
      | none => rw [q2] at e; cases e
      | some es =>
        rw [q2] at e
        simp only [Option.bind_some, Option.map_some, Option.some.injEq] at e
        subst e
        exact .cons (hf x y d r1 q) (ih r2 q2)
theorem datW_dp (r : Rel C rho own s sg H) : ∀ (n : Nat) (x : W) (v : V) (d : PyData), RW C rho H x v → datW s.M n x = some d → Dp C.K H v d
  | n, .non, v, d, h, e => by
    simp only [RW] at h; subst h
    have e' : d = .none := by cases n <;> (simp only [datW, Option.some.injEq] at e; exact e.symm)
    subst e'; exact .non
  | n, .bl b, v, d, h, e => by
    simp only [RW] at h; subst h
    have e' : d = .bool b := by cases n <;> (simp only [datW, Option.some.injEq] at e; exact e.symm)
    subst e'; exact .bl b
  | n, .int b, v, d, h, e => by
    simp only [RW] at h; subst h
    have e' : d = .int b := by cases n <;> (simp only [datW, Option.some.injEq] at e; exact e.symm)
    subst e'; exact .int b
  | n, .str b, v, d, h, e => by
    simp only [RW] at h; subst h
    have e' : d = .str b := by cases n <;> (simp only [datW, Option.some.injEq] at e; exact e.symm)
    subst e'; exact .str b
  | 0, .tup xs, v, d, h, e => by simp only [datW] at e; cases e
  | 0, .rol xs, v, d, h, e => by simp only [datW] at e; cases e
  | 0, .loc l, v, d, h, e => by simp only [datW] at e; cases e
  | n + 1, .tup xs, v, d, h, e => by
    simp only [RW] at h
    obtain ⟨a, vs, rfl, q, rs⟩ := h
    simp only [datW] at e
    cases z : omap (datW s.M n) xs with
    | none => rw [z] at e; cases e
    | some ds =>
      rw [z] at e
      simp only [Option.map_some, Option.some.injEq] at e
      subst e
      exact .tup q (omap_dp (K := C.K) (fun x v d h' e' => datW_dp r n x v d h' e') rs z)
  | n + 1, .rol xs, v, d, h, e => by
    simp only [RW] at h
    obtain ⟨a, vs, rfl, q, rs⟩ := h
    simp only [datW] at e
    cases z : omap (datW s.M n) xs with
    | none => rw [z] at e; cases e
    | some ds =>
      rw [z] at e
      simp only [Option.map_some, Option.some.injEq] at e
      subst e
      exact .lst q.seq (omap_dp (K := C.K) (fun x v d h' e' => datW_dp r n x v d h' e') rs z)
  | n + 1, .loc l, v, d, h, e => by
    simp only [RW] at h
    obtain ⟨a, rfl, qa⟩ := h
    simp only [datW] at e
    split at e
    · rename_i xs q
      obtain ⟨a', qa', vs, eh, rs⟩ := r.ob q
      rw [qa] at qa'; cases qa'
      cases z : omap (datW s.M n) xs with
      | none => rw [z] at e; cases e
      | some ds =>
        rw [z] at e
        simp only [Option.map_some, Option.some.injEq] at e
        subst e
        exact .lst (SqL.of eh) (omap_dp (K := C.K) (fun x v d h' e' => datW_dp r n x v d h' e') rs z)
    · cases e
  | 0, .glo _, v, d, h, e => by simp only [datW] at e; cases e
  | 0, .ty _, v, d, h, e => by simp only [datW] at e; cases e
  | n + 1, .glo _, v, d, h, e => by simp only [datW] at e; cases e
  | n + 1, .ty _, v, d, h, e => by simp only [datW] at e; cases e
theorem Rel.dat (r : Rel C rho own s sg H) (h : RT C rho H sg t v fr) {d : PyData} (e : datOf s t = some d) : Dp C.K H v d := by
  unfold datOf at e
  cases q : s.get t with
  | none => rw [q] at e; cases e
  | some u =>
    rw [q] at e
    obtain ⟨fr', h'⟩ := r.get h q
    simp only [Option.bind_some] at e
    cases u with
    | w x => exact datW_dp r _ x v d h'.1 e
    | lst xs =>
      obtain ⟨a, rfl, _, vs, eh, rs⟩ := h'
      simp only [datT] at e
      cases z : omap (datW s.M DEEP) xs with
      | none => rw [z] at e; cases e
      | some ds =>
        rw [z] at e
        simp only [Option.map_some, Option.some.injEq] at e
        subst e
        exact .lst (SqL.of eh) (omap_dp (K := C.K) (fun x v d h' e' => datW_dp r _ x v d h' e') rs z)
    | dK _ => simp only [datT] at e; cases e
    | dT _ => simp only [datT] at e; cases e
    | sl _ => exact h'.elim
end

/-! ### comparisons -/
/-- == -/
def eqT (s : S) (t1 t2 : T) : Option Bool := match s.get t1, s.get t2 with
  | some (.w (.int i)), some (.w (.int j)) => some (decide (i = j))
  | some (.w (.str x)), some (.w (.str y)) => some (decide (x = y))
  | some (.w (.bl x)), some (.w (.bl y)) => some (decide (x = y))
  | _, _ => (match datOf s t1, datOf s t2 with
      | some d, some e => if SeqAt.shaped d && SeqAt.shaped e then some (PyData.eqv d e) else none
      | _, _ => none)
def flatW : W → Bool
  | .non => true
  | .bl _ => true
  | .int _ => true
  | .str _ => true
  | _ => false
/-- == of flat values -/
def eqW : W → W → Bool
  | .non, .non => true
  | .bl a, .bl b => a == b
  | .bl a, .int b => (if a then 1 else 0) == b
  | .int a, .bl b => a == (if b then 1 else 0)
  | .int a, .int b => a == b
  | .str a, .str b => a == b
  | _, _ => false
/-- x in y -/
def inT (s : S) (t1 t2 : T) : Option Bool := match s.get t1, s.get t2 with
  | some (.w (.str x)), some (.w (.str y)) => some (!(Builtin.Str.occurrences y x 0 y.length 1).isEmpty)
  | some (.w x), _ => (match seqOf s t2 with
      | some ys => if flatW x && ys.all flatW then some (ys.any fun y => eqW y x) else (match datOf s t1, datOf s t2 with
          | some d, some (.list ds) => if SeqAt.shaped d && SeqAt.shaped (.list ds) then some (ds.any fun z => PyData.eqv z d) else none
          | some d, some (.tuple ds) => if SeqAt.shaped d && SeqAt.shaped (.tuple ds) then some (ds.any fun z => PyData.eqv z d) else none
          | _, _ => none)
      | none => none)
  | _, _ => none
/-- is: of None, of bools -/
def isT (s : S) (t1 t2 : T) : Option Bool := match s.get t1, s.get t2 with
  | some (.w .non), some (.w .non) => some true
  | some _, some (.w .non) => some false
  | some (.w (.bl x)), some (.w (.bl y)) => some (decide (x = y))
  | _, _ => none
def intCmp (op : CmpOp) (i j : Int) : Option Bool := match op with
  | .Lt => some (decide (i < j))
  | .LtE => some (decide (i ≤ j))
  | .Gt => some (decide (j < i))
  | .GtE => some (decide (j ≤ i))
  | _ => none
def opCmp (op : CmpOp) (s : S) (t1 t2 : T) : Option Bool := match op with
  | .Eq => eqT s t1 t2
  | .NotEq => (eqT s t1 t2).map (!·)
  | .In => inT s t1 t2
  | .NotIn => (inT s t1 t2).map (!·)
  | .Is => isT s t1 t2
  | .IsNot => (isT s t1 t2).map (!·)
  | op => (match s.get t1, s.get t2 with
      | some (.w (.int i)), some (.w (.int j)) => intCmp op i j
      | _, _ => none)
section
variable {X : Cx} {C : Cf} {rho own fr f1 f2 : List Addr} {s : S} {sg : L2.St} {H : Hp} {t t1 t2 : T} {v x y : V} {Q : VK}
theorem rw_flat {x : W} {v : V} (f : flatW x = true) (h : RW C rho H x v) : flatV v = true := by
  cases x <;> simp only [flatW] at f <;> simp only [RW] at h <;> first | exact absurd f Bool.false_ne_true | (subst h; rfl)
theorem rw_eqV {x y : W} {v u : V} (f : flatW x = true) (g : flatW y = true) (h : RW C rho H x v) (k : RW C rho H y u) : eqV v u = eqW x y := by
  cases x <;> simp only [flatW] at f <;> cases y <;> simp only [flatW] at g <;> simp only [RW] at h k <;> first | exact absurd f Bool.false_ne_true | exact absurd g Bool.false_ne_true | (subst h k; rfl)
theorem rws_flat : ∀ {xs : List W} {vs : List V}, RWs C rho H xs vs → xs.all flatW = true → vs.all flatV = true
  | [], vs, h, f => by simp only [RWs] at h; subst h; rfl
  | x :: xs, vs, h, f => by
    simp only [RWs] at h
    obtain ⟨y, ys, rfl, r, t⟩ := h
    simp only [List.all_cons, Bool.and_eq_true] at f ⊢
    exact ⟨rw_flat f.1 r, rws_flat t f.2⟩
theorem rws_in {z : W} {u : V} (g : flatW z = true) (k : RW C rho H z u) : ∀ {xs : List W} {vs : List V}, RWs C rho H xs vs → xs.all flatW = true → inV u vs = xs.any fun y => eqW y z
  | [], vs, h, f => by simp only [RWs] at h; subst h; rfl
  | x :: xs, vs, h, f => by
    simp only [RWs] at h
    obtain ⟨y, ys, rfl, r, t⟩ := h
    simp only [List.all_cons, Bool.and_eq_true] at f
    have ih := rws_in g k t f.2
    unfold inV at ih ⊢
    simp only [List.any_cons]
    rw [ih, rw_eqV f.1 g r k]
theorem eq_scal {i j : Int} : rEq (.int i) (.int j) H Q ↔ Q (.bl (decide (i = j))) H := by
  unfold rEq
  simp [scal]
theorem opR_eq (hK : C.K = X.K) (hu : X.A.units + 65 < cLine) : OpR X (compareOp .Eq) (r2 C fun s t1 t2 => (eqT s t1 t2).map fun b => .w (.bl b)) := by
  intro pins ss sgs H x y v u Q I rx ry q
  obtain ⟨rho, own, s, sg, t1, t2, f1, f2, t, r, h1, h2, e, k⟩ := q
  dsimp only at e
  cases z : eqT s t1 t2 with
  | none => rw [z] at e; cases e
  | some b =>
    rw [z] at e; cases e
    have q : Q (.bl b) H := k H _ [] (Nxt.refl r) r0_bl
    unfold eqT at z
    split at z
    · rename_i i j e1 e2
      cases z
      have := r.getInt h1 e1; have := r.getInt h2 e2; subst x y
      exact op_eq pins ss sgs H _ _ v u Q I rx ry ⟨rfl, by simpa using q⟩
    · rename_i i j e1 e2
      cases z
      have := r.getStr h1 e1; have := r.getStr h2 e2; subst x y
      exact op_eq pins ss sgs H _ _ v u Q I rx ry ⟨rfl, by simpa using q⟩
    · rename_i i j e1 e2
      cases z
      have := r.getBl h1 e1; have := r.getBl h2 e2; subst x y
      exact op_eq pins ss sgs H _ _ v u Q I rx ry ⟨rfl, by simpa using q⟩
    · split at z
      · rename_i d e e1 e2
        split at z
        · rename_i hs
          simp only [Bool.and_eq_true] at hs
          cases z
          exact op_eqD (by omega) pins ss sgs H x y v u Q I rx ry ⟨d, e, hK ▸ r.dat h1 e1, hK ▸ r.dat h2 e2, hs.1, hs.2, q⟩
        · cases z
      · cases z
theorem opR_ne (hK : C.K = X.K) (hu : X.A.units + 65 < cLine) : OpR X (compareOp .NotEq) (r2 C fun s t1 t2 => ((eqT s t1 t2).map (!·)).map fun b => .w (.bl b)) := by
  intro pins ss sgs H x y v u Q I rx ry q
  obtain ⟨rho, own, s, sg, t1, t2, f1, f2, t, r, h1, h2, e, k⟩ := q
  dsimp only at e
  cases z : eqT s t1 t2 with
  | none => rw [z] at e; cases e
  | some b =>
    rw [z] at e; cases e
    have q : Q (.bl (!b)) H := k H _ [] (Nxt.refl r) r0_bl
    unfold eqT at z
    split at z
    · rename_i i j e1 e2
      cases z
      have := r.getInt h1 e1; have := r.getInt h2 e2; subst x y
      exact op_ne pins ss sgs H _ _ v u Q I rx ry ⟨rfl, by simpa using q⟩
    · rename_i i j e1 e2
      cases z
      have := r.getStr h1 e1; have := r.getStr h2 e2; subst x y
      exact op_ne pins ss sgs H _ _ v u Q I rx ry ⟨rfl, by simpa using q⟩
    · rename_i i j e1 e2
      cases z
      have := r.getBl h1 e1; have := r.getBl h2 e2; subst x y
      exact op_ne pins ss sgs H _ _ v u Q I rx ry ⟨rfl, by simpa using q⟩
    · split at z
      · rename_i d e e1 e2
        split at z
        · rename_i hs
          simp only [Bool.and_eq_true] at hs
          cases z
          exact op_neD (by omega) pins ss sgs H x y v u Q I rx ry ⟨d, e, hK ▸ r.dat h1 e1, hK ▸ r.dat h2 e2, hs.1, hs.2, q⟩
        · cases z
      · cases z
theorem opR_in (hK : C.K = X.K) (hu : X.A.units + 65 < cLine) (neg : Bool) : OpR X (compareOp (if neg then .NotIn else .In)) (r2 C fun s t1 t2 => ((inT s t1 t2).map fun b => if neg then !b else b).map fun b => .w (.bl b)) := by
  intro pins ss sgs H x y v u Q I rx ry q
  obtain ⟨rho, own, s, sg, t1, t2, f1, f2, t, r, h1, h2, e, k⟩ := q
  dsimp only at e
  cases z : inT s t1 t2 with
  | none => rw [z] at e; cases e
  | some b =>
    rw [z] at e; cases e
    have q : Q (.bl (if neg then !b else b)) H := k H _ [] (Nxt.refl r) r0_bl
    unfold inT at z
    split at z
    · rename_i i j e1 e2
      cases z
      have := r.getStr h1 e1; have := r.getStr h2 e2; subst x y
      cases neg
      · exact op_in_str pins ss sgs H _ _ v u Q I rx ry ⟨_, _, rfl, rfl, q⟩
      · exact L2.op_notIn_str pins ss sgs H _ _ v u Q I rx ry ⟨_, _, rfl, rfl, q⟩
    · rename_i w _ e1 _
      obtain ⟨g1, q1, _⟩ := r.get h1 e1
      split at z
      · rename_i ys e2
        obtain ⟨a, vs, ea, sa, ra⟩ := r.seq h2 e2
        split at z
        · rename_i hf
          cases z
          simp only [Bool.and_eq_true] at hf
          rw [hK] at sa
          have hin := rws_in hf.1 q1 ra hf.2
          cases neg
          · exact op_in_seq pins ss sgs H x y v u Q I rx ry ⟨a, vs, ea, sa, rw_flat hf.1 q1, rws_flat ra hf.2, by simpa [hin] using q⟩
          · exact op_notIn_seq pins ss sgs H x y v u Q I rx ry ⟨a, vs, ea, sa, rw_flat hf.1 q1, rws_flat ra hf.2, by simpa [hin] using q⟩
        · split at z
          · rename_i d ds d1 d2
            split at z
            · rename_i hs
              simp only [Bool.and_eq_true] at hs
              cases z
              cases neg
              · exact op_inD hu pins ss sgs H x y v u Q I rx ry ⟨d, ds, hK ▸ r.dat h1 d1, hK ▸ r.dat h2 d2, hs.1, hs.2, q⟩
              · exact op_notInD hu pins ss sgs H x y v u Q I rx ry ⟨d, ds, hK ▸ r.dat h1 d1, hK ▸ r.dat h2 d2, hs.1, hs.2, q⟩
            · cases z
          · rename_i d ds d1 d2
            split at z
            · rename_i hs
              simp only [Bool.and_eq_true] at hs
              cases z
              obtain ⟨as1, r1⟩ := Dp.reads I d x v (hK ▸ r.dat h1 d1) rx
              obtain ⟨as2, r2⟩ := Dp.reads I (.tuple ds) y u (hK ▸ r.dat h2 d2) ry
              have room : X.A.units + 1 + min (PyData.depthAll ds) d.depth < cLine := room_in_shaped hs.1 hu
              cases neg
              · exact SeqAt.in_tuple_reads r2 r1 (SeqAt.canLay_of_shaped hs.2) (SeqAt.canLay_of_shaped hs.1) room ⟨.bl _, H, I, rfl, q⟩
              · exact SeqAt.notIn_tuple_reads r2 r1 (SeqAt.canLay_of_shaped hs.2) (SeqAt.canLay_of_shaped hs.1) room ⟨.bl _, H, I, rfl, q⟩
            · cases z
          · cases z
      · cases z
    · cases z
theorem r0_notnone {u : T} (h : R0 C rho H u v fr) (n : u ≠ .w .non) : v ≠ .non := by
  rintro rfl
  cases u with
  | w x =>
    obtain ⟨h, _⟩ := h
    cases x <;> simp only [RW] at h
    case non => exact n rfl
    case bl => cases h
    case int => cases h
    case str => cases h
    case tup => obtain ⟨_, _, h, _⟩ := h; cases h
    case rol => obtain ⟨_, _, h, _⟩ := h; cases h
    case loc => obtain ⟨_, h, _⟩ := h; cases h
    case glo => obtain ⟨_, h, _⟩ := h; cases h
    case ty => cases h
  | lst x => obtain ⟨_, h, _⟩ := h; cases h
  | dK x => obtain ⟨_, h, _⟩ := h; cases h
  | dT x => obtain ⟨_, h, _⟩ := h; cases h
  | sl x => exact h
theorem opR_is (neg : Bool) : OpR X (compareOp (if neg then .IsNot else .Is)) (r2 C fun s t1 t2 => ((isT s t1 t2).map fun b => if neg then !b else b).map fun b => .w (.bl b)) := by
  intro pins ss sgs H x y v u Q I rx ry q
  obtain ⟨rho, own, s, sg, t1, t2, f1, f2, t, r, h1, h2, e, k⟩ := q
  dsimp only at e
  cases z : isT s t1 t2 with
  | none => rw [z] at e; cases e
  | some b =>
    rw [z] at e; cases e
    have q : Q (.bl (if neg then !b else b)) H := k H _ [] (Nxt.refl r) r0_bl
    unfold isT at z
    split at z
    · rename_i e1 e2
      cases z
      have := r.getNon h1 e1; have := r.getNon h2 e2; subst x y
      cases neg
      · exact op_isN pins ss sgs H _ _ v u Q I rx ry ⟨rfl, by simpa using q⟩
      · exact op_notN pins ss sgs H _ _ v u Q I rx ry ⟨rfl, by simpa using q⟩
    · rename_i w hn e1 e2
      cases z
      have := r.getNon h2 e2; subst y
      obtain ⟨g1, q1⟩ := r.get h1 e1
      have hx : x ≠ .non := r0_notnone q1 (by rintro rfl; exact hn rfl)
      cases neg
      · exact op_isN pins ss sgs H _ _ v u Q I rx ry ⟨rfl, by simpa [hx] using q⟩
      · exact op_notN pins ss sgs H _ _ v u Q I rx ry ⟨rfl, by simpa [hx] using q⟩
    · rename_i i j e1 e2
      cases z
      have := r.getBl h1 e1; have := r.getBl h2 e2; subst x y
      cases neg
      · exact op_isBl pins ss sgs H _ _ v u Q I rx ry ⟨_, _, rfl, rfl, by simpa using q⟩
      · exact op_notBl pins ss sgs H _ _ v u Q I rx ry ⟨_, _, rfl, rfl, by simpa using q⟩
    · cases z
theorem opR_cmp (hK : C.K = X.K) (hu : X.A.units + 65 < cLine) (op : CmpOp) : OpR X (compareOp op) (r2 C fun s t1 t2 => (opCmp op s t1 t2).map fun b => .w (.bl b)) := by
  have ord : ∀ op : CmpOp, (op = .Lt ∨ op = .LtE ∨ op = .Gt ∨ op = .GtE) → OpR X (compareOp op) (r2 C fun s t1 t2 => (match s.get t1, s.get t2 with
      | some (.w (.int i)), some (.w (.int j)) => intCmp op i j
      | _, _ => none).map fun b => .w (.bl b)) := by
    intro op ho pins ss sgs H x y v u Q I rx ry q
    obtain ⟨rho, own, s, sg, t1, t2, f1, f2, t, r, h1, h2, e, k⟩ := q
    dsimp only at e
    split at e
    · rename_i i j e1 e2
      cases z : intCmp op i j with
      | none => rw [z] at e; cases e
      | some b =>
        rw [z] at e; cases e
        have q : Q (.bl b) H := k H _ [] (Nxt.refl r) r0_bl
        have := r.getInt h1 e1; have := r.getInt h2 e2; subst x y
        rcases ho with rfl | rfl | rfl | rfl <;> simp only [intCmp, Option.some.injEq] at z <;> subst z
        · exact op_lt pins ss sgs H _ _ v u Q I rx ry ⟨_, _, rfl, rfl, q⟩
        · exact op_le pins ss sgs H _ _ v u Q I rx ry ⟨_, _, rfl, rfl, q⟩
        · exact op_gt pins ss sgs H _ _ v u Q I rx ry ⟨_, _, rfl, rfl, q⟩
        · exact op_ge pins ss sgs H _ _ v u Q I rx ry ⟨_, _, rfl, rfl, q⟩
    · cases e
  cases op
  case Eq => exact opR_eq hK hu
  case NotEq => exact opR_ne hK hu
  case In => exact OpR.by (opR_in (C := C) hK hu false) fun x y H Q h => by simpa [opCmp, r2] using h
  case NotIn => exact OpR.by (opR_in (C := C) hK hu true) fun x y H Q h => by simpa [opCmp, r2] using h
  case Is => exact OpR.by (opR_is (C := C) false) fun x y H Q h => by simpa [opCmp, r2] using h
  case IsNot => exact OpR.by (opR_is (C := C) true) fun x y H Q h => by simpa [opCmp, r2] using h
  case Lt => exact ord .Lt (.inl rfl)
  case LtE => exact ord .LtE (.inr (.inl rfl))
  case Gt => exact ord .Gt (.inr (.inr (.inl rfl)))
  case GtE => exact ord .GtE (.inr (.inr (.inr rfl)))
end
end Rk

/-! Rk6: compound expressions, tests, items, slices. -/
namespace Rk
open PySem PySem.Spec PyProof.Rows L2

@[simp] def dcmp (op : CmpOp) (d1 d2 : DE) : DE := fun s => (d1 s).bind fun t1 s => (d2 s).bind fun t2 s => match opCmp op s t1 t2 with
  | some b => .ok (.w (.bl b)) s
  | none => .bad
@[simp] def dchain (op op' : CmpOp) (d1 d2 d3 : DE) : DE := fun s => (d1 s).bind fun t1 s => (d2 s).bind fun t2 s => match opCmp op s t1 t2 with
  | some true => (d3 s).bind fun t3 s => (match opCmp op' s t2 t3 with
      | some b => .ok (.w (.bl b)) s
      | none => .bad)
  | some false => .ok (.w (.bl false)) s
  | none => .bad
/-- a value's truth -/
def truT (s : S) (t : T) : Option Bool := match s.get t with
  | some (.w .non) => some false
  | some (.w (.bl b)) => some b
  | some (.w (.int i)) => some (i != 0)
  | some (.w (.str y)) => if y.length ≤ sizeLine then some ((y.length : Int) != 0) else none
  | _ => (seqOf s t).map fun xs => !xs.isEmpty
@[simp] def dtru (d : DE) : DB := fun s => (d s).bind fun t s => match truT s t with
  | some b => .ok b s
  | none => .bad
@[simp] def dnot (d : DE) : DE := fun s => (d s).bind fun t s => match truT s t with
  | some b => .ok (.w (.bl !b)) s
  | none => .bad
@[simp] def dand (d1 d2 : DE) : DE := fun s => (d1 s).bind fun t s => match truT s t with
  | some true => d2 s
  | some false => .ok t s
  | none => .bad
@[simp] def dor (d1 d2 : DE) : DE := fun s => (d1 s).bind fun t s => match truT s t with
  | some true => .ok t s
  | some false => d2 s
  | none => .bad
@[simp] def bnot (d : DB) : DB := fun s => (d s).bind fun b s => .ok (!b) s
@[simp] def band (d1 d2 : DB) : DB := fun s => (d1 s).bind fun b s => match b with
  | true => d2 s
  | false => .ok false s
@[simp] def bor (d1 d2 : DB) : DB := fun s => (d1 s).bind fun b s => match b with
  | true => .ok true s
  | false => d2 s
@[simp] def asb (d : DE) : DB := fun s => (d s).bind fun t s => match t with
  | .w (.bl b) => .ok b s
  | _ => .bad
@[simp] def difx (c : DB) (d1 d2 : DE) : DE := fun s => (c s).bind fun b s => match b with
  | true => d1 s
  | false => d2 s
section
variable {X : Cx} {C : Cf} {a b c e : Expr} {d d1 d2 d3 : DE} {op op' : CmpOp} {pos : Pos} {rest : List Expr}
theorem two_cmp {sg : L2.St} {H : Hp} {Q : VK} (h : tE C (dcmp op d1 d2) sg H Q) : tOp (r2 C fun s t1 t2 => (opCmp op s t1 t2).map fun b => .w (.bl b)) (tE C d1) (tE C d2) sg H Q := by
  refine two_ok ?_
  obtain ⟨rho, own, s, r, t, s', e, k⟩ := h
  refine ⟨rho, own, s, r, t, s', ?_, k⟩
  rw [← e]
  simp only [dcmp]
  congr 1; funext t1 s1; congr 1; funext t2 s2
  cases opCmp op s2 t1 t2 <;> rfl
theorem pe_dcmp (hK : C.K = X.K) (hu : X.A.units + 65 < cLine) (ha : PE X a (tE C d1)) (hb : PE X b (tE C d2)) (hm : behindInMarks op b = false) : PE X (.Compare a [op] [b] pos) (tE C (dcmp op d1 d2)) :=
  (pe_cmpR (opR_cmp hK hu op) ha hb hm).weak fun sg H Q q => two_cmp q
theorem asb_ok {sg : L2.St} {H : Hp} {Q : Bool → Hp → Prop} (h : tB C (asb d) sg H Q) : tE C d sg H fun x H' => ∃ k, x = .bl k ∧ Q k H' := by
  obtain ⟨rho, own, s, r, b, s', e, k⟩ := h
  obtain ⟨t, s1, e1, e2⟩ := bind_ok e
  split at e2
  · simp only [Out.ok.injEq] at e2
    obtain ⟨rfl, rfl⟩ := e2
    refine ⟨rho, own, s, r, _, _, e1, fun rho' own' H' v fr n rt => ?_⟩
    obtain ⟨rv, _⟩ := rt
    simp only [RW] at rv
    exact ⟨_, rv, k rho' own' H' n.drop0⟩
  · cases e2
theorem pt_dcmp (hK : C.K = X.K) (hu : X.A.units + 65 < cLine) (ha : PE X a (tE C d1)) (hb : PE X b (tE C d2)) (hm : behindInMarks op b = false) : PT X (.Compare a [op] [b] pos) (tB C (asb (dcmp op d1 d2))) :=
  (pt_cmpR (opR_cmp hK hu op) ha hb hm).weak fun sg H Q q => two_cmp (asb_ok q)
theorem chain_ok {sg : L2.St} {H : Hp} {Q : VK} (h : tE C (dchain op op' d1 d2 d3) sg H Q) :
    tChain (r2 C fun s t1 t2 => (opCmp op s t1 t2).map fun b => .w (.bl b)) (r2 C fun s t1 t2 => (opCmp op' s t1 t2).map fun b => .w (.bl b)) (tE C d1) (tE C d2) (tE C d3) sg H Q := by
  obtain ⟨rho, own, s, r, t, s', e, k⟩ := h
  obtain ⟨t1, s1, e1, e⟩ := bind_ok e
  obtain ⟨t2, s2, e2, e⟩ := bind_ok e
  refine ⟨rho, own, s, r, t1, s1, e1, fun rho1 own1 H1 v1 f1 n1 r1 => ⟨rho1, own1, s1, n1.rel, t2, s2, e2, fun rho2 own2 H2 v2 f2 n2 r2 => ?_⟩⟩
  have r1' := r1.wait n1.rel n1.out n2
  cases z : opCmp op s2 t1 t2 with
  | none => rw [z] at e; cases e
  | some b =>
    rw [z] at e
    refine ⟨rho2, own2, s2, sg, t1, t2, f1, f2, .w (.bl b), n2.rel, r1', r2, by dsimp only; rw [z]; rfl, fun H3 v fr n3 r3 => ?_⟩
    obtain ⟨r3, rfl⟩ := r3
    simp only [RW] at r3
    refine ⟨b, r3, ?_⟩
    cases b with
    | false =>
      simp only [Out.ok.injEq] at e
      obtain ⟨rfl, rfl⟩ := e
      rw [if_neg Bool.false_ne_true]
      exact k rho2 own2 H3 _ [] ((n1.trans n2).trans n3) ⟨by simp only [RW], rfl⟩
    | true =>
      rw [if_pos rfl]
      obtain ⟨t3, s3, e3, e⟩ := bind_ok e
      split at e
      · rename_i b' z'
        simp only [Out.ok.injEq] at e
        obtain ⟨rfl, rfl⟩ := e
        refine ⟨rho2, own2, s2, n3.rel, t3, _, e3, fun rho4 own4 H4 v3 f3 n4 r4 => ?_⟩
        refine ⟨rho4, own4, _, sg, t2, t3, f2, f3, .w (.bl b'), n4.rel, r2.wait n2.rel n2.out (n3.trans n4), r4, by dsimp only; rw [z']; rfl, fun H5 v fr n5 r5 => ?_⟩
        exact k rho4 own4 H5 v fr (((n1.trans n2).trans n3).trans (n4.trans n5)) (RT.of0 r5)
      · cases e
theorem pe_dchain (hK : C.K = X.K) (hu : X.A.units + 65 < cLine) (ha : PE X a (tE C d1)) (hb : PE X b (tE C d2)) (hc : PE X c (tE C d3)) (hm : lastMarks [op, op'] [b, c] = false) : PE X (.Compare a [op, op'] [b, c] pos) (tE C (dchain op op' d1 d2 d3)) :=
  (pe_chain (opR_cmp hK hu op) (opR_cmp hK hu op') ha hb hc hm).weak fun sg H Q q => chain_ok q
theorem pt_dchain (hK : C.K = X.K) (hu : X.A.units + 65 < cLine) (ha : PE X a (tE C d1)) (hb : PE X b (tE C d2)) (hc : PE X c (tE C d3)) (hm : lastMarks [op, op'] [b, c] = false) : PT X (.Compare a [op, op'] [b, c] pos) (tB C (asb (dchain op op' d1 d2 d3))) :=
  (pt_chain (opR_cmp hK hu op) (opR_cmp hK hu op') ha hb hc hm).weak fun sg H Q q => chain_ok (asb_ok q)
/-! ### truth -/
theorem Rel.tru {rho own fr : List Addr} {s : S} {sg : L2.St} {H : Hp} {t : T} {v : V} (hK : C.K = X.K) (r : Rel C rho own s sg H) (h : RT C rho H sg t v fr) {k : Bool} (e : truT s t = some k) : TruV X.K v H k := by
  unfold truT at e
  split at e
  · rename_i z; cases e; rw [r.getNon h z]; rfl
  · rename_i z; cases e; rw [r.getBl h z]; rfl
  · rename_i z; cases e; rw [r.getInt h z]; rfl
  · rename_i z
    split at e
    · rename_i hl; cases e; rw [r.getStr h z]; exact ⟨hl, rfl⟩
    · cases e
  · cases z : seqOf s t with
    | none => rw [z] at e; cases e
    | some xs =>
      rw [z] at e
      simp only [Option.map_some, Option.some.injEq] at e
      obtain ⟨a, vs, rfl, sa, ra⟩ := r.seq h z
      have hl := ra.length
      have he : k = !vs.isEmpty := by
        rw [← e]
        cases xs with
        | nil => simp at hl; cases vs with
          | nil => rfl
          | cons => simp at hl
        | cons => cases vs with
          | nil => simp at hl
          | cons => rfl
      rw [hK] at sa
      rcases sa with sa | sa
      · exact .inl ⟨vs, sa, he⟩
      · exact .inr (.inl ⟨vs, sa, he⟩)
theorem pt_dtru (hK : C.K = X.K) (ha : PE X a (tE C d)) (he : ∀ whole, isTrue a X.env whole = (do let v ← whole; standAt a.pos; holding [v] (truthy v))) : PT X a (tB C (dtru d)) :=
  (pt_truth ha he).weak fun sg H Q q => by
    obtain ⟨rho, own, s, r, b, s', e, k⟩ := q
    obtain ⟨t, s1, e1, e2⟩ := bind_ok e
    split at e2
    · rename_i b' z
      simp only [Out.ok.injEq] at e2
      obtain ⟨rfl, rfl⟩ := e2
      exact ⟨rho, own, s, r, t, _, e1, fun rho' own' H' v fr n rt => ⟨_, n.rel.tru hK rt z, k rho' own' H' n.drop0⟩⟩
    · cases e2
theorem pe_dnot (hK : C.K = X.K) (ha : PE X a (tE C d)) : PE X (.UnaryOp .Not a pos) (tE C (dnot d)) :=
  (pe_notT ha).weak fun sg H Q q => by
    obtain ⟨rho, own, s, r, b, s', e, k⟩ := q
    obtain ⟨t, s1, e1, e2⟩ := bind_ok e
    split at e2
    · rename_i b' z
      simp only [Out.ok.injEq] at e2
      obtain ⟨rfl, rfl⟩ := e2
      exact ⟨rho, own, s, r, t, _, e1, fun rho' own' H' v fr n rt => ⟨_, n.rel.tru hK rt z, k rho' own' H' _ [] n.drop0 ⟨by simp only [RW], rfl⟩⟩⟩
    · cases e2
theorem pe_done {op : BoolOp} (h : PE X a (tE C d)) : PE X (.BoolOp op [a] pos) (tE C d) := pe_one h
theorem pe_dand (hK : C.K = X.K) (ha : PE X a (tE C d1)) (hb : PE X (.BoolOp .And (b :: rest) pos) (tE C d2)) : PE X (.BoolOp .And (a :: b :: rest) pos) (tE C (dand d1 d2)) :=
  (pe_andT ha hb).weak fun sg H Q q => by
    obtain ⟨rho, own, s, r, x, s', e, k⟩ := q
    obtain ⟨t, s1, e1, e2⟩ := bind_ok e
    refine ⟨rho, own, s, r, t, s1, e1, fun rho1 own1 H1 v fr n rt => ?_⟩
    split at e2
    · rename_i z
      refine ⟨true, n.rel.tru hK rt z, ?_⟩
      rw [if_pos rfl]
      exact ⟨rho1, own1, s1, n.rel, x, s', e2, fun rho2 own2 H2 v2 f2 n2 r2 => k rho2 own2 H2 v2 f2 (n.trans n2) r2⟩
    · rename_i z
      simp only [Out.ok.injEq] at e2
      obtain ⟨rfl, rfl⟩ := e2
      refine ⟨false, n.rel.tru hK rt z, ?_⟩
      rw [if_neg Bool.false_ne_true]
      exact k rho1 own1 H1 v fr n rt
    · cases e2
theorem pe_dor (hK : C.K = X.K) (ha : PE X a (tE C d1)) (hb : PE X (.BoolOp .Or (b :: rest) pos) (tE C d2)) : PE X (.BoolOp .Or (a :: b :: rest) pos) (tE C (dor d1 d2)) :=
  (pe_orT ha hb).weak fun sg H Q q => by
    obtain ⟨rho, own, s, r, x, s', e, k⟩ := q
    obtain ⟨t, s1, e1, e2⟩ := bind_ok e
    refine ⟨rho, own, s, r, t, s1, e1, fun rho1 own1 H1 v fr n rt => ?_⟩
    split at e2
    · rename_i z
      simp only [Out.ok.injEq] at e2
      obtain ⟨rfl, rfl⟩ := e2
      refine ⟨true, n.rel.tru hK rt z, ?_⟩
      rw [if_pos rfl]
      exact k rho1 own1 H1 v fr n rt
    · rename_i z
      refine ⟨false, n.rel.tru hK rt z, ?_⟩
      rw [if_neg Bool.false_ne_true]
      exact ⟨rho1, own1, s1, n.rel, x, s', e2, fun rho2 own2 H2 v2 f2 n2 r2 => k rho2 own2 H2 v2 f2 (n.trans n2) r2⟩
    · cases e2
variable {b1 b2 : DB}
theorem pt_bnot (ha : PT X a (tB C b1)) : PT X (.UnaryOp .Not a pos) (tB C (bnot b1)) := (pt_not ha).weak fun sg H Q q => by
  obtain ⟨rho, own, s, r, x, s', e, k⟩ := q
  obtain ⟨t, s1, e1, e2⟩ := bind_ok e
  simp only [Out.ok.injEq] at e2
  obtain ⟨rfl, rfl⟩ := e2
  exact ⟨rho, own, s, r, t, _, e1, k⟩
theorem pw_bone {op : BoolOp} (ha : PT X a (tB C b1)) : PW X (.BoolOp op [a] pos) (tB C b1) := by
  cases op
  · exact pw_and1 ha
  · exact pw_or1 ha
theorem pw_band (ha : PT X a (tB C b1)) (hb : PW X (.BoolOp .And (b :: rest) pos) (tB C b2)) : PW X (.BoolOp .And (a :: b :: rest) pos) (tB C (band b1 b2)) := by
  refine ⟨fun wh pins ss sg H Q I h => (pw_and ha hb).run wh pins ss sg H Q I ?_⟩
  obtain ⟨rho, own, s, r, x, s', e, k⟩ := h
  obtain ⟨t, s1, e1, e2⟩ := bind_ok e
  refine ⟨rho, own, s, r, t, s1, e1, fun rho1 own1 H1 n => ?_⟩
  cases t with
  | true =>
    rw [if_pos rfl]
    exact ⟨rho1, own1, s1, n.rel, x, s', e2, fun rho2 own2 H2 n2 => k rho2 own2 H2 (n.trans n2)⟩
  | false =>
    simp only [Out.ok.injEq] at e2
    obtain ⟨rfl, rfl⟩ := e2
    rw [if_neg Bool.false_ne_true]
    exact k rho1 own1 H1 n
theorem pw_bor (ha : PT X a (tB C b1)) (hb : PW X (.BoolOp .Or (b :: rest) pos) (tB C b2)) : PW X (.BoolOp .Or (a :: b :: rest) pos) (tB C (bor b1 b2)) := by
  refine ⟨fun wh pins ss sg H Q I h => (pw_or ha hb).run wh pins ss sg H Q I ?_⟩
  obtain ⟨rho, own, s, r, x, s', e, k⟩ := h
  obtain ⟨t, s1, e1, e2⟩ := bind_ok e
  refine ⟨rho, own, s, r, t, s1, e1, fun rho1 own1 H1 n => ?_⟩
  cases t with
  | true =>
    simp only [Out.ok.injEq] at e2
    obtain ⟨rfl, rfl⟩ := e2
    rw [if_pos rfl]
    exact k rho1 own1 H1 n
  | false =>
    rw [if_neg Bool.false_ne_true]
    exact ⟨rho1, own1, s1, n.rel, x, s', e2, fun rho2 own2 H2 n2 => k rho2 own2 H2 (n.trans n2)⟩
theorem pe_difx (hc : PT X c (tB C b1)) (ha : PE X a (tE C d1)) (hb : PE X b (tE C d2)) : PE X (.IfExp c a b pos) (tE C (difx b1 d1 d2)) := (pe_ifExp hc ha hb).weak fun sg H Q q => by
  obtain ⟨rho, own, s, r, x, s', e, k⟩ := q
  obtain ⟨t, s1, e1, e2⟩ := bind_ok e
  refine ⟨rho, own, s, r, t, s1, e1, fun rho1 own1 H1 n => ?_⟩
  cases t with
  | true =>
    rw [if_pos rfl]
    exact ⟨rho1, own1, s1, n.rel, x, s', e2, fun rho2 own2 H2 v2 f2 n2 r2 => k rho2 own2 H2 v2 f2 (n.trans n2) r2⟩
  | false =>
    rw [if_neg Bool.false_ne_true]
    exact ⟨rho1, own1, s1, n.rel, x, s', e2, fun rho2 own2 H2 v2 f2 n2 r2 => k rho2 own2 H2 v2 f2 (n.trans n2) r2⟩
end

/-! ### one place -/
def intUn : UnaryOp → Int → Option Int
  | .USub, i => some (-i)
  | .Invert, i => some (Builtin.bitNot i)
  | _, _ => none
@[simp] def dun (op : UnaryOp) (d : DE) : DE := fun s => (d s).bind fun t s => match s.get t with
  | some (.w (.int i)) => (match intUn op i with
      | some j => .ok (.w (.int j)) s
      | none => .bad)
  | _ => .bad
theorem pe_dun {X : Cx} {C : Cf} {a : Expr} {d : DE} {op : UnaryOp} {pos : Pos} (ha : PE X a (tE C d)) : PE X (.UnaryOp op a pos) (tE C (dun op d)) := by
  have go : ∀ g : Int → Int, (∀ i, intUn op i = some (g i)) → UnR X (unaryOp op) (rU fun i => .int (g i)) → PE X (.UnaryOp op a pos) (tE C (dun op d)) := fun g hg hu =>
    (pe_un hu ha).weak fun sg H Q q => by
      obtain ⟨rho, own, s, r, x, s', e, k⟩ := q
      obtain ⟨t, s1, e1, e2⟩ := bind_ok e
      split at e2
      · rename_i i z
        rw [hg i] at e2
        simp only [Out.ok.injEq] at e2
        obtain ⟨rfl, rfl⟩ := e2
        exact ⟨rho, own, s, r, t, _, e1, fun rho1 own1 H1 v fr n rt => ⟨i, n.rel.getInt rt z, k rho1 own1 H1 _ [] n.drop0 ⟨by simp only [RW], rfl⟩⟩⟩
      · cases e2
  cases op with
  | USub => exact go _ (fun _ => rfl) un_neg
  | Invert => exact go _ (fun _ => rfl) un_inv
  | _ =>
    refine ⟨fun pins ss sg H Q I h => ?_⟩
    obtain ⟨rho, own, s, r, x, s', e, k⟩ := h
    obtain ⟨t, s1, e1, e2⟩ := bind_ok e
    split at e2
    · simp only [intUn] at e2; cases e2
    · cases e2
end Rk

/-! Rk7: items, slices, calls of built-ins. -/
namespace Rk
open PySem PySem.Spec PyProof.Rows L2

/-! ### items -/
def opIx (s : S) (t1 t2 : T) : Option T := match s.get t2 with
  | some (.w (.int i)) => (match seqOf s t1 with
      | some xs => (atI xs i).map .w
      | none => (match s.get t1 with
          | some (.w (.str z)) => if z.length ≤ sizeLine then (atI z.cps.toList i).map fun c => .w (.str ⟨#[c]⟩) else none
          | _ => none))
  | _ => none
@[simp] def dix (d1 d2 : DE) : DE := fun s => (d1 s).bind fun t1 s => (d2 s).bind fun t2 s => match opIx s t1 t2 with
  | some t => .ok t s
  | none => .bad
theorem atI_rel {C : Cf} {rho : List Addr} {H : Hp} {xs : List W} {vs : List V} {i : Int} {x : W} (h : RWs C rho H xs vs) (e : atI xs i = some x) : ∃ v, atI vs i = some v ∧ RW C rho H x v := by
  unfold atI at e ⊢
  rw [h.length] at e
  cases z : ixN vs.length i with
  | none => rw [z] at e; cases e
  | some j =>
    rw [z] at e
    simp only [Option.bind_some] at e ⊢
    exact h.get e
theorem ixR_ix {X : Cx} {C : Cf} (hK : C.K = X.K) : IxR X (r2 C opIx) := by
  intro value slice pins ss sgs H x y v u Q I rx ry q hs
  obtain ⟨rho, own, s, sg, t1, t2, f1, f2, t, r, h1, h2, e, k⟩ := q
  unfold opIx at e
  split at e
  · rename_i i e2
    have hy := r.getInt h2 e2
    split at e
    · rename_i xs e1
      obtain ⟨a, vs, rfl, sa, ra⟩ := r.seq h1 e1
      cases z : atI xs i with
      | none => rw [z] at e; cases e
      | some w =>
        rw [z] at e
        simp only [Option.map_some, Option.some.injEq] at e
        subst e
        obtain ⟨vv, zv, rv⟩ := atI_rel ra z
        have q := k H vv [] (Nxt.refl r) ⟨rv, rfl⟩
        rw [hK] at sa
        rcases sa with sa | sa
        · exact ix_list value slice pins ss sgs H _ y v u Q I rx ry ⟨a, vs, i, vv, rfl, hy, sa, zv, q⟩ hs
        · exact ix_tup value slice pins ss sgs H _ y v u Q I rx ry ⟨a, vs, i, vv, rfl, hy, sa, zv, q⟩ hs
    · split at e
      · rename_i z e1
        split at e
        · rename_i hl
          cases z' : atI z.cps.toList i with
          | none => rw [z'] at e; cases e
          | some c =>
            rw [z'] at e
            simp only [Option.map_some, Option.some.injEq] at e
            subst e
            exact ix_str value slice pins ss sgs H _ y v u Q I rx ry ⟨z, i, c, r.getStr h1 e1, hy, hl, z', k H _ [] (Nxt.refl r) r0_str⟩ hs
        · cases e
      · cases e
  · cases e
theorem pe_dix {X : Cx} {C : Cf} {a b : Expr} {d1 d2 : DE} {pos : Pos} (hK : C.K = X.K) (ha : PE X a (tE C d1)) (hb : PE X b (tE C d2)) (hs : PlainIx b) : PE X (.Subscript a b pos) (tE C (dix d1 d2)) :=
  (pe_ix (ixR_ix hK) ha hb hs).weak fun sg H Q q => two_ok q

/-! ### slices -/
abbrev DO := S → Out (Option Int)
@[simp] def dno : DO := fun s => .ok none s
@[simp] def dso (d : DE) : DO := fun s => (d s).bind fun t s => match s.get t with
  | some (.w (.int i)) => .ok (some i) s
  | _ => .bad
def tO (C : Cf) (d : DO) : TO := fun sg H Q => ∃ rho own s, Rel C rho own s sg H ∧ ∃ o s', d s = .ok o s' ∧ ∀ rho' own' H', Nxt C rho own H rho' own' s' sg H' [] → Q o H'
theorem po_dno {X : Cx} {C : Cf} : PO X none (tO C dno) := ⟨fun pins ss sg H Q I h => by
  obtain ⟨rho, own, s, r, o, s', e, k⟩ := h
  simp only [dno, Out.ok.injEq] at e
  obtain ⟨rfl, rfl⟩ := e
  exact po_none.run pins ss sg H Q I (k rho own H (Nxt.refl r))⟩
theorem po_dso {X : Cx} {C : Cf} {e : Expr} {d : DE} (h : PE X e (tE C d)) : PO X (some e) (tO C (dso d)) := ⟨fun pins ss sg H Q I hq => by
  refine (po_some h).run pins ss sg H Q I ?_
  obtain ⟨rho, own, s, r, o, s', e, k⟩ := hq
  obtain ⟨t, s1, e1, e2⟩ := bind_ok e
  split at e2
  · rename_i i z
    simp only [Out.ok.injEq] at e2
    obtain ⟨rfl, rfl⟩ := e2
    exact ⟨rho, own, s, r, t, _, e1, fun rho1 own1 H1 v fr n rt => ⟨i, n.rel.getInt rt z, k rho1 own1 H1 n.drop0⟩⟩
  · cases e2⟩
/-- the items of xs[lo:hi] -/
def cutW (xs : List W) (lo hi : Option Int) : List W := (xs.drop (HT.sIx xs.length 0 lo)).take (HT.sIx xs.length xs.length hi - HT.sIx xs.length 0 lo)
def opSl (s : S) (t : T) (lo hi : Option Int) : Option T := match s.get t with
  | some (.w (.tup xs)) => some (.w (.tup (if HT.sIx xs.length 0 lo = 0 ∧ HT.sIx xs.length xs.length hi = xs.length then xs else cutW xs lo hi)))
  | some (.w (.str z)) => if z.length ≤ sizeLine then some (.w (.str (cutS z lo hi))) else none
  | _ => (lstOf s t).map fun xs => .lst (cutW xs lo hi)
@[simp] def dsl (d : DE) (dl dh : DO) : DE := fun s => (d s).bind fun t s => (dl s).bind fun lo s => (dh s).bind fun hi s => match opSl s t lo hi with
  | some t => .ok t s
  | none => .bad
def rsl (C : Cf) : V → Option Int → Option Int → Hp → VK → Prop := fun x lo hi H Q => ∃ rho own s sg t fr u, Rel C rho own s sg H ∧ RT C rho H sg t x fr ∧ opSl s t lo hi = some u ∧
  ∀ H' v fr', Nxt C rho own H rho own s sg H' fr' → R0 C rho H' u v fr' → Q v H'
theorem RWs.drop {C : Cf} {rho : List Addr} {H : Hp} : ∀ {xs : List W} {vs : List V} (n : Nat), RWs C rho H xs vs → RWs C rho H (xs.drop n) (vs.drop n)
  | _, _, 0, h => h
  | [], vs, n + 1, h => by simp only [RWs] at h; subst h; simp [RWs]
  | x :: xs, vs, n + 1, h => by
    simp only [RWs] at h
    obtain ⟨y, ys, rfl, _, t⟩ := h
    exact RWs.drop n t
theorem RWs.take {C : Cf} {rho : List Addr} {H : Hp} : ∀ {xs : List W} {vs : List V} (n : Nat), RWs C rho H xs vs → RWs C rho H (xs.take n) (vs.take n)
  | _, _, 0, h => by simp [RWs]
  | [], vs, n + 1, h => by simp only [RWs] at h; subst h; simp [RWs]
  | x :: xs, vs, n + 1, h => by
    simp only [RWs] at h
    obtain ⟨y, ys, rfl, r, t⟩ := h
    simp only [List.take_succ_cons, RWs]
    exact ⟨y, _, rfl, r, RWs.take n t⟩
theorem cut_rel {C : Cf} {rho : List Addr} {H : Hp} {xs : List W} {vs : List V} (lo hi : Option Int) (h : RWs C rho H xs vs) : RWs C rho H (cutW xs lo hi) (cutV vs lo hi) := by
  unfold cutW cutV
  rw [h.length]
  exact (h.drop _).take _
theorem slR_sl {X : Cx} {C : Cf} (hK : C.K = X.K) : SlR X (rsl C) := by
  intro pins ss sgs H x v vl vu lo hi sl Q I rx hs pl pu q
  obtain ⟨rho, own, s, sg, t, fr, u, r, h, e, k⟩ := q
  unfold opSl at e
  split at e
  · rename_i xs z
    simp only [Option.some.injEq] at e
    subst e
    obtain ⟨a, vs, rfl, sa, ra⟩ := r.getTup h z
    rw [hK] at sa
    have hl := ra.length
    refine sl_tupA pins ss sgs H _ v vl vu lo hi sl Q I rx hs pl pu ⟨a, vs, rfl, sa, fun c => ?_, fun c p np => ?_⟩
    · rw [← hl] at c
      rw [if_pos c] at k
      refine k H _ [] (Nxt.refl r) ⟨?_, rfl⟩
      simp only [RW]
      exact ⟨a, vs, rfl, hK ▸ sa, ra⟩
    · rw [← hl] at c
      rw [if_neg c] at k
      refine k _ _ [] (Nxt.new0 r np) ⟨?_, rfl⟩
      simp only [RW]
      exact ⟨p, _, rfl, SqT.of upd_same, (cut_rel lo hi ra).up (Up.new np)⟩
  · rename_i z zz
    split at e
    · rename_i hl
      simp only [Option.some.injEq] at e
      subst e
      exact L2.sl_str pins ss sgs H _ v vl vu lo hi sl Q I rx hs pl pu ⟨z, r.getStr h zz, hl, k H _ [] (Nxt.refl r) r0_str⟩
    · cases e
  · cases z : lstOf s t with
    | none => rw [z] at e; cases e
    | some xs =>
      rw [z] at e
      simp only [Option.map_some, Option.some.injEq] at e
      subst e
      obtain ⟨a, vs, rfl, sa, ra⟩ := r.lst h z
      rw [hK] at sa
      refine sl_list pins ss sgs H _ v vl vu lo hi sl Q I rx hs pl pu ⟨a, vs, rfl, sa, fun p np => ?_⟩
      exact k _ _ [p] (Nxt.new r np) ⟨p, rfl, rfl, _, upd_same, (cut_rel lo hi ra).up (Up.new np)⟩
theorem pe_dsl {X : Cx} {C : Cf} {a : Expr} {lo hi : Option Expr} {d : DE} {dl dh : DO} {p2 pos : Pos} (hK : C.K = X.K) (ha : PE X a (tE C d)) (hl : PO X lo (tO C dl)) (hh : PO X hi (tO C dh)) : PE X (.Subscript a (.Slice lo hi none p2) pos) (tE C (dsl d dl dh)) :=
  (pe_slice (slR_sl hK) ha hl hh).weak fun sg H Q q => by
    obtain ⟨rho, own, s, r, t, s', e, k⟩ := q
    obtain ⟨t1, s1, e1, e⟩ := bind_ok e
    obtain ⟨o1, s2, e2, e⟩ := bind_ok e
    obtain ⟨o2, s3, e3, e⟩ := bind_ok e
    split at e
    · rename_i t' ef
      simp only [Out.ok.injEq] at e
      obtain ⟨rfl, rfl⟩ := e
      refine ⟨rho, own, s, r, t1, s1, e1, fun rho1 own1 H1 v1 f1 n1 r1 => ⟨rho1, own1, s1, n1.rel, o1, s2, e2, fun rho2 own2 H2 n2 => ⟨rho2, own2, s2, n2.rel, o2, _, e3, fun rho3 own3 H3 n3 => ?_⟩⟩⟩
      refine ⟨rho3, own3, _, sg, t1, f1, t', n3.rel, r1.wait n1.rel n1.out (n2.trans n3), ef, fun H' v fr n4 r4 => ?_⟩
      exact k rho3 own3 H' v fr ((n1.trans (n2.trans n3)).trans n4) (RT.of0 r4)
    · cases e
/-- xs[::-1] -/
@[simp] def drev (d : DE) : DE := fun s => (d s).bind fun t s => match lstOf s t with
  | some xs => .ok (.lst xs.reverse) s
  | none => .bad
theorem RWs.rev {C : Cf} {rho : List Addr} {H : Hp} : ∀ {xs : List W} {vs : List V}, RWs C rho H xs vs → RWs C rho H xs.reverse vs.reverse
  | [], vs, h => by simp only [RWs] at h; subst h; simp [RWs]
  | x :: xs, vs, h => by
    simp only [RWs] at h
    obtain ⟨y, ys, rfl, r, t⟩ := h
    simp only [List.reverse_cons]
    exact RWs.append (RWs.rev t) (RWs.one r)
theorem pe_drev {X : Cx} {C : Cf} {a : Expr} {d : DE} {j : Nat} {p1 p2 p3 pos : Pos} (hK : C.K = X.K) (ha : PE X a (tE C d)) : PE X (.Subscript a (.Slice none none (some (.UnaryOp .USub (.Constant (.int 1) j p1) p2)) p3) pos) (tE C (drev d)) :=
  (pe_revL ha).weak fun sg H Q q => by
    obtain ⟨rho, own, s, r, t, s', e, k⟩ := q
    obtain ⟨t1, s1, e1, e⟩ := bind_ok e
    split at e
    · rename_i xs ef
      simp only [Out.ok.injEq] at e
      obtain ⟨rfl, rfl⟩ := e
      refine ⟨rho, own, s, r, t1, _, e1, fun rho1 own1 H1 v1 f1 n1 r1 => ?_⟩
      obtain ⟨a, vs, rfl, sa, ra⟩ := n1.rel.lst r1 ef
      rw [hK] at sa
      refine ⟨a, vs, rfl, sa, fun p np => ?_⟩
      exact k rho1 own1 _ _ [p] (n1.drop0.trans (Nxt.new n1.rel np)) ⟨p, rfl, rfl, _, upd_same, (RWs.rev ra).up (Up.new np)⟩
    · cases e
end Rk

/-! Rk8: built-in functions. -/
namespace Rk
open PySem PySem.Spec PyProof.Rows L2

def RTL (C : Cf) (rho : List Addr) (H : Hp) (sg : L2.St) : List T → List V → List Addr → Prop
  | [], vs, fr => vs = [] ∧ fr = []
  | t :: ts, vs, fr => ∃ v ys f1 f2, vs = v :: ys ∧ fr = f1 ++ f2 ∧ RT C rho H sg t v f1 ∧ RTL C rho H sg ts ys f2
@[simp] def dEs : List DE → DTs
  | [] => fun s => .ok [] s
  | d :: r => fun s => (d s).bind fun x s => (dEs r s).bind fun xs s => .ok (x :: xs) s
def tEs (C : Cf) (d : DTs) : TA := fun sg H Q => ∃ rho own s, Rel C rho own s sg H ∧ ∃ ts s', d s = .ok ts s' ∧
  ∀ rho' own' H' vs fr, Nxt C rho own H rho' own' s' sg H' fr → RTL C rho' H' sg ts vs fr → Q vs H'
section
variable {X : Cx} {C : Cf} {e : Expr} {es : List Expr} {d : DE} {ds : List DE} {pos : Pos}
theorem pa_Es0 : PA X [] (tEs C (dEs [])) := pa_nil.weak fun sg H Q q => by
  obtain ⟨rho, own, s, r, x, s', e, k⟩ := q
  simp only [dEs, Out.ok.injEq] at e
  obtain ⟨rfl, rfl⟩ := e
  exact k rho own H [] [] (Nxt.refl r) ⟨rfl, rfl⟩
theorem pa_Es (h : PE X e (tE C d)) (hr : PA X es (tEs C (dEs ds))) (hs : starEach (e :: es) X.env = (false, eval e X.env) :: starEach es X.env) : PA X (e :: es) (tEs C (dEs (d :: ds))) :=
  (pa_cons h hr hs).weak fun sg H Q q => by
    obtain ⟨rho, own, s, r, xs, s', e, k⟩ := q
    obtain ⟨t, s1, e1, e2⟩ := bind_ok e
    obtain ⟨ys, s2, e4, e3⟩ := bind_ok e2
    simp only [Out.ok.injEq] at e3
    obtain ⟨rfl, rfl⟩ := e3
    refine ⟨rho, own, s, r, t, s1, e1, fun rho1 own1 H1 v fr1 n1 r1 => ⟨rho1, own1, s1, n1.rel, ys, _, e4, fun rho2 own2 H2 vs fr2 n2 r2 => ?_⟩⟩
    refine k rho2 own2 H2 (v :: vs) (fr1 ++ fr2) (n1.both (fun a ha => let ⟨o, e, _⟩ := r1.at a ha; ⟨o, e⟩) n2) ?_
    exact ⟨v, vs, fr1, fr2, rfl, rfl, r1.wait n1.rel n1.out n2, r2⟩
end
/-- a call of a built-in that changes nothing -/
def rB (C : Cf) (f : S → List T → Option T) : List V → Hp → VK → Prop := fun xs H Q => ∃ rho own s sg ts fr t, Rel C rho own s sg H ∧ RTL C rho H sg ts xs fr ∧ f s ts = some t ∧
  ∀ H' v fr', Nxt C rho own H rho own s sg H' fr' → R0 C rho H' t v fr' → Q v H'
@[simp] def dbi (f : S → List T → Option T) (ds : List DE) : DE := fun s => (dEs ds s).bind fun ts s => match f s ts with
  | some t => .ok t s
  | none => .bad
theorem bi_ok {C : Cf} {f : S → List T → Option T} {ds : List DE} {sg : L2.St} {H : Hp} {Q : VK} (q : tE C (dbi f ds) sg H Q) : tCB (rB C f) (tEs C (dEs ds)) sg H Q := by
  obtain ⟨rho, own, s, r, t, s', e, k⟩ := q
  obtain ⟨ts, s1, e1, e2⟩ := bind_ok e
  split at e2
  · rename_i t' z
    simp only [Out.ok.injEq] at e2
    obtain ⟨rfl, rfl⟩ := e2
    exact ⟨rho, own, s, r, ts, _, e1, fun rho1 own1 H1 vs fr n rt => ⟨rho1, own1, _, sg, ts, fr, _, n.rel, rt, z, fun H' v fr' n' r' => k rho1 own1 H' v fr' (n.drop0.trans n') (RT.of0 r')⟩⟩
  · cases e2
theorem pe_bi {X : Cx} {C : Cf} {f : S → List T → Option T} {id : String} {x : Str} {p pos : Pos} {e : Expr} {es : List Expr} {ds : List DE} (hc : CallR X (.builtin id) (rB C f)) (hg : Gl X x) (hm : X.mg x = none) (hv : bootBuiltins x = some (.builtin id)) (ha : PA X (e :: es) (tEs C (dEs ds)))
    (hn : x ≠ "__name__") (hdb : (x == ("__debug__" : Str)) = false) (he : starEach (e :: es) X.env = (false, eval e X.env) :: starEach es X.env) (hpl : (backTo pos (starEach es X.env)).any (·.1) = false) : PE X (.Call (.Name x p) (e :: es) [] pos) (tE C (dbi f ds)) :=
  (pe_callB hc hg hm hv ha hn hdb he hpl).weak fun sg H Q q => bi_ok q
theorem pe_bt {X : Cx} {C : Cf} {f : S → List T → Option T} {id : String} {x : Str} {p pos : Pos} {e : Expr} {es : List Expr} {ds : List DE} (hc : CallR X (.type id) (rB C f)) (hg : Gl X x) (hm : X.mg x = none) (hv : bootBuiltins x = some (.type id)) (ha : PA X (e :: es) (tEs C (dEs ds)))
    (hn : x ≠ "__name__") (hdb : (x == ("__debug__" : Str)) = false) (he : starEach (e :: es) X.env = (false, eval e X.env) :: starEach es X.env) (hpl : (backTo pos (starEach es X.env)).any (·.1) = false) : PE X (.Call (.Name x p) (e :: es) [] pos) (tE C (dbi f ds)) :=
  (pe_callTy hc hg hm hv ha hn hdb he hpl).weak fun sg H Q q => bi_ok q
section
variable {X : Cx} {C : Cf} {rho own fr : List Addr} {s : S} {sg : L2.St} {H : Hp} {t t1 t2 : T} {v : V} {xs : List V}
theorem RTL.one (h : RTL C rho H sg [t] xs fr) : ∃ v f, xs = [v] ∧ RT C rho H sg t v f := by
  obtain ⟨v, ys, f1, f2, rfl, rfl, r, rfl, rfl⟩ := h
  exact ⟨v, f1, rfl, r⟩
theorem RTL.two (h : RTL C rho H sg [t1, t2] xs fr) : ∃ v u f g, xs = [v, u] ∧ RT C rho H sg t1 v f ∧ RT C rho H sg t2 u g := by
  obtain ⟨v, ys, f1, f2, rfl, rfl, r, h⟩ := h
  obtain ⟨u, g, rfl, r2⟩ := RTL.one h
  exact ⟨v, u, f1, g, rfl, r, r2⟩
theorem RTL.three {t3 : T} (h : RTL C rho H sg [t1, t2, t3] xs fr) : ∃ v u w f g k, xs = [v, u, w] ∧ RT C rho H sg t1 v f ∧ RT C rho H sg t2 u g ∧ RT C rho H sg t3 w k := by
  obtain ⟨v, ys, f1, f2, rfl, rfl, r, h⟩ := h
  obtain ⟨u, w, g, k, rfl, r2, r3⟩ := RTL.two h
  exact ⟨v, u, w, f1, g, k, rfl, r, r2, r3⟩

/-! ### abs, min, max, sum, all, any, len -/
def bAbs (s : S) : List T → Option T
  | [t] => (match s.get t with
      | some (.w (.int i)) => some (.w (.int (if i < 0 then -i else i)))
      | _ => none)
  | _ => none
theorem c_abs : CallR X (.builtin "abs") (rB C bAbs) := by
  intro pins ss sgs H xs us Q I rs q
  obtain ⟨rho, own, s, sg, ts, fr, t, r, h, e, k⟩ := q
  unfold bAbs at e
  split at e
  · obtain ⟨v, f, rfl, rt⟩ := RTL.one h
    split at e
    · rename_i i z
      cases e
      exact call_abs pins ss sgs H _ us Q I rs ⟨i, by rw [r.getInt rt z], k H _ [] (Nxt.refl r) r0_int⟩
    · cases e
  · cases e
/-- all of them ints -/
@[simp] def intsOf : List W → Option (List Int)
  | [] => some []
  | .int i :: r => (intsOf r).map (i :: ·)
  | _ => none
@[simp] def blsOf : List W → Option (List Bool)
  | [] => some []
  | .bl i :: r => (blsOf r).map (i :: ·)
  | _ => none
theorem intsOf_rel : ∀ {ws : List W} {ns : List Int} {vs : List V}, intsOf ws = some ns → RWs C rho H ws vs → vs = ns.map V.int
  | [], ns, vs, e, h => by simp only [intsOf, Option.some.injEq] at e; simp only [RWs] at h; subst e h; rfl
  | .int i :: r, ns, vs, e, h => by
    simp only [intsOf] at e
    cases z : intsOf r with
    | none => rw [z] at e; cases e
    | some ms =>
      rw [z] at e
      simp only [Option.map_some, Option.some.injEq] at e
      subst e
      simp only [RWs, RW] at h
      obtain ⟨y, ys, rfl, rfl, h⟩ := h
      simp only [List.map_cons]
      rw [intsOf_rel z h]
  | .non :: r, ns, vs, e, h => by cases e
  | .bl _ :: r, ns, vs, e, h => by cases e
  | .str _ :: r, ns, vs, e, h => by cases e
  | .tup _ :: r, ns, vs, e, h => by cases e
  | .rol _ :: r, ns, vs, e, h => by cases e
  | .loc _ :: r, ns, vs, e, h => by cases e
  | .glo _ :: r, ns, vs, e, h => by cases e
  | .ty _ :: r, ns, vs, e, h => by cases e
theorem blsOf_rel : ∀ {ws : List W} {ns : List Bool} {vs : List V}, blsOf ws = some ns → RWs C rho H ws vs → vs = ns.map V.bl
  | [], ns, vs, e, h => by simp only [blsOf, Option.some.injEq] at e; simp only [RWs] at h; subst e h; rfl
  | .bl i :: r, ns, vs, e, h => by
    simp only [blsOf] at e
    cases z : blsOf r with
    | none => rw [z] at e; cases e
    | some ms =>
      rw [z] at e
      simp only [Option.map_some, Option.some.injEq] at e
      subst e
      simp only [RWs, RW] at h
      obtain ⟨y, ys, rfl, rfl, h⟩ := h
      simp only [List.map_cons]
      rw [blsOf_rel z h]
  | .non :: r, ns, vs, e, h => by cases e
  | .int _ :: r, ns, vs, e, h => by cases e
  | .str _ :: r, ns, vs, e, h => by cases e
  | .tup _ :: r, ns, vs, e, h => by cases e
  | .rol _ :: r, ns, vs, e, h => by cases e
  | .loc _ :: r, ns, vs, e, h => by cases e
  | .glo _ :: r, ns, vs, e, h => by cases e
  | .ty _ :: r, ns, vs, e, h => by cases e
/-- any, all -/
def bAll (s : S) : List T → Option T
  | [t] => (lstOf s t).bind fun ws => (blsOf ws).map fun bs => .w (.bl (bs.all id))
  | _ => none
def bAny (s : S) : List T → Option T
  | [t] => (lstOf s t).bind fun ws => (blsOf ws).map fun bs => .w (.bl (bs.any id))
  | _ => none
theorem c_all (hK : C.K = X.K) (hc : X.calm = true) : CallR X (.builtin "all") (rB C bAll) := by
  intro pins ss sgs H xs us Q I rs q
  obtain ⟨rho, own, s, sg, ts, fr, t, r, h, e, k⟩ := q
  unfold bAll at e
  split at e
  · obtain ⟨v, f, rfl, rt⟩ := RTL.one h
    cases z : lstOf s _ with
    | none => rw [z] at e; cases e
    | some ws =>
      rw [z] at e
      simp only [Option.bind_some] at e
      cases z2 : blsOf ws with
      | none => rw [z2] at e; cases e
      | some bs =>
        rw [z2] at e
        simp only [Option.map_some, Option.some.injEq] at e
        subst e
        obtain ⟨a, vs, rfl, sa, ra⟩ := r.lst rt z
        rw [hK, blsOf_rel z2 ra] at sa
        exact cr_all hc pins ss sgs H _ us Q I rs ⟨a, bs, rfl, sa, k H _ [] (Nxt.refl r) r0_bl⟩
  · cases e
theorem c_any (hK : C.K = X.K) (hc : X.calm = true) : CallR X (.builtin "any") (rB C bAny) := by
  intro pins ss sgs H xs us Q I rs q
  obtain ⟨rho, own, s, sg, ts, fr, t, r, h, e, k⟩ := q
  unfold bAny at e
  split at e
  · obtain ⟨v, f, rfl, rt⟩ := RTL.one h
    cases z : lstOf s _ with
    | none => rw [z] at e; cases e
    | some ws =>
      rw [z] at e
      simp only [Option.bind_some] at e
      cases z2 : blsOf ws with
      | none => rw [z2] at e; cases e
      | some bs =>
        rw [z2] at e
        simp only [Option.map_some, Option.some.injEq] at e
        subst e
        obtain ⟨a, vs, rfl, sa, ra⟩ := r.lst rt z
        rw [hK, blsOf_rel z2 ra] at sa
        exact cr_any hc pins ss sgs H _ us Q I rs ⟨a, bs, rfl, sa, k H _ [] (Nxt.refl r) r0_bl⟩
  · cases e
def bSum (s : S) : List T → Option T
  | [t] => (lstOf s t).bind fun ws => (intsOf ws).map fun ns => .w (.int ns.sum)
  | _ => none
theorem c_sum (hK : C.K = X.K) (hc : X.calm = true) : CallR X (.builtin "sum") (rB C bSum) := by
  intro pins ss sgs H xs us Q I rs q
  obtain ⟨rho, own, s, sg, ts, fr, t, r, h, e, k⟩ := q
  unfold bSum at e
  split at e
  · obtain ⟨v, f, rfl, rt⟩ := RTL.one h
    cases z : lstOf s _ with
    | none => rw [z] at e; cases e
    | some ws =>
      rw [z] at e
      simp only [Option.bind_some] at e
      cases z2 : intsOf ws with
      | none => rw [z2] at e; cases e
      | some bs =>
        rw [z2] at e
        simp only [Option.map_some, Option.some.injEq] at e
        subst e
        obtain ⟨a, vs, rfl, sa, ra⟩ := r.lst rt z
        rw [hK, intsOf_rel z2 ra] at sa
        exact cr_sum hc pins ss sgs H _ us Q I rs ⟨a, bs, rfl, sa, k H _ [] (Nxt.refl r) r0_int⟩
  · cases e
def bLen (s : S) : List T → Option T
  | [t] => (match s.get t with
      | some (.w (.str z)) => if z.length ≤ sizeLine then some (.w (.int z.length)) else none
      | _ => (seqOf s t).map fun ws => .w (.int ws.length))
  | _ => none
theorem c_len (hK : C.K = X.K) : CallR X (.builtin "len") (rB C bLen) := by
  intro pins ss sgs H xs us Q I rs q
  obtain ⟨rho, own, s, sg, ts, fr, t, r, h, e, k⟩ := q
  unfold bLen at e
  split at e
  · obtain ⟨v, f, rfl, rt⟩ := RTL.one h
    split at e
    · rename_i y z
      split at e
      · rename_i hl
        cases e
        have := r.getStr rt z; subst v
        exact call_len_str pins ss sgs H _ us Q I rs ⟨y, rfl, hl, k H _ [] (Nxt.refl r) r0_int⟩
      · cases e
    · cases z : seqOf s _ with
      | none => rw [z] at e; cases e
      | some ws =>
        rw [z] at e
        simp only [Option.map_some, Option.some.injEq] at e
        subst e
        obtain ⟨a, vs, rfl, sa, ra⟩ := r.seq rt z
        rw [hK] at sa
        exact call_len_seq pins ss sgs H _ us Q I rs ⟨a, vs, rfl, sa, k H _ [] (Nxt.refl r) ⟨by simp only [RW]; rw [ra.length], rfl⟩⟩
  · cases e
/-! ### min, max of ints -/
def minI : List Int → Option Int
  | [] => none
  | x :: xs => some (xs.foldl (fun a y => if y < a then y else a) x)
def maxI : List Int → Option Int
  | [] => none
  | x :: xs => some (xs.foldl (fun a y => if a < y then y else a) x)
/-- the items that one argument holds, or the arguments themselves -/
def argsI (s : S) : List T → Option (List Int)
  | [t] => (seqOf s t).bind intsOf
  | [t1, t2] => (match s.get t1, s.get t2 with
      | some (.w (.int i)), some (.w (.int j)) => some [i, j]
      | _, _ => none)
  | [t1, t2, t3] => (match s.get t1, s.get t2, s.get t3 with
      | some (.w (.int i)), some (.w (.int j)), some (.w (.int k)) => some [i, j, k]
      | _, _, _ => none)
  | _ => none
def bMin (s : S) (ts : List T) : Option T := ((argsI s ts).bind minI).map fun i => .w (.int i)
def bMax (s : S) (ts : List T) : Option T := ((argsI s ts).bind maxI).map fun i => .w (.int i)
end
end Rk

/-! Rk8b: built-in functions, further. -/
namespace Rk
open PySem PySem.Spec PyProof.Rows L2

theorem minD_int : ∀ (xs : List Int) (x : Int), PySem.W.minD (.int x) (xs.map .int) = .int (xs.foldl (fun a y => if y < a then y else a) x)
  | [], x => rfl
  | y :: ys, x => by
    have ih := minD_int ys (if y < x then y else x)
    unfold PySem.W.minD at ih ⊢
    simp only [List.map_cons, List.foldl_cons]
    rw [PySem.W.dataLt_int, ← ih]
    congr 1
    by_cases h : y < x <;> simp [h]
theorem maxD_int : ∀ (xs : List Int) (x : Int), PySem.W.maxD (.int x) (xs.map .int) = .int (xs.foldl (fun a y => if a < y then y else a) x)
  | [], x => rfl
  | y :: ys, x => by
    have ih := maxD_int ys (if x < y then y else x)
    unfold PySem.W.maxD at ih ⊢
    simp only [List.map_cons, List.foldl_cons]
    rw [PySem.W.dataLt_int, ← ih]
    congr 1
    by_cases h : x < y <;> simp [h]
theorem reads_ints {h : Heap} : ∀ {us : List Value} {ns : List Int}, Vals (ns.map V.int) us → ReadsAll h us (ns.map PyData.int) []
  | us, [], r => by
    cases r
    exact .nil
  | us, n :: ns, r => by
    cases r with
    | cons a b =>
      obtain ⟨t, rfl⟩ := a
      have e : ReadsAll h (Value.int n t :: _) (PyData.int n :: ns.map PyData.int) ([] ++ []) := .cons (.int n t) (reads_ints b)
      exact e
theorem alike_ints : ∀ (ns : List Int), PySem.W.AlikeAll (ns.map PyData.int) := fun ns => by
  constructor
  · intro x hx y hy
    obtain ⟨a, _, rfl⟩ := List.mem_map.mp hx
    obtain ⟨b, _, rfl⟩ := List.mem_map.mp hy
    rfl
  · intro x hx
    obtain ⟨a, _, rfl⟩ := List.mem_map.mp hx
    exact fun z => nomatch z
theorem depth_ints : ∀ (ns : List Int), PyData.depthAll (ns.map PyData.int) = 0
  | [] => by simp [PyData.depthAll]
  | n :: ns => by simp [PyData.depthAll, PyData.depth, depth_ints ns]
section
variable {X : Cx} {C : Cf} {rho own fr : List Addr} {s : S} {sg : L2.St} {H : Hp} {t t1 t2 : T} {v : V} {xs : List V}
theorem argsI_two (r : Rel C rho own s sg H) (h : RTL C rho H sg [t1, t2] xs fr) {ns : List Int} (e : argsI s [t1, t2] = some ns) : ∃ i j, ns = [i, j] ∧ xs = [.int i, .int j] := by
  obtain ⟨v, u, f, g, rfl, r1, r2⟩ := RTL.two h
  simp only [argsI] at e
  split at e
  · rename_i i j z1 z2
    cases e
    exact ⟨i, j, rfl, by rw [r.getInt r1 z1, r.getInt r2 z2]⟩
  · cases e
theorem argsI_three {t3 : T} (r : Rel C rho own s sg H) (h : RTL C rho H sg [t1, t2, t3] xs fr) {ns : List Int} (e : argsI s [t1, t2, t3] = some ns) : ∃ i j k, ns = [i, j, k] ∧ xs = [.int i, .int j, .int k] := by
  obtain ⟨v, u, w, f, g, m, rfl, r1, r2, r3⟩ := RTL.three h
  simp only [argsI] at e
  split at e
  · rename_i i j k z1 z2 z3
    cases e
    exact ⟨i, j, k, rfl, by rw [r.getInt r1 z1, r.getInt r2 z2, r.getInt r3 z3]⟩
  · cases e
theorem argsI_one (r : Rel C rho own s sg H) (h : RTL C rho H sg [t] xs fr) {ns : List Int} (e : argsI s [t] = some ns) : ∃ a, xs = [.ref a] ∧ (SqL C.K H a (ns.map V.int) ∨ SqT C.K H a (ns.map V.int)) := by
  obtain ⟨v, f, rfl, r1⟩ := RTL.one h
  simp only [argsI] at e
  cases z : seqOf s t with
  | none => rw [z] at e; cases e
  | some ws =>
    rw [z] at e
    simp only [Option.bind_some] at e
    obtain ⟨a, vs, rfl, sa, ra⟩ := r.seq r1 z
    rw [intsOf_rel e ra] at sa
    exact ⟨a, rfl, sa⟩
theorem argsI_len {ts : List T} {ns : List Int} (e : argsI s ts = some ns) : (∃ t, ts = [t]) ∨ (∃ t1 t2, ts = [t1, t2]) ∨ ∃ t1 t2 t3, ts = [t1, t2, t3] := by
  match ts, e with
  | [], e => cases e
  | [t], e => exact .inl ⟨t, rfl⟩
  | [t1, t2], e => exact .inr (.inl ⟨t1, t2, rfl⟩)
  | [t1, t2, t3], e => exact .inr (.inr ⟨t1, t2, t3, rfl⟩)
  | _ :: _ :: _ :: _ :: _, e => cases e
theorem c_min (hK : C.K = X.K) (hc : X.calm = true) (hu : X.A.units + 65 < cLine) : CallR X (.builtin "min") (rB C fun s ts => if ts.length = 3 then none else bMin s ts) := by
  intro pins ss sgs H xs us Q I rs q
  obtain ⟨rho, own, s, sg, ts, fr, t, r, h, e, k⟩ := q
  dsimp only at e
  split at e
  · cases e
  · rename_i h3
    unfold bMin at e
    cases z : argsI s ts with
    | none => rw [z] at e; cases e
    | some ns =>
      rw [z] at e
      simp only [Option.bind_some] at e
      cases ns with
      | nil => cases e
      | cons x ns =>
        simp only [minI, Option.map_some, Option.some.injEq] at e
        subst e
        have fin := k H _ [] (Nxt.refl r) r0_int
        rcases argsI_len z with ⟨t, rfl⟩ | ⟨t1, t2, rfl⟩ | ⟨t1, t2, t3, rfl⟩
        · obtain ⟨a, rfl, sa⟩ := argsI_one r h z
          rw [hK] at sa
          obtain ⟨u, rfl, ru⟩ := Vals.one rs
          cases ru
          have go : ∀ (i : Nat) (v : Value) (h' : Heap) (tk : Nat) (bs : List Addr), Reads h' v (PySem.W.minD (.int x) (ns.map .int)) bs → (∀ b o, ss.heap.get? b = some o → h'.get? b = some o) → EP X pins sgs Q v { ss with heap := h', toks := tk } := fun i v h' tk bs rd kp => by
            rw [minD_int] at rd
            cases rd with
            | int m t => exact ⟨.int _, H, I.kept kp, ⟨t, rfl⟩, fin⟩
          have hd := depth_ints (x :: ns)
          simp only [List.map_cons] at hd
          rcases sa with sa | sa
          · obtain ⟨its, rv, p, hz⟩ := I.list sa
            refine PySem.W.min_list_data (I.ok.hd hc) p.isList (x := .int x) (xs := ns.map .int) (by simpa using reads_ints rv) (by simpa using alike_ints (x :: ns)) (by rw [hd]; omega) fun i v h' tk bs _ rd kp => go i v h' tk bs rd kp
          · obtain ⟨its, rv, p, hz⟩ := I.tuple sa
            refine PySem.W.min_tuple_data (I.ok.hd hc) p (x := .int x) (xs := ns.map .int) (by simpa using reads_ints rv) (by simpa using alike_ints (x :: ns)) (by rw [hd]; omega) fun i v h' tk bs _ rd kp => go i v h' tk bs rd kp
        · obtain ⟨i, j, e1, rfl⟩ := argsI_two r h z
          cases e1
          exact call_min2 hc pins ss sgs H _ us Q I rs ⟨_, _, rfl, fin⟩
        · exact absurd rfl h3
theorem c_max (hK : C.K = X.K) (hc : X.calm = true) (hu : X.A.units + 65 < cLine) : CallR X (.builtin "max") (rB C bMax) := by
  intro pins ss sgs H xs us Q I rs q
  obtain ⟨rho, own, s, sg, ts, fr, t, r, h, e, k⟩ := q
  unfold bMax at e
  cases z : argsI s ts with
  | none => rw [z] at e; cases e
  | some ns =>
    rw [z] at e
    simp only [Option.bind_some] at e
    cases ns with
    | nil => cases e
    | cons x ns =>
      simp only [maxI, Option.map_some, Option.some.injEq] at e
      subst e
      have fin := k H _ [] (Nxt.refl r) r0_int
      rcases argsI_len z with ⟨t, rfl⟩ | ⟨t1, t2, rfl⟩ | ⟨t1, t2, t3, rfl⟩
      · obtain ⟨a, rfl, sa⟩ := argsI_one r h z
        rw [hK] at sa
        obtain ⟨u, rfl, ru⟩ := Vals.one rs
        cases ru
        have go : ∀ (i : Nat) (v : Value) (h' : Heap) (tk : Nat) (bs : List Addr), Reads h' v (PySem.W.maxD (.int x) (ns.map .int)) bs → (∀ b o, ss.heap.get? b = some o → h'.get? b = some o) → EP X pins sgs Q v { ss with heap := h', toks := tk } := fun i v h' tk bs rd kp => by
          rw [maxD_int] at rd
          cases rd with
          | int m t => exact ⟨.int _, H, I.kept kp, ⟨t, rfl⟩, fin⟩
        have hd := depth_ints (x :: ns)
        simp only [List.map_cons] at hd
        rcases sa with sa | sa
        · obtain ⟨its, rv, p, hz⟩ := I.list sa
          refine PySem.W.max_list_data (I.ok.hd hc) p.isList (x := .int x) (xs := ns.map .int) (by simpa using reads_ints rv) (by simpa using alike_ints (x :: ns)) (by rw [hd]; omega) fun i v h' tk bs _ rd kp => go i v h' tk bs rd kp
        · obtain ⟨its, rv, p, hz⟩ := I.tuple sa
          refine PySem.W.max_tuple_data (I.ok.hd hc) p (x := .int x) (xs := ns.map .int) (by simpa using reads_ints rv) (by simpa using alike_ints (x :: ns)) (by rw [hd]; omega) fun i v h' tk bs _ rd kp => go i v h' tk bs rd kp
      · obtain ⟨i, j, e1, rfl⟩ := argsI_two r h z
        cases e1
        exact call_max2 hc pins ss sgs H _ us Q I rs ⟨_, _, rfl, by simpa using fin⟩
      · obtain ⟨i, j, m, e1, rfl⟩ := argsI_three r h z
        cases e1
        cases rs with
        | cons a b =>
          obtain ⟨u1, u2, rfl, b1, b2⟩ := Vals.two b
          obtain ⟨t1, rfl⟩ := a
          obtain ⟨t2, rfl⟩ := b1
          obtain ⟨t3, rfl⟩ := b2
          refine PySem.max_three_ints (I.ok.hd hc) fun h' tk kp => ?_
          have go : ∀ t, EP X pins sgs Q (.int ([j, m].foldl (fun a y => if a < y then y else a) x) t) { ss with heap := h', toks := tk } := fun t => ⟨.int _, H, I.kept kp, ⟨t, rfl⟩, fin⟩
          simp only [List.foldl_cons, List.foldl_nil] at go
          by_cases h1 : x < j
          · rw [if_pos (show j > x from h1)]
            rw [if_pos h1] at go
            by_cases h2 : j < m
            · rw [if_pos (show m > j from h2)]; rw [if_pos h2] at go; exact go _
            · rw [if_neg (show ¬ m > j from h2)]; rw [if_neg h2] at go; exact go _
          · rw [if_neg (show ¬ j > x from h1)]
            rw [if_neg h1] at go
            by_cases h2 : x < m
            · rw [if_pos (show m > x from h2)]; rw [if_pos h2] at go; exact go _
            · rw [if_neg (show ¬ m > x from h2)]; rw [if_neg h2] at go; exact go _

/-! ### int, str, repr, tuple, list, isinstance -/
def bInt (s : S) : List T → Option T
  | [t] => (match s.get t with
      | some (.w (.int i)) => some (.w (.int i))
      | some (.w (.bl b)) => some (.w (.int (if b then 1 else 0)))
      | some (.w (.str x)) => if x.length ≤ 640 then (PySem.intText? x).map fun n => .w (.int n) else none
      | _ => none)
  | _ => none
theorem c_int : CallR X (.type "int") (rB C bInt) := by
  intro pins ss sgs H xs us Q I rs q
  obtain ⟨rho, own, s, sg, ts, fr, t, r, h, e, k⟩ := q
  unfold bInt at e
  split at e
  · obtain ⟨v, f, rfl, rt⟩ := RTL.one h
    split at e
    · rename_i i z
      cases e
      exact call_int1 pins ss sgs H _ us Q I rs (.inl ⟨i, by rw [r.getInt rt z], k H _ [] (Nxt.refl r) r0_int⟩)
    · rename_i i z
      cases e
      exact call_int1 pins ss sgs H _ us Q I rs (.inr ⟨i, by rw [r.getBl rt z], k H _ [] (Nxt.refl r) r0_int⟩)
    · rename_i i z
      split at e
      · rename_i hl
        cases z2 : PySem.intText? i with
        | none => rw [z2] at e; cases e
        | some n =>
          rw [z2] at e; cases e
          exact call_int_str pins ss sgs H _ us Q I rs ⟨i, n, by rw [r.getStr rt z], z2, hl, k H _ [] (Nxt.refl r) r0_int⟩
      · cases e
    · cases e
  · cases e
/-- small enough to be written -/
def showI (i : Int) : Bool := decide (i.natAbs < 18446744073709551616) || decide (i.natAbs.log2 < 1920)
theorem showI_ok {i : Int} (h : showI i = true) : i.natAbs.log2 < 1920 := by
  unfold showI at h
  simp only [Bool.or_eq_true, decide_eq_true_eq] at h
  rcases h with h | h
  · by_cases z : i.natAbs = 0
    · rw [z]; decide
    · have := (Nat.log2_lt z (k := 64)).mpr h
      omega
  · exact h
def bStr (s : S) : List T → Option T
  | [t] => (match s.get t with
      | some (.w (.int i)) => if showI i then some (.w (.str (toString i))) else none
      | some (.w (.str x)) => some (.w (.str x))
      | _ => none)
  | _ => none
theorem c_str : CallR X (.type "str") (rB C bStr) := by
  intro pins ss sgs H xs us Q I rs q
  obtain ⟨rho, own, s, sg, ts, fr, t, r, h, e, k⟩ := q
  unfold bStr at e
  split at e
  · obtain ⟨v, f, rfl, rt⟩ := RTL.one h
    split at e
    · rename_i i z
      split at e
      · rename_i hs
        cases e
        exact call_str_int pins ss sgs H _ us Q I rs ⟨i, by rw [r.getInt rt z], showI_ok hs, k H _ [] (Nxt.refl r) r0_str⟩
      · cases e
    · rename_i i z
      cases e
      exact SkE.call_str_str pins ss sgs H _ us Q I rs ⟨i, by rw [r.getStr rt z], k H _ [] (Nxt.refl r) r0_str⟩
    · cases e
  · cases e
end
end Rk

/-! Rk8c: repr, tuple, list, isinstance. -/
namespace Rk
open PySem PySem.Spec PyProof.Rows L2

def showD (d : PyData) : Bool := d.showable && !d.hasDict && decide (d.depth ≤ 64) && decide (d.shown.length ≤ sizeLine)
def bRepr (s : S) : List T → Option T
  | [t] => (match s.get t with
      | some (.w (.int i)) => if showI i then some (.w (.str (toString i))) else none
      | some (.w (.str x)) => if (reprText x).length ≤ sizeLine then some (.w (.str (reprText x))) else none
      | some (.w .non) => some (.w (.str "None"))
      | some (.w (.bl b)) => some (.w (.str (if b then "True" else "False")))
      | _ => (datOf s t).bind fun d => if showD d then some (.w (.str d.shown)) else none)
  | _ => none
section
variable {X : Cx} {C : Cf}
theorem c_repr (hK : C.K = X.K) (hu : X.A.units + 100 < cLine) (hg : X.A.guards = some []) : CallR X (.builtin "repr") (rB C bRepr) := by
  intro pins ss sgs H xs us Q I rs q
  obtain ⟨rho, own, s, sg, ts, fr, t, r, h, e, k⟩ := q
  unfold bRepr at e
  split at e
  · obtain ⟨v, f, rfl, rt⟩ := RTL.one h
    obtain ⟨u, rfl, ru⟩ := Vals.one rs
    split at e
    · rename_i i z
      split at e
      · rename_i hs
        cases e
        exact SkE.call_repr_int pins ss sgs H _ _ Q I rs ⟨i, by rw [r.getInt rt z], showI_ok hs, k H _ [] (Nxt.refl r) r0_str⟩
      · cases e
    · rename_i i z
      split at e
      · rename_i hs
        cases e
        have := r.getStr rt z; subst v
        obtain ⟨t, rfl⟩ := ru
        exact PySem.P.repr_of_str ⟨.str _, H, I.tok _, ⟨_, rfl⟩, k H _ [] (Nxt.refl r) r0_str⟩ hs
      · cases e
    · rename_i z
      cases e
      have := r.getNon rt z; subst v
      obtain rfl : u = Value.none := ru
      exact PySem.P.repr_of_none ⟨.str _, H, I.tok _, ⟨_, rfl⟩, k H _ [] (Nxt.refl r) r0_str⟩
    · rename_i z
      cases e
      have := r.getBl rt z; subst v
      obtain rfl : u = Value.bool _ := ru
      exact PySem.P.repr_of_bool ⟨.str _, H, I.tok _, ⟨_, rfl⟩, k H _ [] (Nxt.refl r) r0_str⟩
    · rename_i n1 n2 n3 n4
      cases z : datOf s _ with
      | none => rw [z] at e; cases e
      | some d =>
        rw [z] at e
        simp only [Option.bind_some] at e
        split at e
        · rename_i hd
          cases e
          unfold showD at hd
          simp only [Bool.and_eq_true, decide_eq_true_eq, Bool.not_eq_true'] at hd
          obtain ⟨⟨⟨h1, h2⟩, h3⟩, h4⟩ := hd
          have hD := r.dat rt z
          rw [hK] at hD
          obtain ⟨as, rd⟩ := Dp.reads I d v u hD ru
          cases hD with
          | non => cases rd; exact PySem.P.repr_of_none ⟨.str _, H, I.tok _, ⟨_, rfl⟩, by simpa [PyData.shown] using k H _ [] (Nxt.refl r) r0_str⟩
          | bl b => cases rd; exact PySem.P.repr_of_bool ⟨.str _, H, I.tok _, ⟨_, rfl⟩, by simpa [PyData.shown] using k H _ [] (Nxt.refl r) r0_str⟩
          | int b =>
            cases rd
            exact PySem.P.repr_of_int (by simpa [PyData.showable] using h1) ⟨.str _, H, I.tok _, ⟨_, rfl⟩, by simpa [PyData.shown] using k H _ [] (Nxt.refl r) r0_str⟩
          | str b =>
            cases rd
            exact PySem.P.repr_of_str ⟨.str _, H, I.tok _, ⟨_, rfl⟩, by simpa [PyData.shown] using k H _ [] (Nxt.refl r) r0_str⟩ (by simpa [PyData.shown] using h4)
          | lst h5 h6 =>
            obtain rfl : u = Value.ref _ := ru
            exact PySem.repr_of_reads' rd h1 (fun z => by rw [h2] at z; cases z) hg (by omega) (fun _ _ e => e) (fun h' u tk kp => ⟨.str _, H, I.kept kp, ⟨_, rfl⟩, k H _ [] (Nxt.refl r) r0_str⟩) h4
          | tup h5 h6 =>
            obtain rfl : u = Value.ref _ := ru
            exact PySem.repr_of_reads' rd h1 (fun z => by rw [h2] at z; cases z) hg (by omega) (fun _ _ e => e) (fun h' u tk kp => ⟨.str _, H, I.kept kp, ⟨_, rfl⟩, k H _ [] (Nxt.refl r) r0_str⟩) h4
        · cases e
  · cases e
/-! ### tuple(x), list(x) -/
def bTuple (s : S) : List T → Option T
  | [t] => (seqOf s t).map fun ws => .w (.tup ws)
  | _ => none
theorem c_tuple (hK : C.K = X.K) : CallR X (.type "tuple") (rB C bTuple) := by
  intro pins ss sgs H xs us Q I rs q
  obtain ⟨rho, own, s, sg, ts, fr, t, r, h, e, k⟩ := q
  unfold bTuple at e
  split at e
  · obtain ⟨v, f, rfl, rt⟩ := RTL.one h
    cases z : seqOf s _ with
    | none => rw [z] at e; cases e
    | some ws =>
      rw [z] at e
      simp only [Option.map_some, Option.some.injEq] at e
      subst e
      obtain ⟨a, vs, rfl, sa, ra⟩ := r.seq rt z
      rw [hK] at sa
      refine call_tuple_of pins ss sgs H _ us Q I rs ⟨a, vs, rfl, ?_⟩
      rcases sa with sa | sa
      · refine .inl ⟨sa, fun p np => ?_⟩
        refine k _ _ [] (Nxt.new0 r np) ⟨?_, rfl⟩
        simp only [RW]
        exact ⟨p, vs, rfl, SqT.of upd_same, ra.up (Up.new np)⟩
      · refine .inr ⟨sa, k _ _ [] (Nxt.refl r) ⟨?_, rfl⟩⟩
        simp only [RW]
        exact ⟨a, vs, rfl, hK ▸ sa, ra⟩
  · cases e
def bList (s : S) : List T → Option T
  | [t] => (seqOf s t).map fun ws => .lst ws
  | _ => none
theorem c_list (hK : C.K = X.K) : CallR X (.type "list") (rB C bList) := by
  intro pins ss sgs H xs us Q I rs q
  obtain ⟨rho, own, s, sg, ts, fr, t, r, h, e, k⟩ := q
  unfold bList at e
  split at e
  · obtain ⟨v, f, rfl, rt⟩ := RTL.one h
    cases z : seqOf s _ with
    | none => rw [z] at e; cases e
    | some ws =>
      rw [z] at e
      simp only [Option.map_some, Option.some.injEq] at e
      subst e
      obtain ⟨a, vs, rfl, sa, ra⟩ := r.seq rt z
      rw [hK] at sa
      exact call_list_of pins ss sgs H _ us Q I rs ⟨a, vs, rfl, sa, fun p np => k _ _ [p] (Nxt.new r np) ⟨p, rfl, rfl, vs, upd_same, ra.up (Up.new np)⟩⟩
  · cases e
/-! ### isinstance of the built-in kinds -/
def kindT (s : S) (t : T) : Option String := match s.get t with
  | some (.w .non) => some "NoneType"
  | some (.w (.bl _)) => some "bool"
  | some (.w (.int _)) => some "int"
  | some (.w (.str _)) => some "str"
  | some (.w (.tup _)) => some "tuple"
  | some (.w (.rol _)) => some "list"
  | some (.w (.loc n)) => (match s.M[n]? with
      | some (.lst _) => some "list"
      | some (.dK _) => some "dict"
      | some (.dT _) => some "dict"
      | _ => none)
  | some (.lst _) => some "list"
  | some (.dK _) => some "dict"
  | some (.dT _) => some "dict"
  | _ => none
def kinds : List String := ["NoneType", "bool", "int", "str", "tuple", "list", "dict"]
/-- is a thing of the kind a one of the kind b -/
def isaK (a b : String) : Bool := a == b || (a == "bool" && b == "int")
def isaOk (a b : String) : Bool := kinds.contains a && ["bool", "int", "str", "tuple", "list", "dict"].contains b
theorem isaK_ok {a b : String} (h : isaOk a b = true) : kitB a b = some (isaK a b) := by
  have all : ∀ x ∈ kinds, ∀ y ∈ ["bool", "int", "str", "tuple", "list", "dict"], kitB x y = some (isaK x y) := by decide +kernel
  unfold isaOk at h
  simp only [Bool.and_eq_true, List.contains_iff_mem] at h
  exact all a h.1 b h.2
theorem kindT_ok {rho own fr : List Addr} {s : S} {sg : L2.St} {H : Hp} {t : T} {v : V} (hK : C.K = X.K) (r : Rel C rho own s sg H) (h : RT C rho H sg t v fr) {a : String} (e : kindT s t = some a) : TyX X.K H v (.type a) := by
  have lst : ∀ {b : Addr} {vs : List V}, SqL X.K H b vs → TyX X.K H (.ref b) (.type "list") := fun {b vs} sq => by
    rcases sq with (sq | ⟨o, sq⟩) | ⟨o, its, n, hl, hc, _⟩
    · exact .base (.lst sq)
    · exact .base (.frz sq)
    · exact .kList hl hc
  unfold kindT at e
  split at e
  · rename_i z; cases e; rw [r.getNon h z]; exact .base .non
  · rename_i z; cases e; rw [r.getBl h z]; exact .base (.bl _)
  · rename_i z; cases e; rw [r.getInt h z]; exact .base (.int _)
  · rename_i z; cases e; rw [r.getStr h z]; exact .base (.str _)
  · rename_i z; cases e
    obtain ⟨b, vs, rfl, sq, _⟩ := r.getTup h z
    rw [hK] at sq
    rcases sq with (sq | ⟨o, sq⟩) | ⟨o, its, n, hl, hc, _⟩
    · exact .base (.tup sq)
    · exact .fTuple sq
    · exact .kTuple hl hc
  · rename_i z; cases e
    obtain ⟨fr', r0, _⟩ := r.get h z
    simp only [RW] at r0
    obtain ⟨b, vs, rfl, sq, _⟩ := r0
    exact lst (hK ▸ sq.seq)
  · rename_i n z
    obtain ⟨fr', r0, _⟩ := r.get h z
    simp only [RW] at r0
    obtain ⟨b, rfl, hb⟩ := r0
    split at e
    · rename_i z2; cases e
      obtain ⟨b', hb', vs, eh, _⟩ := r.ob z2
      rw [hb] at hb'; cases hb'
      exact .base (.lst eh)
    · rename_i z2; cases e
      obtain ⟨b', hb', vs, eh, _⟩ := r.ob z2
      rw [hb] at hb'; cases hb'
      exact .base (.dK eh)
    · rename_i z2; cases e
      obtain ⟨b', hb', vs, eh, _⟩ := r.ob z2
      rw [hb] at hb'; cases hb'
      exact .base (.dT eh)
    · cases e
  · rename_i z; cases e
    obtain ⟨fr', b, rfl, _, vs, eh, _⟩ := r.get h z
    exact .base (.lst eh)
  · rename_i z; cases e
    obtain ⟨fr', b, rfl, _, vs, eh, _⟩ := r.get h z
    exact .base (.dK eh)
  · rename_i z; cases e
    obtain ⟨fr', b, rfl, _, vs, eh, _⟩ := r.get h z
    exact .base (.dT eh)
  · cases e
def bIsi (s : S) : List T → Option T
  | [t, .w (.ty b)] => (kindT s t).bind fun a => if isaOk a b then some (.w (.bl (isaK a b))) else none
  | _ => none
theorem c_isi (hK : C.K = X.K) : CallR X (.builtin "isinstance") (rB C bIsi) := by
  intro pins ss sgs H xs us Q I rs q
  obtain ⟨rho, own, s, sg, ts, fr, t, r, h, e, k⟩ := q
  unfold bIsi at e
  split at e
  · rename_i t1 b
    obtain ⟨v, u, f, g, rfl, rt, ru⟩ := RTL.two h
    obtain ⟨ru, _⟩ := ru
    simp only [RW] at ru
    subst ru
    cases z : kindT s t1 with
    | none => rw [z] at e; cases e
    | some a =>
      rw [z] at e
      simp only [Option.bind_some] at e
      split at e
      · rename_i ho
        cases e
        exact call_isi pins ss sgs H _ us Q I rs ⟨v, _, _, _, _, rfl, .ty b, kindT_ok hK r rt z, kit_ty (isaK_ok ho), k H _ [] (Nxt.refl r) r0_bl⟩
      · cases e
  · cases e
end
/-! ### list(range(..)) -/
abbrev DR := S → Out (Int × Int)
@[simp] def dr1 (d : DE) : DR := fun s => (d s).bind fun t s => match s.get t with
  | some (.w (.int i)) => .ok (0, i) s
  | _ => .bad
@[simp] def dr2 (d1 d2 : DE) : DR := fun s => (d1 s).bind fun t1 s => (d2 s).bind fun t2 s => match s.get t1, s.get t2 with
  | some (.w (.int i)), some (.w (.int j)) => .ok (i, j) s
  | _, _ => .bad
/-- the ints from a to b - 1 -/
def rangeW (a b : Int) : List W := (List.range (b - a).toNat).map fun i => .int (a + (i : Nat))
def rgOk (a b : Int) : Bool := decide (-4611686018427387904 ≤ a) && decide (a < 4611686018427387904) && decide (-4611686018427387904 ≤ b) && decide (b < 4611686018427387904) && decide ((b - a).toNat ≤ 16777216)
theorem rgOk_ok {a b : Int} (h : rgOk a b = true) : RgOk a b := by
  unfold rgOk at h
  simp only [Bool.and_eq_true, decide_eq_true_eq] at h
  unfold RgOk
  omega
theorem rangeW_rel {C : Cf} {rho : List Addr} {H : Hp} (a b : Int) : RWs C rho H (rangeW a b) (rgV a b) := by
  unfold rangeW rgV
  generalize List.range (b - a).toNat = l
  induction l with
  | nil => simp [RWs]
  | cons x l ih =>
    simp only [List.map_cons, RWs]
    exact ⟨_, _, rfl, by simp only [RW], ih⟩
@[simp] def dlrg (d : DR) : DE := fun s => (d s).bind fun p s => if rgOk p.1 p.2 then .ok (.lst (rangeW p.1 p.2)) s else .bad
@[simp] def dtrg (d : DR) : DE := fun s => (d s).bind fun p s => if rgOk p.1 p.2 then .ok (.w (.tup (rangeW p.1 p.2))) s else .bad
def tR (C : Cf) (d : DR) : L2.St → Hp → (Int → Int → Hp → Prop) → Prop := fun sg H Q => ∃ rho own s, Rel C rho own s sg H ∧ ∃ p s', d s = .ok p s' ∧ ∀ rho' own' H', Nxt C rho own H rho' own' s' sg H' [] → Q p.1 p.2 H'
section
variable {X : Cx} {C : Cf} {a b e : Expr} {d d1 d2 : DE} {dr : DR} {p pos : Pos}
theorem prg_weak {te te' : L2.St → Hp → (Int → Int → Hp → Prop) → Prop} (h : PRg X e te) (w : ∀ sg H Q, te' sg H Q → te sg H Q) : PRg X e te' := fun pins s sg H Q I q => h pins s sg H Q I (w sg H Q q)
theorem prg_d1 (hg : Gl X "range") (hm : X.mg "range" = none) (ha : PE X a (tE C d)) (na : starEach [a] X.env = (false, eval a X.env) :: starEach [] X.env) : PRg X (.Call (.Name "range" p) [a] [] pos) (tR C (dr1 d)) :=
  prg_weak (prg_1 hg hm ha na) fun sg H Q q => by
    obtain ⟨rho, own, s, r, p, s', e, k⟩ := q
    obtain ⟨t, s1, e1, e2⟩ := bind_ok e
    split at e2
    · rename_i i z
      simp only [Out.ok.injEq] at e2
      obtain ⟨rfl, rfl⟩ := e2
      exact ⟨rho, own, s, r, t, _, e1, fun rho1 own1 H1 v fr n rt => ⟨i, n.rel.getInt rt z, k rho1 own1 H1 n.drop0⟩⟩
    · cases e2
theorem prg_d2 (hg : Gl X "range") (hm : X.mg "range" = none) (ha : PE X a (tE C d1)) (hb : PE X b (tE C d2)) (na : starEach [a, b] X.env = (false, eval a X.env) :: starEach [b] X.env) (nb : starEach [b] X.env = (false, eval b X.env) :: starEach [] X.env) (hp : (backTo pos (starEach [b] X.env)).any (·.1) = false) :
    PRg X (.Call (.Name "range" p) [a, b] [] pos) (tR C (dr2 d1 d2)) :=
  prg_weak (prg_2 hg hm ha hb na nb hp) fun sg H Q q => by
    obtain ⟨rho, own, s, r, p, s', e, k⟩ := q
    obtain ⟨t, s1, e1, e⟩ := bind_ok e
    obtain ⟨t2, s2, e2, e⟩ := bind_ok e
    split at e
    · rename_i i j z1 z2
      simp only [Out.ok.injEq] at e
      obtain ⟨rfl, rfl⟩ := e
      exact ⟨rho, own, s, r, t, s1, e1, fun rho1 own1 H1 v fr n rt => ⟨rho1, own1, s1, n.rel, t2, _, e2, fun rho2 own2 H2 v2 fr2 n2 rt2 => ⟨i, j, n2.rel.getInt (rt.wait n.rel n.out n2) z1, n2.rel.getInt rt2 z2, k rho2 own2 H2 (n.trans n2).drop0⟩⟩⟩
    · cases e
theorem pe_dlrg (hc : X.calm = true) (hg : Gl X "list") (hm : X.mg "list" = none) (he : PRg X e (tR C dr)) (na : starEach [e] X.env = (false, eval e X.env) :: starEach [] X.env) : PE X (.Call (.Name "list" p) [e] [] pos) (tE C (dlrg dr)) :=
  (pe_listRg hc hg hm he na).weak fun sg H Q q => by
    obtain ⟨rho, own, s, r, t, s', e, k⟩ := q
    obtain ⟨p, s1, e1, e2⟩ := bind_ok e
    split at e2
    · rename_i ho
      simp only [Out.ok.injEq] at e2
      obtain ⟨rfl, rfl⟩ := e2
      refine ⟨rho, own, s, r, p, _, e1, fun rho1 own1 H1 n => ⟨rgOk_ok ho, fun q nq => ?_⟩⟩
      exact k rho1 own1 _ _ [q] (n.trans (Nxt.new n.rel nq)) ⟨q, rfl, rfl, _, upd_same, rangeW_rel _ _⟩
    · cases e2
theorem pe_dtrg (hc : X.calm = true) (hg : Gl X "tuple") (hm : X.mg "tuple" = none) (he : PRg X e (tR C dr)) (na : starEach [e] X.env = (false, eval e X.env) :: starEach [] X.env) : PE X (.Call (.Name "tuple" p) [e] [] pos) (tE C (dtrg dr)) :=
  (pe_tupRg hc hg hm he na).weak fun sg H Q q => by
    obtain ⟨rho, own, s, r, t, s', e, k⟩ := q
    obtain ⟨p, s1, e1, e2⟩ := bind_ok e
    split at e2
    · rename_i ho
      simp only [Out.ok.injEq] at e2
      obtain ⟨rfl, rfl⟩ := e2
      refine ⟨rho, own, s, r, p, _, e1, fun rho1 own1 H1 n => ⟨rgOk_ok ho, fun q nq => ?_⟩⟩
      refine k rho1 own1 _ _ [] (n.trans (Nxt.new0 n.rel nq)) ⟨?_, rfl⟩
      simp only [RW]
      exact ⟨q, _, rfl, SqT.of upd_same, rangeW_rel _ _⟩
    · cases e2
end
end Rk

/-! Rk9: what is walked; statements; loops. -/
namespace Rk
open PySem PySem.Spec PyProof.Rows L2

/-! ### what is walked -/
/-- the items, known at once; or as they stand at each turn -/
inductive Src where
  | snap (xs : List W)
  | live (f : S → Option (List W))
@[simp] def Src.at : Src → S → Option (List W)
  | .snap xs, _ => some xs
  | .live f, s => f s
abbrev DI := S → Out Src
structure WalkJ (C : Cf) (J : It) (src : Src) (D : List Nat) (fr : List Addr) (P : List Addr → L2.St → Hp → Prop) : Prop where
  keep : ∀ {rho sg H rho' sg' H'}, P rho sg H → Up rho H rho' H' → (∀ a ∈ fr, ∀ o, H a = some o → H' a = some o) → (∀ i ∈ D, sg'[i]? = sg[i]?) → P rho' sg' H'
  go : ∀ {rho own s sg H xs} (i : Nat), Rel C rho own s sg H → P rho sg H → src.at s = some xs → i < xs.length → J.go i H
  yld : ∀ {rho own s sg H xs x} (i : Nat) (v : V) (H' : Hp), Rel C rho own s sg H → P rho sg H → src.at s = some xs → xs[i]? = some x → J.yld i H v H' → Nxt C rho own H rho own s sg H' [] ∧ RW C rho H' x v
  stop : ∀ {rho own s sg H xs} (i : Nat), Rel C rho own s sg H → P rho sg H → src.at s = some xs → xs.length ≤ i → J.stop i H
/-- what an iterable's reading tells -/
def tI (C : Cf) (D : List Nat) (d : DI) : TI := fun sg H R => ∃ rho own s, Rel C rho own s sg H ∧ ∃ src s', d s = .ok src s' ∧
  ∀ rho' own' H' fr J P, Nxt C rho own H rho' own' s' sg H' fr → (∀ a ∈ fr, ∃ o, H' a = some o) → WalkJ C J src D fr P → P rho' sg H' → R J H'
/-- an expression's value, walked; j: the slot of a plain name -/
@[simp] def dwalk (d : DE) (j : Option Nat) : DI := fun s => (d s).bind fun t s => match t with
  | .w (.tup xs) => .ok (.snap xs) s
  | .w (.rol xs) => .ok (.snap xs) s
  | .lst xs => .ok (.snap xs) s
  | .w (.str z) => .ok (.snap (z.cps.toList.map fun c => .str ⟨#[c]⟩)) s
  | .w (.loc n) => if (lstOf s (.w (.loc n))).isSome then .ok (.live fun s => lstOf s (.w (.loc n))) s else .bad
  | .sl i => if (lstOf s (.sl i)).isSome && decide (j = some i) then .ok (.live fun s => lstOf s (.sl i)) s else .bad
  | _ => .bad
section
variable {C : Cf}
theorem walk_list {a : Addr} {src : Src} {D : List Nat} {fr : List Addr} {P : List Addr → L2.St → Hp → Prop}
    (hk : ∀ {rho sg H rho' sg' H'}, P rho sg H → Up rho H rho' H' → (∀ a ∈ fr, ∀ o, H a = some o → H' a = some o) → (∀ i ∈ D, sg'[i]? = sg[i]?) → P rho' sg' H')
    (hp : ∀ {rho own s sg H xs}, Rel C rho own s sg H → P rho sg H → src.at s = some xs → ∃ vs, SqL C.K H a vs ∧ RWs C rho H xs vs) : WalkJ C (Itl C.K a) src D fr P where
  keep := hk
  go := fun i r p e h => by
    obtain ⟨vs, sq, rs⟩ := hp r p e
    have hl := rs.length
    exact ⟨vs, vs[i]'(by omega), sq, by rw [List.getElem?_eq_getElem]⟩
  yld := fun i v H' r p e h y => by
    obtain ⟨vs, sq, rs⟩ := hp r p e
    obtain ⟨rfl, y⟩ := y
    obtain ⟨v', e', r'⟩ := rs.get h
    have := y vs sq
    rw [e'] at this
    cases this
    exact ⟨Nxt.refl r, r'⟩
  stop := fun i r p e h => by
    obtain ⟨vs, sq, rs⟩ := hp r p e
    have hl := rs.length
    exact ⟨vs, sq, by omega⟩
theorem walk_tup {a : Addr} {src : Src} {D : List Nat} {fr : List Addr} {P : List Addr → L2.St → Hp → Prop}
    (hk : ∀ {rho sg H rho' sg' H'}, P rho sg H → Up rho H rho' H' → (∀ a ∈ fr, ∀ o, H a = some o → H' a = some o) → (∀ i ∈ D, sg'[i]? = sg[i]?) → P rho' sg' H')
    (hp : ∀ {rho own s sg H xs}, Rel C rho own s sg H → P rho sg H → src.at s = some xs → ∃ vs, SqT C.K H a vs ∧ RWs C rho H xs vs) : WalkJ C (Itt C.K a) src D fr P where
  keep := hk
  go := fun i r p e h => by
    obtain ⟨vs, sq, rs⟩ := hp r p e
    have hl := rs.length
    exact ⟨vs, vs[i]'(by omega), sq, by rw [List.getElem?_eq_getElem]⟩
  yld := fun i v H' r p e h y => by
    obtain ⟨vs, sq, rs⟩ := hp r p e
    obtain ⟨rfl, y⟩ := y
    obtain ⟨v', e', r'⟩ := rs.get h
    have := y vs sq
    rw [e'] at this
    cases this
    exact ⟨Nxt.refl r, r'⟩
  stop := fun i r p e h => by
    obtain ⟨vs, sq, rs⟩ := hp r p e
    have hl := rs.length
    exact ⟨vs, sq, by omega⟩
theorem walk_range {lo : Int} {n : Nat} {xs : List W} (hx : xs = (List.range n).map fun i => .int (lo + (i : Nat))) : WalkJ C (Itr lo n) (.snap xs) [] [] fun _ _ _ => True where
  keep := fun _ _ _ _ => trivial
  go := fun i r p e h => by
    simp only [Src.at, Option.some.injEq] at e
    subst e hx
    show i < n
    simpa using h
  yld := fun i v H' r p e h y => by
    simp only [Src.at, Option.some.injEq] at e
    subst e hx
    obtain ⟨rfl, rfl⟩ := y
    rw [List.getElem?_map] at h
    cases z : (List.range n)[i]? with
    | none => rw [z] at h; cases h
    | some k =>
      rw [z] at h
      have hk : k = i := by
        obtain ⟨hlt, hk⟩ := List.getElem?_eq_some_iff.mp z
        simpa using hk.symm
      subst hk
      cases h
      exact ⟨Nxt.refl r, by simp only [RW]⟩
  stop := fun i r p e h => by
    simp only [Src.at, Option.some.injEq] at e
    subst e hx
    show n ≤ i
    simpa using h
end
section
variable {X : Cx} {C : Cf} {tg e a b : Expr} {d d1 d2 : DE} {p pos : Pos}
theorem PI.weak {t t' : TI} (h : PI X tg e t) (w : ∀ sg H R, t' sg H R → t sg H R) : PI X tg e t' := ⟨fun pins s sg H R I q => h.run pins s sg H R I (w sg H R q)⟩
theorem pi_walk (hK : C.K = X.K) (h : PE X e (tE C d)) (j : Option Nat) : PI X tg e (tI C j.toList (dwalk d j)) := by
  refine ⟨fun pins ss sg H R I q => ?_⟩
  obtain ⟨rho, own, s, r, src, s', e, k⟩ := q
  obtain ⟨t, s1, e1, e⟩ := bind_ok e
  split at e
  · rename_i xs
    simp only [Out.ok.injEq] at e
    obtain ⟨rfl, rfl⟩ := e
    refine (pi_tup h).run pins ss sg H R I ⟨rho, own, s, r, _, _, e1, fun rho1 own1 H1 v fr n rt => ?_⟩
    obtain ⟨rt, rfl⟩ := rt
    simp only [RW] at rt
    obtain ⟨a, vs, rfl, sq, rs⟩ := rt
    rw [hK] at sq
    refine ⟨a, rfl, ⟨vs, sq⟩, ?_⟩
    rw [← hK]
    refine k rho1 own1 H1 [] _ (fun rho sg H => SqT C.K H a vs ∧ RWs C rho H xs vs) n (fun _ z => nomatch z) (walk_tup (fun p u _ _ => ⟨u.sqT p.1, p.2.up u⟩) fun r p e => ?_) ⟨hK ▸ sq, rs⟩
    simp only [Src.at, Option.some.injEq] at e
    subst e
    exact ⟨vs, p⟩
  · rename_i xs
    simp only [Out.ok.injEq] at e
    obtain ⟨rfl, rfl⟩ := e
    refine (pi_list h).run pins ss sg H R I ⟨rho, own, s, r, _, _, e1, fun rho1 own1 H1 v fr n rt => ?_⟩
    obtain ⟨rt, rfl⟩ := rt
    simp only [RW] at rt
    obtain ⟨a, vs, rfl, sq, rs⟩ := rt
    refine ⟨a, rfl, ⟨vs, hK ▸ sq.seq⟩, ?_⟩
    rw [← hK]
    refine k rho1 own1 H1 [] _ (fun rho sg H => RdOnly C H a vs ∧ RWs C rho H xs vs) n (fun _ z => nomatch z) (walk_list (fun p u _ _ => ⟨u.rdOnly p.1, p.2.up u⟩) fun r p e => ?_) ⟨sq, rs⟩
    simp only [Src.at, Option.some.injEq] at e
    subst e
    exact ⟨vs, p.1.seq, p.2⟩
  · rename_i xs
    simp only [Out.ok.injEq] at e
    obtain ⟨rfl, rfl⟩ := e
    refine (pi_list h).run pins ss sg H R I ⟨rho, own, s, r, _, _, e1, fun rho1 own1 H1 v fr n rt => ?_⟩
    obtain ⟨a, rfl, rfl, vs, eh, rs⟩ := rt
    refine ⟨a, rfl, ⟨vs, SqL.of eh⟩, ?_⟩
    rw [← hK]
    refine k rho1 own1 H1 [a] _ (fun rho sg H => H a = some (.lst vs) ∧ RWs C rho H xs vs) n (fun b hb => by obtain rfl := List.mem_singleton.mp hb; exact ⟨_, eh⟩) (walk_list (fun p u o _ => ⟨o a (by simp) _ p.1, p.2.up u⟩) fun r p e => ?_) ⟨eh, rs⟩
    simp only [Src.at, Option.some.injEq] at e
    subst e
    exact ⟨vs, SqL.of p.1, p.2⟩
  · rename_i z
    simp only [Out.ok.injEq] at e
    obtain ⟨rfl, rfl⟩ := e
    refine (pi_str h).run pins ss sg H R I ⟨rho, own, s, r, _, _, e1, fun rho1 own1 H1 v fr n rt => ?_⟩
    obtain ⟨rt, rfl⟩ := rt
    simp only [RW] at rt
    refine ⟨z, rt, ?_⟩
    refine k rho1 own1 H1 [] _ (fun _ _ _ => True) n (fun _ z => nomatch z) ?_ trivial
    refine ⟨fun _ _ _ _ => trivial, fun i r p e h => ?_, fun i v H' r p e h y => ?_, fun i r p e h => ?_⟩
    · simp only [Src.at, Option.some.injEq] at e
      subst e
      show i < z.cps.size
      simpa using h
    · simp only [Src.at, Option.some.injEq] at e
      subst e
      obtain ⟨rfl, c, hc, rfl⟩ := y
      rw [List.getElem?_map, Array.getElem?_toList, hc] at h
      cases h
      exact ⟨Nxt.refl r, by simp only [RW]⟩
    · simp only [Src.at, Option.some.injEq] at e
      subst e
      show z.cps.size ≤ i
      simpa using h
  · rename_i m
    split at e
    · rename_i hs
      simp only [Out.ok.injEq] at e
      obtain ⟨rfl, rfl⟩ := e
      obtain ⟨xs, hs⟩ := Option.isSome_iff_exists.mp hs
      refine (pi_list h).run pins ss sg H R I ⟨rho, own, s, r, _, _, e1, fun rho1 own1 H1 v fr n rt => ?_⟩
      obtain ⟨a, vs, rfl, sq, rs⟩ := n.rel.lst rt hs
      refine ⟨a, rfl, ⟨vs, hK ▸ sq⟩, ?_⟩
      rw [← hK]
      have ra : rho1[m]? = some a := by
        obtain ⟨rt, _⟩ := rt
        simp only [RW] at rt
        obtain ⟨b, e, h⟩ := rt
        cases e
        exact h
      refine k rho1 own1 H1 [] _ (fun rho sg H => rho[m]? = some a) n.drop0 (fun _ z => nomatch z) (walk_list (fun p u _ _ => u.loc p) fun {rho own s sg H xs} r p e => ?_) ra
      have rt' : RT C rho H sg (.w (.loc m)) (.ref a) [] := ⟨by simp only [RW]; exact ⟨a, rfl, p⟩, rfl⟩
      obtain ⟨a', vs', e', sq', rs'⟩ := r.lst rt' e
      cases e'
      exact ⟨vs', sq', rs'⟩
    · cases e
  · rename_i i
    split at e
    · rename_i hs
      simp only [Out.ok.injEq] at e
      obtain ⟨rfl, rfl⟩ := e
      simp only [Bool.and_eq_true, decide_eq_true_eq] at hs
      obtain ⟨hs, rfl⟩ := hs
      obtain ⟨xs, hs⟩ := Option.isSome_iff_exists.mp hs
      refine (pi_list h).run pins ss sg H R I ⟨rho, own, s, r, _, _, e1, fun rho1 own1 H1 v fr n rt => ?_⟩
      obtain ⟨a, vs, rfl, sq, rs⟩ := n.rel.lst rt hs
      refine ⟨a, rfl, ⟨vs, hK ▸ sq⟩, ?_⟩
      rw [← hK]
      obtain ⟨rv, rfl⟩ := rt
      refine k rho1 own1 H1 [] _ (fun rho sg H => sg[i]? = some (some (.ref a))) n (fun _ z => nomatch z) (walk_list (fun p _ _ f => (f i (by simp)).trans p) fun {rho own s sg H xs} r p e => ?_) rv
      have rt' : RT C rho H sg (.sl i) (.ref a) [] := ⟨p, rfl⟩
      obtain ⟨a', vs', e', sq', rs'⟩ := r.lst rt' e
      cases e'
      exact ⟨vs', sq', rs'⟩
    · cases e
  · cases e
end
end Rk

/-! Rk10: statements. -/
namespace Rk
open PySem PySem.Spec PyProof.Rows L2

theorem fl_ok {A : Type} {d : Out A} {f : A → S → Fl} {r : Fl} (h : d.fl f = r) (hb : r ≠ .bad) (hx : ∀ x s, r ≠ .ex x s) : ∃ a s1, d = .ok a s1 ∧ f a s1 = r := by
  cases d with
  | ok a s => exact ⟨a, s, rfl, h⟩
  | ex x s => exact absurd h.symm (hx x s)
  | bad => exact absurd h.symm hb
section
variable {C : Cf} {A B : List Nat} {rho own rho1 own1 rho2 own2 fr fr1 fr2 : List Addr} {s s1 s2 : S} {sg sg1 sg2 : L2.St} {H H1 H2 : Hp} {D : Ends} {r : Fl}
theorem EndS.good (h : EndS C A rho own sg H D r) : r ≠ .bad ∧ ∀ x s, r ≠ .ex x s := by
  cases r with
  | bad => exact h.elim
  | ex x s => exact h.elim
  | _ => exact ⟨(by intro z; cases z), (by intro _ _ z; cases z)⟩
theorem EndS.bind {B : Type} {d : Out B} {f : B → S → Fl} (h : EndS C A rho own sg H D (d.fl f)) : ∃ a s1, d = .ok a s1 ∧ EndS C A rho own sg H D (f a s1) := by
  obtain ⟨a, s1, e1, e2⟩ := fl_ok rfl h.good.1 h.good.2
  exact ⟨a, s1, e1, by rw [e2]; exact h⟩
theorem NxtR.of {M' : List Ob} (n : Nxt C rho own H rho1 own1 s1 sg1 H1 fr1) (m : NxtR C rho1 own1 H1 rho2 M' H2 fr2) : NxtR C rho own H rho2 M' H2 fr2 :=
  ⟨m.mem, n.pre.trans m.pre, m.nd, fun b o e z => by
    obtain ⟨e1, z1⟩ := n.kp b o e z
    exact m.kp b o e1 fun q => z1 (List.mem_append_left _ q)⟩
/-- the same end, seen from further on -/
theorem EndS.shift (h : EndS C A rho own sg H D r) (n : Nxt C rho own H rho1 own1 s1 sg1 H1 fr1) (f : Frm A sg sg1) : EndS C A rho1 own1 sg1 H1 D r := by
  cases r with
  | nx s' => exact fun rho' own' sg' H' n' f' => h rho' own' sg' H' (n.trans n') (f.trans f')
  | bk s' => exact fun rho' own' sg' H' n' f' => h rho' own' sg' H' (n.trans n') (f.trans f')
  | ct s' => exact fun rho' own' sg' H' n' f' => h rho' own' sg' H' (n.trans n') (f.trans f')
  | rt t M' => exact fun rho' H' v fr n' r' => h rho' H' v fr (NxtR.of n n') r'
  | ex x s' => exact h
  | bad => exact h
theorem EndS.mono (h : EndS C B rho own sg H D r) (hs : ∀ j ∈ A, j ∈ B) : EndS C A rho own sg H D r := by
  cases r with
  | nx s' => exact fun rho' own' sg' H' n' f' => h rho' own' sg' H' n' (f'.mono hs)
  | bk s' => exact fun rho' own' sg' H' n' f' => h rho' own' sg' H' n' (f'.mono hs)
  | ct s' => exact fun rho' own' sg' H' n' f' => h rho' own' sg' H' n' (f'.mono hs)
  | rt t M' => exact h
  | ex x s' => exact h
  | bad => exact h
/-- a slot is filled with what was in flight -/
theorem Nxt.put {i : Nat} {t : T} {v : V} (n : Nxt C rho own H rho1 own1 s1 sg1 H1 fr1) (r : R0 C rho1 H1 t v fr1) : ∃ own2, Nxt C rho own H rho1 own2 ⟨s1.sg.set i (some t), s1.M⟩ (sg1.set i (some v)) H1 [] := by
  by_cases hi : i < s1.sg.length
  · obtain ⟨o1, old, o2, e, p⟩ := n.rel.sl.put hi r
    subst e
    refine ⟨o1 ++ fr1 ++ o2, ?_⟩
    have nd := n.nd
    have nd2 : (rho1 ++ (o1 ++ fr1 ++ o2)).Nodup := by
      have p1 : (rho1 ++ (o1 ++ old ++ o2) ++ fr1).Perm (old ++ (rho1 ++ (o1 ++ fr1 ++ o2))) := by
        rw [List.perm_iff_count]
        intro x
        simp only [List.count_append]
        omega
      exact (List.nodup_append.mp (p1.nodup nd)).2.1
    refine ⟨⟨p, n.rel.mem, nd2⟩, n.pre, by rw [List.append_nil]; exact nd2, n.kp.mono (fun _ z => z) fun b hb => ?_⟩
    simp only [List.mem_append, List.not_mem_nil] at hb ⊢
    rcases hb with (h | (h | h) | h) | h
    · exact .inl (.inl h)
    · exact .inl (.inr (.inl (.inl h)))
    · exact .inr h
    · exact .inl (.inr (.inr h))
    · exact h.elim
  · have hl := n.rel.sl.length
    refine ⟨own1, ?_⟩
    rw [List.set_eq_of_length_le (by omega), List.set_eq_of_length_le (by omega)]
    exact n.drop0
end
@[simp] def setS (i : Nat) (t : T) (s : S) : S := ⟨s.sg.set i (some t), s.M⟩
@[simp] def dskip : DS := fun s => .nx s
@[simp] def dseq (a b : DS) : DS := fun s => (a s).then b
@[simp] def dexpr (d : DE) : DS := fun s => (d s).fl fun _ s => .nx s
@[simp] def dset (i : Nat) (d : DE) : DS := fun s => (dT d s).fl fun t s => .nx (setS i t s)
@[simp] def dret (d : DE) : DS := fun s => (d s).fl fun t s => match s.get t with
  | some u => .rt u s.M
  | none => .bad
@[simp] def dretN : DS := fun s => .rt (.w .non) s.M
@[simp] def dif (c : DB) (a b : DS) : DS := fun s => (c s).fl fun k s => match k with
  | true => a s
  | false => b s
@[simp] def dnever : DS := fun _ => .bad
def dwhl (c : DB) (b : DS) : Nat → DS
  | 0 => fun _ => .bad
  | n + 1 => fun s => (c s).fl fun k s => match k with
      | true => (match b s with
          | .nx s => dwhl c b n s
          | .ct s => dwhl c b n s
          | .bk s => .nx s
          | r => r)
      | false => .nx s
def FUEL : Nat := 1000000
@[simp] def dwhile (c : DB) (b : DS) : DS := fun s => dwhl c b FUEL s
section
variable {X : Cx} {C : Cf} {A B : List Nat} {e c : Expr} {st : Stmt} {sts : List Stmt} {d : DE} {ds ds1 ds2 : DS} {b : DB} {pos : Pos}
theorem PS.monoA (h : PS X st (tS C A ds)) (hs : ∀ j ∈ A, j ∈ B) : PS X st (tS C B ds) := h.weak fun D sg H q => by
  obtain ⟨rho, own, s, r, k⟩ := q
  exact ⟨rho, own, s, r, k.mono hs⟩
theorem PSs.monoA (h : PSs X sts (tS C A ds)) (hs : ∀ j ∈ A, j ∈ B) : PSs X sts (tS C B ds) := h.weak fun D sg H q => by
  obtain ⟨rho, own, s, r, k⟩ := q
  exact ⟨rho, own, s, r, k.mono hs⟩
theorem pss_dskip : PSs X [] (tS C A dskip) := pss_nil.weak fun D sg H q => by
  obtain ⟨rho, own, s, r, k⟩ := q
  exact k rho own sg H (Nxt.refl r) Frm.refl
theorem ps_dskip : PS X (.Pass pos) (tS C A dskip) := ps_pass.weak fun D sg H q => by
  obtain ⟨rho, own, s, r, k⟩ := q
  exact k rho own sg H (Nxt.refl r) Frm.refl
theorem pss_dseq (h1 : PS X st (tS C A ds1)) (h2 : PSs X sts (tS C A ds2)) : PSs X (st :: sts) (tS C A (dseq ds1 ds2)) := (pss_cons h1 h2).weak fun D sg H q => by
  obtain ⟨rho, own, s, r, k⟩ := q
  refine ⟨rho, own, s, r, ?_⟩
  simp only [dseq] at k
  cases z : ds1 s with
  | nx s1 =>
    rw [z] at k
    intro rho1 own1 sg1 H1 n f
    exact ⟨rho1, own1, s1, n.rel, EndS.shift k n f⟩
  | rt t M => rw [z] at k; exact k
  | bk s1 => rw [z] at k; exact k
  | ct s1 => rw [z] at k; exact k
  | ex x s1 => rw [z] at k; exact k
  | bad => rw [z] at k; exact k
theorem ps_dexpr (h : PE X e (tE C d)) (hs : swapsWith e none pos.line X.env = pure false) : PS X (.Expr e pos) (tS C A (dexpr d)) := (ps_expr h hs).weak fun D sg H q => by
  obtain ⟨rho, own, s, r, k⟩ := q
  obtain ⟨t, s1, e1, k⟩ := EndS.bind k
  exact ⟨rho, own, s, r, t, s1, e1, fun rho1 own1 H1 v fr n rt => k rho1 own1 sg H1 n.drop0 Frm.refl⟩
theorem ps_dset {i : Nat} {x : Str} {pos' : Pos} (hN : X.N.Nodup) (hi : X.N[i]? = some x) (hx : Loc X.env.scope x) (he : PE X e (tE C d)) (hs : swapsWith e (some (.Name x pos')) pos.line X.env = pure false) (hf : X.fn x = true ∨ X.env.scope.names.lookup x = some .local) (hA : i ∈ A) :
    PS X (.Assign [.Name x pos'] e pos) (tS C A (dset i d)) := (ps_set hN hi hx he hs hf).weak fun D sg H q => by
  obtain ⟨rho, own, s, r, k⟩ := q
  obtain ⟨u, s2, e2, k⟩ := EndS.bind k
  obtain ⟨t, s1, e1, e3⟩ := bind_ok e2
  refine ⟨rho, own, s, r, t, s1, e1, fun rho1 own1 H1 v fr n rt => ?_⟩
  obtain ⟨rho2, own2, fr2, n2, r2⟩ := giv_ok n rt e3
  obtain ⟨own3, n3⟩ := n2.put (i := i) r2
  exact k rho2 own3 _ H1 n3 (Frm.set hA)
theorem ps_dret (h : PE X e (tE C d)) : PS X (.Return (some e) pos) (tS C A (dret d)) := (ps_ret h).weak fun D sg H q => by
  obtain ⟨rho, own, s, r, k⟩ := q
  obtain ⟨t, s1, e1, k⟩ := EndS.bind k
  refine ⟨rho, own, s, r, t, s1, e1, fun rho1 own1 H1 v fr n rt => ?_⟩
  cases t with
  | sl i =>
    obtain ⟨hv, rfl⟩ := rt
    cases z : s1.get (.sl i) with
    | none => rw [z] at k; exact k.elim
    | some u =>
      rw [z] at k
      have hs : s1.sg[i]? = some (some u) := by
        simp only [S.get] at z
        split at z
        · rename_i q; cases z; exact q
        · rename_i q; cases z; exact q
        · rename_i q; cases z; exact q
        · rename_i q; cases z; exact q
        · cases z
      obtain ⟨v', o1, fr, o2, e2, r2, e3, _⟩ := n.rel.sl.split hs
      rw [hv] at e2; cases e2
      have nd := n.rel.nd
      rw [e3] at nd
      have p1 : (rho1 ++ (o1 ++ fr ++ o2)).Perm ((o1 ++ o2) ++ (rho1 ++ fr)) := by
        rw [List.perm_iff_count]
        intro x
        simp only [List.count_append]
        omega
      refine k rho1 H1 v fr ⟨n.rel.mem, n.pre, (List.nodup_append.mp (p1.nodup nd)).2.1, n.kp.mono (fun _ z => z) fun b hb => ?_⟩ r2
      rw [List.append_nil, e3]
      exact p1.mem_iff.mpr (List.mem_append_right _ hb)
  | w x => exact k rho1 H1 v fr ⟨n.rel.mem, n.pre, (by obtain ⟨_, rfl⟩ := rt; have h := (List.nodup_append.mp n.rel.nd).1; simpa using h), n.kp.mono (fun _ z => z) fun b hb => by
      rcases List.mem_append.mp hb with h | h
      · exact List.mem_append_left _ (List.mem_append_left _ h)
      · exact List.mem_append_right _ h⟩ rt
  | lst x => exact k rho1 H1 v fr ⟨n.rel.mem, n.pre, (by
      have h := n.nd
      have p1 : (rho1 ++ own1 ++ fr).Perm (own1 ++ (rho1 ++ fr)) := by
        rw [List.perm_iff_count]; intro x; simp only [List.count_append]; omega
      exact (List.nodup_append.mp (p1.nodup h)).2.1), n.kp.mono (fun _ z => z) fun b hb => by
      rcases List.mem_append.mp hb with h | h
      · exact List.mem_append_left _ (List.mem_append_left _ h)
      · exact List.mem_append_right _ h⟩ rt
  | dK x => exact k rho1 H1 v fr ⟨n.rel.mem, n.pre, (by
      have h := n.nd
      have p1 : (rho1 ++ own1 ++ fr).Perm (own1 ++ (rho1 ++ fr)) := by
        rw [List.perm_iff_count]; intro x; simp only [List.count_append]; omega
      exact (List.nodup_append.mp (p1.nodup h)).2.1), n.kp.mono (fun _ z => z) fun b hb => by
      rcases List.mem_append.mp hb with h | h
      · exact List.mem_append_left _ (List.mem_append_left _ h)
      · exact List.mem_append_right _ h⟩ rt
  | dT x => exact k rho1 H1 v fr ⟨n.rel.mem, n.pre, (by
      have h := n.nd
      have p1 : (rho1 ++ own1 ++ fr).Perm (own1 ++ (rho1 ++ fr)) := by
        rw [List.perm_iff_count]; intro x; simp only [List.count_append]; omega
      exact (List.nodup_append.mp (p1.nodup h)).2.1), n.kp.mono (fun _ z => z) fun b hb => by
      rcases List.mem_append.mp hb with h | h
      · exact List.mem_append_left _ (List.mem_append_left _ h)
      · exact List.mem_append_right _ h⟩ rt
theorem ps_dretN : PS X (.Return none pos) (tS C A dretN) := ps_retN.weak fun D sg H q => by
  obtain ⟨rho, own, s, r, k⟩ := q
  refine k rho H .non [] ⟨r.mem, List.prefix_refl _, by have h := (List.nodup_append.mp r.nd).1; simpa using h, Kp.refl.mono (fun _ z => z) fun b hb => ?_⟩ r0_non
  rw [List.append_nil] at hb
  exact List.mem_append_left _ hb
theorem ps_dif (hc : PT X c (tB C b)) {as bs : List Stmt} (ha : PSs X as (tS C A ds1)) (hb : PSs X bs (tS C A ds2)) : PS X (.If c as bs pos) (tS C A (dif b ds1 ds2)) := (ps_if hc ha hb).weak fun D sg H q => by
  obtain ⟨rho, own, s, r, k⟩ := q
  obtain ⟨t, s1, e1, k⟩ := EndS.bind k
  refine ⟨rho, own, s, r, t, s1, e1, fun rho1 own1 H1 n => ?_⟩
  cases t with
  | true => rw [if_pos rfl]; exact ⟨rho1, own1, s1, n.rel, k.shift n Frm.refl⟩
  | false => rw [if_neg Bool.false_ne_true]; exact ⟨rho1, own1, s1, n.rel, k.shift n Frm.refl⟩
theorem ps_dnever : PS X st (tS C A dnever) := ps_never.weak fun D sg H q => by
  obtain ⟨rho, own, s, r, k⟩ := q
  exact k
theorem ps_dwhile {body : List Stmt} (hp : PassesOwn (model X.prog X.w) X.A X.env X.xe) (hc : PT X c (tB C b)) (hb : PSs X body (tS C A ds)) : PS X (.While c body [] pos) (tS C A (dwhile b ds)) := (ps_while hp hc hb).weak fun D sg H q => by
  obtain ⟨rho0, own0, s0, r0, k0⟩ := q
  refine ⟨fun m sg1 H1 => ∃ rho own s, Nxt C rho0 own0 H rho own s sg1 H1 [] ∧ Frm A sg sg1 ∧ EndS C A rho own sg1 H1 D (dwhl b ds m s), ⟨FUEL, rho0, own0, s0, Nxt.refl r0, Frm.refl, k0⟩, ?_⟩
  rintro m sg1 H1 ⟨rho, own, s, n, f, k⟩
  cases m with
  | zero => exact k.elim
  | succ m =>
    simp only [dwhl] at k
    obtain ⟨t, s1, e1, k⟩ := EndS.bind k
    refine ⟨rho, own, s, n.rel, t, s1, e1, fun rho1 own1 H1' n1 => ?_⟩
    have n01 := n.trans n1
    have k := k.shift n1 Frm.refl
    cases t with
    | false => dsimp only; rw [if_neg Bool.false_ne_true]; exact k rho1 own1 sg1 H1' (Nxt.refl n1.rel) Frm.refl
    | true =>
      dsimp only
      rw [if_pos rfl]
      refine ⟨fun sg2 H2 => ∃ rho own s, Nxt C rho0 own0 H rho own s sg2 H2 [] ∧ Frm A sg sg2 ∧ EndS C A rho own sg2 H2 D (dwhl b ds m s), fun sg2 H2 h => ⟨m, Nat.lt_succ_self _, h⟩, rho1, own1, s1, n1.rel, ?_⟩
      dsimp only at k
      cases z : ds s1 with
      | nx s2 =>
        rw [z] at k
        exact fun rho2 own2 sg2 H2 n2 f2 => ⟨rho2, own2, s2, n01.trans n2, f.trans f2, EndS.shift k n2 f2⟩
      | ct s2 =>
        rw [z] at k
        exact fun rho2 own2 sg2 H2 n2 f2 => ⟨rho2, own2, s2, n01.trans n2, f.trans f2, EndS.shift k n2 f2⟩
      | bk s2 => rw [z] at k; exact k
      | rt t M => rw [z] at k; exact k
      | ex x s2 => rw [z] at k; exact k
      | bad => rw [z] at k; exact k
end
end Rk

/-! Rk11: targets, for, comprehensions. -/
namespace Rk
open PySem PySem.Spec PyProof.Rows L2

/-! ### targets -/
def tG (C : Cf) (A : List Nat) (g : DG) : TG := fun v sg H Q => ∃ rho own s x, Rel C rho own s sg H ∧ RW C rho H x v ∧ ∃ u s', g x s = .ok u s' ∧
  ∀ rho' own' sg' H', Nxt C rho own H rho' own' s' sg' H' [] → Frm A sg sg' → Q sg' H'
def tGs (C : Cf) (A : List Nat) (g : List W → S → Out Unit) : TGs := fun vs sg H Q => ∃ rho own s xs, Rel C rho own s sg H ∧ RWs C rho H xs vs ∧ ∃ u s', g xs s = .ok u s' ∧
  ∀ rho' own' sg' H', Nxt C rho own H rho' own' s' sg' H' [] → Frm A sg sg' → Q sg' H'
theorem _root_.L2.PG.weak {X : Cx} {e : Expr} {t t' : TG} (h : PG X e t) (w : ∀ v sg H Q, t' v sg H Q → t v sg H Q) : PG X e t' := ⟨fun pins s sg H v u Q I r q => h.run pins s sg H v u Q I r (w v sg H Q q)⟩
theorem _root_.L2.PGs.weak {X : Cx} {e : List Expr} {t t' : TGs} (h : PGs X e t) (w : ∀ v sg H Q, t' v sg H Q → t v sg H Q) : PGs X e t' := ⟨fun pins s sg H v u Q I r q => h.run pins s sg H v u Q I r (w v sg H Q q)⟩
@[simp] def gnm (i : Nat) : DG := fun x s => .ok () (setS i (.w x) s)
@[simp] def gsn : List W → S → Out Unit
  | [], s => .ok () s
  | _, _ => .bad
@[simp] def gsc (g : DG) (r : List W → S → Out Unit) : List W → S → Out Unit
  | x :: xs, s => (g x s).bind fun _ s => r xs s
  | _, _ => .bad
@[simp] def gtp (n : Nat) (g : List W → S → Out Unit) : DG := fun x s => match x with
  | .tup xs => if xs.length = n then g xs s else .bad
  | _ => .bad
section
variable {X : Cx} {C : Cf} {A : List Nat} {e : Expr} {es : List Expr} {g : DG} {gs : List W → S → Out Unit} {pos : Pos}
theorem pg_nm {i : Nat} {x : Str} (hN : X.N.Nodup) (hi : X.N[i]? = some x) (hx : Loc X.env.scope x) (hf : X.fn x = true ∨ X.env.scope.names.lookup x = some .local) (hA : i ∈ A) : PG X (.Name x pos) (tG C A (gnm i)) :=
  (pg_name hN hi hx hf).weak fun v sg H Q q => by
    obtain ⟨rho, own, s, x, r, rx, u, s', e, k⟩ := q
    simp only [gnm, Out.ok.injEq] at e
    obtain ⟨_, rfl⟩ := e
    obtain ⟨own2, n2⟩ := (Nxt.refl r).put (i := i) (t := .w x) (v := v) ⟨rx, rfl⟩
    exact k rho own2 _ H n2 (Frm.set hA)
theorem pgs_n : PGs X [] (tGs C A gsn) := pgs_nil.weak fun vs sg H Q q => by
  obtain ⟨rho, own, s, xs, r, rx, u, s', e, k⟩ := q
  cases xs with
  | nil =>
    simp only [RWs] at rx
    simp only [gsn, Out.ok.injEq] at e
    obtain ⟨_, rfl⟩ := e
    exact ⟨rx, k rho own sg H (Nxt.refl r) Frm.refl⟩
  | cons x xs => cases e
theorem pgs_c (h1 : PG X e (tG C A g)) (h2 : PGs X es (tGs C A gs)) (hs : (assignEach (e :: es) X.env).map (·.2) = assign e X.env :: (assignEach es X.env).map (·.2)) : PGs X (e :: es) (tGs C A (gsc g gs)) :=
  (pgs_cons h1 h2 hs).weak fun vs sg H Q q => by
    obtain ⟨rho, own, s, xs, r, rx, u, s', e, k⟩ := q
    cases xs with
    | nil => cases e
    | cons x xs =>
      simp only [RWs] at rx
      obtain ⟨y, ys, rfl, rx, rxs⟩ := rx
      obtain ⟨u1, s1, e1, e2⟩ := bind_ok e
      refine ⟨y, ys, rfl, rho, own, s, x, r, rx, u1, s1, e1, fun rho1 own1 sg1 H1 n1 f1 => ?_⟩
      exact ⟨rho1, own1, s1, xs, n1.rel, rxs.up (n1.up r), u, s', e2, fun rho2 own2 sg2 H2 n2 f2 => k rho2 own2 sg2 H2 (n1.trans n2) (f1.trans f2)⟩
theorem pg_tp {kk : Nat} {n : Nat} (hK : C.K = X.K) (hc : X.calm = true) (h : PGs X es (tGs C A gs)) (hn : (assignEach es X.env).length = n) (hst : (assignEach es X.env).findIdx? (·.1) = none) : PG X (.Tuple es kk pos) (tG C A (gtp n gs)) :=
  (pg_tup hc h hn hst).weak fun v sg H Q q => by
    obtain ⟨rho, own, s, x, r, rx, u, s', e, k⟩ := q
    simp only [gtp] at e
    split at e
    · rename_i xs
      split at e
      · rename_i hl
        simp only [RW] at rx
        obtain ⟨a, vs, rfl, sq, rs⟩ := rx
        rw [hK] at sq
        exact ⟨a, vs, rfl, sq, by rw [← rs.length]; exact hl, rho, own, s, xs, r, rs, u, s', e, k⟩
      · cases e
    · cases e
/-- target = value, the value kept -/
@[simp] def dasg (d : DE) (g : DG) : DS := fun s => (dW d s).fl fun x s => (g x s).fl fun _ s => .nx s
theorem ps_dasg {tg e : Expr} {d : DE} (he : PE X e (tE C d)) (hg : PG X tg (tG C A g)) (hs : swapsWithSole [tg] e pos.line X.env = pure false) (hw : swappedStores [tg] e X.env = pure none) (h1 : (assignEach [tg] X.env).map (·.2) = [assign tg X.env]) :
    PS X (.Assign [tg] e pos) (tS C A (dasg d g)) := (ps_asg (pe_W he) hg hs hw h1).weak fun D sg H q => by
  obtain ⟨rho, own, s, r, k⟩ := q
  obtain ⟨x, s1, e1, k⟩ := EndS.bind k
  refine ⟨rho, own, s, r, x, s1, e1, fun rho1 own1 H1 v n rx => ?_⟩
  obtain ⟨u, s2, e2, k⟩ := EndS.bind k
  exact ⟨rho1, own1, s1, x, n.rel, rx, u, s2, e2, fun rho2 own2 sg2 H2 n2 f2 => k rho2 own2 sg2 H2 (n.trans n2) f2⟩
end

/-! ### for -/
def forS (g : DG) (b : DS) : List W → DS
  | [], s => .nx s
  | x :: xs, s => (g x s).fl fun _ s => match b s with
      | .nx s => forS g b xs s
      | .ct s => forS g b xs s
      | .bk s => .nx s
      | r => r
def forL (f : S → Option (List W)) (g : DG) (b : DS) : Nat → Nat → DS
  | 0, _, _ => .bad
  | n + 1, i, s => match f s with
      | none => .bad
      | some xs => (match xs[i]? with
          | none => .nx s
          | some x => (g x s).fl fun _ s => match b s with
              | .nx s => forL f g b n (i + 1) s
              | .ct s => forL f g b n (i + 1) s
              | .bk s => .nx s
              | r => r)
@[simp] def dfor (it : DI) (g : DG) (b : DS) : DS := fun s => (it s).fl fun src s => match src with
  | .snap xs => forS g b xs s
  | .live f => forL f g b FUEL 0 s
theorem Nxt.go {C : Cf} {rho0 own0 rho own rho' own' fr : List Addr} {s s' : S} {sg sg' : L2.St} {H0 H H' : Hp} (n : Nxt C rho0 own0 H0 rho own s sg H fr) (tr : ∀ a ∈ fr, ∃ o, H a = some o) (m : Nxt C rho own H rho' own' s' sg' H' []) :
    Nxt C rho0 own0 H0 rho' own' s' sg' H' fr ∧ ∀ a ∈ fr, ∃ o, H' a = some o := by
  have h := n.both tr m
  rw [List.append_nil] at h
  refine ⟨h, fun a ha => ?_⟩
  obtain ⟨o, e⟩ := tr a ha
  exact ⟨o, (m.kp a o e (n.out a ha)).1⟩
section
variable {X : Cx} {C : Cf} {A Dp : List Nat} {tg iter : Expr} {body : List Stmt} {it : DI} {g : DG} {b : DS} {pos : Pos}
theorem for_turn {rho0 own0 rho own fr : List Addr} {s : S} {sg sg1 : L2.St} {H H2 : Hp} {J : It} {P : List Addr → L2.St → Hp → Prop} {src : Src} {xs : List W} {x : W} {i : Nat} {rest : DS} {N : L2.St → Hp → Prop} {D : Ends}
    (wk : WalkJ C J src Dp fr P) (hd : ∀ i ∈ Dp, i ∉ A) (n : Nxt C rho0 own0 H rho own s sg1 H2 fr) (f : Frm A sg sg1) (p : P rho sg1 H2) (tr : ∀ a ∈ fr, ∃ o, H2 a = some o) (e : src.at s = some xs) (ex : xs[i]? = some x)
    (k : EndS C A rho own sg1 H2 D ((g x s).fl fun _ s => match b s with
        | .nx s => rest s
        | .ct s => rest s
        | .bk s => .nx s
        | r => r))
    (hN : ∀ rho' own' s' sg' H', Nxt C rho0 own0 H rho' own' s' sg' H' fr → Frm A sg sg' → P rho' sg' H' → (∀ a ∈ fr, ∃ o, H' a = some o) → EndS C A rho' own' sg' H' D (rest s') → N sg' H')
    (v : V) (H3 : Hp) (y : J.yld i H2 v H3) : tG C A g v sg1 H3 fun sg2 H4 => tS C A b { D with nx := N, ct := N, bk := D.nx } sg2 H4 := by
  obtain ⟨ny, rx⟩ := wk.yld i v H3 n.rel p e ex y
  have k := k.shift ny Frm.refl
  obtain ⟨u, s2, e2, k⟩ := EndS.bind k
  refine ⟨rho, own, s, x, ny.rel, rx, u, s2, e2, fun rho3 own3 sg3 H4 n3 f3 => ?_⟩
  have k := k.shift n3 f3
  refine ⟨rho3, own3, s2, n3.rel, ?_⟩
  have go : ∀ {s4 : S} {rho4 own4 : List Addr} {sg4 : L2.St} {H5 : Hp}, EndS C A rho3 own3 sg3 H4 D (rest s4) → Nxt C rho3 own3 H4 rho4 own4 s4 sg4 H5 [] → Frm A sg3 sg4 → N sg4 H5 := fun {s4 rho4 own4 sg4 H5} k n4 f4 => by
    have nall := (ny.trans n3).trans n4
    obtain ⟨nb, trb⟩ := n.go tr nall
    have fall := f3.trans f4
    exact hN rho4 own4 s4 sg4 H5 nb (f.trans fall) (wk.keep p (nall.up n.rel) (fun a ha o e => (nall.kp a o e (n.out a ha)).1) fun i hi => fall.2 i (hd i hi)) trb (k.shift n4 f4)
  cases z : b s2 with
  | nx s4 => rw [z] at k; exact fun rho4 own4 sg4 H5 n4 f4 => go k n4 f4
  | ct s4 => rw [z] at k; exact fun rho4 own4 sg4 H5 n4 f4 => go k n4 f4
  | bk s4 => rw [z] at k; exact k
  | rt t M => rw [z] at k; exact k
  | ex x s4 => rw [z] at k; exact k
  | bad => rw [z] at k; exact k
theorem ps_dfor (hp : PassesOwn (model X.prog X.w) X.A X.env X.xe) (hc : X.calm = true) (hi : PI X tg iter (tI C Dp it)) (hg : PG X tg (tG C A g)) (hb : PSs X body (tS C A b)) (hd : ∀ i ∈ Dp, i ∉ A)
    (hs : ∀ x, foldedSetIterable iter X.env x = pure x) : PS X (.For tg iter body [] pos) (tS C A (dfor it g b)) := (ps_for hp hc hi hg hb hs).weak fun D sg H q => by
  obtain ⟨rho0, own0, s0, r0, k0⟩ := q
  obtain ⟨src, s1, e1, k1⟩ := EndS.bind k0
  refine ⟨rho0, own0, s0, r0, src, s1, e1, fun rho1 own1 H1 fr J P n1 trk wk p1 => ?_⟩
  have k2 := k1.shift n1 Frm.refl
  cases src with
  | snap xs =>
    refine ⟨fun i m sg1 H2 => ∃ rho own s, Nxt C rho0 own0 H rho own s sg1 H2 fr ∧ Frm A sg sg1 ∧ P rho sg1 H2 ∧ (∀ a ∈ fr, ∃ o, H2 a = some o) ∧ m = xs.length - i ∧ i ≤ xs.length ∧ EndS C A rho own sg1 H2 D (forS g b (xs.drop i) s),
      ⟨xs.length, rho1, own1, s1, n1, Frm.refl, p1, trk, by simp, Nat.zero_le _, by simpa using k2⟩, ?_⟩
    rintro i m sg1 H2 ⟨rho, own, s, n, f, p, tr, hm, hl, k⟩
    by_cases hlt : i < xs.length
    · refine .inr ⟨wk.go i n.rel p rfl hlt, fun sg2 H3 => ∃ rho own s, Nxt C rho0 own0 H rho own s sg2 H3 fr ∧ Frm A sg sg2 ∧ P rho sg2 H3 ∧ (∀ a ∈ fr, ∃ o, H3 a = some o) ∧ EndS C A rho own sg2 H3 D (forS g b (xs.drop (i + 1)) s), ?_, ?_⟩
      · rintro sg2 H3 ⟨rho', own', s', n', f', p', tr', k'⟩
        exact ⟨xs.length - (i + 1), by omega, rho', own', s', n', f', p', tr', rfl, hlt, k'⟩
      · have e : xs.drop i = xs[i] :: xs.drop (i + 1) := List.drop_eq_getElem_cons hlt
        rw [e] at k
        simp only [forS] at k
        exact for_turn wk hd n f p tr rfl (List.getElem?_eq_getElem hlt) k fun rho' own' s' sg' H' a b c d e => ⟨rho', own', s', a, b, c, d, e⟩
    · refine .inl ⟨wk.stop i n.rel p rfl (by omega), ?_⟩
      rw [List.drop_eq_nil_of_le (by omega)] at k
      exact k rho own sg1 H2 (Nxt.refl n.rel) Frm.refl
  | live fn =>
    refine ⟨fun i m sg1 H2 => ∃ rho own s, Nxt C rho0 own0 H rho own s sg1 H2 fr ∧ Frm A sg sg1 ∧ P rho sg1 H2 ∧ (∀ a ∈ fr, ∃ o, H2 a = some o) ∧ EndS C A rho own sg1 H2 D (forL fn g b m i s),
      ⟨FUEL, rho1, own1, s1, n1, Frm.refl, p1, trk, k2⟩, ?_⟩
    rintro i m sg1 H2 ⟨rho, own, s, n, f, p, tr, k⟩
    cases m with
    | zero => exact k.elim
    | succ m =>
      simp only [forL] at k
      cases z : fn s with
      | none => rw [z] at k; exact k.elim
      | some xs =>
        rw [z] at k
        dsimp only at k
        cases z2 : xs[i]? with
        | none =>
          rw [z2] at k
          exact .inl ⟨wk.stop i n.rel p z (List.getElem?_eq_none_iff.mp z2), k rho own sg1 H2 (Nxt.refl n.rel) Frm.refl⟩
        | some x =>
          rw [z2] at k
          refine .inr ⟨wk.go i n.rel p z (List.getElem?_eq_some_iff.mp z2).1, fun sg2 H3 => ∃ rho own s, Nxt C rho0 own0 H rho own s sg2 H3 fr ∧ Frm A sg sg2 ∧ P rho sg2 H3 ∧ (∀ a ∈ fr, ∃ o, H3 a = some o) ∧ EndS C A rho own sg2 H3 D (forL fn g b m (i + 1) s), ?_, ?_⟩
          · rintro sg2 H3 h
            exact ⟨m, Nat.lt_succ_self _, h⟩
          · exact for_turn wk hd n f p tr z z2 k fun rho' own' s' sg' H' a b c d e => ⟨rho', own', s', a, b, c, d, e⟩
end
end Rk

/-! Rk12: list comprehensions. -/
namespace Rk
open PySem PySem.Spec PyProof.Rows L2

def wipeT (ts : List (Option T)) : List Nat → List (Option T)
  | [] => ts
  | v :: vs => (wipeT ts vs).set v none
def backT (ts' ts : List (Option T)) : List Nat → List (Option T)
  | [] => ts'
  | v :: vs => backT (ts'.set v ((ts[v]?).getD none)) ts vs
def plainAt (ts : List (Option T)) (v : Nat) : Bool := match ts[v]? with
  | some none => true
  | some (some (.w _)) => true
  | _ => false
@[simp] def wipeS (vs : List Nat) (s : S) : S := ⟨wipeT s.sg vs, s.M⟩
section
variable {C : Cf} {rho own os : List Addr} {H : Hp}
theorem RSl.non : ∀ {ts : List (Option T)} {sg : L2.St} {os : List Addr} {v : Nat} {y : Option V}, RSl C rho H ts sg os → plainAt ts v = true → RSl C rho H (ts.set v none) (sg.set v y) os
  | [], sg, os, v, y, h, e => by simp [plainAt] at e
  | none :: r, sg, os, 0, y, h, e => by
    obtain ⟨z, zs, rfl, h⟩ := h
    exact ⟨y, zs, rfl, h⟩
  | some t :: r, sg, os, 0, y, h, e => by
    obtain ⟨w, zs, fr, os', rfl, rfl, q, h⟩ := h
    cases t with
    | w x =>
      obtain ⟨_, rfl⟩ := q
      exact ⟨y, zs, rfl, h⟩
    | _ => simp [plainAt] at e
  | none :: r, sg, os, v + 1, y, h, e => by
    obtain ⟨z, zs, rfl, h⟩ := h
    exact ⟨z, _, rfl, RSl.non h (by simpa [plainAt] using e)⟩
  | some t :: r, sg, os, v + 1, y, h, e => by
    obtain ⟨w, zs, fr, os', rfl, rfl, q, h⟩ := h
    exact ⟨w, _, fr, os', rfl, rfl, q, RSl.non h (by simpa [plainAt] using e)⟩
theorem plain_set {ts : List (Option T)} {u v : Nat} (h : plainAt ts v = true) : plainAt (ts.set u none) v = true := by
  unfold plainAt at h ⊢
  by_cases e : u = v
  · subst e
    have hl : u < ts.length := by
      cases z : ts[u]? with
      | none => rw [z] at h; cases h
      | some x => exact (List.getElem?_eq_some_iff.mp z).1
    rw [List.getElem?_set_self hl]
  · rw [List.getElem?_set_ne e]; exact h
theorem plain_wipe {ts : List (Option T)} {v : Nat} (h : plainAt ts v = true) : ∀ vs : List Nat, plainAt (wipeT ts vs) v = true
  | [] => h
  | u :: vs => plain_set (plain_wipe h vs)
theorem RSl.wipe {ts : List (Option T)} {sg : L2.St} (h : RSl C rho H ts sg os) : ∀ vs : List Nat, vs.all (plainAt ts) = true → RSl C rho H (wipeT ts vs) (L2.wipe sg vs) os
  | [], _ => h
  | v :: vs, e => by
    simp only [List.all_cons, Bool.and_eq_true] at e
    exact RSl.non (RSl.wipe h vs e.2) (plain_wipe e.1 vs)
theorem RSl.putN : ∀ {ts : List (Option T)} {sg : L2.St} {os : List Addr} {i : Nat} {y : Option V}, RSl C rho H ts sg os → ∃ os', RSl C rho H (ts.set i none) (sg.set i y) os' ∧ os'.Sublist os
  | [], sg, os, i, y, h => by
    obtain ⟨rfl, rfl⟩ := h
    exact ⟨[], by simp [RSl], List.Sublist.refl _⟩
  | none :: r, sg, os, 0, y, h => by
    obtain ⟨z, zs, rfl, h⟩ := h
    exact ⟨os, ⟨y, zs, rfl, h⟩, List.Sublist.refl _⟩
  | some t :: r, sg, os, 0, y, h => by
    obtain ⟨w, zs, fr, os', rfl, rfl, q, h⟩ := h
    exact ⟨os', ⟨y, zs, rfl, h⟩, List.sublist_append_right _ _⟩
  | none :: r, sg, os, i + 1, y, h => by
    obtain ⟨z, zs, rfl, h⟩ := h
    obtain ⟨os', h', l⟩ := RSl.putN (i := i) (y := y) h
    exact ⟨os', ⟨z, _, rfl, h'⟩, l⟩
  | some t :: r, sg, os, i + 1, y, h => by
    obtain ⟨w, zs, fr, os1, rfl, rfl, q, h⟩ := h
    obtain ⟨os', h', l⟩ := RSl.putN (i := i) (y := y) h
    exact ⟨fr ++ os', ⟨w, _, fr, os', rfl, rfl, q, h'⟩, List.Sublist.append_left l fr⟩
theorem wipe_in {sg : L2.St} {i : Nat} : ∀ {vs : List Nat}, i ∈ vs → i < sg.length → (L2.wipe sg vs)[i]? = some none
  | v :: vs, hi, hl => by
    show ((L2.wipe sg vs).set v none)[i]? = some none
    by_cases e : v = i
    · subst e
      rw [List.getElem?_set_self (by rw [wipe_length]; exact hl)]
    · rw [List.getElem?_set_ne e]
      exact wipe_in ((List.mem_cons.mp hi).resolve_left fun z => e z.symm) hl
theorem wipe_eq {a b : L2.St} {vs : List Nat} (h : Frm vs a b) : L2.wipe b vs = L2.wipe a vs := by
  have hl := h.1
  apply List.ext_getElem?
  intro i
  by_cases hi : i ∈ vs
  · by_cases hb : i < b.length
    · rw [wipe_in hi hb, wipe_in hi (by omega)]
    · rw [List.getElem?_eq_none (by rw [wipe_length]; omega), List.getElem?_eq_none (by rw [wipe_length]; omega)]
  · rw [wipe_out hi, wipe_out hi]
    exact h.2 i hi
theorem wipe_wipe {a : L2.St} {vs : List Nat} : L2.wipe (L2.wipe a vs) vs = L2.wipe a vs :=
  wipe_eq ⟨by rw [wipe_length], fun j h => by rw [wipe_out h]⟩
/-- the block's names are given back -/
theorem RSl.back {ts : List (Option T)} {sg : L2.St} {rho' os0 : List Addr} {H' : Hp} (u : Up rho H rho' H') (h0 : RSl C rho H ts sg os0) : ∀ {vs : List Nat} {ts' : List (Option T)} {os : List Addr}, vs.Nodup → vs.all (plainAt ts) = true → RSl C rho' H' ts' (L2.wipe sg vs) os →
    ∃ os', RSl C rho' H' (backT ts' ts vs) sg os' ∧ os'.Sublist os
  | [], ts', os, nd, pl, h => ⟨os, h, List.Sublist.refl _⟩
  | v :: vs, ts', os, nd, pl, h => by
    simp only [List.all_cons, Bool.and_eq_true] at pl
    have hnv : v ∉ vs := (List.nodup_cons.mp nd).1
    have h : RSl C rho' H' ts' ((L2.wipe sg vs).set v none) os := h
    have pv := pl.1
    unfold plainAt at pv
    have fin : ∃ os1, RSl C rho' H' (ts'.set v ((ts[v]?).getD none)) (L2.wipe sg vs) os1 ∧ os1.Sublist os := by
      cases z : ts[v]? with
      | none => rw [z] at pv; cases pv
      | some o =>
        rw [z] at pv
        have hvl : v < sg.length := by rw [← h0.length]; exact (List.getElem?_eq_some_iff.mp z).1
        cases o with
        | none =>
          obtain ⟨os1, h1, l1⟩ := RSl.putN (i := v) (y := sg[v]) h
          refine ⟨os1, ?_, l1⟩
          rw [List.set_set] at h1
          rw [set_self (l := L2.wipe sg vs) (by rw [wipe_out hnv]; exact List.getElem?_eq_getElem hvl)] at h1
          exact h1
        | some t =>
          cases t with
          | w x =>
            obtain ⟨w, o1, fr, o2, e1, r1, _, _⟩ := h0.split z
            obtain ⟨r1, _⟩ := r1
            have hl : v < ts'.length := by rw [h.length, List.length_set, wipe_length]; exact hvl
            obtain ⟨p1, old, p2, e2, h1⟩ := h.put (t := .w x) (v := w) (fr := []) hl ⟨r1.up u, rfl⟩
            refine ⟨p1 ++ [] ++ p2, ?_, ?_⟩
            · rw [List.set_set] at h1
              rw [set_self (l := L2.wipe sg vs) (by rw [wipe_out hnv]; exact e1)] at h1
              exact h1
            · rw [e2, List.append_nil, List.append_assoc]
              exact List.Sublist.append_left (List.sublist_append_right _ _) _
          | _ => cases pv
    obtain ⟨os1, h1, l1⟩ := fin
    obtain ⟨os2, h2, l2⟩ := RSl.back u h0 (vs := vs) (List.nodup_cons.mp nd).2 pl.2 h1
    exact ⟨os2, h2, l2.trans l1⟩
end

/-! ### the comprehension -/
def compS (vs : List Nat) (g : DG) (c : DB) (e : DW) : List W → List W → S → Out (List W)
  | [], acc, s => .ok acc s
  | x :: xs, acc, s => (g x (wipeS vs s)).bind fun _ s => (c s).bind fun b s => match b with
      | true => (e s).bind fun y s => if acc.length < sizeLine && vs.all (plainAt s.sg) then compS vs g c e xs (acc ++ [y]) s else .bad
      | false => if vs.all (plainAt s.sg) then compS vs g c e xs acc s else .bad
def compL (f : S → Option (List W)) (vs : List Nat) (g : DG) (c : DB) (e : DW) : Nat → Nat → List W → S → Out (List W)
  | 0, _, _, _ => .bad
  | n + 1, i, acc, s => match f (wipeS vs s) with
      | none => .bad
      | some xs => (match xs[i]? with
          | none => .ok acc s
          | some x => (g x (wipeS vs s)).bind fun _ s => (c s).bind fun b s => match b with
              | true => (e s).bind fun y s => if acc.length < sizeLine && vs.all (plainAt s.sg) then compL f vs g c e n (i + 1) (acc ++ [y]) s else .bad
              | false => if vs.all (plainAt s.sg) then compL f vs g c e n (i + 1) acc s else .bad)
@[simp] def dcomp (it : DI) (vs : List Nat) (g : DG) (c : DB) (e : DW) : DE := fun s => (it s).bind fun src s =>
  if vs.all (plainAt s.sg) then (match src with
      | .snap xs => compS vs g c e xs [] s
      | .live f => compL f vs g c e FUEL 0 [] s).bind fun acc s' => .ok (.lst acc) ⟨backT (wipeT s'.sg vs) s.sg vs, s'.M⟩
  else .bad
@[simp] def dyes : DB := fun s => .ok true s
theorem tyes_ok {C : Cf} {sg : L2.St} {H : Hp} {Q : Bool → Hp → Prop} (h : tB C dyes sg H Q) : tYes sg H Q := by
  obtain ⟨rho, own, s, r, b, s', e, k⟩ := h
  simp only [dyes, Out.ok.injEq] at e
  obtain ⟨rfl, rfl⟩ := e
  exact k rho own H (Nxt.refl r)
section
variable {C : Cf} {Dp vs : List Nat} {it : DI} {g : DG} {c : DB} {el : DW} {wi : TI} {tg : TG} {tt : TT} {te : TE}
/-- one turn of a comprehension; rest: what is done with the items behind -/
theorem comp_turn {rho0 own0 rho own fr : List Addr} {s : S} {sg : L2.St} {H H2 : Hp} {J : It} {P : List Addr → L2.St → Hp → Prop} {src : Src} {xs : List W} {x : W} {i : Nat} {Dn : Addr} {acc : List W} {accV : List V} {rest : List W → S → Out (List W)} {N : Hp → Prop}
    (hg : ∀ v sg H Q, tG C vs g v sg H Q → tg v sg H Q) (ht : ∀ sg H Q, tB C c sg H Q → tt sg H Q) (he : ∀ sg H Q, tW C el sg H Q → te sg H Q)
    (wk : WalkJ C J src Dp fr P) (hd : ∀ i ∈ Dp, i ∉ vs) (n : Nxt C rho0 own0 H rho own (wipeS vs s) (L2.wipe sg vs) H2 (fr ++ [Dn])) (p : P rho (L2.wipe sg vs) H2) (tr : ∀ a ∈ fr ++ [Dn], ∃ o, H2 a = some o) (hD : H2 Dn = some (.lst accV)) (ra : RWs C rho H2 acc accV)
    (e : src.at (wipeS vs s) = some xs) (ex : xs[i]? = some x) {a' : List W} {sF : S}
    (k : ((g x (wipeS vs s)).bind fun _ s => (c s).bind fun b s => match b with
      | true => (el s).bind fun y s => if acc.length < sizeLine && vs.all (plainAt s.sg) then rest (acc ++ [y]) s else .bad
      | false => if vs.all (plainAt s.sg) then rest acc s else .bad) = .ok a' sF)
    (hN : ∀ rho' own' s' H' acc' accV', Up rho H2 rho' H' → Nxt C rho0 own0 H rho' own' (wipeS vs s') (L2.wipe sg vs) H' (fr ++ [Dn]) → P rho' (L2.wipe sg vs) H' → (∀ a ∈ fr ++ [Dn], ∃ o, H' a = some o) → H' Dn = some (.lst accV') → RWs C rho' H' acc' accV' → rest acc' s' = .ok a' sF → N H')
    (v : V) (H3 : Hp) (y : J.yld i H2 v H3) :
    tg v (L2.wipe sg vs) H3 fun sg2 H4 => L2.wipe sg2 vs = L2.wipe sg vs ∧ tt sg2 H4 fun b H5 =>
      if b = true then te sg2 H5 fun y H6 => ∃ acc, H6 Dn = some (.lst acc) ∧ acc.length < sizeLine ∧ N (upd H6 Dn (.lst (acc ++ [y]))) else N H5 := by
  have nodD : ∀ a ∈ fr, a ∉ rho ++ own := fun a ha => n.out a (List.mem_append_left _ ha)
  obtain ⟨ny, rx⟩ := wk.yld i v H3 n.rel p e ex y
  obtain ⟨u1, s1, e1, k⟩ := bind_ok k
  obtain ⟨b, s2, e2, k⟩ := bind_ok k
  refine hg _ _ _ _ ⟨rho, own, _, x, ny.rel, rx, u1, s1, e1, fun rho3 own3 sg3 H4 n3 f3 => ?_⟩
  have hw : L2.wipe sg3 vs = L2.wipe sg vs := (wipe_eq f3).trans wipe_wipe
  refine ⟨hw, ht _ _ _ ⟨rho3, own3, s1, n3.rel, b, s2, e2, fun rho4 own4 H5 n4 => ?_⟩⟩
  -- from the turn's start to a state behind it, its slots wiped
  have fin : ∀ {rho5 own5 : List Addr} {s5 : S} {H6 : Hp}, Nxt C rho3 own3 H4 rho5 own5 s5 sg3 H6 [] → vs.all (plainAt s5.sg) = true →
      Up rho H2 rho5 H6 ∧ Nxt C rho0 own0 H rho5 own5 (wipeS vs s5) (L2.wipe sg vs) H6 (fr ++ [Dn]) ∧ P rho5 (L2.wipe sg vs) H6 ∧ (∀ a ∈ fr ++ [Dn], ∃ o, H6 a = some o) ∧ H6 Dn = some (.lst accV) ∧ RWs C rho5 H6 acc accV := fun {rho5 own5 s5 H6} n5 pl => by
    have w5 : Rel C rho5 own5 (wipeS vs s5) (L2.wipe sg vs) H6 := by
      have h := n5.rel.sl.wipe vs pl
      rw [hw] at h
      exact ⟨h, n5.rel.mem, n5.rel.nd⟩
    have nall := (ny.trans n3).trans n5
    have nall' : Nxt C rho own H2 rho5 own5 (wipeS vs s5) (L2.wipe sg vs) H6 [] := ⟨w5, nall.pre, nall.nd, nall.kp⟩
    obtain ⟨nb, trb⟩ := n.go tr nall'
    refine ⟨nall'.up n.rel, nb, wk.keep p (nall'.up n.rel) (fun a ha o e => (nall'.kp a o e (nodD a ha)).1) (fun _ _ => rfl), trb, (nall'.kp Dn _ hD (n.out Dn (by simp))).1, ra.up (nall'.up n.rel)⟩
  cases b with
  | false =>
    dsimp only at k ⊢
    rw [if_neg Bool.false_ne_true]
    split at k
    · rename_i pl
      obtain ⟨ub, nb, pb, trb, hDb, rb⟩ := fin n4 pl
      exact hN rho4 own4 s2 H5 acc accV ub nb pb trb hDb rb k
    · cases k
  | true =>
    dsimp only at k ⊢
    rw [if_pos rfl]
    obtain ⟨y', s3, e3, k⟩ := bind_ok k
    refine he _ _ _ ⟨rho4, own4, s2, n4.rel, y', s3, e3, fun rho5 own5 H6 yv n5 ry => ?_⟩
    split at k
    · rename_i pl
      simp only [Bool.and_eq_true, decide_eq_true_eq] at pl
      obtain ⟨ub, nb, pb, trb, hDb, rb⟩ := fin (n4.trans n5) pl.2
      refine ⟨accV, hDb, by rw [← rb.length]; exact pl.1, ?_⟩
      -- the new list is written: it is in flight
      have out : Dn ∉ rho5 ++ own5 := nb.out Dn (by simp)
      have nfr : Dn ∉ fr := fun z => by
        have h := (List.nodup_append.mp nb.nd).2.1
        exact (List.nodup_append.mp h).2.2 Dn z Dn (by simp) rfl
      have up : Up rho5 H6 rho5 (upd H6 Dn (.lst (accV ++ [yv]))) := ⟨List.prefix_refl _, fun b o eb st => by
        rw [upd_ne]
        · exact eb
        · rintro rfl
          rw [hDb] at eb; cases eb; exact st⟩
      have keep : ∀ a ∈ rho5 ++ own5, ∀ o, H6 a = some o → upd H6 Dn (.lst (accV ++ [yv])) a = some o := fun a ha o eb => by
        rw [upd_ne]
        · exact eb
        · rintro rfl; exact out ha
      have rel' : Rel C rho5 own5 (wipeS vs s3) (L2.wipe sg vs) (upd H6 Dn (.lst (accV ++ [yv]))) :=
        ⟨nb.rel.sl.up up fun a ha o => keep a (List.mem_append_right _ ha) o, by
          have hm := nb.rel.mem
          have go : ∀ {M : List Ob} {r : List Addr}, (∀ a ∈ r, a ∈ rho5) → Paired (RB C rho5 H6) M r → Paired (RB C rho5 (upd H6 Dn (.lst (accV ++ [yv])))) M r := by
            intro M r hs hp
            induction hp with
            | nil => exact .nil
            | cons h t ih => exact .cons (h.up up fun o => keep _ (List.mem_append_left _ (hs _ (by simp))) o) (ih fun a ha => hs a (List.mem_cons_of_mem _ ha))
          exact go (fun _ z => z) hm, nb.rel.nd⟩
      have kp' : Kp (rho0 ++ own0) H (rho5 ++ own5 ++ (fr ++ [Dn])) (upd H6 Dn (.lst (accV ++ [yv]))) := fun b o eb z => by
        obtain ⟨e1, z1⟩ := nb.kp b o eb z
        refine ⟨?_, z1⟩
        rw [upd_ne]
        · exact e1
        · rintro rfl; exact z1 (by simp)
      have nb' : Nxt C rho0 own0 H rho5 own5 (wipeS vs s3) (L2.wipe sg vs) (upd H6 Dn (.lst (accV ++ [yv]))) (fr ++ [Dn]) := ⟨rel', nb.pre, nb.nd, kp'⟩
      have pb' := wk.keep (sg' := L2.wipe sg vs) pb up (fun a ha o e => by
        rw [upd_ne]
        · exact e
        · rintro rfl; exact nfr ha) (fun _ _ => rfl)
      refine hN rho5 own5 s3 _ (acc ++ [y']) (accV ++ [yv]) (ub.trans up) nb' pb' (fun a ha => ?_) upd_same ?_ k
      · by_cases h : a = Dn
        · rw [h]; exact ⟨_, upd_same⟩
        · rw [upd_ne h]; exact trb a ha
      · exact RWs.append (rb.up up) (RWs.one (ry.up up))
    · cases k
theorem comp_ok {sg : L2.St} {H : Hp} {Q : VK} (hg : ∀ v sg H Q, tG C vs g v sg H Q → tg v sg H Q) (ht : ∀ sg H Q, tB C c sg H Q → tt sg H Q) (he : ∀ sg H Q, tW C el sg H Q → te sg H Q) (hd : ∀ i ∈ Dp, i ∉ vs) (hnd : vs.Nodup)
    (q : tE C (dcomp it vs g c el) sg H Q) : tLc (tI C Dp it) tg tt te vs sg H Q := by
  obtain ⟨rho0, own0, s0, r0, t, sF, e0, kQ⟩ := q
  obtain ⟨src, s1, e1, e2⟩ := bind_ok e0
  split at e2
  · rename_i pl
    obtain ⟨accF, s2, e3, e4⟩ := bind_ok e2
    simp only [Out.ok.injEq] at e4
    obtain ⟨rfl, rfl⟩ := e4
    refine ⟨rho0, own0, s0, r0, src, s1, e1, fun rho1 own1 H1 fr J P n1 trk wk p1 Dn nD => ?_⟩
    -- the start, the slots wiped, the new list in flight
    have nn : Nxt C rho0 own0 H rho1 own1 (wipeS vs s1) (L2.wipe sg vs) (upd H1 Dn (.lst [])) (fr ++ [Dn]) := by
      have h := n1.both trk (Nxt.new (o := .lst []) n1.rel nD)
      exact ⟨⟨h.rel.sl.wipe vs pl, h.rel.mem, h.rel.nd⟩, h.pre, h.nd, h.kp⟩
    have pp : P rho1 (L2.wipe sg vs) (upd H1 Dn (.lst [])) := wk.keep p1 (Up.new nD) (fun a _ o e => upd_keep nD o e) fun i hi => wipe_out (hd i hi)
    have tr : ∀ a ∈ fr ++ [Dn], ∃ o, upd H1 Dn (.lst []) a = some o := fun a ha => by
      rcases List.mem_append.mp ha with h | h
      · obtain ⟨o, e⟩ := trk a h
        exact ⟨o, upd_keep nD o e⟩
      · obtain rfl := List.mem_singleton.mp h
        exact ⟨_, upd_same⟩
    have up0 : Up rho1 H1 rho1 (upd H1 Dn (.lst [])) := Up.new nD
    -- the end: the block's names are given back
    have fin : ∀ {rho own : List Addr} {H2 : Hp} {accV : List V}, Nxt C rho0 own0 H rho own (wipeS vs s2) (L2.wipe sg vs) H2 (fr ++ [Dn]) → Up rho1 H1 rho H2 → H2 Dn = some (.lst accV) → RWs C rho H2 accF accV → Q (.ref Dn) H2 := fun {rho own H2 accV} n u hD ra => by
      obtain ⟨own', h', l'⟩ := RSl.back u n1.rel.sl (vs := vs) hnd pl n.rel.sl
      have sub : (rho ++ own' ++ [Dn]).Sublist (rho ++ own ++ (fr ++ [Dn])) := by
        refine List.Sublist.append (List.Sublist.append_left l' rho) ?_
        exact List.sublist_append_right _ _
      have nd := sub.nodup n.nd
      refine kQ rho own' H2 _ [Dn] ⟨⟨h', n.rel.mem, (List.nodup_append.mp nd).1⟩, n.pre, nd, n.kp.mono (fun _ z => z) fun b hb => sub.subset hb⟩ ⟨Dn, rfl, rfl, accV, hD, ra⟩
    cases src with
    | snap xs =>
      refine ⟨fun i m H2 => ∃ rho own s acc accV, Nxt C rho0 own0 H rho own (wipeS vs s) (L2.wipe sg vs) H2 (fr ++ [Dn]) ∧ Up rho1 H1 rho H2 ∧ P rho (L2.wipe sg vs) H2 ∧ (∀ a ∈ fr ++ [Dn], ∃ o, H2 a = some o) ∧ H2 Dn = some (.lst accV) ∧ RWs C rho H2 acc accV ∧ m = xs.length - i ∧ i ≤ xs.length ∧ compS vs g c el (xs.drop i) acc s = .ok accF s2,
        ⟨xs.length, rho1, own1, s1, [], [], nn, up0, pp, tr, upd_same, rfl, by simp, Nat.zero_le _, by simpa using e3⟩, ?_⟩
      rintro i m H2 ⟨rho, own, s, acc, accV, n, u, p, tr, hD, ra, hm, hl, k⟩
      by_cases hlt : i < xs.length
      · refine .inr ⟨wk.go i n.rel p rfl hlt, fun H3 => ∃ rho own s acc accV, Nxt C rho0 own0 H rho own (wipeS vs s) (L2.wipe sg vs) H3 (fr ++ [Dn]) ∧ Up rho1 H1 rho H3 ∧ P rho (L2.wipe sg vs) H3 ∧ (∀ a ∈ fr ++ [Dn], ∃ o, H3 a = some o) ∧ H3 Dn = some (.lst accV) ∧ RWs C rho H3 acc accV ∧ compS vs g c el (xs.drop (i + 1)) acc s = .ok accF s2, ?_, ?_⟩
        · rintro H3 ⟨rho', own', s', acc', accV', n', u', p', tr', hD', ra', k'⟩
          exact ⟨xs.length - (i + 1), by omega, rho', own', s', acc', accV', n', u', p', tr', hD', ra', rfl, hlt, k'⟩
        · rw [List.drop_eq_getElem_cons hlt] at k
          simp only [compS] at k
          exact comp_turn (rest := fun acc s => compS vs g c el (xs.drop (i + 1)) acc s) hg ht he wk hd n p tr hD ra rfl (List.getElem?_eq_getElem hlt) k fun rho' own' s' H' acc' accV' u' n' p' tr' hD' ra' k' => ⟨rho', own', s', acc', accV', n', u.trans u', p', tr', hD', ra', k'⟩
      · refine .inl ⟨wk.stop i n.rel p rfl (by omega), ?_⟩
        rw [List.drop_eq_nil_of_le (by omega)] at k
        simp only [compS, Out.ok.injEq] at k
        obtain ⟨rfl, rfl⟩ := k
        exact fin n u hD ra
    | live fn =>
      refine ⟨fun i m H2 => ∃ rho own s acc accV, Nxt C rho0 own0 H rho own (wipeS vs s) (L2.wipe sg vs) H2 (fr ++ [Dn]) ∧ Up rho1 H1 rho H2 ∧ P rho (L2.wipe sg vs) H2 ∧ (∀ a ∈ fr ++ [Dn], ∃ o, H2 a = some o) ∧ H2 Dn = some (.lst accV) ∧ RWs C rho H2 acc accV ∧ compL fn vs g c el m i acc s = .ok accF s2,
        ⟨FUEL, rho1, own1, s1, [], [], nn, up0, pp, tr, upd_same, rfl, e3⟩, ?_⟩
      rintro i m H2 ⟨rho, own, s, acc, accV, n, u, p, tr, hD, ra, k⟩
      cases m with
      | zero => cases k
      | succ m =>
        simp only [compL] at k
        cases z : fn (wipeS vs s) with
        | none => rw [z] at k; cases k
        | some xs =>
          rw [z] at k
          dsimp only at k
          cases z2 : xs[i]? with
          | none =>
            rw [z2] at k
            simp only [Out.ok.injEq] at k
            obtain ⟨rfl, rfl⟩ := k
            exact .inl ⟨wk.stop i n.rel p z (List.getElem?_eq_none_iff.mp z2), fin n u hD ra⟩
          | some x =>
            rw [z2] at k
            refine .inr ⟨wk.go i n.rel p z (List.getElem?_eq_some_iff.mp z2).1, fun H3 => ∃ rho own s acc accV, Nxt C rho0 own0 H rho own (wipeS vs s) (L2.wipe sg vs) H3 (fr ++ [Dn]) ∧ Up rho1 H1 rho H3 ∧ P rho (L2.wipe sg vs) H3 ∧ (∀ a ∈ fr ++ [Dn], ∃ o, H3 a = some o) ∧ H3 Dn = some (.lst accV) ∧ RWs C rho H3 acc accV ∧ compL fn vs g c el m (i + 1) acc s = .ok accF s2, ?_, ?_⟩
            · rintro H3 h
              exact ⟨m, Nat.lt_succ_self _, h⟩
            · exact comp_turn (rest := fun acc s => compL fn vs g c el m (i + 1) acc s) hg ht he wk hd n p tr hD ra z z2 k fun rho' own' s' H' acc' accV' u' n' p' tr' hD' ra' k' => ⟨rho', own', s', acc', accV', n', u.trans u', p', tr', hD', ra', k'⟩
  · cases e2
end
end Rk

/-! Rk13: comprehensions as expressions; ranges, enumerate, zip as what is walked. -/
namespace Rk
open PySem PySem.Spec PyProof.Rows L2

theorem pts_weak {X : Cx} {ifs : List Expr} {t t' : TT} (h : PTs X ifs t) (w : ∀ sg H Q, t' sg H Q → t sg H Q) : PTs X ifs t' := ⟨fun pins s sg H Q I q => h.run pins s sg H Q I (w sg H Q q)⟩
section
variable {X : Cx} {C : Cf} {A Dp : List Nat} {elt tg iter : Expr} {ifs : List Expr} {scope : Scope} {own : List (Str × Nat)} {it : DI} {g : DG} {c : DB} {el : DW} {pos spos : Pos}
theorem pe_dcomp (hc : X.calm = true) (hN : X.N.Nodup) (hi : PI X tg iter (tI C Dp it)) (ok : BlkOk X.N X.env.scope scope own) (hd : ∀ i ∈ Dp, i ∉ own.map (·.2)) (hnd : (own.map (·.2)).Nodup)
    (hg : ∀ (s : Shared) (H : Hp) (D : Addr) (cl : List (Str × Addr)) (fp : List Addr), PG (X.blk s H scope (compEnvC scope cl D X.env) fp) tg (tG C (own.map (·.2)) g))
    (ht : ∀ (s : Shared) (H : Hp) (D : Addr) (cl : List (Str × Addr)) (fp : List Addr), PTs (X.blk s H scope (compEnvC scope cl D X.env) fp) ifs (tB C c))
    (he : ∀ (s : Shared) (H : Hp) (D : Addr) (cl : List (Str × Addr)) (fp : List Addr), PE (X.blk s H scope (compEnvC scope cl D X.env) fp) elt (tW C el))
    (hs : ∀ x, foldedSetIterable iter X.env x = pure x) : PE X (.ListComp elt [⟨tg, iter, ifs, 0⟩] scope pos) (tE C (dcomp it (own.map (·.2)) g c el)) :=
  (pe_lc hc hN hi ok hg ht he hs).weak fun sg H Q q => comp_ok (fun _ _ _ _ h => h) (fun _ _ _ h => h) (fun _ _ _ h => h) hd hnd q
/-- name = [..] on one line -/
theorem ps_dsetc {i : Nat} {y : Str} {py : Pos} (hc : X.calm = true) (hN : X.N.Nodup) (hy : X.N[i]? = some y) (hyl : X.env.scope.names.lookup y = some .local) (hsw : swapsWith (.ListComp elt [⟨tg, iter, ifs, 0⟩] scope pos) (some (.Name y py)) spos.line X.env = pure true)
    (hi : PI X tg iter (tI C Dp it)) (ok : BlkOk X.N X.env.scope scope own) (hd : ∀ i ∈ Dp, i ∉ own.map (·.2)) (hnd : (own.map (·.2)).Nodup)
    (hg : ∀ (s : Shared) (H : Hp) (D : Addr) (cl : List (Str × Addr)) (fp : List Addr), PG (X.blk s H scope (compEnvC scope cl D X.env) fp) tg (tG C (own.map (·.2)) g))
    (ht : ∀ (s : Shared) (H : Hp) (D : Addr) (cl : List (Str × Addr)) (fp : List Addr), PTs (X.blk s H scope (compEnvC scope cl D X.env) fp) ifs (tB C c))
    (he : ∀ (s : Shared) (H : Hp) (D : Addr) (cl : List (Str × Addr)) (fp : List Addr), PE (X.blk s H scope (compEnvC scope cl D X.env) fp) elt (tW C el))
    (hs : ∀ x, foldedSetIterable iter X.env x = pure x) (hA : i ∈ A) : PS X (.Assign [.Name y py] (.ListComp elt [⟨tg, iter, ifs, 0⟩] scope pos) spos) (tS C A (dset i (dcomp it (own.map (·.2)) g c el))) :=
  (ps_setLc hc hN hy hyl hsw hi ok hg ht he hs).weak fun D sg H q => by
    obtain ⟨rho, own1, s, r, k⟩ := q
    obtain ⟨u, s2, e2, k⟩ := EndS.bind k
    obtain ⟨t, s1, e1, e3⟩ := bind_ok e2
    refine comp_ok (C := C) (Dp := Dp) (it := it) (g := g) (c := c) (el := el) (fun _ _ _ _ h => h) (fun _ _ _ h => h) (fun _ _ _ h => h) hd hnd ⟨rho, own1, s, r, t, s1, e1, fun rho1 own1 H1 v fr n rt => ?_⟩
    obtain ⟨rho2, own2, fr2, n2, r2⟩ := giv_ok n rt e3
    obtain ⟨own3, n3⟩ := n2.put (i := i) r2
    exact k rho2 own3 _ H1 n3 (Frm.set hA)
end

/-! ### ranges -/
def rgW (a b : Int) : Bool := decide (-4611686018427387904 ≤ a) && decide (a < 4611686018427387904) && decide (-4611686018427387904 ≤ b) && decide (b < 4611686018427387904)
@[simp] def drgI (d : DR) : DI := fun s => (d s).bind fun p s => if rgW p.1 p.2 then .ok (.snap (rangeW p.1 p.2)) s else .bad
/-- the ints a, a + c, .. (n of them) -/
def stepW (a c : Int) (n : Nat) : List W := (List.range n).map fun i => .int (a + (i : Nat) * c)
def rgC (a b c : Int) : Bool := decide (c ≠ 0) && decide (c.natAbs < 1073741824) && Builtin.Range.small a b c && decide (0 ≤ Builtin.Range.rangeSize a b c)
@[simp] def drg3 (d1 d2 d3 : DE) : DI := fun s => (d1 s).bind fun t1 s => (d2 s).bind fun t2 s => (d3 s).bind fun t3 s => match s.get t1, s.get t2, s.get t3 with
  | some (.w (.int i)), some (.w (.int j)), some (.w (.int c)) => if rgC i j c then .ok (.snap (stepW i c (Builtin.Range.rangeSize i j c).toNat)) s else .bad
  | _, _, _ => .bad
theorem walk_step {C : Cf} {lo c : Int} {n : Nat} : WalkJ C (Itc lo c n) (.snap (stepW lo c n)) [] [] fun _ _ _ => True where
  keep := fun _ _ _ _ => trivial
  go := fun i r p e h => by
    simp only [Src.at, Option.some.injEq] at e
    subst e
    show i < n
    simpa [stepW] using h
  yld := fun i v H' r p e h y => by
    simp only [Src.at, Option.some.injEq] at e
    subst e
    obtain ⟨rfl, rfl⟩ := y
    unfold stepW at h
    rw [List.getElem?_map] at h
    cases z : (List.range n)[i]? with
    | none => rw [z] at h; cases h
    | some k =>
      rw [z] at h
      have hk : k = i := by
        obtain ⟨hlt, hk⟩ := List.getElem?_eq_some_iff.mp z
        simpa using hk.symm
      subst hk
      cases h
      exact ⟨Nxt.refl r, by simp only [RW]⟩
  stop := fun i r p e h => by
    simp only [Src.at, Option.some.injEq] at e
    subst e
    show n ≤ i
    simpa [stepW] using h
section
variable {X : Cx} {C : Cf} {tg a b c : Expr} {d d1 d2 d3 : DE} {p pos : Pos}
theorem pi_dr1 (hg : Gl X "range") (hm : X.mg "range" = none) (ha : PA X [a] (tEs C (dEs [d]))) (hs : starEach [a] X.env = [(false, eval a X.env)]) :
    PI X tg (.Call (.Name "range" p) [a] [] pos) (tI C [] (drgI (dr1 d))) := PI.weak (pi_range1 hg hm ha hs) fun sg H R q => by
  obtain ⟨rho, own, s, r, src, s', e, k⟩ := q
  obtain ⟨p, s1, e1, e⟩ := bind_ok e
  split at e
  · rename_i hr
    simp only [Out.ok.injEq] at e
    obtain ⟨rfl, rfl⟩ := e
    obtain ⟨t, s2, e2, e3⟩ := bind_ok e1
    split at e3
    · rename_i i z
      simp only [Out.ok.injEq] at e3
      obtain ⟨rfl, rfl⟩ := e3
      refine ⟨rho, own, s, r, [t], s2, by simp [e2], fun rho1 own1 H1 vs fr n rt => ?_⟩
      obtain ⟨v, f, rfl, rv⟩ := RTL.one rt
      obtain rfl := n.rel.getInt rv z
      unfold rgW at hr
      simp only [Bool.and_eq_true, decide_eq_true_eq] at hr
      refine ⟨i, rfl, by omega, by omega, k rho1 own1 H1 [] _ _ n.drop0 (fun _ z => nomatch z) (walk_range ?_) trivial⟩
      simp [rangeW]
    · cases e3
  · cases e
theorem pi_dr2 (hg : Gl X "range") (hm : X.mg "range" = none) (ha : PA X [a, b] (tEs C (dEs [d1, d2]))) (hs : starEach [a, b] X.env = [(false, eval a X.env), (false, eval b X.env)]) (hs2 : starEach [b] X.env = [(false, eval b X.env)]) :
    PI X tg (.Call (.Name "range" p) [a, b] [] pos) (tI C [] (drgI (dr2 d1 d2))) := PI.weak (pi_range2 hg hm ha hs hs2) fun sg H R q => by
  obtain ⟨rho, own, s, r, src, s', e, k⟩ := q
  obtain ⟨p, s1, e1, e⟩ := bind_ok e
  split at e
  · rename_i hr
    simp only [Out.ok.injEq] at e
    obtain ⟨rfl, rfl⟩ := e
    obtain ⟨t, s2, e2, e3⟩ := bind_ok e1
    obtain ⟨t3, s3, e4, e3⟩ := bind_ok e3
    split at e3
    · rename_i i j z z2
      simp only [Out.ok.injEq] at e3
      obtain ⟨rfl, rfl⟩ := e3
      refine ⟨rho, own, s, r, [t, t3], s3, by simp [e2, e4], fun rho1 own1 H1 vs fr n rt => ?_⟩
      obtain ⟨v, u, f, f2, rfl, rt, ru⟩ := RTL.two rt
      obtain rfl := n.rel.getInt rt z
      obtain rfl := n.rel.getInt ru z2
      unfold rgW at hr
      simp only [Bool.and_eq_true, decide_eq_true_eq] at hr
      exact ⟨i, j, rfl, by omega, k rho1 own1 H1 [] _ _ n.drop0 (fun _ z => nomatch z) (walk_range rfl) trivial⟩
    · cases e3
  · cases e
theorem pi_dr3 (hg : Gl X "range") (hm : X.mg "range" = none) (ha : PA X [a, b, c] (tEs C (dEs [d1, d2, d3]))) (hs : starEach [a, b, c] X.env = (false, eval a X.env) :: starEach [b, c] X.env) (hpl : (backTo pos (starEach [b, c] X.env)).any (·.1) = false) :
    PI X tg (.Call (.Name "range" p) [a, b, c] [] pos) (tI C [] (drg3 d1 d2 d3)) := PI.weak (pi_range3 hg hm ha hs hpl) fun sg H R q => by
  obtain ⟨rho, own, s, r, src, s', e, k⟩ := q
  obtain ⟨t1, s1, e1, e⟩ := bind_ok e
  obtain ⟨t2, s2, e2, e⟩ := bind_ok e
  obtain ⟨t3, s3, e3, e⟩ := bind_ok e
  split at e
  · rename_i i j c z z2 z3
    split at e
    · rename_i hr
      simp only [Out.ok.injEq] at e
      obtain ⟨rfl, rfl⟩ := e
      refine ⟨rho, own, s, r, [t1, t2, t3], s3, by simp [e1, e2, e3], fun rho1 own1 H1 vs fr n rt => ?_⟩
      obtain ⟨v, u, w, f, f2, f3, rfl, rt, ru, rw⟩ := RTL.three rt
      obtain rfl := n.rel.getInt rt z
      obtain rfl := n.rel.getInt ru z2
      obtain rfl := n.rel.getInt rw z3
      unfold rgC at hr
      simp only [Bool.and_eq_true, decide_eq_true_eq] at hr
      exact ⟨i, j, c, _, rfl, ⟨hr.1.1.1, hr.1.1.2, hr.1.2, (Int.toNat_of_nonneg hr.2).symm⟩, k rho1 own1 H1 [] _ _ n.drop0 (fun _ z => nomatch z) walk_step trivial⟩
    · cases e
  · cases e
end

/-! ### a list under an iterator -/
/-- a list's items, as they are read at each turn -/
@[simp] def srcL (t : T) (j : Option Nat) (s : S) (f : List W → List W) : Option Src := match t with
  | .w (.rol xs) => some (.snap (f xs))
  | .lst xs => some (.snap (f xs))
  | .w (.loc n) => if (lstOf s (.w (.loc n))).isSome then some (.live fun s => (lstOf s (.w (.loc n))).map f) else none
  | .sl i => if (lstOf s (.sl i)).isSome && decide (j = some i) then some (.live fun s => (lstOf s (.sl i)).map f) else none
  | _ => none
structure LstJ (C : Cf) (a : Addr) (f : List W → List W) (src : Src) (D : List Nat) (fr : List Addr) (P : List Addr → L2.St → Hp → Prop) : Prop where
  keep : ∀ {rho sg H rho' sg' H'}, P rho sg H → Up rho H rho' H' → (∀ a ∈ fr, ∀ o, H a = some o → H' a = some o) → (∀ i ∈ D, sg'[i]? = sg[i]?) → P rho' sg' H'
  rd : ∀ {rho own s sg H xs}, Rel C rho own s sg H → P rho sg H → src.at s = some xs → ∃ ys vs, xs = f ys ∧ SqL C.K H a vs ∧ RWs C rho H ys vs
theorem lst_src {C : Cf} {rho own fr : List Addr} {s : S} {sg : L2.St} {H : Hp} {t : T} {v : V} {j : Option Nat} {f : List W → List W} {src : Src} (r : Rel C rho own s sg H) (rt : RT C rho H sg t v fr) (e : srcL t j s f = some src) :
    ∃ a vs fr' P, v = .ref a ∧ SqL C.K H a vs ∧ (∀ b ∈ fr', b ∈ fr) ∧ fr'.Nodup ∧ LstJ C a f src j.toList fr' P ∧ P rho sg H := by
  unfold srcL at e
  split at e
  · rename_i xs
    cases e
    obtain ⟨rt, rfl⟩ := rt
    simp only [RW] at rt
    obtain ⟨a, vs, rfl, sq, rs⟩ := rt
    refine ⟨a, vs, [], fun rho sg H => RdOnly C H a vs ∧ RWs C rho H xs vs, rfl, sq.seq, (fun _ z => z), List.nodup_nil, ⟨fun p u _ _ => ⟨u.rdOnly p.1, p.2.up u⟩, fun r p e => ?_⟩, sq, rs⟩
    simp only [Src.at, Option.some.injEq] at e
    exact ⟨xs, vs, e.symm, p.1.seq, p.2⟩
  · rename_i xs
    cases e
    obtain ⟨a, rfl, rfl, vs, eh, rs⟩ := rt
    refine ⟨a, vs, [a], fun rho sg H => H a = some (.lst vs) ∧ RWs C rho H xs vs, rfl, SqL.of eh, (fun _ z => z), by simp, ⟨fun p u o _ => ⟨o a (by simp) _ p.1, p.2.up u⟩, fun r p e => ?_⟩, eh, rs⟩
    simp only [Src.at, Option.some.injEq] at e
    exact ⟨xs, vs, e.symm, SqL.of p.1, p.2⟩
  · rename_i m
    split at e
    · rename_i hs
      cases e
      obtain ⟨xs, hs⟩ := Option.isSome_iff_exists.mp hs
      obtain ⟨a, vs, rfl, sq, rs⟩ := r.lst rt hs
      have ra : rho[m]? = some a := by
        obtain ⟨rt, _⟩ := rt
        simp only [RW] at rt
        obtain ⟨b, e, h⟩ := rt
        cases e
        exact h
      refine ⟨a, vs, [], fun rho sg H => rho[m]? = some a, rfl, sq, (fun _ z => nomatch z), List.nodup_nil, ⟨fun p u _ _ => u.loc p, fun {rho own s sg H xs} r p e => ?_⟩, ra⟩
      simp only [Src.at] at e
      cases z : lstOf s (.w (.loc m)) with
      | none => rw [z] at e; cases e
      | some ys =>
        rw [z] at e
        cases e
        have rt' : RT C rho H sg (.w (.loc m)) (.ref a) [] := ⟨by simp only [RW]; exact ⟨a, rfl, p⟩, rfl⟩
        obtain ⟨a', vs', e', sq', rs'⟩ := r.lst rt' z
        cases e'
        exact ⟨ys, vs', rfl, sq', rs'⟩
    · cases e
  · rename_i i
    split at e
    · rename_i hs
      cases e
      simp only [Bool.and_eq_true, decide_eq_true_eq] at hs
      obtain ⟨hs, rfl⟩ := hs
      obtain ⟨xs, hs⟩ := Option.isSome_iff_exists.mp hs
      obtain ⟨a, vs, rfl, sq, rs⟩ := r.lst rt hs
      obtain ⟨rv, rfl⟩ := rt
      refine ⟨a, vs, [], fun rho sg H => sg[i]? = some (some (.ref a)), rfl, sq, (fun _ z => nomatch z), List.nodup_nil, ⟨fun p _ _ f => (f i (by simp)).trans p, fun {rho own s sg H xs} r p e => ?_⟩, rv⟩
      simp only [Src.at] at e
      cases z : lstOf s (.sl i) with
      | none => rw [z] at e; cases e
      | some ys =>
        rw [z] at e
        cases e
        have rt' : RT C rho H sg (.sl i) (.ref a) [] := ⟨p, rfl⟩
        obtain ⟨a', vs', e', sq', rs'⟩ := r.lst rt' z
        cases e'
        exact ⟨ys, vs', rfl, sq', rs'⟩
    · cases e
  · cases e
theorem RWs.inj {C : Cf} {rho : List Addr} {H : Hp} {xs : List W} {vs : List V} {i : Nat} {v : V} (h : RWs C rho H xs vs) (e : vs[i]? = some v) : ∃ x, xs[i]? = some x ∧ RW C rho H x v := by
  have hl := h.length
  have hi := (List.getElem?_eq_some_iff.mp e).1
  obtain ⟨v', e', r⟩ := h.get (i := i) (x := xs[i]) (List.getElem?_eq_getElem (by omega))
  rw [e] at e'; cases e'
  exact ⟨_, List.getElem?_eq_getElem (by omega), r⟩
/-- (0, x), (1, y), .. -/
def enumW (xs : List W) : List W := xs.zipIdx.map fun p => .tup [.int (p.2 : Nat), p.1]
theorem enumW_get {xs : List W} {i : Nat} : (enumW xs)[i]? = (xs[i]?).map fun x => .tup [.int (i : Nat), x] := by
  unfold enumW
  simp [List.getElem?_map]
  cases xs[i]? <;> simp
theorem enumW_len {xs : List W} : (enumW xs).length = xs.length := by simp [enumW]
@[simp] def denm (d : DE) (j : Option Nat) : DI := fun s => (d s).bind fun t s => match srcL t j s enumW with
  | some src => .ok src s
  | none => .bad
theorem walk_enum {C : Cf} {a : Addr} {src : Src} {D : List Nat} {fr : List Addr} {P : List Addr → L2.St → Hp → Prop} (L : LstJ C a enumW src D fr P) : WalkJ C (Ite C.K a) src D fr P where
  keep := L.keep
  go := fun i r p e h => by
    obtain ⟨ys, vs, rfl, sq, rs⟩ := L.rd r p e
    have hl := rs.length
    rw [enumW_len] at h
    exact ⟨vs, vs[i]'(by omega), sq, List.getElem?_eq_getElem _⟩
  yld := fun i v H' r p e h y => by
    obtain ⟨ys, vs, rfl, sq, rs⟩ := L.rd r p e
    obtain ⟨Tn, x, rfl, hn, rfl, hx⟩ := y
    obtain ⟨x', e', r'⟩ := rs.inj (hx vs sq)
    rw [enumW_get, e'] at h
    cases h
    refine ⟨Nxt.new0 r hn, ?_⟩
    simp only [RW]
    refine ⟨Tn, _, rfl, SqT.of upd_same, ?_⟩
    simp only [RWs]
    exact ⟨_, _, rfl, by simp only [RW], _, _, rfl, r'.up (Up.new hn), rfl⟩
  stop := fun i r p e h => by
    obtain ⟨ys, vs, rfl, sq, rs⟩ := L.rd r p e
    have hl := rs.length
    rw [enumW_len] at h
    exact ⟨vs, sq, by omega⟩
/-- pairs, as many as the shorter has -/
def zipW (xs ys : List W) : List W := (xs.zip ys).map fun p => .tup [p.1, p.2]
theorem zipW_len {xs ys : List W} : (zipW xs ys).length = min xs.length ys.length := by simp [zipW]
@[simp] def zsrc : Src → Src → Src
  | .snap xs, .snap ys => .snap (zipW xs ys)
  | a, b => .live fun s => (a.at s).bind fun xs => (b.at s).map fun ys => zipW xs ys
theorem zsrc_at {a b : Src} {s : S} : (zsrc a b).at s = (a.at s).bind fun xs => (b.at s).map fun ys => zipW xs ys := by
  cases a <;> cases b <;> rfl
/-- both lists, or both tuples -/
@[simp] def srcT (t : T) (s : S) : Option (List W) := match s.get t with
  | some (.w (.tup xs)) => some xs
  | _ => none
@[simp] def dzip (d1 d2 : DE) (j1 j2 : Option Nat) : DI := fun s => (d1 s).bind fun t1 s => (d2 s).bind fun t2 s =>
  match srcT t1 s, srcT t2 s with
  | some xs, some ys => .ok (.snap (zipW xs ys)) s
  | _, _ => match srcL t1 j1 s id, srcL t2 j2 s id with
      | some a, some b => .ok (zsrc a b) s
      | _, _ => .bad
theorem walk_zip {C : Cf} {a b : Addr} {sa sb : Src} {Da Db : List Nat} {fa fb : List Addr} {Pa Pb : List Addr → L2.St → Hp → Prop} (L : LstJ C a id sa Da fa Pa) (M : LstJ C b id sb Db fb Pb) : WalkJ C (Itz C.K a b) (zsrc sa sb) (Da ++ Db) (fa ++ fb) (fun r g h => Pa r g h ∧ Pb r g h) where
  keep := fun p u f g => ⟨L.keep p.1 u (fun a ha => f a (List.mem_append_left _ ha)) fun i hi => g i (List.mem_append_left _ hi), M.keep p.2 u (fun a ha => f a (List.mem_append_right _ ha)) fun i hi => g i (List.mem_append_right _ hi)⟩
  go := fun {rho own s sg H xs} i r p e h => by
    rw [zsrc_at] at e
    cases za : sa.at s with
    | none => rw [za] at e; cases e
    | some xa =>
      cases zb : sb.at s with
      | none => rw [za, zb] at e; cases e
      | some xb =>
        rw [za, zb] at e
        cases e
        obtain ⟨ya, va, rfl, qa, ra⟩ := L.rd r p.1 za
        obtain ⟨yb, vb, rfl, qb, rb⟩ := M.rd r p.2 zb
        have la := ra.length
        have lb := rb.length
        rw [zipW_len] at h
        exact ⟨va, vb, va[i]'(by omega), vb[i]'(by omega), qa, qb, List.getElem?_eq_getElem _, List.getElem?_eq_getElem _⟩
  yld := fun {rho own s sg H xs x} i v H' r p e h y => by
    rw [zsrc_at] at e
    cases za : sa.at s with
    | none => rw [za] at e; cases e
    | some xa =>
      cases zb : sb.at s with
      | none => rw [za, zb] at e; cases e
      | some xb =>
        rw [za, zb] at e
        cases e
        obtain ⟨ya, va, rfl, qa, ra⟩ := L.rd r p.1 za
        obtain ⟨yb, vb, rfl, qb, rb⟩ := M.rd r p.2 zb
        obtain ⟨Tn, u, w, rfl, hn, rfl, hu, hw⟩ := y
        obtain ⟨xu, eu, ru⟩ := ra.inj (hu va qa)
        obtain ⟨xw, ew, rw'⟩ := rb.inj (hw vb qb)
        unfold zipW at h
        simp only [id, List.getElem?_map] at h
        rw [(List.getElem?_zip_eq_some (z := (xu, xw))).mpr ⟨eu, ew⟩] at h
        cases h
        refine ⟨Nxt.new0 r hn, ?_⟩
        simp only [RW]
        refine ⟨Tn, _, rfl, SqT.of upd_same, ?_⟩
        simp only [RWs]
        exact ⟨_, _, rfl, ru.up (Up.new hn), _, _, rfl, rw'.up (Up.new hn), rfl⟩
  stop := fun {rho own s sg H xs} i r p e h => by
    rw [zsrc_at] at e
    cases za : sa.at s with
    | none => rw [za] at e; cases e
    | some xa =>
      cases zb : sb.at s with
      | none => rw [za, zb] at e; cases e
      | some xb =>
        rw [za, zb] at e
        cases e
        obtain ⟨ya, va, rfl, qa, ra⟩ := L.rd r p.1 za
        obtain ⟨yb, vb, rfl, qb, rb⟩ := M.rd r p.2 zb
        have la := ra.length
        have lb := rb.length
        rw [zipW_len] at h
        exact ⟨va, vb, qa, qb, by omega⟩
theorem walk_zipT {C : Cf} {D : List Nat} {a b : Addr} {xs ys : List W} {va vb : List V} : WalkJ C (RZ.ItzT C.K a b) (.snap (zipW xs ys)) D [] (fun rho _ H => (SqT C.K H a va ∧ RWs C rho H xs va) ∧ SqT C.K H b vb ∧ RWs C rho H ys vb) where
  keep := fun p u f g => ⟨⟨u.sqT p.1.1, p.1.2.up u⟩, u.sqT p.2.1, p.2.2.up u⟩
  go := fun i r p e h => by
    simp only [Src.at, Option.some.injEq] at e
    subst e
    have la := p.1.2.length
    have lb := p.2.2.length
    rw [zipW_len] at h
    exact ⟨va, vb, va[i]'(by omega), vb[i]'(by omega), p.1.1, p.2.1, List.getElem?_eq_getElem _, List.getElem?_eq_getElem _⟩
  yld := fun i v H' r p e h y => by
    simp only [Src.at, Option.some.injEq] at e
    subst e
    obtain ⟨Tn, u, w, rfl, hn, rfl, hu, hw⟩ := y
    obtain ⟨xu, eu, ru⟩ := p.1.2.inj (hu va p.1.1)
    obtain ⟨xw, ew, rw'⟩ := p.2.2.inj (hw vb p.2.1)
    unfold zipW at h
    simp only [List.getElem?_map] at h
    rw [(List.getElem?_zip_eq_some (z := (xu, xw))).mpr ⟨eu, ew⟩] at h
    cases h
    refine ⟨Nxt.new0 r hn, ?_⟩
    simp only [RW]
    refine ⟨Tn, _, rfl, SqT.of upd_same, ?_⟩
    simp only [RWs]
    exact ⟨_, _, rfl, ru.up (Up.new hn), _, _, rfl, rw'.up (Up.new hn), rfl⟩
  stop := fun i r p e h => by
    simp only [Src.at, Option.some.injEq] at e
    subst e
    have la := p.1.2.length
    have lb := p.2.2.length
    rw [zipW_len] at h
    exact ⟨va, vb, p.1.1, p.2.1, by omega⟩
section
variable {X : Cx} {C : Cf} {e e2 : Expr} {elts : List Expr} {kk : Nat} {d d1 d2 : DE} {p pos tpos : Pos}
theorem pi_denm (hK : C.K = X.K) (j : Option Nat) (hg : Gl X "enumerate") (hm : X.mg "enumerate" = none) (ha : PA X [e] (tEs C (dEs [d]))) (hs : starEach [e] X.env = [(false, eval e X.env)]) :
    PI X (.Tuple elts kk tpos) (.Call (.Name "enumerate" p) [e] [] pos) (tI C j.toList (denm d j)) := PI.weak (pi_enum hg hm ha hs) fun sg H R q => by
  obtain ⟨rho, own, s, r, src, s', e, k⟩ := q
  obtain ⟨t, s1, e1, e⟩ := bind_ok e
  split at e
  · rename_i src' z
    simp only [Out.ok.injEq] at e
    obtain ⟨rfl, rfl⟩ := e
    refine ⟨rho, own, s, r, [t], s1, by simp [e1], fun rho1 own1 H1 vs fr n rt => ?_⟩
    obtain ⟨v, ys, f1, f2, rfl, rfl, rt, h2⟩ := rt
    obtain ⟨rfl, rfl⟩ := h2
    obtain ⟨a, vs', fr', P, rfl, sq, sub, nd, L, p0⟩ := lst_src n.rel rt z
    rw [← hK]
    exact ⟨a, vs', rfl, sq, k rho1 own1 H1 fr' _ P (n.drop (fun b hb => List.mem_append_left _ (sub b hb)) nd) (fun b hb => let ⟨o, e, _⟩ := rt.at b (sub b hb); ⟨o, e⟩) (walk_enum L) p0⟩
  · cases e
theorem srcT_ok {rho own fr : List Addr} {s : S} {sg : L2.St} {H : Hp} {t : T} {v : V} {xs : List W} (r : Rel C rho own s sg H) (rt : RT C rho H sg t v fr) (e : srcT t s = some xs) : ∃ a vs, v = .ref a ∧ SqT C.K H a vs ∧ RWs C rho H xs vs := by
  unfold srcT at e
  split at e
  · rename_i xs z
    cases e
    obtain ⟨f, h, _⟩ := r.get rt z
    simp only [RW] at h
    exact h
  · cases e
theorem pi_dzip (hK : C.K = X.K) (j1 j2 : Option Nat) (hg : Gl X "zip") (hm : X.mg "zip" = none) (ha : PA X [e, e2] (tEs C (dEs [d1, d2]))) (hs : starEach [e, e2] X.env = (false, eval e X.env) :: starEach [e2] X.env) (hpl : (backTo pos (starEach [e2] X.env)).any (·.1) = false) :
    PI X (.Tuple elts kk tpos) (.Call (.Name "zip" p) [e, e2] [] pos) (tI C (j1.toList ++ j2.toList) (dzip d1 d2 j1 j2)) := PI.weak (RZ.pi_zipA hg hm ha hs hpl) fun sg H R q => by
  obtain ⟨rho, own, s, r, src, s', e, k⟩ := q
  obtain ⟨t1, s1, e1, e⟩ := bind_ok e
  obtain ⟨t2, s2, e2, e⟩ := bind_ok e
  refine ⟨rho, own, s, r, [t1, t2], s2, by simp [e1, e2], fun rho1 own1 H1 vs fr n rt => ?_⟩
  obtain ⟨v1, ys, f1, f2, rfl, rfl, rt1, h2⟩ := rt
  obtain ⟨v2, ys, f2, f3, rfl, rfl, rt2, h3⟩ := h2
  obtain ⟨rfl, rfl⟩ := h3
  split at e
  · rename_i xs ys z1 z2
    simp only [Out.ok.injEq] at e
    obtain ⟨rfl, rfl⟩ := e
    obtain ⟨a, va, rfl, qa, ra⟩ := srcT_ok n.rel rt1 z1
    obtain ⟨b, vb, rfl, qb, rb⟩ := srcT_ok n.rel rt2 z2
    refine ⟨a, b, va, vb, rfl, .inr ?_⟩
    rw [← hK]
    exact ⟨qa, qb, k rho1 own1 H1 [] _ _ n.drop0 (fun _ z => nomatch z) (walk_zipT (va := va) (vb := vb)) ⟨⟨qa, ra⟩, qb, rb⟩⟩
  · split at e
    · rename_i sa sb z1 z2
      simp only [Out.ok.injEq] at e
      obtain ⟨rfl, rfl⟩ := e
      obtain ⟨a, va, fa, Pa, rfl, qa, suba, nda, La, pa⟩ := lst_src n.rel rt1 z1
      obtain ⟨b, vb, fb, Pb, rfl, qb, subb, ndb, Lb, pb⟩ := lst_src n.rel rt2 z2
      refine ⟨a, b, va, vb, rfl, .inl ?_⟩
      rw [← hK]
      refine ⟨qa, qb, k rho1 own1 H1 (fa ++ fb) _ _ (n.drop (fun c hc => ?_) ?_) (fun c hc => ?_) (walk_zip La Lb) ⟨pa, pb⟩⟩
      · rcases List.mem_append.mp hc with h | h
        · exact List.mem_append_left _ (suba c h)
        · exact List.mem_append_right _ (List.mem_append_left _ (subb c h))
      · rw [List.nodup_append]
        refine ⟨nda, ndb, fun c hc c2 hc2 => ?_⟩
        exact (List.nodup_append.mp (List.nodup_append.mp n.nd).2.1).2.2 c (suba c hc) c2 (List.mem_append_left _ (subb c2 hc2))
      · rcases List.mem_append.mp hc with h | h
        · exact let ⟨o, e, _⟩ := rt1.at c (suba c h); ⟨o, e⟩
        · exact let ⟨o, e, _⟩ := rt2.at c (subb c h); ⟨o, e⟩
    · cases e
end
end Rk

/-! Rk14: lists that change. -/
namespace Rk
open PySem PySem.Spec PyProof.Rows L2

/-- the items of a tuple or of a list, added behind a list's -/
theorem list_grow {l b : Addr} {its its2 : Array Value} {n : Nat} {ob : Obj} (part : ob.cls = .type "tuple" ∨ ob.cls = .type "list") (holds : ∃ n2, ob.data = .seq its2 n2) (fits : its.size + its2.size ≤ sizeLine) :
    Meets (Builtin.«list.extend» ⟨[.ref l, .ref b], []⟩) fun _ R s => s.heap.get? l = some { cls := .type "list", dict := none, data := .seq its n, slots := #[] } ∧ s.heap.get? b = some ob ∧ R (.ok (.ret .none)) { s with heap := s.heap.update l (Obj.mapSeq (· ++ its2)) } := by
  obtain ⟨cls, dict, data, slots⟩ := ob
  obtain ⟨n2, holds⟩ := holds
  cases holds
  refine .of_wp fun prog w A R s ⟨atl, atb, told⟩ => ?_
  cases s with
  | mk heap g d tk os =>
    have index := AutoSeq1.idx_int
    have tuples := AutoSeq1.sub_tuple_tuple
    have lists := AutoSeq1.sub_list_list
    have apart := AutoSeq1.sub_tuple_list
    have apart2 := AutoSeq1.sub_list_tuple
    have first : its.size ≤ sizeLine := Nat.le_trans (Nat.le_add_right ..) fits
    have both : (its ++ its2).size ≤ sizeLine + 1 := by rw [Array.size_append]; exact Nat.le_succ_of_le fits
    have short : ¬ (!its.isEmpty && Builtin.List.listTooLong (its.size + its2.size)) = true := by simp [notLongL fits]
    rcases part with part | part <;> cases part <;> (wp_walk using (wpAny_updateSeq atl rfl (hz := first) (_hz' := both)), AutoSeq1.wpAny_loadPart' atl, AutoSeq1.wpAny_loadPart' atb; exact ⟨_, rfl, told⟩)
def rExtS (K : PySem.W.Frag) : V → List V → Hp → VK → Prop := fun x vs H Q => ∃ l b xs zs, x = .ref l ∧ vs = [.ref b] ∧ H l = some (.lst xs) ∧ (SqL K H b zs ∨ SqT K H b zs) ∧ xs.length + zs.length ≤ sizeLine ∧ Q .non (upd H l (.lst (xs ++ zs)))
theorem mt_extS {X : Cx} : MtR X "list.extend" (rExtS X.K) := fun pins s sg H x vs v us Q I rx rv ⟨l, b, xs, zs, ex, ev, atl, part, hz, q⟩ => by
  subst ex ev
  cases rx
  obtain ⟨_, rfl, rb⟩ := rv.one
  cases rb
  obtain ⟨z, its, n, r, hl, e⟩ := I.lstM atl
  obtain ⟨its2, ob, r2, e2, hc, hs⟩ : ∃ its2 ob, Vals zs its2 ∧ s.heap.get? b = some ob ∧ (ob.cls = .type "tuple" ∨ ob.cls = .type "list") ∧ ∃ n2, ob.data = .seq its2.toArray n2 := by
    rcases part with part | part
    · obtain ⟨its2, r2, ⟨ob, n2, e2, hc, _, hs⟩, _⟩ := I.list part
      exact ⟨its2, ob, r2, e2, .inr hc, n2, hs⟩
    · obtain ⟨its2, r2, ⟨ob, e2, hc, hs⟩, _⟩ := I.tuple part
      exact ⟨its2, ob, r2, e2, .inl hc, hs⟩
  have fits : its.toArray.size + its2.toArray.size ≤ sizeLine := by simpa [← r.length, ← r2.length] using hz
  exact call_meets F.slot_list_extend ⟨_, e, rfl⟩ F.entry_list_extend (F.args_list_extend_2 _ _) (list_grow hc hs fits) ⟨e, e2, .non, _, I.lset (its' := its ++ its2) atl e (by simp) (r.append r2) (by simpa using hz), rfl, q⟩

/-! ### a list is rewritten -/
section
variable {C : Cf} {rho own : List Addr} {s : S} {sg : L2.St} {H : Hp} {a : Addr} {xs : List W} {vs vs0 : List V}
theorem Up.mut {o : HO} (e : H a = some (.lst vs0)) : Up rho H rho (upd H a o) := ⟨List.prefix_refl _, fun b u eb st => by
  rw [upd_ne]
  · exact eb
  · rintro rfl
    rw [e] at eb; cases eb; exact st⟩
theorem mem_set {rho' : List Addr} {H' : Hp} (u : Up rho H rho' H') : ∀ {M : List Ob} {r : List Addr} {n : Nat} {b : Ob}, (∀ c ∈ r, c ≠ a → ∀ o, H c = some o → H' c = some o) → r.Nodup → Paired (RB C rho H) M r → r[n]? = some a → RB C rho' H' b a → Paired (RB C rho' H') (M.set n b) r
  | _, _, _, _, k, nd, .nil, e, rb => by simp at e
  | _ :: M, c :: r, 0, b, k, nd, .cons h t, e, rb => by
    simp at e
    subst e
    have nd' := List.nodup_cons.mp nd
    refine .cons rb ?_
    have go : ∀ {M : List Ob} {r' : List Addr}, (∀ d ∈ r', d ∈ r) → Paired (RB C rho H) M r' → Paired (RB C rho' H') M r' := by
      intro M r' hs hp
      induction hp with
      | nil => exact .nil
      | @cons x y _ _ h t ih => exact .cons (h.up u fun o eo => k y (by simp [hs y (by simp)]) (fun z => nd'.1 (z ▸ hs y (by simp))) o eo) (ih fun d hd => hs d (by simp [hd]))
    exact go (fun _ z => z) t
  | _ :: M, c :: r, n + 1, b, k, nd, .cons h t, e, rb => by
    have nd' := List.nodup_cons.mp nd
    have e' : r[n]? = some a := by simpa using e
    refine .cons (h.up u fun o eo => k c (by simp) (fun z => nd'.1 (z ▸ List.mem_of_getElem? e')) o eo) ?_
    exact mem_set u (fun d hd => k d (by simp [hd])) nd'.2 t e' rb
/-- a shared object is rewritten -/
theorem Nxt.mutLoc {n : Nat} {b : Ob} {o : HO} (r : Rel C rho own s sg H) (e : rho[n]? = some a) (eh : H a = some (.lst vs0)) (rb : RB C rho (upd H a o) b a) :
    Nxt C rho own H rho own ⟨s.sg, s.M.set n b⟩ sg (upd H a o) [] := by
  have ha : a ∈ rho := List.mem_of_getElem? e
  have nd := List.nodup_append.mp r.nd
  refine ⟨⟨r.sl.up (Up.mut eh) fun c hc u eu => ?_, mem_set (Up.mut eh) (fun c _ hne u eu => by rw [upd_ne hne]; exact eu) nd.1 r.mem e rb, r.nd⟩, List.prefix_refl _, by simpa using r.nd, fun c u eu hc => ?_⟩
  · rw [upd_ne]
    · exact eu
    · rintro rfl; exact nd.2.2 c ha c hc rfl
  · rw [List.append_nil]
    refine ⟨?_, hc⟩
    rw [upd_ne]
    · exact eu
    · rintro rfl; exact hc (List.mem_append_left _ ha)
theorem Nxt.mutSl {i : Nat} {t' : T} {o : HO} (r : Rel C rho own s sg H) (e : s.sg[i]? = some (some (.lst xs))) (hv : sg[i]? = some (some (.ref a))) (eh : H a = some (.lst vs0)) (rt : R0 C rho (upd H a o) t' (.ref a) [a]) :
    ∃ own', Nxt C rho own H rho own' ⟨s.sg.set i (some t'), s.M⟩ sg (upd H a o) [] := by
  obtain ⟨v, o1, fr, o2, e1, r1, e2, put⟩ := r.sl.split e
  rw [hv] at e1; cases e1
  obtain ⟨a', ea, rfl, _⟩ := r1
  cases ea
  have nd := r.nd
  rw [e2] at nd
  have ha : a ∈ own := by rw [e2]; simp
  -- the slot is emptied first
  have p1 := put (.w .non) .non [] r0_non
  have nd12 : a ∉ o1 ++ o2 := by
    intro h
    have h1 := (List.nodup_append.mp nd).2.1
    have h2 : (o1 ++ [a] ++ o2).Perm ([a] ++ (o1 ++ o2)) := by
      rw [List.perm_iff_count]; intro x; simp only [List.count_append]; omega
    exact (List.nodup_append.mp (h2.nodup h1)).2.2 a (by simp) a h rfl
  have p2 := p1.up (Up.mut (o := o) eh) fun c hc u eu => by
    rw [upd_ne]
    · exact eu
    · rintro rfl; exact nd12 (by simpa using hc)
  have hl : i < (s.sg.set i (some (.w .non))).length := by
    rw [List.length_set]; exact (List.getElem?_eq_some_iff.mp e).1
  obtain ⟨q1, old, q2, e3, p3⟩ := p2.put hl rt
  rw [List.set_set, List.set_set, set_self hv] at p3
  rw [List.append_nil] at e3
  have ndn : (rho ++ (q1 ++ [a] ++ q2)).Nodup := by
    have h : (rho ++ (o1 ++ [a] ++ o2)).Perm (old ++ (rho ++ (q1 ++ [a] ++ q2))) := by
      rw [List.perm_iff_count]
      intro x
      have hc := congrArg (List.count x) e3
      simp only [List.count_append] at hc ⊢
      omega
    exact (List.nodup_append.mp (h.nodup nd)).2.1
  have sub : ∀ c ∈ q1 ++ [a] ++ q2, c ∈ own := fun c hc => by
    rw [e2]
    have h : c ∈ o1 ++ o2 ∨ c = a := by
      rw [e3]
      simp only [List.mem_append, List.mem_singleton] at hc ⊢
      rcases hc with (h | h) | h
      · exact .inl (.inl (.inl h))
      · exact .inr h
      · exact .inl (.inr h)
    simp only [List.mem_append, List.mem_singleton] at h ⊢
    rcases h with (h | h) | h
    · exact .inl (.inl h)
    · exact .inr h
    · exact .inl (.inr h)
  have hra : a ∉ rho := fun h => (List.nodup_append.mp r.nd).2.2 a h a ha rfl
  refine ⟨_, ⟨p3, ?_, ndn⟩, List.prefix_refl _, by rw [List.append_nil]; exact ndn, fun c u eu hc => ?_⟩
  · have go : ∀ {M : List Ob} {r' : List Addr}, (∀ d ∈ r', d ∈ rho) → Paired (RB C rho H) M r' → Paired (RB C rho (upd H a o)) M r' := by
      intro M r' hs hp
      induction hp with
      | nil => exact .nil
      | @cons x y _ _ h t ih => exact .cons (h.up (Up.mut eh) fun u eu => by
          rw [upd_ne]
          · exact eu
          · rintro rfl; exact hra (hs _ (by simp))) (ih fun d hd => hs d (by simp [hd]))
    exact go (fun _ z => z) r.mem
  · rw [List.append_nil]
    refine ⟨?_, fun h => hc ?_⟩
    · rw [upd_ne]
      · exact eu
      · rintro rfl; exact hc (List.mem_append_right _ ha)
    · rcases List.mem_append.mp h with h | h
      · exact List.mem_append_left _ h
      · exact List.mem_append_right _ (sub c h)
end
/-- the list that a value is, and the state with another in its place -/
@[simp] def mutL (s : S) : T → Option (List W × (List W → S))
  | .w (.loc n) => (match s.M[n]? with
      | some (.lst xs) => some (xs, fun ys => ⟨s.sg, s.M.set n (.lst ys)⟩)
      | _ => none)
  | .sl i => (match s.sg[i]? with
      | some (some (.lst xs)) => some (xs, fun ys => ⟨s.sg.set i (some (.lst ys)), s.M⟩)
      | some (some (.w (.loc n))) => (match s.M[n]? with
          | some (.lst xs) => some (xs, fun ys => ⟨s.sg, s.M.set n (.lst ys)⟩)
          | _ => none)
      | _ => none)
  | _ => none
theorem mutL_ok {C : Cf} {rho own fr : List Addr} {s : S} {sg : L2.St} {H : Hp} {t : T} {v : V} {xs : List W} {f : List W → S} (r : Rel C rho own s sg H) (rt : RT C rho H sg t v fr) (e : mutL s t = some (xs, f)) :
    ∃ a vs, v = .ref a ∧ H a = some (.lst vs) ∧ RWs C rho H xs vs ∧ ∀ ys us, RWs C rho H ys us → ∃ own', Nxt C rho own H rho own' (f ys) sg (upd H a (.lst us)) [] := by
  have loc : ∀ n, RW C rho H (.loc n) v → s.M[n]? = some (.lst xs) → ∃ a vs, v = .ref a ∧ H a = some (.lst vs) ∧ RWs C rho H xs vs ∧ ∀ ys us, RWs C rho H ys us → ∃ own', Nxt C rho own H rho own' ⟨s.sg, s.M.set n (.lst ys)⟩ sg (upd H a (.lst us)) [] := fun n rw em => by
    simp only [RW] at rw
    obtain ⟨a, rfl, ra⟩ := rw
    obtain ⟨a', ra', vs, eh, rs⟩ := r.ob em
    rw [ra] at ra'; cases ra'
    exact ⟨a, vs, rfl, eh, rs, fun ys us ru => ⟨own, Nxt.mutLoc r ra eh ⟨us, upd_same, ru.up (Up.mut eh)⟩⟩⟩
  unfold mutL at e
  split at e
  · rename_i n
    split at e
    · rename_i xs' em
      cases e
      exact loc n rt.1 em
    · cases e
  · rename_i i
    obtain ⟨hv, rfl⟩ := rt
    split at e
    · rename_i xs' em
      cases e
      obtain ⟨v', o1, fr, o2, e1, r1, _, _⟩ := r.sl.split em
      rw [hv] at e1; cases e1
      obtain ⟨a, rfl, rfl, vs, eh, rs⟩ := r1
      exact ⟨a, vs, rfl, eh, rs, fun ys us ru => Nxt.mutSl r em hv eh ⟨a, rfl, rfl, us, upd_same, ru.up (Up.mut eh)⟩⟩
    · rename_i n em
      obtain ⟨v', o1, fr, o2, e1, r1, _, _⟩ := r.sl.split em
      rw [hv] at e1; cases e1
      split at e
      · rename_i xs' em2
        cases e
        exact loc n r1.1 em2
      · cases e
    · cases e
  · cases e
/-! ### methods of lists -/
/-- a method: the list, the arguments (kept); what it gives, and the list behind it -/
abbrev LM := List W → List W → Option (W × List W)
@[simp] def dmt (d : DE) (ds : List DE) (f : LM) : DE := fun s => (d s).bind fun t s => match lstOf s t with
  | some _ => (dWs ds s).bind fun ys s => match mutL s t with
      | some (xs, g) => (match f xs ys with
          | some (y, zs) => .ok (.w y) (g zs)
          | none => .bad)
      | none => .bad
  | none => .bad
@[simp] def lmApp : LM := fun xs ys => match ys with
  | [y] => if xs.length < sizeLine then some (.non, xs ++ [y]) else none
  | _ => none
@[simp] def lmPop : LM := fun xs ys => match ys with
  | [] => (xs[xs.length - 1]?).map fun y => (y, xs.dropLast)
  | _ => none
@[simp] def lmPopAt : LM := fun xs ys => match ys with
  | [.int i] => if -9223372036854775808 ≤ i ∧ i < 9223372036854775808 then (seqIndex? i xs.length).bind fun k => (xs[k]?).map fun y => (y, xs.eraseIdx k) else none
  | _ => none
def rLM (C : Cf) (f : LM) : V → List V → Hp → VK → Prop := fun x vs H Q => ∃ a zs rho xs ys y xs', x = .ref a ∧ H a = some (.lst zs) ∧ RWs C rho H xs zs ∧ RWs C rho H ys vs ∧ f xs ys = some (y, xs') ∧
  ∀ v us, RWs C rho H xs' us → RW C rho H y v → Q v (upd H a (.lst us))
theorem RWs.ones {C : Cf} {rho : List Addr} {H : Hp} {x : W} {vs : List V} (h : RWs C rho H [x] vs) : ∃ v, vs = [v] ∧ RW C rho H x v := by
  simp only [RWs] at h
  obtain ⟨v, vs', rfl, r, rfl⟩ := h
  exact ⟨v, rfl, r⟩
section
variable {X : Cx} {C : Cf}
theorem m_app : MtR X "list.append" (rLM C lmApp) := by
  intro pins ss sg H x vs v us Q I rx rv h
  obtain ⟨a, zs, rho, xs, ys, y, xs', rfl, hH, rx', ry, e, k⟩ := h
  unfold lmApp at e
  split at e
  · rename_i w
    obtain ⟨u, rfl, rw'⟩ := ry.ones
    split at e
    · rename_i hl
      cases e
      exact mt_append pins ss sg H _ _ v us Q I rx rv ⟨a, zs, u, rfl, rfl, hH, by rw [← rx'.length]; exact hl, k .non _ (rx'.append (.one rw')) (by simp only [RW])⟩
    · cases e
  · cases e
theorem RWs.dropLast {rho : List Addr} {H : Hp} : ∀ {xs : List W} {vs : List V}, RWs C rho H xs vs → RWs C rho H xs.dropLast vs.dropLast
  | [], vs, h => by simp only [RWs] at h; subst h; rfl
  | [x], vs, h => by
    obtain ⟨v, rfl, _⟩ := h.ones
    rfl
  | x :: y :: xs, vs, h => by
    simp only [RWs] at h
    obtain ⟨v, vs', rfl, r, v2, vs2, rfl, r2, t⟩ := h
    have ih : RWs C rho H (y :: xs).dropLast (v2 :: vs2).dropLast := RWs.dropLast (xs := y :: xs) (by simp only [RWs]; exact ⟨_, _, rfl, r2, t⟩)
    simp only [List.dropLast_cons₂, RWs]
    exact ⟨_, _, rfl, r, ih⟩
theorem RWs.eraseIdx {rho : List Addr} {H : Hp} : ∀ {xs : List W} {vs : List V} (i : Nat), RWs C rho H xs vs → RWs C rho H (xs.eraseIdx i) (vs.eraseIdx i)
  | [], vs, i, h => by simp only [RWs] at h; subst h; simp [RWs]
  | x :: xs, vs, 0, h => by
    simp only [RWs] at h
    obtain ⟨v, vs', rfl, r, t⟩ := h
    exact t
  | x :: xs, vs, i + 1, h => by
    simp only [RWs] at h
    obtain ⟨v, vs', rfl, r, t⟩ := h
    simp only [List.eraseIdx_cons_succ, RWs]
    exact ⟨_, _, rfl, r, RWs.eraseIdx i t⟩
theorem RWs.set {rho : List Addr} {H : Hp} : ∀ {xs : List W} {vs : List V} {i : Nat} {x : W} {v : V}, RWs C rho H xs vs → RW C rho H x v → RWs C rho H (xs.set i x) (vs.set i v)
  | [], vs, i, x, v, h, r => by simp only [RWs] at h; subst h; simp [RWs]
  | y :: xs, vs, 0, x, v, h, r => by
    simp only [RWs] at h
    obtain ⟨u, vs', rfl, r', t⟩ := h
    simp only [List.set_cons_zero, RWs]
    exact ⟨_, _, rfl, r, t⟩
  | y :: xs, vs, i + 1, x, v, h, r => by
    simp only [RWs] at h
    obtain ⟨u, vs', rfl, r', t⟩ := h
    simp only [List.set_cons_succ, RWs]
    exact ⟨_, _, rfl, r', RWs.set t r⟩
theorem m_pop : MtR X "list.pop" (rLM C lmPop) := by
  intro pins ss sg H x vs v us Q I rx rv h
  obtain ⟨a, zs, rho, xs, ys, y, xs', rfl, hH, rx', ry, e, k⟩ := h
  unfold lmPop at e
  split at e
  · simp only [RWs] at ry
    subst ry
    cases z : xs[xs.length - 1]? with
    | none => rw [z] at e; cases e
    | some w =>
      rw [z] at e
      cases e
      obtain ⟨u, eu, ru⟩ := rx'.get z
      rw [rx'.length] at eu
      exact mt_pop pins ss sg H _ _ v us Q I rx rv ⟨a, zs, u, rfl, rfl, hH, eu, k u _ rx'.dropLast ru⟩
  · cases e
theorem m_popAt : MtR X "list.pop" (rLM C lmPopAt) := by
  intro pins ss sg H x vs v us Q I rx rv h
  obtain ⟨a, zs, rho, xs, ys, y, xs', rfl, hH, rx', ry, e, k⟩ := h
  unfold lmPopAt at e
  split at e
  · rename_i i
    obtain ⟨u, rfl, ru⟩ := ry.ones
    simp only [RW] at ru
    subst ru
    split at e
    · rename_i hb
      cases z : seqIndex? i xs.length with
      | none => rw [z] at e; cases e
      | some j =>
        rw [z] at e
        simp only [Option.bind_some] at e
        cases z2 : xs[j]? with
        | none => rw [z2] at e; cases e
        | some w =>
          rw [z2] at e
          cases e
          obtain ⟨u, eu, ru⟩ := rx'.get z2
          exact mt_popAt pins ss sg H _ _ v us Q I rx rv ⟨a, zs, i, j, u, rfl, rfl, hH, by omega, by omega, by rw [← rx'.length]; exact z, eu, k u _ (rx'.eraseIdx j) ru⟩
    · cases e
  · cases e
end
theorem Rel.tyL {C : Cf} {K : PySem.W.Frag} {rho own fr : List Addr} {s : S} {sg : L2.St} {H : Hp} {t : T} {v : V} {xs : List W} (hK : C.K = K) (r : Rel C rho own s sg H) (rt : RT C rho H sg t v fr) (e : lstOf s t = some xs) : tyV K "list" v H := by
  obtain ⟨a, vs, rfl, q, _⟩ := r.lst rt e
  exact .inl ⟨rfl, vs, hK ▸ q⟩
theorem mt_ok {C : Cf} {K : PySem.W.Frag} {d : DE} {ds : List DE} {f : LM} {sg : L2.St} {H : Hp} {Q : VK} (hK : C.K = K) (q : tE C (dmt d ds f) sg H Q) : tBM K "list" (rLM C f) (tE C d) (tWs C (dWs ds)) sg H Q := by
  obtain ⟨rho, own, s, r, t, s', e, k⟩ := q
  obtain ⟨t1, s1, e1, e⟩ := bind_ok e
  split at e
  · rename_i u hu
    obtain ⟨ys, s2, e2, e⟩ := bind_ok e
    split at e
    · rename_i xs g z
      split at e
      · rename_i y zs z2
        simp only [Out.ok.injEq] at e
        obtain ⟨rfl, rfl⟩ := e
        refine ⟨rho, own, s, r, t1, s1, e1, fun rho1 own1 H1 v fr n rt => ⟨n.rel.tyL hK rt hu, rho1, own1, s1, n.rel, ys, s2, e2, fun rho2 own2 H2 vs n2 ry => ?_⟩⟩
        obtain ⟨a, us, rfl, eh, rx, go⟩ := mutL_ok n2.rel (rt.wait n.rel n.out n2) z
        refine ⟨a, us, rho2, xs, ys, y, zs, rfl, eh, rx, ry, z2, fun v ws rz rv => ?_⟩
        obtain ⟨own3, n3⟩ := go zs ws rz
        exact k rho2 own3 _ v [] ((n.drop0.trans n2).trans n3) ⟨rv.up (n3.up n2.rel), rfl⟩
      · cases e
    · cases e
  · cases e
theorem mt_ok0 {C : Cf} {K : PySem.W.Frag} {d : DE} {f : LM} {sg : L2.St} {H : Hp} {Q : VK} (hK : C.K = K) (q : tE C (dmt d [] f) sg H Q) : tBM0 K "list" (rLM C f) (tE C d) sg H Q := by
  obtain ⟨rho, own, s, r, t, s', e, k⟩ := q
  obtain ⟨t1, s1, e1, e⟩ := bind_ok e
  split at e
  · rename_i u hu
    obtain ⟨ys, s2, e2, e⟩ := bind_ok e
    simp only [dWs, Out.ok.injEq] at e2
    obtain ⟨rfl, rfl⟩ := e2
    split at e
    · rename_i xs g z
      split at e
      · rename_i y zs z2
        simp only [Out.ok.injEq] at e
        obtain ⟨rfl, rfl⟩ := e
        refine ⟨rho, own, s, r, t1, _, e1, fun rho1 own1 H1 v fr n rt => ⟨n.rel.tyL hK rt hu, ?_⟩⟩
        obtain ⟨a, us, rfl, eh, rx, go⟩ := mutL_ok n.rel rt z
        refine ⟨a, us, rho1, xs, [], y, zs, rfl, eh, rx, rfl, z2, fun v ws rz rv => ?_⟩
        obtain ⟨own3, n3⟩ := go zs ws rz
        exact k rho1 own3 _ v [] (n.drop0.trans n3) ⟨rv.up (n3.up n.rel), rfl⟩
      · cases e
    · cases e
  · cases e
@[simp] def dext (d d2 : DE) : DE := fun s => (d s).bind fun t s => match lstOf s t with
  | some _ => (d2 s).bind fun t2 s => match mutL s t, seqOf s t2 with
      | some (xs, g), some zs => if xs.length + zs.length ≤ sizeLine then .ok (.w .non) (g (xs ++ zs)) else .bad
      | _, _ => .bad
  | none => .bad
section
variable {X : Cx} {C : Cf} {o e : Expr} {es : List Expr} {d d2 : DE} {ds : List DE} {f : LM} {name : Str} {id : String} {apos cpos : Pos}
theorem pe_dmt0 (hK : C.K = X.K) (slot : Slot "list" name id) (hty : typeOf (.builtin id) = pure (.type "method_descriptor")) (hm : MtR X id (rLM C f)) (ho : PE X o (tE C d))
    (hbase : attributeBase o name X.env (eval o X.env) = eval o X.env) (hline : (apos.endLine == cpos.line) = true) : PE X (.Call (.Attribute o name apos) [] [] cpos) (tE C (dmt d [] f)) :=
  (pe_bm0 F.plainAttrs_list slot hty hm ho hbase hline).weak fun sg H Q q => mt_ok0 hK q
theorem pe_dmt (hK : C.K = X.K) (slot : Slot "list" name id) (hty : typeOf (.builtin id) = pure (.type "method_descriptor")) (hm : MtR X id (rLM C f)) (ho : PE X o (tE C d)) (ha : PA X (e :: es) (tWs C (dWs ds)))
    (hbase : attributeBase o name X.env (eval o X.env) = eval o X.env)
    (hfew : ((backTo cpos (starEach (e :: es) X.env)).all (fun x => !x.1) && (backToKw cpos (keywordEach [] X.env)).all (fun x => x.1.isSome)
      && decide ((e :: es).length + ([] : List Keyword).length + (if ([] : List Keyword).isEmpty then 0 else 1) < 30)) = true)
    (hline : (apos.endLine == cpos.line) = true) (hs : starEach (e :: es) X.env = (false, eval e X.env) :: starEach es X.env) (hplain : (backTo cpos (starEach es X.env)).any (·.1) = false) :
    PE X (.Call (.Attribute o name apos) (e :: es) [] cpos) (tE C (dmt d ds f)) :=
  (pe_bm F.plainAttrs_list slot hty hm ho ha hbase hfew hline hs hplain).weak fun sg H Q q => mt_ok hK q
theorem pe_dext (hK : C.K = X.K) (ho : PE X o (tE C d)) (ha : PA X [e] (tEs C (dEs [d2])))
    (hbase : attributeBase o "extend" X.env (eval o X.env) = eval o X.env)
    (hfew : ((backTo cpos (starEach [e] X.env)).all (fun x => !x.1) && (backToKw cpos (keywordEach [] X.env)).all (fun x => x.1.isSome)
      && decide ([e].length + ([] : List Keyword).length + (if ([] : List Keyword).isEmpty then 0 else 1) < 30)) = true)
    (hline : (apos.endLine == cpos.line) = true) (hs : starEach [e] X.env = (false, eval e X.env) :: starEach [] X.env) :
    PE X (.Call (.Attribute o "extend" apos) [e] [] cpos) (tE C (dext d d2)) :=
  (pe_bm F.plainAttrs_list F.slot_list_extend F.type_list_extend mt_extS ho ha hbase hfew hline hs rfl).weak fun sg H Q q => by
    obtain ⟨rho, own, s, r, t, s', e, k⟩ := q
    obtain ⟨t1, s1, e1, e⟩ := bind_ok e
    split at e
    · rename_i u hu
      obtain ⟨t2, s2, e2, e⟩ := bind_ok e
      split at e
      · rename_i xs g zs z z2
        split at e
        · rename_i hl
          simp only [Out.ok.injEq] at e
          obtain ⟨rfl, rfl⟩ := e
          refine ⟨rho, own, s, r, t1, s1, e1, fun rho1 own1 H1 v fr n rt => ⟨n.rel.tyL hK rt hu, rho1, own1, s1, n.rel, [t2], s2, by simp [e2], fun rho2 own2 H2 vs fr2 n2 ry => ?_⟩⟩
          obtain ⟨v2, f2, rfl, ry1⟩ := RTL.one ry
          obtain ⟨a, us, rfl, eh, rx, go⟩ := mutL_ok n2.rel (rt.wait n.rel n.out n2) z
          obtain ⟨b, ws, rfl, hq, rz⟩ := n2.rel.seq ry1 z2
          obtain ⟨own3, n3⟩ := go (xs ++ zs) (us ++ ws) (rx.append rz)
          rw [hK] at hq
          exact ⟨a, b, us, ws, rfl, rfl, eh, hq, by rw [← rx.length, ← rz.length]; exact hl, k rho2 own3 _ .non [] ((n.drop0.trans n2.drop0).trans n3) r0_non⟩
        · cases e
      · cases e
    · cases e
end
/-! ### o[i] = v -/
@[simp] def gsb (d d2 : DE) : DG := fun x s => (d s).bind fun t s => (d2 s).bind fun ti s => match s.get ti, mutL s t with
  | some (.w (.int i)), some (xs, g) => (match ixN xs.length i with
      | some j => .ok () (g (xs.set j x))
      | none => .bad)
  | _, _ => .bad
section
variable {X : Cx} {C : Cf} {A : List Nat} {o i : Expr} {d d2 : DE} {pos : Pos}
theorem pg_sb (ho : PE X o (tE C d)) (hi : PE X i (tE C d2))
    (ha : ∀ v, assign (.Subscript o i pos) X.env v = (do
      let ov ← holding [v] (eval o X.env)
      let iv ← holding [v, ov] (eval i X.env)
      standAt pos
      holding [v, ov, iv] (setItem ov iv v)
      release [v, ov, iv] [])) : PG X (.Subscript o i pos) (tG C A (gsb d d2)) :=
  (pg_sub ho hi set_list ha).weak fun v sg H Q q => by
    obtain ⟨rho, own, s, x, r, rx, u, s', e, k⟩ := q
    obtain ⟨t, s1, e1, e⟩ := bind_ok e
    obtain ⟨ti, s2, e2, e⟩ := bind_ok e
    split at e
    · rename_i i xs g z1 z2
      split at e
      · rename_i j hj
        simp only [Out.ok.injEq] at e
        obtain ⟨_, rfl⟩ := e
        refine ⟨rho, own, s, r, t, s1, e1, fun rho1 own1 H1 v1 fr1 n1 rt => ⟨rho1, own1, s1, n1.rel, ti, s2, e2, fun rho2 own2 H2 v2 fr2 n2 ri => ?_⟩⟩
        obtain rfl := n2.rel.getInt ri z1
        obtain ⟨a, us, rfl, eh, rx', go⟩ := mutL_ok n2.rel (rt.wait n1.rel n1.out n2) z2
        have n12 := n1.drop0.trans n2.drop0
        obtain ⟨own3, n3⟩ := go _ _ (rx'.set (i := j) (rx.up (n12.up r)))
        exact ⟨a, us, i, j, rfl, rfl, eh, by rw [← rx'.length]; exact hj, k rho2 own3 _ _ (n12.trans n3) Frm.refl⟩
      · cases e
    · cases e
end
end Rk

/-! Rk15: a, b = x, y. -/
namespace Rk
open PySem PySem.Spec PyProof.Rows L2

section
variable {C : Cf} {A : List Nat} {rho own rho1 own1 fr1 fr2 : List Addr} {s s1 : S} {sg sg1 : L2.St} {H H1 : Hp}
theorem Nxt.putR {i : Nat} {t : T} {v : V} (n : Nxt C rho own H rho1 own1 s1 sg1 H1 (fr1 ++ fr2)) (r : R0 C rho1 H1 t v fr1) : ∃ own2, Nxt C rho own H rho1 own2 ⟨s1.sg.set i (some t), s1.M⟩ (sg1.set i (some v)) H1 fr2 := by
  by_cases hi : i < s1.sg.length
  · obtain ⟨o1, old, o2, e, p⟩ := n.rel.sl.put hi r
    subst e
    have nd2 : (rho1 ++ (o1 ++ fr1 ++ o2) ++ fr2).Nodup := by
      have p1 : (rho1 ++ (o1 ++ old ++ o2) ++ (fr1 ++ fr2)).Perm (old ++ (rho1 ++ (o1 ++ fr1 ++ o2) ++ fr2)) := by
        rw [List.perm_iff_count]; intro x; simp only [List.count_append]; omega
      exact (List.nodup_append.mp (p1.nodup n.nd)).2.1
    refine ⟨o1 ++ fr1 ++ o2, ⟨⟨p, n.rel.mem, (List.nodup_append.mp nd2).1⟩, n.pre, nd2, n.kp.mono (fun _ z => z) fun b hb => ?_⟩⟩
    simp only [List.mem_append] at hb ⊢
    rcases hb with (h | (h | h) | h) | h
    · exact .inl (.inl h)
    · exact .inl (.inr (.inl (.inl h)))
    · exact .inr (.inl h)
    · exact .inl (.inr (.inr h))
    · exact .inr (.inr h)
  · have hl := n.rel.sl.length
    refine ⟨own1, ?_⟩
    rw [List.set_eq_of_length_le (by omega), List.set_eq_of_length_le (by omega)]
    exact n.drop (fun _ z => List.mem_append_right _ z) (List.nodup_append.mp (List.nodup_append.mp n.nd).2.1).2.1
end
@[simp] def parS : List Nat → List T → S → Option S
  | [], [], s => some s
  | i :: is, t :: ts, s => parS is ts (setS i t s)
  | _, _, _ => none
@[simp] def dpar (is : List Nat) (ds : List DE) : DS := fun s => (dTs ds s).fl fun ts s => match parS is ts s with
  | some s => .nx s
  | none => .bad
/-- what the stores of a, b = .. are: none: one by one from the left; some: the names -/
def swS (sc : Scope) (ts vs : List Expr) : Option (Option (List Str)) :=
  let one := ((ts.head?.map fun t => t.pos.line).getD 0)
  let ns := ts.filterMap fun t => match t with
    | .Name x p => if (sc.names.lookup x == some NameKind.local && p.line == one) = true then some x else none
    | _ => none
  if (!(ts.length == 2 || ts.length == 3) || vs.length != ts.length || sc.kind != .function) = true then some none
  else if (vs.any fun v => match v with | .Starred .. => true | _ => false) = true then some none
  else if (ns.length != ts.length || ns.eraseDups.length != ns.length) = true then some none
  else if (vs.all (foldedForSure 8)) = true then some none
  else if (vs.all (constantsAlone 8)) = true then none
  else some (some ns)
theorem swS_ok {env : Env} {ts vs : List Expr} {k k2 : Nat} {p p2 : Pos} {r : Option (List Str)} (hk : env.scope.kind = .function) (h : swS env.scope ts vs = some r) : swappedStores [.Tuple ts k p] (.Tuple vs k2 p2) env = pure r := by
  have hb : env.blockKind = .function := by unfold Env.blockKind; rw [hk]; rfl
  have hb2 : (env.blockKind != .function) = false := by rw [hb]; rfl
  have hb3 : (env.scope.kind != .function) = false := by rw [hk]; rfl
  unfold swS at h
  unfold swappedStores
  dsimp only at h ⊢
  simp only [hb2, hb3, Bool.or_false] at h ⊢
  split at h
  · rename_i c; rw [if_pos c]; cases h; rfl
  · rename_i c; rw [if_neg c]
    split at h
    · rename_i c; cases h; exact if_pos c
    · rename_i c; refine (if_neg c).trans ?_
      split at h
      · rename_i c; cases h; exact if_pos c
      · rename_i c; refine (if_neg c).trans ?_
        split at h
        · rename_i c; cases h; exact if_pos c
        · rename_i c; refine (if_neg c).trans ?_
          split at h
          · cases h
          · rename_i c; cases h; exact if_neg c
section
variable {X : Cx} {C : Cf} {A : List Nat} {a b c : Expr} {x y z : Str} {i j l : Nat} {d1 d2 d3 : DE} {px py pz pt pt2 pos : Pos} {kt k2 : Nat}
theorem RTs.two {rho fr : List Addr} {H : Hp} {t1 t2 : T} {vs : List V} (h : RTs C rho H [t1, t2] vs fr) : ∃ v w f g, vs = [v, w] ∧ fr = f ++ g ∧ R0 C rho H t1 v f ∧ R0 C rho H t2 w g := by
  obtain ⟨v, ys, f1, f2, rfl, rfl, r1, h⟩ := h
  obtain ⟨w, ys, f3, f4, rfl, rfl, r2, h⟩ := h
  obtain ⟨rfl, rfl⟩ := h
  exact ⟨v, w, f1, f3, rfl, by simp, r1, r2⟩
theorem RTs.three {rho fr : List Addr} {H : Hp} {t1 t2 t3 : T} {vs : List V} (h : RTs C rho H [t1, t2, t3] vs fr) : ∃ v w u f g k, vs = [v, w, u] ∧ fr = f ++ (g ++ k) ∧ R0 C rho H t1 v f ∧ R0 C rho H t2 w g ∧ R0 C rho H t3 u k := by
  obtain ⟨v, ys, f1, f2, rfl, rfl, r1, h⟩ := h
  obtain ⟨w, u, f, g, rfl, rfl, r2, r3⟩ := RTs.two h
  exact ⟨v, w, u, f1, f, g, rfl, rfl, r1, r2, r3⟩
theorem dTs2 {s s' : S} {ts : List T} (e : dTs [d1, d2] s = .ok ts s') : ∃ t1 t2, ts = [t1, t2] := by
  obtain ⟨t1, s1, _, e⟩ := bind_ok e
  obtain ⟨us, s2, e2, e⟩ := bind_ok e
  obtain ⟨t2, s3, _, e2⟩ := bind_ok e2
  obtain ⟨ws, s4, e3, e2⟩ := bind_ok e2
  cases e3; cases e2; cases e
  exact ⟨t1, t2, rfl⟩
theorem dTs3 {s s' : S} {ts : List T} (e : dTs [d1, d2, d3] s = .ok ts s') : ∃ t1 t2 t3, ts = [t1, t2, t3] := by
  obtain ⟨t1, s1, _, e⟩ := bind_ok e
  obtain ⟨us, s2, e2, e⟩ := bind_ok e
  obtain ⟨t2, t3, rfl⟩ := dTs2 e2
  cases e
  exact ⟨t1, t2, t3, rfl⟩
theorem ps_dpar2 (hc : X.calm = true) (hN : X.N.Nodup) (hi : X.N[i]? = some x) (hj : X.N[j]? = some y) (hij : i ≠ j) (hx : X.env.scope.names.lookup x = some .local) (hy : X.env.scope.names.lookup y = some .local) (ha : PA X [a, b] (tTs C (dTs [d1, d2])))
    (hw : swappedStores [.Tuple [.Name x px, .Name y py] kt pt] (.Tuple [a, b] k2 pt2) X.env = pure (some [x, y]))
    (hs : swapsWithSole [.Tuple [.Name x px, .Name y py] kt pt] (.Tuple [a, b] k2 pt2) pos.line X.env = pure false) (hA : ∀ q ∈ [i, j], q ∈ A) :
    PS X (.Assign [.Tuple [.Name x px, .Name y py] kt pt] (.Tuple [a, b] k2 pt2) pos) (tS C A (dpar [i, j] [d1, d2])) := (ps_par hc hN hi hj hij hx hy ha hw hs).weak fun D sg H q => by
  obtain ⟨rho, own, s, r, k⟩ := q
  obtain ⟨ts, s1, e1, k⟩ := EndS.bind k
  obtain ⟨t1, t2, rfl⟩ := dTs2 e1
  refine ⟨rho, own, s, r, _, s1, e1, fun rho1 own1 H1 vs fr n rt => ?_⟩
  obtain ⟨v, w, f, g, rfl, rfl, r1, r2⟩ := rt.two
  obtain ⟨own2, n2⟩ := n.putR (i := i) r1
  obtain ⟨own3, n3⟩ := n2.put (i := j) r2
  exact ⟨v, w, rfl, k rho1 own3 _ H1 n3 ((Frm.set (hA i (by simp))).trans (Frm.set (hA j (by simp))))⟩
theorem ps_dpar3 (hc : X.calm = true) (hN : X.N.Nodup) (hi : X.N[i]? = some x) (hj : X.N[j]? = some y) (hl : X.N[l]? = some z) (hij : i ≠ j) (hil : i ≠ l) (hjl : j ≠ l) (hx : X.env.scope.names.lookup x = some .local) (hy : X.env.scope.names.lookup y = some .local) (hz : X.env.scope.names.lookup z = some .local) (ha : PA X [a, b, c] (tTs C (dTs [d1, d2, d3])))
    (hw : swappedStores [.Tuple [.Name x px, .Name y py, .Name z pz] kt pt] (.Tuple [a, b, c] k2 pt2) X.env = pure (some [x, y, z]))
    (hs : swapsWithSole [.Tuple [.Name x px, .Name y py, .Name z pz] kt pt] (.Tuple [a, b, c] k2 pt2) pos.line X.env = pure false) (hA : ∀ q ∈ [i, j, l], q ∈ A) :
    PS X (.Assign [.Tuple [.Name x px, .Name y py, .Name z pz] kt pt] (.Tuple [a, b, c] k2 pt2) pos) (tS C A (dpar [i, j, l] [d1, d2, d3])) := (ps_par3 hc hN hi hj hl hij hil hjl hx hy hz ha hw hs).weak fun D sg H q => by
  obtain ⟨rho, own, s, r, k⟩ := q
  obtain ⟨ts, s1, e1, k⟩ := EndS.bind k
  obtain ⟨t1, t2, t3, rfl⟩ := dTs3 e1
  refine ⟨rho, own, s, r, _, s1, e1, fun rho1 own1 H1 vs fr n rt => ?_⟩
  obtain ⟨v, w, u, f, g, h, rfl, rfl, r1, r2, r3⟩ := rt.three
  obtain ⟨own2, n2⟩ := n.putR (i := i) r1
  obtain ⟨own3, n3⟩ := n2.putR (i := j) r2
  obtain ⟨own4, n4⟩ := n3.put (i := l) r3
  exact ⟨v, w, u, rfl, k rho1 own4 _ H1 n4 (((Frm.set (hA i (by simp))).trans (Frm.set (hA j (by simp)))).trans (Frm.set (hA l (by simp))))⟩
end
end Rk

/-! Rk16: defs and their calls; every def may lean on: no guard is around. -/
namespace Rk
open PySem PySem.Spec PyProof.Rows L2

/-- a def's promise -/
structure FnG (P : Program) (w : World) (K : PySem.W.Frag) (mg : Str → Option Value) (base : Heap) (k : Nat) (f : Addr) (fd : FuncData) (ps : List Str) (sp : Sp) : Prop where
  len : ∀ vs H Q E, sp vs H Q E → vs.length = ps.length
  run : ∀ (A : Around) (outer : List Env) (s : Shared) (H : Hp) (args : Args) (us : List Value) (vs : List V) (Q : VK), Room k A → A.guards = some [] → Env0 P w K mg base A outer s H → BindsTo s fd args (ps.zip us) → Vals vs us → sp vs H Q E0 →
    codeAny (model P w) A (.call (.ref f) args) (CR CX0 outer P w H s Q E0) s
theorem FnG.mono {P : Program} {w : World} {K : PySem.W.Frag} {mg : Str → Option Value} {base : Heap} {j k : Nat} {f : Addr} {fd : FuncData} {ps : List Str} {sp : Sp} (F : FnG P w K mg base j f fd ps sp) (h : j ≤ k) : FnG P w K mg base k f fd ps sp :=
  ⟨F.len, fun A outer s H args us vs Q hr => F.run A outer s H args us vs Q (hr.mono h)⟩
theorem FnG.imp {P : Program} {w : World} {K : PySem.W.Frag} {mg : Str → Option Value} {base : Heap} {k : Nat} {f : Addr} {fd : FuncData} {ps : List Str} {sp sp' : Sp} (F : FnG P w K mg base k f fd ps sp) (h : ∀ vs H Q E, sp' vs H Q E → sp vs H Q E) : FnG P w K mg base k f fd ps sp' :=
  ⟨fun vs H Q E q => F.len vs H Q E (h _ _ _ _ q), fun A outer s H args us vs Q hr hgd e0 hb hv hs => F.run A outer s H args us vs Q hr hgd e0 hb hv (h _ _ _ _ hs)⟩
section
variable {P : Program} {w : World} {K : PySem.W.Frag} {mg : Str → Option Value} {base : Heap}
/-- a def of the text keeps its promise, by its body -/
theorem fnG_of {x qual : Str} {st : Stmt} {f : Addr} {fd : FuncData} {N ps : List Str} {k : Nat} {sp : Sp} (F : ∃ (oc : Value) (od : Option Addr) (dV kV doc pm : Value) (an : Option Addr) (cdv ct : Value) (osl : Array (Option Value)),
      fd = PySem.W.fnOf x qual (defArgs st) (defBody st) (defScope st) dV kV doc pm an cdv ct ∧ K.lookup f = some ⟨oc, od, .func fd, osl⟩ ∧ PySem.W.codeIn K cdv qual = true) (S : FnScope N ps (defScope st)) (len : ∀ vs H Q E, sp vs H Q E → vs.length = ps.length)
    (hbody : ∀ (cdv : Value) (A : Around) (outer : List Env) (s : Shared) (H : Hp) (vs : List V) (Q : VK), Room k (A.deeper (envOfC qual (defScope st) s.heap.objs.size f cdv)) → A.guards = some [] → sp vs H Q E0 →
      ∃ t, PSs (cxOf CX0 P w K mg base N qual (defScope st) f cdv A outer s H E0).nox (defBody st) t ∧ t { nx := fun _ H' => Q .non H', rt := Q } (start N vs) H) : FnG P w K mg base (k + 1) f fd ps sp := by
  obtain ⟨oc, od, dV, kV, doc, pm, an, cdv, ct, osl, rfl, lk, hcd⟩ := F
  refine ⟨len, fun A outer s H args us vs Q hr hgd e0 hb r hsp => ?_⟩
  have KX : K.In s.heap := e0.mod.kin.keeps fun b o e => (e0.bs b o e).1
  have nolim : s.heap.NoLimit := e0.mod.nolimit.keeps fun b o e => (e0.bs b o e).1
  have kinds : ∀ y ∈ ps.zip us, (defScope st).names.lookup y.1 = some .local ∨ ((defScope st).names.lookup y.1 = some .cell ∧ ((cellsFrom (s.heap.objs.size + 1) (defScope st).names []).lookup y.1).isSome = true) := fun y hy =>
    (S.par y.1 (List.of_mem_zip (a := y.1) (b := y.2) hy).1).elim .inl fun q => .inr ⟨q, PySem.W.cellsFrom_some _ _ _ (.inl q)⟩
  refine codeAny_call_function hr.depth (KX _ _ lk) rfl S.co S.gen rfl (PySem.W.codeRec_of KX hcd) (hb _ _ _ _ (wpAny_newFunctionEnv_cells S.kind kinds fun env he s1 x => ?_))
  subst he
  obtain ⟨t, ht, hq⟩ := hbody cdv A outer s H vs Q (hr.deeper _) hgd hsp
  have I := inv_start (CX := CX0) (E := E0) (w := w) (qual := qual) (f := f) (cd := cdv) S hr.hd e0 (len _ _ _ _ hsp) r x
  refine ⟨nolim.keeps x.toInCall.keep, codeAny_func (wpAny_mono (ht.nox.run [] s1 (start N vs) H _ I hq) (fun fl s' hs => ?_) fun e s' hs => hs)⟩
  cases fl with
  | ret u => obtain ⟨v, sg', H', J, rv, q⟩ := hs; exact ⟨v, H', J.os, J.bare, J.base, J.hok, rv, q⟩
  | next => obtain ⟨sg', H', J, q⟩ := hs; exact ⟨V.non, H', J.os, J.bare, J.base, J.hok, rfl, q⟩
  | brk => obtain ⟨_, _, _, q⟩ := hs; cases q
  | cont => obtain ⟨_, _, _, q⟩ := hs; cases q
end
section
variable {X : Cx} {k : Nat} {f : Addr} {fd : FuncData} {ps : List Str} {sp : Sp} {dvs : List V} {ds : List Value} {x : Str} {p pos : Pos} {e : Expr} {es : List Expr} {t : TA}
theorem fnG_go {pins : List (Addr × Obj)} {sg : L2.St} {H : Hp} {s : Shared} {Q : VK} {args : Args} {us : List Value} {vs : List V} (F : FnG X.prog X.w X.K X.mg X.base k f fd ps sp) (hr : Room k X.A) (hgd : X.A.guards = some []) (hb : BindsTo s fd args (ps.zip us)) (I : Inv X pins sg H s) (r : Vals vs us) (h : sp vs H Q E0) :
    wpAny (model X.prog X.w) X.A (call (.ref f) args.pos args.kw) (EP X pins sg Q) X.xe s := by
  refine wpAny_call (codeAny_mono (F.run X.A X.stack s H args us vs Q hr hgd I.env0 hb r h) fun r s' hq => ?_)
  match r, hq with
  | .ok (.ret u), hq => exact I.after hq
  | .ok .next, hq => cases hq
  | .ok .brk, hq => cases hq
  | .ok .cont, hq => cases hq
  | .error e, hq => cases hq
theorem pe_callG (F : FnG X.prog X.w X.K X.mg X.base k f fd ps sp) (hr : Room k X.A) (hgd : X.A.guards = some []) (hg : Gl X x) (hm : X.mg x = some (.ref f)) (hk : PySem.W.keepIn X.K (.ref f) = true) (hb : Binds X.K fd ps ds) (hd : Vals dvs ds) (ha : PA X (e :: es) t)
    (hdb : (x == ("__debug__" : Str)) = false) (he : starEach (e :: es) X.env = (false, eval e X.env) :: starEach es X.env) (hpl : (backTo pos (starEach es X.env)).any (·.1) = false) : PE X (.Call (.Name x p) (e :: es) [] pos) (tCall sp dvs E0 t) := by
  refine ⟨fun pins s sg H Q I h => wpAny_Call_Name_kw (ld_glob I hg hm (PySem.W.callWith_K (h₀ := X.base) I.ok.mod.kin hk (thn (ha.run pos pins s sg H _ I h) fun us s1 ⟨vs, H1, I1, r, q⟩ => ⟨I1.kIn, ?_⟩) he hpl) hdb)⟩
  have r2 := r.append hd
  exact fnG_go (args := ⟨us, []⟩) F hr hgd (hb s1 us I1.kIn (by rw [← r2.length]; exact F.len _ _ _ _ q)) I1 r2 q
theorem pe_callG0 (F : FnG X.prog X.w X.K X.mg X.base k f fd ps sp) (hr : Room k X.A) (hgd : X.A.guards = some []) (hg : Gl X x) (hm : X.mg x = some (.ref f)) (hk : PySem.W.keepIn X.K (.ref f) = true) (hb : Binds X.K fd ps ds) (hd : Vals dvs ds)
    (hdb : (x == ("__debug__" : Str)) = false) : PE X (.Call (.Name x p) [] [] pos) (tCall sp dvs E0 tNil) := by
  refine ⟨fun pins s sg H Q I h => wpAny_Call_Name_kw (ld_glob I hg hm (PySem.W.callWith_K0 I.kIn hk ?_) hdb)⟩
  have r2 : Vals ([] ++ dvs) ([] ++ ds) := hd
  exact fnG_go (args := ⟨[], []⟩) F hr hgd (hb s [] I.kIn (by rw [← r2.length]; exact F.len _ _ _ _ h)) I r2 h
end

/-! ### the promise of a semantic function -/
def spD (C : Cf) (np : Nat) (d : List T → List Ob → Res) : Sp := fun vs H Q _ => ∃ ts M rho fr, Paired (RB C rho H) M rho ∧ (rho ++ fr).Nodup ∧ RTs C rho H ts vs fr ∧ ts.length = np ∧ ∃ t M', d ts M = .ok t M' ∧
  ∀ rho' H' v fr', NxtR C rho fr H rho' M' H' fr' → R0 C rho' H' t v fr' → Q v H'
theorem RTs.length {C : Cf} {rho : List Addr} {H : Hp} : ∀ {ts : List T} {vs : List V} {fr : List Addr}, RTs C rho H ts vs fr → ts.length = vs.length
  | [], vs, fr, h => by obtain ⟨rfl, _⟩ := h; rfl
  | t :: ts, vs, fr, h => by
    obtain ⟨v, ys, f1, f2, rfl, _, _, h⟩ := h
    simp [RTs.length h]
theorem RTs.at {C : Cf} {rho : List Addr} {H : Hp} : ∀ {ts : List T} {vs : List V} {fr : List Addr}, RTs C rho H ts vs fr → ∀ a ∈ fr, ∃ o, H a = some o ∧ ¬ Still o
  | [], vs, fr, h => by obtain ⟨_, rfl⟩ := h; intro a ha; cases ha
  | t :: ts, vs, fr, h => by
    obtain ⟨v, ys, f1, f2, _, rfl, r, h⟩ := h
    intro a ha
    rcases List.mem_append.mp ha with q | q
    · exact r.at a q
    · exact RTs.at h a q
theorem RTs.app {C : Cf} {rho : List Addr} {H : Hp} {ds : List W} {dvs : List V} (hd : RWs C rho H ds dvs) : ∀ {ts : List T} {vs : List V} {fr : List Addr}, RTs C rho H ts vs fr → RTs C rho H (ts ++ ds.map T.w) (vs ++ dvs) fr
  | [], vs, fr, h => by
    obtain ⟨rfl, rfl⟩ := h
    have go : ∀ {ds : List W} {dvs : List V}, RWs C rho H ds dvs → RTs C rho H (ds.map T.w) dvs [] := by
      intro ds
      induction ds with
      | nil => intro dvs h; simp only [RWs] at h; exact ⟨h, rfl⟩
      | cons d ds ih =>
        intro dvs h
        simp only [RWs] at h
        obtain ⟨v, ys, rfl, r, t⟩ := h
        exact ⟨v, ys, [], [], rfl, rfl, ⟨r, rfl⟩, ih t⟩
    exact go hd
  | t :: ts, vs, fr, h => by
    obtain ⟨v, ys, f1, f2, rfl, rfl, r, h⟩ := h
    exact ⟨v, ys ++ dvs, f1, f2, rfl, rfl, r, RTs.app hd h⟩
theorem RTs.slots {C : Cf} {rho : List Addr} {H : Hp} {m : Nat} : ∀ {ts : List T} {vs : List V} {fr : List Addr}, RTs C rho H ts vs fr → RSl C rho H (ts.map some ++ List.replicate m none) (vs.map some ++ List.replicate m none) fr
  | [], vs, fr, h => by
    obtain ⟨rfl, rfl⟩ := h
    induction m with
    | zero => exact ⟨rfl, rfl⟩
    | succ m ih => exact ⟨none, _, rfl, ih⟩
  | t :: ts, vs, fr, h => by
    obtain ⟨v, ys, f1, f2, rfl, rfl, r, h⟩ := h
    exact ⟨v, _, f1, f2, rfl, rfl, r, RTs.slots h⟩
/-- a body, run at its parameters' values; n: how many names -/
def runB (d : DS) (n : Nat) (ts : List T) (M : List Ob) : Res := match d ⟨ts.map some ++ List.replicate (n - ts.length) none, M⟩ with
  | .nx s => .ok (.w .non) s.M
  | .rt t M => .ok t M
  | .ex x s => .ex x s.M
  | _ => .bad
theorem body_ok {C : Cf} {A : List Nat} {d : DS} {N : List Str} {np : Nat} {vs : List V} {H : Hp} {Q : VK} {E : XK} (h : spD C np (runB d N.length) vs H Q E) : tS C A d { nx := fun _ H' => Q .non H', rt := Q } (start N vs) H := by
  obtain ⟨ts, M, rho, fr, hm, nd, rt, hl, t, M', e, k⟩ := h
  refine ⟨rho, fr, ⟨ts.map some ++ List.replicate (N.length - ts.length) none, M⟩, ⟨?_, hm, nd⟩, ?_⟩
  · unfold L2.start
    rw [← rt.length]
    exact rt.slots
  · unfold runB at e
    split at e
    · rename_i s' z
      cases e
      rw [z]
      exact fun rho' own' sg' H' n _ => k rho' H' .non [] ⟨n.rel.mem, n.pre, by have h := (List.nodup_append.mp n.rel.nd).1; simpa using h, n.kp.mono (fun _ z => z) fun b hb => by
        rw [List.append_nil] at hb ⊢
        exact List.mem_append_left _ hb⟩ r0_non
    · rename_i t' M'' z
      cases e
      rw [z]
      exact fun rho' H' v fr' n r => k rho' H' v fr' n r
    · cases e
    · cases e
/-- from a callee back to the caller -/
theorem Nxt.back {C : Cf} {rho own rho1 own1 fr rho2 fr2 : List Addr} {s s1 : S} {sg : L2.St} {H H1 H2 : Hp} {M' : List Ob} (n : Nxt C rho own H rho1 own1 s1 sg H1 fr) (hf : ∀ a ∈ fr, ∃ o, H1 a = some o ∧ ¬ Still o) (m : NxtR C rho1 fr H1 rho2 M' H2 fr2) : Nxt C rho own H rho2 own1 ⟨s1.sg, M'⟩ sg H2 fr2 := by
  have hr := mem_at n.rel.mem
  have up : Up rho1 H1 rho2 H2 := ⟨m.pre, fun b o e st => (m.kp b o e fun hb => by
    rcases List.mem_append.mp hb with h | h
    · obtain ⟨o', e', n'⟩ := hr b h
      rw [e] at e'; cases e'; exact n' st
    · obtain ⟨o', e', n'⟩ := hf b h
      rw [e] at e'; cases e'; exact n' st).1⟩
  have ndn := List.nodup_append.mp n.nd
  have outO : ∀ a ∈ own1, a ∉ rho1 ++ fr := fun a ha hb => by
    rcases List.mem_append.mp hb with h | h
    · exact (List.nodup_append.mp ndn.1).2.2 a h a ha rfl
    · exact ndn.2.2 a (List.mem_append_right _ ha) a h rfl
  have keep : ∀ a ∈ own1, ∀ o, H1 a = some o → H2 a = some o ∧ a ∉ rho2 ++ fr2 := fun a ha o e => m.kp a o e (outO a ha)
  have keep2 : ∀ a ∈ own1, a ∉ rho2 ++ fr2 := fun a ha => by
    obtain ⟨o, e, _⟩ := n.rel.sl.at a ha
    exact (keep a ha o e).2
  have ndm := List.nodup_append.mp m.nd
  have ndr : (rho2 ++ own1).Nodup := by
    rw [List.nodup_append]
    refine ⟨ndm.1, (List.nodup_append.mp ndn.1).2.1, fun a ha b hb e => ?_⟩
    subst e
    exact keep2 a hb (List.mem_append_left _ ha)
  refine ⟨⟨n.rel.sl.up up fun a ha o e => (keep a ha o e).1, m.mem, ndr⟩, n.pre.trans m.pre, ?_, fun b o e hb => ?_⟩
  · rw [List.nodup_append]
    refine ⟨ndr, ndm.2.1, fun a ha b hb e => ?_⟩
    subst e
    rcases List.mem_append.mp ha with h | h
    · exact ndm.2.2 a h a hb rfl
    · exact keep2 a h (List.mem_append_right _ hb)
  · obtain ⟨e1, z1⟩ := n.kp b o e hb
    have z2 : b ∉ rho1 ++ fr := fun h => z1 (by
      rcases List.mem_append.mp h with h | h
      · exact List.mem_append_left _ (List.mem_append_left _ h)
      · exact List.mem_append_right _ h)
    obtain ⟨e2, z3⟩ := m.kp b o e1 z2
    refine ⟨e2, fun h => ?_⟩
    rcases List.mem_append.mp h with h | h
    · rcases List.mem_append.mp h with h | h
      · exact z3 (List.mem_append_left _ h)
      · exact z1 (List.mem_append_left _ (List.mem_append_right _ h))
    · exact z3 (List.mem_append_right _ h)
@[simp] def Res.out (sg : List (Option T)) : Res → Out T
  | .ok t M => .ok t ⟨sg, M⟩
  | .ex x M => .ex x ⟨sg, M⟩
  | .bad => .bad
/-- f(..): the arguments, the defaults behind -/
@[simp] def dcall (f : List T → List Ob → Res) (np : Nat) (ds : List DE) (dfl : List W) : DE := fun s => (dTs ds s).bind fun ts s => if (ts ++ dfl.map T.w).length = np then (f (ts ++ dfl.map T.w) s.M).out s.sg else .bad
theorem call_ok {C : Cf} {f : List T → List Ob → Res} {np : Nat} {ds : List DE} {dfl : List W} {dvs : List V} {sg : L2.St} {H : Hp} {Q : VK} (hd : ∀ rho H, RWs C rho H dfl dvs) (q : tE C (dcall f np ds dfl) sg H Q) : tCall (spD C np f) dvs E0 (tTs C (dTs ds)) sg H Q := by
  obtain ⟨rho, own, s, r, t, s', e, k⟩ := q
  obtain ⟨ts, s1, e1, e⟩ := bind_ok e
  split at e
  · rename_i hl
    refine ⟨rho, own, s, r, ts, s1, e1, fun rho1 own1 H1 vs fr n rt => ?_⟩
    have rt2 := rt.app (hd rho1 H1)
    have nd : (rho1 ++ fr).Nodup := by
      have p : (rho1 ++ own1 ++ fr).Perm (own1 ++ (rho1 ++ fr)) := by
        rw [List.perm_iff_count]; intro x; simp only [List.count_append]; omega
      exact (List.nodup_append.mp (p.nodup n.nd)).2.1
    cases z : f (ts ++ dfl.map T.w) s1.M with
    | ok t2 M2 =>
      rw [z] at e
      simp only [Res.out, Out.ok.injEq] at e
      obtain ⟨rfl, rfl⟩ := e
      exact ⟨_, s1.M, rho1, fr, n.rel.mem, nd, rt2, hl, t2, M2, z, fun rho2 H2 v fr2 m r2 => k rho2 own1 H2 v fr2 (n.back (s := s) rt.at m) (RT.of0 r2)⟩
    | ex x M => rw [z] at e; cases e
    | bad => rw [z] at e; cases e
  · cases e
theorem call_ok0 {C : Cf} {f : List T → List Ob → Res} {np : Nat} {dfl : List W} {dvs : List V} {sg : L2.St} {H : Hp} {Q : VK} (hd : ∀ rho H, RWs C rho H dfl dvs) (q : tE C (dcall f np [] dfl) sg H Q) : tCall (spD C np f) dvs E0 tNil sg H Q := by
  obtain ⟨rho, own, s, r, ts, s1, e1, h⟩ := call_ok hd q
  simp only [dTs, Out.ok.injEq] at e1
  obtain ⟨rfl, rfl⟩ := e1
  exact h rho own H [] [] (Nxt.refl r) ⟨rfl, rfl⟩
end Rk

/-! Rk17: calls with keywords. -/
namespace Rk
open PySem PySem.Spec PyProof.Rows L2

def pick {A : Type} (pm : List Nat) (l : List A) : List A := pm.filterMap (l[·]?)
theorem pick_rel {C : Cf} {rho : List Addr} {H : Hp} {xs : List W} {vs : List V} (h : RWs C rho H xs vs) : ∀ pm : List Nat, RWs C rho H (pick pm xs) (pick pm vs)
  | [] => rfl
  | i :: pm => by
    have ih := pick_rel h pm
    unfold pick at ih ⊢
    cases z : xs[i]? with
    | none =>
      have z2 : vs[i]? = none := by rw [List.getElem?_eq_none_iff, ← h.length]; exact List.getElem?_eq_none_iff.mp z
      rw [List.filterMap_cons, List.filterMap_cons, z, z2]
      exact ih
    | some x =>
      obtain ⟨v, z2, r⟩ := h.get z
      rw [List.filterMap_cons, List.filterMap_cons, z, z2]
      simp only [RWs]
      exact ⟨v, _, rfl, r, ih⟩
theorem pick_vals {vs : List V} {us : List Value} (h : Vals vs us) : ∀ pm : List Nat, Vals (pick pm vs) (pick pm us)
  | [] => .nil
  | i :: pm => by
    have ih := pick_vals h pm
    unfold pick at ih ⊢
    cases z : vs[i]? with
    | none =>
      have z2 : us[i]? = none := by rw [List.getElem?_eq_none_iff, ← h.length]; exact List.getElem?_eq_none_iff.mp z
      rw [List.filterMap_cons, List.filterMap_cons, z, z2]
      exact ih
    | some x =>
      obtain ⟨v, z2, r⟩ := h.get z
      rw [List.filterMap_cons, List.filterMap_cons, z, z2]
      exact .cons r ih
theorem PK.weak {X : Cx} {kws : List Keyword} {t t' : TA} (h : PK X kws t) (w : ∀ sg H Q, t' sg H Q → t sg H Q) : PK X kws t' := ⟨fun pos pins s sg H Q I q => h.run pos pins s sg H Q I (w sg H Q q)⟩
theorem RWs.ts {C : Cf} {rho : List Addr} {H : Hp} : ∀ {xs : List W} {vs : List V}, RWs C rho H xs vs → RTs C rho H (xs.map T.w) vs []
  | [], vs, h => ⟨by simpa only [RWs] using h, rfl⟩
  | x :: xs, vs, h => by
    simp only [RWs] at h
    obtain ⟨v, ys, rfl, r, t⟩ := h
    exact ⟨v, ys, [], [], rfl, rfl, ⟨r, rfl⟩, RWs.ts t⟩
section
variable {X : Cx} {C : Cf} {k : Nat} {fa : Addr} {fd : FuncData} {ps ks : List Str} {dvs : List V} {ds : List Value} {x : Str} {p pos kpos : Pos} {e : Expr} {es : List Expr} {kws : List Keyword} {f : List T → List Ob → Res} {np : Nat} {d : DE} {da dk : List DE} {dfl : List W} {pm : List Nat} {nm : Option Str}
theorem pk_Ws0 : PK X [] (tWs C (dWs [])) := PK.weak pk_nil fun sg H Q q => by
  obtain ⟨rho, own, s, r, x, s', e, k⟩ := q
  cases e
  exact k rho own H [] (Nxt.refl r) rfl
theorem pk_Ws (h : PE X e (tE C d)) (hr : PK X kws (tWs C (dWs dk))) : PK X (⟨nm, e, kpos⟩ :: kws) (tWs C (dWs (d :: dk))) := PK.weak (pk_cons (pe_W h) hr) fun sg H Q q => by
  obtain ⟨rho, own, s, r, xs, s', e, k⟩ := q
  obtain ⟨x, s1, e1, e2⟩ := bind_ok e
  obtain ⟨ys, s2, e4, e3⟩ := bind_ok e2
  simp only [Out.ok.injEq] at e3
  obtain ⟨rfl, rfl⟩ := e3
  refine ⟨rho, own, s, r, x, s1, e1, fun rho1 own1 H1 v n1 r1 => ⟨rho1, own1, s1, n1.rel, ys, _, e4, fun rho2 own2 H2 vs n2 r2 => ?_⟩⟩
  refine k rho2 own2 H2 (v :: vs) (n1.trans n2) ?_
  simp only [RWs]
  exact ⟨v, vs, rfl, r1.up (n2.up n1.rel), r2⟩
@[simp] def dcallK (f : List T → List Ob → Res) (np : Nat) (da dk : List DE) (pm : List Nat) (dfl : List W) : DE := fun s => (dWs da s).bind fun xs s => (dWs dk s).bind fun ys s =>
  if xs.length = da.length ∧ ys.length = dk.length ∧ (pick pm (xs ++ ys ++ dfl)).length = np then (f ((pick pm (xs ++ ys ++ dfl)).map T.w) s.M).out s.sg else .bad
theorem callK_ok {s1 s2 : S} {rho own rho1 own1 : List Addr} {sg : L2.St} {H H1 : Hp} {Q : VK} {zs : List W} {vs : List V} {t : T} (n : Nxt C rho own H rho1 own1 s1 sg H1 []) (rz : RWs C rho1 H1 zs vs) (hl : zs.length = np) (e : (f (zs.map T.w) s1.M).out s1.sg = .ok t s2)
    (k : ∀ rho' own' H' v fr, Nxt C rho own H rho' own' s2 sg H' fr → RT C rho' H' sg t v fr → Q v H') : spD C np f vs H1 Q E0 := by
  cases z : f (zs.map T.w) s1.M with
  | ok t2 M2 =>
    rw [z] at e
    simp only [Res.out, Out.ok.injEq] at e
    obtain ⟨rfl, rfl⟩ := e
    refine ⟨_, s1.M, rho1, [], n.rel.mem, by have h := (List.nodup_append.mp n.rel.nd).1; simpa using h, rz.ts, by simpa using hl, t2, M2, z, fun rho2 H2 v fr2 m r2 => k rho2 own1 H2 v fr2 (n.back (s := s1) (fun _ z => nomatch z) m) (RT.of0 r2)⟩
  | ex x M => rw [z] at e; cases e
  | bad => rw [z] at e; cases e
theorem pe_callKG (F : FnG X.prog X.w X.K X.mg X.base k fa fd ps (spD C np f)) (hr : Room k X.A) (hgd : X.A.guards = some []) (hg : Gl X x) (hm : X.mg x = some (.ref fa)) (hk : PySem.W.keepIn X.K (.ref fa) = true) (hd : Vals dvs ds) (hdW : ∀ rho H, RWs C rho H dfl dvs)
    (hb : ∀ (s : Shared) (us ws : List Value), X.K.In s.heap → us.length = da.length → ws.length = dk.length → (pick pm (us ++ ws ++ ds)).length = ps.length → BindsTo s fd ⟨us, ks.zip ws⟩ (ps.zip (pick pm (us ++ ws ++ ds))))
    (ha : PA X (e :: es) (tWs C (dWs da))) (hkw : PK X kws (tWs C (dWs dk))) (hall : (backToKw pos (keywordEach kws X.env)).all (·.1.isSome) = true) (hks : (backToKw pos (keywordEach kws X.env)).filterMap (·.1) = ks)
    (hdb : (x == ("__debug__" : Str)) = false) (he : starEach (e :: es) X.env = (false, eval e X.env) :: starEach es X.env)
    (hpl : ((backTo pos (starEach (e :: es) X.env)).any (·.1) || (backToKw pos (keywordEach kws X.env)).any (·.1.isNone)) = false) :
    PE X (.Call (.Name x p) (e :: es) kws pos) (tE C (dcallK f np da dk pm dfl)) := by
  refine ⟨fun pins ss sg H Q I q => ?_⟩
  obtain ⟨rho, own, s, r, t, s', e, k⟩ := q
  obtain ⟨xs, s1, e1, e⟩ := bind_ok e
  obtain ⟨ys, s2, e2, e⟩ := bind_ok e
  split at e
  · rename_i hl
    have hA := ha.run pos pins ss sg H (fun vs H1 => ∃ rho1 own1, Nxt C rho own H rho1 own1 s1 sg H1 [] ∧ RWs C rho1 H1 xs vs) I ⟨rho, own, s, r, xs, s1, e1, fun rho1 own1 H1 vs n1 r1 => ⟨rho1, own1, n1, r1⟩⟩
    refine wpAny_Call_Name_kw (ld_glob I hg hm (PySem.W.callWith_KW (h₀ := X.base) I.ok.mod.kin hk hall (thn hA fun us s3 ⟨vs, H1, I1, rv, q⟩ => ?b) hpl he) hdb)
    case b =>
      obtain ⟨rho1, own1, n1, r1⟩ := q
      have hB := hkw.run pos pins s3 sg H1 (fun zs H2 => ∃ rho2 own2, Nxt C rho1 own1 H1 rho2 own2 s2 sg H2 [] ∧ RWs C rho2 H2 ys zs) I1 ⟨rho1, own1, s1, n1.rel, ys, s2, e2, fun rho2 own2 H2 ws n2 r2 => ⟨rho2, own2, n2, r2⟩⟩
      refine thn hB fun ws s4 ⟨zs, H2, I2, rz, q2⟩ => ⟨I2.kIn, ?d⟩
      case d =>
        obtain ⟨rho2, own2, n2, r2⟩ := q2
        rw [hks]
        have r3 := pick_rel ((RWs.append (r1.up (n2.up n1.rel)) r2).append (hdW rho2 H2)) pm
        have v3 := pick_vals ((rv.append rz).append hd) pm
        exact fnG_go (args := ⟨us, ks.zip ws⟩) F hr hgd (hb s4 us ws I2.kIn (by rw [← rv.length, ← r1.length]; exact hl.1) (by rw [← rz.length, ← r2.length]; exact hl.2.1) (by
          rw [← v3.length]
          exact F.len _ _ _ _ (callK_ok (n1.trans n2) r3 hl.2.2 e k))) I2 v3 (callK_ok (n1.trans n2) r3 hl.2.2 e k)
  · cases e
theorem pe_callKG0 (F : FnG X.prog X.w X.K X.mg X.base k fa fd ps (spD C np f)) (hr : Room k X.A) (hgd : X.A.guards = some []) (hg : Gl X x) (hm : X.mg x = some (.ref fa)) (hk : PySem.W.keepIn X.K (.ref fa) = true) (hd : Vals dvs ds) (hdW : ∀ rho H, RWs C rho H dfl dvs)
    (hb : ∀ (s : Shared) (us ws : List Value), X.K.In s.heap → us.length = 0 → ws.length = dk.length → (pick pm (us ++ ws ++ ds)).length = ps.length → BindsTo s fd ⟨us, ks.zip ws⟩ (ps.zip (pick pm (us ++ ws ++ ds))))
    (hkw : PK X kws (tWs C (dWs dk))) (hall : (backToKw pos (keywordEach kws X.env)).all (·.1.isSome) = true) (hks : (backToKw pos (keywordEach kws X.env)).filterMap (·.1) = ks)
    (hdb : (x == ("__debug__" : Str)) = false) (hpl : ((backTo pos (starEach [] X.env)).any (·.1) || (backToKw pos (keywordEach kws X.env)).any (·.1.isNone)) = false) :
    PE X (.Call (.Name x p) [] kws pos) (tE C (dcallK f np [] dk pm dfl)) := by
  refine ⟨fun pins ss sg H Q I q => ?_⟩
  obtain ⟨rho, own, s, r, t, s', e, k⟩ := q
  obtain ⟨xs, s1, e1, e⟩ := bind_ok e
  cases e1
  obtain ⟨ys, s2, e2, e⟩ := bind_ok e
  split at e
  · rename_i hl
    have hB := hkw.run pos pins ss sg H (fun zs H2 => ∃ rho2 own2, Nxt C rho own H rho2 own2 s2 sg H2 [] ∧ RWs C rho2 H2 ys zs) I ⟨rho, own, s, r, ys, s2, e2, fun rho2 own2 H2 ws n2 r2 => ⟨rho2, own2, n2, r2⟩⟩
    refine wpAny_Call_Name_kw (ld_glob I hg hm (PySem.W.callWith_KW0 (h₀ := X.base) I.ok.mod.kin hk hall (thn hB fun ws s4 ⟨zs, H2, I2, rz, q2⟩ => ⟨I2.kIn, ?d⟩) hpl) hdb)
    case d =>
      obtain ⟨rho2, own2, n2, r2⟩ := q2
      rw [hks]
      have r3 := pick_rel (RWs.append (xs := []) (vs := []) rfl r2 |>.append (hdW rho2 H2)) pm
      have v3 := pick_vals ((Vals.append .nil rz).append hd) pm
      exact fnG_go (args := ⟨[], ks.zip ws⟩) F hr hgd (hb s4 [] ws I2.kIn rfl (by rw [← rz.length, ← r2.length]; exact hl.2.1) (by
        rw [← v3.length]
        exact F.len _ _ _ _ (callK_ok n2 r3 hl.2.2 e k))) I2 v3 (callK_ok n2 r3 hl.2.2 e k)
  · cases e
end
end Rk

/-! Rk18: what the text's form tells at once; the compiler's frame. -/
namespace Rk
open PySem PySem.Spec PyProof.Rows L2

/-! ### forms -/
def noStar : Expr → Bool
  | .Starred .. => false
  | _ => true
theorem star_ok {e : Expr} {es : List Expr} {env : Env} (h : noStar e = true) : starEach (e :: es) env = (false, eval e env) :: starEach es env := by
  cases e <;> first | rfl | cases h
theorem back_ok {pos : Pos} {env : Env} : ∀ {es : List Expr}, es.all noStar = true → (backTo pos (starEach es env)).any (·.1) = false
  | [], _ => rfl
  | e :: es, h => by
    simp only [List.all_cons, Bool.and_eq_true] at h
    rw [star_ok h.1]
    exact back_ok (es := es) h.2
theorem few_ok {pos : Pos} {env : Env} : ∀ {es : List Expr}, es.all noStar = true → (backTo pos (starEach es env)).all (fun x => !x.1) = true
  | [], _ => rfl
  | e :: es, h => by
    simp only [List.all_cons, Bool.and_eq_true] at h
    rw [star_ok h.1]
    exact few_ok (es := es) h.2
theorem asg_one {e : Expr} {es : List Expr} {env : Env} (h : noStar e = true) : assignEach (e :: es) env = (false, assign e env) :: assignEach es env := by
  cases e <;> first | rfl | cases h
theorem asg_len {env : Env} : ∀ {es : List Expr}, es.all noStar = true → (assignEach es env).length = es.length ∧ (assignEach es env).findIdx? (·.1) = none
  | [], _ => ⟨rfl, rfl⟩
  | e :: es, h => by
    simp only [List.all_cons, Bool.and_eq_true] at h
    rw [asg_one h.1]
    obtain ⟨h1, h2⟩ := asg_len (env := env) (es := es) h.2
    refine ⟨by rw [List.length_cons, h1, List.length_cons], ?_⟩
    rw [List.findIdx?_cons, h2]
    rfl
def plainSub : Expr → Bool
  | .Slice .. => false
  | _ => true
theorem plain_ix {e : Expr} (h : plainSub e = true) : PlainIx e := by
  intro o i
  cases e <;> first | rfl | cases h
def isComp : Expr → Bool
  | .ListComp .. => true
  | .SetComp .. => true
  | .DictComp .. => true
  | _ => false
theorem swaps_no {e : Expr} {t : Option Expr} {l : Nat} {env : Env} (h : isComp e = false) : swapsWith e t l env = pure false := by
  cases e <;> first | rfl | cases h
theorem swapsS_no {e : Expr} {t : Expr} {l : Nat} {env : Env} (h : isComp e = false) : swapsWithSole [t] e l env = pure false := swaps_no h
def notSetE : Expr → Bool
  | .Set .. => false
  | _ => true
theorem set_no {e : Expr} {env : Env} {x : Value} (h : notSetE e = true) : foldedSetIterable e env x = pure x := by
  cases e <;> first | rfl | cases h
theorem marks_no {e : Expr} {op : CmpOp} (h : notSetE e = true) : behindInMarks op e = false := by
  cases e <;> first | rfl | cases h
def noCall : Expr → Bool
  | .Call .. => false
  | _ => true
theorem base_no {e : Expr} {m : Str} {env : Env} (h : noCall e = true) : attributeBase e m env (eval e env) = eval e env := by
  cases e <;> first | rfl | cases h
def plainT : Expr → Bool
  | .UnaryOp .Not _ _ => false
  | .BoolOp .. => false
  | .IfExp .. => false
  | .Compare .. => false
  | _ => true
theorem plain_true {e : Expr} {env : Env} (h : plainT e = true) (whole : Sem Value) : isTrue e env whole = (do let v ← whole; standAt e.pos; holding [v] (truthy v)) := by
  cases e with
  | UnaryOp op a p => cases op <;> first | rfl | cases h
  | BoolOp => cases h
  | IfExp => cases h
  | Compare => cases h
  | _ => rfl
def plainTg : Expr → Bool
  | .Tuple .. => false
  | _ => true
theorem never {X : Cx} {e : Expr} {C : Cf} : PE X e (tE C fun _ => .bad) := ⟨fun _ _ _ _ _ _ h => by obtain ⟨_, _, _, _, _, _, e, _⟩ := h; cases e⟩
theorem neverB {X : Cx} {e : Expr} {C : Cf} : PT X e (tB C fun _ => .bad) := ⟨fun _ _ _ _ _ _ h => by obtain ⟨_, _, _, _, _, _, e, _⟩ := h; cases e⟩
theorem neverG {X : Cx} {e : Expr} {C : Cf} {A : List Nat} : PG X e (tG C A fun _ _ => .bad) := ⟨fun _ _ _ _ _ _ _ _ _ h => by obtain ⟨_, _, _, _, _, _, _, _, e, _⟩ := h; cases e⟩
theorem neverI {X : Cx} {tg e : Expr} {C : Cf} {D : List Nat} : PI X tg e (tI C D fun _ => .bad) := ⟨fun _ _ _ _ _ _ h => by obtain ⟨_, _, _, _, _, _, e, _⟩ := h; cases e⟩
theorem neverA {X : Cx} {es : List Expr} {C : Cf} : PA X es (tEs C fun _ => .bad) := ⟨fun _ _ _ _ _ _ _ h => by obtain ⟨_, _, _, _, _, _, e, _⟩ := h; cases e⟩
theorem neverR {X : Cx} {e : Expr} {C : Cf} : PRg X e (tR C fun _ => .bad) := fun _ _ _ _ _ _ h => by obtain ⟨_, _, _, _, _, _, e, _⟩ := h; cases e
theorem neverO {X : Cx} {e : Option Expr} {C : Cf} : PO X e (tO C fun _ => .bad) := ⟨fun _ _ _ _ _ _ h => by obtain ⟨_, _, _, _, _, _, e, _⟩ := h; cases e⟩

/-! ### the compiler's frame -/
/-- the built-ins that are known -/
inductive Bi where
  | abs | all | any | sum | len | min | max | int | str | repr | tuple | list | isinstance | range | enumerate | zip | sorted | bool | dict
  deriving DecidableEq
def Bi.name : Bi → Str
  | .abs => "abs" | .all => "all" | .any => "any" | .sum => "sum" | .len => "len" | .min => "min" | .max => "max" | .int => "int" | .str => "str" | .repr => "repr" | .tuple => "tuple" | .list => "list"
  | .isinstance => "isinstance" | .range => "range" | .enumerate => "enumerate" | .zip => "zip" | .sorted => "sorted" | .bool => "bool" | .dict => "dict"
def Bi.val : Bi → Value
  | .abs => .builtin "abs" | .all => .builtin "all" | .any => .builtin "any" | .sum => .builtin "sum" | .len => .builtin "len" | .min => .builtin "min" | .max => .builtin "max" | .int => .type "int" | .str => .type "str"
  | .repr => .builtin "repr" | .tuple => .type "tuple" | .list => .type "list" | .isinstance => .builtin "isinstance" | .range => .type "range" | .enumerate => .type "enumerate" | .zip => .type "zip" | .sorted => .builtin "sorted" | .bool => .type "bool" | .dict => .type "dict"
theorem Bi.boot (b : Bi) : bootBuiltins b.name = some b.val := by
  cases b
  · exact PyProof.Rows.boot_abs
  · exact PyProof.Rows.boot_all
  · exact PyProof.Rows.boot_any
  · exact PyProof.Rows.boot_sum
  · exact boot_len
  · exact PyProof.Rows.boot_min
  · exact PyProof.Rows.boot_max
  · exact PyProof.Rows.boot_int
  · exact PyProof.Rows.boot_str
  · exact PyProof.Rows.boot_repr
  · exact PyProof.Rows.boot_tuple
  · exact PyProof.Rows.boot_list
  · exact PyProof.Rows.boot_isinstance
  · exact PyProof.Rows.boot_range
  · exact PyProof.Rows.boot_enumerate
  · exact PyProof.Rows.boot_zip
  · exact PyProof.Rows.boot_sorted
  · exact PyProof.Rows.boot_bool
  · exact PyProof.Rows.boot_dict
theorem Bi.plain (b : Bi) : (b.name == ("__debug__" : Str)) = false ∧ b.name ≠ "__name__" := by cases b <;> decide +kernel
/-- what a global name stands for -/
inductive Gk where
  | fn (i : Nat) | bi (b : Bi) | con (x : W)
/-- a def's form: its parameters' number, its defaults; the calls with keywords: how many positional, the names, the places -/
structure Sig where
  ps : List Str
  dfl : List W
  kws : List (Nat × List Str × List Nat)
def Sig.np (g : Sig) : Nat := g.ps.length
structure GT where
  gl : List (Str × Gk)
  sg : List Sig
/-- a block: its names' places, its scope; top: a def's body itself -/
structure SE where
  N : List Str
  sc : Scope
  top : Bool
/-- a def of the table, as it stands behind the top -/
structure FnAt (O : Orc) (C : Cf) (P : Program) (w : World) (K : PySem.W.Frag) (mg : Str → Option Value) (base : Heap) (lv : Nat) (x : Str) (i : Nat) (g : Sig) : Prop where
  ex : ∃ (f : Addr) (fd : FuncData) (ds : List Value) (dvs : List V), mg x = some (.ref f) ∧ PySem.W.keepIn K (.ref f) = true ∧ FnG P w K mg base lv f fd g.ps (spD C g.np (O.fn i)) ∧
    Vals dvs ds ∧ (∀ rho H, RWs C rho H g.dfl dvs) ∧ (∀ (m : Nat), m ≤ g.dfl.length → Binds K fd g.ps (ds.drop m)) ∧
    (∀ q ∈ g.kws, ∀ (s : Shared) (us ws : List Value), K.In s.heap → us.length = q.1 → ws.length = q.2.1.length → (pick q.2.2 (us ++ ws ++ ds)).length = g.ps.length → BindsTo s fd ⟨us, q.2.1.zip ws⟩ (g.ps.zip (pick q.2.2 (us ++ ws ++ ds))))
  dbg : (x == ("__debug__" : Str)) = false
structure ConAt (C : Cf) (mg : Str → Option Value) (x : Str) (y : W) : Prop where
  ex : ∃ u v, mg x = some u ∧ RelV v u ∧ ∀ rho H, RW C rho H y v
  dbg : (x == ("__debug__" : Str)) = false
def GkOk (O : Orc) (C : Cf) (G : GT) (P : Program) (w : World) (K : PySem.W.Frag) (mg : Str → Option Value) (base : Heap) (lv : Nat) (x : Str) : Gk → Prop
  | .fn i => ∀ g, G.sg[i]? = some g → FnAt O C P w K mg base lv x i g
  | .bi b => x = b.name ∧ mg x = none
  | .con y => ConAt C mg x y
structure Good (O : Orc) (C : Cf) (G : GT) (X : Cx) (E : SE) : Prop where
  K : C.K = X.K
  N : X.N = E.N
  nd : E.N.Nodup
  sc : X.env.scope = E.sc
  kd : E.sc.kind = .function
  calm : X.calm = true
  gd : X.A.guards = some []
  un : X.A.units + 200 < cLine
  xe : X.xe = fun _ _ => False
  fnl : E.top = true → ∀ x, X.fn x = true
  gl : ∃ lv, Room lv X.A ∧ ∀ x k, G.gl.lookup x = some k → GkOk O C G X.prog X.w X.K X.mg X.base lv x k
section
variable {O : Orc} {C : Cf} {G : GT} {X : Cx} {E : SE}
theorem Good.un65 (g : Good O C G X E) : X.A.units + 65 < cLine := by have := g.un; omega
theorem Good.un100 (g : Good O C G X E) : X.A.units + 100 < cLine := by have := g.un; omega
theorem Good.hN (g : Good O C G X E) : X.N.Nodup := g.N ▸ g.nd
theorem Good.pass (g : Good O C G X E) : PassesOwn (model X.prog X.w) X.A X.env X.xe := by rw [g.xe]; exact .never
/-- a name's slot -/
def slotOf : List Str → Str → Option Nat
  | [], _ => none
  | y :: r, x => if y == x then some 0 else (slotOf r x).map (· + 1)
theorem slot_ok : ∀ {N : List Str} {x : Str} {i : Nat}, slotOf N x = some i → N[i]? = some x
  | [], x, i, h => by cases h
  | y :: r, x, i, h => by
    unfold slotOf at h
    split at h
    · rename_i e
      cases h
      simp [beq_iff_eq.mp e]
    · cases z : slotOf r x with
      | none => rw [z] at h; cases h
      | some j =>
        rw [z] at h
        cases h
        simpa using slot_ok z
def visB (sc : Scope) (x : Str) : Bool := match sc.names.lookup x with
  | some .local => true
  | some .cell => true
  | some .free => true
  | _ => false
theorem vis_ok {sc : Scope} {x : Str} (h : visB sc x = true) : Vis sc x := by
  unfold visB at h
  unfold Vis
  split at h
  · exact .inl ‹_›
  · exact .inr (.inl ‹_›)
  · exact .inr (.inr ‹_›)
  · cases h
/-- a name that may be stored -/
def locB (E : SE) (x : Str) : Bool := match E.sc.names.lookup x with
  | some .local => true
  | some .cell => E.top
  | _ => false
theorem loc_ok (g : Good O C G X E) {x : Str} (h : locB E x = true) : Loc X.env.scope x ∧ (X.fn x = true ∨ X.env.scope.names.lookup x = some .local) := by
  rw [g.sc]
  unfold locB at h
  split at h
  · exact ⟨.inl ‹_›, .inr ‹_›⟩
  · exact ⟨.inr ‹_›, .inl (g.fnl h x)⟩
  · cases h
def glB (E : SE) (x : Str) : Bool := match E.sc.names.lookup x with
  | some .globalImplicit => true
  | _ => false
theorem gl_ok (g : Good O C G X E) {x : Str} (h : glB E x = true) : Gl X x := by
  unfold glB at h
  unfold Gl Env.kindOf
  rw [g.sc]
  split at h
  · assumption
  · cases h
def nameB (x : Str) : Bool := !(x == ("__debug__" : Str)) && !(x == ("__classdict__" : Str))
theorem name_ok {x : Str} (h : nameB x = true) : (x == ("__debug__" : Str)) = false ∧ (x == ("__classdict__" : Str)) = false := by
  unfold nameB at h
  simp only [Bool.and_eq_true, Bool.not_eq_true'] at h
  exact h
end
/-- what compiles -/
structure Cs where
  A : List Nat
  d : DS
structure Cg where
  A : List Nat
  g : DG
structure Ci where
  D : List Nat
  i : DI
structure Cmp where
  e : SE → Expr → DE
  b : SE → Expr → DB
  s : SE → Stmt → Cs
  g : SE → Expr → Cg
@[simp] def bot : Cmp := ⟨fun _ _ _ => .bad, fun _ _ _ => .bad, fun _ _ => ⟨[], dnever⟩, fun _ _ => ⟨[], fun _ _ => .bad⟩⟩
structure Sound (O : Orc) (C : Cf) (G : GT) (c : Cmp) : Prop where
  e : ∀ {X : Cx} {E : SE}, Good O C G X E → ∀ x : Expr, PE X x (tE C (c.e E x))
  b : ∀ {X : Cx} {E : SE}, Good O C G X E → ∀ x : Expr, PT X x (tB C (c.b E x))
  s : ∀ {X : Cx} {E : SE}, Good O C G X E → ∀ x : Stmt, PS X x (tS C (c.s E x).A (c.s E x).d)
  g : ∀ {X : Cx} {E : SE}, Good O C G X E → ∀ x : Expr, PG X x (tG C (c.g E x).A (c.g E x).g)
theorem bot_ok {O : Orc} {C : Cf} {G : GT} : Sound O C G bot := ⟨fun _ _ => never, fun _ _ => neverB, fun _ _ => ps_dnever, fun _ _ => neverG⟩
end Rk

/-! Rk19: expressions are compiled. -/
namespace Rk
open PySem PySem.Spec PyProof.Rows L2

section
variable {O : Orc} {C : Cf} {G : GT} {X : Cx} {E : SE} {c : Cmp}
theorem es_Es (S : Sound O C G c) (g : Good O C G X E) : ∀ {es : List Expr}, es.all noStar = true → PA X es (tEs C (dEs (es.map (c.e E))))
  | [], _ => pa_Es0
  | e :: es, h => by
    simp only [List.all_cons, Bool.and_eq_true] at h
    exact pa_Es (S.e g e) (es_Es S g h.2) (star_ok h.1)
theorem es_Ts (S : Sound O C G c) (g : Good O C G X E) : ∀ {es : List Expr}, es.all noStar = true → PA X es (tTs C (dTs (es.map (c.e E))))
  | [], _ => pa_Ts0
  | e :: es, h => by
    simp only [List.all_cons, Bool.and_eq_true] at h
    exact pa_Ts (S.e g e) (es_Ts S g h.2) (star_ok h.1)
theorem es_Ws (S : Sound O C G c) (g : Good O C G X E) : ∀ {es : List Expr}, es.all noStar = true → PA X es (tWs C (dWs (es.map (c.e E))))
  | [], _ => pa_Ws0
  | e :: es, h => by
    simp only [List.all_cons, Bool.and_eq_true] at h
    exact pa_Ws (S.e g e) (es_Ws S g h.2) (star_ok h.1)
end
@[simp] def dbad : DE := fun _ => .bad
@[simp] def bbad : DB := fun _ => .bad
/-! ### constants, names -/
def cCon : Const → DE
  | .int i => dcon (.int i)
  | .str x => dcon (.str x)
  | .bool b => dcon (.bl b)
  | .none => dcon .non
  | _ => dbad
def Bi.ty : Bi → Option String
  | .int => some "int" | .str => some "str" | .tuple => some "tuple" | .list => some "list" | .bool => some "bool" | .dict => some "dict"
  | _ => none
def cName (G : GT) (E : SE) (x : Str) : DE := match slotOf E.N x with
  | some i => if visB E.sc x && nameB x then dvar i else dbad
  | none => if glB E x then (match G.gl.lookup x with
      | some (.con y) => dcon y
      | some (.bi b) => (match b.ty with
          | some t => dcon (.ty t)
          | none => dbad)
      | _ => dbad) else dbad
section
variable {O : Orc} {C : Cf} {G : GT} {X : Cx} {E : SE} {c : Cmp}
theorem con_ok {k : Const} {j : Nat} {p : Pos} : PE X (.Constant k j p) (tE C (cCon k)) := by
  cases k with
  | int i => exact pe_dcon pe_int fun _ _ => by simp only [RW]
  | str x => exact pe_dcon pe_str fun _ _ => by simp only [RW]
  | bool b => exact pe_dcon pe_bl fun _ _ => by simp only [RW]
  | none => exact pe_dcon pe_non fun _ _ => by simp only [RW]
  | _ => exact never
theorem Bi.ty_ok {b : Bi} {t : String} (h : b.ty = some t) : b.val = .type t := by cases b <;> simp only [Bi.ty, reduceCtorEq, Option.some.injEq] at h <;> subst h <;> rfl
theorem name_pe (g : Good O C G X E) {x : Str} {p : Pos} : PE X (.Name x p) (tE C (cName G E x)) := by
  unfold cName
  split
  · rename_i i hi
    split
    · rename_i h
      simp only [Bool.and_eq_true] at h
      exact pe_dvar (by rw [g.N]; exact slot_ok hi) (by rw [g.sc]; exact vis_ok h.1) (name_ok h.2).1 (name_ok h.2).2
    · exact never
  · split
    · rename_i h
      split
      · rename_i y hy
        obtain ⟨lv, hr, gl⟩ := g.gl
        obtain ⟨⟨u, v, h1, h2, h3⟩, h4⟩ := gl _ _ hy
        exact pe_dcon (pe_glob (gl_ok g h) h1 h2 h4) h3
      · rename_i b hb
        split
        · rename_i t ht
          obtain ⟨lv, hr, gl⟩ := g.gl
          obtain ⟨rfl, hm⟩ := gl _ _ hb
          exact pe_dcon (pe_bltn (v := .ty t) (gl_ok g h) hm (b.boot.trans (by rw [Bi.ty_ok ht])) rfl b.plain.2 b.plain.1) fun _ _ => by simp only [RW]
        · exact never
      · exact never
    · exact never
end

/-! ### and, or -/
def cBool (op : BoolOp) (f : Expr → DE) : List Expr → DE
  | [] => dbad
  | [a] => f a
  | a :: b :: r => (match op with
      | .And => dand (f a) (cBool op f (b :: r))
      | .Or => dor (f a) (cBool op f (b :: r)))
def cBoolB (op : BoolOp) (f : Expr → DB) : List Expr → DB
  | [] => bbad
  | [a] => f a
  | a :: b :: r => (match op with
      | .And => band (f a) (cBoolB op f (b :: r))
      | .Or => bor (f a) (cBoolB op f (b :: r)))
section
variable {O : Orc} {C : Cf} {G : GT} {X : Cx} {E : SE} {c : Cmp}
theorem bool_pe (S : Sound O C G c) (g : Good O C G X E) {op : BoolOp} {p : Pos} : ∀ {es : List Expr}, PE X (.BoolOp op es p) (tE C (cBool op (c.e E) es))
  | [] => never
  | [a] => pe_done (S.e g a)
  | a :: b :: r => by
    cases op with
    | And => exact pe_dand g.K (S.e g a) (bool_pe S g)
    | Or => exact pe_dor g.K (S.e g a) (bool_pe S g)
theorem neverW {e : Expr} : PW X e (tB C bbad) := ⟨fun _ _ _ _ _ _ _ h => by obtain ⟨_, _, _, _, _, _, e, _⟩ := h; cases e⟩
theorem bool_pw (S : Sound O C G c) (g : Good O C G X E) {op : BoolOp} {p : Pos} : ∀ {es : List Expr}, PW X (.BoolOp op es p) (tB C (cBoolB op (c.b E) es))
  | [] => neverW
  | [a] => pw_bone (S.b g a)
  | a :: b :: r => by
    cases op with
    | And => exact pw_band (S.b g a) (bool_pw S g)
    | Or => exact pw_bor (S.b g a) (bool_pw S g)
end

/-! ### what is walked -/
def nmSlot (E : SE) : Expr → Option Nat
  | .Name x _ => slotOf E.N x
  | _ => none
/-- a built-in that the block sees under the name -/
def biOf (G : GT) (E : SE) (x : Str) : Option Bi := if glB E x then (match G.gl.lookup x with
  | some (.bi b) => some b
  | _ => none) else none
def cR (G : GT) (E : SE) (f : Expr → DE) : Expr → Option DR
  | .Call (.Name x _) [a] [] _ => if biOf G E x = some .range && noStar a then some (dr1 (f a)) else none
  | .Call (.Name x _) [a, b] [] _ => if biOf G E x = some .range && noStar a && noStar b then some (dr2 (f a) (f b)) else none
  | _ => none
def cIb (G : GT) (E : SE) (f : Expr → DE) (tg : Expr) (b : Bi) (es : List Expr) : Option Ci := match b, es with
  | .range, [a] => if noStar a then some ⟨[], drgI (dr1 (f a))⟩ else none
  | .range, [a, b] => if noStar a && noStar b then some ⟨[], drgI (dr2 (f a) (f b))⟩ else none
  | .range, [a, b, c] => if noStar a && noStar b && noStar c then some ⟨[], drg3 (f a) (f b) (f c)⟩ else none
  | .enumerate, [a] => if noStar a && !plainTg tg then some ⟨(nmSlot E a).toList, denm (f a) (nmSlot E a)⟩ else none
  | .zip, [a, b] => if noStar a && noStar b && !plainTg tg then some ⟨(nmSlot E a).toList ++ (nmSlot E b).toList, dzip (f a) (f b) (nmSlot E a) (nmSlot E b)⟩ else none
  | _, _ => none
def cI (G : GT) (E : SE) (f : Expr → DE) (tg it : Expr) : Ci := match (match it with
    | .Call (.Name x _) es [] _ => (biOf G E x).bind fun b => cIb G E f tg b es
    | _ => none) with
  | some r => r
  | none => ⟨(nmSlot E it).toList, dwalk (f it) (nmSlot E it)⟩
section
variable {O : Orc} {C : Cf} {G : GT} {X : Cx} {E : SE} {c : Cmp}
theorem biOf_ok (g : Good O C G X E) {x : Str} {b : Bi} (h : biOf G E x = some b) : Gl X x ∧ x = b.name ∧ X.mg x = none := by
  unfold biOf at h
  split at h
  · rename_i h1
    split at h
    · rename_i h2
      cases h
      obtain ⟨lv, hr, gl⟩ := g.gl
      obtain ⟨h3, h4⟩ := gl _ _ h2
      exact ⟨gl_ok g h1, h3, h4⟩
    · cases h
  · cases h
theorem r_ok (S : Sound O C G c) (g : Good O C G X E) {e : Expr} {d : DR} (h : cR G E (c.e E) e = some d) : PRg X e (tR C d) := by
  unfold cR at h
  split at h
  · split at h
    · rename_i hc
      cases h
      simp only [Bool.and_eq_true, decide_eq_true_eq] at hc
      obtain ⟨h1, h2, h3⟩ := biOf_ok g hc.1
      subst h2
      exact prg_d1 h1 h3 (S.e g _) (star_ok hc.2)
    · cases h
  · split at h
    · rename_i hc
      cases h
      simp only [Bool.and_eq_true, decide_eq_true_eq] at hc
      obtain ⟨h1, h2, h3⟩ := biOf_ok g hc.1.1
      subst h2
      exact prg_d2 h1 h3 (S.e g _) (S.e g _) (star_ok hc.1.2) (star_ok hc.2) (back_ok (by simp [hc.2]))
    · cases h
  · cases h
theorem ib_ok (S : Sound O C G c) (g : Good O C G X E) {tg : Expr} {x : Str} {p pos : Pos} {b : Bi} {es : List Expr} {r : Ci} (hb : biOf G E x = some b) (h : cIb G E (c.e E) tg b es = some r) : PI X tg (.Call (.Name x p) es [] pos) (tI C r.D r.i) := by
  obtain ⟨h1, h2, h3⟩ := biOf_ok g hb
  subst h2
  unfold cIb at h
  split at h
  · split at h
    · rename_i hc
      cases h
      exact pi_dr1 h1 h3 (es_Es S g (es := [_]) (by simp [hc])) (star_ok hc)
    · cases h
  · split at h
    · rename_i hc
      cases h
      simp only [Bool.and_eq_true] at hc
      exact pi_dr2 h1 h3 (es_Es S g (es := [_, _]) (by simp [hc])) ((star_ok hc.1).trans (by rw [star_ok hc.2]; rfl)) (star_ok hc.2)
    · cases h
  · split at h
    · rename_i hc
      cases h
      simp only [Bool.and_eq_true] at hc
      exact pi_dr3 h1 h3 (es_Es S g (es := [_, _, _]) (by simp [hc])) (star_ok hc.1.1) (back_ok (by simp [hc]))
    · cases h
  · split at h
    · rename_i hc
      cases h
      simp only [Bool.and_eq_true, Bool.not_eq_true'] at hc
      cases tg with
      | Tuple es k p => exact pi_denm g.K _ h1 h3 (es_Es S g (es := [_]) (by simp [hc])) (star_ok hc.1)
      | _ => exact absurd hc.2 Bool.noConfusion
    · cases h
  · split at h
    · rename_i hc
      cases h
      simp only [Bool.and_eq_true, Bool.not_eq_true'] at hc
      cases tg with
      | Tuple es k p => exact pi_dzip g.K _ _ h1 h3 (es_Es S g (es := [_, _]) (by simp [hc])) (star_ok hc.1.1) (back_ok (by simp [hc]))
      | _ => exact absurd hc.2 Bool.noConfusion
    · cases h
  · cases h
theorem i_ok (S : Sound O C G c) (g : Good O C G X E) (tg it : Expr) : PI X tg it (tI C (cI G E (c.e E) tg it).D (cI G E (c.e E) tg it).i) := by
  unfold cI
  split
  · rename_i r h
    split at h
    · rename_i x p es pos
      cases hb : biOf G E x with
      | none => rw [hb] at h; cases h
      | some b =>
        rw [hb] at h
        exact ib_ok S g hb h
    · cases h
  · exact pi_walk g.K (S.e g it) _
end
end Rk

/-! Rk20: calls, items, comprehensions; expressions as a whole. -/
namespace Rk
open PySem PySem.Spec PyProof.Rows L2

/-! ### built-ins -/
def biF : Bi → Option (S → List T → Option T)
  | .abs => some bAbs
  | .all => some bAll
  | .any => some bAny
  | .sum => some bSum
  | .len => some bLen
  | .min => some fun s ts => if ts.length = 3 then none else bMin s ts
  | .max => some bMax
  | .int => some bInt
  | .str => some bStr
  | .repr => some bRepr
  | .tuple => some bTuple
  | .list => some bList
  | .isinstance => some bIsi
  | _ => none
def cBi (G : GT) (E : SE) (f : Expr → DE) (b : Bi) (es : List Expr) : DE := match es with
  | [] => dbad
  | e :: r => if (e :: r).all noStar then (match b, r, cR G E f e with
      | .list, [], some d => dlrg d
      | .tuple, [], some d => dtrg d
      | _, _, _ => (match biF b with
          | some h => dbi h ((e :: r).map f)
          | none => dbad)) else dbad
def cFn (O : Orc) (G : GT) (f : Expr → DE) (i : Nat) (es : List Expr) : DE := match G.sg[i]? with
  | some g => if es.all noStar && decide (es.length ≤ g.np) && decide (g.np ≤ es.length + g.dfl.length) then dcall (O.fn i) g.np (es.map f) (g.dfl.drop (es.length + g.dfl.length - g.np)) else dbad
  | none => dbad
def kwNames (kws : List Keyword) : Option (List Str) := kws.mapM (·.arg)
def cFnK (O : Orc) (G : GT) (f : Expr → DE) (i : Nat) (es : List Expr) (kws : List Keyword) : DE := match G.sg[i]?, kwNames kws with
  | some g, some ks => (match g.kws.find? fun q => q.1 == es.length && decide (q.2.1 = ks) with
      | some q => if es.all noStar then dcallK (O.fn i) g.np (es.map f) (kws.map fun k => f k.value) q.2.2 g.dfl else dbad
      | none => dbad)
  | _, _ => dbad
section
variable {O : Orc} {C : Cf} {G : GT} {X : Cx} {E : SE} {c : Cmp}
theorem biF_ok (g : Good O C G X E) {b : Bi} {f : S → List T → Option T} (h : biF b = some f) : CallR X b.val (rB C f) := by
  cases b <;> simp only [biF, reduceCtorEq, Option.some.injEq] at h
  · subst h; exact c_abs
  · subst h; exact c_all g.K g.calm
  · subst h; exact c_any g.K g.calm
  · subst h; exact c_sum g.K g.calm
  · subst h; exact c_len g.K
  · subst h; exact c_min g.K g.calm g.un65
  · subst h; exact c_max g.K g.calm g.un65
  · subst h; exact c_int
  · subst h; exact c_str
  · subst h; exact c_repr g.K g.un100 g.gd
  · subst h; exact c_tuple g.K
  · subst h; exact c_list g.K
  · subst h; exact c_isi g.K
theorem Bi.val_form (b : Bi) : (∃ id, b.val = .builtin id) ∨ ∃ id, b.val = .type id := by cases b <;> first | exact .inl ⟨_, rfl⟩ | exact .inr ⟨_, rfl⟩
theorem bi_pe (S : Sound O C G c) (g : Good O C G X E) {x : Str} {p pos : Pos} {b : Bi} {es : List Expr} (hb : biOf G E x = some b) : PE X (.Call (.Name x p) es [] pos) (tE C (cBi G E (c.e E) b es)) := by
  obtain ⟨h1, h2, h3⟩ := biOf_ok g hb
  subst h2
  unfold cBi
  split
  · exact never
  · rename_i e r
    split
    · rename_i hs
      have hs' := hs
      simp only [List.all_cons, Bool.and_eq_true] at hs'
      have gen : ∀ h, biF b = some h → PE X (.Call (.Name b.name p) (e :: r) [] pos) (tE C (dbi h ((e :: r).map (c.e E)))) := fun h hh => by
        have hc := biF_ok g hh
        rcases b.val_form with ⟨id, hv⟩ | ⟨id, hv⟩
        · rw [hv] at hc
          exact pe_bi hc h1 h3 (b.boot.trans (by rw [hv])) (es_Es S g hs) b.plain.2 b.plain.1 (star_ok hs'.1) (back_ok hs'.2)
        · rw [hv] at hc
          exact pe_bt hc h1 h3 (b.boot.trans (by rw [hv])) (es_Es S g hs) b.plain.2 b.plain.1 (star_ok hs'.1) (back_ok hs'.2)
      split
      · rename_i d hd
        exact pe_dlrg g.calm h1 h3 (r_ok S g hd) (star_ok hs'.1)
      · rename_i d hd
        exact pe_dtrg g.calm h1 h3 (r_ok S g hd) (star_ok hs'.1)
      · split
        · rename_i h hh
          exact gen h hh
        · exact never
    · exact never
/-- an own def that the block sees under the name -/
def fnOf (G : GT) (E : SE) (x : Str) : Option Nat := if glB E x then (match G.gl.lookup x with
  | some (.fn i) => some i
  | _ => none) else none
theorem fnOf_ok (g : Good O C G X E) {x : Str} {i : Nat} {sg : Sig} (h : Rk.fnOf G E x = some i) (hs : G.sg[i]? = some sg) : Gl X x ∧ ∃ lv, Room lv X.A ∧ FnAt O C X.prog X.w X.K X.mg X.base lv x i sg := by
  unfold Rk.fnOf at h
  split at h
  · rename_i h1
    split at h
    · rename_i h2
      cases h
      obtain ⟨lv, hr, gl⟩ := g.gl
      exact ⟨gl_ok g h1, lv, hr, gl _ _ h2 _ hs⟩
    · cases h
  · cases h
theorem RWs_drop {dfl : List W} {dvs : List V} (h : ∀ rho H, RWs C rho H dfl dvs) (m : Nat) : ∀ rho H, RWs C rho H (dfl.drop m) (dvs.drop m) := fun rho H => (h rho H).drop m
theorem Vals_drop {vs : List V} {us : List Value} (h : Vals vs us) : ∀ m, Vals (vs.drop m) (us.drop m) := by
  induction h with
  | nil => intro m; simp; exact .nil
  | cons r t ih =>
    intro m
    cases m with
    | zero => exact .cons r t
    | succ m => simpa using ih m
theorem fn_pe (S : Sound O C G c) (g : Good O C G X E) {x : Str} {p pos : Pos} {i : Nat} {es : List Expr} (h : Rk.fnOf G E x = some i) : PE X (.Call (.Name x p) es [] pos) (tE C (cFn O G (c.e E) i es)) := by
  unfold cFn
  split
  · rename_i sg hs
    split
    · rename_i hc
      simp only [Bool.and_eq_true, decide_eq_true_eq] at hc
      obtain ⟨⟨h1, h2⟩, h3⟩ := hc
      obtain ⟨hg, lv, hr, ⟨f, fd, ds, dvs, k1, k2, k3, k5, k6, k7, k8⟩, hd⟩ := fnOf_ok g h hs
      have hb := k7 (es.length + sg.dfl.length - sg.np) (by omega)
      cases es with
      | nil => exact (pe_callG0 k3 hr g.gd hg k1 k2 hb (Vals_drop k5 _) hd).weak fun _ _ _ q => call_ok0 (RWs_drop k6 _) q
      | cons e es =>
        have h1' := h1
        simp only [List.all_cons, Bool.and_eq_true] at h1'
        exact (pe_callG k3 hr g.gd hg k1 k2 hb (Vals_drop k5 _) (es_Ts S g h1) hd (star_ok h1'.1) (back_ok h1'.2)).weak fun _ _ _ q => call_ok (RWs_drop k6 _) q
    · exact never
  · exact never
theorem kw_pk (S : Sound O C G c) (g : Good O C G X E) : ∀ {kws : List Keyword}, PK X kws (tWs C (dWs (kws.map fun k => c.e E k.value)))
  | [] => pk_Ws0
  | ⟨n, v, p⟩ :: r => pk_Ws (S.e g v) (kw_pk S g)
theorem kw_names {pos : Pos} {env : Env} : ∀ {kws : List Keyword} {ks : List Str}, kwNames kws = some ks → (backToKw pos (keywordEach kws env)).all (·.1.isSome) = true ∧ (backToKw pos (keywordEach kws env)).filterMap (·.1) = ks ∧ (backToKw pos (keywordEach kws env)).any (·.1.isNone) = false ∧ ks.length = kws.length
  | [], ks, h => by
    simp [kwNames] at h
    subst h
    exact ⟨rfl, rfl, rfl, rfl⟩
  | ⟨n, v, p⟩ :: r, ks, h => by
    unfold kwNames at h
    rw [List.mapM_cons] at h
    cases n with
    | none => cases h
    | some n =>
      cases z : r.mapM (fun x : Keyword => x.arg) with
      | none =>
        rw [z] at h
        cases h
      | some ks' =>
        rw [z] at h
        cases h
        obtain ⟨h1, h2, h3, h4⟩ := kw_names (pos := pos) (env := env) (kws := r) (ks := ks') z
        refine ⟨?_, ?_, ?_, by simp [h4]⟩
        · show (true && (backToKw pos (keywordEach r env)).all (·.1.isSome)) = true
          rw [h1]; rfl
        · show n :: (backToKw pos (keywordEach r env)).filterMap (·.1) = n :: ks'
          rw [h2]
        · show (false || (backToKw pos (keywordEach r env)).any (·.1.isNone)) = false
          rw [h3]; rfl
theorem fnK_pe (S : Sound O C G c) (g : Good O C G X E) {x : Str} {p pos : Pos} {i : Nat} {es : List Expr} {kws : List Keyword} (h : Rk.fnOf G E x = some i) : PE X (.Call (.Name x p) es kws pos) (tE C (cFnK O G (c.e E) i es kws)) := by
  unfold cFnK
  split
  · rename_i sg ks hs hk
    split
    · rename_i q hq
      split
      · rename_i h1
        obtain ⟨hg, lv, hr, ⟨f, fd, ds, dvs, k1, k2, k3, k5, k6, k7, k8⟩, hd⟩ := fnOf_ok g h hs
        have q1 := List.find?_some hq
        have q2 := List.mem_of_find?_eq_some hq
        simp only [Bool.and_eq_true, beq_iff_eq, decide_eq_true_eq] at q1
        obtain ⟨q3, q4⟩ := q1
        obtain ⟨n1, n2, n3, n4⟩ := kw_names (pos := pos) (env := X.env) hk
        have hb : ∀ (s : Shared) (us ws : List Value), X.K.In s.heap → us.length = es.length → ws.length = (kws.map fun k => c.e E k.value).length → (pick q.2.2 (us ++ ws ++ ds)).length = sg.ps.length → BindsTo s fd ⟨us, ks.zip ws⟩ (sg.ps.zip (pick q.2.2 (us ++ ws ++ ds))) := fun s us ws hK hu hw hl => by
          rw [← q4]
          exact k8 q q2 s us ws hK (hu.trans q3.symm) (by rw [hw, q4, n4, List.length_map]) hl
        cases es with
        | nil => exact pe_callKG0 k3 hr g.gd hg k1 k2 k5 k6 hb (kw_pk S g) n1 n2 hd (by show (false || _) = false; rw [n3]; rfl)
        | cons e es =>
          have h1' := h1
          simp only [List.all_cons, Bool.and_eq_true] at h1'
          exact pe_callKG k3 hr g.gd hg k1 k2 k5 k6 (fun s us ws hK hu hw hl => hb s us ws hK (by rw [hu, List.length_map]) hw hl) (es_Ws S g h1) (kw_pk S g) n1 n2 hd (star_ok h1'.1) (by rw [back_ok h1, n3]; rfl)
      · exact never
    · exact never
  · exact never
end

/-! ### methods of lists -/
def cMt (f : Expr → DE) (o : Expr) (m : Str) (es : List Expr) : DE :=
  if noCall o && es.all noStar then
    (match es with
      | [] => if m == "pop" then dmt (f o) [] lmPop else dbad
      | [a] => if m == "append" then dmt (f o) [f a] lmApp else if m == "extend" then dext (f o) (f a) else if m == "pop" then dmt (f o) [f a] lmPopAt else dbad
      | _ => dbad) else dbad
section
variable {O : Orc} {C : Cf} {G : GT} {X : Cx} {E : SE} {c : Cmp}
theorem mt_pe (S : Sound O C G c) (g : Good O C G X E) {o : Expr} {m : Str} {ap cp : Pos} {es : List Expr} (hl : (ap.endLine == cp.line) = true) : PE X (.Call (.Attribute o m ap) es [] cp) (tE C (cMt (c.e E) o m es)) := by
  unfold cMt
  split
  · rename_i h
    simp only [Bool.and_eq_true] at h
    split
    · split
      · rename_i hm
        obtain rfl := beq_iff_eq.mp hm
        exact pe_dmt0 g.K F.slot_list_pop F.type_list_pop m_pop (S.e g o) (base_no h.1) hl
      · exact never
    · rename_i a
      have ha : noStar a = true := by simpa using h.2
      have hfew : ((backTo cp (starEach [a] X.env)).all (fun x => !x.1) && (backToKw cp (keywordEach [] X.env)).all (fun x => x.1.isSome)
          && decide ([a].length + ([] : List Keyword).length + (if ([] : List Keyword).isEmpty then 0 else 1) < 30)) = true := by
        rw [few_ok (by simp [ha])]; rfl
      split
      · rename_i hm
        obtain rfl := beq_iff_eq.mp hm
        exact pe_dmt g.K F.slot_list_append F.type_list_append m_app (S.e g o) (es_Ws S g (es := [a]) (by simp [ha])) (base_no h.1) hfew hl (star_ok ha) rfl
      · split
        · rename_i hm
          obtain rfl := beq_iff_eq.mp hm
          exact pe_dext g.K (S.e g o) (es_Es S g (es := [a]) (by simp [ha])) (base_no h.1) hfew hl (star_ok ha)
        · split
          · rename_i hm
            obtain rfl := beq_iff_eq.mp hm
            exact pe_dmt g.K F.slot_list_pop F.type_list_pop m_popAt (S.e g o) (es_Ws S g (es := [a]) (by simp [ha])) (base_no h.1) hfew hl (star_ok ha) rfl
          · exact never
    · exact never
  · exact never
end

/-! ### items -/
def cOpt (f : Expr → DE) : Option Expr → DO
  | none => dno
  | some e => dso (f e)
def cSub (f : Expr → DE) (a : Expr) : Expr → DE
  | .Slice lo hi none _ => dsl (f a) (cOpt f lo) (cOpt f hi)
  | .Slice none none (some (.UnaryOp .USub (.Constant (.int 1) _ _) _)) _ => drev (f a)
  | .Slice .. => dbad
  | b => dix (f a) (f b)
section
variable {O : Orc} {C : Cf} {G : GT} {X : Cx} {E : SE} {c : Cmp}
theorem opt_po (S : Sound O C G c) (g : Good O C G X E) : ∀ o : Option Expr, PO X o (tO C (cOpt (c.e E) o))
  | none => po_dno
  | some e => po_dso (S.e g e)
theorem sub_pe (S : Sound O C G c) (g : Good O C G X E) {a b : Expr} {p : Pos} : PE X (.Subscript a b p) (tE C (cSub (c.e E) a b)) := by
  unfold cSub
  split
  · exact pe_dsl g.K (S.e g a) (opt_po S g _) (opt_po S g _)
  · exact pe_drev g.K (S.e g a)
  · exact never
  · rename_i b' h1 h2 h3
    refine pe_dix g.K (S.e g a) (S.e g b) (plain_ix ?_)
    cases b with
    | Slice lo hi st q => exact absurd rfl (h3 lo hi st q)
    | _ => rfl
end

/-! ### comprehensions -/
def ownOf (N : List Str) (sc : Scope) : List (Str × Nat) := sc.names.filterMap fun y => match y.2 with
  | .local => (slotOf N y.1).map fun i => (y.1, i)
  | .cell => (slotOf N y.1).map fun i => (y.1, i)
  | _ => none
def inner (E : SE) (sc : Scope) : SE := ⟨E.N, relS sc E.sc, false⟩
def cIfs (f : Expr → DB) : List Expr → DB
  | [] => dyes
  | [a] => f a
  | _ => bbad
def cmpB (G : GT) (c : Cmp) (E : SE) (tg it : Expr) (sc : Scope) : Bool :=
  blkC E.N E.sc sc (ownOf E.N sc) && decide (((ownOf E.N sc).map (·.2)).Nodup) && (cI G E (c.e E) tg it).D.all (fun i => !((ownOf E.N sc).map (·.2)).contains i) && (c.g (inner E sc) tg).A.all (fun i => ((ownOf E.N sc).map (·.2)).contains i) && notSetE it
def cLc (G : GT) (c : Cmp) (E : SE) (elt tg it : Expr) (ifs : List Expr) (sc : Scope) : DE :=
  if cmpB G c E tg it sc then dcomp (cI G E (c.e E) tg it).i ((ownOf E.N sc).map (·.2)) (c.g (inner E sc) tg).g (cIfs (c.b (inner E sc)) ifs) (dW (c.e (inner E sc) elt)) else dbad
section
variable {O : Orc} {C : Cf} {G : GT} {X : Cx} {E : SE} {c : Cmp}
theorem Good.blk (g : Good O C G X E) {s : Shared} {H : Hp} {sc : Scope} {D : Addr} {cl : List (Str × Addr)} {fp : List Addr} (hk : sc.kind = .function) : Good O C G (X.blk s H sc (compEnvC sc cl D X.env) fp) (inner E sc) where
  K := g.K
  N := g.N
  nd := g.nd
  sc := by rw [inner, ← g.sc]; rfl
  kd := hk
  calm := g.calm
  gd := g.gd
  un := g.un
  xe := rfl
  fnl := fun h => nomatch h
  gl := g.gl
theorem PG.monoA {A B : List Nat} {e : Expr} {d : DG} (h : PG X e (tG C A d)) (hs : ∀ i ∈ A, i ∈ B) : PG X e (tG C B d) := h.weak fun v sg H Q q => by
  obtain ⟨rho, own, s, x, r, rx, u, s', e, k⟩ := q
  exact ⟨rho, own, s, x, r, rx, u, s', e, fun rho' own' sg' H' n f => k rho' own' sg' H' n (f.mono hs)⟩
theorem ifs_pts (S : Sound O C G c) (g : Good O C G X E) : ∀ es : List Expr, PTs X es (tB C (cIfs (c.b E) es))
  | [] => pts_weak pts_nil fun _ _ _ h => tyes_ok h
  | [a] => pts_one (S.b g a)
  | _ :: _ :: _ => ⟨fun _ _ _ _ _ _ h => by obtain ⟨_, _, _, _, _, _, e, _⟩ := h; cases e⟩
theorem cmpB_ok (h : cmpB G c E tg it sc = true) : BlkOk E.N E.sc sc (ownOf E.N sc) ∧ ((ownOf E.N sc).map (·.2)).Nodup ∧ (∀ i ∈ (cI G E (c.e E) tg it).D, i ∉ (ownOf E.N sc).map (·.2)) ∧ (∀ i ∈ (c.g (inner E sc) tg).A, i ∈ (ownOf E.N sc).map (·.2)) ∧ notSetE it = true := by
  unfold cmpB at h
  simp only [Bool.and_eq_true, decide_eq_true_eq, List.all_eq_true, Bool.not_eq_true', List.contains_eq_mem, decide_eq_false_iff_not] at h
  obtain ⟨⟨⟨⟨h1, h2⟩, h3⟩, h4⟩, h5⟩ := h
  exact ⟨blkOk_by h1, h2, fun i hi => h3 i hi, fun i hi => h4 i hi, h5⟩
theorem lc_pe (S : Sound O C G c) (g : Good O C G X E) {elt tg it : Expr} {ifs : List Expr} {sc : Scope} {p : Pos} : PE X (.ListComp elt [⟨tg, it, ifs, 0⟩] sc p) (tE C (cLc G c E elt tg it ifs sc)) := by
  unfold cLc
  split
  · rename_i h
    obtain ⟨h1, h2, h3, h4, h5⟩ := cmpB_ok h
    have gb := fun s H D cl fp => g.blk (s := s) (H := H) (D := D) (cl := cl) (fp := fp) h1.kind
    exact pe_dcomp g.calm g.hN (i_ok S g tg it) (by rw [g.N, g.sc]; exact h1) h3 h2 (fun s H D cl fp => PG.monoA (S.g (gb s H D cl fp) tg) h4) (fun s H D cl fp => ifs_pts S (gb s H D cl fp) ifs) (fun s H D cl fp => pe_W (S.e (gb s H D cl fp) elt)) fun x => set_no h5
  · exact never
end
end Rk

/-! Rk21: the compiler as a whole. -/
namespace Rk
open PySem PySem.Spec PyProof.Rows L2

@[simp] def dbrk : DS := fun s => .bk s
@[simp] def dcnt : DS := fun s => .ct s
/-! ### expressions -/
def cUn (f : Expr → DE) (op : UnaryOp) (a : Expr) : DE := match op with
  | .Not => dnot (f a)
  | op => dun op (f a)
def cCmp (f : Expr → DE) (a : Expr) : List CmpOp → List Expr → DE
  | [op], [b] => if notSetE b then dcmp op (f a) (f b) else dbad
  | [op, op'], [b, c] => if notSetE c then dchain op op' (f a) (f b) (f c) else dbad
  | _, _ => dbad
def cCall (O : Orc) (G : GT) (E : SE) (f : Expr → DE) (fn : Expr) (es : List Expr) (kws : List Keyword) (cp : Pos) : DE := match fn, kws with
  | .Name x _, [] => (match biOf G E x with
      | some b => cBi G E f b es
      | none => (match fnOf G E x with
          | some i => cFn O G f i es
          | none => dbad))
  | .Name x _, kws => (match fnOf G E x with
      | some i => cFnK O G f i es kws
      | none => dbad)
  | .Attribute o m ap, [] => if ap.endLine == cp.line then cMt f o m es else dbad
  | _, _ => dbad
def cComp (G : GT) (c : Cmp) (E : SE) (elt : Expr) (gs : List Comprehension) (sc : Scope) : DE := match gs with
  | [⟨tg, it, ifs, a⟩] => if a = 0 then cLc G c E elt tg it ifs sc else dbad
  | _ => dbad
def cE (O : Orc) (G : GT) (c : Cmp) (E : SE) : Expr → DE
  | .Constant k _ _ => cCon k
  | .Name x _ => cName G E x
  | .BinOp a op b _ => dbin op (c.e E a) (c.e E b)
  | .UnaryOp op a _ => cUn (c.e E) op a
  | .BoolOp op es _ => cBool op (c.e E) es
  | .Compare a ops es _ => cCmp (c.e E) a ops es
  | .IfExp t a b _ => difx (c.b E t) (c.e E a) (c.e E b)
  | .Subscript a b _ => cSub (c.e E) a b
  | .Tuple es _ _ => if es.all noStar then dtup (es.map (c.e E)) else dbad
  | .List es _ => if es.all noStar then dlst (es.map (c.e E)) else dbad
  | .ListComp elt gs sc _ => cComp G c E elt gs sc
  | .Call fn es kws cp => cCall O G E (c.e E) fn es kws cp
  | _ => dbad
def cB (O : Orc) (G : GT) (c : Cmp) (E : SE) (e : Expr) : DB := match e with
  | .BoolOp op es _ => cBoolB op (c.b E) es
  | .UnaryOp .Not a _ => bnot (c.b E a)
  | .Compare a [op] [b] _ => if notSetE b then asb (dcmp op (c.e E a) (c.e E b)) else bbad
  | .Compare a [op, op'] [b, d] _ => if notSetE d then asb (dchain op op' (c.e E a) (c.e E b) (c.e E d)) else bbad
  | e => if plainT e then dtru (c.e E e) else bbad
section
variable {O : Orc} {C : Cf} {G : GT} {X : Cx} {E : SE} {c : Cmp}
theorem call_pe (S : Sound O C G c) (g : Good O C G X E) {fn : Expr} {es : List Expr} {kws : List Keyword} {cp : Pos} : PE X (.Call fn es kws cp) (tE C (cCall O G E (c.e E) fn es kws cp)) := by
  unfold cCall
  split
  · split
    · rename_i b hb; exact bi_pe S g hb
    · split
      · rename_i i hi; exact fn_pe S g hi
      · exact never
  · split
    · rename_i i hi; exact fnK_pe S g hi
    · exact never
  · split
    · rename_i h; exact mt_pe S g h
    · exact never
  · exact never
theorem e_ok (S : Sound O C G c) (g : Good O C G X E) (x : Expr) : PE X x (tE C (cE O G c E x)) := by
  unfold cE
  split
  · exact con_ok
  · exact name_pe g
  · exact pe_dbin g.K (S.e g _) (S.e g _)
  · unfold cUn
    split
    · exact pe_dnot g.K (S.e g _)
    · exact pe_dun (S.e g _)
  · exact bool_pe S g
  · unfold cCmp
    split
    · split
      · rename_i h; exact pe_dcmp g.K g.un65 (S.e g _) (S.e g _) (marks_no h)
      · exact never
    · split
      · rename_i h; exact pe_dchain g.K g.un65 (S.e g _) (S.e g _) (S.e g _) (marks_no h)
      · exact never
    · exact never
  · exact pe_difx (S.b g _) (S.e g _) (S.e g _)
  · exact sub_pe S g
  · split
    · rename_i h; exact pe_dtup (es_Ws S g h)
    · exact never
  · split
    · rename_i h; exact pe_dlst (es_Ws S g h)
    · exact never
  · unfold cComp
    split
    · split
      · rename_i h; subst h; exact lc_pe S g
      · exact never
    · exact never
  · exact call_pe S g
  · exact never
theorem b_ok (S : Sound O C G c) (g : Good O C G X E) (x : Expr) : PT X x (tB C (cB O G c E x)) := by
  unfold cB
  split
  · exact (bool_pw S g).pt
  · exact pt_bnot (S.b g _)
  · split
    · rename_i h; exact pt_dcmp g.K g.un65 (S.e g _) (S.e g _) (marks_no h)
    · exact neverB
  · split
    · rename_i h; exact pt_dchain g.K g.un65 (S.e g _) (S.e g _) (S.e g _) (marks_no h)
    · exact neverB
  · split
    · rename_i h; exact pt_dtru g.K (S.e g _) (plain_true h)
    · exact neverB
end

/-! ### targets -/
def cGs (f : Expr → Cg) : List Expr → List Nat × (List W → S → Out Unit)
  | [] => ([], gsn)
  | e :: r => ((f e).A ++ (cGs f r).1, gsc (f e).g (cGs f r).2)
def cG (c : Cmp) (E : SE) : Expr → Cg
  | .Name x _ => (match slotOf E.N x with
      | some i => if locB E x then ⟨[i], gnm i⟩ else ⟨[], fun _ _ => .bad⟩
      | none => ⟨[], fun _ _ => .bad⟩)
  | .Tuple es _ _ => if es.all noStar then ⟨(cGs (c.g E) es).1, gtp es.length (cGs (c.g E) es).2⟩ else ⟨[], fun _ _ => .bad⟩
  | .Subscript o i _ => if plainSub i then ⟨[], gsb (c.e E o) (c.e E i)⟩ else ⟨[], fun _ _ => .bad⟩
  | _ => ⟨[], fun _ _ => .bad⟩
section
variable {O : Orc} {C : Cf} {G : GT} {X : Cx} {E : SE} {c : Cmp}
theorem PGs.monoA {A B : List Nat} {es : List Expr} {d : List W → S → Out Unit} (h : PGs X es (tGs C A d)) (hs : ∀ i ∈ A, i ∈ B) : PGs X es (tGs C B d) := h.weak fun v sg H Q q => by
  obtain ⟨rho, own, s, x, r, rx, u, s', e, k⟩ := q
  exact ⟨rho, own, s, x, r, rx, u, s', e, fun rho' own' sg' H' n f => k rho' own' sg' H' n (f.mono hs)⟩
theorem gs_ok (S : Sound O C G c) (g : Good O C G X E) : ∀ {es : List Expr}, es.all noStar = true → PGs X es (tGs C (cGs (c.g E) es).1 (cGs (c.g E) es).2)
  | [], _ => pgs_n
  | e :: es, h => by
    simp only [List.all_cons, Bool.and_eq_true] at h
    exact pgs_c (PG.monoA (S.g g e) fun i hi => List.mem_append_left _ hi) (PGs.monoA (gs_ok S g h.2) fun i hi => List.mem_append_right _ hi) (by rw [asg_one h.1]; rfl)
theorem g_ok (S : Sound O C G c) (g : Good O C G X E) (x : Expr) : PG X x (tG C (cG c E x).A (cG c E x).g) := by
  unfold cG
  split
  · split
    · rename_i i hi
      split
      · rename_i h
        obtain ⟨h1, h2⟩ := loc_ok g h
        exact pg_nm g.hN (by rw [g.N]; exact slot_ok hi) h1 h2 (by simp)
      · exact neverG
    · exact neverG
  · split
    · rename_i h; exact pg_tp g.K g.calm (gs_ok S g h) (asg_len h).1 (asg_len h).2
    · exact neverG
  · split
    · rename_i o i p h
      refine pg_sb (S.e g _) (S.e g _) fun v => ?_
      cases i with
      | Slice => cases h
      | _ => rfl
    · exact neverG
  · exact neverG
end

/-! ### statements -/
def swB (sc : Scope) (y : Str) (l1 l2 : Nat) (s2 : Scope) : Bool := (sc.names.lookup y == some NameKind.local) && (l1 == l2) && !(s2.names.any fun q => q.1 == y && (q.2 == .local || q.2 == .cell))
theorem swB_ok {env : Env} (hk : env.scope.kind = .function) {elt : Expr} {gs : List Comprehension} {s2 : Scope} {pos py : Pos} {y : Str} {l : Nat} : swapsWith (.ListComp elt gs s2 pos) (some (.Name y py)) l env = pure (swB env.scope y py.line pos.line s2) := by
  have hb : env.blockKind = .function := by unfold Env.blockKind; rw [hk]; rfl
  unfold swapsWith swB
  simp only [hb]
  rfl
def notNm : Expr → Bool
  | .Name .. => false
  | _ => true
theorem swT_ok {t e : Expr} {l : Nat} {env : Env} (h : notNm t = true) : swapsWithSole [t] e l env = pure false := by
  unfold swapsWithSole
  cases e <;> first | rfl | (cases t <;> first | rfl | cases h)
def isTup : Expr → Bool
  | .Tuple .. => true
  | _ => false
def isTL : Expr → Bool
  | .Tuple .. => true
  | .List .. => true
  | _ => false
theorem sws_no {t e : Expr} {env : Env} (h : (isTL t && isTup e) = false) : swappedStores [t] e env = pure none := by
  cases t <;> first | rfl | (cases e <;> first | rfl | cases h)
def parI (E : SE) (ts : List Expr) : Option (List Nat) := ts.mapM fun t => match t with
  | .Name x _ => if E.sc.names.lookup x == some NameKind.local then slotOf E.N x else none
  | _ => none
def cPar (c : Cmp) (E : SE) (ts vs : List Expr) : Cs := match ts, vs with
  | [.Name x _, .Name y _], [_, _] => (match slotOf E.N x, slotOf E.N y with
      | some i, some j => if (E.sc.names.lookup x == some NameKind.local) && (E.sc.names.lookup y == some NameKind.local) && decide (i ≠ j) && vs.all noStar && decide (swS E.sc ts vs = some (some [x, y])) then ⟨[i, j], dpar [i, j] (vs.map (c.e E))⟩ else ⟨[], dnever⟩
      | _, _ => ⟨[], dnever⟩)
  | [.Name x _, .Name y _, .Name z _], [_, _, _] => (match slotOf E.N x, slotOf E.N y, slotOf E.N z with
      | some i, some j, some l => if (E.sc.names.lookup x == some NameKind.local) && (E.sc.names.lookup y == some NameKind.local) && (E.sc.names.lookup z == some NameKind.local) && decide (i ≠ j) && decide (i ≠ l) && decide (j ≠ l) && vs.all noStar && decide (swS E.sc ts vs = some (some [x, y, z])) then
          ⟨[i, j, l], dpar [i, j, l] (vs.map (c.e E))⟩ else ⟨[], dnever⟩
      | _, _, _ => ⟨[], dnever⟩)
  | _, _ => ⟨[], dnever⟩
def cAsg (G : GT) (c : Cmp) (E : SE) (tg e : Expr) : Cs := match tg, e with
  | .Name y py, .ListComp elt gs sc p => (match slotOf E.N y with
      | some i => if swB E.sc y py.line p.line sc then ⟨[i], dset i (cComp G c E elt gs sc)⟩
          else if locB E y then ⟨[i], dset i (c.e E (.ListComp elt gs sc p))⟩ else ⟨[], dnever⟩
      | none => ⟨[], dnever⟩)
  | .Name y _, e => (match slotOf E.N y with
      | some i => if locB E y && !isComp e then ⟨[i], dset i (c.e E e)⟩ else ⟨[], dnever⟩
      | none => ⟨[], dnever⟩)
  | .Tuple ts k p, .Tuple vs k2 p2 => if swS E.sc ts vs = some none then ⟨(c.g E (.Tuple ts k p)).A, dasg (c.e E (.Tuple vs k2 p2)) (c.g E (.Tuple ts k p)).g⟩ else cPar c E ts vs
  | tg, e => if notNm tg && noStar tg && !(isTL tg && isTup e) then ⟨(c.g E tg).A, dasg (c.e E e) (c.g E tg).g⟩ else ⟨[], dnever⟩
def cSs (f : Stmt → Cs) : List Stmt → Cs
  | [] => ⟨[], dskip⟩
  | s :: r => ⟨(f s).A ++ (cSs f r).A, dseq (f s).d (cSs f r).d⟩
def cFor (G : GT) (c : Cmp) (E : SE) (tg it : Expr) (body : List Stmt) : Cs :=
  if (cI G E (c.e E) tg it).D.all (fun i => !((c.g E tg).A ++ (cSs (c.s E) body).A).contains i) && notSetE it then ⟨(c.g E tg).A ++ (cSs (c.s E) body).A, dfor (cI G E (c.e E) tg it).i (c.g E tg).g (cSs (c.s E) body).d⟩ else ⟨[], dnever⟩
def cS (G : GT) (c : Cmp) (E : SE) : Stmt → Cs
  | .Expr e _ => if isComp e then ⟨[], dnever⟩ else ⟨[], dexpr (c.e E e)⟩
  | .Assign [tg] e _ => cAsg G c E tg e
  | .Return (some e) _ => ⟨[], dret (c.e E e)⟩
  | .Return none _ => ⟨[], dretN⟩
  | .If t a b _ => ⟨(cSs (c.s E) a).A ++ (cSs (c.s E) b).A, dif (c.b E t) (cSs (c.s E) a).d (cSs (c.s E) b).d⟩
  | .While t b [] _ => ⟨(cSs (c.s E) b).A, dwhile (c.b E t) (cSs (c.s E) b).d⟩
  | .For tg it b [] _ => cFor G c E tg it b
  | .Pass _ => ⟨[], dskip⟩
  | .Break _ => ⟨[], dbrk⟩
  | .Continue _ => ⟨[], dcnt⟩
  | _ => ⟨[], dnever⟩
section
variable {O : Orc} {C : Cf} {G : GT} {X : Cx} {E : SE} {c : Cmp}
theorem sws_swS (g : Good O C G X E) {ts vs : List Expr} {k k2 : Nat} {p p2 : Pos} {r : Option (List Str)} (h : swS E.sc ts vs = some r) : swappedStores [.Tuple ts k p] (.Tuple vs k2 p2) X.env = pure r := by
  refine swS_ok (by rw [g.sc]; exact g.kd) ?_
  rw [g.sc]; exact h
theorem lk {a b : Option NameKind} (h : (a == b) = true) : a = b := beq_iff_eq.mp h
theorem par_ps (S : Sound O C G c) (g : Good O C G X E) {ts vs : List Expr} {k k2 : Nat} {p p2 pos : Pos} : PS X (.Assign [.Tuple ts k p] (.Tuple vs k2 p2) pos) (tS C (cPar c E ts vs).A (cPar c E ts vs).d) := by
  unfold cPar
  split
  · split
    · rename_i i j hi hj
      split
      · rename_i h
        simp only [Bool.and_eq_true, decide_eq_true_eq] at h
        obtain ⟨⟨⟨⟨h1, h2⟩, h3⟩, h4⟩, h5⟩ := h
        exact ps_dpar2 g.calm g.hN (by rw [g.N]; exact slot_ok hi) (by rw [g.N]; exact slot_ok hj) h3 (by rw [g.sc]; exact lk h1) (by rw [g.sc]; exact lk h2) (es_Ts S g h4) (sws_swS g h5) (swT_ok rfl) fun _ z => z
      · exact ps_dnever
    · exact ps_dnever
  · split
    · rename_i i j l hi hj hl
      split
      · rename_i h
        simp only [Bool.and_eq_true, decide_eq_true_eq] at h
        obtain ⟨⟨⟨⟨⟨⟨⟨h1, h2⟩, h6⟩, h3⟩, h7⟩, h8⟩, h4⟩, h5⟩ := h
        exact ps_dpar3 g.calm g.hN (by rw [g.N]; exact slot_ok hi) (by rw [g.N]; exact slot_ok hj) (by rw [g.N]; exact slot_ok hl) h3 h7 h8 (by rw [g.sc]; exact lk h1) (by rw [g.sc]; exact lk h2) (by rw [g.sc]; exact lk h6) (es_Ts S g h4) (sws_swS g h5) (swT_ok rfl) fun _ z => z
      · exact ps_dnever
    · exact ps_dnever
  · exact ps_dnever
theorem lcs_ps (S : Sound O C G c) (g : Good O C G X E) {elt : Expr} {gs : List Comprehension} {sc : Scope} {p py pos : Pos} {y : Str} {i : Nat} (hi : slotOf E.N y = some i) (h : swB E.sc y py.line p.line sc = true) : PS X (.Assign [.Name y py] (.ListComp elt gs sc p) pos) (tS C [i] (dset i (cComp G c E elt gs sc))) := by
  have hsw : swapsWith (.ListComp elt gs sc p) (some (.Name y py)) pos.line X.env = pure true := by
    rw [swB_ok (by rw [g.sc]; exact g.kd), g.sc, h]
  have hb : ∀ st, PS X st (tS C [i] (dset i dbad)) := fun st => ⟨fun _ _ _ _ _ _ h => by
    obtain ⟨_, _, _, _, k⟩ := h
    exact k.elim⟩
  unfold cComp
  split
  · rename_i tg it ifs a
    split
    · rename_i ha
      subst ha
      unfold cLc
      split
      · rename_i hq
        obtain ⟨h1, h2, h3, h4, h5⟩ := cmpB_ok hq
        have gb := fun s H D cl fp => g.blk (s := s) (H := H) (D := D) (cl := cl) (fp := fp) h1.kind
        have hl : E.sc.names.lookup y = some .local := by
          unfold swB at h
          simp only [Bool.and_eq_true] at h
          exact lk h.1.1
        exact ps_dsetc g.calm g.hN (by rw [g.N]; exact slot_ok hi) (by rw [g.sc]; exact hl) hsw (i_ok S g tg it) (by rw [g.N, g.sc]; exact h1) h3 h2 (fun s H D cl fp => PG.monoA (S.g (gb s H D cl fp) tg) h4) (fun s H D cl fp => ifs_pts S (gb s H D cl fp) ifs) (fun s H D cl fp => pe_W (S.e (gb s H D cl fp) elt)) (fun x => set_no h5) (by simp)
      · exact hb _
    · exact hb _
  · exact hb _
theorem asg_ps (S : Sound O C G c) (g : Good O C G X E) {tg e : Expr} {pos : Pos} : PS X (.Assign [tg] e pos) (tS C (cAsg G c E tg e).A (cAsg G c E tg e).d) := by
  unfold cAsg
  split
  · split
    · rename_i i hi
      split
      · rename_i h; exact lcs_ps S g hi h
      · rename_i hn
        split
        · rename_i h
          obtain ⟨h1, h2⟩ := loc_ok g h
          refine ps_dset g.hN (by rw [g.N]; exact slot_ok hi) h1 (S.e g _) ?_ h2 (by simp)
          rw [swB_ok (by rw [g.sc]; exact g.kd), g.sc, Bool.eq_false_iff.mpr hn]
        · exact ps_dnever
    · exact ps_dnever
  · split
    · rename_i i hi
      split
      · rename_i h
        simp only [Bool.and_eq_true, Bool.not_eq_true'] at h
        obtain ⟨h1, h2⟩ := loc_ok g h.1
        exact ps_dset g.hN (by rw [g.N]; exact slot_ok hi) h1 (S.e g _) (swaps_no h.2) h2 (by simp)
      · exact ps_dnever
    · exact ps_dnever
  · split
    · rename_i h
      exact ps_dasg (S.e g _) (S.g g _) (swT_ok rfl) (sws_swS g h) rfl
    · exact par_ps S g
  · split
    · rename_i h
      simp only [Bool.and_eq_true, Bool.not_eq_true'] at h
      exact ps_dasg (S.e g _) (S.g g _) (swT_ok h.1.1) (sws_no h.2) (by rw [asg_one h.1.2]; rfl)
    · exact ps_dnever
theorem ss_ok (S : Sound O C G c) (g : Good O C G X E) : ∀ sts : List Stmt, PSs X sts (tS C (cSs (c.s E) sts).A (cSs (c.s E) sts).d)
  | [] => pss_dskip
  | s :: r => pss_dseq (PS.monoA (S.s g s) fun i hi => List.mem_append_left _ hi) (PSs.monoA (ss_ok S g r) fun i hi => List.mem_append_right _ hi)
theorem s_ok (S : Sound O C G c) (g : Good O C G X E) (x : Stmt) : PS X x (tS C (cS G c E x).A (cS G c E x).d) := by
  unfold cS
  split
  · split
    · exact ps_dnever
    · rename_i h
      exact ps_dexpr (S.e g _) (swaps_no (Bool.eq_false_iff.mpr h))
  · exact asg_ps S g
  · exact ps_dret (S.e g _)
  · exact ps_dretN
  · exact ps_dif (S.b g _) (PSs.monoA (ss_ok S g _) fun i hi => List.mem_append_left _ hi) (PSs.monoA (ss_ok S g _) fun i hi => List.mem_append_right _ hi)
  · exact ps_dwhile g.pass (S.b g _) (ss_ok S g _)
  · unfold cFor
    split
    · rename_i h
      simp only [Bool.and_eq_true, List.all_eq_true, Bool.not_eq_true', List.contains_eq_mem, decide_eq_false_iff_not] at h
      exact ps_dfor g.pass g.calm (i_ok S g _ _) (PG.monoA (S.g g _) fun i hi => List.mem_append_left _ hi) (PSs.monoA (ss_ok S g _) fun i hi => List.mem_append_right _ hi) (fun i hi => h.1 i hi) fun x => set_no h.2
    · exact ps_dnever
  · exact ps_dskip
  · exact ps_break.weak fun D sg H q => by
      obtain ⟨rho, own, s, r, k⟩ := q
      exact k rho own sg H (Nxt.refl r) Frm.refl
  · exact ps_continue.weak fun D sg H q => by
      obtain ⟨rho, own, s, r, k⟩ := q
      exact k rho own sg H (Nxt.refl r) Frm.refl
  · exact ps_dnever
end
def step (O : Orc) (G : GT) (c : Cmp) : Cmp := ⟨cE O G c, cB O G c, cS G c, cG c⟩
def comp (O : Orc) (G : GT) : Nat → Cmp
  | 0 => bot
  | n + 1 => step O G (comp O G n)
theorem step_ok {O : Orc} {C : Cf} {G : GT} {c : Cmp} (S : Sound O C G c) : Sound O C G (step O G c) := ⟨fun g x => e_ok S g x, fun g x => b_ok S g x, fun g x => s_ok S g x, fun g x => g_ok S g x⟩
theorem comp_sound {O : Orc} {C : Cf} {G : GT} : ∀ n, Sound O C G (comp O G n)
  | 0 => bot_ok
  | n + 1 => step_ok (comp_sound n)
/-- a def's body -/
def body (O : Orc) (G : GT) (N : List Str) (st : Stmt) : Cs := cSs ((comp O G 60).s ⟨N, defScope st, true⟩) (defBody st)
theorem body_sound {O : Orc} {C : Cf} {G : GT} {X : Cx} {N : List Str} {st : Stmt} (g : Good O C G X ⟨N, defScope st, true⟩) : PSs X (defBody st) (tS C (body O G N st).A (body O G N st).d) := ss_ok (comp_sound 60) g _
end Rk

/-! Rk22: the table of defs, level by level. -/
namespace Rk
open PySem PySem.Spec PyProof.Rows L2

structure Df where
  x : Str
  ps : List Str
  N : List Str
  st : Stmt
  dfl : List W
  kws : List (Nat × List Str × List Nat)
def Df.sig (D : Df) : Sig := ⟨D.ps, D.dfl, D.kws⟩
/-- the semantic functions, n levels of calls deep -/
def orc (tab : List Df) (G : GT) : Nat → Orc
  | 0 => ⟨fun _ _ _ => .bad, fun _ _ _ => .bad⟩
  | n + 1 => ⟨fun i ts M => match tab[i]? with
      | some D => runB (body (orc tab G n) G D.N D.st).d D.N.length ts M
      | none => .bad, fun _ _ _ => .bad⟩
/-- a def as it stands behind the top -/
structure DfAt (C : Cf) (K : PySem.W.Frag) (mg : Str → Option Value) (D : Df) : Prop where
  ex : ∃ (f : Addr) (fd : FuncData) (ds : List Value) (dvs : List V), mg D.x = some (.ref f) ∧ PySem.W.keepIn K (.ref f) = true ∧
    (∃ (oc : Value) (od : Option Addr) (dV kV doc pm : Value) (an : Option Addr) (cdv ct : Value) (osl : Array (Option Value)),
      fd = PySem.W.fnOf D.x D.x (defArgs D.st) (defBody D.st) (defScope D.st) dV kV doc pm an cdv ct ∧ K.lookup f = some ⟨oc, od, .func fd, osl⟩ ∧ PySem.W.codeIn K cdv D.x = true) ∧
    Vals dvs ds ∧ (∀ rho H, RWs C rho H D.dfl dvs) ∧ (∀ (m : Nat), m ≤ D.dfl.length → Binds K fd D.ps (ds.drop m)) ∧
    (∀ q ∈ D.kws, ∀ (s : Shared) (us ws : List Value), K.In s.heap → us.length = q.1 → ws.length = q.2.1.length → (pick q.2.2 (us ++ ws ++ ds)).length = D.ps.length → BindsTo s fd ⟨us, q.2.1.zip ws⟩ (D.ps.zip (pick q.2.2 (us ++ ws ++ ds))))
  sc : FnScope D.N D.ps (defScope D.st)
  dbg : (D.x == ("__debug__" : Str)) = false
/-- what the names of the module stand for -/
def GlAt (C : Cf) (mg : Str → Option Value) (tab : List Df) (x : Str) : Gk → Prop
  | .fn i => ∃ D, tab[i]? = some D ∧ D.x = x
  | .bi b => x = b.name ∧ mg x = none
  | .con y => ConAt C mg x y
section
variable {C : Cf} {P : Program} {w : World} {K : PySem.W.Frag} {mg : Str → Option Value} {base : Heap} {tab : List Df} {G : GT}
theorem spD_len {np : Nat} {d : List T → List Ob → Res} {vs : List V} {H : Hp} {Q : VK} {E : XK} (h : spD C np d vs H Q E) : vs.length = np := by
  obtain ⟨ts, M, rho, fr, _, _, h, hl, _⟩ := h
  rw [← h.length, hl]
theorem fns_ok (hC : C.K = K) (hG : G.sg = tab.map Df.sig) (hd : ∀ (i : Nat) (D : Df), tab[i]? = some D → DfAt C K mg D) (hgl : ∀ x k, G.gl.lookup x = some k → GlAt C mg tab x k) :
    ∀ n (i : Nat) (D : Df), tab[i]? = some D → FnAt (orc tab G n) C P w K mg base n D.x i D.sig
  | 0, i, D, hi => by
    obtain ⟨⟨f, fd, ds, dvs, h1, h2, h3, h4, h5, h6, h7⟩, h8, h9⟩ := hd i D hi
    refine ⟨⟨f, fd, ds, dvs, h1, h2, ⟨fun vs H Q E h => spD_len h, fun A outer s H args us vs Q _ _ _ _ _ h => ?_⟩, h4, h5, h6, h7⟩, h9⟩
    obtain ⟨ts, M, rho, fr, _, _, _, _, t, M', e, _⟩ := h
    cases e
  | n + 1, i, D, hi => by
    obtain ⟨⟨f, fd, ds, dvs, h1, h2, h3, h4, h5, h6, h7⟩, h8, h9⟩ := hd i D hi
    refine ⟨⟨f, fd, ds, dvs, h1, h2, fnG_of (N := D.N) h3 h8 (fun vs H Q E h => spD_len h) fun cdv A outer s H vs Q hr hg h => ⟨_, body_sound (O := orc tab G n) (G := G) (C := C) ?_, body_ok (A := (body (orc tab G n) G D.N D.st).A) (np := D.ps.length) (E := E0) ?_⟩, h4, h5, h6, h7⟩, h9⟩
    · refine ⟨hC, rfl, h8.nd, rfl, h8.kind, rfl, hg, ?_, rfl, fun _ _ => rfl, n, hr, fun x k hk => ?_⟩
      · have := hr.un
        show (A.deeper _).units + 200 < cLine
        omega
      · have hx := hgl x k hk
        cases k with
        | fn j =>
          obtain ⟨D2, hj, hx⟩ := hx
          intro g hs
          rw [hG, List.getElem?_map, hj] at hs
          cases hs
          rw [← hx]
          exact fns_ok hC hG hd hgl n j D2 hj
        | bi b => exact hx
        | con y => exact hx
    · have e : (orc tab G (n + 1)).fn i = runB (body (orc tab G n) G D.N D.st).d D.N.length := by
        funext ts M
        show (match tab[i]? with
          | some D => runB (body (orc tab G n) G D.N D.st).d D.N.length ts M
          | none => .bad) = _
        rw [hi]
      rw [e] at h
      exact h
end
end Rk

/-! Rk23: the end of a law. -/
namespace Rk
open PySem PySem.Spec PyProof.Rows L2

/-- the script's list, as the law's def gets it -/
theorem law_goG {P : Program} {w : World} {K : PySem.W.Frag} {mg mb : Str → Option Value} {k : Nat} {fa a : Addr} {x : Str} {sp : Sp} {s1 : Shared} {vs : List Value} {ns : List Int}
    (kin : K.In s1.heap) (glo : s1.heap.Ns mainGlobals mg) (blt : s1.heap.Ns builtinsNs mb) (bltv : ∀ y : Str, y ≠ "__name__" → mb y = bootBuiltins y) (nolim : s1.heap.NoLimit) (bare : s1.gens = #[])
    (hobj : s1.heap.get? a = some { cls := .type "list", data := .seq vs.toArray }) (hi : IntsAre vs ns) (hl : ns.length ≤ sizeLine) (room : Room k callerA)
    (prom : ∀ base : Heap, K.In base → base.Ns mainGlobals mg → ∃ fd : FuncData, FnG P w K mg base k fa fd [x] sp ∧ BindsTo s1 fd ⟨[.ref a], []⟩ [(x, .ref a)])
    (hsp : ∀ H : Hp, (∃ vs, RdOnly ⟨K, fun _ => none⟩ H a vs ∧ vs = ns.map V.int) → sp [.ref a] H (fun v _ => v = .bl true) E0) :
    codeAny (model P w) callerA (.call (.ref fa) ⟨[.ref a], []⟩) (fun r s' => r = .ok (.ret (.bool true)) ∧ OldK s1.heap s'.heap ∧ s'.os = s1.os ∧ AllBare s'.gens) s1 := by
  have rv := vals_ints hi
  have core : ∀ H : Hp, Only H → RdOnly ⟨K, fun _ => none⟩ H a (ns.map V.int) → HOk P w H s1.heap → (∀ b, H b ≠ none → b = a) → (H a ≠ none → K.lookup a = none) →
      codeAny (model P w) callerA (.call (.ref fa) ⟨[.ref a], []⟩) (fun r s' => r = .ok (.ret (.bool true)) ∧ OldK s1.heap s'.heap ∧ s'.os = s1.os ∧ AllBare s'.gens) s1 := fun H hO hS hok hA hK => by
    -- what stands in K or in a namespace is not tracked
    have free : ∀ b, b ≠ a → H b = none := fun b hb => Classical.byContradiction fun q => hb (hA b q)
    have kinB : K.In (hidT s1.heap H) := fun b o e => by
      refine hidT_get (kin b o e) ?_
      by_cases hb : b = a
      · refine Classical.byContradiction fun q => ?_
        subst hb
        rw [hK q] at e
        cases e
      · exact free b hb
    have nsB : ∀ {b : Addr} {m : Str → Option Value}, s1.heap.Ns b m → (hidT s1.heap H).Ns b m := fun {b m} h => by
      obtain ⟨o, es, ep, e, d, r⟩ := h
      refine ⟨o, es, ep, hidT_get e (free b fun hb => ?_), d, r⟩
      subst hb
      rw [hobj] at e
      cases e
      exact nomatch (show Data.seq vs.toArray _ = Data.dict es ep from d)
    have md : Mod K mg (hidT s1.heap H) := ⟨kinB, nsB glo, ⟨mb, nsB blt, bltv⟩, by obtain ⟨mc, p, q⟩ := nolim; exact ⟨mc, nsB p, q⟩⟩
    have env : Env0 P w K mg (hidT s1.heap H) callerA [] s1 H := ⟨rfl, md, fun b o e => of_hidT e, Nat.le_of_eq (hidT_size _ _), trivial, fun b hb => (by cases hb), hok, .of_eq bare⟩
    obtain ⟨fd, prom, hbind⟩ := prom _ kinB (nsB glo)
    refine codeAny_mono (prom.run callerA [] s1 H ⟨[.ref a], []⟩ [.ref a] [.ref a] _ room rfl env hbind (.cons rfl .nil) (hsp H ⟨_, hS, rfl⟩)) fun r s' h => ?_
    match r, h with
    | .error e, h => cases h
    | .ok .next, h => cases h
    | .ok .brk, h => cases h
    | .ok .cont, h => cases h
    | .ok (.ret u), h =>
      obtain ⟨v, H', os, gens, un, hok', r', q⟩ := h
      obtain rfl : v = .bl true := q
      obtain rfl : u = Value.bool true := r'
      refine ⟨rfl, OldK.of_keep fun b o e => ?_, os, gens⟩
      rcases hO b with z | ⟨ob, xs, z⟩
      · exact un.keep b o e z (fun h => by cases h) (fun h => by cases h)
      · have e1 := (hok b _ z).1
        have e2 := (hok' b _ (un.frzs b ob _ z)).1
        rw [e] at e1
        cases e1
        exact e2
  cases hk : K.lookup a with
  | some o =>
    have e := kin a o hk
    rw [hobj] at e
    cases e
    exact core (fun _ => none) (fun _ => .inl rfl) (.inr ⟨_, vs.toArray, _, hk, rfl, rfl, rfl, by rw [List.size_toArray, hi.length]; exact hl, by simpa using rv⟩) (fun b u z => nomatch (show (none : Option HO) = some u from z)) (fun b z => absurd rfl z) fun z => absurd rfl z
  | none =>
    refine core (fun b => if b = a then some (.frz { cls := .type "list", data := .seq vs.toArray } (.lst (ns.map V.int))) else none) (fun b => ?_) (.inl ⟨{ cls := .type "list", data := .seq vs.toArray }, if_pos rfl⟩) (fun b u z => ?_) (fun b z => Classical.byContradiction fun hb => z (if_neg hb)) fun _ => hk
    · by_cases hb : b = a
      · exact .inr ⟨_, _, if_pos hb⟩
      · exact .inl (if_neg hb)
    · by_cases hb : b = a
      · have z' := (if_pos hb).symm.trans z
        cases z'
        subst hb
        exact ⟨hobj, by rw [List.length_map]; exact hl, vs, _, rv, hobj⟩
      · have z' := (if_neg hb).symm.trans z
        cases z'
theorem ints_rel {C : Cf} {rho : List Addr} {H : Hp} : ∀ ns : List Int, RWs C rho H (ns.map W.int) (ns.map V.int)
  | [] => rfl
  | n :: ns => by
    simp only [List.map_cons, RWs]
    exact ⟨_, _, rfl, by simp only [RW], ints_rel ns⟩
/-- the goal that k_head leaves -/
theorem walk_G {l : PySem.W.OpenLaw} {n k : Nat} {q : Program} {loose : List Str} {XP : (Str → Option Value) → Heap → Prop} {YP : World → Heap → Prop} {d : DefRec} {K : Params → PySem.W.Frag} {x : Str} {tab : List Df} {G : GT} {i : Nat} {D : Df}
    (hn : l.most = some n) (hn2 : n ≤ sizeLine) (hdf : d.params.defaults = []) (room : Room k callerA) (hY : ∀ (w : World) (h : Heap), YP w h → (K w.params).In h) (hG : G.sg = tab.map Df.sig) (hi : tab[i]? = some D) (hx : D.x = d.name) (hps : D.ps = [x]) (hdfl : D.dfl = [])
    (hd : ∀ (w : World) (mg : Str → Option Value) (h : Heap), (K w.params).In h → h.Ns mainGlobals mg → (∀ (i : Nat) (D : Df), tab[i]? = some D → DfAt ⟨K w.params, fun _ => none⟩ (K w.params) mg D) ∧ ∀ x k, G.gl.lookup x = some k → GlAt ⟨K w.params, fun _ => none⟩ mg tab x k)
    (hlaw : ∀ ns : List Int, ns.length ≤ n → ∃ M', (orc tab G k).fn i [.w (.rol (ns.map W.int))] [] = .ok (.w (.bl true)) M') : PySem.W.WalkO q loose XP YP l.row.toRowW d [] (fun f vs => PySem.call f vs) := by
  refine Att.attach_call hn hdf fun w s0 s1 mg mb fa o pm cd doc a vs ns G' Y ho hdd hcd hmg hobj hints hlen hg => ?_
  have kin := hY w _ Y
  obtain ⟨hd1, hd2⟩ := hd w mg _ kin G'.T.g
  obtain ⟨M', hM⟩ := hlaw ns hlen
  refine law_goG (sp := spD ⟨K w.params, fun _ => none⟩ 1 ((orc tab G k).fn i)) (x := x) kin G'.T.g G'.T.b G'.T.builtins G'.T.nolimit hg hobj hints (Nat.le_trans hlen hn2) room (fun base kb nb => ?_) fun H hS => ?_
  · obtain ⟨⟨f, fd, ds, dvs, j1, j2, j3, j5, j6, j7, j8⟩, _⟩ := fns_ok (P := l.prog) (w := w) (base := base) rfl hG hd1 hd2 k i D hi
    rw [hx] at j1
    rw [j1] at hmg
    cases hmg
    have e1 : D.sig.ps = [x] := hps
    have e2 : D.sig.dfl = [] := hdfl
    have e3 : D.sig.np = 1 := by unfold Sig.np; rw [e1]; rfl
    rw [e3, e1] at j3
    refine ⟨fd, j3, ?_⟩
    have b := j7 0 (Nat.zero_le _)
    have d0 : ds = [] := by
      have h := j6 [] fun _ => none
      rw [e2] at h
      obtain rfl : dvs = [] := h
      cases j5
      rfl
    subst d0
    have b2 := b s1 [.ref a] kin (by rw [e1]; rfl)
    rw [e1] at b2
    exact b2
  · obtain ⟨vs', hS, rfl⟩ := hS
    refine ⟨[.w (.rol (ns.map W.int))], [], [], [], .nil, List.nodup_nil, ⟨_, _, [], [], rfl, rfl, ⟨?_, rfl⟩, rfl, rfl⟩, rfl, _, M', hM, fun rho' H' v fr' _ r => ?_⟩
    · simp only [RW]
      exact ⟨a, _, rfl, hS, ints_rel ns⟩
    · obtain ⟨r, _⟩ := r
      simpa only [RW] using r
end Rk

/-! Rk24: the table's facts. -/
namespace Rk
open PySem PySem.Spec PyProof.Rows L2

def Alls {A : Type} (P : A → Prop) : List A → Prop
  | [] => True
  | x :: r => P x ∧ Alls P r
theorem alls_get {A : Type} {P : A → Prop} : ∀ {l : List A}, Alls P l → ∀ (i : Nat) (x : A), l[i]? = some x → P x
  | [], _, i, x, h => by simp at h
  | y :: r, a, 0, x, h => by simp at h; subst h; exact a.1
  | y :: r, a, i + 1, x, h => alls_get a.2 i x (by simpa using h)
theorem alls_look {B : Type} {P : Str → B → Prop} : ∀ {l : List (Str × B)}, Alls (fun p => P p.1 p.2) l → ∀ x k, l.lookup x = some k → P x k
  | [], _, x, k, h => by simp at h
  | (y, b) :: r, a, x, k, h => by
    rw [List.lookup_cons] at h
    split at h
    · rename_i e
      cases h
      rw [beq_iff_eq.mp e]
      exact a.1
    · exact alls_look a.2 x k h
/-- what a def's text tells alone -/
structure StOk (D : Df) : Prop where
  sc : FnScope D.N D.ps (defScope D.st)
  dbg : (D.x == ("__debug__" : Str)) = false
  dfl : D.dfl = []
  bnd : ∀ (kV doc pm : Value) (an : Option Addr) (cdv ct : Value) (us : List Value), us.length = D.ps.length → bindArgs (PySem.W.fnOf D.x D.x (defArgs D.st) (defBody D.st) (defScope D.st) .none kV doc pm an cdv ct) ⟨us, []⟩ = pure (D.ps.zip us)
  kws : Alls (fun q : Nat × List Str × List Nat => ∀ (kV doc pm : Value) (an : Option Addr) (cdv ct : Value) (us ws : List Value), us.length = q.1 → ws.length = q.2.1.length →
    bindArgs (PySem.W.fnOf D.x D.x (defArgs D.st) (defBody D.st) (defScope D.st) .none kV doc pm an cdv ct) ⟨us, q.2.1.zip ws⟩ = pure (D.ps.zip (pick q.2.2 (us ++ ws ++ [])))) D.kws
theorem alls_mem {A : Type} {P : A → Prop} : ∀ {l : List A}, Alls P l → ∀ x ∈ l, P x
  | [], _, x, h => by simp at h
  | y :: r, a, x, h => by
    rcases List.mem_cons.mp h with e | h
    · rw [e]; exact a.1
    · exact alls_mem a.2 x h
section
variable {K : PySem.W.Frag} {h : Heap} {mg : Str → Option Value} {tab : List Df}
theorem dfAt_mk (KX : K.In h) (GN : h.Ns mainGlobals mg) {D : Df} (S : StOk D) {f : Addr} {oc kV doc pm cdv ct : Value} {od an : Option Addr} {osl : Array (Option Value)} (a : PySem.W.nsIn K mainGlobals D.x = some (some (.ref f)))
    (l : K.lookup f = some ⟨oc, od, .func (PySem.W.fnOf D.x D.x (defArgs D.st) (defBody D.st) (defScope D.st) .none kV doc pm an cdv ct), osl⟩) (c : PySem.W.codeIn K cdv D.x = true) (k : PySem.W.keepIn K (.ref f) = true) : DfAt ⟨K, fun _ => none⟩ K mg D := by
  refine ⟨⟨f, _, [], [], PySem.W.mg_of KX GN a, k, ⟨oc, od, .none, kV, doc, pm, an, cdv, ct, osl, rfl, l, c⟩, .nil, fun _ _ => by rw [S.dfl]; rfl, fun m _ => ?_, fun q hq s us ws _ hu hw _ => .of_eq (alls_mem S.kws q hq kV doc pm an cdv ct us ws hu hw)⟩, S.sc, S.dbg⟩
  rw [List.drop_nil]
  exact .all fun us hl => S.bnd kV doc pm an cdv ct us hl
theorem gl_fn {x : Str} {i : Nat} {D : Df} (hi : tab[i]? = some D) (hx : D.x = x) : GlAt ⟨K, fun _ => none⟩ mg tab x (.fn i) := ⟨D, hi, hx⟩
theorem gl_bi (KX : K.In h) (GN : h.Ns mainGlobals mg) {b : Bi} (z : PySem.W.nsIn K mainGlobals b.name = some none) : GlAt ⟨K, fun _ => none⟩ mg tab b.name (.bi b) := ⟨rfl, PySem.W.mg_none_of KX GN z⟩
theorem gl_int (KX : K.In h) (GN : h.Ns mainGlobals mg) {x : Str} {i : Int} {t : Tok} (z : PySem.W.nsIn K mainGlobals x = some (some (.int i t))) (hd : (x == ("__debug__" : Str)) = false) : GlAt ⟨K, fun _ => none⟩ mg tab x (.con (.int i)) :=
  ⟨⟨_, .int i, PySem.W.mg_of KX GN z, ⟨t, rfl⟩, fun _ _ => by simp only [RW]⟩, hd⟩
theorem gl_str (KX : K.In h) (GN : h.Ns mainGlobals mg) {x y : Str} {t : Tok} (z : PySem.W.nsIn K mainGlobals x = some (some (.str y t))) (hd : (x == ("__debug__" : Str)) = false) : GlAt ⟨K, fun _ => none⟩ mg tab x (.con (.str y)) :=
  ⟨⟨_, .str y, PySem.W.mg_of KX GN z, ⟨t, rfl⟩, fun _ _ => by simp only [RW]⟩, hd⟩
/-- a tuple of the module: its items -/
def KW (K : PySem.W.Frag) : W → Value → Prop
  | .int i, u => ∃ t, u = .int i t
  | .str y, u => ∃ t, u = .str y t
  | .bl b, u => u = .bool b
  | .non, u => u = .none
  | _, _ => False
def KWs (K : PySem.W.Frag) : List W → List Value → Prop
  | [], us => us = []
  | x :: xs, us => ∃ u vs, us = u :: vs ∧ KW K x u ∧ KWs K xs vs
theorem kw_rel {C : Cf} {rho : List Addr} {H : Hp} {x : W} {u : Value} (hx : KW K x u) : ∃ v, RelV v u ∧ RW C rho H x v := by
  cases x with
  | int i => obtain ⟨t, rfl⟩ := hx; exact ⟨.int i, ⟨t, rfl⟩, by simp only [RW]⟩
  | str i => obtain ⟨t, rfl⟩ := hx; exact ⟨.str i, ⟨t, rfl⟩, by simp only [RW]⟩
  | bl b => obtain rfl := hx; exact ⟨.bl b, rfl, by simp only [RW]⟩
  | non => obtain rfl := hx; exact ⟨.non, rfl, by simp only [RW]⟩
  | _ => exact hx.elim
theorem kws_rel {C : Cf} : ∀ {xs : List W} {us : List Value}, KWs K xs us → ∃ vs, Vals vs us ∧ ∀ rho H, RWs C rho H xs vs
  | [], us, hx => by obtain rfl := hx; exact ⟨[], .nil, fun _ _ => rfl⟩
  | x :: xs, us, hx => by
    obtain ⟨u, vs, rfl, h1, h2⟩ := hx
    obtain ⟨ws, r2, k2⟩ := kws_rel h2
    have h : ∃ v, RelV v u ∧ ∀ rho H, RW C rho H x v := by
      cases x with
      | int i => obtain ⟨t, rfl⟩ := h1; exact ⟨.int i, ⟨t, rfl⟩, fun _ _ => by simp only [RW]⟩
      | str i => obtain ⟨t, rfl⟩ := h1; exact ⟨.str i, ⟨t, rfl⟩, fun _ _ => by simp only [RW]⟩
      | bl b => obtain rfl := h1; exact ⟨.bl b, rfl, fun _ _ => by simp only [RW]⟩
      | non => obtain rfl := h1; exact ⟨.non, rfl, fun _ _ => by simp only [RW]⟩
      | _ => exact h1.elim
    obtain ⟨v, r1, k1⟩ := h
    refine ⟨v :: ws, .cons r1 r2, fun rho H => ?_⟩
    simp only [RWs]
    exact ⟨v, ws, rfl, k1 rho H, k2 rho H⟩
theorem gl_tup (KX : K.In h) (GN : h.Ns mainGlobals mg) {x : Str} {xs : List W} {a : Addr} {od : Option Addr} {us : List Value} {n : Nat} {osl : Array (Option Value)} (z : PySem.W.nsIn K mainGlobals x = some (some (.ref a))) (l : K.lookup a = some ⟨.type "tuple", od, .seq us.toArray n, osl⟩)
    (hw : KWs K xs us) (hz : us.length ≤ sizeLine) (hd : (x == ("__debug__" : Str)) = false) : GlAt ⟨K, fun _ => none⟩ mg tab x (.con (.tup xs)) := by
  obtain ⟨vs, r, k⟩ := kws_rel (C := ⟨K, fun _ => none⟩) hw
  refine ⟨⟨_, .ref a, PySem.W.mg_of KX GN z, rfl, fun rho H => ?_⟩, hd⟩
  simp only [RW]
  exact ⟨a, vs, rfl, .inr ⟨_, us.toArray, n, l, rfl, rfl, by simpa using hz, by simpa using r⟩, k rho H⟩
end
/-- a def of the table does what its body's text says -/
theorem orc_fn {tab : List Df} {G : GT} {n i : Nat} {D : Df} {d : Orc → DS} (h : tab[i]? = some D) (e : ∀ O, (body O G D.N D.st).d = d O) (ts : List T) (M : List Ob) : (orc tab G (n + 1)).fn i ts M = runB (d (orc tab G n)) D.N.length ts M := by
  show (match tab[i]? with
    | some D => runB (body (orc tab G n) G D.N D.st).d D.N.length ts M
    | none => .bad) = _
  rw [h]
  show runB (body (orc tab G n) G D.N D.st).d D.N.length ts M = _
  rw [e]
end Rk

/-! Rk25: what a semantic function does, step by step. -/
namespace Rk
open PySem PySem.Spec PyProof.Rows L2

def Out.sat {A : Type} (o : Out A) (Q : A → S → Prop) : Prop := match o with
  | .ok a s => Q a s
  | _ => False
structure Po where
  nx : S → Prop
  rt : T → List Ob → Prop
  bk : S → Prop := fun _ => False
  ct : S → Prop := fun _ => False
def Fl.sat (r : Fl) (P : Po) : Prop := match r with
  | .nx s => P.nx s
  | .rt t M => P.rt t M
  | .bk s => P.bk s
  | .ct s => P.ct s
  | _ => False
def Res.sat (r : Res) (R : T → List Ob → Prop) : Prop := match r with
  | .ok t M => R t M
  | _ => False
def osat {A : Type} (o : Option A) (Q : A → Prop) : Prop := match o with
  | some a => Q a
  | none => False
theorem Res.sat_iff {r : Res} {R : T → List Ob → Prop} : r.sat R ↔ ∃ t M, r = .ok t M ∧ R t M := by
  cases r with
  | ok t M => exact ⟨fun h => ⟨t, M, rfl, h⟩, fun ⟨_, _, e, h⟩ => by cases e; exact h⟩
  | ex x M => exact ⟨fun h => h.elim, fun ⟨_, _, e, _⟩ => by cases e⟩
  | bad => exact ⟨fun h => h.elim, fun ⟨_, _, e, _⟩ => by cases e⟩
theorem Res.sat.mono {r : Res} {R R' : T → List Ob → Prop} (h : r.sat R) (w : ∀ t M, R t M → R' t M) : r.sat R' := by
  cases r with
  | ok t M => exact w t M h
  | ex x M => exact h.elim
  | bad => exact h.elim
theorem Out.sat.mono {A : Type} {o : Out A} {Q Q' : A → S → Prop} (h : o.sat Q) (w : ∀ a s, Q a s → Q' a s) : o.sat Q' := by
  cases o with
  | ok t M => exact w t M h
  | ex x M => exact h.elim
  | bad => exact h.elim
theorem Fl.sat.mono {r : Fl} {P P' : Po} (h : r.sat P) (h1 : ∀ s, P.nx s → P'.nx s) (h2 : ∀ t M, P.rt t M → P'.rt t M) (h3 : ∀ s, P.bk s → P'.bk s) (h4 : ∀ s, P.ct s → P'.ct s) : r.sat P' := by
  cases r with
  | nx s => exact h1 s h
  | rt t M => exact h2 t M h
  | bk s => exact h3 s h
  | ct s => exact h4 s h
  | ex x s => exact h.elim
  | bad => exact h.elim
theorem eq_sat {o : Res} {t : T} {M : List Ob} (h : o = .ok t M) {R : T → List Ob → Prop} (r : R t M) : o.sat R := by rw [h]; exact r
def intW : Option T → Option Int
  | some (.w (.int i)) => some i
  | _ => none
theorem intW_none {o : Option T} (h : ∀ i, o = some (.w (.int i)) → False) : intW o = none := by
  unfold intW
  split
  · exact (h _ rfl).elim
  · rfl
def blT : T → Option Bool
  | .w (.bl k) => some k
  | _ => none
theorem blT_none {t : T} (h : ∀ k, t = .w (.bl k) → False) : blT t = none := by
  unfold blT
  split
  · exact (h _ rfl).elim
  · rfl
section
variable {A B : Type} {o : Out A} {f : A → S → Out B} {k : A → S → Fl} {Q : B → S → Prop} {P : Po} {s : S} {a b c d d1 d2 d3 : DE}
theorem sat_ok {x : A} {Q : A → S → Prop} : (Out.ok x s).sat Q ↔ Q x s := Iff.rfl
theorem sat_bind : (o.bind f).sat Q ↔ o.sat fun x s => (f x s).sat Q := by cases o <;> exact Iff.rfl
theorem sat_fl : (o.fl k).sat P ↔ o.sat fun x s => (k x s).sat P := by cases o <;> exact Iff.rfl
theorem sat_then {r : Fl} {k : S → Fl} : (r.then k).sat P ↔ r.sat { P with nx := fun s => (k s).sat P } := by cases r <;> exact Iff.rfl
theorem sat_nx : (Fl.nx s).sat P ↔ P.nx s := Iff.rfl
theorem sat_rt {t : T} {M : List Ob} : (Fl.rt t M).sat P ↔ P.rt t M := Iff.rfl
theorem osat_some {x : A} {Q : A → Prop} : osat (some x) Q ↔ Q x := Iff.rfl
theorem osat_none {Q : A → Prop} : osat none Q ↔ False := Iff.rfl
theorem osat_ite {c : Prop} [Decidable c] {x : A} {Q : A → Prop} : osat (if c then some x else none) Q ↔ c ∧ Q x := by
  by_cases h : c <;> simp [h, osat]
theorem osat_map {x : Option A} {g : A → B} {Q : B → Prop} : osat (x.map g) Q ↔ osat x fun y => Q (g y) := by cases x <;> exact Iff.rfl
theorem osat_bind {x : Option A} {g : A → Option B} {Q : B → Prop} : osat (x.bind g) Q ↔ osat x fun y => osat (g y) Q := by cases x <;> exact Iff.rfl
theorem sat_opt {x : Option T} {Q : T → S → Prop} : (match x with | some t => Out.ok t s | none => .bad).sat Q ↔ osat x fun t => Q t s := by cases x <;> exact Iff.rfl
/-! expressions -/
theorem w_var {i : Nat} {Q : T → S → Prop} : (dvar i s).sat Q ↔ osat (s.sg[i]?.bind id) fun t => match t with | .w x => Q (.w x) s | _ => Q (.sl i) s := by
  unfold dvar
  cases h : s.sg[i]? with
  | none => exact Iff.rfl
  | some t =>
    cases t with
    | none => exact Iff.rfl
    | some t => cases t <;> exact Iff.rfl
theorem w_con {x : W} {Q : T → S → Prop} : (dcon x s).sat Q ↔ Q (.w x) s := Iff.rfl
theorem w_bin {op : Operator} {Q : T → S → Prop} : (dbin op a b s).sat Q ↔ (a s).sat fun t1 s => (b s).sat fun t2 s => osat (opBin op s t1 t2) fun t => Q t s := by
  simp only [dbin, sat_bind]
  refine Eq.to_iff (congrArg _ (funext fun t1 => funext fun s => congrArg _ (funext fun t2 => funext fun s => ?_)))
  cases opBin op s t1 t2 <;> rfl
theorem w_cmp {op : CmpOp} {Q : T → S → Prop} : (dcmp op a b s).sat Q ↔ (a s).sat fun t1 s => (b s).sat fun t2 s => osat (opCmp op s t1 t2) fun k => Q (.w (.bl k)) s := by
  simp only [dcmp, sat_bind]
  refine Eq.to_iff (congrArg _ (funext fun t1 => funext fun s => congrArg _ (funext fun t2 => funext fun s => ?_)))
  cases opCmp op s t1 t2 <;> rfl
theorem w_ix {Q : T → S → Prop} : (dix a b s).sat Q ↔ (a s).sat fun t1 s => (b s).sat fun t2 s => osat (opIx s t1 t2) fun t => Q t s := by
  simp only [dix, sat_bind]
  refine Eq.to_iff (congrArg _ (funext fun t1 => funext fun s => congrArg _ (funext fun t2 => funext fun s => ?_)))
  cases opIx s t1 t2 <;> rfl
theorem w_bi {g : S → List T → Option T} {ds : List DE} {Q : T → S → Prop} : (dbi g ds s).sat Q ↔ (dEs ds s).sat fun ts s => osat (g s ts) fun t => Q t s := by
  simp only [dbi, sat_bind]
  refine Eq.to_iff (congrArg _ (funext fun ts => funext fun s => ?_))
  cases g s ts <;> rfl
theorem w_es0 {Q : List T → S → Prop} : (dEs [] s).sat Q ↔ Q [] s := Iff.rfl
theorem w_es {ds : List DE} {Q : List T → S → Prop} : (dEs (d :: ds) s).sat Q ↔ (d s).sat fun t s => (dEs ds s).sat fun ts s => Q (t :: ts) s := by
  simp only [dEs, sat_bind, sat_ok]
theorem w_ts0 {Q : List T → S → Prop} : (dTs [] s).sat Q ↔ Q [] s := Iff.rfl
theorem w_ts {ds : List DE} {Q : List T → S → Prop} : (dTs (d :: ds) s).sat Q ↔ (dT d s).sat fun t s => (dTs ds s).sat fun ts s => Q (t :: ts) s := by
  simp only [dTs, sat_bind, sat_ok]
theorem w_ws0 {Q : List W → S → Prop} : (dWs [] s).sat Q ↔ Q [] s := Iff.rfl
theorem w_ws {ds : List DE} {Q : List W → S → Prop} : (dWs (d :: ds) s).sat Q ↔ (dW d s).sat fun t s => (dWs ds s).sat fun ts s => Q (t :: ts) s := by
  simp only [dWs, sat_bind, sat_ok]
theorem w_W {Q : W → S → Prop} : (dW d s).sat Q ↔ (d s).sat fun t s => (esc t s).sat Q := by simp only [dW, sat_bind]
theorem w_T {Q : T → S → Prop} : (dT d s).sat Q ↔ (d s).sat fun t s => (giv t s).sat Q := by simp only [dT, sat_bind]
theorem w_esc {x : W} {Q : W → S → Prop} : (esc (.w x) s).sat Q ↔ Q x s := Iff.rfl
theorem w_givw {x : W} {Q : T → S → Prop} : (giv (.w x) s).sat Q ↔ Q (.w x) s := Iff.rfl
theorem w_givl {xs : List W} {Q : T → S → Prop} : (giv (.lst xs) s).sat Q ↔ Q (.lst xs) s := Iff.rfl
theorem w_tup {ds : List DE} {Q : T → S → Prop} : (dtup ds s).sat Q ↔ (dWs ds s).sat fun xs s => xs.length ≤ sizeLine ∧ Q (.w (.tup xs)) s := by
  simp only [dtup, sat_bind]
  refine Eq.to_iff (congrArg _ (funext fun xs => funext fun s => ?_))
  split <;> rename_i h <;> simp [Out.sat, h]
theorem w_lst {ds : List DE} {Q : T → S → Prop} : (dlst ds s).sat Q ↔ (dWs ds s).sat fun xs s => xs.length ≤ sizeLine ∧ Q (.lst xs) s := by
  simp only [dlst, sat_bind]
  refine Eq.to_iff (congrArg _ (funext fun xs => funext fun s => ?_))
  split <;> rename_i h <;> simp [Out.sat, h]
theorem w_call {g : List T → List Ob → Res} {np : Nat} {ds : List DE} {dfl : List W} {Q : T → S → Prop} : (dcall g np ds dfl s).sat Q ↔ (dTs ds s).sat fun ts s => (ts ++ dfl.map T.w).length = np ∧ (g (ts ++ dfl.map T.w) s.M).sat fun t M => Q t ⟨s.sg, M⟩ := by
  simp only [dcall, sat_bind]
  refine Eq.to_iff (congrArg _ (funext fun ts => funext fun s => ?_))
  split
  · rename_i h
    simp only [h, true_and]
    cases g (ts ++ dfl.map T.w) s.M <;> rfl
  · rename_i h; exact propext ⟨fun z => z.elim, fun z => absurd z.1 h⟩
theorem w_callK {g : List T → List Ob → Res} {np : Nat} {da dk : List DE} {pm : List Nat} {dfl : List W} {Q : T → S → Prop} : (dcallK g np da dk pm dfl s).sat Q ↔ (dWs da s).sat fun xs s => (dWs dk s).sat fun ys s =>
    (xs.length = da.length ∧ ys.length = dk.length ∧ (pick pm (xs ++ ys ++ dfl)).length = np) ∧ (g ((pick pm (xs ++ ys ++ dfl)).map T.w) s.M).sat fun t M => Q t ⟨s.sg, M⟩ := by
  simp only [dcallK, sat_bind]
  refine Eq.to_iff (congrArg _ (funext fun xs => funext fun s => congrArg _ (funext fun ys => funext fun s => ?_)))
  split
  · rename_i h
    simp only [h, true_and, and_self]
    cases g ((pick pm (xs ++ ys ++ dfl)).map T.w) s.M <;> rfl
  · rename_i h; exact propext ⟨fun z => z.elim, fun z => absurd z.1 h⟩
theorem w_un {op : UnaryOp} {Q : T → S → Prop} : (dun op a s).sat Q ↔ (a s).sat fun t s => osat (intW (s.get t)) fun i => osat (intUn op i) fun j => Q (.w (.int j)) s := by
  simp only [dun, sat_bind]
  refine Eq.to_iff (congrArg _ (funext fun t => funext fun s => ?_))
  split
  · rename_i i z
    rw [z]
    simp only [intW, osat]
    cases intUn op i <;> rfl
  · rename_i z
    rw [intW_none z]
    rfl
theorem w_not {Q : T → S → Prop} : (dnot a s).sat Q ↔ (a s).sat fun t s => osat (truT s t) fun k => Q (.w (.bl !k)) s := by
  simp only [dnot, sat_bind]
  refine Eq.to_iff (congrArg _ (funext fun t => funext fun s => ?_))
  cases truT s t <;> rfl
theorem w_and {Q : T → S → Prop} : (dand a b s).sat Q ↔ (a s).sat fun t s => osat (truT s t) fun k => if k = true then (b s).sat Q else Q t s := by
  simp only [dand, sat_bind]
  refine Eq.to_iff (congrArg _ (funext fun t => funext fun s => ?_))
  cases truT s t with
  | none => rfl
  | some k => cases k <;> simp [Out.sat, osat]
theorem w_or {Q : T → S → Prop} : (dor a b s).sat Q ↔ (a s).sat fun t s => osat (truT s t) fun k => if k = true then Q t s else (b s).sat Q := by
  simp only [dor, sat_bind]
  refine Eq.to_iff (congrArg _ (funext fun t => funext fun s => ?_))
  cases truT s t with
  | none => rfl
  | some k => cases k <;> simp [Out.sat, osat]
theorem w_ifx {t : DB} {Q : T → S → Prop} : (difx t a b s).sat Q ↔ (t s).sat fun k s => if k = true then (a s).sat Q else (b s).sat Q := by
  simp only [difx, sat_bind]
  refine Eq.to_iff (congrArg _ (funext fun k => funext fun s => ?_))
  cases k <;> simp
theorem w_sl {lo hi : DO} {Q : T → S → Prop} : (dsl d lo hi s).sat Q ↔ (d s).sat fun t s => (lo s).sat fun l s => (hi s).sat fun h s => osat (opSl s t l h) fun t => Q t s := by
  simp only [dsl, sat_bind]
  refine Eq.to_iff (congrArg _ (funext fun t => funext fun s => congrArg _ (funext fun l => funext fun s => congrArg _ (funext fun h => funext fun s => ?_))))
  cases opSl s t l h <;> rfl
theorem w_no {Q : Option Int → S → Prop} : (dno s).sat Q ↔ Q none s := Iff.rfl
theorem w_so {Q : Option Int → S → Prop} : (dso d s).sat Q ↔ (d s).sat fun t s => osat (intW (s.get t)) fun i => Q (some i) s := by
  simp only [dso, sat_bind]
  refine Eq.to_iff (congrArg _ (funext fun t => funext fun s => ?_))
  split
  · rename_i i z; rw [z]; rfl
  · rename_i z; rw [intW_none z]; rfl
/-! tests -/
theorem w_asb {Q : Bool → S → Prop} : (asb d s).sat Q ↔ (d s).sat fun t s => osat (blT t) fun k => Q k s := by
  simp only [asb, sat_bind]
  refine Eq.to_iff (congrArg _ (funext fun t => funext fun s => ?_))
  split
  · rfl
  · rename_i h; rw [blT_none h]; rfl
theorem w_tru {Q : Bool → S → Prop} : (dtru d s).sat Q ↔ (d s).sat fun t s => osat (truT s t) fun k => Q k s := by
  simp only [dtru, sat_bind]
  refine Eq.to_iff (congrArg _ (funext fun t => funext fun s => ?_))
  cases truT s t <;> rfl
theorem w_bnot {t : DB} {Q : Bool → S → Prop} : (bnot t s).sat Q ↔ (t s).sat fun k s => Q (!k) s := by simp only [bnot, sat_bind, sat_ok]
theorem w_band {t u : DB} {Q : Bool → S → Prop} : (band t u s).sat Q ↔ (t s).sat fun k s => if k = true then (u s).sat Q else Q false s := by
  simp only [band, sat_bind]
  refine Eq.to_iff (congrArg _ (funext fun k => funext fun s => ?_))
  cases k <;> simp [Out.sat]
theorem w_bor {t u : DB} {Q : Bool → S → Prop} : (bor t u s).sat Q ↔ (t s).sat fun k s => if k = true then Q true s else (u s).sat Q := by
  simp only [bor, sat_bind]
  refine Eq.to_iff (congrArg _ (funext fun k => funext fun s => ?_))
  cases k <;> simp [Out.sat]
theorem w_yes {Q : Bool → S → Prop} : (dyes s).sat Q ↔ Q true s := Iff.rfl
/-! statements -/
theorem w_skip : (dskip s).sat P ↔ P.nx s := Iff.rfl
theorem w_seq {x y : DS} : (dseq x y s).sat P ↔ (x s).sat { P with nx := fun s => (y s).sat P } := by simp only [dseq, sat_then]
theorem w_expr : (dexpr d s).sat P ↔ (d s).sat fun _ s => P.nx s := by simp only [dexpr, sat_fl, sat_nx]
theorem w_set {i : Nat} : (dset i d s).sat P ↔ (dT d s).sat fun t s => P.nx (setS i t s) := by simp only [dset, sat_fl, sat_nx]
theorem w_ret : (dret d s).sat P ↔ (d s).sat fun t s => osat (s.get t) fun u => P.rt u s.M := by
  simp only [dret, sat_fl]
  refine Eq.to_iff (congrArg _ (funext fun t => funext fun s => ?_))
  cases s.get t <;> rfl
theorem w_retN : (dretN s).sat P ↔ P.rt (.w .non) s.M := Iff.rfl
theorem w_if {t : DB} {x y : DS} : (dif t x y s).sat P ↔ (t s).sat fun k s => if k = true then (x s).sat P else (y s).sat P := by
  simp only [dif, sat_fl]
  refine Eq.to_iff (congrArg _ (funext fun k => funext fun s => ?_))
  cases k <;> simp
theorem w_asg {g : DG} : (dasg d g s).sat P ↔ (dW d s).sat fun x s => (g x s).sat fun _ s => P.nx s := by simp only [dasg, sat_fl, sat_nx]
theorem w_par {is : List Nat} {ds : List DE} : (dpar is ds s).sat P ↔ (dTs ds s).sat fun ts s => osat (parS is ts s) P.nx := by
  simp only [dpar, sat_fl]
  refine Eq.to_iff (congrArg _ (funext fun ts => funext fun s => ?_))
  cases parS is ts s <;> rfl
theorem w_gnm {i : Nat} {x : W} {Q : Unit → S → Prop} : (gnm i x s).sat Q ↔ Q () (setS i (.w x) s) := Iff.rfl
theorem w_gsb {x : W} {Q : Unit → S → Prop} : (gsb a b x s).sat Q ↔ (a s).sat fun t s => (b s).sat fun ti s => osat (intW (s.get ti)) fun i => osat (mutL s t) fun p => osat (ixN p.1.length i) fun j => Q () (p.2 (p.1.set j x)) := by
  simp only [gsb, sat_bind]
  refine Eq.to_iff (congrArg _ (funext fun t => funext fun s => congrArg _ (funext fun ti => funext fun s => ?_)))
  split
  · rename_i i xs g z1 z2
    rw [z1, z2]
    simp only [intW, osat]
    cases ixN xs.length i <;> rfl
  · rename_i h
    cases z : intW (s.get ti) with
    | none => rfl
    | some i =>
      have z1 : s.get ti = some (.w (.int i)) := by
        unfold intW at z
        split at z
        · rename_i e; cases z; exact e
        · cases z
      cases z2 : mutL s t with
      | none => rfl
      | some p => exact absurd z2 (by obtain ⟨xs, g⟩ := p; exact h i xs g z1)
theorem w_mt {ds : List DE} {f : LM} {Q : T → S → Prop} : (dmt d ds f s).sat Q ↔ (d s).sat fun t s => (lstOf s t).isSome = true ∧ (dWs ds s).sat fun ys s => osat (mutL s t) fun p => osat (f p.1 ys) fun q => Q (.w q.1) (p.2 q.2) := by
  simp only [dmt, sat_bind]
  refine Eq.to_iff (congrArg _ (funext fun t => funext fun s => ?_))
  cases lstOf s t with
  | none => simp [Out.sat]
  | some u =>
    simp only [Option.isSome_some, true_and, sat_bind]
    refine congrArg _ (funext fun ys => funext fun s => ?_)
    cases mutL s t with
    | none => rfl
    | some p =>
      obtain ⟨xs, g⟩ := p
      simp only [osat]
      cases f xs ys with
      | none => rfl
      | some q => rfl
theorem w_ext {Q : T → S → Prop} : (dext a b s).sat Q ↔ (a s).sat fun t s => (lstOf s t).isSome = true ∧ (b s).sat fun t2 s => osat (mutL s t) fun p => osat (seqOf s t2) fun zs => p.1.length + zs.length ≤ sizeLine ∧ Q (.w .non) (p.2 (p.1 ++ zs)) := by
  simp only [dext, sat_bind]
  refine Eq.to_iff (congrArg _ (funext fun t => funext fun s => ?_))
  cases lstOf s t with
  | none => simp [Out.sat]
  | some u =>
    simp only [Option.isSome_some, true_and, sat_bind]
    refine congrArg _ (funext fun t2 => funext fun s => ?_)
    cases mutL s t with
    | none => rfl
    | some p =>
      obtain ⟨xs, g⟩ := p
      cases seqOf s t2 with
      | none => rfl
      | some zs =>
        simp only [osat]
        split <;> rename_i h <;> simp [Out.sat, h]
/-! a body -/
theorem w_run {x : DS} {n : Nat} {ts : List T} {M : List Ob} {R : T → List Ob → Prop} : (runB x n ts M).sat R ↔ (x ⟨ts.map some ++ List.replicate (n - ts.length) none, M⟩).sat { nx := fun s => R (.w .non) s.M, rt := R } := by
  unfold runB
  generalize x ⟨ts.map some ++ List.replicate (n - ts.length) none, M⟩ = r
  cases r <;> exact Iff.rfl
end
end Rk

/-! Rk25b: values looked at. -/
namespace Rk
open PySem PySem.Spec PyProof.Rows L2

section
variable {s : S} {x y : W} {xs ys : List W} {t t1 t2 : T} {i j : Int} {n k : Nat} {P : Po} {A : Type}
theorem w_stp {a b : DS} (h : ∀ k : S → Prop, (∀ s, (b s).sat P → k s) → (a s).sat { P with nx := k }) : (dseq a b s).sat P := by
  rw [w_seq]
  exact h _ fun _ z => z
/-- a part, whatever follows -/
theorem e_stp {d : DE} {Q : T → S → Prop} (h : ∀ k : T → S → Prop, (∀ t s, Q t s → k t s) → (d s).sat k) : (d s).sat Q := h _ fun _ _ z => z
theorem get_w : s.get (.w x) = some (.w x) := rfl
theorem get_l : s.get (.lst xs) = some (.lst xs) := rfl
theorem get_sl : s.get (.sl k) = (match s.sg[k]? with
    | some (some (.lst xs)) => some (.lst xs)
    | some (some (.dK kvs)) => some (.dK kvs)
    | some (some (.dT kvs)) => some (.dT kvs)
    | some (some (.w x)) => some (.w x)
    | _ => none) := rfl
theorem seq_tup : seqOf s (.w (.tup xs)) = some xs := rfl
theorem seq_rol : seqOf s (.w (.rol xs)) = some xs := rfl
theorem seq_l : seqOf s (.lst xs) = some xs := rfl
theorem seq_loc : seqOf s (.w (.loc n)) = (match s.M[n]? with
    | some (.lst xs) => some xs
    | _ => none) := rfl
theorem seq_sl : seqOf s (.sl k) = (s.get (.sl k)).bind (seqT s) := rfl
theorem seqT_l : seqT s (.lst xs) = some xs := rfl
theorem seqT_tup : seqT s (.w (.tup xs)) = some xs := rfl
theorem seqT_rol : seqT s (.w (.rol xs)) = some xs := rfl
theorem seqT_loc : seqT s (.w (.loc n)) = (match s.M[n]? with
    | some (.lst xs) => some xs
    | _ => none) := rfl
theorem lst_rol : lstOf s (.w (.rol xs)) = some xs := rfl
theorem lst_l : lstOf s (.lst xs) = some xs := rfl
theorem lst_loc : lstOf s (.w (.loc n)) = (match s.M[n]? with
    | some (.lst xs) => some xs
    | _ => none) := rfl
theorem lst_sl : lstOf s (.sl k) = (s.get (.sl k)).bind (lstT s) := rfl
theorem lstT_l : lstT s (.lst xs) = some xs := rfl
theorem lstT_rol : lstT s (.w (.rol xs)) = some xs := rfl
theorem lstT_loc : lstT s (.w (.loc n)) = (match s.M[n]? with
    | some (.lst xs) => some xs
    | _ => none) := rfl
theorem lst_tup : lstOf s (.w (.tup xs)) = none := rfl
def ixOf (o : Option (List W)) (g : Option T) (i : Int) : Option T := match o with
  | some xs => (atI xs i).map T.w
  | none => (match g with
      | some (.w (.str z)) => if z.length ≤ sizeLine then (atI z.cps.toList i).map fun c => T.w (.str ⟨#[c]⟩) else none
      | _ => none)
theorem ix_int : opIx s t (.w (.int i)) = ixOf (seqOf s t) (s.get t) i := by
  unfold opIx ixOf
  simp only [get_w]
  all_goals (cases seqOf s t <;> rfl)
theorem ix_some {g : Option T} : ixOf (some xs) g i = (atI xs i).map T.w := rfl
theorem at_nat {xs : List A} {n : Nat} : atI xs (n : Int) = xs[n]? := by
  unfold atI ixN
  by_cases h : n < xs.length
  · rw [if_pos (by omega), if_pos (by omega)]
    simp
  · rw [if_pos (by omega), if_neg (by omega), List.getElem?_eq_none (by omega)]
    rfl
theorem at_0 {xs : List A} : atI xs 0 = xs[0]? := at_nat (n := 0)
theorem at_1 {xs : List A} : atI xs 1 = xs[1]? := at_nat (n := 1)
theorem at_2 {xs : List A} : atI xs 2 = xs[2]? := at_nat (n := 2)
theorem at_3 {xs : List A} : atI xs 3 = xs[3]? := at_nat (n := 3)
theorem at_4 {xs : List A} : atI xs 4 = xs[4]? := at_nat (n := 4)
theorem at_5 {xs : List A} : atI xs 5 = xs[5]? := at_nat (n := 5)
theorem at_6 {xs : List A} : atI xs 6 = xs[6]? := at_nat (n := 6)
theorem at_7 {xs : List A} : atI xs 7 = xs[7]? := at_nat (n := 7)
theorem ix_nat {m n : Nat} (h : n < m) : ixN m (n : Int) = some n := by
  unfold ixN
  rw [if_pos (by omega), if_pos (by omega)]
  simp
theorem bin_int {op : Operator} : opBin op s (.w (.int i)) (.w (.int j)) = (intOp op i j).map fun k => .w (.int k) := rfl
theorem bin_tup (h : xs.length + ys.length ≤ sizeLine) : opBin .Add s (.w (.tup xs)) (.w (.tup ys)) = some (.w (.tup (xs ++ ys))) := by
  show (if xs.length + ys.length ≤ sizeLine then some (T.w (.tup (xs ++ ys))) else none) = _
  rw [if_pos h]
theorem i_add : intOp .Add i j = some (i + j) := rfl
theorem i_sub : intOp .Sub i j = some (i - j) := rfl
theorem i_mul : intOp .Mult i j = if mulOk i j = true then some (i * j) else none := rfl
theorem i_div : intOp .FloorDiv i j = if divOk j = true then some (iDiv i j) else none := rfl
theorem i_mod : intOp .Mod i j = if j ≠ 0 then some (iMod i j) else none := by
  show (if decide (j ≠ 0) = true then some (iMod i j) else none) = _
  by_cases h : j = 0 <;> simp [h]
theorem i_pow : intOp .Pow i j = if powOk i j = true then some (i ^ j.toNat) else none := rfl
theorem u_neg : intUn .USub i = some (-i) := rfl
theorem c_lt : opCmp .Lt s (.w (.int i)) (.w (.int j)) = some (decide (i < j)) := rfl
theorem c_le : opCmp .LtE s (.w (.int i)) (.w (.int j)) = some (decide (i ≤ j)) := rfl
theorem c_gt : opCmp .Gt s (.w (.int i)) (.w (.int j)) = some (decide (j < i)) := rfl
theorem c_ge : opCmp .GtE s (.w (.int i)) (.w (.int j)) = some (decide (j ≤ i)) := rfl
theorem c_eq : opCmp .Eq s (.w (.int i)) (.w (.int j)) = some (decide (i = j)) := rfl
theorem c_ne : opCmp .NotEq s (.w (.int i)) (.w (.int j)) = some (!decide (i = j)) := rfl
theorem c_isN : opCmp .Is s (.w .non) (.w .non) = some true := rfl
theorem c_isI : opCmp .Is s (.w (.int i)) (.w .non) = some false := rfl
theorem c_seq {a b : Str} : opCmp .Eq s (.w (.str a)) (.w (.str b)) = some (decide (a = b)) := rfl
theorem c_sne {a b : Str} : opCmp .NotEq s (.w (.str a)) (.w (.str b)) = some (!decide (a = b)) := rfl
theorem t_non : truT s (.w .non) = some false := rfl
theorem t_bl {b : Bool} : truT s (.w (.bl b)) = some b := rfl
theorem t_int : truT s (.w (.int i)) = some (i != 0) := rfl
theorem iw_int : intW (some (.w (.int i))) = some i := rfl
theorem bt_bl {b : Bool} : blT (.w (.bl b)) = some b := rfl
theorem b_int : bInt s [.w (.int i)] = some (.w (.int i)) := rfl
theorem b_intb {b : Bool} : bInt s [.w (.bl b)] = some (.w (.int (if b then 1 else 0))) := rfl
theorem b_abs : bAbs s [.w (.int i)] = some (.w (.int (if i < 0 then -i else i))) := rfl
theorem b_len (h : seqOf s t = some xs) (hn : ∀ z, s.get t ≠ some (.w (.str z))) : bLen s [t] = some (.w (.int xs.length)) := by
  show (match s.get t with
    | some (.w (.str z)) => if z.length ≤ sizeLine then some (T.w (.int z.length)) else none
    | _ => (seqOf s t).map fun ws : List W => T.w (.int ws.length)) = _
  split
  · rename_i z e; exact absurd e (hn z)
  · rw [h]; rfl
theorem b_lent : bLen s [.w (.tup xs)] = some (.w (.int xs.length)) := rfl
theorem b_lenr : bLen s [.w (.rol xs)] = some (.w (.int xs.length)) := rfl
theorem b_lenl : bLen s [.lst xs] = some (.w (.int xs.length)) := rfl
theorem b_tup : bTuple s [t] = (seqOf s t).map fun ws => T.w (.tup ws) := rfl
theorem b_list : bList s [t] = (seqOf s t).map T.lst := rfl
theorem b_all : bAll s [t] = (lstOf s t).bind fun ws => (blsOf ws).map fun bs => T.w (.bl (bs.all id)) := rfl
theorem b_any : bAny s [t] = (lstOf s t).bind fun ws => (blsOf ws).map fun bs => T.w (.bl (bs.any id)) := rfl
theorem b_sum : bSum s [t] = (lstOf s t).bind fun ws => (intsOf ws).map fun ns => T.w (.int ns.sum) := rfl
theorem bls_nil : blsOf [] = some [] := rfl
theorem bls_cons {b : Bool} : blsOf (.bl b :: xs) = (blsOf xs).map (b :: ·) := rfl
theorem ints_nil : intsOf [] = some [] := rfl
theorem ints_cons : intsOf (.int i :: xs) = (intsOf xs).map (i :: ·) := rfl
theorem ints_map {ns : List Int} : intsOf (ns.map W.int) = some ns := by
  induction ns with
  | nil => rfl
  | cons n ns ih => rw [List.map_cons, ints_cons, ih]; rfl
theorem b_min1 : bMin s [t] = ((seqOf s t).bind intsOf).bind fun ns => (minI ns).map fun i => T.w (.int i) := by
  have e : argsI s [t] = (seqOf s t).bind intsOf := rfl
  unfold bMin
  rw [e]
  cases (seqOf s t).bind intsOf <;> rfl
theorem b_max1 : bMax s [t] = ((seqOf s t).bind intsOf).bind fun ns => (maxI ns).map fun i => T.w (.int i) := by
  have e : argsI s [t] = (seqOf s t).bind intsOf := rfl
  unfold bMax
  rw [e]
  cases (seqOf s t).bind intsOf <;> rfl
theorem b_min2 : bMin s [.w (.int i), .w (.int j)] = some (.w (.int (if j < i then j else i))) := rfl
theorem b_max2 : bMax s [.w (.int i), .w (.int j)] = some (.w (.int (if i < j then j else i))) := rfl
theorem b_reprI (h : showI i = true) : bRepr s [.w (.int i)] = some (.w (.str (toString i))) := by
  show (if showI i = true then some (T.w (.str (toString i))) else none) = _
  rw [if_pos h]
theorem m_loc : mutL s (.w (.loc n)) = (match s.M[n]? with
    | some (.lst xs) => some (xs, fun ys => ⟨s.sg, s.M.set n (.lst ys)⟩)
    | _ => none) := rfl
theorem m_sl : mutL s (.sl k) = (match s.sg[k]? with
      | some (some (.lst xs)) => some (xs, fun ys => ⟨s.sg.set k (some (.lst ys)), s.M⟩)
      | some (some (.w (.loc n))) => (match s.M[n]? with
          | some (.lst xs) => some (xs, fun ys => ⟨s.sg, s.M.set n (.lst ys)⟩)
          | _ => none)
      | _ => none) := rfl
theorem p_nil : parS [] [] s = some s := rfl
theorem p_cons {is : List Nat} {ts : List T} : parS (k :: is) (t :: ts) s = parS is ts (setS k t s) := rfl
theorem set_s {sg : List (Option T)} {M : List Ob} : setS k t ⟨sg, M⟩ = ⟨sg.set k (some t), M⟩ := rfl
theorem giv_sl {xs : List W} {Q : T → S → Prop} (h : s.sg[k]? = some (some (.lst xs))) : (giv (.sl k) s).sat Q ↔ Q (.w (.loc s.M.length)) ⟨s.sg.set k (some (.w (.loc s.M.length))), s.M ++ [.lst xs]⟩ := by
  simp only [giv, esc, h, sat_bind, sat_ok]
theorem esc_l {xs : List W} {Q : W → S → Prop} : (esc (.lst xs) s).sat Q ↔ Q (.loc s.M.length) ⟨s.sg, s.M ++ [.lst xs]⟩ := Iff.rfl
theorem esc_sl {xs : List W} {Q : W → S → Prop} (h : s.sg[k]? = some (some (.lst xs))) : (esc (.sl k) s).sat Q ↔ Q (.loc s.M.length) ⟨s.sg.set k (some (.w (.loc s.M.length))), s.M ++ [.lst xs]⟩ := by
  simp only [esc, h, sat_ok]
theorem isI_int : bIsi s [.w (.int i), .w (.ty "int")] = some (.w (.bl true)) := rfl
theorem isI_bool : bIsi s [.w (.int i), .w (.ty "bool")] = some (.w (.bl false)) := rfl
theorem isI_tup : bIsi s [.w (.tup xs), .w (.ty "tuple")] = some (.w (.bl true)) := rfl
end
end Rk

/-! Rk26: the laws' draws: pot, take, cells. -/
namespace Rk
open PySem PySem.Spec PyProof.Rows L2

/-- the draw's body: its five numbers -/
def dTake (k1 k2 k3 k4 k5 : Int) : DS :=
  (dseq (dif (asb (dcmp .Gt (dix (dvar 0) (dcon (.int 0))) (dcon (.int 0)))) (dseq (dset 2 (dbin .Mod (dbi bInt [(dix (dvar 0) (dcon (.int 0)))]) (dvar 1))) (dseq (dasg (dbin .FloorDiv (dix (dvar 0) (dcon (.int 0))) (dvar 1)) (gsb (dvar 0) (dcon (.int 0)))) (dseq (dret (dvar 2)) dskip))) dskip)
  (dseq (dasg (dbin .Add (dix (dvar 0) (dcon (.int 2))) (dcon (.int 1))) (gsb (dvar 0) (dcon (.int 2)))) (dseq (dset 3 (dix (dlst [(dcon (.int 2147483647)), (dcon (.int 2147483629)), (dcon (.int 2147483587)), (dcon (.int 2147483579)), (dcon (.int 2147483563))]) (dbin .Mod (dbi bInt [(dix (dvar 0) (dcon (.int 2)))]) (dcon (.int 5)))))
  (dseq (dset 4 (dbin .Mod (dbi bInt [(dbin .Pow (dbi bInt [(dbin .Add (dbin .Add (dix (dvar 0) (dcon (.int 1))) (dbin .Mult (dbin .Mult (dcon (.int k1)) (dix (dvar 0) (dcon (.int 2)))) (dix (dvar 0) (dcon (.int 2))))) (dcon (.int k2)))]) (dcon (.int 3)))]) (dvar 3)))
  (dseq (dret (dbin .Mod (dbi bInt [(dbin .FloorDiv (dbin .Mult (dvar 4) (dbin .Add (dbin .Mod (dbi bInt [(dvar 4)]) (dcon (.int k3))) (dbin .Mult (dcon (.int k4)) (dix (dvar 0) (dcon (.int 2)))))) (dcon (.int k5)))]) (dvar 1))) dskip)))))
/-- a pot at n: drawn from at most k times -/
def Pot (M : List Ob) (n : Nat) (k : Int) : Prop := ∃ a b c : Int, M[n]? = some (.lst [.int a, .int b, .int c]) ∧ 0 ≤ a ∧ 0 ≤ b ∧ b < 2305843009213693952 ∧ 0 ≤ c ∧ c ≤ k
theorem ix0 : ixN (0 + 1 + 1 + 1) 0 = some 0 := rfl
theorem ix2 : ixN (0 + 1 + 1 + 1) 2 = some 2 := rfl
theorem mulOk_s {i j : Int} (h : i.natAbs < 18446744073709551616) : mulOk i j = true := by simp [mulOk, h]
theorem divOk_s {j : Int} (h : 0 < j) (h2 : j < 1073741824) : divOk j = true := by
  unfold divOk
  have h3 : j ≠ 0 := by omega
  have h4 : j.natAbs < 1073741824 := by omega
  simp [h3, h4]
theorem powOk_s {i n : Int} (h : 0 ≤ n) (h1 : n ≤ 1000000) (h2 : i.natAbs < 18446744073709551616) : powOk i n = true := by
  unfold powOk
  simp [h, h1, h2]
theorem take_ok {k1 k2 k3 k4 k5 : Int} (c1 : 0 ≤ k1) (c1' : k1 < 1000000) (c2 : 0 ≤ k2) (c2' : k2 < 1000000) (c3 : 0 < k3) (c3' : k3 < 1000000) (c4 : 0 ≤ k4) (c4' : k4 < 1000000) (c5 : 0 < k5) (c5' : k5 < 1000000)
    {M : List Ob} {n : Nat} {k u : Int} (hp : Pot M n k) (hk : k < 1000000) (hu : 0 < u) (hu' : u < 1073741824) {R : T → List Ob → Prop}
    (h : ∀ (r : Int) (ob : Ob), 0 ≤ r → r < u → Pot (M.set n ob) n (k + 1) → R (.w (.int r)) (M.set n ob)) : (runB (dTake k1 k2 k3 k4 k5) 5 [.w (.loc n), .w (.int u)] M).sat R := by
  obtain ⟨a, b, c, hM, ha, hb, hb', hc, hc'⟩ := hp
  have hn : n < M.length := (List.getElem?_eq_some_iff.mp hM).1
  have hset : ∀ ob : Ob, (M.set n ob)[n]? = some ob := fun ob => List.getElem?_set_self hn
  rw [w_run]
  unfold dTake
  refine w_stp fun k hk => ?_; try simp only [Rk.sat_ok, Rk.osat_some, Rk.osat_none, Rk.osat_ite, Rk.osat_map, Rk.osat_bind, Rk.w_var, Rk.w_con, Rk.w_bin, Rk.w_cmp, Rk.w_ix, Rk.w_bi, Rk.w_es0, Rk.w_es, Rk.w_ts0, Rk.w_ts, Rk.w_ws0, Rk.w_ws, Rk.w_W, Rk.w_T, Rk.w_esc, Rk.w_givw, Rk.w_givl, Rk.w_tup, Rk.w_lst, Rk.w_call, Rk.w_callK, Rk.w_un, Rk.w_not, Rk.w_and, Rk.w_or, Rk.w_ifx, Rk.w_sl, Rk.w_no, Rk.w_so, Rk.w_asb, Rk.w_tru, Rk.w_bnot, Rk.w_band, Rk.w_bor, Rk.w_yes, Rk.w_skip, Rk.w_expr, Rk.w_set, Rk.w_ret, Rk.w_retN, Rk.w_if, Rk.w_asg, Rk.w_par, Rk.w_gnm, Rk.w_gsb, Rk.w_mt, Rk.w_ext, Rk.backT, Option.getD_some, Option.getD_none, Rk.get_w, Rk.get_l, Rk.get_sl, Rk.seq_tup, Rk.seq_rol, Rk.seq_l, Rk.seq_loc, Rk.seq_sl, Rk.lst_rol, Rk.lst_l, Rk.lst_loc, Rk.lst_sl, Rk.lst_tup, Rk.ix_int, Rk.ix_some, Rk.seqT_l, Rk.seqT_tup, Rk.seqT_rol, Rk.seqT_loc, Rk.lstT_l, Rk.lstT_rol, Rk.lstT_loc, Rk.at_0, Rk.at_1, Rk.at_2, Rk.at_3, Rk.at_4, Rk.at_5, Rk.bin_int, Rk.i_add, Rk.i_sub, Rk.i_mul, Rk.i_div, Rk.i_mod, Rk.i_pow, Rk.u_neg, Rk.c_lt, Rk.c_le, Rk.c_gt, Rk.c_ge, Rk.c_eq, Rk.c_ne, Rk.c_isN, Rk.c_isI, Rk.c_seq, Rk.c_sne, Rk.t_non, Rk.t_bl, Rk.t_int, Rk.iw_int, Rk.bt_bl, Rk.b_int, Rk.b_intb, Rk.b_abs, Rk.b_lent, Rk.b_lenr, Rk.b_lenl, Rk.b_tup, Rk.b_list, Rk.b_all, Rk.b_any, Rk.b_sum, Rk.bls_nil, Rk.bls_cons, Rk.ints_nil, Rk.ints_cons, Rk.b_min1, Rk.b_max1, Rk.b_min2, Rk.b_max2, Rk.m_loc, Rk.m_sl, Rk.p_nil, Rk.p_cons, Rk.set_s, Rk.esc_l, Rk.isI_int, Rk.isI_bool, Rk.isI_tup, List.cons_append, List.nil_append, List.append_nil, List.getElem?_cons_zero, List.getElem?_cons_succ, List.set_cons_zero, List.set_cons_succ, List.length_cons, List.length_nil, List.map_nil, List.map_cons, Option.bind_some, Option.bind_none, Option.map_some, Option.map_none, Option.isSome_some, id_eq, true_and, and_true, decide_eq_true_eq, List.replicate_succ, List.replicate_zero, Nat.reduceAdd, Nat.reduceSub, Int.reduceMul, Int.reduceAdd, Int.reduceSub, Int.reduceNeg, if_true, if_false, Bool.true_eq_false, Bool.false_eq_true, reduceIte, hM]
  by_cases h0 : 0 < a
  · rw [if_pos h0]
    refine w_stp fun k hk => ?_; try simp only [Rk.sat_ok, Rk.osat_some, Rk.osat_none, Rk.osat_ite, Rk.osat_map, Rk.osat_bind, Rk.w_var, Rk.w_con, Rk.w_bin, Rk.w_cmp, Rk.w_ix, Rk.w_bi, Rk.w_es0, Rk.w_es, Rk.w_ts0, Rk.w_ts, Rk.w_ws0, Rk.w_ws, Rk.w_W, Rk.w_T, Rk.w_esc, Rk.w_givw, Rk.w_givl, Rk.w_tup, Rk.w_lst, Rk.w_call, Rk.w_callK, Rk.w_un, Rk.w_not, Rk.w_and, Rk.w_or, Rk.w_ifx, Rk.w_sl, Rk.w_no, Rk.w_so, Rk.w_asb, Rk.w_tru, Rk.w_bnot, Rk.w_band, Rk.w_bor, Rk.w_yes, Rk.w_skip, Rk.w_expr, Rk.w_set, Rk.w_ret, Rk.w_retN, Rk.w_if, Rk.w_asg, Rk.w_par, Rk.w_gnm, Rk.w_gsb, Rk.w_mt, Rk.w_ext, Rk.backT, Option.getD_some, Option.getD_none, Rk.get_w, Rk.get_l, Rk.get_sl, Rk.seq_tup, Rk.seq_rol, Rk.seq_l, Rk.seq_loc, Rk.seq_sl, Rk.lst_rol, Rk.lst_l, Rk.lst_loc, Rk.lst_sl, Rk.lst_tup, Rk.ix_int, Rk.ix_some, Rk.seqT_l, Rk.seqT_tup, Rk.seqT_rol, Rk.seqT_loc, Rk.lstT_l, Rk.lstT_rol, Rk.lstT_loc, Rk.at_0, Rk.at_1, Rk.at_2, Rk.at_3, Rk.at_4, Rk.at_5, Rk.bin_int, Rk.i_add, Rk.i_sub, Rk.i_mul, Rk.i_div, Rk.i_mod, Rk.i_pow, Rk.u_neg, Rk.c_lt, Rk.c_le, Rk.c_gt, Rk.c_ge, Rk.c_eq, Rk.c_ne, Rk.c_isN, Rk.c_isI, Rk.c_seq, Rk.c_sne, Rk.t_non, Rk.t_bl, Rk.t_int, Rk.iw_int, Rk.bt_bl, Rk.b_int, Rk.b_intb, Rk.b_abs, Rk.b_lent, Rk.b_lenr, Rk.b_lenl, Rk.b_tup, Rk.b_list, Rk.b_all, Rk.b_any, Rk.b_sum, Rk.bls_nil, Rk.bls_cons, Rk.ints_nil, Rk.ints_cons, Rk.b_min1, Rk.b_max1, Rk.b_min2, Rk.b_max2, Rk.m_loc, Rk.m_sl, Rk.p_nil, Rk.p_cons, Rk.set_s, Rk.esc_l, Rk.isI_int, Rk.isI_bool, Rk.isI_tup, List.cons_append, List.nil_append, List.append_nil, List.getElem?_cons_zero, List.getElem?_cons_succ, List.set_cons_zero, List.set_cons_succ, List.length_cons, List.length_nil, List.map_nil, List.map_cons, Option.bind_some, Option.bind_none, Option.map_some, Option.map_none, Option.isSome_some, id_eq, true_and, and_true, decide_eq_true_eq, List.replicate_succ, List.replicate_zero, Nat.reduceAdd, Nat.reduceSub, Int.reduceMul, Int.reduceAdd, Int.reduceSub, Int.reduceNeg, if_true, if_false, Bool.true_eq_false, Bool.false_eq_true, reduceIte, hM]
    refine ⟨by omega, ?_⟩
    refine hk _ ?_; clear hk k
    refine w_stp fun k hk => ?_; try simp only [Rk.sat_ok, Rk.osat_some, Rk.osat_none, Rk.osat_ite, Rk.osat_map, Rk.osat_bind, Rk.w_var, Rk.w_con, Rk.w_bin, Rk.w_cmp, Rk.w_ix, Rk.w_bi, Rk.w_es0, Rk.w_es, Rk.w_ts0, Rk.w_ts, Rk.w_ws0, Rk.w_ws, Rk.w_W, Rk.w_T, Rk.w_esc, Rk.w_givw, Rk.w_givl, Rk.w_tup, Rk.w_lst, Rk.w_call, Rk.w_callK, Rk.w_un, Rk.w_not, Rk.w_and, Rk.w_or, Rk.w_ifx, Rk.w_sl, Rk.w_no, Rk.w_so, Rk.w_asb, Rk.w_tru, Rk.w_bnot, Rk.w_band, Rk.w_bor, Rk.w_yes, Rk.w_skip, Rk.w_expr, Rk.w_set, Rk.w_ret, Rk.w_retN, Rk.w_if, Rk.w_asg, Rk.w_par, Rk.w_gnm, Rk.w_gsb, Rk.w_mt, Rk.w_ext, Rk.backT, Option.getD_some, Option.getD_none, Rk.get_w, Rk.get_l, Rk.get_sl, Rk.seq_tup, Rk.seq_rol, Rk.seq_l, Rk.seq_loc, Rk.seq_sl, Rk.lst_rol, Rk.lst_l, Rk.lst_loc, Rk.lst_sl, Rk.lst_tup, Rk.ix_int, Rk.ix_some, Rk.seqT_l, Rk.seqT_tup, Rk.seqT_rol, Rk.seqT_loc, Rk.lstT_l, Rk.lstT_rol, Rk.lstT_loc, Rk.at_0, Rk.at_1, Rk.at_2, Rk.at_3, Rk.at_4, Rk.at_5, Rk.bin_int, Rk.i_add, Rk.i_sub, Rk.i_mul, Rk.i_div, Rk.i_mod, Rk.i_pow, Rk.u_neg, Rk.c_lt, Rk.c_le, Rk.c_gt, Rk.c_ge, Rk.c_eq, Rk.c_ne, Rk.c_isN, Rk.c_isI, Rk.c_seq, Rk.c_sne, Rk.t_non, Rk.t_bl, Rk.t_int, Rk.iw_int, Rk.bt_bl, Rk.b_int, Rk.b_intb, Rk.b_abs, Rk.b_lent, Rk.b_lenr, Rk.b_lenl, Rk.b_tup, Rk.b_list, Rk.b_all, Rk.b_any, Rk.b_sum, Rk.bls_nil, Rk.bls_cons, Rk.ints_nil, Rk.ints_cons, Rk.b_min1, Rk.b_max1, Rk.b_min2, Rk.b_max2, Rk.m_loc, Rk.m_sl, Rk.p_nil, Rk.p_cons, Rk.set_s, Rk.esc_l, Rk.isI_int, Rk.isI_bool, Rk.isI_tup, List.cons_append, List.nil_append, List.append_nil, List.getElem?_cons_zero, List.getElem?_cons_succ, List.set_cons_zero, List.set_cons_succ, List.length_cons, List.length_nil, List.map_nil, List.map_cons, Option.bind_some, Option.bind_none, Option.map_some, Option.map_none, Option.isSome_some, id_eq, true_and, and_true, decide_eq_true_eq, List.replicate_succ, List.replicate_zero, Nat.reduceAdd, Nat.reduceSub, Int.reduceMul, Int.reduceAdd, Int.reduceSub, Int.reduceNeg, if_true, if_false, Bool.true_eq_false, Bool.false_eq_true, reduceIte, hM, ix0]
    refine ⟨divOk_s hu hu', ?_⟩
    refine hk _ ?_; clear hk k
    rw [w_seq]
    try simp only [Rk.sat_ok, Rk.osat_some, Rk.osat_none, Rk.osat_ite, Rk.osat_map, Rk.osat_bind, Rk.w_var, Rk.w_con, Rk.w_bin, Rk.w_cmp, Rk.w_ix, Rk.w_bi, Rk.w_es0, Rk.w_es, Rk.w_ts0, Rk.w_ts, Rk.w_ws0, Rk.w_ws, Rk.w_W, Rk.w_T, Rk.w_esc, Rk.w_givw, Rk.w_givl, Rk.w_tup, Rk.w_lst, Rk.w_call, Rk.w_callK, Rk.w_un, Rk.w_not, Rk.w_and, Rk.w_or, Rk.w_ifx, Rk.w_sl, Rk.w_no, Rk.w_so, Rk.w_asb, Rk.w_tru, Rk.w_bnot, Rk.w_band, Rk.w_bor, Rk.w_yes, Rk.w_skip, Rk.w_expr, Rk.w_set, Rk.w_ret, Rk.w_retN, Rk.w_if, Rk.w_asg, Rk.w_par, Rk.w_gnm, Rk.w_gsb, Rk.w_mt, Rk.w_ext, Rk.backT, Option.getD_some, Option.getD_none, Rk.get_w, Rk.get_l, Rk.get_sl, Rk.seq_tup, Rk.seq_rol, Rk.seq_l, Rk.seq_loc, Rk.seq_sl, Rk.lst_rol, Rk.lst_l, Rk.lst_loc, Rk.lst_sl, Rk.lst_tup, Rk.ix_int, Rk.ix_some, Rk.seqT_l, Rk.seqT_tup, Rk.seqT_rol, Rk.seqT_loc, Rk.lstT_l, Rk.lstT_rol, Rk.lstT_loc, Rk.at_0, Rk.at_1, Rk.at_2, Rk.at_3, Rk.at_4, Rk.at_5, Rk.bin_int, Rk.i_add, Rk.i_sub, Rk.i_mul, Rk.i_div, Rk.i_mod, Rk.i_pow, Rk.u_neg, Rk.c_lt, Rk.c_le, Rk.c_gt, Rk.c_ge, Rk.c_eq, Rk.c_ne, Rk.c_isN, Rk.c_isI, Rk.c_seq, Rk.c_sne, Rk.t_non, Rk.t_bl, Rk.t_int, Rk.iw_int, Rk.bt_bl, Rk.b_int, Rk.b_intb, Rk.b_abs, Rk.b_lent, Rk.b_lenr, Rk.b_lenl, Rk.b_tup, Rk.b_list, Rk.b_all, Rk.b_any, Rk.b_sum, Rk.bls_nil, Rk.bls_cons, Rk.ints_nil, Rk.ints_cons, Rk.b_min1, Rk.b_max1, Rk.b_min2, Rk.b_max2, Rk.m_loc, Rk.m_sl, Rk.p_nil, Rk.p_cons, Rk.set_s, Rk.esc_l, Rk.isI_int, Rk.isI_bool, Rk.isI_tup, List.cons_append, List.nil_append, List.append_nil, List.getElem?_cons_zero, List.getElem?_cons_succ, List.set_cons_zero, List.set_cons_succ, List.length_cons, List.length_nil, List.map_nil, List.map_cons, Option.bind_some, Option.bind_none, Option.map_some, Option.map_none, Option.isSome_some, id_eq, true_and, and_true, decide_eq_true_eq, List.replicate_succ, List.replicate_zero, Nat.reduceAdd, Nat.reduceSub, Int.reduceMul, Int.reduceAdd, Int.reduceSub, Int.reduceNeg, if_true, if_false, Bool.true_eq_false, Bool.false_eq_true, reduceIte, hM]
    have e : iMod a u = a % u := if_pos hu
    have e2 : iDiv a u = a / u := if_pos hu
    rw [e, e2]
    exact h _ _ (Int.emod_nonneg _ (by omega)) (Int.emod_lt_of_pos _ hu) ⟨_, b, c, hset _, Int.ediv_nonneg ha (by omega), hb, hb', hc, by omega⟩
  · rw [if_neg h0]
    refine hk _ ?_; clear hk k
    refine w_stp fun k hk => ?_; try simp only [Rk.sat_ok, Rk.osat_some, Rk.osat_none, Rk.osat_ite, Rk.osat_map, Rk.osat_bind, Rk.w_var, Rk.w_con, Rk.w_bin, Rk.w_cmp, Rk.w_ix, Rk.w_bi, Rk.w_es0, Rk.w_es, Rk.w_ts0, Rk.w_ts, Rk.w_ws0, Rk.w_ws, Rk.w_W, Rk.w_T, Rk.w_esc, Rk.w_givw, Rk.w_givl, Rk.w_tup, Rk.w_lst, Rk.w_call, Rk.w_callK, Rk.w_un, Rk.w_not, Rk.w_and, Rk.w_or, Rk.w_ifx, Rk.w_sl, Rk.w_no, Rk.w_so, Rk.w_asb, Rk.w_tru, Rk.w_bnot, Rk.w_band, Rk.w_bor, Rk.w_yes, Rk.w_skip, Rk.w_expr, Rk.w_set, Rk.w_ret, Rk.w_retN, Rk.w_if, Rk.w_asg, Rk.w_par, Rk.w_gnm, Rk.w_gsb, Rk.w_mt, Rk.w_ext, Rk.backT, Option.getD_some, Option.getD_none, Rk.get_w, Rk.get_l, Rk.get_sl, Rk.seq_tup, Rk.seq_rol, Rk.seq_l, Rk.seq_loc, Rk.seq_sl, Rk.lst_rol, Rk.lst_l, Rk.lst_loc, Rk.lst_sl, Rk.lst_tup, Rk.ix_int, Rk.ix_some, Rk.seqT_l, Rk.seqT_tup, Rk.seqT_rol, Rk.seqT_loc, Rk.lstT_l, Rk.lstT_rol, Rk.lstT_loc, Rk.at_0, Rk.at_1, Rk.at_2, Rk.at_3, Rk.at_4, Rk.at_5, Rk.bin_int, Rk.i_add, Rk.i_sub, Rk.i_mul, Rk.i_div, Rk.i_mod, Rk.i_pow, Rk.u_neg, Rk.c_lt, Rk.c_le, Rk.c_gt, Rk.c_ge, Rk.c_eq, Rk.c_ne, Rk.c_isN, Rk.c_isI, Rk.c_seq, Rk.c_sne, Rk.t_non, Rk.t_bl, Rk.t_int, Rk.iw_int, Rk.bt_bl, Rk.b_int, Rk.b_intb, Rk.b_abs, Rk.b_lent, Rk.b_lenr, Rk.b_lenl, Rk.b_tup, Rk.b_list, Rk.b_all, Rk.b_any, Rk.b_sum, Rk.bls_nil, Rk.bls_cons, Rk.ints_nil, Rk.ints_cons, Rk.b_min1, Rk.b_max1, Rk.b_min2, Rk.b_max2, Rk.m_loc, Rk.m_sl, Rk.p_nil, Rk.p_cons, Rk.set_s, Rk.esc_l, Rk.isI_int, Rk.isI_bool, Rk.isI_tup, List.cons_append, List.nil_append, List.append_nil, List.getElem?_cons_zero, List.getElem?_cons_succ, List.set_cons_zero, List.set_cons_succ, List.length_cons, List.length_nil, List.map_nil, List.map_cons, Option.bind_some, Option.bind_none, Option.map_some, Option.map_none, Option.isSome_some, id_eq, true_and, and_true, decide_eq_true_eq, List.replicate_succ, List.replicate_zero, Nat.reduceAdd, Nat.reduceSub, Int.reduceMul, Int.reduceAdd, Int.reduceSub, Int.reduceNeg, if_true, if_false, Bool.true_eq_false, Bool.false_eq_true, reduceIte, hM, ix2]
    refine hk _ ?_; clear hk k
    have m5 : iMod (c + 1) 5 = (c + 1) % 5 := rfl
    have hp : ∃ p, 0 < p ∧ p < 2147483648 ∧ ([W.int 2147483647, .int 2147483629, .int 2147483587, .int 2147483579, .int 2147483563] : List W)[((c + 1) % 5).toNat]? = some (.int p) := by
      have h5 : (c + 1) % 5 = 0 ∨ (c + 1) % 5 = 1 ∨ (c + 1) % 5 = 2 ∨ (c + 1) % 5 = 3 ∨ (c + 1) % 5 = 4 := by omega
      rcases h5 with h | h | h | h | h <;> rw [h] <;> exact ⟨_, by decide, by decide, rfl⟩
    obtain ⟨p, hp0, hp1, hp2⟩ := hp
    have ha5 : atI ([W.int 2147483647, .int 2147483629, .int 2147483587, .int 2147483579, .int 2147483563] : List W) ((c + 1) % 5) = some (.int p) := by
      rw [← hp2, ← at_nat]
      congr 1
      omega
    refine w_stp fun k hk => ?_; try simp only [Rk.sat_ok, Rk.osat_some, Rk.osat_none, Rk.osat_ite, Rk.osat_map, Rk.osat_bind, Rk.w_var, Rk.w_con, Rk.w_bin, Rk.w_cmp, Rk.w_ix, Rk.w_bi, Rk.w_es0, Rk.w_es, Rk.w_ts0, Rk.w_ts, Rk.w_ws0, Rk.w_ws, Rk.w_W, Rk.w_T, Rk.w_esc, Rk.w_givw, Rk.w_givl, Rk.w_tup, Rk.w_lst, Rk.w_call, Rk.w_callK, Rk.w_un, Rk.w_not, Rk.w_and, Rk.w_or, Rk.w_ifx, Rk.w_sl, Rk.w_no, Rk.w_so, Rk.w_asb, Rk.w_tru, Rk.w_bnot, Rk.w_band, Rk.w_bor, Rk.w_yes, Rk.w_skip, Rk.w_expr, Rk.w_set, Rk.w_ret, Rk.w_retN, Rk.w_if, Rk.w_asg, Rk.w_par, Rk.w_gnm, Rk.w_gsb, Rk.w_mt, Rk.w_ext, Rk.backT, Option.getD_some, Option.getD_none, Rk.get_w, Rk.get_l, Rk.get_sl, Rk.seq_tup, Rk.seq_rol, Rk.seq_l, Rk.seq_loc, Rk.seq_sl, Rk.lst_rol, Rk.lst_l, Rk.lst_loc, Rk.lst_sl, Rk.lst_tup, Rk.ix_int, Rk.ix_some, Rk.seqT_l, Rk.seqT_tup, Rk.seqT_rol, Rk.seqT_loc, Rk.lstT_l, Rk.lstT_rol, Rk.lstT_loc, Rk.at_0, Rk.at_1, Rk.at_2, Rk.at_3, Rk.at_4, Rk.at_5, Rk.bin_int, Rk.i_add, Rk.i_sub, Rk.i_mul, Rk.i_div, Rk.i_mod, Rk.i_pow, Rk.u_neg, Rk.c_lt, Rk.c_le, Rk.c_gt, Rk.c_ge, Rk.c_eq, Rk.c_ne, Rk.c_isN, Rk.c_isI, Rk.c_seq, Rk.c_sne, Rk.t_non, Rk.t_bl, Rk.t_int, Rk.iw_int, Rk.bt_bl, Rk.b_int, Rk.b_intb, Rk.b_abs, Rk.b_lent, Rk.b_lenr, Rk.b_lenl, Rk.b_tup, Rk.b_list, Rk.b_all, Rk.b_any, Rk.b_sum, Rk.bls_nil, Rk.bls_cons, Rk.ints_nil, Rk.ints_cons, Rk.b_min1, Rk.b_max1, Rk.b_min2, Rk.b_max2, Rk.m_loc, Rk.m_sl, Rk.p_nil, Rk.p_cons, Rk.set_s, Rk.esc_l, Rk.isI_int, Rk.isI_bool, Rk.isI_tup, List.cons_append, List.nil_append, List.append_nil, List.getElem?_cons_zero, List.getElem?_cons_succ, List.set_cons_zero, List.set_cons_succ, List.length_cons, List.length_nil, List.map_nil, List.map_cons, Option.bind_some, Option.bind_none, Option.map_some, Option.map_none, Option.isSome_some, id_eq, true_and, and_true, decide_eq_true_eq, List.replicate_succ, List.replicate_zero, Nat.reduceAdd, Nat.reduceSub, Int.reduceMul, Int.reduceAdd, Int.reduceSub, Int.reduceNeg, if_true, if_false, Bool.true_eq_false, Bool.false_eq_true, reduceIte, hset, m5, ha5]
    refine ⟨by decide, by decide, ?_⟩
    refine hk _ ?_; clear hk k
    refine w_stp fun k hk => ?_; try simp only [Rk.sat_ok, Rk.osat_some, Rk.osat_none, Rk.osat_ite, Rk.osat_map, Rk.osat_bind, Rk.w_var, Rk.w_con, Rk.w_bin, Rk.w_cmp, Rk.w_ix, Rk.w_bi, Rk.w_es0, Rk.w_es, Rk.w_ts0, Rk.w_ts, Rk.w_ws0, Rk.w_ws, Rk.w_W, Rk.w_T, Rk.w_esc, Rk.w_givw, Rk.w_givl, Rk.w_tup, Rk.w_lst, Rk.w_call, Rk.w_callK, Rk.w_un, Rk.w_not, Rk.w_and, Rk.w_or, Rk.w_ifx, Rk.w_sl, Rk.w_no, Rk.w_so, Rk.w_asb, Rk.w_tru, Rk.w_bnot, Rk.w_band, Rk.w_bor, Rk.w_yes, Rk.w_skip, Rk.w_expr, Rk.w_set, Rk.w_ret, Rk.w_retN, Rk.w_if, Rk.w_asg, Rk.w_par, Rk.w_gnm, Rk.w_gsb, Rk.w_mt, Rk.w_ext, Rk.backT, Option.getD_some, Option.getD_none, Rk.get_w, Rk.get_l, Rk.get_sl, Rk.seq_tup, Rk.seq_rol, Rk.seq_l, Rk.seq_loc, Rk.seq_sl, Rk.lst_rol, Rk.lst_l, Rk.lst_loc, Rk.lst_sl, Rk.lst_tup, Rk.ix_int, Rk.ix_some, Rk.seqT_l, Rk.seqT_tup, Rk.seqT_rol, Rk.seqT_loc, Rk.lstT_l, Rk.lstT_rol, Rk.lstT_loc, Rk.at_0, Rk.at_1, Rk.at_2, Rk.at_3, Rk.at_4, Rk.at_5, Rk.bin_int, Rk.i_add, Rk.i_sub, Rk.i_mul, Rk.i_div, Rk.i_mod, Rk.i_pow, Rk.u_neg, Rk.c_lt, Rk.c_le, Rk.c_gt, Rk.c_ge, Rk.c_eq, Rk.c_ne, Rk.c_isN, Rk.c_isI, Rk.c_seq, Rk.c_sne, Rk.t_non, Rk.t_bl, Rk.t_int, Rk.iw_int, Rk.bt_bl, Rk.b_int, Rk.b_intb, Rk.b_abs, Rk.b_lent, Rk.b_lenr, Rk.b_lenl, Rk.b_tup, Rk.b_list, Rk.b_all, Rk.b_any, Rk.b_sum, Rk.bls_nil, Rk.bls_cons, Rk.ints_nil, Rk.ints_cons, Rk.b_min1, Rk.b_max1, Rk.b_min2, Rk.b_max2, Rk.m_loc, Rk.m_sl, Rk.p_nil, Rk.p_cons, Rk.set_s, Rk.esc_l, Rk.isI_int, Rk.isI_bool, Rk.isI_tup, List.cons_append, List.nil_append, List.append_nil, List.getElem?_cons_zero, List.getElem?_cons_succ, List.set_cons_zero, List.set_cons_succ, List.length_cons, List.length_nil, List.map_nil, List.map_cons, Option.bind_some, Option.bind_none, Option.map_some, Option.map_none, Option.isSome_some, id_eq, true_and, and_true, decide_eq_true_eq, List.replicate_succ, List.replicate_zero, Nat.reduceAdd, Nat.reduceSub, Int.reduceMul, Int.reduceAdd, Int.reduceSub, Int.reduceNeg, if_true, if_false, Bool.true_eq_false, Bool.false_eq_true, reduceIte, hset]
    have hx1 : 0 ≤ k1 * (c + 1) := Int.mul_nonneg c1 (by omega)
    have hx2 : k1 * (c + 1) ≤ 1000000 * 1000000 := Int.mul_le_mul (by omega) (by omega) (by omega) (by omega)
    have hy1 : 0 ≤ k1 * (c + 1) * (c + 1) := Int.mul_nonneg hx1 (by omega)
    have hy2 : k1 * (c + 1) * (c + 1) ≤ 1000000 * 1000000 * 1000000 := Int.mul_le_mul hx2 (by omega) (by omega) (by omega)
    have hz1 : 0 ≤ k4 * (c + 1) := Int.mul_nonneg c4 (by omega)
    refine ⟨mulOk_s (by omega), mulOk_s (by omega), powOk_s (by decide) (by decide) (by omega), by omega, ?_⟩
    refine hk _ ?_; clear hk k
    generalize (b + k1 * (c + 1) * (c + 1) + k2) ^ Int.toNat 3 = X
    have e : iMod X p = X % p := if_pos hp0
    have hb1 : 0 ≤ X % p := Int.emod_nonneg _ (by omega)
    have hb2 : X % p < p := Int.emod_lt_of_pos _ hp0
    rw [e]
    generalize X % p = bl at hb1 hb2
    rw [w_seq]
    try simp only [Rk.sat_ok, Rk.osat_some, Rk.osat_none, Rk.osat_ite, Rk.osat_map, Rk.osat_bind, Rk.w_var, Rk.w_con, Rk.w_bin, Rk.w_cmp, Rk.w_ix, Rk.w_bi, Rk.w_es0, Rk.w_es, Rk.w_ts0, Rk.w_ts, Rk.w_ws0, Rk.w_ws, Rk.w_W, Rk.w_T, Rk.w_esc, Rk.w_givw, Rk.w_givl, Rk.w_tup, Rk.w_lst, Rk.w_call, Rk.w_callK, Rk.w_un, Rk.w_not, Rk.w_and, Rk.w_or, Rk.w_ifx, Rk.w_sl, Rk.w_no, Rk.w_so, Rk.w_asb, Rk.w_tru, Rk.w_bnot, Rk.w_band, Rk.w_bor, Rk.w_yes, Rk.w_skip, Rk.w_expr, Rk.w_set, Rk.w_ret, Rk.w_retN, Rk.w_if, Rk.w_asg, Rk.w_par, Rk.w_gnm, Rk.w_gsb, Rk.w_mt, Rk.w_ext, Rk.backT, Option.getD_some, Option.getD_none, Rk.get_w, Rk.get_l, Rk.get_sl, Rk.seq_tup, Rk.seq_rol, Rk.seq_l, Rk.seq_loc, Rk.seq_sl, Rk.lst_rol, Rk.lst_l, Rk.lst_loc, Rk.lst_sl, Rk.lst_tup, Rk.ix_int, Rk.ix_some, Rk.seqT_l, Rk.seqT_tup, Rk.seqT_rol, Rk.seqT_loc, Rk.lstT_l, Rk.lstT_rol, Rk.lstT_loc, Rk.at_0, Rk.at_1, Rk.at_2, Rk.at_3, Rk.at_4, Rk.at_5, Rk.bin_int, Rk.i_add, Rk.i_sub, Rk.i_mul, Rk.i_div, Rk.i_mod, Rk.i_pow, Rk.u_neg, Rk.c_lt, Rk.c_le, Rk.c_gt, Rk.c_ge, Rk.c_eq, Rk.c_ne, Rk.c_isN, Rk.c_isI, Rk.c_seq, Rk.c_sne, Rk.t_non, Rk.t_bl, Rk.t_int, Rk.iw_int, Rk.bt_bl, Rk.b_int, Rk.b_intb, Rk.b_abs, Rk.b_lent, Rk.b_lenr, Rk.b_lenl, Rk.b_tup, Rk.b_list, Rk.b_all, Rk.b_any, Rk.b_sum, Rk.bls_nil, Rk.bls_cons, Rk.ints_nil, Rk.ints_cons, Rk.b_min1, Rk.b_max1, Rk.b_min2, Rk.b_max2, Rk.m_loc, Rk.m_sl, Rk.p_nil, Rk.p_cons, Rk.set_s, Rk.esc_l, Rk.isI_int, Rk.isI_bool, Rk.isI_tup, List.cons_append, List.nil_append, List.append_nil, List.getElem?_cons_zero, List.getElem?_cons_succ, List.set_cons_zero, List.set_cons_succ, List.length_cons, List.length_nil, List.map_nil, List.map_cons, Option.bind_some, Option.bind_none, Option.map_some, Option.map_none, Option.isSome_some, id_eq, true_and, and_true, decide_eq_true_eq, List.replicate_succ, List.replicate_zero, Nat.reduceAdd, Nat.reduceSub, Int.reduceMul, Int.reduceAdd, Int.reduceSub, Int.reduceNeg, if_true, if_false, Bool.true_eq_false, Bool.false_eq_true, reduceIte, hset]
    refine ⟨by omega, mulOk_s (by omega), mulOk_s (by omega), divOk_s c5 (by omega), by omega, ?_⟩
    generalize iDiv (bl * (iMod bl k3 + k4 * (c + 1))) k5 = Y
    have e : iMod Y u = Y % u := if_pos hu
    rw [e]
    exact h _ _ (Int.emod_nonneg _ (by omega)) (Int.emod_lt_of_pos _ hu) ⟨_, b, c + 1, hset _, ha, hb, hb', by omega, by omega⟩
/-- a pot's making: its five numbers -/
def dPot (k1 k2 k3 k4 k5 : Int) : DS :=
  (dseq (dset 2 (difx (asb (dcmp .Lt (dvar 1) (dbi bLen [(dvar 0)]))) (dix (dvar 0) (dvar 1)) (dbin .Add (dbin .Add (dbin .Mod (dbi bInt [(dbi bSum [(dsl (dvar 0) dno (dso (dcon (.int 1))))])]) (dcon (.int 1000003))) (dbin .Mult (dcon (.int k1)) (dvar 1))) (dcon (.int k2)))))
  (dseq (dset 3 (dbin .Mult (dbin .Mod (dbi bInt [(dbi bAbs [(dvar 2)])]) (dbin .Pow (dbin .Pow (dcon (.int 10)) (dcon (.int 60))) (dcon (.int 5)))) (dbi bInt [(dcmp .GtE (dbi bAbs [(dvar 2)]) (dbin .Pow (dcon (.int 10)) (dcon (.int 18))))])))
  (dseq (dset 4 (dbin .Mod (dbi bInt [(dvar 2)]) (dcon (.int 2305843009213693951))))
  (dseq (dret (dlst [(dvar 3), (dbin .Mod (dbi bInt [(dbin .Add (dbin .Add (dbin .Mult (dvar 4) (dcon (.int k3))) (dbin .Mult (dbin .Mult (dcon (.int k4)) (dvar 1)) (dvar 1))) (dcon (.int k5)))]) (dcon (.int 2305843009213693921))), (dcon (.int 0))])) dskip))))
theorem mulOk_r {i j : Int} (h : j.natAbs < 18446744073709551616) : mulOk i j = true := by simp [mulOk, h]
theorem sl_rol {s : S} {xs : List W} {lo hi : Option Int} : opSl s (.w (.rol xs)) lo hi = some (.lst (cutW xs lo hi)) := rfl
theorem cut_map {ns : List Int} {lo hi : Option Int} : ∃ ms : List Int, cutW (ns.map W.int) lo hi = ms.map W.int := by
  unfold cutW
  rw [List.length_map, ← List.map_drop, ← List.map_take]
  exact ⟨_, rfl⟩
theorem pow60 : powOk 10 60 = true := by decide +kernel
theorem pow605 : powOk (10 ^ Int.toNat 60) 5 = true := by decide +kernel
theorem pow18 : powOk 10 18 = true := by decide +kernel
theorem pow300 : 0 < ((10 : Int) ^ Int.toNat 60) ^ Int.toNat 5 := by decide +kernel
theorem pot_ok {k1 k2 k3 k4 k5 : Int} (c1 : 0 ≤ k1) (c1' : k1 < 1000000) (c3 : 0 ≤ k3) (c3' : k3 < 1000000) (c4 : 0 ≤ k4) (c4' : k4 < 1000000) {M : List Ob} {ns : List Int} {p : Int} (hp : 0 ≤ p) (hp' : p < 1000) {R : T → List Ob → Prop}
    (h : ∀ a b : Int, 0 ≤ a → 0 ≤ b → b < 2305843009213693952 → R (.lst [.int a, .int b, .int 0]) M) : (runB (dPot k1 k2 k3 k4 k5) 5 [.w (.rol (ns.map W.int)), .w (.int p)] M).sat R := by
  rw [w_run]
  unfold dPot
  refine w_stp fun k hk => ?_; try simp only [Rk.sat_ok, Rk.osat_some, Rk.osat_none, Rk.osat_ite, Rk.osat_map, Rk.osat_bind, Rk.w_var, Rk.w_con, Rk.w_bin, Rk.w_cmp, Rk.w_ix, Rk.w_bi, Rk.w_es0, Rk.w_es, Rk.w_ts0, Rk.w_ts, Rk.w_ws0, Rk.w_ws, Rk.w_W, Rk.w_T, Rk.w_esc, Rk.w_givw, Rk.w_givl, Rk.w_tup, Rk.w_lst, Rk.w_call, Rk.w_callK, Rk.w_un, Rk.w_not, Rk.w_and, Rk.w_or, Rk.w_ifx, Rk.w_sl, Rk.w_no, Rk.w_so, Rk.w_asb, Rk.w_tru, Rk.w_bnot, Rk.w_band, Rk.w_bor, Rk.w_yes, Rk.w_skip, Rk.w_expr, Rk.w_set, Rk.w_ret, Rk.w_retN, Rk.w_if, Rk.w_asg, Rk.w_par, Rk.w_gnm, Rk.w_gsb, Rk.w_mt, Rk.w_ext, Rk.backT, Option.getD_some, Option.getD_none, Rk.get_w, Rk.get_l, Rk.get_sl, Rk.seq_tup, Rk.seq_rol, Rk.seq_l, Rk.seq_loc, Rk.seq_sl, Rk.lst_rol, Rk.lst_l, Rk.lst_loc, Rk.lst_sl, Rk.lst_tup, Rk.ix_int, Rk.ix_some, Rk.seqT_l, Rk.seqT_tup, Rk.seqT_rol, Rk.seqT_loc, Rk.lstT_l, Rk.lstT_rol, Rk.lstT_loc, Rk.at_0, Rk.at_1, Rk.at_2, Rk.at_3, Rk.at_4, Rk.at_5, Rk.bin_int, Rk.i_add, Rk.i_sub, Rk.i_mul, Rk.i_div, Rk.i_mod, Rk.i_pow, Rk.u_neg, Rk.c_lt, Rk.c_le, Rk.c_gt, Rk.c_ge, Rk.c_eq, Rk.c_ne, Rk.c_isN, Rk.c_isI, Rk.c_seq, Rk.c_sne, Rk.t_non, Rk.t_bl, Rk.t_int, Rk.iw_int, Rk.bt_bl, Rk.b_int, Rk.b_intb, Rk.b_abs, Rk.b_lent, Rk.b_lenr, Rk.b_lenl, Rk.b_tup, Rk.b_list, Rk.b_all, Rk.b_any, Rk.b_sum, Rk.bls_nil, Rk.bls_cons, Rk.ints_nil, Rk.ints_cons, Rk.b_min1, Rk.b_max1, Rk.b_min2, Rk.b_max2, Rk.m_loc, Rk.m_sl, Rk.p_nil, Rk.p_cons, Rk.set_s, Rk.esc_l, Rk.isI_int, Rk.isI_bool, Rk.isI_tup, List.cons_append, List.nil_append, List.append_nil, List.getElem?_cons_zero, List.getElem?_cons_succ, List.set_cons_zero, List.set_cons_succ, List.length_cons, List.length_nil, List.map_nil, List.map_cons, Option.bind_some, Option.bind_none, Option.map_some, Option.map_none, Option.isSome_some, id_eq, true_and, and_true, decide_eq_true_eq, List.replicate_succ, List.replicate_zero, Nat.reduceAdd, Nat.reduceSub, Int.reduceMul, Int.reduceAdd, Int.reduceSub, Int.reduceNeg, if_true, if_false, Bool.true_eq_false, Bool.false_eq_true, reduceIte, List.length_map]
  have fin : ∀ x : Int, k ⟨[some (.w (.rol (ns.map W.int))), some (.w (.int p)), some (.w (.int x)), none, none], M⟩ := fun x => by
    refine hk _ ?_; clear hk k
    refine w_stp fun k hk => ?_; try simp only [Rk.sat_ok, Rk.osat_some, Rk.osat_none, Rk.osat_ite, Rk.osat_map, Rk.osat_bind, Rk.w_var, Rk.w_con, Rk.w_bin, Rk.w_cmp, Rk.w_ix, Rk.w_bi, Rk.w_es0, Rk.w_es, Rk.w_ts0, Rk.w_ts, Rk.w_ws0, Rk.w_ws, Rk.w_W, Rk.w_T, Rk.w_esc, Rk.w_givw, Rk.w_givl, Rk.w_tup, Rk.w_lst, Rk.w_call, Rk.w_callK, Rk.w_un, Rk.w_not, Rk.w_and, Rk.w_or, Rk.w_ifx, Rk.w_sl, Rk.w_no, Rk.w_so, Rk.w_asb, Rk.w_tru, Rk.w_bnot, Rk.w_band, Rk.w_bor, Rk.w_yes, Rk.w_skip, Rk.w_expr, Rk.w_set, Rk.w_ret, Rk.w_retN, Rk.w_if, Rk.w_asg, Rk.w_par, Rk.w_gnm, Rk.w_gsb, Rk.w_mt, Rk.w_ext, Rk.backT, Option.getD_some, Option.getD_none, Rk.get_w, Rk.get_l, Rk.get_sl, Rk.seq_tup, Rk.seq_rol, Rk.seq_l, Rk.seq_loc, Rk.seq_sl, Rk.lst_rol, Rk.lst_l, Rk.lst_loc, Rk.lst_sl, Rk.lst_tup, Rk.ix_int, Rk.ix_some, Rk.seqT_l, Rk.seqT_tup, Rk.seqT_rol, Rk.seqT_loc, Rk.lstT_l, Rk.lstT_rol, Rk.lstT_loc, Rk.at_0, Rk.at_1, Rk.at_2, Rk.at_3, Rk.at_4, Rk.at_5, Rk.bin_int, Rk.i_add, Rk.i_sub, Rk.i_mul, Rk.i_div, Rk.i_mod, Rk.i_pow, Rk.u_neg, Rk.c_lt, Rk.c_le, Rk.c_gt, Rk.c_ge, Rk.c_eq, Rk.c_ne, Rk.c_isN, Rk.c_isI, Rk.c_seq, Rk.c_sne, Rk.t_non, Rk.t_bl, Rk.t_int, Rk.iw_int, Rk.bt_bl, Rk.b_int, Rk.b_intb, Rk.b_abs, Rk.b_lent, Rk.b_lenr, Rk.b_lenl, Rk.b_tup, Rk.b_list, Rk.b_all, Rk.b_any, Rk.b_sum, Rk.bls_nil, Rk.bls_cons, Rk.ints_nil, Rk.ints_cons, Rk.b_min1, Rk.b_max1, Rk.b_min2, Rk.b_max2, Rk.m_loc, Rk.m_sl, Rk.p_nil, Rk.p_cons, Rk.set_s, Rk.esc_l, Rk.isI_int, Rk.isI_bool, Rk.isI_tup, List.cons_append, List.nil_append, List.append_nil, List.getElem?_cons_zero, List.getElem?_cons_succ, List.set_cons_zero, List.set_cons_succ, List.length_cons, List.length_nil, List.map_nil, List.map_cons, Option.bind_some, Option.bind_none, Option.map_some, Option.map_none, Option.isSome_some, id_eq, true_and, and_true, decide_eq_true_eq, List.replicate_succ, List.replicate_zero, Nat.reduceAdd, Nat.reduceSub, Int.reduceMul, Int.reduceAdd, Int.reduceSub, Int.reduceNeg, if_true, if_false, Bool.true_eq_false, Bool.false_eq_true, reduceIte, pow60, pow605, pow18]
    have q0 : ∃ q : Int, 0 ≤ q ∧ q = iMod (if x < 0 then -x else x) ((10 ^ Int.toNat 60) ^ Int.toNat 5) := ⟨_, by
      have e : iMod (if x < 0 then -x else x) ((10 ^ Int.toNat 60) ^ Int.toNat 5) = (if x < 0 then -x else x) % ((10 ^ Int.toNat 60) ^ Int.toNat 5) := if_pos pow300
      rw [e]
      exact Int.emod_nonneg _ (Int.ne_of_gt pow300), rfl⟩
    obtain ⟨q, hq, eq⟩ := q0
    rw [← eq]
    have hw : ∀ (bb : Prop) [Decidable bb], (0 : Int) ≤ (if bb then 1 else 0) ∧ (if bb then (1 : Int) else 0).natAbs < 18446744073709551616 := fun bb _ => by
      by_cases hb : bb
      · rw [if_pos hb]; decide
      · rw [if_neg hb]; decide
    have hw := hw ((10 : Int) ^ Int.toNat 18 ≤ if x < 0 then -x else x)
    refine ⟨Int.ne_of_gt pow300, mulOk_r hw.2, ?_⟩
    generalize (if (10 : Int) ^ Int.toNat 18 ≤ if x < 0 then -x else x then (1 : Int) else 0) = wb at hw
    have ho : 0 ≤ q * wb := Int.mul_nonneg hq hw.1
    generalize q * wb = own at ho
    refine hk _ ?_; clear hk k
    refine w_stp fun k hk => ?_; try simp only [Rk.sat_ok, Rk.osat_some, Rk.osat_none, Rk.osat_ite, Rk.osat_map, Rk.osat_bind, Rk.w_var, Rk.w_con, Rk.w_bin, Rk.w_cmp, Rk.w_ix, Rk.w_bi, Rk.w_es0, Rk.w_es, Rk.w_ts0, Rk.w_ts, Rk.w_ws0, Rk.w_ws, Rk.w_W, Rk.w_T, Rk.w_esc, Rk.w_givw, Rk.w_givl, Rk.w_tup, Rk.w_lst, Rk.w_call, Rk.w_callK, Rk.w_un, Rk.w_not, Rk.w_and, Rk.w_or, Rk.w_ifx, Rk.w_sl, Rk.w_no, Rk.w_so, Rk.w_asb, Rk.w_tru, Rk.w_bnot, Rk.w_band, Rk.w_bor, Rk.w_yes, Rk.w_skip, Rk.w_expr, Rk.w_set, Rk.w_ret, Rk.w_retN, Rk.w_if, Rk.w_asg, Rk.w_par, Rk.w_gnm, Rk.w_gsb, Rk.w_mt, Rk.w_ext, Rk.backT, Option.getD_some, Option.getD_none, Rk.get_w, Rk.get_l, Rk.get_sl, Rk.seq_tup, Rk.seq_rol, Rk.seq_l, Rk.seq_loc, Rk.seq_sl, Rk.lst_rol, Rk.lst_l, Rk.lst_loc, Rk.lst_sl, Rk.lst_tup, Rk.ix_int, Rk.ix_some, Rk.seqT_l, Rk.seqT_tup, Rk.seqT_rol, Rk.seqT_loc, Rk.lstT_l, Rk.lstT_rol, Rk.lstT_loc, Rk.at_0, Rk.at_1, Rk.at_2, Rk.at_3, Rk.at_4, Rk.at_5, Rk.bin_int, Rk.i_add, Rk.i_sub, Rk.i_mul, Rk.i_div, Rk.i_mod, Rk.i_pow, Rk.u_neg, Rk.c_lt, Rk.c_le, Rk.c_gt, Rk.c_ge, Rk.c_eq, Rk.c_ne, Rk.c_isN, Rk.c_isI, Rk.c_seq, Rk.c_sne, Rk.t_non, Rk.t_bl, Rk.t_int, Rk.iw_int, Rk.bt_bl, Rk.b_int, Rk.b_intb, Rk.b_abs, Rk.b_lent, Rk.b_lenr, Rk.b_lenl, Rk.b_tup, Rk.b_list, Rk.b_all, Rk.b_any, Rk.b_sum, Rk.bls_nil, Rk.bls_cons, Rk.ints_nil, Rk.ints_cons, Rk.b_min1, Rk.b_max1, Rk.b_min2, Rk.b_max2, Rk.m_loc, Rk.m_sl, Rk.p_nil, Rk.p_cons, Rk.set_s, Rk.esc_l, Rk.isI_int, Rk.isI_bool, Rk.isI_tup, List.cons_append, List.nil_append, List.append_nil, List.getElem?_cons_zero, List.getElem?_cons_succ, List.set_cons_zero, List.set_cons_succ, List.length_cons, List.length_nil, List.map_nil, List.map_cons, Option.bind_some, Option.bind_none, Option.map_some, Option.map_none, Option.isSome_some, id_eq, true_and, and_true, decide_eq_true_eq, List.replicate_succ, List.replicate_zero, Nat.reduceAdd, Nat.reduceSub, Int.reduceMul, Int.reduceAdd, Int.reduceSub, Int.reduceNeg, if_true, if_false, Bool.true_eq_false, Bool.false_eq_true, reduceIte]
    refine ⟨by decide, ?_⟩
    refine hk _ ?_; clear hk k
    have e : iMod x 2305843009213693951 = x % 2305843009213693951 := rfl
    rw [e]
    have hs1 : 0 ≤ x % 2305843009213693951 := Int.emod_nonneg _ (by decide)
    have hs2 : x % 2305843009213693951 < 2305843009213693951 := Int.emod_lt_of_pos _ (by decide)
    generalize x % 2305843009213693951 = sm at hs1 hs2
    have hm1 : 0 ≤ k4 * p := Int.mul_nonneg c4 hp
    have hm2 : k4 * p ≤ 1000000 * 1000 := Int.mul_le_mul (by omega) (by omega) hp (by omega)
    rw [w_seq]
    try simp only [Rk.sat_ok, Rk.osat_some, Rk.osat_none, Rk.osat_ite, Rk.osat_map, Rk.osat_bind, Rk.w_var, Rk.w_con, Rk.w_bin, Rk.w_cmp, Rk.w_ix, Rk.w_bi, Rk.w_es0, Rk.w_es, Rk.w_ts0, Rk.w_ts, Rk.w_ws0, Rk.w_ws, Rk.w_W, Rk.w_T, Rk.w_esc, Rk.w_givw, Rk.w_givl, Rk.w_tup, Rk.w_lst, Rk.w_call, Rk.w_callK, Rk.w_un, Rk.w_not, Rk.w_and, Rk.w_or, Rk.w_ifx, Rk.w_sl, Rk.w_no, Rk.w_so, Rk.w_asb, Rk.w_tru, Rk.w_bnot, Rk.w_band, Rk.w_bor, Rk.w_yes, Rk.w_skip, Rk.w_expr, Rk.w_set, Rk.w_ret, Rk.w_retN, Rk.w_if, Rk.w_asg, Rk.w_par, Rk.w_gnm, Rk.w_gsb, Rk.w_mt, Rk.w_ext, Rk.backT, Option.getD_some, Option.getD_none, Rk.get_w, Rk.get_l, Rk.get_sl, Rk.seq_tup, Rk.seq_rol, Rk.seq_l, Rk.seq_loc, Rk.seq_sl, Rk.lst_rol, Rk.lst_l, Rk.lst_loc, Rk.lst_sl, Rk.lst_tup, Rk.ix_int, Rk.ix_some, Rk.seqT_l, Rk.seqT_tup, Rk.seqT_rol, Rk.seqT_loc, Rk.lstT_l, Rk.lstT_rol, Rk.lstT_loc, Rk.at_0, Rk.at_1, Rk.at_2, Rk.at_3, Rk.at_4, Rk.at_5, Rk.bin_int, Rk.i_add, Rk.i_sub, Rk.i_mul, Rk.i_div, Rk.i_mod, Rk.i_pow, Rk.u_neg, Rk.c_lt, Rk.c_le, Rk.c_gt, Rk.c_ge, Rk.c_eq, Rk.c_ne, Rk.c_isN, Rk.c_isI, Rk.c_seq, Rk.c_sne, Rk.t_non, Rk.t_bl, Rk.t_int, Rk.iw_int, Rk.bt_bl, Rk.b_int, Rk.b_intb, Rk.b_abs, Rk.b_lent, Rk.b_lenr, Rk.b_lenl, Rk.b_tup, Rk.b_list, Rk.b_all, Rk.b_any, Rk.b_sum, Rk.bls_nil, Rk.bls_cons, Rk.ints_nil, Rk.ints_cons, Rk.b_min1, Rk.b_max1, Rk.b_min2, Rk.b_max2, Rk.m_loc, Rk.m_sl, Rk.p_nil, Rk.p_cons, Rk.set_s, Rk.esc_l, Rk.isI_int, Rk.isI_bool, Rk.isI_tup, List.cons_append, List.nil_append, List.append_nil, List.getElem?_cons_zero, List.getElem?_cons_succ, List.set_cons_zero, List.set_cons_succ, List.length_cons, List.length_nil, List.map_nil, List.map_cons, Option.bind_some, Option.bind_none, Option.map_some, Option.map_none, Option.isSome_some, id_eq, true_and, and_true, decide_eq_true_eq, List.replicate_succ, List.replicate_zero, Nat.reduceAdd, Nat.reduceSub, Int.reduceMul, Int.reduceAdd, Int.reduceSub, Int.reduceNeg, if_true, if_false, Bool.true_eq_false, Bool.false_eq_true, reduceIte]

    refine ⟨mulOk_s (by omega), mulOk_s (by omega), mulOk_s (by omega), by decide, by decide, ?_⟩
    generalize sm * k3 + k4 * p * p + k5 = Y
    have e : iMod Y 2305843009213693921 = Y % 2305843009213693921 := rfl
    rw [e]
    refine h own _ ho (Int.emod_nonneg _ (by decide)) ?_
    have := Int.emod_lt_of_pos Y (show (0 : Int) < 2305843009213693921 by decide)
    omega
  by_cases hl : p < (ns.length : Int)
  · rw [if_pos hl]
    have e : ∃ x, atI (ns.map W.int) p = some (.int x) := by
      have e1 : ∃ m : Nat, p = m := ⟨p.toNat, by omega⟩
      obtain ⟨m, rfl⟩ := e1
      refine ⟨ns[m]'(by omega), ?_⟩
      rw [at_nat, List.getElem?_map, List.getElem?_eq_getElem (by omega)]
      rfl
    obtain ⟨x, e⟩ := e
    try simp only [Rk.sat_ok, Rk.osat_some, Rk.osat_none, Rk.osat_ite, Rk.osat_map, Rk.osat_bind, Rk.w_var, Rk.w_con, Rk.w_bin, Rk.w_cmp, Rk.w_ix, Rk.w_bi, Rk.w_es0, Rk.w_es, Rk.w_ts0, Rk.w_ts, Rk.w_ws0, Rk.w_ws, Rk.w_W, Rk.w_T, Rk.w_esc, Rk.w_givw, Rk.w_givl, Rk.w_tup, Rk.w_lst, Rk.w_call, Rk.w_callK, Rk.w_un, Rk.w_not, Rk.w_and, Rk.w_or, Rk.w_ifx, Rk.w_sl, Rk.w_no, Rk.w_so, Rk.w_asb, Rk.w_tru, Rk.w_bnot, Rk.w_band, Rk.w_bor, Rk.w_yes, Rk.w_skip, Rk.w_expr, Rk.w_set, Rk.w_ret, Rk.w_retN, Rk.w_if, Rk.w_asg, Rk.w_par, Rk.w_gnm, Rk.w_gsb, Rk.w_mt, Rk.w_ext, Rk.backT, Option.getD_some, Option.getD_none, Rk.get_w, Rk.get_l, Rk.get_sl, Rk.seq_tup, Rk.seq_rol, Rk.seq_l, Rk.seq_loc, Rk.seq_sl, Rk.lst_rol, Rk.lst_l, Rk.lst_loc, Rk.lst_sl, Rk.lst_tup, Rk.ix_int, Rk.ix_some, Rk.seqT_l, Rk.seqT_tup, Rk.seqT_rol, Rk.seqT_loc, Rk.lstT_l, Rk.lstT_rol, Rk.lstT_loc, Rk.at_0, Rk.at_1, Rk.at_2, Rk.at_3, Rk.at_4, Rk.at_5, Rk.bin_int, Rk.i_add, Rk.i_sub, Rk.i_mul, Rk.i_div, Rk.i_mod, Rk.i_pow, Rk.u_neg, Rk.c_lt, Rk.c_le, Rk.c_gt, Rk.c_ge, Rk.c_eq, Rk.c_ne, Rk.c_isN, Rk.c_isI, Rk.c_seq, Rk.c_sne, Rk.t_non, Rk.t_bl, Rk.t_int, Rk.iw_int, Rk.bt_bl, Rk.b_int, Rk.b_intb, Rk.b_abs, Rk.b_lent, Rk.b_lenr, Rk.b_lenl, Rk.b_tup, Rk.b_list, Rk.b_all, Rk.b_any, Rk.b_sum, Rk.bls_nil, Rk.bls_cons, Rk.ints_nil, Rk.ints_cons, Rk.b_min1, Rk.b_max1, Rk.b_min2, Rk.b_max2, Rk.m_loc, Rk.m_sl, Rk.p_nil, Rk.p_cons, Rk.set_s, Rk.esc_l, Rk.isI_int, Rk.isI_bool, Rk.isI_tup, List.cons_append, List.nil_append, List.append_nil, List.getElem?_cons_zero, List.getElem?_cons_succ, List.set_cons_zero, List.set_cons_succ, List.length_cons, List.length_nil, List.map_nil, List.map_cons, Option.bind_some, Option.bind_none, Option.map_some, Option.map_none, Option.isSome_some, id_eq, true_and, and_true, decide_eq_true_eq, List.replicate_succ, List.replicate_zero, Nat.reduceAdd, Nat.reduceSub, Int.reduceMul, Int.reduceAdd, Int.reduceSub, Int.reduceNeg, if_true, if_false, Bool.true_eq_false, Bool.false_eq_true, reduceIte, e]
    exact fin _
  · rw [if_neg hl]
    obtain ⟨ms, e⟩ := cut_map (ns := ns) (lo := none) (hi := some 1)
    try simp only [Rk.sat_ok, Rk.osat_some, Rk.osat_none, Rk.osat_ite, Rk.osat_map, Rk.osat_bind, Rk.w_var, Rk.w_con, Rk.w_bin, Rk.w_cmp, Rk.w_ix, Rk.w_bi, Rk.w_es0, Rk.w_es, Rk.w_ts0, Rk.w_ts, Rk.w_ws0, Rk.w_ws, Rk.w_W, Rk.w_T, Rk.w_esc, Rk.w_givw, Rk.w_givl, Rk.w_tup, Rk.w_lst, Rk.w_call, Rk.w_callK, Rk.w_un, Rk.w_not, Rk.w_and, Rk.w_or, Rk.w_ifx, Rk.w_sl, Rk.w_no, Rk.w_so, Rk.w_asb, Rk.w_tru, Rk.w_bnot, Rk.w_band, Rk.w_bor, Rk.w_yes, Rk.w_skip, Rk.w_expr, Rk.w_set, Rk.w_ret, Rk.w_retN, Rk.w_if, Rk.w_asg, Rk.w_par, Rk.w_gnm, Rk.w_gsb, Rk.w_mt, Rk.w_ext, Rk.backT, Option.getD_some, Option.getD_none, Rk.get_w, Rk.get_l, Rk.get_sl, Rk.seq_tup, Rk.seq_rol, Rk.seq_l, Rk.seq_loc, Rk.seq_sl, Rk.lst_rol, Rk.lst_l, Rk.lst_loc, Rk.lst_sl, Rk.lst_tup, Rk.ix_int, Rk.ix_some, Rk.seqT_l, Rk.seqT_tup, Rk.seqT_rol, Rk.seqT_loc, Rk.lstT_l, Rk.lstT_rol, Rk.lstT_loc, Rk.at_0, Rk.at_1, Rk.at_2, Rk.at_3, Rk.at_4, Rk.at_5, Rk.bin_int, Rk.i_add, Rk.i_sub, Rk.i_mul, Rk.i_div, Rk.i_mod, Rk.i_pow, Rk.u_neg, Rk.c_lt, Rk.c_le, Rk.c_gt, Rk.c_ge, Rk.c_eq, Rk.c_ne, Rk.c_isN, Rk.c_isI, Rk.c_seq, Rk.c_sne, Rk.t_non, Rk.t_bl, Rk.t_int, Rk.iw_int, Rk.bt_bl, Rk.b_int, Rk.b_intb, Rk.b_abs, Rk.b_lent, Rk.b_lenr, Rk.b_lenl, Rk.b_tup, Rk.b_list, Rk.b_all, Rk.b_any, Rk.b_sum, Rk.bls_nil, Rk.bls_cons, Rk.ints_nil, Rk.ints_cons, Rk.b_min1, Rk.b_max1, Rk.b_min2, Rk.b_max2, Rk.m_loc, Rk.m_sl, Rk.p_nil, Rk.p_cons, Rk.set_s, Rk.esc_l, Rk.isI_int, Rk.isI_bool, Rk.isI_tup, List.cons_append, List.nil_append, List.append_nil, List.getElem?_cons_zero, List.getElem?_cons_succ, List.set_cons_zero, List.set_cons_succ, List.length_cons, List.length_nil, List.map_nil, List.map_cons, Option.bind_some, Option.bind_none, Option.map_some, Option.map_none, Option.isSome_some, id_eq, true_and, and_true, decide_eq_true_eq, List.replicate_succ, List.replicate_zero, Nat.reduceAdd, Nat.reduceSub, Int.reduceMul, Int.reduceAdd, Int.reduceSub, Int.reduceNeg, if_true, if_false, Bool.true_eq_false, Bool.false_eq_true, reduceIte, sl_rol, e, ints_map]
    refine ⟨by decide, mulOk_s (by omega), ?_⟩
    exact fin _
/-! ### comprehensions, step by step -/
section
variable {vs : List Nat} {g : DG} {c : DB} {e : DW} {x : W} {xs acc : List W} {s : S} {it : DI} {f : S → Option (List W)} {n i : Nat}
theorem cs_nil {Q : List W → S → Prop} : (compS vs g c e [] acc s).sat Q ↔ Q acc s := Iff.rfl
theorem cs_cons {Q : List W → S → Prop} : (compS vs g c e (x :: xs) acc s).sat Q ↔ (g x (wipeS vs s)).sat fun _ s => (c s).sat fun b s => if b = true then (e s).sat fun y s => (acc.length < sizeLine ∧ vs.all (plainAt s.sg) = true) ∧ (compS vs g c e xs (acc ++ [y]) s).sat Q
    else vs.all (plainAt s.sg) = true ∧ (compS vs g c e xs acc s).sat Q := by
  simp only [compS, sat_bind]
  refine Eq.to_iff (congrArg _ (funext fun u => funext fun s => congrArg _ (funext fun b => funext fun s => ?_)))
  cases b with
  | true =>
    rw [if_pos rfl]
    simp only [sat_bind]
    refine congrArg _ (funext fun y => funext fun s => ?_)
    by_cases h : (decide (acc.length < sizeLine) && vs.all (plainAt s.sg)) = true
    · rw [if_pos h]
      simp only [Bool.and_eq_true, decide_eq_true_eq] at h
      exact propext ⟨fun z => ⟨h, z⟩, fun z => z.2⟩
    · rw [if_neg h]
      simp only [Bool.and_eq_true, decide_eq_true_eq] at h
      exact propext ⟨fun z => z.elim, fun z => absurd z.1 h⟩
  | false =>
    rw [if_neg Bool.false_ne_true]
    dsimp only
    by_cases h : vs.all (plainAt s.sg) = true
    · rw [if_pos h]; exact propext ⟨fun z => ⟨h, z⟩, fun z => z.2⟩
    · rw [if_neg h]; exact propext ⟨fun z => z.elim, fun z => absurd z.1 h⟩
theorem cl_step {Q : List W → S → Prop} : (compL f vs g c e (n + 1) i acc s).sat Q ↔ osat (f (wipeS vs s)) fun xs => match xs[i]? with
    | none => Q acc s
    | some x => (g x (wipeS vs s)).sat fun _ s => (c s).sat fun b s => if b = true then (e s).sat fun y s => (acc.length < sizeLine ∧ vs.all (plainAt s.sg) = true) ∧ (compL f vs g c e n (i + 1) (acc ++ [y]) s).sat Q
      else vs.all (plainAt s.sg) = true ∧ (compL f vs g c e n (i + 1) acc s).sat Q := by
  simp only [compL]
  cases f (wipeS vs s) with
  | none => exact Iff.rfl
  | some xs =>
    simp only [osat]
    cases xs[i]? with
    | none => exact Iff.rfl
    | some x =>
      simp only [sat_bind]
      refine Eq.to_iff (congrArg _ (funext fun u => funext fun s => congrArg _ (funext fun b => funext fun s => ?_)))
      cases b with
      | true =>
        rw [if_pos rfl]
        simp only [sat_bind]
        refine congrArg _ (funext fun y => funext fun s => ?_)
        by_cases h : (decide (acc.length < sizeLine) && vs.all (plainAt s.sg)) = true
        · rw [if_pos h]
          simp only [Bool.and_eq_true, decide_eq_true_eq] at h
          exact propext ⟨fun z => ⟨h, z⟩, fun z => z.2⟩
        · rw [if_neg h]
          simp only [Bool.and_eq_true, decide_eq_true_eq] at h
          exact propext ⟨fun z => z.elim, fun z => absurd z.1 h⟩
      | false =>
        rw [if_neg Bool.false_ne_true]
        dsimp only
        by_cases h : vs.all (plainAt s.sg) = true
        · rw [if_pos h]; exact propext ⟨fun z => ⟨h, z⟩, fun z => z.2⟩
        · rw [if_neg h]; exact propext ⟨fun z => z.elim, fun z => absurd z.1 h⟩
/-- what is gathered from a source -/
def gather (vs : List Nat) (g : DG) (c : DB) (e : DW) (src : Src) (s : S) : Out (List W) := match src with
  | .snap xs => compS vs g c e xs [] s
  | .live f => compL f vs g c e FUEL 0 [] s
theorem w_comp {Q : T → S → Prop} : (dcomp it vs g c e s).sat Q ↔ (it s).sat fun src s => vs.all (plainAt s.sg) = true ∧ (gather vs g c e src s).sat fun acc s' => Q (.lst acc) ⟨backT (wipeT s'.sg vs) s.sg vs, s'.M⟩ := by
  simp only [dcomp, sat_bind]
  refine Eq.to_iff (congrArg _ (funext fun src => funext fun s => ?_))
  by_cases h : vs.all (plainAt s.sg) = true
  · rw [if_pos h]
    simp only [h, true_and, sat_bind, sat_ok]
    cases src <;> rfl
  · rw [if_neg h]; exact propext ⟨fun z => z.elim, fun z => absurd z.1 h⟩
theorem w_gsnap {Q : List W → S → Prop} : (gather vs g c e (.snap xs) s).sat Q ↔ (compS vs g c e xs [] s).sat Q := Iff.rfl
theorem w_rgI {d : DR} {Q : Src → S → Prop} : (drgI d s).sat Q ↔ (d s).sat fun p s => rgW p.1 p.2 = true ∧ Q (.snap (rangeW p.1 p.2)) s := by
  simp only [drgI, sat_bind]
  refine Eq.to_iff (congrArg _ (funext fun p => funext fun s => ?_))
  by_cases h : rgW p.1 p.2 = true
  · rw [if_pos h]; exact propext ⟨fun z => ⟨h, z⟩, fun z => z.2⟩
  · rw [if_neg h]; exact propext ⟨fun z => z.elim, fun z => absurd z.1 h⟩
theorem w_lrg {d : DR} {Q : T → S → Prop} : (dlrg d s).sat Q ↔ (d s).sat fun p s => rgOk p.1 p.2 = true ∧ Q (.lst (rangeW p.1 p.2)) s := by
  simp only [dlrg, sat_bind]
  refine Eq.to_iff (congrArg _ (funext fun p => funext fun s => ?_))
  by_cases h : rgOk p.1 p.2 = true
  · rw [if_pos h]; exact propext ⟨fun z => ⟨h, z⟩, fun z => z.2⟩
  · rw [if_neg h]; exact propext ⟨fun z => z.elim, fun z => absurd z.1 h⟩
theorem w_trg {d : DR} {Q : T → S → Prop} : (dtrg d s).sat Q ↔ (d s).sat fun p s => rgOk p.1 p.2 = true ∧ Q (.w (.tup (rangeW p.1 p.2))) s := by
  simp only [dtrg, sat_bind]
  refine Eq.to_iff (congrArg _ (funext fun p => funext fun s => ?_))
  by_cases h : rgOk p.1 p.2 = true
  · rw [if_pos h]; exact propext ⟨fun z => ⟨h, z⟩, fun z => z.2⟩
  · rw [if_neg h]; exact propext ⟨fun z => z.elim, fun z => absurd z.1 h⟩
theorem w_r1 {d : DE} {Q : Int × Int → S → Prop} : (dr1 d s).sat Q ↔ (d s).sat fun t s => osat (intW (s.get t)) fun i => Q (0, i) s := by
  simp only [dr1, sat_bind]
  refine Eq.to_iff (congrArg _ (funext fun t => funext fun s => ?_))
  split
  · rename_i i z; rw [z]; rfl
  · rename_i z; rw [intW_none z]; rfl
theorem w_r2 {d1 d2 : DE} {Q : Int × Int → S → Prop} : (dr2 d1 d2 s).sat Q ↔ (d1 s).sat fun t1 s => (d2 s).sat fun t2 s => osat (intW (s.get t1)) fun i => osat (intW (s.get t2)) fun j => Q (i, j) s := by
  simp only [dr2, sat_bind]
  refine Eq.to_iff (congrArg _ (funext fun t1 => funext fun s => congrArg _ (funext fun t2 => funext fun s => ?_)))
  split
  · rename_i i j z1 z2; rw [z1, z2]; rfl
  · rename_i h
    cases z1 : intW (s.get t1) with
    | none => rfl
    | some i =>
      cases z2 : intW (s.get t2) with
      | none => rfl
      | some j =>
        refine absurd ?_ (h i j · ?_)
        · unfold intW at z1
          split at z1
          · rename_i e; cases z1; exact e
          · cases z1
        · unfold intW at z2
          split at z2
          · rename_i e; cases z2; exact e
          · cases z2
/-- a value, walked -/
def dwk (t : T) (j : Option Nat) (s : S) : Out Src := dwalk (fun s => .ok t s) j s
theorem w_walk {d : DE} {j : Option Nat} {Q : Src → S → Prop} : (dwalk d j s).sat Q ↔ (d s).sat fun t s => (dwk t j s).sat Q := by
  unfold dwk dwalk
  rw [sat_bind]
  exact Iff.rfl
theorem k_tup {j : Option Nat} {Q : Src → S → Prop} : (dwk (.w (.tup xs)) j s).sat Q ↔ Q (.snap xs) s := Iff.rfl
theorem k_rol {j : Option Nat} {Q : Src → S → Prop} : (dwk (.w (.rol xs)) j s).sat Q ↔ Q (.snap xs) s := Iff.rfl
theorem k_lst {j : Option Nat} {Q : Src → S → Prop} : (dwk (.lst xs) j s).sat Q ↔ Q (.snap xs) s := Iff.rfl
theorem k_sl {Q : Src → S → Prop} : (dwk (.sl i) (some i) s).sat Q ↔ (lstOf s (.sl i)).isSome = true ∧ Q (.live fun s => lstOf s (.sl i)) s := by
  have e : dwk (.sl i) (some i) s = if ((lstOf s (.sl i)).isSome && decide (some i = some i)) = true then Out.ok (Src.live fun s => lstOf s (.sl i)) s else Out.bad := rfl
  rw [e, decide_eq_true rfl, Bool.and_true]
  by_cases h : (lstOf s (.sl i)).isSome = true
  · rw [if_pos h]; exact ⟨fun z => ⟨h, z⟩, fun z => z.2⟩
  · rw [if_neg h]; exact ⟨fun z => z.elim, fun z => absurd z.1 h⟩
theorem k_loc {j : Option Nat} {Q : Src → S → Prop} : (dwk (.w (.loc n)) j s).sat Q ↔ (lstOf s (.w (.loc n))).isSome = true ∧ Q (.live fun s => lstOf s (.w (.loc n))) s := by
  have e : dwk (.w (.loc n)) j s = if (lstOf s (.w (.loc n))).isSome = true then Out.ok (Src.live fun s => lstOf s (.w (.loc n))) s else Out.bad := rfl
  rw [e]
  by_cases h : (lstOf s (.w (.loc n))).isSome = true
  · rw [if_pos h]; exact ⟨fun z => ⟨h, z⟩, fun z => z.2⟩
  · rw [if_neg h]; exact ⟨fun z => z.elim, fun z => absurd z.1 h⟩
/-! loops -/
theorem fs_nil {b : DS} {P : Po} : (forS g b [] s).sat P ↔ P.nx s := Iff.rfl
theorem fs_cons {b : DS} {P : Po} : (forS g b (x :: xs) s).sat P ↔ (g x s).sat fun _ s => (b s).sat { nx := fun s => (forS g b xs s).sat P, rt := P.rt, bk := P.nx, ct := fun s => (forS g b xs s).sat P } := by
  simp only [forS, sat_fl]
  refine Eq.to_iff (congrArg _ (funext fun u => funext fun s => ?_))
  cases b s <;> rfl
theorem fl_step {b : DS} {P : Po} : (forL f g b (n + 1) i s).sat P ↔ osat (f s) fun xs => match xs[i]? with
    | none => P.nx s
    | some x => (g x s).sat fun _ s => (b s).sat { nx := fun s => (forL f g b n (i + 1) s).sat P, rt := P.rt, bk := P.nx, ct := fun s => (forL f g b n (i + 1) s).sat P } := by
  simp only [forL]
  cases f s with
  | none => exact Iff.rfl
  | some xs =>
    simp only [osat]
    cases xs[i]? with
    | none => exact Iff.rfl
    | some x =>
      simp only [sat_fl]
      refine Eq.to_iff (congrArg _ (funext fun u => funext fun s => ?_))
      cases b s <;> rfl
def loopS (g : DG) (b : DS) (src : Src) (s : S) : Fl := match src with
  | .snap xs => forS g b xs s
  | .live f => forL f g b FUEL 0 s
theorem w_for {b : DS} {P : Po} : (dfor it g b s).sat P ↔ (it s).sat fun src s => (loopS g b src s).sat P := by
  simp only [dfor, sat_fl]
  refine Eq.to_iff (congrArg _ (funext fun src => funext fun s => ?_))
  cases src <;> rfl
theorem w_lsnap {b : DS} {P : Po} : (loopS g b (.snap xs) s).sat P ↔ (forS g b xs s).sat P := Iff.rfl
theorem wh_step {t : DB} {b : DS} {P : Po} : (dwhl t b (n + 1) s).sat P ↔ (t s).sat fun k s => if k = true then (b s).sat { nx := fun s => (dwhl t b n s).sat P, rt := P.rt, bk := P.nx, ct := fun s => (dwhl t b n s).sat P } else P.nx s := by
  simp only [dwhl, sat_fl]
  refine Eq.to_iff (congrArg _ (funext fun k => funext fun s => ?_))
  cases k with
  | false => rw [if_neg Bool.false_ne_true]; rfl
  | true =>
    rw [if_pos rfl]
    dsimp only
    cases b s <;> rfl
theorem w_while {t : DB} {b : DS} {P : Po} : (dwhile t b s).sat P ↔ (dwhl t b FUEL s).sat P := Iff.rfl
end
end Rk

/-! Rk27: the laws' frame: cells, law. -/
namespace Rk
open PySem PySem.Spec PyProof.Rows L2

def dCells : DS := (dseq (dret (dlrg (dr1 (dbi bMax [(dcon (.int 1)), (dbi (fun s ts => if ts.length = 3 then none else bMin s ts) [(dvar 1), (dbi bLen [(dvar 0)])])])))) dskip)
theorem cells_ok {ns : List Int} {L : Int} (hL : 1 ≤ L) (hL' : L < 1000) {M : List Ob} {R : T → List Ob → Prop} (h : ∀ m : Int, 1 ≤ m → m ≤ L → R (.lst (rangeW 0 m)) M) : (runB dCells 2 [.w (.rol (ns.map W.int)), .w (.int L)] M).sat R := by
  rw [w_run]
  unfold dCells
  rw [w_seq]
  try simp only [Rk.sat_ok, Rk.osat_some, Rk.osat_none, Rk.osat_ite, Rk.osat_map, Rk.osat_bind, Rk.w_var, Rk.w_con, Rk.w_bin, Rk.w_cmp, Rk.w_ix, Rk.w_bi, Rk.w_es0, Rk.w_es, Rk.w_ts0, Rk.w_ts, Rk.w_ws0, Rk.w_ws, Rk.w_W, Rk.w_T, Rk.w_esc, Rk.w_givw, Rk.w_givl, Rk.w_tup, Rk.w_lst, Rk.w_call, Rk.w_callK, Rk.w_un, Rk.w_not, Rk.w_and, Rk.w_or, Rk.w_ifx, Rk.w_sl, Rk.w_no, Rk.w_so, Rk.w_asb, Rk.w_tru, Rk.w_bnot, Rk.w_band, Rk.w_bor, Rk.w_yes, Rk.w_skip, Rk.w_expr, Rk.w_set, Rk.w_ret, Rk.w_retN, Rk.w_if, Rk.w_asg, Rk.w_par, Rk.w_gnm, Rk.w_gsb, Rk.w_mt, Rk.w_ext, Rk.backT, Option.getD_some, Option.getD_none, Rk.get_w, Rk.get_l, Rk.get_sl, Rk.seq_tup, Rk.seq_rol, Rk.seq_l, Rk.seq_loc, Rk.seq_sl, Rk.lst_rol, Rk.lst_l, Rk.lst_loc, Rk.lst_sl, Rk.lst_tup, Rk.ix_int, Rk.ix_some, Rk.seqT_l, Rk.seqT_tup, Rk.seqT_rol, Rk.seqT_loc, Rk.lstT_l, Rk.lstT_rol, Rk.lstT_loc, Rk.at_0, Rk.at_1, Rk.at_2, Rk.at_3, Rk.at_4, Rk.at_5, Rk.bin_int, Rk.i_add, Rk.i_sub, Rk.i_mul, Rk.i_div, Rk.i_mod, Rk.i_pow, Rk.u_neg, Rk.c_lt, Rk.c_le, Rk.c_gt, Rk.c_ge, Rk.c_eq, Rk.c_ne, Rk.c_isN, Rk.c_isI, Rk.c_seq, Rk.c_sne, Rk.t_non, Rk.t_bl, Rk.t_int, Rk.iw_int, Rk.bt_bl, Rk.b_int, Rk.b_intb, Rk.b_abs, Rk.b_lent, Rk.b_lenr, Rk.b_lenl, Rk.b_tup, Rk.b_list, Rk.b_all, Rk.b_any, Rk.b_sum, Rk.bls_nil, Rk.bls_cons, Rk.ints_nil, Rk.ints_cons, Rk.b_min1, Rk.b_max1, Rk.b_min2, Rk.b_max2, Rk.m_loc, Rk.m_sl, Rk.p_nil, Rk.p_cons, Rk.set_s, Rk.esc_l, Rk.isI_int, Rk.isI_bool, Rk.isI_tup, List.cons_append, List.nil_append, List.append_nil, List.getElem?_cons_zero, List.getElem?_cons_succ, List.set_cons_zero, List.set_cons_succ, List.length_cons, List.length_nil, List.map_nil, List.map_cons, Option.bind_some, Option.bind_none, Option.map_some, Option.map_none, Option.isSome_some, id_eq, true_and, and_true, decide_eq_true_eq, List.replicate_succ, List.replicate_zero, Nat.reduceAdd, Nat.reduceSub, Int.reduceMul, Int.reduceAdd, Int.reduceSub, Int.reduceNeg, if_true, if_false, Bool.true_eq_false, Bool.false_eq_true, reduceIte, w_lrg, w_r1, List.length_map]
  have e : ∀ s : S, ∀ i j : Int, (if [T.w (.int i), T.w (.int j)].length = 3 then none else bMin s [.w (.int i), .w (.int j)]) = some (.w (.int (if j < i then j else i))) := fun s i j => rfl
  generalize hx : (if (ns.length : Int) < L then (ns.length : Int) else L) = x
  have hx1 : x ≤ L := by rw [← hx]; split <;> omega
  have e3 : ¬ (0 + 1 + 1 = 3) := by decide
  simp only [e3, if_false, b_min2, osat_some, get_w, b_max2, iw_int, hx]
  generalize hy : (if 1 < x then x else 1) = y
  have hy1 : 1 ≤ y ∧ y ≤ L := by rw [← hy]; split <;> omega
  refine ⟨?_, h y hy1.1 hy1.2⟩
  unfold rgOk
  simp only [Bool.and_eq_true, decide_eq_true_eq]
  omega
/-- all([right(pot(script, place)) for place in cells(script, L)]) -/
def dLaw (fc fp fr : List T → List Ob → Res) (L : Int) : DS :=
  (dseq (dret (dbi bAll [(dcomp (dwalk (dcall fc 2 [(dvar 0), (dcon (.int L))] []) none) [1] (gnm 1) dyes (dW (dcall fr 1 [(dcall fp 2 [(dvar 0), (dvar 1)] [])] [])))])) dskip)
theorem all_true : ∀ n : Nat, blsOf (List.replicate n (W.bl true)) = some (List.replicate n true)
  | 0 => rfl
  | n + 1 => by rw [List.replicate_succ, bls_cons, all_true n]; rfl
theorem rangeW_succ (a : Int) (n : Nat) : rangeW a (a + (n + 1 : Nat)) = .int a :: rangeW (a + 1) (a + 1 + (n : Nat)) := by
  unfold rangeW
  have e1 : (a + ((n + 1 : Nat) : Int) - a).toNat = n + 1 := by omega
  have e2 : (a + 1 + ((n : Nat) : Int) - (a + 1)).toNat = n := by omega
  rw [e1, e2, List.range_succ_eq_map, List.map_cons, List.map_map]
  congr 1
  · simp
  · apply List.map_congr_left
    intro i _
    simp only [Function.comp_apply, W.int.injEq]
    omega
theorem rangeW_zero (a : Int) : rangeW a a = [] := by
  unfold rangeW
  simp
theorem law_gen {fc fp fr : List T → List Ob → Res} {ns : List Int} {L : Int} (hL : L < 1000)
    (hc : ∀ M (R : T → List Ob → Prop), (∀ m : Int, 1 ≤ m → m ≤ L → R (.lst (rangeW 0 m)) M) → (fc [.w (.rol (ns.map W.int)), .w (.int L)] M).sat R)
    (hp : ∀ (p : Int) M (R : T → List Ob → Prop), 0 ≤ p → p < 1000 → (∀ a b : Int, 0 ≤ a → 0 ≤ b → b < 2305843009213693952 → R (.lst [.int a, .int b, .int 0]) M) → (fp [.w (.rol (ns.map W.int)), .w (.int p)] M).sat R)
    (hr : ∀ (a b : Int) M (R : T → List Ob → Prop), 0 ≤ a → 0 ≤ b → b < 2305843009213693952 → (∀ M', R (.w (.bl true)) M') → (fr [.lst [.int a, .int b, .int 0]] M).sat R) : (runB (dLaw fc fp fr L) 2 [.w (.rol (ns.map W.int))] []).sat fun t _ => t = .w (.bl true) := by
  rw [w_run]
  unfold dLaw
  rw [w_seq]
  try simp only [Rk.sat_ok, Rk.osat_some, Rk.osat_none, Rk.osat_ite, Rk.osat_map, Rk.osat_bind, Rk.w_var, Rk.w_con, Rk.w_bin, Rk.w_cmp, Rk.w_ix, Rk.w_bi, Rk.w_es0, Rk.w_es, Rk.w_ts0, Rk.w_ts, Rk.w_ws0, Rk.w_ws, Rk.w_W, Rk.w_T, Rk.w_esc, Rk.w_givw, Rk.w_givl, Rk.w_tup, Rk.w_lst, Rk.w_call, Rk.w_callK, Rk.w_un, Rk.w_not, Rk.w_and, Rk.w_or, Rk.w_ifx, Rk.w_sl, Rk.w_no, Rk.w_so, Rk.w_asb, Rk.w_tru, Rk.w_bnot, Rk.w_band, Rk.w_bor, Rk.w_yes, Rk.w_skip, Rk.w_expr, Rk.w_set, Rk.w_ret, Rk.w_retN, Rk.w_if, Rk.w_asg, Rk.w_par, Rk.w_gnm, Rk.w_gsb, Rk.w_mt, Rk.w_ext, Rk.backT, Option.getD_some, Option.getD_none, Rk.get_w, Rk.get_l, Rk.get_sl, Rk.seq_tup, Rk.seq_rol, Rk.seq_l, Rk.seq_loc, Rk.seq_sl, Rk.lst_rol, Rk.lst_l, Rk.lst_loc, Rk.lst_sl, Rk.lst_tup, Rk.ix_int, Rk.ix_some, Rk.seqT_l, Rk.seqT_tup, Rk.seqT_rol, Rk.seqT_loc, Rk.lstT_l, Rk.lstT_rol, Rk.lstT_loc, Rk.at_0, Rk.at_1, Rk.at_2, Rk.at_3, Rk.at_4, Rk.at_5, Rk.bin_int, Rk.i_add, Rk.i_sub, Rk.i_mul, Rk.i_div, Rk.i_mod, Rk.i_pow, Rk.u_neg, Rk.c_lt, Rk.c_le, Rk.c_gt, Rk.c_ge, Rk.c_eq, Rk.c_ne, Rk.c_isN, Rk.c_isI, Rk.c_seq, Rk.c_sne, Rk.t_non, Rk.t_bl, Rk.t_int, Rk.iw_int, Rk.bt_bl, Rk.b_int, Rk.b_intb, Rk.b_abs, Rk.b_lent, Rk.b_lenr, Rk.b_lenl, Rk.b_tup, Rk.b_list, Rk.b_all, Rk.b_any, Rk.b_sum, Rk.bls_nil, Rk.bls_cons, Rk.ints_nil, Rk.ints_cons, Rk.b_min1, Rk.b_max1, Rk.b_min2, Rk.b_max2, Rk.m_loc, Rk.m_sl, Rk.p_nil, Rk.p_cons, Rk.set_s, Rk.esc_l, Rk.isI_int, Rk.isI_bool, Rk.isI_tup, List.cons_append, List.nil_append, List.append_nil, List.getElem?_cons_zero, List.getElem?_cons_succ, List.set_cons_zero, List.set_cons_succ, List.length_cons, List.length_nil, List.map_nil, List.map_cons, Option.bind_some, Option.bind_none, Option.map_some, Option.map_none, Option.isSome_some, id_eq, true_and, and_true, decide_eq_true_eq, List.replicate_succ, List.replicate_zero, Nat.reduceAdd, Nat.reduceSub, Int.reduceMul, Int.reduceAdd, Int.reduceSub, Int.reduceNeg, if_true, if_false, Bool.true_eq_false, Bool.false_eq_true, reduceIte, w_comp, w_walk]
  refine hc _ _ fun m h1 h2 => ?_
  rw [k_lst]
  refine ⟨rfl, ?_⟩
  rw [w_gsnap]
  obtain ⟨n, rfl⟩ : ∃ n : Nat, m = 0 + (n : Nat) := ⟨m.toNat, by omega⟩
  have go : ∀ (n : Nat) (a : Int) (k : Nat) (x : Option T) (M : List Ob), 0 ≤ a → a + n < 1000 → k + n < 1000 → plainAt [some (.w (.rol (ns.map W.int))), x] 1 = true → 
      (compS [1] (gnm 1) dyes (dW (dcall fr 1 [dcall fp 2 [dvar 0, dvar 1] []] [])) (rangeW a (a + n)) (List.replicate k (.bl true)) ⟨[some (.w (.rol (ns.map W.int))), x], M⟩).sat fun acc s => ∃ j, acc = List.replicate j (.bl true) := by
    intro n
    induction n with
    | zero => intro a k x M _ _ _ _; rw [show a + ((0 : Nat) : Int) = a by simp, rangeW_zero, cs_nil]; exact ⟨k, rfl⟩
    | succ n ih =>
      intro a k x M ha hb hk hx
      rw [rangeW_succ, cs_cons]
      try simp only [Rk.sat_ok, Rk.osat_some, Rk.osat_none, Rk.osat_ite, Rk.osat_map, Rk.osat_bind, Rk.w_var, Rk.w_con, Rk.w_bin, Rk.w_cmp, Rk.w_ix, Rk.w_bi, Rk.w_es0, Rk.w_es, Rk.w_ts0, Rk.w_ts, Rk.w_ws0, Rk.w_ws, Rk.w_W, Rk.w_T, Rk.w_esc, Rk.w_givw, Rk.w_givl, Rk.w_tup, Rk.w_lst, Rk.w_call, Rk.w_callK, Rk.w_un, Rk.w_not, Rk.w_and, Rk.w_or, Rk.w_ifx, Rk.w_sl, Rk.w_no, Rk.w_so, Rk.w_asb, Rk.w_tru, Rk.w_bnot, Rk.w_band, Rk.w_bor, Rk.w_yes, Rk.w_skip, Rk.w_expr, Rk.w_set, Rk.w_ret, Rk.w_retN, Rk.w_if, Rk.w_asg, Rk.w_par, Rk.w_gnm, Rk.w_gsb, Rk.w_mt, Rk.w_ext, Rk.backT, Option.getD_some, Option.getD_none, Rk.get_w, Rk.get_l, Rk.get_sl, Rk.seq_tup, Rk.seq_rol, Rk.seq_l, Rk.seq_loc, Rk.seq_sl, Rk.lst_rol, Rk.lst_l, Rk.lst_loc, Rk.lst_sl, Rk.lst_tup, Rk.ix_int, Rk.ix_some, Rk.seqT_l, Rk.seqT_tup, Rk.seqT_rol, Rk.seqT_loc, Rk.lstT_l, Rk.lstT_rol, Rk.lstT_loc, Rk.at_0, Rk.at_1, Rk.at_2, Rk.at_3, Rk.at_4, Rk.at_5, Rk.bin_int, Rk.i_add, Rk.i_sub, Rk.i_mul, Rk.i_div, Rk.i_mod, Rk.i_pow, Rk.u_neg, Rk.c_lt, Rk.c_le, Rk.c_gt, Rk.c_ge, Rk.c_eq, Rk.c_ne, Rk.c_isN, Rk.c_isI, Rk.c_seq, Rk.c_sne, Rk.t_non, Rk.t_bl, Rk.t_int, Rk.iw_int, Rk.bt_bl, Rk.b_int, Rk.b_intb, Rk.b_abs, Rk.b_lent, Rk.b_lenr, Rk.b_lenl, Rk.b_tup, Rk.b_list, Rk.b_all, Rk.b_any, Rk.b_sum, Rk.bls_nil, Rk.bls_cons, Rk.ints_nil, Rk.ints_cons, Rk.b_min1, Rk.b_max1, Rk.b_min2, Rk.b_max2, Rk.m_loc, Rk.m_sl, Rk.p_nil, Rk.p_cons, Rk.set_s, Rk.esc_l, Rk.isI_int, Rk.isI_bool, Rk.isI_tup, List.cons_append, List.nil_append, List.append_nil, List.getElem?_cons_zero, List.getElem?_cons_succ, List.set_cons_zero, List.set_cons_succ, List.length_cons, List.length_nil, List.map_nil, List.map_cons, Option.bind_some, Option.bind_none, Option.map_some, Option.map_none, Option.isSome_some, id_eq, true_and, and_true, decide_eq_true_eq, List.replicate_succ, List.replicate_zero, Nat.reduceAdd, Nat.reduceSub, Int.reduceMul, Int.reduceAdd, Int.reduceSub, Int.reduceNeg, if_true, if_false, Bool.true_eq_false, Bool.false_eq_true, reduceIte, wipeS, wipeT]
      refine hp _ _ _ ha (by omega) fun c d hc hd hd' => ?_
      try simp only [Rk.sat_ok, Rk.osat_some, Rk.osat_none, Rk.osat_ite, Rk.osat_map, Rk.osat_bind, Rk.w_var, Rk.w_con, Rk.w_bin, Rk.w_cmp, Rk.w_ix, Rk.w_bi, Rk.w_es0, Rk.w_es, Rk.w_ts0, Rk.w_ts, Rk.w_ws0, Rk.w_ws, Rk.w_W, Rk.w_T, Rk.w_esc, Rk.w_givw, Rk.w_givl, Rk.w_tup, Rk.w_lst, Rk.w_call, Rk.w_callK, Rk.w_un, Rk.w_not, Rk.w_and, Rk.w_or, Rk.w_ifx, Rk.w_sl, Rk.w_no, Rk.w_so, Rk.w_asb, Rk.w_tru, Rk.w_bnot, Rk.w_band, Rk.w_bor, Rk.w_yes, Rk.w_skip, Rk.w_expr, Rk.w_set, Rk.w_ret, Rk.w_retN, Rk.w_if, Rk.w_asg, Rk.w_par, Rk.w_gnm, Rk.w_gsb, Rk.w_mt, Rk.w_ext, Rk.backT, Option.getD_some, Option.getD_none, Rk.get_w, Rk.get_l, Rk.get_sl, Rk.seq_tup, Rk.seq_rol, Rk.seq_l, Rk.seq_loc, Rk.seq_sl, Rk.lst_rol, Rk.lst_l, Rk.lst_loc, Rk.lst_sl, Rk.lst_tup, Rk.ix_int, Rk.ix_some, Rk.seqT_l, Rk.seqT_tup, Rk.seqT_rol, Rk.seqT_loc, Rk.lstT_l, Rk.lstT_rol, Rk.lstT_loc, Rk.at_0, Rk.at_1, Rk.at_2, Rk.at_3, Rk.at_4, Rk.at_5, Rk.bin_int, Rk.i_add, Rk.i_sub, Rk.i_mul, Rk.i_div, Rk.i_mod, Rk.i_pow, Rk.u_neg, Rk.c_lt, Rk.c_le, Rk.c_gt, Rk.c_ge, Rk.c_eq, Rk.c_ne, Rk.c_isN, Rk.c_isI, Rk.c_seq, Rk.c_sne, Rk.t_non, Rk.t_bl, Rk.t_int, Rk.iw_int, Rk.bt_bl, Rk.b_int, Rk.b_intb, Rk.b_abs, Rk.b_lent, Rk.b_lenr, Rk.b_lenl, Rk.b_tup, Rk.b_list, Rk.b_all, Rk.b_any, Rk.b_sum, Rk.bls_nil, Rk.bls_cons, Rk.ints_nil, Rk.ints_cons, Rk.b_min1, Rk.b_max1, Rk.b_min2, Rk.b_max2, Rk.m_loc, Rk.m_sl, Rk.p_nil, Rk.p_cons, Rk.set_s, Rk.esc_l, Rk.isI_int, Rk.isI_bool, Rk.isI_tup, List.cons_append, List.nil_append, List.append_nil, List.getElem?_cons_zero, List.getElem?_cons_succ, List.set_cons_zero, List.set_cons_succ, List.length_cons, List.length_nil, List.map_nil, List.map_cons, Option.bind_some, Option.bind_none, Option.map_some, Option.map_none, Option.isSome_some, id_eq, true_and, and_true, decide_eq_true_eq, List.replicate_succ, List.replicate_zero, Nat.reduceAdd, Nat.reduceSub, Int.reduceMul, Int.reduceAdd, Int.reduceSub, Int.reduceNeg, if_true, if_false, Bool.true_eq_false, Bool.false_eq_true, reduceIte]
      refine hr _ _ _ _ hc hd hd' fun M' => ?_
      try simp only [Rk.sat_ok, Rk.osat_some, Rk.osat_none, Rk.osat_ite, Rk.osat_map, Rk.osat_bind, Rk.w_var, Rk.w_con, Rk.w_bin, Rk.w_cmp, Rk.w_ix, Rk.w_bi, Rk.w_es0, Rk.w_es, Rk.w_ts0, Rk.w_ts, Rk.w_ws0, Rk.w_ws, Rk.w_W, Rk.w_T, Rk.w_esc, Rk.w_givw, Rk.w_givl, Rk.w_tup, Rk.w_lst, Rk.w_call, Rk.w_callK, Rk.w_un, Rk.w_not, Rk.w_and, Rk.w_or, Rk.w_ifx, Rk.w_sl, Rk.w_no, Rk.w_so, Rk.w_asb, Rk.w_tru, Rk.w_bnot, Rk.w_band, Rk.w_bor, Rk.w_yes, Rk.w_skip, Rk.w_expr, Rk.w_set, Rk.w_ret, Rk.w_retN, Rk.w_if, Rk.w_asg, Rk.w_par, Rk.w_gnm, Rk.w_gsb, Rk.w_mt, Rk.w_ext, Rk.backT, Option.getD_some, Option.getD_none, Rk.get_w, Rk.get_l, Rk.get_sl, Rk.seq_tup, Rk.seq_rol, Rk.seq_l, Rk.seq_loc, Rk.seq_sl, Rk.lst_rol, Rk.lst_l, Rk.lst_loc, Rk.lst_sl, Rk.lst_tup, Rk.ix_int, Rk.ix_some, Rk.seqT_l, Rk.seqT_tup, Rk.seqT_rol, Rk.seqT_loc, Rk.lstT_l, Rk.lstT_rol, Rk.lstT_loc, Rk.at_0, Rk.at_1, Rk.at_2, Rk.at_3, Rk.at_4, Rk.at_5, Rk.bin_int, Rk.i_add, Rk.i_sub, Rk.i_mul, Rk.i_div, Rk.i_mod, Rk.i_pow, Rk.u_neg, Rk.c_lt, Rk.c_le, Rk.c_gt, Rk.c_ge, Rk.c_eq, Rk.c_ne, Rk.c_isN, Rk.c_isI, Rk.c_seq, Rk.c_sne, Rk.t_non, Rk.t_bl, Rk.t_int, Rk.iw_int, Rk.bt_bl, Rk.b_int, Rk.b_intb, Rk.b_abs, Rk.b_lent, Rk.b_lenr, Rk.b_lenl, Rk.b_tup, Rk.b_list, Rk.b_all, Rk.b_any, Rk.b_sum, Rk.bls_nil, Rk.bls_cons, Rk.ints_nil, Rk.ints_cons, Rk.b_min1, Rk.b_max1, Rk.b_min2, Rk.b_max2, Rk.m_loc, Rk.m_sl, Rk.p_nil, Rk.p_cons, Rk.set_s, Rk.esc_l, Rk.isI_int, Rk.isI_bool, Rk.isI_tup, List.cons_append, List.nil_append, List.append_nil, List.getElem?_cons_zero, List.getElem?_cons_succ, List.set_cons_zero, List.set_cons_succ, List.length_cons, List.length_nil, List.map_nil, List.map_cons, Option.bind_some, Option.bind_none, Option.map_some, Option.map_none, Option.isSome_some, id_eq, true_and, and_true, decide_eq_true_eq, List.replicate_succ, List.replicate_zero, Nat.reduceAdd, Nat.reduceSub, Int.reduceMul, Int.reduceAdd, Int.reduceSub, Int.reduceNeg, if_true, if_false, Bool.true_eq_false, Bool.false_eq_true, reduceIte]
      refine ⟨⟨?_, rfl⟩, ?_⟩
      · rw [List.length_replicate]; exact Nat.lt_of_lt_of_le (by omega : k < 1000) (by decide)
      · have e : List.replicate k (W.bl true) ++ [.bl true] = List.replicate (k + 1) (.bl true) := by rw [List.replicate_succ']
        rw [e]
        exact ih (a + 1) (k + 1) _ _ (by omega) (by omega) (by omega) rfl
  refine Out.sat.mono (go n 0 0 none [] (by omega) (by omega) (by omega) rfl) fun acc s ⟨j, e⟩ => ?_
  subst e
  simp only [all_true, osat_map, osat_some, get_w, List.all_replicate, id_eq]
  cases j <;> rfl
end Rk

/-! Rk28: maps over lists; greatest common divisors. -/
namespace Rk
open PySem PySem.Spec PyProof.Rows L2

theorem w_llive {f : S → Option (List W)} {g : DG} {b : DS} {s : S} {P : Po} : (loopS g b (.live f) s).sat P ↔ (forL f g b FUEL 0 s).sat P := Iff.rfl
/-- a comprehension that changes nothing: the items' images -/
theorem cs_map {vs : List Nat} {g : DG} {c : DB} {e : DW} (f : W → W) {W0 : List (Option T)} {M : List Ob} : ∀ (xs acc : List W) (s : S),
    (∀ x ∈ xs, (g x ⟨W0, M⟩).sat fun _ s => (c s).sat fun b s => b = true ∧ (e s).sat fun y s => y = f x ∧ s.M = M ∧ wipeT s.sg vs = W0 ∧ vs.all (plainAt s.sg) = true) →
    s.M = M → wipeT s.sg vs = W0 → acc.length + xs.length ≤ sizeLine → (compS vs g c e xs acc s).sat fun a' s' => a' = acc ++ xs.map f ∧ s'.M = M ∧ wipeT s'.sg vs = W0
  | [], acc, s, _, hM, hW, _ => by rw [cs_nil]; exact ⟨by simp, hM, hW⟩
  | x :: xs, acc, s, h, hM, hW, hl => by
    rw [cs_cons]
    have e1 : wipeS vs s = ⟨W0, M⟩ := by rw [← hW, ← hM]; rfl
    rw [e1]
    refine Out.sat.mono (h x (by simp)) fun _ s1 h1 => Out.sat.mono h1 fun b s2 h2 => ?_
    obtain ⟨rfl, h2⟩ := h2
    rw [if_pos rfl]
    refine Out.sat.mono h2 fun y s3 ⟨h3, h4, h5, h6⟩ => ⟨⟨?_, h6⟩, ?_⟩
    · rw [List.length_cons] at hl; omega
    · refine Out.sat.mono (cs_map f xs (acc ++ [y]) s3 (fun z hz => h z (by simp [hz])) h4 h5 (by rw [List.length_append, List.length_singleton]; rw [List.length_cons] at hl; omega)) fun a' s' ⟨k1, k2, k3⟩ => ⟨?_, k2, k3⟩
      rw [k1, h3]
      simp
/-- the same with a filter -/
theorem cs_filter {vs : List Nat} {g : DG} {c : DB} {e : DW} (p : W → Bool) (f : W → W) {W0 : List (Option T)} {M : List Ob} : ∀ (xs acc : List W) (s : S),
    (∀ x ∈ xs, (g x ⟨W0, M⟩).sat fun _ s => (c s).sat fun b s => b = p x ∧ if p x = true then (e s).sat fun y s => y = f x ∧ s.M = M ∧ wipeT s.sg vs = W0 ∧ vs.all (plainAt s.sg) = true else s.M = M ∧ wipeT s.sg vs = W0 ∧ vs.all (plainAt s.sg) = true) →
    s.M = M → wipeT s.sg vs = W0 → acc.length + xs.length ≤ sizeLine → (compS vs g c e xs acc s).sat fun a' s' => a' = acc ++ (xs.filter p).map f ∧ s'.M = M ∧ wipeT s'.sg vs = W0
  | [], acc, s, _, hM, hW, _ => by rw [cs_nil]; exact ⟨by simp, hM, hW⟩
  | x :: xs, acc, s, h, hM, hW, hl => by
    rw [cs_cons]
    rw [List.length_cons] at hl
    have e1 : wipeS vs s = ⟨W0, M⟩ := by rw [← hW, ← hM]; rfl
    rw [e1]
    refine Out.sat.mono (h x (by simp)) fun _ s1 h1 => Out.sat.mono h1 fun b s2 h2 => ?_
    obtain ⟨rfl, h2⟩ := h2
    cases hp : p x with
    | true =>
      rw [hp, if_pos rfl] at h2
      rw [if_pos rfl]
      refine Out.sat.mono h2 fun y s3 ⟨h3, h4, h5, h6⟩ => ⟨⟨by omega, h6⟩, ?_⟩
      refine Out.sat.mono (cs_filter p f xs (acc ++ [y]) s3 (fun z hz => h z (by simp [hz])) h4 h5 (by rw [List.length_append, List.length_singleton]; omega)) fun a' s' ⟨k1, k2, k3⟩ => ⟨?_, k2, k3⟩
      rw [k1, h3, List.filter_cons_of_pos hp]
      simp
    | false =>
      rw [hp, if_neg Bool.false_ne_true] at h2
      rw [if_neg Bool.false_ne_true]
      obtain ⟨h4, h5, h6⟩ := h2
      refine ⟨h6, Out.sat.mono (cs_filter p f xs acc s2 (fun z hz => h z (by simp [hz])) h4 h5 (by omega)) fun a' s' ⟨k1, k2, k3⟩ => ⟨?_, k2, k3⟩⟩
      rw [k1, List.filter_cons_of_neg (by rw [hp]; exact Bool.false_ne_true)]
/-! ### greatest common divisors -/
theorem abs_nat (a : Int) : (if a < 0 then -a else a) = (a.natAbs : Int) := by omega
theorem mod_nat {x y : Nat} (h : y ≠ 0) : iMod (x : Int) (y : Int) = ((x % y : Nat) : Int) := by
  show (if (0 : Int) < (y : Int) then (x : Int) % (y : Int) else _) = _
  rw [if_pos (by omega)]
  exact (Int.natCast_emod x y).symm
theorem gcd_next {x y : Nat} : Nat.gcd y (x % y) = Nat.gcd x y := by
  rw [Nat.gcd_comm x y, Nat.gcd_rec y x, Nat.gcd_comm]
theorem gcd1 {M : List Ob} {P : Po} : ∀ (n x y : Nat), y < n → P.nx ⟨[some (.w (.int (Nat.gcd x y : Nat))), some (.w (.int 0))], M⟩ →
    (dwhl (asb (dcmp .NotEq (dvar 1) (dcon (.int 0)))) (dseq (dpar [0, 1] [(dvar 1), (dbin .Mod (dvar 0) (dvar 1))]) dskip) n ⟨[some (.w (.int (x : Nat))), some (.w (.int (y : Nat)))], M⟩).sat P
  | 0, x, y, h, _ => by omega
  | n + 1, x, y, h, k => by
    rw [wh_step]
    try simp only [Rk.sat_ok, Rk.osat_some, Rk.osat_none, Rk.osat_ite, Rk.osat_map, Rk.osat_bind, Rk.w_var, Rk.w_con, Rk.w_bin, Rk.w_cmp, Rk.w_ix, Rk.w_bi, Rk.w_es0, Rk.w_es, Rk.w_ts0, Rk.w_ts, Rk.w_ws0, Rk.w_ws, Rk.w_W, Rk.w_T, Rk.w_esc, Rk.w_givw, Rk.w_givl, Rk.w_tup, Rk.w_lst, Rk.w_call, Rk.w_callK, Rk.w_un, Rk.w_not, Rk.w_and, Rk.w_or, Rk.w_ifx, Rk.w_sl, Rk.w_no, Rk.w_so, Rk.w_asb, Rk.w_tru, Rk.w_bnot, Rk.w_band, Rk.w_bor, Rk.w_yes, Rk.w_skip, Rk.w_expr, Rk.w_set, Rk.w_ret, Rk.w_retN, Rk.w_if, Rk.w_asg, Rk.w_par, Rk.w_gnm, Rk.w_gsb, Rk.w_mt, Rk.w_ext, Rk.backT, Option.getD_some, Option.getD_none, Rk.get_w, Rk.get_l, Rk.get_sl, Rk.seq_tup, Rk.seq_rol, Rk.seq_l, Rk.seq_loc, Rk.seq_sl, Rk.lst_rol, Rk.lst_l, Rk.lst_loc, Rk.lst_sl, Rk.lst_tup, Rk.ix_int, Rk.ix_some, Rk.seqT_l, Rk.seqT_tup, Rk.seqT_rol, Rk.seqT_loc, Rk.lstT_l, Rk.lstT_rol, Rk.lstT_loc, Rk.at_0, Rk.at_1, Rk.at_2, Rk.at_3, Rk.at_4, Rk.at_5, Rk.bin_int, Rk.i_add, Rk.i_sub, Rk.i_mul, Rk.i_div, Rk.i_mod, Rk.i_pow, Rk.u_neg, Rk.c_lt, Rk.c_le, Rk.c_gt, Rk.c_ge, Rk.c_eq, Rk.c_ne, Rk.c_isN, Rk.c_isI, Rk.c_seq, Rk.c_sne, Rk.t_non, Rk.t_bl, Rk.t_int, Rk.iw_int, Rk.bt_bl, Rk.b_int, Rk.b_intb, Rk.b_abs, Rk.b_lent, Rk.b_lenr, Rk.b_lenl, Rk.b_tup, Rk.b_list, Rk.b_all, Rk.b_any, Rk.b_sum, Rk.bls_nil, Rk.bls_cons, Rk.ints_nil, Rk.ints_cons, Rk.b_min1, Rk.b_max1, Rk.b_min2, Rk.b_max2, Rk.m_loc, Rk.m_sl, Rk.p_nil, Rk.p_cons, Rk.set_s, Rk.esc_l, Rk.isI_int, Rk.isI_bool, Rk.isI_tup, List.cons_append, List.nil_append, List.append_nil, List.getElem?_cons_zero, List.getElem?_cons_succ, List.set_cons_zero, List.set_cons_succ, List.length_cons, List.length_nil, List.map_nil, List.map_cons, Option.bind_some, Option.bind_none, Option.map_some, Option.map_none, Option.isSome_some, id_eq, true_and, and_true, decide_eq_true_eq, List.replicate_succ, List.replicate_zero, Nat.reduceAdd, Nat.reduceSub, Int.reduceMul, Int.reduceAdd, Int.reduceSub, Int.reduceNeg, if_true, if_false, Bool.true_eq_false, Bool.false_eq_true, reduceIte]
    by_cases hy : y = 0
    · subst hy
      rw [if_neg (by simp)]
      simpa using k
    · rw [if_pos (by simp; omega), w_seq]
      try simp only [Rk.sat_ok, Rk.osat_some, Rk.osat_none, Rk.osat_ite, Rk.osat_map, Rk.osat_bind, Rk.w_var, Rk.w_con, Rk.w_bin, Rk.w_cmp, Rk.w_ix, Rk.w_bi, Rk.w_es0, Rk.w_es, Rk.w_ts0, Rk.w_ts, Rk.w_ws0, Rk.w_ws, Rk.w_W, Rk.w_T, Rk.w_esc, Rk.w_givw, Rk.w_givl, Rk.w_tup, Rk.w_lst, Rk.w_call, Rk.w_callK, Rk.w_un, Rk.w_not, Rk.w_and, Rk.w_or, Rk.w_ifx, Rk.w_sl, Rk.w_no, Rk.w_so, Rk.w_asb, Rk.w_tru, Rk.w_bnot, Rk.w_band, Rk.w_bor, Rk.w_yes, Rk.w_skip, Rk.w_expr, Rk.w_set, Rk.w_ret, Rk.w_retN, Rk.w_if, Rk.w_asg, Rk.w_par, Rk.w_gnm, Rk.w_gsb, Rk.w_mt, Rk.w_ext, Rk.backT, Option.getD_some, Option.getD_none, Rk.get_w, Rk.get_l, Rk.get_sl, Rk.seq_tup, Rk.seq_rol, Rk.seq_l, Rk.seq_loc, Rk.seq_sl, Rk.lst_rol, Rk.lst_l, Rk.lst_loc, Rk.lst_sl, Rk.lst_tup, Rk.ix_int, Rk.ix_some, Rk.seqT_l, Rk.seqT_tup, Rk.seqT_rol, Rk.seqT_loc, Rk.lstT_l, Rk.lstT_rol, Rk.lstT_loc, Rk.at_0, Rk.at_1, Rk.at_2, Rk.at_3, Rk.at_4, Rk.at_5, Rk.bin_int, Rk.i_add, Rk.i_sub, Rk.i_mul, Rk.i_div, Rk.i_mod, Rk.i_pow, Rk.u_neg, Rk.c_lt, Rk.c_le, Rk.c_gt, Rk.c_ge, Rk.c_eq, Rk.c_ne, Rk.c_isN, Rk.c_isI, Rk.c_seq, Rk.c_sne, Rk.t_non, Rk.t_bl, Rk.t_int, Rk.iw_int, Rk.bt_bl, Rk.b_int, Rk.b_intb, Rk.b_abs, Rk.b_lent, Rk.b_lenr, Rk.b_lenl, Rk.b_tup, Rk.b_list, Rk.b_all, Rk.b_any, Rk.b_sum, Rk.bls_nil, Rk.bls_cons, Rk.ints_nil, Rk.ints_cons, Rk.b_min1, Rk.b_max1, Rk.b_min2, Rk.b_max2, Rk.m_loc, Rk.m_sl, Rk.p_nil, Rk.p_cons, Rk.set_s, Rk.esc_l, Rk.isI_int, Rk.isI_bool, Rk.isI_tup, List.cons_append, List.nil_append, List.append_nil, List.getElem?_cons_zero, List.getElem?_cons_succ, List.set_cons_zero, List.set_cons_succ, List.length_cons, List.length_nil, List.map_nil, List.map_cons, Option.bind_some, Option.bind_none, Option.map_some, Option.map_none, Option.isSome_some, id_eq, true_and, and_true, decide_eq_true_eq, List.replicate_succ, List.replicate_zero, Nat.reduceAdd, Nat.reduceSub, Int.reduceMul, Int.reduceAdd, Int.reduceSub, Int.reduceNeg, if_true, if_false, Bool.true_eq_false, Bool.false_eq_true, reduceIte]
      refine ⟨by omega, ?_⟩
      rw [mod_nat hy]
      have hm : x % y < y := Nat.mod_lt _ (by omega)
      exact gcd1 n y (x % y) (by omega) (by rw [gcd_next]; exact k)
theorem gcd2 {M : List Ob} {P : Po} {t b v : Option T} : ∀ (n x y : Nat), y < n → P.nx ⟨[t, b, some (.w (.int (Nat.gcd x y : Nat))), some (.w (.int 0)), v], M⟩ →
    (dwhl (asb (dcmp .Gt (dvar 3) (dcon (.int 0)))) (dseq (dpar [2, 3] [(dvar 3), (dbin .Mod (dbi bInt [(dvar 2)]) (dvar 3))]) dskip) n ⟨[t, b, some (.w (.int (x : Nat))), some (.w (.int (y : Nat))), v], M⟩).sat P
  | 0, x, y, h, _ => by omega
  | n + 1, x, y, h, k => by
    rw [wh_step]
    try simp only [Rk.sat_ok, Rk.osat_some, Rk.osat_none, Rk.osat_ite, Rk.osat_map, Rk.osat_bind, Rk.w_var, Rk.w_con, Rk.w_bin, Rk.w_cmp, Rk.w_ix, Rk.w_bi, Rk.w_es0, Rk.w_es, Rk.w_ts0, Rk.w_ts, Rk.w_ws0, Rk.w_ws, Rk.w_W, Rk.w_T, Rk.w_esc, Rk.w_givw, Rk.w_givl, Rk.w_tup, Rk.w_lst, Rk.w_call, Rk.w_callK, Rk.w_un, Rk.w_not, Rk.w_and, Rk.w_or, Rk.w_ifx, Rk.w_sl, Rk.w_no, Rk.w_so, Rk.w_asb, Rk.w_tru, Rk.w_bnot, Rk.w_band, Rk.w_bor, Rk.w_yes, Rk.w_skip, Rk.w_expr, Rk.w_set, Rk.w_ret, Rk.w_retN, Rk.w_if, Rk.w_asg, Rk.w_par, Rk.w_gnm, Rk.w_gsb, Rk.w_mt, Rk.w_ext, Rk.backT, Option.getD_some, Option.getD_none, Rk.get_w, Rk.get_l, Rk.get_sl, Rk.seq_tup, Rk.seq_rol, Rk.seq_l, Rk.seq_loc, Rk.seq_sl, Rk.lst_rol, Rk.lst_l, Rk.lst_loc, Rk.lst_sl, Rk.lst_tup, Rk.ix_int, Rk.ix_some, Rk.seqT_l, Rk.seqT_tup, Rk.seqT_rol, Rk.seqT_loc, Rk.lstT_l, Rk.lstT_rol, Rk.lstT_loc, Rk.at_0, Rk.at_1, Rk.at_2, Rk.at_3, Rk.at_4, Rk.at_5, Rk.bin_int, Rk.i_add, Rk.i_sub, Rk.i_mul, Rk.i_div, Rk.i_mod, Rk.i_pow, Rk.u_neg, Rk.c_lt, Rk.c_le, Rk.c_gt, Rk.c_ge, Rk.c_eq, Rk.c_ne, Rk.c_isN, Rk.c_isI, Rk.c_seq, Rk.c_sne, Rk.t_non, Rk.t_bl, Rk.t_int, Rk.iw_int, Rk.bt_bl, Rk.b_int, Rk.b_intb, Rk.b_abs, Rk.b_lent, Rk.b_lenr, Rk.b_lenl, Rk.b_tup, Rk.b_list, Rk.b_all, Rk.b_any, Rk.b_sum, Rk.bls_nil, Rk.bls_cons, Rk.ints_nil, Rk.ints_cons, Rk.b_min1, Rk.b_max1, Rk.b_min2, Rk.b_max2, Rk.m_loc, Rk.m_sl, Rk.p_nil, Rk.p_cons, Rk.set_s, Rk.esc_l, Rk.isI_int, Rk.isI_bool, Rk.isI_tup, List.cons_append, List.nil_append, List.append_nil, List.getElem?_cons_zero, List.getElem?_cons_succ, List.set_cons_zero, List.set_cons_succ, List.length_cons, List.length_nil, List.map_nil, List.map_cons, Option.bind_some, Option.bind_none, Option.map_some, Option.map_none, Option.isSome_some, id_eq, true_and, and_true, decide_eq_true_eq, List.replicate_succ, List.replicate_zero, Nat.reduceAdd, Nat.reduceSub, Int.reduceMul, Int.reduceAdd, Int.reduceSub, Int.reduceNeg, if_true, if_false, Bool.true_eq_false, Bool.false_eq_true, reduceIte]
    by_cases hy : y = 0
    · subst hy
      rw [if_neg (by simp)]
      simpa using k
    · rw [if_pos (by omega), w_seq]
      try simp only [Rk.sat_ok, Rk.osat_some, Rk.osat_none, Rk.osat_ite, Rk.osat_map, Rk.osat_bind, Rk.w_var, Rk.w_con, Rk.w_bin, Rk.w_cmp, Rk.w_ix, Rk.w_bi, Rk.w_es0, Rk.w_es, Rk.w_ts0, Rk.w_ts, Rk.w_ws0, Rk.w_ws, Rk.w_W, Rk.w_T, Rk.w_esc, Rk.w_givw, Rk.w_givl, Rk.w_tup, Rk.w_lst, Rk.w_call, Rk.w_callK, Rk.w_un, Rk.w_not, Rk.w_and, Rk.w_or, Rk.w_ifx, Rk.w_sl, Rk.w_no, Rk.w_so, Rk.w_asb, Rk.w_tru, Rk.w_bnot, Rk.w_band, Rk.w_bor, Rk.w_yes, Rk.w_skip, Rk.w_expr, Rk.w_set, Rk.w_ret, Rk.w_retN, Rk.w_if, Rk.w_asg, Rk.w_par, Rk.w_gnm, Rk.w_gsb, Rk.w_mt, Rk.w_ext, Rk.backT, Option.getD_some, Option.getD_none, Rk.get_w, Rk.get_l, Rk.get_sl, Rk.seq_tup, Rk.seq_rol, Rk.seq_l, Rk.seq_loc, Rk.seq_sl, Rk.lst_rol, Rk.lst_l, Rk.lst_loc, Rk.lst_sl, Rk.lst_tup, Rk.ix_int, Rk.ix_some, Rk.seqT_l, Rk.seqT_tup, Rk.seqT_rol, Rk.seqT_loc, Rk.lstT_l, Rk.lstT_rol, Rk.lstT_loc, Rk.at_0, Rk.at_1, Rk.at_2, Rk.at_3, Rk.at_4, Rk.at_5, Rk.bin_int, Rk.i_add, Rk.i_sub, Rk.i_mul, Rk.i_div, Rk.i_mod, Rk.i_pow, Rk.u_neg, Rk.c_lt, Rk.c_le, Rk.c_gt, Rk.c_ge, Rk.c_eq, Rk.c_ne, Rk.c_isN, Rk.c_isI, Rk.c_seq, Rk.c_sne, Rk.t_non, Rk.t_bl, Rk.t_int, Rk.iw_int, Rk.bt_bl, Rk.b_int, Rk.b_intb, Rk.b_abs, Rk.b_lent, Rk.b_lenr, Rk.b_lenl, Rk.b_tup, Rk.b_list, Rk.b_all, Rk.b_any, Rk.b_sum, Rk.bls_nil, Rk.bls_cons, Rk.ints_nil, Rk.ints_cons, Rk.b_min1, Rk.b_max1, Rk.b_min2, Rk.b_max2, Rk.m_loc, Rk.m_sl, Rk.p_nil, Rk.p_cons, Rk.set_s, Rk.esc_l, Rk.isI_int, Rk.isI_bool, Rk.isI_tup, List.cons_append, List.nil_append, List.append_nil, List.getElem?_cons_zero, List.getElem?_cons_succ, List.set_cons_zero, List.set_cons_succ, List.length_cons, List.length_nil, List.map_nil, List.map_cons, Option.bind_some, Option.bind_none, Option.map_some, Option.map_none, Option.isSome_some, id_eq, true_and, and_true, decide_eq_true_eq, List.replicate_succ, List.replicate_zero, Nat.reduceAdd, Nat.reduceSub, Int.reduceMul, Int.reduceAdd, Int.reduceSub, Int.reduceNeg, if_true, if_false, Bool.true_eq_false, Bool.false_eq_true, reduceIte]
      refine ⟨by omega, ?_⟩
      rw [mod_nat hy]
      have hm : x % y < y := Nat.mod_lt _ (by omega)
      exact gcd2 n y (x % y) (by omega) (by rw [gcd_next]; exact k)
/-! ### further looks -/
section
variable {s : S} {n k : Nat} {g : DG} {r : List W → S → Out Unit} {x : W} {xs : List W} {i : Int}
theorem w_gtp {Q : Unit → S → Prop} : (gtp n r (.tup xs) s).sat Q ↔ xs.length = n ∧ (r xs s).sat Q := by
  show (if xs.length = n then r xs s else Out.bad).sat Q ↔ _
  by_cases h : xs.length = n
  · rw [if_pos h]; exact ⟨fun z => ⟨h, z⟩, fun z => z.2⟩
  · rw [if_neg h]; exact ⟨fun z => z.elim, fun z => absurd z.1 h⟩
theorem w_gsc {Q : Unit → S → Prop} : (gsc g r (x :: xs) s).sat Q ↔ (g x s).sat fun _ s => (r xs s).sat Q := by
  show ((g x s).bind fun _ s => r xs s).sat Q ↔ _
  rw [sat_bind]
theorem w_gsn {Q : Unit → S → Prop} : (gsn [] s).sat Q ↔ Q () s := Iff.rfl
theorem pick_n {A : Type} {l : List A} : pick [] l = [] := rfl
theorem pick_c {A : Type} {l : List A} {pm : List Nat} : pick (k :: pm) l = (match l[k]? with
    | some x => x :: pick pm l
    | none => pick pm l) := by
  unfold pick
  rw [List.filterMap_cons]
  cases l[k]? <;> rfl
/-- what is handed on from a slot -/
def slQ (o : Option (Option T)) (Q : W → S → Prop) (k : Nat) (s : S) : Prop := match o with
  | some (some (.w x)) => Q x s
  | some (some (.lst xs)) => Q (.loc s.M.length) ⟨s.sg.set k (some (.w (.loc s.M.length))), s.M ++ [.lst xs]⟩
  | some (some (.dK xs)) => Q (.loc s.M.length) ⟨s.sg.set k (some (.w (.loc s.M.length))), s.M ++ [.dK xs]⟩
  | some (some (.dT xs)) => Q (.loc s.M.length) ⟨s.sg.set k (some (.w (.loc s.M.length))), s.M ++ [.dT xs]⟩
  | _ => False
theorem w_escs {Q : W → S → Prop} : (esc (.sl k) s).sat Q ↔ slQ s.sg[k]? Q k s := by
  have e : esc (.sl k) s = (match s.sg[k]? with
      | some (some (.lst xs)) => .ok (.loc s.M.length) ⟨s.sg.set k (some (.w (.loc s.M.length))), s.M ++ [.lst xs]⟩
      | some (some (.dK kvs)) => .ok (.loc s.M.length) ⟨s.sg.set k (some (.w (.loc s.M.length))), s.M ++ [.dK kvs]⟩
      | some (some (.dT kvs)) => .ok (.loc s.M.length) ⟨s.sg.set k (some (.w (.loc s.M.length))), s.M ++ [.dT kvs]⟩
      | some (some (.w x)) => .ok x s
      | _ => .bad) := rfl
  rw [e]
  unfold slQ
  cases s.sg[k]? with
  | none => exact Iff.rfl
  | some o =>
    cases o with
    | none => exact Iff.rfl
    | some t => cases t <;> exact Iff.rfl
theorem w_givs {Q : T → S → Prop} : (giv (.sl k) s).sat Q ↔ slQ s.sg[k]? (fun x s => Q (.w x) s) k s := by
  have e : giv (.sl k) s = (esc (.sl k) s).bind fun x s => .ok (.w x) s := rfl
  rw [e, sat_bind, w_escs]
  exact Iff.rfl
theorem slQ_l {Q : W → S → Prop} : slQ (some (some (.lst xs))) Q k s ↔ Q (.loc s.M.length) ⟨s.sg.set k (some (.w (.loc s.M.length))), s.M ++ [.lst xs]⟩ := Iff.rfl
theorem slQ_w {Q : W → S → Prop} : slQ (some (some (.w x))) Q k s ↔ Q x s := Iff.rfl
theorem b_reprI' : bRepr s [.w (.int i)] = if showI i = true then some (.w (.str (toString i))) else none := rfl
theorem showI_s (h : i.natAbs < 18446744073709551616) : showI i = true := by simp [showI, h]
theorem b_repr2 {a b : Bool} : bRepr s [.w (.tup [.bl a, .bl b])] = some (.w (.str (PyData.tuple [.bool a, .bool b]).shown)) := by
  have e : bRepr s [.w (.tup [.bl a, .bl b])] = if showD (.tuple [.bool a, .bool b]) then some (.w (.str (PyData.tuple [.bool a, .bool b]).shown)) else none := rfl
  rw [e]
  cases a <;> cases b <;> rw [if_pos (by decide +kernel)]
theorem b_lens {k : Nat} (h : s.get (.sl k) = some (.lst xs)) : bLen s [.sl k] = some (.w (.int xs.length)) := by
  refine b_len (by rw [seq_sl, h]; rfl) fun z e => ?_
  rw [h] at e
  cases e
end
/-- a comprehension over a list that stays -/
theorem cl_map {vs : List Nat} {g : DG} {c : DB} {e : DW} (f : W → W) {W0 : List (Option T)} {M : List Ob} {src : S → Option (List W)} {xs : List W} (hs : src ⟨W0, M⟩ = some xs)
    (h : ∀ x ∈ xs, (g x ⟨W0, M⟩).sat fun _ s => (c s).sat fun b s => b = true ∧ (e s).sat fun y s => y = f x ∧ s.M = M ∧ wipeT s.sg vs = W0 ∧ vs.all (plainAt s.sg) = true) : ∀ (m i : Nat) (acc : List W) (s : S),
    i ≤ xs.length → xs.length - i < m → s.M = M → wipeT s.sg vs = W0 → acc.length + (xs.length - i) ≤ sizeLine → (compL src vs g c e m i acc s).sat fun a' s' => a' = acc ++ (xs.drop i).map f ∧ s'.M = M ∧ wipeT s'.sg vs = W0
  | 0, i, acc, s, _, hm, _, _, _ => by omega
  | m + 1, i, acc, s, hi, hm, hM, hW, hl => by
    rw [cl_step]
    have e1 : wipeS vs s = ⟨W0, M⟩ := by rw [← hW, ← hM]; rfl
    rw [e1, hs, osat_some]
    by_cases hx : i < xs.length
    · rw [List.getElem?_eq_getElem hx]
      dsimp only
      refine Out.sat.mono (h _ (List.getElem_mem hx)) fun _ s1 h1 => Out.sat.mono h1 fun b s2 h2 => ?_
      obtain ⟨rfl, h2⟩ := h2
      rw [if_pos rfl]
      refine Out.sat.mono h2 fun y s3 ⟨h3, h4, h5, h6⟩ => ⟨⟨by omega, h6⟩, ?_⟩
      refine Out.sat.mono (cl_map f hs h m (i + 1) (acc ++ [y]) s3 (by omega) (by omega) h4 h5 (by rw [List.length_append, List.length_singleton]; omega)) fun a' s' ⟨k1, k2, k3⟩ => ⟨?_, k2, k3⟩
      rw [k1, h3, List.drop_eq_getElem_cons hx, List.map_cons, List.append_assoc]
      rfl
    · rw [List.getElem?_eq_none (by omega)]
      refine ⟨?_, hM, hW⟩
      rw [List.drop_eq_nil_of_le (by omega)]
      simp
theorem w_glive {vs : List Nat} {g : DG} {c : DB} {e : DW} {f : S → Option (List W)} {s : S} {Q : List W → S → Prop} : (gather vs g c e (.live f) s).sat Q ↔ (compL f vs g c e FUEL 0 [] s).sat Q := Iff.rfl
/-- a loop over a list that stays; I: what stands at each turn -/
theorem fl_inv {src : S → Option (List W)} {g : DG} {b : DS} {P : Po} {xs : List W} (I : S → Prop) (hs : ∀ s, I s → src s = some xs) (turn : ∀ x ∈ xs, ∀ s, I s → (g x s).sat fun _ s => (b s).sat { nx := I, rt := P.rt, bk := P.nx, ct := I }) (fin : ∀ s, I s → P.nx s) :
    ∀ (m i : Nat) (s : S), I s → i ≤ xs.length → xs.length - i < m → (forL src g b m i s).sat P
  | 0, i, s, _, _, h => by omega
  | m + 1, i, s, hI, hi, hm => by
    rw [fl_step, hs s hI, osat_some]
    by_cases hx : i < xs.length
    · rw [List.getElem?_eq_getElem hx]
      refine Out.sat.mono (turn _ (List.getElem_mem hx) s hI) fun _ s1 h1 => Fl.sat.mono h1 (fun s2 h2 => ?_) (fun _ _ h => h) (fun _ h => h) fun s2 h2 => ?_
      · exact fl_inv I hs turn fin m (i + 1) s2 h2 (by omega) (by omega)
      · exact fl_inv I hs turn fin m (i + 1) s2 h2 (by omega) (by omega)
    · rw [List.getElem?_eq_none (by omega)]
      exact fin s hI
/-- a loop over known items; I: what stands ahead of the i-th -/
theorem fs_inv {g : DG} {b : DS} {P : Po} (I : Nat → S → Prop) : ∀ (xs : List W) (i : Nat) (s : S), (∀ (j : Nat) (x : W), xs[j]? = some x → ∀ s, I (i + j) s → (g x s).sat fun _ s => (b s).sat { nx := I (i + j + 1), rt := P.rt, bk := P.nx, ct := I (i + j + 1) }) → I i s → (∀ s, I (i + xs.length) s → P.nx s) → (forS g b xs s).sat P
  | [], i, s, _, hI, fin => by rw [fs_nil]; exact fin s (by simpa using hI)
  | x :: xs, i, s, turn, hI, fin => by
    rw [fs_cons]
    have e : ∀ j, i + (j + 1) = i + 1 + j := fun j => by omega
    have t2 := fun (j : Nat) (y : W) (hy : xs[j]? = some y) => turn (j + 1) y (by simpa using hy)
    have go : ∀ s2, I (i + 1) s2 → (forS g b xs s2).sat P := fun s2 h2 => fs_inv I xs (i + 1) s2 (fun j y hy s hs => by
      have := t2 j y hy s (by rw [e]; exact hs)
      rw [e] at this
      exact this) h2 fun s hs => fin s (by rw [List.length_cons, e]; exact hs)
    exact Out.sat.mono (turn 0 x rfl s hI) fun _ s1 h1 => Fl.sat.mono h1 go (fun _ _ h => h) (fun _ h => h) go
end Rk

/-! Rk29: data small enough to be written. -/
namespace Rk
open PySem PySem.Spec PyProof.Rows L2

mutual
def smD : PyData → Bool
  | .none => true
  | .bool _ => true
  | .int i => decide (i.natAbs < 1000000000000)
  | .list xs => smDs xs
  | .tuple xs => smDs xs
  | _ => false
def smDs : List PyData → Bool
  | [] => true
  | x :: xs => smD x && smDs xs
end
mutual
def szD : PyData → Nat
  | .list xs => szDs xs
  | .tuple xs => szDs xs
  | _ => 0
def szDs : List PyData → Nat
  | [] => 0
  | x :: xs => szD x + 1 + szDs xs
end
theorem log_small {i : Int} (h : i.natAbs < 1000000000000) : i.natAbs.log2 < 41 := by
  by_cases h0 : i.natAbs = 0
  · rw [h0]; decide
  · exact (Nat.log2_lt h0).mpr (Nat.lt_trans h (by decide))
mutual
theorem sm_facts : ∀ d : PyData, smD d = true → PyData.showable d = true ∧ PyData.hasDict d = false ∧ PyData.intsShort 13 d = true ∧ PyData.canLay0 d = true ∧ PyData.weight d ≤ 42 + 43 * szD d
  | .none, _ => ⟨rfl, rfl, rfl, rfl, by simp [PyData.weight]⟩
  | .bool _, _ => ⟨rfl, rfl, rfl, rfl, by simp [PyData.weight]⟩
  | .int i, h => by
    have h : i.natAbs < 1000000000000 := by simpa [smD] using h
    have hl := log_small h
    refine ⟨by simp only [PyData.showable, decide_eq_true_eq]; omega, rfl, by simp only [PyData.intsShort, decide_eq_true_eq]; exact PyData.shown_int_le h, by simp only [PyData.canLay0], ?_⟩
    simp only [PyData.weight]
    split <;> omega
  | .list xs, h => by
    obtain ⟨h1, h2, h3, h4, h5⟩ := sms_facts xs (by simpa only [smD] using h)
    exact ⟨by simpa only [PyData.showable] using h1, by simpa only [PyData.hasDict] using h2, by simpa only [PyData.intsShort] using h3, by simpa only [PyData.canLay0] using h4, by simp only [PyData.weight, szD]; omega⟩
  | .tuple xs, h => by
    obtain ⟨h1, h2, h3, h4, h5⟩ := sms_facts xs (by simpa only [smD] using h)
    exact ⟨by simpa only [PyData.showable] using h1, by simpa only [PyData.hasDict] using h2, by simpa only [PyData.intsShort] using h3, by simpa only [PyData.canLay0] using h4, by simp only [PyData.weight, szD]; omega⟩
  | .str _, h => by simp [smD] at h
  | .dict _, h => by simp [smD] at h
theorem sms_facts : ∀ ds : List PyData, smDs ds = true → PyData.showableAll ds = true ∧ PyData.hasDictAll ds = false ∧ PyData.intsShortAll 13 ds = true ∧ PyData.canLayAll0 ds = true ∧ PyData.weightAll ds ≤ 43 * szDs ds
  | [], _ => ⟨rfl, rfl, rfl, rfl, by simp [PyData.weightAll]⟩
  | d :: ds, h => by
    simp only [smDs, Bool.and_eq_true] at h
    obtain ⟨h1, h2, h3, h4, h5⟩ := sm_facts d h.1
    obtain ⟨k1, k2, k3, k4, k5⟩ := sms_facts ds h.2
    exact ⟨by simp only [PyData.showableAll, h1, k1, Bool.and_self], by simp only [PyData.hasDictAll, h2, k2, Bool.or_self], by simp only [PyData.intsShortAll, h3, k3, Bool.and_self], by simp only [PyData.canLayAll0, h4, k4, Bool.and_self], by simp only [PyData.weightAll, szDs]; omega⟩
end
theorem showD_sm {d : PyData} (h : smD d = true) (hd : d.depth ≤ 64) (hz : szD d ≤ 20000) : showD d = true := by
  obtain ⟨h1, h2, h3, h4, h5⟩ := sm_facts d h
  have hl : PyData.layable0 d = true := by
    unfold PyData.layable0
    simp only [Bool.and_eq_true, decide_eq_true_eq]
    refine ⟨⟨h4, hd⟩, ?_⟩
    have : (2 : Nat) ^ 20 = 1048576 := by decide
    omega
  have hs := PyData.shown_le_of_layable0 hl h3
  unfold showD
  simp only [Bool.and_eq_true, decide_eq_true_eq, Bool.not_eq_true']
  exact ⟨⟨⟨h1, h2⟩, hd⟩, Nat.le_trans hs (by decide)⟩
/-! ### zip, by values -/
def zp (t1 t2 : T) (j1 j2 : Option Nat) (s : S) : Out Src := dzip (fun s => .ok t1 s) (fun s => .ok t2 s) j1 j2 s
theorem w_zip {d1 d2 : DE} {j1 j2 : Option Nat} {s : S} {Q : Src → S → Prop} : (dzip d1 d2 j1 j2 s).sat Q ↔ (d1 s).sat fun t1 s => (d2 s).sat fun t2 s => (zp t1 t2 j1 j2 s).sat Q := by
  show ((d1 s).bind fun t1 s => (d2 s).bind fun t2 s => zp t1 t2 j1 j2 s).sat Q ↔ _
  simp only [sat_bind]
theorem z_tup {xs ys : List W} {j1 j2 : Option Nat} {s : S} {Q : Src → S → Prop} : (zp (.w (.tup xs)) (.w (.tup ys)) j1 j2 s).sat Q ↔ Q (.snap (zipW xs ys)) s := Iff.rfl
theorem z_l {xs ys : List W} {j1 j2 : Option Nat} {s : S} {Q : Src → S → Prop} : (zp (.lst xs) (.lst ys) j1 j2 s).sat Q ↔ Q (.snap (zipW xs ys)) s := Iff.rfl
theorem zip3 {a b c d e f : W} : zipW [a, b, c] [d, e, f] = [.tup [a, d], .tup [b, e], .tup [c, f]] := rfl
/-- repr of what is plain data -/
theorem b_reprT {s : S} {xs : List W} {d : PyData} (e : datOf s (.w (.tup xs)) = some d) (h : showD d = true) : bRepr s [.w (.tup xs)] = some (.w (.str d.shown)) := by
  show (datOf s (.w (.tup xs))).bind (fun d => if showD d then some (T.w (.str d.shown)) else none) = _
  rw [e]
  simp only [Option.bind_some, h, if_true]
/-! ### pots -/
theorem Pot.up {M : List Ob} {i : Nat} {a b : Int} (h : Pot M i a) (hab : a ≤ b) : Pot M i b := by
  obtain ⟨x, y, z, h1, h2, h3, h4, h5, h6⟩ := h
  exact ⟨x, y, z, h1, h2, h3, h4, h5, by omega⟩
theorem Pot.lt {M : List Ob} {i : Nat} {k : Int} (h : Pot M i k) : i < M.length := by
  obtain ⟨x, y, z, h1, _⟩ := h
  exact (List.getElem?_eq_some_iff.mp h1).1
theorem Pot.app {M : List Ob} {i : Nat} {k : Int} {o : Ob} (h : Pot M i k) : Pot (M ++ [o]) i k := by
  have := h.lt
  obtain ⟨x, y, z, h1, h2⟩ := h
  exact ⟨x, y, z, by rw [List.getElem?_append_left this]; exact h1, h2⟩
theorem Pot.oth {M : List Ob} {i j : Nat} {k : Int} {o : Ob} (h : Pot M i k) (hij : i ≠ j) : Pot (M.set j o) i k := by
  obtain ⟨x, y, z, h1, h2⟩ := h
  exact ⟨x, y, z, by rw [List.getElem?_set_ne hij.symm]; exact h1, h2⟩
end Rk

namespace Law
open PySem PySem.Spec PyProof.Rows L2 Rk
def top (i : Nat) : Stmt := PySem.Challenge.pw_allitreaches_k06_whole_cells_of_points.main.body.getD i (.Pass ⟨0, 0, 0, 0⟩)
def f0 : Df := ⟨"law", ["script"], ["script", "place"], top 45, [], []⟩
def f1 : Df := ⟨"_law_cells", ["script", "limit"], ["script", "limit"], top 33, [], []⟩
def f2 : Df := ⟨"_law_pot", ["script", "place"], ["script", "place", "cell", "own", "small"], top 30, [], []⟩
def f3 : Df := ⟨"_law_right", ["pot"], ["pot", "due", "lap", "point", "number", "middle_v", "index", "cells", "one", "other"], top 44, [], []⟩
def f4 : Df := ⟨"_law_drawn_cells", ["pot", "many"], ["pot", "many", "found", "lap", "axis", "cell"], top 43, [], []⟩
def f5 : Df := ⟨"_law_drawn_point", ["pot"], ["pot", "axis"], top 37, [], []⟩
def f6 : Df := ⟨"_law_index", ["number"], ["number", "whole"], top 38, [], []⟩
def f7 : Df := ⟨"_law_is_touching", ["one", "other"], ["one", "other"], top 41, [], []⟩
def f8 : Df := ⟨"_law_middle", ["index"], ["index"], top 39, [], []⟩
def f9 : Df := ⟨"cell_of", ["point"], ["point"], top 22, [], [(0, [("point" : Str)], [0])]⟩
def f10 : Df := ⟨"sample", ["cell"], ["cell"], top 25, [], [(0, [("cell" : Str)], [0])]⟩
def f11 : Df := ⟨"touches", ["one", "other"], ["one", "other"], top 28, [], [(0, [("one" : Str), ("other" : Str)], [0, 1])]⟩
def f12 : Df := ⟨"_law_drawn_cell", ["pot", "low", "high"], ["pot", "low", "high", "axis"], top 42, [], []⟩
def f13 : Df := ⟨"_law_of", ["pot", "some"], ["pot", "some"], top 32, [], []⟩
def f14 : Df := ⟨"_law_take", ["pot", "upto"], ["pot", "upto", "digit", "prime", "blend"], top 31, [], []⟩
def f15 : Df := ⟨"_law_drawn_number", ["pot"], ["pot", "bottom"], top 36, [], []⟩
def f16 : Df := ⟨"_law_is_at_rim", ["one", "other"], ["one", "other", "a", "b"], top 40, [], []⟩
def f17 : Df := ⟨"cell_at", ["point"], ["point", "fraction"], top 21, [], []⟩
def f18 : Df := ⟨"check_point", ["value"], ["value"], top 14, [], []⟩
def f19 : Df := ⟨"check_cell", ["value"], ["value"], top 19, [], []⟩
def f20 : Df := ⟨"sample_of", ["cell"], ["cell", "index"], top 24, [], []⟩
def f21 : Df := ⟨"are_touching", ["one", "other"], ["one", "other"], top 27, [], []⟩
def f22 : Df := ⟨"_law_fraction", ["top", "bottom"], ["top", "bottom", "part"], top 35, [], []⟩
def f23 : Df := ⟨"index_of", ["fraction"], ["fraction", "top", "bottom"], top 20, [], []⟩
def f24 : Df := ⟨"is_point", ["value"], ["value", "part"], top 13, [], []⟩
def f25 : Df := ⟨"is_cell", ["value"], ["value", "index"], top 18, [], []⟩
def f26 : Df := ⟨"middle", ["index"], ["index"], top 23, [], []⟩
def f27 : Df := ⟨"is_at_rim", ["one", "other"], ["one", "other", "here", "there"], top 26, [], []⟩
def f28 : Df := ⟨"_law_common", ["one", "other"], ["one", "other"], top 34, [], []⟩
def f29 : Df := ⟨"is_fraction", ["value"], ["value", "part"], top 10, [], []⟩
def f30 : Df := ⟨"is_tuple", ["value", "least", "most"], ["value", "least", "most"], top 6, [], []⟩
def f31 : Df := ⟨"is_whole", ["value"], ["value"], top 5, [], []⟩
def f32 : Df := ⟨"common", ["one", "other"], ["one", "other"], top 9, [], []⟩
def tab : List Df := [f0, f1, f2, f3, f4, f5, f6, f7, f8, f9, f10, f11, f12, f13, f14, f15, f16, f17, f18, f19, f20, f21, f22, f23, f24, f25, f26, f27, f28, f29, f30, f31, f32]
def gl : List (Str × Gk) := [(("law" : Str), Gk.fn 0), (("_law_cells" : Str), Gk.fn 1), (("_law_pot" : Str), Gk.fn 2), (("_law_right" : Str), Gk.fn 3), (("_law_drawn_cells" : Str), Gk.fn 4), (("_law_drawn_point" : Str), Gk.fn 5), (("_law_index" : Str), Gk.fn 6), (("_law_is_touching" : Str), Gk.fn 7), (("_law_middle" : Str), Gk.fn 8), (("cell_of" : Str), Gk.fn 9), (("sample" : Str), Gk.fn 10), (("touches" : Str), Gk.fn 11), (("_law_drawn_cell" : Str), Gk.fn 12), (("_law_of" : Str), Gk.fn 13), (("_law_take" : Str), Gk.fn 14), (("_law_drawn_number" : Str), Gk.fn 15), (("_law_is_at_rim" : Str), Gk.fn 16), (("cell_at" : Str), Gk.fn 17), (("check_point" : Str), Gk.fn 18), (("check_cell" : Str), Gk.fn 19), (("sample_of" : Str), Gk.fn 20), (("are_touching" : Str), Gk.fn 21), (("_law_fraction" : Str), Gk.fn 22), (("index_of" : Str), Gk.fn 23), (("is_point" : Str), Gk.fn 24), (("is_cell" : Str), Gk.fn 25), (("middle" : Str), Gk.fn 26), (("is_at_rim" : Str), Gk.fn 27), (("_law_common" : Str), Gk.fn 28), (("is_fraction" : Str), Gk.fn 29), (("is_tuple" : Str), Gk.fn 30), (("is_whole" : Str), Gk.fn 31), (("common" : Str), Gk.fn 32), (("abs" : Str), Gk.bi Bi.abs), (("all" : Str), Gk.bi Bi.all), (("bool" : Str), Gk.bi Bi.bool), (("int" : Str), Gk.bi Bi.int), (("isinstance" : Str), Gk.bi Bi.isinstance), (("len" : Str), Gk.bi Bi.len), (("list" : Str), Gk.bi Bi.list), (("max" : Str), Gk.bi Bi.max), (("min" : Str), Gk.bi Bi.min), (("range" : Str), Gk.bi Bi.range), (("repr" : Str), Gk.bi Bi.repr), (("sum" : Str), Gk.bi Bi.sum), (("tuple" : Str), Gk.bi Bi.tuple), (("zip" : Str), Gk.bi Bi.zip), (("AXES" : Str), Gk.con (.int 3)), (("PAIR_cells" : Str), Gk.con (.int 2)), (("PAIR_numbers" : Str), Gk.con (.int 2)), (("TRIPLE" : Str), Gk.con (.int 3))]
def gt : GT := ⟨gl, tab.map Df.sig⟩
/-- law -/
def d0 (O : Orc) : DS :=
  (dseq (dret (dbi bAll [(dcomp (dwalk (dcall (O.fn 1) 2 [(dvar 0), (dcon (.int 2))] []) none) [1] (gnm 1) dyes (dW (dcall (O.fn 3) 1 [(dcall (O.fn 2) 2 [(dvar 0), (dvar 1)] [])] [])))])) dskip)
/-- _law_cells -/
def d1 (O : Orc) : DS :=
  (dseq (dret (dlrg (dr1 (dbi bMax [(dcon (.int 1)), (dbi (fun s ts => if ts.length = 3 then none else bMin s ts) [(dvar 1), (dbi bLen [(dvar 0)])])])))) dskip)
/-- _law_pot -/
def d2 (O : Orc) : DS :=
  (dseq (dset 2 (difx (asb (dcmp .Lt (dvar 1) (dbi bLen [(dvar 0)]))) (dix (dvar 0) (dvar 1)) (dbin .Add (dbin .Add (dbin .Mod (dbi bInt [(dbi bSum [(dsl (dvar 0) dno (dso (dcon (.int 1))))])]) (dcon (.int 1000003))) (dbin .Mult (dcon (.int 1397)) (dvar 1))) (dcon (.int 995))))) (dseq (dset 3 (dbin .Mult (dbin .Mod (dbi bInt [(dbi bAbs [(dvar 2)])]) (dbin .Pow (dbin .Pow (dcon (.int 10)) (dcon (.int 60))) (dcon (.int 5)))) (dbi bInt [(dcmp .GtE (dbi bAbs [(dvar 2)]) (dbin .Pow (dcon (.int 10)) (dcon (.int 18))))]))) (dseq (dset 4 (dbin .Mod (dbi bInt [(dvar 2)]) (dcon (.int 2305843009213693951)))) (dseq (dret (dlst [(dvar 3), (dbin .Mod (dbi bInt [(dbin .Add (dbin .Add (dbin .Mult (dvar 4) (dcon (.int 85529))) (dbin .Mult (dbin .Mult (dcon (.int 9973)) (dvar 1)) (dvar 1))) (dcon (.int 573)))]) (dcon (.int 2305843009213693921))), (dcon (.int 0))])) dskip))))
/-- _law_right -/
def d3 (O : Orc) : DS :=
  (dseq (dset 1 (dtup [(dcon (.int 0)), (dcon (.int 0)), (dcon (.int 0))])) (dseq (dfor (drgI (dr1 (dcon (.int 8)))) (gnm 2) (dseq (dset 3 (dcall (O.fn 5) 1 [(dvar 0)] [])) (dseq (dset 1 (dbi bTuple [(dcomp (dwalk (dvar 3) (some 3)) [4] (gnm 4) dyes (dW (dcall (O.fn 6) 1 [(dvar 4)] [])))])) (dseq (dif (asb (dcmp .NotEq (dbi bRepr [(dcallK (O.fn 9) 1 [] [(dvar 3)] [0] [])]) (dbi bRepr [(dvar 1)]))) (dseq (dret (dcon (.bl false))) dskip) dskip) (dseq (dset 5 (dbi bTuple [(dcomp (dwalk (dvar 1) (some 1)) [6] (gnm 6) dyes (dW (dcall (O.fn 8) 1 [(dvar 6)] [])))])) (dseq (dif (bor (asb (dcmp .NotEq (dbi bRepr [(dcallK (O.fn 10) 1 [] [(dvar 1)] [0] [])]) (dbi bRepr [(dvar 5)]))) (asb (dcmp .NotEq (dbi bRepr [(dcall (O.fn 9) 1 [(dvar 5)] [])]) (dbi bRepr [(dvar 1)])))) (dseq (dret (dcon (.bl false))) dskip) dskip) dskip)))))) (dseq (dset 7 (dbin .Add (dcall (O.fn 4) 2 [(dvar 0), (dcon (.int 10))] []) (dlst [(dvar 1)]))) (dseq (dfor (dwalk (dvar 7) (some 7)) (gnm 8) (dseq (dfor (dwalk (dvar 7) (some 7)) (gnm 9) (dseq (dif (asb (dcmp .NotEq (dbi bRepr [(dcallK (O.fn 11) 2 [] [(dvar 8), (dvar 9)] [0, 1] [])]) (dbi bRepr [(dcall (O.fn 7) 2 [(dvar 8), (dvar 9)] [])]))) (dseq (dret (dcon (.bl false))) dskip) dskip) dskip)) dskip)) (dseq (dret (dcmp .Is (dcall (O.fn 11) 2 [(dvar 1), (dvar 1)] []) (dcon (.bl false)))) dskip)))))
/-- _law_drawn_cells -/
def d4 (O : Orc) : DS :=
  (dseq (dset 2 (dlst [])) (dseq (dfor (drgI (dr1 (dvar 1))) (gnm 3) (dseq (dif (band (asb (dcmp .NotEq (dvar 2) (dlst []))) (asb (dcmp .Gt (dcall (O.fn 14) 2 [(dvar 0), (dcon (.int 3))] []) (dcon (.int 0))))) (dseq (dpar [4, 5] [(dcall (O.fn 14) 2 [(dvar 0), (dcon (.int 3))] []), (dbi bList [(dcall (O.fn 13) 2 [(dvar 0), (dvar 2)] [])])]) (dseq (dasg (dbin .Add (dix (dvar 5) (dvar 4)) (dcall (O.fn 13) 2 [(dvar 0), (dlst [(dun .USub (dcon (.int 1))), (dcon (.int 1))])] [])) (gsb (dvar 5) (dvar 4))) (dseq (dexpr (dmt (dvar 2) [(dbi bTuple [(dvar 5)])] lmApp)) dskip))) (dseq (dexpr (dmt (dvar 2) [(dcall (O.fn 12) 3 [(dvar 0), (dun .USub (dcon (.int 4))), (dcon (.int 5))] [])] lmApp)) dskip)) dskip)) (dseq (dret (dvar 2)) dskip)))
/-- _law_drawn_point -/
def d5 (O : Orc) : DS :=
  (dseq (dret (dbi bTuple [(dcomp (drgI (dr1 (dcon (.int 3)))) [1] (gnm 1) dyes (dW (dcall (O.fn 15) 1 [(dvar 0)] [])))])) dskip)
/-- _law_index -/
def d6 (O : Orc) : DS :=
  (dseq (dset 1 (dbin .FloorDiv (dix (dvar 0) (dcon (.int 0))) (dix (dvar 0) (dcon (.int 1))))) (dseq (dret (difx (asb (dcmp .Eq (dbin .Mult (dvar 1) (dix (dvar 0) (dcon (.int 1)))) (dix (dvar 0) (dcon (.int 0))))) (dbin .Mult (dcon (.int 2)) (dvar 1)) (dbin .Add (dbin .Mult (dcon (.int 2)) (dvar 1)) (dcon (.int 1))))) dskip))
/-- _law_is_touching -/
def d7 (O : Orc) : DS :=
  (dseq (dret (dor (dcall (O.fn 16) 2 [(dvar 0), (dvar 1)] []) (dcall (O.fn 16) 2 [(dvar 1), (dvar 0)] []))) dskip)
/-- _law_middle -/
def d8 (O : Orc) : DS :=
  (dseq (dret (difx (asb (dcmp .Eq (dbin .Mod (dvar 0) (dcon (.int 2))) (dcon (.int 0)))) (dtup [(dbin .FloorDiv (dvar 0) (dcon (.int 2))), (dcon (.int 1))]) (dtup [(dbi bInt [(dvar 0)]), (dcon (.int 2))]))) dskip)
/-- cell_of -/
def d9 (O : Orc) : DS :=
  (dseq (dexpr (dcall (O.fn 18) 1 [(dvar 0)] [])) (dseq (dret (dcall (O.fn 17) 1 [(dvar 0)] [])) dskip))
/-- sample -/
def d10 (O : Orc) : DS :=
  (dseq (dexpr (dcall (O.fn 19) 1 [(dvar 0)] [])) (dseq (dret (dcall (O.fn 20) 1 [(dvar 0)] [])) dskip))
/-- touches -/
def d11 (O : Orc) : DS :=
  (dseq (dexpr (dcall (O.fn 19) 1 [(dvar 0)] [])) (dseq (dexpr (dcall (O.fn 19) 1 [(dvar 1)] [])) (dseq (dret (dcall (O.fn 21) 2 [(dvar 0), (dvar 1)] [])) dskip)))
/-- _law_drawn_cell -/
def d12 (O : Orc) : DS :=
  (dseq (dret (dbi bTuple [(dcomp (drgI (dr1 (dcon (.int 3)))) [3] (gnm 3) dyes (dW (dbi bInt [(dbin .Add (dvar 1) (dcall (O.fn 14) 2 [(dvar 0), (dbin .Add (dbin .Sub (dvar 2) (dvar 1)) (dcon (.int 1)))] []))])))])) dskip)
/-- _law_of -/
def d13 (O : Orc) : DS :=
  (dseq (dret (dix (dvar 1) (dcall (O.fn 14) 2 [(dvar 0), (dbi bLen [(dvar 1)])] []))) dskip)
/-- _law_take -/
def d14 (O : Orc) : DS :=
  (dseq (dif (asb (dcmp .Gt (dix (dvar 0) (dcon (.int 0))) (dcon (.int 0)))) (dseq (dset 2 (dbin .Mod (dbi bInt [(dix (dvar 0) (dcon (.int 0)))]) (dvar 1))) (dseq (dasg (dbin .FloorDiv (dix (dvar 0) (dcon (.int 0))) (dvar 1)) (gsb (dvar 0) (dcon (.int 0)))) (dseq (dret (dvar 2)) dskip))) dskip) (dseq (dasg (dbin .Add (dix (dvar 0) (dcon (.int 2))) (dcon (.int 1))) (gsb (dvar 0) (dcon (.int 2)))) (dseq (dset 3 (dix (dlst [(dcon (.int 2147483647)), (dcon (.int 2147483629)), (dcon (.int 2147483587)), (dcon (.int 2147483579)), (dcon (.int 2147483563))]) (dbin .Mod (dbi bInt [(dix (dvar 0) (dcon (.int 2)))]) (dcon (.int 5))))) (dseq (dset 4 (dbin .Mod (dbi bInt [(dbin .Pow (dbi bInt [(dbin .Add (dbin .Add (dix (dvar 0) (dcon (.int 1))) (dbin .Mult (dbin .Mult (dcon (.int 100155)) (dix (dvar 0) (dcon (.int 2)))) (dix (dvar 0) (dcon (.int 2))))) (dcon (.int 1179)))]) (dcon (.int 3)))]) (dvar 3))) (dseq (dret (dbin .Mod (dbi bInt [(dbin .FloorDiv (dbin .Mult (dvar 4) (dbin .Add (dbin .Mod (dbi bInt [(dvar 4)]) (dcon (.int 10787))) (dbin .Mult (dcon (.int 399)) (dix (dvar 0) (dcon (.int 2)))))) (dcon (.int 251)))]) (dvar 1))) dskip)))))
/-- _law_drawn_number -/
def d15 (O : Orc) : DS :=
  (dseq (dif (asb (dcmp .Eq (dcall (O.fn 14) 2 [(dvar 0), (dcon (.int 2))] []) (dcon (.int 0)))) (dseq (dret (dtup [(dbi bInt [(dbin .Sub (dcall (O.fn 14) 2 [(dvar 0), (dcon (.int 13))] []) (dcon (.int 4)))]), (dcon (.int 1))])) dskip) dskip) (dseq (dset 1 (dcall (O.fn 13) 2 [(dvar 0), (dlst [(dcon (.int 2)), (dcon (.int 3)), (dcon (.int 7)), (dcon (.int 100))])] [])) (dseq (dret (dcall (O.fn 22) 2 [(dbi bInt [(dbin .Sub (dcall (O.fn 14) 2 [(dvar 0), (dbin .Mult (dcon (.int 12)) (dvar 1))] []) (dbin .Mult (dcon (.int 4)) (dvar 1)))]), (dvar 1)] [])) dskip)))
/-- _law_is_at_rim -/
def d16 (O : Orc) : DS :=
  (dseq (dif (bnot (dtru (dbi bAll [(dcomp (dzip (dvar 0) (dvar 1) (some 0) (some 1)) [2, 3] (gtp 2 (gsc (gnm 2) (gsc (gnm 3) gsn))) dyes (dW (dor (dcmp .Eq (dvar 2) (dvar 3)) (dand (dcmp .Eq (dbin .Mod (dvar 2) (dcon (.int 2))) (dcon (.int 0))) (dcmp .Eq (dbi bAbs [(dbin .Sub (dvar 2) (dvar 3))]) (dcon (.int 1)))))))]))) (dseq (dret (dcon (.bl false))) dskip) dskip) (dseq (dret (dcmp .NotEq (dvar 0) (dvar 1))) dskip))
/-- cell_at -/
def d17 (O : Orc) : DS :=
  (dseq (dret (dbi bTuple [(dcomp (dwalk (dvar 0) (some 0)) [1] (gnm 1) dyes (dW (dcall (O.fn 23) 1 [(dvar 1)] [])))])) dskip)
/-- check_point -/
def d18 (O : Orc) : DS :=
  (dseq (dif (bnot (dtru (dcall (O.fn 24) 1 [(dvar 0)] []))) (dseq dnever dskip) dskip) dskip)
/-- check_cell -/
def d19 (O : Orc) : DS :=
  (dseq (dif (bnot (dtru (dcall (O.fn 25) 1 [(dvar 0)] []))) (dseq dnever dskip) dskip) dskip)
/-- sample_of -/
def d20 (O : Orc) : DS :=
  (dseq (dret (dbi bTuple [(dcomp (dwalk (dvar 0) (some 0)) [1] (gnm 1) dyes (dW (dcall (O.fn 26) 1 [(dvar 1)] [])))])) dskip)
/-- are_touching -/
def d21 (O : Orc) : DS :=
  (dseq (dret (dor (dcall (O.fn 27) 2 [(dvar 0), (dvar 1)] []) (dcall (O.fn 27) 2 [(dvar 1), (dvar 0)] []))) dskip)
/-- _law_fraction -/
def d22 (O : Orc) : DS :=
  (dseq (dset 2 (dcall (O.fn 28) 2 [(dvar 0), (dvar 1)] [])) (dseq (dret (dtup [(dbin .FloorDiv (dvar 0) (dvar 2)), (dbin .FloorDiv (dvar 1) (dvar 2))])) dskip))
/-- index_of -/
def d23 (O : Orc) : DS :=
  (dseq (dasg (dvar 0) (gtp 2 (gsc (gnm 1) (gsc (gnm 2) gsn)))) (dseq (dret (difx (asb (dcmp .Eq (dvar 2) (dcon (.int 1)))) (dbin .Mult (dcon (.int 2)) (dvar 1)) (dbin .Add (dbin .Mult (dcon (.int 2)) (dbin .FloorDiv (dvar 1) (dvar 2))) (dcon (.int 1))))) dskip))
/-- is_point -/
def d24 (O : Orc) : DS :=
  (dseq (dret (dand (dcall (O.fn 30) 3 [(dvar 0), (dcon (.int 3)), (dcon (.int 3))] []) (dbi bAll [(dcomp (dwalk (dvar 0) (some 0)) [1] (gnm 1) dyes (dW (dcall (O.fn 29) 1 [(dvar 1)] [])))]))) dskip)
/-- is_cell -/
def d25 (O : Orc) : DS :=
  (dseq (dret (dand (dcall (O.fn 30) 3 [(dvar 0), (dcon (.int 3)), (dcon (.int 3))] []) (dbi bAll [(dcomp (dwalk (dvar 0) (some 0)) [1] (gnm 1) dyes (dW (dcall (O.fn 31) 1 [(dvar 1)] [])))]))) dskip)
/-- middle -/
def d26 (O : Orc) : DS :=
  (dseq (dret (difx (asb (dcmp .Eq (dbin .Mod (dvar 0) (dcon (.int 2))) (dcon (.int 0)))) (dtup [(dbin .FloorDiv (dvar 0) (dcon (.int 2))), (dcon (.int 1))]) (dtup [(dvar 0), (dcon (.int 2))]))) dskip)
/-- is_at_rim -/
def d27 (O : Orc) : DS :=
  (dseq (dif (asb (dcmp .Eq (dvar 0) (dvar 1))) (dseq (dret (dcon (.bl false))) dskip) dskip) (dseq (dret (dbi bAll [(dcomp (dzip (dvar 0) (dvar 1) (some 0) (some 1)) [2, 3] (gtp 2 (gsc (gnm 2) (gsc (gnm 3) gsn))) dyes (dW (dor (dcmp .Eq (dvar 2) (dvar 3)) (dand (dcmp .Eq (dbin .Mod (dvar 2) (dcon (.int 2))) (dcon (.int 0))) (dcmp .Eq (dbi bAbs [(dbin .Sub (dvar 2) (dvar 3))]) (dcon (.int 1)))))))])) dskip))
/-- _law_common -/
def d28 (O : Orc) : DS :=
  (dseq (dpar [0, 1] [(dbi bAbs [(dvar 0)]), (dbi bAbs [(dvar 1)])]) (dseq (dwhile (asb (dcmp .NotEq (dvar 1) (dcon (.int 0)))) (dseq (dpar [0, 1] [(dvar 1), (dbin .Mod (dbi bInt [(dvar 0)]) (dvar 1))]) dskip)) (dseq (dret (dvar 0)) dskip)))
/-- is_fraction -/
def d29 (O : Orc) : DS :=
  (dseq (dif (bor (bnot (dtru (dcall (O.fn 30) 3 [(dvar 0), (dcon (.int 2)), (dcon (.int 2))] []))) (bnot (dtru (dbi bAll [(dcomp (dwalk (dvar 0) (some 0)) [1] (gnm 1) dyes (dW (dcall (O.fn 31) 1 [(dvar 1)] [])))])))) (dseq (dret (dcon (.bl false))) dskip) dskip) (dseq (dret (dand (dcmp .GtE (dix (dvar 0) (dcon (.int 1))) (dcon (.int 1))) (dcmp .Eq (dcall (O.fn 32) 2 [(dix (dvar 0) (dcon (.int 0))), (dix (dvar 0) (dcon (.int 1)))] []) (dcon (.int 1))))) dskip))
/-- is_tuple -/
def d30 (O : Orc) : DS :=
  (dseq (dret (dand (dbi bIsi [(dvar 0), (dcon (.ty "tuple"))]) (dand (dcmp .LtE (dvar 1) (dbi bLen [(dvar 0)])) (dor (dcmp .Is (dvar 2) (dcon .non)) (dcmp .LtE (dbi bLen [(dvar 0)]) (dvar 2)))))) dskip)
/-- is_whole -/
def d31 (O : Orc) : DS :=
  (dseq (dret (dand (dbi bIsi [(dvar 0), (dcon (.ty "int"))]) (dnot (dbi bIsi [(dvar 0), (dcon (.ty "bool"))])))) dskip)
/-- common -/
def d32 (O : Orc) : DS :=
  (dseq (dpar [0, 1] [(dbi bAbs [(dvar 0)]), (dbi bAbs [(dvar 1)])]) (dseq (dwhile (asb (dcmp .NotEq (dvar 1) (dcon (.int 0)))) (dseq (dpar [0, 1] [(dvar 1), (dbin .Mod (dvar 0) (dvar 1))]) dskip)) (dseq (dret (dvar 0)) dskip)))
theorem e0 (O : Orc) : (body O gt f0.N f0.st).d = d0 O := by kernel_rfl
theorem e1 (O : Orc) : (body O gt f1.N f1.st).d = d1 O := by kernel_rfl
theorem e2 (O : Orc) : (body O gt f2.N f2.st).d = d2 O := by kernel_rfl
theorem e3 (O : Orc) : (body O gt f3.N f3.st).d = d3 O := by kernel_rfl
theorem e4 (O : Orc) : (body O gt f4.N f4.st).d = d4 O := by kernel_rfl
theorem e5 (O : Orc) : (body O gt f5.N f5.st).d = d5 O := by kernel_rfl
theorem e6 (O : Orc) : (body O gt f6.N f6.st).d = d6 O := by kernel_rfl
theorem e7 (O : Orc) : (body O gt f7.N f7.st).d = d7 O := by kernel_rfl
theorem e8 (O : Orc) : (body O gt f8.N f8.st).d = d8 O := by kernel_rfl
theorem e9 (O : Orc) : (body O gt f9.N f9.st).d = d9 O := by kernel_rfl
theorem e10 (O : Orc) : (body O gt f10.N f10.st).d = d10 O := by kernel_rfl
theorem e11 (O : Orc) : (body O gt f11.N f11.st).d = d11 O := by kernel_rfl
theorem e12 (O : Orc) : (body O gt f12.N f12.st).d = d12 O := by kernel_rfl
theorem e13 (O : Orc) : (body O gt f13.N f13.st).d = d13 O := by kernel_rfl
theorem e14 (O : Orc) : (body O gt f14.N f14.st).d = d14 O := by kernel_rfl
theorem e15 (O : Orc) : (body O gt f15.N f15.st).d = d15 O := by kernel_rfl
theorem e16 (O : Orc) : (body O gt f16.N f16.st).d = d16 O := by kernel_rfl
theorem e17 (O : Orc) : (body O gt f17.N f17.st).d = d17 O := by kernel_rfl
theorem e18 (O : Orc) : (body O gt f18.N f18.st).d = d18 O := by kernel_rfl
theorem e19 (O : Orc) : (body O gt f19.N f19.st).d = d19 O := by kernel_rfl
theorem e20 (O : Orc) : (body O gt f20.N f20.st).d = d20 O := by kernel_rfl
theorem e21 (O : Orc) : (body O gt f21.N f21.st).d = d21 O := by kernel_rfl
theorem e22 (O : Orc) : (body O gt f22.N f22.st).d = d22 O := by kernel_rfl
theorem e23 (O : Orc) : (body O gt f23.N f23.st).d = d23 O := by kernel_rfl
theorem e24 (O : Orc) : (body O gt f24.N f24.st).d = d24 O := by kernel_rfl
theorem e25 (O : Orc) : (body O gt f25.N f25.st).d = d25 O := by kernel_rfl
theorem e26 (O : Orc) : (body O gt f26.N f26.st).d = d26 O := by kernel_rfl
theorem e27 (O : Orc) : (body O gt f27.N f27.st).d = d27 O := by kernel_rfl
theorem e28 (O : Orc) : (body O gt f28.N f28.st).d = d28 O := by kernel_rfl
theorem e29 (O : Orc) : (body O gt f29.N f29.st).d = d29 O := by kernel_rfl
theorem e30 (O : Orc) : (body O gt f30.N f30.st).d = d30 O := by kernel_rfl
theorem e31 (O : Orc) : (body O gt f31.N f31.st).d = d31 O := by kernel_rfl
theorem e32 (O : Orc) : (body O gt f32.N f32.st).d = d32 O := by kernel_rfl
@[irreducible] def ob (n : Nat) : Orc := orc tab gt n
theorem r0 (n : Nat) (ts : List T) (M : List Ob) : (ob (n + 1)).fn 0 ts M = runB (d0 (ob n)) 2 ts M := by unfold ob; exact orc_fn (D := f0) rfl e0 ts M
theorem r1 (n : Nat) (ts : List T) (M : List Ob) : (ob (n + 1)).fn 1 ts M = runB (d1 (ob n)) 2 ts M := by unfold ob; exact orc_fn (D := f1) rfl e1 ts M
theorem r2 (n : Nat) (ts : List T) (M : List Ob) : (ob (n + 1)).fn 2 ts M = runB (d2 (ob n)) 5 ts M := by unfold ob; exact orc_fn (D := f2) rfl e2 ts M
theorem r3 (n : Nat) (ts : List T) (M : List Ob) : (ob (n + 1)).fn 3 ts M = runB (d3 (ob n)) 10 ts M := by unfold ob; exact orc_fn (D := f3) rfl e3 ts M
theorem r4 (n : Nat) (ts : List T) (M : List Ob) : (ob (n + 1)).fn 4 ts M = runB (d4 (ob n)) 6 ts M := by unfold ob; exact orc_fn (D := f4) rfl e4 ts M
theorem r5 (n : Nat) (ts : List T) (M : List Ob) : (ob (n + 1)).fn 5 ts M = runB (d5 (ob n)) 2 ts M := by unfold ob; exact orc_fn (D := f5) rfl e5 ts M
theorem r6 (n : Nat) (ts : List T) (M : List Ob) : (ob (n + 1)).fn 6 ts M = runB (d6 (ob n)) 2 ts M := by unfold ob; exact orc_fn (D := f6) rfl e6 ts M
theorem r7 (n : Nat) (ts : List T) (M : List Ob) : (ob (n + 1)).fn 7 ts M = runB (d7 (ob n)) 2 ts M := by unfold ob; exact orc_fn (D := f7) rfl e7 ts M
theorem r8 (n : Nat) (ts : List T) (M : List Ob) : (ob (n + 1)).fn 8 ts M = runB (d8 (ob n)) 1 ts M := by unfold ob; exact orc_fn (D := f8) rfl e8 ts M
theorem r9 (n : Nat) (ts : List T) (M : List Ob) : (ob (n + 1)).fn 9 ts M = runB (d9 (ob n)) 1 ts M := by unfold ob; exact orc_fn (D := f9) rfl e9 ts M
theorem r10 (n : Nat) (ts : List T) (M : List Ob) : (ob (n + 1)).fn 10 ts M = runB (d10 (ob n)) 1 ts M := by unfold ob; exact orc_fn (D := f10) rfl e10 ts M
theorem r11 (n : Nat) (ts : List T) (M : List Ob) : (ob (n + 1)).fn 11 ts M = runB (d11 (ob n)) 2 ts M := by unfold ob; exact orc_fn (D := f11) rfl e11 ts M
theorem r12 (n : Nat) (ts : List T) (M : List Ob) : (ob (n + 1)).fn 12 ts M = runB (d12 (ob n)) 4 ts M := by unfold ob; exact orc_fn (D := f12) rfl e12 ts M
theorem r13 (n : Nat) (ts : List T) (M : List Ob) : (ob (n + 1)).fn 13 ts M = runB (d13 (ob n)) 2 ts M := by unfold ob; exact orc_fn (D := f13) rfl e13 ts M
theorem r14 (n : Nat) (ts : List T) (M : List Ob) : (ob (n + 1)).fn 14 ts M = runB (d14 (ob n)) 5 ts M := by unfold ob; exact orc_fn (D := f14) rfl e14 ts M
theorem r15 (n : Nat) (ts : List T) (M : List Ob) : (ob (n + 1)).fn 15 ts M = runB (d15 (ob n)) 2 ts M := by unfold ob; exact orc_fn (D := f15) rfl e15 ts M
theorem r16 (n : Nat) (ts : List T) (M : List Ob) : (ob (n + 1)).fn 16 ts M = runB (d16 (ob n)) 4 ts M := by unfold ob; exact orc_fn (D := f16) rfl e16 ts M
theorem r17 (n : Nat) (ts : List T) (M : List Ob) : (ob (n + 1)).fn 17 ts M = runB (d17 (ob n)) 2 ts M := by unfold ob; exact orc_fn (D := f17) rfl e17 ts M
theorem r18 (n : Nat) (ts : List T) (M : List Ob) : (ob (n + 1)).fn 18 ts M = runB (d18 (ob n)) 1 ts M := by unfold ob; exact orc_fn (D := f18) rfl e18 ts M
theorem r19 (n : Nat) (ts : List T) (M : List Ob) : (ob (n + 1)).fn 19 ts M = runB (d19 (ob n)) 1 ts M := by unfold ob; exact orc_fn (D := f19) rfl e19 ts M
theorem r20 (n : Nat) (ts : List T) (M : List Ob) : (ob (n + 1)).fn 20 ts M = runB (d20 (ob n)) 2 ts M := by unfold ob; exact orc_fn (D := f20) rfl e20 ts M
theorem r21 (n : Nat) (ts : List T) (M : List Ob) : (ob (n + 1)).fn 21 ts M = runB (d21 (ob n)) 2 ts M := by unfold ob; exact orc_fn (D := f21) rfl e21 ts M
theorem r22 (n : Nat) (ts : List T) (M : List Ob) : (ob (n + 1)).fn 22 ts M = runB (d22 (ob n)) 3 ts M := by unfold ob; exact orc_fn (D := f22) rfl e22 ts M
theorem r23 (n : Nat) (ts : List T) (M : List Ob) : (ob (n + 1)).fn 23 ts M = runB (d23 (ob n)) 3 ts M := by unfold ob; exact orc_fn (D := f23) rfl e23 ts M
theorem r24 (n : Nat) (ts : List T) (M : List Ob) : (ob (n + 1)).fn 24 ts M = runB (d24 (ob n)) 2 ts M := by unfold ob; exact orc_fn (D := f24) rfl e24 ts M
theorem r25 (n : Nat) (ts : List T) (M : List Ob) : (ob (n + 1)).fn 25 ts M = runB (d25 (ob n)) 2 ts M := by unfold ob; exact orc_fn (D := f25) rfl e25 ts M
theorem r26 (n : Nat) (ts : List T) (M : List Ob) : (ob (n + 1)).fn 26 ts M = runB (d26 (ob n)) 1 ts M := by unfold ob; exact orc_fn (D := f26) rfl e26 ts M
theorem r27 (n : Nat) (ts : List T) (M : List Ob) : (ob (n + 1)).fn 27 ts M = runB (d27 (ob n)) 4 ts M := by unfold ob; exact orc_fn (D := f27) rfl e27 ts M
theorem r28 (n : Nat) (ts : List T) (M : List Ob) : (ob (n + 1)).fn 28 ts M = runB (d28 (ob n)) 2 ts M := by unfold ob; exact orc_fn (D := f28) rfl e28 ts M
theorem r29 (n : Nat) (ts : List T) (M : List Ob) : (ob (n + 1)).fn 29 ts M = runB (d29 (ob n)) 2 ts M := by unfold ob; exact orc_fn (D := f29) rfl e29 ts M
theorem r30 (n : Nat) (ts : List T) (M : List Ob) : (ob (n + 1)).fn 30 ts M = runB (d30 (ob n)) 3 ts M := by unfold ob; exact orc_fn (D := f30) rfl e30 ts M
theorem r31 (n : Nat) (ts : List T) (M : List Ob) : (ob (n + 1)).fn 31 ts M = runB (d31 (ob n)) 1 ts M := by unfold ob; exact orc_fn (D := f31) rfl e31 ts M
theorem r32 (n : Nat) (ts : List T) (M : List Ob) : (ob (n + 1)).fn 32 ts M = runB (d32 (ob n)) 2 ts M := by unfold ob; exact orc_fn (D := f32) rfl e32 ts M
theorem q0 : StOk f0 := ⟨⟨rfl, rfl, rfl, by decide +kernel, rfl, by decide +kernel, by decide +kernel⟩, by decide +kernel, rfl, fun _ _ _ _ _ _ us hl => match us, hl with | [_], _ => rfl, trivial⟩
theorem q1 : StOk f1 := ⟨⟨rfl, rfl, rfl, by decide +kernel, rfl, by decide +kernel, by decide +kernel⟩, by decide +kernel, rfl, fun _ _ _ _ _ _ us hl => match us, hl with | [_, _], _ => rfl, trivial⟩
theorem q2 : StOk f2 := ⟨⟨rfl, rfl, rfl, by decide +kernel, rfl, by decide +kernel, by decide +kernel⟩, by decide +kernel, rfl, fun _ _ _ _ _ _ us hl => match us, hl with | [_, _], _ => rfl, trivial⟩
theorem q3 : StOk f3 := ⟨⟨rfl, rfl, rfl, by decide +kernel, rfl, by decide +kernel, by decide +kernel⟩, by decide +kernel, rfl, fun _ _ _ _ _ _ us hl => match us, hl with | [_], _ => rfl, trivial⟩
theorem q4 : StOk f4 := ⟨⟨rfl, rfl, rfl, by decide +kernel, rfl, by decide +kernel, by decide +kernel⟩, by decide +kernel, rfl, fun _ _ _ _ _ _ us hl => match us, hl with | [_, _], _ => rfl, trivial⟩
theorem q5 : StOk f5 := ⟨⟨rfl, rfl, rfl, by decide +kernel, rfl, by decide +kernel, by decide +kernel⟩, by decide +kernel, rfl, fun _ _ _ _ _ _ us hl => match us, hl with | [_], _ => rfl, trivial⟩
theorem q6 : StOk f6 := ⟨⟨rfl, rfl, rfl, by decide +kernel, rfl, by decide +kernel, by decide +kernel⟩, by decide +kernel, rfl, fun _ _ _ _ _ _ us hl => match us, hl with | [_], _ => rfl, trivial⟩
theorem q7 : StOk f7 := ⟨⟨rfl, rfl, rfl, by decide +kernel, rfl, by decide +kernel, by decide +kernel⟩, by decide +kernel, rfl, fun _ _ _ _ _ _ us hl => match us, hl with | [_, _], _ => rfl, trivial⟩
theorem q8 : StOk f8 := ⟨⟨rfl, rfl, rfl, by decide +kernel, rfl, by decide +kernel, by decide +kernel⟩, by decide +kernel, rfl, fun _ _ _ _ _ _ us hl => match us, hl with | [_], _ => rfl, trivial⟩
theorem q9 : StOk f9 := ⟨⟨rfl, rfl, rfl, by decide +kernel, rfl, by decide +kernel, by decide +kernel⟩, by decide +kernel, rfl, fun _ _ _ _ _ _ us hl => match us, hl with | [_], _ => rfl, ⟨fun _ _ _ _ _ _ us ws hu hw => match us, ws, hu, hw with | [], [_], _, _ => rfl, trivial⟩⟩
theorem q10 : StOk f10 := ⟨⟨rfl, rfl, rfl, by decide +kernel, rfl, by decide +kernel, by decide +kernel⟩, by decide +kernel, rfl, fun _ _ _ _ _ _ us hl => match us, hl with | [_], _ => rfl, ⟨fun _ _ _ _ _ _ us ws hu hw => match us, ws, hu, hw with | [], [_], _, _ => rfl, trivial⟩⟩
theorem q11 : StOk f11 := ⟨⟨rfl, rfl, rfl, by decide +kernel, rfl, by decide +kernel, by decide +kernel⟩, by decide +kernel, rfl, fun _ _ _ _ _ _ us hl => match us, hl with | [_, _], _ => rfl, ⟨fun _ _ _ _ _ _ us ws hu hw => match us, ws, hu, hw with | [], [_, _], _, _ => rfl, trivial⟩⟩
theorem q12 : StOk f12 := ⟨⟨rfl, rfl, rfl, by decide +kernel, rfl, by decide +kernel, by decide +kernel⟩, by decide +kernel, rfl, fun _ _ _ _ _ _ us hl => match us, hl with | [_, _, _], _ => rfl, trivial⟩
theorem q13 : StOk f13 := ⟨⟨rfl, rfl, rfl, by decide +kernel, rfl, by decide +kernel, by decide +kernel⟩, by decide +kernel, rfl, fun _ _ _ _ _ _ us hl => match us, hl with | [_, _], _ => rfl, trivial⟩
theorem q14 : StOk f14 := ⟨⟨rfl, rfl, rfl, by decide +kernel, rfl, by decide +kernel, by decide +kernel⟩, by decide +kernel, rfl, fun _ _ _ _ _ _ us hl => match us, hl with | [_, _], _ => rfl, trivial⟩
theorem q15 : StOk f15 := ⟨⟨rfl, rfl, rfl, by decide +kernel, rfl, by decide +kernel, by decide +kernel⟩, by decide +kernel, rfl, fun _ _ _ _ _ _ us hl => match us, hl with | [_], _ => rfl, trivial⟩
theorem q16 : StOk f16 := ⟨⟨rfl, rfl, rfl, by decide +kernel, rfl, by decide +kernel, by decide +kernel⟩, by decide +kernel, rfl, fun _ _ _ _ _ _ us hl => match us, hl with | [_, _], _ => rfl, trivial⟩
theorem q17 : StOk f17 := ⟨⟨rfl, rfl, rfl, by decide +kernel, rfl, by decide +kernel, by decide +kernel⟩, by decide +kernel, rfl, fun _ _ _ _ _ _ us hl => match us, hl with | [_], _ => rfl, trivial⟩
theorem q18 : StOk f18 := ⟨⟨rfl, rfl, rfl, by decide +kernel, rfl, by decide +kernel, by decide +kernel⟩, by decide +kernel, rfl, fun _ _ _ _ _ _ us hl => match us, hl with | [_], _ => rfl, trivial⟩
theorem q19 : StOk f19 := ⟨⟨rfl, rfl, rfl, by decide +kernel, rfl, by decide +kernel, by decide +kernel⟩, by decide +kernel, rfl, fun _ _ _ _ _ _ us hl => match us, hl with | [_], _ => rfl, trivial⟩
theorem q20 : StOk f20 := ⟨⟨rfl, rfl, rfl, by decide +kernel, rfl, by decide +kernel, by decide +kernel⟩, by decide +kernel, rfl, fun _ _ _ _ _ _ us hl => match us, hl with | [_], _ => rfl, trivial⟩
theorem q21 : StOk f21 := ⟨⟨rfl, rfl, rfl, by decide +kernel, rfl, by decide +kernel, by decide +kernel⟩, by decide +kernel, rfl, fun _ _ _ _ _ _ us hl => match us, hl with | [_, _], _ => rfl, trivial⟩
theorem q22 : StOk f22 := ⟨⟨rfl, rfl, rfl, by decide +kernel, rfl, by decide +kernel, by decide +kernel⟩, by decide +kernel, rfl, fun _ _ _ _ _ _ us hl => match us, hl with | [_, _], _ => rfl, trivial⟩
theorem q23 : StOk f23 := ⟨⟨rfl, rfl, rfl, by decide +kernel, rfl, by decide +kernel, by decide +kernel⟩, by decide +kernel, rfl, fun _ _ _ _ _ _ us hl => match us, hl with | [_], _ => rfl, trivial⟩
theorem q24 : StOk f24 := ⟨⟨rfl, rfl, rfl, by decide +kernel, rfl, by decide +kernel, by decide +kernel⟩, by decide +kernel, rfl, fun _ _ _ _ _ _ us hl => match us, hl with | [_], _ => rfl, trivial⟩
theorem q25 : StOk f25 := ⟨⟨rfl, rfl, rfl, by decide +kernel, rfl, by decide +kernel, by decide +kernel⟩, by decide +kernel, rfl, fun _ _ _ _ _ _ us hl => match us, hl with | [_], _ => rfl, trivial⟩
theorem q26 : StOk f26 := ⟨⟨rfl, rfl, rfl, by decide +kernel, rfl, by decide +kernel, by decide +kernel⟩, by decide +kernel, rfl, fun _ _ _ _ _ _ us hl => match us, hl with | [_], _ => rfl, trivial⟩
theorem q27 : StOk f27 := ⟨⟨rfl, rfl, rfl, by decide +kernel, rfl, by decide +kernel, by decide +kernel⟩, by decide +kernel, rfl, fun _ _ _ _ _ _ us hl => match us, hl with | [_, _], _ => rfl, trivial⟩
theorem q28 : StOk f28 := ⟨⟨rfl, rfl, rfl, by decide +kernel, rfl, by decide +kernel, by decide +kernel⟩, by decide +kernel, rfl, fun _ _ _ _ _ _ us hl => match us, hl with | [_, _], _ => rfl, trivial⟩
theorem q29 : StOk f29 := ⟨⟨rfl, rfl, rfl, by decide +kernel, rfl, by decide +kernel, by decide +kernel⟩, by decide +kernel, rfl, fun _ _ _ _ _ _ us hl => match us, hl with | [_], _ => rfl, trivial⟩
theorem q30 : StOk f30 := ⟨⟨rfl, rfl, rfl, by decide +kernel, rfl, by decide +kernel, by decide +kernel⟩, by decide +kernel, rfl, fun _ _ _ _ _ _ us hl => match us, hl with | [_, _, _], _ => rfl, trivial⟩
theorem q31 : StOk f31 := ⟨⟨rfl, rfl, rfl, by decide +kernel, rfl, by decide +kernel, by decide +kernel⟩, by decide +kernel, rfl, fun _ _ _ _ _ _ us hl => match us, hl with | [_], _ => rfl, trivial⟩
theorem q32 : StOk f32 := ⟨⟨rfl, rfl, rfl, by decide +kernel, rfl, by decide +kernel, by decide +kernel⟩, by decide +kernel, rfl, fun _ _ _ _ _ _ us hl => match us, hl with | [_, _], _ => rfl, trivial⟩
theorem mk {K : PySem.W.Frag} {h : Heap} {mg : Str → Option Value} (KX : K.In h) (GN : h.Ns mainGlobals mg) {g0 : Addr} {oc0 kV0 dc0 pm0 cd0 ct0 : Value} {od0 an0 : Option Addr} {sl0 : Array (Option Value)} {g1 : Addr} {oc1 kV1 dc1 pm1 cd1 ct1 : Value} {od1 an1 : Option Addr} {sl1 : Array (Option Value)} {g2 : Addr} {oc2 kV2 dc2 pm2 cd2 ct2 : Value} {od2 an2 : Option Addr} {sl2 : Array (Option Value)} {g3 : Addr} {oc3 kV3 dc3 pm3 cd3 ct3 : Value} {od3 an3 : Option Addr} {sl3 : Array (Option Value)} {g4 : Addr} {oc4 kV4 dc4 pm4 cd4 ct4 : Value} {od4 an4 : Option Addr} {sl4 : Array (Option Value)} {g5 : Addr} {oc5 kV5 dc5 pm5 cd5 ct5 : Value} {od5 an5 : Option Addr} {sl5 : Array (Option Value)} {g6 : Addr} {oc6 kV6 dc6 pm6 cd6 ct6 : Value} {od6 an6 : Option Addr} {sl6 : Array (Option Value)} {g7 : Addr} {oc7 kV7 dc7 pm7 cd7 ct7 : Value} {od7 an7 : Option Addr} {sl7 : Array (Option Value)} {g8 : Addr} {oc8 kV8 dc8 pm8 cd8 ct8 : Value} {od8 an8 : Option Addr} {sl8 : Array (Option Value)} {g9 : Addr} {oc9 kV9 dc9 pm9 cd9 ct9 : Value} {od9 an9 : Option Addr} {sl9 : Array (Option Value)} {g10 : Addr} {oc10 kV10 dc10 pm10 cd10 ct10 : Value} {od10 an10 : Option Addr} {sl10 : Array (Option Value)} {g11 : Addr} {oc11 kV11 dc11 pm11 cd11 ct11 : Value} {od11 an11 : Option Addr} {sl11 : Array (Option Value)} {g12 : Addr} {oc12 kV12 dc12 pm12 cd12 ct12 : Value} {od12 an12 : Option Addr} {sl12 : Array (Option Value)} {g13 : Addr} {oc13 kV13 dc13 pm13 cd13 ct13 : Value} {od13 an13 : Option Addr} {sl13 : Array (Option Value)} {g14 : Addr} {oc14 kV14 dc14 pm14 cd14 ct14 : Value} {od14 an14 : Option Addr} {sl14 : Array (Option Value)} {g15 : Addr} {oc15 kV15 dc15 pm15 cd15 ct15 : Value} {od15 an15 : Option Addr} {sl15 : Array (Option Value)} {g16 : Addr} {oc16 kV16 dc16 pm16 cd16 ct16 : Value} {od16 an16 : Option Addr} {sl16 : Array (Option Value)} {g17 : Addr} {oc17 kV17 dc17 pm17 cd17 ct17 : Value} {od17 an17 : Option Addr} {sl17 : Array (Option Value)} {g18 : Addr} {oc18 kV18 dc18 pm18 cd18 ct18 : Value} {od18 an18 : Option Addr} {sl18 : Array (Option Value)} {g19 : Addr} {oc19 kV19 dc19 pm19 cd19 ct19 : Value} {od19 an19 : Option Addr} {sl19 : Array (Option Value)} {g20 : Addr} {oc20 kV20 dc20 pm20 cd20 ct20 : Value} {od20 an20 : Option Addr} {sl20 : Array (Option Value)} {g21 : Addr} {oc21 kV21 dc21 pm21 cd21 ct21 : Value} {od21 an21 : Option Addr} {sl21 : Array (Option Value)} {g22 : Addr} {oc22 kV22 dc22 pm22 cd22 ct22 : Value} {od22 an22 : Option Addr} {sl22 : Array (Option Value)} {g23 : Addr} {oc23 kV23 dc23 pm23 cd23 ct23 : Value} {od23 an23 : Option Addr} {sl23 : Array (Option Value)} {g24 : Addr} {oc24 kV24 dc24 pm24 cd24 ct24 : Value} {od24 an24 : Option Addr} {sl24 : Array (Option Value)} {g25 : Addr} {oc25 kV25 dc25 pm25 cd25 ct25 : Value} {od25 an25 : Option Addr} {sl25 : Array (Option Value)} {g26 : Addr} {oc26 kV26 dc26 pm26 cd26 ct26 : Value} {od26 an26 : Option Addr} {sl26 : Array (Option Value)} {g27 : Addr} {oc27 kV27 dc27 pm27 cd27 ct27 : Value} {od27 an27 : Option Addr} {sl27 : Array (Option Value)} {g28 : Addr} {oc28 kV28 dc28 pm28 cd28 ct28 : Value} {od28 an28 : Option Addr} {sl28 : Array (Option Value)} {g29 : Addr} {oc29 kV29 dc29 pm29 cd29 ct29 : Value} {od29 an29 : Option Addr} {sl29 : Array (Option Value)} {g30 : Addr} {oc30 kV30 dc30 pm30 cd30 ct30 : Value} {od30 an30 : Option Addr} {sl30 : Array (Option Value)} {g31 : Addr} {oc31 kV31 dc31 pm31 cd31 ct31 : Value} {od31 an31 : Option Addr} {sl31 : Array (Option Value)} {g32 : Addr} {oc32 kV32 dc32 pm32 cd32 ct32 : Value} {od32 an32 : Option Addr} {sl32 : Array (Option Value)} {tAXES : Tok} {tPAIR_cells : Tok} {tPAIR_numbers : Tok} {tTRIPLE : Tok}
    (a0 : PySem.W.nsIn K mainGlobals f0.x = some (some (.ref g0)))
    (l0 : K.lookup g0 = some ⟨oc0, od0, .func (PySem.W.fnOf f0.x f0.x (defArgs f0.st) (defBody f0.st) (defScope f0.st) .none kV0 dc0 pm0 an0 cd0 ct0), sl0⟩)
    (c0 : PySem.W.codeIn K cd0 f0.x = true)
    (k0 : PySem.W.keepIn K (.ref g0) = true)
    (a1 : PySem.W.nsIn K mainGlobals f1.x = some (some (.ref g1)))
    (l1 : K.lookup g1 = some ⟨oc1, od1, .func (PySem.W.fnOf f1.x f1.x (defArgs f1.st) (defBody f1.st) (defScope f1.st) .none kV1 dc1 pm1 an1 cd1 ct1), sl1⟩)
    (c1 : PySem.W.codeIn K cd1 f1.x = true)
    (k1 : PySem.W.keepIn K (.ref g1) = true)
    (a2 : PySem.W.nsIn K mainGlobals f2.x = some (some (.ref g2)))
    (l2 : K.lookup g2 = some ⟨oc2, od2, .func (PySem.W.fnOf f2.x f2.x (defArgs f2.st) (defBody f2.st) (defScope f2.st) .none kV2 dc2 pm2 an2 cd2 ct2), sl2⟩)
    (c2 : PySem.W.codeIn K cd2 f2.x = true)
    (k2 : PySem.W.keepIn K (.ref g2) = true)
    (a3 : PySem.W.nsIn K mainGlobals f3.x = some (some (.ref g3)))
    (l3 : K.lookup g3 = some ⟨oc3, od3, .func (PySem.W.fnOf f3.x f3.x (defArgs f3.st) (defBody f3.st) (defScope f3.st) .none kV3 dc3 pm3 an3 cd3 ct3), sl3⟩)
    (c3 : PySem.W.codeIn K cd3 f3.x = true)
    (k3 : PySem.W.keepIn K (.ref g3) = true)
    (a4 : PySem.W.nsIn K mainGlobals f4.x = some (some (.ref g4)))
    (l4 : K.lookup g4 = some ⟨oc4, od4, .func (PySem.W.fnOf f4.x f4.x (defArgs f4.st) (defBody f4.st) (defScope f4.st) .none kV4 dc4 pm4 an4 cd4 ct4), sl4⟩)
    (c4 : PySem.W.codeIn K cd4 f4.x = true)
    (k4 : PySem.W.keepIn K (.ref g4) = true)
    (a5 : PySem.W.nsIn K mainGlobals f5.x = some (some (.ref g5)))
    (l5 : K.lookup g5 = some ⟨oc5, od5, .func (PySem.W.fnOf f5.x f5.x (defArgs f5.st) (defBody f5.st) (defScope f5.st) .none kV5 dc5 pm5 an5 cd5 ct5), sl5⟩)
    (c5 : PySem.W.codeIn K cd5 f5.x = true)
    (k5 : PySem.W.keepIn K (.ref g5) = true)
    (a6 : PySem.W.nsIn K mainGlobals f6.x = some (some (.ref g6)))
    (l6 : K.lookup g6 = some ⟨oc6, od6, .func (PySem.W.fnOf f6.x f6.x (defArgs f6.st) (defBody f6.st) (defScope f6.st) .none kV6 dc6 pm6 an6 cd6 ct6), sl6⟩)
    (c6 : PySem.W.codeIn K cd6 f6.x = true)
    (k6 : PySem.W.keepIn K (.ref g6) = true)
    (a7 : PySem.W.nsIn K mainGlobals f7.x = some (some (.ref g7)))
    (l7 : K.lookup g7 = some ⟨oc7, od7, .func (PySem.W.fnOf f7.x f7.x (defArgs f7.st) (defBody f7.st) (defScope f7.st) .none kV7 dc7 pm7 an7 cd7 ct7), sl7⟩)
    (c7 : PySem.W.codeIn K cd7 f7.x = true)
    (k7 : PySem.W.keepIn K (.ref g7) = true)
    (a8 : PySem.W.nsIn K mainGlobals f8.x = some (some (.ref g8)))
    (l8 : K.lookup g8 = some ⟨oc8, od8, .func (PySem.W.fnOf f8.x f8.x (defArgs f8.st) (defBody f8.st) (defScope f8.st) .none kV8 dc8 pm8 an8 cd8 ct8), sl8⟩)
    (c8 : PySem.W.codeIn K cd8 f8.x = true)
    (k8 : PySem.W.keepIn K (.ref g8) = true)
    (a9 : PySem.W.nsIn K mainGlobals f9.x = some (some (.ref g9)))
    (l9 : K.lookup g9 = some ⟨oc9, od9, .func (PySem.W.fnOf f9.x f9.x (defArgs f9.st) (defBody f9.st) (defScope f9.st) .none kV9 dc9 pm9 an9 cd9 ct9), sl9⟩)
    (c9 : PySem.W.codeIn K cd9 f9.x = true)
    (k9 : PySem.W.keepIn K (.ref g9) = true)
    (a10 : PySem.W.nsIn K mainGlobals f10.x = some (some (.ref g10)))
    (l10 : K.lookup g10 = some ⟨oc10, od10, .func (PySem.W.fnOf f10.x f10.x (defArgs f10.st) (defBody f10.st) (defScope f10.st) .none kV10 dc10 pm10 an10 cd10 ct10), sl10⟩)
    (c10 : PySem.W.codeIn K cd10 f10.x = true)
    (k10 : PySem.W.keepIn K (.ref g10) = true)
    (a11 : PySem.W.nsIn K mainGlobals f11.x = some (some (.ref g11)))
    (l11 : K.lookup g11 = some ⟨oc11, od11, .func (PySem.W.fnOf f11.x f11.x (defArgs f11.st) (defBody f11.st) (defScope f11.st) .none kV11 dc11 pm11 an11 cd11 ct11), sl11⟩)
    (c11 : PySem.W.codeIn K cd11 f11.x = true)
    (k11 : PySem.W.keepIn K (.ref g11) = true)
    (a12 : PySem.W.nsIn K mainGlobals f12.x = some (some (.ref g12)))
    (l12 : K.lookup g12 = some ⟨oc12, od12, .func (PySem.W.fnOf f12.x f12.x (defArgs f12.st) (defBody f12.st) (defScope f12.st) .none kV12 dc12 pm12 an12 cd12 ct12), sl12⟩)
    (c12 : PySem.W.codeIn K cd12 f12.x = true)
    (k12 : PySem.W.keepIn K (.ref g12) = true)
    (a13 : PySem.W.nsIn K mainGlobals f13.x = some (some (.ref g13)))
    (l13 : K.lookup g13 = some ⟨oc13, od13, .func (PySem.W.fnOf f13.x f13.x (defArgs f13.st) (defBody f13.st) (defScope f13.st) .none kV13 dc13 pm13 an13 cd13 ct13), sl13⟩)
    (c13 : PySem.W.codeIn K cd13 f13.x = true)
    (k13 : PySem.W.keepIn K (.ref g13) = true)
    (a14 : PySem.W.nsIn K mainGlobals f14.x = some (some (.ref g14)))
    (l14 : K.lookup g14 = some ⟨oc14, od14, .func (PySem.W.fnOf f14.x f14.x (defArgs f14.st) (defBody f14.st) (defScope f14.st) .none kV14 dc14 pm14 an14 cd14 ct14), sl14⟩)
    (c14 : PySem.W.codeIn K cd14 f14.x = true)
    (k14 : PySem.W.keepIn K (.ref g14) = true)
    (a15 : PySem.W.nsIn K mainGlobals f15.x = some (some (.ref g15)))
    (l15 : K.lookup g15 = some ⟨oc15, od15, .func (PySem.W.fnOf f15.x f15.x (defArgs f15.st) (defBody f15.st) (defScope f15.st) .none kV15 dc15 pm15 an15 cd15 ct15), sl15⟩)
    (c15 : PySem.W.codeIn K cd15 f15.x = true)
    (k15 : PySem.W.keepIn K (.ref g15) = true)
    (a16 : PySem.W.nsIn K mainGlobals f16.x = some (some (.ref g16)))
    (l16 : K.lookup g16 = some ⟨oc16, od16, .func (PySem.W.fnOf f16.x f16.x (defArgs f16.st) (defBody f16.st) (defScope f16.st) .none kV16 dc16 pm16 an16 cd16 ct16), sl16⟩)
    (c16 : PySem.W.codeIn K cd16 f16.x = true)
    (k16 : PySem.W.keepIn K (.ref g16) = true)
    (a17 : PySem.W.nsIn K mainGlobals f17.x = some (some (.ref g17)))
    (l17 : K.lookup g17 = some ⟨oc17, od17, .func (PySem.W.fnOf f17.x f17.x (defArgs f17.st) (defBody f17.st) (defScope f17.st) .none kV17 dc17 pm17 an17 cd17 ct17), sl17⟩)
    (c17 : PySem.W.codeIn K cd17 f17.x = true)
    (k17 : PySem.W.keepIn K (.ref g17) = true)
    (a18 : PySem.W.nsIn K mainGlobals f18.x = some (some (.ref g18)))
    (l18 : K.lookup g18 = some ⟨oc18, od18, .func (PySem.W.fnOf f18.x f18.x (defArgs f18.st) (defBody f18.st) (defScope f18.st) .none kV18 dc18 pm18 an18 cd18 ct18), sl18⟩)
    (c18 : PySem.W.codeIn K cd18 f18.x = true)
    (k18 : PySem.W.keepIn K (.ref g18) = true)
    (a19 : PySem.W.nsIn K mainGlobals f19.x = some (some (.ref g19)))
    (l19 : K.lookup g19 = some ⟨oc19, od19, .func (PySem.W.fnOf f19.x f19.x (defArgs f19.st) (defBody f19.st) (defScope f19.st) .none kV19 dc19 pm19 an19 cd19 ct19), sl19⟩)
    (c19 : PySem.W.codeIn K cd19 f19.x = true)
    (k19 : PySem.W.keepIn K (.ref g19) = true)
    (a20 : PySem.W.nsIn K mainGlobals f20.x = some (some (.ref g20)))
    (l20 : K.lookup g20 = some ⟨oc20, od20, .func (PySem.W.fnOf f20.x f20.x (defArgs f20.st) (defBody f20.st) (defScope f20.st) .none kV20 dc20 pm20 an20 cd20 ct20), sl20⟩)
    (c20 : PySem.W.codeIn K cd20 f20.x = true)
    (k20 : PySem.W.keepIn K (.ref g20) = true)
    (a21 : PySem.W.nsIn K mainGlobals f21.x = some (some (.ref g21)))
    (l21 : K.lookup g21 = some ⟨oc21, od21, .func (PySem.W.fnOf f21.x f21.x (defArgs f21.st) (defBody f21.st) (defScope f21.st) .none kV21 dc21 pm21 an21 cd21 ct21), sl21⟩)
    (c21 : PySem.W.codeIn K cd21 f21.x = true)
    (k21 : PySem.W.keepIn K (.ref g21) = true)
    (a22 : PySem.W.nsIn K mainGlobals f22.x = some (some (.ref g22)))
    (l22 : K.lookup g22 = some ⟨oc22, od22, .func (PySem.W.fnOf f22.x f22.x (defArgs f22.st) (defBody f22.st) (defScope f22.st) .none kV22 dc22 pm22 an22 cd22 ct22), sl22⟩)
    (c22 : PySem.W.codeIn K cd22 f22.x = true)
    (k22 : PySem.W.keepIn K (.ref g22) = true)
    (a23 : PySem.W.nsIn K mainGlobals f23.x = some (some (.ref g23)))
    (l23 : K.lookup g23 = some ⟨oc23, od23, .func (PySem.W.fnOf f23.x f23.x (defArgs f23.st) (defBody f23.st) (defScope f23.st) .none kV23 dc23 pm23 an23 cd23 ct23), sl23⟩)
    (c23 : PySem.W.codeIn K cd23 f23.x = true)
    (k23 : PySem.W.keepIn K (.ref g23) = true)
    (a24 : PySem.W.nsIn K mainGlobals f24.x = some (some (.ref g24)))
    (l24 : K.lookup g24 = some ⟨oc24, od24, .func (PySem.W.fnOf f24.x f24.x (defArgs f24.st) (defBody f24.st) (defScope f24.st) .none kV24 dc24 pm24 an24 cd24 ct24), sl24⟩)
    (c24 : PySem.W.codeIn K cd24 f24.x = true)
    (k24 : PySem.W.keepIn K (.ref g24) = true)
    (a25 : PySem.W.nsIn K mainGlobals f25.x = some (some (.ref g25)))
    (l25 : K.lookup g25 = some ⟨oc25, od25, .func (PySem.W.fnOf f25.x f25.x (defArgs f25.st) (defBody f25.st) (defScope f25.st) .none kV25 dc25 pm25 an25 cd25 ct25), sl25⟩)
    (c25 : PySem.W.codeIn K cd25 f25.x = true)
    (k25 : PySem.W.keepIn K (.ref g25) = true)
    (a26 : PySem.W.nsIn K mainGlobals f26.x = some (some (.ref g26)))
    (l26 : K.lookup g26 = some ⟨oc26, od26, .func (PySem.W.fnOf f26.x f26.x (defArgs f26.st) (defBody f26.st) (defScope f26.st) .none kV26 dc26 pm26 an26 cd26 ct26), sl26⟩)
    (c26 : PySem.W.codeIn K cd26 f26.x = true)
    (k26 : PySem.W.keepIn K (.ref g26) = true)
    (a27 : PySem.W.nsIn K mainGlobals f27.x = some (some (.ref g27)))
    (l27 : K.lookup g27 = some ⟨oc27, od27, .func (PySem.W.fnOf f27.x f27.x (defArgs f27.st) (defBody f27.st) (defScope f27.st) .none kV27 dc27 pm27 an27 cd27 ct27), sl27⟩)
    (c27 : PySem.W.codeIn K cd27 f27.x = true)
    (k27 : PySem.W.keepIn K (.ref g27) = true)
    (a28 : PySem.W.nsIn K mainGlobals f28.x = some (some (.ref g28)))
    (l28 : K.lookup g28 = some ⟨oc28, od28, .func (PySem.W.fnOf f28.x f28.x (defArgs f28.st) (defBody f28.st) (defScope f28.st) .none kV28 dc28 pm28 an28 cd28 ct28), sl28⟩)
    (c28 : PySem.W.codeIn K cd28 f28.x = true)
    (k28 : PySem.W.keepIn K (.ref g28) = true)
    (a29 : PySem.W.nsIn K mainGlobals f29.x = some (some (.ref g29)))
    (l29 : K.lookup g29 = some ⟨oc29, od29, .func (PySem.W.fnOf f29.x f29.x (defArgs f29.st) (defBody f29.st) (defScope f29.st) .none kV29 dc29 pm29 an29 cd29 ct29), sl29⟩)
    (c29 : PySem.W.codeIn K cd29 f29.x = true)
    (k29 : PySem.W.keepIn K (.ref g29) = true)
    (a30 : PySem.W.nsIn K mainGlobals f30.x = some (some (.ref g30)))
    (l30 : K.lookup g30 = some ⟨oc30, od30, .func (PySem.W.fnOf f30.x f30.x (defArgs f30.st) (defBody f30.st) (defScope f30.st) .none kV30 dc30 pm30 an30 cd30 ct30), sl30⟩)
    (c30 : PySem.W.codeIn K cd30 f30.x = true)
    (k30 : PySem.W.keepIn K (.ref g30) = true)
    (a31 : PySem.W.nsIn K mainGlobals f31.x = some (some (.ref g31)))
    (l31 : K.lookup g31 = some ⟨oc31, od31, .func (PySem.W.fnOf f31.x f31.x (defArgs f31.st) (defBody f31.st) (defScope f31.st) .none kV31 dc31 pm31 an31 cd31 ct31), sl31⟩)
    (c31 : PySem.W.codeIn K cd31 f31.x = true)
    (k31 : PySem.W.keepIn K (.ref g31) = true)
    (a32 : PySem.W.nsIn K mainGlobals f32.x = some (some (.ref g32)))
    (l32 : K.lookup g32 = some ⟨oc32, od32, .func (PySem.W.fnOf f32.x f32.x (defArgs f32.st) (defBody f32.st) (defScope f32.st) .none kV32 dc32 pm32 an32 cd32 ct32), sl32⟩)
    (c32 : PySem.W.codeIn K cd32 f32.x = true)
    (k32 : PySem.W.keepIn K (.ref g32) = true)
    (zabs : PySem.W.nsIn K mainGlobals (Bi.name Bi.abs) = some none)
    (zall : PySem.W.nsIn K mainGlobals (Bi.name Bi.all) = some none)
    (zbool : PySem.W.nsIn K mainGlobals (Bi.name Bi.bool) = some none)
    (zint : PySem.W.nsIn K mainGlobals (Bi.name Bi.int) = some none)
    (zisinstance : PySem.W.nsIn K mainGlobals (Bi.name Bi.isinstance) = some none)
    (zlen : PySem.W.nsIn K mainGlobals (Bi.name Bi.len) = some none)
    (zlist : PySem.W.nsIn K mainGlobals (Bi.name Bi.list) = some none)
    (zmax : PySem.W.nsIn K mainGlobals (Bi.name Bi.max) = some none)
    (zmin : PySem.W.nsIn K mainGlobals (Bi.name Bi.min) = some none)
    (zrange : PySem.W.nsIn K mainGlobals (Bi.name Bi.range) = some none)
    (zrepr : PySem.W.nsIn K mainGlobals (Bi.name Bi.repr) = some none)
    (zsum : PySem.W.nsIn K mainGlobals (Bi.name Bi.sum) = some none)
    (ztuple : PySem.W.nsIn K mainGlobals (Bi.name Bi.tuple) = some none)
    (zzip : PySem.W.nsIn K mainGlobals (Bi.name Bi.zip) = some none)
    (nAXES : PySem.W.nsIn K mainGlobals ("AXES" : Str) = some (some (.int 3 tAXES)))
    (nPAIR_cells : PySem.W.nsIn K mainGlobals ("PAIR_cells" : Str) = some (some (.int 2 tPAIR_cells)))
    (nPAIR_numbers : PySem.W.nsIn K mainGlobals ("PAIR_numbers" : Str) = some (some (.int 2 tPAIR_numbers)))
    (nTRIPLE : PySem.W.nsIn K mainGlobals ("TRIPLE" : Str) = some (some (.int 3 tTRIPLE))) :
    (∀ (i : Nat) (D : Df), tab[i]? = some D → DfAt ⟨K, fun _ => none⟩ K mg D) ∧ ∀ x k, gt.gl.lookup x = some k → GlAt ⟨K, fun _ => none⟩ mg tab x k :=
  ⟨alls_get ⟨dfAt_mk KX GN q0 a0 l0 c0 k0, ⟨dfAt_mk KX GN q1 a1 l1 c1 k1, ⟨dfAt_mk KX GN q2 a2 l2 c2 k2, ⟨dfAt_mk KX GN q3 a3 l3 c3 k3, ⟨dfAt_mk KX GN q4 a4 l4 c4 k4, ⟨dfAt_mk KX GN q5 a5 l5 c5 k5, ⟨dfAt_mk KX GN q6 a6 l6 c6 k6, ⟨dfAt_mk KX GN q7 a7 l7 c7 k7, ⟨dfAt_mk KX GN q8 a8 l8 c8 k8, ⟨dfAt_mk KX GN q9 a9 l9 c9 k9, ⟨dfAt_mk KX GN q10 a10 l10 c10 k10, ⟨dfAt_mk KX GN q11 a11 l11 c11 k11, ⟨dfAt_mk KX GN q12 a12 l12 c12 k12, ⟨dfAt_mk KX GN q13 a13 l13 c13 k13, ⟨dfAt_mk KX GN q14 a14 l14 c14 k14, ⟨dfAt_mk KX GN q15 a15 l15 c15 k15, ⟨dfAt_mk KX GN q16 a16 l16 c16 k16, ⟨dfAt_mk KX GN q17 a17 l17 c17 k17, ⟨dfAt_mk KX GN q18 a18 l18 c18 k18, ⟨dfAt_mk KX GN q19 a19 l19 c19 k19, ⟨dfAt_mk KX GN q20 a20 l20 c20 k20, ⟨dfAt_mk KX GN q21 a21 l21 c21 k21, ⟨dfAt_mk KX GN q22 a22 l22 c22 k22, ⟨dfAt_mk KX GN q23 a23 l23 c23 k23, ⟨dfAt_mk KX GN q24 a24 l24 c24 k24, ⟨dfAt_mk KX GN q25 a25 l25 c25 k25, ⟨dfAt_mk KX GN q26 a26 l26 c26 k26, ⟨dfAt_mk KX GN q27 a27 l27 c27 k27, ⟨dfAt_mk KX GN q28 a28 l28 c28 k28, ⟨dfAt_mk KX GN q29 a29 l29 c29 k29, ⟨dfAt_mk KX GN q30 a30 l30 c30 k30, ⟨dfAt_mk KX GN q31 a31 l31 c31 k31, ⟨dfAt_mk KX GN q32 a32 l32 c32 k32, trivial⟩⟩⟩⟩⟩⟩⟩⟩⟩⟩⟩⟩⟩⟩⟩⟩⟩⟩⟩⟩⟩⟩⟩⟩⟩⟩⟩⟩⟩⟩⟩⟩⟩, alls_look ⟨gl_fn rfl rfl, ⟨gl_fn rfl rfl, ⟨gl_fn rfl rfl, ⟨gl_fn rfl rfl, ⟨gl_fn rfl rfl, ⟨gl_fn rfl rfl, ⟨gl_fn rfl rfl, ⟨gl_fn rfl rfl, ⟨gl_fn rfl rfl, ⟨gl_fn rfl rfl, ⟨gl_fn rfl rfl, ⟨gl_fn rfl rfl, ⟨gl_fn rfl rfl, ⟨gl_fn rfl rfl, ⟨gl_fn rfl rfl, ⟨gl_fn rfl rfl, ⟨gl_fn rfl rfl, ⟨gl_fn rfl rfl, ⟨gl_fn rfl rfl, ⟨gl_fn rfl rfl, ⟨gl_fn rfl rfl, ⟨gl_fn rfl rfl, ⟨gl_fn rfl rfl, ⟨gl_fn rfl rfl, ⟨gl_fn rfl rfl, ⟨gl_fn rfl rfl, ⟨gl_fn rfl rfl, ⟨gl_fn rfl rfl, ⟨gl_fn rfl rfl, ⟨gl_fn rfl rfl, ⟨gl_fn rfl rfl, ⟨gl_fn rfl rfl, ⟨gl_fn rfl rfl, ⟨gl_bi (b := Bi.abs) KX GN zabs, ⟨gl_bi (b := Bi.all) KX GN zall, ⟨gl_bi (b := Bi.bool) KX GN zbool, ⟨gl_bi (b := Bi.int) KX GN zint, ⟨gl_bi (b := Bi.isinstance) KX GN zisinstance, ⟨gl_bi (b := Bi.len) KX GN zlen, ⟨gl_bi (b := Bi.list) KX GN zlist, ⟨gl_bi (b := Bi.max) KX GN zmax, ⟨gl_bi (b := Bi.min) KX GN zmin, ⟨gl_bi (b := Bi.range) KX GN zrange, ⟨gl_bi (b := Bi.repr) KX GN zrepr, ⟨gl_bi (b := Bi.sum) KX GN zsum, ⟨gl_bi (b := Bi.tuple) KX GN ztuple, ⟨gl_bi (b := Bi.zip) KX GN zzip, ⟨gl_int KX GN nAXES (by decide +kernel), ⟨gl_int KX GN nPAIR_cells (by decide +kernel), ⟨gl_int KX GN nPAIR_numbers (by decide +kernel), ⟨gl_int KX GN nTRIPLE (by decide +kernel), trivial⟩⟩⟩⟩⟩⟩⟩⟩⟩⟩⟩⟩⟩⟩⟩⟩⟩⟩⟩⟩⟩⟩⟩⟩⟩⟩⟩⟩⟩⟩⟩⟩⟩⟩⟩⟩⟩⟩⟩⟩⟩⟩⟩⟩⟩⟩⟩⟩⟩⟩⟩⟩
end Law
namespace Law
open PySem PySem.Spec PyProof.Rows L2 Rk
section
variable {n : Nat} {M : List Ob} {R : T → List Ob → Prop}
theorem c_is_whole {i : Int} (h : R (.w (.bl true)) M) : ((ob (n + 1)).fn 31 [.w (.int i)] M).sat R := by
  rw [r31, w_run]; unfold d31; rw [w_seq]
  try simp only [Rk.sat_ok, Rk.osat_some, Rk.osat_none, Rk.osat_ite, Rk.osat_map, Rk.osat_bind, Rk.w_var, Rk.w_con, Rk.w_bin, Rk.w_cmp, Rk.w_ix, Rk.w_bi, Rk.w_es0, Rk.w_es, Rk.w_ts0, Rk.w_ts, Rk.w_ws0, Rk.w_ws, Rk.w_W, Rk.w_T, Rk.w_esc, Rk.w_givw, Rk.w_givl, Rk.w_tup, Rk.w_lst, Rk.w_call, Rk.w_callK, Rk.w_un, Rk.w_not, Rk.w_and, Rk.w_or, Rk.w_ifx, Rk.w_sl, Rk.w_no, Rk.w_so, Rk.w_asb, Rk.w_tru, Rk.w_bnot, Rk.w_band, Rk.w_bor, Rk.w_yes, Rk.w_skip, Rk.w_expr, Rk.w_set, Rk.w_ret, Rk.w_retN, Rk.w_if, Rk.w_asg, Rk.w_par, Rk.w_gnm, Rk.w_gsb, Rk.w_mt, Rk.w_ext, Rk.w_gtp, Rk.w_gsc, Rk.w_gsn, Rk.w_escs, Rk.w_givs, Rk.slQ_l, Rk.slQ_w, Rk.backT, Option.getD_some, Option.getD_none, Rk.get_w, Rk.get_l, Rk.get_sl, Rk.seq_tup, Rk.seq_rol, Rk.seq_l, Rk.seq_loc, Rk.seq_sl, Rk.lst_rol, Rk.lst_l, Rk.lst_loc, Rk.lst_sl, Rk.lst_tup, Rk.ix_int, Rk.ix_some, Rk.seqT_l, Rk.seqT_tup, Rk.seqT_rol, Rk.seqT_loc, Rk.lstT_l, Rk.lstT_rol, Rk.lstT_loc, Rk.at_0, Rk.at_1, Rk.at_2, Rk.at_3, Rk.at_4, Rk.at_5, Rk.bin_int, Rk.i_add, Rk.i_sub, Rk.i_mul, Rk.i_div, Rk.i_mod, Rk.i_pow, Rk.u_neg, Rk.c_lt, Rk.c_le, Rk.c_gt, Rk.c_ge, Rk.c_eq, Rk.c_ne, Rk.c_isN, Rk.c_isI, Rk.c_seq, Rk.c_sne, Rk.t_non, Rk.t_bl, Rk.t_int, Rk.iw_int, Rk.bt_bl, Rk.b_int, Rk.b_intb, Rk.b_abs, Rk.b_lent, Rk.b_lenr, Rk.b_lenl, Rk.b_tup, Rk.b_list, Rk.b_all, Rk.b_any, Rk.b_sum, Rk.bls_nil, Rk.bls_cons, Rk.ints_nil, Rk.ints_cons, Rk.b_min1, Rk.b_max1, Rk.b_min2, Rk.b_max2, Rk.m_loc, Rk.m_sl, Rk.p_nil, Rk.p_cons, Rk.set_s, Rk.esc_l, Rk.isI_int, Rk.isI_bool, Rk.isI_tup, List.cons_append, List.nil_append, List.append_nil, List.getElem?_cons_zero, List.getElem?_cons_succ, List.set_cons_zero, List.set_cons_succ, List.length_cons, List.length_nil, List.map_nil, List.map_cons, Option.bind_some, Option.bind_none, Option.map_some, Option.map_none, Option.isSome_some, id_eq, true_and, and_true, decide_eq_true_eq, List.replicate_succ, List.replicate_zero, Nat.reduceAdd, Nat.reduceSub, Int.reduceMul, Int.reduceAdd, Int.reduceSub, Int.reduceNeg, if_true, if_false, Bool.true_eq_false, Bool.false_eq_true, reduceIte]
  exact h
theorem c_is_tuple {xs : List W} {a b : Int} (h1 : a ≤ xs.length) (h2 : (xs.length : Int) ≤ b) (h : R (.w (.bl true)) M) : ((ob (n + 1)).fn 30 [.w (.tup xs), .w (.int a), .w (.int b)] M).sat R := by
  rw [r30, w_run]; unfold d30; rw [w_seq]
  try simp only [Rk.sat_ok, Rk.osat_some, Rk.osat_none, Rk.osat_ite, Rk.osat_map, Rk.osat_bind, Rk.w_var, Rk.w_con, Rk.w_bin, Rk.w_cmp, Rk.w_ix, Rk.w_bi, Rk.w_es0, Rk.w_es, Rk.w_ts0, Rk.w_ts, Rk.w_ws0, Rk.w_ws, Rk.w_W, Rk.w_T, Rk.w_esc, Rk.w_givw, Rk.w_givl, Rk.w_tup, Rk.w_lst, Rk.w_call, Rk.w_callK, Rk.w_un, Rk.w_not, Rk.w_and, Rk.w_or, Rk.w_ifx, Rk.w_sl, Rk.w_no, Rk.w_so, Rk.w_asb, Rk.w_tru, Rk.w_bnot, Rk.w_band, Rk.w_bor, Rk.w_yes, Rk.w_skip, Rk.w_expr, Rk.w_set, Rk.w_ret, Rk.w_retN, Rk.w_if, Rk.w_asg, Rk.w_par, Rk.w_gnm, Rk.w_gsb, Rk.w_mt, Rk.w_ext, Rk.w_gtp, Rk.w_gsc, Rk.w_gsn, Rk.w_escs, Rk.w_givs, Rk.slQ_l, Rk.slQ_w, Rk.backT, Option.getD_some, Option.getD_none, Rk.get_w, Rk.get_l, Rk.get_sl, Rk.seq_tup, Rk.seq_rol, Rk.seq_l, Rk.seq_loc, Rk.seq_sl, Rk.lst_rol, Rk.lst_l, Rk.lst_loc, Rk.lst_sl, Rk.lst_tup, Rk.ix_int, Rk.ix_some, Rk.seqT_l, Rk.seqT_tup, Rk.seqT_rol, Rk.seqT_loc, Rk.lstT_l, Rk.lstT_rol, Rk.lstT_loc, Rk.at_0, Rk.at_1, Rk.at_2, Rk.at_3, Rk.at_4, Rk.at_5, Rk.bin_int, Rk.i_add, Rk.i_sub, Rk.i_mul, Rk.i_div, Rk.i_mod, Rk.i_pow, Rk.u_neg, Rk.c_lt, Rk.c_le, Rk.c_gt, Rk.c_ge, Rk.c_eq, Rk.c_ne, Rk.c_isN, Rk.c_isI, Rk.c_seq, Rk.c_sne, Rk.t_non, Rk.t_bl, Rk.t_int, Rk.iw_int, Rk.bt_bl, Rk.b_int, Rk.b_intb, Rk.b_abs, Rk.b_lent, Rk.b_lenr, Rk.b_lenl, Rk.b_tup, Rk.b_list, Rk.b_all, Rk.b_any, Rk.b_sum, Rk.bls_nil, Rk.bls_cons, Rk.ints_nil, Rk.ints_cons, Rk.b_min1, Rk.b_max1, Rk.b_min2, Rk.b_max2, Rk.m_loc, Rk.m_sl, Rk.p_nil, Rk.p_cons, Rk.set_s, Rk.esc_l, Rk.isI_int, Rk.isI_bool, Rk.isI_tup, List.cons_append, List.nil_append, List.append_nil, List.getElem?_cons_zero, List.getElem?_cons_succ, List.set_cons_zero, List.set_cons_succ, List.length_cons, List.length_nil, List.map_nil, List.map_cons, Option.bind_some, Option.bind_none, Option.map_some, Option.map_none, Option.isSome_some, id_eq, true_and, and_true, decide_eq_true_eq, List.replicate_succ, List.replicate_zero, Nat.reduceAdd, Nat.reduceSub, Int.reduceMul, Int.reduceAdd, Int.reduceSub, Int.reduceNeg, if_true, if_false, Bool.true_eq_false, Bool.false_eq_true, reduceIte, decide_eq_true h1, decide_eq_true h2]
  exact h
def sgn (x : Int) : Int := if 0 < x then 1 else if x = 0 then 0 else -1
theorem c_common {a b : Int} (hb : b.natAbs < 1000000) (h : R (.w (.int (Int.gcd a b : Nat))) M) : ((ob (n + 1)).fn 32 [.w (.int a), .w (.int b)] M).sat R := by
  rw [r32, w_run]; unfold d32
  refine w_stp fun k hk => ?_; try simp only [Rk.sat_ok, Rk.osat_some, Rk.osat_none, Rk.osat_ite, Rk.osat_map, Rk.osat_bind, Rk.w_var, Rk.w_con, Rk.w_bin, Rk.w_cmp, Rk.w_ix, Rk.w_bi, Rk.w_es0, Rk.w_es, Rk.w_ts0, Rk.w_ts, Rk.w_ws0, Rk.w_ws, Rk.w_W, Rk.w_T, Rk.w_esc, Rk.w_givw, Rk.w_givl, Rk.w_tup, Rk.w_lst, Rk.w_call, Rk.w_callK, Rk.w_un, Rk.w_not, Rk.w_and, Rk.w_or, Rk.w_ifx, Rk.w_sl, Rk.w_no, Rk.w_so, Rk.w_asb, Rk.w_tru, Rk.w_bnot, Rk.w_band, Rk.w_bor, Rk.w_yes, Rk.w_skip, Rk.w_expr, Rk.w_set, Rk.w_ret, Rk.w_retN, Rk.w_if, Rk.w_asg, Rk.w_par, Rk.w_gnm, Rk.w_gsb, Rk.w_mt, Rk.w_ext, Rk.w_gtp, Rk.w_gsc, Rk.w_gsn, Rk.w_escs, Rk.w_givs, Rk.slQ_l, Rk.slQ_w, Rk.backT, Option.getD_some, Option.getD_none, Rk.get_w, Rk.get_l, Rk.get_sl, Rk.seq_tup, Rk.seq_rol, Rk.seq_l, Rk.seq_loc, Rk.seq_sl, Rk.lst_rol, Rk.lst_l, Rk.lst_loc, Rk.lst_sl, Rk.lst_tup, Rk.ix_int, Rk.ix_some, Rk.seqT_l, Rk.seqT_tup, Rk.seqT_rol, Rk.seqT_loc, Rk.lstT_l, Rk.lstT_rol, Rk.lstT_loc, Rk.at_0, Rk.at_1, Rk.at_2, Rk.at_3, Rk.at_4, Rk.at_5, Rk.bin_int, Rk.i_add, Rk.i_sub, Rk.i_mul, Rk.i_div, Rk.i_mod, Rk.i_pow, Rk.u_neg, Rk.c_lt, Rk.c_le, Rk.c_gt, Rk.c_ge, Rk.c_eq, Rk.c_ne, Rk.c_isN, Rk.c_isI, Rk.c_seq, Rk.c_sne, Rk.t_non, Rk.t_bl, Rk.t_int, Rk.iw_int, Rk.bt_bl, Rk.b_int, Rk.b_intb, Rk.b_abs, Rk.b_lent, Rk.b_lenr, Rk.b_lenl, Rk.b_tup, Rk.b_list, Rk.b_all, Rk.b_any, Rk.b_sum, Rk.bls_nil, Rk.bls_cons, Rk.ints_nil, Rk.ints_cons, Rk.b_min1, Rk.b_max1, Rk.b_min2, Rk.b_max2, Rk.m_loc, Rk.m_sl, Rk.p_nil, Rk.p_cons, Rk.set_s, Rk.esc_l, Rk.isI_int, Rk.isI_bool, Rk.isI_tup, List.cons_append, List.nil_append, List.append_nil, List.getElem?_cons_zero, List.getElem?_cons_succ, List.set_cons_zero, List.set_cons_succ, List.length_cons, List.length_nil, List.map_nil, List.map_cons, Option.bind_some, Option.bind_none, Option.map_some, Option.map_none, Option.isSome_some, id_eq, true_and, and_true, decide_eq_true_eq, List.replicate_succ, List.replicate_zero, Nat.reduceAdd, Nat.reduceSub, Int.reduceMul, Int.reduceAdd, Int.reduceSub, Int.reduceNeg, if_true, if_false, Bool.true_eq_false, Bool.false_eq_true, reduceIte, abs_nat]
  refine hk _ ?_; clear hk k
  refine w_stp fun k hk => ?_
  rw [w_while]
  refine gcd1 _ _ _ hb ?_
  refine hk _ ?_; clear hk k
  rw [w_seq]
  try simp only [Rk.sat_ok, Rk.osat_some, Rk.osat_none, Rk.osat_ite, Rk.osat_map, Rk.osat_bind, Rk.w_var, Rk.w_con, Rk.w_bin, Rk.w_cmp, Rk.w_ix, Rk.w_bi, Rk.w_es0, Rk.w_es, Rk.w_ts0, Rk.w_ts, Rk.w_ws0, Rk.w_ws, Rk.w_W, Rk.w_T, Rk.w_esc, Rk.w_givw, Rk.w_givl, Rk.w_tup, Rk.w_lst, Rk.w_call, Rk.w_callK, Rk.w_un, Rk.w_not, Rk.w_and, Rk.w_or, Rk.w_ifx, Rk.w_sl, Rk.w_no, Rk.w_so, Rk.w_asb, Rk.w_tru, Rk.w_bnot, Rk.w_band, Rk.w_bor, Rk.w_yes, Rk.w_skip, Rk.w_expr, Rk.w_set, Rk.w_ret, Rk.w_retN, Rk.w_if, Rk.w_asg, Rk.w_par, Rk.w_gnm, Rk.w_gsb, Rk.w_mt, Rk.w_ext, Rk.w_gtp, Rk.w_gsc, Rk.w_gsn, Rk.w_escs, Rk.w_givs, Rk.slQ_l, Rk.slQ_w, Rk.backT, Option.getD_some, Option.getD_none, Rk.get_w, Rk.get_l, Rk.get_sl, Rk.seq_tup, Rk.seq_rol, Rk.seq_l, Rk.seq_loc, Rk.seq_sl, Rk.lst_rol, Rk.lst_l, Rk.lst_loc, Rk.lst_sl, Rk.lst_tup, Rk.ix_int, Rk.ix_some, Rk.seqT_l, Rk.seqT_tup, Rk.seqT_rol, Rk.seqT_loc, Rk.lstT_l, Rk.lstT_rol, Rk.lstT_loc, Rk.at_0, Rk.at_1, Rk.at_2, Rk.at_3, Rk.at_4, Rk.at_5, Rk.bin_int, Rk.i_add, Rk.i_sub, Rk.i_mul, Rk.i_div, Rk.i_mod, Rk.i_pow, Rk.u_neg, Rk.c_lt, Rk.c_le, Rk.c_gt, Rk.c_ge, Rk.c_eq, Rk.c_ne, Rk.c_isN, Rk.c_isI, Rk.c_seq, Rk.c_sne, Rk.t_non, Rk.t_bl, Rk.t_int, Rk.iw_int, Rk.bt_bl, Rk.b_int, Rk.b_intb, Rk.b_abs, Rk.b_lent, Rk.b_lenr, Rk.b_lenl, Rk.b_tup, Rk.b_list, Rk.b_all, Rk.b_any, Rk.b_sum, Rk.bls_nil, Rk.bls_cons, Rk.ints_nil, Rk.ints_cons, Rk.b_min1, Rk.b_max1, Rk.b_min2, Rk.b_max2, Rk.m_loc, Rk.m_sl, Rk.p_nil, Rk.p_cons, Rk.set_s, Rk.esc_l, Rk.isI_int, Rk.isI_bool, Rk.isI_tup, List.cons_append, List.nil_append, List.append_nil, List.getElem?_cons_zero, List.getElem?_cons_succ, List.set_cons_zero, List.set_cons_succ, List.length_cons, List.length_nil, List.map_nil, List.map_cons, Option.bind_some, Option.bind_none, Option.map_some, Option.map_none, Option.isSome_some, id_eq, true_and, and_true, decide_eq_true_eq, List.replicate_succ, List.replicate_zero, Nat.reduceAdd, Nat.reduceSub, Int.reduceMul, Int.reduceAdd, Int.reduceSub, Int.reduceNeg, if_true, if_false, Bool.true_eq_false, Bool.false_eq_true, reduceIte]
  exact h
/-- all([is_whole(x) for x in ints]) -/
theorem all_whole {ns : List Int} {v y : Option T} {r : List (Option T)} (hl : ns.length ≤ 1000) :
    (compS [1] (gnm 1) dyes (dW (dcall ((ob (n + 1)).fn 31) 1 [dvar 1] [])) (ns.map W.int) [] ⟨v :: y :: r, M⟩).sat fun acc s' => acc = (ns.map W.int).map (fun _ => .bl true) ∧ s'.M = M ∧ wipeT s'.sg [1] = v :: none :: r := by
  refine Out.sat.mono (cs_map (fun _ => .bl true) (W0 := v :: none :: r) (M := M) (ns.map W.int) [] _ (fun x hx => ?_) rfl rfl ?_) fun acc s' h => ⟨by simpa using h.1, h.2⟩
  · obtain ⟨i, _, rfl⟩ := List.mem_map.mp hx
    try simp only [Rk.sat_ok, Rk.osat_some, Rk.osat_none, Rk.osat_ite, Rk.osat_map, Rk.osat_bind, Rk.w_var, Rk.w_con, Rk.w_bin, Rk.w_cmp, Rk.w_ix, Rk.w_bi, Rk.w_es0, Rk.w_es, Rk.w_ts0, Rk.w_ts, Rk.w_ws0, Rk.w_ws, Rk.w_W, Rk.w_T, Rk.w_esc, Rk.w_givw, Rk.w_givl, Rk.w_tup, Rk.w_lst, Rk.w_call, Rk.w_callK, Rk.w_un, Rk.w_not, Rk.w_and, Rk.w_or, Rk.w_ifx, Rk.w_sl, Rk.w_no, Rk.w_so, Rk.w_asb, Rk.w_tru, Rk.w_bnot, Rk.w_band, Rk.w_bor, Rk.w_yes, Rk.w_skip, Rk.w_expr, Rk.w_set, Rk.w_ret, Rk.w_retN, Rk.w_if, Rk.w_asg, Rk.w_par, Rk.w_gnm, Rk.w_gsb, Rk.w_mt, Rk.w_ext, Rk.w_gtp, Rk.w_gsc, Rk.w_gsn, Rk.w_escs, Rk.w_givs, Rk.slQ_l, Rk.slQ_w, Rk.backT, Option.getD_some, Option.getD_none, Rk.get_w, Rk.get_l, Rk.get_sl, Rk.seq_tup, Rk.seq_rol, Rk.seq_l, Rk.seq_loc, Rk.seq_sl, Rk.lst_rol, Rk.lst_l, Rk.lst_loc, Rk.lst_sl, Rk.lst_tup, Rk.ix_int, Rk.ix_some, Rk.seqT_l, Rk.seqT_tup, Rk.seqT_rol, Rk.seqT_loc, Rk.lstT_l, Rk.lstT_rol, Rk.lstT_loc, Rk.at_0, Rk.at_1, Rk.at_2, Rk.at_3, Rk.at_4, Rk.at_5, Rk.bin_int, Rk.i_add, Rk.i_sub, Rk.i_mul, Rk.i_div, Rk.i_mod, Rk.i_pow, Rk.u_neg, Rk.c_lt, Rk.c_le, Rk.c_gt, Rk.c_ge, Rk.c_eq, Rk.c_ne, Rk.c_isN, Rk.c_isI, Rk.c_seq, Rk.c_sne, Rk.t_non, Rk.t_bl, Rk.t_int, Rk.iw_int, Rk.bt_bl, Rk.b_int, Rk.b_intb, Rk.b_abs, Rk.b_lent, Rk.b_lenr, Rk.b_lenl, Rk.b_tup, Rk.b_list, Rk.b_all, Rk.b_any, Rk.b_sum, Rk.bls_nil, Rk.bls_cons, Rk.ints_nil, Rk.ints_cons, Rk.b_min1, Rk.b_max1, Rk.b_min2, Rk.b_max2, Rk.m_loc, Rk.m_sl, Rk.p_nil, Rk.p_cons, Rk.set_s, Rk.esc_l, Rk.isI_int, Rk.isI_bool, Rk.isI_tup, List.cons_append, List.nil_append, List.append_nil, List.getElem?_cons_zero, List.getElem?_cons_succ, List.set_cons_zero, List.set_cons_succ, List.length_cons, List.length_nil, List.map_nil, List.map_cons, Option.bind_some, Option.bind_none, Option.map_some, Option.map_none, Option.isSome_some, id_eq, true_and, and_true, decide_eq_true_eq, List.replicate_succ, List.replicate_zero, Nat.reduceAdd, Nat.reduceSub, Int.reduceMul, Int.reduceAdd, Int.reduceSub, Int.reduceNeg, if_true, if_false, Bool.true_eq_false, Bool.false_eq_true, reduceIte]
    refine c_is_whole ?_
    try simp only [Rk.sat_ok, Rk.osat_some, Rk.osat_none, Rk.osat_ite, Rk.osat_map, Rk.osat_bind, Rk.w_var, Rk.w_con, Rk.w_bin, Rk.w_cmp, Rk.w_ix, Rk.w_bi, Rk.w_es0, Rk.w_es, Rk.w_ts0, Rk.w_ts, Rk.w_ws0, Rk.w_ws, Rk.w_W, Rk.w_T, Rk.w_esc, Rk.w_givw, Rk.w_givl, Rk.w_tup, Rk.w_lst, Rk.w_call, Rk.w_callK, Rk.w_un, Rk.w_not, Rk.w_and, Rk.w_or, Rk.w_ifx, Rk.w_sl, Rk.w_no, Rk.w_so, Rk.w_asb, Rk.w_tru, Rk.w_bnot, Rk.w_band, Rk.w_bor, Rk.w_yes, Rk.w_skip, Rk.w_expr, Rk.w_set, Rk.w_ret, Rk.w_retN, Rk.w_if, Rk.w_asg, Rk.w_par, Rk.w_gnm, Rk.w_gsb, Rk.w_mt, Rk.w_ext, Rk.w_gtp, Rk.w_gsc, Rk.w_gsn, Rk.w_escs, Rk.w_givs, Rk.slQ_l, Rk.slQ_w, Rk.backT, Option.getD_some, Option.getD_none, Rk.get_w, Rk.get_l, Rk.get_sl, Rk.seq_tup, Rk.seq_rol, Rk.seq_l, Rk.seq_loc, Rk.seq_sl, Rk.lst_rol, Rk.lst_l, Rk.lst_loc, Rk.lst_sl, Rk.lst_tup, Rk.ix_int, Rk.ix_some, Rk.seqT_l, Rk.seqT_tup, Rk.seqT_rol, Rk.seqT_loc, Rk.lstT_l, Rk.lstT_rol, Rk.lstT_loc, Rk.at_0, Rk.at_1, Rk.at_2, Rk.at_3, Rk.at_4, Rk.at_5, Rk.bin_int, Rk.i_add, Rk.i_sub, Rk.i_mul, Rk.i_div, Rk.i_mod, Rk.i_pow, Rk.u_neg, Rk.c_lt, Rk.c_le, Rk.c_gt, Rk.c_ge, Rk.c_eq, Rk.c_ne, Rk.c_isN, Rk.c_isI, Rk.c_seq, Rk.c_sne, Rk.t_non, Rk.t_bl, Rk.t_int, Rk.iw_int, Rk.bt_bl, Rk.b_int, Rk.b_intb, Rk.b_abs, Rk.b_lent, Rk.b_lenr, Rk.b_lenl, Rk.b_tup, Rk.b_list, Rk.b_all, Rk.b_any, Rk.b_sum, Rk.bls_nil, Rk.bls_cons, Rk.ints_nil, Rk.ints_cons, Rk.b_min1, Rk.b_max1, Rk.b_min2, Rk.b_max2, Rk.m_loc, Rk.m_sl, Rk.p_nil, Rk.p_cons, Rk.set_s, Rk.esc_l, Rk.isI_int, Rk.isI_bool, Rk.isI_tup, List.cons_append, List.nil_append, List.append_nil, List.getElem?_cons_zero, List.getElem?_cons_succ, List.set_cons_zero, List.set_cons_succ, List.length_cons, List.length_nil, List.map_nil, List.map_cons, Option.bind_some, Option.bind_none, Option.map_some, Option.map_none, Option.isSome_some, id_eq, true_and, and_true, decide_eq_true_eq, List.replicate_succ, List.replicate_zero, Nat.reduceAdd, Nat.reduceSub, Int.reduceMul, Int.reduceAdd, Int.reduceSub, Int.reduceNeg, if_true, if_false, Bool.true_eq_false, Bool.false_eq_true, reduceIte]
    exact ⟨rfl, rfl⟩
  · rw [List.length_map, List.length_nil, Nat.zero_add]
    exact Nat.le_trans hl (by decide)
theorem bls_all : ∀ ns : List W, blsOf (ns.map fun _ => W.bl true) = some (ns.map fun _ => true)
  | [] => rfl
  | x :: xs => by rw [List.map_cons, bls_cons, bls_all xs]; rfl
theorem all_all (ns : List W) : (ns.map fun _ => true).all id = true := by
  induction ns with
  | nil => rfl
  | cons x xs ih => rw [List.map_cons, List.all_cons, ih]; rfl
/-- a box -/
abbrev bx (a b c d e f : Int) : W := .tup [.int a, .int b, .int c, .int d, .int e, .int f]
theorem if_and {p q : Prop} [Decidable p] [Decidable q] {Q : Bool → Prop} (h : Q (decide p && decide q)) : if p then Q (decide q) else Q (decide p) := by
  by_cases hp : p
  · rw [if_pos hp]; simpa [hp] using h
  · rw [if_neg hp]; simpa [hp] using h
/-- a function of the axis -/
def onAxis (x y z : W) : W → W
  | .int 0 => x
  | .int 1 => y
  | _ => z
theorem axes_map {vs : List Nat} {g : DG} {c : DB} {e : DW} {W0 : List (Option T)} {s : S} (x y z : W) (h : ∀ (k : Int) (u : W), (k = 0 ∧ u = x) ∨ (k = 1 ∧ u = y) ∨ (k = 2 ∧ u = z) → (g (.int k) ⟨W0, M⟩).sat fun _ s => (c s).sat fun b s => b = true ∧ (e s).sat fun y s => y = u ∧ s.M = M ∧ wipeT s.sg vs = W0 ∧ vs.all (plainAt s.sg) = true) (hM : s.M = M) (hW : wipeT s.sg vs = W0) :
    (compS vs g c e [.int 0, .int 1, .int 2] [] s).sat fun a' s' => a' = [x, y, z] ∧ s'.M = M ∧ wipeT s'.sg vs = W0 := by
  refine Out.sat.mono (cs_map (onAxis x y z) (W0 := W0) (M := M) _ [] s (fun w hw => ?_) hM hW (by decide)) fun a s ⟨h1, h2, h3⟩ => ⟨h1, h2, h3⟩
  simp only [List.mem_cons, List.not_mem_nil, or_false] at hw
  rcases hw with rfl | rfl | rfl
  · exact h 0 x (.inl ⟨rfl, rfl⟩)
  · exact h 1 y (.inr (.inl ⟨rfl, rfl⟩))
  · exact h 2 z (.inr (.inr ⟨rfl, rfl⟩))
/-- where a fraction p/q lies between two ints: -1 out, 0 at the end, 1 within -/
def cls (p q l h : Int) : Int := if p < l * q ∨ h * q < p then -1 else if (l = p ∧ 1 = q) ∨ (h = p ∧ 1 = q) then 0 else 1
theorem side_cls {p q l h : Int} (hq : 1 ≤ q) (hg : Int.gcd p q = 1) (hl : l < h) :
    (if sgn (p * 1 - l * q) < 0 ∨ sgn (h * q - p * 1) < 0 then -1 else if sgn (h * q - p * 1) < sgn (p * 1 - l * q) then sgn (h * q - p * 1) else sgn (p * 1 - l * q)) = cls p q l h := by
  have one : ∀ m : Int, p = m * q → q = 1 := fun m e => by
    subst e
    have hg2 : Int.gcd (m * q) q = q.natAbs := by rw [Int.gcd_comm, Int.gcd_mul_left_right]
    omega
  unfold cls sgn
  rw [Int.mul_one]
  by_cases c1 : p < l * q
  · rw [if_pos (Or.inl c1 : p < l * q ∨ h * q < p)]
    rw [if_neg (show ¬ 0 < p - l * q by omega), if_neg (show ¬ p - l * q = 0 by omega)]
    simp
  · by_cases c2 : h * q < p
    · rw [if_pos (Or.inr c2 : p < l * q ∨ h * q < p)]
      rw [if_neg (show ¬ 0 < h * q - p by omega), if_neg (show ¬ h * q - p = 0 by omega)]
      simp
    · rw [if_neg (show ¬ (p < l * q ∨ h * q < p) by omega)]
      by_cases d1 : p = l * q
      · have q1 := one l d1
        have hx : p - l * q = 0 := by omega
        have hy : 0 < h * q - p := by rw [q1] at d1 ⊢; omega
        have hc : (l = p ∧ 1 = q) ∨ (h = p ∧ 1 = q) := .inl ⟨by rw [q1] at d1; omega, q1.symm⟩
        rw [if_pos hc, hx, if_pos hy]
        simp
      · by_cases d2 : h * q = p
        · have q1 := one h d2.symm
          have hx : h * q - p = 0 := by omega
          have hy : 0 < p - l * q := by rw [q1] at d2 ⊢; omega
          have hc : (l = p ∧ 1 = q) ∨ (h = p ∧ 1 = q) := .inr ⟨by rw [q1] at d2; omega, q1.symm⟩
          rw [if_pos hc, hx, if_pos hy]
          simp
        · have hc : ¬ ((l = p ∧ 1 = q) ∨ (h = p ∧ 1 = q)) := by
            rintro (⟨h1, h2⟩ | ⟨h1, h2⟩)
            · exact d1 (by rw [← h2]; omega)
            · exact d2 (by rw [← h2]; omega)
          rw [if_neg hc, if_pos (show 0 < p - l * q by omega), if_pos (show 0 < h * q - p by omega)]
          simp
def min3 (x y z : Int) : Int := if z < (if y < x then y else x) then z else if y < x then y else x
/-- a point of three fractions -/
abbrev pt (p q p' q' p'' q'' : Int) : W := .tup [.tup [.int p, .int q], .tup [.int p', .int q'], .tup [.int p'', .int q'']]
/-- a fraction in its lowest terms, small -/
def Fr (p q : Int) : Prop := 1 ≤ q ∧ q < 1000000 ∧ Int.gcd p q = 1
theorem c_is_fraction {p q : Int} (g : Fr p q) (h : R (.w (.bl true)) M) : ((ob (n + 2)).fn 29 [.w (.tup [.int p, .int q])] M).sat R := by
  rw [r29, w_run]; unfold d29
  refine w_stp fun k hk => ?_; try simp only [Rk.sat_ok, Rk.osat_some, Rk.osat_none, Rk.osat_ite, Rk.osat_map, Rk.osat_bind, Rk.w_var, Rk.w_con, Rk.w_bin, Rk.w_cmp, Rk.w_ix, Rk.w_bi, Rk.w_es0, Rk.w_es, Rk.w_ts0, Rk.w_ts, Rk.w_ws0, Rk.w_ws, Rk.w_W, Rk.w_T, Rk.w_esc, Rk.w_givw, Rk.w_givl, Rk.w_tup, Rk.w_lst, Rk.w_call, Rk.w_callK, Rk.w_un, Rk.w_not, Rk.w_and, Rk.w_or, Rk.w_ifx, Rk.w_sl, Rk.w_no, Rk.w_so, Rk.w_asb, Rk.w_tru, Rk.w_bnot, Rk.w_band, Rk.w_bor, Rk.w_yes, Rk.w_skip, Rk.w_expr, Rk.w_set, Rk.w_ret, Rk.w_retN, Rk.w_if, Rk.w_asg, Rk.w_par, Rk.w_gnm, Rk.w_gsb, Rk.w_mt, Rk.w_ext, Rk.w_gtp, Rk.w_gsc, Rk.w_gsn, Rk.w_escs, Rk.w_givs, Rk.slQ_l, Rk.slQ_w, Rk.backT, Option.getD_some, Option.getD_none, Rk.get_w, Rk.get_l, Rk.get_sl, Rk.seq_tup, Rk.seq_rol, Rk.seq_l, Rk.seq_loc, Rk.seq_sl, Rk.lst_rol, Rk.lst_l, Rk.lst_loc, Rk.lst_sl, Rk.lst_tup, Rk.ix_int, Rk.ix_some, Rk.seqT_l, Rk.seqT_tup, Rk.seqT_rol, Rk.seqT_loc, Rk.lstT_l, Rk.lstT_rol, Rk.lstT_loc, Rk.at_0, Rk.at_1, Rk.at_2, Rk.at_3, Rk.at_4, Rk.at_5, Rk.bin_int, Rk.i_add, Rk.i_sub, Rk.i_mul, Rk.i_div, Rk.i_mod, Rk.i_pow, Rk.u_neg, Rk.c_lt, Rk.c_le, Rk.c_gt, Rk.c_ge, Rk.c_eq, Rk.c_ne, Rk.c_isN, Rk.c_isI, Rk.c_seq, Rk.c_sne, Rk.t_non, Rk.t_bl, Rk.t_int, Rk.iw_int, Rk.bt_bl, Rk.b_int, Rk.b_intb, Rk.b_abs, Rk.b_lent, Rk.b_lenr, Rk.b_lenl, Rk.b_tup, Rk.b_list, Rk.b_all, Rk.b_any, Rk.b_sum, Rk.bls_nil, Rk.bls_cons, Rk.ints_nil, Rk.ints_cons, Rk.b_min1, Rk.b_max1, Rk.b_min2, Rk.b_max2, Rk.m_loc, Rk.m_sl, Rk.p_nil, Rk.p_cons, Rk.set_s, Rk.esc_l, Rk.isI_int, Rk.isI_bool, Rk.isI_tup, List.cons_append, List.nil_append, List.append_nil, List.getElem?_cons_zero, List.getElem?_cons_succ, List.set_cons_zero, List.set_cons_succ, List.length_cons, List.length_nil, List.map_nil, List.map_cons, Option.bind_some, Option.bind_none, Option.map_some, Option.map_none, Option.isSome_some, id_eq, true_and, and_true, decide_eq_true_eq, List.replicate_succ, List.replicate_zero, Nat.reduceAdd, Nat.reduceSub, Int.reduceMul, Int.reduceAdd, Int.reduceSub, Int.reduceNeg, if_true, if_false, Bool.true_eq_false, Bool.false_eq_true, reduceIte]
  refine c_is_tuple (by simp) (by simp) ?_
  try simp only [Rk.sat_ok, Rk.osat_some, Rk.osat_none, Rk.osat_ite, Rk.osat_map, Rk.osat_bind, Rk.w_var, Rk.w_con, Rk.w_bin, Rk.w_cmp, Rk.w_ix, Rk.w_bi, Rk.w_es0, Rk.w_es, Rk.w_ts0, Rk.w_ts, Rk.w_ws0, Rk.w_ws, Rk.w_W, Rk.w_T, Rk.w_esc, Rk.w_givw, Rk.w_givl, Rk.w_tup, Rk.w_lst, Rk.w_call, Rk.w_callK, Rk.w_un, Rk.w_not, Rk.w_and, Rk.w_or, Rk.w_ifx, Rk.w_sl, Rk.w_no, Rk.w_so, Rk.w_asb, Rk.w_tru, Rk.w_bnot, Rk.w_band, Rk.w_bor, Rk.w_yes, Rk.w_skip, Rk.w_expr, Rk.w_set, Rk.w_ret, Rk.w_retN, Rk.w_if, Rk.w_asg, Rk.w_par, Rk.w_gnm, Rk.w_gsb, Rk.w_mt, Rk.w_ext, Rk.w_gtp, Rk.w_gsc, Rk.w_gsn, Rk.w_escs, Rk.w_givs, Rk.slQ_l, Rk.slQ_w, Rk.backT, Option.getD_some, Option.getD_none, Rk.get_w, Rk.get_l, Rk.get_sl, Rk.seq_tup, Rk.seq_rol, Rk.seq_l, Rk.seq_loc, Rk.seq_sl, Rk.lst_rol, Rk.lst_l, Rk.lst_loc, Rk.lst_sl, Rk.lst_tup, Rk.ix_int, Rk.ix_some, Rk.seqT_l, Rk.seqT_tup, Rk.seqT_rol, Rk.seqT_loc, Rk.lstT_l, Rk.lstT_rol, Rk.lstT_loc, Rk.at_0, Rk.at_1, Rk.at_2, Rk.at_3, Rk.at_4, Rk.at_5, Rk.bin_int, Rk.i_add, Rk.i_sub, Rk.i_mul, Rk.i_div, Rk.i_mod, Rk.i_pow, Rk.u_neg, Rk.c_lt, Rk.c_le, Rk.c_gt, Rk.c_ge, Rk.c_eq, Rk.c_ne, Rk.c_isN, Rk.c_isI, Rk.c_seq, Rk.c_sne, Rk.t_non, Rk.t_bl, Rk.t_int, Rk.iw_int, Rk.bt_bl, Rk.b_int, Rk.b_intb, Rk.b_abs, Rk.b_lent, Rk.b_lenr, Rk.b_lenl, Rk.b_tup, Rk.b_list, Rk.b_all, Rk.b_any, Rk.b_sum, Rk.bls_nil, Rk.bls_cons, Rk.ints_nil, Rk.ints_cons, Rk.b_min1, Rk.b_max1, Rk.b_min2, Rk.b_max2, Rk.m_loc, Rk.m_sl, Rk.p_nil, Rk.p_cons, Rk.set_s, Rk.esc_l, Rk.isI_int, Rk.isI_bool, Rk.isI_tup, List.cons_append, List.nil_append, List.append_nil, List.getElem?_cons_zero, List.getElem?_cons_succ, List.set_cons_zero, List.set_cons_succ, List.length_cons, List.length_nil, List.map_nil, List.map_cons, Option.bind_some, Option.bind_none, Option.map_some, Option.map_none, Option.isSome_some, id_eq, true_and, and_true, decide_eq_true_eq, List.replicate_succ, List.replicate_zero, Nat.reduceAdd, Nat.reduceSub, Int.reduceMul, Int.reduceAdd, Int.reduceSub, Int.reduceNeg, if_true, if_false, Bool.true_eq_false, Bool.false_eq_true, reduceIte, w_comp, w_walk, k_tup, w_gsnap, Bool.not_true]
  refine ⟨rfl, Out.sat.mono (all_whole (ns := [p, q]) (by simp)) fun acc s' ⟨e1, e2, e3⟩ => ?_⟩
  subst e1
  rw [e2, e3]
  try simp only [Rk.sat_ok, Rk.osat_some, Rk.osat_none, Rk.osat_ite, Rk.osat_map, Rk.osat_bind, Rk.w_var, Rk.w_con, Rk.w_bin, Rk.w_cmp, Rk.w_ix, Rk.w_bi, Rk.w_es0, Rk.w_es, Rk.w_ts0, Rk.w_ts, Rk.w_ws0, Rk.w_ws, Rk.w_W, Rk.w_T, Rk.w_esc, Rk.w_givw, Rk.w_givl, Rk.w_tup, Rk.w_lst, Rk.w_call, Rk.w_callK, Rk.w_un, Rk.w_not, Rk.w_and, Rk.w_or, Rk.w_ifx, Rk.w_sl, Rk.w_no, Rk.w_so, Rk.w_asb, Rk.w_tru, Rk.w_bnot, Rk.w_band, Rk.w_bor, Rk.w_yes, Rk.w_skip, Rk.w_expr, Rk.w_set, Rk.w_ret, Rk.w_retN, Rk.w_if, Rk.w_asg, Rk.w_par, Rk.w_gnm, Rk.w_gsb, Rk.w_mt, Rk.w_ext, Rk.w_gtp, Rk.w_gsc, Rk.w_gsn, Rk.w_escs, Rk.w_givs, Rk.slQ_l, Rk.slQ_w, Rk.backT, Option.getD_some, Option.getD_none, Rk.get_w, Rk.get_l, Rk.get_sl, Rk.seq_tup, Rk.seq_rol, Rk.seq_l, Rk.seq_loc, Rk.seq_sl, Rk.lst_rol, Rk.lst_l, Rk.lst_loc, Rk.lst_sl, Rk.lst_tup, Rk.ix_int, Rk.ix_some, Rk.seqT_l, Rk.seqT_tup, Rk.seqT_rol, Rk.seqT_loc, Rk.lstT_l, Rk.lstT_rol, Rk.lstT_loc, Rk.at_0, Rk.at_1, Rk.at_2, Rk.at_3, Rk.at_4, Rk.at_5, Rk.bin_int, Rk.i_add, Rk.i_sub, Rk.i_mul, Rk.i_div, Rk.i_mod, Rk.i_pow, Rk.u_neg, Rk.c_lt, Rk.c_le, Rk.c_gt, Rk.c_ge, Rk.c_eq, Rk.c_ne, Rk.c_isN, Rk.c_isI, Rk.c_seq, Rk.c_sne, Rk.t_non, Rk.t_bl, Rk.t_int, Rk.iw_int, Rk.bt_bl, Rk.b_int, Rk.b_intb, Rk.b_abs, Rk.b_lent, Rk.b_lenr, Rk.b_lenl, Rk.b_tup, Rk.b_list, Rk.b_all, Rk.b_any, Rk.b_sum, Rk.bls_nil, Rk.bls_cons, Rk.ints_nil, Rk.ints_cons, Rk.b_min1, Rk.b_max1, Rk.b_min2, Rk.b_max2, Rk.m_loc, Rk.m_sl, Rk.p_nil, Rk.p_cons, Rk.set_s, Rk.esc_l, Rk.isI_int, Rk.isI_bool, Rk.isI_tup, List.cons_append, List.nil_append, List.append_nil, List.getElem?_cons_zero, List.getElem?_cons_succ, List.set_cons_zero, List.set_cons_succ, List.length_cons, List.length_nil, List.map_nil, List.map_cons, Option.bind_some, Option.bind_none, Option.map_some, Option.map_none, Option.isSome_some, id_eq, true_and, and_true, decide_eq_true_eq, List.replicate_succ, List.replicate_zero, Nat.reduceAdd, Nat.reduceSub, Int.reduceMul, Int.reduceAdd, Int.reduceSub, Int.reduceNeg, if_true, if_false, Bool.true_eq_false, Bool.false_eq_true, reduceIte, bls_all, all_all, Bool.not_true]
  refine hk _ ?_; clear hk k
  rw [w_seq]
  try simp only [Rk.sat_ok, Rk.osat_some, Rk.osat_none, Rk.osat_ite, Rk.osat_map, Rk.osat_bind, Rk.w_var, Rk.w_con, Rk.w_bin, Rk.w_cmp, Rk.w_ix, Rk.w_bi, Rk.w_es0, Rk.w_es, Rk.w_ts0, Rk.w_ts, Rk.w_ws0, Rk.w_ws, Rk.w_W, Rk.w_T, Rk.w_esc, Rk.w_givw, Rk.w_givl, Rk.w_tup, Rk.w_lst, Rk.w_call, Rk.w_callK, Rk.w_un, Rk.w_not, Rk.w_and, Rk.w_or, Rk.w_ifx, Rk.w_sl, Rk.w_no, Rk.w_so, Rk.w_asb, Rk.w_tru, Rk.w_bnot, Rk.w_band, Rk.w_bor, Rk.w_yes, Rk.w_skip, Rk.w_expr, Rk.w_set, Rk.w_ret, Rk.w_retN, Rk.w_if, Rk.w_asg, Rk.w_par, Rk.w_gnm, Rk.w_gsb, Rk.w_mt, Rk.w_ext, Rk.w_gtp, Rk.w_gsc, Rk.w_gsn, Rk.w_escs, Rk.w_givs, Rk.slQ_l, Rk.slQ_w, Rk.backT, Option.getD_some, Option.getD_none, Rk.get_w, Rk.get_l, Rk.get_sl, Rk.seq_tup, Rk.seq_rol, Rk.seq_l, Rk.seq_loc, Rk.seq_sl, Rk.lst_rol, Rk.lst_l, Rk.lst_loc, Rk.lst_sl, Rk.lst_tup, Rk.ix_int, Rk.ix_some, Rk.seqT_l, Rk.seqT_tup, Rk.seqT_rol, Rk.seqT_loc, Rk.lstT_l, Rk.lstT_rol, Rk.lstT_loc, Rk.at_0, Rk.at_1, Rk.at_2, Rk.at_3, Rk.at_4, Rk.at_5, Rk.bin_int, Rk.i_add, Rk.i_sub, Rk.i_mul, Rk.i_div, Rk.i_mod, Rk.i_pow, Rk.u_neg, Rk.c_lt, Rk.c_le, Rk.c_gt, Rk.c_ge, Rk.c_eq, Rk.c_ne, Rk.c_isN, Rk.c_isI, Rk.c_seq, Rk.c_sne, Rk.t_non, Rk.t_bl, Rk.t_int, Rk.iw_int, Rk.bt_bl, Rk.b_int, Rk.b_intb, Rk.b_abs, Rk.b_lent, Rk.b_lenr, Rk.b_lenl, Rk.b_tup, Rk.b_list, Rk.b_all, Rk.b_any, Rk.b_sum, Rk.bls_nil, Rk.bls_cons, Rk.ints_nil, Rk.ints_cons, Rk.b_min1, Rk.b_max1, Rk.b_min2, Rk.b_max2, Rk.m_loc, Rk.m_sl, Rk.p_nil, Rk.p_cons, Rk.set_s, Rk.esc_l, Rk.isI_int, Rk.isI_bool, Rk.isI_tup, List.cons_append, List.nil_append, List.append_nil, List.getElem?_cons_zero, List.getElem?_cons_succ, List.set_cons_zero, List.set_cons_succ, List.length_cons, List.length_nil, List.map_nil, List.map_cons, Option.bind_some, Option.bind_none, Option.map_some, Option.map_none, Option.isSome_some, id_eq, true_and, and_true, decide_eq_true_eq, List.replicate_succ, List.replicate_zero, Nat.reduceAdd, Nat.reduceSub, Int.reduceMul, Int.reduceAdd, Int.reduceSub, Int.reduceNeg, if_true, if_false, Bool.true_eq_false, Bool.false_eq_true, reduceIte]
  rw [if_pos g.1]
  refine c_common (by have := g.1; have := g.2.1; omega) ?_
  rw [g.2.2]
  try simp only [Rk.sat_ok, Rk.osat_some, Rk.osat_none, Rk.osat_ite, Rk.osat_map, Rk.osat_bind, Rk.w_var, Rk.w_con, Rk.w_bin, Rk.w_cmp, Rk.w_ix, Rk.w_bi, Rk.w_es0, Rk.w_es, Rk.w_ts0, Rk.w_ts, Rk.w_ws0, Rk.w_ws, Rk.w_W, Rk.w_T, Rk.w_esc, Rk.w_givw, Rk.w_givl, Rk.w_tup, Rk.w_lst, Rk.w_call, Rk.w_callK, Rk.w_un, Rk.w_not, Rk.w_and, Rk.w_or, Rk.w_ifx, Rk.w_sl, Rk.w_no, Rk.w_so, Rk.w_asb, Rk.w_tru, Rk.w_bnot, Rk.w_band, Rk.w_bor, Rk.w_yes, Rk.w_skip, Rk.w_expr, Rk.w_set, Rk.w_ret, Rk.w_retN, Rk.w_if, Rk.w_asg, Rk.w_par, Rk.w_gnm, Rk.w_gsb, Rk.w_mt, Rk.w_ext, Rk.w_gtp, Rk.w_gsc, Rk.w_gsn, Rk.w_escs, Rk.w_givs, Rk.slQ_l, Rk.slQ_w, Rk.backT, Option.getD_some, Option.getD_none, Rk.get_w, Rk.get_l, Rk.get_sl, Rk.seq_tup, Rk.seq_rol, Rk.seq_l, Rk.seq_loc, Rk.seq_sl, Rk.lst_rol, Rk.lst_l, Rk.lst_loc, Rk.lst_sl, Rk.lst_tup, Rk.ix_int, Rk.ix_some, Rk.seqT_l, Rk.seqT_tup, Rk.seqT_rol, Rk.seqT_loc, Rk.lstT_l, Rk.lstT_rol, Rk.lstT_loc, Rk.at_0, Rk.at_1, Rk.at_2, Rk.at_3, Rk.at_4, Rk.at_5, Rk.bin_int, Rk.i_add, Rk.i_sub, Rk.i_mul, Rk.i_div, Rk.i_mod, Rk.i_pow, Rk.u_neg, Rk.c_lt, Rk.c_le, Rk.c_gt, Rk.c_ge, Rk.c_eq, Rk.c_ne, Rk.c_isN, Rk.c_isI, Rk.c_seq, Rk.c_sne, Rk.t_non, Rk.t_bl, Rk.t_int, Rk.iw_int, Rk.bt_bl, Rk.b_int, Rk.b_intb, Rk.b_abs, Rk.b_lent, Rk.b_lenr, Rk.b_lenl, Rk.b_tup, Rk.b_list, Rk.b_all, Rk.b_any, Rk.b_sum, Rk.bls_nil, Rk.bls_cons, Rk.ints_nil, Rk.ints_cons, Rk.b_min1, Rk.b_max1, Rk.b_min2, Rk.b_max2, Rk.m_loc, Rk.m_sl, Rk.p_nil, Rk.p_cons, Rk.set_s, Rk.esc_l, Rk.isI_int, Rk.isI_bool, Rk.isI_tup, List.cons_append, List.nil_append, List.append_nil, List.getElem?_cons_zero, List.getElem?_cons_succ, List.set_cons_zero, List.set_cons_succ, List.length_cons, List.length_nil, List.map_nil, List.map_cons, Option.bind_some, Option.bind_none, Option.map_some, Option.map_none, Option.isSome_some, id_eq, true_and, and_true, decide_eq_true_eq, List.replicate_succ, List.replicate_zero, Nat.reduceAdd, Nat.reduceSub, Int.reduceMul, Int.reduceAdd, Int.reduceSub, Int.reduceNeg, if_true, if_false, Bool.true_eq_false, Bool.false_eq_true, reduceIte]
  exact h
theorem c_is_point {p q p' q' p'' q'' : Int} (g : Fr p q) (g' : Fr p' q') (g'' : Fr p'' q'') (h : R (.w (.bl true)) M) : ((ob (n + 3)).fn 24 [.w (pt p q p' q' p'' q'')] M).sat R := by
  rw [r24, w_run]; unfold d24; rw [w_seq]
  try simp only [Rk.sat_ok, Rk.osat_some, Rk.osat_none, Rk.osat_ite, Rk.osat_map, Rk.osat_bind, Rk.w_var, Rk.w_con, Rk.w_bin, Rk.w_cmp, Rk.w_ix, Rk.w_bi, Rk.w_es0, Rk.w_es, Rk.w_ts0, Rk.w_ts, Rk.w_ws0, Rk.w_ws, Rk.w_W, Rk.w_T, Rk.w_esc, Rk.w_givw, Rk.w_givl, Rk.w_tup, Rk.w_lst, Rk.w_call, Rk.w_callK, Rk.w_un, Rk.w_not, Rk.w_and, Rk.w_or, Rk.w_ifx, Rk.w_sl, Rk.w_no, Rk.w_so, Rk.w_asb, Rk.w_tru, Rk.w_bnot, Rk.w_band, Rk.w_bor, Rk.w_yes, Rk.w_skip, Rk.w_expr, Rk.w_set, Rk.w_ret, Rk.w_retN, Rk.w_if, Rk.w_asg, Rk.w_par, Rk.w_gnm, Rk.w_gsb, Rk.w_mt, Rk.w_ext, Rk.w_gtp, Rk.w_gsc, Rk.w_gsn, Rk.w_escs, Rk.w_givs, Rk.slQ_l, Rk.slQ_w, Rk.backT, Option.getD_some, Option.getD_none, Rk.get_w, Rk.get_l, Rk.get_sl, Rk.seq_tup, Rk.seq_rol, Rk.seq_l, Rk.seq_loc, Rk.seq_sl, Rk.lst_rol, Rk.lst_l, Rk.lst_loc, Rk.lst_sl, Rk.lst_tup, Rk.ix_int, Rk.ix_some, Rk.seqT_l, Rk.seqT_tup, Rk.seqT_rol, Rk.seqT_loc, Rk.lstT_l, Rk.lstT_rol, Rk.lstT_loc, Rk.at_0, Rk.at_1, Rk.at_2, Rk.at_3, Rk.at_4, Rk.at_5, Rk.bin_int, Rk.i_add, Rk.i_sub, Rk.i_mul, Rk.i_div, Rk.i_mod, Rk.i_pow, Rk.u_neg, Rk.c_lt, Rk.c_le, Rk.c_gt, Rk.c_ge, Rk.c_eq, Rk.c_ne, Rk.c_isN, Rk.c_isI, Rk.c_seq, Rk.c_sne, Rk.t_non, Rk.t_bl, Rk.t_int, Rk.iw_int, Rk.bt_bl, Rk.b_int, Rk.b_intb, Rk.b_abs, Rk.b_lent, Rk.b_lenr, Rk.b_lenl, Rk.b_tup, Rk.b_list, Rk.b_all, Rk.b_any, Rk.b_sum, Rk.bls_nil, Rk.bls_cons, Rk.ints_nil, Rk.ints_cons, Rk.b_min1, Rk.b_max1, Rk.b_min2, Rk.b_max2, Rk.m_loc, Rk.m_sl, Rk.p_nil, Rk.p_cons, Rk.set_s, Rk.esc_l, Rk.isI_int, Rk.isI_bool, Rk.isI_tup, List.cons_append, List.nil_append, List.append_nil, List.getElem?_cons_zero, List.getElem?_cons_succ, List.set_cons_zero, List.set_cons_succ, List.length_cons, List.length_nil, List.map_nil, List.map_cons, Option.bind_some, Option.bind_none, Option.map_some, Option.map_none, Option.isSome_some, id_eq, true_and, and_true, decide_eq_true_eq, List.replicate_succ, List.replicate_zero, Nat.reduceAdd, Nat.reduceSub, Int.reduceMul, Int.reduceAdd, Int.reduceSub, Int.reduceNeg, if_true, if_false, Bool.true_eq_false, Bool.false_eq_true, reduceIte]
  refine c_is_tuple (by simp) (by simp) ?_
  try simp only [Rk.sat_ok, Rk.osat_some, Rk.osat_none, Rk.osat_ite, Rk.osat_map, Rk.osat_bind, Rk.w_var, Rk.w_con, Rk.w_bin, Rk.w_cmp, Rk.w_ix, Rk.w_bi, Rk.w_es0, Rk.w_es, Rk.w_ts0, Rk.w_ts, Rk.w_ws0, Rk.w_ws, Rk.w_W, Rk.w_T, Rk.w_esc, Rk.w_givw, Rk.w_givl, Rk.w_tup, Rk.w_lst, Rk.w_call, Rk.w_callK, Rk.w_un, Rk.w_not, Rk.w_and, Rk.w_or, Rk.w_ifx, Rk.w_sl, Rk.w_no, Rk.w_so, Rk.w_asb, Rk.w_tru, Rk.w_bnot, Rk.w_band, Rk.w_bor, Rk.w_yes, Rk.w_skip, Rk.w_expr, Rk.w_set, Rk.w_ret, Rk.w_retN, Rk.w_if, Rk.w_asg, Rk.w_par, Rk.w_gnm, Rk.w_gsb, Rk.w_mt, Rk.w_ext, Rk.w_gtp, Rk.w_gsc, Rk.w_gsn, Rk.w_escs, Rk.w_givs, Rk.slQ_l, Rk.slQ_w, Rk.backT, Option.getD_some, Option.getD_none, Rk.get_w, Rk.get_l, Rk.get_sl, Rk.seq_tup, Rk.seq_rol, Rk.seq_l, Rk.seq_loc, Rk.seq_sl, Rk.lst_rol, Rk.lst_l, Rk.lst_loc, Rk.lst_sl, Rk.lst_tup, Rk.ix_int, Rk.ix_some, Rk.seqT_l, Rk.seqT_tup, Rk.seqT_rol, Rk.seqT_loc, Rk.lstT_l, Rk.lstT_rol, Rk.lstT_loc, Rk.at_0, Rk.at_1, Rk.at_2, Rk.at_3, Rk.at_4, Rk.at_5, Rk.bin_int, Rk.i_add, Rk.i_sub, Rk.i_mul, Rk.i_div, Rk.i_mod, Rk.i_pow, Rk.u_neg, Rk.c_lt, Rk.c_le, Rk.c_gt, Rk.c_ge, Rk.c_eq, Rk.c_ne, Rk.c_isN, Rk.c_isI, Rk.c_seq, Rk.c_sne, Rk.t_non, Rk.t_bl, Rk.t_int, Rk.iw_int, Rk.bt_bl, Rk.b_int, Rk.b_intb, Rk.b_abs, Rk.b_lent, Rk.b_lenr, Rk.b_lenl, Rk.b_tup, Rk.b_list, Rk.b_all, Rk.b_any, Rk.b_sum, Rk.bls_nil, Rk.bls_cons, Rk.ints_nil, Rk.ints_cons, Rk.b_min1, Rk.b_max1, Rk.b_min2, Rk.b_max2, Rk.m_loc, Rk.m_sl, Rk.p_nil, Rk.p_cons, Rk.set_s, Rk.esc_l, Rk.isI_int, Rk.isI_bool, Rk.isI_tup, List.cons_append, List.nil_append, List.append_nil, List.getElem?_cons_zero, List.getElem?_cons_succ, List.set_cons_zero, List.set_cons_succ, List.length_cons, List.length_nil, List.map_nil, List.map_cons, Option.bind_some, Option.bind_none, Option.map_some, Option.map_none, Option.isSome_some, id_eq, true_and, and_true, decide_eq_true_eq, List.replicate_succ, List.replicate_zero, Nat.reduceAdd, Nat.reduceSub, Int.reduceMul, Int.reduceAdd, Int.reduceSub, Int.reduceNeg, if_true, if_false, Bool.true_eq_false, Bool.false_eq_true, reduceIte, w_comp, w_walk, k_tup, w_gsnap]
  refine ⟨rfl, ?_⟩
  rw [Rk.cs_cons]; try simp only [Rk.sat_ok, Rk.osat_some, Rk.osat_none, Rk.osat_ite, Rk.osat_map, Rk.osat_bind, Rk.w_var, Rk.w_con, Rk.w_bin, Rk.w_cmp, Rk.w_ix, Rk.w_bi, Rk.w_es0, Rk.w_es, Rk.w_ts0, Rk.w_ts, Rk.w_ws0, Rk.w_ws, Rk.w_W, Rk.w_T, Rk.w_esc, Rk.w_givw, Rk.w_givl, Rk.w_tup, Rk.w_lst, Rk.w_call, Rk.w_callK, Rk.w_un, Rk.w_not, Rk.w_and, Rk.w_or, Rk.w_ifx, Rk.w_sl, Rk.w_no, Rk.w_so, Rk.w_asb, Rk.w_tru, Rk.w_bnot, Rk.w_band, Rk.w_bor, Rk.w_yes, Rk.w_skip, Rk.w_expr, Rk.w_set, Rk.w_ret, Rk.w_retN, Rk.w_if, Rk.w_asg, Rk.w_par, Rk.w_gnm, Rk.w_gsb, Rk.w_mt, Rk.w_ext, Rk.w_gtp, Rk.w_gsc, Rk.w_gsn, Rk.w_escs, Rk.w_givs, Rk.slQ_l, Rk.slQ_w, Rk.backT, Option.getD_some, Option.getD_none, Rk.get_w, Rk.get_l, Rk.get_sl, Rk.seq_tup, Rk.seq_rol, Rk.seq_l, Rk.seq_loc, Rk.seq_sl, Rk.lst_rol, Rk.lst_l, Rk.lst_loc, Rk.lst_sl, Rk.lst_tup, Rk.ix_int, Rk.ix_some, Rk.seqT_l, Rk.seqT_tup, Rk.seqT_rol, Rk.seqT_loc, Rk.lstT_l, Rk.lstT_rol, Rk.lstT_loc, Rk.at_0, Rk.at_1, Rk.at_2, Rk.at_3, Rk.at_4, Rk.at_5, Rk.bin_int, Rk.i_add, Rk.i_sub, Rk.i_mul, Rk.i_div, Rk.i_mod, Rk.i_pow, Rk.u_neg, Rk.c_lt, Rk.c_le, Rk.c_gt, Rk.c_ge, Rk.c_eq, Rk.c_ne, Rk.c_isN, Rk.c_isI, Rk.c_seq, Rk.c_sne, Rk.t_non, Rk.t_bl, Rk.t_int, Rk.iw_int, Rk.bt_bl, Rk.b_int, Rk.b_intb, Rk.b_abs, Rk.b_lent, Rk.b_lenr, Rk.b_lenl, Rk.b_tup, Rk.b_list, Rk.b_all, Rk.b_any, Rk.b_sum, Rk.bls_nil, Rk.bls_cons, Rk.ints_nil, Rk.ints_cons, Rk.b_min1, Rk.b_max1, Rk.b_min2, Rk.b_max2, Rk.m_loc, Rk.m_sl, Rk.p_nil, Rk.p_cons, Rk.set_s, Rk.esc_l, Rk.isI_int, Rk.isI_bool, Rk.isI_tup, List.cons_append, List.nil_append, List.append_nil, List.getElem?_cons_zero, List.getElem?_cons_succ, List.set_cons_zero, List.set_cons_succ, List.length_cons, List.length_nil, List.map_nil, List.map_cons, Option.bind_some, Option.bind_none, Option.map_some, Option.map_none, Option.isSome_some, id_eq, true_and, and_true, decide_eq_true_eq, List.replicate_succ, List.replicate_zero, Nat.reduceAdd, Nat.reduceSub, Int.reduceMul, Int.reduceAdd, Int.reduceSub, Int.reduceNeg, if_true, if_false, Bool.true_eq_false, Bool.false_eq_true, reduceIte, Rk.wipeS, Rk.wipeT]
  refine c_is_fraction g ?_
  try simp only [Rk.sat_ok, Rk.osat_some, Rk.osat_none, Rk.osat_ite, Rk.osat_map, Rk.osat_bind, Rk.w_var, Rk.w_con, Rk.w_bin, Rk.w_cmp, Rk.w_ix, Rk.w_bi, Rk.w_es0, Rk.w_es, Rk.w_ts0, Rk.w_ts, Rk.w_ws0, Rk.w_ws, Rk.w_W, Rk.w_T, Rk.w_esc, Rk.w_givw, Rk.w_givl, Rk.w_tup, Rk.w_lst, Rk.w_call, Rk.w_callK, Rk.w_un, Rk.w_not, Rk.w_and, Rk.w_or, Rk.w_ifx, Rk.w_sl, Rk.w_no, Rk.w_so, Rk.w_asb, Rk.w_tru, Rk.w_bnot, Rk.w_band, Rk.w_bor, Rk.w_yes, Rk.w_skip, Rk.w_expr, Rk.w_set, Rk.w_ret, Rk.w_retN, Rk.w_if, Rk.w_asg, Rk.w_par, Rk.w_gnm, Rk.w_gsb, Rk.w_mt, Rk.w_ext, Rk.w_gtp, Rk.w_gsc, Rk.w_gsn, Rk.w_escs, Rk.w_givs, Rk.slQ_l, Rk.slQ_w, Rk.backT, Option.getD_some, Option.getD_none, Rk.get_w, Rk.get_l, Rk.get_sl, Rk.seq_tup, Rk.seq_rol, Rk.seq_l, Rk.seq_loc, Rk.seq_sl, Rk.lst_rol, Rk.lst_l, Rk.lst_loc, Rk.lst_sl, Rk.lst_tup, Rk.ix_int, Rk.ix_some, Rk.seqT_l, Rk.seqT_tup, Rk.seqT_rol, Rk.seqT_loc, Rk.lstT_l, Rk.lstT_rol, Rk.lstT_loc, Rk.at_0, Rk.at_1, Rk.at_2, Rk.at_3, Rk.at_4, Rk.at_5, Rk.bin_int, Rk.i_add, Rk.i_sub, Rk.i_mul, Rk.i_div, Rk.i_mod, Rk.i_pow, Rk.u_neg, Rk.c_lt, Rk.c_le, Rk.c_gt, Rk.c_ge, Rk.c_eq, Rk.c_ne, Rk.c_isN, Rk.c_isI, Rk.c_seq, Rk.c_sne, Rk.t_non, Rk.t_bl, Rk.t_int, Rk.iw_int, Rk.bt_bl, Rk.b_int, Rk.b_intb, Rk.b_abs, Rk.b_lent, Rk.b_lenr, Rk.b_lenl, Rk.b_tup, Rk.b_list, Rk.b_all, Rk.b_any, Rk.b_sum, Rk.bls_nil, Rk.bls_cons, Rk.ints_nil, Rk.ints_cons, Rk.b_min1, Rk.b_max1, Rk.b_min2, Rk.b_max2, Rk.m_loc, Rk.m_sl, Rk.p_nil, Rk.p_cons, Rk.set_s, Rk.esc_l, Rk.isI_int, Rk.isI_bool, Rk.isI_tup, List.cons_append, List.nil_append, List.append_nil, List.getElem?_cons_zero, List.getElem?_cons_succ, List.set_cons_zero, List.set_cons_succ, List.length_cons, List.length_nil, List.map_nil, List.map_cons, Option.bind_some, Option.bind_none, Option.map_some, Option.map_none, Option.isSome_some, id_eq, true_and, and_true, decide_eq_true_eq, List.replicate_succ, List.replicate_zero, Nat.reduceAdd, Nat.reduceSub, Int.reduceMul, Int.reduceAdd, Int.reduceSub, Int.reduceNeg, if_true, if_false, Bool.true_eq_false, Bool.false_eq_true, reduceIte]
  refine ⟨⟨by decide, rfl⟩, ?_⟩
  rw [Rk.cs_cons]; try simp only [Rk.sat_ok, Rk.osat_some, Rk.osat_none, Rk.osat_ite, Rk.osat_map, Rk.osat_bind, Rk.w_var, Rk.w_con, Rk.w_bin, Rk.w_cmp, Rk.w_ix, Rk.w_bi, Rk.w_es0, Rk.w_es, Rk.w_ts0, Rk.w_ts, Rk.w_ws0, Rk.w_ws, Rk.w_W, Rk.w_T, Rk.w_esc, Rk.w_givw, Rk.w_givl, Rk.w_tup, Rk.w_lst, Rk.w_call, Rk.w_callK, Rk.w_un, Rk.w_not, Rk.w_and, Rk.w_or, Rk.w_ifx, Rk.w_sl, Rk.w_no, Rk.w_so, Rk.w_asb, Rk.w_tru, Rk.w_bnot, Rk.w_band, Rk.w_bor, Rk.w_yes, Rk.w_skip, Rk.w_expr, Rk.w_set, Rk.w_ret, Rk.w_retN, Rk.w_if, Rk.w_asg, Rk.w_par, Rk.w_gnm, Rk.w_gsb, Rk.w_mt, Rk.w_ext, Rk.w_gtp, Rk.w_gsc, Rk.w_gsn, Rk.w_escs, Rk.w_givs, Rk.slQ_l, Rk.slQ_w, Rk.backT, Option.getD_some, Option.getD_none, Rk.get_w, Rk.get_l, Rk.get_sl, Rk.seq_tup, Rk.seq_rol, Rk.seq_l, Rk.seq_loc, Rk.seq_sl, Rk.lst_rol, Rk.lst_l, Rk.lst_loc, Rk.lst_sl, Rk.lst_tup, Rk.ix_int, Rk.ix_some, Rk.seqT_l, Rk.seqT_tup, Rk.seqT_rol, Rk.seqT_loc, Rk.lstT_l, Rk.lstT_rol, Rk.lstT_loc, Rk.at_0, Rk.at_1, Rk.at_2, Rk.at_3, Rk.at_4, Rk.at_5, Rk.bin_int, Rk.i_add, Rk.i_sub, Rk.i_mul, Rk.i_div, Rk.i_mod, Rk.i_pow, Rk.u_neg, Rk.c_lt, Rk.c_le, Rk.c_gt, Rk.c_ge, Rk.c_eq, Rk.c_ne, Rk.c_isN, Rk.c_isI, Rk.c_seq, Rk.c_sne, Rk.t_non, Rk.t_bl, Rk.t_int, Rk.iw_int, Rk.bt_bl, Rk.b_int, Rk.b_intb, Rk.b_abs, Rk.b_lent, Rk.b_lenr, Rk.b_lenl, Rk.b_tup, Rk.b_list, Rk.b_all, Rk.b_any, Rk.b_sum, Rk.bls_nil, Rk.bls_cons, Rk.ints_nil, Rk.ints_cons, Rk.b_min1, Rk.b_max1, Rk.b_min2, Rk.b_max2, Rk.m_loc, Rk.m_sl, Rk.p_nil, Rk.p_cons, Rk.set_s, Rk.esc_l, Rk.isI_int, Rk.isI_bool, Rk.isI_tup, List.cons_append, List.nil_append, List.append_nil, List.getElem?_cons_zero, List.getElem?_cons_succ, List.set_cons_zero, List.set_cons_succ, List.length_cons, List.length_nil, List.map_nil, List.map_cons, Option.bind_some, Option.bind_none, Option.map_some, Option.map_none, Option.isSome_some, id_eq, true_and, and_true, decide_eq_true_eq, List.replicate_succ, List.replicate_zero, Nat.reduceAdd, Nat.reduceSub, Int.reduceMul, Int.reduceAdd, Int.reduceSub, Int.reduceNeg, if_true, if_false, Bool.true_eq_false, Bool.false_eq_true, reduceIte, Rk.wipeS, Rk.wipeT]
  refine c_is_fraction g' ?_
  try simp only [Rk.sat_ok, Rk.osat_some, Rk.osat_none, Rk.osat_ite, Rk.osat_map, Rk.osat_bind, Rk.w_var, Rk.w_con, Rk.w_bin, Rk.w_cmp, Rk.w_ix, Rk.w_bi, Rk.w_es0, Rk.w_es, Rk.w_ts0, Rk.w_ts, Rk.w_ws0, Rk.w_ws, Rk.w_W, Rk.w_T, Rk.w_esc, Rk.w_givw, Rk.w_givl, Rk.w_tup, Rk.w_lst, Rk.w_call, Rk.w_callK, Rk.w_un, Rk.w_not, Rk.w_and, Rk.w_or, Rk.w_ifx, Rk.w_sl, Rk.w_no, Rk.w_so, Rk.w_asb, Rk.w_tru, Rk.w_bnot, Rk.w_band, Rk.w_bor, Rk.w_yes, Rk.w_skip, Rk.w_expr, Rk.w_set, Rk.w_ret, Rk.w_retN, Rk.w_if, Rk.w_asg, Rk.w_par, Rk.w_gnm, Rk.w_gsb, Rk.w_mt, Rk.w_ext, Rk.w_gtp, Rk.w_gsc, Rk.w_gsn, Rk.w_escs, Rk.w_givs, Rk.slQ_l, Rk.slQ_w, Rk.backT, Option.getD_some, Option.getD_none, Rk.get_w, Rk.get_l, Rk.get_sl, Rk.seq_tup, Rk.seq_rol, Rk.seq_l, Rk.seq_loc, Rk.seq_sl, Rk.lst_rol, Rk.lst_l, Rk.lst_loc, Rk.lst_sl, Rk.lst_tup, Rk.ix_int, Rk.ix_some, Rk.seqT_l, Rk.seqT_tup, Rk.seqT_rol, Rk.seqT_loc, Rk.lstT_l, Rk.lstT_rol, Rk.lstT_loc, Rk.at_0, Rk.at_1, Rk.at_2, Rk.at_3, Rk.at_4, Rk.at_5, Rk.bin_int, Rk.i_add, Rk.i_sub, Rk.i_mul, Rk.i_div, Rk.i_mod, Rk.i_pow, Rk.u_neg, Rk.c_lt, Rk.c_le, Rk.c_gt, Rk.c_ge, Rk.c_eq, Rk.c_ne, Rk.c_isN, Rk.c_isI, Rk.c_seq, Rk.c_sne, Rk.t_non, Rk.t_bl, Rk.t_int, Rk.iw_int, Rk.bt_bl, Rk.b_int, Rk.b_intb, Rk.b_abs, Rk.b_lent, Rk.b_lenr, Rk.b_lenl, Rk.b_tup, Rk.b_list, Rk.b_all, Rk.b_any, Rk.b_sum, Rk.bls_nil, Rk.bls_cons, Rk.ints_nil, Rk.ints_cons, Rk.b_min1, Rk.b_max1, Rk.b_min2, Rk.b_max2, Rk.m_loc, Rk.m_sl, Rk.p_nil, Rk.p_cons, Rk.set_s, Rk.esc_l, Rk.isI_int, Rk.isI_bool, Rk.isI_tup, List.cons_append, List.nil_append, List.append_nil, List.getElem?_cons_zero, List.getElem?_cons_succ, List.set_cons_zero, List.set_cons_succ, List.length_cons, List.length_nil, List.map_nil, List.map_cons, Option.bind_some, Option.bind_none, Option.map_some, Option.map_none, Option.isSome_some, id_eq, true_and, and_true, decide_eq_true_eq, List.replicate_succ, List.replicate_zero, Nat.reduceAdd, Nat.reduceSub, Int.reduceMul, Int.reduceAdd, Int.reduceSub, Int.reduceNeg, if_true, if_false, Bool.true_eq_false, Bool.false_eq_true, reduceIte]
  refine ⟨⟨by decide, rfl⟩, ?_⟩
  rw [Rk.cs_cons]; try simp only [Rk.sat_ok, Rk.osat_some, Rk.osat_none, Rk.osat_ite, Rk.osat_map, Rk.osat_bind, Rk.w_var, Rk.w_con, Rk.w_bin, Rk.w_cmp, Rk.w_ix, Rk.w_bi, Rk.w_es0, Rk.w_es, Rk.w_ts0, Rk.w_ts, Rk.w_ws0, Rk.w_ws, Rk.w_W, Rk.w_T, Rk.w_esc, Rk.w_givw, Rk.w_givl, Rk.w_tup, Rk.w_lst, Rk.w_call, Rk.w_callK, Rk.w_un, Rk.w_not, Rk.w_and, Rk.w_or, Rk.w_ifx, Rk.w_sl, Rk.w_no, Rk.w_so, Rk.w_asb, Rk.w_tru, Rk.w_bnot, Rk.w_band, Rk.w_bor, Rk.w_yes, Rk.w_skip, Rk.w_expr, Rk.w_set, Rk.w_ret, Rk.w_retN, Rk.w_if, Rk.w_asg, Rk.w_par, Rk.w_gnm, Rk.w_gsb, Rk.w_mt, Rk.w_ext, Rk.w_gtp, Rk.w_gsc, Rk.w_gsn, Rk.w_escs, Rk.w_givs, Rk.slQ_l, Rk.slQ_w, Rk.backT, Option.getD_some, Option.getD_none, Rk.get_w, Rk.get_l, Rk.get_sl, Rk.seq_tup, Rk.seq_rol, Rk.seq_l, Rk.seq_loc, Rk.seq_sl, Rk.lst_rol, Rk.lst_l, Rk.lst_loc, Rk.lst_sl, Rk.lst_tup, Rk.ix_int, Rk.ix_some, Rk.seqT_l, Rk.seqT_tup, Rk.seqT_rol, Rk.seqT_loc, Rk.lstT_l, Rk.lstT_rol, Rk.lstT_loc, Rk.at_0, Rk.at_1, Rk.at_2, Rk.at_3, Rk.at_4, Rk.at_5, Rk.bin_int, Rk.i_add, Rk.i_sub, Rk.i_mul, Rk.i_div, Rk.i_mod, Rk.i_pow, Rk.u_neg, Rk.c_lt, Rk.c_le, Rk.c_gt, Rk.c_ge, Rk.c_eq, Rk.c_ne, Rk.c_isN, Rk.c_isI, Rk.c_seq, Rk.c_sne, Rk.t_non, Rk.t_bl, Rk.t_int, Rk.iw_int, Rk.bt_bl, Rk.b_int, Rk.b_intb, Rk.b_abs, Rk.b_lent, Rk.b_lenr, Rk.b_lenl, Rk.b_tup, Rk.b_list, Rk.b_all, Rk.b_any, Rk.b_sum, Rk.bls_nil, Rk.bls_cons, Rk.ints_nil, Rk.ints_cons, Rk.b_min1, Rk.b_max1, Rk.b_min2, Rk.b_max2, Rk.m_loc, Rk.m_sl, Rk.p_nil, Rk.p_cons, Rk.set_s, Rk.esc_l, Rk.isI_int, Rk.isI_bool, Rk.isI_tup, List.cons_append, List.nil_append, List.append_nil, List.getElem?_cons_zero, List.getElem?_cons_succ, List.set_cons_zero, List.set_cons_succ, List.length_cons, List.length_nil, List.map_nil, List.map_cons, Option.bind_some, Option.bind_none, Option.map_some, Option.map_none, Option.isSome_some, id_eq, true_and, and_true, decide_eq_true_eq, List.replicate_succ, List.replicate_zero, Nat.reduceAdd, Nat.reduceSub, Int.reduceMul, Int.reduceAdd, Int.reduceSub, Int.reduceNeg, if_true, if_false, Bool.true_eq_false, Bool.false_eq_true, reduceIte, Rk.wipeS, Rk.wipeT]
  refine c_is_fraction g'' ?_
  try simp only [Rk.sat_ok, Rk.osat_some, Rk.osat_none, Rk.osat_ite, Rk.osat_map, Rk.osat_bind, Rk.w_var, Rk.w_con, Rk.w_bin, Rk.w_cmp, Rk.w_ix, Rk.w_bi, Rk.w_es0, Rk.w_es, Rk.w_ts0, Rk.w_ts, Rk.w_ws0, Rk.w_ws, Rk.w_W, Rk.w_T, Rk.w_esc, Rk.w_givw, Rk.w_givl, Rk.w_tup, Rk.w_lst, Rk.w_call, Rk.w_callK, Rk.w_un, Rk.w_not, Rk.w_and, Rk.w_or, Rk.w_ifx, Rk.w_sl, Rk.w_no, Rk.w_so, Rk.w_asb, Rk.w_tru, Rk.w_bnot, Rk.w_band, Rk.w_bor, Rk.w_yes, Rk.w_skip, Rk.w_expr, Rk.w_set, Rk.w_ret, Rk.w_retN, Rk.w_if, Rk.w_asg, Rk.w_par, Rk.w_gnm, Rk.w_gsb, Rk.w_mt, Rk.w_ext, Rk.w_gtp, Rk.w_gsc, Rk.w_gsn, Rk.w_escs, Rk.w_givs, Rk.slQ_l, Rk.slQ_w, Rk.backT, Option.getD_some, Option.getD_none, Rk.get_w, Rk.get_l, Rk.get_sl, Rk.seq_tup, Rk.seq_rol, Rk.seq_l, Rk.seq_loc, Rk.seq_sl, Rk.lst_rol, Rk.lst_l, Rk.lst_loc, Rk.lst_sl, Rk.lst_tup, Rk.ix_int, Rk.ix_some, Rk.seqT_l, Rk.seqT_tup, Rk.seqT_rol, Rk.seqT_loc, Rk.lstT_l, Rk.lstT_rol, Rk.lstT_loc, Rk.at_0, Rk.at_1, Rk.at_2, Rk.at_3, Rk.at_4, Rk.at_5, Rk.bin_int, Rk.i_add, Rk.i_sub, Rk.i_mul, Rk.i_div, Rk.i_mod, Rk.i_pow, Rk.u_neg, Rk.c_lt, Rk.c_le, Rk.c_gt, Rk.c_ge, Rk.c_eq, Rk.c_ne, Rk.c_isN, Rk.c_isI, Rk.c_seq, Rk.c_sne, Rk.t_non, Rk.t_bl, Rk.t_int, Rk.iw_int, Rk.bt_bl, Rk.b_int, Rk.b_intb, Rk.b_abs, Rk.b_lent, Rk.b_lenr, Rk.b_lenl, Rk.b_tup, Rk.b_list, Rk.b_all, Rk.b_any, Rk.b_sum, Rk.bls_nil, Rk.bls_cons, Rk.ints_nil, Rk.ints_cons, Rk.b_min1, Rk.b_max1, Rk.b_min2, Rk.b_max2, Rk.m_loc, Rk.m_sl, Rk.p_nil, Rk.p_cons, Rk.set_s, Rk.esc_l, Rk.isI_int, Rk.isI_bool, Rk.isI_tup, List.cons_append, List.nil_append, List.append_nil, List.getElem?_cons_zero, List.getElem?_cons_succ, List.set_cons_zero, List.set_cons_succ, List.length_cons, List.length_nil, List.map_nil, List.map_cons, Option.bind_some, Option.bind_none, Option.map_some, Option.map_none, Option.isSome_some, id_eq, true_and, and_true, decide_eq_true_eq, List.replicate_succ, List.replicate_zero, Nat.reduceAdd, Nat.reduceSub, Int.reduceMul, Int.reduceAdd, Int.reduceSub, Int.reduceNeg, if_true, if_false, Bool.true_eq_false, Bool.false_eq_true, reduceIte, cs_nil]
  exact ⟨⟨by decide, rfl⟩, h⟩
theorem c_check_point {p q p' q' p'' q'' : Int} (g : Fr p q) (g' : Fr p' q') (g'' : Fr p'' q'') (h : R (.w .non) M) : ((ob (n + 4)).fn 18 [.w (pt p q p' q' p'' q'')] M).sat R := by
  rw [r18, w_run]; unfold d18; rw [w_seq]
  try simp only [Rk.sat_ok, Rk.osat_some, Rk.osat_none, Rk.osat_ite, Rk.osat_map, Rk.osat_bind, Rk.w_var, Rk.w_con, Rk.w_bin, Rk.w_cmp, Rk.w_ix, Rk.w_bi, Rk.w_es0, Rk.w_es, Rk.w_ts0, Rk.w_ts, Rk.w_ws0, Rk.w_ws, Rk.w_W, Rk.w_T, Rk.w_esc, Rk.w_givw, Rk.w_givl, Rk.w_tup, Rk.w_lst, Rk.w_call, Rk.w_callK, Rk.w_un, Rk.w_not, Rk.w_and, Rk.w_or, Rk.w_ifx, Rk.w_sl, Rk.w_no, Rk.w_so, Rk.w_asb, Rk.w_tru, Rk.w_bnot, Rk.w_band, Rk.w_bor, Rk.w_yes, Rk.w_skip, Rk.w_expr, Rk.w_set, Rk.w_ret, Rk.w_retN, Rk.w_if, Rk.w_asg, Rk.w_par, Rk.w_gnm, Rk.w_gsb, Rk.w_mt, Rk.w_ext, Rk.w_gtp, Rk.w_gsc, Rk.w_gsn, Rk.w_escs, Rk.w_givs, Rk.slQ_l, Rk.slQ_w, Rk.backT, Option.getD_some, Option.getD_none, Rk.get_w, Rk.get_l, Rk.get_sl, Rk.seq_tup, Rk.seq_rol, Rk.seq_l, Rk.seq_loc, Rk.seq_sl, Rk.lst_rol, Rk.lst_l, Rk.lst_loc, Rk.lst_sl, Rk.lst_tup, Rk.ix_int, Rk.ix_some, Rk.seqT_l, Rk.seqT_tup, Rk.seqT_rol, Rk.seqT_loc, Rk.lstT_l, Rk.lstT_rol, Rk.lstT_loc, Rk.at_0, Rk.at_1, Rk.at_2, Rk.at_3, Rk.at_4, Rk.at_5, Rk.bin_int, Rk.i_add, Rk.i_sub, Rk.i_mul, Rk.i_div, Rk.i_mod, Rk.i_pow, Rk.u_neg, Rk.c_lt, Rk.c_le, Rk.c_gt, Rk.c_ge, Rk.c_eq, Rk.c_ne, Rk.c_isN, Rk.c_isI, Rk.c_seq, Rk.c_sne, Rk.t_non, Rk.t_bl, Rk.t_int, Rk.iw_int, Rk.bt_bl, Rk.b_int, Rk.b_intb, Rk.b_abs, Rk.b_lent, Rk.b_lenr, Rk.b_lenl, Rk.b_tup, Rk.b_list, Rk.b_all, Rk.b_any, Rk.b_sum, Rk.bls_nil, Rk.bls_cons, Rk.ints_nil, Rk.ints_cons, Rk.b_min1, Rk.b_max1, Rk.b_min2, Rk.b_max2, Rk.m_loc, Rk.m_sl, Rk.p_nil, Rk.p_cons, Rk.set_s, Rk.esc_l, Rk.isI_int, Rk.isI_bool, Rk.isI_tup, List.cons_append, List.nil_append, List.append_nil, List.getElem?_cons_zero, List.getElem?_cons_succ, List.set_cons_zero, List.set_cons_succ, List.length_cons, List.length_nil, List.map_nil, List.map_cons, Option.bind_some, Option.bind_none, Option.map_some, Option.map_none, Option.isSome_some, id_eq, true_and, and_true, decide_eq_true_eq, List.replicate_succ, List.replicate_zero, Nat.reduceAdd, Nat.reduceSub, Int.reduceMul, Int.reduceAdd, Int.reduceSub, Int.reduceNeg, if_true, if_false, Bool.true_eq_false, Bool.false_eq_true, reduceIte]
  refine c_is_point g g' g'' ?_
  try simp only [Rk.sat_ok, Rk.osat_some, Rk.osat_none, Rk.osat_ite, Rk.osat_map, Rk.osat_bind, Rk.w_var, Rk.w_con, Rk.w_bin, Rk.w_cmp, Rk.w_ix, Rk.w_bi, Rk.w_es0, Rk.w_es, Rk.w_ts0, Rk.w_ts, Rk.w_ws0, Rk.w_ws, Rk.w_W, Rk.w_T, Rk.w_esc, Rk.w_givw, Rk.w_givl, Rk.w_tup, Rk.w_lst, Rk.w_call, Rk.w_callK, Rk.w_un, Rk.w_not, Rk.w_and, Rk.w_or, Rk.w_ifx, Rk.w_sl, Rk.w_no, Rk.w_so, Rk.w_asb, Rk.w_tru, Rk.w_bnot, Rk.w_band, Rk.w_bor, Rk.w_yes, Rk.w_skip, Rk.w_expr, Rk.w_set, Rk.w_ret, Rk.w_retN, Rk.w_if, Rk.w_asg, Rk.w_par, Rk.w_gnm, Rk.w_gsb, Rk.w_mt, Rk.w_ext, Rk.w_gtp, Rk.w_gsc, Rk.w_gsn, Rk.w_escs, Rk.w_givs, Rk.slQ_l, Rk.slQ_w, Rk.backT, Option.getD_some, Option.getD_none, Rk.get_w, Rk.get_l, Rk.get_sl, Rk.seq_tup, Rk.seq_rol, Rk.seq_l, Rk.seq_loc, Rk.seq_sl, Rk.lst_rol, Rk.lst_l, Rk.lst_loc, Rk.lst_sl, Rk.lst_tup, Rk.ix_int, Rk.ix_some, Rk.seqT_l, Rk.seqT_tup, Rk.seqT_rol, Rk.seqT_loc, Rk.lstT_l, Rk.lstT_rol, Rk.lstT_loc, Rk.at_0, Rk.at_1, Rk.at_2, Rk.at_3, Rk.at_4, Rk.at_5, Rk.bin_int, Rk.i_add, Rk.i_sub, Rk.i_mul, Rk.i_div, Rk.i_mod, Rk.i_pow, Rk.u_neg, Rk.c_lt, Rk.c_le, Rk.c_gt, Rk.c_ge, Rk.c_eq, Rk.c_ne, Rk.c_isN, Rk.c_isI, Rk.c_seq, Rk.c_sne, Rk.t_non, Rk.t_bl, Rk.t_int, Rk.iw_int, Rk.bt_bl, Rk.b_int, Rk.b_intb, Rk.b_abs, Rk.b_lent, Rk.b_lenr, Rk.b_lenl, Rk.b_tup, Rk.b_list, Rk.b_all, Rk.b_any, Rk.b_sum, Rk.bls_nil, Rk.bls_cons, Rk.ints_nil, Rk.ints_cons, Rk.b_min1, Rk.b_max1, Rk.b_min2, Rk.b_max2, Rk.m_loc, Rk.m_sl, Rk.p_nil, Rk.p_cons, Rk.set_s, Rk.esc_l, Rk.isI_int, Rk.isI_bool, Rk.isI_tup, List.cons_append, List.nil_append, List.append_nil, List.getElem?_cons_zero, List.getElem?_cons_succ, List.set_cons_zero, List.set_cons_succ, List.length_cons, List.length_nil, List.map_nil, List.map_cons, Option.bind_some, Option.bind_none, Option.map_some, Option.map_none, Option.isSome_some, id_eq, true_and, and_true, decide_eq_true_eq, List.replicate_succ, List.replicate_zero, Nat.reduceAdd, Nat.reduceSub, Int.reduceMul, Int.reduceAdd, Int.reduceSub, Int.reduceNeg, if_true, if_false, Bool.true_eq_false, Bool.false_eq_true, reduceIte, Bool.not_true]
  exact h
theorem c_law_take {k u : Int} {i : Nat} (hp : Pot M i k) (hk : k < 1000000) (hu : 0 < u) (hu' : u < 1073741824) (h : ∀ (r : Int) (ob : Ob), 0 ≤ r → r < u → Pot (M.set i ob) i (k + 1) → R (.w (.int r)) (M.set i ob)) : ((ob (n + 1)).fn 14 [.w (.loc i), .w (.int u)] M).sat R := by
  rw [r14]
  exact take_ok (by decide) (by decide) (by decide) (by decide) (by decide) (by decide) (by decide) (by decide) (by decide) (by decide) hp hk hu hu' h
theorem range3 : rangeW 0 3 = [.int 0, .int 1, .int 2] := rfl

end
end Law

namespace Law
open PySem PySem.Spec PyProof.Rows L2 Rk
section
variable {n : Nat} {M : List Ob} {R : T → List Ob → Prop}
def idx (p q : Int) : Int := if q = 1 then 2 * p else 2 * (p / q) + 1
theorem c_index_of {p q : Int} (g : Fr p q) (h : R (.w (.int (idx p q))) M) : ((ob (n + 1)).fn 23 [.w (.tup [.int p, .int q])] M).sat R := by
  rw [r23, w_run]; unfold d23
  refine w_stp fun k hk => ?_; try simp only [Rk.sat_ok, Rk.osat_some, Rk.osat_none, Rk.osat_ite, Rk.osat_map, Rk.osat_bind, Rk.w_var, Rk.w_con, Rk.w_bin, Rk.w_cmp, Rk.w_ix, Rk.w_bi, Rk.w_es0, Rk.w_es, Rk.w_ts0, Rk.w_ts, Rk.w_ws0, Rk.w_ws, Rk.w_W, Rk.w_T, Rk.w_esc, Rk.w_givw, Rk.w_givl, Rk.w_tup, Rk.w_lst, Rk.w_call, Rk.w_callK, Rk.w_un, Rk.w_not, Rk.w_and, Rk.w_or, Rk.w_ifx, Rk.w_sl, Rk.w_no, Rk.w_so, Rk.w_asb, Rk.w_tru, Rk.w_bnot, Rk.w_band, Rk.w_bor, Rk.w_yes, Rk.w_skip, Rk.w_expr, Rk.w_set, Rk.w_ret, Rk.w_retN, Rk.w_if, Rk.w_asg, Rk.w_par, Rk.w_gnm, Rk.w_gsb, Rk.w_mt, Rk.w_ext, Rk.w_gtp, Rk.w_gsc, Rk.w_gsn, Rk.w_escs, Rk.w_givs, Rk.slQ_l, Rk.slQ_w, Rk.backT, Option.getD_some, Option.getD_none, Rk.get_w, Rk.get_l, Rk.get_sl, Rk.seq_tup, Rk.seq_rol, Rk.seq_l, Rk.seq_loc, Rk.seq_sl, Rk.lst_rol, Rk.lst_l, Rk.lst_loc, Rk.lst_sl, Rk.lst_tup, Rk.ix_int, Rk.ix_some, Rk.seqT_l, Rk.seqT_tup, Rk.seqT_rol, Rk.seqT_loc, Rk.lstT_l, Rk.lstT_rol, Rk.lstT_loc, Rk.at_0, Rk.at_1, Rk.at_2, Rk.at_3, Rk.at_4, Rk.at_5, Rk.bin_int, Rk.i_add, Rk.i_sub, Rk.i_mul, Rk.i_div, Rk.i_mod, Rk.i_pow, Rk.u_neg, Rk.c_lt, Rk.c_le, Rk.c_gt, Rk.c_ge, Rk.c_eq, Rk.c_ne, Rk.c_isN, Rk.c_isI, Rk.c_seq, Rk.c_sne, Rk.t_non, Rk.t_bl, Rk.t_int, Rk.iw_int, Rk.bt_bl, Rk.b_int, Rk.b_intb, Rk.b_abs, Rk.b_lent, Rk.b_lenr, Rk.b_lenl, Rk.b_tup, Rk.b_list, Rk.b_all, Rk.b_any, Rk.b_sum, Rk.bls_nil, Rk.bls_cons, Rk.ints_nil, Rk.ints_cons, Rk.b_min1, Rk.b_max1, Rk.b_min2, Rk.b_max2, Rk.m_loc, Rk.m_sl, Rk.p_nil, Rk.p_cons, Rk.set_s, Rk.esc_l, Rk.isI_int, Rk.isI_bool, Rk.isI_tup, List.cons_append, List.nil_append, List.append_nil, List.getElem?_cons_zero, List.getElem?_cons_succ, List.set_cons_zero, List.set_cons_succ, List.length_cons, List.length_nil, List.map_nil, List.map_cons, Option.bind_some, Option.bind_none, Option.map_some, Option.map_none, Option.isSome_some, id_eq, true_and, and_true, decide_eq_true_eq, List.replicate_succ, List.replicate_zero, Nat.reduceAdd, Nat.reduceSub, Int.reduceMul, Int.reduceAdd, Int.reduceSub, Int.reduceNeg, if_true, if_false, Bool.true_eq_false, Bool.false_eq_true, reduceIte]
  refine hk _ ?_; clear hk k
  rw [w_seq]
  try simp only [Rk.sat_ok, Rk.osat_some, Rk.osat_none, Rk.osat_ite, Rk.osat_map, Rk.osat_bind, Rk.w_var, Rk.w_con, Rk.w_bin, Rk.w_cmp, Rk.w_ix, Rk.w_bi, Rk.w_es0, Rk.w_es, Rk.w_ts0, Rk.w_ts, Rk.w_ws0, Rk.w_ws, Rk.w_W, Rk.w_T, Rk.w_esc, Rk.w_givw, Rk.w_givl, Rk.w_tup, Rk.w_lst, Rk.w_call, Rk.w_callK, Rk.w_un, Rk.w_not, Rk.w_and, Rk.w_or, Rk.w_ifx, Rk.w_sl, Rk.w_no, Rk.w_so, Rk.w_asb, Rk.w_tru, Rk.w_bnot, Rk.w_band, Rk.w_bor, Rk.w_yes, Rk.w_skip, Rk.w_expr, Rk.w_set, Rk.w_ret, Rk.w_retN, Rk.w_if, Rk.w_asg, Rk.w_par, Rk.w_gnm, Rk.w_gsb, Rk.w_mt, Rk.w_ext, Rk.w_gtp, Rk.w_gsc, Rk.w_gsn, Rk.w_escs, Rk.w_givs, Rk.slQ_l, Rk.slQ_w, Rk.backT, Option.getD_some, Option.getD_none, Rk.get_w, Rk.get_l, Rk.get_sl, Rk.seq_tup, Rk.seq_rol, Rk.seq_l, Rk.seq_loc, Rk.seq_sl, Rk.lst_rol, Rk.lst_l, Rk.lst_loc, Rk.lst_sl, Rk.lst_tup, Rk.ix_int, Rk.ix_some, Rk.seqT_l, Rk.seqT_tup, Rk.seqT_rol, Rk.seqT_loc, Rk.lstT_l, Rk.lstT_rol, Rk.lstT_loc, Rk.at_0, Rk.at_1, Rk.at_2, Rk.at_3, Rk.at_4, Rk.at_5, Rk.bin_int, Rk.i_add, Rk.i_sub, Rk.i_mul, Rk.i_div, Rk.i_mod, Rk.i_pow, Rk.u_neg, Rk.c_lt, Rk.c_le, Rk.c_gt, Rk.c_ge, Rk.c_eq, Rk.c_ne, Rk.c_isN, Rk.c_isI, Rk.c_seq, Rk.c_sne, Rk.t_non, Rk.t_bl, Rk.t_int, Rk.iw_int, Rk.bt_bl, Rk.b_int, Rk.b_intb, Rk.b_abs, Rk.b_lent, Rk.b_lenr, Rk.b_lenl, Rk.b_tup, Rk.b_list, Rk.b_all, Rk.b_any, Rk.b_sum, Rk.bls_nil, Rk.bls_cons, Rk.ints_nil, Rk.ints_cons, Rk.b_min1, Rk.b_max1, Rk.b_min2, Rk.b_max2, Rk.m_loc, Rk.m_sl, Rk.p_nil, Rk.p_cons, Rk.set_s, Rk.esc_l, Rk.isI_int, Rk.isI_bool, Rk.isI_tup, List.cons_append, List.nil_append, List.append_nil, List.getElem?_cons_zero, List.getElem?_cons_succ, List.set_cons_zero, List.set_cons_succ, List.length_cons, List.length_nil, List.map_nil, List.map_cons, Option.bind_some, Option.bind_none, Option.map_some, Option.map_none, Option.isSome_some, id_eq, true_and, and_true, decide_eq_true_eq, List.replicate_succ, List.replicate_zero, Nat.reduceAdd, Nat.reduceSub, Int.reduceMul, Int.reduceAdd, Int.reduceSub, Int.reduceNeg, if_true, if_false, Bool.true_eq_false, Bool.false_eq_true, reduceIte]
  unfold idx at h
  by_cases c : q = 1
  · rw [if_pos c] at h ⊢
    exact ⟨mulOk_s (by decide), h⟩
  · rw [if_neg c] at h ⊢
    have e : iDiv p q = p / q := if_pos (by have := g.1; omega)
    rw [← e] at h
    exact ⟨divOk_s (by have := g.1; omega) (by have := g.2.1; omega), mulOk_s (by decide), h⟩
theorem c_law_index {p q : Int} (g : Fr p q) (h : R (.w (.int (idx p q))) M) : ((ob (n + 1)).fn 6 [.w (.tup [.int p, .int q])] M).sat R := by
  rw [r6, w_run]; unfold d6
  refine w_stp fun k hk => ?_; try simp only [Rk.sat_ok, Rk.osat_some, Rk.osat_none, Rk.osat_ite, Rk.osat_map, Rk.osat_bind, Rk.w_var, Rk.w_con, Rk.w_bin, Rk.w_cmp, Rk.w_ix, Rk.w_bi, Rk.w_es0, Rk.w_es, Rk.w_ts0, Rk.w_ts, Rk.w_ws0, Rk.w_ws, Rk.w_W, Rk.w_T, Rk.w_esc, Rk.w_givw, Rk.w_givl, Rk.w_tup, Rk.w_lst, Rk.w_call, Rk.w_callK, Rk.w_un, Rk.w_not, Rk.w_and, Rk.w_or, Rk.w_ifx, Rk.w_sl, Rk.w_no, Rk.w_so, Rk.w_asb, Rk.w_tru, Rk.w_bnot, Rk.w_band, Rk.w_bor, Rk.w_yes, Rk.w_skip, Rk.w_expr, Rk.w_set, Rk.w_ret, Rk.w_retN, Rk.w_if, Rk.w_asg, Rk.w_par, Rk.w_gnm, Rk.w_gsb, Rk.w_mt, Rk.w_ext, Rk.w_gtp, Rk.w_gsc, Rk.w_gsn, Rk.w_escs, Rk.w_givs, Rk.slQ_l, Rk.slQ_w, Rk.backT, Option.getD_some, Option.getD_none, Rk.get_w, Rk.get_l, Rk.get_sl, Rk.seq_tup, Rk.seq_rol, Rk.seq_l, Rk.seq_loc, Rk.seq_sl, Rk.lst_rol, Rk.lst_l, Rk.lst_loc, Rk.lst_sl, Rk.lst_tup, Rk.ix_int, Rk.ix_some, Rk.seqT_l, Rk.seqT_tup, Rk.seqT_rol, Rk.seqT_loc, Rk.lstT_l, Rk.lstT_rol, Rk.lstT_loc, Rk.at_0, Rk.at_1, Rk.at_2, Rk.at_3, Rk.at_4, Rk.at_5, Rk.bin_int, Rk.i_add, Rk.i_sub, Rk.i_mul, Rk.i_div, Rk.i_mod, Rk.i_pow, Rk.u_neg, Rk.c_lt, Rk.c_le, Rk.c_gt, Rk.c_ge, Rk.c_eq, Rk.c_ne, Rk.c_isN, Rk.c_isI, Rk.c_seq, Rk.c_sne, Rk.t_non, Rk.t_bl, Rk.t_int, Rk.iw_int, Rk.bt_bl, Rk.b_int, Rk.b_intb, Rk.b_abs, Rk.b_lent, Rk.b_lenr, Rk.b_lenl, Rk.b_tup, Rk.b_list, Rk.b_all, Rk.b_any, Rk.b_sum, Rk.bls_nil, Rk.bls_cons, Rk.ints_nil, Rk.ints_cons, Rk.b_min1, Rk.b_max1, Rk.b_min2, Rk.b_max2, Rk.m_loc, Rk.m_sl, Rk.p_nil, Rk.p_cons, Rk.set_s, Rk.esc_l, Rk.isI_int, Rk.isI_bool, Rk.isI_tup, List.cons_append, List.nil_append, List.append_nil, List.getElem?_cons_zero, List.getElem?_cons_succ, List.set_cons_zero, List.set_cons_succ, List.length_cons, List.length_nil, List.map_nil, List.map_cons, Option.bind_some, Option.bind_none, Option.map_some, Option.map_none, Option.isSome_some, id_eq, true_and, and_true, decide_eq_true_eq, List.replicate_succ, List.replicate_zero, Nat.reduceAdd, Nat.reduceSub, Int.reduceMul, Int.reduceAdd, Int.reduceSub, Int.reduceNeg, if_true, if_false, Bool.true_eq_false, Bool.false_eq_true, reduceIte]
  refine ⟨divOk_s (by have := g.1; omega) (by have := g.2.1; omega), ?_⟩
  refine hk _ ?_; clear hk k
  have e : iDiv p q = p / q := if_pos (by have := g.1; omega)
  rw [e, w_seq]
  try simp only [Rk.sat_ok, Rk.osat_some, Rk.osat_none, Rk.osat_ite, Rk.osat_map, Rk.osat_bind, Rk.w_var, Rk.w_con, Rk.w_bin, Rk.w_cmp, Rk.w_ix, Rk.w_bi, Rk.w_es0, Rk.w_es, Rk.w_ts0, Rk.w_ts, Rk.w_ws0, Rk.w_ws, Rk.w_W, Rk.w_T, Rk.w_esc, Rk.w_givw, Rk.w_givl, Rk.w_tup, Rk.w_lst, Rk.w_call, Rk.w_callK, Rk.w_un, Rk.w_not, Rk.w_and, Rk.w_or, Rk.w_ifx, Rk.w_sl, Rk.w_no, Rk.w_so, Rk.w_asb, Rk.w_tru, Rk.w_bnot, Rk.w_band, Rk.w_bor, Rk.w_yes, Rk.w_skip, Rk.w_expr, Rk.w_set, Rk.w_ret, Rk.w_retN, Rk.w_if, Rk.w_asg, Rk.w_par, Rk.w_gnm, Rk.w_gsb, Rk.w_mt, Rk.w_ext, Rk.w_gtp, Rk.w_gsc, Rk.w_gsn, Rk.w_escs, Rk.w_givs, Rk.slQ_l, Rk.slQ_w, Rk.backT, Option.getD_some, Option.getD_none, Rk.get_w, Rk.get_l, Rk.get_sl, Rk.seq_tup, Rk.seq_rol, Rk.seq_l, Rk.seq_loc, Rk.seq_sl, Rk.lst_rol, Rk.lst_l, Rk.lst_loc, Rk.lst_sl, Rk.lst_tup, Rk.ix_int, Rk.ix_some, Rk.seqT_l, Rk.seqT_tup, Rk.seqT_rol, Rk.seqT_loc, Rk.lstT_l, Rk.lstT_rol, Rk.lstT_loc, Rk.at_0, Rk.at_1, Rk.at_2, Rk.at_3, Rk.at_4, Rk.at_5, Rk.bin_int, Rk.i_add, Rk.i_sub, Rk.i_mul, Rk.i_div, Rk.i_mod, Rk.i_pow, Rk.u_neg, Rk.c_lt, Rk.c_le, Rk.c_gt, Rk.c_ge, Rk.c_eq, Rk.c_ne, Rk.c_isN, Rk.c_isI, Rk.c_seq, Rk.c_sne, Rk.t_non, Rk.t_bl, Rk.t_int, Rk.iw_int, Rk.bt_bl, Rk.b_int, Rk.b_intb, Rk.b_abs, Rk.b_lent, Rk.b_lenr, Rk.b_lenl, Rk.b_tup, Rk.b_list, Rk.b_all, Rk.b_any, Rk.b_sum, Rk.bls_nil, Rk.bls_cons, Rk.ints_nil, Rk.ints_cons, Rk.b_min1, Rk.b_max1, Rk.b_min2, Rk.b_max2, Rk.m_loc, Rk.m_sl, Rk.p_nil, Rk.p_cons, Rk.set_s, Rk.esc_l, Rk.isI_int, Rk.isI_bool, Rk.isI_tup, List.cons_append, List.nil_append, List.append_nil, List.getElem?_cons_zero, List.getElem?_cons_succ, List.set_cons_zero, List.set_cons_succ, List.length_cons, List.length_nil, List.map_nil, List.map_cons, Option.bind_some, Option.bind_none, Option.map_some, Option.map_none, Option.isSome_some, id_eq, true_and, and_true, decide_eq_true_eq, List.replicate_succ, List.replicate_zero, Nat.reduceAdd, Nat.reduceSub, Int.reduceMul, Int.reduceAdd, Int.reduceSub, Int.reduceNeg, if_true, if_false, Bool.true_eq_false, Bool.false_eq_true, reduceIte]
  refine ⟨mulOk_r (by have := g.1; have := g.2.1; omega), ?_⟩
  unfold idx at h
  by_cases c : q = 1
  · subst c
    rw [if_pos rfl] at h
    rw [Int.ediv_one, Int.mul_one, if_pos rfl]
    exact ⟨mulOk_s (by decide), h⟩
  · rw [if_neg c] at h
    have hn : ¬ p / q * q = p := fun e => by
      have h1 : Int.gcd (p / q * q) q = q.natAbs := by rw [Int.gcd_comm, Int.gcd_mul_left_right]
      rw [e, g.2.2] at h1
      have := g.1
      omega
    rw [if_neg hn]
    exact ⟨mulOk_s (by decide), h⟩
/-- a cell of three indices -/
abbrev ce (a b c : Int) : W := .tup [.int a, .int b, .int c]
theorem c_cell_at {p q p' q' p'' q'' : Int} (g : Fr p q) (g' : Fr p' q') (g'' : Fr p'' q'') (h : R (.w (ce (idx p q) (idx p' q') (idx p'' q''))) M) : ((ob (n + 2)).fn 17 [.w (pt p q p' q' p'' q'')] M).sat R := by
  rw [r17, w_run]; unfold d17; rw [w_seq]
  try simp only [Rk.sat_ok, Rk.osat_some, Rk.osat_none, Rk.osat_ite, Rk.osat_map, Rk.osat_bind, Rk.w_var, Rk.w_con, Rk.w_bin, Rk.w_cmp, Rk.w_ix, Rk.w_bi, Rk.w_es0, Rk.w_es, Rk.w_ts0, Rk.w_ts, Rk.w_ws0, Rk.w_ws, Rk.w_W, Rk.w_T, Rk.w_esc, Rk.w_givw, Rk.w_givl, Rk.w_tup, Rk.w_lst, Rk.w_call, Rk.w_callK, Rk.w_un, Rk.w_not, Rk.w_and, Rk.w_or, Rk.w_ifx, Rk.w_sl, Rk.w_no, Rk.w_so, Rk.w_asb, Rk.w_tru, Rk.w_bnot, Rk.w_band, Rk.w_bor, Rk.w_yes, Rk.w_skip, Rk.w_expr, Rk.w_set, Rk.w_ret, Rk.w_retN, Rk.w_if, Rk.w_asg, Rk.w_par, Rk.w_gnm, Rk.w_gsb, Rk.w_mt, Rk.w_ext, Rk.w_gtp, Rk.w_gsc, Rk.w_gsn, Rk.w_escs, Rk.w_givs, Rk.slQ_l, Rk.slQ_w, Rk.backT, Option.getD_some, Option.getD_none, Rk.get_w, Rk.get_l, Rk.get_sl, Rk.seq_tup, Rk.seq_rol, Rk.seq_l, Rk.seq_loc, Rk.seq_sl, Rk.lst_rol, Rk.lst_l, Rk.lst_loc, Rk.lst_sl, Rk.lst_tup, Rk.ix_int, Rk.ix_some, Rk.seqT_l, Rk.seqT_tup, Rk.seqT_rol, Rk.seqT_loc, Rk.lstT_l, Rk.lstT_rol, Rk.lstT_loc, Rk.at_0, Rk.at_1, Rk.at_2, Rk.at_3, Rk.at_4, Rk.at_5, Rk.bin_int, Rk.i_add, Rk.i_sub, Rk.i_mul, Rk.i_div, Rk.i_mod, Rk.i_pow, Rk.u_neg, Rk.c_lt, Rk.c_le, Rk.c_gt, Rk.c_ge, Rk.c_eq, Rk.c_ne, Rk.c_isN, Rk.c_isI, Rk.c_seq, Rk.c_sne, Rk.t_non, Rk.t_bl, Rk.t_int, Rk.iw_int, Rk.bt_bl, Rk.b_int, Rk.b_intb, Rk.b_abs, Rk.b_lent, Rk.b_lenr, Rk.b_lenl, Rk.b_tup, Rk.b_list, Rk.b_all, Rk.b_any, Rk.b_sum, Rk.bls_nil, Rk.bls_cons, Rk.ints_nil, Rk.ints_cons, Rk.b_min1, Rk.b_max1, Rk.b_min2, Rk.b_max2, Rk.m_loc, Rk.m_sl, Rk.p_nil, Rk.p_cons, Rk.set_s, Rk.esc_l, Rk.isI_int, Rk.isI_bool, Rk.isI_tup, List.cons_append, List.nil_append, List.append_nil, List.getElem?_cons_zero, List.getElem?_cons_succ, List.set_cons_zero, List.set_cons_succ, List.length_cons, List.length_nil, List.map_nil, List.map_cons, Option.bind_some, Option.bind_none, Option.map_some, Option.map_none, Option.isSome_some, id_eq, true_and, and_true, decide_eq_true_eq, List.replicate_succ, List.replicate_zero, Nat.reduceAdd, Nat.reduceSub, Int.reduceMul, Int.reduceAdd, Int.reduceSub, Int.reduceNeg, if_true, if_false, Bool.true_eq_false, Bool.false_eq_true, reduceIte, w_comp, w_walk, k_tup, w_gsnap]
  refine ⟨rfl, ?_⟩
  rw [Rk.cs_cons]; try simp only [Rk.sat_ok, Rk.osat_some, Rk.osat_none, Rk.osat_ite, Rk.osat_map, Rk.osat_bind, Rk.w_var, Rk.w_con, Rk.w_bin, Rk.w_cmp, Rk.w_ix, Rk.w_bi, Rk.w_es0, Rk.w_es, Rk.w_ts0, Rk.w_ts, Rk.w_ws0, Rk.w_ws, Rk.w_W, Rk.w_T, Rk.w_esc, Rk.w_givw, Rk.w_givl, Rk.w_tup, Rk.w_lst, Rk.w_call, Rk.w_callK, Rk.w_un, Rk.w_not, Rk.w_and, Rk.w_or, Rk.w_ifx, Rk.w_sl, Rk.w_no, Rk.w_so, Rk.w_asb, Rk.w_tru, Rk.w_bnot, Rk.w_band, Rk.w_bor, Rk.w_yes, Rk.w_skip, Rk.w_expr, Rk.w_set, Rk.w_ret, Rk.w_retN, Rk.w_if, Rk.w_asg, Rk.w_par, Rk.w_gnm, Rk.w_gsb, Rk.w_mt, Rk.w_ext, Rk.w_gtp, Rk.w_gsc, Rk.w_gsn, Rk.w_escs, Rk.w_givs, Rk.slQ_l, Rk.slQ_w, Rk.backT, Option.getD_some, Option.getD_none, Rk.get_w, Rk.get_l, Rk.get_sl, Rk.seq_tup, Rk.seq_rol, Rk.seq_l, Rk.seq_loc, Rk.seq_sl, Rk.lst_rol, Rk.lst_l, Rk.lst_loc, Rk.lst_sl, Rk.lst_tup, Rk.ix_int, Rk.ix_some, Rk.seqT_l, Rk.seqT_tup, Rk.seqT_rol, Rk.seqT_loc, Rk.lstT_l, Rk.lstT_rol, Rk.lstT_loc, Rk.at_0, Rk.at_1, Rk.at_2, Rk.at_3, Rk.at_4, Rk.at_5, Rk.bin_int, Rk.i_add, Rk.i_sub, Rk.i_mul, Rk.i_div, Rk.i_mod, Rk.i_pow, Rk.u_neg, Rk.c_lt, Rk.c_le, Rk.c_gt, Rk.c_ge, Rk.c_eq, Rk.c_ne, Rk.c_isN, Rk.c_isI, Rk.c_seq, Rk.c_sne, Rk.t_non, Rk.t_bl, Rk.t_int, Rk.iw_int, Rk.bt_bl, Rk.b_int, Rk.b_intb, Rk.b_abs, Rk.b_lent, Rk.b_lenr, Rk.b_lenl, Rk.b_tup, Rk.b_list, Rk.b_all, Rk.b_any, Rk.b_sum, Rk.bls_nil, Rk.bls_cons, Rk.ints_nil, Rk.ints_cons, Rk.b_min1, Rk.b_max1, Rk.b_min2, Rk.b_max2, Rk.m_loc, Rk.m_sl, Rk.p_nil, Rk.p_cons, Rk.set_s, Rk.esc_l, Rk.isI_int, Rk.isI_bool, Rk.isI_tup, List.cons_append, List.nil_append, List.append_nil, List.getElem?_cons_zero, List.getElem?_cons_succ, List.set_cons_zero, List.set_cons_succ, List.length_cons, List.length_nil, List.map_nil, List.map_cons, Option.bind_some, Option.bind_none, Option.map_some, Option.map_none, Option.isSome_some, id_eq, true_and, and_true, decide_eq_true_eq, List.replicate_succ, List.replicate_zero, Nat.reduceAdd, Nat.reduceSub, Int.reduceMul, Int.reduceAdd, Int.reduceSub, Int.reduceNeg, if_true, if_false, Bool.true_eq_false, Bool.false_eq_true, reduceIte, Rk.wipeS, Rk.wipeT]
  refine c_index_of g ?_
  try simp only [Rk.sat_ok, Rk.osat_some, Rk.osat_none, Rk.osat_ite, Rk.osat_map, Rk.osat_bind, Rk.w_var, Rk.w_con, Rk.w_bin, Rk.w_cmp, Rk.w_ix, Rk.w_bi, Rk.w_es0, Rk.w_es, Rk.w_ts0, Rk.w_ts, Rk.w_ws0, Rk.w_ws, Rk.w_W, Rk.w_T, Rk.w_esc, Rk.w_givw, Rk.w_givl, Rk.w_tup, Rk.w_lst, Rk.w_call, Rk.w_callK, Rk.w_un, Rk.w_not, Rk.w_and, Rk.w_or, Rk.w_ifx, Rk.w_sl, Rk.w_no, Rk.w_so, Rk.w_asb, Rk.w_tru, Rk.w_bnot, Rk.w_band, Rk.w_bor, Rk.w_yes, Rk.w_skip, Rk.w_expr, Rk.w_set, Rk.w_ret, Rk.w_retN, Rk.w_if, Rk.w_asg, Rk.w_par, Rk.w_gnm, Rk.w_gsb, Rk.w_mt, Rk.w_ext, Rk.w_gtp, Rk.w_gsc, Rk.w_gsn, Rk.w_escs, Rk.w_givs, Rk.slQ_l, Rk.slQ_w, Rk.backT, Option.getD_some, Option.getD_none, Rk.get_w, Rk.get_l, Rk.get_sl, Rk.seq_tup, Rk.seq_rol, Rk.seq_l, Rk.seq_loc, Rk.seq_sl, Rk.lst_rol, Rk.lst_l, Rk.lst_loc, Rk.lst_sl, Rk.lst_tup, Rk.ix_int, Rk.ix_some, Rk.seqT_l, Rk.seqT_tup, Rk.seqT_rol, Rk.seqT_loc, Rk.lstT_l, Rk.lstT_rol, Rk.lstT_loc, Rk.at_0, Rk.at_1, Rk.at_2, Rk.at_3, Rk.at_4, Rk.at_5, Rk.bin_int, Rk.i_add, Rk.i_sub, Rk.i_mul, Rk.i_div, Rk.i_mod, Rk.i_pow, Rk.u_neg, Rk.c_lt, Rk.c_le, Rk.c_gt, Rk.c_ge, Rk.c_eq, Rk.c_ne, Rk.c_isN, Rk.c_isI, Rk.c_seq, Rk.c_sne, Rk.t_non, Rk.t_bl, Rk.t_int, Rk.iw_int, Rk.bt_bl, Rk.b_int, Rk.b_intb, Rk.b_abs, Rk.b_lent, Rk.b_lenr, Rk.b_lenl, Rk.b_tup, Rk.b_list, Rk.b_all, Rk.b_any, Rk.b_sum, Rk.bls_nil, Rk.bls_cons, Rk.ints_nil, Rk.ints_cons, Rk.b_min1, Rk.b_max1, Rk.b_min2, Rk.b_max2, Rk.m_loc, Rk.m_sl, Rk.p_nil, Rk.p_cons, Rk.set_s, Rk.esc_l, Rk.isI_int, Rk.isI_bool, Rk.isI_tup, List.cons_append, List.nil_append, List.append_nil, List.getElem?_cons_zero, List.getElem?_cons_succ, List.set_cons_zero, List.set_cons_succ, List.length_cons, List.length_nil, List.map_nil, List.map_cons, Option.bind_some, Option.bind_none, Option.map_some, Option.map_none, Option.isSome_some, id_eq, true_and, and_true, decide_eq_true_eq, List.replicate_succ, List.replicate_zero, Nat.reduceAdd, Nat.reduceSub, Int.reduceMul, Int.reduceAdd, Int.reduceSub, Int.reduceNeg, if_true, if_false, Bool.true_eq_false, Bool.false_eq_true, reduceIte]
  refine ⟨⟨by decide, rfl⟩, ?_⟩
  rw [Rk.cs_cons]; try simp only [Rk.sat_ok, Rk.osat_some, Rk.osat_none, Rk.osat_ite, Rk.osat_map, Rk.osat_bind, Rk.w_var, Rk.w_con, Rk.w_bin, Rk.w_cmp, Rk.w_ix, Rk.w_bi, Rk.w_es0, Rk.w_es, Rk.w_ts0, Rk.w_ts, Rk.w_ws0, Rk.w_ws, Rk.w_W, Rk.w_T, Rk.w_esc, Rk.w_givw, Rk.w_givl, Rk.w_tup, Rk.w_lst, Rk.w_call, Rk.w_callK, Rk.w_un, Rk.w_not, Rk.w_and, Rk.w_or, Rk.w_ifx, Rk.w_sl, Rk.w_no, Rk.w_so, Rk.w_asb, Rk.w_tru, Rk.w_bnot, Rk.w_band, Rk.w_bor, Rk.w_yes, Rk.w_skip, Rk.w_expr, Rk.w_set, Rk.w_ret, Rk.w_retN, Rk.w_if, Rk.w_asg, Rk.w_par, Rk.w_gnm, Rk.w_gsb, Rk.w_mt, Rk.w_ext, Rk.w_gtp, Rk.w_gsc, Rk.w_gsn, Rk.w_escs, Rk.w_givs, Rk.slQ_l, Rk.slQ_w, Rk.backT, Option.getD_some, Option.getD_none, Rk.get_w, Rk.get_l, Rk.get_sl, Rk.seq_tup, Rk.seq_rol, Rk.seq_l, Rk.seq_loc, Rk.seq_sl, Rk.lst_rol, Rk.lst_l, Rk.lst_loc, Rk.lst_sl, Rk.lst_tup, Rk.ix_int, Rk.ix_some, Rk.seqT_l, Rk.seqT_tup, Rk.seqT_rol, Rk.seqT_loc, Rk.lstT_l, Rk.lstT_rol, Rk.lstT_loc, Rk.at_0, Rk.at_1, Rk.at_2, Rk.at_3, Rk.at_4, Rk.at_5, Rk.bin_int, Rk.i_add, Rk.i_sub, Rk.i_mul, Rk.i_div, Rk.i_mod, Rk.i_pow, Rk.u_neg, Rk.c_lt, Rk.c_le, Rk.c_gt, Rk.c_ge, Rk.c_eq, Rk.c_ne, Rk.c_isN, Rk.c_isI, Rk.c_seq, Rk.c_sne, Rk.t_non, Rk.t_bl, Rk.t_int, Rk.iw_int, Rk.bt_bl, Rk.b_int, Rk.b_intb, Rk.b_abs, Rk.b_lent, Rk.b_lenr, Rk.b_lenl, Rk.b_tup, Rk.b_list, Rk.b_all, Rk.b_any, Rk.b_sum, Rk.bls_nil, Rk.bls_cons, Rk.ints_nil, Rk.ints_cons, Rk.b_min1, Rk.b_max1, Rk.b_min2, Rk.b_max2, Rk.m_loc, Rk.m_sl, Rk.p_nil, Rk.p_cons, Rk.set_s, Rk.esc_l, Rk.isI_int, Rk.isI_bool, Rk.isI_tup, List.cons_append, List.nil_append, List.append_nil, List.getElem?_cons_zero, List.getElem?_cons_succ, List.set_cons_zero, List.set_cons_succ, List.length_cons, List.length_nil, List.map_nil, List.map_cons, Option.bind_some, Option.bind_none, Option.map_some, Option.map_none, Option.isSome_some, id_eq, true_and, and_true, decide_eq_true_eq, List.replicate_succ, List.replicate_zero, Nat.reduceAdd, Nat.reduceSub, Int.reduceMul, Int.reduceAdd, Int.reduceSub, Int.reduceNeg, if_true, if_false, Bool.true_eq_false, Bool.false_eq_true, reduceIte, Rk.wipeS, Rk.wipeT]
  refine c_index_of g' ?_
  try simp only [Rk.sat_ok, Rk.osat_some, Rk.osat_none, Rk.osat_ite, Rk.osat_map, Rk.osat_bind, Rk.w_var, Rk.w_con, Rk.w_bin, Rk.w_cmp, Rk.w_ix, Rk.w_bi, Rk.w_es0, Rk.w_es, Rk.w_ts0, Rk.w_ts, Rk.w_ws0, Rk.w_ws, Rk.w_W, Rk.w_T, Rk.w_esc, Rk.w_givw, Rk.w_givl, Rk.w_tup, Rk.w_lst, Rk.w_call, Rk.w_callK, Rk.w_un, Rk.w_not, Rk.w_and, Rk.w_or, Rk.w_ifx, Rk.w_sl, Rk.w_no, Rk.w_so, Rk.w_asb, Rk.w_tru, Rk.w_bnot, Rk.w_band, Rk.w_bor, Rk.w_yes, Rk.w_skip, Rk.w_expr, Rk.w_set, Rk.w_ret, Rk.w_retN, Rk.w_if, Rk.w_asg, Rk.w_par, Rk.w_gnm, Rk.w_gsb, Rk.w_mt, Rk.w_ext, Rk.w_gtp, Rk.w_gsc, Rk.w_gsn, Rk.w_escs, Rk.w_givs, Rk.slQ_l, Rk.slQ_w, Rk.backT, Option.getD_some, Option.getD_none, Rk.get_w, Rk.get_l, Rk.get_sl, Rk.seq_tup, Rk.seq_rol, Rk.seq_l, Rk.seq_loc, Rk.seq_sl, Rk.lst_rol, Rk.lst_l, Rk.lst_loc, Rk.lst_sl, Rk.lst_tup, Rk.ix_int, Rk.ix_some, Rk.seqT_l, Rk.seqT_tup, Rk.seqT_rol, Rk.seqT_loc, Rk.lstT_l, Rk.lstT_rol, Rk.lstT_loc, Rk.at_0, Rk.at_1, Rk.at_2, Rk.at_3, Rk.at_4, Rk.at_5, Rk.bin_int, Rk.i_add, Rk.i_sub, Rk.i_mul, Rk.i_div, Rk.i_mod, Rk.i_pow, Rk.u_neg, Rk.c_lt, Rk.c_le, Rk.c_gt, Rk.c_ge, Rk.c_eq, Rk.c_ne, Rk.c_isN, Rk.c_isI, Rk.c_seq, Rk.c_sne, Rk.t_non, Rk.t_bl, Rk.t_int, Rk.iw_int, Rk.bt_bl, Rk.b_int, Rk.b_intb, Rk.b_abs, Rk.b_lent, Rk.b_lenr, Rk.b_lenl, Rk.b_tup, Rk.b_list, Rk.b_all, Rk.b_any, Rk.b_sum, Rk.bls_nil, Rk.bls_cons, Rk.ints_nil, Rk.ints_cons, Rk.b_min1, Rk.b_max1, Rk.b_min2, Rk.b_max2, Rk.m_loc, Rk.m_sl, Rk.p_nil, Rk.p_cons, Rk.set_s, Rk.esc_l, Rk.isI_int, Rk.isI_bool, Rk.isI_tup, List.cons_append, List.nil_append, List.append_nil, List.getElem?_cons_zero, List.getElem?_cons_succ, List.set_cons_zero, List.set_cons_succ, List.length_cons, List.length_nil, List.map_nil, List.map_cons, Option.bind_some, Option.bind_none, Option.map_some, Option.map_none, Option.isSome_some, id_eq, true_and, and_true, decide_eq_true_eq, List.replicate_succ, List.replicate_zero, Nat.reduceAdd, Nat.reduceSub, Int.reduceMul, Int.reduceAdd, Int.reduceSub, Int.reduceNeg, if_true, if_false, Bool.true_eq_false, Bool.false_eq_true, reduceIte]
  refine ⟨⟨by decide, rfl⟩, ?_⟩
  rw [Rk.cs_cons]; try simp only [Rk.sat_ok, Rk.osat_some, Rk.osat_none, Rk.osat_ite, Rk.osat_map, Rk.osat_bind, Rk.w_var, Rk.w_con, Rk.w_bin, Rk.w_cmp, Rk.w_ix, Rk.w_bi, Rk.w_es0, Rk.w_es, Rk.w_ts0, Rk.w_ts, Rk.w_ws0, Rk.w_ws, Rk.w_W, Rk.w_T, Rk.w_esc, Rk.w_givw, Rk.w_givl, Rk.w_tup, Rk.w_lst, Rk.w_call, Rk.w_callK, Rk.w_un, Rk.w_not, Rk.w_and, Rk.w_or, Rk.w_ifx, Rk.w_sl, Rk.w_no, Rk.w_so, Rk.w_asb, Rk.w_tru, Rk.w_bnot, Rk.w_band, Rk.w_bor, Rk.w_yes, Rk.w_skip, Rk.w_expr, Rk.w_set, Rk.w_ret, Rk.w_retN, Rk.w_if, Rk.w_asg, Rk.w_par, Rk.w_gnm, Rk.w_gsb, Rk.w_mt, Rk.w_ext, Rk.w_gtp, Rk.w_gsc, Rk.w_gsn, Rk.w_escs, Rk.w_givs, Rk.slQ_l, Rk.slQ_w, Rk.backT, Option.getD_some, Option.getD_none, Rk.get_w, Rk.get_l, Rk.get_sl, Rk.seq_tup, Rk.seq_rol, Rk.seq_l, Rk.seq_loc, Rk.seq_sl, Rk.lst_rol, Rk.lst_l, Rk.lst_loc, Rk.lst_sl, Rk.lst_tup, Rk.ix_int, Rk.ix_some, Rk.seqT_l, Rk.seqT_tup, Rk.seqT_rol, Rk.seqT_loc, Rk.lstT_l, Rk.lstT_rol, Rk.lstT_loc, Rk.at_0, Rk.at_1, Rk.at_2, Rk.at_3, Rk.at_4, Rk.at_5, Rk.bin_int, Rk.i_add, Rk.i_sub, Rk.i_mul, Rk.i_div, Rk.i_mod, Rk.i_pow, Rk.u_neg, Rk.c_lt, Rk.c_le, Rk.c_gt, Rk.c_ge, Rk.c_eq, Rk.c_ne, Rk.c_isN, Rk.c_isI, Rk.c_seq, Rk.c_sne, Rk.t_non, Rk.t_bl, Rk.t_int, Rk.iw_int, Rk.bt_bl, Rk.b_int, Rk.b_intb, Rk.b_abs, Rk.b_lent, Rk.b_lenr, Rk.b_lenl, Rk.b_tup, Rk.b_list, Rk.b_all, Rk.b_any, Rk.b_sum, Rk.bls_nil, Rk.bls_cons, Rk.ints_nil, Rk.ints_cons, Rk.b_min1, Rk.b_max1, Rk.b_min2, Rk.b_max2, Rk.m_loc, Rk.m_sl, Rk.p_nil, Rk.p_cons, Rk.set_s, Rk.esc_l, Rk.isI_int, Rk.isI_bool, Rk.isI_tup, List.cons_append, List.nil_append, List.append_nil, List.getElem?_cons_zero, List.getElem?_cons_succ, List.set_cons_zero, List.set_cons_succ, List.length_cons, List.length_nil, List.map_nil, List.map_cons, Option.bind_some, Option.bind_none, Option.map_some, Option.map_none, Option.isSome_some, id_eq, true_and, and_true, decide_eq_true_eq, List.replicate_succ, List.replicate_zero, Nat.reduceAdd, Nat.reduceSub, Int.reduceMul, Int.reduceAdd, Int.reduceSub, Int.reduceNeg, if_true, if_false, Bool.true_eq_false, Bool.false_eq_true, reduceIte, Rk.wipeS, Rk.wipeT]
  refine c_index_of g'' ?_
  try simp only [Rk.sat_ok, Rk.osat_some, Rk.osat_none, Rk.osat_ite, Rk.osat_map, Rk.osat_bind, Rk.w_var, Rk.w_con, Rk.w_bin, Rk.w_cmp, Rk.w_ix, Rk.w_bi, Rk.w_es0, Rk.w_es, Rk.w_ts0, Rk.w_ts, Rk.w_ws0, Rk.w_ws, Rk.w_W, Rk.w_T, Rk.w_esc, Rk.w_givw, Rk.w_givl, Rk.w_tup, Rk.w_lst, Rk.w_call, Rk.w_callK, Rk.w_un, Rk.w_not, Rk.w_and, Rk.w_or, Rk.w_ifx, Rk.w_sl, Rk.w_no, Rk.w_so, Rk.w_asb, Rk.w_tru, Rk.w_bnot, Rk.w_band, Rk.w_bor, Rk.w_yes, Rk.w_skip, Rk.w_expr, Rk.w_set, Rk.w_ret, Rk.w_retN, Rk.w_if, Rk.w_asg, Rk.w_par, Rk.w_gnm, Rk.w_gsb, Rk.w_mt, Rk.w_ext, Rk.w_gtp, Rk.w_gsc, Rk.w_gsn, Rk.w_escs, Rk.w_givs, Rk.slQ_l, Rk.slQ_w, Rk.backT, Option.getD_some, Option.getD_none, Rk.get_w, Rk.get_l, Rk.get_sl, Rk.seq_tup, Rk.seq_rol, Rk.seq_l, Rk.seq_loc, Rk.seq_sl, Rk.lst_rol, Rk.lst_l, Rk.lst_loc, Rk.lst_sl, Rk.lst_tup, Rk.ix_int, Rk.ix_some, Rk.seqT_l, Rk.seqT_tup, Rk.seqT_rol, Rk.seqT_loc, Rk.lstT_l, Rk.lstT_rol, Rk.lstT_loc, Rk.at_0, Rk.at_1, Rk.at_2, Rk.at_3, Rk.at_4, Rk.at_5, Rk.bin_int, Rk.i_add, Rk.i_sub, Rk.i_mul, Rk.i_div, Rk.i_mod, Rk.i_pow, Rk.u_neg, Rk.c_lt, Rk.c_le, Rk.c_gt, Rk.c_ge, Rk.c_eq, Rk.c_ne, Rk.c_isN, Rk.c_isI, Rk.c_seq, Rk.c_sne, Rk.t_non, Rk.t_bl, Rk.t_int, Rk.iw_int, Rk.bt_bl, Rk.b_int, Rk.b_intb, Rk.b_abs, Rk.b_lent, Rk.b_lenr, Rk.b_lenl, Rk.b_tup, Rk.b_list, Rk.b_all, Rk.b_any, Rk.b_sum, Rk.bls_nil, Rk.bls_cons, Rk.ints_nil, Rk.ints_cons, Rk.b_min1, Rk.b_max1, Rk.b_min2, Rk.b_max2, Rk.m_loc, Rk.m_sl, Rk.p_nil, Rk.p_cons, Rk.set_s, Rk.esc_l, Rk.isI_int, Rk.isI_bool, Rk.isI_tup, List.cons_append, List.nil_append, List.append_nil, List.getElem?_cons_zero, List.getElem?_cons_succ, List.set_cons_zero, List.set_cons_succ, List.length_cons, List.length_nil, List.map_nil, List.map_cons, Option.bind_some, Option.bind_none, Option.map_some, Option.map_none, Option.isSome_some, id_eq, true_and, and_true, decide_eq_true_eq, List.replicate_succ, List.replicate_zero, Nat.reduceAdd, Nat.reduceSub, Int.reduceMul, Int.reduceAdd, Int.reduceSub, Int.reduceNeg, if_true, if_false, Bool.true_eq_false, Bool.false_eq_true, reduceIte, cs_nil]
  exact ⟨⟨by decide, rfl⟩, h⟩
theorem c_cell_of {p q p' q' p'' q'' : Int} (g : Fr p q) (g' : Fr p' q') (g'' : Fr p'' q'') (h : R (.w (ce (idx p q) (idx p' q') (idx p'' q''))) M) : ((ob (n + 5)).fn 9 [.w (pt p q p' q' p'' q'')] M).sat R := by
  rw [r9, w_run]; unfold d9
  refine w_stp fun k hk => ?_; try simp only [Rk.sat_ok, Rk.osat_some, Rk.osat_none, Rk.osat_ite, Rk.osat_map, Rk.osat_bind, Rk.w_var, Rk.w_con, Rk.w_bin, Rk.w_cmp, Rk.w_ix, Rk.w_bi, Rk.w_es0, Rk.w_es, Rk.w_ts0, Rk.w_ts, Rk.w_ws0, Rk.w_ws, Rk.w_W, Rk.w_T, Rk.w_esc, Rk.w_givw, Rk.w_givl, Rk.w_tup, Rk.w_lst, Rk.w_call, Rk.w_callK, Rk.w_un, Rk.w_not, Rk.w_and, Rk.w_or, Rk.w_ifx, Rk.w_sl, Rk.w_no, Rk.w_so, Rk.w_asb, Rk.w_tru, Rk.w_bnot, Rk.w_band, Rk.w_bor, Rk.w_yes, Rk.w_skip, Rk.w_expr, Rk.w_set, Rk.w_ret, Rk.w_retN, Rk.w_if, Rk.w_asg, Rk.w_par, Rk.w_gnm, Rk.w_gsb, Rk.w_mt, Rk.w_ext, Rk.w_gtp, Rk.w_gsc, Rk.w_gsn, Rk.w_escs, Rk.w_givs, Rk.slQ_l, Rk.slQ_w, Rk.backT, Option.getD_some, Option.getD_none, Rk.get_w, Rk.get_l, Rk.get_sl, Rk.seq_tup, Rk.seq_rol, Rk.seq_l, Rk.seq_loc, Rk.seq_sl, Rk.lst_rol, Rk.lst_l, Rk.lst_loc, Rk.lst_sl, Rk.lst_tup, Rk.ix_int, Rk.ix_some, Rk.seqT_l, Rk.seqT_tup, Rk.seqT_rol, Rk.seqT_loc, Rk.lstT_l, Rk.lstT_rol, Rk.lstT_loc, Rk.at_0, Rk.at_1, Rk.at_2, Rk.at_3, Rk.at_4, Rk.at_5, Rk.bin_int, Rk.i_add, Rk.i_sub, Rk.i_mul, Rk.i_div, Rk.i_mod, Rk.i_pow, Rk.u_neg, Rk.c_lt, Rk.c_le, Rk.c_gt, Rk.c_ge, Rk.c_eq, Rk.c_ne, Rk.c_isN, Rk.c_isI, Rk.c_seq, Rk.c_sne, Rk.t_non, Rk.t_bl, Rk.t_int, Rk.iw_int, Rk.bt_bl, Rk.b_int, Rk.b_intb, Rk.b_abs, Rk.b_lent, Rk.b_lenr, Rk.b_lenl, Rk.b_tup, Rk.b_list, Rk.b_all, Rk.b_any, Rk.b_sum, Rk.bls_nil, Rk.bls_cons, Rk.ints_nil, Rk.ints_cons, Rk.b_min1, Rk.b_max1, Rk.b_min2, Rk.b_max2, Rk.m_loc, Rk.m_sl, Rk.p_nil, Rk.p_cons, Rk.set_s, Rk.esc_l, Rk.isI_int, Rk.isI_bool, Rk.isI_tup, List.cons_append, List.nil_append, List.append_nil, List.getElem?_cons_zero, List.getElem?_cons_succ, List.set_cons_zero, List.set_cons_succ, List.length_cons, List.length_nil, List.map_nil, List.map_cons, Option.bind_some, Option.bind_none, Option.map_some, Option.map_none, Option.isSome_some, id_eq, true_and, and_true, decide_eq_true_eq, List.replicate_succ, List.replicate_zero, Nat.reduceAdd, Nat.reduceSub, Int.reduceMul, Int.reduceAdd, Int.reduceSub, Int.reduceNeg, if_true, if_false, Bool.true_eq_false, Bool.false_eq_true, reduceIte]
  refine c_check_point g g' g'' ?_
  refine hk _ ?_; clear hk k
  rw [w_seq]
  try simp only [Rk.sat_ok, Rk.osat_some, Rk.osat_none, Rk.osat_ite, Rk.osat_map, Rk.osat_bind, Rk.w_var, Rk.w_con, Rk.w_bin, Rk.w_cmp, Rk.w_ix, Rk.w_bi, Rk.w_es0, Rk.w_es, Rk.w_ts0, Rk.w_ts, Rk.w_ws0, Rk.w_ws, Rk.w_W, Rk.w_T, Rk.w_esc, Rk.w_givw, Rk.w_givl, Rk.w_tup, Rk.w_lst, Rk.w_call, Rk.w_callK, Rk.w_un, Rk.w_not, Rk.w_and, Rk.w_or, Rk.w_ifx, Rk.w_sl, Rk.w_no, Rk.w_so, Rk.w_asb, Rk.w_tru, Rk.w_bnot, Rk.w_band, Rk.w_bor, Rk.w_yes, Rk.w_skip, Rk.w_expr, Rk.w_set, Rk.w_ret, Rk.w_retN, Rk.w_if, Rk.w_asg, Rk.w_par, Rk.w_gnm, Rk.w_gsb, Rk.w_mt, Rk.w_ext, Rk.w_gtp, Rk.w_gsc, Rk.w_gsn, Rk.w_escs, Rk.w_givs, Rk.slQ_l, Rk.slQ_w, Rk.backT, Option.getD_some, Option.getD_none, Rk.get_w, Rk.get_l, Rk.get_sl, Rk.seq_tup, Rk.seq_rol, Rk.seq_l, Rk.seq_loc, Rk.seq_sl, Rk.lst_rol, Rk.lst_l, Rk.lst_loc, Rk.lst_sl, Rk.lst_tup, Rk.ix_int, Rk.ix_some, Rk.seqT_l, Rk.seqT_tup, Rk.seqT_rol, Rk.seqT_loc, Rk.lstT_l, Rk.lstT_rol, Rk.lstT_loc, Rk.at_0, Rk.at_1, Rk.at_2, Rk.at_3, Rk.at_4, Rk.at_5, Rk.bin_int, Rk.i_add, Rk.i_sub, Rk.i_mul, Rk.i_div, Rk.i_mod, Rk.i_pow, Rk.u_neg, Rk.c_lt, Rk.c_le, Rk.c_gt, Rk.c_ge, Rk.c_eq, Rk.c_ne, Rk.c_isN, Rk.c_isI, Rk.c_seq, Rk.c_sne, Rk.t_non, Rk.t_bl, Rk.t_int, Rk.iw_int, Rk.bt_bl, Rk.b_int, Rk.b_intb, Rk.b_abs, Rk.b_lent, Rk.b_lenr, Rk.b_lenl, Rk.b_tup, Rk.b_list, Rk.b_all, Rk.b_any, Rk.b_sum, Rk.bls_nil, Rk.bls_cons, Rk.ints_nil, Rk.ints_cons, Rk.b_min1, Rk.b_max1, Rk.b_min2, Rk.b_max2, Rk.m_loc, Rk.m_sl, Rk.p_nil, Rk.p_cons, Rk.set_s, Rk.esc_l, Rk.isI_int, Rk.isI_bool, Rk.isI_tup, List.cons_append, List.nil_append, List.append_nil, List.getElem?_cons_zero, List.getElem?_cons_succ, List.set_cons_zero, List.set_cons_succ, List.length_cons, List.length_nil, List.map_nil, List.map_cons, Option.bind_some, Option.bind_none, Option.map_some, Option.map_none, Option.isSome_some, id_eq, true_and, and_true, decide_eq_true_eq, List.replicate_succ, List.replicate_zero, Nat.reduceAdd, Nat.reduceSub, Int.reduceMul, Int.reduceAdd, Int.reduceSub, Int.reduceNeg, if_true, if_false, Bool.true_eq_false, Bool.false_eq_true, reduceIte]
  exact c_cell_at g g' g'' h
/-- the middle of an index: a fraction -/
def mid (i : Int) : Int × Int := if i % 2 = 0 then (i / 2, 1) else (i, 2)
theorem mid_fr (i : Int) : Fr (mid i).1 (mid i).2 ∧ idx (mid i).1 (mid i).2 = i := by
  unfold mid idx
  by_cases h : i % 2 = 0
  · rw [if_pos h]
    refine ⟨⟨Int.le_refl 1, (by decide : (1 : Int) < 1000000), by simp⟩, ?_⟩
    rw [if_pos rfl]
    omega
  · rw [if_neg h]
    refine ⟨⟨(by decide : (1 : Int) ≤ 2), (by decide : (2 : Int) < 1000000), ?_⟩, ?_⟩
    · show Nat.gcd i.natAbs 2 = 1
      have : i.natAbs % 2 = 1 := by omega
      rw [Nat.gcd_comm, Nat.gcd_rec, this]
      rfl
    · rw [if_neg (show ¬ (2 : Int) = 1 by decide)]
      show 2 * (i / 2) + 1 = i
      omega
theorem c_middle {i : Int} (h : R (.w (.tup [.int (mid i).1, .int (mid i).2])) M) : ((ob (n + 1)).fn 26 [.w (.int i)] M).sat R := by
  rw [r26, w_run]; unfold d26; rw [w_seq]
  try simp only [Rk.sat_ok, Rk.osat_some, Rk.osat_none, Rk.osat_ite, Rk.osat_map, Rk.osat_bind, Rk.w_var, Rk.w_con, Rk.w_bin, Rk.w_cmp, Rk.w_ix, Rk.w_bi, Rk.w_es0, Rk.w_es, Rk.w_ts0, Rk.w_ts, Rk.w_ws0, Rk.w_ws, Rk.w_W, Rk.w_T, Rk.w_esc, Rk.w_givw, Rk.w_givl, Rk.w_tup, Rk.w_lst, Rk.w_call, Rk.w_callK, Rk.w_un, Rk.w_not, Rk.w_and, Rk.w_or, Rk.w_ifx, Rk.w_sl, Rk.w_no, Rk.w_so, Rk.w_asb, Rk.w_tru, Rk.w_bnot, Rk.w_band, Rk.w_bor, Rk.w_yes, Rk.w_skip, Rk.w_expr, Rk.w_set, Rk.w_ret, Rk.w_retN, Rk.w_if, Rk.w_asg, Rk.w_par, Rk.w_gnm, Rk.w_gsb, Rk.w_mt, Rk.w_ext, Rk.w_gtp, Rk.w_gsc, Rk.w_gsn, Rk.w_escs, Rk.w_givs, Rk.slQ_l, Rk.slQ_w, Rk.backT, Option.getD_some, Option.getD_none, Rk.get_w, Rk.get_l, Rk.get_sl, Rk.seq_tup, Rk.seq_rol, Rk.seq_l, Rk.seq_loc, Rk.seq_sl, Rk.lst_rol, Rk.lst_l, Rk.lst_loc, Rk.lst_sl, Rk.lst_tup, Rk.ix_int, Rk.ix_some, Rk.seqT_l, Rk.seqT_tup, Rk.seqT_rol, Rk.seqT_loc, Rk.lstT_l, Rk.lstT_rol, Rk.lstT_loc, Rk.at_0, Rk.at_1, Rk.at_2, Rk.at_3, Rk.at_4, Rk.at_5, Rk.bin_int, Rk.i_add, Rk.i_sub, Rk.i_mul, Rk.i_div, Rk.i_mod, Rk.i_pow, Rk.u_neg, Rk.c_lt, Rk.c_le, Rk.c_gt, Rk.c_ge, Rk.c_eq, Rk.c_ne, Rk.c_isN, Rk.c_isI, Rk.c_seq, Rk.c_sne, Rk.t_non, Rk.t_bl, Rk.t_int, Rk.iw_int, Rk.bt_bl, Rk.b_int, Rk.b_intb, Rk.b_abs, Rk.b_lent, Rk.b_lenr, Rk.b_lenl, Rk.b_tup, Rk.b_list, Rk.b_all, Rk.b_any, Rk.b_sum, Rk.bls_nil, Rk.bls_cons, Rk.ints_nil, Rk.ints_cons, Rk.b_min1, Rk.b_max1, Rk.b_min2, Rk.b_max2, Rk.m_loc, Rk.m_sl, Rk.p_nil, Rk.p_cons, Rk.set_s, Rk.esc_l, Rk.isI_int, Rk.isI_bool, Rk.isI_tup, List.cons_append, List.nil_append, List.append_nil, List.getElem?_cons_zero, List.getElem?_cons_succ, List.set_cons_zero, List.set_cons_succ, List.length_cons, List.length_nil, List.map_nil, List.map_cons, Option.bind_some, Option.bind_none, Option.map_some, Option.map_none, Option.isSome_some, id_eq, true_and, and_true, decide_eq_true_eq, List.replicate_succ, List.replicate_zero, Nat.reduceAdd, Nat.reduceSub, Int.reduceMul, Int.reduceAdd, Int.reduceSub, Int.reduceNeg, if_true, if_false, Bool.true_eq_false, Bool.false_eq_true, reduceIte]
  have e : iMod i 2 = i % 2 := rfl
  have e2 : iDiv i 2 = i / 2 := rfl
  rw [e, e2]
  unfold mid at h
  refine ⟨by decide, ?_⟩
  by_cases c : i % 2 = 0
  · rw [if_pos c] at h ⊢
    exact ⟨by decide, by decide, h⟩
  · rw [if_neg c] at h ⊢
    exact ⟨by decide, h⟩
theorem c_law_middle {i : Int} (h : R (.w (.tup [.int (mid i).1, .int (mid i).2])) M) : ((ob (n + 1)).fn 8 [.w (.int i)] M).sat R := by
  rw [r8, w_run]; unfold d8; rw [w_seq]
  try simp only [Rk.sat_ok, Rk.osat_some, Rk.osat_none, Rk.osat_ite, Rk.osat_map, Rk.osat_bind, Rk.w_var, Rk.w_con, Rk.w_bin, Rk.w_cmp, Rk.w_ix, Rk.w_bi, Rk.w_es0, Rk.w_es, Rk.w_ts0, Rk.w_ts, Rk.w_ws0, Rk.w_ws, Rk.w_W, Rk.w_T, Rk.w_esc, Rk.w_givw, Rk.w_givl, Rk.w_tup, Rk.w_lst, Rk.w_call, Rk.w_callK, Rk.w_un, Rk.w_not, Rk.w_and, Rk.w_or, Rk.w_ifx, Rk.w_sl, Rk.w_no, Rk.w_so, Rk.w_asb, Rk.w_tru, Rk.w_bnot, Rk.w_band, Rk.w_bor, Rk.w_yes, Rk.w_skip, Rk.w_expr, Rk.w_set, Rk.w_ret, Rk.w_retN, Rk.w_if, Rk.w_asg, Rk.w_par, Rk.w_gnm, Rk.w_gsb, Rk.w_mt, Rk.w_ext, Rk.w_gtp, Rk.w_gsc, Rk.w_gsn, Rk.w_escs, Rk.w_givs, Rk.slQ_l, Rk.slQ_w, Rk.backT, Option.getD_some, Option.getD_none, Rk.get_w, Rk.get_l, Rk.get_sl, Rk.seq_tup, Rk.seq_rol, Rk.seq_l, Rk.seq_loc, Rk.seq_sl, Rk.lst_rol, Rk.lst_l, Rk.lst_loc, Rk.lst_sl, Rk.lst_tup, Rk.ix_int, Rk.ix_some, Rk.seqT_l, Rk.seqT_tup, Rk.seqT_rol, Rk.seqT_loc, Rk.lstT_l, Rk.lstT_rol, Rk.lstT_loc, Rk.at_0, Rk.at_1, Rk.at_2, Rk.at_3, Rk.at_4, Rk.at_5, Rk.bin_int, Rk.i_add, Rk.i_sub, Rk.i_mul, Rk.i_div, Rk.i_mod, Rk.i_pow, Rk.u_neg, Rk.c_lt, Rk.c_le, Rk.c_gt, Rk.c_ge, Rk.c_eq, Rk.c_ne, Rk.c_isN, Rk.c_isI, Rk.c_seq, Rk.c_sne, Rk.t_non, Rk.t_bl, Rk.t_int, Rk.iw_int, Rk.bt_bl, Rk.b_int, Rk.b_intb, Rk.b_abs, Rk.b_lent, Rk.b_lenr, Rk.b_lenl, Rk.b_tup, Rk.b_list, Rk.b_all, Rk.b_any, Rk.b_sum, Rk.bls_nil, Rk.bls_cons, Rk.ints_nil, Rk.ints_cons, Rk.b_min1, Rk.b_max1, Rk.b_min2, Rk.b_max2, Rk.m_loc, Rk.m_sl, Rk.p_nil, Rk.p_cons, Rk.set_s, Rk.esc_l, Rk.isI_int, Rk.isI_bool, Rk.isI_tup, List.cons_append, List.nil_append, List.append_nil, List.getElem?_cons_zero, List.getElem?_cons_succ, List.set_cons_zero, List.set_cons_succ, List.length_cons, List.length_nil, List.map_nil, List.map_cons, Option.bind_some, Option.bind_none, Option.map_some, Option.map_none, Option.isSome_some, id_eq, true_and, and_true, decide_eq_true_eq, List.replicate_succ, List.replicate_zero, Nat.reduceAdd, Nat.reduceSub, Int.reduceMul, Int.reduceAdd, Int.reduceSub, Int.reduceNeg, if_true, if_false, Bool.true_eq_false, Bool.false_eq_true, reduceIte]
  have e : iMod i 2 = i % 2 := rfl
  have e2 : iDiv i 2 = i / 2 := rfl
  rw [e, e2]
  unfold mid at h
  refine ⟨by decide, ?_⟩
  by_cases c : i % 2 = 0
  · rw [if_pos c] at h ⊢
    exact ⟨by decide, by decide, h⟩
  · rw [if_neg c] at h ⊢
    exact ⟨by decide, h⟩
theorem c_sample_of {a b c : Int} (h : R (.w (pt (mid a).1 (mid a).2 (mid b).1 (mid b).2 (mid c).1 (mid c).2)) M) : ((ob (n + 2)).fn 20 [.w (ce a b c)] M).sat R := by
  rw [r20, w_run]; unfold d20; rw [w_seq]
  try simp only [Rk.sat_ok, Rk.osat_some, Rk.osat_none, Rk.osat_ite, Rk.osat_map, Rk.osat_bind, Rk.w_var, Rk.w_con, Rk.w_bin, Rk.w_cmp, Rk.w_ix, Rk.w_bi, Rk.w_es0, Rk.w_es, Rk.w_ts0, Rk.w_ts, Rk.w_ws0, Rk.w_ws, Rk.w_W, Rk.w_T, Rk.w_esc, Rk.w_givw, Rk.w_givl, Rk.w_tup, Rk.w_lst, Rk.w_call, Rk.w_callK, Rk.w_un, Rk.w_not, Rk.w_and, Rk.w_or, Rk.w_ifx, Rk.w_sl, Rk.w_no, Rk.w_so, Rk.w_asb, Rk.w_tru, Rk.w_bnot, Rk.w_band, Rk.w_bor, Rk.w_yes, Rk.w_skip, Rk.w_expr, Rk.w_set, Rk.w_ret, Rk.w_retN, Rk.w_if, Rk.w_asg, Rk.w_par, Rk.w_gnm, Rk.w_gsb, Rk.w_mt, Rk.w_ext, Rk.w_gtp, Rk.w_gsc, Rk.w_gsn, Rk.w_escs, Rk.w_givs, Rk.slQ_l, Rk.slQ_w, Rk.backT, Option.getD_some, Option.getD_none, Rk.get_w, Rk.get_l, Rk.get_sl, Rk.seq_tup, Rk.seq_rol, Rk.seq_l, Rk.seq_loc, Rk.seq_sl, Rk.lst_rol, Rk.lst_l, Rk.lst_loc, Rk.lst_sl, Rk.lst_tup, Rk.ix_int, Rk.ix_some, Rk.seqT_l, Rk.seqT_tup, Rk.seqT_rol, Rk.seqT_loc, Rk.lstT_l, Rk.lstT_rol, Rk.lstT_loc, Rk.at_0, Rk.at_1, Rk.at_2, Rk.at_3, Rk.at_4, Rk.at_5, Rk.bin_int, Rk.i_add, Rk.i_sub, Rk.i_mul, Rk.i_div, Rk.i_mod, Rk.i_pow, Rk.u_neg, Rk.c_lt, Rk.c_le, Rk.c_gt, Rk.c_ge, Rk.c_eq, Rk.c_ne, Rk.c_isN, Rk.c_isI, Rk.c_seq, Rk.c_sne, Rk.t_non, Rk.t_bl, Rk.t_int, Rk.iw_int, Rk.bt_bl, Rk.b_int, Rk.b_intb, Rk.b_abs, Rk.b_lent, Rk.b_lenr, Rk.b_lenl, Rk.b_tup, Rk.b_list, Rk.b_all, Rk.b_any, Rk.b_sum, Rk.bls_nil, Rk.bls_cons, Rk.ints_nil, Rk.ints_cons, Rk.b_min1, Rk.b_max1, Rk.b_min2, Rk.b_max2, Rk.m_loc, Rk.m_sl, Rk.p_nil, Rk.p_cons, Rk.set_s, Rk.esc_l, Rk.isI_int, Rk.isI_bool, Rk.isI_tup, List.cons_append, List.nil_append, List.append_nil, List.getElem?_cons_zero, List.getElem?_cons_succ, List.set_cons_zero, List.set_cons_succ, List.length_cons, List.length_nil, List.map_nil, List.map_cons, Option.bind_some, Option.bind_none, Option.map_some, Option.map_none, Option.isSome_some, id_eq, true_and, and_true, decide_eq_true_eq, List.replicate_succ, List.replicate_zero, Nat.reduceAdd, Nat.reduceSub, Int.reduceMul, Int.reduceAdd, Int.reduceSub, Int.reduceNeg, if_true, if_false, Bool.true_eq_false, Bool.false_eq_true, reduceIte, w_comp, w_walk, k_tup, w_gsnap]
  refine ⟨rfl, ?_⟩
  rw [Rk.cs_cons]; try simp only [Rk.sat_ok, Rk.osat_some, Rk.osat_none, Rk.osat_ite, Rk.osat_map, Rk.osat_bind, Rk.w_var, Rk.w_con, Rk.w_bin, Rk.w_cmp, Rk.w_ix, Rk.w_bi, Rk.w_es0, Rk.w_es, Rk.w_ts0, Rk.w_ts, Rk.w_ws0, Rk.w_ws, Rk.w_W, Rk.w_T, Rk.w_esc, Rk.w_givw, Rk.w_givl, Rk.w_tup, Rk.w_lst, Rk.w_call, Rk.w_callK, Rk.w_un, Rk.w_not, Rk.w_and, Rk.w_or, Rk.w_ifx, Rk.w_sl, Rk.w_no, Rk.w_so, Rk.w_asb, Rk.w_tru, Rk.w_bnot, Rk.w_band, Rk.w_bor, Rk.w_yes, Rk.w_skip, Rk.w_expr, Rk.w_set, Rk.w_ret, Rk.w_retN, Rk.w_if, Rk.w_asg, Rk.w_par, Rk.w_gnm, Rk.w_gsb, Rk.w_mt, Rk.w_ext, Rk.w_gtp, Rk.w_gsc, Rk.w_gsn, Rk.w_escs, Rk.w_givs, Rk.slQ_l, Rk.slQ_w, Rk.backT, Option.getD_some, Option.getD_none, Rk.get_w, Rk.get_l, Rk.get_sl, Rk.seq_tup, Rk.seq_rol, Rk.seq_l, Rk.seq_loc, Rk.seq_sl, Rk.lst_rol, Rk.lst_l, Rk.lst_loc, Rk.lst_sl, Rk.lst_tup, Rk.ix_int, Rk.ix_some, Rk.seqT_l, Rk.seqT_tup, Rk.seqT_rol, Rk.seqT_loc, Rk.lstT_l, Rk.lstT_rol, Rk.lstT_loc, Rk.at_0, Rk.at_1, Rk.at_2, Rk.at_3, Rk.at_4, Rk.at_5, Rk.bin_int, Rk.i_add, Rk.i_sub, Rk.i_mul, Rk.i_div, Rk.i_mod, Rk.i_pow, Rk.u_neg, Rk.c_lt, Rk.c_le, Rk.c_gt, Rk.c_ge, Rk.c_eq, Rk.c_ne, Rk.c_isN, Rk.c_isI, Rk.c_seq, Rk.c_sne, Rk.t_non, Rk.t_bl, Rk.t_int, Rk.iw_int, Rk.bt_bl, Rk.b_int, Rk.b_intb, Rk.b_abs, Rk.b_lent, Rk.b_lenr, Rk.b_lenl, Rk.b_tup, Rk.b_list, Rk.b_all, Rk.b_any, Rk.b_sum, Rk.bls_nil, Rk.bls_cons, Rk.ints_nil, Rk.ints_cons, Rk.b_min1, Rk.b_max1, Rk.b_min2, Rk.b_max2, Rk.m_loc, Rk.m_sl, Rk.p_nil, Rk.p_cons, Rk.set_s, Rk.esc_l, Rk.isI_int, Rk.isI_bool, Rk.isI_tup, List.cons_append, List.nil_append, List.append_nil, List.getElem?_cons_zero, List.getElem?_cons_succ, List.set_cons_zero, List.set_cons_succ, List.length_cons, List.length_nil, List.map_nil, List.map_cons, Option.bind_some, Option.bind_none, Option.map_some, Option.map_none, Option.isSome_some, id_eq, true_and, and_true, decide_eq_true_eq, List.replicate_succ, List.replicate_zero, Nat.reduceAdd, Nat.reduceSub, Int.reduceMul, Int.reduceAdd, Int.reduceSub, Int.reduceNeg, if_true, if_false, Bool.true_eq_false, Bool.false_eq_true, reduceIte, Rk.wipeS, Rk.wipeT]
  refine c_middle ?_
  try simp only [Rk.sat_ok, Rk.osat_some, Rk.osat_none, Rk.osat_ite, Rk.osat_map, Rk.osat_bind, Rk.w_var, Rk.w_con, Rk.w_bin, Rk.w_cmp, Rk.w_ix, Rk.w_bi, Rk.w_es0, Rk.w_es, Rk.w_ts0, Rk.w_ts, Rk.w_ws0, Rk.w_ws, Rk.w_W, Rk.w_T, Rk.w_esc, Rk.w_givw, Rk.w_givl, Rk.w_tup, Rk.w_lst, Rk.w_call, Rk.w_callK, Rk.w_un, Rk.w_not, Rk.w_and, Rk.w_or, Rk.w_ifx, Rk.w_sl, Rk.w_no, Rk.w_so, Rk.w_asb, Rk.w_tru, Rk.w_bnot, Rk.w_band, Rk.w_bor, Rk.w_yes, Rk.w_skip, Rk.w_expr, Rk.w_set, Rk.w_ret, Rk.w_retN, Rk.w_if, Rk.w_asg, Rk.w_par, Rk.w_gnm, Rk.w_gsb, Rk.w_mt, Rk.w_ext, Rk.w_gtp, Rk.w_gsc, Rk.w_gsn, Rk.w_escs, Rk.w_givs, Rk.slQ_l, Rk.slQ_w, Rk.backT, Option.getD_some, Option.getD_none, Rk.get_w, Rk.get_l, Rk.get_sl, Rk.seq_tup, Rk.seq_rol, Rk.seq_l, Rk.seq_loc, Rk.seq_sl, Rk.lst_rol, Rk.lst_l, Rk.lst_loc, Rk.lst_sl, Rk.lst_tup, Rk.ix_int, Rk.ix_some, Rk.seqT_l, Rk.seqT_tup, Rk.seqT_rol, Rk.seqT_loc, Rk.lstT_l, Rk.lstT_rol, Rk.lstT_loc, Rk.at_0, Rk.at_1, Rk.at_2, Rk.at_3, Rk.at_4, Rk.at_5, Rk.bin_int, Rk.i_add, Rk.i_sub, Rk.i_mul, Rk.i_div, Rk.i_mod, Rk.i_pow, Rk.u_neg, Rk.c_lt, Rk.c_le, Rk.c_gt, Rk.c_ge, Rk.c_eq, Rk.c_ne, Rk.c_isN, Rk.c_isI, Rk.c_seq, Rk.c_sne, Rk.t_non, Rk.t_bl, Rk.t_int, Rk.iw_int, Rk.bt_bl, Rk.b_int, Rk.b_intb, Rk.b_abs, Rk.b_lent, Rk.b_lenr, Rk.b_lenl, Rk.b_tup, Rk.b_list, Rk.b_all, Rk.b_any, Rk.b_sum, Rk.bls_nil, Rk.bls_cons, Rk.ints_nil, Rk.ints_cons, Rk.b_min1, Rk.b_max1, Rk.b_min2, Rk.b_max2, Rk.m_loc, Rk.m_sl, Rk.p_nil, Rk.p_cons, Rk.set_s, Rk.esc_l, Rk.isI_int, Rk.isI_bool, Rk.isI_tup, List.cons_append, List.nil_append, List.append_nil, List.getElem?_cons_zero, List.getElem?_cons_succ, List.set_cons_zero, List.set_cons_succ, List.length_cons, List.length_nil, List.map_nil, List.map_cons, Option.bind_some, Option.bind_none, Option.map_some, Option.map_none, Option.isSome_some, id_eq, true_and, and_true, decide_eq_true_eq, List.replicate_succ, List.replicate_zero, Nat.reduceAdd, Nat.reduceSub, Int.reduceMul, Int.reduceAdd, Int.reduceSub, Int.reduceNeg, if_true, if_false, Bool.true_eq_false, Bool.false_eq_true, reduceIte]
  refine ⟨⟨by decide, rfl⟩, ?_⟩
  rw [Rk.cs_cons]; try simp only [Rk.sat_ok, Rk.osat_some, Rk.osat_none, Rk.osat_ite, Rk.osat_map, Rk.osat_bind, Rk.w_var, Rk.w_con, Rk.w_bin, Rk.w_cmp, Rk.w_ix, Rk.w_bi, Rk.w_es0, Rk.w_es, Rk.w_ts0, Rk.w_ts, Rk.w_ws0, Rk.w_ws, Rk.w_W, Rk.w_T, Rk.w_esc, Rk.w_givw, Rk.w_givl, Rk.w_tup, Rk.w_lst, Rk.w_call, Rk.w_callK, Rk.w_un, Rk.w_not, Rk.w_and, Rk.w_or, Rk.w_ifx, Rk.w_sl, Rk.w_no, Rk.w_so, Rk.w_asb, Rk.w_tru, Rk.w_bnot, Rk.w_band, Rk.w_bor, Rk.w_yes, Rk.w_skip, Rk.w_expr, Rk.w_set, Rk.w_ret, Rk.w_retN, Rk.w_if, Rk.w_asg, Rk.w_par, Rk.w_gnm, Rk.w_gsb, Rk.w_mt, Rk.w_ext, Rk.w_gtp, Rk.w_gsc, Rk.w_gsn, Rk.w_escs, Rk.w_givs, Rk.slQ_l, Rk.slQ_w, Rk.backT, Option.getD_some, Option.getD_none, Rk.get_w, Rk.get_l, Rk.get_sl, Rk.seq_tup, Rk.seq_rol, Rk.seq_l, Rk.seq_loc, Rk.seq_sl, Rk.lst_rol, Rk.lst_l, Rk.lst_loc, Rk.lst_sl, Rk.lst_tup, Rk.ix_int, Rk.ix_some, Rk.seqT_l, Rk.seqT_tup, Rk.seqT_rol, Rk.seqT_loc, Rk.lstT_l, Rk.lstT_rol, Rk.lstT_loc, Rk.at_0, Rk.at_1, Rk.at_2, Rk.at_3, Rk.at_4, Rk.at_5, Rk.bin_int, Rk.i_add, Rk.i_sub, Rk.i_mul, Rk.i_div, Rk.i_mod, Rk.i_pow, Rk.u_neg, Rk.c_lt, Rk.c_le, Rk.c_gt, Rk.c_ge, Rk.c_eq, Rk.c_ne, Rk.c_isN, Rk.c_isI, Rk.c_seq, Rk.c_sne, Rk.t_non, Rk.t_bl, Rk.t_int, Rk.iw_int, Rk.bt_bl, Rk.b_int, Rk.b_intb, Rk.b_abs, Rk.b_lent, Rk.b_lenr, Rk.b_lenl, Rk.b_tup, Rk.b_list, Rk.b_all, Rk.b_any, Rk.b_sum, Rk.bls_nil, Rk.bls_cons, Rk.ints_nil, Rk.ints_cons, Rk.b_min1, Rk.b_max1, Rk.b_min2, Rk.b_max2, Rk.m_loc, Rk.m_sl, Rk.p_nil, Rk.p_cons, Rk.set_s, Rk.esc_l, Rk.isI_int, Rk.isI_bool, Rk.isI_tup, List.cons_append, List.nil_append, List.append_nil, List.getElem?_cons_zero, List.getElem?_cons_succ, List.set_cons_zero, List.set_cons_succ, List.length_cons, List.length_nil, List.map_nil, List.map_cons, Option.bind_some, Option.bind_none, Option.map_some, Option.map_none, Option.isSome_some, id_eq, true_and, and_true, decide_eq_true_eq, List.replicate_succ, List.replicate_zero, Nat.reduceAdd, Nat.reduceSub, Int.reduceMul, Int.reduceAdd, Int.reduceSub, Int.reduceNeg, if_true, if_false, Bool.true_eq_false, Bool.false_eq_true, reduceIte, Rk.wipeS, Rk.wipeT]
  refine c_middle ?_
  try simp only [Rk.sat_ok, Rk.osat_some, Rk.osat_none, Rk.osat_ite, Rk.osat_map, Rk.osat_bind, Rk.w_var, Rk.w_con, Rk.w_bin, Rk.w_cmp, Rk.w_ix, Rk.w_bi, Rk.w_es0, Rk.w_es, Rk.w_ts0, Rk.w_ts, Rk.w_ws0, Rk.w_ws, Rk.w_W, Rk.w_T, Rk.w_esc, Rk.w_givw, Rk.w_givl, Rk.w_tup, Rk.w_lst, Rk.w_call, Rk.w_callK, Rk.w_un, Rk.w_not, Rk.w_and, Rk.w_or, Rk.w_ifx, Rk.w_sl, Rk.w_no, Rk.w_so, Rk.w_asb, Rk.w_tru, Rk.w_bnot, Rk.w_band, Rk.w_bor, Rk.w_yes, Rk.w_skip, Rk.w_expr, Rk.w_set, Rk.w_ret, Rk.w_retN, Rk.w_if, Rk.w_asg, Rk.w_par, Rk.w_gnm, Rk.w_gsb, Rk.w_mt, Rk.w_ext, Rk.w_gtp, Rk.w_gsc, Rk.w_gsn, Rk.w_escs, Rk.w_givs, Rk.slQ_l, Rk.slQ_w, Rk.backT, Option.getD_some, Option.getD_none, Rk.get_w, Rk.get_l, Rk.get_sl, Rk.seq_tup, Rk.seq_rol, Rk.seq_l, Rk.seq_loc, Rk.seq_sl, Rk.lst_rol, Rk.lst_l, Rk.lst_loc, Rk.lst_sl, Rk.lst_tup, Rk.ix_int, Rk.ix_some, Rk.seqT_l, Rk.seqT_tup, Rk.seqT_rol, Rk.seqT_loc, Rk.lstT_l, Rk.lstT_rol, Rk.lstT_loc, Rk.at_0, Rk.at_1, Rk.at_2, Rk.at_3, Rk.at_4, Rk.at_5, Rk.bin_int, Rk.i_add, Rk.i_sub, Rk.i_mul, Rk.i_div, Rk.i_mod, Rk.i_pow, Rk.u_neg, Rk.c_lt, Rk.c_le, Rk.c_gt, Rk.c_ge, Rk.c_eq, Rk.c_ne, Rk.c_isN, Rk.c_isI, Rk.c_seq, Rk.c_sne, Rk.t_non, Rk.t_bl, Rk.t_int, Rk.iw_int, Rk.bt_bl, Rk.b_int, Rk.b_intb, Rk.b_abs, Rk.b_lent, Rk.b_lenr, Rk.b_lenl, Rk.b_tup, Rk.b_list, Rk.b_all, Rk.b_any, Rk.b_sum, Rk.bls_nil, Rk.bls_cons, Rk.ints_nil, Rk.ints_cons, Rk.b_min1, Rk.b_max1, Rk.b_min2, Rk.b_max2, Rk.m_loc, Rk.m_sl, Rk.p_nil, Rk.p_cons, Rk.set_s, Rk.esc_l, Rk.isI_int, Rk.isI_bool, Rk.isI_tup, List.cons_append, List.nil_append, List.append_nil, List.getElem?_cons_zero, List.getElem?_cons_succ, List.set_cons_zero, List.set_cons_succ, List.length_cons, List.length_nil, List.map_nil, List.map_cons, Option.bind_some, Option.bind_none, Option.map_some, Option.map_none, Option.isSome_some, id_eq, true_and, and_true, decide_eq_true_eq, List.replicate_succ, List.replicate_zero, Nat.reduceAdd, Nat.reduceSub, Int.reduceMul, Int.reduceAdd, Int.reduceSub, Int.reduceNeg, if_true, if_false, Bool.true_eq_false, Bool.false_eq_true, reduceIte]
  refine ⟨⟨by decide, rfl⟩, ?_⟩
  rw [Rk.cs_cons]; try simp only [Rk.sat_ok, Rk.osat_some, Rk.osat_none, Rk.osat_ite, Rk.osat_map, Rk.osat_bind, Rk.w_var, Rk.w_con, Rk.w_bin, Rk.w_cmp, Rk.w_ix, Rk.w_bi, Rk.w_es0, Rk.w_es, Rk.w_ts0, Rk.w_ts, Rk.w_ws0, Rk.w_ws, Rk.w_W, Rk.w_T, Rk.w_esc, Rk.w_givw, Rk.w_givl, Rk.w_tup, Rk.w_lst, Rk.w_call, Rk.w_callK, Rk.w_un, Rk.w_not, Rk.w_and, Rk.w_or, Rk.w_ifx, Rk.w_sl, Rk.w_no, Rk.w_so, Rk.w_asb, Rk.w_tru, Rk.w_bnot, Rk.w_band, Rk.w_bor, Rk.w_yes, Rk.w_skip, Rk.w_expr, Rk.w_set, Rk.w_ret, Rk.w_retN, Rk.w_if, Rk.w_asg, Rk.w_par, Rk.w_gnm, Rk.w_gsb, Rk.w_mt, Rk.w_ext, Rk.w_gtp, Rk.w_gsc, Rk.w_gsn, Rk.w_escs, Rk.w_givs, Rk.slQ_l, Rk.slQ_w, Rk.backT, Option.getD_some, Option.getD_none, Rk.get_w, Rk.get_l, Rk.get_sl, Rk.seq_tup, Rk.seq_rol, Rk.seq_l, Rk.seq_loc, Rk.seq_sl, Rk.lst_rol, Rk.lst_l, Rk.lst_loc, Rk.lst_sl, Rk.lst_tup, Rk.ix_int, Rk.ix_some, Rk.seqT_l, Rk.seqT_tup, Rk.seqT_rol, Rk.seqT_loc, Rk.lstT_l, Rk.lstT_rol, Rk.lstT_loc, Rk.at_0, Rk.at_1, Rk.at_2, Rk.at_3, Rk.at_4, Rk.at_5, Rk.bin_int, Rk.i_add, Rk.i_sub, Rk.i_mul, Rk.i_div, Rk.i_mod, Rk.i_pow, Rk.u_neg, Rk.c_lt, Rk.c_le, Rk.c_gt, Rk.c_ge, Rk.c_eq, Rk.c_ne, Rk.c_isN, Rk.c_isI, Rk.c_seq, Rk.c_sne, Rk.t_non, Rk.t_bl, Rk.t_int, Rk.iw_int, Rk.bt_bl, Rk.b_int, Rk.b_intb, Rk.b_abs, Rk.b_lent, Rk.b_lenr, Rk.b_lenl, Rk.b_tup, Rk.b_list, Rk.b_all, Rk.b_any, Rk.b_sum, Rk.bls_nil, Rk.bls_cons, Rk.ints_nil, Rk.ints_cons, Rk.b_min1, Rk.b_max1, Rk.b_min2, Rk.b_max2, Rk.m_loc, Rk.m_sl, Rk.p_nil, Rk.p_cons, Rk.set_s, Rk.esc_l, Rk.isI_int, Rk.isI_bool, Rk.isI_tup, List.cons_append, List.nil_append, List.append_nil, List.getElem?_cons_zero, List.getElem?_cons_succ, List.set_cons_zero, List.set_cons_succ, List.length_cons, List.length_nil, List.map_nil, List.map_cons, Option.bind_some, Option.bind_none, Option.map_some, Option.map_none, Option.isSome_some, id_eq, true_and, and_true, decide_eq_true_eq, List.replicate_succ, List.replicate_zero, Nat.reduceAdd, Nat.reduceSub, Int.reduceMul, Int.reduceAdd, Int.reduceSub, Int.reduceNeg, if_true, if_false, Bool.true_eq_false, Bool.false_eq_true, reduceIte, Rk.wipeS, Rk.wipeT]
  refine c_middle ?_
  try simp only [Rk.sat_ok, Rk.osat_some, Rk.osat_none, Rk.osat_ite, Rk.osat_map, Rk.osat_bind, Rk.w_var, Rk.w_con, Rk.w_bin, Rk.w_cmp, Rk.w_ix, Rk.w_bi, Rk.w_es0, Rk.w_es, Rk.w_ts0, Rk.w_ts, Rk.w_ws0, Rk.w_ws, Rk.w_W, Rk.w_T, Rk.w_esc, Rk.w_givw, Rk.w_givl, Rk.w_tup, Rk.w_lst, Rk.w_call, Rk.w_callK, Rk.w_un, Rk.w_not, Rk.w_and, Rk.w_or, Rk.w_ifx, Rk.w_sl, Rk.w_no, Rk.w_so, Rk.w_asb, Rk.w_tru, Rk.w_bnot, Rk.w_band, Rk.w_bor, Rk.w_yes, Rk.w_skip, Rk.w_expr, Rk.w_set, Rk.w_ret, Rk.w_retN, Rk.w_if, Rk.w_asg, Rk.w_par, Rk.w_gnm, Rk.w_gsb, Rk.w_mt, Rk.w_ext, Rk.w_gtp, Rk.w_gsc, Rk.w_gsn, Rk.w_escs, Rk.w_givs, Rk.slQ_l, Rk.slQ_w, Rk.backT, Option.getD_some, Option.getD_none, Rk.get_w, Rk.get_l, Rk.get_sl, Rk.seq_tup, Rk.seq_rol, Rk.seq_l, Rk.seq_loc, Rk.seq_sl, Rk.lst_rol, Rk.lst_l, Rk.lst_loc, Rk.lst_sl, Rk.lst_tup, Rk.ix_int, Rk.ix_some, Rk.seqT_l, Rk.seqT_tup, Rk.seqT_rol, Rk.seqT_loc, Rk.lstT_l, Rk.lstT_rol, Rk.lstT_loc, Rk.at_0, Rk.at_1, Rk.at_2, Rk.at_3, Rk.at_4, Rk.at_5, Rk.bin_int, Rk.i_add, Rk.i_sub, Rk.i_mul, Rk.i_div, Rk.i_mod, Rk.i_pow, Rk.u_neg, Rk.c_lt, Rk.c_le, Rk.c_gt, Rk.c_ge, Rk.c_eq, Rk.c_ne, Rk.c_isN, Rk.c_isI, Rk.c_seq, Rk.c_sne, Rk.t_non, Rk.t_bl, Rk.t_int, Rk.iw_int, Rk.bt_bl, Rk.b_int, Rk.b_intb, Rk.b_abs, Rk.b_lent, Rk.b_lenr, Rk.b_lenl, Rk.b_tup, Rk.b_list, Rk.b_all, Rk.b_any, Rk.b_sum, Rk.bls_nil, Rk.bls_cons, Rk.ints_nil, Rk.ints_cons, Rk.b_min1, Rk.b_max1, Rk.b_min2, Rk.b_max2, Rk.m_loc, Rk.m_sl, Rk.p_nil, Rk.p_cons, Rk.set_s, Rk.esc_l, Rk.isI_int, Rk.isI_bool, Rk.isI_tup, List.cons_append, List.nil_append, List.append_nil, List.getElem?_cons_zero, List.getElem?_cons_succ, List.set_cons_zero, List.set_cons_succ, List.length_cons, List.length_nil, List.map_nil, List.map_cons, Option.bind_some, Option.bind_none, Option.map_some, Option.map_none, Option.isSome_some, id_eq, true_and, and_true, decide_eq_true_eq, List.replicate_succ, List.replicate_zero, Nat.reduceAdd, Nat.reduceSub, Int.reduceMul, Int.reduceAdd, Int.reduceSub, Int.reduceNeg, if_true, if_false, Bool.true_eq_false, Bool.false_eq_true, reduceIte, cs_nil]
  exact ⟨⟨by decide, rfl⟩, h⟩
theorem c_is_cell {a b c : Int} (h : R (.w (.bl true)) M) : ((ob (n + 2)).fn 25 [.w (ce a b c)] M).sat R := by
  rw [r25, w_run]; unfold d25; rw [w_seq]
  try simp only [Rk.sat_ok, Rk.osat_some, Rk.osat_none, Rk.osat_ite, Rk.osat_map, Rk.osat_bind, Rk.w_var, Rk.w_con, Rk.w_bin, Rk.w_cmp, Rk.w_ix, Rk.w_bi, Rk.w_es0, Rk.w_es, Rk.w_ts0, Rk.w_ts, Rk.w_ws0, Rk.w_ws, Rk.w_W, Rk.w_T, Rk.w_esc, Rk.w_givw, Rk.w_givl, Rk.w_tup, Rk.w_lst, Rk.w_call, Rk.w_callK, Rk.w_un, Rk.w_not, Rk.w_and, Rk.w_or, Rk.w_ifx, Rk.w_sl, Rk.w_no, Rk.w_so, Rk.w_asb, Rk.w_tru, Rk.w_bnot, Rk.w_band, Rk.w_bor, Rk.w_yes, Rk.w_skip, Rk.w_expr, Rk.w_set, Rk.w_ret, Rk.w_retN, Rk.w_if, Rk.w_asg, Rk.w_par, Rk.w_gnm, Rk.w_gsb, Rk.w_mt, Rk.w_ext, Rk.w_gtp, Rk.w_gsc, Rk.w_gsn, Rk.w_escs, Rk.w_givs, Rk.slQ_l, Rk.slQ_w, Rk.backT, Option.getD_some, Option.getD_none, Rk.get_w, Rk.get_l, Rk.get_sl, Rk.seq_tup, Rk.seq_rol, Rk.seq_l, Rk.seq_loc, Rk.seq_sl, Rk.lst_rol, Rk.lst_l, Rk.lst_loc, Rk.lst_sl, Rk.lst_tup, Rk.ix_int, Rk.ix_some, Rk.seqT_l, Rk.seqT_tup, Rk.seqT_rol, Rk.seqT_loc, Rk.lstT_l, Rk.lstT_rol, Rk.lstT_loc, Rk.at_0, Rk.at_1, Rk.at_2, Rk.at_3, Rk.at_4, Rk.at_5, Rk.bin_int, Rk.i_add, Rk.i_sub, Rk.i_mul, Rk.i_div, Rk.i_mod, Rk.i_pow, Rk.u_neg, Rk.c_lt, Rk.c_le, Rk.c_gt, Rk.c_ge, Rk.c_eq, Rk.c_ne, Rk.c_isN, Rk.c_isI, Rk.c_seq, Rk.c_sne, Rk.t_non, Rk.t_bl, Rk.t_int, Rk.iw_int, Rk.bt_bl, Rk.b_int, Rk.b_intb, Rk.b_abs, Rk.b_lent, Rk.b_lenr, Rk.b_lenl, Rk.b_tup, Rk.b_list, Rk.b_all, Rk.b_any, Rk.b_sum, Rk.bls_nil, Rk.bls_cons, Rk.ints_nil, Rk.ints_cons, Rk.b_min1, Rk.b_max1, Rk.b_min2, Rk.b_max2, Rk.m_loc, Rk.m_sl, Rk.p_nil, Rk.p_cons, Rk.set_s, Rk.esc_l, Rk.isI_int, Rk.isI_bool, Rk.isI_tup, List.cons_append, List.nil_append, List.append_nil, List.getElem?_cons_zero, List.getElem?_cons_succ, List.set_cons_zero, List.set_cons_succ, List.length_cons, List.length_nil, List.map_nil, List.map_cons, Option.bind_some, Option.bind_none, Option.map_some, Option.map_none, Option.isSome_some, id_eq, true_and, and_true, decide_eq_true_eq, List.replicate_succ, List.replicate_zero, Nat.reduceAdd, Nat.reduceSub, Int.reduceMul, Int.reduceAdd, Int.reduceSub, Int.reduceNeg, if_true, if_false, Bool.true_eq_false, Bool.false_eq_true, reduceIte]
  refine c_is_tuple (by simp) (by simp) ?_
  try simp only [Rk.sat_ok, Rk.osat_some, Rk.osat_none, Rk.osat_ite, Rk.osat_map, Rk.osat_bind, Rk.w_var, Rk.w_con, Rk.w_bin, Rk.w_cmp, Rk.w_ix, Rk.w_bi, Rk.w_es0, Rk.w_es, Rk.w_ts0, Rk.w_ts, Rk.w_ws0, Rk.w_ws, Rk.w_W, Rk.w_T, Rk.w_esc, Rk.w_givw, Rk.w_givl, Rk.w_tup, Rk.w_lst, Rk.w_call, Rk.w_callK, Rk.w_un, Rk.w_not, Rk.w_and, Rk.w_or, Rk.w_ifx, Rk.w_sl, Rk.w_no, Rk.w_so, Rk.w_asb, Rk.w_tru, Rk.w_bnot, Rk.w_band, Rk.w_bor, Rk.w_yes, Rk.w_skip, Rk.w_expr, Rk.w_set, Rk.w_ret, Rk.w_retN, Rk.w_if, Rk.w_asg, Rk.w_par, Rk.w_gnm, Rk.w_gsb, Rk.w_mt, Rk.w_ext, Rk.w_gtp, Rk.w_gsc, Rk.w_gsn, Rk.w_escs, Rk.w_givs, Rk.slQ_l, Rk.slQ_w, Rk.backT, Option.getD_some, Option.getD_none, Rk.get_w, Rk.get_l, Rk.get_sl, Rk.seq_tup, Rk.seq_rol, Rk.seq_l, Rk.seq_loc, Rk.seq_sl, Rk.lst_rol, Rk.lst_l, Rk.lst_loc, Rk.lst_sl, Rk.lst_tup, Rk.ix_int, Rk.ix_some, Rk.seqT_l, Rk.seqT_tup, Rk.seqT_rol, Rk.seqT_loc, Rk.lstT_l, Rk.lstT_rol, Rk.lstT_loc, Rk.at_0, Rk.at_1, Rk.at_2, Rk.at_3, Rk.at_4, Rk.at_5, Rk.bin_int, Rk.i_add, Rk.i_sub, Rk.i_mul, Rk.i_div, Rk.i_mod, Rk.i_pow, Rk.u_neg, Rk.c_lt, Rk.c_le, Rk.c_gt, Rk.c_ge, Rk.c_eq, Rk.c_ne, Rk.c_isN, Rk.c_isI, Rk.c_seq, Rk.c_sne, Rk.t_non, Rk.t_bl, Rk.t_int, Rk.iw_int, Rk.bt_bl, Rk.b_int, Rk.b_intb, Rk.b_abs, Rk.b_lent, Rk.b_lenr, Rk.b_lenl, Rk.b_tup, Rk.b_list, Rk.b_all, Rk.b_any, Rk.b_sum, Rk.bls_nil, Rk.bls_cons, Rk.ints_nil, Rk.ints_cons, Rk.b_min1, Rk.b_max1, Rk.b_min2, Rk.b_max2, Rk.m_loc, Rk.m_sl, Rk.p_nil, Rk.p_cons, Rk.set_s, Rk.esc_l, Rk.isI_int, Rk.isI_bool, Rk.isI_tup, List.cons_append, List.nil_append, List.append_nil, List.getElem?_cons_zero, List.getElem?_cons_succ, List.set_cons_zero, List.set_cons_succ, List.length_cons, List.length_nil, List.map_nil, List.map_cons, Option.bind_some, Option.bind_none, Option.map_some, Option.map_none, Option.isSome_some, id_eq, true_and, and_true, decide_eq_true_eq, List.replicate_succ, List.replicate_zero, Nat.reduceAdd, Nat.reduceSub, Int.reduceMul, Int.reduceAdd, Int.reduceSub, Int.reduceNeg, if_true, if_false, Bool.true_eq_false, Bool.false_eq_true, reduceIte, w_comp, w_walk, k_tup, w_gsnap]
  refine ⟨rfl, Out.sat.mono (all_whole (ns := [a, b, c]) (by simp)) fun acc s' ⟨e1, e2, e3⟩ => ?_⟩
  subst e1
  rw [e2]
  try simp only [Rk.sat_ok, Rk.osat_some, Rk.osat_none, Rk.osat_ite, Rk.osat_map, Rk.osat_bind, Rk.w_var, Rk.w_con, Rk.w_bin, Rk.w_cmp, Rk.w_ix, Rk.w_bi, Rk.w_es0, Rk.w_es, Rk.w_ts0, Rk.w_ts, Rk.w_ws0, Rk.w_ws, Rk.w_W, Rk.w_T, Rk.w_esc, Rk.w_givw, Rk.w_givl, Rk.w_tup, Rk.w_lst, Rk.w_call, Rk.w_callK, Rk.w_un, Rk.w_not, Rk.w_and, Rk.w_or, Rk.w_ifx, Rk.w_sl, Rk.w_no, Rk.w_so, Rk.w_asb, Rk.w_tru, Rk.w_bnot, Rk.w_band, Rk.w_bor, Rk.w_yes, Rk.w_skip, Rk.w_expr, Rk.w_set, Rk.w_ret, Rk.w_retN, Rk.w_if, Rk.w_asg, Rk.w_par, Rk.w_gnm, Rk.w_gsb, Rk.w_mt, Rk.w_ext, Rk.w_gtp, Rk.w_gsc, Rk.w_gsn, Rk.w_escs, Rk.w_givs, Rk.slQ_l, Rk.slQ_w, Rk.backT, Option.getD_some, Option.getD_none, Rk.get_w, Rk.get_l, Rk.get_sl, Rk.seq_tup, Rk.seq_rol, Rk.seq_l, Rk.seq_loc, Rk.seq_sl, Rk.lst_rol, Rk.lst_l, Rk.lst_loc, Rk.lst_sl, Rk.lst_tup, Rk.ix_int, Rk.ix_some, Rk.seqT_l, Rk.seqT_tup, Rk.seqT_rol, Rk.seqT_loc, Rk.lstT_l, Rk.lstT_rol, Rk.lstT_loc, Rk.at_0, Rk.at_1, Rk.at_2, Rk.at_3, Rk.at_4, Rk.at_5, Rk.bin_int, Rk.i_add, Rk.i_sub, Rk.i_mul, Rk.i_div, Rk.i_mod, Rk.i_pow, Rk.u_neg, Rk.c_lt, Rk.c_le, Rk.c_gt, Rk.c_ge, Rk.c_eq, Rk.c_ne, Rk.c_isN, Rk.c_isI, Rk.c_seq, Rk.c_sne, Rk.t_non, Rk.t_bl, Rk.t_int, Rk.iw_int, Rk.bt_bl, Rk.b_int, Rk.b_intb, Rk.b_abs, Rk.b_lent, Rk.b_lenr, Rk.b_lenl, Rk.b_tup, Rk.b_list, Rk.b_all, Rk.b_any, Rk.b_sum, Rk.bls_nil, Rk.bls_cons, Rk.ints_nil, Rk.ints_cons, Rk.b_min1, Rk.b_max1, Rk.b_min2, Rk.b_max2, Rk.m_loc, Rk.m_sl, Rk.p_nil, Rk.p_cons, Rk.set_s, Rk.esc_l, Rk.isI_int, Rk.isI_bool, Rk.isI_tup, List.cons_append, List.nil_append, List.append_nil, List.getElem?_cons_zero, List.getElem?_cons_succ, List.set_cons_zero, List.set_cons_succ, List.length_cons, List.length_nil, List.map_nil, List.map_cons, Option.bind_some, Option.bind_none, Option.map_some, Option.map_none, Option.isSome_some, id_eq, true_and, and_true, decide_eq_true_eq, List.replicate_succ, List.replicate_zero, Nat.reduceAdd, Nat.reduceSub, Int.reduceMul, Int.reduceAdd, Int.reduceSub, Int.reduceNeg, if_true, if_false, Bool.true_eq_false, Bool.false_eq_true, reduceIte, bls_all, all_all]
  exact h
theorem c_check_cell {a b c : Int} (h : R (.w .non) M) : ((ob (n + 3)).fn 19 [.w (ce a b c)] M).sat R := by
  rw [r19, w_run]; unfold d19; rw [w_seq]
  try simp only [Rk.sat_ok, Rk.osat_some, Rk.osat_none, Rk.osat_ite, Rk.osat_map, Rk.osat_bind, Rk.w_var, Rk.w_con, Rk.w_bin, Rk.w_cmp, Rk.w_ix, Rk.w_bi, Rk.w_es0, Rk.w_es, Rk.w_ts0, Rk.w_ts, Rk.w_ws0, Rk.w_ws, Rk.w_W, Rk.w_T, Rk.w_esc, Rk.w_givw, Rk.w_givl, Rk.w_tup, Rk.w_lst, Rk.w_call, Rk.w_callK, Rk.w_un, Rk.w_not, Rk.w_and, Rk.w_or, Rk.w_ifx, Rk.w_sl, Rk.w_no, Rk.w_so, Rk.w_asb, Rk.w_tru, Rk.w_bnot, Rk.w_band, Rk.w_bor, Rk.w_yes, Rk.w_skip, Rk.w_expr, Rk.w_set, Rk.w_ret, Rk.w_retN, Rk.w_if, Rk.w_asg, Rk.w_par, Rk.w_gnm, Rk.w_gsb, Rk.w_mt, Rk.w_ext, Rk.w_gtp, Rk.w_gsc, Rk.w_gsn, Rk.w_escs, Rk.w_givs, Rk.slQ_l, Rk.slQ_w, Rk.backT, Option.getD_some, Option.getD_none, Rk.get_w, Rk.get_l, Rk.get_sl, Rk.seq_tup, Rk.seq_rol, Rk.seq_l, Rk.seq_loc, Rk.seq_sl, Rk.lst_rol, Rk.lst_l, Rk.lst_loc, Rk.lst_sl, Rk.lst_tup, Rk.ix_int, Rk.ix_some, Rk.seqT_l, Rk.seqT_tup, Rk.seqT_rol, Rk.seqT_loc, Rk.lstT_l, Rk.lstT_rol, Rk.lstT_loc, Rk.at_0, Rk.at_1, Rk.at_2, Rk.at_3, Rk.at_4, Rk.at_5, Rk.bin_int, Rk.i_add, Rk.i_sub, Rk.i_mul, Rk.i_div, Rk.i_mod, Rk.i_pow, Rk.u_neg, Rk.c_lt, Rk.c_le, Rk.c_gt, Rk.c_ge, Rk.c_eq, Rk.c_ne, Rk.c_isN, Rk.c_isI, Rk.c_seq, Rk.c_sne, Rk.t_non, Rk.t_bl, Rk.t_int, Rk.iw_int, Rk.bt_bl, Rk.b_int, Rk.b_intb, Rk.b_abs, Rk.b_lent, Rk.b_lenr, Rk.b_lenl, Rk.b_tup, Rk.b_list, Rk.b_all, Rk.b_any, Rk.b_sum, Rk.bls_nil, Rk.bls_cons, Rk.ints_nil, Rk.ints_cons, Rk.b_min1, Rk.b_max1, Rk.b_min2, Rk.b_max2, Rk.m_loc, Rk.m_sl, Rk.p_nil, Rk.p_cons, Rk.set_s, Rk.esc_l, Rk.isI_int, Rk.isI_bool, Rk.isI_tup, List.cons_append, List.nil_append, List.append_nil, List.getElem?_cons_zero, List.getElem?_cons_succ, List.set_cons_zero, List.set_cons_succ, List.length_cons, List.length_nil, List.map_nil, List.map_cons, Option.bind_some, Option.bind_none, Option.map_some, Option.map_none, Option.isSome_some, id_eq, true_and, and_true, decide_eq_true_eq, List.replicate_succ, List.replicate_zero, Nat.reduceAdd, Nat.reduceSub, Int.reduceMul, Int.reduceAdd, Int.reduceSub, Int.reduceNeg, if_true, if_false, Bool.true_eq_false, Bool.false_eq_true, reduceIte]
  refine c_is_cell ?_
  try simp only [Rk.sat_ok, Rk.osat_some, Rk.osat_none, Rk.osat_ite, Rk.osat_map, Rk.osat_bind, Rk.w_var, Rk.w_con, Rk.w_bin, Rk.w_cmp, Rk.w_ix, Rk.w_bi, Rk.w_es0, Rk.w_es, Rk.w_ts0, Rk.w_ts, Rk.w_ws0, Rk.w_ws, Rk.w_W, Rk.w_T, Rk.w_esc, Rk.w_givw, Rk.w_givl, Rk.w_tup, Rk.w_lst, Rk.w_call, Rk.w_callK, Rk.w_un, Rk.w_not, Rk.w_and, Rk.w_or, Rk.w_ifx, Rk.w_sl, Rk.w_no, Rk.w_so, Rk.w_asb, Rk.w_tru, Rk.w_bnot, Rk.w_band, Rk.w_bor, Rk.w_yes, Rk.w_skip, Rk.w_expr, Rk.w_set, Rk.w_ret, Rk.w_retN, Rk.w_if, Rk.w_asg, Rk.w_par, Rk.w_gnm, Rk.w_gsb, Rk.w_mt, Rk.w_ext, Rk.w_gtp, Rk.w_gsc, Rk.w_gsn, Rk.w_escs, Rk.w_givs, Rk.slQ_l, Rk.slQ_w, Rk.backT, Option.getD_some, Option.getD_none, Rk.get_w, Rk.get_l, Rk.get_sl, Rk.seq_tup, Rk.seq_rol, Rk.seq_l, Rk.seq_loc, Rk.seq_sl, Rk.lst_rol, Rk.lst_l, Rk.lst_loc, Rk.lst_sl, Rk.lst_tup, Rk.ix_int, Rk.ix_some, Rk.seqT_l, Rk.seqT_tup, Rk.seqT_rol, Rk.seqT_loc, Rk.lstT_l, Rk.lstT_rol, Rk.lstT_loc, Rk.at_0, Rk.at_1, Rk.at_2, Rk.at_3, Rk.at_4, Rk.at_5, Rk.bin_int, Rk.i_add, Rk.i_sub, Rk.i_mul, Rk.i_div, Rk.i_mod, Rk.i_pow, Rk.u_neg, Rk.c_lt, Rk.c_le, Rk.c_gt, Rk.c_ge, Rk.c_eq, Rk.c_ne, Rk.c_isN, Rk.c_isI, Rk.c_seq, Rk.c_sne, Rk.t_non, Rk.t_bl, Rk.t_int, Rk.iw_int, Rk.bt_bl, Rk.b_int, Rk.b_intb, Rk.b_abs, Rk.b_lent, Rk.b_lenr, Rk.b_lenl, Rk.b_tup, Rk.b_list, Rk.b_all, Rk.b_any, Rk.b_sum, Rk.bls_nil, Rk.bls_cons, Rk.ints_nil, Rk.ints_cons, Rk.b_min1, Rk.b_max1, Rk.b_min2, Rk.b_max2, Rk.m_loc, Rk.m_sl, Rk.p_nil, Rk.p_cons, Rk.set_s, Rk.esc_l, Rk.isI_int, Rk.isI_bool, Rk.isI_tup, List.cons_append, List.nil_append, List.append_nil, List.getElem?_cons_zero, List.getElem?_cons_succ, List.set_cons_zero, List.set_cons_succ, List.length_cons, List.length_nil, List.map_nil, List.map_cons, Option.bind_some, Option.bind_none, Option.map_some, Option.map_none, Option.isSome_some, id_eq, true_and, and_true, decide_eq_true_eq, List.replicate_succ, List.replicate_zero, Nat.reduceAdd, Nat.reduceSub, Int.reduceMul, Int.reduceAdd, Int.reduceSub, Int.reduceNeg, if_true, if_false, Bool.true_eq_false, Bool.false_eq_true, reduceIte, Bool.not_true]
  exact h
theorem c_sample {a b c : Int} (h : R (.w (pt (mid a).1 (mid a).2 (mid b).1 (mid b).2 (mid c).1 (mid c).2)) M) : ((ob (n + 4)).fn 10 [.w (ce a b c)] M).sat R := by
  rw [r10, w_run]; unfold d10
  refine w_stp fun k hk => ?_; try simp only [Rk.sat_ok, Rk.osat_some, Rk.osat_none, Rk.osat_ite, Rk.osat_map, Rk.osat_bind, Rk.w_var, Rk.w_con, Rk.w_bin, Rk.w_cmp, Rk.w_ix, Rk.w_bi, Rk.w_es0, Rk.w_es, Rk.w_ts0, Rk.w_ts, Rk.w_ws0, Rk.w_ws, Rk.w_W, Rk.w_T, Rk.w_esc, Rk.w_givw, Rk.w_givl, Rk.w_tup, Rk.w_lst, Rk.w_call, Rk.w_callK, Rk.w_un, Rk.w_not, Rk.w_and, Rk.w_or, Rk.w_ifx, Rk.w_sl, Rk.w_no, Rk.w_so, Rk.w_asb, Rk.w_tru, Rk.w_bnot, Rk.w_band, Rk.w_bor, Rk.w_yes, Rk.w_skip, Rk.w_expr, Rk.w_set, Rk.w_ret, Rk.w_retN, Rk.w_if, Rk.w_asg, Rk.w_par, Rk.w_gnm, Rk.w_gsb, Rk.w_mt, Rk.w_ext, Rk.w_gtp, Rk.w_gsc, Rk.w_gsn, Rk.w_escs, Rk.w_givs, Rk.slQ_l, Rk.slQ_w, Rk.backT, Option.getD_some, Option.getD_none, Rk.get_w, Rk.get_l, Rk.get_sl, Rk.seq_tup, Rk.seq_rol, Rk.seq_l, Rk.seq_loc, Rk.seq_sl, Rk.lst_rol, Rk.lst_l, Rk.lst_loc, Rk.lst_sl, Rk.lst_tup, Rk.ix_int, Rk.ix_some, Rk.seqT_l, Rk.seqT_tup, Rk.seqT_rol, Rk.seqT_loc, Rk.lstT_l, Rk.lstT_rol, Rk.lstT_loc, Rk.at_0, Rk.at_1, Rk.at_2, Rk.at_3, Rk.at_4, Rk.at_5, Rk.bin_int, Rk.i_add, Rk.i_sub, Rk.i_mul, Rk.i_div, Rk.i_mod, Rk.i_pow, Rk.u_neg, Rk.c_lt, Rk.c_le, Rk.c_gt, Rk.c_ge, Rk.c_eq, Rk.c_ne, Rk.c_isN, Rk.c_isI, Rk.c_seq, Rk.c_sne, Rk.t_non, Rk.t_bl, Rk.t_int, Rk.iw_int, Rk.bt_bl, Rk.b_int, Rk.b_intb, Rk.b_abs, Rk.b_lent, Rk.b_lenr, Rk.b_lenl, Rk.b_tup, Rk.b_list, Rk.b_all, Rk.b_any, Rk.b_sum, Rk.bls_nil, Rk.bls_cons, Rk.ints_nil, Rk.ints_cons, Rk.b_min1, Rk.b_max1, Rk.b_min2, Rk.b_max2, Rk.m_loc, Rk.m_sl, Rk.p_nil, Rk.p_cons, Rk.set_s, Rk.esc_l, Rk.isI_int, Rk.isI_bool, Rk.isI_tup, List.cons_append, List.nil_append, List.append_nil, List.getElem?_cons_zero, List.getElem?_cons_succ, List.set_cons_zero, List.set_cons_succ, List.length_cons, List.length_nil, List.map_nil, List.map_cons, Option.bind_some, Option.bind_none, Option.map_some, Option.map_none, Option.isSome_some, id_eq, true_and, and_true, decide_eq_true_eq, List.replicate_succ, List.replicate_zero, Nat.reduceAdd, Nat.reduceSub, Int.reduceMul, Int.reduceAdd, Int.reduceSub, Int.reduceNeg, if_true, if_false, Bool.true_eq_false, Bool.false_eq_true, reduceIte]
  refine c_check_cell ?_
  refine hk _ ?_; clear hk k
  rw [w_seq]
  try simp only [Rk.sat_ok, Rk.osat_some, Rk.osat_none, Rk.osat_ite, Rk.osat_map, Rk.osat_bind, Rk.w_var, Rk.w_con, Rk.w_bin, Rk.w_cmp, Rk.w_ix, Rk.w_bi, Rk.w_es0, Rk.w_es, Rk.w_ts0, Rk.w_ts, Rk.w_ws0, Rk.w_ws, Rk.w_W, Rk.w_T, Rk.w_esc, Rk.w_givw, Rk.w_givl, Rk.w_tup, Rk.w_lst, Rk.w_call, Rk.w_callK, Rk.w_un, Rk.w_not, Rk.w_and, Rk.w_or, Rk.w_ifx, Rk.w_sl, Rk.w_no, Rk.w_so, Rk.w_asb, Rk.w_tru, Rk.w_bnot, Rk.w_band, Rk.w_bor, Rk.w_yes, Rk.w_skip, Rk.w_expr, Rk.w_set, Rk.w_ret, Rk.w_retN, Rk.w_if, Rk.w_asg, Rk.w_par, Rk.w_gnm, Rk.w_gsb, Rk.w_mt, Rk.w_ext, Rk.w_gtp, Rk.w_gsc, Rk.w_gsn, Rk.w_escs, Rk.w_givs, Rk.slQ_l, Rk.slQ_w, Rk.backT, Option.getD_some, Option.getD_none, Rk.get_w, Rk.get_l, Rk.get_sl, Rk.seq_tup, Rk.seq_rol, Rk.seq_l, Rk.seq_loc, Rk.seq_sl, Rk.lst_rol, Rk.lst_l, Rk.lst_loc, Rk.lst_sl, Rk.lst_tup, Rk.ix_int, Rk.ix_some, Rk.seqT_l, Rk.seqT_tup, Rk.seqT_rol, Rk.seqT_loc, Rk.lstT_l, Rk.lstT_rol, Rk.lstT_loc, Rk.at_0, Rk.at_1, Rk.at_2, Rk.at_3, Rk.at_4, Rk.at_5, Rk.bin_int, Rk.i_add, Rk.i_sub, Rk.i_mul, Rk.i_div, Rk.i_mod, Rk.i_pow, Rk.u_neg, Rk.c_lt, Rk.c_le, Rk.c_gt, Rk.c_ge, Rk.c_eq, Rk.c_ne, Rk.c_isN, Rk.c_isI, Rk.c_seq, Rk.c_sne, Rk.t_non, Rk.t_bl, Rk.t_int, Rk.iw_int, Rk.bt_bl, Rk.b_int, Rk.b_intb, Rk.b_abs, Rk.b_lent, Rk.b_lenr, Rk.b_lenl, Rk.b_tup, Rk.b_list, Rk.b_all, Rk.b_any, Rk.b_sum, Rk.bls_nil, Rk.bls_cons, Rk.ints_nil, Rk.ints_cons, Rk.b_min1, Rk.b_max1, Rk.b_min2, Rk.b_max2, Rk.m_loc, Rk.m_sl, Rk.p_nil, Rk.p_cons, Rk.set_s, Rk.esc_l, Rk.isI_int, Rk.isI_bool, Rk.isI_tup, List.cons_append, List.nil_append, List.append_nil, List.getElem?_cons_zero, List.getElem?_cons_succ, List.set_cons_zero, List.set_cons_succ, List.length_cons, List.length_nil, List.map_nil, List.map_cons, Option.bind_some, Option.bind_none, Option.map_some, Option.map_none, Option.isSome_some, id_eq, true_and, and_true, decide_eq_true_eq, List.replicate_succ, List.replicate_zero, Nat.reduceAdd, Nat.reduceSub, Int.reduceMul, Int.reduceAdd, Int.reduceSub, Int.reduceNeg, if_true, if_false, Bool.true_eq_false, Bool.false_eq_true, reduceIte]
  exact c_sample_of h
theorem eq_ce {s : S} {a b c a' b' c' : Int} : opCmp .Eq s (.w (ce a b c)) (.w (ce a' b' c')) = some (decide (a = a' ∧ b = b' ∧ c = c')) := by
  have e : ∀ (s : S) (t1 t2 : T), opCmp .Eq s t1 t2 = eqT s t1 t2 := fun _ _ _ => rfl
  have f : eqT s (.w (ce a b c)) (.w (ce a' b' c')) = some (PyData.eqv (.tuple [.int a, .int b, .int c]) (.tuple [.int a', .int b', .int c'])) := rfl
  have g : PyData.eqv (.tuple [.int a, .int b, .int c]) (.tuple [.int a', .int b', .int c']) = ((a == a') && ((b == b') && ((c == c') && true))) := rfl
  rw [e, f, g]
  by_cases h1 : a = a' <;> by_cases h2 : b = b' <;> by_cases h3 : c = c' <;> simp [h1, h2, h3]
theorem ne_ce {s : S} {a b c a' b' c' : Int} : opCmp .NotEq s (.w (ce a b c)) (.w (ce a' b' c')) = some (!decide (a = a' ∧ b = b' ∧ c = c')) := by
  have e : ∀ (s : S) (t1 t2 : T), opCmp .NotEq s t1 t2 = (opCmp .Eq s t1 t2).map (!·) := fun _ _ _ => rfl
  rw [e, eq_ce]
  rfl
/-- one index against another: alike, or an even one beside -/
def near (a b : Int) : Bool := decide (a = b) || (decide (a % 2 = 0) && decide ((if a - b < 0 then -(a - b) else a - b) = 1))
def rim (a b c a' b' c' : Int) : Bool := !decide (a = a' ∧ b = b' ∧ c = c') && (near a a' && (near b b' && near c c'))
theorem near_turn {i j : Nat} {a b : Int} {sg : List (Option T)} {Q : W → S → Prop} (hi : sg[i]? = some (some (.w (.int a)))) (hj : sg[j]? = some (some (.w (.int b)))) (h : Q (.bl (near a b)) ⟨sg, M⟩) :
    (dW (dor (dcmp .Eq (dvar i) (dvar j)) (dand (dcmp .Eq (dbin .Mod (dvar i) (dcon (.int 2))) (dcon (.int 0))) (dcmp .Eq (dbi bAbs [(dbin .Sub (dvar i) (dvar j))]) (dcon (.int 1))))) ⟨sg, M⟩).sat Q := by
  try simp only [Rk.sat_ok, Rk.osat_some, Rk.osat_none, Rk.osat_ite, Rk.osat_map, Rk.osat_bind, Rk.w_var, Rk.w_con, Rk.w_bin, Rk.w_cmp, Rk.w_ix, Rk.w_bi, Rk.w_es0, Rk.w_es, Rk.w_ts0, Rk.w_ts, Rk.w_ws0, Rk.w_ws, Rk.w_W, Rk.w_T, Rk.w_esc, Rk.w_givw, Rk.w_givl, Rk.w_tup, Rk.w_lst, Rk.w_call, Rk.w_callK, Rk.w_un, Rk.w_not, Rk.w_and, Rk.w_or, Rk.w_ifx, Rk.w_sl, Rk.w_no, Rk.w_so, Rk.w_asb, Rk.w_tru, Rk.w_bnot, Rk.w_band, Rk.w_bor, Rk.w_yes, Rk.w_skip, Rk.w_expr, Rk.w_set, Rk.w_ret, Rk.w_retN, Rk.w_if, Rk.w_asg, Rk.w_par, Rk.w_gnm, Rk.w_gsb, Rk.w_mt, Rk.w_ext, Rk.w_gtp, Rk.w_gsc, Rk.w_gsn, Rk.w_escs, Rk.w_givs, Rk.slQ_l, Rk.slQ_w, Rk.backT, Option.getD_some, Option.getD_none, Rk.get_w, Rk.get_l, Rk.get_sl, Rk.seq_tup, Rk.seq_rol, Rk.seq_l, Rk.seq_loc, Rk.seq_sl, Rk.lst_rol, Rk.lst_l, Rk.lst_loc, Rk.lst_sl, Rk.lst_tup, Rk.ix_int, Rk.ix_some, Rk.seqT_l, Rk.seqT_tup, Rk.seqT_rol, Rk.seqT_loc, Rk.lstT_l, Rk.lstT_rol, Rk.lstT_loc, Rk.at_0, Rk.at_1, Rk.at_2, Rk.at_3, Rk.at_4, Rk.at_5, Rk.bin_int, Rk.i_add, Rk.i_sub, Rk.i_mul, Rk.i_div, Rk.i_mod, Rk.i_pow, Rk.u_neg, Rk.c_lt, Rk.c_le, Rk.c_gt, Rk.c_ge, Rk.c_eq, Rk.c_ne, Rk.c_isN, Rk.c_isI, Rk.c_seq, Rk.c_sne, Rk.t_non, Rk.t_bl, Rk.t_int, Rk.iw_int, Rk.bt_bl, Rk.b_int, Rk.b_intb, Rk.b_abs, Rk.b_lent, Rk.b_lenr, Rk.b_lenl, Rk.b_tup, Rk.b_list, Rk.b_all, Rk.b_any, Rk.b_sum, Rk.bls_nil, Rk.bls_cons, Rk.ints_nil, Rk.ints_cons, Rk.b_min1, Rk.b_max1, Rk.b_min2, Rk.b_max2, Rk.m_loc, Rk.m_sl, Rk.p_nil, Rk.p_cons, Rk.set_s, Rk.esc_l, Rk.isI_int, Rk.isI_bool, Rk.isI_tup, List.cons_append, List.nil_append, List.append_nil, List.getElem?_cons_zero, List.getElem?_cons_succ, List.set_cons_zero, List.set_cons_succ, List.length_cons, List.length_nil, List.map_nil, List.map_cons, Option.bind_some, Option.bind_none, Option.map_some, Option.map_none, Option.isSome_some, id_eq, true_and, and_true, decide_eq_true_eq, List.replicate_succ, List.replicate_zero, Nat.reduceAdd, Nat.reduceSub, Int.reduceMul, Int.reduceAdd, Int.reduceSub, Int.reduceNeg, if_true, if_false, Bool.true_eq_false, Bool.false_eq_true, reduceIte, hi, hj]
  unfold near at h
  by_cases c1 : a = b
  · rw [if_pos c1]
    simpa [c1] using h
  · rw [if_neg c1]
    refine ⟨by decide, ?_⟩
    have e : iMod a 2 = a % 2 := rfl
    rw [e]
    by_cases c2 : a % 2 = 0
    · rw [if_pos c2]
      simpa [c1, c2] using h
    · rw [if_neg c2]
      simpa [c1, c2] using h
theorem near_all {a b c a' b' c' : Int} {Q : List W → S → Prop} (h : ∀ s, s.M = M → wipeT s.sg [2, 3] = [some (.w (ce a b c)), some (.w (ce a' b' c')), none, none] → Q [.bl (near a a'), .bl (near b b'), .bl (near c c')] s) :
    (compS [2, 3] (gtp 2 (gsc (gnm 2) (gsc (gnm 3) gsn))) dyes (dW (dor (dcmp .Eq (dvar 2) (dvar 3)) (dand (dcmp .Eq (dbin .Mod (dvar 2) (dcon (.int 2))) (dcon (.int 0))) (dcmp .Eq (dbi bAbs [(dbin .Sub (dvar 2) (dvar 3))]) (dcon (.int 1)))))) [.tup [.int a, .int a'], .tup [.int b, .int b'], .tup [.int c, .int c']] [] ⟨[some (.w (ce a b c)), some (.w (ce a' b' c')), none, none], M⟩).sat Q := by
  rw [cs_cons]
  simp only [w_gtp, w_gsc, w_gsn, w_gnm, w_yes, if_true, wipeS, wipeT, setS, List.set_cons_succ, List.set_cons_zero]
  refine ⟨rfl, near_turn (a := a) (b := a') rfl rfl ⟨⟨by decide, rfl⟩, ?_⟩⟩
  rw [cs_cons]
  simp only [w_gtp, w_gsc, w_gsn, w_gnm, w_yes, if_true, wipeS, wipeT, setS, List.set_cons_succ, List.set_cons_zero]
  refine ⟨rfl, near_turn (a := b) (b := b') rfl rfl ⟨⟨(by show 1 < sizeLine; decide), rfl⟩, ?_⟩⟩
  rw [cs_cons]
  simp only [w_gtp, w_gsc, w_gsn, w_gnm, w_yes, if_true, wipeS, wipeT, setS, List.set_cons_succ, List.set_cons_zero]
  refine ⟨rfl, near_turn (a := c) (b := c') rfl rfl ⟨⟨(by show 2 < sizeLine; decide), rfl⟩, ?_⟩⟩
  rw [cs_nil]
  exact h _ rfl rfl
theorem c_is_at_rim {a b c a' b' c' : Int} (h : R (.w (.bl (rim a b c a' b' c'))) M) : ((ob (n + 1)).fn 27 [.w (ce a b c), .w (ce a' b' c')] M).sat R := by
  rw [r27, w_run]; unfold d27
  unfold rim at h
  refine w_stp fun k hk => ?_; try simp only [Rk.sat_ok, Rk.osat_some, Rk.osat_none, Rk.osat_ite, Rk.osat_map, Rk.osat_bind, Rk.w_var, Rk.w_con, Rk.w_bin, Rk.w_cmp, Rk.w_ix, Rk.w_bi, Rk.w_es0, Rk.w_es, Rk.w_ts0, Rk.w_ts, Rk.w_ws0, Rk.w_ws, Rk.w_W, Rk.w_T, Rk.w_esc, Rk.w_givw, Rk.w_givl, Rk.w_tup, Rk.w_lst, Rk.w_call, Rk.w_callK, Rk.w_un, Rk.w_not, Rk.w_and, Rk.w_or, Rk.w_ifx, Rk.w_sl, Rk.w_no, Rk.w_so, Rk.w_asb, Rk.w_tru, Rk.w_bnot, Rk.w_band, Rk.w_bor, Rk.w_yes, Rk.w_skip, Rk.w_expr, Rk.w_set, Rk.w_ret, Rk.w_retN, Rk.w_if, Rk.w_asg, Rk.w_par, Rk.w_gnm, Rk.w_gsb, Rk.w_mt, Rk.w_ext, Rk.w_gtp, Rk.w_gsc, Rk.w_gsn, Rk.w_escs, Rk.w_givs, Rk.slQ_l, Rk.slQ_w, Rk.backT, Option.getD_some, Option.getD_none, Rk.get_w, Rk.get_l, Rk.get_sl, Rk.seq_tup, Rk.seq_rol, Rk.seq_l, Rk.seq_loc, Rk.seq_sl, Rk.lst_rol, Rk.lst_l, Rk.lst_loc, Rk.lst_sl, Rk.lst_tup, Rk.ix_int, Rk.ix_some, Rk.seqT_l, Rk.seqT_tup, Rk.seqT_rol, Rk.seqT_loc, Rk.lstT_l, Rk.lstT_rol, Rk.lstT_loc, Rk.at_0, Rk.at_1, Rk.at_2, Rk.at_3, Rk.at_4, Rk.at_5, Rk.bin_int, Rk.i_add, Rk.i_sub, Rk.i_mul, Rk.i_div, Rk.i_mod, Rk.i_pow, Rk.u_neg, Rk.c_lt, Rk.c_le, Rk.c_gt, Rk.c_ge, Rk.c_eq, Rk.c_ne, Rk.c_isN, Rk.c_isI, Rk.c_seq, Rk.c_sne, Rk.t_non, Rk.t_bl, Rk.t_int, Rk.iw_int, Rk.bt_bl, Rk.b_int, Rk.b_intb, Rk.b_abs, Rk.b_lent, Rk.b_lenr, Rk.b_lenl, Rk.b_tup, Rk.b_list, Rk.b_all, Rk.b_any, Rk.b_sum, Rk.bls_nil, Rk.bls_cons, Rk.ints_nil, Rk.ints_cons, Rk.b_min1, Rk.b_max1, Rk.b_min2, Rk.b_max2, Rk.m_loc, Rk.m_sl, Rk.p_nil, Rk.p_cons, Rk.set_s, Rk.esc_l, Rk.isI_int, Rk.isI_bool, Rk.isI_tup, List.cons_append, List.nil_append, List.append_nil, List.getElem?_cons_zero, List.getElem?_cons_succ, List.set_cons_zero, List.set_cons_succ, List.length_cons, List.length_nil, List.map_nil, List.map_cons, Option.bind_some, Option.bind_none, Option.map_some, Option.map_none, Option.isSome_some, id_eq, true_and, and_true, decide_eq_true_eq, List.replicate_succ, List.replicate_zero, Nat.reduceAdd, Nat.reduceSub, Int.reduceMul, Int.reduceAdd, Int.reduceSub, Int.reduceNeg, if_true, if_false, Bool.true_eq_false, Bool.false_eq_true, reduceIte, eq_ce]
  by_cases c1 : a = a' ∧ b = b' ∧ c = c'
  · rw [if_pos c1, w_seq]
    try simp only [Rk.sat_ok, Rk.osat_some, Rk.osat_none, Rk.osat_ite, Rk.osat_map, Rk.osat_bind, Rk.w_var, Rk.w_con, Rk.w_bin, Rk.w_cmp, Rk.w_ix, Rk.w_bi, Rk.w_es0, Rk.w_es, Rk.w_ts0, Rk.w_ts, Rk.w_ws0, Rk.w_ws, Rk.w_W, Rk.w_T, Rk.w_esc, Rk.w_givw, Rk.w_givl, Rk.w_tup, Rk.w_lst, Rk.w_call, Rk.w_callK, Rk.w_un, Rk.w_not, Rk.w_and, Rk.w_or, Rk.w_ifx, Rk.w_sl, Rk.w_no, Rk.w_so, Rk.w_asb, Rk.w_tru, Rk.w_bnot, Rk.w_band, Rk.w_bor, Rk.w_yes, Rk.w_skip, Rk.w_expr, Rk.w_set, Rk.w_ret, Rk.w_retN, Rk.w_if, Rk.w_asg, Rk.w_par, Rk.w_gnm, Rk.w_gsb, Rk.w_mt, Rk.w_ext, Rk.w_gtp, Rk.w_gsc, Rk.w_gsn, Rk.w_escs, Rk.w_givs, Rk.slQ_l, Rk.slQ_w, Rk.backT, Option.getD_some, Option.getD_none, Rk.get_w, Rk.get_l, Rk.get_sl, Rk.seq_tup, Rk.seq_rol, Rk.seq_l, Rk.seq_loc, Rk.seq_sl, Rk.lst_rol, Rk.lst_l, Rk.lst_loc, Rk.lst_sl, Rk.lst_tup, Rk.ix_int, Rk.ix_some, Rk.seqT_l, Rk.seqT_tup, Rk.seqT_rol, Rk.seqT_loc, Rk.lstT_l, Rk.lstT_rol, Rk.lstT_loc, Rk.at_0, Rk.at_1, Rk.at_2, Rk.at_3, Rk.at_4, Rk.at_5, Rk.bin_int, Rk.i_add, Rk.i_sub, Rk.i_mul, Rk.i_div, Rk.i_mod, Rk.i_pow, Rk.u_neg, Rk.c_lt, Rk.c_le, Rk.c_gt, Rk.c_ge, Rk.c_eq, Rk.c_ne, Rk.c_isN, Rk.c_isI, Rk.c_seq, Rk.c_sne, Rk.t_non, Rk.t_bl, Rk.t_int, Rk.iw_int, Rk.bt_bl, Rk.b_int, Rk.b_intb, Rk.b_abs, Rk.b_lent, Rk.b_lenr, Rk.b_lenl, Rk.b_tup, Rk.b_list, Rk.b_all, Rk.b_any, Rk.b_sum, Rk.bls_nil, Rk.bls_cons, Rk.ints_nil, Rk.ints_cons, Rk.b_min1, Rk.b_max1, Rk.b_min2, Rk.b_max2, Rk.m_loc, Rk.m_sl, Rk.p_nil, Rk.p_cons, Rk.set_s, Rk.esc_l, Rk.isI_int, Rk.isI_bool, Rk.isI_tup, List.cons_append, List.nil_append, List.append_nil, List.getElem?_cons_zero, List.getElem?_cons_succ, List.set_cons_zero, List.set_cons_succ, List.length_cons, List.length_nil, List.map_nil, List.map_cons, Option.bind_some, Option.bind_none, Option.map_some, Option.map_none, Option.isSome_some, id_eq, true_and, and_true, decide_eq_true_eq, List.replicate_succ, List.replicate_zero, Nat.reduceAdd, Nat.reduceSub, Int.reduceMul, Int.reduceAdd, Int.reduceSub, Int.reduceNeg, if_true, if_false, Bool.true_eq_false, Bool.false_eq_true, reduceIte]
    simpa [c1] using h
  · rw [if_neg c1]
    refine hk _ ?_; clear hk k
    rw [w_seq]
    try simp only [Rk.sat_ok, Rk.osat_some, Rk.osat_none, Rk.osat_ite, Rk.osat_map, Rk.osat_bind, Rk.w_var, Rk.w_con, Rk.w_bin, Rk.w_cmp, Rk.w_ix, Rk.w_bi, Rk.w_es0, Rk.w_es, Rk.w_ts0, Rk.w_ts, Rk.w_ws0, Rk.w_ws, Rk.w_W, Rk.w_T, Rk.w_esc, Rk.w_givw, Rk.w_givl, Rk.w_tup, Rk.w_lst, Rk.w_call, Rk.w_callK, Rk.w_un, Rk.w_not, Rk.w_and, Rk.w_or, Rk.w_ifx, Rk.w_sl, Rk.w_no, Rk.w_so, Rk.w_asb, Rk.w_tru, Rk.w_bnot, Rk.w_band, Rk.w_bor, Rk.w_yes, Rk.w_skip, Rk.w_expr, Rk.w_set, Rk.w_ret, Rk.w_retN, Rk.w_if, Rk.w_asg, Rk.w_par, Rk.w_gnm, Rk.w_gsb, Rk.w_mt, Rk.w_ext, Rk.w_gtp, Rk.w_gsc, Rk.w_gsn, Rk.w_escs, Rk.w_givs, Rk.slQ_l, Rk.slQ_w, Rk.backT, Option.getD_some, Option.getD_none, Rk.get_w, Rk.get_l, Rk.get_sl, Rk.seq_tup, Rk.seq_rol, Rk.seq_l, Rk.seq_loc, Rk.seq_sl, Rk.lst_rol, Rk.lst_l, Rk.lst_loc, Rk.lst_sl, Rk.lst_tup, Rk.ix_int, Rk.ix_some, Rk.seqT_l, Rk.seqT_tup, Rk.seqT_rol, Rk.seqT_loc, Rk.lstT_l, Rk.lstT_rol, Rk.lstT_loc, Rk.at_0, Rk.at_1, Rk.at_2, Rk.at_3, Rk.at_4, Rk.at_5, Rk.bin_int, Rk.i_add, Rk.i_sub, Rk.i_mul, Rk.i_div, Rk.i_mod, Rk.i_pow, Rk.u_neg, Rk.c_lt, Rk.c_le, Rk.c_gt, Rk.c_ge, Rk.c_eq, Rk.c_ne, Rk.c_isN, Rk.c_isI, Rk.c_seq, Rk.c_sne, Rk.t_non, Rk.t_bl, Rk.t_int, Rk.iw_int, Rk.bt_bl, Rk.b_int, Rk.b_intb, Rk.b_abs, Rk.b_lent, Rk.b_lenr, Rk.b_lenl, Rk.b_tup, Rk.b_list, Rk.b_all, Rk.b_any, Rk.b_sum, Rk.bls_nil, Rk.bls_cons, Rk.ints_nil, Rk.ints_cons, Rk.b_min1, Rk.b_max1, Rk.b_min2, Rk.b_max2, Rk.m_loc, Rk.m_sl, Rk.p_nil, Rk.p_cons, Rk.set_s, Rk.esc_l, Rk.isI_int, Rk.isI_bool, Rk.isI_tup, List.cons_append, List.nil_append, List.append_nil, List.getElem?_cons_zero, List.getElem?_cons_succ, List.set_cons_zero, List.set_cons_succ, List.length_cons, List.length_nil, List.map_nil, List.map_cons, Option.bind_some, Option.bind_none, Option.map_some, Option.map_none, Option.isSome_some, id_eq, true_and, and_true, decide_eq_true_eq, List.replicate_succ, List.replicate_zero, Nat.reduceAdd, Nat.reduceSub, Int.reduceMul, Int.reduceAdd, Int.reduceSub, Int.reduceNeg, if_true, if_false, Bool.true_eq_false, Bool.false_eq_true, reduceIte, w_comp, w_zip, z_tup, zip3, w_gsnap]
    refine ⟨rfl, near_all fun s e1 e2 => ?_⟩
    rw [e1]
    try simp only [Rk.sat_ok, Rk.osat_some, Rk.osat_none, Rk.osat_ite, Rk.osat_map, Rk.osat_bind, Rk.w_var, Rk.w_con, Rk.w_bin, Rk.w_cmp, Rk.w_ix, Rk.w_bi, Rk.w_es0, Rk.w_es, Rk.w_ts0, Rk.w_ts, Rk.w_ws0, Rk.w_ws, Rk.w_W, Rk.w_T, Rk.w_esc, Rk.w_givw, Rk.w_givl, Rk.w_tup, Rk.w_lst, Rk.w_call, Rk.w_callK, Rk.w_un, Rk.w_not, Rk.w_and, Rk.w_or, Rk.w_ifx, Rk.w_sl, Rk.w_no, Rk.w_so, Rk.w_asb, Rk.w_tru, Rk.w_bnot, Rk.w_band, Rk.w_bor, Rk.w_yes, Rk.w_skip, Rk.w_expr, Rk.w_set, Rk.w_ret, Rk.w_retN, Rk.w_if, Rk.w_asg, Rk.w_par, Rk.w_gnm, Rk.w_gsb, Rk.w_mt, Rk.w_ext, Rk.w_gtp, Rk.w_gsc, Rk.w_gsn, Rk.w_escs, Rk.w_givs, Rk.slQ_l, Rk.slQ_w, Rk.backT, Option.getD_some, Option.getD_none, Rk.get_w, Rk.get_l, Rk.get_sl, Rk.seq_tup, Rk.seq_rol, Rk.seq_l, Rk.seq_loc, Rk.seq_sl, Rk.lst_rol, Rk.lst_l, Rk.lst_loc, Rk.lst_sl, Rk.lst_tup, Rk.ix_int, Rk.ix_some, Rk.seqT_l, Rk.seqT_tup, Rk.seqT_rol, Rk.seqT_loc, Rk.lstT_l, Rk.lstT_rol, Rk.lstT_loc, Rk.at_0, Rk.at_1, Rk.at_2, Rk.at_3, Rk.at_4, Rk.at_5, Rk.bin_int, Rk.i_add, Rk.i_sub, Rk.i_mul, Rk.i_div, Rk.i_mod, Rk.i_pow, Rk.u_neg, Rk.c_lt, Rk.c_le, Rk.c_gt, Rk.c_ge, Rk.c_eq, Rk.c_ne, Rk.c_isN, Rk.c_isI, Rk.c_seq, Rk.c_sne, Rk.t_non, Rk.t_bl, Rk.t_int, Rk.iw_int, Rk.bt_bl, Rk.b_int, Rk.b_intb, Rk.b_abs, Rk.b_lent, Rk.b_lenr, Rk.b_lenl, Rk.b_tup, Rk.b_list, Rk.b_all, Rk.b_any, Rk.b_sum, Rk.bls_nil, Rk.bls_cons, Rk.ints_nil, Rk.ints_cons, Rk.b_min1, Rk.b_max1, Rk.b_min2, Rk.b_max2, Rk.m_loc, Rk.m_sl, Rk.p_nil, Rk.p_cons, Rk.set_s, Rk.esc_l, Rk.isI_int, Rk.isI_bool, Rk.isI_tup, List.cons_append, List.nil_append, List.append_nil, List.getElem?_cons_zero, List.getElem?_cons_succ, List.set_cons_zero, List.set_cons_succ, List.length_cons, List.length_nil, List.map_nil, List.map_cons, Option.bind_some, Option.bind_none, Option.map_some, Option.map_none, Option.isSome_some, id_eq, true_and, and_true, decide_eq_true_eq, List.replicate_succ, List.replicate_zero, Nat.reduceAdd, Nat.reduceSub, Int.reduceMul, Int.reduceAdd, Int.reduceSub, Int.reduceNeg, if_true, if_false, Bool.true_eq_false, Bool.false_eq_true, reduceIte, List.all_cons, List.all_nil, Bool.and_true]
    simpa [c1] using h
theorem c_law_is_at_rim {a b c a' b' c' : Int} (h : R (.w (.bl (rim a b c a' b' c'))) M) : ((ob (n + 1)).fn 16 [.w (ce a b c), .w (ce a' b' c')] M).sat R := by
  rw [r16, w_run]; unfold d16
  unfold rim at h
  refine w_stp fun k hk => ?_; try simp only [Rk.sat_ok, Rk.osat_some, Rk.osat_none, Rk.osat_ite, Rk.osat_map, Rk.osat_bind, Rk.w_var, Rk.w_con, Rk.w_bin, Rk.w_cmp, Rk.w_ix, Rk.w_bi, Rk.w_es0, Rk.w_es, Rk.w_ts0, Rk.w_ts, Rk.w_ws0, Rk.w_ws, Rk.w_W, Rk.w_T, Rk.w_esc, Rk.w_givw, Rk.w_givl, Rk.w_tup, Rk.w_lst, Rk.w_call, Rk.w_callK, Rk.w_un, Rk.w_not, Rk.w_and, Rk.w_or, Rk.w_ifx, Rk.w_sl, Rk.w_no, Rk.w_so, Rk.w_asb, Rk.w_tru, Rk.w_bnot, Rk.w_band, Rk.w_bor, Rk.w_yes, Rk.w_skip, Rk.w_expr, Rk.w_set, Rk.w_ret, Rk.w_retN, Rk.w_if, Rk.w_asg, Rk.w_par, Rk.w_gnm, Rk.w_gsb, Rk.w_mt, Rk.w_ext, Rk.w_gtp, Rk.w_gsc, Rk.w_gsn, Rk.w_escs, Rk.w_givs, Rk.slQ_l, Rk.slQ_w, Rk.backT, Option.getD_some, Option.getD_none, Rk.get_w, Rk.get_l, Rk.get_sl, Rk.seq_tup, Rk.seq_rol, Rk.seq_l, Rk.seq_loc, Rk.seq_sl, Rk.lst_rol, Rk.lst_l, Rk.lst_loc, Rk.lst_sl, Rk.lst_tup, Rk.ix_int, Rk.ix_some, Rk.seqT_l, Rk.seqT_tup, Rk.seqT_rol, Rk.seqT_loc, Rk.lstT_l, Rk.lstT_rol, Rk.lstT_loc, Rk.at_0, Rk.at_1, Rk.at_2, Rk.at_3, Rk.at_4, Rk.at_5, Rk.bin_int, Rk.i_add, Rk.i_sub, Rk.i_mul, Rk.i_div, Rk.i_mod, Rk.i_pow, Rk.u_neg, Rk.c_lt, Rk.c_le, Rk.c_gt, Rk.c_ge, Rk.c_eq, Rk.c_ne, Rk.c_isN, Rk.c_isI, Rk.c_seq, Rk.c_sne, Rk.t_non, Rk.t_bl, Rk.t_int, Rk.iw_int, Rk.bt_bl, Rk.b_int, Rk.b_intb, Rk.b_abs, Rk.b_lent, Rk.b_lenr, Rk.b_lenl, Rk.b_tup, Rk.b_list, Rk.b_all, Rk.b_any, Rk.b_sum, Rk.bls_nil, Rk.bls_cons, Rk.ints_nil, Rk.ints_cons, Rk.b_min1, Rk.b_max1, Rk.b_min2, Rk.b_max2, Rk.m_loc, Rk.m_sl, Rk.p_nil, Rk.p_cons, Rk.set_s, Rk.esc_l, Rk.isI_int, Rk.isI_bool, Rk.isI_tup, List.cons_append, List.nil_append, List.append_nil, List.getElem?_cons_zero, List.getElem?_cons_succ, List.set_cons_zero, List.set_cons_succ, List.length_cons, List.length_nil, List.map_nil, List.map_cons, Option.bind_some, Option.bind_none, Option.map_some, Option.map_none, Option.isSome_some, id_eq, true_and, and_true, decide_eq_true_eq, List.replicate_succ, List.replicate_zero, Nat.reduceAdd, Nat.reduceSub, Int.reduceMul, Int.reduceAdd, Int.reduceSub, Int.reduceNeg, if_true, if_false, Bool.true_eq_false, Bool.false_eq_true, reduceIte, w_comp, w_zip, z_tup, zip3, w_gsnap]
  refine ⟨rfl, near_all fun s e1 e2 => ?_⟩
  rw [e1, e2]
  try simp only [Rk.sat_ok, Rk.osat_some, Rk.osat_none, Rk.osat_ite, Rk.osat_map, Rk.osat_bind, Rk.w_var, Rk.w_con, Rk.w_bin, Rk.w_cmp, Rk.w_ix, Rk.w_bi, Rk.w_es0, Rk.w_es, Rk.w_ts0, Rk.w_ts, Rk.w_ws0, Rk.w_ws, Rk.w_W, Rk.w_T, Rk.w_esc, Rk.w_givw, Rk.w_givl, Rk.w_tup, Rk.w_lst, Rk.w_call, Rk.w_callK, Rk.w_un, Rk.w_not, Rk.w_and, Rk.w_or, Rk.w_ifx, Rk.w_sl, Rk.w_no, Rk.w_so, Rk.w_asb, Rk.w_tru, Rk.w_bnot, Rk.w_band, Rk.w_bor, Rk.w_yes, Rk.w_skip, Rk.w_expr, Rk.w_set, Rk.w_ret, Rk.w_retN, Rk.w_if, Rk.w_asg, Rk.w_par, Rk.w_gnm, Rk.w_gsb, Rk.w_mt, Rk.w_ext, Rk.w_gtp, Rk.w_gsc, Rk.w_gsn, Rk.w_escs, Rk.w_givs, Rk.slQ_l, Rk.slQ_w, Rk.backT, Option.getD_some, Option.getD_none, Rk.get_w, Rk.get_l, Rk.get_sl, Rk.seq_tup, Rk.seq_rol, Rk.seq_l, Rk.seq_loc, Rk.seq_sl, Rk.lst_rol, Rk.lst_l, Rk.lst_loc, Rk.lst_sl, Rk.lst_tup, Rk.ix_int, Rk.ix_some, Rk.seqT_l, Rk.seqT_tup, Rk.seqT_rol, Rk.seqT_loc, Rk.lstT_l, Rk.lstT_rol, Rk.lstT_loc, Rk.at_0, Rk.at_1, Rk.at_2, Rk.at_3, Rk.at_4, Rk.at_5, Rk.bin_int, Rk.i_add, Rk.i_sub, Rk.i_mul, Rk.i_div, Rk.i_mod, Rk.i_pow, Rk.u_neg, Rk.c_lt, Rk.c_le, Rk.c_gt, Rk.c_ge, Rk.c_eq, Rk.c_ne, Rk.c_isN, Rk.c_isI, Rk.c_seq, Rk.c_sne, Rk.t_non, Rk.t_bl, Rk.t_int, Rk.iw_int, Rk.bt_bl, Rk.b_int, Rk.b_intb, Rk.b_abs, Rk.b_lent, Rk.b_lenr, Rk.b_lenl, Rk.b_tup, Rk.b_list, Rk.b_all, Rk.b_any, Rk.b_sum, Rk.bls_nil, Rk.bls_cons, Rk.ints_nil, Rk.ints_cons, Rk.b_min1, Rk.b_max1, Rk.b_min2, Rk.b_max2, Rk.m_loc, Rk.m_sl, Rk.p_nil, Rk.p_cons, Rk.set_s, Rk.esc_l, Rk.isI_int, Rk.isI_bool, Rk.isI_tup, List.cons_append, List.nil_append, List.append_nil, List.getElem?_cons_zero, List.getElem?_cons_succ, List.set_cons_zero, List.set_cons_succ, List.length_cons, List.length_nil, List.map_nil, List.map_cons, Option.bind_some, Option.bind_none, Option.map_some, Option.map_none, Option.isSome_some, id_eq, true_and, and_true, decide_eq_true_eq, List.replicate_succ, List.replicate_zero, Nat.reduceAdd, Nat.reduceSub, Int.reduceMul, Int.reduceAdd, Int.reduceSub, Int.reduceNeg, if_true, if_false, Bool.true_eq_false, Bool.false_eq_true, reduceIte, List.all_cons, List.all_nil, Bool.and_true]
  generalize (near a a' && (near b b' && near c c')) = X at *
  cases X with
  | true =>
    try simp only [Rk.sat_ok, Rk.osat_some, Rk.osat_none, Rk.osat_ite, Rk.osat_map, Rk.osat_bind, Rk.w_var, Rk.w_con, Rk.w_bin, Rk.w_cmp, Rk.w_ix, Rk.w_bi, Rk.w_es0, Rk.w_es, Rk.w_ts0, Rk.w_ts, Rk.w_ws0, Rk.w_ws, Rk.w_W, Rk.w_T, Rk.w_esc, Rk.w_givw, Rk.w_givl, Rk.w_tup, Rk.w_lst, Rk.w_call, Rk.w_callK, Rk.w_un, Rk.w_not, Rk.w_and, Rk.w_or, Rk.w_ifx, Rk.w_sl, Rk.w_no, Rk.w_so, Rk.w_asb, Rk.w_tru, Rk.w_bnot, Rk.w_band, Rk.w_bor, Rk.w_yes, Rk.w_skip, Rk.w_expr, Rk.w_set, Rk.w_ret, Rk.w_retN, Rk.w_if, Rk.w_asg, Rk.w_par, Rk.w_gnm, Rk.w_gsb, Rk.w_mt, Rk.w_ext, Rk.w_gtp, Rk.w_gsc, Rk.w_gsn, Rk.w_escs, Rk.w_givs, Rk.slQ_l, Rk.slQ_w, Rk.backT, Option.getD_some, Option.getD_none, Rk.get_w, Rk.get_l, Rk.get_sl, Rk.seq_tup, Rk.seq_rol, Rk.seq_l, Rk.seq_loc, Rk.seq_sl, Rk.lst_rol, Rk.lst_l, Rk.lst_loc, Rk.lst_sl, Rk.lst_tup, Rk.ix_int, Rk.ix_some, Rk.seqT_l, Rk.seqT_tup, Rk.seqT_rol, Rk.seqT_loc, Rk.lstT_l, Rk.lstT_rol, Rk.lstT_loc, Rk.at_0, Rk.at_1, Rk.at_2, Rk.at_3, Rk.at_4, Rk.at_5, Rk.bin_int, Rk.i_add, Rk.i_sub, Rk.i_mul, Rk.i_div, Rk.i_mod, Rk.i_pow, Rk.u_neg, Rk.c_lt, Rk.c_le, Rk.c_gt, Rk.c_ge, Rk.c_eq, Rk.c_ne, Rk.c_isN, Rk.c_isI, Rk.c_seq, Rk.c_sne, Rk.t_non, Rk.t_bl, Rk.t_int, Rk.iw_int, Rk.bt_bl, Rk.b_int, Rk.b_intb, Rk.b_abs, Rk.b_lent, Rk.b_lenr, Rk.b_lenl, Rk.b_tup, Rk.b_list, Rk.b_all, Rk.b_any, Rk.b_sum, Rk.bls_nil, Rk.bls_cons, Rk.ints_nil, Rk.ints_cons, Rk.b_min1, Rk.b_max1, Rk.b_min2, Rk.b_max2, Rk.m_loc, Rk.m_sl, Rk.p_nil, Rk.p_cons, Rk.set_s, Rk.esc_l, Rk.isI_int, Rk.isI_bool, Rk.isI_tup, List.cons_append, List.nil_append, List.append_nil, List.getElem?_cons_zero, List.getElem?_cons_succ, List.set_cons_zero, List.set_cons_succ, List.length_cons, List.length_nil, List.map_nil, List.map_cons, Option.bind_some, Option.bind_none, Option.map_some, Option.map_none, Option.isSome_some, id_eq, true_and, and_true, decide_eq_true_eq, List.replicate_succ, List.replicate_zero, Nat.reduceAdd, Nat.reduceSub, Int.reduceMul, Int.reduceAdd, Int.reduceSub, Int.reduceNeg, if_true, if_false, Bool.true_eq_false, Bool.false_eq_true, reduceIte, Bool.not_true]
    refine hk _ ?_; clear hk k
    rw [w_seq]
    try simp only [Rk.sat_ok, Rk.osat_some, Rk.osat_none, Rk.osat_ite, Rk.osat_map, Rk.osat_bind, Rk.w_var, Rk.w_con, Rk.w_bin, Rk.w_cmp, Rk.w_ix, Rk.w_bi, Rk.w_es0, Rk.w_es, Rk.w_ts0, Rk.w_ts, Rk.w_ws0, Rk.w_ws, Rk.w_W, Rk.w_T, Rk.w_esc, Rk.w_givw, Rk.w_givl, Rk.w_tup, Rk.w_lst, Rk.w_call, Rk.w_callK, Rk.w_un, Rk.w_not, Rk.w_and, Rk.w_or, Rk.w_ifx, Rk.w_sl, Rk.w_no, Rk.w_so, Rk.w_asb, Rk.w_tru, Rk.w_bnot, Rk.w_band, Rk.w_bor, Rk.w_yes, Rk.w_skip, Rk.w_expr, Rk.w_set, Rk.w_ret, Rk.w_retN, Rk.w_if, Rk.w_asg, Rk.w_par, Rk.w_gnm, Rk.w_gsb, Rk.w_mt, Rk.w_ext, Rk.w_gtp, Rk.w_gsc, Rk.w_gsn, Rk.w_escs, Rk.w_givs, Rk.slQ_l, Rk.slQ_w, Rk.backT, Option.getD_some, Option.getD_none, Rk.get_w, Rk.get_l, Rk.get_sl, Rk.seq_tup, Rk.seq_rol, Rk.seq_l, Rk.seq_loc, Rk.seq_sl, Rk.lst_rol, Rk.lst_l, Rk.lst_loc, Rk.lst_sl, Rk.lst_tup, Rk.ix_int, Rk.ix_some, Rk.seqT_l, Rk.seqT_tup, Rk.seqT_rol, Rk.seqT_loc, Rk.lstT_l, Rk.lstT_rol, Rk.lstT_loc, Rk.at_0, Rk.at_1, Rk.at_2, Rk.at_3, Rk.at_4, Rk.at_5, Rk.bin_int, Rk.i_add, Rk.i_sub, Rk.i_mul, Rk.i_div, Rk.i_mod, Rk.i_pow, Rk.u_neg, Rk.c_lt, Rk.c_le, Rk.c_gt, Rk.c_ge, Rk.c_eq, Rk.c_ne, Rk.c_isN, Rk.c_isI, Rk.c_seq, Rk.c_sne, Rk.t_non, Rk.t_bl, Rk.t_int, Rk.iw_int, Rk.bt_bl, Rk.b_int, Rk.b_intb, Rk.b_abs, Rk.b_lent, Rk.b_lenr, Rk.b_lenl, Rk.b_tup, Rk.b_list, Rk.b_all, Rk.b_any, Rk.b_sum, Rk.bls_nil, Rk.bls_cons, Rk.ints_nil, Rk.ints_cons, Rk.b_min1, Rk.b_max1, Rk.b_min2, Rk.b_max2, Rk.m_loc, Rk.m_sl, Rk.p_nil, Rk.p_cons, Rk.set_s, Rk.esc_l, Rk.isI_int, Rk.isI_bool, Rk.isI_tup, List.cons_append, List.nil_append, List.append_nil, List.getElem?_cons_zero, List.getElem?_cons_succ, List.set_cons_zero, List.set_cons_succ, List.length_cons, List.length_nil, List.map_nil, List.map_cons, Option.bind_some, Option.bind_none, Option.map_some, Option.map_none, Option.isSome_some, id_eq, true_and, and_true, decide_eq_true_eq, List.replicate_succ, List.replicate_zero, Nat.reduceAdd, Nat.reduceSub, Int.reduceMul, Int.reduceAdd, Int.reduceSub, Int.reduceNeg, if_true, if_false, Bool.true_eq_false, Bool.false_eq_true, reduceIte, ne_ce]
    simpa using h
  | false =>
    try simp only [Rk.sat_ok, Rk.osat_some, Rk.osat_none, Rk.osat_ite, Rk.osat_map, Rk.osat_bind, Rk.w_var, Rk.w_con, Rk.w_bin, Rk.w_cmp, Rk.w_ix, Rk.w_bi, Rk.w_es0, Rk.w_es, Rk.w_ts0, Rk.w_ts, Rk.w_ws0, Rk.w_ws, Rk.w_W, Rk.w_T, Rk.w_esc, Rk.w_givw, Rk.w_givl, Rk.w_tup, Rk.w_lst, Rk.w_call, Rk.w_callK, Rk.w_un, Rk.w_not, Rk.w_and, Rk.w_or, Rk.w_ifx, Rk.w_sl, Rk.w_no, Rk.w_so, Rk.w_asb, Rk.w_tru, Rk.w_bnot, Rk.w_band, Rk.w_bor, Rk.w_yes, Rk.w_skip, Rk.w_expr, Rk.w_set, Rk.w_ret, Rk.w_retN, Rk.w_if, Rk.w_asg, Rk.w_par, Rk.w_gnm, Rk.w_gsb, Rk.w_mt, Rk.w_ext, Rk.w_gtp, Rk.w_gsc, Rk.w_gsn, Rk.w_escs, Rk.w_givs, Rk.slQ_l, Rk.slQ_w, Rk.backT, Option.getD_some, Option.getD_none, Rk.get_w, Rk.get_l, Rk.get_sl, Rk.seq_tup, Rk.seq_rol, Rk.seq_l, Rk.seq_loc, Rk.seq_sl, Rk.lst_rol, Rk.lst_l, Rk.lst_loc, Rk.lst_sl, Rk.lst_tup, Rk.ix_int, Rk.ix_some, Rk.seqT_l, Rk.seqT_tup, Rk.seqT_rol, Rk.seqT_loc, Rk.lstT_l, Rk.lstT_rol, Rk.lstT_loc, Rk.at_0, Rk.at_1, Rk.at_2, Rk.at_3, Rk.at_4, Rk.at_5, Rk.bin_int, Rk.i_add, Rk.i_sub, Rk.i_mul, Rk.i_div, Rk.i_mod, Rk.i_pow, Rk.u_neg, Rk.c_lt, Rk.c_le, Rk.c_gt, Rk.c_ge, Rk.c_eq, Rk.c_ne, Rk.c_isN, Rk.c_isI, Rk.c_seq, Rk.c_sne, Rk.t_non, Rk.t_bl, Rk.t_int, Rk.iw_int, Rk.bt_bl, Rk.b_int, Rk.b_intb, Rk.b_abs, Rk.b_lent, Rk.b_lenr, Rk.b_lenl, Rk.b_tup, Rk.b_list, Rk.b_all, Rk.b_any, Rk.b_sum, Rk.bls_nil, Rk.bls_cons, Rk.ints_nil, Rk.ints_cons, Rk.b_min1, Rk.b_max1, Rk.b_min2, Rk.b_max2, Rk.m_loc, Rk.m_sl, Rk.p_nil, Rk.p_cons, Rk.set_s, Rk.esc_l, Rk.isI_int, Rk.isI_bool, Rk.isI_tup, List.cons_append, List.nil_append, List.append_nil, List.getElem?_cons_zero, List.getElem?_cons_succ, List.set_cons_zero, List.set_cons_succ, List.length_cons, List.length_nil, List.map_nil, List.map_cons, Option.bind_some, Option.bind_none, Option.map_some, Option.map_none, Option.isSome_some, id_eq, true_and, and_true, decide_eq_true_eq, List.replicate_succ, List.replicate_zero, Nat.reduceAdd, Nat.reduceSub, Int.reduceMul, Int.reduceAdd, Int.reduceSub, Int.reduceNeg, if_true, if_false, Bool.true_eq_false, Bool.false_eq_true, reduceIte, Bool.not_false]
    rw [w_seq]
    try simp only [Rk.sat_ok, Rk.osat_some, Rk.osat_none, Rk.osat_ite, Rk.osat_map, Rk.osat_bind, Rk.w_var, Rk.w_con, Rk.w_bin, Rk.w_cmp, Rk.w_ix, Rk.w_bi, Rk.w_es0, Rk.w_es, Rk.w_ts0, Rk.w_ts, Rk.w_ws0, Rk.w_ws, Rk.w_W, Rk.w_T, Rk.w_esc, Rk.w_givw, Rk.w_givl, Rk.w_tup, Rk.w_lst, Rk.w_call, Rk.w_callK, Rk.w_un, Rk.w_not, Rk.w_and, Rk.w_or, Rk.w_ifx, Rk.w_sl, Rk.w_no, Rk.w_so, Rk.w_asb, Rk.w_tru, Rk.w_bnot, Rk.w_band, Rk.w_bor, Rk.w_yes, Rk.w_skip, Rk.w_expr, Rk.w_set, Rk.w_ret, Rk.w_retN, Rk.w_if, Rk.w_asg, Rk.w_par, Rk.w_gnm, Rk.w_gsb, Rk.w_mt, Rk.w_ext, Rk.w_gtp, Rk.w_gsc, Rk.w_gsn, Rk.w_escs, Rk.w_givs, Rk.slQ_l, Rk.slQ_w, Rk.backT, Option.getD_some, Option.getD_none, Rk.get_w, Rk.get_l, Rk.get_sl, Rk.seq_tup, Rk.seq_rol, Rk.seq_l, Rk.seq_loc, Rk.seq_sl, Rk.lst_rol, Rk.lst_l, Rk.lst_loc, Rk.lst_sl, Rk.lst_tup, Rk.ix_int, Rk.ix_some, Rk.seqT_l, Rk.seqT_tup, Rk.seqT_rol, Rk.seqT_loc, Rk.lstT_l, Rk.lstT_rol, Rk.lstT_loc, Rk.at_0, Rk.at_1, Rk.at_2, Rk.at_3, Rk.at_4, Rk.at_5, Rk.bin_int, Rk.i_add, Rk.i_sub, Rk.i_mul, Rk.i_div, Rk.i_mod, Rk.i_pow, Rk.u_neg, Rk.c_lt, Rk.c_le, Rk.c_gt, Rk.c_ge, Rk.c_eq, Rk.c_ne, Rk.c_isN, Rk.c_isI, Rk.c_seq, Rk.c_sne, Rk.t_non, Rk.t_bl, Rk.t_int, Rk.iw_int, Rk.bt_bl, Rk.b_int, Rk.b_intb, Rk.b_abs, Rk.b_lent, Rk.b_lenr, Rk.b_lenl, Rk.b_tup, Rk.b_list, Rk.b_all, Rk.b_any, Rk.b_sum, Rk.bls_nil, Rk.bls_cons, Rk.ints_nil, Rk.ints_cons, Rk.b_min1, Rk.b_max1, Rk.b_min2, Rk.b_max2, Rk.m_loc, Rk.m_sl, Rk.p_nil, Rk.p_cons, Rk.set_s, Rk.esc_l, Rk.isI_int, Rk.isI_bool, Rk.isI_tup, List.cons_append, List.nil_append, List.append_nil, List.getElem?_cons_zero, List.getElem?_cons_succ, List.set_cons_zero, List.set_cons_succ, List.length_cons, List.length_nil, List.map_nil, List.map_cons, Option.bind_some, Option.bind_none, Option.map_some, Option.map_none, Option.isSome_some, id_eq, true_and, and_true, decide_eq_true_eq, List.replicate_succ, List.replicate_zero, Nat.reduceAdd, Nat.reduceSub, Int.reduceMul, Int.reduceAdd, Int.reduceSub, Int.reduceNeg, if_true, if_false, Bool.true_eq_false, Bool.false_eq_true, reduceIte]
    simpa using h
end
end Law

namespace Law
open PySem PySem.Spec PyProof.Rows L2 Rk
section
variable {n : Nat} {M : List Ob} {R : T → List Ob → Prop}
def tou (a b c a' b' c' : Int) : Bool := rim a b c a' b' c' || rim a' b' c' a b c
theorem c_are_touching {a b c a' b' c' : Int} (h : R (.w (.bl (tou a b c a' b' c'))) M) : ((ob (n + 2)).fn 21 [.w (ce a b c), .w (ce a' b' c')] M).sat R := by
  rw [r21, w_run]; unfold d21; rw [w_seq]
  unfold tou at h
  try simp only [Rk.sat_ok, Rk.osat_some, Rk.osat_none, Rk.osat_ite, Rk.osat_map, Rk.osat_bind, Rk.w_var, Rk.w_con, Rk.w_bin, Rk.w_cmp, Rk.w_ix, Rk.w_bi, Rk.w_es0, Rk.w_es, Rk.w_ts0, Rk.w_ts, Rk.w_ws0, Rk.w_ws, Rk.w_W, Rk.w_T, Rk.w_esc, Rk.w_givw, Rk.w_givl, Rk.w_tup, Rk.w_lst, Rk.w_call, Rk.w_callK, Rk.w_un, Rk.w_not, Rk.w_and, Rk.w_or, Rk.w_ifx, Rk.w_sl, Rk.w_no, Rk.w_so, Rk.w_asb, Rk.w_tru, Rk.w_bnot, Rk.w_band, Rk.w_bor, Rk.w_yes, Rk.w_skip, Rk.w_expr, Rk.w_set, Rk.w_ret, Rk.w_retN, Rk.w_if, Rk.w_asg, Rk.w_par, Rk.w_gnm, Rk.w_gsb, Rk.w_mt, Rk.w_ext, Rk.w_gtp, Rk.w_gsc, Rk.w_gsn, Rk.w_escs, Rk.w_givs, Rk.slQ_l, Rk.slQ_w, Rk.backT, Option.getD_some, Option.getD_none, Rk.get_w, Rk.get_l, Rk.get_sl, Rk.seq_tup, Rk.seq_rol, Rk.seq_l, Rk.seq_loc, Rk.seq_sl, Rk.lst_rol, Rk.lst_l, Rk.lst_loc, Rk.lst_sl, Rk.lst_tup, Rk.ix_int, Rk.ix_some, Rk.seqT_l, Rk.seqT_tup, Rk.seqT_rol, Rk.seqT_loc, Rk.lstT_l, Rk.lstT_rol, Rk.lstT_loc, Rk.at_0, Rk.at_1, Rk.at_2, Rk.at_3, Rk.at_4, Rk.at_5, Rk.bin_int, Rk.i_add, Rk.i_sub, Rk.i_mul, Rk.i_div, Rk.i_mod, Rk.i_pow, Rk.u_neg, Rk.c_lt, Rk.c_le, Rk.c_gt, Rk.c_ge, Rk.c_eq, Rk.c_ne, Rk.c_isN, Rk.c_isI, Rk.c_seq, Rk.c_sne, Rk.t_non, Rk.t_bl, Rk.t_int, Rk.iw_int, Rk.bt_bl, Rk.b_int, Rk.b_intb, Rk.b_abs, Rk.b_lent, Rk.b_lenr, Rk.b_lenl, Rk.b_tup, Rk.b_list, Rk.b_all, Rk.b_any, Rk.b_sum, Rk.bls_nil, Rk.bls_cons, Rk.ints_nil, Rk.ints_cons, Rk.b_min1, Rk.b_max1, Rk.b_min2, Rk.b_max2, Rk.m_loc, Rk.m_sl, Rk.p_nil, Rk.p_cons, Rk.set_s, Rk.esc_l, Rk.isI_int, Rk.isI_bool, Rk.isI_tup, List.cons_append, List.nil_append, List.append_nil, List.getElem?_cons_zero, List.getElem?_cons_succ, List.set_cons_zero, List.set_cons_succ, List.length_cons, List.length_nil, List.map_nil, List.map_cons, Option.bind_some, Option.bind_none, Option.map_some, Option.map_none, Option.isSome_some, id_eq, true_and, and_true, decide_eq_true_eq, List.replicate_succ, List.replicate_zero, Nat.reduceAdd, Nat.reduceSub, Int.reduceMul, Int.reduceAdd, Int.reduceSub, Int.reduceNeg, if_true, if_false, Bool.true_eq_false, Bool.false_eq_true, reduceIte]
  refine c_is_at_rim ?_
  try simp only [Rk.sat_ok, Rk.osat_some, Rk.osat_none, Rk.osat_ite, Rk.osat_map, Rk.osat_bind, Rk.w_var, Rk.w_con, Rk.w_bin, Rk.w_cmp, Rk.w_ix, Rk.w_bi, Rk.w_es0, Rk.w_es, Rk.w_ts0, Rk.w_ts, Rk.w_ws0, Rk.w_ws, Rk.w_W, Rk.w_T, Rk.w_esc, Rk.w_givw, Rk.w_givl, Rk.w_tup, Rk.w_lst, Rk.w_call, Rk.w_callK, Rk.w_un, Rk.w_not, Rk.w_and, Rk.w_or, Rk.w_ifx, Rk.w_sl, Rk.w_no, Rk.w_so, Rk.w_asb, Rk.w_tru, Rk.w_bnot, Rk.w_band, Rk.w_bor, Rk.w_yes, Rk.w_skip, Rk.w_expr, Rk.w_set, Rk.w_ret, Rk.w_retN, Rk.w_if, Rk.w_asg, Rk.w_par, Rk.w_gnm, Rk.w_gsb, Rk.w_mt, Rk.w_ext, Rk.w_gtp, Rk.w_gsc, Rk.w_gsn, Rk.w_escs, Rk.w_givs, Rk.slQ_l, Rk.slQ_w, Rk.backT, Option.getD_some, Option.getD_none, Rk.get_w, Rk.get_l, Rk.get_sl, Rk.seq_tup, Rk.seq_rol, Rk.seq_l, Rk.seq_loc, Rk.seq_sl, Rk.lst_rol, Rk.lst_l, Rk.lst_loc, Rk.lst_sl, Rk.lst_tup, Rk.ix_int, Rk.ix_some, Rk.seqT_l, Rk.seqT_tup, Rk.seqT_rol, Rk.seqT_loc, Rk.lstT_l, Rk.lstT_rol, Rk.lstT_loc, Rk.at_0, Rk.at_1, Rk.at_2, Rk.at_3, Rk.at_4, Rk.at_5, Rk.bin_int, Rk.i_add, Rk.i_sub, Rk.i_mul, Rk.i_div, Rk.i_mod, Rk.i_pow, Rk.u_neg, Rk.c_lt, Rk.c_le, Rk.c_gt, Rk.c_ge, Rk.c_eq, Rk.c_ne, Rk.c_isN, Rk.c_isI, Rk.c_seq, Rk.c_sne, Rk.t_non, Rk.t_bl, Rk.t_int, Rk.iw_int, Rk.bt_bl, Rk.b_int, Rk.b_intb, Rk.b_abs, Rk.b_lent, Rk.b_lenr, Rk.b_lenl, Rk.b_tup, Rk.b_list, Rk.b_all, Rk.b_any, Rk.b_sum, Rk.bls_nil, Rk.bls_cons, Rk.ints_nil, Rk.ints_cons, Rk.b_min1, Rk.b_max1, Rk.b_min2, Rk.b_max2, Rk.m_loc, Rk.m_sl, Rk.p_nil, Rk.p_cons, Rk.set_s, Rk.esc_l, Rk.isI_int, Rk.isI_bool, Rk.isI_tup, List.cons_append, List.nil_append, List.append_nil, List.getElem?_cons_zero, List.getElem?_cons_succ, List.set_cons_zero, List.set_cons_succ, List.length_cons, List.length_nil, List.map_nil, List.map_cons, Option.bind_some, Option.bind_none, Option.map_some, Option.map_none, Option.isSome_some, id_eq, true_and, and_true, decide_eq_true_eq, List.replicate_succ, List.replicate_zero, Nat.reduceAdd, Nat.reduceSub, Int.reduceMul, Int.reduceAdd, Int.reduceSub, Int.reduceNeg, if_true, if_false, Bool.true_eq_false, Bool.false_eq_true, reduceIte]
  cases hx : rim a b c a' b' c' with
  | true =>
    rw [hx] at h
    try simp only [Rk.sat_ok, Rk.osat_some, Rk.osat_none, Rk.osat_ite, Rk.osat_map, Rk.osat_bind, Rk.w_var, Rk.w_con, Rk.w_bin, Rk.w_cmp, Rk.w_ix, Rk.w_bi, Rk.w_es0, Rk.w_es, Rk.w_ts0, Rk.w_ts, Rk.w_ws0, Rk.w_ws, Rk.w_W, Rk.w_T, Rk.w_esc, Rk.w_givw, Rk.w_givl, Rk.w_tup, Rk.w_lst, Rk.w_call, Rk.w_callK, Rk.w_un, Rk.w_not, Rk.w_and, Rk.w_or, Rk.w_ifx, Rk.w_sl, Rk.w_no, Rk.w_so, Rk.w_asb, Rk.w_tru, Rk.w_bnot, Rk.w_band, Rk.w_bor, Rk.w_yes, Rk.w_skip, Rk.w_expr, Rk.w_set, Rk.w_ret, Rk.w_retN, Rk.w_if, Rk.w_asg, Rk.w_par, Rk.w_gnm, Rk.w_gsb, Rk.w_mt, Rk.w_ext, Rk.w_gtp, Rk.w_gsc, Rk.w_gsn, Rk.w_escs, Rk.w_givs, Rk.slQ_l, Rk.slQ_w, Rk.backT, Option.getD_some, Option.getD_none, Rk.get_w, Rk.get_l, Rk.get_sl, Rk.seq_tup, Rk.seq_rol, Rk.seq_l, Rk.seq_loc, Rk.seq_sl, Rk.lst_rol, Rk.lst_l, Rk.lst_loc, Rk.lst_sl, Rk.lst_tup, Rk.ix_int, Rk.ix_some, Rk.seqT_l, Rk.seqT_tup, Rk.seqT_rol, Rk.seqT_loc, Rk.lstT_l, Rk.lstT_rol, Rk.lstT_loc, Rk.at_0, Rk.at_1, Rk.at_2, Rk.at_3, Rk.at_4, Rk.at_5, Rk.bin_int, Rk.i_add, Rk.i_sub, Rk.i_mul, Rk.i_div, Rk.i_mod, Rk.i_pow, Rk.u_neg, Rk.c_lt, Rk.c_le, Rk.c_gt, Rk.c_ge, Rk.c_eq, Rk.c_ne, Rk.c_isN, Rk.c_isI, Rk.c_seq, Rk.c_sne, Rk.t_non, Rk.t_bl, Rk.t_int, Rk.iw_int, Rk.bt_bl, Rk.b_int, Rk.b_intb, Rk.b_abs, Rk.b_lent, Rk.b_lenr, Rk.b_lenl, Rk.b_tup, Rk.b_list, Rk.b_all, Rk.b_any, Rk.b_sum, Rk.bls_nil, Rk.bls_cons, Rk.ints_nil, Rk.ints_cons, Rk.b_min1, Rk.b_max1, Rk.b_min2, Rk.b_max2, Rk.m_loc, Rk.m_sl, Rk.p_nil, Rk.p_cons, Rk.set_s, Rk.esc_l, Rk.isI_int, Rk.isI_bool, Rk.isI_tup, List.cons_append, List.nil_append, List.append_nil, List.getElem?_cons_zero, List.getElem?_cons_succ, List.set_cons_zero, List.set_cons_succ, List.length_cons, List.length_nil, List.map_nil, List.map_cons, Option.bind_some, Option.bind_none, Option.map_some, Option.map_none, Option.isSome_some, id_eq, true_and, and_true, decide_eq_true_eq, List.replicate_succ, List.replicate_zero, Nat.reduceAdd, Nat.reduceSub, Int.reduceMul, Int.reduceAdd, Int.reduceSub, Int.reduceNeg, if_true, if_false, Bool.true_eq_false, Bool.false_eq_true, reduceIte]
    exact h
  | false =>
    rw [hx] at h
    try simp only [Rk.sat_ok, Rk.osat_some, Rk.osat_none, Rk.osat_ite, Rk.osat_map, Rk.osat_bind, Rk.w_var, Rk.w_con, Rk.w_bin, Rk.w_cmp, Rk.w_ix, Rk.w_bi, Rk.w_es0, Rk.w_es, Rk.w_ts0, Rk.w_ts, Rk.w_ws0, Rk.w_ws, Rk.w_W, Rk.w_T, Rk.w_esc, Rk.w_givw, Rk.w_givl, Rk.w_tup, Rk.w_lst, Rk.w_call, Rk.w_callK, Rk.w_un, Rk.w_not, Rk.w_and, Rk.w_or, Rk.w_ifx, Rk.w_sl, Rk.w_no, Rk.w_so, Rk.w_asb, Rk.w_tru, Rk.w_bnot, Rk.w_band, Rk.w_bor, Rk.w_yes, Rk.w_skip, Rk.w_expr, Rk.w_set, Rk.w_ret, Rk.w_retN, Rk.w_if, Rk.w_asg, Rk.w_par, Rk.w_gnm, Rk.w_gsb, Rk.w_mt, Rk.w_ext, Rk.w_gtp, Rk.w_gsc, Rk.w_gsn, Rk.w_escs, Rk.w_givs, Rk.slQ_l, Rk.slQ_w, Rk.backT, Option.getD_some, Option.getD_none, Rk.get_w, Rk.get_l, Rk.get_sl, Rk.seq_tup, Rk.seq_rol, Rk.seq_l, Rk.seq_loc, Rk.seq_sl, Rk.lst_rol, Rk.lst_l, Rk.lst_loc, Rk.lst_sl, Rk.lst_tup, Rk.ix_int, Rk.ix_some, Rk.seqT_l, Rk.seqT_tup, Rk.seqT_rol, Rk.seqT_loc, Rk.lstT_l, Rk.lstT_rol, Rk.lstT_loc, Rk.at_0, Rk.at_1, Rk.at_2, Rk.at_3, Rk.at_4, Rk.at_5, Rk.bin_int, Rk.i_add, Rk.i_sub, Rk.i_mul, Rk.i_div, Rk.i_mod, Rk.i_pow, Rk.u_neg, Rk.c_lt, Rk.c_le, Rk.c_gt, Rk.c_ge, Rk.c_eq, Rk.c_ne, Rk.c_isN, Rk.c_isI, Rk.c_seq, Rk.c_sne, Rk.t_non, Rk.t_bl, Rk.t_int, Rk.iw_int, Rk.bt_bl, Rk.b_int, Rk.b_intb, Rk.b_abs, Rk.b_lent, Rk.b_lenr, Rk.b_lenl, Rk.b_tup, Rk.b_list, Rk.b_all, Rk.b_any, Rk.b_sum, Rk.bls_nil, Rk.bls_cons, Rk.ints_nil, Rk.ints_cons, Rk.b_min1, Rk.b_max1, Rk.b_min2, Rk.b_max2, Rk.m_loc, Rk.m_sl, Rk.p_nil, Rk.p_cons, Rk.set_s, Rk.esc_l, Rk.isI_int, Rk.isI_bool, Rk.isI_tup, List.cons_append, List.nil_append, List.append_nil, List.getElem?_cons_zero, List.getElem?_cons_succ, List.set_cons_zero, List.set_cons_succ, List.length_cons, List.length_nil, List.map_nil, List.map_cons, Option.bind_some, Option.bind_none, Option.map_some, Option.map_none, Option.isSome_some, id_eq, true_and, and_true, decide_eq_true_eq, List.replicate_succ, List.replicate_zero, Nat.reduceAdd, Nat.reduceSub, Int.reduceMul, Int.reduceAdd, Int.reduceSub, Int.reduceNeg, if_true, if_false, Bool.true_eq_false, Bool.false_eq_true, reduceIte]
    exact c_is_at_rim h
theorem c_law_is_touching {a b c a' b' c' : Int} (h : R (.w (.bl (tou a b c a' b' c'))) M) : ((ob (n + 2)).fn 7 [.w (ce a b c), .w (ce a' b' c')] M).sat R := by
  rw [r7, w_run]; unfold d7; rw [w_seq]
  unfold tou at h
  try simp only [Rk.sat_ok, Rk.osat_some, Rk.osat_none, Rk.osat_ite, Rk.osat_map, Rk.osat_bind, Rk.w_var, Rk.w_con, Rk.w_bin, Rk.w_cmp, Rk.w_ix, Rk.w_bi, Rk.w_es0, Rk.w_es, Rk.w_ts0, Rk.w_ts, Rk.w_ws0, Rk.w_ws, Rk.w_W, Rk.w_T, Rk.w_esc, Rk.w_givw, Rk.w_givl, Rk.w_tup, Rk.w_lst, Rk.w_call, Rk.w_callK, Rk.w_un, Rk.w_not, Rk.w_and, Rk.w_or, Rk.w_ifx, Rk.w_sl, Rk.w_no, Rk.w_so, Rk.w_asb, Rk.w_tru, Rk.w_bnot, Rk.w_band, Rk.w_bor, Rk.w_yes, Rk.w_skip, Rk.w_expr, Rk.w_set, Rk.w_ret, Rk.w_retN, Rk.w_if, Rk.w_asg, Rk.w_par, Rk.w_gnm, Rk.w_gsb, Rk.w_mt, Rk.w_ext, Rk.w_gtp, Rk.w_gsc, Rk.w_gsn, Rk.w_escs, Rk.w_givs, Rk.slQ_l, Rk.slQ_w, Rk.backT, Option.getD_some, Option.getD_none, Rk.get_w, Rk.get_l, Rk.get_sl, Rk.seq_tup, Rk.seq_rol, Rk.seq_l, Rk.seq_loc, Rk.seq_sl, Rk.lst_rol, Rk.lst_l, Rk.lst_loc, Rk.lst_sl, Rk.lst_tup, Rk.ix_int, Rk.ix_some, Rk.seqT_l, Rk.seqT_tup, Rk.seqT_rol, Rk.seqT_loc, Rk.lstT_l, Rk.lstT_rol, Rk.lstT_loc, Rk.at_0, Rk.at_1, Rk.at_2, Rk.at_3, Rk.at_4, Rk.at_5, Rk.bin_int, Rk.i_add, Rk.i_sub, Rk.i_mul, Rk.i_div, Rk.i_mod, Rk.i_pow, Rk.u_neg, Rk.c_lt, Rk.c_le, Rk.c_gt, Rk.c_ge, Rk.c_eq, Rk.c_ne, Rk.c_isN, Rk.c_isI, Rk.c_seq, Rk.c_sne, Rk.t_non, Rk.t_bl, Rk.t_int, Rk.iw_int, Rk.bt_bl, Rk.b_int, Rk.b_intb, Rk.b_abs, Rk.b_lent, Rk.b_lenr, Rk.b_lenl, Rk.b_tup, Rk.b_list, Rk.b_all, Rk.b_any, Rk.b_sum, Rk.bls_nil, Rk.bls_cons, Rk.ints_nil, Rk.ints_cons, Rk.b_min1, Rk.b_max1, Rk.b_min2, Rk.b_max2, Rk.m_loc, Rk.m_sl, Rk.p_nil, Rk.p_cons, Rk.set_s, Rk.esc_l, Rk.isI_int, Rk.isI_bool, Rk.isI_tup, List.cons_append, List.nil_append, List.append_nil, List.getElem?_cons_zero, List.getElem?_cons_succ, List.set_cons_zero, List.set_cons_succ, List.length_cons, List.length_nil, List.map_nil, List.map_cons, Option.bind_some, Option.bind_none, Option.map_some, Option.map_none, Option.isSome_some, id_eq, true_and, and_true, decide_eq_true_eq, List.replicate_succ, List.replicate_zero, Nat.reduceAdd, Nat.reduceSub, Int.reduceMul, Int.reduceAdd, Int.reduceSub, Int.reduceNeg, if_true, if_false, Bool.true_eq_false, Bool.false_eq_true, reduceIte]
  refine c_law_is_at_rim ?_
  try simp only [Rk.sat_ok, Rk.osat_some, Rk.osat_none, Rk.osat_ite, Rk.osat_map, Rk.osat_bind, Rk.w_var, Rk.w_con, Rk.w_bin, Rk.w_cmp, Rk.w_ix, Rk.w_bi, Rk.w_es0, Rk.w_es, Rk.w_ts0, Rk.w_ts, Rk.w_ws0, Rk.w_ws, Rk.w_W, Rk.w_T, Rk.w_esc, Rk.w_givw, Rk.w_givl, Rk.w_tup, Rk.w_lst, Rk.w_call, Rk.w_callK, Rk.w_un, Rk.w_not, Rk.w_and, Rk.w_or, Rk.w_ifx, Rk.w_sl, Rk.w_no, Rk.w_so, Rk.w_asb, Rk.w_tru, Rk.w_bnot, Rk.w_band, Rk.w_bor, Rk.w_yes, Rk.w_skip, Rk.w_expr, Rk.w_set, Rk.w_ret, Rk.w_retN, Rk.w_if, Rk.w_asg, Rk.w_par, Rk.w_gnm, Rk.w_gsb, Rk.w_mt, Rk.w_ext, Rk.w_gtp, Rk.w_gsc, Rk.w_gsn, Rk.w_escs, Rk.w_givs, Rk.slQ_l, Rk.slQ_w, Rk.backT, Option.getD_some, Option.getD_none, Rk.get_w, Rk.get_l, Rk.get_sl, Rk.seq_tup, Rk.seq_rol, Rk.seq_l, Rk.seq_loc, Rk.seq_sl, Rk.lst_rol, Rk.lst_l, Rk.lst_loc, Rk.lst_sl, Rk.lst_tup, Rk.ix_int, Rk.ix_some, Rk.seqT_l, Rk.seqT_tup, Rk.seqT_rol, Rk.seqT_loc, Rk.lstT_l, Rk.lstT_rol, Rk.lstT_loc, Rk.at_0, Rk.at_1, Rk.at_2, Rk.at_3, Rk.at_4, Rk.at_5, Rk.bin_int, Rk.i_add, Rk.i_sub, Rk.i_mul, Rk.i_div, Rk.i_mod, Rk.i_pow, Rk.u_neg, Rk.c_lt, Rk.c_le, Rk.c_gt, Rk.c_ge, Rk.c_eq, Rk.c_ne, Rk.c_isN, Rk.c_isI, Rk.c_seq, Rk.c_sne, Rk.t_non, Rk.t_bl, Rk.t_int, Rk.iw_int, Rk.bt_bl, Rk.b_int, Rk.b_intb, Rk.b_abs, Rk.b_lent, Rk.b_lenr, Rk.b_lenl, Rk.b_tup, Rk.b_list, Rk.b_all, Rk.b_any, Rk.b_sum, Rk.bls_nil, Rk.bls_cons, Rk.ints_nil, Rk.ints_cons, Rk.b_min1, Rk.b_max1, Rk.b_min2, Rk.b_max2, Rk.m_loc, Rk.m_sl, Rk.p_nil, Rk.p_cons, Rk.set_s, Rk.esc_l, Rk.isI_int, Rk.isI_bool, Rk.isI_tup, List.cons_append, List.nil_append, List.append_nil, List.getElem?_cons_zero, List.getElem?_cons_succ, List.set_cons_zero, List.set_cons_succ, List.length_cons, List.length_nil, List.map_nil, List.map_cons, Option.bind_some, Option.bind_none, Option.map_some, Option.map_none, Option.isSome_some, id_eq, true_and, and_true, decide_eq_true_eq, List.replicate_succ, List.replicate_zero, Nat.reduceAdd, Nat.reduceSub, Int.reduceMul, Int.reduceAdd, Int.reduceSub, Int.reduceNeg, if_true, if_false, Bool.true_eq_false, Bool.false_eq_true, reduceIte]
  cases hx : rim a b c a' b' c' with
  | true =>
    rw [hx] at h
    try simp only [Rk.sat_ok, Rk.osat_some, Rk.osat_none, Rk.osat_ite, Rk.osat_map, Rk.osat_bind, Rk.w_var, Rk.w_con, Rk.w_bin, Rk.w_cmp, Rk.w_ix, Rk.w_bi, Rk.w_es0, Rk.w_es, Rk.w_ts0, Rk.w_ts, Rk.w_ws0, Rk.w_ws, Rk.w_W, Rk.w_T, Rk.w_esc, Rk.w_givw, Rk.w_givl, Rk.w_tup, Rk.w_lst, Rk.w_call, Rk.w_callK, Rk.w_un, Rk.w_not, Rk.w_and, Rk.w_or, Rk.w_ifx, Rk.w_sl, Rk.w_no, Rk.w_so, Rk.w_asb, Rk.w_tru, Rk.w_bnot, Rk.w_band, Rk.w_bor, Rk.w_yes, Rk.w_skip, Rk.w_expr, Rk.w_set, Rk.w_ret, Rk.w_retN, Rk.w_if, Rk.w_asg, Rk.w_par, Rk.w_gnm, Rk.w_gsb, Rk.w_mt, Rk.w_ext, Rk.w_gtp, Rk.w_gsc, Rk.w_gsn, Rk.w_escs, Rk.w_givs, Rk.slQ_l, Rk.slQ_w, Rk.backT, Option.getD_some, Option.getD_none, Rk.get_w, Rk.get_l, Rk.get_sl, Rk.seq_tup, Rk.seq_rol, Rk.seq_l, Rk.seq_loc, Rk.seq_sl, Rk.lst_rol, Rk.lst_l, Rk.lst_loc, Rk.lst_sl, Rk.lst_tup, Rk.ix_int, Rk.ix_some, Rk.seqT_l, Rk.seqT_tup, Rk.seqT_rol, Rk.seqT_loc, Rk.lstT_l, Rk.lstT_rol, Rk.lstT_loc, Rk.at_0, Rk.at_1, Rk.at_2, Rk.at_3, Rk.at_4, Rk.at_5, Rk.bin_int, Rk.i_add, Rk.i_sub, Rk.i_mul, Rk.i_div, Rk.i_mod, Rk.i_pow, Rk.u_neg, Rk.c_lt, Rk.c_le, Rk.c_gt, Rk.c_ge, Rk.c_eq, Rk.c_ne, Rk.c_isN, Rk.c_isI, Rk.c_seq, Rk.c_sne, Rk.t_non, Rk.t_bl, Rk.t_int, Rk.iw_int, Rk.bt_bl, Rk.b_int, Rk.b_intb, Rk.b_abs, Rk.b_lent, Rk.b_lenr, Rk.b_lenl, Rk.b_tup, Rk.b_list, Rk.b_all, Rk.b_any, Rk.b_sum, Rk.bls_nil, Rk.bls_cons, Rk.ints_nil, Rk.ints_cons, Rk.b_min1, Rk.b_max1, Rk.b_min2, Rk.b_max2, Rk.m_loc, Rk.m_sl, Rk.p_nil, Rk.p_cons, Rk.set_s, Rk.esc_l, Rk.isI_int, Rk.isI_bool, Rk.isI_tup, List.cons_append, List.nil_append, List.append_nil, List.getElem?_cons_zero, List.getElem?_cons_succ, List.set_cons_zero, List.set_cons_succ, List.length_cons, List.length_nil, List.map_nil, List.map_cons, Option.bind_some, Option.bind_none, Option.map_some, Option.map_none, Option.isSome_some, id_eq, true_and, and_true, decide_eq_true_eq, List.replicate_succ, List.replicate_zero, Nat.reduceAdd, Nat.reduceSub, Int.reduceMul, Int.reduceAdd, Int.reduceSub, Int.reduceNeg, if_true, if_false, Bool.true_eq_false, Bool.false_eq_true, reduceIte]
    exact h
  | false =>
    rw [hx] at h
    try simp only [Rk.sat_ok, Rk.osat_some, Rk.osat_none, Rk.osat_ite, Rk.osat_map, Rk.osat_bind, Rk.w_var, Rk.w_con, Rk.w_bin, Rk.w_cmp, Rk.w_ix, Rk.w_bi, Rk.w_es0, Rk.w_es, Rk.w_ts0, Rk.w_ts, Rk.w_ws0, Rk.w_ws, Rk.w_W, Rk.w_T, Rk.w_esc, Rk.w_givw, Rk.w_givl, Rk.w_tup, Rk.w_lst, Rk.w_call, Rk.w_callK, Rk.w_un, Rk.w_not, Rk.w_and, Rk.w_or, Rk.w_ifx, Rk.w_sl, Rk.w_no, Rk.w_so, Rk.w_asb, Rk.w_tru, Rk.w_bnot, Rk.w_band, Rk.w_bor, Rk.w_yes, Rk.w_skip, Rk.w_expr, Rk.w_set, Rk.w_ret, Rk.w_retN, Rk.w_if, Rk.w_asg, Rk.w_par, Rk.w_gnm, Rk.w_gsb, Rk.w_mt, Rk.w_ext, Rk.w_gtp, Rk.w_gsc, Rk.w_gsn, Rk.w_escs, Rk.w_givs, Rk.slQ_l, Rk.slQ_w, Rk.backT, Option.getD_some, Option.getD_none, Rk.get_w, Rk.get_l, Rk.get_sl, Rk.seq_tup, Rk.seq_rol, Rk.seq_l, Rk.seq_loc, Rk.seq_sl, Rk.lst_rol, Rk.lst_l, Rk.lst_loc, Rk.lst_sl, Rk.lst_tup, Rk.ix_int, Rk.ix_some, Rk.seqT_l, Rk.seqT_tup, Rk.seqT_rol, Rk.seqT_loc, Rk.lstT_l, Rk.lstT_rol, Rk.lstT_loc, Rk.at_0, Rk.at_1, Rk.at_2, Rk.at_3, Rk.at_4, Rk.at_5, Rk.bin_int, Rk.i_add, Rk.i_sub, Rk.i_mul, Rk.i_div, Rk.i_mod, Rk.i_pow, Rk.u_neg, Rk.c_lt, Rk.c_le, Rk.c_gt, Rk.c_ge, Rk.c_eq, Rk.c_ne, Rk.c_isN, Rk.c_isI, Rk.c_seq, Rk.c_sne, Rk.t_non, Rk.t_bl, Rk.t_int, Rk.iw_int, Rk.bt_bl, Rk.b_int, Rk.b_intb, Rk.b_abs, Rk.b_lent, Rk.b_lenr, Rk.b_lenl, Rk.b_tup, Rk.b_list, Rk.b_all, Rk.b_any, Rk.b_sum, Rk.bls_nil, Rk.bls_cons, Rk.ints_nil, Rk.ints_cons, Rk.b_min1, Rk.b_max1, Rk.b_min2, Rk.b_max2, Rk.m_loc, Rk.m_sl, Rk.p_nil, Rk.p_cons, Rk.set_s, Rk.esc_l, Rk.isI_int, Rk.isI_bool, Rk.isI_tup, List.cons_append, List.nil_append, List.append_nil, List.getElem?_cons_zero, List.getElem?_cons_succ, List.set_cons_zero, List.set_cons_succ, List.length_cons, List.length_nil, List.map_nil, List.map_cons, Option.bind_some, Option.bind_none, Option.map_some, Option.map_none, Option.isSome_some, id_eq, true_and, and_true, decide_eq_true_eq, List.replicate_succ, List.replicate_zero, Nat.reduceAdd, Nat.reduceSub, Int.reduceMul, Int.reduceAdd, Int.reduceSub, Int.reduceNeg, if_true, if_false, Bool.true_eq_false, Bool.false_eq_true, reduceIte]
    exact c_law_is_at_rim h
theorem c_touches {a b c a' b' c' : Int} (h : R (.w (.bl (tou a b c a' b' c'))) M) : ((ob (n + 4)).fn 11 [.w (ce a b c), .w (ce a' b' c')] M).sat R := by
  rw [r11, w_run]; unfold d11
  refine w_stp fun k hk => ?_; try simp only [Rk.sat_ok, Rk.osat_some, Rk.osat_none, Rk.osat_ite, Rk.osat_map, Rk.osat_bind, Rk.w_var, Rk.w_con, Rk.w_bin, Rk.w_cmp, Rk.w_ix, Rk.w_bi, Rk.w_es0, Rk.w_es, Rk.w_ts0, Rk.w_ts, Rk.w_ws0, Rk.w_ws, Rk.w_W, Rk.w_T, Rk.w_esc, Rk.w_givw, Rk.w_givl, Rk.w_tup, Rk.w_lst, Rk.w_call, Rk.w_callK, Rk.w_un, Rk.w_not, Rk.w_and, Rk.w_or, Rk.w_ifx, Rk.w_sl, Rk.w_no, Rk.w_so, Rk.w_asb, Rk.w_tru, Rk.w_bnot, Rk.w_band, Rk.w_bor, Rk.w_yes, Rk.w_skip, Rk.w_expr, Rk.w_set, Rk.w_ret, Rk.w_retN, Rk.w_if, Rk.w_asg, Rk.w_par, Rk.w_gnm, Rk.w_gsb, Rk.w_mt, Rk.w_ext, Rk.w_gtp, Rk.w_gsc, Rk.w_gsn, Rk.w_escs, Rk.w_givs, Rk.slQ_l, Rk.slQ_w, Rk.backT, Option.getD_some, Option.getD_none, Rk.get_w, Rk.get_l, Rk.get_sl, Rk.seq_tup, Rk.seq_rol, Rk.seq_l, Rk.seq_loc, Rk.seq_sl, Rk.lst_rol, Rk.lst_l, Rk.lst_loc, Rk.lst_sl, Rk.lst_tup, Rk.ix_int, Rk.ix_some, Rk.seqT_l, Rk.seqT_tup, Rk.seqT_rol, Rk.seqT_loc, Rk.lstT_l, Rk.lstT_rol, Rk.lstT_loc, Rk.at_0, Rk.at_1, Rk.at_2, Rk.at_3, Rk.at_4, Rk.at_5, Rk.bin_int, Rk.i_add, Rk.i_sub, Rk.i_mul, Rk.i_div, Rk.i_mod, Rk.i_pow, Rk.u_neg, Rk.c_lt, Rk.c_le, Rk.c_gt, Rk.c_ge, Rk.c_eq, Rk.c_ne, Rk.c_isN, Rk.c_isI, Rk.c_seq, Rk.c_sne, Rk.t_non, Rk.t_bl, Rk.t_int, Rk.iw_int, Rk.bt_bl, Rk.b_int, Rk.b_intb, Rk.b_abs, Rk.b_lent, Rk.b_lenr, Rk.b_lenl, Rk.b_tup, Rk.b_list, Rk.b_all, Rk.b_any, Rk.b_sum, Rk.bls_nil, Rk.bls_cons, Rk.ints_nil, Rk.ints_cons, Rk.b_min1, Rk.b_max1, Rk.b_min2, Rk.b_max2, Rk.m_loc, Rk.m_sl, Rk.p_nil, Rk.p_cons, Rk.set_s, Rk.esc_l, Rk.isI_int, Rk.isI_bool, Rk.isI_tup, List.cons_append, List.nil_append, List.append_nil, List.getElem?_cons_zero, List.getElem?_cons_succ, List.set_cons_zero, List.set_cons_succ, List.length_cons, List.length_nil, List.map_nil, List.map_cons, Option.bind_some, Option.bind_none, Option.map_some, Option.map_none, Option.isSome_some, id_eq, true_and, and_true, decide_eq_true_eq, List.replicate_succ, List.replicate_zero, Nat.reduceAdd, Nat.reduceSub, Int.reduceMul, Int.reduceAdd, Int.reduceSub, Int.reduceNeg, if_true, if_false, Bool.true_eq_false, Bool.false_eq_true, reduceIte]
  refine c_check_cell ?_
  refine hk _ ?_; clear hk k
  refine w_stp fun k hk => ?_; try simp only [Rk.sat_ok, Rk.osat_some, Rk.osat_none, Rk.osat_ite, Rk.osat_map, Rk.osat_bind, Rk.w_var, Rk.w_con, Rk.w_bin, Rk.w_cmp, Rk.w_ix, Rk.w_bi, Rk.w_es0, Rk.w_es, Rk.w_ts0, Rk.w_ts, Rk.w_ws0, Rk.w_ws, Rk.w_W, Rk.w_T, Rk.w_esc, Rk.w_givw, Rk.w_givl, Rk.w_tup, Rk.w_lst, Rk.w_call, Rk.w_callK, Rk.w_un, Rk.w_not, Rk.w_and, Rk.w_or, Rk.w_ifx, Rk.w_sl, Rk.w_no, Rk.w_so, Rk.w_asb, Rk.w_tru, Rk.w_bnot, Rk.w_band, Rk.w_bor, Rk.w_yes, Rk.w_skip, Rk.w_expr, Rk.w_set, Rk.w_ret, Rk.w_retN, Rk.w_if, Rk.w_asg, Rk.w_par, Rk.w_gnm, Rk.w_gsb, Rk.w_mt, Rk.w_ext, Rk.w_gtp, Rk.w_gsc, Rk.w_gsn, Rk.w_escs, Rk.w_givs, Rk.slQ_l, Rk.slQ_w, Rk.backT, Option.getD_some, Option.getD_none, Rk.get_w, Rk.get_l, Rk.get_sl, Rk.seq_tup, Rk.seq_rol, Rk.seq_l, Rk.seq_loc, Rk.seq_sl, Rk.lst_rol, Rk.lst_l, Rk.lst_loc, Rk.lst_sl, Rk.lst_tup, Rk.ix_int, Rk.ix_some, Rk.seqT_l, Rk.seqT_tup, Rk.seqT_rol, Rk.seqT_loc, Rk.lstT_l, Rk.lstT_rol, Rk.lstT_loc, Rk.at_0, Rk.at_1, Rk.at_2, Rk.at_3, Rk.at_4, Rk.at_5, Rk.bin_int, Rk.i_add, Rk.i_sub, Rk.i_mul, Rk.i_div, Rk.i_mod, Rk.i_pow, Rk.u_neg, Rk.c_lt, Rk.c_le, Rk.c_gt, Rk.c_ge, Rk.c_eq, Rk.c_ne, Rk.c_isN, Rk.c_isI, Rk.c_seq, Rk.c_sne, Rk.t_non, Rk.t_bl, Rk.t_int, Rk.iw_int, Rk.bt_bl, Rk.b_int, Rk.b_intb, Rk.b_abs, Rk.b_lent, Rk.b_lenr, Rk.b_lenl, Rk.b_tup, Rk.b_list, Rk.b_all, Rk.b_any, Rk.b_sum, Rk.bls_nil, Rk.bls_cons, Rk.ints_nil, Rk.ints_cons, Rk.b_min1, Rk.b_max1, Rk.b_min2, Rk.b_max2, Rk.m_loc, Rk.m_sl, Rk.p_nil, Rk.p_cons, Rk.set_s, Rk.esc_l, Rk.isI_int, Rk.isI_bool, Rk.isI_tup, List.cons_append, List.nil_append, List.append_nil, List.getElem?_cons_zero, List.getElem?_cons_succ, List.set_cons_zero, List.set_cons_succ, List.length_cons, List.length_nil, List.map_nil, List.map_cons, Option.bind_some, Option.bind_none, Option.map_some, Option.map_none, Option.isSome_some, id_eq, true_and, and_true, decide_eq_true_eq, List.replicate_succ, List.replicate_zero, Nat.reduceAdd, Nat.reduceSub, Int.reduceMul, Int.reduceAdd, Int.reduceSub, Int.reduceNeg, if_true, if_false, Bool.true_eq_false, Bool.false_eq_true, reduceIte]
  refine c_check_cell ?_
  refine hk _ ?_; clear hk k
  rw [w_seq]
  try simp only [Rk.sat_ok, Rk.osat_some, Rk.osat_none, Rk.osat_ite, Rk.osat_map, Rk.osat_bind, Rk.w_var, Rk.w_con, Rk.w_bin, Rk.w_cmp, Rk.w_ix, Rk.w_bi, Rk.w_es0, Rk.w_es, Rk.w_ts0, Rk.w_ts, Rk.w_ws0, Rk.w_ws, Rk.w_W, Rk.w_T, Rk.w_esc, Rk.w_givw, Rk.w_givl, Rk.w_tup, Rk.w_lst, Rk.w_call, Rk.w_callK, Rk.w_un, Rk.w_not, Rk.w_and, Rk.w_or, Rk.w_ifx, Rk.w_sl, Rk.w_no, Rk.w_so, Rk.w_asb, Rk.w_tru, Rk.w_bnot, Rk.w_band, Rk.w_bor, Rk.w_yes, Rk.w_skip, Rk.w_expr, Rk.w_set, Rk.w_ret, Rk.w_retN, Rk.w_if, Rk.w_asg, Rk.w_par, Rk.w_gnm, Rk.w_gsb, Rk.w_mt, Rk.w_ext, Rk.w_gtp, Rk.w_gsc, Rk.w_gsn, Rk.w_escs, Rk.w_givs, Rk.slQ_l, Rk.slQ_w, Rk.backT, Option.getD_some, Option.getD_none, Rk.get_w, Rk.get_l, Rk.get_sl, Rk.seq_tup, Rk.seq_rol, Rk.seq_l, Rk.seq_loc, Rk.seq_sl, Rk.lst_rol, Rk.lst_l, Rk.lst_loc, Rk.lst_sl, Rk.lst_tup, Rk.ix_int, Rk.ix_some, Rk.seqT_l, Rk.seqT_tup, Rk.seqT_rol, Rk.seqT_loc, Rk.lstT_l, Rk.lstT_rol, Rk.lstT_loc, Rk.at_0, Rk.at_1, Rk.at_2, Rk.at_3, Rk.at_4, Rk.at_5, Rk.bin_int, Rk.i_add, Rk.i_sub, Rk.i_mul, Rk.i_div, Rk.i_mod, Rk.i_pow, Rk.u_neg, Rk.c_lt, Rk.c_le, Rk.c_gt, Rk.c_ge, Rk.c_eq, Rk.c_ne, Rk.c_isN, Rk.c_isI, Rk.c_seq, Rk.c_sne, Rk.t_non, Rk.t_bl, Rk.t_int, Rk.iw_int, Rk.bt_bl, Rk.b_int, Rk.b_intb, Rk.b_abs, Rk.b_lent, Rk.b_lenr, Rk.b_lenl, Rk.b_tup, Rk.b_list, Rk.b_all, Rk.b_any, Rk.b_sum, Rk.bls_nil, Rk.bls_cons, Rk.ints_nil, Rk.ints_cons, Rk.b_min1, Rk.b_max1, Rk.b_min2, Rk.b_max2, Rk.m_loc, Rk.m_sl, Rk.p_nil, Rk.p_cons, Rk.set_s, Rk.esc_l, Rk.isI_int, Rk.isI_bool, Rk.isI_tup, List.cons_append, List.nil_append, List.append_nil, List.getElem?_cons_zero, List.getElem?_cons_succ, List.set_cons_zero, List.set_cons_succ, List.length_cons, List.length_nil, List.map_nil, List.map_cons, Option.bind_some, Option.bind_none, Option.map_some, Option.map_none, Option.isSome_some, id_eq, true_and, and_true, decide_eq_true_eq, List.replicate_succ, List.replicate_zero, Nat.reduceAdd, Nat.reduceSub, Int.reduceMul, Int.reduceAdd, Int.reduceSub, Int.reduceNeg, if_true, if_false, Bool.true_eq_false, Bool.false_eq_true, reduceIte]
  exact c_are_touching h
theorem tou_self {a b c : Int} : tou a b c a b c = false := by simp [tou, rim]
/-- all but the pot's own object is as it was -/
theorem c_law_of {k : Int} {i : Nat} {xs : List W} (hp : Pot M i k) (hk : k < 900000) (hx : 0 < xs.length) (hx2 : xs.length < 100000) (h : ∀ (u : W) (o : Ob), u ∈ xs → Pot (M.set i o) i (k + 1) → R (.w u) (M.set i o)) : ((ob (n + 2)).fn 13 [.w (.loc i), .lst xs] M).sat R := by
  rw [r13, w_run]; unfold d13; rw [w_seq]
  try simp only [Rk.sat_ok, Rk.osat_some, Rk.osat_none, Rk.osat_ite, Rk.osat_map, Rk.osat_bind, Rk.w_var, Rk.w_con, Rk.w_bin, Rk.w_cmp, Rk.w_ix, Rk.w_bi, Rk.w_es0, Rk.w_es, Rk.w_ts0, Rk.w_ts, Rk.w_ws0, Rk.w_ws, Rk.w_W, Rk.w_T, Rk.w_esc, Rk.w_givw, Rk.w_givl, Rk.w_tup, Rk.w_lst, Rk.w_call, Rk.w_callK, Rk.w_un, Rk.w_not, Rk.w_and, Rk.w_or, Rk.w_ifx, Rk.w_sl, Rk.w_no, Rk.w_so, Rk.w_asb, Rk.w_tru, Rk.w_bnot, Rk.w_band, Rk.w_bor, Rk.w_yes, Rk.w_skip, Rk.w_expr, Rk.w_set, Rk.w_ret, Rk.w_retN, Rk.w_if, Rk.w_asg, Rk.w_par, Rk.w_gnm, Rk.w_gsb, Rk.w_mt, Rk.w_ext, Rk.w_gtp, Rk.w_gsc, Rk.w_gsn, Rk.w_escs, Rk.w_givs, Rk.slQ_l, Rk.slQ_w, Rk.backT, Option.getD_some, Option.getD_none, Rk.get_w, Rk.get_l, Rk.get_sl, Rk.seq_tup, Rk.seq_rol, Rk.seq_l, Rk.seq_loc, Rk.seq_sl, Rk.lst_rol, Rk.lst_l, Rk.lst_loc, Rk.lst_sl, Rk.lst_tup, Rk.ix_int, Rk.ix_some, Rk.seqT_l, Rk.seqT_tup, Rk.seqT_rol, Rk.seqT_loc, Rk.lstT_l, Rk.lstT_rol, Rk.lstT_loc, Rk.at_0, Rk.at_1, Rk.at_2, Rk.at_3, Rk.at_4, Rk.at_5, Rk.bin_int, Rk.i_add, Rk.i_sub, Rk.i_mul, Rk.i_div, Rk.i_mod, Rk.i_pow, Rk.u_neg, Rk.c_lt, Rk.c_le, Rk.c_gt, Rk.c_ge, Rk.c_eq, Rk.c_ne, Rk.c_isN, Rk.c_isI, Rk.c_seq, Rk.c_sne, Rk.t_non, Rk.t_bl, Rk.t_int, Rk.iw_int, Rk.bt_bl, Rk.b_int, Rk.b_intb, Rk.b_abs, Rk.b_lent, Rk.b_lenr, Rk.b_lenl, Rk.b_tup, Rk.b_list, Rk.b_all, Rk.b_any, Rk.b_sum, Rk.bls_nil, Rk.bls_cons, Rk.ints_nil, Rk.ints_cons, Rk.b_min1, Rk.b_max1, Rk.b_min2, Rk.b_max2, Rk.m_loc, Rk.m_sl, Rk.p_nil, Rk.p_cons, Rk.set_s, Rk.esc_l, Rk.isI_int, Rk.isI_bool, Rk.isI_tup, List.cons_append, List.nil_append, List.append_nil, List.getElem?_cons_zero, List.getElem?_cons_succ, List.set_cons_zero, List.set_cons_succ, List.length_cons, List.length_nil, List.map_nil, List.map_cons, Option.bind_some, Option.bind_none, Option.map_some, Option.map_none, Option.isSome_some, id_eq, true_and, and_true, decide_eq_true_eq, List.replicate_succ, List.replicate_zero, Nat.reduceAdd, Nat.reduceSub, Int.reduceMul, Int.reduceAdd, Int.reduceSub, Int.reduceNeg, if_true, if_false, Bool.true_eq_false, Bool.false_eq_true, reduceIte]
  rw [b_lens (xs := xs) rfl]
  try simp only [Rk.sat_ok, Rk.osat_some, Rk.osat_none, Rk.osat_ite, Rk.osat_map, Rk.osat_bind, Rk.w_var, Rk.w_con, Rk.w_bin, Rk.w_cmp, Rk.w_ix, Rk.w_bi, Rk.w_es0, Rk.w_es, Rk.w_ts0, Rk.w_ts, Rk.w_ws0, Rk.w_ws, Rk.w_W, Rk.w_T, Rk.w_esc, Rk.w_givw, Rk.w_givl, Rk.w_tup, Rk.w_lst, Rk.w_call, Rk.w_callK, Rk.w_un, Rk.w_not, Rk.w_and, Rk.w_or, Rk.w_ifx, Rk.w_sl, Rk.w_no, Rk.w_so, Rk.w_asb, Rk.w_tru, Rk.w_bnot, Rk.w_band, Rk.w_bor, Rk.w_yes, Rk.w_skip, Rk.w_expr, Rk.w_set, Rk.w_ret, Rk.w_retN, Rk.w_if, Rk.w_asg, Rk.w_par, Rk.w_gnm, Rk.w_gsb, Rk.w_mt, Rk.w_ext, Rk.w_gtp, Rk.w_gsc, Rk.w_gsn, Rk.w_escs, Rk.w_givs, Rk.slQ_l, Rk.slQ_w, Rk.backT, Option.getD_some, Option.getD_none, Rk.get_w, Rk.get_l, Rk.get_sl, Rk.seq_tup, Rk.seq_rol, Rk.seq_l, Rk.seq_loc, Rk.seq_sl, Rk.lst_rol, Rk.lst_l, Rk.lst_loc, Rk.lst_sl, Rk.lst_tup, Rk.ix_int, Rk.ix_some, Rk.seqT_l, Rk.seqT_tup, Rk.seqT_rol, Rk.seqT_loc, Rk.lstT_l, Rk.lstT_rol, Rk.lstT_loc, Rk.at_0, Rk.at_1, Rk.at_2, Rk.at_3, Rk.at_4, Rk.at_5, Rk.bin_int, Rk.i_add, Rk.i_sub, Rk.i_mul, Rk.i_div, Rk.i_mod, Rk.i_pow, Rk.u_neg, Rk.c_lt, Rk.c_le, Rk.c_gt, Rk.c_ge, Rk.c_eq, Rk.c_ne, Rk.c_isN, Rk.c_isI, Rk.c_seq, Rk.c_sne, Rk.t_non, Rk.t_bl, Rk.t_int, Rk.iw_int, Rk.bt_bl, Rk.b_int, Rk.b_intb, Rk.b_abs, Rk.b_lent, Rk.b_lenr, Rk.b_lenl, Rk.b_tup, Rk.b_list, Rk.b_all, Rk.b_any, Rk.b_sum, Rk.bls_nil, Rk.bls_cons, Rk.ints_nil, Rk.ints_cons, Rk.b_min1, Rk.b_max1, Rk.b_min2, Rk.b_max2, Rk.m_loc, Rk.m_sl, Rk.p_nil, Rk.p_cons, Rk.set_s, Rk.esc_l, Rk.isI_int, Rk.isI_bool, Rk.isI_tup, List.cons_append, List.nil_append, List.append_nil, List.getElem?_cons_zero, List.getElem?_cons_succ, List.set_cons_zero, List.set_cons_succ, List.length_cons, List.length_nil, List.map_nil, List.map_cons, Option.bind_some, Option.bind_none, Option.map_some, Option.map_none, Option.isSome_some, id_eq, true_and, and_true, decide_eq_true_eq, List.replicate_succ, List.replicate_zero, Nat.reduceAdd, Nat.reduceSub, Int.reduceMul, Int.reduceAdd, Int.reduceSub, Int.reduceNeg, if_true, if_false, Bool.true_eq_false, Bool.false_eq_true, reduceIte]
  refine c_law_take hp (by omega) (by omega) (by omega) fun r o h1 h2 hp2 => ?_
  try simp only [Rk.sat_ok, Rk.osat_some, Rk.osat_none, Rk.osat_ite, Rk.osat_map, Rk.osat_bind, Rk.w_var, Rk.w_con, Rk.w_bin, Rk.w_cmp, Rk.w_ix, Rk.w_bi, Rk.w_es0, Rk.w_es, Rk.w_ts0, Rk.w_ts, Rk.w_ws0, Rk.w_ws, Rk.w_W, Rk.w_T, Rk.w_esc, Rk.w_givw, Rk.w_givl, Rk.w_tup, Rk.w_lst, Rk.w_call, Rk.w_callK, Rk.w_un, Rk.w_not, Rk.w_and, Rk.w_or, Rk.w_ifx, Rk.w_sl, Rk.w_no, Rk.w_so, Rk.w_asb, Rk.w_tru, Rk.w_bnot, Rk.w_band, Rk.w_bor, Rk.w_yes, Rk.w_skip, Rk.w_expr, Rk.w_set, Rk.w_ret, Rk.w_retN, Rk.w_if, Rk.w_asg, Rk.w_par, Rk.w_gnm, Rk.w_gsb, Rk.w_mt, Rk.w_ext, Rk.w_gtp, Rk.w_gsc, Rk.w_gsn, Rk.w_escs, Rk.w_givs, Rk.slQ_l, Rk.slQ_w, Rk.backT, Option.getD_some, Option.getD_none, Rk.get_w, Rk.get_l, Rk.get_sl, Rk.seq_tup, Rk.seq_rol, Rk.seq_l, Rk.seq_loc, Rk.seq_sl, Rk.lst_rol, Rk.lst_l, Rk.lst_loc, Rk.lst_sl, Rk.lst_tup, Rk.ix_int, Rk.ix_some, Rk.seqT_l, Rk.seqT_tup, Rk.seqT_rol, Rk.seqT_loc, Rk.lstT_l, Rk.lstT_rol, Rk.lstT_loc, Rk.at_0, Rk.at_1, Rk.at_2, Rk.at_3, Rk.at_4, Rk.at_5, Rk.bin_int, Rk.i_add, Rk.i_sub, Rk.i_mul, Rk.i_div, Rk.i_mod, Rk.i_pow, Rk.u_neg, Rk.c_lt, Rk.c_le, Rk.c_gt, Rk.c_ge, Rk.c_eq, Rk.c_ne, Rk.c_isN, Rk.c_isI, Rk.c_seq, Rk.c_sne, Rk.t_non, Rk.t_bl, Rk.t_int, Rk.iw_int, Rk.bt_bl, Rk.b_int, Rk.b_intb, Rk.b_abs, Rk.b_lent, Rk.b_lenr, Rk.b_lenl, Rk.b_tup, Rk.b_list, Rk.b_all, Rk.b_any, Rk.b_sum, Rk.bls_nil, Rk.bls_cons, Rk.ints_nil, Rk.ints_cons, Rk.b_min1, Rk.b_max1, Rk.b_min2, Rk.b_max2, Rk.m_loc, Rk.m_sl, Rk.p_nil, Rk.p_cons, Rk.set_s, Rk.esc_l, Rk.isI_int, Rk.isI_bool, Rk.isI_tup, List.cons_append, List.nil_append, List.append_nil, List.getElem?_cons_zero, List.getElem?_cons_succ, List.set_cons_zero, List.set_cons_succ, List.length_cons, List.length_nil, List.map_nil, List.map_cons, Option.bind_some, Option.bind_none, Option.map_some, Option.map_none, Option.isSome_some, id_eq, true_and, and_true, decide_eq_true_eq, List.replicate_succ, List.replicate_zero, Nat.reduceAdd, Nat.reduceSub, Int.reduceMul, Int.reduceAdd, Int.reduceSub, Int.reduceNeg, if_true, if_false, Bool.true_eq_false, Bool.false_eq_true, reduceIte]
  have e1 : ∃ m : Nat, r = m := ⟨r.toNat, by omega⟩
  obtain ⟨m, rfl⟩ := e1
  rw [at_nat, List.getElem?_eq_getElem (by omega)]
  try simp only [Rk.sat_ok, Rk.osat_some, Rk.osat_none, Rk.osat_ite, Rk.osat_map, Rk.osat_bind, Rk.w_var, Rk.w_con, Rk.w_bin, Rk.w_cmp, Rk.w_ix, Rk.w_bi, Rk.w_es0, Rk.w_es, Rk.w_ts0, Rk.w_ts, Rk.w_ws0, Rk.w_ws, Rk.w_W, Rk.w_T, Rk.w_esc, Rk.w_givw, Rk.w_givl, Rk.w_tup, Rk.w_lst, Rk.w_call, Rk.w_callK, Rk.w_un, Rk.w_not, Rk.w_and, Rk.w_or, Rk.w_ifx, Rk.w_sl, Rk.w_no, Rk.w_so, Rk.w_asb, Rk.w_tru, Rk.w_bnot, Rk.w_band, Rk.w_bor, Rk.w_yes, Rk.w_skip, Rk.w_expr, Rk.w_set, Rk.w_ret, Rk.w_retN, Rk.w_if, Rk.w_asg, Rk.w_par, Rk.w_gnm, Rk.w_gsb, Rk.w_mt, Rk.w_ext, Rk.w_gtp, Rk.w_gsc, Rk.w_gsn, Rk.w_escs, Rk.w_givs, Rk.slQ_l, Rk.slQ_w, Rk.backT, Option.getD_some, Option.getD_none, Rk.get_w, Rk.get_l, Rk.get_sl, Rk.seq_tup, Rk.seq_rol, Rk.seq_l, Rk.seq_loc, Rk.seq_sl, Rk.lst_rol, Rk.lst_l, Rk.lst_loc, Rk.lst_sl, Rk.lst_tup, Rk.ix_int, Rk.ix_some, Rk.seqT_l, Rk.seqT_tup, Rk.seqT_rol, Rk.seqT_loc, Rk.lstT_l, Rk.lstT_rol, Rk.lstT_loc, Rk.at_0, Rk.at_1, Rk.at_2, Rk.at_3, Rk.at_4, Rk.at_5, Rk.bin_int, Rk.i_add, Rk.i_sub, Rk.i_mul, Rk.i_div, Rk.i_mod, Rk.i_pow, Rk.u_neg, Rk.c_lt, Rk.c_le, Rk.c_gt, Rk.c_ge, Rk.c_eq, Rk.c_ne, Rk.c_isN, Rk.c_isI, Rk.c_seq, Rk.c_sne, Rk.t_non, Rk.t_bl, Rk.t_int, Rk.iw_int, Rk.bt_bl, Rk.b_int, Rk.b_intb, Rk.b_abs, Rk.b_lent, Rk.b_lenr, Rk.b_lenl, Rk.b_tup, Rk.b_list, Rk.b_all, Rk.b_any, Rk.b_sum, Rk.bls_nil, Rk.bls_cons, Rk.ints_nil, Rk.ints_cons, Rk.b_min1, Rk.b_max1, Rk.b_min2, Rk.b_max2, Rk.m_loc, Rk.m_sl, Rk.p_nil, Rk.p_cons, Rk.set_s, Rk.esc_l, Rk.isI_int, Rk.isI_bool, Rk.isI_tup, List.cons_append, List.nil_append, List.append_nil, List.getElem?_cons_zero, List.getElem?_cons_succ, List.set_cons_zero, List.set_cons_succ, List.length_cons, List.length_nil, List.map_nil, List.map_cons, Option.bind_some, Option.bind_none, Option.map_some, Option.map_none, Option.isSome_some, id_eq, true_and, and_true, decide_eq_true_eq, List.replicate_succ, List.replicate_zero, Nat.reduceAdd, Nat.reduceSub, Int.reduceMul, Int.reduceAdd, Int.reduceSub, Int.reduceNeg, if_true, if_false, Bool.true_eq_false, Bool.false_eq_true, reduceIte]
  exact h _ o (List.getElem_mem _) hp2
theorem c_law_of_at {k : Int} {i j : Nat} {xs : List W} (hp : Pot M i k) (hk : k < 900000) (hj : M[j]? = some (.lst xs)) (hij : i ≠ j) (hx : 0 < xs.length) (hx2 : xs.length < 100000) (h : ∀ (u : W) (o : Ob), u ∈ xs → Pot (M.set i o) i (k + 1) → R (.w u) (M.set i o)) : ((ob (n + 2)).fn 13 [.w (.loc i), .w (.loc j)] M).sat R := by
  rw [r13, w_run]; unfold d13; rw [w_seq]
  try simp only [Rk.sat_ok, Rk.osat_some, Rk.osat_none, Rk.osat_ite, Rk.osat_map, Rk.osat_bind, Rk.w_var, Rk.w_con, Rk.w_bin, Rk.w_cmp, Rk.w_ix, Rk.w_bi, Rk.w_es0, Rk.w_es, Rk.w_ts0, Rk.w_ts, Rk.w_ws0, Rk.w_ws, Rk.w_W, Rk.w_T, Rk.w_esc, Rk.w_givw, Rk.w_givl, Rk.w_tup, Rk.w_lst, Rk.w_call, Rk.w_callK, Rk.w_un, Rk.w_not, Rk.w_and, Rk.w_or, Rk.w_ifx, Rk.w_sl, Rk.w_no, Rk.w_so, Rk.w_asb, Rk.w_tru, Rk.w_bnot, Rk.w_band, Rk.w_bor, Rk.w_yes, Rk.w_skip, Rk.w_expr, Rk.w_set, Rk.w_ret, Rk.w_retN, Rk.w_if, Rk.w_asg, Rk.w_par, Rk.w_gnm, Rk.w_gsb, Rk.w_mt, Rk.w_ext, Rk.w_gtp, Rk.w_gsc, Rk.w_gsn, Rk.w_escs, Rk.w_givs, Rk.slQ_l, Rk.slQ_w, Rk.backT, Option.getD_some, Option.getD_none, Rk.get_w, Rk.get_l, Rk.get_sl, Rk.seq_tup, Rk.seq_rol, Rk.seq_l, Rk.seq_loc, Rk.seq_sl, Rk.lst_rol, Rk.lst_l, Rk.lst_loc, Rk.lst_sl, Rk.lst_tup, Rk.ix_int, Rk.ix_some, Rk.seqT_l, Rk.seqT_tup, Rk.seqT_rol, Rk.seqT_loc, Rk.lstT_l, Rk.lstT_rol, Rk.lstT_loc, Rk.at_0, Rk.at_1, Rk.at_2, Rk.at_3, Rk.at_4, Rk.at_5, Rk.bin_int, Rk.i_add, Rk.i_sub, Rk.i_mul, Rk.i_div, Rk.i_mod, Rk.i_pow, Rk.u_neg, Rk.c_lt, Rk.c_le, Rk.c_gt, Rk.c_ge, Rk.c_eq, Rk.c_ne, Rk.c_isN, Rk.c_isI, Rk.c_seq, Rk.c_sne, Rk.t_non, Rk.t_bl, Rk.t_int, Rk.iw_int, Rk.bt_bl, Rk.b_int, Rk.b_intb, Rk.b_abs, Rk.b_lent, Rk.b_lenr, Rk.b_lenl, Rk.b_tup, Rk.b_list, Rk.b_all, Rk.b_any, Rk.b_sum, Rk.bls_nil, Rk.bls_cons, Rk.ints_nil, Rk.ints_cons, Rk.b_min1, Rk.b_max1, Rk.b_min2, Rk.b_max2, Rk.m_loc, Rk.m_sl, Rk.p_nil, Rk.p_cons, Rk.set_s, Rk.esc_l, Rk.isI_int, Rk.isI_bool, Rk.isI_tup, List.cons_append, List.nil_append, List.append_nil, List.getElem?_cons_zero, List.getElem?_cons_succ, List.set_cons_zero, List.set_cons_succ, List.length_cons, List.length_nil, List.map_nil, List.map_cons, Option.bind_some, Option.bind_none, Option.map_some, Option.map_none, Option.isSome_some, id_eq, true_and, and_true, decide_eq_true_eq, List.replicate_succ, List.replicate_zero, Nat.reduceAdd, Nat.reduceSub, Int.reduceMul, Int.reduceAdd, Int.reduceSub, Int.reduceNeg, if_true, if_false, Bool.true_eq_false, Bool.false_eq_true, reduceIte]
  have e : bLen ⟨[some (.w (.loc i)), some (.w (.loc j))], M⟩ [.w (.loc j)] = some (.w (.int xs.length)) := b_len (by rw [seq_loc, hj]) fun z e => by cases e
  rw [e]
  try simp only [Rk.sat_ok, Rk.osat_some, Rk.osat_none, Rk.osat_ite, Rk.osat_map, Rk.osat_bind, Rk.w_var, Rk.w_con, Rk.w_bin, Rk.w_cmp, Rk.w_ix, Rk.w_bi, Rk.w_es0, Rk.w_es, Rk.w_ts0, Rk.w_ts, Rk.w_ws0, Rk.w_ws, Rk.w_W, Rk.w_T, Rk.w_esc, Rk.w_givw, Rk.w_givl, Rk.w_tup, Rk.w_lst, Rk.w_call, Rk.w_callK, Rk.w_un, Rk.w_not, Rk.w_and, Rk.w_or, Rk.w_ifx, Rk.w_sl, Rk.w_no, Rk.w_so, Rk.w_asb, Rk.w_tru, Rk.w_bnot, Rk.w_band, Rk.w_bor, Rk.w_yes, Rk.w_skip, Rk.w_expr, Rk.w_set, Rk.w_ret, Rk.w_retN, Rk.w_if, Rk.w_asg, Rk.w_par, Rk.w_gnm, Rk.w_gsb, Rk.w_mt, Rk.w_ext, Rk.w_gtp, Rk.w_gsc, Rk.w_gsn, Rk.w_escs, Rk.w_givs, Rk.slQ_l, Rk.slQ_w, Rk.backT, Option.getD_some, Option.getD_none, Rk.get_w, Rk.get_l, Rk.get_sl, Rk.seq_tup, Rk.seq_rol, Rk.seq_l, Rk.seq_loc, Rk.seq_sl, Rk.lst_rol, Rk.lst_l, Rk.lst_loc, Rk.lst_sl, Rk.lst_tup, Rk.ix_int, Rk.ix_some, Rk.seqT_l, Rk.seqT_tup, Rk.seqT_rol, Rk.seqT_loc, Rk.lstT_l, Rk.lstT_rol, Rk.lstT_loc, Rk.at_0, Rk.at_1, Rk.at_2, Rk.at_3, Rk.at_4, Rk.at_5, Rk.bin_int, Rk.i_add, Rk.i_sub, Rk.i_mul, Rk.i_div, Rk.i_mod, Rk.i_pow, Rk.u_neg, Rk.c_lt, Rk.c_le, Rk.c_gt, Rk.c_ge, Rk.c_eq, Rk.c_ne, Rk.c_isN, Rk.c_isI, Rk.c_seq, Rk.c_sne, Rk.t_non, Rk.t_bl, Rk.t_int, Rk.iw_int, Rk.bt_bl, Rk.b_int, Rk.b_intb, Rk.b_abs, Rk.b_lent, Rk.b_lenr, Rk.b_lenl, Rk.b_tup, Rk.b_list, Rk.b_all, Rk.b_any, Rk.b_sum, Rk.bls_nil, Rk.bls_cons, Rk.ints_nil, Rk.ints_cons, Rk.b_min1, Rk.b_max1, Rk.b_min2, Rk.b_max2, Rk.m_loc, Rk.m_sl, Rk.p_nil, Rk.p_cons, Rk.set_s, Rk.esc_l, Rk.isI_int, Rk.isI_bool, Rk.isI_tup, List.cons_append, List.nil_append, List.append_nil, List.getElem?_cons_zero, List.getElem?_cons_succ, List.set_cons_zero, List.set_cons_succ, List.length_cons, List.length_nil, List.map_nil, List.map_cons, Option.bind_some, Option.bind_none, Option.map_some, Option.map_none, Option.isSome_some, id_eq, true_and, and_true, decide_eq_true_eq, List.replicate_succ, List.replicate_zero, Nat.reduceAdd, Nat.reduceSub, Int.reduceMul, Int.reduceAdd, Int.reduceSub, Int.reduceNeg, if_true, if_false, Bool.true_eq_false, Bool.false_eq_true, reduceIte]
  refine c_law_take hp (by omega) (by omega) (by omega) fun r o h1 h2 hp2 => ?_
  have hj2 : (M.set i o)[j]? = some (.lst xs) := by rw [List.getElem?_set_ne hij]; exact hj
  try simp only [Rk.sat_ok, Rk.osat_some, Rk.osat_none, Rk.osat_ite, Rk.osat_map, Rk.osat_bind, Rk.w_var, Rk.w_con, Rk.w_bin, Rk.w_cmp, Rk.w_ix, Rk.w_bi, Rk.w_es0, Rk.w_es, Rk.w_ts0, Rk.w_ts, Rk.w_ws0, Rk.w_ws, Rk.w_W, Rk.w_T, Rk.w_esc, Rk.w_givw, Rk.w_givl, Rk.w_tup, Rk.w_lst, Rk.w_call, Rk.w_callK, Rk.w_un, Rk.w_not, Rk.w_and, Rk.w_or, Rk.w_ifx, Rk.w_sl, Rk.w_no, Rk.w_so, Rk.w_asb, Rk.w_tru, Rk.w_bnot, Rk.w_band, Rk.w_bor, Rk.w_yes, Rk.w_skip, Rk.w_expr, Rk.w_set, Rk.w_ret, Rk.w_retN, Rk.w_if, Rk.w_asg, Rk.w_par, Rk.w_gnm, Rk.w_gsb, Rk.w_mt, Rk.w_ext, Rk.w_gtp, Rk.w_gsc, Rk.w_gsn, Rk.w_escs, Rk.w_givs, Rk.slQ_l, Rk.slQ_w, Rk.backT, Option.getD_some, Option.getD_none, Rk.get_w, Rk.get_l, Rk.get_sl, Rk.seq_tup, Rk.seq_rol, Rk.seq_l, Rk.seq_loc, Rk.seq_sl, Rk.lst_rol, Rk.lst_l, Rk.lst_loc, Rk.lst_sl, Rk.lst_tup, Rk.ix_int, Rk.ix_some, Rk.seqT_l, Rk.seqT_tup, Rk.seqT_rol, Rk.seqT_loc, Rk.lstT_l, Rk.lstT_rol, Rk.lstT_loc, Rk.at_0, Rk.at_1, Rk.at_2, Rk.at_3, Rk.at_4, Rk.at_5, Rk.bin_int, Rk.i_add, Rk.i_sub, Rk.i_mul, Rk.i_div, Rk.i_mod, Rk.i_pow, Rk.u_neg, Rk.c_lt, Rk.c_le, Rk.c_gt, Rk.c_ge, Rk.c_eq, Rk.c_ne, Rk.c_isN, Rk.c_isI, Rk.c_seq, Rk.c_sne, Rk.t_non, Rk.t_bl, Rk.t_int, Rk.iw_int, Rk.bt_bl, Rk.b_int, Rk.b_intb, Rk.b_abs, Rk.b_lent, Rk.b_lenr, Rk.b_lenl, Rk.b_tup, Rk.b_list, Rk.b_all, Rk.b_any, Rk.b_sum, Rk.bls_nil, Rk.bls_cons, Rk.ints_nil, Rk.ints_cons, Rk.b_min1, Rk.b_max1, Rk.b_min2, Rk.b_max2, Rk.m_loc, Rk.m_sl, Rk.p_nil, Rk.p_cons, Rk.set_s, Rk.esc_l, Rk.isI_int, Rk.isI_bool, Rk.isI_tup, List.cons_append, List.nil_append, List.append_nil, List.getElem?_cons_zero, List.getElem?_cons_succ, List.set_cons_zero, List.set_cons_succ, List.length_cons, List.length_nil, List.map_nil, List.map_cons, Option.bind_some, Option.bind_none, Option.map_some, Option.map_none, Option.isSome_some, id_eq, true_and, and_true, decide_eq_true_eq, List.replicate_succ, List.replicate_zero, Nat.reduceAdd, Nat.reduceSub, Int.reduceMul, Int.reduceAdd, Int.reduceSub, Int.reduceNeg, if_true, if_false, Bool.true_eq_false, Bool.false_eq_true, reduceIte, hj2]
  have e1 : ∃ m : Nat, r = m := ⟨r.toNat, by omega⟩
  obtain ⟨m, rfl⟩ := e1
  rw [at_nat, List.getElem?_eq_getElem (by omega)]
  try simp only [Rk.sat_ok, Rk.osat_some, Rk.osat_none, Rk.osat_ite, Rk.osat_map, Rk.osat_bind, Rk.w_var, Rk.w_con, Rk.w_bin, Rk.w_cmp, Rk.w_ix, Rk.w_bi, Rk.w_es0, Rk.w_es, Rk.w_ts0, Rk.w_ts, Rk.w_ws0, Rk.w_ws, Rk.w_W, Rk.w_T, Rk.w_esc, Rk.w_givw, Rk.w_givl, Rk.w_tup, Rk.w_lst, Rk.w_call, Rk.w_callK, Rk.w_un, Rk.w_not, Rk.w_and, Rk.w_or, Rk.w_ifx, Rk.w_sl, Rk.w_no, Rk.w_so, Rk.w_asb, Rk.w_tru, Rk.w_bnot, Rk.w_band, Rk.w_bor, Rk.w_yes, Rk.w_skip, Rk.w_expr, Rk.w_set, Rk.w_ret, Rk.w_retN, Rk.w_if, Rk.w_asg, Rk.w_par, Rk.w_gnm, Rk.w_gsb, Rk.w_mt, Rk.w_ext, Rk.w_gtp, Rk.w_gsc, Rk.w_gsn, Rk.w_escs, Rk.w_givs, Rk.slQ_l, Rk.slQ_w, Rk.backT, Option.getD_some, Option.getD_none, Rk.get_w, Rk.get_l, Rk.get_sl, Rk.seq_tup, Rk.seq_rol, Rk.seq_l, Rk.seq_loc, Rk.seq_sl, Rk.lst_rol, Rk.lst_l, Rk.lst_loc, Rk.lst_sl, Rk.lst_tup, Rk.ix_int, Rk.ix_some, Rk.seqT_l, Rk.seqT_tup, Rk.seqT_rol, Rk.seqT_loc, Rk.lstT_l, Rk.lstT_rol, Rk.lstT_loc, Rk.at_0, Rk.at_1, Rk.at_2, Rk.at_3, Rk.at_4, Rk.at_5, Rk.bin_int, Rk.i_add, Rk.i_sub, Rk.i_mul, Rk.i_div, Rk.i_mod, Rk.i_pow, Rk.u_neg, Rk.c_lt, Rk.c_le, Rk.c_gt, Rk.c_ge, Rk.c_eq, Rk.c_ne, Rk.c_isN, Rk.c_isI, Rk.c_seq, Rk.c_sne, Rk.t_non, Rk.t_bl, Rk.t_int, Rk.iw_int, Rk.bt_bl, Rk.b_int, Rk.b_intb, Rk.b_abs, Rk.b_lent, Rk.b_lenr, Rk.b_lenl, Rk.b_tup, Rk.b_list, Rk.b_all, Rk.b_any, Rk.b_sum, Rk.bls_nil, Rk.bls_cons, Rk.ints_nil, Rk.ints_cons, Rk.b_min1, Rk.b_max1, Rk.b_min2, Rk.b_max2, Rk.m_loc, Rk.m_sl, Rk.p_nil, Rk.p_cons, Rk.set_s, Rk.esc_l, Rk.isI_int, Rk.isI_bool, Rk.isI_tup, List.cons_append, List.nil_append, List.append_nil, List.getElem?_cons_zero, List.getElem?_cons_succ, List.set_cons_zero, List.set_cons_succ, List.length_cons, List.length_nil, List.map_nil, List.map_cons, Option.bind_some, Option.bind_none, Option.map_some, Option.map_none, Option.isSome_some, id_eq, true_and, and_true, decide_eq_true_eq, List.replicate_succ, List.replicate_zero, Nat.reduceAdd, Nat.reduceSub, Int.reduceMul, Int.reduceAdd, Int.reduceSub, Int.reduceNeg, if_true, if_false, Bool.true_eq_false, Bool.false_eq_true, reduceIte]
  exact h _ o (List.getElem_mem _) hp2
theorem gcd1b {M : List Ob} {P : Po} : ∀ (n x y : Nat), y < n → P.nx ⟨[some (.w (.int (Nat.gcd x y : Nat))), some (.w (.int 0))], M⟩ →
    (dwhl (asb (dcmp .NotEq (dvar 1) (dcon (.int 0)))) (dseq (dpar [0, 1] [(dvar 1), (dbin .Mod (dbi bInt [(dvar 0)]) (dvar 1))]) dskip) n ⟨[some (.w (.int (x : Nat))), some (.w (.int (y : Nat)))], M⟩).sat P
  | 0, x, y, h, _ => by omega
  | n + 1, x, y, h, k => by
    rw [wh_step]
    try simp only [Rk.sat_ok, Rk.osat_some, Rk.osat_none, Rk.osat_ite, Rk.osat_map, Rk.osat_bind, Rk.w_var, Rk.w_con, Rk.w_bin, Rk.w_cmp, Rk.w_ix, Rk.w_bi, Rk.w_es0, Rk.w_es, Rk.w_ts0, Rk.w_ts, Rk.w_ws0, Rk.w_ws, Rk.w_W, Rk.w_T, Rk.w_esc, Rk.w_givw, Rk.w_givl, Rk.w_tup, Rk.w_lst, Rk.w_call, Rk.w_callK, Rk.w_un, Rk.w_not, Rk.w_and, Rk.w_or, Rk.w_ifx, Rk.w_sl, Rk.w_no, Rk.w_so, Rk.w_asb, Rk.w_tru, Rk.w_bnot, Rk.w_band, Rk.w_bor, Rk.w_yes, Rk.w_skip, Rk.w_expr, Rk.w_set, Rk.w_ret, Rk.w_retN, Rk.w_if, Rk.w_asg, Rk.w_par, Rk.w_gnm, Rk.w_gsb, Rk.w_mt, Rk.w_ext, Rk.w_gtp, Rk.w_gsc, Rk.w_gsn, Rk.w_escs, Rk.w_givs, Rk.slQ_l, Rk.slQ_w, Rk.backT, Option.getD_some, Option.getD_none, Rk.get_w, Rk.get_l, Rk.get_sl, Rk.seq_tup, Rk.seq_rol, Rk.seq_l, Rk.seq_loc, Rk.seq_sl, Rk.lst_rol, Rk.lst_l, Rk.lst_loc, Rk.lst_sl, Rk.lst_tup, Rk.ix_int, Rk.ix_some, Rk.seqT_l, Rk.seqT_tup, Rk.seqT_rol, Rk.seqT_loc, Rk.lstT_l, Rk.lstT_rol, Rk.lstT_loc, Rk.at_0, Rk.at_1, Rk.at_2, Rk.at_3, Rk.at_4, Rk.at_5, Rk.bin_int, Rk.i_add, Rk.i_sub, Rk.i_mul, Rk.i_div, Rk.i_mod, Rk.i_pow, Rk.u_neg, Rk.c_lt, Rk.c_le, Rk.c_gt, Rk.c_ge, Rk.c_eq, Rk.c_ne, Rk.c_isN, Rk.c_isI, Rk.c_seq, Rk.c_sne, Rk.t_non, Rk.t_bl, Rk.t_int, Rk.iw_int, Rk.bt_bl, Rk.b_int, Rk.b_intb, Rk.b_abs, Rk.b_lent, Rk.b_lenr, Rk.b_lenl, Rk.b_tup, Rk.b_list, Rk.b_all, Rk.b_any, Rk.b_sum, Rk.bls_nil, Rk.bls_cons, Rk.ints_nil, Rk.ints_cons, Rk.b_min1, Rk.b_max1, Rk.b_min2, Rk.b_max2, Rk.m_loc, Rk.m_sl, Rk.p_nil, Rk.p_cons, Rk.set_s, Rk.esc_l, Rk.isI_int, Rk.isI_bool, Rk.isI_tup, List.cons_append, List.nil_append, List.append_nil, List.getElem?_cons_zero, List.getElem?_cons_succ, List.set_cons_zero, List.set_cons_succ, List.length_cons, List.length_nil, List.map_nil, List.map_cons, Option.bind_some, Option.bind_none, Option.map_some, Option.map_none, Option.isSome_some, id_eq, true_and, and_true, decide_eq_true_eq, List.replicate_succ, List.replicate_zero, Nat.reduceAdd, Nat.reduceSub, Int.reduceMul, Int.reduceAdd, Int.reduceSub, Int.reduceNeg, if_true, if_false, Bool.true_eq_false, Bool.false_eq_true, reduceIte]
    by_cases hy : y = 0
    · subst hy
      rw [if_neg (by simp)]
      simpa using k
    · rw [if_pos (by simp; omega), w_seq]
      try simp only [Rk.sat_ok, Rk.osat_some, Rk.osat_none, Rk.osat_ite, Rk.osat_map, Rk.osat_bind, Rk.w_var, Rk.w_con, Rk.w_bin, Rk.w_cmp, Rk.w_ix, Rk.w_bi, Rk.w_es0, Rk.w_es, Rk.w_ts0, Rk.w_ts, Rk.w_ws0, Rk.w_ws, Rk.w_W, Rk.w_T, Rk.w_esc, Rk.w_givw, Rk.w_givl, Rk.w_tup, Rk.w_lst, Rk.w_call, Rk.w_callK, Rk.w_un, Rk.w_not, Rk.w_and, Rk.w_or, Rk.w_ifx, Rk.w_sl, Rk.w_no, Rk.w_so, Rk.w_asb, Rk.w_tru, Rk.w_bnot, Rk.w_band, Rk.w_bor, Rk.w_yes, Rk.w_skip, Rk.w_expr, Rk.w_set, Rk.w_ret, Rk.w_retN, Rk.w_if, Rk.w_asg, Rk.w_par, Rk.w_gnm, Rk.w_gsb, Rk.w_mt, Rk.w_ext, Rk.w_gtp, Rk.w_gsc, Rk.w_gsn, Rk.w_escs, Rk.w_givs, Rk.slQ_l, Rk.slQ_w, Rk.backT, Option.getD_some, Option.getD_none, Rk.get_w, Rk.get_l, Rk.get_sl, Rk.seq_tup, Rk.seq_rol, Rk.seq_l, Rk.seq_loc, Rk.seq_sl, Rk.lst_rol, Rk.lst_l, Rk.lst_loc, Rk.lst_sl, Rk.lst_tup, Rk.ix_int, Rk.ix_some, Rk.seqT_l, Rk.seqT_tup, Rk.seqT_rol, Rk.seqT_loc, Rk.lstT_l, Rk.lstT_rol, Rk.lstT_loc, Rk.at_0, Rk.at_1, Rk.at_2, Rk.at_3, Rk.at_4, Rk.at_5, Rk.bin_int, Rk.i_add, Rk.i_sub, Rk.i_mul, Rk.i_div, Rk.i_mod, Rk.i_pow, Rk.u_neg, Rk.c_lt, Rk.c_le, Rk.c_gt, Rk.c_ge, Rk.c_eq, Rk.c_ne, Rk.c_isN, Rk.c_isI, Rk.c_seq, Rk.c_sne, Rk.t_non, Rk.t_bl, Rk.t_int, Rk.iw_int, Rk.bt_bl, Rk.b_int, Rk.b_intb, Rk.b_abs, Rk.b_lent, Rk.b_lenr, Rk.b_lenl, Rk.b_tup, Rk.b_list, Rk.b_all, Rk.b_any, Rk.b_sum, Rk.bls_nil, Rk.bls_cons, Rk.ints_nil, Rk.ints_cons, Rk.b_min1, Rk.b_max1, Rk.b_min2, Rk.b_max2, Rk.m_loc, Rk.m_sl, Rk.p_nil, Rk.p_cons, Rk.set_s, Rk.esc_l, Rk.isI_int, Rk.isI_bool, Rk.isI_tup, List.cons_append, List.nil_append, List.append_nil, List.getElem?_cons_zero, List.getElem?_cons_succ, List.set_cons_zero, List.set_cons_succ, List.length_cons, List.length_nil, List.map_nil, List.map_cons, Option.bind_some, Option.bind_none, Option.map_some, Option.map_none, Option.isSome_some, id_eq, true_and, and_true, decide_eq_true_eq, List.replicate_succ, List.replicate_zero, Nat.reduceAdd, Nat.reduceSub, Int.reduceMul, Int.reduceAdd, Int.reduceSub, Int.reduceNeg, if_true, if_false, Bool.true_eq_false, Bool.false_eq_true, reduceIte]
      refine ⟨by omega, ?_⟩
      rw [mod_nat hy]
      have hm : x % y < y := Nat.mod_lt _ (by omega)
      exact gcd1b n y (x % y) (by omega) (by rw [gcd_next]; exact k)
theorem c_law_common {a b : Int} (hb : b.natAbs < 1000000) (h : R (.w (.int (Int.gcd a b : Nat))) M) : ((ob (n + 1)).fn 28 [.w (.int a), .w (.int b)] M).sat R := by
  rw [r28, w_run]; unfold d28
  refine w_stp fun k hk => ?_; try simp only [Rk.sat_ok, Rk.osat_some, Rk.osat_none, Rk.osat_ite, Rk.osat_map, Rk.osat_bind, Rk.w_var, Rk.w_con, Rk.w_bin, Rk.w_cmp, Rk.w_ix, Rk.w_bi, Rk.w_es0, Rk.w_es, Rk.w_ts0, Rk.w_ts, Rk.w_ws0, Rk.w_ws, Rk.w_W, Rk.w_T, Rk.w_esc, Rk.w_givw, Rk.w_givl, Rk.w_tup, Rk.w_lst, Rk.w_call, Rk.w_callK, Rk.w_un, Rk.w_not, Rk.w_and, Rk.w_or, Rk.w_ifx, Rk.w_sl, Rk.w_no, Rk.w_so, Rk.w_asb, Rk.w_tru, Rk.w_bnot, Rk.w_band, Rk.w_bor, Rk.w_yes, Rk.w_skip, Rk.w_expr, Rk.w_set, Rk.w_ret, Rk.w_retN, Rk.w_if, Rk.w_asg, Rk.w_par, Rk.w_gnm, Rk.w_gsb, Rk.w_mt, Rk.w_ext, Rk.w_gtp, Rk.w_gsc, Rk.w_gsn, Rk.w_escs, Rk.w_givs, Rk.slQ_l, Rk.slQ_w, Rk.backT, Option.getD_some, Option.getD_none, Rk.get_w, Rk.get_l, Rk.get_sl, Rk.seq_tup, Rk.seq_rol, Rk.seq_l, Rk.seq_loc, Rk.seq_sl, Rk.lst_rol, Rk.lst_l, Rk.lst_loc, Rk.lst_sl, Rk.lst_tup, Rk.ix_int, Rk.ix_some, Rk.seqT_l, Rk.seqT_tup, Rk.seqT_rol, Rk.seqT_loc, Rk.lstT_l, Rk.lstT_rol, Rk.lstT_loc, Rk.at_0, Rk.at_1, Rk.at_2, Rk.at_3, Rk.at_4, Rk.at_5, Rk.bin_int, Rk.i_add, Rk.i_sub, Rk.i_mul, Rk.i_div, Rk.i_mod, Rk.i_pow, Rk.u_neg, Rk.c_lt, Rk.c_le, Rk.c_gt, Rk.c_ge, Rk.c_eq, Rk.c_ne, Rk.c_isN, Rk.c_isI, Rk.c_seq, Rk.c_sne, Rk.t_non, Rk.t_bl, Rk.t_int, Rk.iw_int, Rk.bt_bl, Rk.b_int, Rk.b_intb, Rk.b_abs, Rk.b_lent, Rk.b_lenr, Rk.b_lenl, Rk.b_tup, Rk.b_list, Rk.b_all, Rk.b_any, Rk.b_sum, Rk.bls_nil, Rk.bls_cons, Rk.ints_nil, Rk.ints_cons, Rk.b_min1, Rk.b_max1, Rk.b_min2, Rk.b_max2, Rk.m_loc, Rk.m_sl, Rk.p_nil, Rk.p_cons, Rk.set_s, Rk.esc_l, Rk.isI_int, Rk.isI_bool, Rk.isI_tup, List.cons_append, List.nil_append, List.append_nil, List.getElem?_cons_zero, List.getElem?_cons_succ, List.set_cons_zero, List.set_cons_succ, List.length_cons, List.length_nil, List.map_nil, List.map_cons, Option.bind_some, Option.bind_none, Option.map_some, Option.map_none, Option.isSome_some, id_eq, true_and, and_true, decide_eq_true_eq, List.replicate_succ, List.replicate_zero, Nat.reduceAdd, Nat.reduceSub, Int.reduceMul, Int.reduceAdd, Int.reduceSub, Int.reduceNeg, if_true, if_false, Bool.true_eq_false, Bool.false_eq_true, reduceIte, abs_nat]
  refine hk _ ?_; clear hk k
  refine w_stp fun k hk => ?_
  rw [w_while]
  refine gcd1b _ _ _ hb ?_
  refine hk _ ?_; clear hk k
  rw [w_seq]
  try simp only [Rk.sat_ok, Rk.osat_some, Rk.osat_none, Rk.osat_ite, Rk.osat_map, Rk.osat_bind, Rk.w_var, Rk.w_con, Rk.w_bin, Rk.w_cmp, Rk.w_ix, Rk.w_bi, Rk.w_es0, Rk.w_es, Rk.w_ts0, Rk.w_ts, Rk.w_ws0, Rk.w_ws, Rk.w_W, Rk.w_T, Rk.w_esc, Rk.w_givw, Rk.w_givl, Rk.w_tup, Rk.w_lst, Rk.w_call, Rk.w_callK, Rk.w_un, Rk.w_not, Rk.w_and, Rk.w_or, Rk.w_ifx, Rk.w_sl, Rk.w_no, Rk.w_so, Rk.w_asb, Rk.w_tru, Rk.w_bnot, Rk.w_band, Rk.w_bor, Rk.w_yes, Rk.w_skip, Rk.w_expr, Rk.w_set, Rk.w_ret, Rk.w_retN, Rk.w_if, Rk.w_asg, Rk.w_par, Rk.w_gnm, Rk.w_gsb, Rk.w_mt, Rk.w_ext, Rk.w_gtp, Rk.w_gsc, Rk.w_gsn, Rk.w_escs, Rk.w_givs, Rk.slQ_l, Rk.slQ_w, Rk.backT, Option.getD_some, Option.getD_none, Rk.get_w, Rk.get_l, Rk.get_sl, Rk.seq_tup, Rk.seq_rol, Rk.seq_l, Rk.seq_loc, Rk.seq_sl, Rk.lst_rol, Rk.lst_l, Rk.lst_loc, Rk.lst_sl, Rk.lst_tup, Rk.ix_int, Rk.ix_some, Rk.seqT_l, Rk.seqT_tup, Rk.seqT_rol, Rk.seqT_loc, Rk.lstT_l, Rk.lstT_rol, Rk.lstT_loc, Rk.at_0, Rk.at_1, Rk.at_2, Rk.at_3, Rk.at_4, Rk.at_5, Rk.bin_int, Rk.i_add, Rk.i_sub, Rk.i_mul, Rk.i_div, Rk.i_mod, Rk.i_pow, Rk.u_neg, Rk.c_lt, Rk.c_le, Rk.c_gt, Rk.c_ge, Rk.c_eq, Rk.c_ne, Rk.c_isN, Rk.c_isI, Rk.c_seq, Rk.c_sne, Rk.t_non, Rk.t_bl, Rk.t_int, Rk.iw_int, Rk.bt_bl, Rk.b_int, Rk.b_intb, Rk.b_abs, Rk.b_lent, Rk.b_lenr, Rk.b_lenl, Rk.b_tup, Rk.b_list, Rk.b_all, Rk.b_any, Rk.b_sum, Rk.bls_nil, Rk.bls_cons, Rk.ints_nil, Rk.ints_cons, Rk.b_min1, Rk.b_max1, Rk.b_min2, Rk.b_max2, Rk.m_loc, Rk.m_sl, Rk.p_nil, Rk.p_cons, Rk.set_s, Rk.esc_l, Rk.isI_int, Rk.isI_bool, Rk.isI_tup, List.cons_append, List.nil_append, List.append_nil, List.getElem?_cons_zero, List.getElem?_cons_succ, List.set_cons_zero, List.set_cons_succ, List.length_cons, List.length_nil, List.map_nil, List.map_cons, Option.bind_some, Option.bind_none, Option.map_some, Option.map_none, Option.isSome_some, id_eq, true_and, and_true, decide_eq_true_eq, List.replicate_succ, List.replicate_zero, Nat.reduceAdd, Nat.reduceSub, Int.reduceMul, Int.reduceAdd, Int.reduceSub, Int.reduceNeg, if_true, if_false, Bool.true_eq_false, Bool.false_eq_true, reduceIte]
  exact h
theorem c_law_fraction {a b : Int} (hb : 0 < b) (hb2 : b < 1000000) (h : ∀ p q : Int, Fr p q → p.natAbs ≤ a.natAbs → R (.w (.tup [.int p, .int q])) M) : ((ob (n + 2)).fn 22 [.w (.int a), .w (.int b)] M).sat R := by
  rw [r22, w_run]; unfold d22
  refine w_stp fun k hk => ?_; try simp only [Rk.sat_ok, Rk.osat_some, Rk.osat_none, Rk.osat_ite, Rk.osat_map, Rk.osat_bind, Rk.w_var, Rk.w_con, Rk.w_bin, Rk.w_cmp, Rk.w_ix, Rk.w_bi, Rk.w_es0, Rk.w_es, Rk.w_ts0, Rk.w_ts, Rk.w_ws0, Rk.w_ws, Rk.w_W, Rk.w_T, Rk.w_esc, Rk.w_givw, Rk.w_givl, Rk.w_tup, Rk.w_lst, Rk.w_call, Rk.w_callK, Rk.w_un, Rk.w_not, Rk.w_and, Rk.w_or, Rk.w_ifx, Rk.w_sl, Rk.w_no, Rk.w_so, Rk.w_asb, Rk.w_tru, Rk.w_bnot, Rk.w_band, Rk.w_bor, Rk.w_yes, Rk.w_skip, Rk.w_expr, Rk.w_set, Rk.w_ret, Rk.w_retN, Rk.w_if, Rk.w_asg, Rk.w_par, Rk.w_gnm, Rk.w_gsb, Rk.w_mt, Rk.w_ext, Rk.w_gtp, Rk.w_gsc, Rk.w_gsn, Rk.w_escs, Rk.w_givs, Rk.slQ_l, Rk.slQ_w, Rk.backT, Option.getD_some, Option.getD_none, Rk.get_w, Rk.get_l, Rk.get_sl, Rk.seq_tup, Rk.seq_rol, Rk.seq_l, Rk.seq_loc, Rk.seq_sl, Rk.lst_rol, Rk.lst_l, Rk.lst_loc, Rk.lst_sl, Rk.lst_tup, Rk.ix_int, Rk.ix_some, Rk.seqT_l, Rk.seqT_tup, Rk.seqT_rol, Rk.seqT_loc, Rk.lstT_l, Rk.lstT_rol, Rk.lstT_loc, Rk.at_0, Rk.at_1, Rk.at_2, Rk.at_3, Rk.at_4, Rk.at_5, Rk.bin_int, Rk.i_add, Rk.i_sub, Rk.i_mul, Rk.i_div, Rk.i_mod, Rk.i_pow, Rk.u_neg, Rk.c_lt, Rk.c_le, Rk.c_gt, Rk.c_ge, Rk.c_eq, Rk.c_ne, Rk.c_isN, Rk.c_isI, Rk.c_seq, Rk.c_sne, Rk.t_non, Rk.t_bl, Rk.t_int, Rk.iw_int, Rk.bt_bl, Rk.b_int, Rk.b_intb, Rk.b_abs, Rk.b_lent, Rk.b_lenr, Rk.b_lenl, Rk.b_tup, Rk.b_list, Rk.b_all, Rk.b_any, Rk.b_sum, Rk.bls_nil, Rk.bls_cons, Rk.ints_nil, Rk.ints_cons, Rk.b_min1, Rk.b_max1, Rk.b_min2, Rk.b_max2, Rk.m_loc, Rk.m_sl, Rk.p_nil, Rk.p_cons, Rk.set_s, Rk.esc_l, Rk.isI_int, Rk.isI_bool, Rk.isI_tup, List.cons_append, List.nil_append, List.append_nil, List.getElem?_cons_zero, List.getElem?_cons_succ, List.set_cons_zero, List.set_cons_succ, List.length_cons, List.length_nil, List.map_nil, List.map_cons, Option.bind_some, Option.bind_none, Option.map_some, Option.map_none, Option.isSome_some, id_eq, true_and, and_true, decide_eq_true_eq, List.replicate_succ, List.replicate_zero, Nat.reduceAdd, Nat.reduceSub, Int.reduceMul, Int.reduceAdd, Int.reduceSub, Int.reduceNeg, if_true, if_false, Bool.true_eq_false, Bool.false_eq_true, reduceIte]
  refine c_law_common (by omega) ?_
  try simp only [Rk.sat_ok, Rk.osat_some, Rk.osat_none, Rk.osat_ite, Rk.osat_map, Rk.osat_bind, Rk.w_var, Rk.w_con, Rk.w_bin, Rk.w_cmp, Rk.w_ix, Rk.w_bi, Rk.w_es0, Rk.w_es, Rk.w_ts0, Rk.w_ts, Rk.w_ws0, Rk.w_ws, Rk.w_W, Rk.w_T, Rk.w_esc, Rk.w_givw, Rk.w_givl, Rk.w_tup, Rk.w_lst, Rk.w_call, Rk.w_callK, Rk.w_un, Rk.w_not, Rk.w_and, Rk.w_or, Rk.w_ifx, Rk.w_sl, Rk.w_no, Rk.w_so, Rk.w_asb, Rk.w_tru, Rk.w_bnot, Rk.w_band, Rk.w_bor, Rk.w_yes, Rk.w_skip, Rk.w_expr, Rk.w_set, Rk.w_ret, Rk.w_retN, Rk.w_if, Rk.w_asg, Rk.w_par, Rk.w_gnm, Rk.w_gsb, Rk.w_mt, Rk.w_ext, Rk.w_gtp, Rk.w_gsc, Rk.w_gsn, Rk.w_escs, Rk.w_givs, Rk.slQ_l, Rk.slQ_w, Rk.backT, Option.getD_some, Option.getD_none, Rk.get_w, Rk.get_l, Rk.get_sl, Rk.seq_tup, Rk.seq_rol, Rk.seq_l, Rk.seq_loc, Rk.seq_sl, Rk.lst_rol, Rk.lst_l, Rk.lst_loc, Rk.lst_sl, Rk.lst_tup, Rk.ix_int, Rk.ix_some, Rk.seqT_l, Rk.seqT_tup, Rk.seqT_rol, Rk.seqT_loc, Rk.lstT_l, Rk.lstT_rol, Rk.lstT_loc, Rk.at_0, Rk.at_1, Rk.at_2, Rk.at_3, Rk.at_4, Rk.at_5, Rk.bin_int, Rk.i_add, Rk.i_sub, Rk.i_mul, Rk.i_div, Rk.i_mod, Rk.i_pow, Rk.u_neg, Rk.c_lt, Rk.c_le, Rk.c_gt, Rk.c_ge, Rk.c_eq, Rk.c_ne, Rk.c_isN, Rk.c_isI, Rk.c_seq, Rk.c_sne, Rk.t_non, Rk.t_bl, Rk.t_int, Rk.iw_int, Rk.bt_bl, Rk.b_int, Rk.b_intb, Rk.b_abs, Rk.b_lent, Rk.b_lenr, Rk.b_lenl, Rk.b_tup, Rk.b_list, Rk.b_all, Rk.b_any, Rk.b_sum, Rk.bls_nil, Rk.bls_cons, Rk.ints_nil, Rk.ints_cons, Rk.b_min1, Rk.b_max1, Rk.b_min2, Rk.b_max2, Rk.m_loc, Rk.m_sl, Rk.p_nil, Rk.p_cons, Rk.set_s, Rk.esc_l, Rk.isI_int, Rk.isI_bool, Rk.isI_tup, List.cons_append, List.nil_append, List.append_nil, List.getElem?_cons_zero, List.getElem?_cons_succ, List.set_cons_zero, List.set_cons_succ, List.length_cons, List.length_nil, List.map_nil, List.map_cons, Option.bind_some, Option.bind_none, Option.map_some, Option.map_none, Option.isSome_some, id_eq, true_and, and_true, decide_eq_true_eq, List.replicate_succ, List.replicate_zero, Nat.reduceAdd, Nat.reduceSub, Int.reduceMul, Int.reduceAdd, Int.reduceSub, Int.reduceNeg, if_true, if_false, Bool.true_eq_false, Bool.false_eq_true, reduceIte]
  refine hk _ ?_; clear hk k
  have hg : 0 < Nat.gcd a.natAbs b.natAbs := Nat.gcd_pos_of_pos_right _ (by omega)
  have hg2 : Nat.gcd a.natAbs b.natAbs ≤ b.natAbs := Nat.gcd_le_right _ (by omega)
  obtain ⟨g, hgd⟩ : ∃ g : Nat, g = Int.gcd a b := ⟨_, rfl⟩
  have hgd' : g = Nat.gcd a.natAbs b.natAbs := hgd
  rw [← hgd'] at hg hg2
  rw [← hgd, w_seq]
  try simp only [Rk.sat_ok, Rk.osat_some, Rk.osat_none, Rk.osat_ite, Rk.osat_map, Rk.osat_bind, Rk.w_var, Rk.w_con, Rk.w_bin, Rk.w_cmp, Rk.w_ix, Rk.w_bi, Rk.w_es0, Rk.w_es, Rk.w_ts0, Rk.w_ts, Rk.w_ws0, Rk.w_ws, Rk.w_W, Rk.w_T, Rk.w_esc, Rk.w_givw, Rk.w_givl, Rk.w_tup, Rk.w_lst, Rk.w_call, Rk.w_callK, Rk.w_un, Rk.w_not, Rk.w_and, Rk.w_or, Rk.w_ifx, Rk.w_sl, Rk.w_no, Rk.w_so, Rk.w_asb, Rk.w_tru, Rk.w_bnot, Rk.w_band, Rk.w_bor, Rk.w_yes, Rk.w_skip, Rk.w_expr, Rk.w_set, Rk.w_ret, Rk.w_retN, Rk.w_if, Rk.w_asg, Rk.w_par, Rk.w_gnm, Rk.w_gsb, Rk.w_mt, Rk.w_ext, Rk.w_gtp, Rk.w_gsc, Rk.w_gsn, Rk.w_escs, Rk.w_givs, Rk.slQ_l, Rk.slQ_w, Rk.backT, Option.getD_some, Option.getD_none, Rk.get_w, Rk.get_l, Rk.get_sl, Rk.seq_tup, Rk.seq_rol, Rk.seq_l, Rk.seq_loc, Rk.seq_sl, Rk.lst_rol, Rk.lst_l, Rk.lst_loc, Rk.lst_sl, Rk.lst_tup, Rk.ix_int, Rk.ix_some, Rk.seqT_l, Rk.seqT_tup, Rk.seqT_rol, Rk.seqT_loc, Rk.lstT_l, Rk.lstT_rol, Rk.lstT_loc, Rk.at_0, Rk.at_1, Rk.at_2, Rk.at_3, Rk.at_4, Rk.at_5, Rk.bin_int, Rk.i_add, Rk.i_sub, Rk.i_mul, Rk.i_div, Rk.i_mod, Rk.i_pow, Rk.u_neg, Rk.c_lt, Rk.c_le, Rk.c_gt, Rk.c_ge, Rk.c_eq, Rk.c_ne, Rk.c_isN, Rk.c_isI, Rk.c_seq, Rk.c_sne, Rk.t_non, Rk.t_bl, Rk.t_int, Rk.iw_int, Rk.bt_bl, Rk.b_int, Rk.b_intb, Rk.b_abs, Rk.b_lent, Rk.b_lenr, Rk.b_lenl, Rk.b_tup, Rk.b_list, Rk.b_all, Rk.b_any, Rk.b_sum, Rk.bls_nil, Rk.bls_cons, Rk.ints_nil, Rk.ints_cons, Rk.b_min1, Rk.b_max1, Rk.b_min2, Rk.b_max2, Rk.m_loc, Rk.m_sl, Rk.p_nil, Rk.p_cons, Rk.set_s, Rk.esc_l, Rk.isI_int, Rk.isI_bool, Rk.isI_tup, List.cons_append, List.nil_append, List.append_nil, List.getElem?_cons_zero, List.getElem?_cons_succ, List.set_cons_zero, List.set_cons_succ, List.length_cons, List.length_nil, List.map_nil, List.map_cons, Option.bind_some, Option.bind_none, Option.map_some, Option.map_none, Option.isSome_some, id_eq, true_and, and_true, decide_eq_true_eq, List.replicate_succ, List.replicate_zero, Nat.reduceAdd, Nat.reduceSub, Int.reduceMul, Int.reduceAdd, Int.reduceSub, Int.reduceNeg, if_true, if_false, Bool.true_eq_false, Bool.false_eq_true, reduceIte]
  have e : ∀ x : Int, iDiv x (g : Int) = x / (g : Int) := fun x => if_pos (by omega)
  refine ⟨divOk_s (by omega) (by omega), divOk_s (by omega) (by omega), by decide, ?_⟩
  rw [e, e]
  have da : (g : Int) ∣ a := by rw [hgd]; exact Int.gcd_dvd_left ..
  have db : (g : Int) ∣ b := by rw [hgd]; exact Int.gcd_dvd_right ..
  obtain ⟨p, rfl⟩ := da
  obtain ⟨q, rfl⟩ := db
  have hgz : (g : Int) ≠ 0 := by omega
  rw [Int.mul_ediv_cancel_left _ hgz, Int.mul_ediv_cancel_left _ hgz]
  have hq : 0 < q := by
    rcases Int.lt_or_le 0 q with h | h
    · exact h
    · have := Int.mul_nonpos_of_nonneg_of_nonpos (show (0 : Int) ≤ g by omega) h
      omega
  refine h p q ⟨by omega, ?_, ?_⟩ ?_
  · have := Int.mul_le_mul_of_nonneg_right (show (1 : Int) ≤ g by omega) (show 0 ≤ q by omega)
    omega
  · have h1 : Int.gcd (g * p) (g * q) = g * Int.gcd p q := by rw [Int.gcd_mul_left]; simp
    have h3 : g * Int.gcd p q = g * 1 := by omega
    exact Nat.eq_of_mul_eq_mul_left hg h3
  · rw [Int.natAbs_mul]
    exact Nat.le_mul_of_pos_left _ (by simpa using hg)
/-- a number that is drawn -/
def isNum (p q : Int) : Prop := Fr p q ∧ p.natAbs ≤ 100000
theorem c_law_drawn_number {i : Nat} {k : Int} (hp : Pot M i k) (hk : k < 90000) (h : ∀ (p q : Int) (M' : List Ob), isNum p q → Pot M' i (k + 4) → R (.w (.tup [.int p, .int q])) M') : ((ob (n + 3)).fn 15 [.w (.loc i)] M).sat R := by
  have up : ∀ {M : List Ob} {i : Nat} {a b : Int}, Pot M i a → a ≤ b → Pot M i b := fun ⟨x, y, z, h1, h2, h3, h4, h5, h6⟩ hab => ⟨x, y, z, h1, h2, h3, h4, h5, by omega⟩
  rw [r15, w_run]; unfold d15
  refine w_stp fun k hk => ?_; try simp only [Rk.sat_ok, Rk.osat_some, Rk.osat_none, Rk.osat_ite, Rk.osat_map, Rk.osat_bind, Rk.w_var, Rk.w_con, Rk.w_bin, Rk.w_cmp, Rk.w_ix, Rk.w_bi, Rk.w_es0, Rk.w_es, Rk.w_ts0, Rk.w_ts, Rk.w_ws0, Rk.w_ws, Rk.w_W, Rk.w_T, Rk.w_esc, Rk.w_givw, Rk.w_givl, Rk.w_tup, Rk.w_lst, Rk.w_call, Rk.w_callK, Rk.w_un, Rk.w_not, Rk.w_and, Rk.w_or, Rk.w_ifx, Rk.w_sl, Rk.w_no, Rk.w_so, Rk.w_asb, Rk.w_tru, Rk.w_bnot, Rk.w_band, Rk.w_bor, Rk.w_yes, Rk.w_skip, Rk.w_expr, Rk.w_set, Rk.w_ret, Rk.w_retN, Rk.w_if, Rk.w_asg, Rk.w_par, Rk.w_gnm, Rk.w_gsb, Rk.w_mt, Rk.w_ext, Rk.w_gtp, Rk.w_gsc, Rk.w_gsn, Rk.w_escs, Rk.w_givs, Rk.slQ_l, Rk.slQ_w, Rk.backT, Option.getD_some, Option.getD_none, Rk.get_w, Rk.get_l, Rk.get_sl, Rk.seq_tup, Rk.seq_rol, Rk.seq_l, Rk.seq_loc, Rk.seq_sl, Rk.lst_rol, Rk.lst_l, Rk.lst_loc, Rk.lst_sl, Rk.lst_tup, Rk.ix_int, Rk.ix_some, Rk.seqT_l, Rk.seqT_tup, Rk.seqT_rol, Rk.seqT_loc, Rk.lstT_l, Rk.lstT_rol, Rk.lstT_loc, Rk.at_0, Rk.at_1, Rk.at_2, Rk.at_3, Rk.at_4, Rk.at_5, Rk.bin_int, Rk.i_add, Rk.i_sub, Rk.i_mul, Rk.i_div, Rk.i_mod, Rk.i_pow, Rk.u_neg, Rk.c_lt, Rk.c_le, Rk.c_gt, Rk.c_ge, Rk.c_eq, Rk.c_ne, Rk.c_isN, Rk.c_isI, Rk.c_seq, Rk.c_sne, Rk.t_non, Rk.t_bl, Rk.t_int, Rk.iw_int, Rk.bt_bl, Rk.b_int, Rk.b_intb, Rk.b_abs, Rk.b_lent, Rk.b_lenr, Rk.b_lenl, Rk.b_tup, Rk.b_list, Rk.b_all, Rk.b_any, Rk.b_sum, Rk.bls_nil, Rk.bls_cons, Rk.ints_nil, Rk.ints_cons, Rk.b_min1, Rk.b_max1, Rk.b_min2, Rk.b_max2, Rk.m_loc, Rk.m_sl, Rk.p_nil, Rk.p_cons, Rk.set_s, Rk.esc_l, Rk.isI_int, Rk.isI_bool, Rk.isI_tup, List.cons_append, List.nil_append, List.append_nil, List.getElem?_cons_zero, List.getElem?_cons_succ, List.set_cons_zero, List.set_cons_succ, List.length_cons, List.length_nil, List.map_nil, List.map_cons, Option.bind_some, Option.bind_none, Option.map_some, Option.map_none, Option.isSome_some, id_eq, true_and, and_true, decide_eq_true_eq, List.replicate_succ, List.replicate_zero, Nat.reduceAdd, Nat.reduceSub, Int.reduceMul, Int.reduceAdd, Int.reduceSub, Int.reduceNeg, if_true, if_false, Bool.true_eq_false, Bool.false_eq_true, reduceIte]
  refine c_law_take hp (by omega) (by decide) (by decide) fun r o h1 h2 hp2 => ?_
  try simp only [Rk.sat_ok, Rk.osat_some, Rk.osat_none, Rk.osat_ite, Rk.osat_map, Rk.osat_bind, Rk.w_var, Rk.w_con, Rk.w_bin, Rk.w_cmp, Rk.w_ix, Rk.w_bi, Rk.w_es0, Rk.w_es, Rk.w_ts0, Rk.w_ts, Rk.w_ws0, Rk.w_ws, Rk.w_W, Rk.w_T, Rk.w_esc, Rk.w_givw, Rk.w_givl, Rk.w_tup, Rk.w_lst, Rk.w_call, Rk.w_callK, Rk.w_un, Rk.w_not, Rk.w_and, Rk.w_or, Rk.w_ifx, Rk.w_sl, Rk.w_no, Rk.w_so, Rk.w_asb, Rk.w_tru, Rk.w_bnot, Rk.w_band, Rk.w_bor, Rk.w_yes, Rk.w_skip, Rk.w_expr, Rk.w_set, Rk.w_ret, Rk.w_retN, Rk.w_if, Rk.w_asg, Rk.w_par, Rk.w_gnm, Rk.w_gsb, Rk.w_mt, Rk.w_ext, Rk.w_gtp, Rk.w_gsc, Rk.w_gsn, Rk.w_escs, Rk.w_givs, Rk.slQ_l, Rk.slQ_w, Rk.backT, Option.getD_some, Option.getD_none, Rk.get_w, Rk.get_l, Rk.get_sl, Rk.seq_tup, Rk.seq_rol, Rk.seq_l, Rk.seq_loc, Rk.seq_sl, Rk.lst_rol, Rk.lst_l, Rk.lst_loc, Rk.lst_sl, Rk.lst_tup, Rk.ix_int, Rk.ix_some, Rk.seqT_l, Rk.seqT_tup, Rk.seqT_rol, Rk.seqT_loc, Rk.lstT_l, Rk.lstT_rol, Rk.lstT_loc, Rk.at_0, Rk.at_1, Rk.at_2, Rk.at_3, Rk.at_4, Rk.at_5, Rk.bin_int, Rk.i_add, Rk.i_sub, Rk.i_mul, Rk.i_div, Rk.i_mod, Rk.i_pow, Rk.u_neg, Rk.c_lt, Rk.c_le, Rk.c_gt, Rk.c_ge, Rk.c_eq, Rk.c_ne, Rk.c_isN, Rk.c_isI, Rk.c_seq, Rk.c_sne, Rk.t_non, Rk.t_bl, Rk.t_int, Rk.iw_int, Rk.bt_bl, Rk.b_int, Rk.b_intb, Rk.b_abs, Rk.b_lent, Rk.b_lenr, Rk.b_lenl, Rk.b_tup, Rk.b_list, Rk.b_all, Rk.b_any, Rk.b_sum, Rk.bls_nil, Rk.bls_cons, Rk.ints_nil, Rk.ints_cons, Rk.b_min1, Rk.b_max1, Rk.b_min2, Rk.b_max2, Rk.m_loc, Rk.m_sl, Rk.p_nil, Rk.p_cons, Rk.set_s, Rk.esc_l, Rk.isI_int, Rk.isI_bool, Rk.isI_tup, List.cons_append, List.nil_append, List.append_nil, List.getElem?_cons_zero, List.getElem?_cons_succ, List.set_cons_zero, List.set_cons_succ, List.length_cons, List.length_nil, List.map_nil, List.map_cons, Option.bind_some, Option.bind_none, Option.map_some, Option.map_none, Option.isSome_some, id_eq, true_and, and_true, decide_eq_true_eq, List.replicate_succ, List.replicate_zero, Nat.reduceAdd, Nat.reduceSub, Int.reduceMul, Int.reduceAdd, Int.reduceSub, Int.reduceNeg, if_true, if_false, Bool.true_eq_false, Bool.false_eq_true, reduceIte]
  by_cases c : r = 0
  · rw [if_pos c, w_seq]
    try simp only [Rk.sat_ok, Rk.osat_some, Rk.osat_none, Rk.osat_ite, Rk.osat_map, Rk.osat_bind, Rk.w_var, Rk.w_con, Rk.w_bin, Rk.w_cmp, Rk.w_ix, Rk.w_bi, Rk.w_es0, Rk.w_es, Rk.w_ts0, Rk.w_ts, Rk.w_ws0, Rk.w_ws, Rk.w_W, Rk.w_T, Rk.w_esc, Rk.w_givw, Rk.w_givl, Rk.w_tup, Rk.w_lst, Rk.w_call, Rk.w_callK, Rk.w_un, Rk.w_not, Rk.w_and, Rk.w_or, Rk.w_ifx, Rk.w_sl, Rk.w_no, Rk.w_so, Rk.w_asb, Rk.w_tru, Rk.w_bnot, Rk.w_band, Rk.w_bor, Rk.w_yes, Rk.w_skip, Rk.w_expr, Rk.w_set, Rk.w_ret, Rk.w_retN, Rk.w_if, Rk.w_asg, Rk.w_par, Rk.w_gnm, Rk.w_gsb, Rk.w_mt, Rk.w_ext, Rk.w_gtp, Rk.w_gsc, Rk.w_gsn, Rk.w_escs, Rk.w_givs, Rk.slQ_l, Rk.slQ_w, Rk.backT, Option.getD_some, Option.getD_none, Rk.get_w, Rk.get_l, Rk.get_sl, Rk.seq_tup, Rk.seq_rol, Rk.seq_l, Rk.seq_loc, Rk.seq_sl, Rk.lst_rol, Rk.lst_l, Rk.lst_loc, Rk.lst_sl, Rk.lst_tup, Rk.ix_int, Rk.ix_some, Rk.seqT_l, Rk.seqT_tup, Rk.seqT_rol, Rk.seqT_loc, Rk.lstT_l, Rk.lstT_rol, Rk.lstT_loc, Rk.at_0, Rk.at_1, Rk.at_2, Rk.at_3, Rk.at_4, Rk.at_5, Rk.bin_int, Rk.i_add, Rk.i_sub, Rk.i_mul, Rk.i_div, Rk.i_mod, Rk.i_pow, Rk.u_neg, Rk.c_lt, Rk.c_le, Rk.c_gt, Rk.c_ge, Rk.c_eq, Rk.c_ne, Rk.c_isN, Rk.c_isI, Rk.c_seq, Rk.c_sne, Rk.t_non, Rk.t_bl, Rk.t_int, Rk.iw_int, Rk.bt_bl, Rk.b_int, Rk.b_intb, Rk.b_abs, Rk.b_lent, Rk.b_lenr, Rk.b_lenl, Rk.b_tup, Rk.b_list, Rk.b_all, Rk.b_any, Rk.b_sum, Rk.bls_nil, Rk.bls_cons, Rk.ints_nil, Rk.ints_cons, Rk.b_min1, Rk.b_max1, Rk.b_min2, Rk.b_max2, Rk.m_loc, Rk.m_sl, Rk.p_nil, Rk.p_cons, Rk.set_s, Rk.esc_l, Rk.isI_int, Rk.isI_bool, Rk.isI_tup, List.cons_append, List.nil_append, List.append_nil, List.getElem?_cons_zero, List.getElem?_cons_succ, List.set_cons_zero, List.set_cons_succ, List.length_cons, List.length_nil, List.map_nil, List.map_cons, Option.bind_some, Option.bind_none, Option.map_some, Option.map_none, Option.isSome_some, id_eq, true_and, and_true, decide_eq_true_eq, List.replicate_succ, List.replicate_zero, Nat.reduceAdd, Nat.reduceSub, Int.reduceMul, Int.reduceAdd, Int.reduceSub, Int.reduceNeg, if_true, if_false, Bool.true_eq_false, Bool.false_eq_true, reduceIte]
    refine c_law_take hp2 (by omega) (by decide) (by decide) fun r2 o2 h3 h4 hp3 => ?_
    try simp only [Rk.sat_ok, Rk.osat_some, Rk.osat_none, Rk.osat_ite, Rk.osat_map, Rk.osat_bind, Rk.w_var, Rk.w_con, Rk.w_bin, Rk.w_cmp, Rk.w_ix, Rk.w_bi, Rk.w_es0, Rk.w_es, Rk.w_ts0, Rk.w_ts, Rk.w_ws0, Rk.w_ws, Rk.w_W, Rk.w_T, Rk.w_esc, Rk.w_givw, Rk.w_givl, Rk.w_tup, Rk.w_lst, Rk.w_call, Rk.w_callK, Rk.w_un, Rk.w_not, Rk.w_and, Rk.w_or, Rk.w_ifx, Rk.w_sl, Rk.w_no, Rk.w_so, Rk.w_asb, Rk.w_tru, Rk.w_bnot, Rk.w_band, Rk.w_bor, Rk.w_yes, Rk.w_skip, Rk.w_expr, Rk.w_set, Rk.w_ret, Rk.w_retN, Rk.w_if, Rk.w_asg, Rk.w_par, Rk.w_gnm, Rk.w_gsb, Rk.w_mt, Rk.w_ext, Rk.w_gtp, Rk.w_gsc, Rk.w_gsn, Rk.w_escs, Rk.w_givs, Rk.slQ_l, Rk.slQ_w, Rk.backT, Option.getD_some, Option.getD_none, Rk.get_w, Rk.get_l, Rk.get_sl, Rk.seq_tup, Rk.seq_rol, Rk.seq_l, Rk.seq_loc, Rk.seq_sl, Rk.lst_rol, Rk.lst_l, Rk.lst_loc, Rk.lst_sl, Rk.lst_tup, Rk.ix_int, Rk.ix_some, Rk.seqT_l, Rk.seqT_tup, Rk.seqT_rol, Rk.seqT_loc, Rk.lstT_l, Rk.lstT_rol, Rk.lstT_loc, Rk.at_0, Rk.at_1, Rk.at_2, Rk.at_3, Rk.at_4, Rk.at_5, Rk.bin_int, Rk.i_add, Rk.i_sub, Rk.i_mul, Rk.i_div, Rk.i_mod, Rk.i_pow, Rk.u_neg, Rk.c_lt, Rk.c_le, Rk.c_gt, Rk.c_ge, Rk.c_eq, Rk.c_ne, Rk.c_isN, Rk.c_isI, Rk.c_seq, Rk.c_sne, Rk.t_non, Rk.t_bl, Rk.t_int, Rk.iw_int, Rk.bt_bl, Rk.b_int, Rk.b_intb, Rk.b_abs, Rk.b_lent, Rk.b_lenr, Rk.b_lenl, Rk.b_tup, Rk.b_list, Rk.b_all, Rk.b_any, Rk.b_sum, Rk.bls_nil, Rk.bls_cons, Rk.ints_nil, Rk.ints_cons, Rk.b_min1, Rk.b_max1, Rk.b_min2, Rk.b_max2, Rk.m_loc, Rk.m_sl, Rk.p_nil, Rk.p_cons, Rk.set_s, Rk.esc_l, Rk.isI_int, Rk.isI_bool, Rk.isI_tup, List.cons_append, List.nil_append, List.append_nil, List.getElem?_cons_zero, List.getElem?_cons_succ, List.set_cons_zero, List.set_cons_succ, List.length_cons, List.length_nil, List.map_nil, List.map_cons, Option.bind_some, Option.bind_none, Option.map_some, Option.map_none, Option.isSome_some, id_eq, true_and, and_true, decide_eq_true_eq, List.replicate_succ, List.replicate_zero, Nat.reduceAdd, Nat.reduceSub, Int.reduceMul, Int.reduceAdd, Int.reduceSub, Int.reduceNeg, if_true, if_false, Bool.true_eq_false, Bool.false_eq_true, reduceIte]
    exact ⟨by decide, h _ 1 _ ⟨⟨by decide, by decide, by simp⟩, by omega⟩ (up hp3 (by omega))⟩
  · rw [if_neg c]
    refine hk _ ?_; clear hk k
    refine w_stp fun k hk => ?_; try simp only [Rk.sat_ok, Rk.osat_some, Rk.osat_none, Rk.osat_ite, Rk.osat_map, Rk.osat_bind, Rk.w_var, Rk.w_con, Rk.w_bin, Rk.w_cmp, Rk.w_ix, Rk.w_bi, Rk.w_es0, Rk.w_es, Rk.w_ts0, Rk.w_ts, Rk.w_ws0, Rk.w_ws, Rk.w_W, Rk.w_T, Rk.w_esc, Rk.w_givw, Rk.w_givl, Rk.w_tup, Rk.w_lst, Rk.w_call, Rk.w_callK, Rk.w_un, Rk.w_not, Rk.w_and, Rk.w_or, Rk.w_ifx, Rk.w_sl, Rk.w_no, Rk.w_so, Rk.w_asb, Rk.w_tru, Rk.w_bnot, Rk.w_band, Rk.w_bor, Rk.w_yes, Rk.w_skip, Rk.w_expr, Rk.w_set, Rk.w_ret, Rk.w_retN, Rk.w_if, Rk.w_asg, Rk.w_par, Rk.w_gnm, Rk.w_gsb, Rk.w_mt, Rk.w_ext, Rk.w_gtp, Rk.w_gsc, Rk.w_gsn, Rk.w_escs, Rk.w_givs, Rk.slQ_l, Rk.slQ_w, Rk.backT, Option.getD_some, Option.getD_none, Rk.get_w, Rk.get_l, Rk.get_sl, Rk.seq_tup, Rk.seq_rol, Rk.seq_l, Rk.seq_loc, Rk.seq_sl, Rk.lst_rol, Rk.lst_l, Rk.lst_loc, Rk.lst_sl, Rk.lst_tup, Rk.ix_int, Rk.ix_some, Rk.seqT_l, Rk.seqT_tup, Rk.seqT_rol, Rk.seqT_loc, Rk.lstT_l, Rk.lstT_rol, Rk.lstT_loc, Rk.at_0, Rk.at_1, Rk.at_2, Rk.at_3, Rk.at_4, Rk.at_5, Rk.bin_int, Rk.i_add, Rk.i_sub, Rk.i_mul, Rk.i_div, Rk.i_mod, Rk.i_pow, Rk.u_neg, Rk.c_lt, Rk.c_le, Rk.c_gt, Rk.c_ge, Rk.c_eq, Rk.c_ne, Rk.c_isN, Rk.c_isI, Rk.c_seq, Rk.c_sne, Rk.t_non, Rk.t_bl, Rk.t_int, Rk.iw_int, Rk.bt_bl, Rk.b_int, Rk.b_intb, Rk.b_abs, Rk.b_lent, Rk.b_lenr, Rk.b_lenl, Rk.b_tup, Rk.b_list, Rk.b_all, Rk.b_any, Rk.b_sum, Rk.bls_nil, Rk.bls_cons, Rk.ints_nil, Rk.ints_cons, Rk.b_min1, Rk.b_max1, Rk.b_min2, Rk.b_max2, Rk.m_loc, Rk.m_sl, Rk.p_nil, Rk.p_cons, Rk.set_s, Rk.esc_l, Rk.isI_int, Rk.isI_bool, Rk.isI_tup, List.cons_append, List.nil_append, List.append_nil, List.getElem?_cons_zero, List.getElem?_cons_succ, List.set_cons_zero, List.set_cons_succ, List.length_cons, List.length_nil, List.map_nil, List.map_cons, Option.bind_some, Option.bind_none, Option.map_some, Option.map_none, Option.isSome_some, id_eq, true_and, and_true, decide_eq_true_eq, List.replicate_succ, List.replicate_zero, Nat.reduceAdd, Nat.reduceSub, Int.reduceMul, Int.reduceAdd, Int.reduceSub, Int.reduceNeg, if_true, if_false, Bool.true_eq_false, Bool.false_eq_true, reduceIte]
    refine ⟨by decide, c_law_of hp2 (by omega) (by simp) (by simp) fun u o2 hu hp3 => ?_⟩
    try simp only [Rk.sat_ok, Rk.osat_some, Rk.osat_none, Rk.osat_ite, Rk.osat_map, Rk.osat_bind, Rk.w_var, Rk.w_con, Rk.w_bin, Rk.w_cmp, Rk.w_ix, Rk.w_bi, Rk.w_es0, Rk.w_es, Rk.w_ts0, Rk.w_ts, Rk.w_ws0, Rk.w_ws, Rk.w_W, Rk.w_T, Rk.w_esc, Rk.w_givw, Rk.w_givl, Rk.w_tup, Rk.w_lst, Rk.w_call, Rk.w_callK, Rk.w_un, Rk.w_not, Rk.w_and, Rk.w_or, Rk.w_ifx, Rk.w_sl, Rk.w_no, Rk.w_so, Rk.w_asb, Rk.w_tru, Rk.w_bnot, Rk.w_band, Rk.w_bor, Rk.w_yes, Rk.w_skip, Rk.w_expr, Rk.w_set, Rk.w_ret, Rk.w_retN, Rk.w_if, Rk.w_asg, Rk.w_par, Rk.w_gnm, Rk.w_gsb, Rk.w_mt, Rk.w_ext, Rk.w_gtp, Rk.w_gsc, Rk.w_gsn, Rk.w_escs, Rk.w_givs, Rk.slQ_l, Rk.slQ_w, Rk.backT, Option.getD_some, Option.getD_none, Rk.get_w, Rk.get_l, Rk.get_sl, Rk.seq_tup, Rk.seq_rol, Rk.seq_l, Rk.seq_loc, Rk.seq_sl, Rk.lst_rol, Rk.lst_l, Rk.lst_loc, Rk.lst_sl, Rk.lst_tup, Rk.ix_int, Rk.ix_some, Rk.seqT_l, Rk.seqT_tup, Rk.seqT_rol, Rk.seqT_loc, Rk.lstT_l, Rk.lstT_rol, Rk.lstT_loc, Rk.at_0, Rk.at_1, Rk.at_2, Rk.at_3, Rk.at_4, Rk.at_5, Rk.bin_int, Rk.i_add, Rk.i_sub, Rk.i_mul, Rk.i_div, Rk.i_mod, Rk.i_pow, Rk.u_neg, Rk.c_lt, Rk.c_le, Rk.c_gt, Rk.c_ge, Rk.c_eq, Rk.c_ne, Rk.c_isN, Rk.c_isI, Rk.c_seq, Rk.c_sne, Rk.t_non, Rk.t_bl, Rk.t_int, Rk.iw_int, Rk.bt_bl, Rk.b_int, Rk.b_intb, Rk.b_abs, Rk.b_lent, Rk.b_lenr, Rk.b_lenl, Rk.b_tup, Rk.b_list, Rk.b_all, Rk.b_any, Rk.b_sum, Rk.bls_nil, Rk.bls_cons, Rk.ints_nil, Rk.ints_cons, Rk.b_min1, Rk.b_max1, Rk.b_min2, Rk.b_max2, Rk.m_loc, Rk.m_sl, Rk.p_nil, Rk.p_cons, Rk.set_s, Rk.esc_l, Rk.isI_int, Rk.isI_bool, Rk.isI_tup, List.cons_append, List.nil_append, List.append_nil, List.getElem?_cons_zero, List.getElem?_cons_succ, List.set_cons_zero, List.set_cons_succ, List.length_cons, List.length_nil, List.map_nil, List.map_cons, Option.bind_some, Option.bind_none, Option.map_some, Option.map_none, Option.isSome_some, id_eq, true_and, and_true, decide_eq_true_eq, List.replicate_succ, List.replicate_zero, Nat.reduceAdd, Nat.reduceSub, Int.reduceMul, Int.reduceAdd, Int.reduceSub, Int.reduceNeg, if_true, if_false, Bool.true_eq_false, Bool.false_eq_true, reduceIte]
    have hb : ∃ b : Int, u = .int b ∧ 2 ≤ b ∧ b ≤ 100 := by
      simp only [List.mem_cons, List.not_mem_nil, or_false] at hu
      rcases hu with rfl | rfl | rfl | rfl
      · exact ⟨2, rfl, by decide, by decide⟩
      · exact ⟨3, rfl, by decide, by decide⟩
      · exact ⟨7, rfl, by decide, by decide⟩
      · exact ⟨100, rfl, by decide, by decide⟩
    obtain ⟨b, rfl, hb1, hb2⟩ := hb
    refine hk _ ?_; clear hk k
    rw [w_seq]
    try simp only [Rk.sat_ok, Rk.osat_some, Rk.osat_none, Rk.osat_ite, Rk.osat_map, Rk.osat_bind, Rk.w_var, Rk.w_con, Rk.w_bin, Rk.w_cmp, Rk.w_ix, Rk.w_bi, Rk.w_es0, Rk.w_es, Rk.w_ts0, Rk.w_ts, Rk.w_ws0, Rk.w_ws, Rk.w_W, Rk.w_T, Rk.w_esc, Rk.w_givw, Rk.w_givl, Rk.w_tup, Rk.w_lst, Rk.w_call, Rk.w_callK, Rk.w_un, Rk.w_not, Rk.w_and, Rk.w_or, Rk.w_ifx, Rk.w_sl, Rk.w_no, Rk.w_so, Rk.w_asb, Rk.w_tru, Rk.w_bnot, Rk.w_band, Rk.w_bor, Rk.w_yes, Rk.w_skip, Rk.w_expr, Rk.w_set, Rk.w_ret, Rk.w_retN, Rk.w_if, Rk.w_asg, Rk.w_par, Rk.w_gnm, Rk.w_gsb, Rk.w_mt, Rk.w_ext, Rk.w_gtp, Rk.w_gsc, Rk.w_gsn, Rk.w_escs, Rk.w_givs, Rk.slQ_l, Rk.slQ_w, Rk.backT, Option.getD_some, Option.getD_none, Rk.get_w, Rk.get_l, Rk.get_sl, Rk.seq_tup, Rk.seq_rol, Rk.seq_l, Rk.seq_loc, Rk.seq_sl, Rk.lst_rol, Rk.lst_l, Rk.lst_loc, Rk.lst_sl, Rk.lst_tup, Rk.ix_int, Rk.ix_some, Rk.seqT_l, Rk.seqT_tup, Rk.seqT_rol, Rk.seqT_loc, Rk.lstT_l, Rk.lstT_rol, Rk.lstT_loc, Rk.at_0, Rk.at_1, Rk.at_2, Rk.at_3, Rk.at_4, Rk.at_5, Rk.bin_int, Rk.i_add, Rk.i_sub, Rk.i_mul, Rk.i_div, Rk.i_mod, Rk.i_pow, Rk.u_neg, Rk.c_lt, Rk.c_le, Rk.c_gt, Rk.c_ge, Rk.c_eq, Rk.c_ne, Rk.c_isN, Rk.c_isI, Rk.c_seq, Rk.c_sne, Rk.t_non, Rk.t_bl, Rk.t_int, Rk.iw_int, Rk.bt_bl, Rk.b_int, Rk.b_intb, Rk.b_abs, Rk.b_lent, Rk.b_lenr, Rk.b_lenl, Rk.b_tup, Rk.b_list, Rk.b_all, Rk.b_any, Rk.b_sum, Rk.bls_nil, Rk.bls_cons, Rk.ints_nil, Rk.ints_cons, Rk.b_min1, Rk.b_max1, Rk.b_min2, Rk.b_max2, Rk.m_loc, Rk.m_sl, Rk.p_nil, Rk.p_cons, Rk.set_s, Rk.esc_l, Rk.isI_int, Rk.isI_bool, Rk.isI_tup, List.cons_append, List.nil_append, List.append_nil, List.getElem?_cons_zero, List.getElem?_cons_succ, List.set_cons_zero, List.set_cons_succ, List.length_cons, List.length_nil, List.map_nil, List.map_cons, Option.bind_some, Option.bind_none, Option.map_some, Option.map_none, Option.isSome_some, id_eq, true_and, and_true, decide_eq_true_eq, List.replicate_succ, List.replicate_zero, Nat.reduceAdd, Nat.reduceSub, Int.reduceMul, Int.reduceAdd, Int.reduceSub, Int.reduceNeg, if_true, if_false, Bool.true_eq_false, Bool.false_eq_true, reduceIte]
    refine ⟨mulOk_s (by decide), c_law_take hp3 (by omega) (by omega) (by omega) fun r3 o3 h5 h6 hp4 => ?_⟩
    try simp only [Rk.sat_ok, Rk.osat_some, Rk.osat_none, Rk.osat_ite, Rk.osat_map, Rk.osat_bind, Rk.w_var, Rk.w_con, Rk.w_bin, Rk.w_cmp, Rk.w_ix, Rk.w_bi, Rk.w_es0, Rk.w_es, Rk.w_ts0, Rk.w_ts, Rk.w_ws0, Rk.w_ws, Rk.w_W, Rk.w_T, Rk.w_esc, Rk.w_givw, Rk.w_givl, Rk.w_tup, Rk.w_lst, Rk.w_call, Rk.w_callK, Rk.w_un, Rk.w_not, Rk.w_and, Rk.w_or, Rk.w_ifx, Rk.w_sl, Rk.w_no, Rk.w_so, Rk.w_asb, Rk.w_tru, Rk.w_bnot, Rk.w_band, Rk.w_bor, Rk.w_yes, Rk.w_skip, Rk.w_expr, Rk.w_set, Rk.w_ret, Rk.w_retN, Rk.w_if, Rk.w_asg, Rk.w_par, Rk.w_gnm, Rk.w_gsb, Rk.w_mt, Rk.w_ext, Rk.w_gtp, Rk.w_gsc, Rk.w_gsn, Rk.w_escs, Rk.w_givs, Rk.slQ_l, Rk.slQ_w, Rk.backT, Option.getD_some, Option.getD_none, Rk.get_w, Rk.get_l, Rk.get_sl, Rk.seq_tup, Rk.seq_rol, Rk.seq_l, Rk.seq_loc, Rk.seq_sl, Rk.lst_rol, Rk.lst_l, Rk.lst_loc, Rk.lst_sl, Rk.lst_tup, Rk.ix_int, Rk.ix_some, Rk.seqT_l, Rk.seqT_tup, Rk.seqT_rol, Rk.seqT_loc, Rk.lstT_l, Rk.lstT_rol, Rk.lstT_loc, Rk.at_0, Rk.at_1, Rk.at_2, Rk.at_3, Rk.at_4, Rk.at_5, Rk.bin_int, Rk.i_add, Rk.i_sub, Rk.i_mul, Rk.i_div, Rk.i_mod, Rk.i_pow, Rk.u_neg, Rk.c_lt, Rk.c_le, Rk.c_gt, Rk.c_ge, Rk.c_eq, Rk.c_ne, Rk.c_isN, Rk.c_isI, Rk.c_seq, Rk.c_sne, Rk.t_non, Rk.t_bl, Rk.t_int, Rk.iw_int, Rk.bt_bl, Rk.b_int, Rk.b_intb, Rk.b_abs, Rk.b_lent, Rk.b_lenr, Rk.b_lenl, Rk.b_tup, Rk.b_list, Rk.b_all, Rk.b_any, Rk.b_sum, Rk.bls_nil, Rk.bls_cons, Rk.ints_nil, Rk.ints_cons, Rk.b_min1, Rk.b_max1, Rk.b_min2, Rk.b_max2, Rk.m_loc, Rk.m_sl, Rk.p_nil, Rk.p_cons, Rk.set_s, Rk.esc_l, Rk.isI_int, Rk.isI_bool, Rk.isI_tup, List.cons_append, List.nil_append, List.append_nil, List.getElem?_cons_zero, List.getElem?_cons_succ, List.set_cons_zero, List.set_cons_succ, List.length_cons, List.length_nil, List.map_nil, List.map_cons, Option.bind_some, Option.bind_none, Option.map_some, Option.map_none, Option.isSome_some, id_eq, true_and, and_true, decide_eq_true_eq, List.replicate_succ, List.replicate_zero, Nat.reduceAdd, Nat.reduceSub, Int.reduceMul, Int.reduceAdd, Int.reduceSub, Int.reduceNeg, if_true, if_false, Bool.true_eq_false, Bool.false_eq_true, reduceIte]
    refine ⟨mulOk_s (by decide), c_law_fraction (by omega) (by omega) fun p q hf hpp => ?_⟩
    try simp only [Rk.sat_ok, Rk.osat_some, Rk.osat_none, Rk.osat_ite, Rk.osat_map, Rk.osat_bind, Rk.w_var, Rk.w_con, Rk.w_bin, Rk.w_cmp, Rk.w_ix, Rk.w_bi, Rk.w_es0, Rk.w_es, Rk.w_ts0, Rk.w_ts, Rk.w_ws0, Rk.w_ws, Rk.w_W, Rk.w_T, Rk.w_esc, Rk.w_givw, Rk.w_givl, Rk.w_tup, Rk.w_lst, Rk.w_call, Rk.w_callK, Rk.w_un, Rk.w_not, Rk.w_and, Rk.w_or, Rk.w_ifx, Rk.w_sl, Rk.w_no, Rk.w_so, Rk.w_asb, Rk.w_tru, Rk.w_bnot, Rk.w_band, Rk.w_bor, Rk.w_yes, Rk.w_skip, Rk.w_expr, Rk.w_set, Rk.w_ret, Rk.w_retN, Rk.w_if, Rk.w_asg, Rk.w_par, Rk.w_gnm, Rk.w_gsb, Rk.w_mt, Rk.w_ext, Rk.w_gtp, Rk.w_gsc, Rk.w_gsn, Rk.w_escs, Rk.w_givs, Rk.slQ_l, Rk.slQ_w, Rk.backT, Option.getD_some, Option.getD_none, Rk.get_w, Rk.get_l, Rk.get_sl, Rk.seq_tup, Rk.seq_rol, Rk.seq_l, Rk.seq_loc, Rk.seq_sl, Rk.lst_rol, Rk.lst_l, Rk.lst_loc, Rk.lst_sl, Rk.lst_tup, Rk.ix_int, Rk.ix_some, Rk.seqT_l, Rk.seqT_tup, Rk.seqT_rol, Rk.seqT_loc, Rk.lstT_l, Rk.lstT_rol, Rk.lstT_loc, Rk.at_0, Rk.at_1, Rk.at_2, Rk.at_3, Rk.at_4, Rk.at_5, Rk.bin_int, Rk.i_add, Rk.i_sub, Rk.i_mul, Rk.i_div, Rk.i_mod, Rk.i_pow, Rk.u_neg, Rk.c_lt, Rk.c_le, Rk.c_gt, Rk.c_ge, Rk.c_eq, Rk.c_ne, Rk.c_isN, Rk.c_isI, Rk.c_seq, Rk.c_sne, Rk.t_non, Rk.t_bl, Rk.t_int, Rk.iw_int, Rk.bt_bl, Rk.b_int, Rk.b_intb, Rk.b_abs, Rk.b_lent, Rk.b_lenr, Rk.b_lenl, Rk.b_tup, Rk.b_list, Rk.b_all, Rk.b_any, Rk.b_sum, Rk.bls_nil, Rk.bls_cons, Rk.ints_nil, Rk.ints_cons, Rk.b_min1, Rk.b_max1, Rk.b_min2, Rk.b_max2, Rk.m_loc, Rk.m_sl, Rk.p_nil, Rk.p_cons, Rk.set_s, Rk.esc_l, Rk.isI_int, Rk.isI_bool, Rk.isI_tup, List.cons_append, List.nil_append, List.append_nil, List.getElem?_cons_zero, List.getElem?_cons_succ, List.set_cons_zero, List.set_cons_succ, List.length_cons, List.length_nil, List.map_nil, List.map_cons, Option.bind_some, Option.bind_none, Option.map_some, Option.map_none, Option.isSome_some, id_eq, true_and, and_true, decide_eq_true_eq, List.replicate_succ, List.replicate_zero, Nat.reduceAdd, Nat.reduceSub, Int.reduceMul, Int.reduceAdd, Int.reduceSub, Int.reduceNeg, if_true, if_false, Bool.true_eq_false, Bool.false_eq_true, reduceIte]
    exact h p q _ ⟨hf, by omega⟩ (up hp4 (by omega))
end
end Law

namespace Law
open PySem PySem.Spec PyProof.Rows L2 Rk
section
variable {n : Nat} {M : List Ob} {R : T → List Ob → Prop}
theorem c_law_drawn_point {i : Nat} {k : Int} (hp : Pot M i k) (hk : k < 80000) (h : ∀ (p q p' q' p'' q'' : Int) (M' : List Ob), isNum p q → isNum p' q' → isNum p'' q'' → Pot M' i (k + 12) → R (.w (pt p q p' q' p'' q'')) M') : ((ob (n + 4)).fn 5 [.w (.loc i)] M).sat R := by
  rw [r5, w_run]; unfold d5; rw [w_seq]
  try simp only [Rk.sat_ok, Rk.osat_some, Rk.osat_none, Rk.osat_ite, Rk.osat_map, Rk.osat_bind, Rk.w_var, Rk.w_con, Rk.w_bin, Rk.w_cmp, Rk.w_ix, Rk.w_bi, Rk.w_es0, Rk.w_es, Rk.w_ts0, Rk.w_ts, Rk.w_ws0, Rk.w_ws, Rk.w_W, Rk.w_T, Rk.w_esc, Rk.w_givw, Rk.w_givl, Rk.w_tup, Rk.w_lst, Rk.w_call, Rk.w_callK, Rk.w_un, Rk.w_not, Rk.w_and, Rk.w_or, Rk.w_ifx, Rk.w_sl, Rk.w_no, Rk.w_so, Rk.w_asb, Rk.w_tru, Rk.w_bnot, Rk.w_band, Rk.w_bor, Rk.w_yes, Rk.w_skip, Rk.w_expr, Rk.w_set, Rk.w_ret, Rk.w_retN, Rk.w_if, Rk.w_asg, Rk.w_par, Rk.w_gnm, Rk.w_gsb, Rk.w_mt, Rk.w_ext, Rk.w_gtp, Rk.w_gsc, Rk.w_gsn, Rk.w_escs, Rk.w_givs, Rk.slQ_l, Rk.slQ_w, Rk.backT, Option.getD_some, Option.getD_none, Rk.get_w, Rk.get_l, Rk.get_sl, Rk.seq_tup, Rk.seq_rol, Rk.seq_l, Rk.seq_loc, Rk.seq_sl, Rk.lst_rol, Rk.lst_l, Rk.lst_loc, Rk.lst_sl, Rk.lst_tup, Rk.ix_int, Rk.ix_some, Rk.seqT_l, Rk.seqT_tup, Rk.seqT_rol, Rk.seqT_loc, Rk.lstT_l, Rk.lstT_rol, Rk.lstT_loc, Rk.at_0, Rk.at_1, Rk.at_2, Rk.at_3, Rk.at_4, Rk.at_5, Rk.bin_int, Rk.i_add, Rk.i_sub, Rk.i_mul, Rk.i_div, Rk.i_mod, Rk.i_pow, Rk.u_neg, Rk.c_lt, Rk.c_le, Rk.c_gt, Rk.c_ge, Rk.c_eq, Rk.c_ne, Rk.c_isN, Rk.c_isI, Rk.c_seq, Rk.c_sne, Rk.t_non, Rk.t_bl, Rk.t_int, Rk.iw_int, Rk.bt_bl, Rk.b_int, Rk.b_intb, Rk.b_abs, Rk.b_lent, Rk.b_lenr, Rk.b_lenl, Rk.b_tup, Rk.b_list, Rk.b_all, Rk.b_any, Rk.b_sum, Rk.bls_nil, Rk.bls_cons, Rk.ints_nil, Rk.ints_cons, Rk.b_min1, Rk.b_max1, Rk.b_min2, Rk.b_max2, Rk.m_loc, Rk.m_sl, Rk.p_nil, Rk.p_cons, Rk.set_s, Rk.esc_l, Rk.isI_int, Rk.isI_bool, Rk.isI_tup, List.cons_append, List.nil_append, List.append_nil, List.getElem?_cons_zero, List.getElem?_cons_succ, List.set_cons_zero, List.set_cons_succ, List.length_cons, List.length_nil, List.map_nil, List.map_cons, Option.bind_some, Option.bind_none, Option.map_some, Option.map_none, Option.isSome_some, id_eq, true_and, and_true, decide_eq_true_eq, List.replicate_succ, List.replicate_zero, Nat.reduceAdd, Nat.reduceSub, Int.reduceMul, Int.reduceAdd, Int.reduceSub, Int.reduceNeg, if_true, if_false, Bool.true_eq_false, Bool.false_eq_true, reduceIte, w_comp, w_rgI, w_r1, w_gsnap]
  refine ⟨by decide, rfl, ?_⟩
  rw [range3]
  rw [Rk.cs_cons]; try simp only [Rk.sat_ok, Rk.osat_some, Rk.osat_none, Rk.osat_ite, Rk.osat_map, Rk.osat_bind, Rk.w_var, Rk.w_con, Rk.w_bin, Rk.w_cmp, Rk.w_ix, Rk.w_bi, Rk.w_es0, Rk.w_es, Rk.w_ts0, Rk.w_ts, Rk.w_ws0, Rk.w_ws, Rk.w_W, Rk.w_T, Rk.w_esc, Rk.w_givw, Rk.w_givl, Rk.w_tup, Rk.w_lst, Rk.w_call, Rk.w_callK, Rk.w_un, Rk.w_not, Rk.w_and, Rk.w_or, Rk.w_ifx, Rk.w_sl, Rk.w_no, Rk.w_so, Rk.w_asb, Rk.w_tru, Rk.w_bnot, Rk.w_band, Rk.w_bor, Rk.w_yes, Rk.w_skip, Rk.w_expr, Rk.w_set, Rk.w_ret, Rk.w_retN, Rk.w_if, Rk.w_asg, Rk.w_par, Rk.w_gnm, Rk.w_gsb, Rk.w_mt, Rk.w_ext, Rk.w_gtp, Rk.w_gsc, Rk.w_gsn, Rk.w_escs, Rk.w_givs, Rk.slQ_l, Rk.slQ_w, Rk.backT, Option.getD_some, Option.getD_none, Rk.get_w, Rk.get_l, Rk.get_sl, Rk.seq_tup, Rk.seq_rol, Rk.seq_l, Rk.seq_loc, Rk.seq_sl, Rk.lst_rol, Rk.lst_l, Rk.lst_loc, Rk.lst_sl, Rk.lst_tup, Rk.ix_int, Rk.ix_some, Rk.seqT_l, Rk.seqT_tup, Rk.seqT_rol, Rk.seqT_loc, Rk.lstT_l, Rk.lstT_rol, Rk.lstT_loc, Rk.at_0, Rk.at_1, Rk.at_2, Rk.at_3, Rk.at_4, Rk.at_5, Rk.bin_int, Rk.i_add, Rk.i_sub, Rk.i_mul, Rk.i_div, Rk.i_mod, Rk.i_pow, Rk.u_neg, Rk.c_lt, Rk.c_le, Rk.c_gt, Rk.c_ge, Rk.c_eq, Rk.c_ne, Rk.c_isN, Rk.c_isI, Rk.c_seq, Rk.c_sne, Rk.t_non, Rk.t_bl, Rk.t_int, Rk.iw_int, Rk.bt_bl, Rk.b_int, Rk.b_intb, Rk.b_abs, Rk.b_lent, Rk.b_lenr, Rk.b_lenl, Rk.b_tup, Rk.b_list, Rk.b_all, Rk.b_any, Rk.b_sum, Rk.bls_nil, Rk.bls_cons, Rk.ints_nil, Rk.ints_cons, Rk.b_min1, Rk.b_max1, Rk.b_min2, Rk.b_max2, Rk.m_loc, Rk.m_sl, Rk.p_nil, Rk.p_cons, Rk.set_s, Rk.esc_l, Rk.isI_int, Rk.isI_bool, Rk.isI_tup, List.cons_append, List.nil_append, List.append_nil, List.getElem?_cons_zero, List.getElem?_cons_succ, List.set_cons_zero, List.set_cons_succ, List.length_cons, List.length_nil, List.map_nil, List.map_cons, Option.bind_some, Option.bind_none, Option.map_some, Option.map_none, Option.isSome_some, id_eq, true_and, and_true, decide_eq_true_eq, List.replicate_succ, List.replicate_zero, Nat.reduceAdd, Nat.reduceSub, Int.reduceMul, Int.reduceAdd, Int.reduceSub, Int.reduceNeg, if_true, if_false, Bool.true_eq_false, Bool.false_eq_true, reduceIte, Rk.wipeS, Rk.wipeT]
  refine c_law_drawn_number hp (by omega) fun p q M1 g1 p1 => ?_
  try simp only [Rk.sat_ok, Rk.osat_some, Rk.osat_none, Rk.osat_ite, Rk.osat_map, Rk.osat_bind, Rk.w_var, Rk.w_con, Rk.w_bin, Rk.w_cmp, Rk.w_ix, Rk.w_bi, Rk.w_es0, Rk.w_es, Rk.w_ts0, Rk.w_ts, Rk.w_ws0, Rk.w_ws, Rk.w_W, Rk.w_T, Rk.w_esc, Rk.w_givw, Rk.w_givl, Rk.w_tup, Rk.w_lst, Rk.w_call, Rk.w_callK, Rk.w_un, Rk.w_not, Rk.w_and, Rk.w_or, Rk.w_ifx, Rk.w_sl, Rk.w_no, Rk.w_so, Rk.w_asb, Rk.w_tru, Rk.w_bnot, Rk.w_band, Rk.w_bor, Rk.w_yes, Rk.w_skip, Rk.w_expr, Rk.w_set, Rk.w_ret, Rk.w_retN, Rk.w_if, Rk.w_asg, Rk.w_par, Rk.w_gnm, Rk.w_gsb, Rk.w_mt, Rk.w_ext, Rk.w_gtp, Rk.w_gsc, Rk.w_gsn, Rk.w_escs, Rk.w_givs, Rk.slQ_l, Rk.slQ_w, Rk.backT, Option.getD_some, Option.getD_none, Rk.get_w, Rk.get_l, Rk.get_sl, Rk.seq_tup, Rk.seq_rol, Rk.seq_l, Rk.seq_loc, Rk.seq_sl, Rk.lst_rol, Rk.lst_l, Rk.lst_loc, Rk.lst_sl, Rk.lst_tup, Rk.ix_int, Rk.ix_some, Rk.seqT_l, Rk.seqT_tup, Rk.seqT_rol, Rk.seqT_loc, Rk.lstT_l, Rk.lstT_rol, Rk.lstT_loc, Rk.at_0, Rk.at_1, Rk.at_2, Rk.at_3, Rk.at_4, Rk.at_5, Rk.bin_int, Rk.i_add, Rk.i_sub, Rk.i_mul, Rk.i_div, Rk.i_mod, Rk.i_pow, Rk.u_neg, Rk.c_lt, Rk.c_le, Rk.c_gt, Rk.c_ge, Rk.c_eq, Rk.c_ne, Rk.c_isN, Rk.c_isI, Rk.c_seq, Rk.c_sne, Rk.t_non, Rk.t_bl, Rk.t_int, Rk.iw_int, Rk.bt_bl, Rk.b_int, Rk.b_intb, Rk.b_abs, Rk.b_lent, Rk.b_lenr, Rk.b_lenl, Rk.b_tup, Rk.b_list, Rk.b_all, Rk.b_any, Rk.b_sum, Rk.bls_nil, Rk.bls_cons, Rk.ints_nil, Rk.ints_cons, Rk.b_min1, Rk.b_max1, Rk.b_min2, Rk.b_max2, Rk.m_loc, Rk.m_sl, Rk.p_nil, Rk.p_cons, Rk.set_s, Rk.esc_l, Rk.isI_int, Rk.isI_bool, Rk.isI_tup, List.cons_append, List.nil_append, List.append_nil, List.getElem?_cons_zero, List.getElem?_cons_succ, List.set_cons_zero, List.set_cons_succ, List.length_cons, List.length_nil, List.map_nil, List.map_cons, Option.bind_some, Option.bind_none, Option.map_some, Option.map_none, Option.isSome_some, id_eq, true_and, and_true, decide_eq_true_eq, List.replicate_succ, List.replicate_zero, Nat.reduceAdd, Nat.reduceSub, Int.reduceMul, Int.reduceAdd, Int.reduceSub, Int.reduceNeg, if_true, if_false, Bool.true_eq_false, Bool.false_eq_true, reduceIte]
  refine ⟨⟨by decide, rfl⟩, ?_⟩
  rw [Rk.cs_cons]; try simp only [Rk.sat_ok, Rk.osat_some, Rk.osat_none, Rk.osat_ite, Rk.osat_map, Rk.osat_bind, Rk.w_var, Rk.w_con, Rk.w_bin, Rk.w_cmp, Rk.w_ix, Rk.w_bi, Rk.w_es0, Rk.w_es, Rk.w_ts0, Rk.w_ts, Rk.w_ws0, Rk.w_ws, Rk.w_W, Rk.w_T, Rk.w_esc, Rk.w_givw, Rk.w_givl, Rk.w_tup, Rk.w_lst, Rk.w_call, Rk.w_callK, Rk.w_un, Rk.w_not, Rk.w_and, Rk.w_or, Rk.w_ifx, Rk.w_sl, Rk.w_no, Rk.w_so, Rk.w_asb, Rk.w_tru, Rk.w_bnot, Rk.w_band, Rk.w_bor, Rk.w_yes, Rk.w_skip, Rk.w_expr, Rk.w_set, Rk.w_ret, Rk.w_retN, Rk.w_if, Rk.w_asg, Rk.w_par, Rk.w_gnm, Rk.w_gsb, Rk.w_mt, Rk.w_ext, Rk.w_gtp, Rk.w_gsc, Rk.w_gsn, Rk.w_escs, Rk.w_givs, Rk.slQ_l, Rk.slQ_w, Rk.backT, Option.getD_some, Option.getD_none, Rk.get_w, Rk.get_l, Rk.get_sl, Rk.seq_tup, Rk.seq_rol, Rk.seq_l, Rk.seq_loc, Rk.seq_sl, Rk.lst_rol, Rk.lst_l, Rk.lst_loc, Rk.lst_sl, Rk.lst_tup, Rk.ix_int, Rk.ix_some, Rk.seqT_l, Rk.seqT_tup, Rk.seqT_rol, Rk.seqT_loc, Rk.lstT_l, Rk.lstT_rol, Rk.lstT_loc, Rk.at_0, Rk.at_1, Rk.at_2, Rk.at_3, Rk.at_4, Rk.at_5, Rk.bin_int, Rk.i_add, Rk.i_sub, Rk.i_mul, Rk.i_div, Rk.i_mod, Rk.i_pow, Rk.u_neg, Rk.c_lt, Rk.c_le, Rk.c_gt, Rk.c_ge, Rk.c_eq, Rk.c_ne, Rk.c_isN, Rk.c_isI, Rk.c_seq, Rk.c_sne, Rk.t_non, Rk.t_bl, Rk.t_int, Rk.iw_int, Rk.bt_bl, Rk.b_int, Rk.b_intb, Rk.b_abs, Rk.b_lent, Rk.b_lenr, Rk.b_lenl, Rk.b_tup, Rk.b_list, Rk.b_all, Rk.b_any, Rk.b_sum, Rk.bls_nil, Rk.bls_cons, Rk.ints_nil, Rk.ints_cons, Rk.b_min1, Rk.b_max1, Rk.b_min2, Rk.b_max2, Rk.m_loc, Rk.m_sl, Rk.p_nil, Rk.p_cons, Rk.set_s, Rk.esc_l, Rk.isI_int, Rk.isI_bool, Rk.isI_tup, List.cons_append, List.nil_append, List.append_nil, List.getElem?_cons_zero, List.getElem?_cons_succ, List.set_cons_zero, List.set_cons_succ, List.length_cons, List.length_nil, List.map_nil, List.map_cons, Option.bind_some, Option.bind_none, Option.map_some, Option.map_none, Option.isSome_some, id_eq, true_and, and_true, decide_eq_true_eq, List.replicate_succ, List.replicate_zero, Nat.reduceAdd, Nat.reduceSub, Int.reduceMul, Int.reduceAdd, Int.reduceSub, Int.reduceNeg, if_true, if_false, Bool.true_eq_false, Bool.false_eq_true, reduceIte, Rk.wipeS, Rk.wipeT]
  refine c_law_drawn_number p1 (by omega) fun p' q' M2 g2 p2 => ?_
  try simp only [Rk.sat_ok, Rk.osat_some, Rk.osat_none, Rk.osat_ite, Rk.osat_map, Rk.osat_bind, Rk.w_var, Rk.w_con, Rk.w_bin, Rk.w_cmp, Rk.w_ix, Rk.w_bi, Rk.w_es0, Rk.w_es, Rk.w_ts0, Rk.w_ts, Rk.w_ws0, Rk.w_ws, Rk.w_W, Rk.w_T, Rk.w_esc, Rk.w_givw, Rk.w_givl, Rk.w_tup, Rk.w_lst, Rk.w_call, Rk.w_callK, Rk.w_un, Rk.w_not, Rk.w_and, Rk.w_or, Rk.w_ifx, Rk.w_sl, Rk.w_no, Rk.w_so, Rk.w_asb, Rk.w_tru, Rk.w_bnot, Rk.w_band, Rk.w_bor, Rk.w_yes, Rk.w_skip, Rk.w_expr, Rk.w_set, Rk.w_ret, Rk.w_retN, Rk.w_if, Rk.w_asg, Rk.w_par, Rk.w_gnm, Rk.w_gsb, Rk.w_mt, Rk.w_ext, Rk.w_gtp, Rk.w_gsc, Rk.w_gsn, Rk.w_escs, Rk.w_givs, Rk.slQ_l, Rk.slQ_w, Rk.backT, Option.getD_some, Option.getD_none, Rk.get_w, Rk.get_l, Rk.get_sl, Rk.seq_tup, Rk.seq_rol, Rk.seq_l, Rk.seq_loc, Rk.seq_sl, Rk.lst_rol, Rk.lst_l, Rk.lst_loc, Rk.lst_sl, Rk.lst_tup, Rk.ix_int, Rk.ix_some, Rk.seqT_l, Rk.seqT_tup, Rk.seqT_rol, Rk.seqT_loc, Rk.lstT_l, Rk.lstT_rol, Rk.lstT_loc, Rk.at_0, Rk.at_1, Rk.at_2, Rk.at_3, Rk.at_4, Rk.at_5, Rk.bin_int, Rk.i_add, Rk.i_sub, Rk.i_mul, Rk.i_div, Rk.i_mod, Rk.i_pow, Rk.u_neg, Rk.c_lt, Rk.c_le, Rk.c_gt, Rk.c_ge, Rk.c_eq, Rk.c_ne, Rk.c_isN, Rk.c_isI, Rk.c_seq, Rk.c_sne, Rk.t_non, Rk.t_bl, Rk.t_int, Rk.iw_int, Rk.bt_bl, Rk.b_int, Rk.b_intb, Rk.b_abs, Rk.b_lent, Rk.b_lenr, Rk.b_lenl, Rk.b_tup, Rk.b_list, Rk.b_all, Rk.b_any, Rk.b_sum, Rk.bls_nil, Rk.bls_cons, Rk.ints_nil, Rk.ints_cons, Rk.b_min1, Rk.b_max1, Rk.b_min2, Rk.b_max2, Rk.m_loc, Rk.m_sl, Rk.p_nil, Rk.p_cons, Rk.set_s, Rk.esc_l, Rk.isI_int, Rk.isI_bool, Rk.isI_tup, List.cons_append, List.nil_append, List.append_nil, List.getElem?_cons_zero, List.getElem?_cons_succ, List.set_cons_zero, List.set_cons_succ, List.length_cons, List.length_nil, List.map_nil, List.map_cons, Option.bind_some, Option.bind_none, Option.map_some, Option.map_none, Option.isSome_some, id_eq, true_and, and_true, decide_eq_true_eq, List.replicate_succ, List.replicate_zero, Nat.reduceAdd, Nat.reduceSub, Int.reduceMul, Int.reduceAdd, Int.reduceSub, Int.reduceNeg, if_true, if_false, Bool.true_eq_false, Bool.false_eq_true, reduceIte]
  refine ⟨⟨by decide, rfl⟩, ?_⟩
  rw [Rk.cs_cons]; try simp only [Rk.sat_ok, Rk.osat_some, Rk.osat_none, Rk.osat_ite, Rk.osat_map, Rk.osat_bind, Rk.w_var, Rk.w_con, Rk.w_bin, Rk.w_cmp, Rk.w_ix, Rk.w_bi, Rk.w_es0, Rk.w_es, Rk.w_ts0, Rk.w_ts, Rk.w_ws0, Rk.w_ws, Rk.w_W, Rk.w_T, Rk.w_esc, Rk.w_givw, Rk.w_givl, Rk.w_tup, Rk.w_lst, Rk.w_call, Rk.w_callK, Rk.w_un, Rk.w_not, Rk.w_and, Rk.w_or, Rk.w_ifx, Rk.w_sl, Rk.w_no, Rk.w_so, Rk.w_asb, Rk.w_tru, Rk.w_bnot, Rk.w_band, Rk.w_bor, Rk.w_yes, Rk.w_skip, Rk.w_expr, Rk.w_set, Rk.w_ret, Rk.w_retN, Rk.w_if, Rk.w_asg, Rk.w_par, Rk.w_gnm, Rk.w_gsb, Rk.w_mt, Rk.w_ext, Rk.w_gtp, Rk.w_gsc, Rk.w_gsn, Rk.w_escs, Rk.w_givs, Rk.slQ_l, Rk.slQ_w, Rk.backT, Option.getD_some, Option.getD_none, Rk.get_w, Rk.get_l, Rk.get_sl, Rk.seq_tup, Rk.seq_rol, Rk.seq_l, Rk.seq_loc, Rk.seq_sl, Rk.lst_rol, Rk.lst_l, Rk.lst_loc, Rk.lst_sl, Rk.lst_tup, Rk.ix_int, Rk.ix_some, Rk.seqT_l, Rk.seqT_tup, Rk.seqT_rol, Rk.seqT_loc, Rk.lstT_l, Rk.lstT_rol, Rk.lstT_loc, Rk.at_0, Rk.at_1, Rk.at_2, Rk.at_3, Rk.at_4, Rk.at_5, Rk.bin_int, Rk.i_add, Rk.i_sub, Rk.i_mul, Rk.i_div, Rk.i_mod, Rk.i_pow, Rk.u_neg, Rk.c_lt, Rk.c_le, Rk.c_gt, Rk.c_ge, Rk.c_eq, Rk.c_ne, Rk.c_isN, Rk.c_isI, Rk.c_seq, Rk.c_sne, Rk.t_non, Rk.t_bl, Rk.t_int, Rk.iw_int, Rk.bt_bl, Rk.b_int, Rk.b_intb, Rk.b_abs, Rk.b_lent, Rk.b_lenr, Rk.b_lenl, Rk.b_tup, Rk.b_list, Rk.b_all, Rk.b_any, Rk.b_sum, Rk.bls_nil, Rk.bls_cons, Rk.ints_nil, Rk.ints_cons, Rk.b_min1, Rk.b_max1, Rk.b_min2, Rk.b_max2, Rk.m_loc, Rk.m_sl, Rk.p_nil, Rk.p_cons, Rk.set_s, Rk.esc_l, Rk.isI_int, Rk.isI_bool, Rk.isI_tup, List.cons_append, List.nil_append, List.append_nil, List.getElem?_cons_zero, List.getElem?_cons_succ, List.set_cons_zero, List.set_cons_succ, List.length_cons, List.length_nil, List.map_nil, List.map_cons, Option.bind_some, Option.bind_none, Option.map_some, Option.map_none, Option.isSome_some, id_eq, true_and, and_true, decide_eq_true_eq, List.replicate_succ, List.replicate_zero, Nat.reduceAdd, Nat.reduceSub, Int.reduceMul, Int.reduceAdd, Int.reduceSub, Int.reduceNeg, if_true, if_false, Bool.true_eq_false, Bool.false_eq_true, reduceIte, Rk.wipeS, Rk.wipeT]
  refine c_law_drawn_number p2 (by omega) fun p'' q'' M3 g3 p3 => ?_
  try simp only [Rk.sat_ok, Rk.osat_some, Rk.osat_none, Rk.osat_ite, Rk.osat_map, Rk.osat_bind, Rk.w_var, Rk.w_con, Rk.w_bin, Rk.w_cmp, Rk.w_ix, Rk.w_bi, Rk.w_es0, Rk.w_es, Rk.w_ts0, Rk.w_ts, Rk.w_ws0, Rk.w_ws, Rk.w_W, Rk.w_T, Rk.w_esc, Rk.w_givw, Rk.w_givl, Rk.w_tup, Rk.w_lst, Rk.w_call, Rk.w_callK, Rk.w_un, Rk.w_not, Rk.w_and, Rk.w_or, Rk.w_ifx, Rk.w_sl, Rk.w_no, Rk.w_so, Rk.w_asb, Rk.w_tru, Rk.w_bnot, Rk.w_band, Rk.w_bor, Rk.w_yes, Rk.w_skip, Rk.w_expr, Rk.w_set, Rk.w_ret, Rk.w_retN, Rk.w_if, Rk.w_asg, Rk.w_par, Rk.w_gnm, Rk.w_gsb, Rk.w_mt, Rk.w_ext, Rk.w_gtp, Rk.w_gsc, Rk.w_gsn, Rk.w_escs, Rk.w_givs, Rk.slQ_l, Rk.slQ_w, Rk.backT, Option.getD_some, Option.getD_none, Rk.get_w, Rk.get_l, Rk.get_sl, Rk.seq_tup, Rk.seq_rol, Rk.seq_l, Rk.seq_loc, Rk.seq_sl, Rk.lst_rol, Rk.lst_l, Rk.lst_loc, Rk.lst_sl, Rk.lst_tup, Rk.ix_int, Rk.ix_some, Rk.seqT_l, Rk.seqT_tup, Rk.seqT_rol, Rk.seqT_loc, Rk.lstT_l, Rk.lstT_rol, Rk.lstT_loc, Rk.at_0, Rk.at_1, Rk.at_2, Rk.at_3, Rk.at_4, Rk.at_5, Rk.bin_int, Rk.i_add, Rk.i_sub, Rk.i_mul, Rk.i_div, Rk.i_mod, Rk.i_pow, Rk.u_neg, Rk.c_lt, Rk.c_le, Rk.c_gt, Rk.c_ge, Rk.c_eq, Rk.c_ne, Rk.c_isN, Rk.c_isI, Rk.c_seq, Rk.c_sne, Rk.t_non, Rk.t_bl, Rk.t_int, Rk.iw_int, Rk.bt_bl, Rk.b_int, Rk.b_intb, Rk.b_abs, Rk.b_lent, Rk.b_lenr, Rk.b_lenl, Rk.b_tup, Rk.b_list, Rk.b_all, Rk.b_any, Rk.b_sum, Rk.bls_nil, Rk.bls_cons, Rk.ints_nil, Rk.ints_cons, Rk.b_min1, Rk.b_max1, Rk.b_min2, Rk.b_max2, Rk.m_loc, Rk.m_sl, Rk.p_nil, Rk.p_cons, Rk.set_s, Rk.esc_l, Rk.isI_int, Rk.isI_bool, Rk.isI_tup, List.cons_append, List.nil_append, List.append_nil, List.getElem?_cons_zero, List.getElem?_cons_succ, List.set_cons_zero, List.set_cons_succ, List.length_cons, List.length_nil, List.map_nil, List.map_cons, Option.bind_some, Option.bind_none, Option.map_some, Option.map_none, Option.isSome_some, id_eq, true_and, and_true, decide_eq_true_eq, List.replicate_succ, List.replicate_zero, Nat.reduceAdd, Nat.reduceSub, Int.reduceMul, Int.reduceAdd, Int.reduceSub, Int.reduceNeg, if_true, if_false, Bool.true_eq_false, Bool.false_eq_true, reduceIte, cs_nil]
  exact ⟨⟨by decide, rfl⟩, h p q p' q' p'' q'' M3 g1 g2 g3 (by rw [show k + 12 = k + 4 + 4 + 4 by omega]; exact p3)⟩
theorem c_law_drawn_cell {i : Nat} {k lo hi : Int} (hp : Pot M i k) (hk : k < 80000) (hl : lo ≤ hi) (hh : hi - lo < 100000) (h : ∀ (a b c : Int) (o : Ob), lo ≤ a → a ≤ hi → lo ≤ b → b ≤ hi → lo ≤ c → c ≤ hi → Pot (M.set i o) i (k + 3) → R (.w (ce a b c)) (M.set i o)) : ((ob (n + 2)).fn 12 [.w (.loc i), .w (.int lo), .w (.int hi)] M).sat R := by
  rw [r12, w_run]; unfold d12; rw [w_seq]
  try simp only [Rk.sat_ok, Rk.osat_some, Rk.osat_none, Rk.osat_ite, Rk.osat_map, Rk.osat_bind, Rk.w_var, Rk.w_con, Rk.w_bin, Rk.w_cmp, Rk.w_ix, Rk.w_bi, Rk.w_es0, Rk.w_es, Rk.w_ts0, Rk.w_ts, Rk.w_ws0, Rk.w_ws, Rk.w_W, Rk.w_T, Rk.w_esc, Rk.w_givw, Rk.w_givl, Rk.w_tup, Rk.w_lst, Rk.w_call, Rk.w_callK, Rk.w_un, Rk.w_not, Rk.w_and, Rk.w_or, Rk.w_ifx, Rk.w_sl, Rk.w_no, Rk.w_so, Rk.w_asb, Rk.w_tru, Rk.w_bnot, Rk.w_band, Rk.w_bor, Rk.w_yes, Rk.w_skip, Rk.w_expr, Rk.w_set, Rk.w_ret, Rk.w_retN, Rk.w_if, Rk.w_asg, Rk.w_par, Rk.w_gnm, Rk.w_gsb, Rk.w_mt, Rk.w_ext, Rk.w_gtp, Rk.w_gsc, Rk.w_gsn, Rk.w_escs, Rk.w_givs, Rk.slQ_l, Rk.slQ_w, Rk.backT, Option.getD_some, Option.getD_none, Rk.get_w, Rk.get_l, Rk.get_sl, Rk.seq_tup, Rk.seq_rol, Rk.seq_l, Rk.seq_loc, Rk.seq_sl, Rk.lst_rol, Rk.lst_l, Rk.lst_loc, Rk.lst_sl, Rk.lst_tup, Rk.ix_int, Rk.ix_some, Rk.seqT_l, Rk.seqT_tup, Rk.seqT_rol, Rk.seqT_loc, Rk.lstT_l, Rk.lstT_rol, Rk.lstT_loc, Rk.at_0, Rk.at_1, Rk.at_2, Rk.at_3, Rk.at_4, Rk.at_5, Rk.bin_int, Rk.i_add, Rk.i_sub, Rk.i_mul, Rk.i_div, Rk.i_mod, Rk.i_pow, Rk.u_neg, Rk.c_lt, Rk.c_le, Rk.c_gt, Rk.c_ge, Rk.c_eq, Rk.c_ne, Rk.c_isN, Rk.c_isI, Rk.c_seq, Rk.c_sne, Rk.t_non, Rk.t_bl, Rk.t_int, Rk.iw_int, Rk.bt_bl, Rk.b_int, Rk.b_intb, Rk.b_abs, Rk.b_lent, Rk.b_lenr, Rk.b_lenl, Rk.b_tup, Rk.b_list, Rk.b_all, Rk.b_any, Rk.b_sum, Rk.bls_nil, Rk.bls_cons, Rk.ints_nil, Rk.ints_cons, Rk.b_min1, Rk.b_max1, Rk.b_min2, Rk.b_max2, Rk.m_loc, Rk.m_sl, Rk.p_nil, Rk.p_cons, Rk.set_s, Rk.esc_l, Rk.isI_int, Rk.isI_bool, Rk.isI_tup, List.cons_append, List.nil_append, List.append_nil, List.getElem?_cons_zero, List.getElem?_cons_succ, List.set_cons_zero, List.set_cons_succ, List.length_cons, List.length_nil, List.map_nil, List.map_cons, Option.bind_some, Option.bind_none, Option.map_some, Option.map_none, Option.isSome_some, id_eq, true_and, and_true, decide_eq_true_eq, List.replicate_succ, List.replicate_zero, Nat.reduceAdd, Nat.reduceSub, Int.reduceMul, Int.reduceAdd, Int.reduceSub, Int.reduceNeg, if_true, if_false, Bool.true_eq_false, Bool.false_eq_true, reduceIte, w_comp, w_rgI, w_r1, w_gsnap]
  refine ⟨by decide, rfl, ?_⟩
  rw [range3]
  rw [Rk.cs_cons]; try simp only [Rk.sat_ok, Rk.osat_some, Rk.osat_none, Rk.osat_ite, Rk.osat_map, Rk.osat_bind, Rk.w_var, Rk.w_con, Rk.w_bin, Rk.w_cmp, Rk.w_ix, Rk.w_bi, Rk.w_es0, Rk.w_es, Rk.w_ts0, Rk.w_ts, Rk.w_ws0, Rk.w_ws, Rk.w_W, Rk.w_T, Rk.w_esc, Rk.w_givw, Rk.w_givl, Rk.w_tup, Rk.w_lst, Rk.w_call, Rk.w_callK, Rk.w_un, Rk.w_not, Rk.w_and, Rk.w_or, Rk.w_ifx, Rk.w_sl, Rk.w_no, Rk.w_so, Rk.w_asb, Rk.w_tru, Rk.w_bnot, Rk.w_band, Rk.w_bor, Rk.w_yes, Rk.w_skip, Rk.w_expr, Rk.w_set, Rk.w_ret, Rk.w_retN, Rk.w_if, Rk.w_asg, Rk.w_par, Rk.w_gnm, Rk.w_gsb, Rk.w_mt, Rk.w_ext, Rk.w_gtp, Rk.w_gsc, Rk.w_gsn, Rk.w_escs, Rk.w_givs, Rk.slQ_l, Rk.slQ_w, Rk.backT, Option.getD_some, Option.getD_none, Rk.get_w, Rk.get_l, Rk.get_sl, Rk.seq_tup, Rk.seq_rol, Rk.seq_l, Rk.seq_loc, Rk.seq_sl, Rk.lst_rol, Rk.lst_l, Rk.lst_loc, Rk.lst_sl, Rk.lst_tup, Rk.ix_int, Rk.ix_some, Rk.seqT_l, Rk.seqT_tup, Rk.seqT_rol, Rk.seqT_loc, Rk.lstT_l, Rk.lstT_rol, Rk.lstT_loc, Rk.at_0, Rk.at_1, Rk.at_2, Rk.at_3, Rk.at_4, Rk.at_5, Rk.bin_int, Rk.i_add, Rk.i_sub, Rk.i_mul, Rk.i_div, Rk.i_mod, Rk.i_pow, Rk.u_neg, Rk.c_lt, Rk.c_le, Rk.c_gt, Rk.c_ge, Rk.c_eq, Rk.c_ne, Rk.c_isN, Rk.c_isI, Rk.c_seq, Rk.c_sne, Rk.t_non, Rk.t_bl, Rk.t_int, Rk.iw_int, Rk.bt_bl, Rk.b_int, Rk.b_intb, Rk.b_abs, Rk.b_lent, Rk.b_lenr, Rk.b_lenl, Rk.b_tup, Rk.b_list, Rk.b_all, Rk.b_any, Rk.b_sum, Rk.bls_nil, Rk.bls_cons, Rk.ints_nil, Rk.ints_cons, Rk.b_min1, Rk.b_max1, Rk.b_min2, Rk.b_max2, Rk.m_loc, Rk.m_sl, Rk.p_nil, Rk.p_cons, Rk.set_s, Rk.esc_l, Rk.isI_int, Rk.isI_bool, Rk.isI_tup, List.cons_append, List.nil_append, List.append_nil, List.getElem?_cons_zero, List.getElem?_cons_succ, List.set_cons_zero, List.set_cons_succ, List.length_cons, List.length_nil, List.map_nil, List.map_cons, Option.bind_some, Option.bind_none, Option.map_some, Option.map_none, Option.isSome_some, id_eq, true_and, and_true, decide_eq_true_eq, List.replicate_succ, List.replicate_zero, Nat.reduceAdd, Nat.reduceSub, Int.reduceMul, Int.reduceAdd, Int.reduceSub, Int.reduceNeg, if_true, if_false, Bool.true_eq_false, Bool.false_eq_true, reduceIte, Rk.wipeS, Rk.wipeT]
  refine c_law_take hp (by omega) (by omega) (by omega) fun r o h1 h2 hp2 => ?_
  try simp only [Rk.sat_ok, Rk.osat_some, Rk.osat_none, Rk.osat_ite, Rk.osat_map, Rk.osat_bind, Rk.w_var, Rk.w_con, Rk.w_bin, Rk.w_cmp, Rk.w_ix, Rk.w_bi, Rk.w_es0, Rk.w_es, Rk.w_ts0, Rk.w_ts, Rk.w_ws0, Rk.w_ws, Rk.w_W, Rk.w_T, Rk.w_esc, Rk.w_givw, Rk.w_givl, Rk.w_tup, Rk.w_lst, Rk.w_call, Rk.w_callK, Rk.w_un, Rk.w_not, Rk.w_and, Rk.w_or, Rk.w_ifx, Rk.w_sl, Rk.w_no, Rk.w_so, Rk.w_asb, Rk.w_tru, Rk.w_bnot, Rk.w_band, Rk.w_bor, Rk.w_yes, Rk.w_skip, Rk.w_expr, Rk.w_set, Rk.w_ret, Rk.w_retN, Rk.w_if, Rk.w_asg, Rk.w_par, Rk.w_gnm, Rk.w_gsb, Rk.w_mt, Rk.w_ext, Rk.w_gtp, Rk.w_gsc, Rk.w_gsn, Rk.w_escs, Rk.w_givs, Rk.slQ_l, Rk.slQ_w, Rk.backT, Option.getD_some, Option.getD_none, Rk.get_w, Rk.get_l, Rk.get_sl, Rk.seq_tup, Rk.seq_rol, Rk.seq_l, Rk.seq_loc, Rk.seq_sl, Rk.lst_rol, Rk.lst_l, Rk.lst_loc, Rk.lst_sl, Rk.lst_tup, Rk.ix_int, Rk.ix_some, Rk.seqT_l, Rk.seqT_tup, Rk.seqT_rol, Rk.seqT_loc, Rk.lstT_l, Rk.lstT_rol, Rk.lstT_loc, Rk.at_0, Rk.at_1, Rk.at_2, Rk.at_3, Rk.at_4, Rk.at_5, Rk.bin_int, Rk.i_add, Rk.i_sub, Rk.i_mul, Rk.i_div, Rk.i_mod, Rk.i_pow, Rk.u_neg, Rk.c_lt, Rk.c_le, Rk.c_gt, Rk.c_ge, Rk.c_eq, Rk.c_ne, Rk.c_isN, Rk.c_isI, Rk.c_seq, Rk.c_sne, Rk.t_non, Rk.t_bl, Rk.t_int, Rk.iw_int, Rk.bt_bl, Rk.b_int, Rk.b_intb, Rk.b_abs, Rk.b_lent, Rk.b_lenr, Rk.b_lenl, Rk.b_tup, Rk.b_list, Rk.b_all, Rk.b_any, Rk.b_sum, Rk.bls_nil, Rk.bls_cons, Rk.ints_nil, Rk.ints_cons, Rk.b_min1, Rk.b_max1, Rk.b_min2, Rk.b_max2, Rk.m_loc, Rk.m_sl, Rk.p_nil, Rk.p_cons, Rk.set_s, Rk.esc_l, Rk.isI_int, Rk.isI_bool, Rk.isI_tup, List.cons_append, List.nil_append, List.append_nil, List.getElem?_cons_zero, List.getElem?_cons_succ, List.set_cons_zero, List.set_cons_succ, List.length_cons, List.length_nil, List.map_nil, List.map_cons, Option.bind_some, Option.bind_none, Option.map_some, Option.map_none, Option.isSome_some, id_eq, true_and, and_true, decide_eq_true_eq, List.replicate_succ, List.replicate_zero, Nat.reduceAdd, Nat.reduceSub, Int.reduceMul, Int.reduceAdd, Int.reduceSub, Int.reduceNeg, if_true, if_false, Bool.true_eq_false, Bool.false_eq_true, reduceIte]
  refine ⟨⟨by decide, rfl⟩, ?_⟩
  rw [Rk.cs_cons]; try simp only [Rk.sat_ok, Rk.osat_some, Rk.osat_none, Rk.osat_ite, Rk.osat_map, Rk.osat_bind, Rk.w_var, Rk.w_con, Rk.w_bin, Rk.w_cmp, Rk.w_ix, Rk.w_bi, Rk.w_es0, Rk.w_es, Rk.w_ts0, Rk.w_ts, Rk.w_ws0, Rk.w_ws, Rk.w_W, Rk.w_T, Rk.w_esc, Rk.w_givw, Rk.w_givl, Rk.w_tup, Rk.w_lst, Rk.w_call, Rk.w_callK, Rk.w_un, Rk.w_not, Rk.w_and, Rk.w_or, Rk.w_ifx, Rk.w_sl, Rk.w_no, Rk.w_so, Rk.w_asb, Rk.w_tru, Rk.w_bnot, Rk.w_band, Rk.w_bor, Rk.w_yes, Rk.w_skip, Rk.w_expr, Rk.w_set, Rk.w_ret, Rk.w_retN, Rk.w_if, Rk.w_asg, Rk.w_par, Rk.w_gnm, Rk.w_gsb, Rk.w_mt, Rk.w_ext, Rk.w_gtp, Rk.w_gsc, Rk.w_gsn, Rk.w_escs, Rk.w_givs, Rk.slQ_l, Rk.slQ_w, Rk.backT, Option.getD_some, Option.getD_none, Rk.get_w, Rk.get_l, Rk.get_sl, Rk.seq_tup, Rk.seq_rol, Rk.seq_l, Rk.seq_loc, Rk.seq_sl, Rk.lst_rol, Rk.lst_l, Rk.lst_loc, Rk.lst_sl, Rk.lst_tup, Rk.ix_int, Rk.ix_some, Rk.seqT_l, Rk.seqT_tup, Rk.seqT_rol, Rk.seqT_loc, Rk.lstT_l, Rk.lstT_rol, Rk.lstT_loc, Rk.at_0, Rk.at_1, Rk.at_2, Rk.at_3, Rk.at_4, Rk.at_5, Rk.bin_int, Rk.i_add, Rk.i_sub, Rk.i_mul, Rk.i_div, Rk.i_mod, Rk.i_pow, Rk.u_neg, Rk.c_lt, Rk.c_le, Rk.c_gt, Rk.c_ge, Rk.c_eq, Rk.c_ne, Rk.c_isN, Rk.c_isI, Rk.c_seq, Rk.c_sne, Rk.t_non, Rk.t_bl, Rk.t_int, Rk.iw_int, Rk.bt_bl, Rk.b_int, Rk.b_intb, Rk.b_abs, Rk.b_lent, Rk.b_lenr, Rk.b_lenl, Rk.b_tup, Rk.b_list, Rk.b_all, Rk.b_any, Rk.b_sum, Rk.bls_nil, Rk.bls_cons, Rk.ints_nil, Rk.ints_cons, Rk.b_min1, Rk.b_max1, Rk.b_min2, Rk.b_max2, Rk.m_loc, Rk.m_sl, Rk.p_nil, Rk.p_cons, Rk.set_s, Rk.esc_l, Rk.isI_int, Rk.isI_bool, Rk.isI_tup, List.cons_append, List.nil_append, List.append_nil, List.getElem?_cons_zero, List.getElem?_cons_succ, List.set_cons_zero, List.set_cons_succ, List.length_cons, List.length_nil, List.map_nil, List.map_cons, Option.bind_some, Option.bind_none, Option.map_some, Option.map_none, Option.isSome_some, id_eq, true_and, and_true, decide_eq_true_eq, List.replicate_succ, List.replicate_zero, Nat.reduceAdd, Nat.reduceSub, Int.reduceMul, Int.reduceAdd, Int.reduceSub, Int.reduceNeg, if_true, if_false, Bool.true_eq_false, Bool.false_eq_true, reduceIte, Rk.wipeS, Rk.wipeT]
  refine c_law_take hp2 (by omega) (by omega) (by omega) fun r2 o2 h3 h4 hp3 => ?_
  try simp only [Rk.sat_ok, Rk.osat_some, Rk.osat_none, Rk.osat_ite, Rk.osat_map, Rk.osat_bind, Rk.w_var, Rk.w_con, Rk.w_bin, Rk.w_cmp, Rk.w_ix, Rk.w_bi, Rk.w_es0, Rk.w_es, Rk.w_ts0, Rk.w_ts, Rk.w_ws0, Rk.w_ws, Rk.w_W, Rk.w_T, Rk.w_esc, Rk.w_givw, Rk.w_givl, Rk.w_tup, Rk.w_lst, Rk.w_call, Rk.w_callK, Rk.w_un, Rk.w_not, Rk.w_and, Rk.w_or, Rk.w_ifx, Rk.w_sl, Rk.w_no, Rk.w_so, Rk.w_asb, Rk.w_tru, Rk.w_bnot, Rk.w_band, Rk.w_bor, Rk.w_yes, Rk.w_skip, Rk.w_expr, Rk.w_set, Rk.w_ret, Rk.w_retN, Rk.w_if, Rk.w_asg, Rk.w_par, Rk.w_gnm, Rk.w_gsb, Rk.w_mt, Rk.w_ext, Rk.w_gtp, Rk.w_gsc, Rk.w_gsn, Rk.w_escs, Rk.w_givs, Rk.slQ_l, Rk.slQ_w, Rk.backT, Option.getD_some, Option.getD_none, Rk.get_w, Rk.get_l, Rk.get_sl, Rk.seq_tup, Rk.seq_rol, Rk.seq_l, Rk.seq_loc, Rk.seq_sl, Rk.lst_rol, Rk.lst_l, Rk.lst_loc, Rk.lst_sl, Rk.lst_tup, Rk.ix_int, Rk.ix_some, Rk.seqT_l, Rk.seqT_tup, Rk.seqT_rol, Rk.seqT_loc, Rk.lstT_l, Rk.lstT_rol, Rk.lstT_loc, Rk.at_0, Rk.at_1, Rk.at_2, Rk.at_3, Rk.at_4, Rk.at_5, Rk.bin_int, Rk.i_add, Rk.i_sub, Rk.i_mul, Rk.i_div, Rk.i_mod, Rk.i_pow, Rk.u_neg, Rk.c_lt, Rk.c_le, Rk.c_gt, Rk.c_ge, Rk.c_eq, Rk.c_ne, Rk.c_isN, Rk.c_isI, Rk.c_seq, Rk.c_sne, Rk.t_non, Rk.t_bl, Rk.t_int, Rk.iw_int, Rk.bt_bl, Rk.b_int, Rk.b_intb, Rk.b_abs, Rk.b_lent, Rk.b_lenr, Rk.b_lenl, Rk.b_tup, Rk.b_list, Rk.b_all, Rk.b_any, Rk.b_sum, Rk.bls_nil, Rk.bls_cons, Rk.ints_nil, Rk.ints_cons, Rk.b_min1, Rk.b_max1, Rk.b_min2, Rk.b_max2, Rk.m_loc, Rk.m_sl, Rk.p_nil, Rk.p_cons, Rk.set_s, Rk.esc_l, Rk.isI_int, Rk.isI_bool, Rk.isI_tup, List.cons_append, List.nil_append, List.append_nil, List.getElem?_cons_zero, List.getElem?_cons_succ, List.set_cons_zero, List.set_cons_succ, List.length_cons, List.length_nil, List.map_nil, List.map_cons, Option.bind_some, Option.bind_none, Option.map_some, Option.map_none, Option.isSome_some, id_eq, true_and, and_true, decide_eq_true_eq, List.replicate_succ, List.replicate_zero, Nat.reduceAdd, Nat.reduceSub, Int.reduceMul, Int.reduceAdd, Int.reduceSub, Int.reduceNeg, if_true, if_false, Bool.true_eq_false, Bool.false_eq_true, reduceIte]
  refine ⟨⟨by decide, rfl⟩, ?_⟩
  rw [Rk.cs_cons]; try simp only [Rk.sat_ok, Rk.osat_some, Rk.osat_none, Rk.osat_ite, Rk.osat_map, Rk.osat_bind, Rk.w_var, Rk.w_con, Rk.w_bin, Rk.w_cmp, Rk.w_ix, Rk.w_bi, Rk.w_es0, Rk.w_es, Rk.w_ts0, Rk.w_ts, Rk.w_ws0, Rk.w_ws, Rk.w_W, Rk.w_T, Rk.w_esc, Rk.w_givw, Rk.w_givl, Rk.w_tup, Rk.w_lst, Rk.w_call, Rk.w_callK, Rk.w_un, Rk.w_not, Rk.w_and, Rk.w_or, Rk.w_ifx, Rk.w_sl, Rk.w_no, Rk.w_so, Rk.w_asb, Rk.w_tru, Rk.w_bnot, Rk.w_band, Rk.w_bor, Rk.w_yes, Rk.w_skip, Rk.w_expr, Rk.w_set, Rk.w_ret, Rk.w_retN, Rk.w_if, Rk.w_asg, Rk.w_par, Rk.w_gnm, Rk.w_gsb, Rk.w_mt, Rk.w_ext, Rk.w_gtp, Rk.w_gsc, Rk.w_gsn, Rk.w_escs, Rk.w_givs, Rk.slQ_l, Rk.slQ_w, Rk.backT, Option.getD_some, Option.getD_none, Rk.get_w, Rk.get_l, Rk.get_sl, Rk.seq_tup, Rk.seq_rol, Rk.seq_l, Rk.seq_loc, Rk.seq_sl, Rk.lst_rol, Rk.lst_l, Rk.lst_loc, Rk.lst_sl, Rk.lst_tup, Rk.ix_int, Rk.ix_some, Rk.seqT_l, Rk.seqT_tup, Rk.seqT_rol, Rk.seqT_loc, Rk.lstT_l, Rk.lstT_rol, Rk.lstT_loc, Rk.at_0, Rk.at_1, Rk.at_2, Rk.at_3, Rk.at_4, Rk.at_5, Rk.bin_int, Rk.i_add, Rk.i_sub, Rk.i_mul, Rk.i_div, Rk.i_mod, Rk.i_pow, Rk.u_neg, Rk.c_lt, Rk.c_le, Rk.c_gt, Rk.c_ge, Rk.c_eq, Rk.c_ne, Rk.c_isN, Rk.c_isI, Rk.c_seq, Rk.c_sne, Rk.t_non, Rk.t_bl, Rk.t_int, Rk.iw_int, Rk.bt_bl, Rk.b_int, Rk.b_intb, Rk.b_abs, Rk.b_lent, Rk.b_lenr, Rk.b_lenl, Rk.b_tup, Rk.b_list, Rk.b_all, Rk.b_any, Rk.b_sum, Rk.bls_nil, Rk.bls_cons, Rk.ints_nil, Rk.ints_cons, Rk.b_min1, Rk.b_max1, Rk.b_min2, Rk.b_max2, Rk.m_loc, Rk.m_sl, Rk.p_nil, Rk.p_cons, Rk.set_s, Rk.esc_l, Rk.isI_int, Rk.isI_bool, Rk.isI_tup, List.cons_append, List.nil_append, List.append_nil, List.getElem?_cons_zero, List.getElem?_cons_succ, List.set_cons_zero, List.set_cons_succ, List.length_cons, List.length_nil, List.map_nil, List.map_cons, Option.bind_some, Option.bind_none, Option.map_some, Option.map_none, Option.isSome_some, id_eq, true_and, and_true, decide_eq_true_eq, List.replicate_succ, List.replicate_zero, Nat.reduceAdd, Nat.reduceSub, Int.reduceMul, Int.reduceAdd, Int.reduceSub, Int.reduceNeg, if_true, if_false, Bool.true_eq_false, Bool.false_eq_true, reduceIte, Rk.wipeS, Rk.wipeT]
  refine c_law_take hp3 (by omega) (by omega) (by omega) fun r3 o3 h5 h6 hp4 => ?_
  rw [List.set_set, List.set_set] at hp4 ⊢
  try simp only [Rk.sat_ok, Rk.osat_some, Rk.osat_none, Rk.osat_ite, Rk.osat_map, Rk.osat_bind, Rk.w_var, Rk.w_con, Rk.w_bin, Rk.w_cmp, Rk.w_ix, Rk.w_bi, Rk.w_es0, Rk.w_es, Rk.w_ts0, Rk.w_ts, Rk.w_ws0, Rk.w_ws, Rk.w_W, Rk.w_T, Rk.w_esc, Rk.w_givw, Rk.w_givl, Rk.w_tup, Rk.w_lst, Rk.w_call, Rk.w_callK, Rk.w_un, Rk.w_not, Rk.w_and, Rk.w_or, Rk.w_ifx, Rk.w_sl, Rk.w_no, Rk.w_so, Rk.w_asb, Rk.w_tru, Rk.w_bnot, Rk.w_band, Rk.w_bor, Rk.w_yes, Rk.w_skip, Rk.w_expr, Rk.w_set, Rk.w_ret, Rk.w_retN, Rk.w_if, Rk.w_asg, Rk.w_par, Rk.w_gnm, Rk.w_gsb, Rk.w_mt, Rk.w_ext, Rk.w_gtp, Rk.w_gsc, Rk.w_gsn, Rk.w_escs, Rk.w_givs, Rk.slQ_l, Rk.slQ_w, Rk.backT, Option.getD_some, Option.getD_none, Rk.get_w, Rk.get_l, Rk.get_sl, Rk.seq_tup, Rk.seq_rol, Rk.seq_l, Rk.seq_loc, Rk.seq_sl, Rk.lst_rol, Rk.lst_l, Rk.lst_loc, Rk.lst_sl, Rk.lst_tup, Rk.ix_int, Rk.ix_some, Rk.seqT_l, Rk.seqT_tup, Rk.seqT_rol, Rk.seqT_loc, Rk.lstT_l, Rk.lstT_rol, Rk.lstT_loc, Rk.at_0, Rk.at_1, Rk.at_2, Rk.at_3, Rk.at_4, Rk.at_5, Rk.bin_int, Rk.i_add, Rk.i_sub, Rk.i_mul, Rk.i_div, Rk.i_mod, Rk.i_pow, Rk.u_neg, Rk.c_lt, Rk.c_le, Rk.c_gt, Rk.c_ge, Rk.c_eq, Rk.c_ne, Rk.c_isN, Rk.c_isI, Rk.c_seq, Rk.c_sne, Rk.t_non, Rk.t_bl, Rk.t_int, Rk.iw_int, Rk.bt_bl, Rk.b_int, Rk.b_intb, Rk.b_abs, Rk.b_lent, Rk.b_lenr, Rk.b_lenl, Rk.b_tup, Rk.b_list, Rk.b_all, Rk.b_any, Rk.b_sum, Rk.bls_nil, Rk.bls_cons, Rk.ints_nil, Rk.ints_cons, Rk.b_min1, Rk.b_max1, Rk.b_min2, Rk.b_max2, Rk.m_loc, Rk.m_sl, Rk.p_nil, Rk.p_cons, Rk.set_s, Rk.esc_l, Rk.isI_int, Rk.isI_bool, Rk.isI_tup, List.cons_append, List.nil_append, List.append_nil, List.getElem?_cons_zero, List.getElem?_cons_succ, List.set_cons_zero, List.set_cons_succ, List.length_cons, List.length_nil, List.map_nil, List.map_cons, Option.bind_some, Option.bind_none, Option.map_some, Option.map_none, Option.isSome_some, id_eq, true_and, and_true, decide_eq_true_eq, List.replicate_succ, List.replicate_zero, Nat.reduceAdd, Nat.reduceSub, Int.reduceMul, Int.reduceAdd, Int.reduceSub, Int.reduceNeg, if_true, if_false, Bool.true_eq_false, Bool.false_eq_true, reduceIte, cs_nil]
  exact ⟨⟨by decide, rfl⟩, h _ _ _ o3 (by omega) (by omega) (by omega) (by omega) (by omega) (by omega) (by rw [show k + 3 = k + 1 + 1 + 1 by omega]; exact hp4)⟩
def isCe (w : W) : Prop := ∃ a b c : Int, a.natAbs ≤ 1000 ∧ b.natAbs ≤ 1000 ∧ c.natAbs ≤ 1000 ∧ w = ce a b c
/-- the list that is gathered: in the slot alone, or shared -/
def At (M : List Ob) (i : Nat) (t : T) (xs : List W) : Prop := t = .lst xs ∨ ∃ j, t = .w (.loc j) ∧ M[j]? = some (.lst xs) ∧ i ≠ j
theorem dat_ce {k : Nat} {a b c : Int} : datW M (k + 1) (ce a b c) = some (.tuple [.int a, .int b, .int c]) := by
  simp only [datW, omap, Option.bind_some, Option.map_some]
theorem dat_ces {k : Nat} : ∀ xs : List W, (∀ w ∈ xs, isCe w) → ∃ ds, omap (datW M (k + 1)) xs = some ds ∧ ds.isEmpty = xs.isEmpty ∧ PyData.canLayAll0 ds = true ∧ PyData.depthAll ds ≤ 1
  | [], _ => ⟨[], rfl, rfl, rfl, by simp [PyData.depthAll]⟩
  | x :: xs, h => by
    obtain ⟨ds, h1, h2, h3, h4⟩ := dat_ces (k := k) xs fun w hw => h w (by simp [hw])
    obtain ⟨a, b, c, _, _, _, rfl⟩ := h x (by simp)
    refine ⟨.tuple [.int a, .int b, .int c] :: ds, ?_, rfl, ?_, ?_⟩
    · simp only [omap, dat_ce, Option.bind_some, h1, Option.map_some]
    · simp only [PyData.canLayAll0, PyData.canLay0, Bool.and_self, h3]
    · simp only [PyData.depthAll, PyData.depth]
      omega
theorem ne_nil {s : S} {t : T} {xs : List W} (hx : ∀ w ∈ xs, isCe w) (ht : s.get t = some (.lst xs) ∨ ∃ j, s.get t = some (.w (.loc j)) ∧ s.M[j]? = some (.lst xs)) : opCmp .NotEq s t (.lst []) = some (!xs.isEmpty) := by
  have e : opCmp .NotEq s t (.lst []) = (Rk.eqT s t (.lst [])).map (!·) := rfl
  have d : ∃ ds, datOf s t = some (.list ds) ∧ ds.isEmpty = xs.isEmpty ∧ PyData.canLayAll0 ds = true ∧ PyData.depthAll ds ≤ 1 := by
    unfold datOf
    rcases ht with ht | ⟨j, ht, hj⟩
    · obtain ⟨ds, h1, h2⟩ := dat_ces (M := s.M) (k := 39) xs hx
      refine ⟨ds, ?_, h2⟩
      rw [ht]
      show (omap (datW s.M 40) xs).map PyData.list = _
      rw [h1]; rfl
    · obtain ⟨ds, h1, h2⟩ := dat_ces (M := s.M) (k := 38) xs hx
      refine ⟨ds, ?_, h2⟩
      rw [ht]
      show datW s.M 40 (.loc j) = _
      simp only [datW, hj, h1, Option.map_some]
  obtain ⟨ds, d1, d2, d3, d4⟩ := d
  have f : Rk.eqT s t (.lst []) = if SeqAt.shaped (.list ds) && SeqAt.shaped (.list []) then some (PyData.eqv (.list ds) (.list [])) else none := by
    unfold Rk.eqT
    have g : datOf s (.lst []) = some (.list []) := rfl
    rcases ht with ht | ⟨j, ht, hj⟩
    · rw [ht, get_l]
      simp only [d1, g]
    · rw [ht, get_l]
      simp only [d1, g]
  have sh : SeqAt.shaped (.list ds) = true := by
    show (PyData.canLay0 (.list ds) && decide (PyData.depth (.list ds) ≤ 64)) = true
    have e1 : PyData.depth (.list ds) = PyData.depthAll ds + 1 := by simp only [PyData.depth]
    have e2 : PyData.canLay0 (.list ds) = true := by simpa only [PyData.canLay0] using d3
    rw [e1, e2, Bool.true_and, decide_eq_true_eq]
    omega
  have sh0 : SeqAt.shaped (.list []) = true := by decide +kernel
  rw [e, f, sh, sh0]
  have ev : PyData.eqv (.list ds) (.list []) = ds.isEmpty := by cases ds <;> rfl
  simp only [Bool.and_self, if_true, Option.map_some, ev, d2]
end
end Law

namespace Law
open PySem PySem.Spec PyProof.Rows L2 Rk
section
variable {n : Nat} {M : List Ob} {R : T → List Ob → Prop}
def isCeB (B : Nat) (w : W) : Prop := ∃ a b c : Int, a.natAbs ≤ B ∧ b.natAbs ≤ B ∧ c.natAbs ≤ B ∧ w = ce a b c
theorem isCeB.up {B B' : Nat} {w : W} (h : isCeB B w) (hb : B ≤ B') : isCeB B' w := by
  obtain ⟨a, b, c, h1, h2, h3, e⟩ := h
  exact ⟨a, b, c, by omega, by omega, by omega, e⟩
/-- the branch that moves a cell -/
abbrev tailC (O : Orc) : DS := (dseq (dasg (dbin .Add (dix (dvar 5) (dvar 4)) (dcall (O.fn 13) 2 [(dvar 0), (dlst [(dun .USub (dcon (.int 1))), (dcon (.int 1))])] [])) (gsb (dvar 5) (dvar 4))) (dseq (dexpr (dmt (dvar 2) [(dbi bTuple [(dvar 5)])] lmApp)) dskip))
theorem then_tail {xs : List W} {i j B : Nat} {k ax a b c : Int} {x1 x3 : Option T} {knx kb kc : S → Prop} (hp : Pot M i k) (hk : k < 90000) (hj : M[j]? = some (.lst xs)) (hij : i ≠ j) (hl : xs.length < 1000) (ha : a.natAbs ≤ B) (hb : b.natAbs ≤ B) (hc : c.natAbs ≤ B) (hax : 0 ≤ ax) (hax2 : ax < 3)
    (h : ∀ (w : W) (M' : List Ob) (x5 : Option T), isCeB (B + 1) w → M'[j]? = some (.lst (xs ++ [w])) → Pot M' i (k + 1) → knx ⟨[some (.w (.loc i)), x1, some (.w (.loc j)), x3, some (.w (.int ax)), x5], M'⟩) :
    (tailC (ob (n + 2)) ⟨[some (.w (.loc i)), x1, some (.w (.loc j)), x3, some (.w (.int ax)), some (.lst [.int a, .int b, .int c])], M⟩).sat { nx := knx, rt := R, bk := kb, ct := kc } := by
  have go : ∀ (y : Int), y.natAbs ≤ B → atI [W.int a, .int b, .int c] ax = some (.int y) → ∀ (m : Nat), ixN 3 ax = some m → (∀ y' : Int, y'.natAbs ≤ B + 1 → ∃ a' b' c' : Int, a'.natAbs ≤ B + 1 ∧ b'.natAbs ≤ B + 1 ∧ c'.natAbs ≤ B + 1 ∧ [W.int a, .int b, .int c].set m (.int y') = [.int a', .int b', .int c']) →
      (tailC (ob (n + 2)) ⟨[some (.w (.loc i)), x1, some (.w (.loc j)), x3, some (.w (.int ax)), some (.lst [.int a, .int b, .int c])], M⟩).sat { nx := knx, rt := R, bk := kb, ct := kc } := by
    intro y hy e1 m e2 e3
    refine w_stp fun k hk => ?_; try simp only [Rk.sat_ok, Rk.osat_some, Rk.osat_none, Rk.osat_ite, Rk.osat_map, Rk.osat_bind, Rk.w_var, Rk.w_con, Rk.w_bin, Rk.w_cmp, Rk.w_ix, Rk.w_bi, Rk.w_es0, Rk.w_es, Rk.w_ts0, Rk.w_ts, Rk.w_ws0, Rk.w_ws, Rk.w_W, Rk.w_T, Rk.w_esc, Rk.w_givw, Rk.w_givl, Rk.w_tup, Rk.w_lst, Rk.w_call, Rk.w_callK, Rk.w_un, Rk.w_not, Rk.w_and, Rk.w_or, Rk.w_ifx, Rk.w_sl, Rk.w_no, Rk.w_so, Rk.w_asb, Rk.w_tru, Rk.w_bnot, Rk.w_band, Rk.w_bor, Rk.w_yes, Rk.w_skip, Rk.w_expr, Rk.w_set, Rk.w_ret, Rk.w_retN, Rk.w_if, Rk.w_asg, Rk.w_par, Rk.w_gnm, Rk.w_gsb, Rk.w_mt, Rk.w_ext, Rk.w_gtp, Rk.w_gsc, Rk.w_gsn, Rk.w_escs, Rk.w_givs, Rk.slQ_l, Rk.slQ_w, Rk.backT, Option.getD_some, Option.getD_none, Rk.get_w, Rk.get_l, Rk.get_sl, Rk.seq_tup, Rk.seq_rol, Rk.seq_l, Rk.seq_loc, Rk.seq_sl, Rk.lst_rol, Rk.lst_l, Rk.lst_loc, Rk.lst_sl, Rk.lst_tup, Rk.ix_int, Rk.ix_some, Rk.seqT_l, Rk.seqT_tup, Rk.seqT_rol, Rk.seqT_loc, Rk.lstT_l, Rk.lstT_rol, Rk.lstT_loc, Rk.at_0, Rk.at_1, Rk.at_2, Rk.at_3, Rk.at_4, Rk.at_5, Rk.bin_int, Rk.i_add, Rk.i_sub, Rk.i_mul, Rk.i_div, Rk.i_mod, Rk.i_pow, Rk.u_neg, Rk.c_lt, Rk.c_le, Rk.c_gt, Rk.c_ge, Rk.c_eq, Rk.c_ne, Rk.c_isN, Rk.c_isI, Rk.c_seq, Rk.c_sne, Rk.t_non, Rk.t_bl, Rk.t_int, Rk.iw_int, Rk.bt_bl, Rk.b_int, Rk.b_intb, Rk.b_abs, Rk.b_lent, Rk.b_lenr, Rk.b_lenl, Rk.b_tup, Rk.b_list, Rk.b_all, Rk.b_any, Rk.b_sum, Rk.bls_nil, Rk.bls_cons, Rk.ints_nil, Rk.ints_cons, Rk.b_min1, Rk.b_max1, Rk.b_min2, Rk.b_max2, Rk.m_loc, Rk.m_sl, Rk.p_nil, Rk.p_cons, Rk.set_s, Rk.esc_l, Rk.isI_int, Rk.isI_bool, Rk.isI_tup, List.cons_append, List.nil_append, List.append_nil, List.getElem?_cons_zero, List.getElem?_cons_succ, List.set_cons_zero, List.set_cons_succ, List.length_cons, List.length_nil, List.map_nil, List.map_cons, Option.bind_some, Option.bind_none, Option.map_some, Option.map_none, Option.isSome_some, id_eq, true_and, and_true, decide_eq_true_eq, List.replicate_succ, List.replicate_zero, Nat.reduceAdd, Nat.reduceSub, Int.reduceMul, Int.reduceAdd, Int.reduceSub, Int.reduceNeg, if_true, if_false, Bool.true_eq_false, Bool.false_eq_true, reduceIte, e1]
    refine ⟨by decide, c_law_of hp (by omega) (by simp) (by simp) fun u o hu hp2 => ?_⟩
    have hd : ∃ d : Int, u = .int d ∧ d.natAbs ≤ 1 := by
      simp only [List.mem_cons, List.not_mem_nil, or_false] at hu
      rcases hu with rfl | rfl
      · exact ⟨-1, rfl, by decide⟩
      · exact ⟨1, rfl, by decide⟩
    obtain ⟨d, rfl, hd⟩ := hd
    try simp only [Rk.sat_ok, Rk.osat_some, Rk.osat_none, Rk.osat_ite, Rk.osat_map, Rk.osat_bind, Rk.w_var, Rk.w_con, Rk.w_bin, Rk.w_cmp, Rk.w_ix, Rk.w_bi, Rk.w_es0, Rk.w_es, Rk.w_ts0, Rk.w_ts, Rk.w_ws0, Rk.w_ws, Rk.w_W, Rk.w_T, Rk.w_esc, Rk.w_givw, Rk.w_givl, Rk.w_tup, Rk.w_lst, Rk.w_call, Rk.w_callK, Rk.w_un, Rk.w_not, Rk.w_and, Rk.w_or, Rk.w_ifx, Rk.w_sl, Rk.w_no, Rk.w_so, Rk.w_asb, Rk.w_tru, Rk.w_bnot, Rk.w_band, Rk.w_bor, Rk.w_yes, Rk.w_skip, Rk.w_expr, Rk.w_set, Rk.w_ret, Rk.w_retN, Rk.w_if, Rk.w_asg, Rk.w_par, Rk.w_gnm, Rk.w_gsb, Rk.w_mt, Rk.w_ext, Rk.w_gtp, Rk.w_gsc, Rk.w_gsn, Rk.w_escs, Rk.w_givs, Rk.slQ_l, Rk.slQ_w, Rk.backT, Option.getD_some, Option.getD_none, Rk.get_w, Rk.get_l, Rk.get_sl, Rk.seq_tup, Rk.seq_rol, Rk.seq_l, Rk.seq_loc, Rk.seq_sl, Rk.lst_rol, Rk.lst_l, Rk.lst_loc, Rk.lst_sl, Rk.lst_tup, Rk.ix_int, Rk.ix_some, Rk.seqT_l, Rk.seqT_tup, Rk.seqT_rol, Rk.seqT_loc, Rk.lstT_l, Rk.lstT_rol, Rk.lstT_loc, Rk.at_0, Rk.at_1, Rk.at_2, Rk.at_3, Rk.at_4, Rk.at_5, Rk.bin_int, Rk.i_add, Rk.i_sub, Rk.i_mul, Rk.i_div, Rk.i_mod, Rk.i_pow, Rk.u_neg, Rk.c_lt, Rk.c_le, Rk.c_gt, Rk.c_ge, Rk.c_eq, Rk.c_ne, Rk.c_isN, Rk.c_isI, Rk.c_seq, Rk.c_sne, Rk.t_non, Rk.t_bl, Rk.t_int, Rk.iw_int, Rk.bt_bl, Rk.b_int, Rk.b_intb, Rk.b_abs, Rk.b_lent, Rk.b_lenr, Rk.b_lenl, Rk.b_tup, Rk.b_list, Rk.b_all, Rk.b_any, Rk.b_sum, Rk.bls_nil, Rk.bls_cons, Rk.ints_nil, Rk.ints_cons, Rk.b_min1, Rk.b_max1, Rk.b_min2, Rk.b_max2, Rk.m_loc, Rk.m_sl, Rk.p_nil, Rk.p_cons, Rk.set_s, Rk.esc_l, Rk.isI_int, Rk.isI_bool, Rk.isI_tup, List.cons_append, List.nil_append, List.append_nil, List.getElem?_cons_zero, List.getElem?_cons_succ, List.set_cons_zero, List.set_cons_succ, List.length_cons, List.length_nil, List.map_nil, List.map_cons, Option.bind_some, Option.bind_none, Option.map_some, Option.map_none, Option.isSome_some, id_eq, true_and, and_true, decide_eq_true_eq, List.replicate_succ, List.replicate_zero, Nat.reduceAdd, Nat.reduceSub, Int.reduceMul, Int.reduceAdd, Int.reduceSub, Int.reduceNeg, if_true, if_false, Bool.true_eq_false, Bool.false_eq_true, reduceIte, e2]
    obtain ⟨a', b', c', k1, k2, k3, e4⟩ := e3 (y + d) (by omega)
    rw [e4]
    refine hk _ ?_; clear hk k
    rw [w_seq]
    have hj2 : (M.set i o)[j]? = some (.lst xs) := by rw [List.getElem?_set_ne hij]; exact hj
    try simp only [Rk.sat_ok, Rk.osat_some, Rk.osat_none, Rk.osat_ite, Rk.osat_map, Rk.osat_bind, Rk.w_var, Rk.w_con, Rk.w_bin, Rk.w_cmp, Rk.w_ix, Rk.w_bi, Rk.w_es0, Rk.w_es, Rk.w_ts0, Rk.w_ts, Rk.w_ws0, Rk.w_ws, Rk.w_W, Rk.w_T, Rk.w_esc, Rk.w_givw, Rk.w_givl, Rk.w_tup, Rk.w_lst, Rk.w_call, Rk.w_callK, Rk.w_un, Rk.w_not, Rk.w_and, Rk.w_or, Rk.w_ifx, Rk.w_sl, Rk.w_no, Rk.w_so, Rk.w_asb, Rk.w_tru, Rk.w_bnot, Rk.w_band, Rk.w_bor, Rk.w_yes, Rk.w_skip, Rk.w_expr, Rk.w_set, Rk.w_ret, Rk.w_retN, Rk.w_if, Rk.w_asg, Rk.w_par, Rk.w_gnm, Rk.w_gsb, Rk.w_mt, Rk.w_ext, Rk.w_gtp, Rk.w_gsc, Rk.w_gsn, Rk.w_escs, Rk.w_givs, Rk.slQ_l, Rk.slQ_w, Rk.backT, Option.getD_some, Option.getD_none, Rk.get_w, Rk.get_l, Rk.get_sl, Rk.seq_tup, Rk.seq_rol, Rk.seq_l, Rk.seq_loc, Rk.seq_sl, Rk.lst_rol, Rk.lst_l, Rk.lst_loc, Rk.lst_sl, Rk.lst_tup, Rk.ix_int, Rk.ix_some, Rk.seqT_l, Rk.seqT_tup, Rk.seqT_rol, Rk.seqT_loc, Rk.lstT_l, Rk.lstT_rol, Rk.lstT_loc, Rk.at_0, Rk.at_1, Rk.at_2, Rk.at_3, Rk.at_4, Rk.at_5, Rk.bin_int, Rk.i_add, Rk.i_sub, Rk.i_mul, Rk.i_div, Rk.i_mod, Rk.i_pow, Rk.u_neg, Rk.c_lt, Rk.c_le, Rk.c_gt, Rk.c_ge, Rk.c_eq, Rk.c_ne, Rk.c_isN, Rk.c_isI, Rk.c_seq, Rk.c_sne, Rk.t_non, Rk.t_bl, Rk.t_int, Rk.iw_int, Rk.bt_bl, Rk.b_int, Rk.b_intb, Rk.b_abs, Rk.b_lent, Rk.b_lenr, Rk.b_lenl, Rk.b_tup, Rk.b_list, Rk.b_all, Rk.b_any, Rk.b_sum, Rk.bls_nil, Rk.bls_cons, Rk.ints_nil, Rk.ints_cons, Rk.b_min1, Rk.b_max1, Rk.b_min2, Rk.b_max2, Rk.m_loc, Rk.m_sl, Rk.p_nil, Rk.p_cons, Rk.set_s, Rk.esc_l, Rk.isI_int, Rk.isI_bool, Rk.isI_tup, List.cons_append, List.nil_append, List.append_nil, List.getElem?_cons_zero, List.getElem?_cons_succ, List.set_cons_zero, List.set_cons_succ, List.length_cons, List.length_nil, List.map_nil, List.map_cons, Option.bind_some, Option.bind_none, Option.map_some, Option.map_none, Option.isSome_some, id_eq, true_and, and_true, decide_eq_true_eq, List.replicate_succ, List.replicate_zero, Nat.reduceAdd, Nat.reduceSub, Int.reduceMul, Int.reduceAdd, Int.reduceSub, Int.reduceNeg, if_true, if_false, Bool.true_eq_false, Bool.false_eq_true, reduceIte, hj2, lmApp]
    refine ⟨Nat.lt_of_lt_of_le hl (by decide), h (ce a' b' c') _ _ ⟨a', b', c', k1, k2, k3, rfl⟩ ?_ (hp2.oth hij)⟩
    exact List.getElem?_set_self ((List.getElem?_eq_some_iff.mp hj2).1)
  have e : ax = 0 ∨ ax = 1 ∨ ax = 2 := by omega
  rcases e with rfl | rfl | rfl
  · exact go a ha rfl 0 rfl fun y' hy => ⟨y', b, c, hy, by omega, by omega, rfl⟩
  · exact go b hb rfl 1 rfl fun y' hy => ⟨a, y', c, by omega, hy, by omega, rfl⟩
  · exact go c hc rfl 2 rfl fun y' hy => ⟨a, b, y', by omega, by omega, hy, rfl⟩
abbrev bodyC (O : Orc) : DS := (dseq (dif (band (asb (dcmp .NotEq (dvar 2) (dlst []))) (asb (dcmp .Gt (dcall (O.fn 14) 2 [(dvar 0), (dcon (.int 3))] []) (dcon (.int 0))))) (dseq (dpar [4, 5] [(dcall (O.fn 14) 2 [(dvar 0), (dcon (.int 3))] []), (dbi bList [(dcall (O.fn 13) 2 [(dvar 0), (dvar 2)] [])])]) (tailC O)) (dseq (dexpr (dmt (dvar 2) [(dcall (O.fn 12) 3 [(dvar 0), (dun .USub (dcon (.int 4))), (dcon (.int 5))] [])] lmApp)) dskip)) dskip)
theorem body_c {xs : List W} {i B : Nat} {k : Int} {t : T} {x1 x3 x4 x5 : Option T} {kb kc : S → Prop} {knx : S → Prop} (hp : Pot M i k) (hk : k < 70000) (ht : At M i t xs) (hx : ∀ w ∈ xs, isCeB B w) (hB : 5 ≤ B) (hB2 : B < 900) (hl : xs.length < 1000)
    (h : ∀ (w : W) (M' : List Ob) (t' : T) (x4 x5 : Option T), isCeB (B + 1) w → At M' i t' (xs ++ [w]) → Pot M' i (k + 6) → knx ⟨[some (.w (.loc i)), x1, some t', x3, x4, x5], M'⟩) :
    (bodyC (ob (n + 3)) ⟨[some (.w (.loc i)), x1, some t, x3, x4, x5], M⟩).sat { nx := knx, rt := R, bk := kb, ct := kc } := by
  have hxc : ∀ w ∈ xs, isCe w := fun w hw => by
    obtain ⟨a, b, c, h1, h2, h3, e⟩ := hx w hw
    exact ⟨a, b, c, by omega, by omega, by omega, e⟩
  -- the second branch
  have els : ∀ {M : List Ob} {k' : Int}, Pot M i k' → k' ≤ k + 1 → At M i t xs → ((dseq (dexpr (dmt (dvar 2) [(dcall ((ob (n + 3)).fn 12) 3 [(dvar 0), (dun .USub (dcon (.int 4))), (dcon (.int 5))] [])] lmApp)) dskip) ⟨[some (.w (.loc i)), x1, some t, x3, x4, x5], M⟩).sat { nx := knx, rt := R, bk := kb, ct := kc } := by
    intro M k' hp hk' ht
    have hk2 : k' < 80001 := by omega
    rw [w_seq]
    rcases ht with rfl | ⟨j, rfl, hj, hij⟩
    · try simp only [Rk.sat_ok, Rk.osat_some, Rk.osat_none, Rk.osat_ite, Rk.osat_map, Rk.osat_bind, Rk.w_var, Rk.w_con, Rk.w_bin, Rk.w_cmp, Rk.w_ix, Rk.w_bi, Rk.w_es0, Rk.w_es, Rk.w_ts0, Rk.w_ts, Rk.w_ws0, Rk.w_ws, Rk.w_W, Rk.w_T, Rk.w_esc, Rk.w_givw, Rk.w_givl, Rk.w_tup, Rk.w_lst, Rk.w_call, Rk.w_callK, Rk.w_un, Rk.w_not, Rk.w_and, Rk.w_or, Rk.w_ifx, Rk.w_sl, Rk.w_no, Rk.w_so, Rk.w_asb, Rk.w_tru, Rk.w_bnot, Rk.w_band, Rk.w_bor, Rk.w_yes, Rk.w_skip, Rk.w_expr, Rk.w_set, Rk.w_ret, Rk.w_retN, Rk.w_if, Rk.w_asg, Rk.w_par, Rk.w_gnm, Rk.w_gsb, Rk.w_mt, Rk.w_ext, Rk.w_gtp, Rk.w_gsc, Rk.w_gsn, Rk.w_escs, Rk.w_givs, Rk.slQ_l, Rk.slQ_w, Rk.backT, Option.getD_some, Option.getD_none, Rk.get_w, Rk.get_l, Rk.get_sl, Rk.seq_tup, Rk.seq_rol, Rk.seq_l, Rk.seq_loc, Rk.seq_sl, Rk.lst_rol, Rk.lst_l, Rk.lst_loc, Rk.lst_sl, Rk.lst_tup, Rk.ix_int, Rk.ix_some, Rk.seqT_l, Rk.seqT_tup, Rk.seqT_rol, Rk.seqT_loc, Rk.lstT_l, Rk.lstT_rol, Rk.lstT_loc, Rk.at_0, Rk.at_1, Rk.at_2, Rk.at_3, Rk.at_4, Rk.at_5, Rk.bin_int, Rk.i_add, Rk.i_sub, Rk.i_mul, Rk.i_div, Rk.i_mod, Rk.i_pow, Rk.u_neg, Rk.c_lt, Rk.c_le, Rk.c_gt, Rk.c_ge, Rk.c_eq, Rk.c_ne, Rk.c_isN, Rk.c_isI, Rk.c_seq, Rk.c_sne, Rk.t_non, Rk.t_bl, Rk.t_int, Rk.iw_int, Rk.bt_bl, Rk.b_int, Rk.b_intb, Rk.b_abs, Rk.b_lent, Rk.b_lenr, Rk.b_lenl, Rk.b_tup, Rk.b_list, Rk.b_all, Rk.b_any, Rk.b_sum, Rk.bls_nil, Rk.bls_cons, Rk.ints_nil, Rk.ints_cons, Rk.b_min1, Rk.b_max1, Rk.b_min2, Rk.b_max2, Rk.m_loc, Rk.m_sl, Rk.p_nil, Rk.p_cons, Rk.set_s, Rk.esc_l, Rk.isI_int, Rk.isI_bool, Rk.isI_tup, List.cons_append, List.nil_append, List.append_nil, List.getElem?_cons_zero, List.getElem?_cons_succ, List.set_cons_zero, List.set_cons_succ, List.length_cons, List.length_nil, List.map_nil, List.map_cons, Option.bind_some, Option.bind_none, Option.map_some, Option.map_none, Option.isSome_some, id_eq, true_and, and_true, decide_eq_true_eq, List.replicate_succ, List.replicate_zero, Nat.reduceAdd, Nat.reduceSub, Int.reduceMul, Int.reduceAdd, Int.reduceSub, Int.reduceNeg, if_true, if_false, Bool.true_eq_false, Bool.false_eq_true, reduceIte]
      refine c_law_drawn_cell hp (by omega) (by decide) (by decide) fun a b c o h1 h2 h3 h4 h5 h6 hp2 => ?_
      try simp only [Rk.sat_ok, Rk.osat_some, Rk.osat_none, Rk.osat_ite, Rk.osat_map, Rk.osat_bind, Rk.w_var, Rk.w_con, Rk.w_bin, Rk.w_cmp, Rk.w_ix, Rk.w_bi, Rk.w_es0, Rk.w_es, Rk.w_ts0, Rk.w_ts, Rk.w_ws0, Rk.w_ws, Rk.w_W, Rk.w_T, Rk.w_esc, Rk.w_givw, Rk.w_givl, Rk.w_tup, Rk.w_lst, Rk.w_call, Rk.w_callK, Rk.w_un, Rk.w_not, Rk.w_and, Rk.w_or, Rk.w_ifx, Rk.w_sl, Rk.w_no, Rk.w_so, Rk.w_asb, Rk.w_tru, Rk.w_bnot, Rk.w_band, Rk.w_bor, Rk.w_yes, Rk.w_skip, Rk.w_expr, Rk.w_set, Rk.w_ret, Rk.w_retN, Rk.w_if, Rk.w_asg, Rk.w_par, Rk.w_gnm, Rk.w_gsb, Rk.w_mt, Rk.w_ext, Rk.w_gtp, Rk.w_gsc, Rk.w_gsn, Rk.w_escs, Rk.w_givs, Rk.slQ_l, Rk.slQ_w, Rk.backT, Option.getD_some, Option.getD_none, Rk.get_w, Rk.get_l, Rk.get_sl, Rk.seq_tup, Rk.seq_rol, Rk.seq_l, Rk.seq_loc, Rk.seq_sl, Rk.lst_rol, Rk.lst_l, Rk.lst_loc, Rk.lst_sl, Rk.lst_tup, Rk.ix_int, Rk.ix_some, Rk.seqT_l, Rk.seqT_tup, Rk.seqT_rol, Rk.seqT_loc, Rk.lstT_l, Rk.lstT_rol, Rk.lstT_loc, Rk.at_0, Rk.at_1, Rk.at_2, Rk.at_3, Rk.at_4, Rk.at_5, Rk.bin_int, Rk.i_add, Rk.i_sub, Rk.i_mul, Rk.i_div, Rk.i_mod, Rk.i_pow, Rk.u_neg, Rk.c_lt, Rk.c_le, Rk.c_gt, Rk.c_ge, Rk.c_eq, Rk.c_ne, Rk.c_isN, Rk.c_isI, Rk.c_seq, Rk.c_sne, Rk.t_non, Rk.t_bl, Rk.t_int, Rk.iw_int, Rk.bt_bl, Rk.b_int, Rk.b_intb, Rk.b_abs, Rk.b_lent, Rk.b_lenr, Rk.b_lenl, Rk.b_tup, Rk.b_list, Rk.b_all, Rk.b_any, Rk.b_sum, Rk.bls_nil, Rk.bls_cons, Rk.ints_nil, Rk.ints_cons, Rk.b_min1, Rk.b_max1, Rk.b_min2, Rk.b_max2, Rk.m_loc, Rk.m_sl, Rk.p_nil, Rk.p_cons, Rk.set_s, Rk.esc_l, Rk.isI_int, Rk.isI_bool, Rk.isI_tup, List.cons_append, List.nil_append, List.append_nil, List.getElem?_cons_zero, List.getElem?_cons_succ, List.set_cons_zero, List.set_cons_succ, List.length_cons, List.length_nil, List.map_nil, List.map_cons, Option.bind_some, Option.bind_none, Option.map_some, Option.map_none, Option.isSome_some, id_eq, true_and, and_true, decide_eq_true_eq, List.replicate_succ, List.replicate_zero, Nat.reduceAdd, Nat.reduceSub, Int.reduceMul, Int.reduceAdd, Int.reduceSub, Int.reduceNeg, if_true, if_false, Bool.true_eq_false, Bool.false_eq_true, reduceIte, lmApp]
      exact ⟨Nat.lt_of_lt_of_le hl (by decide), h (ce a b c) _ _ _ _ ⟨a, b, c, by omega, by omega, by omega, rfl⟩ (.inl rfl) (hp2.up (by omega))⟩
    · try simp only [Rk.sat_ok, Rk.osat_some, Rk.osat_none, Rk.osat_ite, Rk.osat_map, Rk.osat_bind, Rk.w_var, Rk.w_con, Rk.w_bin, Rk.w_cmp, Rk.w_ix, Rk.w_bi, Rk.w_es0, Rk.w_es, Rk.w_ts0, Rk.w_ts, Rk.w_ws0, Rk.w_ws, Rk.w_W, Rk.w_T, Rk.w_esc, Rk.w_givw, Rk.w_givl, Rk.w_tup, Rk.w_lst, Rk.w_call, Rk.w_callK, Rk.w_un, Rk.w_not, Rk.w_and, Rk.w_or, Rk.w_ifx, Rk.w_sl, Rk.w_no, Rk.w_so, Rk.w_asb, Rk.w_tru, Rk.w_bnot, Rk.w_band, Rk.w_bor, Rk.w_yes, Rk.w_skip, Rk.w_expr, Rk.w_set, Rk.w_ret, Rk.w_retN, Rk.w_if, Rk.w_asg, Rk.w_par, Rk.w_gnm, Rk.w_gsb, Rk.w_mt, Rk.w_ext, Rk.w_gtp, Rk.w_gsc, Rk.w_gsn, Rk.w_escs, Rk.w_givs, Rk.slQ_l, Rk.slQ_w, Rk.backT, Option.getD_some, Option.getD_none, Rk.get_w, Rk.get_l, Rk.get_sl, Rk.seq_tup, Rk.seq_rol, Rk.seq_l, Rk.seq_loc, Rk.seq_sl, Rk.lst_rol, Rk.lst_l, Rk.lst_loc, Rk.lst_sl, Rk.lst_tup, Rk.ix_int, Rk.ix_some, Rk.seqT_l, Rk.seqT_tup, Rk.seqT_rol, Rk.seqT_loc, Rk.lstT_l, Rk.lstT_rol, Rk.lstT_loc, Rk.at_0, Rk.at_1, Rk.at_2, Rk.at_3, Rk.at_4, Rk.at_5, Rk.bin_int, Rk.i_add, Rk.i_sub, Rk.i_mul, Rk.i_div, Rk.i_mod, Rk.i_pow, Rk.u_neg, Rk.c_lt, Rk.c_le, Rk.c_gt, Rk.c_ge, Rk.c_eq, Rk.c_ne, Rk.c_isN, Rk.c_isI, Rk.c_seq, Rk.c_sne, Rk.t_non, Rk.t_bl, Rk.t_int, Rk.iw_int, Rk.bt_bl, Rk.b_int, Rk.b_intb, Rk.b_abs, Rk.b_lent, Rk.b_lenr, Rk.b_lenl, Rk.b_tup, Rk.b_list, Rk.b_all, Rk.b_any, Rk.b_sum, Rk.bls_nil, Rk.bls_cons, Rk.ints_nil, Rk.ints_cons, Rk.b_min1, Rk.b_max1, Rk.b_min2, Rk.b_max2, Rk.m_loc, Rk.m_sl, Rk.p_nil, Rk.p_cons, Rk.set_s, Rk.esc_l, Rk.isI_int, Rk.isI_bool, Rk.isI_tup, List.cons_append, List.nil_append, List.append_nil, List.getElem?_cons_zero, List.getElem?_cons_succ, List.set_cons_zero, List.set_cons_succ, List.length_cons, List.length_nil, List.map_nil, List.map_cons, Option.bind_some, Option.bind_none, Option.map_some, Option.map_none, Option.isSome_some, id_eq, true_and, and_true, decide_eq_true_eq, List.replicate_succ, List.replicate_zero, Nat.reduceAdd, Nat.reduceSub, Int.reduceMul, Int.reduceAdd, Int.reduceSub, Int.reduceNeg, if_true, if_false, Bool.true_eq_false, Bool.false_eq_true, reduceIte, hj]
      refine c_law_drawn_cell hp (by omega) (by decide) (by decide) fun a b c o h1 h2 h3 h4 h5 h6 hp2 => ?_
      have hj2 : (M.set i o)[j]? = some (.lst xs) := by rw [List.getElem?_set_ne hij]; exact hj
      try simp only [Rk.sat_ok, Rk.osat_some, Rk.osat_none, Rk.osat_ite, Rk.osat_map, Rk.osat_bind, Rk.w_var, Rk.w_con, Rk.w_bin, Rk.w_cmp, Rk.w_ix, Rk.w_bi, Rk.w_es0, Rk.w_es, Rk.w_ts0, Rk.w_ts, Rk.w_ws0, Rk.w_ws, Rk.w_W, Rk.w_T, Rk.w_esc, Rk.w_givw, Rk.w_givl, Rk.w_tup, Rk.w_lst, Rk.w_call, Rk.w_callK, Rk.w_un, Rk.w_not, Rk.w_and, Rk.w_or, Rk.w_ifx, Rk.w_sl, Rk.w_no, Rk.w_so, Rk.w_asb, Rk.w_tru, Rk.w_bnot, Rk.w_band, Rk.w_bor, Rk.w_yes, Rk.w_skip, Rk.w_expr, Rk.w_set, Rk.w_ret, Rk.w_retN, Rk.w_if, Rk.w_asg, Rk.w_par, Rk.w_gnm, Rk.w_gsb, Rk.w_mt, Rk.w_ext, Rk.w_gtp, Rk.w_gsc, Rk.w_gsn, Rk.w_escs, Rk.w_givs, Rk.slQ_l, Rk.slQ_w, Rk.backT, Option.getD_some, Option.getD_none, Rk.get_w, Rk.get_l, Rk.get_sl, Rk.seq_tup, Rk.seq_rol, Rk.seq_l, Rk.seq_loc, Rk.seq_sl, Rk.lst_rol, Rk.lst_l, Rk.lst_loc, Rk.lst_sl, Rk.lst_tup, Rk.ix_int, Rk.ix_some, Rk.seqT_l, Rk.seqT_tup, Rk.seqT_rol, Rk.seqT_loc, Rk.lstT_l, Rk.lstT_rol, Rk.lstT_loc, Rk.at_0, Rk.at_1, Rk.at_2, Rk.at_3, Rk.at_4, Rk.at_5, Rk.bin_int, Rk.i_add, Rk.i_sub, Rk.i_mul, Rk.i_div, Rk.i_mod, Rk.i_pow, Rk.u_neg, Rk.c_lt, Rk.c_le, Rk.c_gt, Rk.c_ge, Rk.c_eq, Rk.c_ne, Rk.c_isN, Rk.c_isI, Rk.c_seq, Rk.c_sne, Rk.t_non, Rk.t_bl, Rk.t_int, Rk.iw_int, Rk.bt_bl, Rk.b_int, Rk.b_intb, Rk.b_abs, Rk.b_lent, Rk.b_lenr, Rk.b_lenl, Rk.b_tup, Rk.b_list, Rk.b_all, Rk.b_any, Rk.b_sum, Rk.bls_nil, Rk.bls_cons, Rk.ints_nil, Rk.ints_cons, Rk.b_min1, Rk.b_max1, Rk.b_min2, Rk.b_max2, Rk.m_loc, Rk.m_sl, Rk.p_nil, Rk.p_cons, Rk.set_s, Rk.esc_l, Rk.isI_int, Rk.isI_bool, Rk.isI_tup, List.cons_append, List.nil_append, List.append_nil, List.getElem?_cons_zero, List.getElem?_cons_succ, List.set_cons_zero, List.set_cons_succ, List.length_cons, List.length_nil, List.map_nil, List.map_cons, Option.bind_some, Option.bind_none, Option.map_some, Option.map_none, Option.isSome_some, id_eq, true_and, and_true, decide_eq_true_eq, List.replicate_succ, List.replicate_zero, Nat.reduceAdd, Nat.reduceSub, Int.reduceMul, Int.reduceAdd, Int.reduceSub, Int.reduceNeg, if_true, if_false, Bool.true_eq_false, Bool.false_eq_true, reduceIte, hj2, lmApp]
      exact ⟨Nat.lt_of_lt_of_le hl (by decide), h (ce a b c) _ _ _ _ ⟨a, b, c, by omega, by omega, by omega, rfl⟩ (.inr ⟨j, rfl, List.getElem?_set_self ((List.getElem?_eq_some_iff.mp hj2).1), hij⟩) ((hp2.oth hij).up (by omega))⟩
  -- the first branch
  have thn : ∀ {M : List Ob} {k' : Int}, Pot M i k' → k' ≤ k + 1 → At M i t xs → xs ≠ [] → ((dseq (dpar [4, 5] [(dcall ((ob (n + 3)).fn 14) 2 [(dvar 0), (dcon (.int 3))] []), (dbi bList [(dcall ((ob (n + 3)).fn 13) 2 [(dvar 0), (dvar 2)] [])])]) (tailC (ob (n + 3)))) ⟨[some (.w (.loc i)), x1, some t, x3, x4, x5], M⟩).sat { nx := knx, rt := R, bk := kb, ct := kc } := by
    intro M k' hp hk' ht hne
    have hk2 : k' < 80001 := by omega
    have hpos : 0 < xs.length := List.length_pos_iff.mpr hne
    rw [w_seq]
    rcases ht with rfl | ⟨j, rfl, hj, hij⟩
    · try simp only [Rk.sat_ok, Rk.osat_some, Rk.osat_none, Rk.osat_ite, Rk.osat_map, Rk.osat_bind, Rk.w_var, Rk.w_con, Rk.w_bin, Rk.w_cmp, Rk.w_ix, Rk.w_bi, Rk.w_es0, Rk.w_es, Rk.w_ts0, Rk.w_ts, Rk.w_ws0, Rk.w_ws, Rk.w_W, Rk.w_T, Rk.w_esc, Rk.w_givw, Rk.w_givl, Rk.w_tup, Rk.w_lst, Rk.w_call, Rk.w_callK, Rk.w_un, Rk.w_not, Rk.w_and, Rk.w_or, Rk.w_ifx, Rk.w_sl, Rk.w_no, Rk.w_so, Rk.w_asb, Rk.w_tru, Rk.w_bnot, Rk.w_band, Rk.w_bor, Rk.w_yes, Rk.w_skip, Rk.w_expr, Rk.w_set, Rk.w_ret, Rk.w_retN, Rk.w_if, Rk.w_asg, Rk.w_par, Rk.w_gnm, Rk.w_gsb, Rk.w_mt, Rk.w_ext, Rk.w_gtp, Rk.w_gsc, Rk.w_gsn, Rk.w_escs, Rk.w_givs, Rk.slQ_l, Rk.slQ_w, Rk.backT, Option.getD_some, Option.getD_none, Rk.get_w, Rk.get_l, Rk.get_sl, Rk.seq_tup, Rk.seq_rol, Rk.seq_l, Rk.seq_loc, Rk.seq_sl, Rk.lst_rol, Rk.lst_l, Rk.lst_loc, Rk.lst_sl, Rk.lst_tup, Rk.ix_int, Rk.ix_some, Rk.seqT_l, Rk.seqT_tup, Rk.seqT_rol, Rk.seqT_loc, Rk.lstT_l, Rk.lstT_rol, Rk.lstT_loc, Rk.at_0, Rk.at_1, Rk.at_2, Rk.at_3, Rk.at_4, Rk.at_5, Rk.bin_int, Rk.i_add, Rk.i_sub, Rk.i_mul, Rk.i_div, Rk.i_mod, Rk.i_pow, Rk.u_neg, Rk.c_lt, Rk.c_le, Rk.c_gt, Rk.c_ge, Rk.c_eq, Rk.c_ne, Rk.c_isN, Rk.c_isI, Rk.c_seq, Rk.c_sne, Rk.t_non, Rk.t_bl, Rk.t_int, Rk.iw_int, Rk.bt_bl, Rk.b_int, Rk.b_intb, Rk.b_abs, Rk.b_lent, Rk.b_lenr, Rk.b_lenl, Rk.b_tup, Rk.b_list, Rk.b_all, Rk.b_any, Rk.b_sum, Rk.bls_nil, Rk.bls_cons, Rk.ints_nil, Rk.ints_cons, Rk.b_min1, Rk.b_max1, Rk.b_min2, Rk.b_max2, Rk.m_loc, Rk.m_sl, Rk.p_nil, Rk.p_cons, Rk.set_s, Rk.esc_l, Rk.isI_int, Rk.isI_bool, Rk.isI_tup, List.cons_append, List.nil_append, List.append_nil, List.getElem?_cons_zero, List.getElem?_cons_succ, List.set_cons_zero, List.set_cons_succ, List.length_cons, List.length_nil, List.map_nil, List.map_cons, Option.bind_some, Option.bind_none, Option.map_some, Option.map_none, Option.isSome_some, id_eq, true_and, and_true, decide_eq_true_eq, List.replicate_succ, List.replicate_zero, Nat.reduceAdd, Nat.reduceSub, Int.reduceMul, Int.reduceAdd, Int.reduceSub, Int.reduceNeg, if_true, if_false, Bool.true_eq_false, Bool.false_eq_true, reduceIte]
      refine c_law_take hp (by omega) (by decide) (by decide) fun r o h1 h2 hp2 => ?_
      try simp only [Rk.sat_ok, Rk.osat_some, Rk.osat_none, Rk.osat_ite, Rk.osat_map, Rk.osat_bind, Rk.w_var, Rk.w_con, Rk.w_bin, Rk.w_cmp, Rk.w_ix, Rk.w_bi, Rk.w_es0, Rk.w_es, Rk.w_ts0, Rk.w_ts, Rk.w_ws0, Rk.w_ws, Rk.w_W, Rk.w_T, Rk.w_esc, Rk.w_givw, Rk.w_givl, Rk.w_tup, Rk.w_lst, Rk.w_call, Rk.w_callK, Rk.w_un, Rk.w_not, Rk.w_and, Rk.w_or, Rk.w_ifx, Rk.w_sl, Rk.w_no, Rk.w_so, Rk.w_asb, Rk.w_tru, Rk.w_bnot, Rk.w_band, Rk.w_bor, Rk.w_yes, Rk.w_skip, Rk.w_expr, Rk.w_set, Rk.w_ret, Rk.w_retN, Rk.w_if, Rk.w_asg, Rk.w_par, Rk.w_gnm, Rk.w_gsb, Rk.w_mt, Rk.w_ext, Rk.w_gtp, Rk.w_gsc, Rk.w_gsn, Rk.w_escs, Rk.w_givs, Rk.slQ_l, Rk.slQ_w, Rk.backT, Option.getD_some, Option.getD_none, Rk.get_w, Rk.get_l, Rk.get_sl, Rk.seq_tup, Rk.seq_rol, Rk.seq_l, Rk.seq_loc, Rk.seq_sl, Rk.lst_rol, Rk.lst_l, Rk.lst_loc, Rk.lst_sl, Rk.lst_tup, Rk.ix_int, Rk.ix_some, Rk.seqT_l, Rk.seqT_tup, Rk.seqT_rol, Rk.seqT_loc, Rk.lstT_l, Rk.lstT_rol, Rk.lstT_loc, Rk.at_0, Rk.at_1, Rk.at_2, Rk.at_3, Rk.at_4, Rk.at_5, Rk.bin_int, Rk.i_add, Rk.i_sub, Rk.i_mul, Rk.i_div, Rk.i_mod, Rk.i_pow, Rk.u_neg, Rk.c_lt, Rk.c_le, Rk.c_gt, Rk.c_ge, Rk.c_eq, Rk.c_ne, Rk.c_isN, Rk.c_isI, Rk.c_seq, Rk.c_sne, Rk.t_non, Rk.t_bl, Rk.t_int, Rk.iw_int, Rk.bt_bl, Rk.b_int, Rk.b_intb, Rk.b_abs, Rk.b_lent, Rk.b_lenr, Rk.b_lenl, Rk.b_tup, Rk.b_list, Rk.b_all, Rk.b_any, Rk.b_sum, Rk.bls_nil, Rk.bls_cons, Rk.ints_nil, Rk.ints_cons, Rk.b_min1, Rk.b_max1, Rk.b_min2, Rk.b_max2, Rk.m_loc, Rk.m_sl, Rk.p_nil, Rk.p_cons, Rk.set_s, Rk.esc_l, Rk.isI_int, Rk.isI_bool, Rk.isI_tup, List.cons_append, List.nil_append, List.append_nil, List.getElem?_cons_zero, List.getElem?_cons_succ, List.set_cons_zero, List.set_cons_succ, List.length_cons, List.length_nil, List.map_nil, List.map_cons, Option.bind_some, Option.bind_none, Option.map_some, Option.map_none, Option.isSome_some, id_eq, true_and, and_true, decide_eq_true_eq, List.replicate_succ, List.replicate_zero, Nat.reduceAdd, Nat.reduceSub, Int.reduceMul, Int.reduceAdd, Int.reduceSub, Int.reduceNeg, if_true, if_false, Bool.true_eq_false, Bool.false_eq_true, reduceIte]
      have hi : i ≠ (M.set i o).length := by have := hp2.lt; omega
      generalize M.set i o = M1 at hp2 hi ⊢
      refine c_law_of_at (hp2.app (o := .lst xs)) (by omega) (by simp) hi hpos (by omega) fun u o2 hu hp3 => ?_
      obtain ⟨a, b, c, h3, h4, h5, rfl⟩ := hx u hu
      try simp only [Rk.sat_ok, Rk.osat_some, Rk.osat_none, Rk.osat_ite, Rk.osat_map, Rk.osat_bind, Rk.w_var, Rk.w_con, Rk.w_bin, Rk.w_cmp, Rk.w_ix, Rk.w_bi, Rk.w_es0, Rk.w_es, Rk.w_ts0, Rk.w_ts, Rk.w_ws0, Rk.w_ws, Rk.w_W, Rk.w_T, Rk.w_esc, Rk.w_givw, Rk.w_givl, Rk.w_tup, Rk.w_lst, Rk.w_call, Rk.w_callK, Rk.w_un, Rk.w_not, Rk.w_and, Rk.w_or, Rk.w_ifx, Rk.w_sl, Rk.w_no, Rk.w_so, Rk.w_asb, Rk.w_tru, Rk.w_bnot, Rk.w_band, Rk.w_bor, Rk.w_yes, Rk.w_skip, Rk.w_expr, Rk.w_set, Rk.w_ret, Rk.w_retN, Rk.w_if, Rk.w_asg, Rk.w_par, Rk.w_gnm, Rk.w_gsb, Rk.w_mt, Rk.w_ext, Rk.w_gtp, Rk.w_gsc, Rk.w_gsn, Rk.w_escs, Rk.w_givs, Rk.slQ_l, Rk.slQ_w, Rk.backT, Option.getD_some, Option.getD_none, Rk.get_w, Rk.get_l, Rk.get_sl, Rk.seq_tup, Rk.seq_rol, Rk.seq_l, Rk.seq_loc, Rk.seq_sl, Rk.lst_rol, Rk.lst_l, Rk.lst_loc, Rk.lst_sl, Rk.lst_tup, Rk.ix_int, Rk.ix_some, Rk.seqT_l, Rk.seqT_tup, Rk.seqT_rol, Rk.seqT_loc, Rk.lstT_l, Rk.lstT_rol, Rk.lstT_loc, Rk.at_0, Rk.at_1, Rk.at_2, Rk.at_3, Rk.at_4, Rk.at_5, Rk.bin_int, Rk.i_add, Rk.i_sub, Rk.i_mul, Rk.i_div, Rk.i_mod, Rk.i_pow, Rk.u_neg, Rk.c_lt, Rk.c_le, Rk.c_gt, Rk.c_ge, Rk.c_eq, Rk.c_ne, Rk.c_isN, Rk.c_isI, Rk.c_seq, Rk.c_sne, Rk.t_non, Rk.t_bl, Rk.t_int, Rk.iw_int, Rk.bt_bl, Rk.b_int, Rk.b_intb, Rk.b_abs, Rk.b_lent, Rk.b_lenr, Rk.b_lenl, Rk.b_tup, Rk.b_list, Rk.b_all, Rk.b_any, Rk.b_sum, Rk.bls_nil, Rk.bls_cons, Rk.ints_nil, Rk.ints_cons, Rk.b_min1, Rk.b_max1, Rk.b_min2, Rk.b_max2, Rk.m_loc, Rk.m_sl, Rk.p_nil, Rk.p_cons, Rk.set_s, Rk.esc_l, Rk.isI_int, Rk.isI_bool, Rk.isI_tup, List.cons_append, List.nil_append, List.append_nil, List.getElem?_cons_zero, List.getElem?_cons_succ, List.set_cons_zero, List.set_cons_succ, List.length_cons, List.length_nil, List.map_nil, List.map_cons, Option.bind_some, Option.bind_none, Option.map_some, Option.map_none, Option.isSome_some, id_eq, true_and, and_true, decide_eq_true_eq, List.replicate_succ, List.replicate_zero, Nat.reduceAdd, Nat.reduceSub, Int.reduceMul, Int.reduceAdd, Int.reduceSub, Int.reduceNeg, if_true, if_false, Bool.true_eq_false, Bool.false_eq_true, reduceIte]
      refine then_tail (n := n + 1) (B := B) hp3 (by omega) (xs := xs) ?_ hi hl h3 h4 h5 h1 h2 fun w M' x5 g1 g2 g3 => ?_
      · rw [List.getElem?_set_ne hi]; simp
      · exact h w M' _ _ _ g1 (.inr ⟨_, rfl, g2, hi⟩) (g3.up (by omega))
    · try simp only [Rk.sat_ok, Rk.osat_some, Rk.osat_none, Rk.osat_ite, Rk.osat_map, Rk.osat_bind, Rk.w_var, Rk.w_con, Rk.w_bin, Rk.w_cmp, Rk.w_ix, Rk.w_bi, Rk.w_es0, Rk.w_es, Rk.w_ts0, Rk.w_ts, Rk.w_ws0, Rk.w_ws, Rk.w_W, Rk.w_T, Rk.w_esc, Rk.w_givw, Rk.w_givl, Rk.w_tup, Rk.w_lst, Rk.w_call, Rk.w_callK, Rk.w_un, Rk.w_not, Rk.w_and, Rk.w_or, Rk.w_ifx, Rk.w_sl, Rk.w_no, Rk.w_so, Rk.w_asb, Rk.w_tru, Rk.w_bnot, Rk.w_band, Rk.w_bor, Rk.w_yes, Rk.w_skip, Rk.w_expr, Rk.w_set, Rk.w_ret, Rk.w_retN, Rk.w_if, Rk.w_asg, Rk.w_par, Rk.w_gnm, Rk.w_gsb, Rk.w_mt, Rk.w_ext, Rk.w_gtp, Rk.w_gsc, Rk.w_gsn, Rk.w_escs, Rk.w_givs, Rk.slQ_l, Rk.slQ_w, Rk.backT, Option.getD_some, Option.getD_none, Rk.get_w, Rk.get_l, Rk.get_sl, Rk.seq_tup, Rk.seq_rol, Rk.seq_l, Rk.seq_loc, Rk.seq_sl, Rk.lst_rol, Rk.lst_l, Rk.lst_loc, Rk.lst_sl, Rk.lst_tup, Rk.ix_int, Rk.ix_some, Rk.seqT_l, Rk.seqT_tup, Rk.seqT_rol, Rk.seqT_loc, Rk.lstT_l, Rk.lstT_rol, Rk.lstT_loc, Rk.at_0, Rk.at_1, Rk.at_2, Rk.at_3, Rk.at_4, Rk.at_5, Rk.bin_int, Rk.i_add, Rk.i_sub, Rk.i_mul, Rk.i_div, Rk.i_mod, Rk.i_pow, Rk.u_neg, Rk.c_lt, Rk.c_le, Rk.c_gt, Rk.c_ge, Rk.c_eq, Rk.c_ne, Rk.c_isN, Rk.c_isI, Rk.c_seq, Rk.c_sne, Rk.t_non, Rk.t_bl, Rk.t_int, Rk.iw_int, Rk.bt_bl, Rk.b_int, Rk.b_intb, Rk.b_abs, Rk.b_lent, Rk.b_lenr, Rk.b_lenl, Rk.b_tup, Rk.b_list, Rk.b_all, Rk.b_any, Rk.b_sum, Rk.bls_nil, Rk.bls_cons, Rk.ints_nil, Rk.ints_cons, Rk.b_min1, Rk.b_max1, Rk.b_min2, Rk.b_max2, Rk.m_loc, Rk.m_sl, Rk.p_nil, Rk.p_cons, Rk.set_s, Rk.esc_l, Rk.isI_int, Rk.isI_bool, Rk.isI_tup, List.cons_append, List.nil_append, List.append_nil, List.getElem?_cons_zero, List.getElem?_cons_succ, List.set_cons_zero, List.set_cons_succ, List.length_cons, List.length_nil, List.map_nil, List.map_cons, Option.bind_some, Option.bind_none, Option.map_some, Option.map_none, Option.isSome_some, id_eq, true_and, and_true, decide_eq_true_eq, List.replicate_succ, List.replicate_zero, Nat.reduceAdd, Nat.reduceSub, Int.reduceMul, Int.reduceAdd, Int.reduceSub, Int.reduceNeg, if_true, if_false, Bool.true_eq_false, Bool.false_eq_true, reduceIte]
      refine c_law_take hp (by omega) (by decide) (by decide) fun r o h1 h2 hp2 => ?_
      try simp only [Rk.sat_ok, Rk.osat_some, Rk.osat_none, Rk.osat_ite, Rk.osat_map, Rk.osat_bind, Rk.w_var, Rk.w_con, Rk.w_bin, Rk.w_cmp, Rk.w_ix, Rk.w_bi, Rk.w_es0, Rk.w_es, Rk.w_ts0, Rk.w_ts, Rk.w_ws0, Rk.w_ws, Rk.w_W, Rk.w_T, Rk.w_esc, Rk.w_givw, Rk.w_givl, Rk.w_tup, Rk.w_lst, Rk.w_call, Rk.w_callK, Rk.w_un, Rk.w_not, Rk.w_and, Rk.w_or, Rk.w_ifx, Rk.w_sl, Rk.w_no, Rk.w_so, Rk.w_asb, Rk.w_tru, Rk.w_bnot, Rk.w_band, Rk.w_bor, Rk.w_yes, Rk.w_skip, Rk.w_expr, Rk.w_set, Rk.w_ret, Rk.w_retN, Rk.w_if, Rk.w_asg, Rk.w_par, Rk.w_gnm, Rk.w_gsb, Rk.w_mt, Rk.w_ext, Rk.w_gtp, Rk.w_gsc, Rk.w_gsn, Rk.w_escs, Rk.w_givs, Rk.slQ_l, Rk.slQ_w, Rk.backT, Option.getD_some, Option.getD_none, Rk.get_w, Rk.get_l, Rk.get_sl, Rk.seq_tup, Rk.seq_rol, Rk.seq_l, Rk.seq_loc, Rk.seq_sl, Rk.lst_rol, Rk.lst_l, Rk.lst_loc, Rk.lst_sl, Rk.lst_tup, Rk.ix_int, Rk.ix_some, Rk.seqT_l, Rk.seqT_tup, Rk.seqT_rol, Rk.seqT_loc, Rk.lstT_l, Rk.lstT_rol, Rk.lstT_loc, Rk.at_0, Rk.at_1, Rk.at_2, Rk.at_3, Rk.at_4, Rk.at_5, Rk.bin_int, Rk.i_add, Rk.i_sub, Rk.i_mul, Rk.i_div, Rk.i_mod, Rk.i_pow, Rk.u_neg, Rk.c_lt, Rk.c_le, Rk.c_gt, Rk.c_ge, Rk.c_eq, Rk.c_ne, Rk.c_isN, Rk.c_isI, Rk.c_seq, Rk.c_sne, Rk.t_non, Rk.t_bl, Rk.t_int, Rk.iw_int, Rk.bt_bl, Rk.b_int, Rk.b_intb, Rk.b_abs, Rk.b_lent, Rk.b_lenr, Rk.b_lenl, Rk.b_tup, Rk.b_list, Rk.b_all, Rk.b_any, Rk.b_sum, Rk.bls_nil, Rk.bls_cons, Rk.ints_nil, Rk.ints_cons, Rk.b_min1, Rk.b_max1, Rk.b_min2, Rk.b_max2, Rk.m_loc, Rk.m_sl, Rk.p_nil, Rk.p_cons, Rk.set_s, Rk.esc_l, Rk.isI_int, Rk.isI_bool, Rk.isI_tup, List.cons_append, List.nil_append, List.append_nil, List.getElem?_cons_zero, List.getElem?_cons_succ, List.set_cons_zero, List.set_cons_succ, List.length_cons, List.length_nil, List.map_nil, List.map_cons, Option.bind_some, Option.bind_none, Option.map_some, Option.map_none, Option.isSome_some, id_eq, true_and, and_true, decide_eq_true_eq, List.replicate_succ, List.replicate_zero, Nat.reduceAdd, Nat.reduceSub, Int.reduceMul, Int.reduceAdd, Int.reduceSub, Int.reduceNeg, if_true, if_false, Bool.true_eq_false, Bool.false_eq_true, reduceIte]
      have hj2 : (M.set i o)[j]? = some (.lst xs) := by rw [List.getElem?_set_ne hij]; exact hj
      generalize M.set i o = M1 at hp2 hj2 ⊢
      refine c_law_of_at hp2 (by omega) hj2 hij hpos (by omega) fun u o2 hu hp3 => ?_
      obtain ⟨a, b, c, h3, h4, h5, rfl⟩ := hx u hu
      try simp only [Rk.sat_ok, Rk.osat_some, Rk.osat_none, Rk.osat_ite, Rk.osat_map, Rk.osat_bind, Rk.w_var, Rk.w_con, Rk.w_bin, Rk.w_cmp, Rk.w_ix, Rk.w_bi, Rk.w_es0, Rk.w_es, Rk.w_ts0, Rk.w_ts, Rk.w_ws0, Rk.w_ws, Rk.w_W, Rk.w_T, Rk.w_esc, Rk.w_givw, Rk.w_givl, Rk.w_tup, Rk.w_lst, Rk.w_call, Rk.w_callK, Rk.w_un, Rk.w_not, Rk.w_and, Rk.w_or, Rk.w_ifx, Rk.w_sl, Rk.w_no, Rk.w_so, Rk.w_asb, Rk.w_tru, Rk.w_bnot, Rk.w_band, Rk.w_bor, Rk.w_yes, Rk.w_skip, Rk.w_expr, Rk.w_set, Rk.w_ret, Rk.w_retN, Rk.w_if, Rk.w_asg, Rk.w_par, Rk.w_gnm, Rk.w_gsb, Rk.w_mt, Rk.w_ext, Rk.w_gtp, Rk.w_gsc, Rk.w_gsn, Rk.w_escs, Rk.w_givs, Rk.slQ_l, Rk.slQ_w, Rk.backT, Option.getD_some, Option.getD_none, Rk.get_w, Rk.get_l, Rk.get_sl, Rk.seq_tup, Rk.seq_rol, Rk.seq_l, Rk.seq_loc, Rk.seq_sl, Rk.lst_rol, Rk.lst_l, Rk.lst_loc, Rk.lst_sl, Rk.lst_tup, Rk.ix_int, Rk.ix_some, Rk.seqT_l, Rk.seqT_tup, Rk.seqT_rol, Rk.seqT_loc, Rk.lstT_l, Rk.lstT_rol, Rk.lstT_loc, Rk.at_0, Rk.at_1, Rk.at_2, Rk.at_3, Rk.at_4, Rk.at_5, Rk.bin_int, Rk.i_add, Rk.i_sub, Rk.i_mul, Rk.i_div, Rk.i_mod, Rk.i_pow, Rk.u_neg, Rk.c_lt, Rk.c_le, Rk.c_gt, Rk.c_ge, Rk.c_eq, Rk.c_ne, Rk.c_isN, Rk.c_isI, Rk.c_seq, Rk.c_sne, Rk.t_non, Rk.t_bl, Rk.t_int, Rk.iw_int, Rk.bt_bl, Rk.b_int, Rk.b_intb, Rk.b_abs, Rk.b_lent, Rk.b_lenr, Rk.b_lenl, Rk.b_tup, Rk.b_list, Rk.b_all, Rk.b_any, Rk.b_sum, Rk.bls_nil, Rk.bls_cons, Rk.ints_nil, Rk.ints_cons, Rk.b_min1, Rk.b_max1, Rk.b_min2, Rk.b_max2, Rk.m_loc, Rk.m_sl, Rk.p_nil, Rk.p_cons, Rk.set_s, Rk.esc_l, Rk.isI_int, Rk.isI_bool, Rk.isI_tup, List.cons_append, List.nil_append, List.append_nil, List.getElem?_cons_zero, List.getElem?_cons_succ, List.set_cons_zero, List.set_cons_succ, List.length_cons, List.length_nil, List.map_nil, List.map_cons, Option.bind_some, Option.bind_none, Option.map_some, Option.map_none, Option.isSome_some, id_eq, true_and, and_true, decide_eq_true_eq, List.replicate_succ, List.replicate_zero, Nat.reduceAdd, Nat.reduceSub, Int.reduceMul, Int.reduceAdd, Int.reduceSub, Int.reduceNeg, if_true, if_false, Bool.true_eq_false, Bool.false_eq_true, reduceIte]
      refine then_tail (n := n + 1) (B := B) hp3 (by omega) (xs := xs) ?_ hij hl h3 h4 h5 h1 h2 fun w M' x5 g1 g2 g3 => ?_
      · rw [List.getElem?_set_ne hij]; exact hj2
      · exact h w M' _ _ _ g1 (.inr ⟨_, rfl, g2, hij⟩) (g3.up (by omega))
  -- the test
  unfold bodyC
  have at_take : ∀ {o : Ob}, At M i t xs → At (M.set i o) i t xs := fun {o} ht => by
    rcases ht with rfl | ⟨j, rfl, hj, hij⟩
    · exact .inl rfl
    · exact .inr ⟨j, rfl, by rw [List.getElem?_set_ne hij]; exact hj, hij⟩
  have test : ∀ {Q : Bool → S → Prop}, (xs = [] → Q false ⟨[some (.w (.loc i)), x1, some t, x3, x4, x5], M⟩) → (xs ≠ [] → ∀ (b : Bool) (o : Ob), Pot (M.set i o) i (k + 1) → Q b ⟨[some (.w (.loc i)), x1, some t, x3, x4, x5], M.set i o⟩) → ((band (asb (dcmp .NotEq (dvar 2) (dlst []))) (asb (dcmp .Gt (dcall ((ob (n + 3)).fn 14) 2 [(dvar 0), (dcon (.int 3))] []) (dcon (.int 0))))) ⟨[some (.w (.loc i)), x1, some t, x3, x4, x5], M⟩).sat Q := by
    intro Q q1 q2
    have c : ∀ t2, (t2 = T.sl 2 ∨ t2 = t) → opCmp .NotEq ⟨[some (.w (.loc i)), x1, some t, x3, x4, x5], M⟩ t2 (.lst []) = some (!xs.isEmpty) → ((if (!xs.isEmpty) = true then (asb (dcmp .Gt (dcall ((ob (n + 3)).fn 14) 2 [(dvar 0), (dcon (.int 3))] []) (dcon (.int 0))) ⟨[some (.w (.loc i)), x1, some t, x3, x4, x5], M⟩).sat Q else Q false ⟨[some (.w (.loc i)), x1, some t, x3, x4, x5], M⟩)) := fun t2 _ _ => by
      by_cases hn : xs = []
      · rw [hn]; exact q1 hn
      · rw [if_pos (by cases xs with | nil => exact absurd rfl hn | cons _ _ => rfl)]
        try simp only [Rk.sat_ok, Rk.osat_some, Rk.osat_none, Rk.osat_ite, Rk.osat_map, Rk.osat_bind, Rk.w_var, Rk.w_con, Rk.w_bin, Rk.w_cmp, Rk.w_ix, Rk.w_bi, Rk.w_es0, Rk.w_es, Rk.w_ts0, Rk.w_ts, Rk.w_ws0, Rk.w_ws, Rk.w_W, Rk.w_T, Rk.w_esc, Rk.w_givw, Rk.w_givl, Rk.w_tup, Rk.w_lst, Rk.w_call, Rk.w_callK, Rk.w_un, Rk.w_not, Rk.w_and, Rk.w_or, Rk.w_ifx, Rk.w_sl, Rk.w_no, Rk.w_so, Rk.w_asb, Rk.w_tru, Rk.w_bnot, Rk.w_band, Rk.w_bor, Rk.w_yes, Rk.w_skip, Rk.w_expr, Rk.w_set, Rk.w_ret, Rk.w_retN, Rk.w_if, Rk.w_asg, Rk.w_par, Rk.w_gnm, Rk.w_gsb, Rk.w_mt, Rk.w_ext, Rk.w_gtp, Rk.w_gsc, Rk.w_gsn, Rk.w_escs, Rk.w_givs, Rk.slQ_l, Rk.slQ_w, Rk.backT, Option.getD_some, Option.getD_none, Rk.get_w, Rk.get_l, Rk.get_sl, Rk.seq_tup, Rk.seq_rol, Rk.seq_l, Rk.seq_loc, Rk.seq_sl, Rk.lst_rol, Rk.lst_l, Rk.lst_loc, Rk.lst_sl, Rk.lst_tup, Rk.ix_int, Rk.ix_some, Rk.seqT_l, Rk.seqT_tup, Rk.seqT_rol, Rk.seqT_loc, Rk.lstT_l, Rk.lstT_rol, Rk.lstT_loc, Rk.at_0, Rk.at_1, Rk.at_2, Rk.at_3, Rk.at_4, Rk.at_5, Rk.bin_int, Rk.i_add, Rk.i_sub, Rk.i_mul, Rk.i_div, Rk.i_mod, Rk.i_pow, Rk.u_neg, Rk.c_lt, Rk.c_le, Rk.c_gt, Rk.c_ge, Rk.c_eq, Rk.c_ne, Rk.c_isN, Rk.c_isI, Rk.c_seq, Rk.c_sne, Rk.t_non, Rk.t_bl, Rk.t_int, Rk.iw_int, Rk.bt_bl, Rk.b_int, Rk.b_intb, Rk.b_abs, Rk.b_lent, Rk.b_lenr, Rk.b_lenl, Rk.b_tup, Rk.b_list, Rk.b_all, Rk.b_any, Rk.b_sum, Rk.bls_nil, Rk.bls_cons, Rk.ints_nil, Rk.ints_cons, Rk.b_min1, Rk.b_max1, Rk.b_min2, Rk.b_max2, Rk.m_loc, Rk.m_sl, Rk.p_nil, Rk.p_cons, Rk.set_s, Rk.esc_l, Rk.isI_int, Rk.isI_bool, Rk.isI_tup, List.cons_append, List.nil_append, List.append_nil, List.getElem?_cons_zero, List.getElem?_cons_succ, List.set_cons_zero, List.set_cons_succ, List.length_cons, List.length_nil, List.map_nil, List.map_cons, Option.bind_some, Option.bind_none, Option.map_some, Option.map_none, Option.isSome_some, id_eq, true_and, and_true, decide_eq_true_eq, List.replicate_succ, List.replicate_zero, Nat.reduceAdd, Nat.reduceSub, Int.reduceMul, Int.reduceAdd, Int.reduceSub, Int.reduceNeg, if_true, if_false, Bool.true_eq_false, Bool.false_eq_true, reduceIte]
        refine c_law_take hp (by omega) (by decide) (by decide) fun r o h1 h2 hp2 => ?_
        try simp only [Rk.sat_ok, Rk.osat_some, Rk.osat_none, Rk.osat_ite, Rk.osat_map, Rk.osat_bind, Rk.w_var, Rk.w_con, Rk.w_bin, Rk.w_cmp, Rk.w_ix, Rk.w_bi, Rk.w_es0, Rk.w_es, Rk.w_ts0, Rk.w_ts, Rk.w_ws0, Rk.w_ws, Rk.w_W, Rk.w_T, Rk.w_esc, Rk.w_givw, Rk.w_givl, Rk.w_tup, Rk.w_lst, Rk.w_call, Rk.w_callK, Rk.w_un, Rk.w_not, Rk.w_and, Rk.w_or, Rk.w_ifx, Rk.w_sl, Rk.w_no, Rk.w_so, Rk.w_asb, Rk.w_tru, Rk.w_bnot, Rk.w_band, Rk.w_bor, Rk.w_yes, Rk.w_skip, Rk.w_expr, Rk.w_set, Rk.w_ret, Rk.w_retN, Rk.w_if, Rk.w_asg, Rk.w_par, Rk.w_gnm, Rk.w_gsb, Rk.w_mt, Rk.w_ext, Rk.w_gtp, Rk.w_gsc, Rk.w_gsn, Rk.w_escs, Rk.w_givs, Rk.slQ_l, Rk.slQ_w, Rk.backT, Option.getD_some, Option.getD_none, Rk.get_w, Rk.get_l, Rk.get_sl, Rk.seq_tup, Rk.seq_rol, Rk.seq_l, Rk.seq_loc, Rk.seq_sl, Rk.lst_rol, Rk.lst_l, Rk.lst_loc, Rk.lst_sl, Rk.lst_tup, Rk.ix_int, Rk.ix_some, Rk.seqT_l, Rk.seqT_tup, Rk.seqT_rol, Rk.seqT_loc, Rk.lstT_l, Rk.lstT_rol, Rk.lstT_loc, Rk.at_0, Rk.at_1, Rk.at_2, Rk.at_3, Rk.at_4, Rk.at_5, Rk.bin_int, Rk.i_add, Rk.i_sub, Rk.i_mul, Rk.i_div, Rk.i_mod, Rk.i_pow, Rk.u_neg, Rk.c_lt, Rk.c_le, Rk.c_gt, Rk.c_ge, Rk.c_eq, Rk.c_ne, Rk.c_isN, Rk.c_isI, Rk.c_seq, Rk.c_sne, Rk.t_non, Rk.t_bl, Rk.t_int, Rk.iw_int, Rk.bt_bl, Rk.b_int, Rk.b_intb, Rk.b_abs, Rk.b_lent, Rk.b_lenr, Rk.b_lenl, Rk.b_tup, Rk.b_list, Rk.b_all, Rk.b_any, Rk.b_sum, Rk.bls_nil, Rk.bls_cons, Rk.ints_nil, Rk.ints_cons, Rk.b_min1, Rk.b_max1, Rk.b_min2, Rk.b_max2, Rk.m_loc, Rk.m_sl, Rk.p_nil, Rk.p_cons, Rk.set_s, Rk.esc_l, Rk.isI_int, Rk.isI_bool, Rk.isI_tup, List.cons_append, List.nil_append, List.append_nil, List.getElem?_cons_zero, List.getElem?_cons_succ, List.set_cons_zero, List.set_cons_succ, List.length_cons, List.length_nil, List.map_nil, List.map_cons, Option.bind_some, Option.bind_none, Option.map_some, Option.map_none, Option.isSome_some, id_eq, true_and, and_true, decide_eq_true_eq, List.replicate_succ, List.replicate_zero, Nat.reduceAdd, Nat.reduceSub, Int.reduceMul, Int.reduceAdd, Int.reduceSub, Int.reduceNeg, if_true, if_false, Bool.true_eq_false, Bool.false_eq_true, reduceIte]
        exact q2 hn _ _ hp2
    rcases ht with rfl | ⟨j, rfl, hj, hij⟩
    · have e := ne_nil (s := ⟨[some (.w (.loc i)), x1, some (.lst xs), x3, x4, x5], M⟩) (t := .sl 2) hxc (.inl rfl)
      rw [w_band, w_asb, w_cmp]
      simp only [w_var, w_lst, w_ws0, List.getElem?_cons_succ, List.getElem?_cons_zero, Option.bind_some, id_eq, osat_some, e, bt_bl]
      exact ⟨by decide, c _ (.inl rfl) e⟩
    · have e := ne_nil (s := ⟨[some (.w (.loc i)), x1, some (.w (.loc j)), x3, x4, x5], M⟩) (t := .w (.loc j)) hxc (.inr ⟨j, rfl, hj⟩)
      rw [w_band, w_asb, w_cmp]
      simp only [w_var, w_lst, w_ws0, List.getElem?_cons_succ, List.getElem?_cons_zero, Option.bind_some, id_eq, osat_some, e, bt_bl]
      exact ⟨by decide, c _ (.inr rfl) e⟩
  rw [w_seq, w_if]
  refine test (fun hn => ?_) (fun hn b o hp2 => ?_)
  · rw [if_neg Bool.false_ne_true]
    exact els hp (by omega) ht
  · cases b with
    | true => rw [if_pos rfl]; exact thn hp2 (by omega) (at_take ht) hn
    | false => rw [if_neg Bool.false_ne_true]; exact els hp2 (by omega) (at_take ht)
theorem c_law_drawn_cells {i : Nat} {k : Int} (hp : Pot M i k) (hk : k < 10000) (h : ∀ (xs : List W) (t : T) (M' : List Ob), (∀ w ∈ xs, isCeB 15 w) → xs.length = 10 → At M' i t xs → Pot M' i (k + 60) → R t M') : ((ob (n + 4)).fn 4 [.w (.loc i), .w (.int 10)] M).sat R := by
  rw [r4, w_run]; unfold d4
  refine w_stp fun k hk => ?_; try simp only [Rk.sat_ok, Rk.osat_some, Rk.osat_none, Rk.osat_ite, Rk.osat_map, Rk.osat_bind, Rk.w_var, Rk.w_con, Rk.w_bin, Rk.w_cmp, Rk.w_ix, Rk.w_bi, Rk.w_es0, Rk.w_es, Rk.w_ts0, Rk.w_ts, Rk.w_ws0, Rk.w_ws, Rk.w_W, Rk.w_T, Rk.w_esc, Rk.w_givw, Rk.w_givl, Rk.w_tup, Rk.w_lst, Rk.w_call, Rk.w_callK, Rk.w_un, Rk.w_not, Rk.w_and, Rk.w_or, Rk.w_ifx, Rk.w_sl, Rk.w_no, Rk.w_so, Rk.w_asb, Rk.w_tru, Rk.w_bnot, Rk.w_band, Rk.w_bor, Rk.w_yes, Rk.w_skip, Rk.w_expr, Rk.w_set, Rk.w_ret, Rk.w_retN, Rk.w_if, Rk.w_asg, Rk.w_par, Rk.w_gnm, Rk.w_gsb, Rk.w_mt, Rk.w_ext, Rk.w_gtp, Rk.w_gsc, Rk.w_gsn, Rk.w_escs, Rk.w_givs, Rk.slQ_l, Rk.slQ_w, Rk.backT, Option.getD_some, Option.getD_none, Rk.get_w, Rk.get_l, Rk.get_sl, Rk.seq_tup, Rk.seq_rol, Rk.seq_l, Rk.seq_loc, Rk.seq_sl, Rk.lst_rol, Rk.lst_l, Rk.lst_loc, Rk.lst_sl, Rk.lst_tup, Rk.ix_int, Rk.ix_some, Rk.seqT_l, Rk.seqT_tup, Rk.seqT_rol, Rk.seqT_loc, Rk.lstT_l, Rk.lstT_rol, Rk.lstT_loc, Rk.at_0, Rk.at_1, Rk.at_2, Rk.at_3, Rk.at_4, Rk.at_5, Rk.bin_int, Rk.i_add, Rk.i_sub, Rk.i_mul, Rk.i_div, Rk.i_mod, Rk.i_pow, Rk.u_neg, Rk.c_lt, Rk.c_le, Rk.c_gt, Rk.c_ge, Rk.c_eq, Rk.c_ne, Rk.c_isN, Rk.c_isI, Rk.c_seq, Rk.c_sne, Rk.t_non, Rk.t_bl, Rk.t_int, Rk.iw_int, Rk.bt_bl, Rk.b_int, Rk.b_intb, Rk.b_abs, Rk.b_lent, Rk.b_lenr, Rk.b_lenl, Rk.b_tup, Rk.b_list, Rk.b_all, Rk.b_any, Rk.b_sum, Rk.bls_nil, Rk.bls_cons, Rk.ints_nil, Rk.ints_cons, Rk.b_min1, Rk.b_max1, Rk.b_min2, Rk.b_max2, Rk.m_loc, Rk.m_sl, Rk.p_nil, Rk.p_cons, Rk.set_s, Rk.esc_l, Rk.isI_int, Rk.isI_bool, Rk.isI_tup, List.cons_append, List.nil_append, List.append_nil, List.getElem?_cons_zero, List.getElem?_cons_succ, List.set_cons_zero, List.set_cons_succ, List.length_cons, List.length_nil, List.map_nil, List.map_cons, Option.bind_some, Option.bind_none, Option.map_some, Option.map_none, Option.isSome_some, id_eq, true_and, and_true, decide_eq_true_eq, List.replicate_succ, List.replicate_zero, Nat.reduceAdd, Nat.reduceSub, Int.reduceMul, Int.reduceAdd, Int.reduceSub, Int.reduceNeg, if_true, if_false, Bool.true_eq_false, Bool.false_eq_true, reduceIte]
  refine ⟨by decide, ?_⟩
  refine hk _ ?_; clear hk k
  refine w_stp fun kk hk' => ?_
  rw [w_for]
  try simp only [Rk.sat_ok, Rk.osat_some, Rk.osat_none, Rk.osat_ite, Rk.osat_map, Rk.osat_bind, Rk.w_var, Rk.w_con, Rk.w_bin, Rk.w_cmp, Rk.w_ix, Rk.w_bi, Rk.w_es0, Rk.w_es, Rk.w_ts0, Rk.w_ts, Rk.w_ws0, Rk.w_ws, Rk.w_W, Rk.w_T, Rk.w_esc, Rk.w_givw, Rk.w_givl, Rk.w_tup, Rk.w_lst, Rk.w_call, Rk.w_callK, Rk.w_un, Rk.w_not, Rk.w_and, Rk.w_or, Rk.w_ifx, Rk.w_sl, Rk.w_no, Rk.w_so, Rk.w_asb, Rk.w_tru, Rk.w_bnot, Rk.w_band, Rk.w_bor, Rk.w_yes, Rk.w_skip, Rk.w_expr, Rk.w_set, Rk.w_ret, Rk.w_retN, Rk.w_if, Rk.w_asg, Rk.w_par, Rk.w_gnm, Rk.w_gsb, Rk.w_mt, Rk.w_ext, Rk.w_gtp, Rk.w_gsc, Rk.w_gsn, Rk.w_escs, Rk.w_givs, Rk.slQ_l, Rk.slQ_w, Rk.backT, Option.getD_some, Option.getD_none, Rk.get_w, Rk.get_l, Rk.get_sl, Rk.seq_tup, Rk.seq_rol, Rk.seq_l, Rk.seq_loc, Rk.seq_sl, Rk.lst_rol, Rk.lst_l, Rk.lst_loc, Rk.lst_sl, Rk.lst_tup, Rk.ix_int, Rk.ix_some, Rk.seqT_l, Rk.seqT_tup, Rk.seqT_rol, Rk.seqT_loc, Rk.lstT_l, Rk.lstT_rol, Rk.lstT_loc, Rk.at_0, Rk.at_1, Rk.at_2, Rk.at_3, Rk.at_4, Rk.at_5, Rk.bin_int, Rk.i_add, Rk.i_sub, Rk.i_mul, Rk.i_div, Rk.i_mod, Rk.i_pow, Rk.u_neg, Rk.c_lt, Rk.c_le, Rk.c_gt, Rk.c_ge, Rk.c_eq, Rk.c_ne, Rk.c_isN, Rk.c_isI, Rk.c_seq, Rk.c_sne, Rk.t_non, Rk.t_bl, Rk.t_int, Rk.iw_int, Rk.bt_bl, Rk.b_int, Rk.b_intb, Rk.b_abs, Rk.b_lent, Rk.b_lenr, Rk.b_lenl, Rk.b_tup, Rk.b_list, Rk.b_all, Rk.b_any, Rk.b_sum, Rk.bls_nil, Rk.bls_cons, Rk.ints_nil, Rk.ints_cons, Rk.b_min1, Rk.b_max1, Rk.b_min2, Rk.b_max2, Rk.m_loc, Rk.m_sl, Rk.p_nil, Rk.p_cons, Rk.set_s, Rk.esc_l, Rk.isI_int, Rk.isI_bool, Rk.isI_tup, List.cons_append, List.nil_append, List.append_nil, List.getElem?_cons_zero, List.getElem?_cons_succ, List.set_cons_zero, List.set_cons_succ, List.length_cons, List.length_nil, List.map_nil, List.map_cons, Option.bind_some, Option.bind_none, Option.map_some, Option.map_none, Option.isSome_some, id_eq, true_and, and_true, decide_eq_true_eq, List.replicate_succ, List.replicate_zero, Nat.reduceAdd, Nat.reduceSub, Int.reduceMul, Int.reduceAdd, Int.reduceSub, Int.reduceNeg, if_true, if_false, Bool.true_eq_false, Bool.false_eq_true, reduceIte, w_rgI, w_r1]
  refine ⟨by decide, ?_⟩
  rw [w_lsnap]
  refine fs_inv (fun j s => ∃ xs t M' x3 x4 x5, xs.length = j ∧ (∀ w ∈ xs, isCeB (5 + j) w) ∧ At M' i t xs ∧ Pot M' i (k + 6 * j) ∧ s = ⟨[some (.w (.loc i)), some (.w (.int 10)), some t, x3, x4, x5], M'⟩) (rangeW 0 10) 0 _ (fun j x hx s ⟨xs, t, M', x3, x4, x5, k1, k2, k3, k4, k5⟩ => ?_) ⟨[], .lst [], M, none, none, none, rfl, (fun w hw => nomatch hw), .inl rfl, by simpa using hp, rfl⟩ fun s ⟨xs, t, M', x3, x4, x5, k1, k2, k3, k4, k5⟩ => ?_
  · have hj : j < 10 := (List.getElem?_eq_some_iff.mp hx).1
    subst k5
    try simp only [Rk.sat_ok, Rk.osat_some, Rk.osat_none, Rk.osat_ite, Rk.osat_map, Rk.osat_bind, Rk.w_var, Rk.w_con, Rk.w_bin, Rk.w_cmp, Rk.w_ix, Rk.w_bi, Rk.w_es0, Rk.w_es, Rk.w_ts0, Rk.w_ts, Rk.w_ws0, Rk.w_ws, Rk.w_W, Rk.w_T, Rk.w_esc, Rk.w_givw, Rk.w_givl, Rk.w_tup, Rk.w_lst, Rk.w_call, Rk.w_callK, Rk.w_un, Rk.w_not, Rk.w_and, Rk.w_or, Rk.w_ifx, Rk.w_sl, Rk.w_no, Rk.w_so, Rk.w_asb, Rk.w_tru, Rk.w_bnot, Rk.w_band, Rk.w_bor, Rk.w_yes, Rk.w_skip, Rk.w_expr, Rk.w_set, Rk.w_ret, Rk.w_retN, Rk.w_if, Rk.w_asg, Rk.w_par, Rk.w_gnm, Rk.w_gsb, Rk.w_mt, Rk.w_ext, Rk.w_gtp, Rk.w_gsc, Rk.w_gsn, Rk.w_escs, Rk.w_givs, Rk.slQ_l, Rk.slQ_w, Rk.backT, Option.getD_some, Option.getD_none, Rk.get_w, Rk.get_l, Rk.get_sl, Rk.seq_tup, Rk.seq_rol, Rk.seq_l, Rk.seq_loc, Rk.seq_sl, Rk.lst_rol, Rk.lst_l, Rk.lst_loc, Rk.lst_sl, Rk.lst_tup, Rk.ix_int, Rk.ix_some, Rk.seqT_l, Rk.seqT_tup, Rk.seqT_rol, Rk.seqT_loc, Rk.lstT_l, Rk.lstT_rol, Rk.lstT_loc, Rk.at_0, Rk.at_1, Rk.at_2, Rk.at_3, Rk.at_4, Rk.at_5, Rk.bin_int, Rk.i_add, Rk.i_sub, Rk.i_mul, Rk.i_div, Rk.i_mod, Rk.i_pow, Rk.u_neg, Rk.c_lt, Rk.c_le, Rk.c_gt, Rk.c_ge, Rk.c_eq, Rk.c_ne, Rk.c_isN, Rk.c_isI, Rk.c_seq, Rk.c_sne, Rk.t_non, Rk.t_bl, Rk.t_int, Rk.iw_int, Rk.bt_bl, Rk.b_int, Rk.b_intb, Rk.b_abs, Rk.b_lent, Rk.b_lenr, Rk.b_lenl, Rk.b_tup, Rk.b_list, Rk.b_all, Rk.b_any, Rk.b_sum, Rk.bls_nil, Rk.bls_cons, Rk.ints_nil, Rk.ints_cons, Rk.b_min1, Rk.b_max1, Rk.b_min2, Rk.b_max2, Rk.m_loc, Rk.m_sl, Rk.p_nil, Rk.p_cons, Rk.set_s, Rk.esc_l, Rk.isI_int, Rk.isI_bool, Rk.isI_tup, List.cons_append, List.nil_append, List.append_nil, List.getElem?_cons_zero, List.getElem?_cons_succ, List.set_cons_zero, List.set_cons_succ, List.length_cons, List.length_nil, List.map_nil, List.map_cons, Option.bind_some, Option.bind_none, Option.map_some, Option.map_none, Option.isSome_some, id_eq, true_and, and_true, decide_eq_true_eq, List.replicate_succ, List.replicate_zero, Nat.reduceAdd, Nat.reduceSub, Int.reduceMul, Int.reduceAdd, Int.reduceSub, Int.reduceNeg, if_true, if_false, Bool.true_eq_false, Bool.false_eq_true, reduceIte]
    refine body_c (n := n) (B := 5 + j) k4 (by omega) k3 (fun w hw => (k2 w hw).up (by omega)) (by omega) (by omega) (by omega) fun w M2 t' y4 y5 g1 g2 g3 => ⟨xs ++ [w], t', M2, _, _, _, by rw [List.length_append, List.length_singleton]; omega, fun v hv => ?_, g2, g3.up (by omega), rfl⟩
    rcases List.mem_append.mp hv with hv | hv
    · exact (k2 v hv).up (by omega)
    · rw [List.mem_singleton] at hv; rw [hv]; exact g1.up (by omega)
  · subst k5
    have hlen : (rangeW 0 10).length = 10 := rfl
    rw [hlen] at k1 k2 k4
    refine hk' _ ?_
    rw [w_seq]
    rcases k3 with rfl | ⟨j, rfl, hj, hij⟩
    · try simp only [Rk.sat_ok, Rk.osat_some, Rk.osat_none, Rk.osat_ite, Rk.osat_map, Rk.osat_bind, Rk.w_var, Rk.w_con, Rk.w_bin, Rk.w_cmp, Rk.w_ix, Rk.w_bi, Rk.w_es0, Rk.w_es, Rk.w_ts0, Rk.w_ts, Rk.w_ws0, Rk.w_ws, Rk.w_W, Rk.w_T, Rk.w_esc, Rk.w_givw, Rk.w_givl, Rk.w_tup, Rk.w_lst, Rk.w_call, Rk.w_callK, Rk.w_un, Rk.w_not, Rk.w_and, Rk.w_or, Rk.w_ifx, Rk.w_sl, Rk.w_no, Rk.w_so, Rk.w_asb, Rk.w_tru, Rk.w_bnot, Rk.w_band, Rk.w_bor, Rk.w_yes, Rk.w_skip, Rk.w_expr, Rk.w_set, Rk.w_ret, Rk.w_retN, Rk.w_if, Rk.w_asg, Rk.w_par, Rk.w_gnm, Rk.w_gsb, Rk.w_mt, Rk.w_ext, Rk.w_gtp, Rk.w_gsc, Rk.w_gsn, Rk.w_escs, Rk.w_givs, Rk.slQ_l, Rk.slQ_w, Rk.backT, Option.getD_some, Option.getD_none, Rk.get_w, Rk.get_l, Rk.get_sl, Rk.seq_tup, Rk.seq_rol, Rk.seq_l, Rk.seq_loc, Rk.seq_sl, Rk.lst_rol, Rk.lst_l, Rk.lst_loc, Rk.lst_sl, Rk.lst_tup, Rk.ix_int, Rk.ix_some, Rk.seqT_l, Rk.seqT_tup, Rk.seqT_rol, Rk.seqT_loc, Rk.lstT_l, Rk.lstT_rol, Rk.lstT_loc, Rk.at_0, Rk.at_1, Rk.at_2, Rk.at_3, Rk.at_4, Rk.at_5, Rk.bin_int, Rk.i_add, Rk.i_sub, Rk.i_mul, Rk.i_div, Rk.i_mod, Rk.i_pow, Rk.u_neg, Rk.c_lt, Rk.c_le, Rk.c_gt, Rk.c_ge, Rk.c_eq, Rk.c_ne, Rk.c_isN, Rk.c_isI, Rk.c_seq, Rk.c_sne, Rk.t_non, Rk.t_bl, Rk.t_int, Rk.iw_int, Rk.bt_bl, Rk.b_int, Rk.b_intb, Rk.b_abs, Rk.b_lent, Rk.b_lenr, Rk.b_lenl, Rk.b_tup, Rk.b_list, Rk.b_all, Rk.b_any, Rk.b_sum, Rk.bls_nil, Rk.bls_cons, Rk.ints_nil, Rk.ints_cons, Rk.b_min1, Rk.b_max1, Rk.b_min2, Rk.b_max2, Rk.m_loc, Rk.m_sl, Rk.p_nil, Rk.p_cons, Rk.set_s, Rk.esc_l, Rk.isI_int, Rk.isI_bool, Rk.isI_tup, List.cons_append, List.nil_append, List.append_nil, List.getElem?_cons_zero, List.getElem?_cons_succ, List.set_cons_zero, List.set_cons_succ, List.length_cons, List.length_nil, List.map_nil, List.map_cons, Option.bind_some, Option.bind_none, Option.map_some, Option.map_none, Option.isSome_some, id_eq, true_and, and_true, decide_eq_true_eq, List.replicate_succ, List.replicate_zero, Nat.reduceAdd, Nat.reduceSub, Int.reduceMul, Int.reduceAdd, Int.reduceSub, Int.reduceNeg, if_true, if_false, Bool.true_eq_false, Bool.false_eq_true, reduceIte]
      exact h xs _ M' k2 k1 (.inl rfl) (k4.up (by omega))
    · try simp only [Rk.sat_ok, Rk.osat_some, Rk.osat_none, Rk.osat_ite, Rk.osat_map, Rk.osat_bind, Rk.w_var, Rk.w_con, Rk.w_bin, Rk.w_cmp, Rk.w_ix, Rk.w_bi, Rk.w_es0, Rk.w_es, Rk.w_ts0, Rk.w_ts, Rk.w_ws0, Rk.w_ws, Rk.w_W, Rk.w_T, Rk.w_esc, Rk.w_givw, Rk.w_givl, Rk.w_tup, Rk.w_lst, Rk.w_call, Rk.w_callK, Rk.w_un, Rk.w_not, Rk.w_and, Rk.w_or, Rk.w_ifx, Rk.w_sl, Rk.w_no, Rk.w_so, Rk.w_asb, Rk.w_tru, Rk.w_bnot, Rk.w_band, Rk.w_bor, Rk.w_yes, Rk.w_skip, Rk.w_expr, Rk.w_set, Rk.w_ret, Rk.w_retN, Rk.w_if, Rk.w_asg, Rk.w_par, Rk.w_gnm, Rk.w_gsb, Rk.w_mt, Rk.w_ext, Rk.w_gtp, Rk.w_gsc, Rk.w_gsn, Rk.w_escs, Rk.w_givs, Rk.slQ_l, Rk.slQ_w, Rk.backT, Option.getD_some, Option.getD_none, Rk.get_w, Rk.get_l, Rk.get_sl, Rk.seq_tup, Rk.seq_rol, Rk.seq_l, Rk.seq_loc, Rk.seq_sl, Rk.lst_rol, Rk.lst_l, Rk.lst_loc, Rk.lst_sl, Rk.lst_tup, Rk.ix_int, Rk.ix_some, Rk.seqT_l, Rk.seqT_tup, Rk.seqT_rol, Rk.seqT_loc, Rk.lstT_l, Rk.lstT_rol, Rk.lstT_loc, Rk.at_0, Rk.at_1, Rk.at_2, Rk.at_3, Rk.at_4, Rk.at_5, Rk.bin_int, Rk.i_add, Rk.i_sub, Rk.i_mul, Rk.i_div, Rk.i_mod, Rk.i_pow, Rk.u_neg, Rk.c_lt, Rk.c_le, Rk.c_gt, Rk.c_ge, Rk.c_eq, Rk.c_ne, Rk.c_isN, Rk.c_isI, Rk.c_seq, Rk.c_sne, Rk.t_non, Rk.t_bl, Rk.t_int, Rk.iw_int, Rk.bt_bl, Rk.b_int, Rk.b_intb, Rk.b_abs, Rk.b_lent, Rk.b_lenr, Rk.b_lenl, Rk.b_tup, Rk.b_list, Rk.b_all, Rk.b_any, Rk.b_sum, Rk.bls_nil, Rk.bls_cons, Rk.ints_nil, Rk.ints_cons, Rk.b_min1, Rk.b_max1, Rk.b_min2, Rk.b_max2, Rk.m_loc, Rk.m_sl, Rk.p_nil, Rk.p_cons, Rk.set_s, Rk.esc_l, Rk.isI_int, Rk.isI_bool, Rk.isI_tup, List.cons_append, List.nil_append, List.append_nil, List.getElem?_cons_zero, List.getElem?_cons_succ, List.set_cons_zero, List.set_cons_succ, List.length_cons, List.length_nil, List.map_nil, List.map_cons, Option.bind_some, Option.bind_none, Option.map_some, Option.map_none, Option.isSome_some, id_eq, true_and, and_true, decide_eq_true_eq, List.replicate_succ, List.replicate_zero, Nat.reduceAdd, Nat.reduceSub, Int.reduceMul, Int.reduceAdd, Int.reduceSub, Int.reduceNeg, if_true, if_false, Bool.true_eq_false, Bool.false_eq_true, reduceIte]
      exact h xs _ M' k2 k1 (.inr ⟨j, rfl, hj, hij⟩) (k4.up (by omega))
end
end Law

namespace Law
open PySem PySem.Spec PyProof.Rows L2 Rk
section
variable {n : Nat} {M : List Ob} {R : T → List Ob → Prop}
/-- the pot in the first slot: alone still, or shared -/
def Pot0 (M : List Ob) (t : T) (i : Nat) (k : Int) : Prop := (t = .w (.loc i) ∧ Pot M i k) ∨ (i = M.length ∧ 0 ≤ k ∧ ∃ a b : Int, t = .lst [.int a, .int b, .int 0] ∧ 0 ≤ a ∧ 0 ≤ b ∧ b < 2305843009213693952)
theorem pot_giv {t : T} {i : Nat} {k : Int} {r : List (Option T)} {Q : T → S → Prop} (hp : Pot0 M t i k) (h : ∀ M', Pot M' i k → Q (.w (.loc i)) ⟨some (.w (.loc i)) :: r, M'⟩) : (dT (dvar 0) ⟨some t :: r, M⟩).sat Q := by
  rcases hp with ⟨rfl, hp⟩ | ⟨rfl, hk, a, b, rfl, ha, hb, hb'⟩
  · try simp only [Rk.sat_ok, Rk.osat_some, Rk.osat_none, Rk.osat_ite, Rk.osat_map, Rk.osat_bind, Rk.w_var, Rk.w_con, Rk.w_bin, Rk.w_cmp, Rk.w_ix, Rk.w_bi, Rk.w_es0, Rk.w_es, Rk.w_ts0, Rk.w_ts, Rk.w_ws0, Rk.w_ws, Rk.w_W, Rk.w_T, Rk.w_esc, Rk.w_givw, Rk.w_givl, Rk.w_tup, Rk.w_lst, Rk.w_call, Rk.w_callK, Rk.w_un, Rk.w_not, Rk.w_and, Rk.w_or, Rk.w_ifx, Rk.w_sl, Rk.w_no, Rk.w_so, Rk.w_asb, Rk.w_tru, Rk.w_bnot, Rk.w_band, Rk.w_bor, Rk.w_yes, Rk.w_skip, Rk.w_expr, Rk.w_set, Rk.w_ret, Rk.w_retN, Rk.w_if, Rk.w_asg, Rk.w_par, Rk.w_gnm, Rk.w_gsb, Rk.w_mt, Rk.w_ext, Rk.w_gtp, Rk.w_gsc, Rk.w_gsn, Rk.w_escs, Rk.w_givs, Rk.slQ_l, Rk.slQ_w, Rk.backT, Option.getD_some, Option.getD_none, Rk.get_w, Rk.get_l, Rk.get_sl, Rk.seq_tup, Rk.seq_rol, Rk.seq_l, Rk.seq_loc, Rk.seq_sl, Rk.lst_rol, Rk.lst_l, Rk.lst_loc, Rk.lst_sl, Rk.lst_tup, Rk.ix_int, Rk.ix_some, Rk.seqT_l, Rk.seqT_tup, Rk.seqT_rol, Rk.seqT_loc, Rk.lstT_l, Rk.lstT_rol, Rk.lstT_loc, Rk.at_0, Rk.at_1, Rk.at_2, Rk.at_3, Rk.at_4, Rk.at_5, Rk.bin_int, Rk.i_add, Rk.i_sub, Rk.i_mul, Rk.i_div, Rk.i_mod, Rk.i_pow, Rk.u_neg, Rk.c_lt, Rk.c_le, Rk.c_gt, Rk.c_ge, Rk.c_eq, Rk.c_ne, Rk.c_isN, Rk.c_isI, Rk.c_seq, Rk.c_sne, Rk.t_non, Rk.t_bl, Rk.t_int, Rk.iw_int, Rk.bt_bl, Rk.b_int, Rk.b_intb, Rk.b_abs, Rk.b_lent, Rk.b_lenr, Rk.b_lenl, Rk.b_tup, Rk.b_list, Rk.b_all, Rk.b_any, Rk.b_sum, Rk.bls_nil, Rk.bls_cons, Rk.ints_nil, Rk.ints_cons, Rk.b_min1, Rk.b_max1, Rk.b_min2, Rk.b_max2, Rk.m_loc, Rk.m_sl, Rk.p_nil, Rk.p_cons, Rk.set_s, Rk.esc_l, Rk.isI_int, Rk.isI_bool, Rk.isI_tup, List.cons_append, List.nil_append, List.append_nil, List.getElem?_cons_zero, List.getElem?_cons_succ, List.set_cons_zero, List.set_cons_succ, List.length_cons, List.length_nil, List.map_nil, List.map_cons, Option.bind_some, Option.bind_none, Option.map_some, Option.map_none, Option.isSome_some, id_eq, true_and, and_true, decide_eq_true_eq, List.replicate_succ, List.replicate_zero, Nat.reduceAdd, Nat.reduceSub, Int.reduceMul, Int.reduceAdd, Int.reduceSub, Int.reduceNeg, if_true, if_false, Bool.true_eq_false, Bool.false_eq_true, reduceIte]
    exact h M hp
  · try simp only [Rk.sat_ok, Rk.osat_some, Rk.osat_none, Rk.osat_ite, Rk.osat_map, Rk.osat_bind, Rk.w_var, Rk.w_con, Rk.w_bin, Rk.w_cmp, Rk.w_ix, Rk.w_bi, Rk.w_es0, Rk.w_es, Rk.w_ts0, Rk.w_ts, Rk.w_ws0, Rk.w_ws, Rk.w_W, Rk.w_T, Rk.w_esc, Rk.w_givw, Rk.w_givl, Rk.w_tup, Rk.w_lst, Rk.w_call, Rk.w_callK, Rk.w_un, Rk.w_not, Rk.w_and, Rk.w_or, Rk.w_ifx, Rk.w_sl, Rk.w_no, Rk.w_so, Rk.w_asb, Rk.w_tru, Rk.w_bnot, Rk.w_band, Rk.w_bor, Rk.w_yes, Rk.w_skip, Rk.w_expr, Rk.w_set, Rk.w_ret, Rk.w_retN, Rk.w_if, Rk.w_asg, Rk.w_par, Rk.w_gnm, Rk.w_gsb, Rk.w_mt, Rk.w_ext, Rk.w_gtp, Rk.w_gsc, Rk.w_gsn, Rk.w_escs, Rk.w_givs, Rk.slQ_l, Rk.slQ_w, Rk.backT, Option.getD_some, Option.getD_none, Rk.get_w, Rk.get_l, Rk.get_sl, Rk.seq_tup, Rk.seq_rol, Rk.seq_l, Rk.seq_loc, Rk.seq_sl, Rk.lst_rol, Rk.lst_l, Rk.lst_loc, Rk.lst_sl, Rk.lst_tup, Rk.ix_int, Rk.ix_some, Rk.seqT_l, Rk.seqT_tup, Rk.seqT_rol, Rk.seqT_loc, Rk.lstT_l, Rk.lstT_rol, Rk.lstT_loc, Rk.at_0, Rk.at_1, Rk.at_2, Rk.at_3, Rk.at_4, Rk.at_5, Rk.bin_int, Rk.i_add, Rk.i_sub, Rk.i_mul, Rk.i_div, Rk.i_mod, Rk.i_pow, Rk.u_neg, Rk.c_lt, Rk.c_le, Rk.c_gt, Rk.c_ge, Rk.c_eq, Rk.c_ne, Rk.c_isN, Rk.c_isI, Rk.c_seq, Rk.c_sne, Rk.t_non, Rk.t_bl, Rk.t_int, Rk.iw_int, Rk.bt_bl, Rk.b_int, Rk.b_intb, Rk.b_abs, Rk.b_lent, Rk.b_lenr, Rk.b_lenl, Rk.b_tup, Rk.b_list, Rk.b_all, Rk.b_any, Rk.b_sum, Rk.bls_nil, Rk.bls_cons, Rk.ints_nil, Rk.ints_cons, Rk.b_min1, Rk.b_max1, Rk.b_min2, Rk.b_max2, Rk.m_loc, Rk.m_sl, Rk.p_nil, Rk.p_cons, Rk.set_s, Rk.esc_l, Rk.isI_int, Rk.isI_bool, Rk.isI_tup, List.cons_append, List.nil_append, List.append_nil, List.getElem?_cons_zero, List.getElem?_cons_succ, List.set_cons_zero, List.set_cons_succ, List.length_cons, List.length_nil, List.map_nil, List.map_cons, Option.bind_some, Option.bind_none, Option.map_some, Option.map_none, Option.isSome_some, id_eq, true_and, and_true, decide_eq_true_eq, List.replicate_succ, List.replicate_zero, Nat.reduceAdd, Nat.reduceSub, Int.reduceMul, Int.reduceAdd, Int.reduceSub, Int.reduceNeg, if_true, if_false, Bool.true_eq_false, Bool.false_eq_true, reduceIte]
    exact h _ ⟨a, b, 0, by simp, ha, hb, hb', by decide, hk⟩
theorem rp_ce {s : S} {a b c : Int} (h1 : a.natAbs < 1000000000) (h2 : b.natAbs < 1000000000) (h3 : c.natAbs < 1000000000) : bRepr s [.w (ce a b c)] = some (.w (.str (PyData.tuple [.int a, .int b, .int c]).shown)) := by
  refine b_reprT rfl (showD_sm ?_ (by simp [PyData.depth, PyData.depthAll]) (by simp [szD, szDs]))
  simp only [smD, smDs, Bool.and_eq_true, decide_eq_true_eq, and_true]
  omega
theorem rp_pt {s : S} {a b c d e f : Int} (h1 : a.natAbs < 1000000000) (h2 : b.natAbs < 1000000000) (h3 : c.natAbs < 1000000000) (h4 : d.natAbs < 1000000000) (h5 : e.natAbs < 1000000000) (h6 : f.natAbs < 1000000000) : bRepr s [.w (pt a b c d e f)] = some (.w (.str (PyData.tuple [.tuple [.int a, .int b], .tuple [.int c, .int d], .tuple [.int e, .int f]]).shown)) := by
  refine b_reprT rfl (showD_sm ?_ (by simp [PyData.depth, PyData.depthAll]) (by simp [szD, szDs]))
  simp only [smD, smDs, Bool.and_eq_true, decide_eq_true_eq, and_true]
  omega
theorem rp_bl {s : S} {b : Bool} : bRepr s [.w (.bl b)] = some (.w (.str (if b then "True" else "False"))) := rfl
theorem idx_small {p q : Int} (h : isNum p q) : (idx p q).natAbs ≤ 300000 := by
  obtain ⟨⟨h1, _, _⟩, h2⟩ := h
  unfold idx
  split
  · omega
  · have e1 : p / q ≤ 100000 := by
      rcases Int.lt_or_le p 0 with c | c
      · have := Int.ediv_neg_of_neg_of_pos c (show 0 < q by omega); omega
      · have := Int.ediv_le_self q c; omega
    have e2 : -100001 ≤ p / q := by
      have h3 := Int.mul_ediv_add_emod p q
      have h4 := Int.emod_nonneg p (show q ≠ 0 by omega)
      have h5 := Int.emod_lt_of_pos p (show 0 < q by omega)
      rcases Int.lt_or_le (p / q) (-100001) with c | c
      · have h6 := Int.mul_le_mul_of_nonneg_left (show p / q ≤ -100002 by omega) (show 0 ≤ q by omega)
        have h7 : q * -100002 = q * -100001 - q := by omega
        have h8 := Int.mul_le_mul_of_nonpos_right h1 (show (-100001 : Int) ≤ 0 by decide)
        omega
      · exact c
    omega
theorem mid_small {i : Int} (h : i.natAbs ≤ 300000) : (mid i).1.natAbs < 1000000000 ∧ (mid i).2.natAbs < 1000000000 := by
  unfold mid
  split
  · exact ⟨by show (i / 2).natAbs < _; omega, (by decide : (1 : Int).natAbs < 1000000000)⟩
  · exact ⟨by show i.natAbs < _; omega, (by decide : (2 : Int).natAbs < 1000000000)⟩
abbrev bodyR (O : Orc) : DS := (dseq (dset 3 (dcall (O.fn 5) 1 [(dvar 0)] [])) (dseq (dset 1 (dbi bTuple [(dcomp (dwalk (dvar 3) (some 3)) [4] (gnm 4) dyes (dW (dcall (O.fn 6) 1 [(dvar 4)] [])))])) (dseq (dif (asb (dcmp .NotEq (dbi bRepr [(dcallK (O.fn 9) 1 [] [(dvar 3)] [0] [])]) (dbi bRepr [(dvar 1)]))) (dseq (dret (dcon (.bl false))) dskip) dskip) (dseq (dset 5 (dbi bTuple [(dcomp (dwalk (dvar 1) (some 1)) [6] (gnm 6) dyes (dW (dcall (O.fn 8) 1 [(dvar 6)] [])))])) (dseq (dif (bor (asb (dcmp .NotEq (dbi bRepr [(dcallK (O.fn 10) 1 [] [(dvar 1)] [0] [])]) (dbi bRepr [(dvar 5)]))) (asb (dcmp .NotEq (dbi bRepr [(dcall (O.fn 9) 1 [(dvar 5)] [])]) (dbi bRepr [(dvar 1)])))) (dseq (dret (dcon (.bl false))) dskip) dskip) dskip)))))
theorem body_r {t : T} {i : Nat} {k : Int} {x1 x2 x3 x5 x7 x8 x9 : Option T} {knx kb kc : S → Prop} (hp : Pot0 M t i k) (hk : k < 10000)
    (h : ∀ (a b c : Int) (M' : List Ob) (y3 y5 : Option T), a.natAbs ≤ 300000 → b.natAbs ≤ 300000 → c.natAbs ≤ 300000 → Pot M' i (k + 12) → knx ⟨[some (.w (.loc i)), some (.w (ce a b c)), x2, y3, none, y5, none, x7, x8, x9], M'⟩) :
    (bodyR (ob (n + 5)) ⟨[some t, x1, x2, x3, none, x5, none, x7, x8, x9], M⟩).sat { nx := knx, rt := R, bk := kb, ct := kc } := by
  refine w_stp fun k hk => ?_
  simp only [w_set, w_T, w_call, w_ts, w_ts0]
  have hp2 := pot_giv (M := M) (t := t) (i := i) (r := [x1, x2, x3, none, x5, none, x7, x8, x9]) (Q := fun t s => ([t] ++ List.map T.w []).length = 1 ∧ ((ob (n + 5)).fn 5 ([t] ++ List.map T.w []) s.M).sat fun t M => (giv t ⟨s.sg, M⟩).sat fun t s => k (setS 3 t s)) hp
  simp only [w_T] at hp2
  refine hp2 fun M1 hp3 => ⟨rfl, ?_⟩
  clear hp2
  refine c_law_drawn_point hp3 (by omega) fun p q p' q' p'' q'' M2 g1 g2 g3 hp4 => ?_
  try simp only [Rk.sat_ok, Rk.osat_some, Rk.osat_none, Rk.osat_ite, Rk.osat_map, Rk.osat_bind, Rk.w_var, Rk.w_con, Rk.w_bin, Rk.w_cmp, Rk.w_ix, Rk.w_bi, Rk.w_es0, Rk.w_es, Rk.w_ts0, Rk.w_ts, Rk.w_ws0, Rk.w_ws, Rk.w_W, Rk.w_T, Rk.w_esc, Rk.w_givw, Rk.w_givl, Rk.w_tup, Rk.w_lst, Rk.w_call, Rk.w_callK, Rk.w_un, Rk.w_not, Rk.w_and, Rk.w_or, Rk.w_ifx, Rk.w_sl, Rk.w_no, Rk.w_so, Rk.w_asb, Rk.w_tru, Rk.w_bnot, Rk.w_band, Rk.w_bor, Rk.w_yes, Rk.w_skip, Rk.w_expr, Rk.w_set, Rk.w_ret, Rk.w_retN, Rk.w_if, Rk.w_asg, Rk.w_par, Rk.w_gnm, Rk.w_gsb, Rk.w_mt, Rk.w_ext, Rk.w_gtp, Rk.w_gsc, Rk.w_gsn, Rk.w_escs, Rk.w_givs, Rk.slQ_l, Rk.slQ_w, Rk.backT, Option.getD_some, Option.getD_none, Rk.get_w, Rk.get_l, Rk.get_sl, Rk.seq_tup, Rk.seq_rol, Rk.seq_l, Rk.seq_loc, Rk.seq_sl, Rk.lst_rol, Rk.lst_l, Rk.lst_loc, Rk.lst_sl, Rk.lst_tup, Rk.ix_int, Rk.ix_some, Rk.seqT_l, Rk.seqT_tup, Rk.seqT_rol, Rk.seqT_loc, Rk.lstT_l, Rk.lstT_rol, Rk.lstT_loc, Rk.at_0, Rk.at_1, Rk.at_2, Rk.at_3, Rk.at_4, Rk.at_5, Rk.bin_int, Rk.i_add, Rk.i_sub, Rk.i_mul, Rk.i_div, Rk.i_mod, Rk.i_pow, Rk.u_neg, Rk.c_lt, Rk.c_le, Rk.c_gt, Rk.c_ge, Rk.c_eq, Rk.c_ne, Rk.c_isN, Rk.c_isI, Rk.c_seq, Rk.c_sne, Rk.t_non, Rk.t_bl, Rk.t_int, Rk.iw_int, Rk.bt_bl, Rk.b_int, Rk.b_intb, Rk.b_abs, Rk.b_lent, Rk.b_lenr, Rk.b_lenl, Rk.b_tup, Rk.b_list, Rk.b_all, Rk.b_any, Rk.b_sum, Rk.bls_nil, Rk.bls_cons, Rk.ints_nil, Rk.ints_cons, Rk.b_min1, Rk.b_max1, Rk.b_min2, Rk.b_max2, Rk.m_loc, Rk.m_sl, Rk.p_nil, Rk.p_cons, Rk.set_s, Rk.esc_l, Rk.isI_int, Rk.isI_bool, Rk.isI_tup, List.cons_append, List.nil_append, List.append_nil, List.getElem?_cons_zero, List.getElem?_cons_succ, List.set_cons_zero, List.set_cons_succ, List.length_cons, List.length_nil, List.map_nil, List.map_cons, Option.bind_some, Option.bind_none, Option.map_some, Option.map_none, Option.isSome_some, id_eq, true_and, and_true, decide_eq_true_eq, List.replicate_succ, List.replicate_zero, Nat.reduceAdd, Nat.reduceSub, Int.reduceMul, Int.reduceAdd, Int.reduceSub, Int.reduceNeg, if_true, if_false, Bool.true_eq_false, Bool.false_eq_true, reduceIte]
  refine hk _ ?_; clear hk k
  have b1 := idx_small g1
  have b2 := idx_small g2
  have b3 := idx_small g3
  obtain ⟨f1, _⟩ := g1
  obtain ⟨f2, _⟩ := g2
  obtain ⟨f3, _⟩ := g3
  refine w_stp fun k hk => ?_; try simp only [Rk.sat_ok, Rk.osat_some, Rk.osat_none, Rk.osat_ite, Rk.osat_map, Rk.osat_bind, Rk.w_var, Rk.w_con, Rk.w_bin, Rk.w_cmp, Rk.w_ix, Rk.w_bi, Rk.w_es0, Rk.w_es, Rk.w_ts0, Rk.w_ts, Rk.w_ws0, Rk.w_ws, Rk.w_W, Rk.w_T, Rk.w_esc, Rk.w_givw, Rk.w_givl, Rk.w_tup, Rk.w_lst, Rk.w_call, Rk.w_callK, Rk.w_un, Rk.w_not, Rk.w_and, Rk.w_or, Rk.w_ifx, Rk.w_sl, Rk.w_no, Rk.w_so, Rk.w_asb, Rk.w_tru, Rk.w_bnot, Rk.w_band, Rk.w_bor, Rk.w_yes, Rk.w_skip, Rk.w_expr, Rk.w_set, Rk.w_ret, Rk.w_retN, Rk.w_if, Rk.w_asg, Rk.w_par, Rk.w_gnm, Rk.w_gsb, Rk.w_mt, Rk.w_ext, Rk.w_gtp, Rk.w_gsc, Rk.w_gsn, Rk.w_escs, Rk.w_givs, Rk.slQ_l, Rk.slQ_w, Rk.backT, Option.getD_some, Option.getD_none, Rk.get_w, Rk.get_l, Rk.get_sl, Rk.seq_tup, Rk.seq_rol, Rk.seq_l, Rk.seq_loc, Rk.seq_sl, Rk.lst_rol, Rk.lst_l, Rk.lst_loc, Rk.lst_sl, Rk.lst_tup, Rk.ix_int, Rk.ix_some, Rk.seqT_l, Rk.seqT_tup, Rk.seqT_rol, Rk.seqT_loc, Rk.lstT_l, Rk.lstT_rol, Rk.lstT_loc, Rk.at_0, Rk.at_1, Rk.at_2, Rk.at_3, Rk.at_4, Rk.at_5, Rk.bin_int, Rk.i_add, Rk.i_sub, Rk.i_mul, Rk.i_div, Rk.i_mod, Rk.i_pow, Rk.u_neg, Rk.c_lt, Rk.c_le, Rk.c_gt, Rk.c_ge, Rk.c_eq, Rk.c_ne, Rk.c_isN, Rk.c_isI, Rk.c_seq, Rk.c_sne, Rk.t_non, Rk.t_bl, Rk.t_int, Rk.iw_int, Rk.bt_bl, Rk.b_int, Rk.b_intb, Rk.b_abs, Rk.b_lent, Rk.b_lenr, Rk.b_lenl, Rk.b_tup, Rk.b_list, Rk.b_all, Rk.b_any, Rk.b_sum, Rk.bls_nil, Rk.bls_cons, Rk.ints_nil, Rk.ints_cons, Rk.b_min1, Rk.b_max1, Rk.b_min2, Rk.b_max2, Rk.m_loc, Rk.m_sl, Rk.p_nil, Rk.p_cons, Rk.set_s, Rk.esc_l, Rk.isI_int, Rk.isI_bool, Rk.isI_tup, List.cons_append, List.nil_append, List.append_nil, List.getElem?_cons_zero, List.getElem?_cons_succ, List.set_cons_zero, List.set_cons_succ, List.length_cons, List.length_nil, List.map_nil, List.map_cons, Option.bind_some, Option.bind_none, Option.map_some, Option.map_none, Option.isSome_some, id_eq, true_and, and_true, decide_eq_true_eq, List.replicate_succ, List.replicate_zero, Nat.reduceAdd, Nat.reduceSub, Int.reduceMul, Int.reduceAdd, Int.reduceSub, Int.reduceNeg, if_true, if_false, Bool.true_eq_false, Bool.false_eq_true, reduceIte, w_comp, w_walk, k_tup, w_gsnap]
  refine ⟨rfl, ?_⟩
  rw [Rk.cs_cons]; try simp only [Rk.sat_ok, Rk.osat_some, Rk.osat_none, Rk.osat_ite, Rk.osat_map, Rk.osat_bind, Rk.w_var, Rk.w_con, Rk.w_bin, Rk.w_cmp, Rk.w_ix, Rk.w_bi, Rk.w_es0, Rk.w_es, Rk.w_ts0, Rk.w_ts, Rk.w_ws0, Rk.w_ws, Rk.w_W, Rk.w_T, Rk.w_esc, Rk.w_givw, Rk.w_givl, Rk.w_tup, Rk.w_lst, Rk.w_call, Rk.w_callK, Rk.w_un, Rk.w_not, Rk.w_and, Rk.w_or, Rk.w_ifx, Rk.w_sl, Rk.w_no, Rk.w_so, Rk.w_asb, Rk.w_tru, Rk.w_bnot, Rk.w_band, Rk.w_bor, Rk.w_yes, Rk.w_skip, Rk.w_expr, Rk.w_set, Rk.w_ret, Rk.w_retN, Rk.w_if, Rk.w_asg, Rk.w_par, Rk.w_gnm, Rk.w_gsb, Rk.w_mt, Rk.w_ext, Rk.w_gtp, Rk.w_gsc, Rk.w_gsn, Rk.w_escs, Rk.w_givs, Rk.slQ_l, Rk.slQ_w, Rk.backT, Option.getD_some, Option.getD_none, Rk.get_w, Rk.get_l, Rk.get_sl, Rk.seq_tup, Rk.seq_rol, Rk.seq_l, Rk.seq_loc, Rk.seq_sl, Rk.lst_rol, Rk.lst_l, Rk.lst_loc, Rk.lst_sl, Rk.lst_tup, Rk.ix_int, Rk.ix_some, Rk.seqT_l, Rk.seqT_tup, Rk.seqT_rol, Rk.seqT_loc, Rk.lstT_l, Rk.lstT_rol, Rk.lstT_loc, Rk.at_0, Rk.at_1, Rk.at_2, Rk.at_3, Rk.at_4, Rk.at_5, Rk.bin_int, Rk.i_add, Rk.i_sub, Rk.i_mul, Rk.i_div, Rk.i_mod, Rk.i_pow, Rk.u_neg, Rk.c_lt, Rk.c_le, Rk.c_gt, Rk.c_ge, Rk.c_eq, Rk.c_ne, Rk.c_isN, Rk.c_isI, Rk.c_seq, Rk.c_sne, Rk.t_non, Rk.t_bl, Rk.t_int, Rk.iw_int, Rk.bt_bl, Rk.b_int, Rk.b_intb, Rk.b_abs, Rk.b_lent, Rk.b_lenr, Rk.b_lenl, Rk.b_tup, Rk.b_list, Rk.b_all, Rk.b_any, Rk.b_sum, Rk.bls_nil, Rk.bls_cons, Rk.ints_nil, Rk.ints_cons, Rk.b_min1, Rk.b_max1, Rk.b_min2, Rk.b_max2, Rk.m_loc, Rk.m_sl, Rk.p_nil, Rk.p_cons, Rk.set_s, Rk.esc_l, Rk.isI_int, Rk.isI_bool, Rk.isI_tup, List.cons_append, List.nil_append, List.append_nil, List.getElem?_cons_zero, List.getElem?_cons_succ, List.set_cons_zero, List.set_cons_succ, List.length_cons, List.length_nil, List.map_nil, List.map_cons, Option.bind_some, Option.bind_none, Option.map_some, Option.map_none, Option.isSome_some, id_eq, true_and, and_true, decide_eq_true_eq, List.replicate_succ, List.replicate_zero, Nat.reduceAdd, Nat.reduceSub, Int.reduceMul, Int.reduceAdd, Int.reduceSub, Int.reduceNeg, if_true, if_false, Bool.true_eq_false, Bool.false_eq_true, reduceIte, Rk.wipeS, Rk.wipeT]
  refine c_law_index f1 ?_
  try simp only [Rk.sat_ok, Rk.osat_some, Rk.osat_none, Rk.osat_ite, Rk.osat_map, Rk.osat_bind, Rk.w_var, Rk.w_con, Rk.w_bin, Rk.w_cmp, Rk.w_ix, Rk.w_bi, Rk.w_es0, Rk.w_es, Rk.w_ts0, Rk.w_ts, Rk.w_ws0, Rk.w_ws, Rk.w_W, Rk.w_T, Rk.w_esc, Rk.w_givw, Rk.w_givl, Rk.w_tup, Rk.w_lst, Rk.w_call, Rk.w_callK, Rk.w_un, Rk.w_not, Rk.w_and, Rk.w_or, Rk.w_ifx, Rk.w_sl, Rk.w_no, Rk.w_so, Rk.w_asb, Rk.w_tru, Rk.w_bnot, Rk.w_band, Rk.w_bor, Rk.w_yes, Rk.w_skip, Rk.w_expr, Rk.w_set, Rk.w_ret, Rk.w_retN, Rk.w_if, Rk.w_asg, Rk.w_par, Rk.w_gnm, Rk.w_gsb, Rk.w_mt, Rk.w_ext, Rk.w_gtp, Rk.w_gsc, Rk.w_gsn, Rk.w_escs, Rk.w_givs, Rk.slQ_l, Rk.slQ_w, Rk.backT, Option.getD_some, Option.getD_none, Rk.get_w, Rk.get_l, Rk.get_sl, Rk.seq_tup, Rk.seq_rol, Rk.seq_l, Rk.seq_loc, Rk.seq_sl, Rk.lst_rol, Rk.lst_l, Rk.lst_loc, Rk.lst_sl, Rk.lst_tup, Rk.ix_int, Rk.ix_some, Rk.seqT_l, Rk.seqT_tup, Rk.seqT_rol, Rk.seqT_loc, Rk.lstT_l, Rk.lstT_rol, Rk.lstT_loc, Rk.at_0, Rk.at_1, Rk.at_2, Rk.at_3, Rk.at_4, Rk.at_5, Rk.bin_int, Rk.i_add, Rk.i_sub, Rk.i_mul, Rk.i_div, Rk.i_mod, Rk.i_pow, Rk.u_neg, Rk.c_lt, Rk.c_le, Rk.c_gt, Rk.c_ge, Rk.c_eq, Rk.c_ne, Rk.c_isN, Rk.c_isI, Rk.c_seq, Rk.c_sne, Rk.t_non, Rk.t_bl, Rk.t_int, Rk.iw_int, Rk.bt_bl, Rk.b_int, Rk.b_intb, Rk.b_abs, Rk.b_lent, Rk.b_lenr, Rk.b_lenl, Rk.b_tup, Rk.b_list, Rk.b_all, Rk.b_any, Rk.b_sum, Rk.bls_nil, Rk.bls_cons, Rk.ints_nil, Rk.ints_cons, Rk.b_min1, Rk.b_max1, Rk.b_min2, Rk.b_max2, Rk.m_loc, Rk.m_sl, Rk.p_nil, Rk.p_cons, Rk.set_s, Rk.esc_l, Rk.isI_int, Rk.isI_bool, Rk.isI_tup, List.cons_append, List.nil_append, List.append_nil, List.getElem?_cons_zero, List.getElem?_cons_succ, List.set_cons_zero, List.set_cons_succ, List.length_cons, List.length_nil, List.map_nil, List.map_cons, Option.bind_some, Option.bind_none, Option.map_some, Option.map_none, Option.isSome_some, id_eq, true_and, and_true, decide_eq_true_eq, List.replicate_succ, List.replicate_zero, Nat.reduceAdd, Nat.reduceSub, Int.reduceMul, Int.reduceAdd, Int.reduceSub, Int.reduceNeg, if_true, if_false, Bool.true_eq_false, Bool.false_eq_true, reduceIte]
  refine ⟨⟨by decide, rfl⟩, ?_⟩
  rw [Rk.cs_cons]; try simp only [Rk.sat_ok, Rk.osat_some, Rk.osat_none, Rk.osat_ite, Rk.osat_map, Rk.osat_bind, Rk.w_var, Rk.w_con, Rk.w_bin, Rk.w_cmp, Rk.w_ix, Rk.w_bi, Rk.w_es0, Rk.w_es, Rk.w_ts0, Rk.w_ts, Rk.w_ws0, Rk.w_ws, Rk.w_W, Rk.w_T, Rk.w_esc, Rk.w_givw, Rk.w_givl, Rk.w_tup, Rk.w_lst, Rk.w_call, Rk.w_callK, Rk.w_un, Rk.w_not, Rk.w_and, Rk.w_or, Rk.w_ifx, Rk.w_sl, Rk.w_no, Rk.w_so, Rk.w_asb, Rk.w_tru, Rk.w_bnot, Rk.w_band, Rk.w_bor, Rk.w_yes, Rk.w_skip, Rk.w_expr, Rk.w_set, Rk.w_ret, Rk.w_retN, Rk.w_if, Rk.w_asg, Rk.w_par, Rk.w_gnm, Rk.w_gsb, Rk.w_mt, Rk.w_ext, Rk.w_gtp, Rk.w_gsc, Rk.w_gsn, Rk.w_escs, Rk.w_givs, Rk.slQ_l, Rk.slQ_w, Rk.backT, Option.getD_some, Option.getD_none, Rk.get_w, Rk.get_l, Rk.get_sl, Rk.seq_tup, Rk.seq_rol, Rk.seq_l, Rk.seq_loc, Rk.seq_sl, Rk.lst_rol, Rk.lst_l, Rk.lst_loc, Rk.lst_sl, Rk.lst_tup, Rk.ix_int, Rk.ix_some, Rk.seqT_l, Rk.seqT_tup, Rk.seqT_rol, Rk.seqT_loc, Rk.lstT_l, Rk.lstT_rol, Rk.lstT_loc, Rk.at_0, Rk.at_1, Rk.at_2, Rk.at_3, Rk.at_4, Rk.at_5, Rk.bin_int, Rk.i_add, Rk.i_sub, Rk.i_mul, Rk.i_div, Rk.i_mod, Rk.i_pow, Rk.u_neg, Rk.c_lt, Rk.c_le, Rk.c_gt, Rk.c_ge, Rk.c_eq, Rk.c_ne, Rk.c_isN, Rk.c_isI, Rk.c_seq, Rk.c_sne, Rk.t_non, Rk.t_bl, Rk.t_int, Rk.iw_int, Rk.bt_bl, Rk.b_int, Rk.b_intb, Rk.b_abs, Rk.b_lent, Rk.b_lenr, Rk.b_lenl, Rk.b_tup, Rk.b_list, Rk.b_all, Rk.b_any, Rk.b_sum, Rk.bls_nil, Rk.bls_cons, Rk.ints_nil, Rk.ints_cons, Rk.b_min1, Rk.b_max1, Rk.b_min2, Rk.b_max2, Rk.m_loc, Rk.m_sl, Rk.p_nil, Rk.p_cons, Rk.set_s, Rk.esc_l, Rk.isI_int, Rk.isI_bool, Rk.isI_tup, List.cons_append, List.nil_append, List.append_nil, List.getElem?_cons_zero, List.getElem?_cons_succ, List.set_cons_zero, List.set_cons_succ, List.length_cons, List.length_nil, List.map_nil, List.map_cons, Option.bind_some, Option.bind_none, Option.map_some, Option.map_none, Option.isSome_some, id_eq, true_and, and_true, decide_eq_true_eq, List.replicate_succ, List.replicate_zero, Nat.reduceAdd, Nat.reduceSub, Int.reduceMul, Int.reduceAdd, Int.reduceSub, Int.reduceNeg, if_true, if_false, Bool.true_eq_false, Bool.false_eq_true, reduceIte, Rk.wipeS, Rk.wipeT]
  refine c_law_index f2 ?_
  try simp only [Rk.sat_ok, Rk.osat_some, Rk.osat_none, Rk.osat_ite, Rk.osat_map, Rk.osat_bind, Rk.w_var, Rk.w_con, Rk.w_bin, Rk.w_cmp, Rk.w_ix, Rk.w_bi, Rk.w_es0, Rk.w_es, Rk.w_ts0, Rk.w_ts, Rk.w_ws0, Rk.w_ws, Rk.w_W, Rk.w_T, Rk.w_esc, Rk.w_givw, Rk.w_givl, Rk.w_tup, Rk.w_lst, Rk.w_call, Rk.w_callK, Rk.w_un, Rk.w_not, Rk.w_and, Rk.w_or, Rk.w_ifx, Rk.w_sl, Rk.w_no, Rk.w_so, Rk.w_asb, Rk.w_tru, Rk.w_bnot, Rk.w_band, Rk.w_bor, Rk.w_yes, Rk.w_skip, Rk.w_expr, Rk.w_set, Rk.w_ret, Rk.w_retN, Rk.w_if, Rk.w_asg, Rk.w_par, Rk.w_gnm, Rk.w_gsb, Rk.w_mt, Rk.w_ext, Rk.w_gtp, Rk.w_gsc, Rk.w_gsn, Rk.w_escs, Rk.w_givs, Rk.slQ_l, Rk.slQ_w, Rk.backT, Option.getD_some, Option.getD_none, Rk.get_w, Rk.get_l, Rk.get_sl, Rk.seq_tup, Rk.seq_rol, Rk.seq_l, Rk.seq_loc, Rk.seq_sl, Rk.lst_rol, Rk.lst_l, Rk.lst_loc, Rk.lst_sl, Rk.lst_tup, Rk.ix_int, Rk.ix_some, Rk.seqT_l, Rk.seqT_tup, Rk.seqT_rol, Rk.seqT_loc, Rk.lstT_l, Rk.lstT_rol, Rk.lstT_loc, Rk.at_0, Rk.at_1, Rk.at_2, Rk.at_3, Rk.at_4, Rk.at_5, Rk.bin_int, Rk.i_add, Rk.i_sub, Rk.i_mul, Rk.i_div, Rk.i_mod, Rk.i_pow, Rk.u_neg, Rk.c_lt, Rk.c_le, Rk.c_gt, Rk.c_ge, Rk.c_eq, Rk.c_ne, Rk.c_isN, Rk.c_isI, Rk.c_seq, Rk.c_sne, Rk.t_non, Rk.t_bl, Rk.t_int, Rk.iw_int, Rk.bt_bl, Rk.b_int, Rk.b_intb, Rk.b_abs, Rk.b_lent, Rk.b_lenr, Rk.b_lenl, Rk.b_tup, Rk.b_list, Rk.b_all, Rk.b_any, Rk.b_sum, Rk.bls_nil, Rk.bls_cons, Rk.ints_nil, Rk.ints_cons, Rk.b_min1, Rk.b_max1, Rk.b_min2, Rk.b_max2, Rk.m_loc, Rk.m_sl, Rk.p_nil, Rk.p_cons, Rk.set_s, Rk.esc_l, Rk.isI_int, Rk.isI_bool, Rk.isI_tup, List.cons_append, List.nil_append, List.append_nil, List.getElem?_cons_zero, List.getElem?_cons_succ, List.set_cons_zero, List.set_cons_succ, List.length_cons, List.length_nil, List.map_nil, List.map_cons, Option.bind_some, Option.bind_none, Option.map_some, Option.map_none, Option.isSome_some, id_eq, true_and, and_true, decide_eq_true_eq, List.replicate_succ, List.replicate_zero, Nat.reduceAdd, Nat.reduceSub, Int.reduceMul, Int.reduceAdd, Int.reduceSub, Int.reduceNeg, if_true, if_false, Bool.true_eq_false, Bool.false_eq_true, reduceIte]
  refine ⟨⟨by decide, rfl⟩, ?_⟩
  rw [Rk.cs_cons]; try simp only [Rk.sat_ok, Rk.osat_some, Rk.osat_none, Rk.osat_ite, Rk.osat_map, Rk.osat_bind, Rk.w_var, Rk.w_con, Rk.w_bin, Rk.w_cmp, Rk.w_ix, Rk.w_bi, Rk.w_es0, Rk.w_es, Rk.w_ts0, Rk.w_ts, Rk.w_ws0, Rk.w_ws, Rk.w_W, Rk.w_T, Rk.w_esc, Rk.w_givw, Rk.w_givl, Rk.w_tup, Rk.w_lst, Rk.w_call, Rk.w_callK, Rk.w_un, Rk.w_not, Rk.w_and, Rk.w_or, Rk.w_ifx, Rk.w_sl, Rk.w_no, Rk.w_so, Rk.w_asb, Rk.w_tru, Rk.w_bnot, Rk.w_band, Rk.w_bor, Rk.w_yes, Rk.w_skip, Rk.w_expr, Rk.w_set, Rk.w_ret, Rk.w_retN, Rk.w_if, Rk.w_asg, Rk.w_par, Rk.w_gnm, Rk.w_gsb, Rk.w_mt, Rk.w_ext, Rk.w_gtp, Rk.w_gsc, Rk.w_gsn, Rk.w_escs, Rk.w_givs, Rk.slQ_l, Rk.slQ_w, Rk.backT, Option.getD_some, Option.getD_none, Rk.get_w, Rk.get_l, Rk.get_sl, Rk.seq_tup, Rk.seq_rol, Rk.seq_l, Rk.seq_loc, Rk.seq_sl, Rk.lst_rol, Rk.lst_l, Rk.lst_loc, Rk.lst_sl, Rk.lst_tup, Rk.ix_int, Rk.ix_some, Rk.seqT_l, Rk.seqT_tup, Rk.seqT_rol, Rk.seqT_loc, Rk.lstT_l, Rk.lstT_rol, Rk.lstT_loc, Rk.at_0, Rk.at_1, Rk.at_2, Rk.at_3, Rk.at_4, Rk.at_5, Rk.bin_int, Rk.i_add, Rk.i_sub, Rk.i_mul, Rk.i_div, Rk.i_mod, Rk.i_pow, Rk.u_neg, Rk.c_lt, Rk.c_le, Rk.c_gt, Rk.c_ge, Rk.c_eq, Rk.c_ne, Rk.c_isN, Rk.c_isI, Rk.c_seq, Rk.c_sne, Rk.t_non, Rk.t_bl, Rk.t_int, Rk.iw_int, Rk.bt_bl, Rk.b_int, Rk.b_intb, Rk.b_abs, Rk.b_lent, Rk.b_lenr, Rk.b_lenl, Rk.b_tup, Rk.b_list, Rk.b_all, Rk.b_any, Rk.b_sum, Rk.bls_nil, Rk.bls_cons, Rk.ints_nil, Rk.ints_cons, Rk.b_min1, Rk.b_max1, Rk.b_min2, Rk.b_max2, Rk.m_loc, Rk.m_sl, Rk.p_nil, Rk.p_cons, Rk.set_s, Rk.esc_l, Rk.isI_int, Rk.isI_bool, Rk.isI_tup, List.cons_append, List.nil_append, List.append_nil, List.getElem?_cons_zero, List.getElem?_cons_succ, List.set_cons_zero, List.set_cons_succ, List.length_cons, List.length_nil, List.map_nil, List.map_cons, Option.bind_some, Option.bind_none, Option.map_some, Option.map_none, Option.isSome_some, id_eq, true_and, and_true, decide_eq_true_eq, List.replicate_succ, List.replicate_zero, Nat.reduceAdd, Nat.reduceSub, Int.reduceMul, Int.reduceAdd, Int.reduceSub, Int.reduceNeg, if_true, if_false, Bool.true_eq_false, Bool.false_eq_true, reduceIte, Rk.wipeS, Rk.wipeT]
  refine c_law_index f3 ?_
  try simp only [Rk.sat_ok, Rk.osat_some, Rk.osat_none, Rk.osat_ite, Rk.osat_map, Rk.osat_bind, Rk.w_var, Rk.w_con, Rk.w_bin, Rk.w_cmp, Rk.w_ix, Rk.w_bi, Rk.w_es0, Rk.w_es, Rk.w_ts0, Rk.w_ts, Rk.w_ws0, Rk.w_ws, Rk.w_W, Rk.w_T, Rk.w_esc, Rk.w_givw, Rk.w_givl, Rk.w_tup, Rk.w_lst, Rk.w_call, Rk.w_callK, Rk.w_un, Rk.w_not, Rk.w_and, Rk.w_or, Rk.w_ifx, Rk.w_sl, Rk.w_no, Rk.w_so, Rk.w_asb, Rk.w_tru, Rk.w_bnot, Rk.w_band, Rk.w_bor, Rk.w_yes, Rk.w_skip, Rk.w_expr, Rk.w_set, Rk.w_ret, Rk.w_retN, Rk.w_if, Rk.w_asg, Rk.w_par, Rk.w_gnm, Rk.w_gsb, Rk.w_mt, Rk.w_ext, Rk.w_gtp, Rk.w_gsc, Rk.w_gsn, Rk.w_escs, Rk.w_givs, Rk.slQ_l, Rk.slQ_w, Rk.backT, Option.getD_some, Option.getD_none, Rk.get_w, Rk.get_l, Rk.get_sl, Rk.seq_tup, Rk.seq_rol, Rk.seq_l, Rk.seq_loc, Rk.seq_sl, Rk.lst_rol, Rk.lst_l, Rk.lst_loc, Rk.lst_sl, Rk.lst_tup, Rk.ix_int, Rk.ix_some, Rk.seqT_l, Rk.seqT_tup, Rk.seqT_rol, Rk.seqT_loc, Rk.lstT_l, Rk.lstT_rol, Rk.lstT_loc, Rk.at_0, Rk.at_1, Rk.at_2, Rk.at_3, Rk.at_4, Rk.at_5, Rk.bin_int, Rk.i_add, Rk.i_sub, Rk.i_mul, Rk.i_div, Rk.i_mod, Rk.i_pow, Rk.u_neg, Rk.c_lt, Rk.c_le, Rk.c_gt, Rk.c_ge, Rk.c_eq, Rk.c_ne, Rk.c_isN, Rk.c_isI, Rk.c_seq, Rk.c_sne, Rk.t_non, Rk.t_bl, Rk.t_int, Rk.iw_int, Rk.bt_bl, Rk.b_int, Rk.b_intb, Rk.b_abs, Rk.b_lent, Rk.b_lenr, Rk.b_lenl, Rk.b_tup, Rk.b_list, Rk.b_all, Rk.b_any, Rk.b_sum, Rk.bls_nil, Rk.bls_cons, Rk.ints_nil, Rk.ints_cons, Rk.b_min1, Rk.b_max1, Rk.b_min2, Rk.b_max2, Rk.m_loc, Rk.m_sl, Rk.p_nil, Rk.p_cons, Rk.set_s, Rk.esc_l, Rk.isI_int, Rk.isI_bool, Rk.isI_tup, List.cons_append, List.nil_append, List.append_nil, List.getElem?_cons_zero, List.getElem?_cons_succ, List.set_cons_zero, List.set_cons_succ, List.length_cons, List.length_nil, List.map_nil, List.map_cons, Option.bind_some, Option.bind_none, Option.map_some, Option.map_none, Option.isSome_some, id_eq, true_and, and_true, decide_eq_true_eq, List.replicate_succ, List.replicate_zero, Nat.reduceAdd, Nat.reduceSub, Int.reduceMul, Int.reduceAdd, Int.reduceSub, Int.reduceNeg, if_true, if_false, Bool.true_eq_false, Bool.false_eq_true, reduceIte, cs_nil]
  refine ⟨⟨by decide, rfl⟩, ?_⟩
  try simp only [Rk.sat_ok, Rk.osat_some, Rk.osat_none, Rk.osat_ite, Rk.osat_map, Rk.osat_bind, Rk.w_var, Rk.w_con, Rk.w_bin, Rk.w_cmp, Rk.w_ix, Rk.w_bi, Rk.w_es0, Rk.w_es, Rk.w_ts0, Rk.w_ts, Rk.w_ws0, Rk.w_ws, Rk.w_W, Rk.w_T, Rk.w_esc, Rk.w_givw, Rk.w_givl, Rk.w_tup, Rk.w_lst, Rk.w_call, Rk.w_callK, Rk.w_un, Rk.w_not, Rk.w_and, Rk.w_or, Rk.w_ifx, Rk.w_sl, Rk.w_no, Rk.w_so, Rk.w_asb, Rk.w_tru, Rk.w_bnot, Rk.w_band, Rk.w_bor, Rk.w_yes, Rk.w_skip, Rk.w_expr, Rk.w_set, Rk.w_ret, Rk.w_retN, Rk.w_if, Rk.w_asg, Rk.w_par, Rk.w_gnm, Rk.w_gsb, Rk.w_mt, Rk.w_ext, Rk.w_gtp, Rk.w_gsc, Rk.w_gsn, Rk.w_escs, Rk.w_givs, Rk.slQ_l, Rk.slQ_w, Rk.backT, Option.getD_some, Option.getD_none, Rk.get_w, Rk.get_l, Rk.get_sl, Rk.seq_tup, Rk.seq_rol, Rk.seq_l, Rk.seq_loc, Rk.seq_sl, Rk.lst_rol, Rk.lst_l, Rk.lst_loc, Rk.lst_sl, Rk.lst_tup, Rk.ix_int, Rk.ix_some, Rk.seqT_l, Rk.seqT_tup, Rk.seqT_rol, Rk.seqT_loc, Rk.lstT_l, Rk.lstT_rol, Rk.lstT_loc, Rk.at_0, Rk.at_1, Rk.at_2, Rk.at_3, Rk.at_4, Rk.at_5, Rk.bin_int, Rk.i_add, Rk.i_sub, Rk.i_mul, Rk.i_div, Rk.i_mod, Rk.i_pow, Rk.u_neg, Rk.c_lt, Rk.c_le, Rk.c_gt, Rk.c_ge, Rk.c_eq, Rk.c_ne, Rk.c_isN, Rk.c_isI, Rk.c_seq, Rk.c_sne, Rk.t_non, Rk.t_bl, Rk.t_int, Rk.iw_int, Rk.bt_bl, Rk.b_int, Rk.b_intb, Rk.b_abs, Rk.b_lent, Rk.b_lenr, Rk.b_lenl, Rk.b_tup, Rk.b_list, Rk.b_all, Rk.b_any, Rk.b_sum, Rk.bls_nil, Rk.bls_cons, Rk.ints_nil, Rk.ints_cons, Rk.b_min1, Rk.b_max1, Rk.b_min2, Rk.b_max2, Rk.m_loc, Rk.m_sl, Rk.p_nil, Rk.p_cons, Rk.set_s, Rk.esc_l, Rk.isI_int, Rk.isI_bool, Rk.isI_tup, List.cons_append, List.nil_append, List.append_nil, List.getElem?_cons_zero, List.getElem?_cons_succ, List.set_cons_zero, List.set_cons_succ, List.length_cons, List.length_nil, List.map_nil, List.map_cons, Option.bind_some, Option.bind_none, Option.map_some, Option.map_none, Option.isSome_some, id_eq, true_and, and_true, decide_eq_true_eq, List.replicate_succ, List.replicate_zero, Nat.reduceAdd, Nat.reduceSub, Int.reduceMul, Int.reduceAdd, Int.reduceSub, Int.reduceNeg, if_true, if_false, Bool.true_eq_false, Bool.false_eq_true, reduceIte, wipeT]
  refine hk _ ?_; clear hk k
  generalize ha : idx p q = a at b1 ⊢
  generalize hb : idx p' q' = b at b2 ⊢
  generalize hc : idx p'' q'' = c at b3 ⊢
  refine w_stp fun k hk => ?_; try simp only [Rk.sat_ok, Rk.osat_some, Rk.osat_none, Rk.osat_ite, Rk.osat_map, Rk.osat_bind, Rk.w_var, Rk.w_con, Rk.w_bin, Rk.w_cmp, Rk.w_ix, Rk.w_bi, Rk.w_es0, Rk.w_es, Rk.w_ts0, Rk.w_ts, Rk.w_ws0, Rk.w_ws, Rk.w_W, Rk.w_T, Rk.w_esc, Rk.w_givw, Rk.w_givl, Rk.w_tup, Rk.w_lst, Rk.w_call, Rk.w_callK, Rk.w_un, Rk.w_not, Rk.w_and, Rk.w_or, Rk.w_ifx, Rk.w_sl, Rk.w_no, Rk.w_so, Rk.w_asb, Rk.w_tru, Rk.w_bnot, Rk.w_band, Rk.w_bor, Rk.w_yes, Rk.w_skip, Rk.w_expr, Rk.w_set, Rk.w_ret, Rk.w_retN, Rk.w_if, Rk.w_asg, Rk.w_par, Rk.w_gnm, Rk.w_gsb, Rk.w_mt, Rk.w_ext, Rk.w_gtp, Rk.w_gsc, Rk.w_gsn, Rk.w_escs, Rk.w_givs, Rk.slQ_l, Rk.slQ_w, Rk.backT, Option.getD_some, Option.getD_none, Rk.get_w, Rk.get_l, Rk.get_sl, Rk.seq_tup, Rk.seq_rol, Rk.seq_l, Rk.seq_loc, Rk.seq_sl, Rk.lst_rol, Rk.lst_l, Rk.lst_loc, Rk.lst_sl, Rk.lst_tup, Rk.ix_int, Rk.ix_some, Rk.seqT_l, Rk.seqT_tup, Rk.seqT_rol, Rk.seqT_loc, Rk.lstT_l, Rk.lstT_rol, Rk.lstT_loc, Rk.at_0, Rk.at_1, Rk.at_2, Rk.at_3, Rk.at_4, Rk.at_5, Rk.bin_int, Rk.i_add, Rk.i_sub, Rk.i_mul, Rk.i_div, Rk.i_mod, Rk.i_pow, Rk.u_neg, Rk.c_lt, Rk.c_le, Rk.c_gt, Rk.c_ge, Rk.c_eq, Rk.c_ne, Rk.c_isN, Rk.c_isI, Rk.c_seq, Rk.c_sne, Rk.t_non, Rk.t_bl, Rk.t_int, Rk.iw_int, Rk.bt_bl, Rk.b_int, Rk.b_intb, Rk.b_abs, Rk.b_lent, Rk.b_lenr, Rk.b_lenl, Rk.b_tup, Rk.b_list, Rk.b_all, Rk.b_any, Rk.b_sum, Rk.bls_nil, Rk.bls_cons, Rk.ints_nil, Rk.ints_cons, Rk.b_min1, Rk.b_max1, Rk.b_min2, Rk.b_max2, Rk.m_loc, Rk.m_sl, Rk.p_nil, Rk.p_cons, Rk.set_s, Rk.esc_l, Rk.isI_int, Rk.isI_bool, Rk.isI_tup, List.cons_append, List.nil_append, List.append_nil, List.getElem?_cons_zero, List.getElem?_cons_succ, List.set_cons_zero, List.set_cons_succ, List.length_cons, List.length_nil, List.map_nil, List.map_cons, Option.bind_some, Option.bind_none, Option.map_some, Option.map_none, Option.isSome_some, id_eq, true_and, and_true, decide_eq_true_eq, List.replicate_succ, List.replicate_zero, Nat.reduceAdd, Nat.reduceSub, Int.reduceMul, Int.reduceAdd, Int.reduceSub, Int.reduceNeg, if_true, if_false, Bool.true_eq_false, Bool.false_eq_true, reduceIte, pick_n, pick_c]
  refine c_cell_of f1 f2 f3 ?_
  rw [ha, hb, hc]
  have rc : ∀ {s : S}, bRepr s [.w (ce a b c)] = _ := rp_ce (by omega) (by omega) (by omega)
  try simp only [Rk.sat_ok, Rk.osat_some, Rk.osat_none, Rk.osat_ite, Rk.osat_map, Rk.osat_bind, Rk.w_var, Rk.w_con, Rk.w_bin, Rk.w_cmp, Rk.w_ix, Rk.w_bi, Rk.w_es0, Rk.w_es, Rk.w_ts0, Rk.w_ts, Rk.w_ws0, Rk.w_ws, Rk.w_W, Rk.w_T, Rk.w_esc, Rk.w_givw, Rk.w_givl, Rk.w_tup, Rk.w_lst, Rk.w_call, Rk.w_callK, Rk.w_un, Rk.w_not, Rk.w_and, Rk.w_or, Rk.w_ifx, Rk.w_sl, Rk.w_no, Rk.w_so, Rk.w_asb, Rk.w_tru, Rk.w_bnot, Rk.w_band, Rk.w_bor, Rk.w_yes, Rk.w_skip, Rk.w_expr, Rk.w_set, Rk.w_ret, Rk.w_retN, Rk.w_if, Rk.w_asg, Rk.w_par, Rk.w_gnm, Rk.w_gsb, Rk.w_mt, Rk.w_ext, Rk.w_gtp, Rk.w_gsc, Rk.w_gsn, Rk.w_escs, Rk.w_givs, Rk.slQ_l, Rk.slQ_w, Rk.backT, Option.getD_some, Option.getD_none, Rk.get_w, Rk.get_l, Rk.get_sl, Rk.seq_tup, Rk.seq_rol, Rk.seq_l, Rk.seq_loc, Rk.seq_sl, Rk.lst_rol, Rk.lst_l, Rk.lst_loc, Rk.lst_sl, Rk.lst_tup, Rk.ix_int, Rk.ix_some, Rk.seqT_l, Rk.seqT_tup, Rk.seqT_rol, Rk.seqT_loc, Rk.lstT_l, Rk.lstT_rol, Rk.lstT_loc, Rk.at_0, Rk.at_1, Rk.at_2, Rk.at_3, Rk.at_4, Rk.at_5, Rk.bin_int, Rk.i_add, Rk.i_sub, Rk.i_mul, Rk.i_div, Rk.i_mod, Rk.i_pow, Rk.u_neg, Rk.c_lt, Rk.c_le, Rk.c_gt, Rk.c_ge, Rk.c_eq, Rk.c_ne, Rk.c_isN, Rk.c_isI, Rk.c_seq, Rk.c_sne, Rk.t_non, Rk.t_bl, Rk.t_int, Rk.iw_int, Rk.bt_bl, Rk.b_int, Rk.b_intb, Rk.b_abs, Rk.b_lent, Rk.b_lenr, Rk.b_lenl, Rk.b_tup, Rk.b_list, Rk.b_all, Rk.b_any, Rk.b_sum, Rk.bls_nil, Rk.bls_cons, Rk.ints_nil, Rk.ints_cons, Rk.b_min1, Rk.b_max1, Rk.b_min2, Rk.b_max2, Rk.m_loc, Rk.m_sl, Rk.p_nil, Rk.p_cons, Rk.set_s, Rk.esc_l, Rk.isI_int, Rk.isI_bool, Rk.isI_tup, List.cons_append, List.nil_append, List.append_nil, List.getElem?_cons_zero, List.getElem?_cons_succ, List.set_cons_zero, List.set_cons_succ, List.length_cons, List.length_nil, List.map_nil, List.map_cons, Option.bind_some, Option.bind_none, Option.map_some, Option.map_none, Option.isSome_some, id_eq, true_and, and_true, decide_eq_true_eq, List.replicate_succ, List.replicate_zero, Nat.reduceAdd, Nat.reduceSub, Int.reduceMul, Int.reduceAdd, Int.reduceSub, Int.reduceNeg, if_true, if_false, Bool.true_eq_false, Bool.false_eq_true, reduceIte, rc, decide_true, Bool.not_true]
  refine hk _ ?_; clear hk k
  refine w_stp fun k hk => ?_; try simp only [Rk.sat_ok, Rk.osat_some, Rk.osat_none, Rk.osat_ite, Rk.osat_map, Rk.osat_bind, Rk.w_var, Rk.w_con, Rk.w_bin, Rk.w_cmp, Rk.w_ix, Rk.w_bi, Rk.w_es0, Rk.w_es, Rk.w_ts0, Rk.w_ts, Rk.w_ws0, Rk.w_ws, Rk.w_W, Rk.w_T, Rk.w_esc, Rk.w_givw, Rk.w_givl, Rk.w_tup, Rk.w_lst, Rk.w_call, Rk.w_callK, Rk.w_un, Rk.w_not, Rk.w_and, Rk.w_or, Rk.w_ifx, Rk.w_sl, Rk.w_no, Rk.w_so, Rk.w_asb, Rk.w_tru, Rk.w_bnot, Rk.w_band, Rk.w_bor, Rk.w_yes, Rk.w_skip, Rk.w_expr, Rk.w_set, Rk.w_ret, Rk.w_retN, Rk.w_if, Rk.w_asg, Rk.w_par, Rk.w_gnm, Rk.w_gsb, Rk.w_mt, Rk.w_ext, Rk.w_gtp, Rk.w_gsc, Rk.w_gsn, Rk.w_escs, Rk.w_givs, Rk.slQ_l, Rk.slQ_w, Rk.backT, Option.getD_some, Option.getD_none, Rk.get_w, Rk.get_l, Rk.get_sl, Rk.seq_tup, Rk.seq_rol, Rk.seq_l, Rk.seq_loc, Rk.seq_sl, Rk.lst_rol, Rk.lst_l, Rk.lst_loc, Rk.lst_sl, Rk.lst_tup, Rk.ix_int, Rk.ix_some, Rk.seqT_l, Rk.seqT_tup, Rk.seqT_rol, Rk.seqT_loc, Rk.lstT_l, Rk.lstT_rol, Rk.lstT_loc, Rk.at_0, Rk.at_1, Rk.at_2, Rk.at_3, Rk.at_4, Rk.at_5, Rk.bin_int, Rk.i_add, Rk.i_sub, Rk.i_mul, Rk.i_div, Rk.i_mod, Rk.i_pow, Rk.u_neg, Rk.c_lt, Rk.c_le, Rk.c_gt, Rk.c_ge, Rk.c_eq, Rk.c_ne, Rk.c_isN, Rk.c_isI, Rk.c_seq, Rk.c_sne, Rk.t_non, Rk.t_bl, Rk.t_int, Rk.iw_int, Rk.bt_bl, Rk.b_int, Rk.b_intb, Rk.b_abs, Rk.b_lent, Rk.b_lenr, Rk.b_lenl, Rk.b_tup, Rk.b_list, Rk.b_all, Rk.b_any, Rk.b_sum, Rk.bls_nil, Rk.bls_cons, Rk.ints_nil, Rk.ints_cons, Rk.b_min1, Rk.b_max1, Rk.b_min2, Rk.b_max2, Rk.m_loc, Rk.m_sl, Rk.p_nil, Rk.p_cons, Rk.set_s, Rk.esc_l, Rk.isI_int, Rk.isI_bool, Rk.isI_tup, List.cons_append, List.nil_append, List.append_nil, List.getElem?_cons_zero, List.getElem?_cons_succ, List.set_cons_zero, List.set_cons_succ, List.length_cons, List.length_nil, List.map_nil, List.map_cons, Option.bind_some, Option.bind_none, Option.map_some, Option.map_none, Option.isSome_some, id_eq, true_and, and_true, decide_eq_true_eq, List.replicate_succ, List.replicate_zero, Nat.reduceAdd, Nat.reduceSub, Int.reduceMul, Int.reduceAdd, Int.reduceSub, Int.reduceNeg, if_true, if_false, Bool.true_eq_false, Bool.false_eq_true, reduceIte, w_comp, w_walk, k_tup, w_gsnap]
  refine ⟨rfl, ?_⟩
  rw [Rk.cs_cons]; try simp only [Rk.sat_ok, Rk.osat_some, Rk.osat_none, Rk.osat_ite, Rk.osat_map, Rk.osat_bind, Rk.w_var, Rk.w_con, Rk.w_bin, Rk.w_cmp, Rk.w_ix, Rk.w_bi, Rk.w_es0, Rk.w_es, Rk.w_ts0, Rk.w_ts, Rk.w_ws0, Rk.w_ws, Rk.w_W, Rk.w_T, Rk.w_esc, Rk.w_givw, Rk.w_givl, Rk.w_tup, Rk.w_lst, Rk.w_call, Rk.w_callK, Rk.w_un, Rk.w_not, Rk.w_and, Rk.w_or, Rk.w_ifx, Rk.w_sl, Rk.w_no, Rk.w_so, Rk.w_asb, Rk.w_tru, Rk.w_bnot, Rk.w_band, Rk.w_bor, Rk.w_yes, Rk.w_skip, Rk.w_expr, Rk.w_set, Rk.w_ret, Rk.w_retN, Rk.w_if, Rk.w_asg, Rk.w_par, Rk.w_gnm, Rk.w_gsb, Rk.w_mt, Rk.w_ext, Rk.w_gtp, Rk.w_gsc, Rk.w_gsn, Rk.w_escs, Rk.w_givs, Rk.slQ_l, Rk.slQ_w, Rk.backT, Option.getD_some, Option.getD_none, Rk.get_w, Rk.get_l, Rk.get_sl, Rk.seq_tup, Rk.seq_rol, Rk.seq_l, Rk.seq_loc, Rk.seq_sl, Rk.lst_rol, Rk.lst_l, Rk.lst_loc, Rk.lst_sl, Rk.lst_tup, Rk.ix_int, Rk.ix_some, Rk.seqT_l, Rk.seqT_tup, Rk.seqT_rol, Rk.seqT_loc, Rk.lstT_l, Rk.lstT_rol, Rk.lstT_loc, Rk.at_0, Rk.at_1, Rk.at_2, Rk.at_3, Rk.at_4, Rk.at_5, Rk.bin_int, Rk.i_add, Rk.i_sub, Rk.i_mul, Rk.i_div, Rk.i_mod, Rk.i_pow, Rk.u_neg, Rk.c_lt, Rk.c_le, Rk.c_gt, Rk.c_ge, Rk.c_eq, Rk.c_ne, Rk.c_isN, Rk.c_isI, Rk.c_seq, Rk.c_sne, Rk.t_non, Rk.t_bl, Rk.t_int, Rk.iw_int, Rk.bt_bl, Rk.b_int, Rk.b_intb, Rk.b_abs, Rk.b_lent, Rk.b_lenr, Rk.b_lenl, Rk.b_tup, Rk.b_list, Rk.b_all, Rk.b_any, Rk.b_sum, Rk.bls_nil, Rk.bls_cons, Rk.ints_nil, Rk.ints_cons, Rk.b_min1, Rk.b_max1, Rk.b_min2, Rk.b_max2, Rk.m_loc, Rk.m_sl, Rk.p_nil, Rk.p_cons, Rk.set_s, Rk.esc_l, Rk.isI_int, Rk.isI_bool, Rk.isI_tup, List.cons_append, List.nil_append, List.append_nil, List.getElem?_cons_zero, List.getElem?_cons_succ, List.set_cons_zero, List.set_cons_succ, List.length_cons, List.length_nil, List.map_nil, List.map_cons, Option.bind_some, Option.bind_none, Option.map_some, Option.map_none, Option.isSome_some, id_eq, true_and, and_true, decide_eq_true_eq, List.replicate_succ, List.replicate_zero, Nat.reduceAdd, Nat.reduceSub, Int.reduceMul, Int.reduceAdd, Int.reduceSub, Int.reduceNeg, if_true, if_false, Bool.true_eq_false, Bool.false_eq_true, reduceIte, Rk.wipeS, Rk.wipeT]
  refine c_law_middle ?_
  try simp only [Rk.sat_ok, Rk.osat_some, Rk.osat_none, Rk.osat_ite, Rk.osat_map, Rk.osat_bind, Rk.w_var, Rk.w_con, Rk.w_bin, Rk.w_cmp, Rk.w_ix, Rk.w_bi, Rk.w_es0, Rk.w_es, Rk.w_ts0, Rk.w_ts, Rk.w_ws0, Rk.w_ws, Rk.w_W, Rk.w_T, Rk.w_esc, Rk.w_givw, Rk.w_givl, Rk.w_tup, Rk.w_lst, Rk.w_call, Rk.w_callK, Rk.w_un, Rk.w_not, Rk.w_and, Rk.w_or, Rk.w_ifx, Rk.w_sl, Rk.w_no, Rk.w_so, Rk.w_asb, Rk.w_tru, Rk.w_bnot, Rk.w_band, Rk.w_bor, Rk.w_yes, Rk.w_skip, Rk.w_expr, Rk.w_set, Rk.w_ret, Rk.w_retN, Rk.w_if, Rk.w_asg, Rk.w_par, Rk.w_gnm, Rk.w_gsb, Rk.w_mt, Rk.w_ext, Rk.w_gtp, Rk.w_gsc, Rk.w_gsn, Rk.w_escs, Rk.w_givs, Rk.slQ_l, Rk.slQ_w, Rk.backT, Option.getD_some, Option.getD_none, Rk.get_w, Rk.get_l, Rk.get_sl, Rk.seq_tup, Rk.seq_rol, Rk.seq_l, Rk.seq_loc, Rk.seq_sl, Rk.lst_rol, Rk.lst_l, Rk.lst_loc, Rk.lst_sl, Rk.lst_tup, Rk.ix_int, Rk.ix_some, Rk.seqT_l, Rk.seqT_tup, Rk.seqT_rol, Rk.seqT_loc, Rk.lstT_l, Rk.lstT_rol, Rk.lstT_loc, Rk.at_0, Rk.at_1, Rk.at_2, Rk.at_3, Rk.at_4, Rk.at_5, Rk.bin_int, Rk.i_add, Rk.i_sub, Rk.i_mul, Rk.i_div, Rk.i_mod, Rk.i_pow, Rk.u_neg, Rk.c_lt, Rk.c_le, Rk.c_gt, Rk.c_ge, Rk.c_eq, Rk.c_ne, Rk.c_isN, Rk.c_isI, Rk.c_seq, Rk.c_sne, Rk.t_non, Rk.t_bl, Rk.t_int, Rk.iw_int, Rk.bt_bl, Rk.b_int, Rk.b_intb, Rk.b_abs, Rk.b_lent, Rk.b_lenr, Rk.b_lenl, Rk.b_tup, Rk.b_list, Rk.b_all, Rk.b_any, Rk.b_sum, Rk.bls_nil, Rk.bls_cons, Rk.ints_nil, Rk.ints_cons, Rk.b_min1, Rk.b_max1, Rk.b_min2, Rk.b_max2, Rk.m_loc, Rk.m_sl, Rk.p_nil, Rk.p_cons, Rk.set_s, Rk.esc_l, Rk.isI_int, Rk.isI_bool, Rk.isI_tup, List.cons_append, List.nil_append, List.append_nil, List.getElem?_cons_zero, List.getElem?_cons_succ, List.set_cons_zero, List.set_cons_succ, List.length_cons, List.length_nil, List.map_nil, List.map_cons, Option.bind_some, Option.bind_none, Option.map_some, Option.map_none, Option.isSome_some, id_eq, true_and, and_true, decide_eq_true_eq, List.replicate_succ, List.replicate_zero, Nat.reduceAdd, Nat.reduceSub, Int.reduceMul, Int.reduceAdd, Int.reduceSub, Int.reduceNeg, if_true, if_false, Bool.true_eq_false, Bool.false_eq_true, reduceIte]
  refine ⟨⟨by decide, rfl⟩, ?_⟩
  rw [Rk.cs_cons]; try simp only [Rk.sat_ok, Rk.osat_some, Rk.osat_none, Rk.osat_ite, Rk.osat_map, Rk.osat_bind, Rk.w_var, Rk.w_con, Rk.w_bin, Rk.w_cmp, Rk.w_ix, Rk.w_bi, Rk.w_es0, Rk.w_es, Rk.w_ts0, Rk.w_ts, Rk.w_ws0, Rk.w_ws, Rk.w_W, Rk.w_T, Rk.w_esc, Rk.w_givw, Rk.w_givl, Rk.w_tup, Rk.w_lst, Rk.w_call, Rk.w_callK, Rk.w_un, Rk.w_not, Rk.w_and, Rk.w_or, Rk.w_ifx, Rk.w_sl, Rk.w_no, Rk.w_so, Rk.w_asb, Rk.w_tru, Rk.w_bnot, Rk.w_band, Rk.w_bor, Rk.w_yes, Rk.w_skip, Rk.w_expr, Rk.w_set, Rk.w_ret, Rk.w_retN, Rk.w_if, Rk.w_asg, Rk.w_par, Rk.w_gnm, Rk.w_gsb, Rk.w_mt, Rk.w_ext, Rk.w_gtp, Rk.w_gsc, Rk.w_gsn, Rk.w_escs, Rk.w_givs, Rk.slQ_l, Rk.slQ_w, Rk.backT, Option.getD_some, Option.getD_none, Rk.get_w, Rk.get_l, Rk.get_sl, Rk.seq_tup, Rk.seq_rol, Rk.seq_l, Rk.seq_loc, Rk.seq_sl, Rk.lst_rol, Rk.lst_l, Rk.lst_loc, Rk.lst_sl, Rk.lst_tup, Rk.ix_int, Rk.ix_some, Rk.seqT_l, Rk.seqT_tup, Rk.seqT_rol, Rk.seqT_loc, Rk.lstT_l, Rk.lstT_rol, Rk.lstT_loc, Rk.at_0, Rk.at_1, Rk.at_2, Rk.at_3, Rk.at_4, Rk.at_5, Rk.bin_int, Rk.i_add, Rk.i_sub, Rk.i_mul, Rk.i_div, Rk.i_mod, Rk.i_pow, Rk.u_neg, Rk.c_lt, Rk.c_le, Rk.c_gt, Rk.c_ge, Rk.c_eq, Rk.c_ne, Rk.c_isN, Rk.c_isI, Rk.c_seq, Rk.c_sne, Rk.t_non, Rk.t_bl, Rk.t_int, Rk.iw_int, Rk.bt_bl, Rk.b_int, Rk.b_intb, Rk.b_abs, Rk.b_lent, Rk.b_lenr, Rk.b_lenl, Rk.b_tup, Rk.b_list, Rk.b_all, Rk.b_any, Rk.b_sum, Rk.bls_nil, Rk.bls_cons, Rk.ints_nil, Rk.ints_cons, Rk.b_min1, Rk.b_max1, Rk.b_min2, Rk.b_max2, Rk.m_loc, Rk.m_sl, Rk.p_nil, Rk.p_cons, Rk.set_s, Rk.esc_l, Rk.isI_int, Rk.isI_bool, Rk.isI_tup, List.cons_append, List.nil_append, List.append_nil, List.getElem?_cons_zero, List.getElem?_cons_succ, List.set_cons_zero, List.set_cons_succ, List.length_cons, List.length_nil, List.map_nil, List.map_cons, Option.bind_some, Option.bind_none, Option.map_some, Option.map_none, Option.isSome_some, id_eq, true_and, and_true, decide_eq_true_eq, List.replicate_succ, List.replicate_zero, Nat.reduceAdd, Nat.reduceSub, Int.reduceMul, Int.reduceAdd, Int.reduceSub, Int.reduceNeg, if_true, if_false, Bool.true_eq_false, Bool.false_eq_true, reduceIte, Rk.wipeS, Rk.wipeT]
  refine c_law_middle ?_
  try simp only [Rk.sat_ok, Rk.osat_some, Rk.osat_none, Rk.osat_ite, Rk.osat_map, Rk.osat_bind, Rk.w_var, Rk.w_con, Rk.w_bin, Rk.w_cmp, Rk.w_ix, Rk.w_bi, Rk.w_es0, Rk.w_es, Rk.w_ts0, Rk.w_ts, Rk.w_ws0, Rk.w_ws, Rk.w_W, Rk.w_T, Rk.w_esc, Rk.w_givw, Rk.w_givl, Rk.w_tup, Rk.w_lst, Rk.w_call, Rk.w_callK, Rk.w_un, Rk.w_not, Rk.w_and, Rk.w_or, Rk.w_ifx, Rk.w_sl, Rk.w_no, Rk.w_so, Rk.w_asb, Rk.w_tru, Rk.w_bnot, Rk.w_band, Rk.w_bor, Rk.w_yes, Rk.w_skip, Rk.w_expr, Rk.w_set, Rk.w_ret, Rk.w_retN, Rk.w_if, Rk.w_asg, Rk.w_par, Rk.w_gnm, Rk.w_gsb, Rk.w_mt, Rk.w_ext, Rk.w_gtp, Rk.w_gsc, Rk.w_gsn, Rk.w_escs, Rk.w_givs, Rk.slQ_l, Rk.slQ_w, Rk.backT, Option.getD_some, Option.getD_none, Rk.get_w, Rk.get_l, Rk.get_sl, Rk.seq_tup, Rk.seq_rol, Rk.seq_l, Rk.seq_loc, Rk.seq_sl, Rk.lst_rol, Rk.lst_l, Rk.lst_loc, Rk.lst_sl, Rk.lst_tup, Rk.ix_int, Rk.ix_some, Rk.seqT_l, Rk.seqT_tup, Rk.seqT_rol, Rk.seqT_loc, Rk.lstT_l, Rk.lstT_rol, Rk.lstT_loc, Rk.at_0, Rk.at_1, Rk.at_2, Rk.at_3, Rk.at_4, Rk.at_5, Rk.bin_int, Rk.i_add, Rk.i_sub, Rk.i_mul, Rk.i_div, Rk.i_mod, Rk.i_pow, Rk.u_neg, Rk.c_lt, Rk.c_le, Rk.c_gt, Rk.c_ge, Rk.c_eq, Rk.c_ne, Rk.c_isN, Rk.c_isI, Rk.c_seq, Rk.c_sne, Rk.t_non, Rk.t_bl, Rk.t_int, Rk.iw_int, Rk.bt_bl, Rk.b_int, Rk.b_intb, Rk.b_abs, Rk.b_lent, Rk.b_lenr, Rk.b_lenl, Rk.b_tup, Rk.b_list, Rk.b_all, Rk.b_any, Rk.b_sum, Rk.bls_nil, Rk.bls_cons, Rk.ints_nil, Rk.ints_cons, Rk.b_min1, Rk.b_max1, Rk.b_min2, Rk.b_max2, Rk.m_loc, Rk.m_sl, Rk.p_nil, Rk.p_cons, Rk.set_s, Rk.esc_l, Rk.isI_int, Rk.isI_bool, Rk.isI_tup, List.cons_append, List.nil_append, List.append_nil, List.getElem?_cons_zero, List.getElem?_cons_succ, List.set_cons_zero, List.set_cons_succ, List.length_cons, List.length_nil, List.map_nil, List.map_cons, Option.bind_some, Option.bind_none, Option.map_some, Option.map_none, Option.isSome_some, id_eq, true_and, and_true, decide_eq_true_eq, List.replicate_succ, List.replicate_zero, Nat.reduceAdd, Nat.reduceSub, Int.reduceMul, Int.reduceAdd, Int.reduceSub, Int.reduceNeg, if_true, if_false, Bool.true_eq_false, Bool.false_eq_true, reduceIte]
  refine ⟨⟨by decide, rfl⟩, ?_⟩
  rw [Rk.cs_cons]; try simp only [Rk.sat_ok, Rk.osat_some, Rk.osat_none, Rk.osat_ite, Rk.osat_map, Rk.osat_bind, Rk.w_var, Rk.w_con, Rk.w_bin, Rk.w_cmp, Rk.w_ix, Rk.w_bi, Rk.w_es0, Rk.w_es, Rk.w_ts0, Rk.w_ts, Rk.w_ws0, Rk.w_ws, Rk.w_W, Rk.w_T, Rk.w_esc, Rk.w_givw, Rk.w_givl, Rk.w_tup, Rk.w_lst, Rk.w_call, Rk.w_callK, Rk.w_un, Rk.w_not, Rk.w_and, Rk.w_or, Rk.w_ifx, Rk.w_sl, Rk.w_no, Rk.w_so, Rk.w_asb, Rk.w_tru, Rk.w_bnot, Rk.w_band, Rk.w_bor, Rk.w_yes, Rk.w_skip, Rk.w_expr, Rk.w_set, Rk.w_ret, Rk.w_retN, Rk.w_if, Rk.w_asg, Rk.w_par, Rk.w_gnm, Rk.w_gsb, Rk.w_mt, Rk.w_ext, Rk.w_gtp, Rk.w_gsc, Rk.w_gsn, Rk.w_escs, Rk.w_givs, Rk.slQ_l, Rk.slQ_w, Rk.backT, Option.getD_some, Option.getD_none, Rk.get_w, Rk.get_l, Rk.get_sl, Rk.seq_tup, Rk.seq_rol, Rk.seq_l, Rk.seq_loc, Rk.seq_sl, Rk.lst_rol, Rk.lst_l, Rk.lst_loc, Rk.lst_sl, Rk.lst_tup, Rk.ix_int, Rk.ix_some, Rk.seqT_l, Rk.seqT_tup, Rk.seqT_rol, Rk.seqT_loc, Rk.lstT_l, Rk.lstT_rol, Rk.lstT_loc, Rk.at_0, Rk.at_1, Rk.at_2, Rk.at_3, Rk.at_4, Rk.at_5, Rk.bin_int, Rk.i_add, Rk.i_sub, Rk.i_mul, Rk.i_div, Rk.i_mod, Rk.i_pow, Rk.u_neg, Rk.c_lt, Rk.c_le, Rk.c_gt, Rk.c_ge, Rk.c_eq, Rk.c_ne, Rk.c_isN, Rk.c_isI, Rk.c_seq, Rk.c_sne, Rk.t_non, Rk.t_bl, Rk.t_int, Rk.iw_int, Rk.bt_bl, Rk.b_int, Rk.b_intb, Rk.b_abs, Rk.b_lent, Rk.b_lenr, Rk.b_lenl, Rk.b_tup, Rk.b_list, Rk.b_all, Rk.b_any, Rk.b_sum, Rk.bls_nil, Rk.bls_cons, Rk.ints_nil, Rk.ints_cons, Rk.b_min1, Rk.b_max1, Rk.b_min2, Rk.b_max2, Rk.m_loc, Rk.m_sl, Rk.p_nil, Rk.p_cons, Rk.set_s, Rk.esc_l, Rk.isI_int, Rk.isI_bool, Rk.isI_tup, List.cons_append, List.nil_append, List.append_nil, List.getElem?_cons_zero, List.getElem?_cons_succ, List.set_cons_zero, List.set_cons_succ, List.length_cons, List.length_nil, List.map_nil, List.map_cons, Option.bind_some, Option.bind_none, Option.map_some, Option.map_none, Option.isSome_some, id_eq, true_and, and_true, decide_eq_true_eq, List.replicate_succ, List.replicate_zero, Nat.reduceAdd, Nat.reduceSub, Int.reduceMul, Int.reduceAdd, Int.reduceSub, Int.reduceNeg, if_true, if_false, Bool.true_eq_false, Bool.false_eq_true, reduceIte, Rk.wipeS, Rk.wipeT]
  refine c_law_middle ?_
  try simp only [Rk.sat_ok, Rk.osat_some, Rk.osat_none, Rk.osat_ite, Rk.osat_map, Rk.osat_bind, Rk.w_var, Rk.w_con, Rk.w_bin, Rk.w_cmp, Rk.w_ix, Rk.w_bi, Rk.w_es0, Rk.w_es, Rk.w_ts0, Rk.w_ts, Rk.w_ws0, Rk.w_ws, Rk.w_W, Rk.w_T, Rk.w_esc, Rk.w_givw, Rk.w_givl, Rk.w_tup, Rk.w_lst, Rk.w_call, Rk.w_callK, Rk.w_un, Rk.w_not, Rk.w_and, Rk.w_or, Rk.w_ifx, Rk.w_sl, Rk.w_no, Rk.w_so, Rk.w_asb, Rk.w_tru, Rk.w_bnot, Rk.w_band, Rk.w_bor, Rk.w_yes, Rk.w_skip, Rk.w_expr, Rk.w_set, Rk.w_ret, Rk.w_retN, Rk.w_if, Rk.w_asg, Rk.w_par, Rk.w_gnm, Rk.w_gsb, Rk.w_mt, Rk.w_ext, Rk.w_gtp, Rk.w_gsc, Rk.w_gsn, Rk.w_escs, Rk.w_givs, Rk.slQ_l, Rk.slQ_w, Rk.backT, Option.getD_some, Option.getD_none, Rk.get_w, Rk.get_l, Rk.get_sl, Rk.seq_tup, Rk.seq_rol, Rk.seq_l, Rk.seq_loc, Rk.seq_sl, Rk.lst_rol, Rk.lst_l, Rk.lst_loc, Rk.lst_sl, Rk.lst_tup, Rk.ix_int, Rk.ix_some, Rk.seqT_l, Rk.seqT_tup, Rk.seqT_rol, Rk.seqT_loc, Rk.lstT_l, Rk.lstT_rol, Rk.lstT_loc, Rk.at_0, Rk.at_1, Rk.at_2, Rk.at_3, Rk.at_4, Rk.at_5, Rk.bin_int, Rk.i_add, Rk.i_sub, Rk.i_mul, Rk.i_div, Rk.i_mod, Rk.i_pow, Rk.u_neg, Rk.c_lt, Rk.c_le, Rk.c_gt, Rk.c_ge, Rk.c_eq, Rk.c_ne, Rk.c_isN, Rk.c_isI, Rk.c_seq, Rk.c_sne, Rk.t_non, Rk.t_bl, Rk.t_int, Rk.iw_int, Rk.bt_bl, Rk.b_int, Rk.b_intb, Rk.b_abs, Rk.b_lent, Rk.b_lenr, Rk.b_lenl, Rk.b_tup, Rk.b_list, Rk.b_all, Rk.b_any, Rk.b_sum, Rk.bls_nil, Rk.bls_cons, Rk.ints_nil, Rk.ints_cons, Rk.b_min1, Rk.b_max1, Rk.b_min2, Rk.b_max2, Rk.m_loc, Rk.m_sl, Rk.p_nil, Rk.p_cons, Rk.set_s, Rk.esc_l, Rk.isI_int, Rk.isI_bool, Rk.isI_tup, List.cons_append, List.nil_append, List.append_nil, List.getElem?_cons_zero, List.getElem?_cons_succ, List.set_cons_zero, List.set_cons_succ, List.length_cons, List.length_nil, List.map_nil, List.map_cons, Option.bind_some, Option.bind_none, Option.map_some, Option.map_none, Option.isSome_some, id_eq, true_and, and_true, decide_eq_true_eq, List.replicate_succ, List.replicate_zero, Nat.reduceAdd, Nat.reduceSub, Int.reduceMul, Int.reduceAdd, Int.reduceSub, Int.reduceNeg, if_true, if_false, Bool.true_eq_false, Bool.false_eq_true, reduceIte, cs_nil]
  refine ⟨⟨by decide, rfl⟩, ?_⟩
  try simp only [Rk.sat_ok, Rk.osat_some, Rk.osat_none, Rk.osat_ite, Rk.osat_map, Rk.osat_bind, Rk.w_var, Rk.w_con, Rk.w_bin, Rk.w_cmp, Rk.w_ix, Rk.w_bi, Rk.w_es0, Rk.w_es, Rk.w_ts0, Rk.w_ts, Rk.w_ws0, Rk.w_ws, Rk.w_W, Rk.w_T, Rk.w_esc, Rk.w_givw, Rk.w_givl, Rk.w_tup, Rk.w_lst, Rk.w_call, Rk.w_callK, Rk.w_un, Rk.w_not, Rk.w_and, Rk.w_or, Rk.w_ifx, Rk.w_sl, Rk.w_no, Rk.w_so, Rk.w_asb, Rk.w_tru, Rk.w_bnot, Rk.w_band, Rk.w_bor, Rk.w_yes, Rk.w_skip, Rk.w_expr, Rk.w_set, Rk.w_ret, Rk.w_retN, Rk.w_if, Rk.w_asg, Rk.w_par, Rk.w_gnm, Rk.w_gsb, Rk.w_mt, Rk.w_ext, Rk.w_gtp, Rk.w_gsc, Rk.w_gsn, Rk.w_escs, Rk.w_givs, Rk.slQ_l, Rk.slQ_w, Rk.backT, Option.getD_some, Option.getD_none, Rk.get_w, Rk.get_l, Rk.get_sl, Rk.seq_tup, Rk.seq_rol, Rk.seq_l, Rk.seq_loc, Rk.seq_sl, Rk.lst_rol, Rk.lst_l, Rk.lst_loc, Rk.lst_sl, Rk.lst_tup, Rk.ix_int, Rk.ix_some, Rk.seqT_l, Rk.seqT_tup, Rk.seqT_rol, Rk.seqT_loc, Rk.lstT_l, Rk.lstT_rol, Rk.lstT_loc, Rk.at_0, Rk.at_1, Rk.at_2, Rk.at_3, Rk.at_4, Rk.at_5, Rk.bin_int, Rk.i_add, Rk.i_sub, Rk.i_mul, Rk.i_div, Rk.i_mod, Rk.i_pow, Rk.u_neg, Rk.c_lt, Rk.c_le, Rk.c_gt, Rk.c_ge, Rk.c_eq, Rk.c_ne, Rk.c_isN, Rk.c_isI, Rk.c_seq, Rk.c_sne, Rk.t_non, Rk.t_bl, Rk.t_int, Rk.iw_int, Rk.bt_bl, Rk.b_int, Rk.b_intb, Rk.b_abs, Rk.b_lent, Rk.b_lenr, Rk.b_lenl, Rk.b_tup, Rk.b_list, Rk.b_all, Rk.b_any, Rk.b_sum, Rk.bls_nil, Rk.bls_cons, Rk.ints_nil, Rk.ints_cons, Rk.b_min1, Rk.b_max1, Rk.b_min2, Rk.b_max2, Rk.m_loc, Rk.m_sl, Rk.p_nil, Rk.p_cons, Rk.set_s, Rk.esc_l, Rk.isI_int, Rk.isI_bool, Rk.isI_tup, List.cons_append, List.nil_append, List.append_nil, List.getElem?_cons_zero, List.getElem?_cons_succ, List.set_cons_zero, List.set_cons_succ, List.length_cons, List.length_nil, List.map_nil, List.map_cons, Option.bind_some, Option.bind_none, Option.map_some, Option.map_none, Option.isSome_some, id_eq, true_and, and_true, decide_eq_true_eq, List.replicate_succ, List.replicate_zero, Nat.reduceAdd, Nat.reduceSub, Int.reduceMul, Int.reduceAdd, Int.reduceSub, Int.reduceNeg, if_true, if_false, Bool.true_eq_false, Bool.false_eq_true, reduceIte, wipeT]
  refine hk _ ?_; clear hk k
  rw [w_seq]
  try simp only [Rk.sat_ok, Rk.osat_some, Rk.osat_none, Rk.osat_ite, Rk.osat_map, Rk.osat_bind, Rk.w_var, Rk.w_con, Rk.w_bin, Rk.w_cmp, Rk.w_ix, Rk.w_bi, Rk.w_es0, Rk.w_es, Rk.w_ts0, Rk.w_ts, Rk.w_ws0, Rk.w_ws, Rk.w_W, Rk.w_T, Rk.w_esc, Rk.w_givw, Rk.w_givl, Rk.w_tup, Rk.w_lst, Rk.w_call, Rk.w_callK, Rk.w_un, Rk.w_not, Rk.w_and, Rk.w_or, Rk.w_ifx, Rk.w_sl, Rk.w_no, Rk.w_so, Rk.w_asb, Rk.w_tru, Rk.w_bnot, Rk.w_band, Rk.w_bor, Rk.w_yes, Rk.w_skip, Rk.w_expr, Rk.w_set, Rk.w_ret, Rk.w_retN, Rk.w_if, Rk.w_asg, Rk.w_par, Rk.w_gnm, Rk.w_gsb, Rk.w_mt, Rk.w_ext, Rk.w_gtp, Rk.w_gsc, Rk.w_gsn, Rk.w_escs, Rk.w_givs, Rk.slQ_l, Rk.slQ_w, Rk.backT, Option.getD_some, Option.getD_none, Rk.get_w, Rk.get_l, Rk.get_sl, Rk.seq_tup, Rk.seq_rol, Rk.seq_l, Rk.seq_loc, Rk.seq_sl, Rk.lst_rol, Rk.lst_l, Rk.lst_loc, Rk.lst_sl, Rk.lst_tup, Rk.ix_int, Rk.ix_some, Rk.seqT_l, Rk.seqT_tup, Rk.seqT_rol, Rk.seqT_loc, Rk.lstT_l, Rk.lstT_rol, Rk.lstT_loc, Rk.at_0, Rk.at_1, Rk.at_2, Rk.at_3, Rk.at_4, Rk.at_5, Rk.bin_int, Rk.i_add, Rk.i_sub, Rk.i_mul, Rk.i_div, Rk.i_mod, Rk.i_pow, Rk.u_neg, Rk.c_lt, Rk.c_le, Rk.c_gt, Rk.c_ge, Rk.c_eq, Rk.c_ne, Rk.c_isN, Rk.c_isI, Rk.c_seq, Rk.c_sne, Rk.t_non, Rk.t_bl, Rk.t_int, Rk.iw_int, Rk.bt_bl, Rk.b_int, Rk.b_intb, Rk.b_abs, Rk.b_lent, Rk.b_lenr, Rk.b_lenl, Rk.b_tup, Rk.b_list, Rk.b_all, Rk.b_any, Rk.b_sum, Rk.bls_nil, Rk.bls_cons, Rk.ints_nil, Rk.ints_cons, Rk.b_min1, Rk.b_max1, Rk.b_min2, Rk.b_max2, Rk.m_loc, Rk.m_sl, Rk.p_nil, Rk.p_cons, Rk.set_s, Rk.esc_l, Rk.isI_int, Rk.isI_bool, Rk.isI_tup, List.cons_append, List.nil_append, List.append_nil, List.getElem?_cons_zero, List.getElem?_cons_succ, List.set_cons_zero, List.set_cons_succ, List.length_cons, List.length_nil, List.map_nil, List.map_cons, Option.bind_some, Option.bind_none, Option.map_some, Option.map_none, Option.isSome_some, id_eq, true_and, and_true, decide_eq_true_eq, List.replicate_succ, List.replicate_zero, Nat.reduceAdd, Nat.reduceSub, Int.reduceMul, Int.reduceAdd, Int.reduceSub, Int.reduceNeg, if_true, if_false, Bool.true_eq_false, Bool.false_eq_true, reduceIte, pick_n, pick_c]
  refine c_sample ?_
  have rm : ∀ {s : S}, bRepr s [.w (pt (mid a).1 (mid a).2 (mid b).1 (mid b).2 (mid c).1 (mid c).2)] = _ := rp_pt (mid_small b1).1 (mid_small b1).2 (mid_small b2).1 (mid_small b2).2 (mid_small b3).1 (mid_small b3).2
  try simp only [Rk.sat_ok, Rk.osat_some, Rk.osat_none, Rk.osat_ite, Rk.osat_map, Rk.osat_bind, Rk.w_var, Rk.w_con, Rk.w_bin, Rk.w_cmp, Rk.w_ix, Rk.w_bi, Rk.w_es0, Rk.w_es, Rk.w_ts0, Rk.w_ts, Rk.w_ws0, Rk.w_ws, Rk.w_W, Rk.w_T, Rk.w_esc, Rk.w_givw, Rk.w_givl, Rk.w_tup, Rk.w_lst, Rk.w_call, Rk.w_callK, Rk.w_un, Rk.w_not, Rk.w_and, Rk.w_or, Rk.w_ifx, Rk.w_sl, Rk.w_no, Rk.w_so, Rk.w_asb, Rk.w_tru, Rk.w_bnot, Rk.w_band, Rk.w_bor, Rk.w_yes, Rk.w_skip, Rk.w_expr, Rk.w_set, Rk.w_ret, Rk.w_retN, Rk.w_if, Rk.w_asg, Rk.w_par, Rk.w_gnm, Rk.w_gsb, Rk.w_mt, Rk.w_ext, Rk.w_gtp, Rk.w_gsc, Rk.w_gsn, Rk.w_escs, Rk.w_givs, Rk.slQ_l, Rk.slQ_w, Rk.backT, Option.getD_some, Option.getD_none, Rk.get_w, Rk.get_l, Rk.get_sl, Rk.seq_tup, Rk.seq_rol, Rk.seq_l, Rk.seq_loc, Rk.seq_sl, Rk.lst_rol, Rk.lst_l, Rk.lst_loc, Rk.lst_sl, Rk.lst_tup, Rk.ix_int, Rk.ix_some, Rk.seqT_l, Rk.seqT_tup, Rk.seqT_rol, Rk.seqT_loc, Rk.lstT_l, Rk.lstT_rol, Rk.lstT_loc, Rk.at_0, Rk.at_1, Rk.at_2, Rk.at_3, Rk.at_4, Rk.at_5, Rk.bin_int, Rk.i_add, Rk.i_sub, Rk.i_mul, Rk.i_div, Rk.i_mod, Rk.i_pow, Rk.u_neg, Rk.c_lt, Rk.c_le, Rk.c_gt, Rk.c_ge, Rk.c_eq, Rk.c_ne, Rk.c_isN, Rk.c_isI, Rk.c_seq, Rk.c_sne, Rk.t_non, Rk.t_bl, Rk.t_int, Rk.iw_int, Rk.bt_bl, Rk.b_int, Rk.b_intb, Rk.b_abs, Rk.b_lent, Rk.b_lenr, Rk.b_lenl, Rk.b_tup, Rk.b_list, Rk.b_all, Rk.b_any, Rk.b_sum, Rk.bls_nil, Rk.bls_cons, Rk.ints_nil, Rk.ints_cons, Rk.b_min1, Rk.b_max1, Rk.b_min2, Rk.b_max2, Rk.m_loc, Rk.m_sl, Rk.p_nil, Rk.p_cons, Rk.set_s, Rk.esc_l, Rk.isI_int, Rk.isI_bool, Rk.isI_tup, List.cons_append, List.nil_append, List.append_nil, List.getElem?_cons_zero, List.getElem?_cons_succ, List.set_cons_zero, List.set_cons_succ, List.length_cons, List.length_nil, List.map_nil, List.map_cons, Option.bind_some, Option.bind_none, Option.map_some, Option.map_none, Option.isSome_some, id_eq, true_and, and_true, decide_eq_true_eq, List.replicate_succ, List.replicate_zero, Nat.reduceAdd, Nat.reduceSub, Int.reduceMul, Int.reduceAdd, Int.reduceSub, Int.reduceNeg, if_true, if_false, Bool.true_eq_false, Bool.false_eq_true, reduceIte, rm, decide_true, Bool.not_true]
  refine c_cell_of (mid_fr a).1 (mid_fr b).1 (mid_fr c).1 ?_
  rw [(mid_fr a).2, (mid_fr b).2, (mid_fr c).2]
  try simp only [Rk.sat_ok, Rk.osat_some, Rk.osat_none, Rk.osat_ite, Rk.osat_map, Rk.osat_bind, Rk.w_var, Rk.w_con, Rk.w_bin, Rk.w_cmp, Rk.w_ix, Rk.w_bi, Rk.w_es0, Rk.w_es, Rk.w_ts0, Rk.w_ts, Rk.w_ws0, Rk.w_ws, Rk.w_W, Rk.w_T, Rk.w_esc, Rk.w_givw, Rk.w_givl, Rk.w_tup, Rk.w_lst, Rk.w_call, Rk.w_callK, Rk.w_un, Rk.w_not, Rk.w_and, Rk.w_or, Rk.w_ifx, Rk.w_sl, Rk.w_no, Rk.w_so, Rk.w_asb, Rk.w_tru, Rk.w_bnot, Rk.w_band, Rk.w_bor, Rk.w_yes, Rk.w_skip, Rk.w_expr, Rk.w_set, Rk.w_ret, Rk.w_retN, Rk.w_if, Rk.w_asg, Rk.w_par, Rk.w_gnm, Rk.w_gsb, Rk.w_mt, Rk.w_ext, Rk.w_gtp, Rk.w_gsc, Rk.w_gsn, Rk.w_escs, Rk.w_givs, Rk.slQ_l, Rk.slQ_w, Rk.backT, Option.getD_some, Option.getD_none, Rk.get_w, Rk.get_l, Rk.get_sl, Rk.seq_tup, Rk.seq_rol, Rk.seq_l, Rk.seq_loc, Rk.seq_sl, Rk.lst_rol, Rk.lst_l, Rk.lst_loc, Rk.lst_sl, Rk.lst_tup, Rk.ix_int, Rk.ix_some, Rk.seqT_l, Rk.seqT_tup, Rk.seqT_rol, Rk.seqT_loc, Rk.lstT_l, Rk.lstT_rol, Rk.lstT_loc, Rk.at_0, Rk.at_1, Rk.at_2, Rk.at_3, Rk.at_4, Rk.at_5, Rk.bin_int, Rk.i_add, Rk.i_sub, Rk.i_mul, Rk.i_div, Rk.i_mod, Rk.i_pow, Rk.u_neg, Rk.c_lt, Rk.c_le, Rk.c_gt, Rk.c_ge, Rk.c_eq, Rk.c_ne, Rk.c_isN, Rk.c_isI, Rk.c_seq, Rk.c_sne, Rk.t_non, Rk.t_bl, Rk.t_int, Rk.iw_int, Rk.bt_bl, Rk.b_int, Rk.b_intb, Rk.b_abs, Rk.b_lent, Rk.b_lenr, Rk.b_lenl, Rk.b_tup, Rk.b_list, Rk.b_all, Rk.b_any, Rk.b_sum, Rk.bls_nil, Rk.bls_cons, Rk.ints_nil, Rk.ints_cons, Rk.b_min1, Rk.b_max1, Rk.b_min2, Rk.b_max2, Rk.m_loc, Rk.m_sl, Rk.p_nil, Rk.p_cons, Rk.set_s, Rk.esc_l, Rk.isI_int, Rk.isI_bool, Rk.isI_tup, List.cons_append, List.nil_append, List.append_nil, List.getElem?_cons_zero, List.getElem?_cons_succ, List.set_cons_zero, List.set_cons_succ, List.length_cons, List.length_nil, List.map_nil, List.map_cons, Option.bind_some, Option.bind_none, Option.map_some, Option.map_none, Option.isSome_some, id_eq, true_and, and_true, decide_eq_true_eq, List.replicate_succ, List.replicate_zero, Nat.reduceAdd, Nat.reduceSub, Int.reduceMul, Int.reduceAdd, Int.reduceSub, Int.reduceNeg, if_true, if_false, Bool.true_eq_false, Bool.false_eq_true, reduceIte, rc, decide_true, Bool.not_true]
  exact h a b c M2 _ _ b1 b2 b3 hp4
abbrev bodyT (O : Orc) : DS := (dseq (dif (asb (dcmp .NotEq (dbi bRepr [(dcallK (O.fn 11) 2 [] [(dvar 8), (dvar 9)] [0, 1] [])]) (dbi bRepr [(dcall (O.fn 7) 2 [(dvar 8), (dvar 9)] [])]))) (dseq (dret (dcon (.bl false))) dskip) dskip) dskip)
theorem body_t {x0 x1 x2 x3 x4 x5 x6 x7 : Option T} {a b c a' b' c' : Int} {P : Po} (h : P.nx ⟨[x0, x1, x2, x3, x4, x5, x6, x7, some (.w (ce a b c)), some (.w (ce a' b' c'))], M⟩) :
    (bodyT (ob (n + 4)) ⟨[x0, x1, x2, x3, x4, x5, x6, x7, some (.w (ce a b c)), some (.w (ce a' b' c'))], M⟩).sat P := by
  rw [w_seq]
  try simp only [Rk.sat_ok, Rk.osat_some, Rk.osat_none, Rk.osat_ite, Rk.osat_map, Rk.osat_bind, Rk.w_var, Rk.w_con, Rk.w_bin, Rk.w_cmp, Rk.w_ix, Rk.w_bi, Rk.w_es0, Rk.w_es, Rk.w_ts0, Rk.w_ts, Rk.w_ws0, Rk.w_ws, Rk.w_W, Rk.w_T, Rk.w_esc, Rk.w_givw, Rk.w_givl, Rk.w_tup, Rk.w_lst, Rk.w_call, Rk.w_callK, Rk.w_un, Rk.w_not, Rk.w_and, Rk.w_or, Rk.w_ifx, Rk.w_sl, Rk.w_no, Rk.w_so, Rk.w_asb, Rk.w_tru, Rk.w_bnot, Rk.w_band, Rk.w_bor, Rk.w_yes, Rk.w_skip, Rk.w_expr, Rk.w_set, Rk.w_ret, Rk.w_retN, Rk.w_if, Rk.w_asg, Rk.w_par, Rk.w_gnm, Rk.w_gsb, Rk.w_mt, Rk.w_ext, Rk.w_gtp, Rk.w_gsc, Rk.w_gsn, Rk.w_escs, Rk.w_givs, Rk.slQ_l, Rk.slQ_w, Rk.backT, Option.getD_some, Option.getD_none, Rk.get_w, Rk.get_l, Rk.get_sl, Rk.seq_tup, Rk.seq_rol, Rk.seq_l, Rk.seq_loc, Rk.seq_sl, Rk.lst_rol, Rk.lst_l, Rk.lst_loc, Rk.lst_sl, Rk.lst_tup, Rk.ix_int, Rk.ix_some, Rk.seqT_l, Rk.seqT_tup, Rk.seqT_rol, Rk.seqT_loc, Rk.lstT_l, Rk.lstT_rol, Rk.lstT_loc, Rk.at_0, Rk.at_1, Rk.at_2, Rk.at_3, Rk.at_4, Rk.at_5, Rk.bin_int, Rk.i_add, Rk.i_sub, Rk.i_mul, Rk.i_div, Rk.i_mod, Rk.i_pow, Rk.u_neg, Rk.c_lt, Rk.c_le, Rk.c_gt, Rk.c_ge, Rk.c_eq, Rk.c_ne, Rk.c_isN, Rk.c_isI, Rk.c_seq, Rk.c_sne, Rk.t_non, Rk.t_bl, Rk.t_int, Rk.iw_int, Rk.bt_bl, Rk.b_int, Rk.b_intb, Rk.b_abs, Rk.b_lent, Rk.b_lenr, Rk.b_lenl, Rk.b_tup, Rk.b_list, Rk.b_all, Rk.b_any, Rk.b_sum, Rk.bls_nil, Rk.bls_cons, Rk.ints_nil, Rk.ints_cons, Rk.b_min1, Rk.b_max1, Rk.b_min2, Rk.b_max2, Rk.m_loc, Rk.m_sl, Rk.p_nil, Rk.p_cons, Rk.set_s, Rk.esc_l, Rk.isI_int, Rk.isI_bool, Rk.isI_tup, List.cons_append, List.nil_append, List.append_nil, List.getElem?_cons_zero, List.getElem?_cons_succ, List.set_cons_zero, List.set_cons_succ, List.length_cons, List.length_nil, List.map_nil, List.map_cons, Option.bind_some, Option.bind_none, Option.map_some, Option.map_none, Option.isSome_some, id_eq, true_and, and_true, decide_eq_true_eq, List.replicate_succ, List.replicate_zero, Nat.reduceAdd, Nat.reduceSub, Int.reduceMul, Int.reduceAdd, Int.reduceSub, Int.reduceNeg, if_true, if_false, Bool.true_eq_false, Bool.false_eq_true, reduceIte, pick_n, pick_c]
  refine c_touches ?_
  try simp only [Rk.sat_ok, Rk.osat_some, Rk.osat_none, Rk.osat_ite, Rk.osat_map, Rk.osat_bind, Rk.w_var, Rk.w_con, Rk.w_bin, Rk.w_cmp, Rk.w_ix, Rk.w_bi, Rk.w_es0, Rk.w_es, Rk.w_ts0, Rk.w_ts, Rk.w_ws0, Rk.w_ws, Rk.w_W, Rk.w_T, Rk.w_esc, Rk.w_givw, Rk.w_givl, Rk.w_tup, Rk.w_lst, Rk.w_call, Rk.w_callK, Rk.w_un, Rk.w_not, Rk.w_and, Rk.w_or, Rk.w_ifx, Rk.w_sl, Rk.w_no, Rk.w_so, Rk.w_asb, Rk.w_tru, Rk.w_bnot, Rk.w_band, Rk.w_bor, Rk.w_yes, Rk.w_skip, Rk.w_expr, Rk.w_set, Rk.w_ret, Rk.w_retN, Rk.w_if, Rk.w_asg, Rk.w_par, Rk.w_gnm, Rk.w_gsb, Rk.w_mt, Rk.w_ext, Rk.w_gtp, Rk.w_gsc, Rk.w_gsn, Rk.w_escs, Rk.w_givs, Rk.slQ_l, Rk.slQ_w, Rk.backT, Option.getD_some, Option.getD_none, Rk.get_w, Rk.get_l, Rk.get_sl, Rk.seq_tup, Rk.seq_rol, Rk.seq_l, Rk.seq_loc, Rk.seq_sl, Rk.lst_rol, Rk.lst_l, Rk.lst_loc, Rk.lst_sl, Rk.lst_tup, Rk.ix_int, Rk.ix_some, Rk.seqT_l, Rk.seqT_tup, Rk.seqT_rol, Rk.seqT_loc, Rk.lstT_l, Rk.lstT_rol, Rk.lstT_loc, Rk.at_0, Rk.at_1, Rk.at_2, Rk.at_3, Rk.at_4, Rk.at_5, Rk.bin_int, Rk.i_add, Rk.i_sub, Rk.i_mul, Rk.i_div, Rk.i_mod, Rk.i_pow, Rk.u_neg, Rk.c_lt, Rk.c_le, Rk.c_gt, Rk.c_ge, Rk.c_eq, Rk.c_ne, Rk.c_isN, Rk.c_isI, Rk.c_seq, Rk.c_sne, Rk.t_non, Rk.t_bl, Rk.t_int, Rk.iw_int, Rk.bt_bl, Rk.b_int, Rk.b_intb, Rk.b_abs, Rk.b_lent, Rk.b_lenr, Rk.b_lenl, Rk.b_tup, Rk.b_list, Rk.b_all, Rk.b_any, Rk.b_sum, Rk.bls_nil, Rk.bls_cons, Rk.ints_nil, Rk.ints_cons, Rk.b_min1, Rk.b_max1, Rk.b_min2, Rk.b_max2, Rk.m_loc, Rk.m_sl, Rk.p_nil, Rk.p_cons, Rk.set_s, Rk.esc_l, Rk.isI_int, Rk.isI_bool, Rk.isI_tup, List.cons_append, List.nil_append, List.append_nil, List.getElem?_cons_zero, List.getElem?_cons_succ, List.set_cons_zero, List.set_cons_succ, List.length_cons, List.length_nil, List.map_nil, List.map_cons, Option.bind_some, Option.bind_none, Option.map_some, Option.map_none, Option.isSome_some, id_eq, true_and, and_true, decide_eq_true_eq, List.replicate_succ, List.replicate_zero, Nat.reduceAdd, Nat.reduceSub, Int.reduceMul, Int.reduceAdd, Int.reduceSub, Int.reduceNeg, if_true, if_false, Bool.true_eq_false, Bool.false_eq_true, reduceIte, rp_bl]
  refine c_law_is_touching ?_
  try simp only [Rk.sat_ok, Rk.osat_some, Rk.osat_none, Rk.osat_ite, Rk.osat_map, Rk.osat_bind, Rk.w_var, Rk.w_con, Rk.w_bin, Rk.w_cmp, Rk.w_ix, Rk.w_bi, Rk.w_es0, Rk.w_es, Rk.w_ts0, Rk.w_ts, Rk.w_ws0, Rk.w_ws, Rk.w_W, Rk.w_T, Rk.w_esc, Rk.w_givw, Rk.w_givl, Rk.w_tup, Rk.w_lst, Rk.w_call, Rk.w_callK, Rk.w_un, Rk.w_not, Rk.w_and, Rk.w_or, Rk.w_ifx, Rk.w_sl, Rk.w_no, Rk.w_so, Rk.w_asb, Rk.w_tru, Rk.w_bnot, Rk.w_band, Rk.w_bor, Rk.w_yes, Rk.w_skip, Rk.w_expr, Rk.w_set, Rk.w_ret, Rk.w_retN, Rk.w_if, Rk.w_asg, Rk.w_par, Rk.w_gnm, Rk.w_gsb, Rk.w_mt, Rk.w_ext, Rk.w_gtp, Rk.w_gsc, Rk.w_gsn, Rk.w_escs, Rk.w_givs, Rk.slQ_l, Rk.slQ_w, Rk.backT, Option.getD_some, Option.getD_none, Rk.get_w, Rk.get_l, Rk.get_sl, Rk.seq_tup, Rk.seq_rol, Rk.seq_l, Rk.seq_loc, Rk.seq_sl, Rk.lst_rol, Rk.lst_l, Rk.lst_loc, Rk.lst_sl, Rk.lst_tup, Rk.ix_int, Rk.ix_some, Rk.seqT_l, Rk.seqT_tup, Rk.seqT_rol, Rk.seqT_loc, Rk.lstT_l, Rk.lstT_rol, Rk.lstT_loc, Rk.at_0, Rk.at_1, Rk.at_2, Rk.at_3, Rk.at_4, Rk.at_5, Rk.bin_int, Rk.i_add, Rk.i_sub, Rk.i_mul, Rk.i_div, Rk.i_mod, Rk.i_pow, Rk.u_neg, Rk.c_lt, Rk.c_le, Rk.c_gt, Rk.c_ge, Rk.c_eq, Rk.c_ne, Rk.c_isN, Rk.c_isI, Rk.c_seq, Rk.c_sne, Rk.t_non, Rk.t_bl, Rk.t_int, Rk.iw_int, Rk.bt_bl, Rk.b_int, Rk.b_intb, Rk.b_abs, Rk.b_lent, Rk.b_lenr, Rk.b_lenl, Rk.b_tup, Rk.b_list, Rk.b_all, Rk.b_any, Rk.b_sum, Rk.bls_nil, Rk.bls_cons, Rk.ints_nil, Rk.ints_cons, Rk.b_min1, Rk.b_max1, Rk.b_min2, Rk.b_max2, Rk.m_loc, Rk.m_sl, Rk.p_nil, Rk.p_cons, Rk.set_s, Rk.esc_l, Rk.isI_int, Rk.isI_bool, Rk.isI_tup, List.cons_append, List.nil_append, List.append_nil, List.getElem?_cons_zero, List.getElem?_cons_succ, List.set_cons_zero, List.set_cons_succ, List.length_cons, List.length_nil, List.map_nil, List.map_cons, Option.bind_some, Option.bind_none, Option.map_some, Option.map_none, Option.isSome_some, id_eq, true_and, and_true, decide_eq_true_eq, List.replicate_succ, List.replicate_zero, Nat.reduceAdd, Nat.reduceSub, Int.reduceMul, Int.reduceAdd, Int.reduceSub, Int.reduceNeg, if_true, if_false, Bool.true_eq_false, Bool.false_eq_true, reduceIte, rp_bl, decide_true, Bool.not_true]
  exact h
/-- all pairs of the list -/
theorem pairs_ok {x0 x1 x2 x3 x4 x5 x6 x8 x9 : Option T} {xs : List W} {P : Po} (hx : ∀ w ∈ xs, isCeB 300000 w) (hl : xs.length < 1000)
    (h : ∀ y8 y9, P.nx ⟨[x0, x1, x2, x3, x4, x5, x6, some (.lst xs), y8, y9], M⟩) :
    ((dfor (dwalk (dvar 7) (some 7)) (gnm 8) (dseq (dfor (dwalk (dvar 7) (some 7)) (gnm 9) (bodyT (ob (n + 4)))) dskip)) ⟨[x0, x1, x2, x3, x4, x5, x6, some (.lst xs), x8, x9], M⟩).sat P := by
  rw [w_for]
  try simp only [Rk.sat_ok, Rk.osat_some, Rk.osat_none, Rk.osat_ite, Rk.osat_map, Rk.osat_bind, Rk.w_var, Rk.w_con, Rk.w_bin, Rk.w_cmp, Rk.w_ix, Rk.w_bi, Rk.w_es0, Rk.w_es, Rk.w_ts0, Rk.w_ts, Rk.w_ws0, Rk.w_ws, Rk.w_W, Rk.w_T, Rk.w_esc, Rk.w_givw, Rk.w_givl, Rk.w_tup, Rk.w_lst, Rk.w_call, Rk.w_callK, Rk.w_un, Rk.w_not, Rk.w_and, Rk.w_or, Rk.w_ifx, Rk.w_sl, Rk.w_no, Rk.w_so, Rk.w_asb, Rk.w_tru, Rk.w_bnot, Rk.w_band, Rk.w_bor, Rk.w_yes, Rk.w_skip, Rk.w_expr, Rk.w_set, Rk.w_ret, Rk.w_retN, Rk.w_if, Rk.w_asg, Rk.w_par, Rk.w_gnm, Rk.w_gsb, Rk.w_mt, Rk.w_ext, Rk.w_gtp, Rk.w_gsc, Rk.w_gsn, Rk.w_escs, Rk.w_givs, Rk.slQ_l, Rk.slQ_w, Rk.backT, Option.getD_some, Option.getD_none, Rk.get_w, Rk.get_l, Rk.get_sl, Rk.seq_tup, Rk.seq_rol, Rk.seq_l, Rk.seq_loc, Rk.seq_sl, Rk.lst_rol, Rk.lst_l, Rk.lst_loc, Rk.lst_sl, Rk.lst_tup, Rk.ix_int, Rk.ix_some, Rk.seqT_l, Rk.seqT_tup, Rk.seqT_rol, Rk.seqT_loc, Rk.lstT_l, Rk.lstT_rol, Rk.lstT_loc, Rk.at_0, Rk.at_1, Rk.at_2, Rk.at_3, Rk.at_4, Rk.at_5, Rk.bin_int, Rk.i_add, Rk.i_sub, Rk.i_mul, Rk.i_div, Rk.i_mod, Rk.i_pow, Rk.u_neg, Rk.c_lt, Rk.c_le, Rk.c_gt, Rk.c_ge, Rk.c_eq, Rk.c_ne, Rk.c_isN, Rk.c_isI, Rk.c_seq, Rk.c_sne, Rk.t_non, Rk.t_bl, Rk.t_int, Rk.iw_int, Rk.bt_bl, Rk.b_int, Rk.b_intb, Rk.b_abs, Rk.b_lent, Rk.b_lenr, Rk.b_lenl, Rk.b_tup, Rk.b_list, Rk.b_all, Rk.b_any, Rk.b_sum, Rk.bls_nil, Rk.bls_cons, Rk.ints_nil, Rk.ints_cons, Rk.b_min1, Rk.b_max1, Rk.b_min2, Rk.b_max2, Rk.m_loc, Rk.m_sl, Rk.p_nil, Rk.p_cons, Rk.set_s, Rk.esc_l, Rk.isI_int, Rk.isI_bool, Rk.isI_tup, List.cons_append, List.nil_append, List.append_nil, List.getElem?_cons_zero, List.getElem?_cons_succ, List.set_cons_zero, List.set_cons_succ, List.length_cons, List.length_nil, List.map_nil, List.map_cons, Option.bind_some, Option.bind_none, Option.map_some, Option.map_none, Option.isSome_some, id_eq, true_and, and_true, decide_eq_true_eq, List.replicate_succ, List.replicate_zero, Nat.reduceAdd, Nat.reduceSub, Int.reduceMul, Int.reduceAdd, Int.reduceSub, Int.reduceNeg, if_true, if_false, Bool.true_eq_false, Bool.false_eq_true, reduceIte, w_walk, k_sl]
  rw [w_llive]
  refine fl_inv (xs := xs) (fun s => ∃ y8 y9, s = ⟨[x0, x1, x2, x3, x4, x5, x6, some (.lst xs), y8, y9], M⟩) (fun s ⟨y8, y9, e⟩ => by rw [e]; rfl) (fun x hx1 s ⟨y8, y9, e⟩ => ?_) (fun s ⟨y8, y9, e⟩ => by rw [e]; exact h _ _) FUEL 0 _ ⟨x8, x9, rfl⟩ (by omega) (by unfold FUEL; omega)
  subst e
  try simp only [Rk.sat_ok, Rk.osat_some, Rk.osat_none, Rk.osat_ite, Rk.osat_map, Rk.osat_bind, Rk.w_var, Rk.w_con, Rk.w_bin, Rk.w_cmp, Rk.w_ix, Rk.w_bi, Rk.w_es0, Rk.w_es, Rk.w_ts0, Rk.w_ts, Rk.w_ws0, Rk.w_ws, Rk.w_W, Rk.w_T, Rk.w_esc, Rk.w_givw, Rk.w_givl, Rk.w_tup, Rk.w_lst, Rk.w_call, Rk.w_callK, Rk.w_un, Rk.w_not, Rk.w_and, Rk.w_or, Rk.w_ifx, Rk.w_sl, Rk.w_no, Rk.w_so, Rk.w_asb, Rk.w_tru, Rk.w_bnot, Rk.w_band, Rk.w_bor, Rk.w_yes, Rk.w_skip, Rk.w_expr, Rk.w_set, Rk.w_ret, Rk.w_retN, Rk.w_if, Rk.w_asg, Rk.w_par, Rk.w_gnm, Rk.w_gsb, Rk.w_mt, Rk.w_ext, Rk.w_gtp, Rk.w_gsc, Rk.w_gsn, Rk.w_escs, Rk.w_givs, Rk.slQ_l, Rk.slQ_w, Rk.backT, Option.getD_some, Option.getD_none, Rk.get_w, Rk.get_l, Rk.get_sl, Rk.seq_tup, Rk.seq_rol, Rk.seq_l, Rk.seq_loc, Rk.seq_sl, Rk.lst_rol, Rk.lst_l, Rk.lst_loc, Rk.lst_sl, Rk.lst_tup, Rk.ix_int, Rk.ix_some, Rk.seqT_l, Rk.seqT_tup, Rk.seqT_rol, Rk.seqT_loc, Rk.lstT_l, Rk.lstT_rol, Rk.lstT_loc, Rk.at_0, Rk.at_1, Rk.at_2, Rk.at_3, Rk.at_4, Rk.at_5, Rk.bin_int, Rk.i_add, Rk.i_sub, Rk.i_mul, Rk.i_div, Rk.i_mod, Rk.i_pow, Rk.u_neg, Rk.c_lt, Rk.c_le, Rk.c_gt, Rk.c_ge, Rk.c_eq, Rk.c_ne, Rk.c_isN, Rk.c_isI, Rk.c_seq, Rk.c_sne, Rk.t_non, Rk.t_bl, Rk.t_int, Rk.iw_int, Rk.bt_bl, Rk.b_int, Rk.b_intb, Rk.b_abs, Rk.b_lent, Rk.b_lenr, Rk.b_lenl, Rk.b_tup, Rk.b_list, Rk.b_all, Rk.b_any, Rk.b_sum, Rk.bls_nil, Rk.bls_cons, Rk.ints_nil, Rk.ints_cons, Rk.b_min1, Rk.b_max1, Rk.b_min2, Rk.b_max2, Rk.m_loc, Rk.m_sl, Rk.p_nil, Rk.p_cons, Rk.set_s, Rk.esc_l, Rk.isI_int, Rk.isI_bool, Rk.isI_tup, List.cons_append, List.nil_append, List.append_nil, List.getElem?_cons_zero, List.getElem?_cons_succ, List.set_cons_zero, List.set_cons_succ, List.length_cons, List.length_nil, List.map_nil, List.map_cons, Option.bind_some, Option.bind_none, Option.map_some, Option.map_none, Option.isSome_some, id_eq, true_and, and_true, decide_eq_true_eq, List.replicate_succ, List.replicate_zero, Nat.reduceAdd, Nat.reduceSub, Int.reduceMul, Int.reduceAdd, Int.reduceSub, Int.reduceNeg, if_true, if_false, Bool.true_eq_false, Bool.false_eq_true, reduceIte]
  rw [w_seq, w_for]
  try simp only [Rk.sat_ok, Rk.osat_some, Rk.osat_none, Rk.osat_ite, Rk.osat_map, Rk.osat_bind, Rk.w_var, Rk.w_con, Rk.w_bin, Rk.w_cmp, Rk.w_ix, Rk.w_bi, Rk.w_es0, Rk.w_es, Rk.w_ts0, Rk.w_ts, Rk.w_ws0, Rk.w_ws, Rk.w_W, Rk.w_T, Rk.w_esc, Rk.w_givw, Rk.w_givl, Rk.w_tup, Rk.w_lst, Rk.w_call, Rk.w_callK, Rk.w_un, Rk.w_not, Rk.w_and, Rk.w_or, Rk.w_ifx, Rk.w_sl, Rk.w_no, Rk.w_so, Rk.w_asb, Rk.w_tru, Rk.w_bnot, Rk.w_band, Rk.w_bor, Rk.w_yes, Rk.w_skip, Rk.w_expr, Rk.w_set, Rk.w_ret, Rk.w_retN, Rk.w_if, Rk.w_asg, Rk.w_par, Rk.w_gnm, Rk.w_gsb, Rk.w_mt, Rk.w_ext, Rk.w_gtp, Rk.w_gsc, Rk.w_gsn, Rk.w_escs, Rk.w_givs, Rk.slQ_l, Rk.slQ_w, Rk.backT, Option.getD_some, Option.getD_none, Rk.get_w, Rk.get_l, Rk.get_sl, Rk.seq_tup, Rk.seq_rol, Rk.seq_l, Rk.seq_loc, Rk.seq_sl, Rk.lst_rol, Rk.lst_l, Rk.lst_loc, Rk.lst_sl, Rk.lst_tup, Rk.ix_int, Rk.ix_some, Rk.seqT_l, Rk.seqT_tup, Rk.seqT_rol, Rk.seqT_loc, Rk.lstT_l, Rk.lstT_rol, Rk.lstT_loc, Rk.at_0, Rk.at_1, Rk.at_2, Rk.at_3, Rk.at_4, Rk.at_5, Rk.bin_int, Rk.i_add, Rk.i_sub, Rk.i_mul, Rk.i_div, Rk.i_mod, Rk.i_pow, Rk.u_neg, Rk.c_lt, Rk.c_le, Rk.c_gt, Rk.c_ge, Rk.c_eq, Rk.c_ne, Rk.c_isN, Rk.c_isI, Rk.c_seq, Rk.c_sne, Rk.t_non, Rk.t_bl, Rk.t_int, Rk.iw_int, Rk.bt_bl, Rk.b_int, Rk.b_intb, Rk.b_abs, Rk.b_lent, Rk.b_lenr, Rk.b_lenl, Rk.b_tup, Rk.b_list, Rk.b_all, Rk.b_any, Rk.b_sum, Rk.bls_nil, Rk.bls_cons, Rk.ints_nil, Rk.ints_cons, Rk.b_min1, Rk.b_max1, Rk.b_min2, Rk.b_max2, Rk.m_loc, Rk.m_sl, Rk.p_nil, Rk.p_cons, Rk.set_s, Rk.esc_l, Rk.isI_int, Rk.isI_bool, Rk.isI_tup, List.cons_append, List.nil_append, List.append_nil, List.getElem?_cons_zero, List.getElem?_cons_succ, List.set_cons_zero, List.set_cons_succ, List.length_cons, List.length_nil, List.map_nil, List.map_cons, Option.bind_some, Option.bind_none, Option.map_some, Option.map_none, Option.isSome_some, id_eq, true_and, and_true, decide_eq_true_eq, List.replicate_succ, List.replicate_zero, Nat.reduceAdd, Nat.reduceSub, Int.reduceMul, Int.reduceAdd, Int.reduceSub, Int.reduceNeg, if_true, if_false, Bool.true_eq_false, Bool.false_eq_true, reduceIte, w_walk, k_sl]
  rw [w_llive]
  obtain ⟨a, b, c, _, _, _, rfl⟩ := hx x hx1
  refine fl_inv (xs := xs) (fun s => ∃ y9, s = ⟨[x0, x1, x2, x3, x4, x5, x6, some (.lst xs), some (.w (ce a b c)), y9], M⟩) (fun s ⟨y9, e⟩ => by rw [e]; rfl) (fun x hx2 s ⟨y9, e⟩ => ?_) (fun s ⟨y9, e⟩ => ?_) FUEL 0 _ ⟨y9, rfl⟩ (by omega) (by unfold FUEL; omega)
  · subst e
    obtain ⟨a', b', c', _, _, _, rfl⟩ := hx x hx2
    try simp only [Rk.sat_ok, Rk.osat_some, Rk.osat_none, Rk.osat_ite, Rk.osat_map, Rk.osat_bind, Rk.w_var, Rk.w_con, Rk.w_bin, Rk.w_cmp, Rk.w_ix, Rk.w_bi, Rk.w_es0, Rk.w_es, Rk.w_ts0, Rk.w_ts, Rk.w_ws0, Rk.w_ws, Rk.w_W, Rk.w_T, Rk.w_esc, Rk.w_givw, Rk.w_givl, Rk.w_tup, Rk.w_lst, Rk.w_call, Rk.w_callK, Rk.w_un, Rk.w_not, Rk.w_and, Rk.w_or, Rk.w_ifx, Rk.w_sl, Rk.w_no, Rk.w_so, Rk.w_asb, Rk.w_tru, Rk.w_bnot, Rk.w_band, Rk.w_bor, Rk.w_yes, Rk.w_skip, Rk.w_expr, Rk.w_set, Rk.w_ret, Rk.w_retN, Rk.w_if, Rk.w_asg, Rk.w_par, Rk.w_gnm, Rk.w_gsb, Rk.w_mt, Rk.w_ext, Rk.w_gtp, Rk.w_gsc, Rk.w_gsn, Rk.w_escs, Rk.w_givs, Rk.slQ_l, Rk.slQ_w, Rk.backT, Option.getD_some, Option.getD_none, Rk.get_w, Rk.get_l, Rk.get_sl, Rk.seq_tup, Rk.seq_rol, Rk.seq_l, Rk.seq_loc, Rk.seq_sl, Rk.lst_rol, Rk.lst_l, Rk.lst_loc, Rk.lst_sl, Rk.lst_tup, Rk.ix_int, Rk.ix_some, Rk.seqT_l, Rk.seqT_tup, Rk.seqT_rol, Rk.seqT_loc, Rk.lstT_l, Rk.lstT_rol, Rk.lstT_loc, Rk.at_0, Rk.at_1, Rk.at_2, Rk.at_3, Rk.at_4, Rk.at_5, Rk.bin_int, Rk.i_add, Rk.i_sub, Rk.i_mul, Rk.i_div, Rk.i_mod, Rk.i_pow, Rk.u_neg, Rk.c_lt, Rk.c_le, Rk.c_gt, Rk.c_ge, Rk.c_eq, Rk.c_ne, Rk.c_isN, Rk.c_isI, Rk.c_seq, Rk.c_sne, Rk.t_non, Rk.t_bl, Rk.t_int, Rk.iw_int, Rk.bt_bl, Rk.b_int, Rk.b_intb, Rk.b_abs, Rk.b_lent, Rk.b_lenr, Rk.b_lenl, Rk.b_tup, Rk.b_list, Rk.b_all, Rk.b_any, Rk.b_sum, Rk.bls_nil, Rk.bls_cons, Rk.ints_nil, Rk.ints_cons, Rk.b_min1, Rk.b_max1, Rk.b_min2, Rk.b_max2, Rk.m_loc, Rk.m_sl, Rk.p_nil, Rk.p_cons, Rk.set_s, Rk.esc_l, Rk.isI_int, Rk.isI_bool, Rk.isI_tup, List.cons_append, List.nil_append, List.append_nil, List.getElem?_cons_zero, List.getElem?_cons_succ, List.set_cons_zero, List.set_cons_succ, List.length_cons, List.length_nil, List.map_nil, List.map_cons, Option.bind_some, Option.bind_none, Option.map_some, Option.map_none, Option.isSome_some, id_eq, true_and, and_true, decide_eq_true_eq, List.replicate_succ, List.replicate_zero, Nat.reduceAdd, Nat.reduceSub, Int.reduceMul, Int.reduceAdd, Int.reduceSub, Int.reduceNeg, if_true, if_false, Bool.true_eq_false, Bool.false_eq_true, reduceIte]
    exact body_t ⟨_, rfl⟩
  · subst e
    exact ⟨_, _, rfl⟩
theorem add_at {sg : List (Option T)} {i : Nat} {t : T} {xs ys : List W} (ht : At M i t xs) (hl : xs.length + ys.length ≤ sizeLine) : opBin .Add ⟨sg, M⟩ t (.lst ys) = some (.lst (xs ++ ys)) := by
  rcases ht with rfl | ⟨j, rfl, hj, _⟩
  · show (if xs.length + ys.length ≤ sizeLine then some (T.lst (xs ++ ys)) else none) = _
    rw [if_pos hl]
  · have e : mutOf ⟨sg, M⟩ (.w (.loc j)) = some xs := by
      unfold mutOf
      simp only [get_w, Option.bind_some, mutT, hj]
    have e2 : mutOf ⟨sg, M⟩ (.lst ys) = some ys := rfl
    unfold opBin
    simp only [get_w, get_l, e, e2]
    rw [if_pos hl]
theorem is_false {s : S} : opCmp .Is s (.w (.bl false)) (.w (.bl false)) = some true := rfl
theorem c_law_right {a0 b0 : Int} (ha : 0 ≤ a0) (hb : 0 ≤ b0) (hb' : b0 < 2305843009213693952) (h : ∀ M', R (.w (.bl true)) M') : ((ob (n + 6)).fn 3 [.lst [.int a0, .int b0, .int 0]] M).sat R := by
  rw [r3, w_run]; unfold d3
  refine w_stp fun k hk => ?_; try simp only [Rk.sat_ok, Rk.osat_some, Rk.osat_none, Rk.osat_ite, Rk.osat_map, Rk.osat_bind, Rk.w_var, Rk.w_con, Rk.w_bin, Rk.w_cmp, Rk.w_ix, Rk.w_bi, Rk.w_es0, Rk.w_es, Rk.w_ts0, Rk.w_ts, Rk.w_ws0, Rk.w_ws, Rk.w_W, Rk.w_T, Rk.w_esc, Rk.w_givw, Rk.w_givl, Rk.w_tup, Rk.w_lst, Rk.w_call, Rk.w_callK, Rk.w_un, Rk.w_not, Rk.w_and, Rk.w_or, Rk.w_ifx, Rk.w_sl, Rk.w_no, Rk.w_so, Rk.w_asb, Rk.w_tru, Rk.w_bnot, Rk.w_band, Rk.w_bor, Rk.w_yes, Rk.w_skip, Rk.w_expr, Rk.w_set, Rk.w_ret, Rk.w_retN, Rk.w_if, Rk.w_asg, Rk.w_par, Rk.w_gnm, Rk.w_gsb, Rk.w_mt, Rk.w_ext, Rk.w_gtp, Rk.w_gsc, Rk.w_gsn, Rk.w_escs, Rk.w_givs, Rk.slQ_l, Rk.slQ_w, Rk.backT, Option.getD_some, Option.getD_none, Rk.get_w, Rk.get_l, Rk.get_sl, Rk.seq_tup, Rk.seq_rol, Rk.seq_l, Rk.seq_loc, Rk.seq_sl, Rk.lst_rol, Rk.lst_l, Rk.lst_loc, Rk.lst_sl, Rk.lst_tup, Rk.ix_int, Rk.ix_some, Rk.seqT_l, Rk.seqT_tup, Rk.seqT_rol, Rk.seqT_loc, Rk.lstT_l, Rk.lstT_rol, Rk.lstT_loc, Rk.at_0, Rk.at_1, Rk.at_2, Rk.at_3, Rk.at_4, Rk.at_5, Rk.bin_int, Rk.i_add, Rk.i_sub, Rk.i_mul, Rk.i_div, Rk.i_mod, Rk.i_pow, Rk.u_neg, Rk.c_lt, Rk.c_le, Rk.c_gt, Rk.c_ge, Rk.c_eq, Rk.c_ne, Rk.c_isN, Rk.c_isI, Rk.c_seq, Rk.c_sne, Rk.t_non, Rk.t_bl, Rk.t_int, Rk.iw_int, Rk.bt_bl, Rk.b_int, Rk.b_intb, Rk.b_abs, Rk.b_lent, Rk.b_lenr, Rk.b_lenl, Rk.b_tup, Rk.b_list, Rk.b_all, Rk.b_any, Rk.b_sum, Rk.bls_nil, Rk.bls_cons, Rk.ints_nil, Rk.ints_cons, Rk.b_min1, Rk.b_max1, Rk.b_min2, Rk.b_max2, Rk.m_loc, Rk.m_sl, Rk.p_nil, Rk.p_cons, Rk.set_s, Rk.esc_l, Rk.isI_int, Rk.isI_bool, Rk.isI_tup, List.cons_append, List.nil_append, List.append_nil, List.getElem?_cons_zero, List.getElem?_cons_succ, List.set_cons_zero, List.set_cons_succ, List.length_cons, List.length_nil, List.map_nil, List.map_cons, Option.bind_some, Option.bind_none, Option.map_some, Option.map_none, Option.isSome_some, id_eq, true_and, and_true, decide_eq_true_eq, List.replicate_succ, List.replicate_zero, Nat.reduceAdd, Nat.reduceSub, Int.reduceMul, Int.reduceAdd, Int.reduceSub, Int.reduceNeg, if_true, if_false, Bool.true_eq_false, Bool.false_eq_true, reduceIte]
  refine ⟨by decide, ?_⟩
  refine hk _ ?_; clear hk k
  refine w_stp fun k hk => ?_
  rw [w_for]
  try simp only [Rk.sat_ok, Rk.osat_some, Rk.osat_none, Rk.osat_ite, Rk.osat_map, Rk.osat_bind, Rk.w_var, Rk.w_con, Rk.w_bin, Rk.w_cmp, Rk.w_ix, Rk.w_bi, Rk.w_es0, Rk.w_es, Rk.w_ts0, Rk.w_ts, Rk.w_ws0, Rk.w_ws, Rk.w_W, Rk.w_T, Rk.w_esc, Rk.w_givw, Rk.w_givl, Rk.w_tup, Rk.w_lst, Rk.w_call, Rk.w_callK, Rk.w_un, Rk.w_not, Rk.w_and, Rk.w_or, Rk.w_ifx, Rk.w_sl, Rk.w_no, Rk.w_so, Rk.w_asb, Rk.w_tru, Rk.w_bnot, Rk.w_band, Rk.w_bor, Rk.w_yes, Rk.w_skip, Rk.w_expr, Rk.w_set, Rk.w_ret, Rk.w_retN, Rk.w_if, Rk.w_asg, Rk.w_par, Rk.w_gnm, Rk.w_gsb, Rk.w_mt, Rk.w_ext, Rk.w_gtp, Rk.w_gsc, Rk.w_gsn, Rk.w_escs, Rk.w_givs, Rk.slQ_l, Rk.slQ_w, Rk.backT, Option.getD_some, Option.getD_none, Rk.get_w, Rk.get_l, Rk.get_sl, Rk.seq_tup, Rk.seq_rol, Rk.seq_l, Rk.seq_loc, Rk.seq_sl, Rk.lst_rol, Rk.lst_l, Rk.lst_loc, Rk.lst_sl, Rk.lst_tup, Rk.ix_int, Rk.ix_some, Rk.seqT_l, Rk.seqT_tup, Rk.seqT_rol, Rk.seqT_loc, Rk.lstT_l, Rk.lstT_rol, Rk.lstT_loc, Rk.at_0, Rk.at_1, Rk.at_2, Rk.at_3, Rk.at_4, Rk.at_5, Rk.bin_int, Rk.i_add, Rk.i_sub, Rk.i_mul, Rk.i_div, Rk.i_mod, Rk.i_pow, Rk.u_neg, Rk.c_lt, Rk.c_le, Rk.c_gt, Rk.c_ge, Rk.c_eq, Rk.c_ne, Rk.c_isN, Rk.c_isI, Rk.c_seq, Rk.c_sne, Rk.t_non, Rk.t_bl, Rk.t_int, Rk.iw_int, Rk.bt_bl, Rk.b_int, Rk.b_intb, Rk.b_abs, Rk.b_lent, Rk.b_lenr, Rk.b_lenl, Rk.b_tup, Rk.b_list, Rk.b_all, Rk.b_any, Rk.b_sum, Rk.bls_nil, Rk.bls_cons, Rk.ints_nil, Rk.ints_cons, Rk.b_min1, Rk.b_max1, Rk.b_min2, Rk.b_max2, Rk.m_loc, Rk.m_sl, Rk.p_nil, Rk.p_cons, Rk.set_s, Rk.esc_l, Rk.isI_int, Rk.isI_bool, Rk.isI_tup, List.cons_append, List.nil_append, List.append_nil, List.getElem?_cons_zero, List.getElem?_cons_succ, List.set_cons_zero, List.set_cons_succ, List.length_cons, List.length_nil, List.map_nil, List.map_cons, Option.bind_some, Option.bind_none, Option.map_some, Option.map_none, Option.isSome_some, id_eq, true_and, and_true, decide_eq_true_eq, List.replicate_succ, List.replicate_zero, Nat.reduceAdd, Nat.reduceSub, Int.reduceMul, Int.reduceAdd, Int.reduceSub, Int.reduceNeg, if_true, if_false, Bool.true_eq_false, Bool.false_eq_true, reduceIte, w_rgI, w_r1]
  refine ⟨by decide, ?_⟩
  rw [w_lsnap]
  generalize hi : M.length = i
  refine fs_inv (fun j s => ∃ t M' a b c x2 x3 x5, a.natAbs ≤ 300000 ∧ b.natAbs ≤ 300000 ∧ c.natAbs ≤ 300000 ∧ Pot0 M' t i (12 * j) ∧ (0 < j → t = .w (.loc i)) ∧ s = ⟨[some t, some (.w (ce a b c)), x2, x3, none, x5, none, none, none, none], M'⟩) (rangeW 0 8) 0 _ (fun j x hx s ⟨t, M', a, b, c, x2, x3, x5, k1, k2, k3, k4, k5, k6⟩ => ?_) ⟨.lst [.int a0, .int b0, .int 0], M, 0, 0, 0, none, none, none, by decide, by decide, by decide, .inr ⟨hi.symm, by decide, a0, b0, rfl, ha, hb, hb'⟩, (fun z => absurd z (Nat.lt_irrefl 0)), rfl⟩ fun s ⟨t, M', a, b, c, x2, x3, x5, k1, k2, k3, k4, k5, k6⟩ => ?_
  · have hj : j < 8 := (List.getElem?_eq_some_iff.mp hx).1
    subst k6
    try simp only [Rk.sat_ok, Rk.osat_some, Rk.osat_none, Rk.osat_ite, Rk.osat_map, Rk.osat_bind, Rk.w_var, Rk.w_con, Rk.w_bin, Rk.w_cmp, Rk.w_ix, Rk.w_bi, Rk.w_es0, Rk.w_es, Rk.w_ts0, Rk.w_ts, Rk.w_ws0, Rk.w_ws, Rk.w_W, Rk.w_T, Rk.w_esc, Rk.w_givw, Rk.w_givl, Rk.w_tup, Rk.w_lst, Rk.w_call, Rk.w_callK, Rk.w_un, Rk.w_not, Rk.w_and, Rk.w_or, Rk.w_ifx, Rk.w_sl, Rk.w_no, Rk.w_so, Rk.w_asb, Rk.w_tru, Rk.w_bnot, Rk.w_band, Rk.w_bor, Rk.w_yes, Rk.w_skip, Rk.w_expr, Rk.w_set, Rk.w_ret, Rk.w_retN, Rk.w_if, Rk.w_asg, Rk.w_par, Rk.w_gnm, Rk.w_gsb, Rk.w_mt, Rk.w_ext, Rk.w_gtp, Rk.w_gsc, Rk.w_gsn, Rk.w_escs, Rk.w_givs, Rk.slQ_l, Rk.slQ_w, Rk.backT, Option.getD_some, Option.getD_none, Rk.get_w, Rk.get_l, Rk.get_sl, Rk.seq_tup, Rk.seq_rol, Rk.seq_l, Rk.seq_loc, Rk.seq_sl, Rk.lst_rol, Rk.lst_l, Rk.lst_loc, Rk.lst_sl, Rk.lst_tup, Rk.ix_int, Rk.ix_some, Rk.seqT_l, Rk.seqT_tup, Rk.seqT_rol, Rk.seqT_loc, Rk.lstT_l, Rk.lstT_rol, Rk.lstT_loc, Rk.at_0, Rk.at_1, Rk.at_2, Rk.at_3, Rk.at_4, Rk.at_5, Rk.bin_int, Rk.i_add, Rk.i_sub, Rk.i_mul, Rk.i_div, Rk.i_mod, Rk.i_pow, Rk.u_neg, Rk.c_lt, Rk.c_le, Rk.c_gt, Rk.c_ge, Rk.c_eq, Rk.c_ne, Rk.c_isN, Rk.c_isI, Rk.c_seq, Rk.c_sne, Rk.t_non, Rk.t_bl, Rk.t_int, Rk.iw_int, Rk.bt_bl, Rk.b_int, Rk.b_intb, Rk.b_abs, Rk.b_lent, Rk.b_lenr, Rk.b_lenl, Rk.b_tup, Rk.b_list, Rk.b_all, Rk.b_any, Rk.b_sum, Rk.bls_nil, Rk.bls_cons, Rk.ints_nil, Rk.ints_cons, Rk.b_min1, Rk.b_max1, Rk.b_min2, Rk.b_max2, Rk.m_loc, Rk.m_sl, Rk.p_nil, Rk.p_cons, Rk.set_s, Rk.esc_l, Rk.isI_int, Rk.isI_bool, Rk.isI_tup, List.cons_append, List.nil_append, List.append_nil, List.getElem?_cons_zero, List.getElem?_cons_succ, List.set_cons_zero, List.set_cons_succ, List.length_cons, List.length_nil, List.map_nil, List.map_cons, Option.bind_some, Option.bind_none, Option.map_some, Option.map_none, Option.isSome_some, id_eq, true_and, and_true, decide_eq_true_eq, List.replicate_succ, List.replicate_zero, Nat.reduceAdd, Nat.reduceSub, Int.reduceMul, Int.reduceAdd, Int.reduceSub, Int.reduceNeg, if_true, if_false, Bool.true_eq_false, Bool.false_eq_true, reduceIte]
    refine body_r (n := n) k4 (by omega) fun a b c M2 y3 y5 g1 g2 g3 g4 => ⟨_, M2, a, b, c, _, _, _, g1, g2, g3, .inl ⟨rfl, g4.up (by omega)⟩, fun _ => rfl, rfl⟩
  · subst k6
    have k5 : t = .w (.loc i) := k5 (by decide)
    subst k5
    have k4 : Pot M' i 96 := by
      rcases k4 with ⟨_, h⟩ | ⟨_, _, a, b, e, _⟩
      · exact h
      · cases e
    refine hk _ ?_
    clear hk
    refine w_stp fun k hk => ?_; try simp only [Rk.sat_ok, Rk.osat_some, Rk.osat_none, Rk.osat_ite, Rk.osat_map, Rk.osat_bind, Rk.w_var, Rk.w_con, Rk.w_bin, Rk.w_cmp, Rk.w_ix, Rk.w_bi, Rk.w_es0, Rk.w_es, Rk.w_ts0, Rk.w_ts, Rk.w_ws0, Rk.w_ws, Rk.w_W, Rk.w_T, Rk.w_esc, Rk.w_givw, Rk.w_givl, Rk.w_tup, Rk.w_lst, Rk.w_call, Rk.w_callK, Rk.w_un, Rk.w_not, Rk.w_and, Rk.w_or, Rk.w_ifx, Rk.w_sl, Rk.w_no, Rk.w_so, Rk.w_asb, Rk.w_tru, Rk.w_bnot, Rk.w_band, Rk.w_bor, Rk.w_yes, Rk.w_skip, Rk.w_expr, Rk.w_set, Rk.w_ret, Rk.w_retN, Rk.w_if, Rk.w_asg, Rk.w_par, Rk.w_gnm, Rk.w_gsb, Rk.w_mt, Rk.w_ext, Rk.w_gtp, Rk.w_gsc, Rk.w_gsn, Rk.w_escs, Rk.w_givs, Rk.slQ_l, Rk.slQ_w, Rk.backT, Option.getD_some, Option.getD_none, Rk.get_w, Rk.get_l, Rk.get_sl, Rk.seq_tup, Rk.seq_rol, Rk.seq_l, Rk.seq_loc, Rk.seq_sl, Rk.lst_rol, Rk.lst_l, Rk.lst_loc, Rk.lst_sl, Rk.lst_tup, Rk.ix_int, Rk.ix_some, Rk.seqT_l, Rk.seqT_tup, Rk.seqT_rol, Rk.seqT_loc, Rk.lstT_l, Rk.lstT_rol, Rk.lstT_loc, Rk.at_0, Rk.at_1, Rk.at_2, Rk.at_3, Rk.at_4, Rk.at_5, Rk.bin_int, Rk.i_add, Rk.i_sub, Rk.i_mul, Rk.i_div, Rk.i_mod, Rk.i_pow, Rk.u_neg, Rk.c_lt, Rk.c_le, Rk.c_gt, Rk.c_ge, Rk.c_eq, Rk.c_ne, Rk.c_isN, Rk.c_isI, Rk.c_seq, Rk.c_sne, Rk.t_non, Rk.t_bl, Rk.t_int, Rk.iw_int, Rk.bt_bl, Rk.b_int, Rk.b_intb, Rk.b_abs, Rk.b_lent, Rk.b_lenr, Rk.b_lenl, Rk.b_tup, Rk.b_list, Rk.b_all, Rk.b_any, Rk.b_sum, Rk.bls_nil, Rk.bls_cons, Rk.ints_nil, Rk.ints_cons, Rk.b_min1, Rk.b_max1, Rk.b_min2, Rk.b_max2, Rk.m_loc, Rk.m_sl, Rk.p_nil, Rk.p_cons, Rk.set_s, Rk.esc_l, Rk.isI_int, Rk.isI_bool, Rk.isI_tup, List.cons_append, List.nil_append, List.append_nil, List.getElem?_cons_zero, List.getElem?_cons_succ, List.set_cons_zero, List.set_cons_succ, List.length_cons, List.length_nil, List.map_nil, List.map_cons, Option.bind_some, Option.bind_none, Option.map_some, Option.map_none, Option.isSome_some, id_eq, true_and, and_true, decide_eq_true_eq, List.replicate_succ, List.replicate_zero, Nat.reduceAdd, Nat.reduceSub, Int.reduceMul, Int.reduceAdd, Int.reduceSub, Int.reduceNeg, if_true, if_false, Bool.true_eq_false, Bool.false_eq_true, reduceIte]
    refine c_law_drawn_cells k4 (by decide) fun xs t M2 q1 q2 q3 q4 => ?_
    try simp only [Rk.sat_ok, Rk.osat_some, Rk.osat_none, Rk.osat_ite, Rk.osat_map, Rk.osat_bind, Rk.w_var, Rk.w_con, Rk.w_bin, Rk.w_cmp, Rk.w_ix, Rk.w_bi, Rk.w_es0, Rk.w_es, Rk.w_ts0, Rk.w_ts, Rk.w_ws0, Rk.w_ws, Rk.w_W, Rk.w_T, Rk.w_esc, Rk.w_givw, Rk.w_givl, Rk.w_tup, Rk.w_lst, Rk.w_call, Rk.w_callK, Rk.w_un, Rk.w_not, Rk.w_and, Rk.w_or, Rk.w_ifx, Rk.w_sl, Rk.w_no, Rk.w_so, Rk.w_asb, Rk.w_tru, Rk.w_bnot, Rk.w_band, Rk.w_bor, Rk.w_yes, Rk.w_skip, Rk.w_expr, Rk.w_set, Rk.w_ret, Rk.w_retN, Rk.w_if, Rk.w_asg, Rk.w_par, Rk.w_gnm, Rk.w_gsb, Rk.w_mt, Rk.w_ext, Rk.w_gtp, Rk.w_gsc, Rk.w_gsn, Rk.w_escs, Rk.w_givs, Rk.slQ_l, Rk.slQ_w, Rk.backT, Option.getD_some, Option.getD_none, Rk.get_w, Rk.get_l, Rk.get_sl, Rk.seq_tup, Rk.seq_rol, Rk.seq_l, Rk.seq_loc, Rk.seq_sl, Rk.lst_rol, Rk.lst_l, Rk.lst_loc, Rk.lst_sl, Rk.lst_tup, Rk.ix_int, Rk.ix_some, Rk.seqT_l, Rk.seqT_tup, Rk.seqT_rol, Rk.seqT_loc, Rk.lstT_l, Rk.lstT_rol, Rk.lstT_loc, Rk.at_0, Rk.at_1, Rk.at_2, Rk.at_3, Rk.at_4, Rk.at_5, Rk.bin_int, Rk.i_add, Rk.i_sub, Rk.i_mul, Rk.i_div, Rk.i_mod, Rk.i_pow, Rk.u_neg, Rk.c_lt, Rk.c_le, Rk.c_gt, Rk.c_ge, Rk.c_eq, Rk.c_ne, Rk.c_isN, Rk.c_isI, Rk.c_seq, Rk.c_sne, Rk.t_non, Rk.t_bl, Rk.t_int, Rk.iw_int, Rk.bt_bl, Rk.b_int, Rk.b_intb, Rk.b_abs, Rk.b_lent, Rk.b_lenr, Rk.b_lenl, Rk.b_tup, Rk.b_list, Rk.b_all, Rk.b_any, Rk.b_sum, Rk.bls_nil, Rk.bls_cons, Rk.ints_nil, Rk.ints_cons, Rk.b_min1, Rk.b_max1, Rk.b_min2, Rk.b_max2, Rk.m_loc, Rk.m_sl, Rk.p_nil, Rk.p_cons, Rk.set_s, Rk.esc_l, Rk.isI_int, Rk.isI_bool, Rk.isI_tup, List.cons_append, List.nil_append, List.append_nil, List.getElem?_cons_zero, List.getElem?_cons_succ, List.set_cons_zero, List.set_cons_succ, List.length_cons, List.length_nil, List.map_nil, List.map_cons, Option.bind_some, Option.bind_none, Option.map_some, Option.map_none, Option.isSome_some, id_eq, true_and, and_true, decide_eq_true_eq, List.replicate_succ, List.replicate_zero, Nat.reduceAdd, Nat.reduceSub, Int.reduceMul, Int.reduceAdd, Int.reduceSub, Int.reduceNeg, if_true, if_false, Bool.true_eq_false, Bool.false_eq_true, reduceIte]
    rw [add_at q3 (by rw [q2]; exact (by decide : 10 + 1 ≤ sizeLine))]
    try simp only [Rk.sat_ok, Rk.osat_some, Rk.osat_none, Rk.osat_ite, Rk.osat_map, Rk.osat_bind, Rk.w_var, Rk.w_con, Rk.w_bin, Rk.w_cmp, Rk.w_ix, Rk.w_bi, Rk.w_es0, Rk.w_es, Rk.w_ts0, Rk.w_ts, Rk.w_ws0, Rk.w_ws, Rk.w_W, Rk.w_T, Rk.w_esc, Rk.w_givw, Rk.w_givl, Rk.w_tup, Rk.w_lst, Rk.w_call, Rk.w_callK, Rk.w_un, Rk.w_not, Rk.w_and, Rk.w_or, Rk.w_ifx, Rk.w_sl, Rk.w_no, Rk.w_so, Rk.w_asb, Rk.w_tru, Rk.w_bnot, Rk.w_band, Rk.w_bor, Rk.w_yes, Rk.w_skip, Rk.w_expr, Rk.w_set, Rk.w_ret, Rk.w_retN, Rk.w_if, Rk.w_asg, Rk.w_par, Rk.w_gnm, Rk.w_gsb, Rk.w_mt, Rk.w_ext, Rk.w_gtp, Rk.w_gsc, Rk.w_gsn, Rk.w_escs, Rk.w_givs, Rk.slQ_l, Rk.slQ_w, Rk.backT, Option.getD_some, Option.getD_none, Rk.get_w, Rk.get_l, Rk.get_sl, Rk.seq_tup, Rk.seq_rol, Rk.seq_l, Rk.seq_loc, Rk.seq_sl, Rk.lst_rol, Rk.lst_l, Rk.lst_loc, Rk.lst_sl, Rk.lst_tup, Rk.ix_int, Rk.ix_some, Rk.seqT_l, Rk.seqT_tup, Rk.seqT_rol, Rk.seqT_loc, Rk.lstT_l, Rk.lstT_rol, Rk.lstT_loc, Rk.at_0, Rk.at_1, Rk.at_2, Rk.at_3, Rk.at_4, Rk.at_5, Rk.bin_int, Rk.i_add, Rk.i_sub, Rk.i_mul, Rk.i_div, Rk.i_mod, Rk.i_pow, Rk.u_neg, Rk.c_lt, Rk.c_le, Rk.c_gt, Rk.c_ge, Rk.c_eq, Rk.c_ne, Rk.c_isN, Rk.c_isI, Rk.c_seq, Rk.c_sne, Rk.t_non, Rk.t_bl, Rk.t_int, Rk.iw_int, Rk.bt_bl, Rk.b_int, Rk.b_intb, Rk.b_abs, Rk.b_lent, Rk.b_lenr, Rk.b_lenl, Rk.b_tup, Rk.b_list, Rk.b_all, Rk.b_any, Rk.b_sum, Rk.bls_nil, Rk.bls_cons, Rk.ints_nil, Rk.ints_cons, Rk.b_min1, Rk.b_max1, Rk.b_min2, Rk.b_max2, Rk.m_loc, Rk.m_sl, Rk.p_nil, Rk.p_cons, Rk.set_s, Rk.esc_l, Rk.isI_int, Rk.isI_bool, Rk.isI_tup, List.cons_append, List.nil_append, List.append_nil, List.getElem?_cons_zero, List.getElem?_cons_succ, List.set_cons_zero, List.set_cons_succ, List.length_cons, List.length_nil, List.map_nil, List.map_cons, Option.bind_some, Option.bind_none, Option.map_some, Option.map_none, Option.isSome_some, id_eq, true_and, and_true, decide_eq_true_eq, List.replicate_succ, List.replicate_zero, Nat.reduceAdd, Nat.reduceSub, Int.reduceMul, Int.reduceAdd, Int.reduceSub, Int.reduceNeg, if_true, if_false, Bool.true_eq_false, Bool.false_eq_true, reduceIte]
    refine ⟨by decide, ?_⟩
    refine hk _ ?_; clear hk k
    refine w_stp fun k hk => ?_
    refine pairs_ok (n := n + 1) (fun w hw => ?_) (by rw [List.length_append, q2]; exact (by decide : 10 + 1 < 1000)) fun y8 y9 => ?_
    · rcases List.mem_append.mp hw with hw | hw
      · exact (q1 w hw).up (by decide)
      · rw [List.mem_singleton] at hw
        exact ⟨a, b, c, k1, k2, k3, hw⟩
    refine hk _ ?_
    clear hk
    rw [w_seq]
    try simp only [Rk.sat_ok, Rk.osat_some, Rk.osat_none, Rk.osat_ite, Rk.osat_map, Rk.osat_bind, Rk.w_var, Rk.w_con, Rk.w_bin, Rk.w_cmp, Rk.w_ix, Rk.w_bi, Rk.w_es0, Rk.w_es, Rk.w_ts0, Rk.w_ts, Rk.w_ws0, Rk.w_ws, Rk.w_W, Rk.w_T, Rk.w_esc, Rk.w_givw, Rk.w_givl, Rk.w_tup, Rk.w_lst, Rk.w_call, Rk.w_callK, Rk.w_un, Rk.w_not, Rk.w_and, Rk.w_or, Rk.w_ifx, Rk.w_sl, Rk.w_no, Rk.w_so, Rk.w_asb, Rk.w_tru, Rk.w_bnot, Rk.w_band, Rk.w_bor, Rk.w_yes, Rk.w_skip, Rk.w_expr, Rk.w_set, Rk.w_ret, Rk.w_retN, Rk.w_if, Rk.w_asg, Rk.w_par, Rk.w_gnm, Rk.w_gsb, Rk.w_mt, Rk.w_ext, Rk.w_gtp, Rk.w_gsc, Rk.w_gsn, Rk.w_escs, Rk.w_givs, Rk.slQ_l, Rk.slQ_w, Rk.backT, Option.getD_some, Option.getD_none, Rk.get_w, Rk.get_l, Rk.get_sl, Rk.seq_tup, Rk.seq_rol, Rk.seq_l, Rk.seq_loc, Rk.seq_sl, Rk.lst_rol, Rk.lst_l, Rk.lst_loc, Rk.lst_sl, Rk.lst_tup, Rk.ix_int, Rk.ix_some, Rk.seqT_l, Rk.seqT_tup, Rk.seqT_rol, Rk.seqT_loc, Rk.lstT_l, Rk.lstT_rol, Rk.lstT_loc, Rk.at_0, Rk.at_1, Rk.at_2, Rk.at_3, Rk.at_4, Rk.at_5, Rk.bin_int, Rk.i_add, Rk.i_sub, Rk.i_mul, Rk.i_div, Rk.i_mod, Rk.i_pow, Rk.u_neg, Rk.c_lt, Rk.c_le, Rk.c_gt, Rk.c_ge, Rk.c_eq, Rk.c_ne, Rk.c_isN, Rk.c_isI, Rk.c_seq, Rk.c_sne, Rk.t_non, Rk.t_bl, Rk.t_int, Rk.iw_int, Rk.bt_bl, Rk.b_int, Rk.b_intb, Rk.b_abs, Rk.b_lent, Rk.b_lenr, Rk.b_lenl, Rk.b_tup, Rk.b_list, Rk.b_all, Rk.b_any, Rk.b_sum, Rk.bls_nil, Rk.bls_cons, Rk.ints_nil, Rk.ints_cons, Rk.b_min1, Rk.b_max1, Rk.b_min2, Rk.b_max2, Rk.m_loc, Rk.m_sl, Rk.p_nil, Rk.p_cons, Rk.set_s, Rk.esc_l, Rk.isI_int, Rk.isI_bool, Rk.isI_tup, List.cons_append, List.nil_append, List.append_nil, List.getElem?_cons_zero, List.getElem?_cons_succ, List.set_cons_zero, List.set_cons_succ, List.length_cons, List.length_nil, List.map_nil, List.map_cons, Option.bind_some, Option.bind_none, Option.map_some, Option.map_none, Option.isSome_some, id_eq, true_and, and_true, decide_eq_true_eq, List.replicate_succ, List.replicate_zero, Nat.reduceAdd, Nat.reduceSub, Int.reduceMul, Int.reduceAdd, Int.reduceSub, Int.reduceNeg, if_true, if_false, Bool.true_eq_false, Bool.false_eq_true, reduceIte]
    refine c_touches ?_
    rw [tou_self]
    try simp only [Rk.sat_ok, Rk.osat_some, Rk.osat_none, Rk.osat_ite, Rk.osat_map, Rk.osat_bind, Rk.w_var, Rk.w_con, Rk.w_bin, Rk.w_cmp, Rk.w_ix, Rk.w_bi, Rk.w_es0, Rk.w_es, Rk.w_ts0, Rk.w_ts, Rk.w_ws0, Rk.w_ws, Rk.w_W, Rk.w_T, Rk.w_esc, Rk.w_givw, Rk.w_givl, Rk.w_tup, Rk.w_lst, Rk.w_call, Rk.w_callK, Rk.w_un, Rk.w_not, Rk.w_and, Rk.w_or, Rk.w_ifx, Rk.w_sl, Rk.w_no, Rk.w_so, Rk.w_asb, Rk.w_tru, Rk.w_bnot, Rk.w_band, Rk.w_bor, Rk.w_yes, Rk.w_skip, Rk.w_expr, Rk.w_set, Rk.w_ret, Rk.w_retN, Rk.w_if, Rk.w_asg, Rk.w_par, Rk.w_gnm, Rk.w_gsb, Rk.w_mt, Rk.w_ext, Rk.w_gtp, Rk.w_gsc, Rk.w_gsn, Rk.w_escs, Rk.w_givs, Rk.slQ_l, Rk.slQ_w, Rk.backT, Option.getD_some, Option.getD_none, Rk.get_w, Rk.get_l, Rk.get_sl, Rk.seq_tup, Rk.seq_rol, Rk.seq_l, Rk.seq_loc, Rk.seq_sl, Rk.lst_rol, Rk.lst_l, Rk.lst_loc, Rk.lst_sl, Rk.lst_tup, Rk.ix_int, Rk.ix_some, Rk.seqT_l, Rk.seqT_tup, Rk.seqT_rol, Rk.seqT_loc, Rk.lstT_l, Rk.lstT_rol, Rk.lstT_loc, Rk.at_0, Rk.at_1, Rk.at_2, Rk.at_3, Rk.at_4, Rk.at_5, Rk.bin_int, Rk.i_add, Rk.i_sub, Rk.i_mul, Rk.i_div, Rk.i_mod, Rk.i_pow, Rk.u_neg, Rk.c_lt, Rk.c_le, Rk.c_gt, Rk.c_ge, Rk.c_eq, Rk.c_ne, Rk.c_isN, Rk.c_isI, Rk.c_seq, Rk.c_sne, Rk.t_non, Rk.t_bl, Rk.t_int, Rk.iw_int, Rk.bt_bl, Rk.b_int, Rk.b_intb, Rk.b_abs, Rk.b_lent, Rk.b_lenr, Rk.b_lenl, Rk.b_tup, Rk.b_list, Rk.b_all, Rk.b_any, Rk.b_sum, Rk.bls_nil, Rk.bls_cons, Rk.ints_nil, Rk.ints_cons, Rk.b_min1, Rk.b_max1, Rk.b_min2, Rk.b_max2, Rk.m_loc, Rk.m_sl, Rk.p_nil, Rk.p_cons, Rk.set_s, Rk.esc_l, Rk.isI_int, Rk.isI_bool, Rk.isI_tup, List.cons_append, List.nil_append, List.append_nil, List.getElem?_cons_zero, List.getElem?_cons_succ, List.set_cons_zero, List.set_cons_succ, List.length_cons, List.length_nil, List.map_nil, List.map_cons, Option.bind_some, Option.bind_none, Option.map_some, Option.map_none, Option.isSome_some, id_eq, true_and, and_true, decide_eq_true_eq, List.replicate_succ, List.replicate_zero, Nat.reduceAdd, Nat.reduceSub, Int.reduceMul, Int.reduceAdd, Int.reduceSub, Int.reduceNeg, if_true, if_false, Bool.true_eq_false, Bool.false_eq_true, reduceIte, is_false]
    exact h _
theorem law_ok (ns : List Int) (_ : ns.length ≤ 63) : ∃ M', (orc tab gt 12).fn 0 [.w (.rol (ns.map W.int))] [] = .ok (.w (.bl true)) M' := by
  have e : ob 12 = orc tab gt 12 := by unfold ob; rfl
  rw [← e]
  have h : ((ob 12).fn 0 [.w (.rol (ns.map W.int))] []).sat fun t _ => t = .w (.bl true) := by
    rw [r0]
    refine law_gen (fc := (ob 11).fn 1) (fp := (ob 11).fn 2) (fr := (ob 11).fn 3) (L := 2) (by decide) (fun M R hR => ?_) (fun p M R h1 h2 hR => ?_) (fun a b M R h1 h2 h3 hR => ?_)
    · rw [r1]
      exact cells_ok (by decide) (by decide) hR
    · rw [r2]
      exact pot_ok (by decide) (by decide) (by decide) (by decide) (by decide) (by decide) h1 h2 hR
    · exact c_law_right (n := 5) h1 h2 h3 hR
  obtain ⟨t, M, e, h⟩ := Res.sat_iff.mp h
  subst h
  exact ⟨M, e⟩
end
end Law

open PySem PySem.W PyProof.Rows Rk in
set_option maxRecDepth 100000 in
set_option maxHeartbeats 0 in
theorem PySem.Challenge.cw_allitreaches_k06_whole_cells_of_points_holds : PySem.Challenge.rw_allitreaches_k06_whole_cells_of_points.Holds := by
  w_on; o_law; k_head; (case hw => w_witness2)
  k_fill
  refine Rk.walk_G (l := PySem.Challenge.rw_allitreaches_k06_whole_cells_of_points) (n := 63) (k := 12) (x := "script") (tab := Law.tab) (G := Law.gt) (i := 0) (D := Law.f0) rfl (by decide) rfl ⟨rfl, by decide, by decide⟩ (fun w h Y => PySem.W.kIn_of Y) rfl rfl rfl rfl rfl ?F Law.law_ok
  case F =>
    intro w mg h KX GN
    refine' Law.mk KX GN ?a0 ?l0 ?c0 ?k0 ?a1 ?l1 ?c1 ?k1 ?a2 ?l2 ?c2 ?k2 ?a3 ?l3 ?c3 ?k3 ?a4 ?l4 ?c4 ?k4 ?a5 ?l5 ?c5 ?k5 ?a6 ?l6 ?c6 ?k6 ?a7 ?l7 ?c7 ?k7 ?a8 ?l8 ?c8 ?k8 ?a9 ?l9 ?c9 ?k9 ?a10 ?l10 ?c10 ?k10 ?a11 ?l11 ?c11 ?k11 ?a12 ?l12 ?c12 ?k12 ?a13 ?l13 ?c13 ?k13 ?a14 ?l14 ?c14 ?k14 ?a15 ?l15 ?c15 ?k15 ?a16 ?l16 ?c16 ?k16 ?a17 ?l17 ?c17 ?k17 ?a18 ?l18 ?c18 ?k18 ?a19 ?l19 ?c19 ?k19 ?a20 ?l20 ?c20 ?k20 ?a21 ?l21 ?c21 ?k21 ?a22 ?l22 ?c22 ?k22 ?a23 ?l23 ?c23 ?k23 ?a24 ?l24 ?c24 ?k24 ?a25 ?l25 ?c25 ?k25 ?a26 ?l26 ?c26 ?k26 ?a27 ?l27 ?c27 ?k27 ?a28 ?l28 ?c28 ?k28 ?a29 ?l29 ?c29 ?k29 ?a30 ?l30 ?c30 ?k30 ?a31 ?l31 ?c31 ?k31 ?a32 ?l32 ?c32 ?k32 ?zabs ?zall ?zbool ?zint ?zisinstance ?zlen ?zlist ?zmax ?zmin ?zrange ?zrepr ?zsum ?ztuple ?zzip ?nAXES ?nPAIR_cells ?nPAIR_numbers ?nTRIPLE
    (case a0 => k_is)
    (case l0 => k_is)
    (case c0 => k_is)
    (case k0 => k_is)
    (case a1 => k_is)
    (case l1 => k_is)
    (case c1 => k_is)
    (case k1 => k_is)
    (case a2 => k_is)
    (case l2 => k_is)
    (case c2 => k_is)
    (case k2 => k_is)
    (case a3 => k_is)
    (case l3 => k_is)
    (case c3 => k_is)
    (case k3 => k_is)
    (case a4 => k_is)
    (case l4 => k_is)
    (case c4 => k_is)
    (case k4 => k_is)
    (case a5 => k_is)
    (case l5 => k_is)
    (case c5 => k_is)
    (case k5 => k_is)
    (case a6 => k_is)
    (case l6 => k_is)
    (case c6 => k_is)
    (case k6 => k_is)
    (case a7 => k_is)
    (case l7 => k_is)
    (case c7 => k_is)
    (case k7 => k_is)
    (case a8 => k_is)
    (case l8 => k_is)
    (case c8 => k_is)
    (case k8 => k_is)
    (case a9 => k_is)
    (case l9 => k_is)
    (case c9 => k_is)
    (case k9 => k_is)
    (case a10 => k_is)
    (case l10 => k_is)
    (case c10 => k_is)
    (case k10 => k_is)
    (case a11 => k_is)
    (case l11 => k_is)
    (case c11 => k_is)
    (case k11 => k_is)
    (case a12 => k_is)
    (case l12 => k_is)
    (case c12 => k_is)
    (case k12 => k_is)
    (case a13 => k_is)
    (case l13 => k_is)
    (case c13 => k_is)
    (case k13 => k_is)
    (case a14 => k_is)
    (case l14 => k_is)
    (case c14 => k_is)
    (case k14 => k_is)
    (case a15 => k_is)
    (case l15 => k_is)
    (case c15 => k_is)
    (case k15 => k_is)
    (case a16 => k_is)
    (case l16 => k_is)
    (case c16 => k_is)
    (case k16 => k_is)
    (case a17 => k_is)
    (case l17 => k_is)
    (case c17 => k_is)
    (case k17 => k_is)
    (case a18 => k_is)
    (case l18 => k_is)
    (case c18 => k_is)
    (case k18 => k_is)
    (case a19 => k_is)
    (case l19 => k_is)
    (case c19 => k_is)
    (case k19 => k_is)
    (case a20 => k_is)
    (case l20 => k_is)
    (case c20 => k_is)
    (case k20 => k_is)
    (case a21 => k_is)
    (case l21 => k_is)
    (case c21 => k_is)
    (case k21 => k_is)
    (case a22 => k_is)
    (case l22 => k_is)
    (case c22 => k_is)
    (case k22 => k_is)
    (case a23 => k_is)
    (case l23 => k_is)
    (case c23 => k_is)
    (case k23 => k_is)
    (case a24 => k_is)
    (case l24 => k_is)
    (case c24 => k_is)
    (case k24 => k_is)
    (case a25 => k_is)
    (case l25 => k_is)
    (case c25 => k_is)
    (case k25 => k_is)
    (case a26 => k_is)
    (case l26 => k_is)
    (case c26 => k_is)
    (case k26 => k_is)
    (case a27 => k_is)
    (case l27 => k_is)
    (case c27 => k_is)
    (case k27 => k_is)
    (case a28 => k_is)
    (case l28 => k_is)
    (case c28 => k_is)
    (case k28 => k_is)
    (case a29 => k_is)
    (case l29 => k_is)
    (case c29 => k_is)
    (case k29 => k_is)
    (case a30 => k_is)
    (case l30 => k_is)
    (case c30 => k_is)
    (case k30 => k_is)
    (case a31 => k_is)
    (case l31 => k_is)
    (case c31 => k_is)
    (case k31 => k_is)
    (case a32 => k_is)
    (case l32 => k_is)
    (case c32 => k_is)
    (case k32 => k_is)
    (case zabs => k_is)
    (case zall => k_is)
    (case zbool => k_is)
    (case zint => k_is)
    (case zisinstance => k_is)
    (case zlen => k_is)
    (case zlist => k_is)
    (case zmax => k_is)
    (case zmin => k_is)
    (case zrange => k_is)
    (case zrepr => k_is)
    (case zsum => k_is)
    (case ztuple => k_is)
    (case zzip => k_is)
    (case nAXES => k_is)
    (case nPAIR_cells => k_is)
    (case nPAIR_numbers => k_is)
    (case nTRIPLE => k_is)
