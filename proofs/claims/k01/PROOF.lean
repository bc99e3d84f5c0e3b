import PyProof.Rows.All
import Wide.All
import OpenK.AllK
import Wide.FinOn
import HandS.ForMost
import HandS.ForExc
import HandS.Deep
import HandS.TupAny
import HandS.TupMul
import HandS.Style
import HandS.Flow
import HandS.Wide
import HandS.Defaults
import HandS.IsInst
import HandS.CallLocal
import HandS.CallSlots
import HandS.Rev
import HandS.RevRange
import HandS.Zip
import HandS.Conv
import HandS.SortInts
import HandS.ExcIs
import HandS.ExcSuper
import HandS.Nested
import HandS.Lambda
import HandS.HeadHook1
import HandS.ExcField
import HandS.TryOnly
import HandS.RaiseMore
import HandS.HeadWalk
import KE.KExcSuper
import KE.KSuper
import HandS.ExcInit
import HandS.Zip0
import PyProof.EnumMake
import PyProof.EnumIter
import PyProof.WalksMore
import PyProof.Rows.SumAny
import HandS.HotCalls
import HandS.Comp
import HandS.Text
import HandS.WideMore
import HandS.HeadHook4
import KE.KStateDown
import Lean
import HandS.Head0
import HandS.Head1
import HandS.Head2
import HandS.HeadEnd
import KE.BitLaws
import PySem.Challenge.RW_formsheld_k01_whole_octets_and_beginning
set_option Elab.async false
set_option linter.all false
set_option maxRecDepth 100000
set_option autoImplicit false
section
set_option maxHeartbeats 2000000
/-! The data of the evaluator, and how they lie in the abstract heap. -/
namespace PV
open PySem PySem.Spec L2
open PyProof.Rows hiding St

/-- data: what an expression is worth -/
inductive D where
  | non | bl (b : Bool) | int (i : Int) | str (x : Str)
  | tup (xs : List D) | lst (xs : List D) | scr (xs : List D)
  | dK (ks : List Key) (xs : List D) | dT (ks : List (List Key)) (xs : List D)
  | fn (x : Str) | ty (n : String)
  | exc (cls f : Str) (x : D)

mutual
def D.py : D → Option PyData
  | .non => some .none
  | .bl b => some (.bool b)
  | .int i => some (.int i)
  | .str x => some (.str x)
  | .tup xs => (D.pys xs).map .tuple
  | .lst xs => (D.pys xs).map .list
  | .scr _ => none
  | .dK _ _ => none
  | .dT _ _ => none
  | .fn _ => none
  | .ty _ => none
  | .exc _ _ _ => none
def D.pys : List D → Option (List PyData)
  | [] => some []
  | x :: xs => match D.py x, D.pys xs with
    | some p, some ps => some (p :: ps)
    | _, _ => none
end

/-- the object at a is o -/
def ObjO (a : Addr) (o : Obj) : HO := .ext fun h => h.get? a = some o
/-- which addresses hold things that stay as they are -/
abbrev Fz := Addr → Prop
section
variable (K : PySem.W.Frag) (mg : Str → Option Value)

/-- a tuple, a list that stays -/
def TupF (F : Fz) (H : Hp) (a : Addr) (xs : List V) : Prop := SqT K H a xs ∧ (F a ∨ ∀ H', SqT K H' a xs)
def LstF (F : Fz) (H : Hp) (a : Addr) (xs : List V) : Prop := F a ∧ H a = some (.lst xs)
def ScrF (F : Fz) (H : Hp) (a : Addr) (xs : List V) : Prop := SqL K H a xs ∧ (F a ∨ ∀ H', SqL K H' a xs)

/-- a dict that stays -/
def DkF (F : Fz) (H : Hp) (a : Addr) (kvs : List (Key × V)) : Prop := F a ∧ Rd H a (.dK kvs)
def DtF (F : Fz) (H : Hp) (a : Addr) (kvs : List (List Key × V)) : Prop := F a ∧ H a = some (.dT kvs)
/-- a caught error: its object -/
def ExcObj (F : Fz) (H : Hp) (a : Addr) (cls : Str) (dd : Option Addr) : Prop := F a ∧ ∃ C oe vs, mg cls = some (.ref C) ∧ H a = some (ObjO a oe) ∧ Zc (.ref C) dd oe ∧ oe.data = .fields vs
mutual
inductive Rep (F : Fz) (H : Hp) : V → D → Prop
  | non : Rep F H .non .non
  | bl (b : Bool) : Rep F H (.bl b) (.bl b)
  | int (i : Int) : Rep F H (.int i) (.int i)
  | str (x : Str) : Rep F H (.str x) (.str x)
  | tup {a : Addr} {xs : List V} {ds : List D} : TupF K F H a xs → Reps F H xs ds → Rep F H (.ref a) (.tup ds)
  | lst {a : Addr} {xs : List V} {ds : List D} : LstF F H a xs → Reps F H xs ds → Rep F H (.ref a) (.lst ds)
  | scr {a : Addr} {xs : List V} {ds : List D} : ScrF K F H a xs → Reps F H xs ds → Rep F H (.ref a) (.scr ds)
  | dK {a : Addr} {kvs : List (Key × V)} {ds : List D} : DkF F H a kvs → Reps F H (kvs.map (·.2)) ds → Rep F H (.ref a) (.dK (kvs.map (·.1)) ds)
  | dT {a : Addr} {kvs : List (List Key × V)} {ds : List D} : DtF F H a kvs → Reps F H (kvs.map (·.2)) ds → Rep F H (.ref a) (.dT (kvs.map (·.1)) ds)
  | fn {a : Addr} {x : Str} : mg x = some (.ref a) → Rep F H (.ref a) (.fn x)
  | ty (n : String) : Rep F H (.ty n) (.ty n)
  | exc0 {a : Addr} {cls : Str} : ExcObj mg F H a cls none → Rep F H (.ref a) (.exc cls ⟨#[]⟩ .non)
  | exc1 {a b : Addr} {cls f : Str} {v : V} {x : D} : ExcObj mg F H a cls (some b) → F b → H b = some (.xd [(f, v)]) → Rep F H v x → Rep F H (.ref a) (.exc cls f x)
inductive Reps (F : Fz) (H : Hp) : List V → List D → Prop
  | nil : Reps F H [] []
  | cons {v : V} {vs : List V} {d : D} {ds : List D} : Rep F H v d → Reps F H vs ds → Reps F H (v :: vs) (d :: ds)
end
end

/-- something stands there that is no table -/
def NT (H : Hp) (a : Addr) : Prop := ∃ o, H a = some o ∧ ∀ ps, o ≠ .tbl ps
theorem NT.some {H : Hp} {a : Addr} (h : NT H a) : (H a).isSome = true := by
  obtain ⟨o, e, _⟩ := h
  rw [e] <;> rfl
/-- the heap grew: what stood stands, what is told to stay besides is new -/
structure Grow (F : Fz) (H : Hp) (F' : Fz) (H' : Hp) : Prop where
  ext : ∀ a o, H a = some o → H' a = some o
  fz : ∀ a, F a → F' a
  new : ∀ a, F' a → F a ∨ H a = none
theorem Grow.refl (F : Fz) (H : Hp) : Grow F H F H := ⟨fun _ _ h => h, fun _ h => h, fun _ h => .inl h⟩
theorem Grow.trans {F F1 F2 : Fz} {H H1 H2 : Hp} (a : Grow F H F1 H1) (b : Grow F1 H1 F2 H2) : Grow F H F2 H2 := by
  refine ⟨fun c o h => b.ext c o (a.ext c o h), fun c h => b.fz c (a.fz c h), fun c h => ?_⟩
  rcases b.new c h with h1 | h1
  · exact a.new c h1
  · right
    cases q : H c with
    | none => rfl
    | some o => rw [a.ext c o q] at h1; cases h1

/-- what stays stays -/
structure Stp (F : Fz) (H : Hp) (F' : Fz) (H' : Hp) : Prop where
  fz : ∀ a, F a → F' a
  at_ : ∀ a o, F a → H a = some o → (∀ ps, o ≠ .tbl ps) → H' a = some o
theorem Stp.refl (F : Fz) (H : Hp) : Stp F H F H := ⟨fun _ h => h, fun _ _ _ e _ => e⟩
theorem Stp.trans {F F1 F2 : Fz} {H H1 H2 : Hp} (a : Stp F H F1 H1) (b : Stp F1 H1 F2 H2) : Stp F H F2 H2 :=
  ⟨fun c h => b.fz c (a.fz c h), fun c o h e n => b.at_ c o (a.fz c h) (a.at_ c o h e n) n⟩

section
variable {K : PySem.W.Frag} {mg : Str → Option Value} {F F' : Fz} {H H' : Hp}

theorem sqT_at {a : Addr} {xs : List V} (h : SqT K H a xs) (e : ∀ o, H a = some o → (∀ ps, o ≠ .tbl ps) → H' a = some o) : SqT K H' a xs := by
  rcases h with (h | ⟨o, h⟩) | h
  · exact .inl (.inl (e _ h (fun ps z => nomatch z)))
  · exact .inl (.inr ⟨o, e _ h (fun ps z => nomatch z)⟩)
  · exact .inr h
theorem sqL_at {a : Addr} {xs : List V} (h : SqL K H a xs) (e : ∀ o, H a = some o → (∀ ps, o ≠ .tbl ps) → H' a = some o) : SqL K H' a xs := by
  rcases h with (h | ⟨o, h⟩) | h
  · exact .inl (.inl (e _ h (fun ps z => nomatch z)))
  · exact .inl (.inr ⟨o, e _ h (fun ps z => nomatch z)⟩)
  · exact .inr h
theorem TupF.step {a : Addr} {xs : List V} (h : TupF K F H a xs) (s : Stp F H F' H') : TupF K F' H' a xs := by
  rcases h with ⟨h1, h2 | h2⟩
  · exact ⟨sqT_at h1 fun o e n => s.at_ a o h2 e n, .inl (s.fz a h2)⟩
  · exact ⟨h2 H', .inr h2⟩
theorem LstF.step {a : Addr} {xs : List V} (h : LstF F H a xs) (s : Stp F H F' H') : LstF F' H' a xs := ⟨s.fz a h.1, s.at_ a _ h.1 h.2 (fun ps z => nomatch z)⟩
theorem ScrF.step {a : Addr} {xs : List V} (h : ScrF K F H a xs) (s : Stp F H F' H') : ScrF K F' H' a xs := by
  rcases h with ⟨h1, h2 | h2⟩
  · exact ⟨sqL_at h1 fun o e n => s.at_ a o h2 e n, .inl (s.fz a h2)⟩
  · exact ⟨h2 H', .inr h2⟩
theorem rd_at {a : Addr} {u : HO} (hu : ∀ v, v = u → ∀ ps, v ≠ .tbl ps) (h : Rd H a u) (e : ∀ o, H a = some o → (∀ ps, o ≠ .tbl ps) → H' a = some o) : Rd H' a u := by
  rcases h with h | ⟨o, h⟩
  · exact .inl (e _ h (hu u rfl))
  · exact .inr ⟨o, e _ h (fun ps z => nomatch z)⟩
theorem ExcObj.step {a : Addr} {cls : Str} {dd : Option Addr} (h : ExcObj mg F H a cls dd) (s : Stp F H F' H') : ExcObj mg F' H' a cls dd := by
  obtain ⟨h1, C, oe, vs, h2, h3, h4⟩ := h
  exact ⟨s.fz a h1, C, oe, vs, h2, s.at_ a _ h1 h3 (fun ps z => nomatch z), h4⟩
mutual
theorem Rep.step (s : Stp F H F' H') : ∀ {d : D} {v : V}, Rep K mg F H v d → Rep K mg F' H' v d
  | .non, _, h => by cases h; exact .non
  | .bl b, _, h => by cases h; exact .bl b
  | .int i, _, h => by cases h; exact .int i
  | .str x, _, h => by cases h; exact .str x
  | .tup ds, _, h => by
    cases h with
    | tup h1 h2 => exact .tup (h1.step s) (Reps.step s h2)
  | .lst ds, _, h => by
    cases h with
    | lst h1 h2 => exact .lst (h1.step s) (Reps.step s h2)
  | .scr ds, _, h => by
    cases h with
    | scr h1 h2 => exact .scr (h1.step s) (Reps.step s h2)
  | .dK ks ds, _, h => by
    cases h with
    | dK h1 h2 => exact .dK ⟨s.fz _ h1.1, rd_at (fun v hv ps z => by subst hv; cases z) h1.2 fun o e n => s.at_ _ o h1.1 e n⟩ (Reps.step s h2)
  | .dT ks ds, _, h => by
    cases h with
    | dT h1 h2 => exact .dT ⟨s.fz _ h1.1, s.at_ _ _ h1.1 h1.2 (fun ps z => nomatch z)⟩ (Reps.step s h2)
  | .fn x, _, h => by
    cases h with
    | fn h1 => exact .fn h1
  | .ty n, _, h => by cases h; exact .ty n
  | .exc cls f x, _, h => by
    cases h with
    | exc0 h1 => exact .exc0 (h1.step s)
    | exc1 h1 h2 h3 h4 => exact .exc1 (h1.step s) (s.fz _ h2) (s.at_ _ _ h2 h3 (fun ps z => nomatch z)) (Rep.step s h4)
theorem Reps.step (s : Stp F H F' H') : ∀ {ds : List D} {vs : List V}, Reps K mg F H vs ds → Reps K mg F' H' vs ds
  | [], _, h => by cases h; exact .nil
  | d :: ds, _, h => by
    cases h with
    | cons h1 h2 => exact .cons (Rep.step s h1) (Reps.step s h2)
end
theorem Reps.length : ∀ {ds : List D} {vs : List V}, Reps K mg F H vs ds → vs.length = ds.length
  | [], _, h => by cases h; rfl
  | d :: ds, _, h => by
    cases h with
    | cons h1 h2 => simp [Reps.length h2]
theorem Reps.append : ∀ {ds es : List D} {vs ws : List V}, Reps K mg F H vs ds → Reps K mg F H ws es → Reps K mg F H (vs ++ ws) (ds ++ es)
  | [], _, _, _, h, g => by cases h; exact g
  | d :: ds, _, _, _, h, g => by
    cases h with
    | cons h1 h2 => exact .cons h1 (Reps.append h2 g)
theorem Reps.get : ∀ {ds : List D} {vs : List V} {i : Nat} {d : D}, Reps K mg F H vs ds → ds[i]? = some d → ∃ v, vs[i]? = some v ∧ Rep K mg F H v d
  | [], _, _, _, _, e => by simp at e
  | d :: ds, _, 0, _, h, e => by
    cases h with
    | cons h1 h2 => simp at e; subst e; exact ⟨_, rfl, h1⟩
  | d :: ds, _, i + 1, _, h, e => by
    cases h with
    | cons h1 h2 =>
      obtain ⟨v, q, r⟩ := Reps.get (i := i) h2 (by simpa using e)
      exact ⟨v, by simpa using q, r⟩
theorem Reps.get' : ∀ {ds : List D} {vs : List V} {i : Nat} {v : V}, Reps K mg F H vs ds → vs[i]? = some v → ∃ d, ds[i]? = some d ∧ Rep K mg F H v d
  | [], _, _, _, h, e => by cases h; simp at e
  | d :: ds, _, 0, _, h, e => by
    cases h with
    | cons h1 h2 => simp at e; subst e; exact ⟨_, rfl, h1⟩
  | d :: ds, _, i + 1, _, h, e => by
    cases h with
    | cons h1 h2 =>
      obtain ⟨v, q, r⟩ := Reps.get' (i := i) h2 (by simpa using e)
      exact ⟨v, by simpa using q, r⟩
theorem Reps.take : ∀ {ds : List D} {vs : List V} (n : Nat), Reps K mg F H vs ds → Reps K mg F H (vs.take n) (ds.take n)
  | _, _, 0, _ => .nil
  | [], _, n + 1, h => by cases h; exact .nil
  | d :: ds, _, n + 1, h => by
    cases h with
    | cons h1 h2 => exact .cons h1 (Reps.take n h2)
theorem Reps.drop : ∀ {ds : List D} {vs : List V} (n : Nat), Reps K mg F H vs ds → Reps K mg F H (vs.drop n) (ds.drop n)
  | _, _, 0, h => h
  | [], _, n + 1, h => by cases h; exact .nil
  | d :: ds, _, n + 1, h => by
    cases h with
    | cons h1 h2 => exact Reps.drop n h2
theorem Reps.set {x : V} {y : D} (r : Rep K mg F H x y) : ∀ {ds : List D} {vs : List V} (i : Nat), Reps K mg F H vs ds → Reps K mg F H (vs.set i x) (ds.set i y)
  | [], _, _, h => by cases h; exact .nil
  | d :: ds, _, 0, h => by
    cases h with
    | cons h1 h2 => exact .cons r h2
  | d :: ds, _, i + 1, h => by
    cases h with
    | cons h1 h2 => exact .cons h1 (Reps.set r i h2)
theorem Reps.reverse : ∀ {ds : List D} {vs : List V}, Reps K mg F H vs ds → Reps K mg F H vs.reverse ds.reverse
  | [], _, h => by cases h; exact .nil
  | d :: ds, _, h => by
    cases h with
    | cons h1 h2 =>
      rw [List.reverse_cons, List.reverse_cons]
      exact Reps.append (Reps.reverse h2) (.cons h1 .nil)
mutual
theorem Rep.dp : ∀ {d : D} {v : V} {p : PyData}, Rep K mg F H v d → d.py = some p → Dp K H v p
  | .non, _, _, h, e => by cases h; simp only [D.py, Option.some.injEq] at e; subst e; exact .non
  | .bl b, _, _, h, e => by cases h; simp only [D.py, Option.some.injEq] at e; subst e; exact .bl b
  | .int i, _, _, h, e => by cases h; simp only [D.py, Option.some.injEq] at e; subst e; exact .int i
  | .str x, _, _, h, e => by cases h; simp only [D.py, Option.some.injEq] at e; subst e; exact .str x
  | .tup ds, _, _, h, e => by
    cases h with
    | tup h1 h2 =>
      simp only [D.py, Option.map_eq_some_iff] at e
      obtain ⟨ps, e1, rfl⟩ := e
      exact .tup h1.1 (Reps.dp h2 e1)
  | .lst ds, _, _, h, e => by
    cases h with
    | lst h1 h2 =>
      simp only [D.py, Option.map_eq_some_iff] at e
      obtain ⟨ps, e1, rfl⟩ := e
      exact .lst (SqL.of h1.2) (Reps.dp h2 e1)
  | .scr _, _, _, _, e => by simp [D.py] at e
  | .dK _ _, _, _, _, e => by simp [D.py] at e
  | .dT _ _, _, _, _, e => by simp [D.py] at e
  | .fn x, _, _, _, e => by simp [D.py] at e
  | .ty x, _, _, _, e => by simp [D.py] at e
  | .exc _ _ _, _, _, _, e => by simp [D.py] at e
theorem Reps.dp : ∀ {ds : List D} {vs : List V} {ps : List PyData}, Reps K mg F H vs ds → D.pys ds = some ps → DpAll K H vs ps
  | [], _, _, h, e => by cases h; simp only [D.pys, Option.some.injEq] at e; subst e; exact .nil
  | d :: ds, _, _, h, e => by
    cases h with
    | cons h1 h2 =>
      unfold D.pys at e
      split at e
      · rename_i p ps e1 e2
        cases e
        exact .cons (Rep.dp h1 e1) (Reps.dp h2 e2)
      · cases e
end
theorem Grow.step {P : Prop} (g : Grow F H F' H') (live : P) : Stp F H F' H' := by
  exact ⟨g.fz, fun a o _ e _ => g.ext a o e⟩
end
end PV
end

section
set_option maxHeartbeats 2000000
/-! The evaluator: Python's syntax over data. -/
namespace PV
open PySem PySem.Spec L2
open PyProof.Rows hiding St

/-- an exception: its class, its one field -/
structure EV where
  cls : Str
  pay : Option (Str × D)
/-- what a name holds: nothing known; data; a thing of its own that no other has; one lent by the caller (or walked); one lent that is to stay; a caught exception, or a lambda -/
inductive Sl where
  | e | d (x : D) | o (x : D) | l (x : D) | f (x : D) | x (e : EV)
abbrev Evm := List Sl
inductive Res (α : Type) where
  | ok (a : α) (ρ : Evm) | exc (e : EV) (ρ : Evm) | stk
abbrev M (α : Type) := Evm → Res α
def bnd {α β : Type} (m : M α) (f : α → M β) : M β := fun ρ => match m ρ with
  | .ok a ρ' => f a ρ'
  | .exc e ρ' => .exc e ρ'
  | .stk => .stk
instance : Monad M where
  pure a := fun ρ => .ok a ρ
  bind := bnd
def stk {α : Type} : M α := fun _ => .stk
def lft {α : Type} (x : Option α) : M α := match x with
  | some a => pure a
  | none => stk
def req (b : Bool) : M Unit := match b with
  | true => pure ()
  | false => stk

/-- a def of the program -/
structure FI where
  name : Str
  ps : List Str
  N : List Str
  io : List Bool
  body : List Stmt
  scope : Scope
  /-- it makes lambdas -/
  lm : Bool
  params : Arguments
/-- an own exception class: its name, its one field -/
structure XI where
  name : Str
  fld : Option Str
  /-- the classes of which it is one, as isinstance tells-/
structure Gm where
  funs : List FI
  cons : List (Str × D)
  excs : List XI
  subs : List ((Str × Str) × Bool)
  free : List Str
def Gm.fn? (g : Gm) (x : Str) : Option FI := g.funs.find? fun f => decide (f.name = x)
def Gm.fld? (g : Gm) (x : Str) : Option Str := match g.excs.find? fun f => decide (f.name = x) with
  | some e => e.fld
  | none => none
def Gm.exc? (g : Gm) (x : Str) : Option XI := g.excs.find? fun f => decide (f.name = x)
/-- a module's name as data -/
def tyTab : List (Str × String) := [("int", "int"), ("bool", "bool"), ("tuple", "tuple"), ("list", "list"), ("str", "str"), ("dict", "dict")]
def Gm.glob (g : Gm) (x : Str) : Option D := match g.cons.lookup x with
  | some d => some d
  | none => match g.fn? x with
    | some _ => some (.fn x)
    | none => match g.free.contains x with
      | true => (tyTab.lookup x).map .ty
      | false => none
/-- whether an error of the one class is caught by the other's name -/
def Gm.sub (g : Gm) (x y : Str) : Option Bool := match g.subs.find? fun p => decide (p.1.1 = x) && decide (p.1.2 = y) with
  | some p => some p.2
  | none => none

inductive CRes where
  | ok (d : D) (u : Bool) (fin : List Sl) | exc (e : EV) (fin : List Sl) | stk
/-- a def's call: its name, the arguments (lent: true), what becomes of the lent ones, in order -/
abbrev CallO := Str → List (D × Bool) → CRes
structure C where
  g : Gm
  call : CallO
  N : List Str
  sc : Scope
  hot : Bool
  fq : Str → Bool
  tf : Nat
  /-- lambdas may be made here -/
  lm : Bool
  /-- the slot of a lambda that was handed over, what its call gives -/
  act : Option (Nat × CRes)
  /-- in an except suite: the slot of the exception -/
  exn : Option (Nat × EV)

def C.slot (c : C) (x : Str) : Option Nat := match c.N.findIdx? fun y => decide (y = x) with
  | some i => some i
  | none => none
def okName (x : Str) : Bool := !(x == ("__debug__" : Str)) && !(x == ("__classdict__" : Str))
inductive Nm where
  | slot (i : Nat) | glob | bad
def C.nm (c : C) (x : Str) : Nm := match okName x with
  | false => .bad
  | true => match c.sc.names.lookup x with
    | some .globalImplicit => .glob
    | some .local => (match c.slot x with | some i => .slot i | none => .bad)
    | some .cell => (match c.slot x with | some i => .slot i | none => .bad)
    | some .free => (match c.slot x with | some i => .slot i | none => .bad)
    | _ => .bad
/-- a name that may be stored: its slot -/
def C.tgt (c : C) (x : Str) : Option Nat := match c.sc.names.lookup x with
  | some .local => c.slot x
  | some .cell => (match c.fq x with
    | true => c.slot x
    | false => none)
  | _ => none

/-- reading a slot hands its thing out: it stays as it is from then on -/
def rd (i : Nat) : M D := fun ρ => match ρ[i]? with
  | some (.d x) => .ok x ρ
  | some (.f x) => .ok x ρ
  | some (.o x) => .ok x (ρ.set i (.d x))
  | some (.l x) => .ok x (ρ.set i (.f x))
  | _ => .stk
/-- looking at a slot -/
def look (ρ : Evm) (i : Nat) : Option D := match ρ[i]? with
  | some (.d x) => some x
  | some (.f x) => some x
  | some (.o x) => some x
  | some (.l x) => some x
  | _ => none
/-- storing -/
def st (i : Nat) (x : D) (u : Bool) : M Unit := fun ρ => match ρ[i]? with
  | some .e => .ok () (ρ.set i (if u then .o x else .d x))
  | some (.d _) => .ok () (ρ.set i (if u then .o x else .d x))
  | some (.o _) => .ok () (ρ.set i (if u then .o x else .d x))
  | _ => .stk
/-- its own thing is changed -/
def wr (i : Nat) (x : D) : M Unit := fun ρ => match ρ[i]? with
  | some (.o _) => .ok () (ρ.set i (.o x))
  | some (.l _) => .ok () (ρ.set i (.l x))
  | _ => .stk
/-- an operand: what a slot holds at the time of the operation, or a value -/
inductive Op where
  | pl (i : Nat) | vl (x : D)
def res1 (ρ : Evm) : Op → Option D
  | .pl i => look ρ i
  | .vl x => some x
def ress (ρ : Evm) : List Op → Option (List D)
  | [] => some []
  | o :: os => match res1 ρ o, ress ρ os with
    | some x, some xs => some (x :: xs)
    | _, _ => none
def resM (os : List Op) : M (List D) := fun ρ => match ress ρ os with
  | some xs => .ok xs ρ
  | none => .stk
/-- an own place, by a name -/
def C.place (c : C) (e : Expr) (ρ : Evm) : Option Nat := match e with
  | .Name x _ => (match c.nm x with
    | .slot i => (match ρ[i]? with
      | some (.o _) => some i
      | some (.l _) => some i
      | _ => none)
    | _ => none)
  | _ => none

/-! ### operations on data -/
def lineOk (n : Nat) : Bool := decide (n ≤ sizeLine)
def small64 (i : Int) : Bool := decide (-(2 ^ 64) < i) && decide (i < 2 ^ 64)
def mulOk (i j : Int) : Bool := small64 i || (small64 j || decide (i.natAbs.log2 + j.natAbs.log2 < 1000000))
def divOk (j : Int) : Bool := decide (0 < j) && (decide (j < 1073741824) || decide (j.natAbs.log2 < 9000))
def powOk (i j : Int) : Bool := decide (0 ≤ j) && (decide (j ≤ 1000000) && decide (i.natAbs < 2 ^ 64))
def cutD {α : Type} (xs : List α) (lo hi : Option Int) : List α := (xs.drop (HT.sIx xs.length 0 lo)).take (HT.sIx xs.length xs.length hi - HT.sIx xs.length 0 lo)
def gd {α : Type} (b : Bool) (x : α) : Option α := match b with
  | true => some x
  | false => none
def repD {α : Type} (xs : List α) (k : Int) : List α := (List.replicate k.toNat xs).flatten
def binD (op : Operator) (x y : D) : Option (D × Bool) := match op, x, y with
  | .Add, .int i, .int j => some (.int (i + j), false)
  | .Sub, .int i, .int j => some (.int (i - j), false)
  | .Mult, .int i, .int j => gd (mulOk i j) (.int (i * j), false)
  | .FloorDiv, .int i, .int j => gd (divOk j) (.int (i / j), false)
  | .Mod, .int i, .int j => gd (decide (0 < j)) (.int (i % j), false)
  | .Pow, .int i, .int j => gd (powOk i j) (.int (i ^ j.toNat), false)
  | .BitXor, .int i, .int j => some (.int (Builtin.bitXor i j), false)
  | .Add, .str x, .str y => gd (lineOk (x.length + y.length)) (.str (x ++ y), false)
  | .Add, .tup xs, .tup ys => gd (lineOk (xs.length + ys.length)) (.tup (xs ++ ys), false)
  | .Add, .lst xs, .lst ys => gd (lineOk (xs.length + ys.length)) (.lst (xs ++ ys), true)
  | .Mult, .lst xs, .int k => gd (decide (-(2 ^ 63) ≤ k) && (decide (k < 2 ^ 63) && lineOk (xs.length * k.toNat))) (.lst (repD xs k), true)
  | .Mult, .tup xs, .int k => gd (decide (-(2 ^ 63) ≤ k) && (decide (k < 2 ^ 63) && lineOk (xs.length * k.toNat))) (.tup (repD xs k), false)
  | _, _, _ => none
def D.dpt (d : D) : Option PyData := match d.py with
  | some p => gd (SeqAt.shaped p) p
  | none => none
def eqD (x y : D) : Option Bool := match x.dpt, y.dpt with
  | some p, some q => some (PyData.eqv p q)
  | _, _ => none
def inL (x : D) (ys : List D) (f : List PyData → PyData) : Option Bool := match x.dpt, D.pys ys with
  | some p, some qs => gd (SeqAt.shaped (f qs)) (qs.any fun z => PyData.eqv z p)
  | _, _ => none
def intsD : List D → Option (List Int)
  | [] => some []
  | .int i :: r => (intsD r).map (i :: ·)
  | _ => none
def blsD : List D → Option (List Bool)
  | [] => some []
  | .bl b :: r => (blsD r).map (b :: ·)
  | _ => none
def strsD : List D → Option (List Str)
  | [] => some []
  | .str x :: r => (strsD r).map (x :: ·)
  | _ => none
def isNon : D → Bool
  | .non => true
  | _ => false
def cmpD (op : CmpOp) (x y : D) : Option Bool := match op, x, y with
  | .Eq, x, y => eqD x y
  | .NotEq, x, y => (eqD x y).map (!·)
  | .Lt, .int i, .int j => some (decide (i < j))
  | .LtE, .int i, .int j => some (decide (i ≤ j))
  | .Gt, .int i, .int j => some (decide (j < i))
  | .GtE, .int i, .int j => some (decide (j ≤ i))
  | .Lt, .tup xs, .tup ys => (match intsD xs, intsD ys with | some a, some b => some (HT.lexLt a b) | _, _ => none)
  | .Is, x, .non => some (isNon x)
  | .IsNot, x, .non => some (!isNon x)
  | .In, x, .lst ys => inL x ys .list
  | .In, x, .tup ys => inL x ys .tuple
  | .NotIn, x, .lst ys => (inL x ys .list).map (!·)
  | .NotIn, x, .tup ys => (inL x ys .tuple).map (!·)
  | _, _, _ => none
/-- truth -/
def truD : D → Option Bool
  | .non => some false
  | .bl b => some b
  | .int i => some (i != 0)
  | .str x => gd (lineOk x.length) ((x.length : Int) != 0)
  | .tup xs => some (!xs.isEmpty)
  | .lst xs => some (!xs.isEmpty)
  | _ => none
def indexD (x y : D) : Option D := match x, y with
  | .tup xs, .int i => atI xs i
  | .lst xs, .int i => atI xs i
  | .str z, .int i => (match lineOk z.length with
    | true => (atI z.cps.toList i).map fun c => .str ⟨#[c]⟩
    | false => none)
  | _, _ => none
def sliceD (x : D) (lo hi : Option Int) : Option (D × Bool) := match x with
  | .tup xs => some (.tup (cutD xs lo hi), false)
  | .lst xs => some (.lst (cutD xs lo hi), true)
  | _ => none
/-- a class that isinstance asks for, of a value -/
def tyD : D → Option String
  | .non => some "NoneType"
  | .bl _ => some "bool"
  | .int _ => some "int"
  | .str _ => some "str"
  | .tup _ => some "tuple"
  | .lst _ => some "list"
  | .scr _ => some "list"
  | .dK _ _ => some "dict"
  | .dT _ _ => some "dict"
  | _ => none
def tyKnown (T : String) : Bool := T == "int" || (T == "bool" || (T == "tuple" || (T == "list" || (T == "str" || (T == "dict" || T == "NoneType")))))
def isa (t T : String) : Option Bool := gd (tyKnown t && tyKnown T) (t == T || (t == "bool" && T == "int"))
def isInst (x y : D) : Option Bool := match y with
  | .ty T => (match tyD x with
    | some t => isa t T
    | none => none)
  | _ => none
/-- a built-in function's call -/
def bltF (f : String) (xs : List D) : Option (D × Bool) := match f, xs with
  | "len", [.tup xs] => some (.int xs.length, false)
  | "len", [.lst xs] => some (.int xs.length, false)
  | "len", [.str x] => gd (lineOk x.length) (.int x.length, false)
  | "abs", [.int i] => some (.int (if i < 0 then -i else i), false)
  | "max", [.int i, .int j] => some (.int (if j > i then j else i), false)
  | "min", [.int i, .int j] => some (.int (if j < i then j else i), false)
  | "sum", [.lst xs] => (intsD xs).map fun ns => (.int ns.sum, false)
  | "sum", [.tup xs] => (intsD xs).map fun ns => (.int ns.sum, false)
  | "all", [.lst xs] => (blsD xs).map fun bs => (.bl (bs.all id), false)
  | "any", [.lst xs] => (blsD xs).map fun bs => (.bl (bs.any id), false)
  | "len", [.scr xs] => some (.int xs.length, false)
  | "isinstance", [x, y] => (isInst x y).map fun k => (.bl k, false)
  | _, _ => none
/-- a built-in class's call -/
def bltT (n : String) (xs : List D) : Option (D × Bool) := match n, xs with
  | "tuple", [.tup xs] => some (.tup xs, false)
  | "tuple", [.lst xs] => some (.tup xs, false)
  | "list", [.tup xs] => some (.lst xs, true)
  | "list", [.lst xs] => some (.lst xs, true)
  | "list", [.scr xs] => some (.lst xs, true)
  | "int", [.int i] => some (.int i, false)
  | "int", [.bl b] => some (.int (if b then 1 else 0), false)
  | "str", [.int i] => gd (decide (i.natAbs.log2 < 1920)) (.str (toString i), false)
  | _, _ => none
inductive Bi where
  | fn (id : String) | ty (n : String)
def Bi.val : Bi → Value
  | .fn id => .builtin id
  | .ty n => .type n
def biTab : List (Str × Bi) := [("len", .fn "len"), ("abs", .fn "abs"), ("max", .fn "max"), ("min", .fn "min"), ("sum", .fn "sum"), ("all", .fn "all"), ("any", .fn "any"), ("isinstance", .fn "isinstance"), ("sorted", .fn "sorted"),
  ("tuple", .ty "tuple"), ("list", .ty "list"), ("int", .ty "int"), ("str", .ty "str"), ("bool", .ty "bool"), ("dict", .ty "dict"), ("range", .ty "range"), ("zip", .ty "zip"), ("enumerate", .ty "enumerate"), ("reversed", .ty "reversed"), ("set", .ty "set")]
/-- a built-in that may be called within an except suite -/
def Bi.cool : Bi → Bool
  | .fn id => id == "isinstance" || id == "len"
  | .ty n => n == "str" || (n == "tuple" || (n == "list" || n == "int"))
def biCall : Bi → List D → Option (D × Bool)
  | .fn id, xs => bltF id xs
  | .ty n, xs => bltT n xs
/-- a method that changes its object: what it becomes, what comes back -/
def mutD (m : Str) (x : D) (as : List D) : Option (D × D) := match x, as with
  | .lst xs, [y] => (match decide (m = ("append" : Str)) with
    | true => gd (decide (xs.length < sizeLine)) (.lst (xs ++ [y]), .non)
    | false => none)
  | .lst xs, [] => (match decide (m = ("pop" : Str)), xs[xs.length - 1]? with
    | true, some y => some (.lst xs.dropLast, y)
    | _, _ => none)
  | _, _ => none

inductive Flow' where
  | nx | rt (d : D) (u : Bool) | bk | ct

/-- the parts of the evaluator -/
structure Ops where
  ev : C → Expr → M (D × Bool)
  opn : C → Expr → M Op
  tst : C → Expr → M Bool
  args : C → List Expr → M (List D)
  opns : C → List Expr → M (List Op)
  argc : C → List Bool → List Expr → M (List Op)
  ss : C → List Stmt → M Flow'

def notStar : Expr → Bool
  | .Starred _ _ => false
  | _ => true
def okCall : List Expr → Bool
  | [] => true
  | .Starred _ _ :: _ => false
  | _ :: r => okCall r
def notSlice : Expr → Bool
  | .Slice _ _ _ _ => false
  | _ => true
/-- an expression whose test is its value's truth -/
def plainT : Expr → Bool
  | .UnaryOp .Not _ _ => false
  | .BoolOp _ _ _ => false
  | .IfExp _ _ _ _ => false
  | .Compare _ _ _ _ => false
  | _ => true
def noComp : Expr → Bool
  | .ListComp _ _ _ _ => false
  | .SetComp _ _ _ _ => false
  | .DictComp _ _ _ _ _ => false
  | _ => true
/-- o.m where o is no call of super() -/
def plainB : Expr → Bool
  | .Call _ _ _ _ => false
  | _ => true
section
variable (o : Ops)
def opn1 (c : C) (e : Expr) : M Op := fun ρ => match c.place e ρ with
  | some i => .ok (.pl i) ρ
  | none => bnd (o.ev c e) (fun r => pure (.vl r.1)) ρ
/-- two operands, then what is made of them as they stand -/
def fin2 {β : Type} (p q : Op) (f : D → D → M β) : M β := fun ρ => match res1 ρ p, res1 ρ q with
  | some x, some y => f x y ρ
  | _, _ => .stk
def two {β : Type} (c : C) (a b : Expr) (f : D → D → M β) : M β := bnd (o.opn c a) fun p => bnd (o.opn c b) fun q => fin2 p q f
def fin1 {β : Type} (p : Op) (f : D → M β) : M β := fun ρ => match res1 ρ p with
  | some x => f x ρ
  | none => .stk
def one {β : Type} (c : C) (a : Expr) (f : D → M β) : M β := bnd (o.opn c a) fun p => fin1 p f
def finL {β : Type} (ps : List Op) (f : List D → M β) : M β := fun ρ => match ress ρ ps with
  | some xs => f xs ρ
  | none => .stk
def val (r : Option (D × Bool)) : M (D × Bool) := lft r
def evName (c : C) (x : Str) : M (D × Bool) := match c.nm x with
  | .slot i => bnd (rd i) fun d => pure (d, false)
  | .glob => bnd (lft (c.g.glob x)) fun d => pure (d, false)
  | .bad => stk
def evConst : Const → M (D × Bool)
  | .int i => pure (.int i, false)
  | .bool b => pure (.bl b, false)
  | .none => pure (.non, false)
  | .str x => pure (.str x, false)
  | _ => stk
/-- values, each handed out -/
def args1 (c : C) : List Expr → M (List D)
  | [] => pure []
  | e :: es => match notStar e with
    | true => bnd (o.ev c e) fun r => bnd (o.args c es) fun xs => pure (r.1 :: xs)
    | false => stk
/-- operands -/
def opns1 (c : C) : List Expr → M (List Op)
  | [] => pure []
  | e :: es => match notStar e with
    | true => bnd (o.opn c e) fun p => bnd (o.opns c es) fun ps => pure (p :: ps)
    | false => stk
/-- a def's arguments: things of one's own may be lent -/
def argc1 (c : C) : List Bool → List Expr → M (List Op)
  | [], [] => pure []
  | b :: bs, e :: es => (match notStar e with
    | true => bnd (match b with
        | true => o.opn c e
        | false => bnd (o.ev c e) fun r => pure (.vl r.1)) fun p => bnd (o.argc c bs es) fun ps => pure (p :: ps)
    | false => stk)
  | _, _ => stk
def negD : D → Option D
  | .int i => some (.int (-i))
  | _ => none
def evInt (c : C) : Option Expr → M (Option Int)
  | none => pure none
  | some e => bnd (o.ev c e) fun r => (match r.1 with
    | .int i => pure (some i)
    | _ => stk)
/-- the lent places -/
def lns : List Op → List Nat
  | [] => []
  | .pl i :: r => i :: lns r
  | .vl _ :: r => lns r
/-- the arguments as they are handed over -/
def gath (ρ : Evm) : List Op → Option (List (D × Bool))
  | [] => some []
  | .vl x :: r => (gath ρ r).map ((x, false) :: ·)
  | .pl i :: r => (match ρ[i]? with
    | some (.o x) => (gath ρ r).map ((x, true) :: ·)
    | some (.l x) => (gath ρ r).map ((x, true) :: ·)
    | _ => none)
/-- what became of the lent ones -/
def bk (t s : Sl) : Sl := match t, s with
  | .o _, .l x => .o x
  | .o _, .f x => .d x
  | .l _, .l x => .l x
  | .l _, .f x => .f x
  | .o _, .x _ => .e
  | .l _, .x e => .x e
  | t, _ => t
def back1 (ρ : Evm) (i : Nat) (s : Sl) : Evm := match ρ[i]? with
  | some t => ρ.set i (bk t s)
  | none => ρ
def backs (ρ : Evm) : List Nat → List Sl → Evm
  | i :: is, s :: ss => backs (back1 ρ i s) is ss
  | _, _ => ρ
def callD (c : C) (f : FI) (ps : List Op) : M (D × Bool) := fun ρ => match decide ((lns ps).Nodup) && decide (ps.length = f.ps.length), gath ρ ps with
  | true, some as => (match c.call f.name as with
    | .ok d u fin => .ok (d, u) (backs ρ (lns ps) fin)
    | .exc e fin => .exc e (backs ρ (lns ps) fin)
    | .stk => .stk)
  | _, _ => .stk
def cold (c : C) : M Unit := match c.hot with
  | true => stk
  | false => pure ()
def callAs (c : C) (f : FI) (as : List Expr) : M (D × Bool) := match as with
  | [] => callD c f []
  | e :: es => (match notStar e && okCall es with
    | true => bnd (o.argc c f.io (e :: es)) fun ps => callD c f ps
    | false => stk)
def evCall (c : C) (x : Str) (as : List Expr) : M (D × Bool) := match c.nm x with
  | .glob => (match c.g.fn? x with
    | some f => bnd (cold c) fun _ => callAs o c f as
    | none => (match biTab.lookup x, c.g.free.contains x with
      | some b, true => (match as, c.hot && !b.cool with
        | e :: es, false => (match notStar e && okCall es with
          | true => bnd (o.opns c (e :: es)) fun ps => finL ps fun xs => val (biCall b xs)
          | false => stk)
        | _, _ => stk)
      | _, _ => stk))
  | .slot i => fun ρ => (match look ρ i with
    | some (.fn y) => (match c.g.fn? y with
      | some f => bnd (cold c) (fun _ => callAs o c f as) ρ
      | none => .stk)
    | _ => .stk)
  | .bad => stk
/-- a method that changes what a name holds -/
def ownL (ρ : Evm) (i : Nat) : Bool := match ρ[i]? with
  | some (.o (.lst _)) => true
  | some (.l (.lst _)) => true
  | _ => false
def mutIn (i : Nat) (m : Str) (xs : List D) : M (D × Bool) := fun ρ => match ρ[i]? with
  | some (.o x) => (match mutD m x xs with
    | some (y, r) => .ok (r, false) (ρ.set i (.o y))
    | none => .stk)
  | some (.l x) => (match mutD m x xs with
    | some (y, r) => .ok (r, false) (ρ.set i (.l y))
    | none => .stk)
  | _ => .stk
def few (es : List Expr) : Bool := decide (es.length < 29)
def mutKnown (m : Str) : Bool := decide (m = ("append" : Str)) || decide (m = ("pop" : Str))
def evMut (c : C) (i : Nat) (m : Str) (as : List Expr) : M (D × Bool) := fun ρ => match mutKnown m && ownL ρ i with
  | false => .stk
  | true => (match as with
    | [] => mutIn i m [] ρ
    | e :: es => (match notStar e && (okCall es && few es) with
      | true => bnd (o.args c (e :: es)) (fun xs => mutIn i m xs) ρ
      | false => .stk))
/-- a op b op' d -/
def chain (c : C) (op op' : CmpOp) (a b d : Expr) : M Bool := bnd (o.opn c a) fun p => bnd (o.opn c b) fun q => bnd (fin2 p q fun x y => lft (cmpD op x y)) fun k => (match k with
  | true => bnd (o.opn c d) fun r => fin2 q r fun y z => lft (cmpD op' y z)
  | false => pure false)
def ev1 (c : C) (e : Expr) : M (D × Bool) := match e with
  | .Name x _ => evName c x
  | .Constant k _ _ => evConst k
  | .BinOp a op b _ => two o c a b fun x y => val (binD op x y)
  | .UnaryOp .USub a _ => one o c a fun x => val ((negD x).map fun y => (y, false))
  | .UnaryOp .Not a _ => one o c a fun x => val ((truD x).map fun k => (.bl (!k), false))
  | .BoolOp _ [a] _ => o.ev c a
  | .BoolOp op (a :: b :: r) p => bnd (o.ev c a) fun x => bnd (lft (truD x.1)) fun k => (match op, k with
    | .And, true => o.ev c (.BoolOp op (b :: r) p)
    | .And, false => pure (x.1, false)
    | .Or, true => pure (x.1, false)
    | .Or, false => o.ev c (.BoolOp op (b :: r) p))
  | .IfExp t a b _ => bnd (o.tst c t) fun k => (match k with
    | true => o.ev c a
    | false => o.ev c b)
  | .Tuple es _ _ => bnd (o.args c es) fun xs => val (gd (lineOk xs.length) (.tup xs, false))
  | .List es _ => bnd (o.args c es) fun xs => val (gd (lineOk xs.length) (.lst xs, true))
  | .Compare a [op] [b] _ => (match behindInMarks op b with
    | true => stk
    | false => two o c a b fun x y => val ((cmpD op x y).map fun k => (.bl k, false)))
  | .Compare a [op, op'] [b, d] _ => (match lastMarks [op, op'] [b, d] with
    | true => stk
    | false => bnd (chain o c op op' a b d) fun k => pure (.bl k, false))
  | .Subscript a (.Slice lo hi none _) _ => bnd (o.opn c a) fun p => bnd (evInt o c lo) fun l => bnd (evInt o c hi) fun h => fin1 p fun x => val (sliceD x l h)
  | .Subscript a b _ => (match notSlice b with
    | true => two o c a b fun x y => val ((indexD x y).map fun z => (z, false))
    | false => stk)
  | .Call (.Name x _) as [] _ => evCall o c x as
  | .Call (.Attribute (.Name x _) m ap) as [] p => (match c.nm x, (ap.endLine == p.line) with
    | .slot i, true => evMut o c i m as
    | _, _ => stk)
  | _ => stk
def tst1 (c : C) (e : Expr) : M Bool := match e with
  | .UnaryOp .Not a _ => bnd (o.tst c a) fun k => pure (!k)
  | .BoolOp _ [a] _ => o.tst c a
  | .BoolOp op (a :: b :: r) p => bnd (o.tst c a) fun k => (match op, k with
    | .And, true => o.tst c (.BoolOp op (b :: r) p)
    | .And, false => pure false
    | .Or, true => pure true
    | .Or, false => o.tst c (.BoolOp op (b :: r) p))
  | .Compare a [op] [b] _ => (match behindInMarks op b with
    | true => stk
    | false => two o c a b fun x y => lft (cmpD op x y))
  | .Compare a [op, op'] [b, d] _ => (match lastMarks [op, op'] [b, d] with
    | true => stk
    | false => chain o c op op' a b d)
  | .IfExp _ _ _ _ => stk
  | .Compare _ _ _ _ => stk
  | .BoolOp _ [] _ => stk
  | e => one o c e fun x => lft (truD x)
end
end PV
end

section
set_option maxHeartbeats 2000000
/-! How the evaluator's names lie to the machine's. -/
namespace PV
open PySem PySem.Spec L2
open PyProof.Rows hiding St

/-- what is fixed through a body: the written part, the heap at the entry, what of it may be changed, the slots that may not be bound anew -/
structure Zx where
  /-- what of the heap at the entry may be changed -/
  W : Fz
  /-- names that keep their objects throughout -/
  A : List (Nat × Addr)
  /-- tables of code objects; code objects -/
  Tb : List (Addr × Str)
  Cd : List (Addr × Str)
  /-- the dict of the exception that a suite holds -/
  xd : Option Addr
  /-- what stays, at the entry-/
  F0 : Fz
  H0 : Hp
structure Zt where
  K : PySem.W.Frag
  mg : Str → Option Value
  B : Hp
  W0 : Zx
  L : List (Nat × Addr)
  T : List (Addr × D)

def Zt.Pin (Z : Zt) (p : Nat × Addr) : Prop := p ∈ Z.L ∨ p ∈ Z.W0.A
def Sl.own : Sl → Bool
  | .o _ => true
  | .l _ => true
  | _ => false
def Sl.pin : Sl → Bool
  | .f _ => true
  | .l _ => true
  | .x _ => true
  | _ => false
/-- tables and code objects stand -/
def TabC (w : Zx) (H : Hp) : Prop := LamX.Tabs w.Tb H ∧ ∀ p ∈ w.Cd, H p.1 = some (LamX.CodeO p.1 p.2)
def IsTC (o : HO) : Prop := (∃ ps, o = .tbl ps) ∨ ∃ c q, o = LamX.CodeO c q
theorem tabs_of {T : List (Addr × Str)} {H H' : Hp} (t : LamX.Tabs T H) (h : ∀ a o, H a = some o → IsTC o → H' a = some o) : LamX.Tabs T H' := fun p hp => by
  obtain ⟨ps, e1, e2, e3⟩ := t p hp
  refine ⟨ps, h _ _ e1 (.inl ⟨_, rfl⟩), e2, fun pos cv hc => ?_⟩
  obtain ⟨c, q1, q2⟩ := e3 pos cv hc
  exact ⟨c, q1, h _ _ q2 (.inr ⟨_, _, rfl⟩)⟩
theorem TabC.of {w : Zx} {H H' : Hp} (t : TabC w H) (h : ∀ a o, H a = some o → IsTC o → H' a = some o) : TabC w H' :=
  ⟨tabs_of t.1 h, fun p hp => h _ _ (t.2 p hp) (.inr ⟨_, _, rfl⟩)⟩
section
variable (K : PySem.W.Frag) (mg : Str → Option Value)
/-- a thing that may be changed -/
inductive HoRep (F : Fz) (H : Hp) : HO → D → Prop
  | lst {vs : List V} {ds : List D} : Reps K mg F H vs ds → HoRep F H (.lst vs) (.lst ds)
  | dK {kvs : List (Key × V)} {ds : List D} : Reps K mg F H (kvs.map (·.2)) ds → HoRep F H (.dK kvs) (.dK (kvs.map (·.1)) ds)
  | dT {kvs : List (List Key × V)} {ds : List D} : Reps K mg F H (kvs.map (·.2)) ds → HoRep F H (.dT kvs) (.dT (kvs.map (·.1)) ds)
theorem HoRep.notTC {F : Fz} {H : Hp} {o : HO} {x : D} (h : HoRep K mg F H o x) : ¬ IsTC o := by
  rintro (⟨ps, rfl⟩ | ⟨c, q, rfl⟩)
  · cases h
  · unfold LamX.CodeO at h; cases h
def OwnAt (F : Fz) (H : Hp) (a : Addr) (x : D) : Prop := ∃ o, H a = some o ∧ HoRep K mg F H o x
end
section
variable (Z : Zt)
/-- the field of an exception that a suite holds -/
def PayR (F : Fz) (H : Hp) (e : EV) : Prop := match e.pay with
  | none => e.cls = ⟨#[]⟩ ∨ Z.W0.xd = none
  | some (f, x) => ∃ b v, Z.W0.xd = some b ∧ F b ∧ H b = some (.xd [(f, v)]) ∧ Rep Z.K Z.mg F H v x
def SlOk (F : Fz) (H : Hp) : Sl → Option V → Prop
  | .e, _ => True
  | .x e, _ => PayR Z F H e
  | .d x, v => ∃ v', v = some v' ∧ Rep Z.K Z.mg F H v' x
  | .f x, v => ∃ v', v = some v' ∧ Rep Z.K Z.mg F H v' x
  | .o x, v => ∃ a, v = some (.ref a) ∧ OwnAt Z.K Z.mg F H a x ∧ ¬ F a ∧ Z.B a = none
  | .l x, v => ∃ a, v = some (.ref a) ∧ OwnAt Z.K Z.mg F H a x ∧ ¬ F a ∧ (Z.B a = none ∨ Z.W0.W a)
structure Rl (F : Fz) (ρ : Evm) (σ : St) (H : Hp) : Prop where
  len : ρ.length = σ.length
  sl : ∀ (i : Nat) s v, ρ[i]? = some s → σ[i]? = some v → SlOk Z F H s v
  sep : ∀ (i j : Nat) s t a, ρ[i]? = some s → ρ[j]? = some t → s.own = true → t.own = true → σ[i]? = some (some (.ref a)) → σ[j]? = some (some (.ref a)) → i = j
  pin : ∀ p, Z.Pin p → (∃ s, ρ[p.1]? = some s ∧ s.pin = true) ∧ σ[p.1]? = some (some (.ref p.2))
  old : ∀ a o, Z.B a = some o → ¬ Z.W0.W a → (∀ ps, o ≠ .tbl ps) → H a = some o
  dom : ∀ a, (Z.B a).isSome = true → (H a).isSome = true
  live : ∀ a, F a → NT H a
  kept : ∀ p ∈ Z.T, OwnAt Z.K Z.mg F H p.1 p.2 ∧ ¬ F p.1 ∧ Z.B p.1 = none ∧ ∀ (i : Nat) s, ρ[i]? = some s → s.own = true → σ[i]? ≠ some (some (.ref p.1))
  tab : TabC Z.W0 H
  stp0 : Stp Z.W0.F0 Z.W0.H0 F H
  hb : Z.W0.H0 = Z.B
  nfz : ∀ a, F a → Z.W0.F0 a ∨ Z.B a = none ∨ Z.W0.W a
  wn : ∀ a, Z.W0.W a → NT H a
/-- a thing that nobody else has -/
def Uq (F : Fz) (H : Hp) (ρ : Evm) (σ : St) (v : V) (x : D) : Prop :=
  ∃ a, v = .ref a ∧ OwnAt Z.K Z.mg F H a x ∧ ¬ F a ∧ Z.B a = none ∧ (∀ (i : Nat) s, ρ[i]? = some s → s.own = true → σ[i]? ≠ some (some (.ref a))) ∧ ∀ p ∈ Z.T, p.1 ≠ a
def RR (F : Fz) (H : Hp) (ρ : Evm) (σ : St) (v : V) (r : D × Bool) : Prop :=
  if r.2 = true then Uq Z F H ρ σ v r.1 else Rep Z.K Z.mg F H v r.1
end

section
variable {Z : Zt} {F F' : Fz} {H H' : Hp} {ρ ρ' : Evm} {σ : St}
theorem OwnAt.step {a : Addr} {x : D} (h : OwnAt Z.K Z.mg F H a x) (e : H' a = H a) (s : Stp F H F' H') : OwnAt Z.K Z.mg F' H' a x := by
  obtain ⟨o, h1, h2⟩ := h
  refine ⟨o, by rw [e]; exact h1, ?_⟩
  cases h2 with
  | lst h2 => exact .lst (h2.step s)
  | dK h2 => exact .dK (h2.step s)
  | dT h2 => exact .dT (h2.step s)
theorem OwnAt.nt {a : Addr} {x : D} (h : OwnAt Z.K Z.mg F H a x) : NT H a := by
  obtain ⟨o, h1, h2⟩ := h
  exact ⟨o, h1, fun ps z => by subst z; cases h2⟩
theorem OwnAt.some {a : Addr} {x : D} (h : OwnAt Z.K Z.mg F H a x) : (H a).isSome = true := by
  obtain ⟨o, h1, h2⟩ := h
  rw [h1] <;> rfl
theorem PayR.step {e : EV} (h : PayR Z F H e) (st : Stp F H F' H') : PayR Z F' H' e := by
  unfold PayR at h ⊢
  split
  · rename_i ep
    rw [ep] at h
    exact h
  · rename_i f x ep
    rw [ep] at h
    obtain ⟨b, v, h1, h2, h3, h4⟩ := h
    exact ⟨b, v, h1, st.fz b h2, st.at_ b _ h2 h3 (fun ps z => nomatch z), h4.step st⟩
theorem SlOk.step {s : Sl} {v : Option V} (h : SlOk Z F H s v) (st : Stp F H F' H') (ho : ∀ a, s.own = true → v = Option.some (.ref a) → ¬ F a → H' a = H a ∧ ¬ F' a) : SlOk Z F' H' s v := by
  cases s with
  | e => trivial
  | x e => exact PayR.step h st
  | d x => obtain ⟨v', e, r⟩ := h; exact ⟨v', e, r.step st⟩
  | f x => obtain ⟨v', e, r⟩ := h; exact ⟨v', e, r.step st⟩
  | o x =>
    obtain ⟨a, e, r, n, b⟩ := h
    obtain ⟨h1, h2⟩ := ho a rfl e n
    exact ⟨a, e, r.step h1 st, h2, b⟩
  | l x =>
    obtain ⟨a, e, r, n, b⟩ := h
    obtain ⟨h1, h2⟩ := ho a rfl e n
    exact ⟨a, e, r.step h1 st, h2, b⟩
theorem SlOk.own_some {s : Sl} {v : Option V} (h : SlOk Z F H s v) (hs : s.own = true) : ∃ a x, v = some (.ref a) ∧ OwnAt Z.K Z.mg F H a x ∧ ¬ F a ∧ (Z.B a = none ∨ Z.W0.W a) ∧ (s = .o x ∨ s = .l x) := by
  cases s with
  | o x => obtain ⟨a, e, r, n, b⟩ := h; exact ⟨a, x, e, r, n, .inl b, .inl rfl⟩
  | l x => obtain ⟨a, e, r, n, b⟩ := h; exact ⟨a, x, e, r, n, b, .inr rfl⟩
  | e => cases hs
  | x e => cases hs
  | d x => cases hs
  | f x => cases hs
/-- the heap grows -/
theorem Rl.grow (R : Rl Z F ρ σ H) (g : Grow F H F' H') (live : ∀ a, F' a → NT H' a) : Rl Z F' ρ σ H' := by
  have st := g.step R.live
  refine ⟨R.len, fun i s v h1 h2 => ?_, R.sep, R.pin, fun a o h1 h2 h3 => g.ext a o (R.old a o h1 h2 h3), fun a h => ?_, live, fun p hp => ?_, R.tab.of fun a o h _ => g.ext a o h, R.stp0.trans st, R.hb, fun a ha => ?_, fun a ha => ?_⟩
  · have so := R.sl i s v h1 h2
    refine so.step st fun a hs hv hn => ?_
    obtain ⟨a', x, e, ow, n, b, _⟩ := so.own_some hs
    rw [hv] at e; cases e
    have h3 := ow.some
    cases q : H a with
    | none => rw [q] at h3; cases h3
    | some ob =>
      refine ⟨g.ext a ob q, fun hf => ?_⟩
      rcases g.new a hf with z | z
      · exact hn z
      · rw [q] at z; cases z
  · have h3 := R.dom a h
    cases q : H a with
    | none => rw [q] at h3; cases h3
    | some ob => rw [g.ext a ob q] <;> rfl
  · obtain ⟨k1, k2, k3, k4⟩ := R.kept p hp
    have h3 := k1.some
    cases q : H p.1 with
    | none => rw [q] at h3; cases h3
    | some ob =>
      refine ⟨k1.step (by rw [g.ext _ ob q, q]) st, fun hf => ?_, k3, k4⟩
      rcases g.new _ hf with z | z
      · exact k2 z
      · rw [q] at z; cases z
  · rcases g.new a ha with z | z
    · exact R.nfz a z
    · right; left
      cases q : Z.B a with
      | none => rfl
      | some o =>
        have h3 := R.dom a (by rw [q] <;> rfl)
        rw [z] at h3; cases h3
  · obtain ⟨o, e, n⟩ := R.wn a ha
    exact ⟨o, g.ext a o e, n⟩
theorem Rl.slot (R : Rl Z F ρ σ H) {i : Nat} {s : Sl} (h : ρ[i]? = some s) : ∃ v, σ[i]? = some v ∧ SlOk Z F H s v := by
  have hi : i < ρ.length := (List.getElem?_eq_some_iff.mp h).1
  have hi2 : i < σ.length := by rw [← R.len]; exact hi
  have e : σ[i]? = some σ[i] := List.getElem?_eq_getElem hi2
  exact ⟨σ[i], e, R.sl i s _ h e⟩
theorem look_some {i : Nat} {x : D} (h : look ρ i = some x) : ∃ s, ρ[i]? = some s ∧ (s = .d x ∨ s = .f x ∨ s = .o x ∨ s = .l x) := by
  unfold look at h
  split at h
  · rename_i y e; cases h; exact ⟨_, e, .inl rfl⟩
  · rename_i y e; cases h; exact ⟨_, e, .inr (.inl rfl)⟩
  · rename_i y e; cases h; exact ⟨_, e, .inr (.inr (.inl rfl))⟩
  · rename_i y e; cases h; exact ⟨_, e, .inr (.inr (.inr rfl))⟩
  · cases h
/-- something that is looked at: it stays, or it is a thing as it stands now -/
def Pk (Z : Zt) (F : Fz) (H : Hp) (v : V) (x : D) : Prop := Rep Z.K Z.mg F H v x ∨ ∃ a, v = .ref a ∧ OwnAt Z.K Z.mg F H a x
theorem Rl.look (R : Rl Z F ρ σ H) {i : Nat} {x : D} (h : look ρ i = some x) : ∃ v, σ[i]? = some (some v) ∧ Pk Z F H v x := by
  obtain ⟨s, hs, hk⟩ := look_some h
  obtain ⟨v, hv, so⟩ := R.slot hs
  rcases hk with rfl | rfl | rfl | rfl
  · obtain ⟨v', e, r⟩ := so; subst e; exact ⟨v', hv, .inl r⟩
  · obtain ⟨v', e, r⟩ := so; subst e; exact ⟨v', hv, .inl r⟩
  · obtain ⟨a, e, r, _⟩ := so; subst e; exact ⟨_, hv, .inr ⟨a, rfl, r⟩⟩
  · obtain ⟨a, e, r, _⟩ := so; subst e; exact ⟨_, hv, .inr ⟨a, rfl, r⟩⟩
/-- a thing of one's own is handed out: it stays from then on -/
theorem own_fix {a : Addr} {x : D} (h : OwnAt Z.K Z.mg F H a x) : Rep Z.K Z.mg (fun b => F b ∨ b = a) H (.ref a) x := by
  obtain ⟨o, h1, h2⟩ := h
  cases h2 with
  | lst h2 => exact .lst ⟨.inr rfl, h1⟩ (h2.step ⟨fun _ q => .inl q, fun _ _ _ e _ => e⟩)
  | dK h2 => exact .dK ⟨.inr rfl, .inl h1⟩ (h2.step ⟨fun _ q => .inl q, fun _ _ _ e _ => e⟩)
  | dT h2 => exact .dT ⟨.inr rfl, h1⟩ (h2.step ⟨fun _ q => .inl q, fun _ _ _ e _ => e⟩)
theorem stp_add (a : Addr) : Stp F H (fun b => F b ∨ b = a) H := ⟨fun _ q => .inl q, fun _ _ _ e _ => e⟩
theorem Rl.fix (R : Rl Z F ρ σ H) {a : Addr} {x : D} (ow : OwnAt Z.K Z.mg F H a x) (ρ' : Evm) (hl : ρ'.length = ρ.length)
    (h : ∀ (i : Nat) s v, ρ'[i]? = some s → σ[i]? = some v → (ρ[i]? = some s ∧ (s.own = true → v ≠ some (.ref a))) ∨ (s.own = false ∧ ((s = .e) ∨ (∃ y, (s = .d y ∨ s = .f y) ∧ v = some (.ref a) ∧ y = x))))
    (hp : ∀ p, Z.Pin p → ∃ s, ρ'[p.1]? = some s ∧ s.pin = true) (ht : ∀ p ∈ Z.T, p.1 ≠ a) (hB : Z.B a = none ∨ Z.W0.W a) : Rl Z (fun b => F b ∨ b = a) ρ' σ H := by
  refine ⟨hl.trans R.len, fun i s v h1 h2 => ?_, fun i j s t b h1 h2 h3 h4 h5 h6 => ?_, fun p hpm => ⟨hp p hpm, (R.pin p hpm).2⟩, R.old, R.dom, fun b hb => ?_, fun p hp => ?_, R.tab, R.stp0.trans (stp_add a), R.hb, fun b hb' => ?_, R.wn⟩
  · rcases h i s v h1 h2 with ⟨h3, h4⟩ | ⟨h3, h4⟩
    · refine (R.sl i s v h3 h2).step (stp_add a) fun b hs hv hn => ⟨rfl, fun hf => ?_⟩
      rcases hf with q | q
      · exact hn q
      · subst q; exact h4 hs hv
    · rcases h4 with rfl | ⟨y, rfl | rfl, e, e2⟩
      · trivial
      · exact ⟨_, e, by rw [e2]; exact own_fix ow⟩
      · exact ⟨_, e, by rw [e2]; exact own_fix ow⟩
  · rcases h i s _ h1 h5 with ⟨h7, _⟩ | ⟨h7, _⟩
    · rcases h j t _ h2 h6 with ⟨h8, _⟩ | ⟨h8, _⟩
      · exact R.sep i j s t b h7 h8 h3 h4 h5 h6
      · rw [h8] at h4; cases h4
    · rw [h7] at h3; cases h3
  · rcases hb with q | q
    · exact R.live b q
    · subst q; exact ow.nt
  · obtain ⟨k1, k2, k3, k4⟩ := R.kept p hp
    refine ⟨k1.step rfl (stp_add a), fun hf => ?_, k3, fun i s h1 h2 h3 => ?_⟩
    · rcases hf with q | q
      · exact k2 q
      · exact ht p hp q
    · rcases h i s _ h1 h3 with ⟨h4, _⟩ | ⟨h4, _⟩
      · exact k4 i s h4 h2 h3
      · rw [h4] at h2; cases h2
  · rcases hb' with z | z
    · exact R.nfz b z
    · subst z; exact .inr hB
theorem Rl.own_kept (R : Rl Z F ρ σ H) {i : Nat} {s : Sl} {a : Addr} (h1 : ρ[i]? = some s) (h2 : s.own = true) (h3 : σ[i]? = some (some (.ref a))) : ∀ p ∈ Z.T, p.1 ≠ a := fun p hp e => by
  subst e
  exact (R.kept p hp).2.2.2 i s h1 h2 h3
/-- reading a slot -/
theorem Rl.rd (R : Rl Z F ρ σ H) {i : Nat} {x : D} (h : PV.rd i ρ = .ok x ρ') : ∃ v F', σ[i]? = some (some v) ∧ Stp F H F' H ∧ Rl Z F' ρ' σ H ∧ Rep Z.K Z.mg F' H v x := by
  unfold PV.rd at h
  split at h
  · rename_i y e
    cases h
    obtain ⟨v, hv, so⟩ := R.slot e
    obtain ⟨v', e, r⟩ := so; subst e; exact ⟨v', F, hv, .refl _ _, R, r⟩
  · rename_i y e
    cases h
    obtain ⟨v, hv, so⟩ := R.slot e
    obtain ⟨v', e, r⟩ := so; subst e; exact ⟨v', F, hv, .refl _ _, R, r⟩
  · rename_i y e
    cases h
    obtain ⟨v, hv, so⟩ := R.slot e
    obtain ⟨a, e1, ow, n, b⟩ := so
    subst e1
    have hi : i < ρ.length := (List.getElem?_eq_some_iff.mp e).1
    refine ⟨_, _, hv, stp_add a, R.fix ow _ (by simp) (fun j s w h1 h2 => ?_) (fun p hp => ?_) (R.own_kept e rfl hv) (.inl b), own_fix ow⟩
    · by_cases hj : j = i
      · subst hj
        rw [List.getElem?_set_self hi] at h1
        cases h1
        rw [hv] at h2
        cases h2
        exact .inr ⟨rfl, .inr ⟨_, .inl rfl, rfl, rfl⟩⟩
      · rw [List.getElem?_set_ne (Ne.symm hj)] at h1
        refine .inl ⟨h1, fun ho hw => hj ?_⟩
        subst hw
        exact R.sep j i s _ a h1 e ho rfl h2 hv
    · obtain ⟨⟨s, hs, hpn⟩, _⟩ := R.pin p hp
      have hj : p.1 ≠ i := fun z => by rw [z, e] at hs; cases hs; cases hpn
      exact ⟨s, by rw [List.getElem?_set_ne (Ne.symm hj)]; exact hs, hpn⟩
  · rename_i y e
    cases h
    obtain ⟨v, hv, so⟩ := R.slot e
    obtain ⟨a, e1, ow, n, b⟩ := so
    subst e1
    have hi : i < ρ.length := (List.getElem?_eq_some_iff.mp e).1
    refine ⟨_, _, hv, stp_add a, R.fix ow _ (by simp) (fun j s w h1 h2 => ?_) (fun p hp => ?_) (R.own_kept e rfl hv) b, own_fix ow⟩
    · by_cases hj : j = i
      · subst hj
        rw [List.getElem?_set_self hi] at h1
        cases h1
        rw [hv] at h2
        cases h2
        exact .inr ⟨rfl, .inr ⟨_, .inr rfl, rfl, rfl⟩⟩
      · rw [List.getElem?_set_ne (Ne.symm hj)] at h1
        refine .inl ⟨h1, fun ho hw => hj ?_⟩
        subst hw
        exact R.sep j i s _ a h1 e ho rfl h2 hv
    · obtain ⟨⟨s, hs, hpn⟩, _⟩ := R.pin p hp
      by_cases hj : p.1 = i
      · exact ⟨.f x, by rw [hj, List.getElem?_set_self hi], rfl⟩
      · exact ⟨s, by rw [List.getElem?_set_ne (Ne.symm hj)]; exact hs, hpn⟩
  · cases h
/-- a thing that nobody else has is handed out -/
theorem Rl.freeze (R : Rl Z F ρ σ H) {v : V} {x : D} (h : Uq Z F H ρ σ v x) : ∃ F', Stp F H F' H ∧ Rl Z F' ρ σ H ∧ Rep Z.K Z.mg F' H v x := by
  obtain ⟨a, rfl, ow, n, b, hs, ht⟩ := h
  refine ⟨_, stp_add a, R.fix ow ρ rfl (fun j s w h1 h2 => .inl ⟨h1, fun ho hw => hs j s h1 ho ?_⟩) (fun p hp => (R.pin p hp).1) ht (.inl b), own_fix ow⟩
  subst hw; exact h2
theorem Rl.settle (R : Rl Z F ρ σ H) {v : V} {r : D × Bool} (h : RR Z F H ρ σ v r) : ∃ F', Stp F H F' H ∧ Rl Z F' ρ σ H ∧ Rep Z.K Z.mg F' H v r.1 := by
  unfold RR at h
  split at h
  · exact R.freeze h
  · exact ⟨F, .refl _ _, R, h⟩
end

/-! ### readings -/
/-- an exception as it lies -/
def ExcAt (K : PySem.W.Frag) (mg : Str → Option Value) (F : Fz) (H : Hp) (e : EV) (cls : Value) (dd : Option Addr) : Prop :=
  ∃ C, cls = .ref C ∧ mg e.cls = some (.ref C) ∧ match e.pay, dd with
    | none, none => True
    | some (f, x), some b => F b ∧ ∃ v, H b = some (.xd [(f, v)]) ∧ Rep K mg F H v x
    | _, _ => False
section
variable (Z : Zt)
/-- what a part of the evaluator reads -/
def tM (W : WX) {α γ : Type} (m : M α) (Rel : Fz → Hp → Evm → St → γ → α → Prop) : St → Hp → (γ → Hp → Prop) → Prop := fun σ H Q => ∃ F ρ, Rl Z F ρ σ H ∧ match m ρ with
  | .ok a ρ' => ∀ v F' H', Stp F H F' H' → Rl Z F' ρ' σ H' → Rel F' H' ρ' σ v a → Q v H'
  | .exc e ρ' => ∀ cls dd F' H', Stp F H F' H' → Rl Z F' ρ' σ H' → ExcAt Z.K Z.mg F' H' e cls dd → W cls dd σ H'
  | .stk => False
abbrev tEv (W : WX) (m : M (D × Bool)) : TE := tM Z W m (RR Z)
def OpR' (F : Fz) (H : Hp) (ρ : Evm) (σ : St) (v : V) : Op → Prop
  | .pl i => σ[i]? = some (some v)
  | .vl x => Rep Z.K Z.mg F H v x
abbrev tOpn (W : WX) (m : M Op) : TE := tM Z W m (OpR' Z)
end
theorem PE.imp {X : Cx} {e : Expr} {t u : TE} (h : PE X e t) (w : ∀ σ H Q, u σ H Q → t σ H Q) : PE X e u := ⟨fun pins s σ H Q I q => h.run pins s σ H Q I (w σ H Q q)⟩
theorem PT.imp {X : Cx} {e : Expr} {t u : TT} (h : PT X e t) (w : ∀ σ H Q, u σ H Q → t σ H Q) : PT X e u := ⟨fun pins s σ H Q I q => h.run pins s σ H Q I (w σ H Q q)⟩
theorem PA.imp {X : Cx} {e : List Expr} {t u : TA} (h : PA X e t) (w : ∀ σ H Q, u σ H Q → t σ H Q) : PA X e u := ⟨fun pos pins s σ H Q I q => h.run pos pins s σ H Q I (w σ H Q q)⟩
end PV
end

section
set_option maxHeartbeats 4000000
/-! An own exception class whose __init__ says super().__init__(f) and self.f = f. -/
namespace PV
open PySem PySem.Spec L2
open PyProof.Rows hiding St

def initBody (f : Str) (p0 p1 p2 p3 p4 p5 p6 p7 p8 p9 : Pos) : List Stmt := [.Expr (.Call (.Attribute (.Call (.Name "super" p0) [] [] p1) "__init__" p2) [.Name f p3] [] p4) p5, .Assign [.Attribute (.Name "self" p6) f p7] (.Name f p8) p9]
def initSp (C : Addr) (f : Str) : Sp := fun vs H Q _ => ∃ (a : Addr) (v : V), vs = [.ref a, v] ∧ H a = some (exo a C none) ∧ ∀ dx, H dx = none → dx ≠ a → Q .non (upd (upd H dx (exd dx [(f, v)])) a (exo a C (some dx)))
def initScope (f : Str) (sc : Scope) : Scope := { sc with names := [("self", .local), (f, .local)] }

section
variable {P : Program} {w : World} {A : Around} {E : Value → Shared → Prop} {h : Heap} {g : Array GenState} {d : Drawn} {t : Nat} {os : OsState} {K : PySem.W.Frag}
/-- the method-wrapper of ValueError.__init__ bound to an exception, called -/
theorem mw_call {u e t0 C : Addr} {rest : List Value} {nm q : Str} {N : Addr} {bs bm : List Value} {hd : Bool} {sn : List Str} {sub : List Value} {ab : Bool} {col : Option Bool} {dd : Option Addr} {k0 k1 k2 k3 k5 : Option Value} {Q : Value → Shared → Prop}
    (hC : h.get? C = some (excClassObj nm q C N bs bm hd sn sub ab col dd k0 k1 k2 k3 k5 "ValueError.__new__")) (he : h.get? e = some (PySem.HandSPX.excO C t0)) (hu : h.get? u = some (PySem.W.kxs_mw "ValueError.__init__" e)) (hz : rest.length ≤ sizeLine)
    (hq : ∀ h' t1, (∀ b o, b ≠ e → h.get? b = some o → h'.get? b = some o) → h'.get? e = some (PySem.HandSPX.excO C t1) → Q .none ⟨h', g, d, t, os⟩) :
    wpAny (model P w) A (call (.ref u) rest) Q E ⟨h, g, d, t, os⟩ := by
  refine wpAny_call (codeAny_of_tree ?_)
  show wpAny _ A.in1 (callAny (.ref u) ⟨rest, []⟩) _ _ _
  simp only [callAny]
  refine wpAny_bind (wpAny_load hu ?_)
  simp only [PySem.W.kxs_mw, show (Value.type "method-wrapper" == Value.type "method" || Value.type "method-wrapper" == Value.type "builtin_function_or_method" || Value.type "method-wrapper" == Value.type "method-wrapper") = true by decide, if_true]
  refine PySem.W.KFB.if_so (by decide) ?_
  refine wpAny_bind (PySem.W.check_bound_init F.excBase_ValueError.toExcCallFacts hC he rfl ?_)
  refine wpAny_bind (wpAny_pure (wpAny_pure ?_))
  refine ⟨Code.quiet_builtin _ (by decide +kernel), codeAny_builtin F.excBase_ValueError.initEntry ?_⟩
  exact PySem.W.exc_init_tree (cls := .ref C) (t0 := t0) (dv := none) (c2 := .none) (c3 := .none) (b4 := .bool false) he hz fun h' k e' _ => hq h' _ k e'
end

/-- how super().__init__(f) is evaluated (by rfl at written places) -/
def SupEv (f : Str) (p0 p1 p2 p3 p4 : Pos) : Prop := ∀ env : Env, ∃ pl, eval (.Call (.Attribute (.Call (.Name "super" p0) [] [] p1) "__init__" p2) [.Name f p3] [] p4) env = (do
  let ov ← attributeBase (.Call (.Name "super" p0) [] [] p1) "__init__" env (eval (.Call (.Name "super" p0) [] [] p1) env)
  standAt p2.atName
  let (fz, first) ← holding [ov] (getMethod ov "__init__" pl)
  callWith p4 fz first (backTo p4 (starEach [.Name f p3] env)) [])
/-- what stands of such a class -/
structure InitC (P : Program) (K : PySem.W.Frag) (C : Addr) (f : Str) (fI : Addr) (fd : FuncData) : Prop where
  T : OexC K C
  iC : PySem.W.findIn K (.ref C) "__init__" = some (some (.ref fI))
  tI : PySem.W.typeIn K (.ref fI) = some (.type "function")
  hno : PySem.W.findIn K (.ref C) f = some none
  hS : PySem.W.ks_superIn K C C "__init__" = some (some (.builtin "ValueError.__init__"))
  hV : PySem.W.subIn K (.ref C) (.type "ValueError") = some true
  hM : PySem.W.mroIn K C (.ref C) = some true
  hno3 : PySem.W.nsIn K cStatics "thirdparty.any" = some none
  ex : ∃ (name qual file : Str) (tf : Tok) (params : Arguments) (scope : Scope) (dV kV doc pm ct oc ccl cl : Value) (an od cdd cld : Option Addr) (osl ccs csl : Array (Option Value)) (vs0 : Array Value) (cc cda : Addr) (ar : Arg) (p0 p1 p2 p3 p4 p5 p6 p7 p8 p9 : Pos),
    fd = PySem.W.ksFn name qual params (initBody f p0 p1 p2 p3 p4 p5 p6 p7 p8 p9) scope dV kV doc pm an (.ref cda) ct cc ∧ K.lookup fI = some ⟨oc, od, .func fd, osl⟩ ∧ PySem.W.codeIn K (.ref cda) qual = true ∧
    (params.posonlyargs ++ params.args).head? = some ar ∧ ar.arg = "self" ∧ K.lookup cda = some ⟨ccl, cdd, .fields vs0, ccs⟩ ∧ vs0[2]? = some (.str file tf) ∧ ((P.main.file : Str) == file) = true ∧
    K.lookup cc = some ⟨cl, cld, .cell (some (.ref C)), csl⟩ ∧ scope.names.lookup ("self" : Str) = some .local ∧ scope.names.lookup f = some .local ∧ scope.names.lookup ("super" : Str) = some .globalImplicit ∧ scope.names.lookup ("__class__" : Str) = some .free ∧
    (∀ x ∈ scope.names, x.2 ≠ .cell) ∧ scope.isCoroutine = false ∧ scope.isGenerator = false ∧ scope.kind = .function ∧ SupEv f p0 p1 p2 p3 p4
  nm : f ≠ "self" ∧ (f == ("__debug__" : Str)) = false
  htop : (P.main.scope.names.lookup ("super" : Str)).isSome = false

theorem initFn_ok {CX : CXT} {P : Program} {w : World} {K : PySem.W.Frag} {mg : Str → Option Value} {base : Heap} {k : Nat} {fI C : Addr} {f : Str} {fd : FuncData} (I0 : InitC P K C f fI fd) (hsuper : mg "super" = none) : FnOk P w K mg base CX (k + 1) fI fd ["self", f] (initSp C f) := by
  obtain ⟨T, iC, tI, hno, hS, hV, hM, hno3, ⟨name, qual, file, tf, params, scope, dV, kV, doc, pm, ct, oc, ccl, cl, an, od, cdd, cld, osl, ccs, csl, vs0, cc, cda, ar, p0, p1, p2, p3, p4, p5, p6, p7, p8, p9, rfl, lk, hcd, hp, har, hcode, hvs, hfile, hcl, hN, hF, hks, hkc, hncell, hco, hgen, hk, hev⟩, ⟨hfs, hdb⟩, htop⟩ := I0
  refine ⟨fun vs H Q E q => ?_, fun A outer s H args us vs Q E hr e0 hb hv hsp => ?_⟩
  · obtain ⟨a, v, rfl, _⟩ := q
    rfl
  obtain ⟨a, v, rfl, ea, hq⟩ := hsp
  cases hv with
  | @cons _ u0 _ ur ra rw' =>
  cases rw' with
  | @cons _ u1 _ ur' rv rn =>
  cases rn
  obtain rfl : u0 = Value.ref a := ra
  have KX : K.In s.heap := e0.mod.kin.keeps fun b o e => (e0.bs b o e).1
  have lim : s.heap.NoLimit := e0.mod.nolimit.keeps fun b o e => (e0.bs b o e).1
  refine ks_codeAny_call_defAt (body := initBody f p0 p1 p2 p3 p4 p5 p6 p7 p8 p9) hr.depth (KX _ _ lk) rfl lim (PySem.W.codeRec_of KX hcd) rfl hb hncell (fun x hx => ?_) (fun h1 hns hk1 => ?_) hco hgen hk
  · rcases List.mem_cons.mp hx with e | hx
    · rw [e]; exact hN
    · rcases List.mem_cons.mp hx with e | hx
      · rw [e]; exact hF
      · cases hx
  have hne : h1.get? C = h1.get? C := rfl
  have hL : s.heap.objs.size ≠ a := fun z => by
    have := e0.hok.fresh (Nat.le_refl s.heap.objs.size)
    rw [z, ea] at this
    cases this
  have S : FnScope ["self", f] ["self", f] (initScope f scope) := ⟨hk, hco, hgen, by simp [Ne.symm hfs], rfl, fun x hx => .inl ?_, fun y hy => ?_⟩
  rotate_left
  · rcases List.mem_cons.mp hx with e | hx
    · rw [e]; rfl
    · rcases List.mem_cons.mp hx with e | hx
      · rw [e]
        show List.lookup f [(("self" : Str), NameKind.local), (f, .local)] = _
        rw [List.lookup_cons]
        have z : (f == ("self" : Str)) = false := by simpa using hfs
        rw [z]
        simp [List.lookup]
      · cases hx
  · have : y = (("self" : Str), NameKind.local) ∨ y = (f, NameKind.local) := by simpa [initScope] using hy
    rcases this with e | e <;> rw [e] <;> exact fun z => NameKind.noConfusion z
  have hsf : (("self" : Str) == f) = false := by simpa using Ne.symm hfs
  have bL : (bindL (envOfC qual (initScope f scope) s.heap.objs.size fI (.ref cda)).kindOf ([("self" : Str), f].zip [Value.ref a, u1]) fun _ => none) = fun x => ([("self" : Str), f].zip [Value.ref a, u1]).reverse.lookup x := by
    have kS : (envOfC qual (initScope f scope) s.heap.objs.size fI (.ref cda)).kindOf "self" = some .local := rfl
    have kF : (envOfC qual (initScope f scope) s.heap.objs.size fI (.ref cda)).kindOf f = some .local := by
      show List.lookup f [(("self" : Str), NameKind.local), (f, .local)] = _
      rw [List.lookup_cons]
      have z : (f == ("self" : Str)) = false := by simpa using hfs
      rw [z]
      simp [List.lookup]
    funext y
    simp only [List.zip_cons_cons, List.zip_nil_right, bindL, kS, kF, if_true, List.reverse_cons, List.reverse_nil, List.nil_append, List.cons_append, List.lookup_cons]
    by_cases e1 : y = f
    · subst e1
      simp
    · have z1 : (y == f) = false := by simpa using e1
      by_cases e2 : y = ("self" : Str)
      · rw [if_neg e1, if_pos e2, z1, e2]
        simp
      · have z2 : (y == ("self" : Str)) = false := by simpa using e2
        rw [if_neg e1, if_neg e2, z1, z2]
        rfl
  have x0 : InCallC s s.heap.objs.size (bindL (envOfC qual (initScope f scope) s.heap.objs.size fI (.ref cda)).kindOf ([("self" : Str), f].zip [Value.ref a, u1]) fun _ => none) (cellsFrom (s.heap.objs.size + 1) (initScope f scope).names []) (bindC (envOfC qual (initScope f scope) s.heap.objs.size fI (.ref cda)).kindOf ([("self" : Str), f].zip [Value.ref a, u1]) fun _ => none)
      { s with heap := h1, toks := s.toks + ([("self" : Str), f].zip [Value.ref a, u1]).length } := by
    refine ⟨⟨⟨h1, _, rfl⟩, ?_, hk1, Nat.le_refl _⟩, fun n c (hc : List.lookup n ([] : List (Str × Addr)) = some c) => (by cases hc), List.Pairwise.nil, fun n c (hc : (n, c) ∈ ([] : List (Str × Addr))) => (by cases hc)⟩
    rw [bL]
    exact hns
  have I := inv_start (CX := CX) (E := E) (vs := [.ref a, v]) S hr.hd e0 rfl (.cons rfl (.cons rv .nil)) x0
  have KX1 : K.In h1 := KX.keeps hk1
  obtain ⟨nm, qn, N, bs, bm, sn, sub, ab, col, dd, k0, k1, k2, k3, k5, hC, hbm⟩ := T.cls
  obtain ⟨t1, ho⟩ := exo_at I.hok ea
  have ho : h1.get? a = some (PySem.HandSPX.excO C t1) := ho
  have hC1 := KX1 _ _ hC
  have aC : a ≠ C := fun z => by
    rw [z] at ho
    rw [hC1] at ho
    cases ho
  have hclsIn : PySem.W.clsIn K C = some { name := nm, bases := bs, mro := .ref C :: bm, ns := N, qualname := qn, hasDict := true, slotNames := sn, subclasses := sub, abstract := ab, collection := col, hasDel := false } := by unfold PySem.W.clsIn; rw [hC] <;> rfl
  obtain ⟨mb, hb1, hb2⟩ := I.ok.mod.blt
  have lg : ∀ y, ([("self" : Str), f].zip [Value.ref a, u1]).reverse.lookup y = if y = f then some u1 else if y = ("self" : Str) then some (.ref a) else none := fun y => by
    simp only [List.zip_cons_cons, List.zip_nil_right, List.reverse_cons, List.reverse_nil, List.nil_append, List.cons_append, List.lookup_cons]
    by_cases e1 : y = f
    · subst e1
      simp
    · have z1 : (y == f) = false := by simpa using e1
      by_cases e2 : y = ("self" : Str)
      · rw [if_neg e1, if_pos e2, z1, e2]
        simp
      · have z2 : (y == ("self" : Str)) = false := by simpa using e2
        rw [if_neg e1, if_neg e2, z1, z2]
        rfl
  have hint : interactive (PySem.W.ksEnv qual scope s.heap.objs.size fI (.ref cda) cc) = false := by
    show (scope.kind == ScopeKind.module && _) = false
    rw [hk]
    rfl
  obtain ⟨pl, hev⟩ := hev (PySem.W.ksEnv qual scope s.heap.objs.size fI (.ref cda) cc)
  refine PySem.ks_wpAt_execs_cons (ks_wpAt_Expr_any (ks_wpAt_MethodCall (pl := pl) ?_ hev) hint)
  refine ks_wpAt_super_base (env := PySem.W.ksEnv qual scope s.heap.objs.size fI (.ref cda) cc) hks hkc rfl rfl (KX1 _ _ lk) rfl hp rfl (KX1 _ _ hcode) rfl hvs hfile htop ?_
  refine PySem.W.ks_loadName_global hk hks (Calls.loadGlobal_builtin (env := PySem.W.ksEnv qual scope s.heap.objs.size fI (.ref cda) cc) (I.ok.mod.glob.keeps I.bk) hsuper (hb1.keeps I.bk) ((hb2 _ (by decide)).trans rfl) ⟨rfl, ?_⟩)
  refine wpAny_loadName_free hk hkc rfl ⟨_, KX1 _ _ hcl, rfl⟩ ?_
  rw [har]
  refine wpAny_loadName_local hk hN hns (by rw [lg, if_neg (Ne.symm hfs), if_pos rfl]) ?_
  refine ks_wpAny_isType_cls hC1 rfl ⟨rfl, ?_⟩
  refine ks_wpAny_call_super hC1 rfl ho rfl (fun c e => by cases e) (PySem.W.looks_mroIn KX1 hM) (fun h2 hso hk2 => ?_)
  have KX2 : K.In h2 := KX1.keeps hk2
  have hI2 : PySem.W.Looks (model P w) h2 (isInstance (.ref a) (.type "ValueError")) true := (show PySem.W.InstAt h2 a (PySem.HandSPX.excO C t1) C none from ⟨hk2 _ _ ho, rfl, rfl, trivial⟩).type.andThen (PySem.W.looks_subIn KX2 hV)
  have hS2 := hS
  unfold PySem.W.ks_superIn at hS2
  rw [hclsIn] at hS2
  refine PySem.W.kxs_getMethod PySem.W.kxs_ValueError hso (PySem.W.looks_opaque KX2 hno3) (l₀ := .ref C :: bm) (fun A Q E s k q => wpAny_bind ((PySem.W.looks_clsIn KX2 hclsIn) A _ E s k (wpAny_pure q))) rfl KX2 hS2 hI2 aC rfl ?_
  have kO2 : ∀ b o, h1.get? b = some o → (h2.push (PySem.W.kxs_mw "ValueError.__init__" a)).get? b = some o := fun b o e => Heap.get?_push_of_some _ (hk2 b o e)
  have hmw : (h2.push (PySem.W.kxs_mw "ValueError.__init__" a)).get? h2.objs.size = some (PySem.W.kxs_mw "ValueError.__init__" a) := Heap.get?_push_at rfl rfl
  have hns2 : (h2.push (PySem.W.kxs_mw "ValueError.__init__" a)).Ns s.heap.objs.size (fun x => ([("self" : Str), f].zip [Value.ref a, u1]).reverse.lookup x) := by
    obtain ⟨o, es, ep, hL1, r⟩ := hns
    exact ⟨o, es, ep, kO2 _ _ hL1, r⟩
  refine PySem.W.kxs_callWith (i := "ValueError.__init__") (x := a) rfl (PySem.Calls.evalArgs_plain (Calls.spliced_cons (wpAny_Name (wpAny_loadName_local hk hF hns2 (by rw [lg, if_pos rfl]) (Calls.spliced_nil ⟨hmw, ?_⟩)) hdb)))
  refine mw_call (kO2 _ _ hC1) (kO2 _ _ ho) hmw (by rw [sizeLine_eq]; exact Nat.le_of_lt (by show 1 < _; omega)) fun h4 t4 hk4 ho4 => ?_
  have J2 := I.un (t' := s.toks + ([("self" : Str), f].zip [Value.ref a, u1]).length + 1) (Un.kept kO2) (I.hok.kept kO2)
  have J4 := J2.write (h' := h4) (t' := s.toks + ([("self" : Str), f].zip [Value.ref a, u1]).length + 1) (x := a) (e := a) (o := exo a C none) (by rw [ea]; exact True.intro) (.inl rfl) hk4 ⟨_, ho4⟩ (exo_ok ho4)
  have eu : upd H a (exo a C none) = H := by
    funext b
    by_cases hb : b = a
    · rw [hb, upd_same, ea]
    · rw [upd_ne hb]
  rw [eu] at J4
  have hns4 : h4.Ns s.heap.objs.size (fun x => ([("self" : Str), f].zip [Value.ref a, u1]).reverse.lookup x) := by
    obtain ⟨o, es, ep, hL1, r⟩ := hns2
    exact ⟨o, es, ep, hk4 _ _ hL hL1, r⟩
  show PySem.wpAt _ _ _ (execs _ _) _ _ _
  refine PySem.ks_wpAt_execs_cons (ks_wpAt_Assign_Attr (wpAt_of_wpAny (wpAny_Name (wpAny_loadName_local hk hF hns4 (by rw [lg, if_pos rfl]) (wpAny_Name (wpAny_loadName_local hk hN hns4 (by rw [lg, if_neg (Ne.symm hfs), if_pos rfl]) ?_) (by decide))) hdb)))
  refine ost_new (X := cxOf CX P w K mg base [("self" : Str), f] qual (initScope f scope) fI (.ref cda) A outer s H E) T J4 ea hno rv fun dx s' hn hne J' => ?_
  show PySem.wpAt _ _ _ (execs [] _) _ _ _
  refine wpAt_of_wpAny (wpAny_of_eq (a := .next) rfl ?_)
  exact ⟨.non, _, J'.os, J'.bare, J'.base, J'.hok, rfl, hq dx hn hne⟩

/-! ### these facts by a Bool -/
theorem supEv_ok {f : Str} {p0 p1 p2 p3 p4 : Pos} (h : (p2.endLine == p4.line) = true) : SupEv f p0 p1 p2 p3 p4 := fun env => by
  refine ⟨do return (← importBound (.Call (.Name "super" p0) [] [] p1) env).getD true, ?_⟩
  have e : ∀ few, methodCallPos few (.Call (.Name "super" p0) [] [] p1) env p2 p4 = pure p4 := fun few => by
    unfold methodCallPos
    rw [h]
    simp
  rw [arm_eval_Call]
  unfold methodCall
  simp only [e, pure_bind]
  rfl
def oexB (K : PySem.W.Frag) (C : Addr) : Bool := (match K.lookup C with
  | some ⟨.type "type", _, .cls cd, sl⟩ => (match cd.mro, sl.toList with
    | .ref C' :: bm, [_, _, _, _, some (.builtin n), _] => C' == C && n == "ValueError.__new__" && !cd.hasDel && cd.hasDict && PySem.HandSPX.refsVE bm
    | _, _ => false)
  | _ => false) && (He.eqO (PySem.W.findIn K (.ref C) "__setattr__") (some (some (.builtin "object.__setattr__"))) && (decide (PySem.W.subIn K (.ref C) (.type "BaseException") = some true) && (decide (PySem.W.typeIn K (.ref C) = some (.type "type")) && decide (PySem.W.keepIn K (.ref C) = true))))
theorem oexB_ok {K : PySem.W.Frag} {C : Addr} (h : oexB K C = true) : OexC K C := by
  unfold oexB at h
  simp only [Bool.and_eq_true] at h
  obtain ⟨q, h1, h2, h3, h4⟩ := h
  refine ⟨?_, He.eqO_ok h1, of_decide_eq_true h2, of_decide_eq_true h3, of_decide_eq_true h4⟩
  split at q
  · rename_i dd cd sl ho
    split at q
    · rename_i C' bm k0 k1 k2 k3 n k5 hm hs
      simp only [Bool.and_eq_true, beq_iff_eq, Bool.not_eq_true'] at q
      obtain ⟨⟨⟨⟨rfl, rfl⟩, hdel⟩, hdi⟩, ht⟩ := q
      obtain ⟨nm, bs, mro, ns, qn, hd, sn, sub, ab, col, del⟩ := cd
      dsimp only at hm hdel hdi
      subst hm hdel hdi
      have hsl : sl = #[k0, k1, k2, k3, some (.builtin "ValueError.__new__"), k5] := by
        obtain ⟨l⟩ := sl
        simp only at hs
        rw [hs]
      subst hsl
      exact ⟨_, _, _, _, _, _, _, _, _, _, _, _, _, _, _, ho, ht⟩
    · cases q
  · cases q
def fdB (P : Program) (K : PySem.W.Frag) (C : Addr) (f : Str) : FuncData → Bool
  | ⟨_, qual, ⟨[], [a1, a2], none, [], [], none, []⟩, .stmts [.Expr (.Call (.Attribute (.Call (.Name s0 _) [] [] _) s1 p2) [.Name s2 _] [] p4) _, .Assign [.Attribute (.Name s3 _) s4 _] (.Name s5 _) _], scope, gl, [(sc, cc)], .none, _, _, _, _, .ref cda, _, bl⟩ =>
    decide (s0 = "super") && (decide (s1 = "__init__") && (decide (s2 = f) && (decide (s3 = "self") && (decide (s4 = f) && (decide (s5 = f) && (decide (a1.arg = "self") && (decide (a2.arg = f) && (decide (gl = mainGlobals) && (decide (sc = "__class__") && (decide (bl = builtinsNs) && (p2.endLine == p4.line &&
      (PySem.W.codeIn K (.ref cda) qual && ((match K.lookup cda with
        | some ⟨_, _, .fields vs, _⟩ => (match (vs[2]? : Option Value) with
          | some (.str file _) => (P.main.file : Str) == file
          | _ => false)
        | _ => false) && ((match K.lookup cc with
        | some ⟨_, _, .cell (some (.ref D)), _⟩ => decide (D = C)
        | _ => false) && (decide (scope.names.lookup ("self" : Str) = some .local) && (decide (scope.names.lookup f = some .local) && (decide (scope.names.lookup ("super" : Str) = some .globalImplicit) && (decide (scope.names.lookup ("__class__" : Str) = some .free) &&
      ((scope.names.all fun x => !decide (x.2 = .cell)) && (!scope.isCoroutine && (!scope.isGenerator && decide (scope.kind = .function))))))))))))))))))))))
  | _ => false
def initB (P : Program) (K : PySem.W.Frag) (C : Addr) (f : Str) : Bool := oexB K C && (match PySem.W.findIn K (.ref C) "__init__" with
  | some (some (.ref fI)) => decide (PySem.W.typeIn K (.ref fI) = some (.type "function")) && (match K.lookup fI with
    | some ⟨_, _, .func fd, _⟩ => fdB P K C f fd
    | _ => false)
  | _ => false) && (He.eqO (PySem.W.findIn K (.ref C) f) (some none) && (He.eqO (PySem.W.ks_superIn K C C "__init__") (some (some (.builtin "ValueError.__init__"))) && (decide (PySem.W.subIn K (.ref C) (.type "ValueError") = some true) && (decide (PySem.W.mroIn K C (.ref C) = some true) &&
  (He.eqO (PySem.W.nsIn K cStatics "thirdparty.any") (some none) && (!decide (f = "self") && (!(f == ("__debug__" : Str)) && !(P.main.scope.names.lookup ("super" : Str)).isSome)))))))
theorem initB_ok {P : Program} {K : PySem.W.Frag} {C : Addr} {f : Str} (h : initB P K C f = true) : ∃ fI fd, InitC P K C f fI fd ∧ L2.Binds K fd ["self", f] [] := by
  unfold initB at h
  simp only [Bool.and_eq_true, Bool.not_eq_true', decide_eq_false_iff_not] at h
  obtain ⟨⟨h1, h2⟩, h3, h4, h5, h6, h7, h8, h9, h10⟩ := h
  split at h2
  · rename_i fI hfI
    rw [Bool.and_eq_true] at h2
    obtain ⟨h11, h12⟩ := h2
    split at h12
    · rename_i oc od fd osl hk
      refine ⟨fI, fd, ⟨oexB_ok h1, hfI, of_decide_eq_true h11, He.eqO_ok h3, He.eqO_ok h4, of_decide_eq_true h5, of_decide_eq_true h6, He.eqO_ok h7, ?_, ⟨h8, h9⟩, h10⟩, ?_⟩
      · unfold fdB at h12
        split at h12
        · rename_i name qual a1 a2 s0 p0 p1 s1 p2 s2 p3 p4 p5 s3 p6 s4 p7 s5 p8 p9 scope gl sc cc kV doc pm an cda ct bl
          simp only [Bool.and_eq_true, Bool.not_eq_true', decide_eq_true_eq, List.all_eq_true, decide_eq_false_iff_not] at h12
          obtain ⟨rfl, rfl, rfl, rfl, rfl, rfl, e1, e2, rfl, rfl, rfl, e3, e4, e5, e6, e7, e8, e9, e10, e11, e12, e13, e14⟩ := h12
          split at e5
          · rename_i ccl cdd vs ccs hcda
            split at e5
            · rename_i file tf hv2
              split at e6
              · rename_i cl cld D csl hcc
                obtain rfl : D = C := of_decide_eq_true e6
                exact ⟨name, qual, file, tf, _, scope, .none, kV, doc, pm, ct, oc, ccl, cl, an, od, cdd, cld, osl, ccs, csl, vs, cc, cda, a1, p0, p1, p2, p3, p4, p5, p6, p7, p8, p9, rfl, hk, e4, rfl, e1, hcda, hv2, e5, hcc, e7, e8, e9, e10, e11, e12, e13, e14, supEv_ok e3⟩
              · cases e6
            · cases e5
          · cases e5
        · cases h12
      · unfold fdB at h12
        split at h12
        · rename_i name qual a1 a2 s0 p0 p1 s1 p2 s2 p3 p4 p5 s3 p6 s4 p7 s5 p8 p9 scope gl sc cc kV doc pm an cda ct bl
          simp only [Bool.and_eq_true, Bool.not_eq_true', decide_eq_true_eq, List.all_eq_true, decide_eq_false_iff_not] at h12
          obtain ⟨_, _, _, _, _, _, e1, e2, _⟩ := h12
          rw [← e1, ← e2]
          have hfs : (a2.arg == a1.arg) = false := by
            rw [e1, e2]
            simpa using h8
          refine .all fun us hl => ?_
          match us, hl with
          | [u0, u1], _ =>
            have l1 : List.lookup a1.arg [(a1.arg, u0), (a2.arg, u1)] = some u0 := by simp [List.lookup]
            have l2 : List.lookup a2.arg [(a1.arg, u0), (a2.arg, u1)] = some u1 := by simp [List.lookup, hfs]
            simp only [bindArgs, List.map_cons, List.map_nil, List.nil_append, List.append_nil, List.zip_cons_cons, List.zip_nil_right, List.forIn_nil, pure_bind]
            have e0 : seqItems? Value.none = pure none := rfl
            simp [e0, l1, l2]
        · cases h12
    · cases h12
  · cases h2

/-! ### isinstance of an exception, whether it has a dict or not -/
section
open PySem.W PySem.Calls
variable {prog : Program} {w : World} {A : Around} {E : Value → Shared → Prop} {s : Shared} {K : Frag} {x D : Addr} {ox : Obj} {od : Option Obj}
theorem findObj_dataD {C : Addr} {name : Str} {a g : Value} (hc : (clsIn K C).isSome = true) (ha : findIn K (.ref C) name = some (some a)) (hg : specialIn K a "__get__" = some (some g)) (ht : takesIn K a = some true) : findObj K C od name = some (.bind g a) := by
  obtain ⟨cd, hc⟩ := Option.isSome_iff_exists.mp hc
  unfold findObj
  rw [hc, Option.bind_some, ha, Option.bind_some]
  simp [hg, ht]
theorem kin_classD (C : ExcC K D) {Q : Option Value → Shared → Prop} (X : K.In s.heap) (I : InstAt s.heap x ox D od) (h : Q (some (.ref D)) { s with toks := s.toks + 1 }) : wpAny (model prog w) A (getAttr? (.ref x) "__class__") Q E s := by
  have hf : findObj K D od "__class__" = some (.bind (.builtin "getset_descriptor.__get__") (.builtin "object.__class__")) := findObj_dataD (by obtain ⟨cd, hc, _⟩ := any_some C.hd; rw [hc]; rfl) C.ha C.hn C.ht
  obtain ⟨hp, g, d, t, os⟩ := s
  have L0 := I.type (M := model prog w)
  have L1 := looks_findIn (M := model prog w) X C.hg
  have L2 := looks_findIn (M := model prog w) X C.hk
  have L3 := looks_find (M := model prog w) X I hf
  have sub : Looks (model prog w) hp (isInstance (.ref x) (.type "BaseException")) true := L0.andThen (looks_subIn X C.hs)
  have hx2 : (Value.builtin "BaseException.__getattribute__" == Value.builtin "object.__getattribute__") = false := by decide +kernel
  have hx1 : (onTheHeap (Value.ref D) && Value.builtin "BaseException.__getattribute__" == Value.builtin "object.__getattribute__") = false := by rw [hx2]; rfl
  have hx0 : (false && onTheHeap (Value.builtin "BaseException.__getattribute__")) = false := rfl
  unfold getAttr? getAttrBy? getAttrBy
  refine wpAny_bind (wpAny_mkText (wpAny_bind (wpAny_attempt (wpAny_holding (wpAny_bind (L0.at (wpAny_bind (L1.at ?_))))))))
  show wpAny _ _ (if (onTheHeap (Value.ref D) && Value.builtin "BaseException.__getattribute__" == Value.builtin "object.__getattribute__") = true then _ else _) _ _ _
  rw [hx1, if_neg Bool.false_ne_true]
  unfold getAttrByItsOwn hookBefore
  refine wpAny_bind ?_
  rw [if_pos (show onTheHeap (Value.ref D) = true from rfl)]
  refine L2.at ?_
  refine wpAny_bind (wpAny_attempt (wpAny_holding ?_))
  unfold callGetattribute
  rw [hx0, if_neg Bool.false_ne_true]
  unfold boundAndCalled
  rw [PySem.F.excAttr_ValueError.ga.bind (.ref x)]
  refine wpAny_bind (wpAny_pure ?_)
  show wpAny _ _ (call (.builtin "BaseException.__getattribute__") [.ref x, .str "__class__" t]) _ _ _
  refine wpAny_call (codeAny_call_builtin PySem.F.excAttr_ValueError.ga.plain PySem.F.entry_bexc_ga ?_)
  refine @check_slot (model prog w) _ _ ⟨hp, g, d, t + 1, os⟩ "BaseException.__getattribute__" "BaseException" "__getattribute__" (.ref x) [.str "__class__" t] [] _ (by decide +kernel) (by decide +kernel) sub (PySem.F.args_bexc_ga (.ref x) (.str "__class__" t)) ?_
  unfold Builtin.«object.__getattribute__»
  refine wpAny_bind (wpAny_of_eq (a := ((Value.ref x : Value), [Value.str "__class__" t])) (by first | rfl | (simp only [slotArgs]; rfl)) ?_)
  refine wpAny_bind (wpAny_pure (wpAny_bind (L0.at (wpAny_bind (L3.at ?_)))))
  show wpAny _ _ (holding [Value.builtin "object.__class__"] (call (.builtin "getset_descriptor.__get__") [.builtin "object.__class__", .ref x, .ref D]) >>= ret) _ _ _
  refine wpAny_bind (wpAny_holding (wpAny_call (class_get (s := ⟨hp, g, d, t + 1, os⟩) (ox := ox) (od := od) X I C.hm ?_)))
  refine wpAny_pure ?_
  show wpAny _ _ (handedOut (.ref D)) _ _ _
  rw [handedOut_of (v := .ref D) rfl]
  first
    | exact wpAny_pure (wpAny_pure h)
    | exact wpAny_pure h
    | exact wpAny_pure (wpAny_bind (wpAny_pure (wpAny_pure h)))
theorem kitx_excD (C : ExcC K D) : KitX K (.ref x) (.ref D) (fun h => ∃ od, InstAt h x ox D od) where
  ty := fun _ _ _ ⟨_, I⟩ => I.type
  it := fun _ _ X _ => by
    obtain ⟨cdD, hcD, _⟩ := any_some C.hd
    unfold clsIn at hcD
    split at hcD
    · rename_i c' d' cd' sl' ho
      intro A' Q' E' s' k q
      unfold isType loadHead
      exact wpAny_bind (wpAny_loadPart (k _ _ (X _ _ ho)) (wpAny_pure q))
    · cases hcD
  ne := (handS_kitx_exc (x := x) (ox := ox) C.hg C.hk C.hs C.hd C.ha C.hn C.ht C.hm).ne
  ca := fun X ⟨_, I⟩ k => kin_classD C X I k
end
theorem call_isD {X : Cx} {a D : Addr} {oe : Obj} {dd : Option Addr} {pn : List (Addr × Obj)} (C : ExcC X.K D) (hz : Zc (.ref D) dd oe) (hf : ∃ vs, oe.data = .fields vs) :
    CallR (X.suite a ((a, oe) :: pn)) (.builtin "isinstance") (fun xs H Q => (dd = none ∨ ∃ dx fs, dd = some dx ∧ H dx = some (.xd fs)) ∧ rIsE X.K D a xs H Q) := by
  intro pins s σ H xs us Q I r ⟨hd, h⟩
  obtain ⟨c, cv, b, rfl, hcv, e, q⟩ := h
  cases r with
  | cons rx rr =>
    cases rr with
    | cons rt rr =>
      cases rr
      cases rx
      have ec := hcv _ rt
      subst ec
      obtain ⟨hget, _⟩ := I.pin (a, oe) (List.mem_append.mpr (.inl List.mem_cons_self))
      obtain ⟨vs, hv⟩ := hf
      have J : ∃ od, PySem.W.InstAt s.heap a oe D od := by
        obtain ⟨oc, od, oda, osl⟩ := oe
        obtain ⟨h1, h2⟩ := hz
        dsimp only at h1 h2 hv
        subst h1 h2 hv
        rcases hd with rfl | ⟨dx, fs, rfl, hx⟩
        · exact ⟨none, hget, rfl, rfl, trivial⟩
        · obtain ⟨mA, ⟨o, es, ep, ho, hr⟩, _⟩ := (I.hok dx _ hx)
          exact ⟨some o, hget, rfl, rfl, ho⟩
      exact PySem.W.kia_one (kitx_excD C) I.kIn J e (fun z => nomatch z) fun tk => ⟨.bl b, H, I.kept (t' := tk) fun _ _ z => z, rfl, q⟩
end PV
end

section
set_option maxHeartbeats 4000000
/-! More rules over the model: sum, enumerate of tuples, tuple * int. -/
namespace PV
open PySem PySem.Spec L2
open PyProof.Rows hiding St
open AutoSeq1 (wpAny_loadPart')
section
variable {prog : Program} {w : World} {A : Around} {E : Value → Shared → Prop} {s : Shared}
/-- sum of a tuple of ints -/
theorem sumT_raw {l : Addr} {its : List Value} {ns : List Int} {Q : Value → Shared → Prop} (hh : A.handled = none) (hl : s.heap.IsTuple l its.toArray) (hi : IntsAre its ns)
    (h : ∀ h' tk t', (∀ b o, s.heap.get? b = some o → h'.get? b = some o) → Q (.int ns.sum t') { s with heap := h', toks := tk }) : wpAny (model prog w) A (call (.builtin "sum") [.ref l]) Q E s := by
  obtain ⟨xs, e⟩ := hi.allInts.items
  have hn : numsOf (intItems xs).toList = ns := by rw [← e]; exact hi.numsOf
  rw [nums_intItems] at hn
  rw [e] at hl
  have hlt : l < s.heap.objs.size := by obtain ⟨_, q, _⟩ := hl; exact Heap.lt_size q
  refine call_sum_walkG (wpAny_pyIter_tuple hl ?_)
  refine ⟨_, _, _, _, _, _, numAt xs, rfl, Walks.tuple (A := A.in1) hh s.heap.objs.size l (Nat.ne_of_lt hlt) (intItems xs), ⟨⟨_, Heap.get?_push_size _ rfl, rfl, rfl⟩, Heap.IsTuple.push hl _⟩, fun b hb => ?_, (fun _ _ => intItems_at), fun h' tk t' hk => ?_⟩
  · show b < (s.heap.push _).objs.size
    rw [Heap.size_push]
    have e' : b = s.heap.objs.size ∨ b = l := by simpa using hb
    rcases e' with rfl | rfl
    · exact Nat.lt_succ_self _
    · exact Nat.lt_succ_of_lt hlt
  · have := h h' tk t' fun b o q => hk b o (by
      intro hb
      have : b = s.heap.objs.size := by simpa using hb
      rw [this] at q
      exact absurd (Heap.lt_size q) (Nat.lt_irrefl _)) (Heap.get?_push_of_some _ q)
    rw [← hn] at this
    rw [preSum_eq, List.take_of_length_le (by simp [intItems])]
    exact this
end
def rSumT (K : PySem.W.Frag) : List V → Hp → VK → Prop := fun vs H Q => ∃ (a : Addr) (ns : List Int), vs = [V.ref a] ∧ SqT K H a (ns.map V.int) ∧ Q (.int ns.sum) H
theorem cr_sumT {X : Cx} (hc : X.calm = true) : CallR X (.builtin "sum") (rSumT X.K) := by
  intro pins s σ H vs us Q I r h
  obtain ⟨a, ns, rfl, hs, q⟩ := h
  obtain ⟨its, rv, hl, _⟩ := I.tuple hs
  rw [Vals.ref1 r]
  exact sumT_raw (I.ok.hd hc) hl rv.ints fun h' tk t' hk => ⟨.int _, H, I.kept hk, ⟨_, rfl⟩, q⟩

/-! ### enumerate of a tuple -/
abbrev enH1 (h : Heap) (l : Addr) : Heap := h.push { cls := .type "tuple_iterator", data := .fields #[.ref l, .int 0 0] }
abbrev enH2 (h : Heap) (l : Addr) : Heap := (enH1 h l).push { cls := .type "enumerate", data := .fields #[.none, .bool false, .ref h.objs.size, rawInt 0, .none, .none] }
theorem meets_enumT (l : Addr) (xs : Array Value) :
    Meets (Builtin.«enumerate.__new__» ⟨[.type "enumerate", .ref l], []⟩) (fun _ R s => s.heap.IsTuple l xs ∧ R (.ok (.ret (.ref (enH1 s.heap l).objs.size))) { s with heap := enH2 s.heap l }) :=
  .of_wp fun prog w A R s h => by
    obtain ⟨hp, g, d, tk, os⟩ := s
    obtain ⟨hl, h⟩ := h
    have hsub := sub_enumerate
    have hT : Heap.IsTuple (Shared.heap ⟨hp, g, d, tk, os⟩) l xs := hl
    wp_walk
    refine wpAny_stack_any fun st => wpAny_pure ?_
    split
    · rename_i c _ _ _ _ _
      cases (c == Value.type "enumerate") <;> wp_walk using wpAny_pyIter_tuple hT <;> exact ⟨_, rfl, h⟩
    · wp_walk using wpAny_pyIter_tuple hT
      exact ⟨_, rfl, h⟩
section
variable {prog : Program} {w : World} {A : Around} {E : Value → Shared → Prop} {s : Shared}
theorem call_enumT {l : Addr} {xs : Array Value} {Q : Value → Shared → Prop} (hl : s.heap.IsTuple l xs)
    (h : ∀ h', IsEnum h' (s.heap.objs.size + 1) s.heap.objs.size 0 .none → h'.IsTupleIter s.heap.objs.size l 0 → (∀ b o, s.heap.get? b = some o → h'.get? b = some o) → Q (.ref (s.heap.objs.size + 1)) { s with heap := h' }) :
    wpAny (model prog w) A (call (.type "enumerate") [.ref l]) Q E s := by
  refine callType_new F.called_enumerate (by decide) (F.typeCall_enumerate_1 _) (F.newCall_enumerate_1 _) (fun obj => F.args_object_init_2 obj _) F.entry_enumerate_new (meets_enumT l xs) ⟨hl, ?_⟩
  have z1 : (enH1 s.heap l).objs.size = s.heap.objs.size + 1 := Heap.size_push ..
  have g2 : (enH2 s.heap l).get? (enH1 s.heap l).objs.size = some _ := Heap.get?_push_size _ rfl
  have g1 : (enH2 s.heap l).get? s.heap.objs.size = some _ := Heap.get?_push_of_some _ (Heap.get?_push_size _ rfl)
  show _ ∧ _
  rw [z1] at g2 ⊢
  exact ⟨⟨_, g2, rfl⟩, h _ g2 ⟨_, g1, rfl, rfl⟩ fun b o q => Heap.get?_push_of_some _ (Heap.get?_push_of_some _ q)⟩
theorem enumT_next {e it l : Addr} {i : Nat} {xs : Array Value} {x old : Value} {Q : Value → Shared → Prop}
    (he : IsEnum s.heap e it i old) (hit : s.heap.IsTupleIter it l i) (hl : s.heap.IsTuple l xs) (hx : xs[i]? = some x) (hne : e ≠ it)
    (hQ : ∀ h', IsEnumOut h' e it ((i : Int) + 1) x s.heap.objs.size → h'.IsTupleIter it l (i + 1) → h'.get? s.heap.objs.size = some { cls := .type "tuple", data := .seq #[.int i s.toks, x] } →
      (∀ b o, b ≠ e → b ≠ it → s.heap.get? b = some o → h'.get? b = some o) → Q (.ref s.heap.objs.size) { s with heap := h', toks := s.toks + 1 }) :
    wpAny (model prog w) A (Builtin.«enumerate.__next__» ⟨[.ref e], []⟩) (fun fin s' => ∃ v, fin = .done (.ret v) ∧ Q v s') E s := by
  obtain ⟨hp, g, d, tk, os⟩ := s
  show wpAny _ _ (field (.ref e) 2 >>= _) _ _ _
  refine wpAny_bind (wpAny_field he rfl (x := .ref it) rfl ?_)
  refine wpAny_bind (RZ.nextOf_tuple_item hit hl hx fun a1 i1 b1 => ?_)
  replace b1 : Heap.SameBut it hp a1 := b1
  have e1 : IsEnum a1 e it i old := (b1.2 e hne).trans he
  show wpAny _ _ (field (.ref e) 3 >>= _) _ _ ⟨a1, g, d, tk, os⟩
  refine wpAny_bind (wpAny_field e1 rfl (x := rawInt i) rfl ?_)
  show wpAny _ _ (field (.ref e) 4 >>= _) _ _ ⟨a1, g, d, tk, os⟩
  refine wpAny_bind (wpAny_field e1 rfl (x := .none) rfl ?_)
  show wpAny _ _ (mkInt i >>= _) _ _ ⟨a1, g, d, tk, os⟩
  refine wpAny_bind (wpAny_mkInt ?_)
  show wpAny _ _ (setField (.ref e) 3 (rawInt ((i : Int) + 1)) >>= _) _ _ ⟨a1, g, d, tk + 1, os⟩
  refine wpAny_bind (wpAny_setField_rec e1 (by simp) fun a2 e2 b2 => ?_)
  replace b2 : Heap.SameBut e a1 a2 := b2
  replace e2 : IsEnum a2 e it ((i : Int) + 1) old := e2
  show wpAny _ _ (setField (.ref e) 4 .none >>= _) _ _ ⟨a2, g, d, tk + 1, os⟩
  refine wpAny_bind (wpAny_setField_rec e2 (by simp) fun a3 e3 b3 => ?_)
  replace b3 : Heap.SameBut e a2 a3 := b3
  replace e3 : IsEnum a3 e it ((i : Int) + 1) old := e3
  show wpAny _ _ (newTuple [.int i tk, x] >>= _) _ _ ⟨a3, g, d, tk + 1, os⟩
  refine wpAny_bind (wpAny_newTuple ?_)
  have e4 : IsEnum (a3.push { cls := .type "tuple", data := .seq #[.int i tk, x] }) e it ((i : Int) + 1) old := Heap.get?_push_of_some _ e3
  generalize w4 : a3.push { cls := .type "tuple", data := .seq #[.int i tk, x] } = a4 at e4
  have z3 : a3.objs.size = hp.objs.size := by rw [b3.1, b2.1, b1.1]
  have zl : e < hp.objs.size := Heap.lt_size he
  have t4 : a4.get? hp.objs.size = some { cls := .type "tuple", data := .seq #[.int i tk, x] } := by rw [← w4, ← z3]; exact Heap.get?_push_size _ rfl
  have k4 : ∀ b o, b ≠ e → b ≠ it → hp.get? b = some o → a4.get? b = some o := fun b o x1 x2 x3 => by
    rw [← w4]
    exact Heap.get?_push_of_some _ (b3.extBut b o x1 (b2.extBut b o x1 (b1.extBut b o x2 x3)))
  have i4 : a4.IsTupleIter it l (i + 1) := by
    rw [← w4]
    obtain ⟨o, ho, r⟩ := i1
    exact ⟨o, Heap.get?_push_of_some _ (b3.extBut _ _ (Ne.symm hne) (b2.extBut _ _ (Ne.symm hne) ho)), r⟩
  show wpAny _ _ (Builtin.SmallTypes.ownedTupleIsFree (.ref e) >>= _) _ _ ⟨a4, g, d, tk + 1, os⟩
  rw [z3]
  refine wpAny_bind ?_
  unfold Builtin.SmallTypes.ownedTupleIsFree
  refine wpAny_bind (wpAny_field e4 rfl (x := .none) rfl (wpAny_pure ?_))
  simp only [if_true]
  refine wpAny_bind (wpAny_rule ?_)
  refine wpAny_bind (wpAny_field e4 rfl (x := old) rfl ?_)
  refine wpAny_bind (wpAny_setField_rec e4 (by simp) fun a5 e5 b5 => ?_)
  replace b5 : Heap.SameBut e a4 a5 := b5
  replace e5 : IsEnum a5 e it ((i : Int) + 1) x := e5
  show wpAny _ _ (Builtin.SmallTypes.ownedTupleHandOut (.ref e) (.ref hp.objs.size) >>= _) _ _ ⟨a5, g, d, tk + 1, os⟩
  refine wpAny_bind ?_
  unfold Builtin.SmallTypes.ownedTupleHandOut
  refine wpAny_bind (wpAny_setField_rec e5 (by simp) fun a6 e6 b6 => ?_)
  replace b6 : Heap.SameBut e a5 a6 := b6
  replace e6 : IsEnumOut a6 e it ((i : Int) + 1) x hp.objs.size := e6
  refine wpAny_setField_rec e6 (by simp) fun a7 e7 b7 => ?_
  replace b7 : Heap.SameBut e a6 a7 := b7
  replace e7 : IsEnumOut a7 e it ((i : Int) + 1) x hp.objs.size := e7
  refine wpAny_bind (wpAny_letGo (wpAny_pure ⟨_, rfl, hQ a7 e7 ?_ ?_ fun b o x1 x2 x3 => ?_⟩))
  · obtain ⟨o, ho, r⟩ := i4
    exact ⟨o, b7.extBut _ _ (Ne.symm hne) (b6.extBut _ _ (Ne.symm hne) (b5.extBut _ _ (Ne.symm hne) ho)), r⟩
  · exact b7.extBut _ _ (Nat.ne_of_gt zl) (b6.extBut _ _ (Nat.ne_of_gt zl) (b5.extBut _ _ (Nat.ne_of_gt zl) t4))
  · exact b7.extBut b o x1 (b6.extBut b o x1 (b5.extBut b o x1 (k4 b o x1 x2 x3)))
theorem pyNext_enumT {e it l : Addr} {i : Nat} {xs : Array Value} {x old : Value} {Q : Option Value → Shared → Prop}
    (he : IsEnum s.heap e it i old) (hit : s.heap.IsTupleIter it l i) (hl : s.heap.IsTuple l xs) (hx : xs[i]? = some x) (hne : e ≠ it)
    (hQ : ∀ h', IsEnumOut h' e it ((i : Int) + 1) x s.heap.objs.size → h'.IsTupleIter it l (i + 1) → h'.get? s.heap.objs.size = some { cls := .type "tuple", data := .seq #[.int i s.toks, x] } →
      (∀ b o, b ≠ e → b ≠ it → s.heap.get? b = some o → h'.get? b = some o) → Q (some (.ref s.heap.objs.size)) { s with heap := h', toks := s.toks + 1 }) :
    wpAny (model prog w) A (pyNext (.ref e)) Q E s := by
  have hT : s.TypeIs (.ref e) "enumerate" := ⟨_, he, rfl⟩
  unfold pyNext
  refine wpAny_bind (wpAny_attempt (wpAny_callSpecial?_slot (name := Str.ofString "__next__") hT F.slot_enumerate_next ?_))
  exact wpAny_call_entry F.slot_enumerate_next hT F.entry_enumerate_next (enumT_next he hit hl hx hne fun h' a b c k => wpAny_pure (hQ h' a b c k)) (F.args_enumerate_next_1 _)
theorem pyNext_enumT_end {e it l : Addr} {i : Nat} {xs : Array Value} {old : Value} {Q : Option Value → Shared → Prop} (hh : A.handled = none)
    (he : IsEnum s.heap e it i old) (hit : s.heap.IsTupleIter it l i) (hl : s.heap.IsTuple l xs) (hx : xs[i]? = none) (hQ : ∀ h', Heap.ExtBut it s.heap h' → Q none { s with heap := h' }) : wpAny (model prog w) A (pyNext (.ref e)) Q E s := by
  have hT : s.TypeIs (.ref e) "enumerate" := ⟨_, he, rfl⟩
  unfold pyNext
  refine wpAny_bind (wpAny_attempt (wpAny_callSpecial?_slot (name := Str.ofString "__next__") hT F.slot_enumerate_next ?_))
  refine wpAny_call_entry F.slot_enumerate_next hT F.entry_enumerate_next ?_ (F.args_enumerate_next_1 _)
  show wpAny _ _ (field (.ref e) 2 >>= _) _ _ _
  refine wpAny_bind (wpAny_field he rfl (x := .ref it) rfl ?_)
  refine wpAny_bind (RZ.nextOf_tuple_end hh hit hl hx fun h' x he' hx' => ?_)
  obtain ⟨o, ho, hc⟩ := hx'
  exact wpAny_bind (wpAny_isInstance (T := "StopIteration") (b := true) ⟨o, ho, hc⟩ isSubtype_stop (wpAny_pure (hQ _ he')))
end
/-- the tuple at a as it stands at each turn, with places -/
def IteT (K : PySem.W.Frag) (a : Addr) : It :=
  ⟨fun i H => ∃ (xs : List V) (x : V), SqT K H a xs ∧ xs[i]? = some x, fun i H v H' => ∃ T x, v = .ref T ∧ H T = none ∧ H' = upd H T (.tup [.int (i : Nat), x]) ∧ ∀ xs, SqT K H a xs → xs[i]? = some x, fun i H => ∃ xs : List V, SqT K H a xs ∧ xs.length ≤ i⟩
theorem turn_enumT {P : Program} {w : World} {K : PySem.W.Frag} {elts : List Expr} {kk : Nat} {tpos : Pos} (a e it : Addr) :
    Turn P w K (.Tuple elts kk tpos) (IteT K a) [e, it] e (fun i h => (∃ old, IsEnum h e it ((i : Nat) : Int) old) ∧ h.IsTupleIter it a i ∧ e ≠ it) where
  mem := by simp
  obj := fun i h st b hb => by
    obtain ⟨⟨old, he⟩, ⟨o, ho, hc, hd⟩, _⟩ := st
    have e' : b = e ∨ b = it := by simpa using hb
    rcases e' with z | z
    · rw [z]; exact ⟨_, he, fun v q => nomatch q⟩
    · rw [z]; exact ⟨o, ho, fun v q => by rw [hd] at q; cases q⟩
  keep := fun i h h' st k => by
    obtain ⟨⟨old, he⟩, hi, hne⟩ := st
    exact ⟨⟨old, k e (by simp) _ he⟩, hi.at fun o q => k it (by simp) o q, hne⟩
  item := by
    intro X hP hw hK hc i pins s σ H E I hf st hg
    subst hP hw hK
    obtain ⟨⟨old, he⟩, hit, hne⟩ := st
    obtain ⟨xs, x, hq, hx⟩ := hg
    obtain ⟨its, rv, p, _⟩ := I.tuple hq
    obtain ⟨u, hu, ru⟩ := rv.get hx
    have zl : e < s.heap.objs.size := Heap.lt_size he
    have il : it < s.heap.objs.size := by obtain ⟨_, q, _⟩ := hit; exact Heap.lt_size q
    refine pyNext_enumT he hit p (x := u) (by simpa using hu) hne fun h' ho hit' hT hk => ?_
    refine ⟨_, rfl, wpAny_letOwnedTupleGo_enum (s := { s with heap := h', toks := s.toks + 1 }) ho fun h'' he' sb => ?_⟩
    have hT2 : h''.get? s.heap.objs.size = some { cls := .type "tuple", data := .seq #[.int i s.toks, u] } := (sb.2 _ (Nat.ne_of_gt zl)).trans hT
    have new : ObjOk X.prog X.w (upd H s.heap.objs.size (.tup [.int (i : Nat), x])) h'' s.heap.objs.size (.tup [.int (i : Nat), x]) :=
      ⟨by show 2 ≤ sizeLine; decide, [.int i s.toks, u], .cons ⟨_, rfl⟩ (.cons ru .nil), ⟨_, hT2, rfl, _, rfl⟩⟩
    have I1 : Inv X pins σ (upd H s.heap.objs.size (.tup [.int (i : Nat), x])) { s with heap := h'', toks := s.toks + 1 } :=
      I.turnedNew (ch := [e, it]) (fun b ob hb q => (sb.2 b (fun z => hb (by simp [z]))).trans (hk b ob (fun z => hb (by simp [z])) (fun z => hb (by simp [z])) q)) hf (Nat.le_refl _) new
    refine ⟨.ref s.heap.objs.size, _, I1, rfl, ⟨_, x, rfl, I.hok.fresh (Nat.le_refl _), rfl, fun ys hy => by rw [I.tuple_inj hy hq]; exact hx⟩, ⟨⟨u, ?_⟩, hit'.at fun o q => (sb.2 it (Ne.symm hne)).trans q, hne⟩, fun b hb => ?_⟩
    · have e1 : ((i + 1 : Nat) : Int) = (i : Int) + 1 := by omega
      rw [e1]; exact he'
    · have hb' : b < s.heap.objs.size := by
        have e' : b = e ∨ b = it := by simpa using hb
        rcases e' with z | z
        · rw [z]; exact zl
        · rw [z]; exact il
      rw [upd_ne (Nat.ne_of_lt hb')]
      exact (hf b hb).1
  done := by
    intro X hP hw hK hc i pins s σ H E I hf st hg
    subst hP hw hK
    obtain ⟨⟨old, he⟩, hit, hne⟩ := st
    obtain ⟨xs, hq, hx⟩ := hg
    obtain ⟨its, rv, p, _⟩ := I.tuple hq
    obtain ⟨f0, f1, f2, f3, f4, f5⟩ := hf it (by simp)
    have hl := rv.length
    exact pyNext_enumT_end (I.ok.hd hc) he hit p (by simp; omega) fun h' eb => ⟨rfl, I.turned (t' := s.toks) (fun b o hb q => eb b o hb q) f0 f1 f3 f4 f5⟩
  self := fun A i s Q E st h => by
    obtain ⟨⟨_, he⟩, _⟩ := st
    exact wpAny_pyIter_enum he h
def iEnumA (K : PySem.W.Frag) (ta : TA) : TI := fun σ H R => ta σ H fun vs H1 => ∃ a xs, vs = [.ref a] ∧ ((SqL K H1 a xs ∧ R (Ite K a) H1) ∨ (SqT K H1 a xs ∧ R (IteT K a) H1))
theorem pi_enumA {X : Cx} {e : Expr} {ta : TA} {p pos tpos : Pos} {elts : List Expr} {kk : Nat} (hg : Gl X "enumerate") (hm : X.mg "enumerate" = none) (ha : PA X [e] ta) (hs : starEach [e] X.env = [(false, eval e X.env)] := by rfl) :
    PI X (.Tuple elts kk tpos) (.Call (.Name "enumerate" p) [e] [] pos) (iEnumA X.K ta) := by
  refine ⟨fun pins s σ H R I h => ?_⟩
  refine Call_ (ld_blt I hg hm boot_enumerate (PyProof.Rows.callWith_type1 (thn (ha.run pos pins s σ H _ I h) fun us s1 ⟨vs, H1, I1, r1, q1⟩ => ?_) hs rfl))
  obtain ⟨a, xs, ex, q2⟩ := q1
  subst ex
  cases r1 with
  | cons r rr =>
    cases rr
    cases r
    have fresh2 : ∀ b, b ∈ [s1.heap.objs.size + 1, s1.heap.objs.size] → FpOk X pins H1 b := fun b hb => by
      have hle : s1.heap.objs.size ≤ b := by
        have e' : b = s1.heap.objs.size + 1 ∨ b = s1.heap.objs.size := by simpa using hb
        rcases e' with z | z <;> rw [z]
        · exact Nat.le_add_right _ _
        · exact Nat.le_refl _
      exact I1.fpOk hle (I1.hok.fresh hle)
    rcases q2 with ⟨hq, q⟩ | ⟨hq, q⟩
    · obtain ⟨its, rv, p', hz⟩ := I1.list hq
      refine call_enumerate_list p'.isList fun h' he hit hsz hk => wpAny_pyIter_enum he ?_
      have I2 : Inv X pins σ H1 { s1 with heap := h' } := I1.kept (t' := s1.toks) hk
      exact ⟨s1.heap.objs.size + 1, [s1.heap.objs.size + 1, s1.heap.objs.size], _, _, H1, rfl, I2, turn_enum a (s1.heap.objs.size + 1) s1.heap.objs.size, ⟨⟨.none, he⟩, hit, Nat.succ_ne_self _⟩, fresh2, q⟩
    · obtain ⟨its, rv, p', hz⟩ := I1.tuple hq
      refine call_enumT (show s1.heap.IsTuple a its.toArray from p') fun h' he hit hk => wpAny_pyIter_enum he ?_
      have I2 : Inv X pins σ H1 { s1 with heap := h' } := I1.kept (t' := s1.toks) hk
      exact ⟨s1.heap.objs.size + 1, [s1.heap.objs.size + 1, s1.heap.objs.size], _, _, H1, rfl, I2, turn_enumT a (s1.heap.objs.size + 1) s1.heap.objs.size, ⟨⟨.none, he⟩, hit, Nat.succ_ne_self _⟩, fresh2, q⟩

/-! ### tuple * int, all of it -/
abbrev TupO (items : Array Value) (n : Nat) (dd : Option Addr) (sl : Array (Option Value)) : Obj := { cls := .type "tuple", dict := dd, data := .seq items n, slots := sl }
theorem tmul_same (l : Addr) (items : Array Value) (n : Nat) (dd : Option Addr) (sl : Array (Option Value)) (x : Int) (u : Tok) (c0 : (decide (x < -(2 ^ 63)) || decide (x ≥ 2 ^ 63)) = false) (c1 : (items.isEmpty || x == 1) = true) :
    Meets (Builtin.«tuple.__mul__» ⟨[.ref l, .int x u], []⟩) (fun _ R s => s.heap.get? l = some (TupO items n dd sl) ∧ R (.ok (.ret (Value.ref l))) s) :=
  .of_wp fun prog w A R s h => by
    obtain ⟨hp, g, d, tk, os⟩ := s
    obtain ⟨hl, h⟩ := h
    have f1 := AutoSeq1.idx_int
    have hT : (⟨hp, g, d, tk, os⟩ : Shared).TypeIs (.ref l) "tuple" := ⟨_, hl, rfl⟩
    wp_walk using wpAny_loadPart' hl
    repeat (first
      | (refine wpAny_ite_false (decide_eq_false (by rw [c0]; exact Bool.false_ne_true)) ?_; wp_walk using wpAny_loadPart' hl)
      | (refine wpAny_ite_true (decide_eq_true c1) ?_; wp_walk using wpAny_loadPart' hl))
    exact ⟨_, rfl, h⟩
theorem tmul_none (l : Addr) (items : Array Value) (n : Nat) (dd : Option Addr) (sl : Array (Option Value)) (x : Int) (u : Tok) (c0 : (decide (x < -(2 ^ 63)) || decide (x ≥ 2 ^ 63)) = false) (c1 : (items.isEmpty || x == 1) = false) (c2 : (decide (x ≤ 0) || items.isEmpty) = true) :
    Meets (Builtin.«tuple.__mul__» ⟨[.ref l, .int x u], []⟩) (fun _ R s => s.heap.get? l = some (TupO items n dd sl) ∧
      R (.ok (.ret (Value.ref s.heap.objs.size))) { s with heap := s.heap.push { cls := Value.type "tuple", data := Data.seq #[] }, toks := s.toks }) :=
  .of_wp fun prog w A R s h => by
    obtain ⟨hp, g, d, tk, os⟩ := s
    obtain ⟨hl, h⟩ := h
    have f1 := AutoSeq1.idx_int
    wp_walk using wpAny_loadPart' hl
    repeat (first
      | (refine wpAny_ite_false (decide_eq_false (by rw [c0]; exact Bool.false_ne_true)) ?_; wp_walk using wpAny_loadPart' hl)
      | (refine wpAny_ite_false (decide_eq_false (by rw [c1]; exact Bool.false_ne_true)) ?_; wp_walk using wpAny_loadPart' hl)
      | (refine wpAny_ite_true (decide_eq_true c2) ?_; wp_walk using wpAny_loadPart' hl))
    exact ⟨_, rfl, h⟩
def rRepA (K : PySem.W.Frag) : R2 := fun x y H Q => ∃ l k xs, x = .ref l ∧ y = .int k ∧ SqT K H l xs ∧ -(2 ^ 63) ≤ k ∧ k < 2 ^ 63 ∧ xs.length * k.toNat ≤ sizeLine ∧ (xs = [] ∨ k = 1 → Q (.ref l) H) ∧
  (xs ≠ [] → k ≠ 1 → ∀ p, H p = none → Q (.ref p) (upd H p (.tup (List.replicate k.toNat xs).flatten)))
theorem op_repA {X : Cx} : OpR X (binaryOp .Mult) (rRepA X.K) := by
  intro pins s σ H x y v u Q I rx ry h
  obtain ⟨l, k, xs, rfl, rfl, hT, h1, h2, hz, q1, q2⟩ := h
  cases rx
  obtain ⟨t, rfl⟩ := ry
  obtain ⟨its, r, ⟨⟨cls, dd, data, sl⟩, ho, hc, n, hd⟩, hs⟩ := I.tuple hT
  simp only at hc hd
  subst hc hd
  have hle : its.length = xs.length := r.length.symm
  have c0 : (decide (k < -(2 ^ 63)) || decide (k ≥ 2 ^ 63)) = false := by
    rw [decide_eq_false (show ¬ k < -(2 ^ 63) by omega), decide_eq_false (show ¬ k ≥ 2 ^ 63 by omega)] <;> rfl
  have emp : its.toArray.isEmpty = true ↔ xs = [] := by
    rw [List.isEmpty_toArray, List.isEmpty_iff]
    constructor
    · intro e; rw [e] at hle; exact List.eq_nil_of_length_eq_zero hle.symm
    · intro e; rw [e] at hle; exact List.eq_nil_of_length_eq_zero hle
  refine wpAny_binaryOp_repeat_ref (T := "tuple") (U := "int") (by decide) ⟨_, ho, rfl⟩ (fun s' => typeIs_int s' k t) noFill_tuple_mul F.fills_int_mul F.slot_int_rmul repeat_tuple F.slot_int_index.lookup
    (call_meets F.slot_int_rmul (typeIs_int s k t) F.entry_int_rmul (F.args_int_rmul_2 _ _) (int_rmul_tuple k t l its.toArray n dd sl) ⟨ho, rfl, ⟨_, ho, rfl⟩, ?_⟩)
  by_cases same : xs = [] ∨ k = 1
  · have c1 : (its.toArray.isEmpty || k == 1) = true := by
      rcases same with e | e
      · rw [emp.mpr e, Bool.true_or]
      · rw [e, Bool.or_eq_true]; exact .inr (beq_self_eq_true _)
    exact call_meets F.slot_tuple_mul ⟨_, ho, rfl⟩ F.entry_tuple_mul (F.args_tuple_mul_2 _ _) (tmul_same l its.toArray n dd sl k t c0 c1) ⟨ho, .ref l, H, I, rfl, q1 same⟩
  · have ne : xs ≠ [] := fun e => same (.inl e)
    have n1 : k ≠ 1 := fun e => same (.inr e)
    have i0 : its.toArray.isEmpty = false := by
      cases e : its.toArray.isEmpty with
      | false => rfl
      | true => exact (ne (emp.mp e)).elim
    have c1 : (its.toArray.isEmpty || k == 1) = false := by
      rw [i0, Bool.false_or]
      exact beq_eq_false_iff_ne.mpr n1
    have hsz0 : its.toArray.size = xs.length := by rw [List.size_toArray, hle]
    by_cases neg : k ≤ 0
    · have c2 : (decide (k ≤ 0) || its.toArray.isEmpty) = true := by rw [decide_eq_true neg, Bool.true_or]
      refine call_meets F.slot_tuple_mul ⟨_, ho, rfl⟩ F.entry_tuple_mul (F.args_tuple_mul_2 _ _) (tmul_none l its.toArray n dd sl k t c0 c1 c2) ⟨ho, ?_⟩
      have k0 : k.toNat = 0 := Int.toNat_eq_zero.mpr neg
      have q := q2 ne n1 _ (I.hok.fresh (Nat.le_refl _))
      rw [k0] at q
      refine ⟨.ref s.heap.objs.size, _, I.laid (t' := s.toks) (o := .tup []) (fun b ob q => Heap.get?_push_of_some _ q) (Nat.le_refl _) ?_, rfl, q⟩
      exact ⟨Nat.zero_le _, [], .nil, IsTup.new _ _⟩
    · have c2 : (decide (k ≤ 0) || its.toArray.isEmpty) = false := by rw [i0, Bool.or_false, decide_eq_false neg]
      have flen : (List.replicate k.toNat its).flatten.length ≤ sizeLine := by
        rw [PyProof.Rows.lm_len_rep_flat, hle, Nat.mul_comm]; exact hz
      have big : ((its.toArray.size : Nat) : Int) * k ≤ (sizeLine : Int) := by
        rw [hsz0]
        have e : k = ((k.toNat : Nat) : Int) := (Int.toNat_of_nonneg (by omega)).symm
        rw [e, ← Int.natCast_mul]
        exact_mod_cast hz
      have c3 : ¬ ((its.toArray.size : Nat) : Int) * k > (2 ^ 63 - 1) / 8 := by
        have : (sizeLine : Int) ≤ (2 ^ 63 - 1) / 8 := by decide
        omega
      have c4 : Builtin.Tuple.tupleTooMany (((its.toArray.size : Nat) : Int) * k) = false := by
        unfold Builtin.Tuple.tupleTooMany
        exact decide_eq_false (by omega)
      refine call_meets F.slot_tuple_mul ⟨_, ho, rfl⟩ F.entry_tuple_mul (F.args_tuple_mul_2 _ _) (tuple_mulW l its.toArray n dd sl k t c0 c1 c2 c3 c4 (by rw [size_rep, List.size_toArray]; exact flen)) ⟨ho, ?_⟩
      rw [size_rep]
      refine ⟨.ref s.heap.objs.size, _, I.laid (t' := s.toks) (o := .tup (List.replicate k.toNat xs).flatten) (fun b ob q => Heap.get?_push_of_some _ q) (Nat.le_refl _) ?_, rfl, q2 ne n1 _ (I.hok.fresh (Nat.le_refl _))⟩
      exact ⟨by rw [PyProof.Rows.lm_len_rep_flat, Nat.mul_comm]; exact hz, _, r.rep k.toNat, IsTup.new _ _⟩
end PV
end

section
set_option maxHeartbeats 2000000
/-! What an expression is worth: the machine does what the evaluator says. -/
namespace PV
open PySem PySem.Spec L2
open PyProof.Rows hiding St

/-- what the module's names stand for -/
structure GOk (P : Program) (K : PySem.W.Frag) (mg : Str → Option Value) (g : Gm) : Prop where
  con : ∀ x d, g.cons.lookup x = some d → ∃ v u, mg x = some u ∧ RelV v u ∧ ∀ F H, Rep K mg F H v d
  fns : ∀ x f, g.fn? x = some f → ∃ a, mg x = some (.ref a) ∧ PySem.W.keepIn K (.ref a) = true
  free : ∀ x, g.free.contains x = true → mg x = none
  dfs : ∀ x f, g.fn? x = some f → ∃ a fd, mg x = some (.ref a) ∧ FunD K x x f.params f.body f.scope [] [] a fd ∧ FnScope f.N f.ps f.scope ∧ L2.Binds K fd f.ps []
  exc : ∀ x xi, g.exc? x = some xi → xi.fld = none → ∃ A, mg x = some (.ref A) ∧ PySem.W.excIn K A He.veBase "ValueError.__new__" = true ∧ PySem.W.keepIn K (.ref A) = true ∧ PySem.W.subIn K (.ref A) (.type "BaseException") = some true ∧ PySem.W.typeIn K (.ref A) = some (.type "type")
  sub : ∀ x z b, g.sub x z = some b → ∃ A, mg x = some (.ref A) ∧ ((∃ A', mg z = some (.ref A') ∧ PySem.W.kitOne K (.ref A) (.ref A') = some b ∧ PySem.W.exmOne K (.ref A) (.ref A') = some b) ∨
    (mg z = none ∧ z ≠ "__name__" ∧ ∃ t, bootBuiltins z = some (.type t) ∧ PySem.W.kitOne K (.ref A) (.type t) = some b))
  isx : ∀ x xi, g.exc? x = some xi → ∃ A, mg x = some (.ref A) ∧ ExcC K A ∧ XfC K A ∧ ∀ f, xi.fld = some f → PySem.W.findIn K (.ref A) f = some none
  exi : ∀ x xi f, g.exc? x = some xi → xi.fld = some f → ∃ A fI fd, mg x = some (.ref A) ∧ InitC P K A f fI fd ∧ L2.Binds K fd [("self" : Str), f] [] ∧ PySem.W.keepIn K (.ref A) = true ∧ mg "super" = none
abbrev zt (X : Cx) (B : Hp) (W0 : Zx) (L : List (Nat × Addr)) (T : List (Addr × D)) : Zt := ⟨X.K, X.mg, B, W0, L, T⟩
structure UC (X : Cx) (c : C) (W : WX) (W0 : Zx) : Prop where
  N : X.N = c.N
  nd : X.N.Nodup
  sc : X.env.scope = c.sc
  un : X.A.units + 65 < cLine
  tk : L2N.Takes X W
  gl : GOk X.prog X.K X.mg c.g
  calm : c.hot = false → X.calm = true
  fn : ∀ x i, c.tgt x = some i → X.fn x = true ∨ X.env.scope.names.lookup x = some .local
  ht : c.hot = true → L2H.HotC X

section
variable {X : Cx} {c : C} {W : WX} {B : Hp} {W0 : Zx} {L : List (Nat × Addr)} {T : List (Addr × D)}

theorem slot_at {x : Str} {i : Nat} (h : c.slot x = some i) : c.N[i]? = some x := by
  unfold C.slot at h
  split at h
  · rename_i j e
    cases h
    obtain ⟨hlt, hp, _⟩ := List.findIdx?_eq_some_iff_getElem.mp e
    have e2 := of_decide_eq_true hp
    rw [List.getElem?_eq_getElem hlt, e2]
  · cases h
theorem okName_at {x : Str} (h : okName x = true) : (x == ("__debug__" : Str)) = false ∧ (x == ("__classdict__" : Str)) = false := by
  unfold okName at h
  rw [Bool.and_eq_true] at h
  exact ⟨by simpa using h.1, by simpa using h.2⟩
theorem nm_slot {x : Str} {i : Nat} (h : c.nm x = .slot i) : okName x = true ∧ c.N[i]? = some x ∧ Vis c.sc x := by
  unfold C.nm at h
  cases ho : okName x with
  | false => rw [ho] at h; cases h
  | true =>
    rw [ho] at h
    refine ⟨rfl, ?_⟩
    dsimp only at h
    split at h
    · cases h
    · rename_i hk
      cases hs : c.slot x with
      | none => rw [hs] at h; cases h
      | some j => rw [hs] at h; cases h; exact ⟨slot_at hs, .inl hk⟩
    · rename_i hk
      cases hs : c.slot x with
      | none => rw [hs] at h; cases h
      | some j => rw [hs] at h; cases h; exact ⟨slot_at hs, .inr (.inl hk)⟩
    · rename_i hk
      cases hs : c.slot x with
      | none => rw [hs] at h; cases h
      | some j => rw [hs] at h; cases h; exact ⟨slot_at hs, .inr (.inr hk)⟩
    · cases h
theorem nm_glob {x : Str} (h : c.nm x = .glob) : okName x = true ∧ c.sc.names.lookup x = some .globalImplicit := by
  unfold C.nm at h
  cases ho : okName x with
  | false => rw [ho] at h; cases h
  | true =>
    rw [ho] at h
    refine ⟨rfl, ?_⟩
    dsimp only at h
    split at h
    · assumption
    · cases hs : c.slot x with
      | none => rw [hs] at h; cases h
      | some j => rw [hs] at h; cases h
    · cases hs : c.slot x with
      | none => rw [hs] at h; cases h
      | some j => rw [hs] at h; cases h
    · cases hs : c.slot x with
      | none => rw [hs] at h; cases h
      | some j => rw [hs] at h; cases h
    · cases h
theorem rr_rep {Z : Zt} {F : Fz} {H : Hp} {ρ : Evm} {σ : L2.St} {v : V} {d : D} (h : Rep Z.K Z.mg F H v d) : RR Z F H ρ σ v (d, false) := by
  unfold RR; rw [if_neg (by simp)]; exact h
theorem rr_uq {Z : Zt} {F : Fz} {H : Hp} {ρ : Evm} {σ : L2.St} {v : V} {d : D} (h : Uq Z F H ρ σ v d) : RR Z F H ρ σ v (d, true) := by
  unfold RR; rw [if_pos rfl]; exact h

/-! ### readings put together -/
/-- what is left to be shown of a result -/
def Pst (Z : Zt) (W : WX) {α γ : Type} (Rel : Fz → Hp → Evm → L2.St → γ → α → Prop) (F : Fz) (σ : L2.St) (H : Hp) (Q : γ → Hp → Prop) : Res α → Prop
  | .ok a ρ' => ∀ v F' H', Stp F H F' H' → Rl Z F' ρ' σ H' → Rel F' H' ρ' σ v a → Q v H'
  | .exc e ρ' => ∀ cls dd F' H', Stp F H F' H' → Rl Z F' ρ' σ H' → ExcAt Z.K Z.mg F' H' e cls dd → W cls dd σ H'
  | .stk => False
theorem Pst.step {Z : Zt} {α γ : Type} {Rel : Fz → Hp → Evm → L2.St → γ → α → Prop} {F F1 : Fz} {σ : L2.St} {H H1 : Hp} {Q : γ → Hp → Prop} {r : Res α} (h : Pst Z W Rel F σ H Q r) (s : Stp F H F1 H1) : Pst Z W Rel F1 σ H1 Q r := by
  cases r with
  | ok a ρ => exact fun v F' H' s' => h v F' H' (s.trans s')
  | exc e ρ => exact fun cls dd F' H' s' => h cls dd F' H' (s.trans s')
  | stk => exact h
theorem tM_of {Z : Zt} {α γ : Type} {m : M α} {Rel : Fz → Hp → Evm → L2.St → γ → α → Prop} {F : Fz} {ρ : Evm} {σ : L2.St} {H : Hp} {Q : γ → Hp → Prop} (R : Rl Z F ρ σ H) (h : Pst Z W Rel F σ H Q (m ρ)) : tM Z W m Rel σ H Q := by
  refine ⟨F, ρ, R, ?_⟩
  cases e : m ρ with
  | ok a ρ' => rw [e] at h; exact h
  | exc x ρ' => rw [e] at h; exact h
  | stk => rw [e] at h; exact h
theorem tM_at {Z : Zt} {α γ : Type} {m : M α} {Rel : Fz → Hp → Evm → L2.St → γ → α → Prop} {σ : L2.St} {H : Hp} {Q : γ → Hp → Prop} (h : tM Z W m Rel σ H Q) : ∃ F ρ, Rl Z F ρ σ H ∧ Pst Z W Rel F σ H Q (m ρ) := by
  obtain ⟨F, ρ, R, h⟩ := h
  refine ⟨F, ρ, R, ?_⟩
  cases e : m ρ with
  | ok a ρ' => rw [e] at h; exact h
  | exc x ρ' => rw [e] at h; exact h
  | stk => rw [e] at h; exact h
/-- a part's reading, then what follows -/
theorem tM_bnd {Z : Zt} {α β γ δ : Type} {m : M α} {f : α → M β} {Rel : Fz → Hp → Evm → L2.St → γ → α → Prop} {Rel' : Fz → Hp → Evm → L2.St → δ → β → Prop} {F : Fz} {ρ : Evm} {σ : L2.St} {H : Hp} {Q : γ → Hp → Prop} {Q' : δ → Hp → Prop}
    (R : Rl Z F ρ σ H) (h : Pst Z W Rel' F σ H Q' (bnd m f ρ))
    (k : ∀ a ρ1 v F1 H1, Stp F H F1 H1 → Rl Z F1 ρ1 σ H1 → Rel F1 H1 ρ1 σ v a → Pst Z W Rel' F1 σ H1 Q' (f a ρ1) → Q v H1) : tM Z W m Rel σ H Q := by
  refine tM_of R ?_
  unfold bnd at h
  cases e : m ρ with
  | ok a ρ1 =>
    rw [e] at h
    exact fun v F1 H1 s R1 r => k a ρ1 v F1 H1 s R1 r (Pst.step h s)
  | exc x ρ1 => rw [e] at h; exact h
  | stk => rw [e] at h; exact h
theorem stp_rl {Z : Zt} {F F' : Fz} {H H' : Hp} (g : Grow F H F' H') {ρ : Evm} {σ : L2.St} (R : Rl Z F ρ σ H) : Stp F H F' H' := g.step R.live

/-! ### names and constants -/
theorem t_const {d : D} {v : V} (hr : ∀ F H, Rep X.K X.mg F H v d) {σ : L2.St} {H : Hp} {Q : VK} (h : tEv (zt X B W0 L T) W (pure (d, false)) σ H Q) : tC v σ H Q := by
  obtain ⟨F, ρ, R, h⟩ := tM_at h
  exact h v F H (.refl _ _) R (rr_rep (hr F H))
theorem t_stk {Z : Zt} {α γ : Type} {Rel : Fz → Hp → Evm → L2.St → γ → α → Prop} {σ : L2.St} {H : Hp} {Q : γ → Hp → Prop} (h : tM Z W (stk : M α) Rel σ H Q) : False := by
  obtain ⟨F, ρ, R, h⟩ := tM_at h
  exact h
theorem pe_stk {e : Expr} {Z : Zt} {Rel : Fz → Hp → Evm → L2.St → V → D × Bool → Prop} : PE X e (tM Z W (stk : M (D × Bool)) Rel) := ⟨fun pins s σ H Q I h => (t_stk h).elim⟩
theorem ok_const {k : Const} {j : Nat} {p : Pos} (u : UC X c W W0) : PE X (.Constant k j p) (tEv (zt X B W0 L T) W (evConst k)) := by
  cases k with
  | int i => exact PE.imp pe_int fun σ H Q h => t_const (fun _ _ => .int i) h
  | bool b => exact PE.imp pe_bl fun σ H Q h => t_const (fun _ _ => .bl b) h
  | none => exact PE.imp pe_non fun σ H Q h => t_const (fun _ _ => .non) h
  | str x => exact PE.imp pe_str fun σ H Q h => t_const (fun _ _ => .str x) h
  | _ => exact pe_stk
theorem lookup_mem {α : Type} : ∀ {l : List (Str × α)} {x : Str} {a : α}, l.lookup x = some a → (x, a) ∈ l
  | [], _, _, h => by cases h
  | (y, b) :: l, x, a, h => by
    by_cases e : x == y
    · rw [List.lookup_cons, e] at h
      cases h
      rw [eq_of_beq e]
      exact List.mem_cons_self
    · rw [List.lookup_cons, show (x == y) = false by simpa using e] at h
      exact List.mem_cons_of_mem _ (lookup_mem h)
theorem tyTab_all : (tyTab.all fun p => decide (p.1 ≠ ("__name__" : Str)) && decide (bootBuiltins p.1 = some (.type p.2))) = true := by decide +kernel
theorem tyTab_ok {x : Str} {n : String} (h : tyTab.lookup x = some n) : x ≠ "__name__" ∧ bootBuiltins x = some (.type n) := by
  have := List.all_eq_true.mp tyTab_all _ (lookup_mem h)
  rw [Bool.and_eq_true] at this
  exact ⟨of_decide_eq_true this.1, of_decide_eq_true this.2⟩
theorem biTab_all : (biTab.all fun p => decide (p.1 ≠ ("__name__" : Str)) && (!(p.1 == ("__debug__" : Str)) && decide (bootBuiltins p.1 = some p.2.val))) = true := by decide +kernel
theorem biTab_ok {x : Str} {b : Bi} (h : biTab.lookup x = some b) : x ≠ "__name__" ∧ (x == ("__debug__" : Str)) = false ∧ bootBuiltins x = some b.val := by
  have := List.all_eq_true.mp biTab_all _ (lookup_mem h)
  rw [Bool.and_eq_true, Bool.and_eq_true] at this
  exact ⟨of_decide_eq_true this.1, by simpa using this.2.1, of_decide_eq_true this.2.2⟩
theorem ok_name {x : Str} {p : Pos} (u : UC X c W W0) : PE X (.Name x p) (tEv (zt X B W0 L T) W (evName c x)) := by
  cases hn : c.nm x with
  | slot i =>
    simp only [evName, hn]
    obtain ⟨ho, hN, hv⟩ := nm_slot hn
    obtain ⟨h1, h2⟩ := okName_at ho
    refine PE.imp (pe_var (i := i) (by rw [u.N]; exact hN) (by rw [u.sc]; exact hv) h1 h2) fun σ H Q h => ?_
    obtain ⟨F, ρ, R, h⟩ := tM_at h
    unfold bnd at h
    cases e : rd i ρ with
    | ok d ρ1 =>
      simp only [e] at h
      obtain ⟨v, F1, hv1, s1, R1, r1⟩ := R.rd e
      exact ⟨v, hv1, h v F1 H s1 R1 (rr_rep r1)⟩
    | exc ex ρ1 =>
      unfold rd at e
      split at e <;> cases e
    | stk => simp only [e] at h; exact h.elim
  | glob =>
    simp only [evName, hn]
    obtain ⟨ho, hk⟩ := nm_glob hn
    obtain ⟨h1, h2⟩ := okName_at ho
    have hg : Gl X x := by show X.env.scope.names.lookup x = _; rw [u.sc]; exact hk
    cases e : c.g.glob x with
    | none => exact pe_stk
    | some d =>
      unfold Gm.glob at e
      cases e1 : c.g.cons.lookup x with
      | some d' =>
        rw [e1] at e
        cases e
        obtain ⟨v, w, hm, r, rp⟩ := u.gl.con x d e1
        exact PE.imp (pe_glob hg hm r h1) fun σ H Q h => t_const rp h
      | none =>
        rw [e1] at e
        cases e2 : c.g.fn? x with
        | none =>
          rw [e2] at e
          dsimp only at e
          cases e3 : c.g.free.contains x with
          | false => rw [e3] at e; cases e
          | true =>
            rw [e3] at e
            simp only [Option.map_eq_some_iff] at e
            obtain ⟨n, hn, rfl⟩ := e
            obtain ⟨h3, h4⟩ := tyTab_ok hn
            exact PE.imp (pe_bltn (v := .ty n) hg (u.gl.free x e3) h4 rfl h3 h1) fun σ H Q h => t_const (fun _ _ => .ty n) h
        | some f =>
          rw [e2] at e
          cases e
          obtain ⟨a, hm, _⟩ := u.gl.fns x f e2
          exact PE.imp (pe_glob (v := .ref a) hg hm rfl h1) fun σ H Q h => t_const (fun _ _ => .fn hm) h
  | bad =>
    simp only [evName, hn]
    exact pe_stk
/-! ### operands -/
theorem place_at {e : Expr} {ρ : Evm} {i : Nat} (h : c.place e ρ = some i) : ∃ x p, e = .Name x p ∧ c.nm x = .slot i := by
  unfold C.place at h
  split at h
  · rename_i x p
    split at h
    · rename_i j hj
      split at h
      · cases h; exact ⟨x, p, rfl, hj⟩
      · cases h; exact ⟨x, p, rfl, hj⟩
      · cases h
    · cases h
  · cases h
/-- an operand is read as a value, or as what a name holds -/
theorem ok_opn {o : Ops} {e : Expr} (u : UC X c W W0) (h : PE X e (tEv (zt X B W0 L T) W (o.ev c e))) : PE X e (tOpn (zt X B W0 L T) W (opn1 o c e)) := by
  refine ⟨fun pins s σ H Q I hq => ?_⟩
  obtain ⟨F, ρ, R, hq⟩ := tM_at hq
  unfold opn1 at hq
  cases hp : c.place e ρ with
  | some i =>
    rw [hp] at hq
    obtain ⟨x, p, rfl, hn⟩ := place_at hp
    obtain ⟨ho, hN, hv⟩ := nm_slot hn
    obtain ⟨h1, h2⟩ := okName_at ho
    refine (pe_var (i := i) (pos := p) (by rw [u.N]; exact hN) (by rw [u.sc]; exact hv) h1 h2).run pins s σ H Q I ?_
    have : ∃ y, ρ[i]? = some (.o y) ∨ ρ[i]? = some (.l y) := by
      unfold C.place at hp
      simp only [hn] at hp
      split at hp
      · exact ⟨_, .inl (by assumption)⟩
      · exact ⟨_, .inr (by assumption)⟩
      · cases hp
    obtain ⟨y, hy⟩ := this
    have : ∃ v, σ[i]? = some (some v) := by
      rcases hy with hy | hy
      · obtain ⟨v, hv, a, e, _⟩ := R.slot hy; exact ⟨_, by rw [hv, e]⟩
      · obtain ⟨v, hv, a, e, _⟩ := R.slot hy; exact ⟨_, by rw [hv, e]⟩
    obtain ⟨v, hv⟩ := this
    exact ⟨v, hv, hq v F H (.refl _ _) R hv⟩
  | none =>
    rw [hp] at hq
    refine h.run pins s σ H Q I (tM_bnd R hq fun r ρ1 v F1 H1 s1 R1 rr hp1 => ?_)
    obtain ⟨F2, s2, R2, rp⟩ := R1.settle rr
    exact hp1 v F2 H1 s2 R2 rp
theorem res_pk {Z : Zt} {F F' : Fz} {H H' : Hp} {ρ ρ' : Evm} {σ : L2.St} {v : V} {p : Op} {x : D} (h : OpR' Z F H ρ σ v p) (s : Stp F H F' H') (R : Rl Z F' ρ' σ H') (e : res1 ρ' p = some x) : Pk Z F' H' v x := by
  cases p with
  | pl i =>
    obtain ⟨v', hv, pk⟩ := R.look (show look ρ' i = some x from e)
    have hv2 : σ[i]? = some (some v) := h
    rw [hv] at hv2
    cases hv2
    exact pk
  | vl y =>
    cases e
    exact .inl (Rep.step s h)
/-- two operands -/
theorem tOp_two {o : Ops} {a b : Expr} {β : Type} {f : D → D → M β} {δ : Type} {Rel : Fz → Hp → Evm → L2.St → δ → β → Prop} {r : V → V → Hp → (δ → Hp → Prop) → Prop} {Z : Zt}
    (k : ∀ F ρ σ H Q v w x y, Rl Z F ρ σ H → Pk Z F H v x → Pk Z F H w y → Pst Z W Rel F σ H Q (f x y ρ) → r v w H Q) {σ : L2.St} {H : Hp} {Q : δ → Hp → Prop} (h : tM Z W (two o c a b f) Rel σ H Q) :
    tOpn Z W (o.opn c a) σ H fun v H1 => tOpn Z W (o.opn c b) σ H1 fun w H2 => r v w H2 Q := by
  obtain ⟨F, ρ, R, h⟩ := tM_at h
  refine tM_bnd R h fun p ρ1 v F1 H1 s1 R1 rp h1 => ?_
  refine tM_bnd R1 h1 fun q ρ2 w F2 H2 s2 R2 rq h2 => ?_
  unfold fin2 at h2
  cases e1 : res1 ρ2 p with
  | none => rw [e1] at h2; exact h2.elim
  | some x =>
    cases e2 : res1 ρ2 q with
    | none => rw [e1, e2] at h2; exact h2.elim
    | some y =>
      rw [e1, e2] at h2
      exact k F2 ρ2 σ H2 Q v w x y R2 (res_pk rp s2 R2 e1) (res_pk rq (.refl _ _) R2 e2) h2
theorem t_one {o : Ops} {a : Expr} {β : Type} {f : D → M β} {δ : Type} {Rel : Fz → Hp → Evm → L2.St → δ → β → Prop} {r : V → Hp → (δ → Hp → Prop) → Prop} {Z : Zt}
    (k : ∀ F ρ σ H Q v x, Rl Z F ρ σ H → Pk Z F H v x → Pst Z W Rel F σ H Q (f x ρ) → r v H Q) {σ : L2.St} {H : Hp} {Q : δ → Hp → Prop} (h : tM Z W (one o c a f) Rel σ H Q) :
    tOpn Z W (o.opn c a) σ H fun v H1 => r v H1 Q := by
  obtain ⟨F, ρ, R, h⟩ := tM_at h
  refine tM_bnd R h fun p ρ1 v F1 H1 s1 R1 rp h1 => ?_
  unfold fin1 at h1
  cases e1 : res1 ρ1 p with
  | none => rw [e1] at h1; exact h1.elim
  | some x =>
    rw [e1] at h1
    exact k F1 ρ1 σ H1 Q v x R1 (res_pk rp (.refl _ _) R1 e1) h1

/-! ### what an operation makes -/
def NewV (Z : Zt) (F' : Fz) (H H' : Hp) (v : V) (r : D × Bool) : Prop := match r.2 with
  | true => ∃ a, v = .ref a ∧ OwnAt Z.K Z.mg F' H' a r.1 ∧ ¬ F' a ∧ H a = none
  | false => Rep Z.K Z.mg F' H' v r.1
/-- the result of an operation on what is looked at -/
def Mk (Z : Zt) (F : Fz) (H : Hp) (r : Option (D × Bool)) (Q : VK) : Prop := ∃ z, r = some z ∧ ∀ v F' H', Grow F H F' H' → (∀ a, F' a → NT H' a) → NewV Z F' H H' v z → Q v H'
theorem mk_of {Z : Zt} {F : Fz} {ρ : Evm} {σ : L2.St} {H : Hp} {Q : VK} {r : Option (D × Bool)} (R : Rl Z F ρ σ H) (h : Pst Z W (RR Z) F σ H Q (val r ρ)) : Mk Z F H r Q := by
  cases r with
  | none => exact h.elim
  | some z =>
    refine ⟨z, rfl, fun v F' H' g lv nv => ?_⟩
    have R' := R.grow g lv
    refine h v F' H' (g.step R.live) R' ?_
    obtain ⟨d, u⟩ := z
    cases u with
    | false => exact rr_rep nv
    | true =>
      obtain ⟨a, e, ow, n, hn⟩ := nv
      refine rr_uq ⟨a, e, ow, n, ?_, fun i s hs ho hv => ?_, fun p hp ep => ?_⟩
      · cases q : Z.B a with
        | none => rfl
        | some o =>
          have z := R.dom a (by rw [q] <;> rfl)
          rw [hn] at z; cases z
      · obtain ⟨v', hv', so⟩ := R.slot hs
        rw [hv] at hv'
        cases hv'
        obtain ⟨a', x, e', ow', _⟩ := so.own_some ho
        cases e'
        have z := ow'.some
        rw [hn] at z; cases z
      · have z := (R.kept p hp).1.some
        rw [ep, hn] at z; cases z
def live (F : Fz) (H : Hp) : Prop := ∀ a, F a → NT H a
theorem upd_some {H : Hp} {a b : Addr} {o : HO} (h : (H b).isSome = true) : (upd H a o b).isSome = true := by
  by_cases e : b = a
  · subst e; rw [upd_same] <;> rfl
  · rw [upd_ne e]; exact h
theorem grow_new {F : Fz} {H : Hp} {p : Addr} {o : HO} (hp : H p = none) : Grow F H (fun b => F b ∨ b = p) (upd H p o) := by
  refine ⟨fun a ob h => ?_, fun a h => .inl h, fun a h => ?_⟩
  · rw [upd_ne (ne_of_none h hp)]; exact h
  · rcases h with h | h
    · exact .inl h
    · subst h; exact .inr hp
theorem grow_own {F : Fz} {H : Hp} {p : Addr} {o : HO} (hp : H p = none) : Grow F H F (upd H p o) :=
  ⟨fun a ob h => by rw [upd_ne (ne_of_none h hp)]; exact h, fun a h => h, fun a h => .inl h⟩
theorem upd_nt {H : Hp} {a b : Addr} {o : HO} (ho : ∀ ps, o ≠ .tbl ps) (h : NT H b) : NT (upd H a o) b := by
  by_cases e : b = a
  · subst e; exact ⟨o, upd_same, ho⟩
  · obtain ⟨u, h1, h2⟩ := h
    exact ⟨u, by rw [upd_ne e]; exact h1, h2⟩
theorem live_new {F : Fz} {H : Hp} {p : Addr} {o : HO} (ho : ∀ ps, o ≠ .tbl ps) (l : live F H) : live (fun b => F b ∨ b = p) (upd H p o) := fun a h => by
  rcases h with h | h
  · exact upd_nt ho (l a h)
  · subst h; exact ⟨o, upd_same, ho⟩
theorem live_own {F : Fz} {H : Hp} {p : Addr} {o : HO} (ho : ∀ ps, o ≠ .tbl ps) (l : live F H) : live F (upd H p o) := fun a h => upd_nt ho (l a h)
theorem not_fz {F : Fz} {H : Hp} {p : Addr} (l : live F H) (hp : H p = none) : ¬ F p := fun h => by
  have z := (l p h).some
  rw [hp] at z; cases z
/-- a new tuple -/
theorem Mk.tup {Z : Zt} {F : Fz} {H : Hp} {Q : VK} {ds : List D} {vs : List V} (h : Mk Z F H (some (.tup ds, false)) Q) (l : live F H) (r : Reps Z.K Z.mg F H vs ds) {p : Addr} (hp : H p = none) : Q (.ref p) (upd H p (.tup vs)) := by
  obtain ⟨z, e, k⟩ := h
  cases e
  have g := grow_new (F := F) (o := .tup vs) hp
  exact k _ _ _ g (live_new (fun ps z => nomatch z) l) (.tup ⟨SqT.of upd_same, .inl (.inr rfl)⟩ (r.step (g.step l)))
/-- a new list -/
theorem Mk.lst {Z : Zt} {F : Fz} {H : Hp} {Q : VK} {ds : List D} {vs : List V} (h : Mk Z F H (some (.lst ds, true)) Q) (l : live F H) (r : Reps Z.K Z.mg F H vs ds) {p : Addr} (hp : H p = none) : Q (.ref p) (upd H p (.lst vs)) := by
  obtain ⟨z, e, k⟩ := h
  cases e
  have g := grow_own (F := F) (o := .lst vs) hp
  exact k _ _ _ g (live_own (fun ps z => nomatch z) l) ⟨p, rfl, ⟨_, upd_same, .lst (r.step (g.step l))⟩, not_fz l hp, hp⟩
/-- a value as it stands -/
theorem Mk.rep {Z : Zt} {F : Fz} {H : Hp} {Q : VK} {d : D} {v : V} (h : Mk Z F H (some (d, false)) Q) (l : live F H) (r : Rep Z.K Z.mg F H v d) : Q v H := by
  obtain ⟨z, e, k⟩ := h
  cases e
  exact k v F H (.refl _ _) l r
/-- what is looked at, by its kind -/
theorem Pk.rep {Z : Zt} {F : Fz} {H : Hp} {v : V} {d : D} (h : Pk Z F H v d) (n : ∀ a o, ¬ (HoRep Z.K Z.mg F H o d ∧ v = .ref a)) : Rep Z.K Z.mg F H v d := by
  rcases h with h | ⟨a, e, o, _, h2⟩
  · exact h
  · exact (n a o ⟨h2, e⟩).elim
theorem Pk.non {Z : Zt} {F : Fz} {H : Hp} {v : V} (h : Pk Z F H v .non) : v = .non := by
  cases h.rep (fun a o z => by cases z.1) with
  | non => rfl
theorem Pk.bl {Z : Zt} {F : Fz} {H : Hp} {v : V} {b : Bool} (h : Pk Z F H v (.bl b)) : v = .bl b := by
  cases h.rep (fun a o z => by cases z.1) with
  | bl => rfl
theorem Pk.int {Z : Zt} {F : Fz} {H : Hp} {v : V} {i : Int} (h : Pk Z F H v (.int i)) : v = .int i := by
  cases h.rep (fun a o z => by cases z.1) with
  | int => rfl
theorem Pk.str {Z : Zt} {F : Fz} {H : Hp} {v : V} {i : Str} (h : Pk Z F H v (.str i)) : v = .str i := by
  cases h.rep (fun a o z => by cases z.1) with
  | str => rfl
theorem Pk.ty {Z : Zt} {F : Fz} {H : Hp} {v : V} {i : String} (h : Pk Z F H v (.ty i)) : v = .ty i := by
  cases h.rep (fun a o z => by cases z.1) with
  | ty => rfl
theorem Pk.tup {Z : Zt} {F : Fz} {H : Hp} {v : V} {ds : List D} (h : Pk Z F H v (.tup ds)) : ∃ a vs, v = .ref a ∧ SqT Z.K H a vs ∧ Reps Z.K Z.mg F H vs ds ∧ Rep Z.K Z.mg F H v (.tup ds) := by
  cases h.rep (fun a o z => by cases z.1) with
  | tup h1 h2 => exact ⟨_, _, rfl, h1.1, h2, .tup h1 h2⟩
theorem Pk.scr {Z : Zt} {F : Fz} {H : Hp} {v : V} {ds : List D} (h : Pk Z F H v (.scr ds)) : ∃ a vs, v = .ref a ∧ SqL Z.K H a vs ∧ Reps Z.K Z.mg F H vs ds := by
  cases h.rep (fun a o z => by cases z.1) with
  | scr h1 h2 => exact ⟨_, _, rfl, h1.1, h2⟩
theorem Pk.lst {Z : Zt} {F : Fz} {H : Hp} {v : V} {ds : List D} (h : Pk Z F H v (.lst ds)) : ∃ a vs, v = .ref a ∧ H a = some (.lst vs) ∧ Reps Z.K Z.mg F H vs ds := by
  rcases h with h | ⟨a, e, o, h1, h2⟩
  · cases h with
    | lst h1 h2 => exact ⟨_, _, rfl, h1.2, h2⟩
  · cases h2 with
    | lst h2 => exact ⟨a, _, e, h1, h2⟩
theorem Pk.dp {Z : Zt} {F : Fz} {H : Hp} {v : V} {d : D} {p : PyData} (h : Pk Z F H v d) (e : d.py = some p) : Dp Z.K H v p := by
  rcases h with h | ⟨a, e1, o, h1, h2⟩
  · exact Rep.dp h e
  · subst e1
    cases h2 with
    | lst h2 =>
      simp only [D.py, Option.map_eq_some_iff] at e
      obtain ⟨ps, e1, rfl⟩ := e
      exact .lst (SqL.of h1) (Reps.dp h2 e1)
    | dK h2 => cases e
    | dT h2 => cases e

/-! ### operators -/
def rBin (Z : Zt) (op : Operator) : R2 := fun v w H Q => ∃ F x y, live F H ∧ Pk Z F H v x ∧ Pk Z F H w y ∧ Mk Z F H (binD op x y) Q
theorem lineOk_at {n : Nat} (h : lineOk n = true) : n ≤ sizeLine := of_decide_eq_true h
theorem small64_at {i : Int} (h : small64 i = true) : -(2 ^ 64) < i ∧ i < 2 ^ 64 := by
  unfold small64 at h
  rw [Bool.and_eq_true] at h
  exact ⟨of_decide_eq_true h.1, of_decide_eq_true h.2⟩
theorem mk_none {Z : Zt} {F : Fz} {H : Hp} {Q : VK} (h : Mk Z F H none Q) : False := by
  obtain ⟨z, e, _⟩ := h
  cases e
/-- a guarded result -/
theorem mk_gd {Z : Zt} {F : Fz} {H : Hp} {Q : VK} {b : Bool} {x : D × Bool} (h : Mk Z F H (gd b x) Q) : b = true ∧ Mk Z F H (some x) Q := by
  cases b with
  | true => exact ⟨rfl, h⟩
  | false => exact (mk_none h).elim
theorem gd_at {α : Type} {b : Bool} {x y : α} (h : gd b x = some y) : b = true ∧ x = y := by
  cases b with
  | true => exact ⟨rfl, Option.some.inj h⟩
  | false => cases h
theorem reps_rep {Z : Zt} {F : Fz} {H : Hp} {vs : List V} {ds : List D} (h : Reps Z.K Z.mg F H vs ds) : ∀ k : Nat, Reps Z.K Z.mg F H (List.replicate k vs).flatten (List.replicate k ds).flatten
  | 0 => .nil
  | k + 1 => by
    rw [List.replicate_succ, List.replicate_succ, List.flatten_cons, List.flatten_cons]
    exact h.append (reps_rep h k)
theorem repD_same {xs : List D} {k : Int} (e : xs = [] ∨ k = 1) : repD xs k = xs := by
  rcases e with e | e
  · subst e
    unfold repD
    induction k.toNat with
    | zero => rfl
    | succ n ih => rw [List.replicate_succ, List.flatten_cons, ih] <;> rfl
  · subst e
    unfold repD
    simp
theorem bin_ok (op : Operator) : OpR X (binaryOp op) (rBin (zt X B W0 L T) op) := by
  intro pins s σ H v w a b Q I ra rb h
  obtain ⟨F, x, y, l, px, py, m⟩ := h
  unfold binD at m
  split at m
  · cases px.int; cases py.int
    exact op_add pins s σ H _ _ a b Q I ra rb ⟨_, _, rfl, rfl, m.rep l (.int _)⟩
  · cases px.int; cases py.int
    exact op_sub pins s σ H _ _ a b Q I ra rb ⟨_, _, rfl, rfl, m.rep l (.int _)⟩
  · obtain ⟨hs, m⟩ := mk_gd m
    cases px.int; cases py.int
    unfold mulOk at hs
    rw [Bool.or_eq_true, Bool.or_eq_true] at hs
    rcases hs with hs | hs | hs
    · exact op_mul pins s σ H _ _ a b Q I ra rb ⟨_, _, rfl, rfl, .inl (small64_at hs), m.rep l (.int _)⟩
    · exact op_mul pins s σ H _ _ a b Q I ra rb ⟨_, _, rfl, rfl, .inr (small64_at hs), m.rep l (.int _)⟩
    · exact op_mulW pins s σ H _ _ a b Q I ra rb ⟨_, _, rfl, rfl, (by unfold CMulW; exact of_decide_eq_true hs), m.rep l (.int _)⟩
  · obtain ⟨hs, m⟩ := mk_gd m
    cases px.int; cases py.int
    unfold divOk at hs
    rw [Bool.and_eq_true, Bool.or_eq_true] at hs
    rcases hs with ⟨h1, hs | hs⟩
    · exact op_fdiv pins s σ H _ _ a b Q I ra rb ⟨_, _, rfl, rfl, ⟨of_decide_eq_true h1, of_decide_eq_true hs⟩, m.rep l (.int _)⟩
    · exact op_fdivW pins s σ H _ _ a b Q I ra rb ⟨_, _, rfl, rfl, ⟨of_decide_eq_true h1, of_decide_eq_true hs⟩, m.rep l (.int _)⟩
  · obtain ⟨hs, m⟩ := mk_gd m
    cases px.int; cases py.int
    exact op_mod pins s σ H _ _ a b Q I ra rb ⟨_, _, rfl, rfl, of_decide_eq_true hs, m.rep l (.int _)⟩
  · obtain ⟨hs, m⟩ := mk_gd m
    cases px.int; cases py.int
    unfold powOk at hs
    rw [Bool.and_eq_true, Bool.and_eq_true] at hs
    exact op_pow pins s σ H _ _ a b Q I ra rb ⟨_, _, rfl, rfl, ⟨of_decide_eq_true hs.1, of_decide_eq_true hs.2.1, of_decide_eq_true hs.2.2⟩, m.rep l (.int _)⟩
  · cases px.int; cases py.int
    exact op_xor pins s σ H _ _ a b Q I ra rb ⟨_, _, rfl, rfl, m.rep l (.int _)⟩
  · obtain ⟨hs, m⟩ := mk_gd m
    cases px.str; cases py.str
    exact op_add_str pins s σ H _ _ a b Q I ra rb ⟨_, _, rfl, rfl, lineOk_at hs, m.rep l (.str _)⟩
  · obtain ⟨hs, m⟩ := mk_gd m
    obtain ⟨p1, vs, rfl, h1, r1, q1⟩ := px.tup
    obtain ⟨p2, ws, rfl, h2, r2, q2⟩ := py.tup
    refine op_catA pins s σ H _ _ a b Q I ra rb ⟨p1, p2, vs, ws, rfl, rfl, h1, h2, by rw [r1.length, r2.length]; exact lineOk_at hs, fun e => ?_, fun _ e => ?_, fun _ _ p hp => m.tup l (r1.append r2) hp⟩
    · subst e
      cases r1
      exact m.rep l q2
    · subst e
      cases r2
      rw [List.append_nil] at m
      exact m.rep l q1
  · obtain ⟨hs, m⟩ := mk_gd m
    obtain ⟨p1, vs, rfl, h1, r1⟩ := px.lst
    obtain ⟨p2, ws, rfl, h2, r2⟩ := py.lst
    exact op_cat pins s σ H _ _ a b Q I ra rb ⟨p1, p2, vs, ws, rfl, rfl, h1, h2, by rw [r1.length, r2.length]; exact lineOk_at hs, fun p hp => m.lst l (r1.append r2) hp⟩
  · obtain ⟨hs, m⟩ := mk_gd m
    obtain ⟨p1, vs, rfl, h1, r1⟩ := px.lst
    cases py.int
    rw [Bool.and_eq_true, Bool.and_eq_true] at hs
    exact op_rep pins s σ H _ _ a b Q I ra rb ⟨p1, _, vs, rfl, rfl, h1, of_decide_eq_true hs.1, of_decide_eq_true hs.2.1, by rw [r1.length]; exact lineOk_at hs.2.2, fun p hp => m.lst l (reps_rep r1 _) hp⟩
  · obtain ⟨hs, m⟩ := mk_gd m
    obtain ⟨p1, vs, rfl, h1, r1, q1⟩ := px.tup
    cases py.int
    rw [Bool.and_eq_true, Bool.and_eq_true] at hs
    refine op_repA pins s σ H _ _ a b Q I ra rb ⟨p1, _, vs, rfl, rfl, h1, of_decide_eq_true hs.1, of_decide_eq_true hs.2.1, by rw [r1.length]; exact lineOk_at hs.2.2, fun e => ?_, fun _ _ p hp => m.tup l (reps_rep r1 _) hp⟩
    have e' := e.imp (fun z => List.eq_nil_of_length_eq_zero (by rw [← r1.length, z] <;> rfl)) id
    rw [repD_same e'] at m
    exact m.rep l q1
  · exact (mk_none m).elim
def rCmp (Z : Zt) (op : CmpOp) : R2 := fun v w H Q => ∃ F x y, live F H ∧ Pk Z F H v x ∧ Pk Z F H w y ∧ ∃ k, cmpD op x y = some k ∧ Q (.bl k) H
theorem dpt_at {d : D} {p : PyData} (h : d.dpt = some p) : d.py = some p ∧ SeqAt.shaped p = true := by
  unfold D.dpt at h
  cases e : d.py with
  | none => rw [e] at h; cases h
  | some q =>
    rw [e] at h
    obtain ⟨h1, h2⟩ := gd_at h
    subst h2
    exact ⟨rfl, h1⟩
theorem eqD_at {x y : D} {k : Bool} (h : eqD x y = some k) : ∃ p q, x.py = some p ∧ SeqAt.shaped p = true ∧ y.py = some q ∧ SeqAt.shaped q = true ∧ k = PyData.eqv p q := by
  unfold eqD at h
  split at h
  · rename_i p q e1 e2
    cases h
    obtain ⟨a1, a2⟩ := dpt_at e1
    obtain ⟨b1, b2⟩ := dpt_at e2
    exact ⟨p, q, a1, a2, b1, b2, rfl⟩
  · cases h
theorem inL_at {x : D} {ys : List D} {f : List PyData → PyData} {k : Bool} (h : inL x ys f = some k) : ∃ p qs, x.py = some p ∧ SeqAt.shaped p = true ∧ D.pys ys = some qs ∧ SeqAt.shaped (f qs) = true ∧ k = qs.any fun z => PyData.eqv z p := by
  unfold inL at h
  split at h
  · rename_i p qs e1 e2
    obtain ⟨h1, h2⟩ := gd_at h
    obtain ⟨a1, a2⟩ := dpt_at e1
    exact ⟨p, qs, a1, a2, e2, h1, h2.symm⟩
  · cases h
theorem intsD_at {F : Fz} {H : Hp} {Z : Zt} : ∀ {ds : List D} {ns : List Int} {vs : List V}, intsD ds = some ns → Reps Z.K Z.mg F H vs ds → vs = ns.map V.int
  | [], ns, vs, e, h => by
    cases e
    cases h
    rfl
  | d :: ds, ns, vs, e, h => by
    cases d with
    | int i =>
      unfold intsD at e
      rw [Option.map_eq_some_iff] at e
      obtain ⟨ms, e1, rfl⟩ := e
      cases h with
      | cons h1 h2 =>
        cases h1
        rw [intsD_at e1 h2]
        rfl
    | _ => cases e
theorem blsD_at {F : Fz} {H : Hp} {Z : Zt} : ∀ {ds : List D} {ns : List Bool} {vs : List V}, blsD ds = some ns → Reps Z.K Z.mg F H vs ds → vs = ns.map V.bl
  | [], ns, vs, e, h => by
    cases e
    cases h
    rfl
  | d :: ds, ns, vs, e, h => by
    cases d with
    | bl i =>
      unfold blsD at e
      rw [Option.map_eq_some_iff] at e
      obtain ⟨ms, e1, rfl⟩ := e
      cases h with
      | cons h1 h2 =>
        cases h1
        rw [blsD_at e1 h2]
        rfl
    | _ => cases e
/-- x in a tuple of data -/
theorem op_inT (hu : X.A.units + 65 < cLine) : OpR X (compareOp .In) (fun x y H Q => ∃ d ds, Dp X.K H x d ∧ Dp X.K H y (.tuple ds) ∧ SeqAt.shaped d = true ∧ SeqAt.shaped (.tuple ds) = true ∧ Q (.bl (ds.any fun z => PyData.eqv z d)) H) := by
  intro pins s σ H x y v u Q I rx ry h
  obtain ⟨d, ds, hd, he, sd, se, q⟩ := h
  obtain ⟨as, r1⟩ := Dp.reads I d x v hd rx
  obtain ⟨bs, r2⟩ := Dp.reads I (.tuple ds) y u he ry
  exact SeqAt.in_tuple_reads r2 r1 (SeqAt.canLay_of_shaped se) (SeqAt.canLay_of_shaped sd) (room_in_shaped sd hu) ⟨.bl _, H, I, rfl, q⟩
theorem op_notInT (hu : X.A.units + 65 < cLine) : OpR X (compareOp .NotIn) (fun x y H Q => ∃ d ds, Dp X.K H x d ∧ Dp X.K H y (.tuple ds) ∧ SeqAt.shaped d = true ∧ SeqAt.shaped (.tuple ds) = true ∧ Q (.bl (!ds.any fun z => PyData.eqv z d)) H) := by
  intro pins s σ H x y v u Q I rx ry h
  obtain ⟨d, ds, hd, he, sd, se, q⟩ := h
  obtain ⟨as, r1⟩ := Dp.reads I d x v hd rx
  obtain ⟨bs, r2⟩ := Dp.reads I (.tuple ds) y u he ry
  exact SeqAt.notIn_tuple_reads r2 r1 (SeqAt.canLay_of_shaped se) (SeqAt.canLay_of_shaped sd) (room_in_shaped sd hu) ⟨.bl _, H, I, rfl, q⟩
theorem Pk.isNon {Z : Zt} {F : Fz} {H : Hp} {v : V} {x : D} (h : Pk Z F H v x) : decide (v = .non) = isNon x := by
  rcases h with h | ⟨a, e, o, h1, h2⟩
  · cases h <;> rfl
  · subst e
    cases h2 <;> rfl
theorem cmp_ok (hu : X.A.units + 65 < cLine) (op : CmpOp) : OpR X (compareOp op) (rCmp (zt X B W0 L T) op) := by
  intro pins s σ H v w a b Q I ra rb h
  obtain ⟨F, x, y, l, px, py, k, e, q⟩ := h
  unfold cmpD at e
  split at e
  · obtain ⟨p1, p2, e1, s1, e2, s2, rfl⟩ := eqD_at e
    exact op_eqD (by omega) pins s σ H _ _ a b Q I ra rb ⟨p1, p2, px.dp e1, py.dp e2, s1, s2, q⟩
  · rw [Option.map_eq_some_iff] at e
    obtain ⟨k', e, rfl⟩ := e
    obtain ⟨p1, p2, e1, s1, e2, s2, rfl⟩ := eqD_at e
    exact op_neD (by omega) pins s σ H _ _ a b Q I ra rb ⟨p1, p2, px.dp e1, py.dp e2, s1, s2, q⟩
  · cases px.int; cases py.int; cases e
    exact op_lt pins s σ H _ _ a b Q I ra rb ⟨_, _, rfl, rfl, q⟩
  · cases px.int; cases py.int; cases e
    exact op_le pins s σ H _ _ a b Q I ra rb ⟨_, _, rfl, rfl, q⟩
  · cases px.int; cases py.int; cases e
    exact op_gt pins s σ H _ _ a b Q I ra rb ⟨_, _, rfl, rfl, q⟩
  · cases px.int; cases py.int; cases e
    exact op_ge pins s σ H _ _ a b Q I ra rb ⟨_, _, rfl, rfl, q⟩
  · obtain ⟨p1, vs, rfl, h1, r1, q1⟩ := px.tup
    obtain ⟨p2, ws, rfl, h2, r2, q2⟩ := py.tup
    split at e
    · rename_i ns ms e1 e2
      cases e
      rw [intsD_at e1 r1] at h1
      rw [intsD_at e2 r2] at h2
      exact op_ltT (by omega) pins s σ H _ _ a b Q I ra rb ⟨p1, p2, ns, ms, rfl, rfl, h1, h2, q⟩
    · cases e
  · cases py.non; cases e
    exact op_isN pins s σ H _ _ a b Q I ra rb ⟨rfl, by rw [px.isNon]; exact q⟩
  · cases py.non; cases e
    exact op_notN pins s σ H _ _ a b Q I ra rb ⟨rfl, by rw [px.isNon]; exact q⟩
  · obtain ⟨p, qs, e1, s1, e2, s2, rfl⟩ := inL_at e
    exact op_inD hu pins s σ H _ _ a b Q I ra rb ⟨p, qs, px.dp e1, py.dp (by simp only [D.py, e2, Option.map_some]), s1, s2, q⟩
  · obtain ⟨p, qs, e1, s1, e2, s2, rfl⟩ := inL_at e
    exact op_inT hu pins s σ H _ _ a b Q I ra rb ⟨p, qs, px.dp e1, py.dp (by simp only [D.py, e2, Option.map_some]), s1, s2, q⟩
  · rw [Option.map_eq_some_iff] at e
    obtain ⟨k', e, rfl⟩ := e
    obtain ⟨p, qs, e1, s1, e2, s2, rfl⟩ := inL_at e
    exact op_notInD hu pins s σ H _ _ a b Q I ra rb ⟨p, qs, px.dp e1, py.dp (by simp only [D.py, e2, Option.map_some]), s1, s2, q⟩
  · rw [Option.map_eq_some_iff] at e
    obtain ⟨k', e, rfl⟩ := e
    obtain ⟨p, qs, e1, s1, e2, s2, rfl⟩ := inL_at e
    exact op_notInT hu pins s σ H _ _ a b Q I ra rb ⟨p, qs, px.dp e1, py.dp (by simp only [D.py, e2, Option.map_some]), s1, s2, q⟩
  · cases e
end
end PV
end

section
set_option maxHeartbeats 2000000
/-! What a def promises, and what its caller has of it. -/
namespace PV
open PySem PySem.Spec L2
open PyProof.Rows hiding St

inductive All2 {α β : Type} (R : α → β → Prop) : List α → List β → Prop
  | nil : All2 R [] []
  | cons {a : α} {as : List α} {b : β} {bs : List β} : R a b → All2 R as bs → All2 R (a :: as) (b :: bs)
theorem All2.length {α β : Type} {R : α → β → Prop} {as : List α} {bs : List β} (h : All2 R as bs) : as.length = bs.length := by
  induction h with
  | nil => rfl
  | cons _ _ ih => simp [ih]
theorem All2.imp {α β : Type} {R S : α → β → Prop} {as : List α} {bs : List β} (h : All2 R as bs) (f : ∀ a b, R a b → S a b) : All2 S as bs := by
  induction h with
  | nil => exact .nil
  | cons h1 _ ih => exact .cons (f _ _ h1) ih

theorem nodup_of_get {α : Type} : ∀ {l : List α}, (∀ (i j : Nat) a, l[i]? = some a → l[j]? = some a → i = j) → l.Nodup
  | [], _ => List.nodup_nil
  | x :: l, h => by
    refine List.nodup_cons.mpr ⟨fun hx => ?_, nodup_of_get fun i j a e1 e2 => ?_⟩
    · obtain ⟨k, hk⟩ := List.getElem?_of_mem hx
      exact absurd (h 0 (k + 1) x rfl (by simpa using hk)) (by omega)
    · have := h (i + 1) (j + 1) a (by simpa using e1) (by simpa using e2)
      omega
/-- the addresses of what is lent -/
def lentA : List V → List (D × Bool) → List Addr
  | .ref a :: vs, (_, true) :: ds => a :: lentA vs ds
  | _ :: vs, _ :: ds => lentA vs ds
  | _, _ => []
section
variable (K : PySem.W.Frag) (mg : Str → Option Value)
structure CEnd (Tb : List (Addr × Str)) (F : Fz) (H : Hp) (W : List Addr) (F' : Fz) (H' : Hp) : Prop where
  stp : Stp F H F' H'
  tab : LamX.Tabs Tb H'
  old : ∀ a o, H a = some o → a ∉ W → (∀ ps, o ≠ .tbl ps) → H' a = some o
  dom : ∀ a, (H a).isSome = true → (H' a).isSome = true
  new : ∀ a, F' a → F a ∨ H a = none ∨ a ∈ W
  lv : live F' H'
/-- an argument as it is handed over -/
def HandR (F : Fz) (H : Hp) (v : V) (d : D × Bool) : Prop := match d.2 with
  | true => ∃ a, v = .ref a ∧ OwnAt K mg F H a d.1 ∧ ¬ F a
  | false => Rep K mg F H v d.1
/-- what became of what was lent -/
def FinR (F : Fz) (H : Hp) (a : Addr) (s : Sl) : Prop := match s with
  | .l x => OwnAt K mg F H a x ∧ ¬ F a
  | .f x => Rep K mg F H (.ref a) x ∧ NT H a
  | _ => False
def RetR (F : Fz) (H H' : Hp) (v : V) (d : D) (u : Bool) : Prop := match u with
  | true => ∃ a, v = .ref a ∧ OwnAt K mg F H' a d ∧ ¬ F a ∧ H a = none
  | false => Rep K mg F H' v d
/-- the promise of a def, by the evaluator's own answer -/
def spU (Tb : List (Addr × Str)) (call : CallO) (f : FI) : Sp := fun vs H Q E => vs.length = f.ps.length ∧ ∃ (F : Fz) (ds : List (D × Bool)), live F H ∧ LamX.Tabs Tb H ∧ All2 (HandR K mg F H) vs ds ∧ (lentA vs ds).Nodup ∧ match call f.name ds with
  | .ok d u fin => ∀ v F' H', CEnd Tb F H (lentA vs ds) F' H' → All2 (FinR K mg F' H') (lentA vs ds) fin → RetR K mg F' H H' v d u → Q v H'
  | .exc e fin => ∀ cls dd F' H', CEnd Tb F H (lentA vs ds) F' H' → All2 (FinR K mg F' H') (lentA vs ds) fin → ExcAt K mg F' H' e cls dd → E cls dd H'
  | .stk => False
end
/-- the defs at hand: each keeps its promise at level k -/
def CallsOk (X : Cx) (Tb : List (Addr × Str)) (g : Gm) (call : CallO) (k : Nat) : Prop := ∀ x f, g.fn? x = some f → ∃ a fd, X.mg x = some (.ref a) ∧ PySem.W.keepIn X.K (.ref a) = true ∧ Binds X.K fd f.ps [] ∧
  FnOk X.prog X.w X.K X.mg X.base (L2N.CX X.prog X.w) k a fd f.ps (spU X.K X.mg Tb call f)

/-- how deep a lambda's call goes-/
def lmN : Bool → Nat
  | true => 2
  | false => 0
section
variable (K : PySem.W.Frag) (mg : Str → Option Value)
/-- what a call came to-/
def postR (Tb : List (Addr × Str)) (r : CRes) (F : Fz) (H : Hp) (Q : VK) (E : XK) : Prop := match r with
  | .ok d u _ => ∀ v F' H', CEnd Tb F H [] F' H' → RetR K mg F' H H' v d u → Q v H'
  | .exc e _ => ∀ cls dd F' H', CEnd Tb F H [] F' H' → ExcAt K mg F' H' e cls dd → E cls dd H'
  | .stk => False
end
/-- the lambda at f, in slot i, gives r-/
def ActOk (X : Cx) (W0 : Zx) (i : Nat) (f : Addr) (r : CRes) : Prop := ∃ c' q, (c', q) ∈ W0.Cd ∧ ∀ (W : WX) (pn : List (Addr × Obj)) (xe : Value → Shared → Prop) (x : Str) (p1 p2 : Pos), X.N[i]? = some x → Vis X.env.scope x → okName x = true → L2N.Takes (X.tr pn xe) W →
  PE (X.tr pn xe) (.Call (.Name x p1) [] [] p2) (fun σ H Q => σ[i]? = some (some (.ref f)) ∧ H c' = some (LamX.CodeO c' q) ∧ ∃ F, Stp W0.F0 W0.H0 F H ∧ live F H ∧ LamX.Tabs W0.Tb H ∧ postR X.K X.mg W0.Tb r F H Q (WE W σ))
/-- isinstance of the exception that slot i holds; its field-/
structure ExnOk (X : Cx) (c : C) (W0 : Zx) (i : Nat) (a : Addr) (e : EV) : Prop where
  isi : ∃ D, X.mg e.cls = some (.ref D) ∧ CallR X (.builtin "isinstance") (fun xs H Q => ∃ (k : V) (cv : Value) (b : Bool), xs = [.ref a, k] ∧ (∀ u, RelV k u → u = cv) ∧ PySem.W.kitOne X.K (.ref D) cv = some b ∧ (W0.xd = none ∨ ∃ dx fs, W0.xd = some dx ∧ H dx = some (.xd fs)) ∧ Q (.bl b) H)
  fld : ∀ f, c.g.fld? e.cls = some f → ∀ (t : Expr) (te : TE) (pos : Pos), attributeBase t f X.env (eval t X.env) = eval t X.env → PE X t te → ∃ A, PE X (.Attribute t f pos) (tXf a (.ref A) W0.xd A f te)

structure UD (X : Cx) (c : C) (W : WX) (W0 : Zx) : Prop extends UC X c W W0 where
  cal : c.hot = false → ∃ k, CallsOk X W0.Tb c.g c.call k ∧ Room (k + lmN c.lm) X.A
  lam : c.lm = true → ∃ cc P, LamX.TabB X.base X.mg cc P ∧ X.env.code = .ref cc ∧ (P, X.env.qual ++ "<lambda>") ∈ W0.Tb ∧ (∀ p ∈ W0.Tb, p.1 = P → p.2 = X.env.qual ++ "<lambda>") ∧ W0.H0 = X.H_0
  act : ∀ i r, c.act = some (i, r) → ∃ f, (i, f) ∈ W0.A ∧ ActOk X W0 i f r
  exn : ∀ i e, c.exn = some (i, e) → ∃ a, (i, a) ∈ W0.A ∧ ExnOk X c W0 i a e

theorem back1_len (ρ : Evm) (i : Nat) (s : Sl) : (back1 ρ i s).length = ρ.length := by
  unfold back1
  split <;> simp
theorem backs_len : ∀ (is : List Nat) (ss : List Sl) (ρ : Evm), (backs ρ is ss).length = ρ.length
  | [], _, _ => by unfold backs; rfl
  | _ :: _, [], _ => by unfold backs; rfl
  | i :: is, s :: ss, ρ => by unfold backs; rw [backs_len is ss, back1_len]
theorem back1_ne (ρ : Evm) {i j : Nat} (s : Sl) (h : j ≠ i) : (back1 ρ i s)[j]? = ρ[j]? := by
  unfold back1
  split <;> first | rfl | rw [List.getElem?_set_ne (Ne.symm h)]
theorem back1_at (ρ : Evm) (i : Nat) (s : Sl) : (back1 ρ i s)[i]? = (ρ[i]?).map fun t => bk t s := by
  unfold back1
  cases e : ρ[i]? with
  | none => exact e
  | some t =>
    have h : i < ρ.length := (List.getElem?_eq_some_iff.mp e).1
    simp [h]
theorem back1_congr {ρ ρ' : Evm} {i : Nat} (s : Sl) (h : ρ[i]? = ρ'[i]?) : (back1 ρ i s)[i]? = (back1 ρ' i s)[i]? := by
  rw [back1_at, back1_at, h]
theorem backs_out : ∀ (is : List Nat) (ss : List Sl) (ρ : Evm) (j : Nat), j ∉ is → (backs ρ is ss)[j]? = ρ[j]?
  | [], _, _, _, _ => by unfold backs; rfl
  | _ :: _, [], _, _, _ => by unfold backs; rfl
  | i :: is, s :: ss, ρ, j, h => by
    unfold backs
    rw [backs_out is ss _ j (fun z => h (List.mem_cons_of_mem _ z)), back1_ne ρ s (fun z => h (by rw [z]; exact List.mem_cons_self))]
theorem backs_in : ∀ (is : List Nat) (ss : List Sl) (ρ : Evm), is.Nodup → ∀ (k j : Nat) (s : Sl), is[k]? = some j → ss[k]? = some s → (backs ρ is ss)[j]? = (back1 ρ j s)[j]?
  | [], _, _, _, _, _, _, h, _ => by simp at h
  | _ :: _, [], _, _, _, _, _, _, h => by simp at h
  | i :: is, t :: ss, ρ, nd, 0, j, s, h1, h2 => by
    simp at h1 h2
    subst h1 h2
    unfold backs
    rw [backs_out is ss _ i (List.nodup_cons.mp nd).1]
  | i :: is, t :: ss, ρ, nd, k + 1, j, s, h1, h2 => by
    have h1' : is[k]? = some j := by simpa using h1
    have hj : j ≠ i := fun z => (List.nodup_cons.mp nd).1 (by rw [← z]; exact List.mem_of_getElem? h1')
    unfold backs
    rw [backs_in is ss _ (List.nodup_cons.mp nd).2 k j s h1' (by simpa using h2)]
    exact back1_congr s (back1_ne ρ t hj)

section
variable {Z : Zt} {F F' : Fz} {H H' : Hp} {ρ : Evm} {σ : L2.St}
/-- how arguments' values lie to what was read of them -/
abbrev OpsR (Z : Zt) (F : Fz) (H : Hp) (ρ : Evm) (σ : L2.St) : List V → List Op → Prop := All2 (OpR' Z F H ρ σ)
/-- the lent places, each with its address -/
structure Lent (ρ : Evm) (σ : L2.St) (is : List Nat) (as : List Addr) : Prop where
  len : is.length = as.length
  at_ : ∀ (k : Nat) i a, is[k]? = some i → as[k]? = some a → σ[i]? = some (some (.ref a)) ∧ ∃ s, ρ[i]? = some s ∧ s.own = true
theorem gath_ok (R : Rl Z F ρ σ H) : ∀ {vs : List V} {ps : List Op} {ds : List (D × Bool)}, OpsR Z F H ρ σ vs ps → gath ρ ps = some ds → All2 (HandR Z.K Z.mg F H) vs ds ∧ Lent ρ σ (lns ps) (lentA vs ds)
  | _, [], ds, h, e => by
    cases h
    unfold gath at e
    cases e
    exact ⟨.nil, ⟨rfl, fun k i a h => by simp [lns] at h⟩⟩
  | _, .vl x :: ps, ds, h, e => by
    cases h with
    | cons h1 h2 =>
      unfold gath at e
      rw [Option.map_eq_some_iff] at e
      obtain ⟨ds', e1, rfl⟩ := e
      obtain ⟨q1, q2⟩ := gath_ok R h2 e1
      refine ⟨.cons (show Rep Z.K Z.mg F H _ x from h1) q1, ?_⟩
      rename_i v vs
      have el : lentA (v :: vs) ((x, false) :: ds') = lentA vs ds' := by cases v <;> rfl
      rw [el]
      exact q2
  | _, .pl i :: ps, ds, h, e => by
    cases h with
    | cons h1 h2 =>
      rename_i v vs
      have hv : σ[i]? = some (some v) := h1
      have go : ∀ x ds' s, ρ[i]? = some s → (s = .o x ∨ s = .l x) → gath ρ ps = some ds' → ds = (x, true) :: ds' → All2 (HandR Z.K Z.mg F H) (v :: vs) ds ∧ Lent ρ σ (lns (.pl i :: ps)) (lentA (v :: vs) ds) := by
        intro x ds' s es ex e1 e2
        subst e2
        obtain ⟨q1, q2⟩ := gath_ok R h2 e1
        obtain ⟨w, hw, so⟩ := R.slot es
        rw [hv] at hw
        cases hw
        have ho : s.own = true := by rcases ex with rfl | rfl <;> rfl
        obtain ⟨a, x', ea, ow, nf, _, ek⟩ := so.own_some ho
        cases ea
        have : x' = x := by
          rcases ex with rfl | rfl
          · rcases ek with e | e <;> cases e; rfl
          · rcases ek with e | e <;> cases e; rfl
        subst this
        refine ⟨.cons ⟨a, rfl, ow, nf⟩ q1, ⟨by show (lns ps).length + 1 = (lentA vs ds').length + 1; rw [q2.len], fun k j b e1 e2 => ?_⟩⟩
        cases k with
        | zero =>
          have e3 : i = j := by simpa [lns] using e1
          have e4 : a = b := by simpa [lentA] using e2
          subst e3 e4
          exact ⟨hv, s, es, ho⟩
        | succ k => exact q2.at_ k j b (by simpa [lns] using e1) (by simpa [lentA] using e2)
      unfold gath at e
      split at e
      · rename_i x es
        rw [Option.map_eq_some_iff] at e
        obtain ⟨ds', e1, e2⟩ := e
        exact go x ds' _ es (.inl rfl) e1 e2.symm
      · rename_i x es
        rw [Option.map_eq_some_iff] at e
        obtain ⟨ds', e1, e2⟩ := e
        exact go x ds' _ es (.inr rfl) e1 e2.symm
      · cases e
theorem Lent.nodup {is : List Nat} {as : List Addr} (R : Rl Z F ρ σ H) (l : Lent ρ σ is as) (nd : is.Nodup) : as.Nodup := by
  refine nodup_of_get fun k m a e1 e2 => ?_
  have hk : k < is.length := by rw [l.len]; exact (List.getElem?_eq_some_iff.mp e1).1
  have hm : m < is.length := by rw [l.len]; exact (List.getElem?_eq_some_iff.mp e2).1
  obtain ⟨a1, s1, b1, c1⟩ := l.at_ k is[k] a (List.getElem?_eq_getElem hk) e1
  obtain ⟨a2, s2, b2, c2⟩ := l.at_ m is[m] a (List.getElem?_eq_getElem hm) e2
  exact (List.getElem_inj nd).mp (R.sep _ _ s1 s2 _ b1 b2 c1 c2 a1 a2)
/-- behind a call -/
theorem Rl.called (R : Rl Z F ρ σ H) {is : List Nat} {as : List Addr} {fin : List Sl} (l : Lent ρ σ is as) (nd : is.Nodup) (c : CEnd Z.W0.Tb F H as F' H') (f : All2 (FinR Z.K Z.mg F' H') as fin) :
    Rl Z F' (backs ρ is fin) σ H' := by
  have hlen : fin.length = is.length := by rw [← f.length, l.len]
  have finAt : ∀ (k : Nat) a, as[k]? = some a → ∃ s, fin[k]? = some s ∧ FinR Z.K Z.mg F' H' a s := by
    intro k a
    clear nd l hlen c
    induction f generalizing k with
    | nil => intro e; simp at e
    | cons h1 _ ih =>
      intro e
      cases k with
      | zero => simp at e; subst e; exact ⟨_, rfl, h1⟩
      | succ k => obtain ⟨s, q1, q2⟩ := ih k (by simpa using e); exact ⟨s, by simpa using q1, q2⟩
  -- a slot behind the call
  have slot : ∀ (j : Nat) s', (backs ρ is fin)[j]? = some s' → (j ∉ is ∧ ρ[j]? = some s') ∨ (∃ (a : Addr) (s t : Sl), σ[j]? = some (some (V.ref a)) ∧ a ∈ as ∧ ρ[j]? = some s ∧ s.own = true ∧ FinR Z.K Z.mg F' H' a t ∧
      ((∃ y x, s = .o y ∧ t = .l x ∧ s' = .o x) ∨ (∃ y x, s = .o y ∧ t = .f x ∧ s' = .d x) ∨ (∃ y x, s = .l y ∧ t = .l x ∧ s' = .l x) ∨ (∃ y x, s = .l y ∧ t = .f x ∧ s' = .f x))) := by
    intro j s' hs'
    by_cases hj : j ∈ is
    · right
      obtain ⟨k, hk⟩ := List.getElem?_of_mem hj
      have hka : k < as.length := by rw [← l.len]; exact (List.getElem?_eq_some_iff.mp hk).1
      have ha : as[k]? = some as[k] := List.getElem?_eq_getElem hka
      obtain ⟨t, ht, fr⟩ := finAt k _ ha
      obtain ⟨h1, s, h2, h3⟩ := l.at_ k j _ hk ha
      rw [backs_in is fin ρ nd k j t hk ht] at hs'
      refine ⟨as[k], s, t, h1, List.getElem_mem hka, h2, h3, fr, ?_⟩
      have hjl : j < ρ.length := (List.getElem?_eq_some_iff.mp h2).1
      cases s with
      | o y =>
        cases t with
        | l x => left; refine ⟨y, x, rfl, rfl, ?_⟩; rw [back1_at, h2] at hs'; exact (Option.some.inj hs').symm
        | f x => right; left; refine ⟨y, x, rfl, rfl, ?_⟩; rw [back1_at, h2] at hs'; exact (Option.some.inj hs').symm
        | e => exact fr.elim
        | x e => exact fr.elim
        | d x => exact fr.elim
        | o x => exact fr.elim
      | l y =>
        cases t with
        | l x => right; right; left; refine ⟨y, x, rfl, rfl, ?_⟩; rw [back1_at, h2] at hs'; exact (Option.some.inj hs').symm
        | f x => right; right; right; refine ⟨y, x, rfl, rfl, ?_⟩; rw [back1_at, h2] at hs'; exact (Option.some.inj hs').symm
        | e => exact fr.elim
        | x e => exact fr.elim
        | d x => exact fr.elim
        | o x => exact fr.elim
      | e => cases h3
      | x e => cases h3
      | d x => cases h3
      | f x => cases h3
    · left
      rw [backs_out is fin ρ j hj] at hs'
      exact ⟨hj, hs'⟩
  -- an own slot that was not lent
  have free : ∀ (j : Nat) s a, j ∉ is → ρ[j]? = some s → s.own = true → σ[j]? = some (some (.ref a)) → a ∉ as := by
    intro j s a hj hs ho hv ha
    obtain ⟨k, hk⟩ := List.getElem?_of_mem ha
    have hki : k < is.length := by rw [l.len]; exact (List.getElem?_eq_some_iff.mp hk).1
    obtain ⟨h1, s2, h2, h3⟩ := l.at_ k is[k] a (List.getElem?_eq_getElem hki) hk
    have e := R.sep j is[k] s s2 a hs h2 ho h3 hv h1
    exact hj (by rw [e]; exact List.getElem_mem hki)
  have ntbl : ∀ {a : Addr} {x : D} {o : HO}, OwnAt Z.K Z.mg F H a x → H a = some o → ∀ ps, o ≠ .tbl ps := by
    intro a x o ow e ps z
    obtain ⟨o', e', hr⟩ := ow
    rw [e] at e'
    cases e'
    subst z
    cases hr
  have keep : ∀ {a : Addr} {x : D}, OwnAt Z.K Z.mg F H a x → a ∉ as → H' a = H a := by
    intro a x ow hn
    obtain ⟨o, e, hr⟩ := id ow
    rw [e]
    exact c.old a o e hn (ntbl ow e)
  have nofz : ∀ {a : Addr} {x : D}, OwnAt Z.K Z.mg F H a x → ¬ F a → a ∉ as → ¬ F' a := by
    intro a x ow nf hn hf
    rcases c.new a hf with z | z | z
    · exact nf z
    · have q := ow.some
      rw [z] at q; cases q
    · exact hn z
  have asOwn : ∀ a ∈ as, ∃ (j : Nat) (s : Sl) (x : D), σ[j]? = some (some (V.ref a)) ∧ ρ[j]? = some s ∧ s.own = true ∧ OwnAt Z.K Z.mg F H a x ∧ (Z.B a = none ∨ Z.W0.W a) := by
    intro a ha
    obtain ⟨k, hk⟩ := List.getElem?_of_mem ha
    have hki : k < is.length := by rw [l.len]; exact (List.getElem?_eq_some_iff.mp hk).1
    obtain ⟨h1, s2, h2, h3⟩ := l.at_ k is[k] a (List.getElem?_eq_getElem hki) hk
    obtain ⟨a', x, e, ow, _, b, _⟩ := (R.sl _ _ _ h2 h1).own_some h3
    cases e
    exact ⟨_, s2, x, h1, h2, h3, ow, b⟩
  refine ⟨by rw [backs_len]; exact R.len, fun j s' v h1 h2 => ?_, fun i j s t a h1 h2 h3 h4 h5 h6 => ?_, fun p hp => ?_, fun a o h1 h2 h3 => ?_, fun a h => c.dom a (R.dom a h), c.lv, fun p hp => ?_, ⟨c.tab, fun p hp => c.old _ _ (R.tab.2 p hp) (fun ha => by
    obtain ⟨j, s, x, _, _, _, ⟨ob, hob, hr⟩, _⟩ := asOwn _ ha
    rw [R.tab.2 p hp] at hob
    cases hob
    exact hr.notTC _ _ (.inr ⟨_, _, rfl⟩)) LamX.codeO_ne⟩, R.stp0.trans c.stp, R.hb, fun a ha => by
    rcases c.new a ha with z | z | z
    · exact R.nfz a z
    · right; left
      cases q : Z.B a with
      | none => rfl
      | some o =>
        have h3 := R.dom a (by rw [q] <;> rfl)
        rw [z] at h3; cases h3
    · obtain ⟨j, s, x, _, _, _, _, b⟩ := asOwn a z
      exact .inr b, fun a ha => ?_⟩
  · rcases slot j s' h1 with ⟨hj, hs⟩ | ⟨a, s, t, hv, ha, hs, ho, fr, hk⟩
    · refine (R.sl j s' v hs h2).step c.stp fun a ho hv nf => ?_
      subst hv
      obtain ⟨a', x, e, ow, _⟩ := (R.sl j s' _ hs h2).own_some ho
      cases e
      have hn := free j s' a hj hs ho h2
      exact ⟨keep ow hn, nofz ow nf hn⟩
    · rw [hv] at h2
      cases h2
      have so := R.sl j s _ hs hv
      rcases hk with ⟨y, x, rfl, rfl, rfl⟩ | ⟨y, x, rfl, rfl, rfl⟩ | ⟨y, x, rfl, rfl, rfl⟩ | ⟨y, x, rfl, rfl, rfl⟩
      · obtain ⟨a', e, _, _, b⟩ := so
        cases e
        exact ⟨a, rfl, fr.1, fr.2, b⟩
      · exact ⟨_, rfl, fr.1⟩
      · obtain ⟨a', e, _, _, b⟩ := so
        cases e
        exact ⟨a, rfl, fr.1, fr.2, b⟩
      · exact ⟨_, rfl, fr.1⟩
  · have own : ∀ (j : Nat) s, (backs ρ is fin)[j]? = some s → s.own = true → ∃ t, ρ[j]? = some t ∧ t.own = true := by
      intro j s h ho
      rcases slot j s h with ⟨_, hs⟩ | ⟨_, s0, _, _, _, hs, ho0, _, _⟩
      · exact ⟨s, hs, ho⟩
      · exact ⟨s0, hs, ho0⟩
    obtain ⟨s0, q1, q2⟩ := own i s h1 h3
    obtain ⟨t0, q3, q4⟩ := own j t h2 h4
    exact R.sep i j s0 t0 a q1 q3 q2 q4 h5 h6
  · obtain ⟨⟨s, hs, hpn⟩, hv⟩ := R.pin p hp
    refine ⟨?_, hv⟩
    have hjl : p.1 < (backs ρ is fin).length := by rw [backs_len]; exact (List.getElem?_eq_some_iff.mp hs).1
    have e : (backs ρ is fin)[p.1]? = some (backs ρ is fin)[p.1] := List.getElem?_eq_getElem hjl
    refine ⟨_, e, ?_⟩
    rcases slot p.1 _ e with ⟨_, h⟩ | ⟨a, s0, t, _, _, hs0, _, _, hk⟩
    · rw [hs] at h
      cases h
      exact hpn
    · rw [hs] at hs0
      cases hs0
      rcases hk with ⟨y, x, rfl, rfl, h⟩ | ⟨y, x, rfl, rfl, h⟩ | ⟨y, x, rfl, rfl, h⟩ | ⟨y, x, rfl, rfl, h⟩
      · cases hpn
      · cases hpn
      · rw [h] <;> rfl
      · rw [h] <;> rfl
  · have h4 := R.old a o h1 h2 h3
    refine c.old a o h4 (fun ha => ?_) h3
    obtain ⟨j, s, x, _, _, _, _, b⟩ := asOwn a ha
    rcases b with b | b
    · rw [b] at h1; cases h1
    · exact h2 b
  · obtain ⟨k1, k2, k3, k4⟩ := R.kept p hp
    have hn : p.1 ∉ as := fun ha => by
      obtain ⟨j, s, x, q1, q2, q3, _⟩ := asOwn _ ha
      exact k4 j s q2 q3 q1
    refine ⟨k1.step (keep k1 hn) c.stp, nofz k1 k2 hn, k3, fun j s h1 h2 h3 => ?_⟩
    rcases slot j s h1 with ⟨_, hs⟩ | ⟨a, s0, t, hv, ha, hs, ho, _, _⟩
    · exact k4 j s hs h2 h3
    · rw [hv] at h3
      cases h3
      exact hn ha
  · obtain ⟨o, e, n⟩ := R.wn a ha
    by_cases hm : a ∈ as
    · obtain ⟨k, hk⟩ := List.getElem?_of_mem hm
      obtain ⟨t, ht, fr⟩ := finAt k a hk
      cases t with
      | l x => exact fr.1.nt
      | f x => exact fr.2
      | e => exact fr.elim
      | x e => exact fr.elim
      | d x => exact fr.elim
      | o x => exact fr.elim
    · exact ⟨o, c.old a o e hm n, n⟩
end
end PV
end

section
set_option maxHeartbeats 2000000
/-! Expressions and tests, construct by construct. -/
namespace PV
open PySem PySem.Spec L2
open PyProof.Rows hiding St

section
variable {X : Cx} {c : C} {W : WX} {B : Hp} {W0 : Zx} {L : List (Nat × Addr)} {T : List (Addr × D)}
theorem R2_imp {f : Value → Value → Sem Value} {r r' : R2} (h : OpR X f r) (w : ∀ x y H Q, r' x y H Q → r x y H Q) : OpR X f r' := fun pins s σ H x y v u Q I rx ry q => h pins s σ H x y v u Q I rx ry (w x y H Q q)

/-! ### index, slice, truth -/
def rIxD (Z : Zt) : R2 := fun v w H Q => ∃ F x y, live F H ∧ Pk Z F H v x ∧ Pk Z F H w y ∧ Mk Z F H ((indexD x y).map fun z => (z, false)) Q
theorem atI_map {F : Fz} {H : Hp} {Z : Zt} {vs : List V} {ds : List D} {i : Int} {d : D} (r : Reps Z.K Z.mg F H vs ds) (h : atI ds i = some d) : ∃ v, atI vs i = some v ∧ Rep Z.K Z.mg F H v d := by
  unfold atI at h ⊢
  rw [r.length]
  cases e : ixN ds.length i with
  | none => rw [e] at h; cases h
  | some j =>
    rw [e] at h
    exact r.get h
theorem ix_ok : IxR X (rIxD (zt X B W0 L T)) := by
  intro value slice pins s σ H v w a b Q I ra rb h hs
  obtain ⟨F, x, y, l, px, py, m⟩ := h
  unfold indexD at m
  split at m
  · rename_i xs i
    obtain ⟨p1, vs, rfl, h1, r1, q1⟩ := px.tup
    cases py.int
    cases e : atI xs i with
    | none => rw [e] at m; exact (mk_none m).elim
    | some d =>
      rw [e] at m
      obtain ⟨v, hv, rp⟩ := atI_map r1 e
      exact ix_tup value slice pins s σ H _ _ a b Q I ra rb ⟨p1, vs, i, v, rfl, rfl, h1, hv, m.rep l rp⟩ hs
  · rename_i xs i
    obtain ⟨p1, vs, rfl, h1, r1⟩ := px.lst
    cases py.int
    cases e : atI xs i with
    | none => rw [e] at m; exact (mk_none m).elim
    | some d =>
      rw [e] at m
      obtain ⟨v, hv, rp⟩ := atI_map r1 e
      exact ix_list value slice pins s σ H _ _ a b Q I ra rb ⟨p1, vs, i, v, rfl, rfl, SqL.of h1, hv, m.rep l rp⟩ hs
  · rename_i z i
    cases px.str
    cases py.int
    cases hl : lineOk z.length with
    | false => rw [hl] at m; exact (mk_none m).elim
    | true =>
      rw [hl] at m
      dsimp only at m
      cases e : atI z.cps.toList i with
      | none => rw [e] at m; exact (mk_none m).elim
      | some d =>
        rw [e] at m
        exact ix_str value slice pins s σ H _ _ a b Q I ra rb ⟨z, i, d, rfl, rfl, lineOk_at hl, e, m.rep l (.str _)⟩ hs
  · exact (mk_none m).elim
theorem cut_reps {F : Fz} {H : Hp} {Z : Zt} {vs : List V} {ds : List D} (lo hi : Option Int) (r : Reps Z.K Z.mg F H vs ds) : Reps Z.K Z.mg F H (cutV vs lo hi) (cutD ds lo hi) := by
  unfold cutV cutD
  rw [r.length]
  exact (r.drop _).take _
def rSlD (Z : Zt) : V → Option Int → Option Int → Hp → VK → Prop := fun v lo hi H Q => ∃ F x, live F H ∧ Pk Z F H v x ∧ Mk Z F H (sliceD x lo hi) Q
theorem sl_ok : SlR X (rSlD (zt X B W0 L T)) := by
  intro pins s σ H v a vl vu lo hi sl Q I ra hs pl pu h
  obtain ⟨F, x, l, px, m⟩ := h
  unfold sliceD at m
  split at m
  · rename_i xs
    obtain ⟨p1, vs, rfl, h1, r1, q1⟩ := px.tup
    refine sl_tupA pins s σ H _ a vl vu lo hi sl Q I ra hs pl pu ⟨p1, vs, rfl, h1, fun e => ?_, fun _ p hp => m.tup l (cut_reps lo hi r1) hp⟩
    have ec : cutD xs lo hi = xs := by
      unfold cutD
      rw [← r1.length, e.1, e.2, List.drop_zero, Nat.sub_zero, r1.length, List.take_length]
    rw [ec] at m
    exact m.rep l q1
  · obtain ⟨p1, vs, rfl, h1, r1⟩ := px.lst
    exact sl_list pins s σ H _ a vl vu lo hi sl Q I ra hs pl pu ⟨p1, vs, rfl, SqL.of h1, fun p hp => m.lst l (cut_reps lo hi r1) hp⟩
  · exact (mk_none m).elim
theorem tru_at {F : Fz} {H : Hp} {Z : Zt} {v : V} {x : D} {k : Bool} (p : Pk Z F H v x) (e : truD x = some k) : TruV Z.K v H k := by
  unfold truD at e
  split at e
  · cases p.non; cases e; rfl
  · cases p.bl; cases e; rfl
  · cases p.int; cases e; rfl
  · cases p.str
    obtain ⟨h1, h2⟩ := gd_at e
    exact ⟨lineOk_at h1, h2.symm⟩
  · obtain ⟨p1, vs, rfl, h1, r1, _⟩ := p.tup
    cases e
    refine .inr (.inl ⟨vs, h1, ?_⟩)
    cases r1 <;> rfl
  · obtain ⟨p1, vs, rfl, h1, r1⟩ := p.lst
    cases e
    refine .inl ⟨vs, SqL.of h1, ?_⟩
    cases r1 <;> rfl
  · cases e

/-! ### built-ins -/
theorem tyX_at {F : Fz} {H : Hp} {Z : Zt} {v : V} {x : D} {t : String} (p : Pk Z F H v x) (e : tyD x = some t) : TyX Z.K H v (.type t) := by
  unfold tyD at e
  split at e
  · cases p.non; cases e; exact .base .non
  · cases p.bl; cases e; exact .base (.bl _)
  · cases p.int; cases e; exact .base (.int _)
  · cases p.str; cases e; exact .base (.str _)
  · obtain ⟨p1, vs, rfl, h1, r1, _⟩ := p.tup
    cases e
    rcases h1 with (h1 | ⟨o, h1⟩) | ⟨o, its, n, hk, hc, _⟩
    · exact .base (.tup h1)
    · exact .fTuple h1
    · exact .kTuple hk hc
  · obtain ⟨p1, vs, rfl, h1, r1⟩ := p.lst
    cases e
    exact .base (.lst h1)
  · obtain ⟨p1, vs, rfl, h1, r1⟩ := p.scr
    cases e
    rcases h1 with (h1 | ⟨o, h1⟩) | ⟨o, its, n, hk, hc, _⟩
    · exact .base (.lst h1)
    · exact .base (.frz h1)
    · exact .kList hk hc
  · cases e
    rcases p with p | ⟨a, rfl, o, h1, h2⟩
    · cases p with
      | dK h1 _ =>
        rcases h1.2 with h2 | ⟨o, h2⟩
        · exact .base (.dK h2)
        · exact .fDict h2
    · cases h2 with
      | dK h2 => exact .base (.dK h1)
  · cases e
    rcases p with p | ⟨a, rfl, o, h1, h2⟩
    · cases p with
      | dT h1 _ => exact .base (.dT h1.2)
    · cases h2 with
      | dT h2 => exact .base (.dT h1)
  · cases e
theorem tyKnown_at {t : String} (h : tyKnown t = true) : t = "int" ∨ t = "bool" ∨ t = "tuple" ∨ t = "list" ∨ t = "str" ∨ t = "dict" ∨ t = "NoneType" := by
  unfold tyKnown at h
  simpa [Bool.or_eq_true] using h
theorem isa_ok {K : PySem.W.Frag} {t U : String} {k : Bool} (h : isa t U = some k) : PySem.W.kitOne K (.type t) (.type U) = some k := by
  obtain ⟨h1, rfl⟩ := gd_at h
  rw [Bool.and_eq_true] at h1
  have a := tyKnown_at h1.1
  have b := tyKnown_at h1.2
  rcases a with rfl | rfl | rfl | rfl | rfl | rfl | rfl <;> rcases b with rfl | rfl | rfl | rfl | rfl | rfl | rfl <;> exact kit_ty (by decide +kernel)
/-- what is looked at, item by item -/
abbrev Pks (Z : Zt) (F : Fz) (H : Hp) : List V → List D → Prop := All2 (Pk Z F H)
def rBi (Z : Zt) (b : Bi) : List V → Hp → VK → Prop := fun vs H Q => ∃ F xs, live F H ∧ Pks Z F H vs xs ∧ Mk Z F H (biCall b xs) Q
theorem pks1 {Z : Zt} {F : Fz} {H : Hp} {vs : List V} {x : D} (h : Pks Z F H vs [x]) : ∃ v, vs = [v] ∧ Pk Z F H v x := by
  cases h with
  | cons h1 h2 => cases h2; exact ⟨_, rfl, h1⟩
theorem pks2 {Z : Zt} {F : Fz} {H : Hp} {vs : List V} {x y : D} (h : Pks Z F H vs [x, y]) : ∃ v w, vs = [v, w] ∧ Pk Z F H v x ∧ Pk Z F H w y := by
  cases h with
  | cons h1 h2 =>
    cases h2 with
    | cons h2 h3 => cases h3; exact ⟨_, _, rfl, h1, h2⟩
theorem mk_map {Z : Zt} {F : Fz} {H : Hp} {Q : VK} {α : Type} {o : Option α} {f : α → D × Bool} (h : Mk Z F H (o.map f) Q) : ∃ a, o = some a ∧ Mk Z F H (some (f a)) Q := by
  cases o with
  | none => exact (mk_none h).elim
  | some a => exact ⟨a, rfl, h⟩
theorem bi_ok {b : Bi} (hc : X.calm = true ∨ b.cool = true) : CallR X b.val (rBi (zt X B W0 L T) b) := by
  intro pins s σ H vs us Q I r h
  obtain ⟨F, xs, l, ps, m⟩ := h
  cases b with
  | fn id =>
    have m : Mk _ F H (bltF id xs) Q := m
    unfold bltF at m
    split at m
    · obtain ⟨v, rfl, p⟩ := pks1 ps
      obtain ⟨a, ws, rfl, h1, r1, _⟩ := p.tup
      exact call_len pins s σ H _ us Q I r ⟨_, _, rfl, .inr ⟨ws, h1, r1.length.symm⟩, m.rep l (.int _)⟩
    · obtain ⟨v, rfl, p⟩ := pks1 ps
      obtain ⟨a, ws, rfl, h1, r1⟩ := p.lst
      exact call_len pins s σ H _ us Q I r ⟨_, _, rfl, .inl ⟨ws, SqL.of h1, r1.length.symm⟩, m.rep l (.int _)⟩
    · obtain ⟨hs, m⟩ := mk_gd m
      obtain ⟨v, rfl, p⟩ := pks1 ps
      cases p.str
      exact call_len_str pins s σ H _ us Q I r ⟨_, rfl, lineOk_at hs, m.rep l (.int _)⟩
    · obtain ⟨v, rfl, p⟩ := pks1 ps
      cases p.int
      exact call_abs pins s σ H _ us Q I r ⟨_, rfl, m.rep l (.int _)⟩
    · obtain ⟨v, w, rfl, p, q⟩ := pks2 ps
      cases p.int; cases q.int
      exact call_max2 (hc.resolve_right (by decide)) pins s σ H _ us Q I r ⟨_, _, rfl, m.rep l (.int _)⟩
    · obtain ⟨v, w, rfl, p, q⟩ := pks2 ps
      cases p.int; cases q.int
      exact call_min2 (hc.resolve_right (by decide)) pins s σ H _ us Q I r ⟨_, _, rfl, m.rep l (.int _)⟩
    · obtain ⟨ns, e, m⟩ := mk_map m
      obtain ⟨v, rfl, p⟩ := pks1 ps
      obtain ⟨a, ws, rfl, h1, r1⟩ := p.lst
      rw [intsD_at e r1] at h1
      exact cr_sum (hc.resolve_right (by decide)) pins s σ H _ us Q I r ⟨a, ns, rfl, SqL.of h1, m.rep l (.int _)⟩
    · obtain ⟨ns, e, m⟩ := mk_map m
      obtain ⟨v, rfl, p⟩ := pks1 ps
      obtain ⟨a, ws, rfl, h1, r1, _⟩ := p.tup
      rw [intsD_at e r1] at h1
      exact cr_sumT (hc.resolve_right (by decide)) pins s σ H _ us Q I r ⟨a, ns, rfl, h1, m.rep l (.int _)⟩
    · obtain ⟨ns, e, m⟩ := mk_map m
      obtain ⟨v, rfl, p⟩ := pks1 ps
      obtain ⟨a, ws, rfl, h1, r1⟩ := p.lst
      rw [blsD_at e r1] at h1
      exact cr_all (hc.resolve_right (by decide)) pins s σ H _ us Q I r ⟨a, ns, rfl, SqL.of h1, m.rep l (.bl _)⟩
    · obtain ⟨ns, e, m⟩ := mk_map m
      obtain ⟨v, rfl, p⟩ := pks1 ps
      obtain ⟨a, ws, rfl, h1, r1⟩ := p.lst
      rw [blsD_at e r1] at h1
      exact cr_any (hc.resolve_right (by decide)) pins s σ H _ us Q I r ⟨a, ns, rfl, SqL.of h1, m.rep l (.bl _)⟩
    · obtain ⟨v, rfl, p⟩ := pks1 ps
      obtain ⟨a, ws, rfl, h1, r1⟩ := p.scr
      exact call_len pins s σ H _ us Q I r ⟨_, _, rfl, .inl ⟨ws, h1, r1.length.symm⟩, m.rep l (.int _)⟩
    · obtain ⟨k, e, m'⟩ := mk_map m
      obtain ⟨v, w, rfl, p, q⟩ := pks2 ps
      unfold isInst at e
      split at e
      · split at e
        · rename_i t et
          cases q.ty
          exact call_isi pins s σ H _ us Q I r ⟨v, _, _, _, k, rfl, .ty _, tyX_at p et, isa_ok e, m'.rep l (.bl _)⟩
        · cases e
      · cases e
    · exact (mk_none m).elim
  | ty n =>
    have m : Mk _ F H (bltT n xs) Q := m
    unfold bltT at m
    split at m
    · obtain ⟨v, rfl, p⟩ := pks1 ps
      obtain ⟨a, ws, rfl, h1, r1, q1⟩ := p.tup
      exact call_tuple_of pins s σ H _ us Q I r ⟨a, ws, rfl, .inr ⟨h1, m.rep l q1⟩⟩
    · obtain ⟨v, rfl, p⟩ := pks1 ps
      obtain ⟨a, ws, rfl, h1, r1⟩ := p.lst
      exact call_tuple_of pins s σ H _ us Q I r ⟨a, ws, rfl, .inl ⟨SqL.of h1, fun p hp => m.tup l r1 hp⟩⟩
    · obtain ⟨v, rfl, p⟩ := pks1 ps
      obtain ⟨a, ws, rfl, h1, r1, q1⟩ := p.tup
      exact call_list_of pins s σ H _ us Q I r ⟨a, ws, rfl, .inr h1, fun p hp => m.lst l r1 hp⟩
    · obtain ⟨v, rfl, p⟩ := pks1 ps
      obtain ⟨a, ws, rfl, h1, r1⟩ := p.lst
      exact call_list_of pins s σ H _ us Q I r ⟨a, ws, rfl, .inl (SqL.of h1), fun p hp => m.lst l r1 hp⟩
    · obtain ⟨v, rfl, p⟩ := pks1 ps
      obtain ⟨a, ws, rfl, h1, r1⟩ := p.scr
      exact call_list_of pins s σ H _ us Q I r ⟨a, ws, rfl, .inl h1, fun p hp => m.lst l r1 hp⟩
    · obtain ⟨v, rfl, p⟩ := pks1 ps
      cases p.int
      exact call_int1 pins s σ H _ us Q I r (.inl ⟨_, rfl, m.rep l (.int _)⟩)
    · obtain ⟨v, rfl, p⟩ := pks1 ps
      cases p.bl
      exact call_int1 pins s σ H _ us Q I r (.inr ⟨_, rfl, m.rep l (.int _)⟩)
    · obtain ⟨hs, m⟩ := mk_gd m
      obtain ⟨v, rfl, p⟩ := pks1 ps
      cases p.int
      exact call_str_int pins s σ H _ us Q I r ⟨_, rfl, of_decide_eq_true hs, m.rep l (.str _)⟩
    · exact (mk_none m).elim
end
end PV
end

section
set_option maxHeartbeats 2000000
/-! Expressions and tests: each construct does what the evaluator says. -/
namespace PV
open PySem PySem.Spec L2
open PyProof.Rows hiding St

abbrev tTst (Z : Zt) (W : WX) (m : M Bool) : TT := tM Z W m (fun _ _ _ _ b k => b = k)
abbrev tArgs (Z : Zt) (W : WX) (m : M (List D)) : TA := tM Z W m (fun F H _ _ vs ds => Reps Z.K Z.mg F H vs ds)
abbrev tOpns (Z : Zt) (W : WX) (m : M (List Op)) : TA := tM Z W m (fun F H ρ σ vs ps => OpsR Z F H ρ σ vs ps)
/-- the parts do what they say -/
structure Ok (o : Ops) : Prop where
  ev : ∀ {X : Cx} {c : C} {W : WX} {B : Hp} {W0 : Zx} {L : List (Nat × Addr)} {T : List (Addr × D)} (e : Expr), UD X c W W0 → PE X e (tEv (zt X B W0 L T) W (o.ev c e))
  opn : ∀ {X : Cx} {c : C} {W : WX} {B : Hp} {W0 : Zx} {L : List (Nat × Addr)} {T : List (Addr × D)} (e : Expr), UD X c W W0 → PE X e (tOpn (zt X B W0 L T) W (o.opn c e))
  tst : ∀ {X : Cx} {c : C} {W : WX} {B : Hp} {W0 : Zx} {L : List (Nat × Addr)} {T : List (Addr × D)} (e : Expr), UD X c W W0 → PT X e (tTst (zt X B W0 L T) W (o.tst c e))
  args : ∀ {X : Cx} {c : C} {W : WX} {B : Hp} {W0 : Zx} {L : List (Nat × Addr)} {T : List (Addr × D)} (es : List Expr), UD X c W W0 → PA X es (tArgs (zt X B W0 L T) W (o.args c es))
  opns : ∀ {X : Cx} {c : C} {W : WX} {B : Hp} {W0 : Zx} {L : List (Nat × Addr)} {T : List (Addr × D)} (es : List Expr), UD X c W W0 → PA X es (tOpns (zt X B W0 L T) W (o.opns c es))
  argc : ∀ {X : Cx} {c : C} {W : WX} {B : Hp} {W0 : Zx} {L : List (Nat × Addr)} {T : List (Addr × D)} (bs : List Bool) (es : List Expr), UD X c W W0 → PA X es (tOpns (zt X B W0 L T) W (o.argc c bs es))

section
variable {X : Cx} {c : C} {W : WX} {B : Hp} {W0 : Zx} {L : List (Nat × Addr)} {T : List (Addr × D)} {o : Ops}

theorem OpsR.step {Z : Zt} {F F' : Fz} {H H' : Hp} {ρ ρ' : Evm} {σ : L2.St} {vs : List V} {ps : List Op} (h : OpsR Z F H ρ σ vs ps) (s : Stp F H F' H') : OpsR Z F' H' ρ' σ vs ps :=
  h.imp fun v p q => by
    cases p with
    | pl i => exact q
    | vl x => exact Rep.step s q
theorem OpR'.step {Z : Zt} {F F' : Fz} {H H' : Hp} {ρ ρ' : Evm} {σ : L2.St} {v : V} {p : Op} (h : OpR' Z F H ρ σ v p) (s : Stp F H F' H') : OpR' Z F' H' ρ' σ v p := by
  cases p with
  | pl i => exact h
  | vl x => exact Rep.step s h
theorem ress_pk {Z : Zt} {F : Fz} {H : Hp} {ρ : Evm} {σ : L2.St} (R : Rl Z F ρ σ H) : ∀ {vs : List V} {ps : List Op} {xs : List D}, OpsR Z F H ρ σ vs ps → ress ρ ps = some xs → Pks Z F H vs xs
  | _, [], _, h, e => by
    cases h
    unfold ress at e
    cases e
    exact .nil
  | _, p :: ps, _, h, e => by
    cases h with
    | cons h1 h2 =>
      unfold ress at e
      split at e
      · rename_i x xs e1 e2
        cases e
        exact .cons (res_pk h1 (.refl _ _) R e1) (ress_pk R h2 e2)
      · cases e
theorem star_of {e : Expr} {es : List Expr} (h : notStar e = true) : starEach (e :: es) X.env = (false, eval e X.env) :: starEach es X.env := by
  cases e <;> first | rfl | cases h

/-! ### lists of arguments -/
theorem ok_args (ho : Ok o) (u : UD X c W W0) (es : List Expr) : PA X es (tArgs (zt X B W0 L T) W (args1 o c es)) := by
  cases es with
  | nil =>
    exact PA.imp pa_nil fun σ H Q h => by
      obtain ⟨F, ρ, R, h⟩ := tM_at h
      exact h [] F H (.refl _ _) R .nil
  | cons e es =>
    cases hn : notStar e with
    | false =>
      refine ⟨fun pos pins s σ H Q I h => ?_⟩
      simp only [args1, hn] at h
      exact (t_stk h).elim
    | true =>
      simp only [args1, hn]
      refine PA.imp (pa_cons (ho.ev (B := B) (W0 := W0) (L := L) (T := T) e u) (ho.args (B := B) (W0 := W0) (L := L) (T := T) es u) (star_of hn)) fun σ H Q h => ?_
      obtain ⟨F, ρ, R, h⟩ := tM_at h
      refine tM_bnd R h fun r ρ1 v F1 H1 s1 R1 rr h1 => ?_
      obtain ⟨F2, s2, R2, rp⟩ := R1.settle rr
      refine tM_bnd R2 (h1.step s2) fun xs ρ2 vs F3 H3 s3 R3 rs h3 => ?_
      exact h3 (v :: vs) F3 H3 (.refl _ _) R3 (.cons (rp.step s3) rs)
theorem ok_opns (ho : Ok o) (u : UD X c W W0) (es : List Expr) : PA X es (tOpns (zt X B W0 L T) W (opns1 o c es)) := by
  cases es with
  | nil =>
    exact PA.imp pa_nil fun σ H Q h => by
      obtain ⟨F, ρ, R, h⟩ := tM_at h
      exact h [] F H (.refl _ _) R .nil
  | cons e es =>
    cases hn : notStar e with
    | false =>
      refine ⟨fun pos pins s σ H Q I h => ?_⟩
      simp only [opns1, hn] at h
      exact (t_stk h).elim
    | true =>
      simp only [opns1, hn]
      refine PA.imp (pa_cons (ho.opn (B := B) (W0 := W0) (L := L) (T := T) e u) (ho.opns (B := B) (W0 := W0) (L := L) (T := T) es u) (star_of hn)) fun σ H Q h => ?_
      obtain ⟨F, ρ, R, h⟩ := tM_at h
      refine tM_bnd R h fun p ρ1 v F1 H1 s1 R1 rr h1 => ?_
      refine tM_bnd R1 h1 fun ps ρ2 vs F3 H3 s3 R3 rs h3 => ?_
      exact h3 (v :: vs) F3 H3 (.refl _ _) R3 (.cons (OpR'.step rr s3) rs)
theorem ok_argc (ho : Ok o) (u : UD X c W W0) (bs : List Bool) (es : List Expr) : PA X es (tOpns (zt X B W0 L T) W (argc1 o c bs es)) := by
  cases es with
  | nil =>
    cases bs with
    | nil =>
      exact PA.imp pa_nil fun σ H Q h => by
        obtain ⟨F, ρ, R, h⟩ := tM_at h
        exact h [] F H (.refl _ _) R .nil
    | cons b bs => exact ⟨fun pos pins s σ H Q I h => (t_stk h).elim⟩
  | cons e es =>
    cases bs with
    | nil => exact ⟨fun pos pins s σ H Q I h => (t_stk h).elim⟩
    | cons b bs =>
      cases hn : notStar e with
      | false =>
        refine ⟨fun pos pins s σ H Q I h => ?_⟩
        simp only [argc1, hn] at h
        exact (t_stk h).elim
      | true =>
        cases b with
        | true =>
          simp only [argc1, hn]
          refine PA.imp (pa_cons (ho.opn (B := B) (W0 := W0) (L := L) (T := T) e u) (ho.argc (B := B) (W0 := W0) (L := L) (T := T) bs es u) (star_of hn)) fun σ H Q h => ?_
          obtain ⟨F, ρ, R, h⟩ := tM_at h
          refine tM_bnd R h fun p ρ1 v F1 H1 s1 R1 rr h1 => ?_
          refine tM_bnd R1 h1 fun ps ρ2 vs F3 H3 s3 R3 rs h3 => ?_
          exact h3 (v :: vs) F3 H3 (.refl _ _) R3 (.cons (OpR'.step rr s3) rs)
        | false =>
          simp only [argc1, hn]
          refine PA.imp (pa_cons (ho.ev (B := B) (W0 := W0) (L := L) (T := T) e u) (ho.argc (B := B) (W0 := W0) (L := L) (T := T) bs es u) (star_of hn)) fun σ H Q h => ?_
          obtain ⟨F, ρ, R, h⟩ := tM_at h
          have h' : Pst (zt X B W0 L T) W (fun F H ρ σ vs ps => OpsR (zt X B W0 L T) F H ρ σ vs ps) F σ H Q (bnd (o.ev c e) (fun r => bnd (o.argc c bs es) fun ps => pure (Op.vl r.1 :: ps)) ρ) := by
            have e1 : bnd (bnd (o.ev c e) fun r => pure (Op.vl r.1)) (fun p => bnd (o.argc c bs es) fun ps => pure (p :: ps)) ρ = bnd (o.ev c e) (fun r => bnd (o.argc c bs es) fun ps => pure (Op.vl r.1 :: ps)) ρ := by
              unfold bnd
              cases o.ev c e ρ <;> rfl
            rw [← e1]; exact h
          refine tM_bnd R h' fun r ρ1 v F1 H1 s1 R1 rr h1 => ?_
          obtain ⟨F2, s2, R2, rp⟩ := R1.settle rr
          refine tM_bnd R2 (h1.step s2) fun ps ρ2 vs F3 H3 s3 R3 rs h3 => ?_
          exact h3 (v :: vs) F3 H3 (.refl _ _) R3 (.cons (show OpR' (zt X B W0 L T) F3 H3 ρ2 σ v (Op.vl r.1) from rp.step s3) rs)

/-! ### calls -/
theorem mkN {Z : Zt} {F : Fz} {ρ : Evm} {σ : L2.St} {H : Hp} {Q : VK} {d : D} (R : Rl Z F ρ σ H) (h : Pst Z W (RR Z) F σ H Q (Res.ok (d, false) ρ)) {v : V} (r : Rep Z.K Z.mg F H v d) : Q v H := h v F H (.refl _ _) R (rr_rep r)
/-- f(..) of a def: the callee's promise gives what the evaluator says -/
theorem call_rd {Z : Zt} {f : FI} {ps : List Op} {vs : List V} {F : Fz} {ρ : Evm} {σ : L2.St} {H : Hp} {Q : VK} (R : Rl Z F ρ σ H) (rs : OpsR Z F H ρ σ vs ps) (h : Pst Z W (RR Z) F σ H Q (callD c f ps ρ)) :
    spU Z.K Z.mg Z.W0.Tb c.call f vs H Q (WE W σ) := by
  unfold callD at h
  cases hn : (decide ((lns ps).Nodup) && decide (ps.length = f.ps.length)) with
  | false =>
    rw [hn] at h
    cases gath ρ ps <;> exact h.elim
  | true =>
    rw [hn] at h
    cases hg : gath ρ ps with
    | none => rw [hg] at h; exact h.elim
    | some as =>
      rw [hg] at h
      rw [Bool.and_eq_true] at hn
      have nd := of_decide_eq_true hn.1
      obtain ⟨ha, hl⟩ := gath_ok R rs hg
      refine ⟨by rw [rs.length]; exact of_decide_eq_true hn.2, F, as, R.live, R.tab.1, ha, hl.nodup R nd, ?_⟩
      dsimp only at h
      cases hc : c.call f.name as with
      | ok d u fin =>
        rw [hc] at h
        intro v F' H' ce fr rr
        have R' := R.called hl nd ce fr
        refine h v F' H' ce.stp R' ?_
        cases u with
        | false => exact rr_rep rr
        | true =>
          obtain ⟨a, e, ow, nf, hn0⟩ := rr
          refine rr_uq ⟨a, e, ow, nf, ?_, fun i s hs hso hv => ?_, fun p hp ep => ?_⟩
          · cases q : Z.B a with
            | none => rfl
            | some o =>
              have z := R.dom a (by rw [q] <;> rfl)
              rw [hn0] at z; cases z
          · -- an own slot behind the call stood ahead of it
            have hj : i < ρ.length := by have := (List.getElem?_eq_some_iff.mp hs).1; rw [backs_len] at this; exact this
            have : (H a).isSome = true := by
              obtain ⟨v0, hv0, so0⟩ := R.slot (List.getElem?_eq_getElem hj)
              rw [hv] at hv0
              cases hv0
              by_cases hi : i ∈ lns ps
              · obtain ⟨k, hk⟩ := List.getElem?_of_mem hi
                have hka : k < (lentA vs as).length := by rw [← hl.len]; exact (List.getElem?_eq_some_iff.mp hk).1
                obtain ⟨q1, s0, q2, q3⟩ := hl.at_ k i _ hk (List.getElem?_eq_getElem hka)
                obtain ⟨v1, hv1, so1⟩ := R.slot q2
                rw [hv] at hv1
                cases hv1
                obtain ⟨a', x, e', ow', _⟩ := so1.own_some q3
                cases e'
                exact ow'.some
              · rw [backs_out _ _ _ _ hi] at hs
                obtain ⟨v1, hv1, so1⟩ := R.slot hs
                rw [hv] at hv1
                cases hv1
                obtain ⟨a', x, e', ow', _⟩ := so1.own_some hso
                cases e'
                exact ow'.some
            rw [hn0] at this; cases this
          · have z := (R.kept p hp).1.some
            rw [ep, hn0] at z; cases z
      | exc ex fin =>
        rw [hc] at h
        intro cls dd F' H' ce fr ea
        exact h cls dd F' H' ce.stp (R.called hl nd ce fr) ea
      | stk => rw [hc] at h; exact h.elim

theorem noStar_of : ∀ {es : List Expr} {pos : Pos}, okCall es = true → (backTo pos (starEach es X.env)).any (·.1) = false
  | [], _, _ => rfl
  | e :: es, pos, h => by
    have h1 : notStar e = true := by cases e <;> first | rfl | cases h
    have h2 : okCall es = true := by cases e <;> first | exact h | cases h
    rw [star_of h1]
    show (false || (backTo pos (starEach es X.env)).any (·.1)) = false
    rw [noStar_of h2] <;> rfl
theorem pe_callS0 {CX : CXT} {k : Nat} {f : Addr} {fd : FuncData} {ps : List Str} {sp : Sp} {E : L2.St → XK} {x : Str} {p pos : Pos} (Fn : FnOk X.prog X.w X.K X.mg X.base CX k f fd ps sp) (hr : Room k X.A) (hg : Gl X x) (hm : X.mg x = some (.ref f))
    (hk : PySem.W.keepIn X.K (.ref f) = true) (hb : Binds X.K fd ps []) (hx : ∀ σ, PassesAt CX X σ (E σ)) (hdb : (x == ("__debug__" : Str)) = false) : PE X (.Call (.Name x p) [] [] pos) (fun σ H Q => sp [] H Q (E σ)) := by
  refine ⟨fun pins s σ H Q I h => ?_⟩
  refine wpAny_Call_Name_kw (ld_glob I hg hm ?_ hdb)
  exact PySem.W.callWith_K0 I.kIn hk (run_fnS (us := []) (vs := []) Fn hr hb (hx σ) I .nil h)
theorem pe_callLS {CX : CXT} {k i : Nat} {f : Addr} {fd : FuncData} {ps : List Str} {sp : Sp} {E : L2.St → XK} {x : Str} {p pos : Pos} {e : Expr} {es : List Expr} {t : TA} (Fn : FnOk X.prog X.w X.K X.mg X.base CX k f fd ps sp) (hr : Room k X.A) (hN : X.N[i]? = some x)
    (hv : Vis X.env.scope x) (hk : PySem.W.keepIn X.K (.ref f) = true) (hb : Binds X.K fd ps []) (hx : ∀ σ, PassesAt CX X σ (E σ)) (ha : PA X (e :: es) t) (hdb : (x == ("__debug__" : Str)) = false) (hcd : (x == ("__classdict__" : Str)) = false)
    (he : starEach (e :: es) X.env = (false, eval e X.env) :: starEach es X.env) (hpl : (backTo pos (starEach es X.env)).any (·.1) = false) :
    PE X (.Call (.Name x p) (e :: es) [] pos) (fun σ H Q => σ[i]? = some (some (.ref f)) ∧ t σ H fun vs H1 => sp vs H1 Q (E σ)) := by
  refine ⟨fun pins s σ H Q I h => ?_⟩
  obtain ⟨hs, ht⟩ := h
  refine wpAny_Call_Name_kw (thn ((pe_var (pos := p) hN hv hdb hcd).run pins s σ H (fun v H1 => v = .ref f ∧ H1 = H) I ⟨.ref f, hs, rfl, rfl⟩) fun u s1 ⟨v, H1, I1, r1, q1⟩ => ?_)
  obtain ⟨rfl, rfl⟩ := q1
  cases r1
  refine PySem.W.callWith_K (h₀ := X.base) I.ok.mod.kin hk (thn (ha.run pos pins s1 σ _ _ I1 ht) fun us s2 ⟨vs, H2, I2, r, q⟩ => ⟨I2.kIn, ?_⟩) he hpl
  exact run_fnS Fn hr hb (hx σ) I2 r q
theorem pe_callLS0 {CX : CXT} {k i : Nat} {f : Addr} {fd : FuncData} {ps : List Str} {sp : Sp} {E : L2.St → XK} {x : Str} {p pos : Pos} (Fn : FnOk X.prog X.w X.K X.mg X.base CX k f fd ps sp) (hr : Room k X.A) (hN : X.N[i]? = some x)
    (hv : Vis X.env.scope x) (hk : PySem.W.keepIn X.K (.ref f) = true) (hb : Binds X.K fd ps []) (hx : ∀ σ, PassesAt CX X σ (E σ)) (hdb : (x == ("__debug__" : Str)) = false) (hcd : (x == ("__classdict__" : Str)) = false) :
    PE X (.Call (.Name x p) [] [] pos) (fun σ H Q => σ[i]? = some (some (.ref f)) ∧ sp [] H Q (E σ)) := by
  refine ⟨fun pins s σ H Q I h => ?_⟩
  obtain ⟨hs, ht⟩ := h
  refine wpAny_Call_Name_kw (thn ((pe_var (pos := p) hN hv hdb hcd).run pins s σ H (fun v H1 => v = .ref f ∧ H1 = H) I ⟨.ref f, hs, rfl, rfl⟩) fun u s1 ⟨v, H1, I1, r1, q1⟩ => ?_)
  obtain ⟨rfl, rfl⟩ := q1
  cases r1
  exact PySem.W.callWith_K0 I1.kIn hk (run_fnS (us := []) (vs := []) Fn hr hb (hx σ) I1 .nil ht)
theorem bnd_cold {α : Type} {f : Unit → M α} {ρ : Evm} (h : c.hot = false) : bnd (cold c) f ρ = f () ρ := by
  unfold cold
  rw [h] <;> rfl
theorem bnd_hot {α : Type} {f : Unit → M α} {ρ : Evm} (h : c.hot = true) : bnd (cold c) f ρ = .stk := by
  unfold cold
  rw [h] <;> rfl
theorem fn_name {g : Gm} {x : Str} {f : FI} (h : g.fn? x = some f) : f.name = x := by
  unfold Gm.fn? at h
  have := List.find?_some (p := fun (f : FI) => decide (f.name = x)) h
  exact of_decide_eq_true this
/-- the callee's reading from the arguments' -/
theorem callAs_rd {f : FI} {e : Expr} {es : List Expr} (hs : (notStar e && okCall es) = true) {F : Fz} {ρ : Evm} {σ : L2.St} {H : Hp} {Q : VK} (R : Rl (zt X B W0 L T) F ρ σ H) (h : Pst (zt X B W0 L T) W (RR (zt X B W0 L T)) F σ H Q (callAs o c f (e :: es) ρ)) :
    tOpns (zt X B W0 L T) W (o.argc c f.io (e :: es)) σ H fun vs H1 => spU X.K X.mg W0.Tb c.call f vs H1 Q (WE W σ) := by
  simp only [callAs, hs] at h
  exact tM_bnd R h fun ps ρ1 vs F1 H1 s1 R1 rs h1 => call_rd (Z := zt X B W0 L T) R1 rs h1
theorem ok_call (ho : Ok o) (u : UD X c W W0) {x : Str} {p pos : Pos} (as : List Expr) : PE X (.Call (.Name x p) as [] pos) (tEv (zt X B W0 L T) W (evCall o c x as)) := by
  have passes : ∀ σ, PassesAt (L2N.CX X.prog X.w) X σ (WE W σ) := fun σ => L2N.passAt u.tk σ
  cases hn : c.nm x with
  | bad => simp only [evCall, hn]; exact pe_stk
  | glob =>
    simp only [evCall, hn]
    obtain ⟨hok, hk⟩ := nm_glob hn
    obtain ⟨h1, h2⟩ := okName_at hok
    have hg : Gl X x := by show X.env.scope.names.lookup x = _; rw [u.sc]; exact hk
    cases hf : c.g.fn? x with
    | some f =>
      cases hh : c.hot with
      | true =>
        refine ⟨fun pins s σ H Q I h => ?_⟩
        obtain ⟨F, ρ, R, h⟩ := tM_at h
        simp only [bnd_hot hh] at h
        exact h.elim
      | false =>
        obtain ⟨k, ca, hr⟩ := u.cal hh
        have hr := hr.mono (Nat.le_add_right _ _)
        obtain ⟨a, fd, hm, hkp, hb, Fn⟩ := ca x f hf
        cases as with
        | nil =>
          refine PE.imp (pe_callS0 Fn hr hg hm hkp hb passes h1) fun σ H Q h => ?_
          obtain ⟨F, ρ, R, h⟩ := tM_at h
          simp only [bnd_cold hh] at h
          exact call_rd (Z := zt X B W0 L T) (ps := []) R .nil h
        | cons e es =>
          cases hs : (notStar e && okCall es) with
          | false =>
            refine ⟨fun pins s σ H Q I h => ?_⟩
            obtain ⟨F, ρ, R, h⟩ := tM_at h
            simp only [bnd_cold hh] at h
            simp only [callAs, hs] at h
            exact h.elim
          | true =>
            have hs' := hs
            rw [Bool.and_eq_true] at hs'
            refine PE.imp (pe_callS Fn hr hg hm hkp hb passes (ho.argc (B := B) (W0 := W0) (L := L) (T := T) f.io (e :: es) u) h1 (star_of hs'.1) (noStar_of hs'.2)) fun σ H Q h => ?_
            obtain ⟨F, ρ, R, h⟩ := tM_at h
            simp only [bnd_cold hh] at h
            exact callAs_rd hs R h
    | none =>
      dsimp only
      cases hb : biTab.lookup x with
      | none => exact pe_stk
      | some b =>
        cases hfr : c.g.free.contains x with
        | false => exact pe_stk
        | true =>
          cases as with
          | nil => exact pe_stk
          | cons e es =>
            dsimp only
            cases hc : (c.hot && !b.cool) with
            | true => exact pe_stk
            | false =>
              dsimp only
              cases hs : (notStar e && okCall es) with
              | false => exact pe_stk
              | true =>
                dsimp only
                have hs' := hs
                rw [Bool.and_eq_true] at hs'
                obtain ⟨b1, b2, b3⟩ := biTab_ok hb
                have hcalm : X.calm = true ∨ b.cool = true := by
                  cases hh : c.hot with
                  | false => exact .inl (u.calm hh)
                  | true =>
                    rw [hh] at hc
                    right
                    simpa using hc
                have key : ∀ σ H Q, tEv (zt X B W0 L T) W (bnd (o.opns c (e :: es)) fun ps => finL ps fun xs => val (biCall b xs)) σ H Q → tCB (rBi (zt X B W0 L T) b) (tOpns (zt X B W0 L T) W (o.opns c (e :: es))) σ H Q := by
                  intro σ H Q h
                  obtain ⟨F, ρ, R, h⟩ := tM_at h
                  refine tM_bnd R h fun ps ρ1 vs F1 H1 s1 R1 rs h1 => ?_
                  unfold finL at h1
                  cases hr : ress ρ1 ps with
                  | none => rw [hr] at h1; exact h1.elim
                  | some xs =>
                    rw [hr] at h1
                    exact ⟨F1, xs, R1.live, ress_pk R1 rs hr, mk_of R1 h1⟩
                cases b with
                | fn id => exact PE.imp (pe_callB (bi_ok hcalm) hg (u.gl.free x hfr) b3 (ho.opns (B := B) (W0 := W0) (L := L) (T := T) (e :: es) u) b1 b2 (star_of hs'.1) (noStar_of hs'.2)) key
                | ty n => exact PE.imp (pe_callTy (bi_ok hcalm) hg (u.gl.free x hfr) b3 (ho.opns (B := B) (W0 := W0) (L := L) (T := T) (e :: es) u) b1 b2 (star_of hs'.1) (noStar_of hs'.2)) key
  | slot i =>
    obtain ⟨hok, hN, hv⟩ := nm_slot hn
    obtain ⟨h1, h2⟩ := okName_at hok
    have hN' : X.N[i]? = some x := by rw [u.N]; exact hN
    have hv' : Vis X.env.scope x := by rw [u.sc]; exact hv
    refine ⟨fun pins s σ H Q I h => ?_⟩
    obtain ⟨F, ρ, R, h⟩ := tM_at h
    simp only [evCall, hn] at h
    cases hl : look ρ i with
    | none => rw [hl] at h; exact h.elim
    | some y =>
      cases y with
      | fn y =>
        rw [hl] at h
        dsimp only at h
        cases hf : c.g.fn? y with
        | none => rw [hf] at h; exact h.elim
        | some f =>
          rw [hf] at h
          dsimp only at h
          cases hh : c.hot with
          | true => simp only [bnd_hot hh] at h; exact h.elim
          | false =>
            simp only [bnd_cold hh] at h
            obtain ⟨k, ca, hr⟩ := u.cal hh
            have hr := hr.mono (Nat.le_add_right _ _)
            obtain ⟨a, fd, hm, hkp, hb, Fn⟩ := ca y f hf
            obtain ⟨v, hv1, pk⟩ := R.look hl
            have ev : v = .ref a := by
              cases pk.rep (fun a o z => by cases z.1) with
              | fn hm' =>
                have q := hm.symm.trans hm'
                cases q
                rfl
            subst ev
            cases as with
            | nil => exact (pe_callLS0 Fn hr hN' hv' hkp hb passes h1 h2).run pins s σ H Q I ⟨hv1, call_rd (Z := zt X B W0 L T) (ps := []) R .nil h⟩
            | cons e es =>
              cases hs : (notStar e && okCall es) with
              | false => simp only [callAs, hs] at h; exact h.elim
              | true =>
                have hs' := hs
                rw [Bool.and_eq_true] at hs'
                exact (pe_callLS Fn hr hN' hv' hkp hb passes (ho.argc (B := B) (W0 := W0) (L := L) (T := T) f.io (e :: es) u) h1 h2 (star_of hs'.1) (noStar_of hs'.2)).run pins s σ H Q I ⟨hv1, callAs_rd hs R h⟩
      | _ => rw [hl] at h; exact h.elim

/-! ### operators, comparisons, subscripts -/
theorem val_mk {Z : Zt} {F : Fz} {ρ : Evm} {σ : L2.St} {H : Hp} {Q : VK} {r : Option (D × Bool)} (R : Rl Z F ρ σ H) (h : Pst Z W (RR Z) F σ H Q (val r ρ)) : Mk Z F H r Q := mk_of R h
theorem Mk.bl {Z : Zt} {F : Fz} {H : Hp} {Q : VK} {o : Option Bool} (h : Mk Z F H (o.map fun k => (.bl k, false)) Q) (l : live F H) : ∃ k, o = some k ∧ Q (.bl k) H := by
  cases o with
  | none => exact (mk_none h).elim
  | some k => exact ⟨k, rfl, h.rep l (.bl k)⟩
theorem ok_binop (ho : Ok o) (u : UD X c W W0) {a b : Expr} {op : Operator} {p : Pos} : PE X (.BinOp a op b p) (tEv (zt X B W0 L T) W (two o c a b fun x y => val (binD op x y))) :=
  PE.imp (pe_op (bin_ok (B := B) (W0 := W0) (L := L) (T := T) op) (ho.opn (B := B) (W0 := W0) (L := L) (T := T) a u) (ho.opn (B := B) (W0 := W0) (L := L) (T := T) b u)) fun σ H Q h =>
    tOp_two (r := rBin (zt X B W0 L T) op) (fun F ρ σ H Q v w x y R px py hp => ⟨F, x, y, R.live, px, py, mk_of R hp⟩) h
theorem t_bl {Z : Zt} {F : Fz} {ρ : Evm} {σ : L2.St} {H : Hp} {Q : Bool → Hp → Prop} {r : Option Bool} (R : Rl Z F ρ σ H) (h : Pst Z W (fun _ _ _ _ b k => b = k) F σ H Q (lft r ρ)) : ∃ k, r = some k ∧ Q k H := by
  cases r with
  | none => exact h.elim
  | some k => exact ⟨k, rfl, h k F H (.refl _ _) R rfl⟩
theorem ok_cmp (ho : Ok o) (u : UD X c W W0) {a b : Expr} {op : CmpOp} {p : Pos} (hm : behindInMarks op b = false) :
    PE X (.Compare a [op] [b] p) (tEv (zt X B W0 L T) W (two o c a b fun x y => val ((cmpD op x y).map fun k => (.bl k, false)))) :=
  PE.imp (pe_cmpR (cmp_ok (B := B) (W0 := W0) (L := L) (T := T) u.un op) (ho.opn (B := B) (W0 := W0) (L := L) (T := T) a u) (ho.opn (B := B) (W0 := W0) (L := L) (T := T) b u) hm) fun σ H Q h =>
    tOp_two (r := rCmp (zt X B W0 L T) op) (fun F ρ σ H Q v w x y R px py hp => ⟨F, x, y, R.live, px, py, (mk_of R hp).bl R.live⟩) h
theorem ok_cmpT (ho : Ok o) (u : UD X c W W0) {a b : Expr} {op : CmpOp} {p : Pos} (hm : behindInMarks op b = false) :
    PT X (.Compare a [op] [b] p) (tTst (zt X B W0 L T) W (two o c a b fun x y => lft (cmpD op x y))) :=
  PT.imp (pt_cmpR (cmp_ok (B := B) (W0 := W0) (L := L) (T := T) u.un op) (ho.opn (B := B) (W0 := W0) (L := L) (T := T) a u) (ho.opn (B := B) (W0 := W0) (L := L) (T := T) b u) hm) fun σ H Q h =>
    tOp_two (r := fun v w H (Q : Bool → Hp → Prop) => rCmp (zt X B W0 L T) op v w H fun z H' => ∃ k, z = .bl k ∧ Q k H') (fun F ρ σ H Q v w x y R px py hp => by
      obtain ⟨k, e, q⟩ := t_bl R hp
      exact ⟨F, x, y, R.live, px, py, k, e, k, rfl, q⟩) h
theorem chain_rd {a b d : Expr} {op op' : CmpOp} {δ : Type} {Rel : Fz → Hp → Evm → L2.St → δ → Bool → Prop} {F : Fz} {ρ : Evm} {σ : L2.St} {H : Hp} {Q : δ → Hp → Prop} {Q' : VK}
    (R : Rl (zt X B W0 L T) F ρ σ H) (h : Pst (zt X B W0 L T) W Rel F σ H Q (chain o c op op' a b d ρ))
    (hq : ∀ F ρ H k, Rl (zt X B W0 L T) F ρ σ H → Pst (zt X B W0 L T) W Rel F σ H Q (Res.ok k ρ) → Q' (.bl k) H) :
    tChain (rCmp (zt X B W0 L T) op) (rCmp (zt X B W0 L T) op') (tOpn (zt X B W0 L T) W (o.opn c a)) (tOpn (zt X B W0 L T) W (o.opn c b)) (tOpn (zt X B W0 L T) W (o.opn c d)) σ H Q' := by
  refine tM_bnd R h fun p ρ1 v F1 H1 s1 R1 rp h1 => ?_
  refine tM_bnd R1 h1 fun q ρ2 w F2 H2 s2 R2 rq h2 => ?_
  unfold bnd fin2 at h2
  cases e1 : res1 ρ2 p with
  | none => rw [e1] at h2; exact h2.elim
  | some x =>
    cases e2 : res1 ρ2 q with
    | none => rw [e1, e2] at h2; exact h2.elim
    | some y =>
      rw [e1, e2] at h2
      dsimp only at h2
      cases e3 : cmpD op x y with
      | none => rw [e3] at h2; exact h2.elim
      | some k =>
        rw [e3] at h2
        refine ⟨F2, x, y, R2.live, res_pk rp s2 R2 e1, res_pk rq (.refl _ _) R2 e2, k, e3, k, rfl, ?_⟩
        cases k with
        | false =>
          rw [if_neg (by decide)]
          exact hq F2 ρ2 H2 false R2 h2
        | true =>
          rw [if_pos rfl]
          have h3 : Pst (zt X B W0 L T) W Rel F2 σ H2 Q (bnd (o.opn c d) (fun r => fin2 q r fun y z => lft (cmpD op' y z)) ρ2) := h2
          refine tM_bnd R2 h3 fun r ρ3 u F3 H3 s3 R3 rr h4 => ?_
          unfold fin2 at h4
          cases e4 : res1 ρ3 q with
          | none => rw [e4] at h4; exact h4.elim
          | some y' =>
            cases e5 : res1 ρ3 r with
            | none => rw [e4, e5] at h4; exact h4.elim
            | some z =>
              rw [e4, e5] at h4
              dsimp only at h4
              cases e6 : cmpD op' y' z with
              | none => rw [e6] at h4; exact h4.elim
              | some k' =>
                rw [e6] at h4
                exact ⟨F3, y', z, R3.live, res_pk rq s3 R3 e4, res_pk rr (.refl _ _) R3 e5, k', e6, hq F3 ρ3 H3 k' R3 h4⟩
theorem ok_chainT (ho : Ok o) (u : UD X c W W0) {a b d : Expr} {op op' : CmpOp} {p : Pos} (hm : lastMarks [op, op'] [b, d] = false) : PT X (.Compare a [op, op'] [b, d] p) (tTst (zt X B W0 L T) W (chain o c op op' a b d)) :=
  PT.imp (pt_chain (cmp_ok (B := B) (W0 := W0) (L := L) (T := T) u.un op) (cmp_ok (B := B) (W0 := W0) (L := L) (T := T) u.un op') (ho.opn (B := B) (W0 := W0) (L := L) (T := T) a u) (ho.opn (B := B) (W0 := W0) (L := L) (T := T) b u) (ho.opn (B := B) (W0 := W0) (L := L) (T := T) d u) hm) fun σ H Q h => by
    obtain ⟨F, ρ, R, h⟩ := tM_at h
    exact chain_rd (Q' := fun z H' => ∃ k, z = .bl k ∧ Q k H') R h fun F ρ H k R hk => ⟨k, rfl, hk k F H (.refl _ _) R rfl⟩
theorem ok_chain (ho : Ok o) (u : UD X c W W0) {a b d : Expr} {op op' : CmpOp} {p : Pos} (hm : lastMarks [op, op'] [b, d] = false) :
    PE X (.Compare a [op, op'] [b, d] p) (tEv (zt X B W0 L T) W (bnd (chain o c op op' a b d) fun k => pure (.bl k, false))) :=
  PE.imp (pe_chain (cmp_ok (B := B) (W0 := W0) (L := L) (T := T) u.un op) (cmp_ok (B := B) (W0 := W0) (L := L) (T := T) u.un op') (ho.opn (B := B) (W0 := W0) (L := L) (T := T) a u) (ho.opn (B := B) (W0 := W0) (L := L) (T := T) b u) (ho.opn (B := B) (W0 := W0) (L := L) (T := T) d u) hm) fun σ H Q h => by
    obtain ⟨F, ρ, R, h⟩ := tM_at h
    have h' : Pst (zt X B W0 L T) W (fun _ _ _ _ b k => b = k) F σ H (fun k H' => Q (.bl k) H') (chain o c op op' a b d ρ) := by
      unfold bnd at h
      cases e : chain o c op op' a b d ρ with
      | ok k ρ1 =>
        rw [e] at h
        intro v F' H' s R' ek
        subst ek
        exact h (.bl v) F' H' s R' (rr_rep (.bl v))
      | exc x ρ1 => rw [e] at h; exact h
      | stk => rw [e] at h; exact h
    exact chain_rd (Q' := Q) R h' fun F ρ H k R hk => hk k F H (.refl _ _) R rfl
end
end PV
end

section
set_option maxHeartbeats 2000000
/-! Expressions and tests, whole. -/
namespace PV
open PySem PySem.Spec L2
open PyProof.Rows hiding St
section
variable {X : Cx} {c : C} {W : WX} {B : Hp} {W0 : Zx} {L : List (Nat × Addr)} {T : List (Addr × D)} {o : Ops}

theorem plainIx_of {b : Expr} (h : notSlice b = true) : PlainIx b := by
  intro x i
  cases b <;> first | rfl | cases h
theorem ok_index (ho : Ok o) (u : UD X c W W0) {a b : Expr} {p : Pos} (hb : notSlice b = true) : PE X (.Subscript a b p) (tEv (zt X B W0 L T) W (two o c a b fun x y => val ((indexD x y).map fun z => (z, false)))) :=
  PE.imp (pe_ix (ix_ok (B := B) (W0 := W0) (L := L) (T := T)) (ho.opn (B := B) (W0 := W0) (L := L) (T := T) a u) (ho.opn (B := B) (W0 := W0) (L := L) (T := T) b u) (plainIx_of hb)) fun σ H Q h =>
    tOp_two (r := rIxD (zt X B W0 L T)) (fun F ρ σ H Q v w x y R px py hp => ⟨F, x, y, R.live, px, py, mk_of R hp⟩) h
/-- a part of a slice -/
abbrev tPrt (Z : Zt) (W : WX) (m : M (Option Int)) : TO := tM Z W m (fun _ _ _ _ b k => b = k)
theorem ok_part (ho : Ok o) (u : UD X c W W0) (e : Option Expr) : PO X e (tPrt (zt X B W0 L T) W (evInt o c e)) := by
  cases e with
  | none =>
    exact ⟨fun pins s σ H Q I h => po_none.run pins s σ H Q I (by
      obtain ⟨F, ρ, R, h⟩ := tM_at h
      exact h none F H (.refl _ _) R rfl)⟩
  | some e =>
    refine ⟨fun pins s σ H Q I h => (po_some (ho.ev (B := B) (W0 := W0) (L := L) (T := T) e u)).run pins s σ H Q I ?_⟩
    obtain ⟨F, ρ, R, h⟩ := tM_at h
    unfold evInt at h
    refine tM_bnd R h fun r ρ1 v F1 H1 s1 R1 rr h1 => ?_
    obtain ⟨F2, s2, R2, rp⟩ := R1.settle rr
    obtain ⟨d, un⟩ := r
    cases d with
    | int i =>
      cases rp
      exact ⟨i, rfl, h1 (some i) F2 H1 s2 R2 rfl⟩
    | _ => exact h1.elim
theorem ok_slice (ho : Ok o) (u : UD X c W W0) {a : Expr} {lo hi : Option Expr} {p p2 : Pos} :
    PE X (.Subscript a (.Slice lo hi none p2) p) (tEv (zt X B W0 L T) W (bnd (o.opn c a) fun p => bnd (evInt o c lo) fun l => bnd (evInt o c hi) fun h => fin1 p fun x => val (sliceD x l h))) := by
  refine PE.imp (pe_slice (sl_ok (B := B) (W0 := W0) (L := L) (T := T)) (ho.opn (B := B) (W0 := W0) (L := L) (T := T) a u) (ok_part (B := B) (W0 := W0) (L := L) (T := T) ho u lo) (ok_part (B := B) (W0 := W0) (L := L) (T := T) ho u hi)) fun σ H Q h => ?_
  obtain ⟨F, ρ, R, h⟩ := tM_at h
  refine tM_bnd R h fun q ρ1 v F1 H1 s1 R1 rp h1 => ?_
  refine tM_bnd R1 h1 fun l ρ2 l' F2 H2 s2 R2 el h2 => ?_
  refine tM_bnd R2 h2 fun h' ρ3 h'' F3 H3 s3 R3 eh h3 => ?_
  subst el eh
  unfold fin1 at h3
  cases e1 : res1 ρ3 q with
  | none => rw [e1] at h3; exact h3.elim
  | some x =>
    rw [e1] at h3
    exact ⟨F3, x, R3.live, res_pk rp (s2.trans s3) R3 e1, mk_of R3 h3⟩
theorem ok_neg (ho : Ok o) (u : UD X c W W0) {a : Expr} {p : Pos} : PE X (.UnaryOp .USub a p) (tEv (zt X B W0 L T) W (one o c a fun x => val ((negD x).map fun y => (y, false)))) :=
  PE.imp (pe_un un_neg (ho.opn (B := B) (W0 := W0) (L := L) (T := T) a u)) fun σ H Q h =>
    t_one (r := rU fun i => .int (-i)) (fun F ρ σ H Q v x R px hp => by
      have m := mk_of R hp
      cases x with
      | int i =>
        cases px.int
        exact ⟨i, rfl, m.rep R.live (.int _)⟩
      | _ => exact (mk_none m).elim) h
theorem ok_notV (ho : Ok o) (u : UD X c W W0) {a : Expr} {p : Pos} : PE X (.UnaryOp .Not a p) (tEv (zt X B W0 L T) W (one o c a fun x => val ((truD x).map fun k => (.bl (!k), false)))) :=
  PE.imp (pe_notT (ho.opn (B := B) (W0 := W0) (L := L) (T := T) a u)) fun σ H Q h => by
    unfold tNotT
    exact t_one (r := fun v H Q => ∃ k, TruV X.K v H k ∧ Q (.bl (!k)) H) (fun F ρ σ H Q v x R px hp => by
      obtain ⟨k, e, m⟩ := mk_map (mk_of R hp)
      exact ⟨k, tru_at px e, m.rep R.live (.bl _)⟩) h
theorem ok_bool (ho : Ok o) (u : UD X c W W0) {op : BoolOp} {a b : Expr} {r : List Expr} {p : Pos} : PE X (.BoolOp op (a :: b :: r) p) (tEv (zt X B W0 L T) W (ev1 o c (.BoolOp op (a :: b :: r) p))) := by
  have ha := ho.ev (B := B) (W0 := W0) (L := L) (T := T) a u
  have hb := ho.ev (B := B) (W0 := W0) (L := L) (T := T) (.BoolOp op (b :: r) p) u
  cases op with
  | And =>
    refine PE.imp (pe_andT ha hb) fun σ H Q h => ?_
    obtain ⟨F, ρ, R, h⟩ := tM_at h
    unfold ev1 at h
    refine tM_bnd R h fun x ρ1 v F1 H1 s1 R1 rr h1 => ?_
    obtain ⟨F2, s2, R2, rp⟩ := R1.settle rr
    cases e : truD x.1 with
    | none => rw [e] at h1; exact h1.elim
    | some k =>
      rw [e] at h1
      refine ⟨k, tru_at (.inl rp) e, ?_⟩
      cases k with
      | true => rw [if_pos rfl]; exact tM_of R2 (h1.step s2)
      | false => rw [if_neg (by decide)]; exact mkN R2 (h1.step s2) rp
  | Or =>
    refine PE.imp (pe_orT ha hb) fun σ H Q h => ?_
    obtain ⟨F, ρ, R, h⟩ := tM_at h
    unfold ev1 at h
    refine tM_bnd R h fun x ρ1 v F1 H1 s1 R1 rr h1 => ?_
    obtain ⟨F2, s2, R2, rp⟩ := R1.settle rr
    cases e : truD x.1 with
    | none => rw [e] at h1; exact h1.elim
    | some k =>
      rw [e] at h1
      refine ⟨k, tru_at (.inl rp) e, ?_⟩
      cases k with
      | true => rw [if_pos rfl]; exact mkN R2 (h1.step s2) rp
      | false => rw [if_neg (by decide)]; exact tM_of R2 (h1.step s2)
theorem ok_if (ho : Ok o) (u : UD X c W W0) {t a b : Expr} {p : Pos} : PE X (.IfExp t a b p) (tEv (zt X B W0 L T) W (bnd (o.tst c t) fun k => (match k with
    | true => o.ev c a
    | false => o.ev c b))) := by
  refine PE.imp (pe_ifExp (ho.tst (B := B) (W0 := W0) (L := L) (T := T) t u) (ho.ev (B := B) (W0 := W0) (L := L) (T := T) a u) (ho.ev (B := B) (W0 := W0) (L := L) (T := T) b u)) fun σ H Q h => ?_
  obtain ⟨F, ρ, R, h⟩ := tM_at h
  unfold tIf
  refine tM_bnd R h fun k ρ1 k' F1 H1 s1 R1 e h1 => ?_
  subst e
  cases k' with
  | true => rw [if_pos rfl]; exact tM_of R1 h1
  | false => rw [if_neg (by decide)]; exact tM_of R1 h1
theorem ok_tup (ho : Ok o) (u : UD X c W W0) {es : List Expr} {k : Nat} {p : Pos} : PE X (.Tuple es k p) (tEv (zt X B W0 L T) W (bnd (o.args c es) fun xs => val (gd (lineOk xs.length) (.tup xs, false)))) := by
  refine PE.imp (pe_tup (ho.args (B := B) (W0 := W0) (L := L) (T := T) es u)) fun σ H Q h => ?_
  obtain ⟨F, ρ, R, h⟩ := tM_at h
  unfold tTup
  refine tM_bnd R h fun xs ρ1 vs F1 H1 s1 R1 rs h1 => ?_
  obtain ⟨hl, m⟩ := mk_gd (mk_of R1 h1)
  exact ⟨by rw [rs.length]; exact lineOk_at hl, fun p hp => m.tup R1.live rs hp⟩
theorem ok_lst (ho : Ok o) (u : UD X c W W0) {es : List Expr} {p : Pos} : PE X (.List es p) (tEv (zt X B W0 L T) W (bnd (o.args c es) fun xs => val (gd (lineOk xs.length) (.lst xs, true)))) := by
  refine PE.imp (pe_lst (ho.args (B := B) (W0 := W0) (L := L) (T := T) es u)) fun σ H Q h => ?_
  obtain ⟨F, ρ, R, h⟩ := tM_at h
  unfold tLst
  refine tM_bnd R h fun xs ρ1 vs F1 H1 s1 R1 rs h1 => ?_
  obtain ⟨hl, m⟩ := mk_gd (mk_of R1 h1)
  exact ⟨by rw [rs.length]; exact lineOk_at hl, fun p hp => m.lst R1.live rs hp⟩

/-! ### methods that change what a name holds -/
/-- a thing of one's own is changed: the slot i holds it -/
theorem Rl.write {Z : Zt} {F : Fz} {ρ : Evm} {σ : L2.St} {H : Hp} (R : Rl Z F ρ σ H) {i : Nat} {s s' : Sl} {a : Addr} {ob : HO} {y : D} (hs : ρ[i]? = some s) (ho : s.own = true) (hv : σ[i]? = some (some (.ref a))) (nf : ¬ F a)
    (hr : HoRep Z.K Z.mg F (upd H a ob) ob y) (hk : (∃ x, s = .o x ∧ s' = .o y) ∨ (∃ x, s = .l x ∧ s' = .l y)) : Rl Z F (ρ.set i s') σ (upd H a ob) := by
  have hi : i < ρ.length := (List.getElem?_eq_some_iff.mp hs).1
  obtain ⟨v0, hv0, so⟩ := R.slot hs
  rw [hv] at hv0
  cases hv0
  obtain ⟨a0, x0, e0, ow0, _, b0, _⟩ := so.own_some ho
  cases e0
  have st : Stp F H F (upd H a ob) := ⟨fun _ h => h, fun b o' hb e' _ => by rw [upd_ne (fun e : b = a => nf (e ▸ hb))]; exact e'⟩
  have hon : ∀ ps, ob ≠ .tbl ps := fun ps z => by subst z; cases hr
  have ho' : s'.own = true := by rcases hk with ⟨x, _, rfl⟩ | ⟨x, _, rfl⟩ <;> rfl
  refine ⟨by simpa using R.len, fun j t w h1 h2 => ?_, fun j k t t' b h1 h2 h3 h4 h5 h6 => ?_, fun p hp => ?_, fun b ob' h1 h2 h3 => ?_, fun b h => upd_some (R.dom b h), fun b h => upd_nt hon (R.live b h), fun p hp => ?_, R.tab.of fun b o' hb htc => ?_, R.stp0.trans st, R.hb, R.nfz, fun b h => upd_nt hon (R.wn b h)⟩
  · by_cases hj : j = i
    · subst hj
      rw [List.getElem?_set_self hi] at h1
      cases h1
      rw [hv] at h2
      cases h2
      rcases hk with ⟨x, e1, rfl⟩ | ⟨x, e1, rfl⟩
      · subst e1
        obtain ⟨a', e, _, _, b⟩ := so
        cases e
        exact ⟨a, rfl, ⟨ob, upd_same, hr⟩, nf, b⟩
      · subst e1
        obtain ⟨a', e, _, _, b⟩ := so
        cases e
        exact ⟨a, rfl, ⟨ob, upd_same, hr⟩, nf, b⟩
    · rw [List.getElem?_set_ne (Ne.symm hj)] at h1
      refine (R.sl j t w h1 h2).step st fun b hto hw nb => ⟨upd_ne fun e => hj ?_, nb⟩
      subst hw
      subst e
      exact R.sep j i t s b h1 hs hto ho h2 hv
  · have own : ∀ (j : Nat) t, (ρ.set i s')[j]? = some t → t.own = true → ∃ t0, ρ[j]? = some t0 ∧ t0.own = true := by
      intro j t h hto
      by_cases hj : j = i
      · exact ⟨s, by rw [hj]; exact hs, ho⟩
      · rw [List.getElem?_set_ne (Ne.symm hj)] at h; exact ⟨t, h, hto⟩
    obtain ⟨t0, q1, q2⟩ := own j t h1 h3
    obtain ⟨t1, q3, q4⟩ := own k t' h2 h4
    exact R.sep j k t0 t1 b q1 q3 q2 q4 h5 h6
  · obtain ⟨⟨t, ht, hpn⟩, hv2⟩ := R.pin p hp
    refine ⟨?_, hv2⟩
    by_cases hj : p.1 = i
    · refine ⟨s', by rw [hj, List.getElem?_set_self hi], ?_⟩
      rw [hj, hs] at ht
      cases ht
      rcases hk with ⟨x, e1, rfl⟩ | ⟨x, e1, rfl⟩
      · subst e1; cases hpn
      · rfl
    · exact ⟨t, by rw [List.getElem?_set_ne (Ne.symm hj)]; exact ht, hpn⟩
  · have h4 := R.old b ob' h1 h2 h3
    rw [upd_ne fun e => ?_]
    · exact h4
    · subst e
      rcases b0 with b0 | b0
      · rw [b0] at h1; cases h1
      · exact h2 b0
  · obtain ⟨k1, k2, k3, k4⟩ := R.kept p hp
    have hne : p.1 ≠ a := fun e => k4 i s hs ho (by rw [e]; exact hv)
    refine ⟨k1.step (upd_ne hne) st, k2, k3, fun j t h1 h2 h3 => ?_⟩
    by_cases hj : j = i
    · subst hj
      exact k4 j s hs ho h3
    · rw [List.getElem?_set_ne (Ne.symm hj)] at h1
      exact k4 j t h1 h2 h3
  · rw [upd_ne fun e => ?_]
    · exact hb
    · subst e
      obtain ⟨o2, e2, hr2⟩ := ow0
      rw [hb] at e2
      cases e2
      exact hr2.notTC _ _ htc
/-- the rule of a changing method, by values -/
def rMut (Z : Zt) (m : Str) : V → List V → Hp → VK → Prop := fun v vs H Q => ∃ F a x xs y r, live F H ∧ v = .ref a ∧ OwnAt Z.K Z.mg F H a x ∧ ¬ F a ∧ Reps Z.K Z.mg F H vs xs ∧ mutD m x xs = some (y, r) ∧
  ∀ w ob, HoRep Z.K Z.mg F (upd H a ob) ob y → Rep Z.K Z.mg F (upd H a ob) w r → Q w (upd H a ob)
theorem stp_own {F : Fz} {H : Hp} {a : Addr} {ob : HO} (nf : ¬ F a) : Stp F H F (upd H a ob) := ⟨fun _ h => h, fun b o' hb e' _ => by rw [upd_ne (fun e : b = a => nf (e ▸ hb))]; exact e'⟩
theorem reps1 {Z : Zt} {F : Fz} {H : Hp} {vs : List V} {x : D} (h : Reps Z.K Z.mg F H vs [x]) : ∃ v, vs = [v] ∧ Rep Z.K Z.mg F H v x := by
  cases h with
  | cons h1 h2 => cases h2; exact ⟨_, rfl, h1⟩
theorem reps_dropLast {Z : Zt} {F : Fz} {H : Hp} {vs : List V} {ds : List D} (h : Reps Z.K Z.mg F H vs ds) : Reps Z.K Z.mg F H vs.dropLast ds.dropLast := by
  rw [List.dropLast_eq_take, List.dropLast_eq_take, h.length]
  exact h.take _
theorem mut_append : MtR X "list.append" (fun v vs H Q => vs.length = 1 ∧ rMut (zt X B W0 L T) "append" v vs H Q) := by
  intro pins s σ H v vs a us Q I ra rs h
  obtain ⟨h1, F, p, x, xs, y, r, l, rfl, ⟨ob, hob, hr⟩, nf, rp, e, q⟩ := h
  cases hr with
  | lst hr =>
    rename_i ws ds
    match xs, rp, e with
    | [z], rp, e =>
      unfold mutD at e
      rw [show decide (("append" : Str) = ("append" : Str)) = true from decide_eq_true rfl] at e
      obtain ⟨e1, e2⟩ := gd_at e
      cases e2
      obtain ⟨w, rfl, rw'⟩ := reps1 rp
      refine mt_append pins s σ H _ _ a us Q I ra rs ⟨p, ws, w, rfl, rfl, hob, by rw [hr.length]; exact of_decide_eq_true e1, q .non _ ?_ .non⟩
      exact .lst ((hr.append (.cons rw' .nil)).step (stp_own nf))
    | [], rp, e => cases rp; cases h1
    | _ :: _ :: _, rp, e => cases e
  | dK hr => 
    match xs, e with
    | [], e => cases e
    | [_], e => cases e
    | _ :: _ :: _, e => cases e
  | dT hr => 
    match xs, e with
    | [], e => cases e
    | [_], e => cases e
    | _ :: _ :: _, e => cases e
theorem mut_pop : MtR X "list.pop" (fun v vs H Q => vs.length = 0 ∧ rMut (zt X B W0 L T) "pop" v vs H Q) := by
  intro pins s σ H v vs a us Q I ra rs h
  obtain ⟨h1, F, p, x, xs, y, r, l, rfl, ⟨ob, hob, hr⟩, nf, rp, e, q⟩ := h
  cases hr with
  | lst hr =>
    rename_i ws ds
    match xs, rp, e with
    | [], rp, e =>
      cases rp
      unfold mutD at e
      rw [show decide (("pop" : Str) = ("pop" : Str)) = true from decide_eq_true rfl] at e
      dsimp only at e
      cases e1 : ds[ds.length - 1]? with
      | none => rw [e1] at e; cases e
      | some z =>
        rw [e1] at e
        cases e
        obtain ⟨w, hw, rw'⟩ := hr.get e1
        refine mt_pop pins s σ H _ _ a us Q I ra rs ⟨p, ws, w, rfl, rfl, hob, by rw [hr.length]; exact hw, q w _ ?_ (rw'.step (stp_own nf))⟩
        exact .lst ((reps_dropLast hr).step (stp_own nf))
    | _ :: _, rp, e => cases rp; cases h1
  | dK hr => 
    match xs, e with
    | [], e => cases e
    | [_], e => cases e
    | _ :: _ :: _, e => cases e
  | dT hr => 
    match xs, e with
    | [], e => cases e
    | [_], e => cases e
    | _ :: _ :: _, e => cases e
end
end PV
end

section
set_option maxHeartbeats 2000000
/-! Methods; expressions and tests put together. -/
namespace PV
open PySem PySem.Spec L2
open PyProof.Rows hiding St
section
variable {X : Cx} {c : C} {W : WX} {B : Hp} {W0 : Zx} {L : List (Nat × Addr)} {T : List (Addr × D)} {o : Ops}

theorem few_ok : ∀ {es : List Expr} {pos : Pos}, okCall es = true → (backTo pos (starEach es X.env)).all (fun x => !x.1) = true
  | [], _, _ => rfl
  | e :: es, pos, h => by
    have h1 : notStar e = true := by cases e <;> first | rfl | cases h
    have h2 : okCall es = true := by cases e <;> first | exact h | cases h
    rw [star_of h1]
    show (true && (backTo pos (starEach es X.env)).all fun x => !x.1) = true
    rw [few_ok h2] <;> rfl
theorem fewB {e : Expr} {es : List Expr} {pos : Pos} (h : (notStar e && (okCall es && few es)) = true) :
    ((backTo pos (starEach (e :: es) X.env)).all (fun x => !x.1) && (backToKw pos (keywordEach [] X.env)).all (fun x => x.1.isSome)
      && decide ((e :: es).length + ([] : List Keyword).length + (if ([] : List Keyword).isEmpty then 0 else 1) < 30)) = true := by
  rw [Bool.and_eq_true, Bool.and_eq_true] at h
  have h4 : okCall (e :: es) = true := by
    have h1 := h.1
    cases e <;> first | exact h.2.1 | cases h1
  rw [few_ok h4]
  have h3 := of_decide_eq_true h.2.2
  show (true && true && decide (es.length + 1 + 0 + 0 < 30)) = true
  simp; omega
/-- the kind of changing method -/
structure MtK (X : Cx) (Z : Zt) (m : Str) (id : String) (ar : Nat) : Prop where
  slot : Slot "list" m id
  ty : typeOf (.builtin id) = pure (.type "method_descriptor")
  ok : MtR X id (fun v vs H Q => vs.length = ar ∧ rMut Z m v vs H Q)
theorem mutIn_rd {Z : Zt} {m : Str} {i : Nat} {F : Fz} {ρ : Evm} {σ : L2.St} {H : Hp} {Q : VK} {v : V} {vs : List V} {xs : List D} (R : Rl Z F ρ σ H) (hv : σ[i]? = some (some v)) (rs : Reps Z.K Z.mg F H vs xs)
    (h : Pst Z W (RR Z) F σ H Q (mutIn i m xs ρ)) : rMut Z m v vs H Q := by
  unfold mutIn at h
  split at h
  · rename_i x e
    cases e1 : mutD m x xs with
    | none => rw [e1] at h; exact h.elim
    | some q =>
      obtain ⟨y, r⟩ := q
      rw [e1] at h
      dsimp only at h
      obtain ⟨v', hv', so⟩ := R.slot e
      rw [hv] at hv'
      cases hv'
      obtain ⟨a, ea, ow, nf, b⟩ := so
      cases ea
      refine ⟨F, a, x, xs, y, r, R.live, rfl, ow, nf, rs, e1, fun w ob hr rw' => ?_⟩
      exact h w F (upd H a ob) (stp_own nf) (R.write e rfl hv nf hr (.inl ⟨_, rfl, rfl⟩)) (rr_rep rw')
  · rename_i x e
    cases e1 : mutD m x xs with
    | none => rw [e1] at h; exact h.elim
    | some q =>
      obtain ⟨y, r⟩ := q
      rw [e1] at h
      dsimp only at h
      obtain ⟨v', hv', so⟩ := R.slot e
      rw [hv] at hv'
      cases hv'
      obtain ⟨a, ea, ow, nf, b⟩ := so
      cases ea
      refine ⟨F, a, x, xs, y, r, R.live, rfl, ow, nf, rs, e1, fun w ob hr rw' => ?_⟩
      exact h w F (upd H a ob) (stp_own nf) (R.write e rfl hv nf hr (.inr ⟨_, rfl, rfl⟩)) (rr_rep rw')
  · exact h.elim
theorem ownL_at {F : Fz} {ρ : Evm} {σ : L2.St} {H : Hp} (R : Rl (zt X B W0 L T) F ρ σ H) {i : Nat} (h : ownL ρ i = true) : ∃ v, σ[i]? = some (some v) ∧ tyV X.K "list" v H := by
  unfold ownL at h
  split at h
  · rename_i xs e
    obtain ⟨v, hv, a, ea, ⟨ob, h1, h2⟩, _⟩ := R.slot e
    cases ea
    cases h2 with
    | lst h2 => exact ⟨_, hv, .inl ⟨rfl, _, SqL.of h1⟩⟩
  · rename_i xs e
    obtain ⟨v, hv, a, ea, ⟨ob, h1, h2⟩, _⟩ := R.slot e
    cases ea
    cases h2 with
    | lst h2 => exact ⟨_, hv, .inl ⟨rfl, _, SqL.of h1⟩⟩
  · cases h
theorem mtK_append : MtK X (zt X B W0 L T) "append" "list.append" 1 := ⟨PySem.F.slot_list_append, PySem.F.type_list_append, mut_append⟩
theorem mtK_pop : MtK X (zt X B W0 L T) "pop" "list.pop" 0 := ⟨PySem.F.slot_list_pop, PySem.F.type_list_pop, mut_pop⟩
theorem mutD_kind {m : Str} {x : D} {xs : List D} {y r : D} (h : mutD m x xs = some (y, r)) : (m = "append" ∧ xs.length = 1) ∨ (m = "pop" ∧ xs.length = 0) := by
  unfold mutD at h
  split at h
  · split at h
    · rename_i e; exact .inl ⟨of_decide_eq_true e, rfl⟩
    · cases h
  · split at h
    · rename_i e _; exact .inr ⟨of_decide_eq_true e, rfl⟩
    · cases h
  · cases h
theorem mutKnown_at {m : Str} (h : mutKnown m = true) : m = "append" ∨ m = "pop" := by
  unfold mutKnown at h
  rw [Bool.or_eq_true] at h
  rcases h with h | h
  · exact .inl (of_decide_eq_true h)
  · exact .inr (of_decide_eq_true h)
theorem ok_mutK {i ar : Nat} {x m : Str} {mid : String} {p ap pos : Pos} {as : List Expr} (ho : Ok o) (u : UD X c W W0) (hm : mutKnown m = true) (mk : MtK X (zt X B W0 L T) m mid ar) (hk : ∀ (x : D) (xs : List D) (y r : D), mutD m x xs = some (y, r) → xs.length = ar)
    (hn : c.nm x = .slot i) (hl : (ap.endLine == pos.line) = true) :
    PE X (.Call (.Attribute (.Name x p) m ap) as [] pos) (tEv (zt X B W0 L T) W (evMut o c i m as)) := by
  obtain ⟨hok, hN, hv⟩ := nm_slot hn
  obtain ⟨h1, h2⟩ := okName_at hok
  have hN' : X.N[i]? = some x := by rw [u.N]; exact hN
  have hv' : Vis X.env.scope x := by rw [u.sc]; exact hv
  have arOf : ∀ {v vs H Q}, rMut (zt X B W0 L T) m v vs H Q → vs.length = ar ∧ rMut (zt X B W0 L T) m v vs H Q := by
    intro v vs H Q h
    obtain ⟨F, a, x, xs, y, r, l, e, ow, nf, rp, e1, k⟩ := id h
    exact ⟨by rw [rp.length]; exact hk _ _ _ _ e1, h⟩
  cases as with
  | nil =>
    refine PE.imp (pe_bm0 PySem.F.plainAttrs_list mk.slot mk.ty mk.ok (pe_var (pos := p) hN' hv' h1 h2) rfl hl) fun σ H Q h => ?_
    obtain ⟨F, ρ, R, h⟩ := tM_at h
    unfold evMut at h
    rw [hm] at h
    cases ow : ownL ρ i with
    | false => rw [ow] at h; exact h.elim
    | true =>
      rw [ow] at h
      obtain ⟨v, hv, ty⟩ := ownL_at R ow
      exact ⟨v, hv, ty, arOf (mutIn_rd R hv .nil h)⟩
  | cons e es =>
    cases hs : (notStar e && (okCall es && few es)) with
    | false =>
      refine ⟨fun pins s σ H Q I h => ?_⟩
      obtain ⟨F, ρ, R, h⟩ := tM_at h
      unfold evMut at h
      cases ow : (mutKnown m && ownL ρ i) with
      | false => rw [ow] at h; exact h.elim
      | true => rw [ow] at h; simp only [hs] at h; exact h.elim
    | true =>
      have hf' := hs
      rw [Bool.and_eq_true, Bool.and_eq_true] at hf'
      refine PE.imp (pe_bm PySem.F.plainAttrs_list mk.slot mk.ty mk.ok (pe_var (pos := p) hN' hv' h1 h2) (ho.args (B := B) (W0 := W0) (L := L) (T := T) (e :: es) u) rfl (fewB hs) hl (star_of hf'.1) (noStar_of hf'.2.1)) fun σ H Q h => ?_
      obtain ⟨F, ρ, R, h⟩ := tM_at h
      unfold evMut at h
      rw [hm] at h
      cases ow : ownL ρ i with
      | false => rw [ow] at h; exact h.elim
      | true =>
        rw [ow] at h
        simp only [hs, Bool.and_self] at h
        obtain ⟨v, hv, ty⟩ := ownL_at R ow
        exact ⟨v, hv, ty, tM_bnd R h fun xs ρ1 vs F1 H1 s1 R1 rs h1 => arOf (mutIn_rd R1 hv rs h1)⟩
theorem ok_mut {i : Nat} {x m : Str} {p ap pos : Pos} {as : List Expr} (ho : Ok o) (u : UD X c W W0) (hn : c.nm x = .slot i) (hl : (ap.endLine == pos.line) = true) :
    PE X (.Call (.Attribute (.Name x p) m ap) as [] pos) (tEv (zt X B W0 L T) W (evMut o c i m as)) := by
  cases hm : mutKnown m with
  | false =>
    refine ⟨fun pins s σ H Q I h => ?_⟩
    obtain ⟨F, ρ, R, h⟩ := tM_at h
    unfold evMut at h
    rw [hm] at h
    exact h.elim
  | true =>
    rcases mutKnown_at hm with e | e
    · subst e
      exact ok_mutK ho u hm mtK_append (fun x xs y r h => by
        rcases mutD_kind h with ⟨_, h⟩ | ⟨h, _⟩
        · exact h
        · exact absurd h (by decide)) hn hl
    · subst e
      exact ok_mutK ho u hm mtK_pop (fun x xs y r h => by
        rcases mutD_kind h with ⟨h, _⟩ | ⟨_, h⟩
        · exact absurd h (by decide)
        · exact h) hn hl

/-! ### all together -/
theorem pt_stk {e : Expr} {Z : Zt} {Rel : Fz → Hp → Evm → L2.St → Bool → Bool → Prop} : PT X e (tM Z W (stk : M Bool) Rel) := ⟨fun pins s σ H Q I h => (t_stk h).elim⟩
theorem ok_ev1 (ho : Ok o) (u : UD X c W W0) (e : Expr) : PE X e (tEv (zt X B W0 L T) W (ev1 o c e)) := by
  unfold ev1
  split
  · exact ok_name u.toUC
  · exact ok_const u.toUC
  · exact ok_binop ho u
  · exact ok_neg ho u
  · exact ok_notV ho u
  · exact pe_one (ho.ev _ u)
  · exact ok_bool ho u
  · exact ok_if ho u
  · exact ok_tup ho u
  · exact ok_lst ho u
  · split
    · exact pe_stk
    · rename_i h; exact ok_cmp ho u h
  · split
    · exact pe_stk
    · rename_i h; exact ok_chain ho u h
  · exact ok_slice ho u
  · split
    · rename_i h; exact ok_index ho u h
    · exact pe_stk
  · exact ok_call ho u _
  · split
    · rename_i h1 h2; exact ok_mut ho u h1 h2
    · exact pe_stk
  · exact pe_stk
theorem isTrue_any {op : BoolOp} {b : Expr} {r : List Expr} {p : Pos} {env : Env} (w1 w2 : Sem Value) : isTrue (.BoolOp op (b :: r) p) env w1 = isTrue (.BoolOp op (b :: r) p) env w2 := by
  cases op <;> rfl
theorem pw_of {op : BoolOp} {b : Expr} {r : List Expr} {p : Pos} {t : TT} (h : PT X (.BoolOp op (b :: r) p) t) : PW X (.BoolOp op (b :: r) p) t := ⟨fun wh pins s σ H Q I ht => by
  rw [isTrue_any wh (eval (.BoolOp op (b :: r) p) X.env)]
  exact h.run pins s σ H Q I ht⟩
theorem pw_one {op : BoolOp} {a : Expr} {p : Pos} {t : TT} (h : PT X a t) : PT X (.BoolOp op [a] p) t := by
  cases op with
  | And => exact (pw_and1 h).pt
  | Or => exact (pw_or1 h).pt
theorem ok_boolT (ho : Ok o) (u : UD X c W W0) {op : BoolOp} {a b : Expr} {r : List Expr} {p : Pos} : PT X (.BoolOp op (a :: b :: r) p) (tTst (zt X B W0 L T) W (tst1 o c (.BoolOp op (a :: b :: r) p))) := by
  have ha := ho.tst (B := B) (W0 := W0) (L := L) (T := T) a u
  have hb := pw_of (ho.tst (B := B) (W0 := W0) (L := L) (T := T) (.BoolOp op (b :: r) p) u)
  cases op with
  | And =>
    refine PT.imp (pw_and ha hb).pt fun σ H Q h => ?_
    obtain ⟨F, ρ, R, h⟩ := tM_at h
    unfold tst1 at h
    unfold tAnd
    refine tM_bnd R h fun k ρ1 k' F1 H1 s1 R1 e h1 => ?_
    subst e
    cases k' with
    | true => rw [if_pos rfl]; exact tM_of R1 h1
    | false => rw [if_neg (by decide)]; exact h1 false F1 H1 (.refl _ _) R1 rfl
  | Or =>
    refine PT.imp (pw_or ha hb).pt fun σ H Q h => ?_
    obtain ⟨F, ρ, R, h⟩ := tM_at h
    unfold tst1 at h
    unfold tOr
    refine tM_bnd R h fun k ρ1 k' F1 H1 s1 R1 e h1 => ?_
    subst e
    cases k' with
    | true => rw [if_pos rfl]; exact h1 true F1 H1 (.refl _ _) R1 rfl
    | false => rw [if_neg (by decide)]; exact tM_of R1 h1
theorem ok_notT (ho : Ok o) (u : UD X c W W0) {a : Expr} {p : Pos} : PT X (.UnaryOp .Not a p) (tTst (zt X B W0 L T) W (bnd (o.tst c a) fun k => pure (!k))) := by
  refine PT.imp (pt_not (ho.tst (B := B) (W0 := W0) (L := L) (T := T) a u)) fun σ H Q h => ?_
  obtain ⟨F, ρ, R, h⟩ := tM_at h
  unfold tNot
  refine tM_bnd R h fun k ρ1 k' F1 H1 s1 R1 e h1 => ?_
  subst e
  exact h1 _ F1 H1 (.refl _ _) R1 rfl
theorem ok_truth (ho : Ok o) (u : UD X c W W0) {a : Expr} (he : ∀ whole, isTrue a X.env whole = (do let v ← whole; standAt a.pos; holding [v] (truthy v))) : PT X a (tTst (zt X B W0 L T) W (one o c a fun x => lft (truD x))) :=
  PT.imp (pt_truth (ho.opn (B := B) (W0 := W0) (L := L) (T := T) a u) he) fun σ H Q h =>
    t_one (r := fun v H (Q : Bool → Hp → Prop) => ∃ k, TruV X.K v H k ∧ Q k H) (fun F ρ σ H Q v x R px hp => by
      obtain ⟨k, e, q⟩ := t_bl R hp
      exact ⟨k, tru_at px e, q⟩) h
theorem ok_tst1 (ho : Ok o) (u : UD X c W W0) (e : Expr) : PT X e (tTst (zt X B W0 L T) W (tst1 o c e)) := by
  unfold tst1
  split
  · exact ok_notT ho u
  · exact pw_one (ho.tst _ u)
  · exact ok_boolT ho u
  · split
    · exact pt_stk
    · rename_i h; exact ok_cmpT ho u h
  · split
    · exact pt_stk
    · rename_i h; exact ok_chainT ho u h
  · exact pt_stk
  · exact pt_stk
  · exact pt_stk
  · refine ok_truth ho u fun wh => ?_
    rename_i x7 x6 x5 x4 x3 x2 x1 x0
    cases e with
    | BoolOp op es p =>
      match es, x6, x5, x0 with
      | [], _, _, x0 => exact (x0 _ _ rfl).elim
      | [a], x6, _, _ => exact (x6 _ _ _ rfl).elim
      | a :: b :: r, _, x5, _ => exact (x5 _ _ _ _ _ rfl).elim
    | UnaryOp op a p =>
      cases op with
      | Not => exact (x7 _ _ rfl).elim
      | _ => rfl
    | IfExp a b d p => exact (x2 _ _ _ _ rfl).elim
    | Compare a ops bs p => exact (x1 _ _ _ _ rfl).elim
    | _ => rfl
end
end PV
end

section
set_option maxHeartbeats 2000000
/-! comprehensions within an except suite -/
namespace PV
open PySem PySem.Spec L2 HotX L2H
open PyProof.Rows hiding St
section
variable {prog : Program} {w : World} {A : Around} {E : Value → Shared → Prop} {s : Shared}
theorem next_list_end_hot {it l x1 : Addr} {i : Nat} {items : Array Value} {Q : Option Value → Shared → Prop} (hot : HotAt A x1 s.heap) (hne : x1 ≠ it)
    (hit : s.heap.IsListIter it l i) (hl : s.heap.IsList l items) (hx : items[i]? = none)
    (hQ : ∀ h', Heap.ExtBut it s.heap h' → Q none { s with heap := h' }) : wpAny (model prog w) A (pyNext (.ref it)) Q E s := by
  obtain ⟨o, ho, hc, hd⟩ := id hit
  obtain ⟨ol, hol, _, nl, hdl⟩ := hl
  obtain ⟨hh, o1, vs1, h1, d1, c1⟩ := hot
  unfold pyNext
  refine wpAny_bind (wpAny_attempt (wpAny_callSpecial?_slot (name := Str.ofString "__next__") hit.typeIs slot_listiter_next
    (wpAny_call_entry slot_listiter_next hit.typeIs entry_listiter_next ?_ (args_listiter_next _))))
  show wpAny _ _ (field (.ref it) 0 >>= _) _ _ s
  refine wpAny_bind (wpAny_field ho hd (x := .ref l) rfl ?_)
  show wpAny _ _ (if (Value.ref l == Value.none) = true then _ else _) _ _ s
  rw [if_neg (show ¬ ((Value.ref l == Value.none) = true) from Bool.false_ne_true)]
  show wpAny _ _ (field (.ref it) 1 >>= _) _ _ s
  refine wpAny_bind (wpAny_field ho hd (x := .int i 0) rfl ?_)
  show wpAny _ _ (seqItems? (.ref l) >>= _) _ _ s
  refine wpAny_bind (wpAny_seqItems hol hdl ?_)
  simp only [Int.toNat_natCast, hx]
  refine wpAny_bind (wpAny_rule (wpAny_bind (wpAny_setField ho hd (by simp) ?_)))
  show wpAny _ _ (newExc (.type "StopIteration") [] >>= _) _ _ _
  refine wpAny_bind ?_
  simp only [newExc, newTuple]
  refine wpAny_bind (wpAny_newObj_type ?_ (by size_fits))
  refine wpAny_bind (m := firstArgMember _ _) (wpAny_of_eq (a := Value.none) (by first | rfl | (simp only [firstArgMember]; rfl)) ?_)
  refine wpAny_newObj_type ?_ (by size_fits)
  have h1' : ∀ f, (s.heap.update it f).get? x1 = some o1 := fun f => by rw [Heap.get?_update_other _ _ (Ne.symm hne)]; exact h1
  refine raiseNew_hot ⟨hh, o1, vs1, Heap.get?_push_of_some _ (Heap.get?_push_of_some _ (h1' _)), d1, c1⟩ (Nat.ne_of_lt (Heap.lt_size (Heap.get?_push_of_some _ (h1' _)))) (Heap.get?_push_size _ rfl) rfl (by first | (simp; done) | (simp; omega) | (simp only [Array.size_append]; simp; omega)) ?_
  refine wpAny_bind (wpAny_isInstance (T := "StopIteration") (b := true) ⟨_, Heap.get?_update_self _ (Heap.get?_push_size _ rfl) rfl, rfl⟩ isSubtype_stop ?_)
  refine wpAny_pure (hQ _ fun b o hb e => ?_)
  have e' : ∀ f, (s.heap.update it f).get? b = some o := fun f => by rw [Heap.get?_update_other _ _ (Ne.symm hb)]; exact e
  rw [Heap.get?_update_other _ _ (Nat.ne_of_gt (Heap.lt_size (Heap.get?_push_of_some _ (e' _))))]
  exact Heap.get?_push_of_some _ (Heap.get?_push_of_some _ (e' _))
theorem next_tuple_end_hot {it t x1 : Addr} {i : Nat} {items : Array Value} {Q : Option Value → Shared → Prop} (hot : HotAt A x1 s.heap) (hne : x1 ≠ it)
    (hit : IsTupIter s.heap it t i) (ht : IsTup s.heap t items) (hx : items[i]? = none)
    (hQ : ∀ h', Heap.ExtBut it s.heap h' → Q none { s with heap := h' }) : wpAny (model prog w) A (pyNext (.ref it)) Q E s := by
  obtain ⟨o, ho, hc, hd⟩ := id hit
  obtain ⟨ol, hol, _, nl, hdl⟩ := ht
  obtain ⟨hh, o1, vs1, h1, d1, c1⟩ := hot
  unfold pyNext
  refine wpAny_bind (wpAny_attempt (wpAny_callSpecial?_slot (name := Str.ofString "__next__") hit.typeIs slot_tupleiter_next
    (wpAny_call_entry slot_tupleiter_next hit.typeIs entry_tupleiter_next ?_ (args_tupleiter_next _))))
  show wpAny _ _ (field (.ref it) 0 >>= _) _ _ s
  refine wpAny_bind (wpAny_field ho hd (x := .ref t) rfl ?_)
  show wpAny _ _ (if (Value.ref t == Value.none) = true then _ else _) _ _ s
  rw [if_neg (show ¬ ((Value.ref t == Value.none) = true) from Bool.false_ne_true)]
  show wpAny _ _ (field (.ref it) 1 >>= _) _ _ s
  refine wpAny_bind (wpAny_field ho hd (x := .int i 0) rfl ?_)
  show wpAny _ _ (seqItems? (.ref t) >>= _) _ _ s
  refine wpAny_bind (wpAny_seqItems hol hdl ?_)
  simp only [Int.toNat_natCast, hx]
  refine wpAny_bind (wpAny_rule (wpAny_bind (wpAny_setField ho hd (by simp) ?_)))
  show wpAny _ _ (newExc (.type "StopIteration") [] >>= _) _ _ _
  refine wpAny_bind ?_
  simp only [newExc, newTuple]
  refine wpAny_bind (wpAny_newObj_type ?_ (by size_fits))
  refine wpAny_bind (m := firstArgMember _ _) (wpAny_of_eq (a := Value.none) (by first | rfl | (simp only [firstArgMember]; rfl)) ?_)
  refine wpAny_newObj_type ?_ (by size_fits)
  have h1' : ∀ f, (s.heap.update it f).get? x1 = some o1 := fun f => by rw [Heap.get?_update_other _ _ (Ne.symm hne)]; exact h1
  refine raiseNew_hot ⟨hh, o1, vs1, Heap.get?_push_of_some _ (Heap.get?_push_of_some _ (h1' _)), d1, c1⟩ (Nat.ne_of_lt (Heap.lt_size (Heap.get?_push_of_some _ (h1' _)))) (Heap.get?_push_size _ rfl) rfl (by first | (simp; done) | (simp; omega) | (simp only [Array.size_append]; simp; omega)) ?_
  refine wpAny_bind (wpAny_isInstance (T := "StopIteration") (b := true) ⟨_, Heap.get?_update_self _ (Heap.get?_push_size _ rfl) rfl, rfl⟩ isSubtype_stop ?_)
  refine wpAny_pure (hQ _ fun b o hb e => ?_)
  have e' : ∀ f, (s.heap.update it f).get? b = some o := fun f => by rw [Heap.get?_update_other _ _ (Ne.symm hb)]; exact e
  rw [Heap.get?_update_other _ _ (Nat.ne_of_gt (Heap.lt_size (Heap.get?_push_of_some _ (e' _))))]
  exact Heap.get?_push_of_some _ (Heap.get?_push_of_some _ (e' _))
theorem unpackItems_tuple_hot {t x1 : Addr} {items : Array Value} {Q : List Value → Shared → Prop} (hot : HotAt A x1 s.heap) (ht : IsTup s.heap t items)
    (hQ : ∀ h', Heap.ExtBut s.heap.objs.size s.heap h' → Q items.toList { s with heap := h' }) : wpAny (model prog w) A (unpackItems (.ref t) items.size none) Q E s := by
  have hlt : t ≠ s.heap.objs.size := by obtain ⟨o, ho, _⟩ := ht; exact Nat.ne_of_lt (Heap.lt_size ho)
  obtain ⟨hh, o1, vs1, h1, d1, c1⟩ := hot
  have hne : x1 ≠ s.heap.objs.size := Nat.ne_of_lt (Heap.lt_size h1)
  unfold unpackItems
  refine wpAny_bind ?_
  · unfold notIterableAtAll
    refine wpAny_bind (wpAny_specialOf ht.typeIs slot_tuple_iter.lookup ?_)
    refine wpAny_pure ?_
    simp only [Bool.false_eq_true, if_false]
    refine wpAny_bind (wpAny_holding (iter_tuple ht ?_))
    refine wpAny_bind (wpAny_holding (draw_tuple hlt items.size 0 _ _ ⟨_, Heap.get?_push_size _ rfl, rfl, rfl⟩ (ht.push _) (by omega) fun h₁ hit₁ hs₁ => ?_))
    have hall : List.take items.size (List.drop 0 items.toList) = items.toList := by
      rw [List.drop_zero]; exact List.take_of_length_le (by simp)
    rw [hall]
    rw [if_neg (by simp)]
    have ht₁ : IsTup h₁ t items := (ht.push _).extBut hs₁.extBut hlt
    have hot₁ : HotAt A x1 h₁ := ⟨hh, o1, vs1, hs₁.extBut x1 o1 hne (Heap.get?_push_of_some _ h1), d1, c1⟩
    refine wpAny_bind (wpAny_holding (next_tuple_end_hot hot₁ hne hit₁ ht₁ (by simp) fun h₂ he₂ => ?_))
    simp only [Option.isSome_none, Bool.false_eq_true, if_false]
    refine wpAny_pure (hQ h₂ fun b o hb e => he₂ b o hb (hs₁.extBut b o hb (Heap.get?_push_of_some _ e)))
theorem unpack_tuple_hot {t x1 : Addr} {items : Array Value} {targets : List (Bool × (Value → Sem Unit))} {Q : Unit → Shared → Prop} (hot : HotAt A x1 s.heap) (ht : IsTup s.heap t items)
    (hn : targets.length = items.size) (hstar : targets.findIdx? (·.1) = none)
    (h : ∀ h', Heap.ExtBut s.heap.objs.size s.heap h' → wpAny (model prog w) A (assignInOrder (targets.map (·.2)) items.toList) Q E { s with heap := h' }) :
    wpAny (model prog w) A (unpack (.ref t) targets) Q E s := by
  unfold unpack
  rw [hn, hstar]
  exact wpAny_bind (wpAny_holding (unpackItems_tuple_hot hot ht h))
theorem assign_Tuple_tuple_hot {env : Env} {elts : List Expr} {k : Nat} {pos : Pos} {t x1 : Addr} {items : Array Value} {Q : Unit → Shared → Prop} (hot : HotAt A x1 s.heap) (ht : IsTup s.heap t items)
    (hn : (assignEach elts env).length = items.size) (hstar : (assignEach elts env).findIdx? (·.1) = none)
    (h : ∀ h', Heap.ExtBut s.heap.objs.size s.heap h' → wpAny (model prog w) A (assignInOrder ((assignEach elts env).map (·.2)) items.toList) Q E { s with heap := h' }) :
    wpAny (model prog w) A (assign (.Tuple elts k pos) env (.ref t)) Q E s := by
  rw [assign_Tuple]
  exact wpAny_bind (wpAny_standAt (unpack_tuple_hot hot ht hn hstar h))
end
section
variable {X : Cx} {pos : Pos}
theorem pg_tupH {es : List Expr} {k : Nat} {t : TGs} {n : Nat} (hc : HotC X) (h : PGs X es t)
    (hn : (assignEach es X.env).length = n := by rfl) (hst : (assignEach es X.env).findIdx? (·.1) = none := by rfl) : PG X (.Tuple es k pos) (gTup X.K n t) := by
  refine ⟨fun pins s σ H v u Q I r hw => ?_⟩
  obtain ⟨a, xs, e1, hq, hl, hw⟩ := hw
  subst e1
  cases r
  obtain ⟨its, rv, ht, hz⟩ := I.tuple hq
  obtain ⟨x1, hot⟩ := hc.at I
  refine assign_Tuple_tuple_hot hot ht (by simp [hn, ← hl, rv.length]) hst fun h' hx => ?_
  have I1 : Inv X pins σ H { s with heap := h' } := I.kept (t' := s.toks) fun b o e => hx b o (Nat.ne_of_lt (Heap.lt_size e)) e
  exact h.run pins _ σ H xs _ Q I1 (by simpa using rv) hw
theorem turn_listH {P : Program} {w : World} {K : PySem.W.Frag} {tg : Expr} (a it : Addr) : TurnH P w K tg (Itl K a) [it] it (fun i h => h.IsListIter it a i) where
  mem := by simp
  obj := fun i h st b hb => by
    have e : b = it := by simpa using hb
    subst e
    obtain ⟨o, e, c, d⟩ := st
    exact ⟨o, e, fun v z => by rw [d] at z; cases z⟩
  keep := fun i h h' st k => st.at fun o e => k it (by simp) o e
  item := by
    intro X hP hw hK hc i pins s σ H E I hf st hg
    subst hP hw hK
    obtain ⟨xs, x, hq, hx⟩ := hg
    obtain ⟨its, rv, p, hz⟩ := I.list hq
    obtain ⟨u, hu, ru⟩ := rv.get hx
    obtain ⟨f0, f1, f2, f3, f4, f5⟩ := hf it (by simp)
    refine wpAny_pyNext_list_item st p.isList (x := u) (by simpa using hu) fun h' st' sb => ?_
    have I1 : Inv X pins σ H { s with heap := h' } := I.turned (t' := s.toks) (fun b o hb e => (sb.2 b hb).trans e) f0 f1 f3 f4 f5
    obtain ⟨o, e, c, d⟩ := id st'
    exact ⟨u, rfl, go_of (s := { s with heap := h' }) e c d (by decide) ⟨x, H, I1, ru, ⟨rfl, fun ys hy => by rw [I.list_inj hy hq]; exact hx⟩, st', fun b hb => (hf b hb).1⟩⟩
  done := by
    intro X hP hw hK hc i pins s σ H E I hf st hg
    subst hP hw hK
    obtain ⟨xs, hq, hx⟩ := hg
    obtain ⟨its, rv, p, hz⟩ := I.list hq
    obtain ⟨f0, f1, f2, f3, f4, f5⟩ := hf it (by simp)
    have hl := rv.length
    obtain ⟨q, ⟨hh, v1, e1, c1⟩, hp⟩ := hc
    have g1 := (I.pin q (List.mem_append_left _ hp)).1
    exact next_list_end_hot ⟨hh, q.2, v1, g1, e1, c1⟩ (f5 q (List.mem_append_left _ hp)) st p.isList (by simp; omega) fun h' eb => ⟨rfl, I.turned (t' := s.toks) (fun b o hb e => eb b o hb e) f0 f1 f3 f4 f5⟩
  self := fun _ _ _ _ _ st h => wpAny_pyIter_listiter st h
theorem pi_listH {tg l : Expr} {tl : TE} (hl : PE X l tl) : PIH X tg l (iList X.K tl) := by
  refine ⟨fun pins s σ H R I h => ?_⟩
  refine thn (hl.run pins s σ H _ I h) fun v s1 ⟨x, H1, I1, r1, q1⟩ => ?_
  obtain ⟨a, e, ⟨xs, hq⟩, q⟩ := q1
  subst e
  cases r1
  obtain ⟨its, rv, p, hz⟩ := I1.list hq
  refine wpAny_pyIter_list p.isList ?_
  refine ⟨s1.heap.objs.size, [s1.heap.objs.size], _, _, H1, rfl, I1.kept (t' := s1.toks) fun b o e => Heap.get?_push_of_some _ e, turn_listH a _, ⟨_, Heap.get?_push_size _ rfl, rfl, rfl⟩, fun b hb => ?_, q⟩
  have e : b = s1.heap.objs.size := by simpa using hb
  subst e
  exact I1.fpOk (Nat.le_refl _) (I1.hok.fresh (Nat.le_refl _))
end
/-! ### a comprehension over a list, while an exception is handled -/
/-- the context of a block within an except suite: the pins of the suite stay -/
abbrev blkH (X : Cx) (s : Shared) (H : Hp) (scope : Scope) (ce : Env) (fp : List Addr) : Cx := { X.blk s H scope ce fp with pn := X.pn }
/-- pins that stand in the state stand in the block -/
theorem blkH_of {X : Cx} {s s' : Shared} {H H' : Hp} {scope : Scope} {ce : Env} {fp : List Addr} {σ : L2.St} (I : Inv (X.blk s H scope ce fp) [] σ H' s')
    (hp : ∀ p ∈ X.pn, s'.heap.get? p.1 = some p.2 ∧ H' p.1 = none ∧ p.1 ≠ ce.locals ∧ p.1 ∉ frs X.stack ∧ ∀ v, p.2.data ≠ .cell v) : Inv (blkH X s H scope ce fp) [] σ H' s' where
  ok := ⟨I.ok.mod, I.ok.kind, I.ok.glob, I.ok.blt, I.ok.above, I.ok.inj, I.ok.has, I.ok.cab, I.ok.hd, I.ok.frames, I.ok.stk, I.ok.exf, I.ok.bs, I.ok.bsz, I.ok.noex, I.ok.exfs, I.ok.funs, I.ok.frf⟩
  os := I.os
  bare := I.bare
  base := I.base
  loc := I.loc
  cell := I.cell
  free := I.free
  freeC := I.freeC
  pin := fun p h => hp p (by have h' : p ∈ X.pn ++ [] := h; simpa using h')
  hok := I.hok
  len := I.len
/-- a pinned thing is none of the frames that run -/
theorem pin_far {X : Cx} {pins : List (Addr × Obj)} {σ : L2.St} {H : Hp} {s : Shared} (I : Inv X pins σ H s) {p : Addr × Obj} (hp : p ∈ X.pn) : p.1 ∉ frs X.stack := by
  obtain ⟨_, _, nl, nf, _⟩ := I.pin p (List.mem_append_left _ hp)
  rcases I.ok.stk with e | ⟨e, ef⟩
  · rw [e]; exact nf
  · intro z
    rw [e] at z
    obtain ⟨en, hen, q⟩ := List.mem_filterMap.mp z
    cases hen with
    | head => rw [ef] at q; exact nl (Option.some.inj q).symm
    | tail _ hen => exact nf (List.mem_filterMap.mpr ⟨en, hen, q⟩)
section
variable {X : Cx} {tg iter elt : Expr} {ifs : List Expr} {scope : Scope} {vs : List Nat} {g : TG} {tt : TT} {te : TE}
variable {s0 : Shared} {H0 : Hp} {ce : Env} {fp : List Addr} {it D : Addr} {J : It} {tn : Nat → Heap → Prop} {σ : L2.St}
/-- what a turn of the block's loop begins with: i things are taken -/
structure At (X : Cx) (s0 : Shared) (H0 : Hp) (scope : Scope) (ce : Env) (fp : List Addr) (tn : Nat → Heap → Prop) (σw : L2.St) (i : Nat) (H : Hp) (s : Shared) : Prop where
  inv : Inv (blkH X s0 H0 scope ce fp) [] σw H s
  here : tn i s.heap
  no : ∀ b ∈ fp, H b = none
theorem at_fp {σw : L2.St} {i : Nat} {H H' : Hp} {s : Shared} (far : ∀ b ∈ fp, ∀ p ∈ X.pn, p.1 ≠ b) (I : Inv (blkH X s0 H0 scope ce fp) [] σw H s) (no : ∀ b ∈ fp, H' b = none) : ∀ b ∈ fp, FpOk (blkH X s0 H0 scope ce fp) [] H' b := by
  intro b hb
  refine ⟨no b hb, (I.ok.exf b hb).1, I.ok.exfs b hb, .inl hb, fun x c e => (I.ok.exf b hb).2 x c e, fun p hp => far b hb p ?_⟩
  have hp' : p ∈ X.pn ++ [] := hp
  simpa using hp'
/-- the end of the walk -/
theorem hot_done (hc : HotC X) (T : TurnH X.prog X.w X.K tg J fp it tn) (far : ∀ b ∈ fp, ∀ p ∈ X.pn, p.1 ≠ b) {σw : L2.St} {i : Nat} {H : Hp} {s : Shared} (a : At X s0 H0 scope ce fp tn σw i H s) (stop : J.stop i H) :
    wpAny (model X.prog X.w) X.A (pyNext (.ref it)) (fun r s1 => r = none ∧ Inv (blkH X s0 H0 scope ce fp) [] σw H s1) (fun _ _ => False) s :=
  T.done (blkH X s0 H0 scope ce fp) rfl rfl rfl hc i [] s σw H (fun _ _ => False) a.inv (at_fp (i := i) far a.inv a.no) a.here stop
/-- one thing more -/
theorem hot_turn (hc : HotC X) (T : TurnH X.prog X.w X.K tg J fp it tn) (far : ∀ b ∈ fp, ∀ p ∈ X.pn, p.1 ≠ b) (pg : PG (blkH X s0 H0 scope ce fp) tg g) (pt : PTs (blkH X s0 H0 scope ce fp) ifs tt) (pe : PE (blkH X s0 H0 scope ce fp) elt te)
    {i : Nat} {H : Hp} {s : Shared} {Nx : Hp → Prop} {Z : Shared → Prop} (a : At X s0 H0 scope ce fp tn (L2.wipe σ vs) i H s) (go : J.go i H)
    (step : ∀ x H', J.yld i H x H' → g x (L2.wipe σ vs) H' fun σ2 H2 => L2.wipe σ2 vs = L2.wipe σ vs ∧ tt σ2 H2 fun b H3 => if b = true then te σ2 H3 fun y H4 => ∃ acc, H4 D = some (.lst acc) ∧ acc.length < sizeLine ∧ Nx (upd H4 D (.lst (acc ++ [y]))) else Nx H3)
    (more : ∀ H' s', At X s0 H0 scope ce fp tn (L2.wipe σ vs) (i + 1) H' s' → Nx H' → Z s') :
    wpAny (model X.prog X.w) X.A (pyNext (.ref it)) (fun r s1 => ∃ u, r = some u ∧ wpAny (model X.prog X.w) X.A (letOwnedTupleGo tg (.ref it) u) (fun _ s2 => wpAny (model X.prog X.w) X.A (assign tg ce u) (fun _ s3 =>
      wpAny (model X.prog X.w) X.A (forIn ifs true fun c r => if r = true then do let ok ← isTrue c ce (eval c ce); pure (ForInStep.yield ok) else pure (ForInStep.yield r)) (fun ok s4 =>
        if ok = true then wpAny (model X.prog X.w) X.A (eval elt ce) (fun x s5 => wpAny (model X.prog X.w) X.A (call (.builtin "list.append") [.ref D, x]) (fun _ s6 => Z s6) (fun _ _ => False) s5) (fun _ _ => False) s4 else Z s4) (fun _ _ => False) s3) (fun _ _ => False) s2) (fun _ _ => False) s1) (fun _ _ => False) s := by
  refine wpAny_mono (T.item (blkH X s0 H0 scope ce fp) rfl rfl rfl hc i [] s _ H (fun _ _ => False) a.inv (at_fp (i := i) far a.inv a.no) a.here go) (fun r s1 ⟨u, hr, h1⟩ => ⟨u, hr, ?_⟩) fun _ _ z => z
  refine wpAny_mono h1 (fun _ s2 ⟨x, H2, I2, r2, y2, st2, n2⟩ => ?_) fun _ _ z => z
  have P := I2.pinned (at_fp (i := i) far I2 n2) (T.obj _ _ st2)
  refine wpAny_mono (pg.run _ s2 _ H2 x u _ P r2 (step x H2 y2)) (fun _ s3 ⟨σ3, H3, I3, hw, q3⟩ => ?_) fun _ _ z => z
  refine wpAny_mono (pt.run _ s3 σ3 H3 _ I3 q3) (fun b s4 ⟨H4, I4, q4⟩ => ?_) fun _ _ z => z
  have close : ∀ {s' : Shared} {H' : Hp}, Inv (blkH X s0 H0 scope ce fp) ([] ++ pinsAt fp s2.heap) σ3 H' s' → Nx H' → Z s' := by
    intro s' H' I' nx
    have kept : ∀ b ∈ fp, ∀ o, s2.heap.get? b = some o → s'.heap.get? b = some o ∧ H' b = none := fun b hb o e => by
      obtain ⟨k1, k2, _⟩ := I'.pin (b, o) (List.mem_append_right _ (List.mem_append_right _ (mem_pinsAt hb e)))
      exact ⟨k1, k2⟩
    refine more H' s' ⟨(I'.unpinned (pins := [])).weak (by rw [← hw, wipe_length]) (fun j v e => ?_), T.keep _ _ _ st2 fun b hb o e => (kept b hb o e).1, fun b hb => ?_⟩ nx
    · rw [← hw] at e
      exact (wipe_some e).1
    · obtain ⟨o, e, _⟩ := T.obj _ _ st2 b hb
      exact (kept b hb o e).2
  cases b with
  | false => exact close I4 q4
  | true =>
    refine wpAny_mono (pe.run _ s4 σ3 H4 _ I4 q4) (fun z s5 ⟨yv, H5, I5, r5, acc, hD, hz, nx⟩ => ?_) fun _ _ z => z
    exact app_ok (X := blkH X s0 H0 scope ce fp) I5 hD hz r5 fun s6 I6 => close I6 nx
end
/-- the comprehension as a value -/
theorem pe_lcH {X : Cx} {elt tg iter : Expr} {ifs : List Expr} {scope : Scope} {own : List (Str × Nat)} {pos : Pos} {wi : TI} {g : TG} {tt : TT} {te : TE} (hc : HotC X) (hN : X.N.Nodup) (hi : PIH X tg iter wi) (ok : BlkOk X.N X.env.scope scope own)
    (hg : ∀ (s : Shared) (H : Hp) (C : Addr) (cl : List (Str × Addr)) (fp : List Addr), PG (blkH X s H scope (compEnvC scope cl C X.env) fp) tg g)
    (ht : ∀ (s : Shared) (H : Hp) (C : Addr) (cl : List (Str × Addr)) (fp : List Addr), PTs (blkH X s H scope (compEnvC scope cl C X.env) fp) ifs tt)
    (he : ∀ (s : Shared) (H : Hp) (C : Addr) (cl : List (Str × Addr)) (fp : List Addr), PE (blkH X s H scope (compEnvC scope cl C X.env) fp) elt te)
    (hs : ∀ x, foldedSetIterable iter X.env x = pure x) : PE X (.ListComp elt [⟨tg, iter, ifs, 0⟩] scope pos) (tLc wi g tt te (own.map (·.2))) := by
  refine ⟨fun pins s σ H Q I h => ?_⟩
  rw [eval_ListComp]
  have cells : ∀ y ∈ scope.names, y.2 = .free → ∃ c, X.env.cells.lookup y.1 = some c := fun y hy e => (ok.free y hy e).elim (fun k => I.ok.has _ (.inl k)) fun k => I.ok.has _ (.inr k)
  refine wpAny_comprehension_free (use := none) rfl hs (closure_ok cells) ok.kind (fun y hy e => by rw [ok.uniq y hy, e]) ?_
  refine wpAny_mono (hi.run pins s σ H _ I h) (fun _ s1 h1 => wpAny_mono h1 (fun itv s2 h2 => ?_) fun _ _ z => z) fun _ _ z => z
  obtain ⟨it, fp, tn, J, H2, rfl, I2, T, st2, f2, q⟩ := h2
  have far : ∀ b ∈ fp, ∀ p ∈ X.pn, p.1 ≠ b := fun b hb p hp => (f2 b hb).2.2.2.2.2 p (List.mem_append_left _ hp)
  -- the new list, at the heap's end
  refine wpAny_newObj_type (newEnv_comp ?_) (by show 0 ≤ sizeLine; decide)
  generalize hD : s2.heap.objs.size = D
  have free : H2 D = none := I2.hok.fresh (Nat.le_of_eq hD)
  obtain ⟨W, ⟨m0, w0⟩, turn⟩ := q D free
  generalize hs3 : ({ s2 with heap := s2.heap.push { cls := .type "list", data := .seq ([] : List Value).toArray } } : Shared) = s3
  have heap3 : s3.heap = s2.heap.push { cls := .type "list", data := .seq ([] : List Value).toArray } := by rw [← hs3]
  have I3 : Inv X pins σ (upd H2 D (.lst [])) s3 := by
    rw [← hs3]
    exact I2.laid (t' := s2.toks) (fun b o e => Heap.get?_push_of_some _ e) (Nat.le_of_eq hD) ⟨Nat.zero_le _, [], 0, .nil, by rw [← hD]; exact Heap.get?_push_size _ rfl⟩
  have fok : ∀ b ∈ fp, FpOk X pins (upd H2 D (.lst [])) b ∧ b < s3.heap.objs.size := fun b hb => by
    obtain ⟨o, e, _⟩ := T.obj _ _ st2 b hb
    have lt := Heap.lt_size e
    refine ⟨⟨?_, (f2 b hb).2⟩, by rw [heap3, Heap.size_push]; exact Nat.lt_succ_of_lt lt⟩
    rw [upd_ne (by rw [← hD]; exact Nat.ne_of_lt lt)]
    exact (f2 b hb).1
  have st3 : tn 0 s3.heap := T.keep _ _ _ st2 fun b _ o e => by rw [heap3]; exact Heap.get?_push_of_some _ e
  generalize hH3 : upd H2 D (.lst []) = H3 at I3 fok w0
  have begun := block_start I3 ok hN fok
  have nsz : ∀ p ∈ X.pn, p.1 ≠ s3.heap.objs.size := fun p hp z => by
    have lt := Heap.lt_size (I3.pin p (List.mem_append_left _ hp)).1
    rw [z] at lt
    exact Nat.lt_irrefl _ lt
  have I4 := blkH_of begun fun p hp => by
    obtain ⟨g1, g2, _, _, g5⟩ := I3.pin p (List.mem_append_left _ hp)
    exact ⟨pushCells_keeps _ _ _ _ (Heap.get?_push_of_some _ g1), g2, nsz p hp, pin_far I3 hp, g5⟩
  have PG' := hg s3 H3 s3.heap.objs.size (cellsFrom (s3.heap.objs.size + 1) scope.names (cloFrom X.env.cells scope.names [])) fp
  have PT' := ht s3 H3 s3.heap.objs.size (cellsFrom (s3.heap.objs.size + 1) scope.names (cloFrom X.env.cells scope.names [])) fp
  have PE' := he s3 H3 s3.heap.objs.size (cellsFrom (s3.heap.objs.size + 1) scope.names (cloFrom X.env.cells scope.names [])) fp
  show codeAny _ _ (.compStart (.ListComp elt [⟨tg, iter, ifs, 0⟩] scope pos) 0 (.ref it) (.ref D) (compEnvC scope (cellsFrom (s3.heap.objs.size + 1) scope.names (cloFrom X.env.cells scope.names [])) s3.heap.objs.size X.env)) (compPost (model X.prog X.w) X.A X.xe none _ (.ref D) s3.heap.objs.size) { s3 with heap := pushCells (s3.heap.push { cls := .type "dict", data := .dict #[] }) scope.names }
  generalize hce : compEnvC scope (cellsFrom (s3.heap.objs.size + 1) scope.names (cloFrom X.env.cells scope.names [])) s3.heap.objs.size X.env = ce at I4 PG' PT' PE' ⊢
  generalize hs4 : ({ s3 with heap := pushCells (s3.heap.push { cls := .type "dict", data := .dict #[] }) scope.names } : Shared) = s4 at I4 ⊢
  have loc : ce.locals = s3.heap.objs.size := by rw [← hce]; rfl
  have st4 : tn 0 s4.heap := T.keep _ _ _ st3 fun b _ o e => by rw [← hs4]; exact pushCells_keeps _ _ _ _ (Heap.get?_push_of_some _ e)
  have loop : codeAny (model X.prog X.w) X.A (.compLoop (.ListComp elt [⟨tg, iter, ifs, 0⟩] scope pos) 0 (.ref it) (.ref D) ce) (compPost (model X.prog X.w) X.A X.xe none (EP X pins σ Q) (.ref D) s3.heap.objs.size) s4 := by
    refine compLoop_any (fun n s' => ∃ i H', At X s3 H3 scope ce fp tn (L2.wipe σ (own.map (·.2))) i H' s' ∧ W i n H') ?_ m0 ⟨0, H3, ⟨I4, st4, fun b hb => (fok b hb).1.1⟩, w0⟩
    rintro n s5 ⟨i, H5, a5, w5⟩
    rcases turn i n H5 w5 with ⟨stop, qq⟩ | ⟨go, Nx, hNx, step⟩
    · refine wpAny_mono (hot_done hc T far a5 stop) (fun r s6 ⟨hr, I6⟩ => ?_) fun _ _ z => z.elim
      subst hr
      have nC : H5 s3.heap.objs.size = none := by rw [← loc]; exact I6.free
      have back : Inv X pins σ H5 s6 := I3.call' (ch := fp) I6.os I6.base I6.hok I6.bare fun b hb => by
        obtain ⟨_, f1, f2', f3, f4, f5⟩ := (fok b hb).1
        exact ⟨f3, f1, f4, f5⟩
      obtain ⟨mm, hn, _⟩ := I6.loc
      have hn' : s6.heap.Ns s3.heap.objs.size mm := by rw [← loc]; exact hn
      obtain ⟨f0, f1, f2', f3, f4, f5⟩ := I3.fpOk (Nat.le_refl _) nC
      exact ⟨mm, hn', fun h'' sb => ⟨.ref D, H5, back.turned (t' := s6.toks) (fun b o hb e => (sb.2 b hb).trans e) f0 f1 f3 f4 f5, rfl, qq⟩⟩
    · refine wpAny_mono (hot_turn (σ := σ) (vs := own.map (·.2)) (Z := fun s' => ∃ m, m < n ∧ ∃ i H', At X s3 H3 scope ce fp tn (L2.wipe σ (own.map (·.2))) i H' s' ∧ W i m H') hc T far PG' PT' PE' a5 go step fun H' s' a' nx => ?_) (fun r s6 ⟨u, hr, h6⟩ => ?_) fun _ _ z => z.elim
      · obtain ⟨m', hm, w'⟩ := hNx H' nx
        exact ⟨m', hm, i + 1, H', a', w'⟩
      · subst hr
        refine wpAny_mono h6 (fun _ s7 h7 => wpAny_mono h7 (fun _ s8 h8 => wpAny_mono h8 (fun b s9 h9 => ?_) fun _ _ z => z.elim) fun _ _ z => z.elim) fun _ _ z => z.elim
        cases b with
        | false => exact h9
        | true => exact wpAny_mono h9 (fun _ s10 h10 => wpAny_mono h10 (fun _ _ z => z) fun _ _ z => z.elim) fun _ _ z => z.elim
  exact codeAny_compStart_list loop (T.self X.A 0 _ _ _ st4 loop)
end PV
end

section
set_option maxHeartbeats 2000000
/-! Targets; what a loop walks. -/
namespace PV
open PySem PySem.Spec L2
open PyProof.Rows hiding St

/-! ### targets -/
def bindZ : List D → M Unit := fun xs => match xs with
  | [] => pure ()
  | _ :: _ => stk
def bindC (g : D → M Unit) (r : List D → M Unit) : List D → M Unit := fun xs => match xs with
  | [] => stk
  | x :: xs => bnd (g x) fun _ => r xs
def bindX (r : List D → M Unit) : D → M Unit := fun d => match d with
  | .tup xs => r xs
  | _ => stk
def bindL (f : Expr → D → M Unit) : List Expr → List D → M Unit
  | [] => bindZ
  | e :: es => bindC (f e) (bindL f es)
/-- a name, or a tuple of targets; only slots that ok allows -/
def bindN : Nat → C → (Nat → Bool) → Expr → D → M Unit
  | 0 => fun _ _ _ _ => stk
  | n + 1 => fun c ok e => match e with
    | .Name y _ => (match c.tgt y with
      | some i => (match ok i with
        | true => fun x => st i x false
        | false => fun _ => stk)
      | none => fun _ => stk)
    | .Tuple es _ _ => (match okCall es with
      | true => bindX (bindL (bindN n c ok) es)
      | false => fun _ => stk)
    | _ => fun _ => stk

/-! ### what a loop walks -/
inductive Src where
  | li (p : Op) | rg (lo step : Int) (n : Nat) | sr (x : Str) | zp (p q : Op) | en (p : Op) | rv (p : Op) (n : Nat)
def opL (ρ : Evm) : Op → Option (List D)
  | .pl i => (match look ρ i with
    | some (.lst xs) => some xs
    | _ => none)
  | .vl (.lst xs) => some xs
  | .vl (.scr xs) => some xs
  | _ => none
def opT : Op → Option (List D)
  | .vl (.tup xs) => some xs
  | _ => none
def pairAt (xs ys : List D) (i : Nat) : Option D := match xs[i]?, ys[i]? with
  | some x, some y => some (.tup [x, y])
  | _, _ => none
def revAt (xs : List D) (n i : Nat) : Option (Option D) := match decide (i < n) with
  | true => (match xs[n - 1 - i]? with
    | some x => some (some x)
    | none => none)
  | false => some none
/-- what it yields at turn i (none: it is at its end) -/
def srcAt (ρ : Evm) (s : Src) (i : Nat) : Option (Option D) := match s with
  | .li p => (match opT p with
    | some xs => some xs[i]?
    | none => (match opL ρ p with
      | some xs => some xs[i]?
      | none => none))
  | .rg lo step n => (match decide (i < n) with
    | true => some (some (.int (lo + (i : Int) * step)))
    | false => some none)
  | .sr x => some (x.cps[i]?.map fun c => .str ⟨#[c]⟩)
  | .zp p q => (match opT p, opT q with
    | some xs, some ys => some (pairAt xs ys i)
    | none, none => (match opL ρ p, opL ρ q with
      | some xs, some ys => some (pairAt xs ys i)
      | _, _ => none)
    | _, _ => none)
  | .en p => (match opT p with
    | some xs => some (xs[i]?.map fun x => .tup [.int (i : Int), x])
    | none => (match opL ρ p with
      | some xs => some (xs[i]?.map fun x => .tup [.int (i : Int), x])
      | none => none))
  | .rv p n => (match opT p with
    | some xs => revAt xs n i
    | none => (match opL ρ p with
      | some xs => revAt xs n i
      | none => none))
def opPl : Op → List Nat
  | .pl i => [i]
  | .vl _ => []
/-- the places that are walked -/
def Src.pl : Src → List Nat
  | .li p => opPl p
  | .rg _ _ _ => []
  | .sr _ => []
  | .zp p q => opPl p ++ opPl q
  | .en p => opPl p
  | .rv p _ => opPl p
def notSet : Expr → Bool
  | .Set _ _ _ => false
  | _ => true
def isTup : Expr → Bool
  | .Tuple _ _ _ => true
  | _ => false
def okRg (j : Int) : Bool := decide (-(2 ^ 62) ≤ j) && decide (j < 2 ^ 62)
def C.bi (c : C) (x : Str) : Bool := match c.nm x with
  | .glob => c.g.free.contains x
  | _ => false
section
variable (o : Ops)
def srcLi (p : Op) : M Src := fun ρ => match opT p with
  | some _ => .ok (.li p) ρ
  | none => (match opL ρ p with
    | some _ => .ok (.li p) ρ
    | none => (match p with
      | .vl (.str x) => .ok (.sr x) ρ
      | _ => .stk))
def srcAny (c : C) (e : Expr) : M Src := match notSet e with
  | true => bnd (o.opn c e) srcLi
  | false => stk
/-- within an except suite: lists only -/
def srcLst (p : Op) : M Src := match opT p with
  | some _ => stk
  | none => fun ρ => (match opL ρ p with
    | some _ => .ok (.li p) ρ
    | none => .stk)
def srcH (c : C) (e : Expr) : M Src := match notSet e with
  | true => bnd (o.opn c e) srcLst
  | false => stk
def srcZp (p q : Op) : M Src := fun ρ => match opT p, opT q with
  | some _, some _ => .ok (.zp p q) ρ
  | none, none => (match opL ρ p, opL ρ q with
    | some _, some _ => .ok (.zp p q) ρ
    | _, _ => .stk)
  | _, _ => .stk
def srcEn (p : Op) : M Src := fun ρ => match opT p with
  | some _ => .ok (.en p) ρ
  | none => (match opL ρ p with
    | some _ => .ok (.en p) ρ
    | none => .stk)
def srcRv (p : Op) : M Src := fun ρ => match opT p with
  | some xs => .ok (.rv p xs.length) ρ
  | none => (match opL ρ p with
    | some xs => .ok (.rv p xs.length) ρ
    | none => .stk)
/-- range(..) as an argument: its bounds -/
def evRg (c : C) (e : Expr) : M (Int × Int) := match e with
  | .Call (.Name x _) [a] [] _ => (match decide (x = ("range" : Str)) && (c.bi x && notStar a) with
    | true => bnd (o.ev c a) fun r => (match r.1 with
      | .int j => (match okRg j with
        | true => pure (0, j)
        | false => stk)
      | _ => stk)
    | false => stk)
  | .Call (.Name x _) [a, b] [] _ => (match decide (x = ("range" : Str)) && (c.bi x && (notStar a && notStar b)) with
    | true => bnd (o.ev c a) fun r => bnd (o.ev c b) fun r' => (match r.1, r'.1 with
      | .int i, .int j => (match okRg i && okRg j with
        | true => pure (i, j)
        | false => stk)
      | _, _ => stk)
    | false => stk)
  | _ => stk
def isRg (c : C) (e : Expr) : Bool := match e with
  | .Call (.Name x _) _ [] _ => decide (x = ("range" : Str)) && c.bi x
  | _ => false
/-- an expression that is walked (tup: into a tuple of targets) -/
def evSrc (c : C) (tup : Bool) (e : Expr) : M Src := match e with
  | .Call (.Name x _) [a] [] _ => (match c.bi x && notStar a with
    | false => srcAny o c e
    | true => (match decide (x = ("range" : Str)) with
      | true => bnd (o.args c [a]) fun xs => (match xs with
        | [.int j] => (match okRg j with
          | true => pure (.rg 0 1 j.toNat)
          | false => stk)
        | _ => stk)
      | false => (match decide (x = ("enumerate" : Str)), tup with
        | true, true => bnd (o.opns c [a]) fun ps => (match ps with
          | [p] => srcEn p
          | _ => stk)
        | true, false => stk
        | false, _ => (match decide (x = ("reversed" : Str)), isRg c a with
          | true, true => bnd (evRg o c a) fun r => (match okRg r.1 && okRg r.2 with
            | true => pure (.rg (r.1 + (((r.2 - r.1).toNat : Nat) : Int) - 1) (-1) (r.2 - r.1).toNat)
            | false => stk)
          | true, false => bnd (o.opn c a) srcRv
          | false, _ => srcAny o c e))))
  | .Call (.Name x _) [a, b] [] _ => (match c.bi x && (notStar a && notStar b) with
    | false => srcAny o c e
    | true => (match decide (x = ("range" : Str)) with
      | true => bnd (o.args c [a, b]) fun xs => (match xs with
        | [.int i, .int j] => (match okRg i && okRg j with
          | true => pure (.rg i 1 (j - i).toNat)
          | false => stk)
        | _ => stk)
      | false => (match decide (x = ("zip" : Str)), tup with
        | true, true => bnd (o.opns c [a, b]) fun ps => (match ps with
          | [p, q] => srcZp p q
          | _ => stk)
        | true, false => stk
        | false, _ => srcAny o c e)))
  | .Call (.Name x _) [a, b, d] [] _ => (match c.bi x && (notStar a && (notStar b && notStar d)) with
    | false => srcAny o c e
    | true => (match decide (x = ("range" : Str)) with
      | true => bnd (o.args c [a, b, d]) fun xs => (match xs with
        | [.int i, .int j, .int k] => (match decide (k ≠ 0) && (decide (k.natAbs < 1073741824) && Builtin.Range.small i j k) with
          | true => pure (.rg i k (Builtin.Range.rangeSize i j k).toNat)
          | false => stk)
        | _ => stk)
      | false => srcAny o c e))
  | e => srcAny o c e
end

/-! ### storing -/
def Chg (ok : Nat → Bool) (σ σ' : L2.St) : Prop := σ'.length = σ.length ∧ ∀ j, ok j = false → σ'[j]? = σ[j]?
theorem Chg.refl (ok : Nat → Bool) (σ : L2.St) : Chg ok σ σ := ⟨rfl, fun _ _ => rfl⟩
theorem Chg.trans {ok : Nat → Bool} {σ σ1 σ2 : L2.St} (a : Chg ok σ σ1) (b : Chg ok σ1 σ2) : Chg ok σ σ2 := ⟨b.1.trans a.1, fun j h => (b.2 j h).trans (a.2 j h)⟩
section
variable {Z : Zt} {F F' : Fz} {H H' : Hp} {ρ ρ' : Evm} {σ : L2.St}
def stS (x : D) (u : Bool) : Sl := if u then .o x else .d x
theorem Rl.store (R : Rl Z F ρ σ H) {i : Nat} {s : Sl} {v : V} {x : D} {u : Bool} (hs : ρ[i]? = some s) (hp : s.pin = false) (rr : RR Z F H ρ σ v (x, u)) : Rl Z F (ρ.set i (stS x u)) (σ.set i (some v)) H := by
  have hi : i < ρ.length := (List.getElem?_eq_some_iff.mp hs).1
  have hi' : i < σ.length := by rw [← R.len]; exact hi
  have so : SlOk Z F H (stS x u) (some v) := by
    cases u with
    | false => exact ⟨v, rfl, rr⟩
    | true =>
      obtain ⟨a, e, ow, nf, b, _⟩ : Uq Z F H ρ σ v x := rr
      subst e
      exact ⟨a, rfl, ow, nf, b⟩
  have fresh : ∀ (j : Nat) t a, (stS x u).own = true → v = .ref a → ρ[j]? = some t → t.own = true → σ[j]? ≠ some (some (.ref a)) := by
    intro j t a ho e h1 h2 h3
    cases u with
    | false => cases ho
    | true =>
      obtain ⟨a', e', ow, nf, b, hs', _⟩ : Uq Z F H ρ σ v x := rr
      rw [e] at e'
      cases e'
      exact hs' j t h1 h2 h3
  refine ⟨by simpa using R.len, fun j t w h1 h2 => ?_, fun j k t t' a h1 h2 h3 h4 h5 h6 => ?_, fun p hpm => ?_, R.old, R.dom, R.live, fun p hpm => ?_, R.tab, R.stp0, R.hb, R.nfz, R.wn⟩
  · by_cases hj : j = i
    · subst hj
      rw [List.getElem?_set_self hi] at h1
      rw [List.getElem?_set_self hi'] at h2
      cases h1; cases h2
      exact so
    · rw [List.getElem?_set_ne (Ne.symm hj)] at h1 h2
      exact R.sl j t w h1 h2
  · by_cases hj : j = i
    · subst hj
      rw [List.getElem?_set_self hi] at h1
      rw [List.getElem?_set_self hi'] at h5
      cases h1
      have ev : v = .ref a := by cases h5; rfl
      by_cases hk : k = j
      · exact hk.symm
      · rw [List.getElem?_set_ne (Ne.symm hk)] at h2 h6
        exact (fresh k t' a h3 ev h2 h4 h6).elim
    · rw [List.getElem?_set_ne (Ne.symm hj)] at h1 h5
      by_cases hk : k = i
      · subst hk
        rw [List.getElem?_set_self hi] at h2
        rw [List.getElem?_set_self hi'] at h6
        cases h2
        have ev : v = .ref a := by cases h6; rfl
        exact (fresh j t a h4 ev h1 h3 h5).elim
      · rw [List.getElem?_set_ne (Ne.symm hk)] at h2 h6
        exact R.sep j k t t' a h1 h2 h3 h4 h5 h6
  · obtain ⟨⟨t, ht, hpn⟩, hv⟩ := R.pin p hpm
    have hj : p.1 ≠ i := fun z => by rw [z, hs] at ht; cases ht; rw [hp] at hpn; cases hpn
    rw [List.getElem?_set_ne (Ne.symm hj), List.getElem?_set_ne (Ne.symm hj)]
    exact ⟨⟨t, ht, hpn⟩, hv⟩
  · obtain ⟨k1, k2, k3, k4⟩ := R.kept p hpm
    refine ⟨k1, k2, k3, fun j t h1 h2 h3 => ?_⟩
    by_cases hj : j = i
    · subst hj
      rw [List.getElem?_set_self hi] at h1
      rw [List.getElem?_set_self hi'] at h3
      cases h1
      have ev : v = .ref p.1 := by cases h3; rfl
      cases u with
      | false => cases h2
      | true =>
        obtain ⟨a', e', _, _, _, _, ht⟩ : Uq Z F H ρ σ v x := rr
        rw [ev] at e'
        cases e'
        exact ht p hpm rfl
    · rw [List.getElem?_set_ne (Ne.symm hj)] at h1 h3
      exact k4 j t h1 h2 h3
theorem st_at {i : Nat} {x : D} {u : Bool} {a : Unit} (h : st i x u ρ = .ok a ρ') : (∃ s, ρ[i]? = some s ∧ s.pin = false) ∧ ρ' = ρ.set i (stS x u) := by
  unfold st at h
  split at h
  · rename_i e; cases h; exact ⟨⟨_, e, rfl⟩, rfl⟩
  · rename_i e; cases h; exact ⟨⟨_, e, rfl⟩, rfl⟩
  · rename_i e; cases h; exact ⟨⟨_, e, rfl⟩, rfl⟩
  · cases h
theorem st_no {i : Nat} {x : D} {u : Bool} {e : EV} (h : st i x u ρ = .exc e ρ') : False := by
  unfold st at h
  split at h <;> cases h
end
/-- a target's reading -/
def tBnd (Z : Zt) (ok : Nat → Bool) (f : D → M Unit) : TG := fun v σ H Q => ∃ F ρ x, Rl Z F ρ σ H ∧ Rep Z.K Z.mg F H v x ∧ match f x ρ with
  | .ok _ ρ' => ∀ σ', Rl Z F ρ' σ' H → Chg ok σ σ' → Q σ' H
  | .exc _ _ => False
  | .stk => False
def tBnds (Z : Zt) (ok : Nat → Bool) (f : List D → M Unit) : TGs := fun vs σ H Q => ∃ F ρ xs, Rl Z F ρ σ H ∧ Reps Z.K Z.mg F H vs xs ∧ match f xs ρ with
  | .ok _ ρ' => ∀ σ', Rl Z F ρ' σ' H → Chg ok σ σ' → Q σ' H
  | .exc _ _ => False
  | .stk => False
theorem PG.imp {X : Cx} {e : Expr} {t u : TG} (h : PG X e t) (w : ∀ v σ H Q, u v σ H Q → t v σ H Q) : PG X e u := ⟨fun pins s σ H v x Q I r q => h.run pins s σ H v x Q I r (w v σ H Q q)⟩
theorem PGs.imp {X : Cx} {e : List Expr} {t u : TGs} (h : PGs X e t) (w : ∀ v σ H Q, u v σ H Q → t v σ H Q) : PGs X e u := ⟨fun pins s σ H v x Q I r q => h.run pins s σ H v x Q I r (w v σ H Q q)⟩
theorem bindL_len {f : Expr → D → M Unit} : ∀ {es : List Expr} {xs : List D} {ρ ρ' : Evm} {a : Unit}, bindL f es xs ρ = .ok a ρ' → es.length = xs.length
  | [], [], _, _, _, _ => rfl
  | e :: es, x :: xs, ρ, ρ', a, h => by
    change bnd (f e x) (fun _ => bindL f es xs) ρ = _ at h
    unfold bnd at h
    split at h
    · simp [bindL_len h]
    · cases h
    · cases h
  | [], _ :: _, _, _, _, h => by cases h
  | _ :: _, [], _, _, _, h => by cases h
theorem asg_cons {e : Expr} {es : List Expr} {env : Env} (h : notStar e = true) : assignEach (e :: es) env = (false, assign e env) :: assignEach es env := by
  cases e <;> first | rfl | cases h
theorem ok_cons {e : Expr} {es : List Expr} (h : okCall (e :: es) = true) : notStar e = true ∧ okCall es = true := by
  cases e <;> first | exact ⟨rfl, h⟩ | cases h
theorem asg_len {env : Env} : ∀ {es : List Expr}, okCall es = true → (assignEach es env).length = es.length
  | [], _ => rfl
  | e :: es, h => by
    obtain ⟨h1, h2⟩ := ok_cons h
    rw [asg_cons h1, List.length_cons, List.length_cons, asg_len h2]
theorem asg_star {env : Env} : ∀ {es : List Expr}, okCall es = true → (assignEach es env).findIdx? (·.1) = none
  | [], _ => rfl
  | e :: es, h => by
    obtain ⟨h1, h2⟩ := ok_cons h
    rw [asg_cons h1, List.findIdx?_cons, asg_star h2]
    rfl
section
variable {X : Cx} {c : C} {W : WX} {B : Hp} {W0 : Zx} {L : List (Nat × Addr)} {T : List (Addr × D)} {o : Ops}
theorem tgt_at {x : Str} {i : Nat} (h : c.tgt x = some i) : c.N[i]? = some x ∧ Loc c.sc x := by
  unfold C.tgt at h
  split at h
  · rename_i e; exact ⟨slot_at h, .inl e⟩
  · rename_i e
    split at h
    · exact ⟨slot_at h, .inr e⟩
    · cases h
  · cases h
theorem ok_bindL (u : UC X c W W0) {ok : Nat → Bool} {f : Expr → D → M Unit} (hf : ∀ e, PG X e (tBnd (zt X B W0 L T) ok (f e))) : ∀ (es : List Expr), okCall es = true → PGs X es (tBnds (zt X B W0 L T) ok (bindL f es))
  | [], _ => PGs.imp pgs_nil fun v σ H Q ⟨F, ρ, xs, R, rs, h⟩ => by
    cases xs with
    | nil => cases rs; exact ⟨rfl, h σ R (.refl _ _)⟩
    | cons x xs => exact h.elim
  | e :: es, hk => by
    obtain ⟨h1, h2⟩ := ok_cons hk
    refine PGs.imp (pgs_cons (hf e) (ok_bindL u hf es h2) (by rw [asg_cons h1] <;> rfl)) fun vs σ H Q ⟨F, ρ, xs, R, rs, h⟩ => ?_
    cases xs with
    | nil => exact h.elim
    | cons x xs =>
      cases rs with
      | cons r1 r2 =>
        refine ⟨_, _, rfl, F, ρ, x, R, r1, ?_⟩
        rw [show bindL f (e :: es) (x :: xs) = bnd (f e x) (fun _ => bindL f es xs) from rfl] at h
        unfold bnd at h
        cases e1 : f e x ρ with
        | ok a ρ1 =>
          rw [e1] at h
          dsimp only at h
          exact fun σ1 R1 c1 => ⟨F, ρ1, xs, R1, r2, by
            cases e2 : bindL f es xs ρ1 with
            | ok b ρ2 =>
              rw [e2] at h
              exact fun σ2 R2 c2 => h σ2 R2 (c1.trans c2)
            | exc ex ρ2 => rw [e2] at h; exact h
            | stk => rw [e2] at h; exact h⟩
        | exc ex ρ1 => rw [e1] at h; exact h
        | stk => rw [e1] at h; exact h
theorem pg_stk {e : Expr} {Z : Zt} {ok : Nat → Bool} : PG X e (tBnd Z ok fun _ => stk) := ⟨fun pins s σ H v x Q I r ⟨F, ρ, y, R, rp, h⟩ => h.elim⟩
theorem pg_tupX {es : List Expr} {k : Nat} {t : TGs} {n : Nat} {pos : Pos} (hc : X.calm = true ∨ L2H.HotC X) (h : PGs X es t) (hn : (assignEach es X.env).length = n) (hst : (assignEach es X.env).findIdx? (·.1) = none) : PG X (.Tuple es k pos) (gTup X.K n t) :=
  hc.elim (fun h1 => pg_tup h1 h hn hst) fun h1 => pg_tupH h1 h hn hst
theorem ok_bindN (hc : X.calm = true ∨ L2H.HotC X) (u : UC X c W W0) (ok : Nat → Bool) : ∀ (n : Nat) (e : Expr), PG X e (tBnd (zt X B W0 L T) ok (bindN n c ok e))
  | 0, e => ⟨fun pins s σ H v x Q I r ⟨F, ρ, y, R, rp, h⟩ => h.elim⟩
  | n + 1, e => by
    cases e with
    | Name y p =>
      cases ht : c.tgt y with
      | none => exact ⟨fun pins s σ H v x Q I r ⟨F, ρ, y, R, rp, h⟩ => by simp only [bindN, ht] at h; exact h.elim⟩
      | some i =>
        cases hk : ok i with
        | false => exact ⟨fun pins s σ H v x Q I r ⟨F, ρ, y, R, rp, h⟩ => by simp only [bindN, ht, hk] at h; exact h.elim⟩
        | true =>
          obtain ⟨hN, hl⟩ := tgt_at ht
          refine PG.imp (pg_name (i := i) u.nd (by rw [u.N]; exact hN) (by rw [u.sc]; exact hl) (u.fn y i ht)) fun v σ H Q ⟨F, ρ, x, R, rp, h⟩ => ?_
          simp only [bindN, ht, hk] at h
          cases e1 : st i x false ρ with
          | ok a ρ1 =>
            rw [e1] at h
            obtain ⟨⟨s, hs, hp⟩, rfl⟩ := st_at e1
            refine h _ (R.store hs hp (rr_rep rp)) ⟨by simp, fun j hj => ?_⟩
            rw [List.getElem?_set_ne fun z => by rw [z, hj] at hk; cases hk]
          | exc ex ρ1 => rw [e1] at h; exact h.elim
          | stk => rw [e1] at h; exact h.elim
    | Tuple es k p =>
      cases hk : okCall es with
      | false => exact ⟨fun pins s σ H v x Q I r ⟨F, ρ, y, R, rp, h⟩ => by
          simp only [bindN, hk] at h; exact h.elim⟩
      | true =>
        refine PG.imp (pg_tupX (n := es.length) hc (ok_bindL (B := B) (W0 := W0) (L := L) (T := T) u (ok := ok) (fun e => ok_bindN hc u ok n e) es hk) (asg_len hk) (asg_star hk)) fun v σ H Q ⟨F, ρ, x, R, rp, h⟩ => ?_
        cases x with
        | tup xs =>
          cases rp with
          | tup h1 h2 =>
            simp only [bindN, hk, bindX] at h
            refine ⟨_, _, rfl, h1.1, ?_, F, ρ, xs, R, h2, h⟩
            cases e2 : bindL (bindN n c ok) es xs ρ with
            | ok a ρ1 => rw [h2.length, ← bindL_len e2]
            | exc ex ρ1 => rw [e2] at h; exact h.elim
            | stk => rw [e2] at h; exact h.elim
        | _ => simp only [bindN, hk, bindX] at h; exact h.elim
    | _ => exact ⟨fun pins s σ H v x Q I r ⟨F, ρ, y, R, rp, h⟩ => h.elim⟩

/-! ### what a loop walks: its reading -/
/-- a list, a tuple at a -/
def LAt (Z : Zt) (F : Fz) (H : Hp) (a : Addr) (ds : List D) : Prop := ∃ vs, SqL Z.K H a vs ∧ Reps Z.K Z.mg F H vs ds
def TAt (Z : Zt) (F : Fz) (H : Hp) (a : Addr) (ds : List D) : Prop := ∃ vs, SqT Z.K H a vs ∧ Reps Z.K Z.mg F H vs ds
/-- later on, with these places held -/
structure Later (Z : Zt) (F : Fz) (H : Hp) (as : List (Nat × Addr)) (Z' : Zt) (F' : Fz) (H' : Hp) (ρ' : Evm) (σ' : L2.St) : Prop where
  K : Z'.K = Z.K
  mg : Z'.mg = Z.mg
  stp : Stp F H F' H'
  rl : Rl Z' F' ρ' σ' H'
  pin : ∀ p ∈ as, p ∈ Z'.L
structure SrcOk (Z : Zt) (F : Fz) (H : Hp) (J : It) (s : Src) (as : List (Nat × Addr)) : Prop where
  at_ : ∀ {Z' F' H' ρ' σ'} (i : Nat), Later Z F H as Z' F' H' ρ' σ' → (srcAt ρ' s i = some none → J.stop i H') ∧
    ∀ d, srcAt ρ' s i = some (some d) → J.go i H' ∧ ∀ x H2, J.yld i H' x H2 → ∃ F2, Stp F' H' F2 H2 ∧ Rl Z' F2 ρ' σ' H2 ∧ Rep Z.K Z.mg F2 H2 x d
def SrcR (Z : Zt) (F : Fz) (H : Hp) (_ : Evm) (σ : L2.St) (J : It) (s : Src) : Prop :=
  ∃ as : List (Nat × Addr), as.map (·.1) = s.pl ∧ (∀ p ∈ as, σ[p.1]? = some (some (.ref p.2))) ∧ SrcOk Z F H J s as
/-- what an operand that is a list is, then and later -/
theorem opL_at {Z : Zt} {F : Fz} {ρ : Evm} {σ : L2.St} {H : Hp} {p : Op} {v : V} {xs : List D} (R : Rl Z F ρ σ H) (r : OpR' Z F H ρ σ v p) (e : opL ρ p = some xs) : ∃ a as, v = .ref a ∧ as.map (·.1) = opPl p ∧ (∀ p ∈ as, σ[p.1]? = some (some (.ref p.2))) ∧
    (LAt Z F H a xs) ∧ ∀ {Z' F' H' ρ' σ'}, Later Z F H as Z' F' H' ρ' σ' → ∀ ds, opL ρ' p = some ds → LAt Z F' H' a ds := by
  have key : ∀ {Z : Zt} {F : Fz} {H : Hp} {a : Addr} {xs : List D}, Pk Z F H (.ref a) (.lst xs) → LAt Z F H a xs := by
    intro Z F H a xs pk
    obtain ⟨a', vs, e, h1, h2⟩ := pk.lst
    cases e
    exact ⟨vs, SqL.of h1, h2⟩
  cases p with
  | pl i =>
    simp only [opL] at e
    split at e
    · rename_i ys el
      cases e
      obtain ⟨v', hv, pk⟩ := R.look el
      have hv2 : σ[i]? = some (some v) := r
      rw [hv2] at hv
      cases hv
      obtain ⟨a, vs, e, h1, h2⟩ := id pk.lst
      subst e
      refine ⟨a, [(i, a)], rfl, rfl, fun p hp => ?_, key pk, fun {Z' F' H' ρ' σ'} l ds e2 => ?_⟩
      · have : p = (i, a) := by simpa using hp
        subst this
        exact hv2
      · simp only [opL] at e2
        split at e2
        · rename_i zs el2
          cases e2
          obtain ⟨v2, hv3, pk2⟩ := l.rl.look el2
          have hp := (l.rl.pin (i, a) (.inl (l.pin (i, a) (by simp)))).2
          dsimp only at hp
          rw [hp] at hv3
          cases hv3
          have := key pk2
          unfold LAt at this ⊢
          rw [l.K, l.mg] at this
          exact this
        · cases e2
    · cases e
  | vl x =>
    have r' : Rep Z.K Z.mg F H v x := r
    cases x with
    | lst ys =>
      cases e
      cases r' with
      | lst h1 h2 =>
        refine ⟨_, [], rfl, rfl, fun p hp => by simp at hp, ⟨_, SqL.of h1.2, h2⟩, fun {Z' F' H' ρ' σ'} l ds e2 => ?_⟩
        cases e2
        exact ⟨_, SqL.of (h1.step l.stp).2, h2.step l.stp⟩
    | scr ys =>
      cases e
      cases r' with
      | scr h1 h2 =>
        refine ⟨_, [], rfl, rfl, fun p hp => by simp at hp, ⟨_, h1.1, h2⟩, fun {Z' F' H' ρ' σ'} l ds e2 => ?_⟩
        cases e2
        exact ⟨_, (h1.step l.stp).1, h2.step l.stp⟩
    | _ => cases e
theorem opT_at {Z : Zt} {F : Fz} {ρ : Evm} {σ : L2.St} {H : Hp} {p : Op} {v : V} {xs : List D} (r : OpR' Z F H ρ σ v p) (e : opT p = some xs) : ∃ a, v = .ref a ∧ opPl p = [] ∧ TAt Z F H a xs ∧ ∀ {F' H'}, Stp F H F' H' → TAt Z F' H' a xs := by
  cases p with
  | pl i => cases e
  | vl x =>
    have r' : Rep Z.K Z.mg F H v x := r
    cases x with
    | tup ys =>
      cases e
      cases r' with
      | tup h1 h2 => exact ⟨_, rfl, rfl, ⟨_, h1.1, h2⟩, fun {F' H'} s => ⟨_, (h1.step s).1, h2.step s⟩⟩
    | _ => cases e
/-- one item as it stands -/
theorem yld_at {Z' : Zt} {F' : Fz} {H' H2 : Hp} {ρ' : Evm} {σ' : L2.St} {Z : Zt} {x : V} {d : D} (R : Rl Z' F' ρ' σ' H') (e : H2 = H') (r : Rep Z.K Z.mg F' H' x d) : ∃ F2, Stp F' H' F2 H2 ∧ Rl Z' F2 ρ' σ' H2 ∧ Rep Z.K Z.mg F2 H2 x d := by
  subst e
  exact ⟨F', .refl _ _, R, r⟩
theorem src_li {Z : Zt} {F : Fz} {H : Hp} {as : List (Nat × Addr)} {p : Op} {a : Addr} (hT : opT p = none) (h : ∀ {Z' F' H' ρ' σ'}, Later Z F H as Z' F' H' ρ' σ' → ∀ ds, opL ρ' p = some ds → LAt Z F' H' a ds) : SrcOk Z F H (Itl Z.K a) (.li p) as := by
  refine ⟨fun {Z' F' H' ρ' σ'} i l => ?_⟩
  simp only [srcAt, hT]
  cases e : opL ρ' p with
  | none => exact ⟨fun h => (by cases h), fun d h => by cases h⟩
  | some ds =>
    obtain ⟨vs, h1, h2⟩ := h l ds e
    refine ⟨fun h => ?_, fun d h => ?_⟩
    · have := Option.some.inj h
      exact ⟨vs, h1, by rw [h2.length]; exact List.getElem?_eq_none_iff.mp this⟩
    · obtain ⟨v, hv, rv⟩ := h2.get (Option.some.inj h)
      refine ⟨⟨vs, v, h1, hv⟩, fun x H2 y => yld_at l.rl y.1 ?_⟩
      have := y.2 vs h1
      rw [hv] at this
      cases this
      exact rv
theorem src_lt {Z : Zt} {F : Fz} {H : Hp} {p : Op} {a : Addr} {xs : List D} (hT : opT p = some xs) (h : ∀ {F' H'}, Stp F H F' H' → TAt Z F' H' a xs) : SrcOk Z F H (Itt Z.K a) (.li p) [] := by
  refine ⟨fun {Z' F' H' ρ' σ'} i l => ?_⟩
  simp only [srcAt, hT]
  obtain ⟨vs, h1, h2⟩ := h l.stp
  refine ⟨fun h => ?_, fun d h => ?_⟩
  · have := Option.some.inj h
    exact ⟨vs, h1, by rw [h2.length]; exact List.getElem?_eq_none_iff.mp this⟩
  · obtain ⟨v, hv, rv⟩ := h2.get (Option.some.inj h)
    refine ⟨⟨vs, v, h1, hv⟩, fun x H2 y => yld_at l.rl y.1 ?_⟩
    have := y.2 vs h1
    rw [hv] at this
    cases this
    exact rv
theorem src_rg {Z : Zt} {F : Fz} {H : Hp} {lo k : Int} {n : Nat} : SrcOk Z F H (Itc lo k n) (.rg lo k n) [] := by
  refine ⟨fun {Z' F' H' ρ' σ'} i l => ?_⟩
  simp only [srcAt]
  cases e : decide (i < n) with
  | true => exact ⟨fun h => (by cases h), fun d h => by cases h; exact ⟨(of_decide_eq_true e : i < n), fun x H2 y => yld_at l.rl y.1 (by rw [y.2]; exact .int _)⟩⟩
  | false => exact ⟨fun h => Nat.le_of_not_lt (of_decide_eq_false e), fun d h => by cases h⟩
theorem src_rg1 {Z : Zt} {F : Fz} {H : Hp} {lo : Int} {n : Nat} : SrcOk Z F H (Itr lo n) (.rg lo 1 n) [] := by
  refine ⟨fun {Z' F' H' ρ' σ'} i l => ?_⟩
  simp only [srcAt]
  cases e : decide (i < n) with
  | true => exact ⟨fun h => (by cases h), fun d h => by cases h; exact ⟨(of_decide_eq_true e : i < n), fun x H2 y => yld_at l.rl y.1 (by rw [y.2, Int.mul_one]; exact .int _)⟩⟩
  | false => exact ⟨fun h => Nat.le_of_not_lt (of_decide_eq_false e), fun d h => by cases h⟩
theorem src_sr {Z : Zt} {F : Fz} {H : Hp} {x : Str} : SrcOk Z F H (Its x) (.sr x) [] := by
  refine ⟨fun {Z' F' H' ρ' σ'} i l => ?_⟩
  simp only [srcAt]
  cases e : x.cps[i]? with
  | none => exact ⟨fun h => (show x.cps.size ≤ i by simpa using e), fun d h => (by cases h)⟩
  | some c =>
    refine ⟨fun h => (by cases h), fun d h => ?_⟩
    cases h
    refine ⟨(Array.getElem?_eq_some_iff.mp e).1, fun y H2 q => yld_at l.rl q.1 ?_⟩
    obtain ⟨c', e', rfl⟩ := q.2
    rw [e] at e'
    cases e'
    exact .str _
/-- a new pair as it comes -/
theorem yld_pair {Z' Z : Zt} {F' : Fz} {H' H2 : Hp} {ρ' : Evm} {σ' : L2.St} {t : Addr} {x y : V} {d e : D} (R : Rl Z' F' ρ' σ' H') (hn : H' t = none) (e2 : H2 = upd H' t (.tup [x, y])) (r1 : Rep Z.K Z.mg F' H' x d) (r2 : Rep Z.K Z.mg F' H' y e) :
    ∃ F2, Stp F' H' F2 H2 ∧ Rl Z' F2 ρ' σ' H2 ∧ Rep Z.K Z.mg F2 H2 (.ref t) (.tup [d, e]) := by
  subst e2
  have g := grow_new (F := F') (o := .tup [x, y]) hn
  have st := g.step R.live
  exact ⟨_, st, R.grow g (live_new (fun ps z => nomatch z) R.live), .tup ⟨SqT.of upd_same, .inl (.inr rfl)⟩ (.cons (r1.step st) (.cons (r2.step st) .nil))⟩
theorem pairAt_some {xs ys : List D} {i : Nat} {d : D} (h : pairAt xs ys i = some d) : ∃ x y, xs[i]? = some x ∧ ys[i]? = some y ∧ d = .tup [x, y] := by
  unfold pairAt at h
  split at h
  · rename_i x y e1 e2; cases h; exact ⟨x, y, e1, e2, rfl⟩
  · cases h
theorem pairAt_none {xs ys : List D} {i : Nat} (h : pairAt xs ys i = none) : xs.length ≤ i ∨ ys.length ≤ i := by
  unfold pairAt at h
  cases e1 : xs[i]? with
  | none => exact .inl (List.getElem?_eq_none_iff.mp e1)
  | some x =>
    cases e2 : ys[i]? with
    | none => exact .inr (List.getElem?_eq_none_iff.mp e2)
    | some y => rw [e1, e2] at h; cases h
theorem src_zpT {Z : Zt} {F : Fz} {H : Hp} {p q : Op} {a b : Addr} {xs ys : List D} (hT : opT p = some xs) (hT2 : opT q = some ys) (h : ∀ {F' H'}, Stp F H F' H' → TAt Z F' H' a xs) (h2 : ∀ {F' H'}, Stp F H F' H' → TAt Z F' H' b ys) :
    SrcOk Z F H (RZ.ItzT Z.K a b) (.zp p q) [] := by
  refine ⟨fun {Z' F' H' ρ' σ'} i l => ?_⟩
  simp only [srcAt, hT, hT2]
  obtain ⟨vs, a1, a2⟩ := h l.stp
  obtain ⟨ws, b1, b2⟩ := h2 l.stp
  refine ⟨fun h => ⟨vs, ws, a1, b1, ?_⟩, fun d h => ?_⟩
  · rw [a2.length, b2.length]
    exact pairAt_none (Option.some.inj h)
  · obtain ⟨x, y, e1, e2, rfl⟩ := pairAt_some (Option.some.inj h)
    obtain ⟨v, hv, rv⟩ := a2.get e1
    obtain ⟨w, hw, rw'⟩ := b2.get e2
    refine ⟨⟨vs, ws, v, w, a1, b1, hv, hw⟩, fun x' H2 ⟨t, x2, y2, ex, hn, eH, k1, k2⟩ => ?_⟩
    have q1 := k1 vs a1
    have q2 := k2 ws b1
    rw [hv] at q1
    rw [hw] at q2
    cases q1; cases q2
    subst ex
    exact yld_pair l.rl hn eH rv rw'
theorem src_zpL {Z : Zt} {F : Fz} {H : Hp} {as : List (Nat × Addr)} {p q : Op} {a b : Addr} (hT : opT p = none) (hT2 : opT q = none) (h : ∀ {Z' F' H' ρ' σ'}, Later Z F H as Z' F' H' ρ' σ' → ∀ ds, opL ρ' p = some ds → LAt Z F' H' a ds)
    (h2 : ∀ {Z' F' H' ρ' σ'}, Later Z F H as Z' F' H' ρ' σ' → ∀ ds, opL ρ' q = some ds → LAt Z F' H' b ds) : SrcOk Z F H (Itz Z.K a b) (.zp p q) as := by
  refine ⟨fun {Z' F' H' ρ' σ'} i l => ?_⟩
  simp only [srcAt, hT, hT2]
  cases e : opL ρ' p with
  | none => exact ⟨fun h => (by cases h), fun d h => (by cases h)⟩
  | some xs =>
    cases e' : opL ρ' q with
    | none => exact ⟨fun h => (by cases h), fun d h => (by cases h)⟩
    | some ys =>
      obtain ⟨vs, a1, a2⟩ := h l xs e
      obtain ⟨ws, b1, b2⟩ := h2 l ys e'
      refine ⟨fun h => ⟨vs, ws, a1, b1, ?_⟩, fun d h => ?_⟩
      · rw [a2.length, b2.length]
        exact pairAt_none (Option.some.inj h)
      · obtain ⟨x, y, e1, e2, rfl⟩ := pairAt_some (Option.some.inj h)
        obtain ⟨v, hv, rv⟩ := a2.get e1
        obtain ⟨w, hw, rw'⟩ := b2.get e2
        refine ⟨⟨vs, ws, v, w, a1, b1, hv, hw⟩, fun x' H2 ⟨t, x2, y2, ex, hn, eH, k1, k2⟩ => ?_⟩
        have q1 := k1 vs a1
        have q2 := k2 ws b1
        rw [hv] at q1
        rw [hw] at q2
        cases q1; cases q2
        subst ex
        exact yld_pair l.rl hn eH rv rw'
theorem src_en {Z : Zt} {F : Fz} {H : Hp} {as : List (Nat × Addr)} {p : Op} {a : Addr} (hT : opT p = none) (h : ∀ {Z' F' H' ρ' σ'}, Later Z F H as Z' F' H' ρ' σ' → ∀ ds, opL ρ' p = some ds → LAt Z F' H' a ds) : SrcOk Z F H (Ite Z.K a) (.en p) as := by
  refine ⟨fun {Z' F' H' ρ' σ'} i l => ?_⟩
  simp only [srcAt, hT]
  cases e : opL ρ' p with
  | none => exact ⟨fun h => (by cases h), fun d h => (by cases h)⟩
  | some xs =>
    obtain ⟨vs, a1, a2⟩ := h l xs e
    dsimp only
    cases ex : xs[i]? with
    | none => exact ⟨fun h => ⟨vs, a1, by rw [a2.length]; exact List.getElem?_eq_none_iff.mp ex⟩, fun d h => (by cases h)⟩
    | some x =>
      refine ⟨fun h => (by cases h), fun d h => ?_⟩
      cases h
      obtain ⟨v, hv, rv⟩ := a2.get ex
      refine ⟨⟨vs, v, a1, hv⟩, fun x' H2 ⟨t, x2, ex2, hn, eH, k1⟩ => ?_⟩
      have q1 := k1 vs a1
      rw [hv] at q1
      cases q1
      subst ex2
      exact yld_pair l.rl hn eH (.int _) rv
theorem src_enT {Z : Zt} {F : Fz} {H : Hp} {p : Op} {a : Addr} {xs : List D} (hT : opT p = some xs) (h : ∀ {F' H'}, Stp F H F' H' → TAt Z F' H' a xs) : SrcOk Z F H (IteT Z.K a) (.en p) [] := by
  refine ⟨fun {Z' F' H' ρ' σ'} i l => ?_⟩
  simp only [srcAt, hT]
  obtain ⟨vs, a1, a2⟩ := h l.stp
  cases ex : xs[i]? with
  | none => exact ⟨fun h => ⟨vs, a1, by rw [a2.length]; exact List.getElem?_eq_none_iff.mp ex⟩, fun d h => (by cases h)⟩
  | some x =>
    refine ⟨fun h => (by cases h), fun d h => ?_⟩
    cases h
    obtain ⟨v, hv, rv⟩ := a2.get ex
    refine ⟨⟨vs, v, a1, hv⟩, fun x' H2 ⟨t, x2, ex2, hn, eH, k1⟩ => ?_⟩
    have q1 := k1 vs a1
    rw [hv] at q1
    cases q1
    subst ex2
    exact yld_pair l.rl hn eH (.int _) rv
theorem revAt_some {xs : List D} {n i : Nat} {d : D} (h : revAt xs n i = some (some d)) : i < n ∧ xs[n - 1 - i]? = some d := by
  unfold revAt at h
  split at h
  · rename_i e
    split at h
    · rename_i x ex; cases h; exact ⟨of_decide_eq_true e, ex⟩
    · cases h
  · cases h
theorem revAt_none {xs : List D} {n i : Nat} (h : revAt xs n i = some none) : n ≤ i := by
  unfold revAt at h
  split at h
  · split at h <;> cases h
  · rename_i e; exact Nat.le_of_not_lt (of_decide_eq_false e)
theorem src_rvT {Z : Zt} {F : Fz} {H : Hp} {p : Op} {a : Addr} {xs : List D} {n : Nat} (hT : opT p = some xs) (h : ∀ {F' H'}, Stp F H F' H' → TAt Z F' H' a xs) : SrcOk Z F H (RT.ItvT Z.K a n) (.rv p n) [] := by
  refine ⟨fun {Z' F' H' ρ' σ'} i l => ?_⟩
  simp only [srcAt, hT]
  obtain ⟨vs, h1, h2⟩ := h l.stp
  refine ⟨fun h => revAt_none h, fun d h => ?_⟩
  obtain ⟨hi, hx⟩ := revAt_some h
  obtain ⟨v, hv, rv⟩ := h2.get hx
  refine ⟨⟨hi, vs, v, h1, hv⟩, fun x H2 y => yld_at l.rl y.1 ?_⟩
  have := y.2 vs h1
  rw [hv] at this
  cases this
  exact rv
theorem src_rvL {Z : Zt} {F : Fz} {H : Hp} {as : List (Nat × Addr)} {p : Op} {a : Addr} {n : Nat} (hT : opT p = none) (h : ∀ {Z' F' H' ρ' σ'}, Later Z F H as Z' F' H' ρ' σ' → ∀ ds, opL ρ' p = some ds → LAt Z F' H' a ds) : SrcOk Z F H (Itv Z.K a n) (.rv p n) as := by
  refine ⟨fun {Z' F' H' ρ' σ'} i l => ?_⟩
  simp only [srcAt, hT]
  cases e : opL ρ' p with
  | none => exact ⟨fun h => (by cases h), fun d h => (by cases h)⟩
  | some xs =>
    obtain ⟨vs, h1, h2⟩ := h l xs e
    refine ⟨fun h => revAt_none h, fun d h => ?_⟩
    obtain ⟨hi, hx⟩ := revAt_some h
    obtain ⟨v, hv, rv⟩ := h2.get hx
    refine ⟨⟨hi, vs, v, h1, hv⟩, fun x H2 y => yld_at l.rl y.1 ?_⟩
    have := y.2 vs h1
    rw [hv] at this
    cases this
    exact rv

abbrev tSrc (Z : Zt) (W : WX) (m : M Src) : TI := tM Z W m (SrcR Z)
theorem PI.imp {tg e : Expr} {t u : TI} (h : PI X tg e t) (w : ∀ σ H Q, u σ H Q → t σ H Q) : PI X tg e u := ⟨fun pins s σ H Q I q => h.run pins s σ H Q I (w σ H Q q)⟩
theorem tM_bndE {Z : Zt} {α β γ δ : Type} {m : M α} {f : α → M β} {Rel : Fz → Hp → Evm → L2.St → γ → α → Prop} {Rel' : Fz → Hp → Evm → L2.St → δ → β → Prop} {F : Fz} {ρ : Evm} {σ : L2.St} {H : Hp} {Q : γ → Hp → Prop} {Q' : δ → Hp → Prop}
    (R : Rl Z F ρ σ H) (h : Pst Z W Rel' F σ H Q' (bnd m f ρ))
    (k : ∀ a ρ1 v F1 H1, m ρ = .ok a ρ1 → Stp F H F1 H1 → Rl Z F1 ρ1 σ H1 → Rel F1 H1 ρ1 σ v a → Pst Z W Rel' F1 σ H1 Q' (f a ρ1) → Q v H1) : tM Z W m Rel σ H Q := by
  refine tM_of R ?_
  unfold bnd at h
  cases e : m ρ with
  | ok a ρ1 =>
    rw [e] at h
    exact fun v F1 H1 s R1 r => k a ρ1 v F1 H1 e s R1 r (Pst.step h s)
  | exc x ρ1 => rw [e] at h; exact h
  | stk => rw [e] at h; exact h
theorem src_fin {Z : Zt} {F : Fz} {ρ : Evm} {σ : L2.St} {H : Hp} {Q : It → Hp → Prop} {s : Src} {J : It} {as : List (Nat × Addr)} (R : Rl Z F ρ σ H) (h : Pst Z W (SrcR Z) F σ H Q (Res.ok s ρ)) (h1 : as.map (·.1) = s.pl) (h2 : ∀ p ∈ as, σ[p.1]? = some (some (.ref p.2))) (h3 : SrcOk Z F H J s as) : Q J H :=
  h J F H (.refl _ _) R ⟨as, h1, h2, h3⟩
theorem ok_srcAny (ho : Ok o) (u : UD X c W W0) {tg : Expr} (e : Expr) : PI X tg e (tSrc (zt X B W0 L T) W (srcAny o c e)) := by
  have hp := ho.opn (B := B) (W0 := W0) (L := L) (T := T) e u
  refine ⟨fun pins s σ H Q I h => ?_⟩
  obtain ⟨F, ρ, R, h⟩ := tM_at h
  unfold srcAny at h
  cases hs : notSet e with
  | false => rw [hs] at h; exact h.elim
  | true =>
    rw [hs] at h
    dsimp only at h
    cases e1 : o.opn c e ρ with
    | stk => unfold bnd at h; rw [e1] at h; exact h.elim
    | exc ex ρ1 =>
      refine (pi_tup hp).run pins s σ H Q I (tM_bndE R h fun p ρ2 v F1 H1 e2 => ?_)
      rw [e1] at e2; cases e2
    | ok p ρ1 =>
      cases hT : opT p with
      | some xs =>
        refine (pi_tup hp).run pins s σ H Q I (tM_bndE R h fun p2 ρ2 v F1 H1 e2 s1 R1 r1 h1 => ?_)
        rw [e1] at e2; cases e2
        obtain ⟨a, rfl, hpl, ⟨vs, q1, q2⟩, hl⟩ := opT_at r1 hT
        unfold srcLi at h1
        rw [hT] at h1
        exact ⟨a, rfl, ⟨vs, q1⟩, src_fin (as := []) R1 h1 (by rw [show (Src.li p).pl = opPl p from rfl, hpl] <;> rfl) (fun p hp => by simp at hp) (src_lt hT hl)⟩
      | none =>
        cases hL : opL ρ1 p with
        | some xs =>
          refine (pi_list hp).run pins s σ H Q I (tM_bndE R h fun p2 ρ2 v F1 H1 e2 s1 R1 r1 h1 => ?_)
          rw [e1] at e2; cases e2
          obtain ⟨a, as, rfl, hpl, hv, ⟨vs, q1, q2⟩, hl⟩ := opL_at R1 r1 hL
          unfold srcLi at h1
          rw [hT, hL] at h1
          exact ⟨a, rfl, ⟨vs, q1⟩, src_fin R1 h1 hpl hv (src_li hT hl)⟩
        | none =>
          refine (pi_str hp).run pins s σ H Q I (tM_bndE R h fun p2 ρ2 v F1 H1 e2 s1 R1 r1 h1 => ?_)
          rw [e1] at e2; cases e2
          unfold srcLi at h1
          rw [hT, hL] at h1
          dsimp only at h1
          split at h1
          · rename_i x
            have r1' : Rep X.K X.mg F1 H1 v (.str x) := r1
            cases r1'
            exact ⟨x, rfl, src_fin (as := []) R1 h1 rfl (fun p hp => by simp at hp) src_sr⟩
          · exact h1.elim
theorem ok_srcH (ho : Ok o) (u : UD X c W W0) {tg : Expr} (e : Expr) : L2H.PIH X tg e (tSrc (zt X B W0 L T) W (srcH o c e)) := by
  have hp := ho.opn (B := B) (W0 := W0) (L := L) (T := T) e u
  refine ⟨fun pins s σ H Q I h => ?_⟩
  obtain ⟨F, ρ, R, h⟩ := tM_at h
  unfold srcH at h
  cases hs : notSet e with
  | false => rw [hs] at h; exact h.elim
  | true =>
    rw [hs] at h
    dsimp only at h
    refine (pi_listH hp).run pins s σ H Q I ?_
    cases e1 : o.opn c e ρ with
    | stk => unfold bnd at h; rw [e1] at h; exact h.elim
    | exc ex ρ1 => exact tM_bndE R h fun p ρ2 v F1 H1 e2 => by rw [e1] at e2; cases e2
    | ok p ρ1 =>
      refine tM_bndE R h fun p2 ρ2 v F1 H1 e2 s1 R1 r1 h1 => ?_
      rw [e1] at e2; cases e2
      unfold srcLst at h1
      cases hT : opT p with
      | some xs => rw [hT] at h1; exact h1.elim
      | none =>
        rw [hT] at h1
        dsimp only at h1
        cases hL : opL ρ1 p with
        | none => rw [hL] at h1; exact h1.elim
        | some xs =>
          rw [hL] at h1
          obtain ⟨a, as, rfl, hpl, hv, ⟨vs, q1, q2⟩, hl⟩ := opL_at R1 r1 hL
          exact ⟨a, rfl, ⟨vs, q1⟩, src_fin R1 h1 hpl hv (src_li hT hl)⟩
theorem bi_at {x : Str} (u : UC X c W W0) (h : c.bi x = true) : Gl X x ∧ X.mg x = none := by
  unfold C.bi at h
  cases hn : c.nm x with
  | glob =>
    rw [hn] at h
    obtain ⟨hok, hk⟩ := nm_glob hn
    exact ⟨by show X.env.scope.names.lookup x = _; rw [u.sc]; exact hk, u.gl.free x h⟩
  | slot i => rw [hn] at h; cases h
  | bad => rw [hn] at h; cases h
theorem okRg_at {j : Int} (h : okRg j = true) : -(2 ^ 62) ≤ j ∧ j < 2 ^ 62 := by
  unfold okRg at h
  rw [Bool.and_eq_true] at h
  exact ⟨of_decide_eq_true h.1, of_decide_eq_true h.2⟩
theorem reps_int1 {Z : Zt} {F : Fz} {H : Hp} {vs : List V} {j : Int} (h : Reps Z.K Z.mg F H vs [.int j]) : vs = [.int j] := by
  obtain ⟨v, rfl, r⟩ := reps1 h
  cases r <;> rfl
theorem reps_int2 {Z : Zt} {F : Fz} {H : Hp} {vs : List V} {i j : Int} (h : Reps Z.K Z.mg F H vs [.int i, .int j]) : vs = [.int i, .int j] := by
  cases h with
  | cons h1 h2 =>
    rw [reps_int1 h2]
    cases h1 <;> rfl
theorem reps_int3 {Z : Zt} {F : Fz} {H : Hp} {vs : List V} {i j k : Int} (h : Reps Z.K Z.mg F H vs [.int i, .int j, .int k]) : vs = [.int i, .int j, .int k] := by
  cases h with
  | cons h1 h2 =>
    rw [reps_int2 h2]
    cases h1 <;> rfl
abbrev tRgD (Z : Zt) (W : WX) (m : M (Int × Int)) : L2.St → Hp → (Int → Int → Hp → Prop) → Prop := fun σ H Q => tM Z W m (fun _ _ _ _ b k => b = k) σ H fun r H' => Q r.1 r.2 H'
theorem prg_imp {e : Expr} {t u : L2.St → Hp → (Int → Int → Hp → Prop) → Prop} (h : PRg X e t) (w : ∀ σ H Q, u σ H Q → t σ H Q) : PRg X e u := fun pins s σ H Q I q => h pins s σ H Q I (w σ H Q q)
theorem prg_no {e : Expr} : PRg X e (tRgD (zt X B W0 L T) W stk) := fun pins s σ H Q I h => (t_stk h).elim
theorem star1 {a : Expr} (h : notStar a = true) : starEach [a] X.env = [(false, eval a X.env)] := star_of h
theorem ok_rg (ho : Ok o) (u : UD X c W W0) (e : Expr) : PRg X e (tRgD (zt X B W0 L T) W (evRg o c e)) := by
  unfold evRg
  split
  · rename_i x px a pos
    split
    · rename_i hx
      rw [Bool.and_eq_true, Bool.and_eq_true] at hx
      obtain ⟨h1, h2, h3⟩ := hx
      cases of_decide_eq_true h1
      obtain ⟨hg, hm⟩ := bi_at u.toUC h2
      refine prg_imp (prg_1 hg hm (ho.ev (B := B) (W0 := W0) (L := L) (T := T) a u) (star_of h3)) fun σ H Q h => ?_
      obtain ⟨F, ρ, R, h⟩ := tM_at h
      refine tM_bnd R h fun r ρ1 v F1 H1 s1 R1 rr q1 => ?_
      obtain ⟨F2, s2, R2, rp⟩ := R1.settle rr
      obtain ⟨d, un⟩ := r
      cases d with
      | int j =>
        cases rp
        dsimp only at q1
        cases ok : okRg j with
        | false => rw [ok] at q1; exact q1.elim
        | true =>
          rw [ok] at q1
          exact ⟨j, rfl, q1 (0, j) F2 H1 s2 R2 rfl⟩
      | _ => exact q1.elim
    · exact prg_no
  · rename_i x px a b pos
    split
    · rename_i hx
      rw [Bool.and_eq_true, Bool.and_eq_true, Bool.and_eq_true] at hx
      obtain ⟨h1, h2, h3, h4⟩ := hx
      cases of_decide_eq_true h1
      obtain ⟨hg, hm⟩ := bi_at u.toUC h2
      refine prg_imp (prg_2 hg hm (ho.ev (B := B) (W0 := W0) (L := L) (T := T) a u) (ho.ev (B := B) (W0 := W0) (L := L) (T := T) b u) (star_of h3) (star_of h4) (noStar_of (by cases b <;> first | rfl | cases h4))) fun σ H Q h => ?_
      obtain ⟨F, ρ, R, h⟩ := tM_at h
      refine tM_bnd R h fun r ρ1 v F1 H1 s1 R1 rr q1 => ?_
      refine tM_bnd R1 q1 fun r' ρ2 w F2 H2 s2 R2 rr' q2 => ?_
      obtain ⟨d, un⟩ := r
      obtain ⟨d', un'⟩ := r'
      cases d with
      | int i =>
        cases d' with
        | int j =>
          obtain ⟨F3, s3, R3, rp'⟩ := R2.settle rr'
          cases rp'
          have ev : v = .int i := by
            unfold RR at rr
            split at rr
            · obtain ⟨a, _, ⟨o, _, ho⟩, _⟩ := rr
              cases ho
            · cases rr
              rfl
          dsimp only at q2
          cases ok : (okRg i && okRg j) with
          | false => rw [ok] at q2; exact q2.elim
          | true =>
            rw [ok] at q2
            exact ⟨i, j, ev, rfl, q2 (i, j) F3 H2 s3 R3 rfl⟩
        | _ => exact q2.elim
      | _ => exact q2.elim
    · exact prg_no
  · exact prg_no

theorem isTup_at {e : Expr} (h : isTup e = true) : ∃ es k p, e = .Tuple es k p := by
  cases e <;> first | exact ⟨_, _, _, rfl⟩ | cases h
theorem star2 {a b : Expr} (h : notStar a = true) (h2 : notStar b = true) : starEach [a, b] X.env = [(false, eval a X.env), (false, eval b X.env)] := by
  rw [star_of h, star1 h2]
theorem back1s {b : Expr} {pos : Pos} (h : notStar b = true) : (backTo pos (starEach [b] X.env)).any (·.1) = false := noStar_of (by cases b <;> first | rfl | cases h)
theorem okC_cons {a : Expr} {es : List Expr} (h : notStar a = true) (h2 : okCall es = true) : okCall (a :: es) = true := by
  cases a <;> first | exact h2 | cases h
theorem back2s {a b : Expr} {pos : Pos} (h : notStar a = true) (h2 : notStar b = true) : (backTo pos (starEach [a, b] X.env)).any (·.1) = false := noStar_of (okC_cons h (okC_cons h2 rfl))
theorem no_as {σ : L2.St} : ∀ p ∈ ([] : List (Nat × Addr)), σ[p.1]? = some (some (.ref p.2)) := fun p hp => by simp at hp
theorem opsR1 {Z : Zt} {F : Fz} {H : Hp} {ρ : Evm} {σ : L2.St} {vs : List V} {p : Op} (h : OpsR Z F H ρ σ vs [p]) : ∃ v, vs = [v] ∧ OpR' Z F H ρ σ v p := by
  cases h with
  | cons h1 h2 => cases h2; exact ⟨_, rfl, h1⟩
theorem opsR2 {Z : Zt} {F : Fz} {H : Hp} {ρ : Evm} {σ : L2.St} {vs : List V} {p q : Op} (h : OpsR Z F H ρ σ vs [p, q]) : ∃ v w, vs = [v, w] ∧ OpR' Z F H ρ σ v p ∧ OpR' Z F H ρ σ w q := by
  cases h with
  | cons h1 h2 =>
    obtain ⟨w, rfl, h3⟩ := opsR1 h2
    exact ⟨_, w, rfl, h1, h3⟩
theorem Later.left {Z : Zt} {F : Fz} {H : Hp} {as bs : List (Nat × Addr)} {Z' : Zt} {F' : Fz} {H' : Hp} {ρ' : Evm} {σ' : L2.St} (l : Later Z F H (as ++ bs) Z' F' H' ρ' σ') : Later Z F H as Z' F' H' ρ' σ' :=
  ⟨l.K, l.mg, l.stp, l.rl, fun p hp => l.pin p (List.mem_append_left _ hp)⟩
theorem Later.right {Z : Zt} {F : Fz} {H : Hp} {as bs : List (Nat × Addr)} {Z' : Zt} {F' : Fz} {H' : Hp} {ρ' : Evm} {σ' : L2.St} (l : Later Z F H (as ++ bs) Z' F' H' ρ' σ') : Later Z F H bs Z' F' H' ρ' σ' :=
  ⟨l.K, l.mg, l.stp, l.rl, fun p hp => l.pin p (List.mem_append_right _ hp)⟩
theorem rangeSize_nn (a b c : Int) : 0 ≤ Builtin.Range.rangeSize a b c := by
  unfold Builtin.Range.rangeSize
  split
  · split
    · have := Int.ediv_nonneg (a := b - a - 1) (b := c) (by omega) (by omega); omega
    · omega
  · split
    · have := Int.ediv_nonneg (a := a - b - 1) (b := -c) (by omega) (by omega); omega
    · omega
theorem ok_src (ho : Ok o) (u : UD X c W W0) {tg : Expr} {tup : Bool} (ht : tup = true → isTup tg = true) (e : Expr) : PI X tg e (tSrc (zt X B W0 L T) W (evSrc o c tup e)) := by
  have stuck : ∀ {tg e : Expr}, PI X tg e (tSrc (zt X B W0 L T) W stk) := ⟨fun pins s σ H Q I h => (t_stk h).elim⟩
  unfold evSrc
  split
  · rename_i x px a pos
    split
    · exact ok_srcAny ho u _
    · rename_i hx
      rw [Bool.and_eq_true] at hx
      obtain ⟨hb, hs⟩ := hx
      obtain ⟨hg, hm⟩ := bi_at u.toUC hb
      split
      · rename_i e1
        cases of_decide_eq_true e1
        refine PI.imp (pi_range1 hg hm (ho.args (B := B) (W0 := W0) (L := L) (T := T) [a] u) (star1 hs)) fun σ H Q h => ?_
        obtain ⟨F, ρ, R, h⟩ := tM_at h
        unfold iRng1
        refine tM_bnd R h fun xs ρ1 vs F1 H1 s1 R1 rs q1 => ?_
        split at q1
        · rename_i j
          cases ok : okRg j with
          | false => rw [ok] at q1; exact q1.elim
          | true =>
            rw [ok] at q1
            obtain ⟨k1, k2⟩ := okRg_at ok
            exact ⟨j, reps_int1 rs, k1, k2, src_fin (as := []) R1 q1 rfl no_as src_rg1⟩
        · exact q1.elim
      · split
        · rename_i e1
          obtain ⟨es, k, pt, rfl⟩ := isTup_at (ht rfl)
          cases of_decide_eq_true e1
          refine PI.imp (pi_enumA hg hm (ho.opns (B := B) (W0 := W0) (L := L) (T := T) [a] u) (star1 hs)) fun σ H Q h => ?_
          obtain ⟨F, ρ, R, h⟩ := tM_at h
          unfold iEnumA
          refine tM_bnd R h fun ps ρ1 vs F1 H1 s1 R1 rs q1 => ?_
          split at q1
          · rename_i p
            obtain ⟨v, rfl, r1⟩ := opsR1 rs
            unfold srcEn at q1
            cases hT : opT p with
            | some xs =>
              rw [hT] at q1
              obtain ⟨a, rfl, hpl, ⟨vs, k1, k2⟩, hl⟩ := opT_at r1 hT
              exact ⟨a, vs, rfl, .inr ⟨k1, src_fin (as := []) R1 q1 (by rw [show (Src.en p).pl = opPl p from rfl, hpl] <;> rfl) no_as (src_enT hT hl)⟩⟩
            | none =>
              rw [hT] at q1
              dsimp only at q1
              cases hL : opL ρ1 p with
              | none => rw [hL] at q1; exact q1.elim
              | some xs =>
                rw [hL] at q1
                obtain ⟨a, as, rfl, hpl, hv, ⟨vs, k1, k2⟩, hl⟩ := opL_at R1 r1 hL
                exact ⟨a, vs, rfl, .inl ⟨k1, src_fin R1 q1 hpl hv (src_en hT hl)⟩⟩
          · exact q1.elim
        · exact stuck
        · split
          · rename_i e1 e2
            cases of_decide_eq_true e1
            refine PI.imp (pi_revR hg hm (ok_rg (B := B) (W0 := W0) (L := L) (T := T) ho u a) (star_of hs)) fun σ H Q h => ?_
            obtain ⟨F, ρ, R, h⟩ := tM_at h
            show tM (zt X B W0 L T) W (evRg o c a) (fun _ _ _ _ b k => b = k) σ H _
            refine tM_bnd R h fun r ρ1 r' F1 H1 s1 R1 er q1 => ?_
            subst er
            cases ok : (okRg r'.1 && okRg r'.2) with
            | false => rw [ok] at q1; exact q1.elim
            | true =>
              rw [ok] at q1
              rw [Bool.and_eq_true] at ok
              obtain ⟨k1, k2⟩ := okRg_at ok.1
              obtain ⟨k3, k4⟩ := okRg_at ok.2
              exact ⟨k1, k2, k3, k4, src_fin (as := []) R1 q1 rfl no_as src_rg⟩
          · rename_i e1 e2
            cases of_decide_eq_true e1
            refine PI.imp (RT.pi_revA hg hm (ho.opn (B := B) (W0 := W0) (L := L) (T := T) a u) (star_of hs)) fun σ H Q h => ?_
            obtain ⟨F, ρ, R, h⟩ := tM_at h
            unfold RT.iRevA
            refine tM_bnd R h fun p ρ1 v F1 H1 s1 R1 r1 q1 => ?_
            unfold srcRv at q1
            cases hT : opT p with
            | some xs =>
              rw [hT] at q1
              obtain ⟨a, rfl, hpl, ⟨vs, k1, k2⟩, hl⟩ := opT_at r1 hT
              refine ⟨a, vs, rfl, .inr ⟨k1, ?_⟩⟩
              rw [k2.length]
              exact src_fin (as := []) R1 q1 (by rw [show (Src.rv p xs.length).pl = opPl p from rfl, hpl] <;> rfl) no_as (src_rvT hT hl)
            | none =>
              cases hL : opL ρ1 p with
              | none => rw [hT, hL] at q1; exact q1.elim
              | some xs =>
                rw [hT, hL] at q1
                obtain ⟨a, as, rfl, hpl, hv, ⟨vs, k1, k2⟩, hl⟩ := opL_at R1 r1 hL
                refine ⟨a, vs, rfl, .inl ⟨k1, ?_⟩⟩
                rw [k2.length]
                exact src_fin R1 q1 hpl hv (src_rvL hT hl)
          · exact ok_srcAny ho u _
  · rename_i x px a b pos
    split
    · exact ok_srcAny ho u _
    · rename_i hx
      rw [Bool.and_eq_true, Bool.and_eq_true] at hx
      obtain ⟨hb, hs, hs2⟩ := hx
      obtain ⟨hg, hm⟩ := bi_at u.toUC hb
      split
      · rename_i e1
        cases of_decide_eq_true e1
        refine PI.imp (pi_range2 hg hm (ho.args (B := B) (W0 := W0) (L := L) (T := T) [a, b] u) (star2 hs hs2) (star1 hs2)) fun σ H Q h => ?_
        obtain ⟨F, ρ, R, h⟩ := tM_at h
        unfold iRng2
        refine tM_bnd R h fun xs ρ1 vs F1 H1 s1 R1 rs q1 => ?_
        split at q1
        · rename_i i j
          cases ok : (okRg i && okRg j) with
          | false => rw [ok] at q1; exact q1.elim
          | true =>
            rw [ok] at q1
            rw [Bool.and_eq_true] at ok
            obtain ⟨k1, k2⟩ := okRg_at ok.1
            obtain ⟨k3, k4⟩ := okRg_at ok.2
            exact ⟨i, j, reps_int2 rs, ⟨k1, k2, k3, k4⟩, src_fin (as := []) R1 q1 rfl no_as src_rg1⟩
        · exact q1.elim
      · split
        · rename_i e1
          obtain ⟨es, k, pt, rfl⟩ := isTup_at (ht rfl)
          cases of_decide_eq_true e1
          refine PI.imp (RZ.pi_zipA hg hm (ho.opns (B := B) (W0 := W0) (L := L) (T := T) [a, b] u) (star_of hs) (back1s hs2)) fun σ H Q h => ?_
          obtain ⟨F, ρ, R, h⟩ := tM_at h
          unfold RZ.iZipA
          refine tM_bnd R h fun ps ρ1 vs F1 H1 s1 R1 rs q1 => ?_
          split at q1
          · rename_i p q
            obtain ⟨v, w, rfl, r1, r2⟩ := opsR2 rs
            unfold srcZp at q1
            cases hT : opT p with
            | some xs =>
              cases hT2 : opT q with
              | none => rw [hT, hT2] at q1; exact q1.elim
              | some ys =>
                rw [hT, hT2] at q1
                obtain ⟨a, rfl, hpl, ⟨vs, k1, k2⟩, hl⟩ := opT_at r1 hT
                obtain ⟨b, rfl, hpl2, ⟨ws, k3, k4⟩, hl2⟩ := opT_at r2 hT2
                exact ⟨a, b, vs, ws, rfl, .inr ⟨k1, k3, src_fin (as := []) R1 q1 (by rw [show (Src.zp p q).pl = opPl p ++ opPl q from rfl, hpl, hpl2] <;> rfl) no_as (src_zpT hT hT2 hl hl2)⟩⟩
            | none =>
              cases hT2 : opT q with
              | some ys => rw [hT, hT2] at q1; exact q1.elim
              | none =>
                rw [hT, hT2] at q1
                dsimp only at q1
                cases hL : opL ρ1 p with
                | none => rw [hL] at q1; exact q1.elim
                | some xs =>
                  cases hL2 : opL ρ1 q with
                  | none => rw [hL, hL2] at q1; exact q1.elim
                  | some ys =>
                    rw [hL, hL2] at q1
                    obtain ⟨a, as, rfl, hpl, hv, ⟨vs, k1, k2⟩, hl⟩ := opL_at R1 r1 hL
                    obtain ⟨b, bs, rfl, hpl2, hv2, ⟨ws, k3, k4⟩, hl2⟩ := opL_at R1 r2 hL2
                    refine ⟨a, b, vs, ws, rfl, .inl ⟨k1, k3, src_fin (as := as ++ bs) R1 q1 (by rw [List.map_append, hpl, hpl2] <;> rfl) (fun p hp => ?_) (src_zpL hT hT2 (fun l => hl l.left) (fun l => hl2 l.right))⟩⟩
                    rcases List.mem_append.mp hp with hp | hp
                    · exact hv p hp
                    · exact hv2 p hp
          · exact q1.elim
        · exact stuck
        · exact ok_srcAny ho u _
  · rename_i x px a b d pos
    split
    · exact ok_srcAny ho u _
    · rename_i hx
      rw [Bool.and_eq_true, Bool.and_eq_true, Bool.and_eq_true] at hx
      obtain ⟨hb, hs, hs2, hs3⟩ := hx
      obtain ⟨hg, hm⟩ := bi_at u.toUC hb
      split
      · rename_i e1
        cases of_decide_eq_true e1
        refine PI.imp (pi_range3 hg hm (ho.args (B := B) (W0 := W0) (L := L) (T := T) [a, b, d] u) (star_of hs) (back2s hs2 hs3)) fun σ H Q h => ?_
        obtain ⟨F, ρ, R, h⟩ := tM_at h
        unfold iRng3
        refine tM_bnd R h fun xs ρ1 vs F1 H1 s1 R1 rs q1 => ?_
        split at q1
        · rename_i i j k
          cases ok : (decide (k ≠ 0) && (decide (k.natAbs < 1073741824) && Builtin.Range.small i j k)) with
          | false => rw [ok] at q1; exact q1.elim
          | true =>
            rw [ok] at q1
            rw [Bool.and_eq_true, Bool.and_eq_true] at ok
            refine ⟨i, j, k, (Builtin.Range.rangeSize i j k).toNat, reps_int3 rs, ⟨of_decide_eq_true ok.1, of_decide_eq_true ok.2.1, ok.2.2, ?_⟩, src_fin (as := []) R1 q1 rfl no_as src_rg⟩
            have := rangeSize_nn i j k
            omega
        · exact q1.elim
      · exact ok_srcAny ho u _
  · exact ok_srcAny ho u _
end
end PV
end

section
set_option maxHeartbeats 2000000
/-! List comprehensions. -/
namespace PV
open PySem PySem.Spec L2
open PyProof.Rows hiding St

/-! ### pins -/
def pinS (t : Sl) : Sl := match t with
  | .o x => .l x
  | t => t
def pin1 (ρ : Evm) (i : Nat) : Evm := match ρ[i]? with
  | some t => ρ.set i (pinS t)
  | none => ρ
def pinAll (ρ : Evm) : List Nat → Evm
  | [] => ρ
  | i :: r => pinAll (pin1 ρ i) r
def unpin1 (ρ0 ρ : Evm) (i : Nat) : Evm := match ρ0[i]?, ρ[i]? with
  | some t, some s => ρ.set i (bk t s)
  | _, _ => ρ
def unpin (ρ0 ρ : Evm) : List Nat → Evm
  | [] => ρ
  | i :: r => unpin ρ0 (unpin1 ρ0 ρ i) r
def allOwn (ρ : Evm) (pl : List Nat) : Bool := decide pl.Nodup && pl.all fun i => match ρ[i]? with
  | some (.o _) => true
  | some (.l _) => true
  | _ => false
def wipeOk (ρ : Evm) (vs : List Nat) : Bool := vs.all fun i => match ρ[i]? with
  | some .e => true
  | some (.d _) => true
  | _ => false
def wipeD (ρ : Evm) : List Nat → Evm
  | [] => ρ
  | v :: vs => (wipeD ρ vs).set v .e
def rest (ρ0 ρ : Evm) : List Nat → Evm
  | [] => ρ
  | v :: vs => match ρ0[v]? with
    | some t => (rest ρ0 ρ vs).set v t
    | none => rest ρ0 ρ vs

/-! ### the evaluator's comprehension -/
def C.inner (c : C) (scope : Scope) : C := { c with sc := relS scope c.sc, fq := fun x => scope.names.lookup x == some .cell, lm := false, act := none, exn := none }
def ownOf (c : C) : List (Str × NameKind) → List (Str × Nat)
  | [] => []
  | (x, .local) :: r => (match c.slot x with
    | some i => (x, i) :: ownOf c r
    | none => ownOf c r)
  | (x, .cell) :: r => (match c.slot x with
    | some i => (x, i) :: ownOf c r
    | none => ownOf c r)
  | _ :: r => ownOf c r
/-- how many turns there may be -/
def srcN (ρ : Evm) : Src → Nat
  | .li p => (match opT p with
    | some xs => xs.length
    | none => (match opL ρ p with
      | some xs => xs.length
      | none => 0))
  | .rg _ _ n => n
  | .sr x => x.cps.size
  | .zp p _ => (match opT p with
    | some xs => xs.length
    | none => (match opL ρ p with
      | some xs => xs.length
      | none => 0))
  | .en p => (match opT p with
    | some xs => xs.length
    | none => (match opL ρ p with
      | some xs => xs.length
      | none => 0))
  | .rv _ n => n
def walk (s : Src) (vs : List Nat) (step : List D → D → M (List D)) : Nat → Nat → List D → M (List D)
  | 0, _, _, _ => .stk
  | k + 1, i, acc, ρ => (match srcAt ρ s i with
    | none => .stk
    | some none => .ok acc ρ
    | some (some d) => (match step acc d ρ with
      | .ok acc' ρ' => (match wipeOk ρ' vs with
        | true => walk s vs step k (i + 1) acc' (wipeD ρ' vs)
        | false => .stk)
      | _ => .stk))
def addA (acc : List D) (y : D) : M (List D) := match decide (acc.length < sizeLine) with
  | true => pure (acc ++ [y])
  | false => stk
section
variable (o : Ops)
def tsts (c : C) : List Expr → M Bool
  | [] => pure true
  | [e] => o.tst c e
  | _ => stk
def lcStep (c : C) (vs : List Nat) (elt tg : Expr) (ifs : List Expr) (acc : List D) (d : D) : M (List D) :=
  bnd (bindN 3 c (fun j => vs.contains j) tg d) fun _ => bnd (tsts o c ifs) fun b => match b with
    | true => bnd (o.ev c elt) fun r => addA acc r.1
    | false => pure acc
/-- a walk over s, the names vs its own: from here, back here -/
def walkAt (kf : Nat) (s : Src) (vs : List Nat) (step : List D → D → M (List D)) (acc : List D) : M (List D) := fun ρ => match allOwn ρ s.pl && wipeOk ρ vs with
  | true => (match walk s vs step (srcN ρ s + kf) 0 acc (wipeD (pinAll ρ s.pl) vs) with
    | .ok acc' ρ' => .ok acc' (rest ρ (unpin ρ ρ' s.pl) vs)
    | _ => .stk)
  | false => .stk
def evLc (c : C) (elt tg iter : Expr) (ifs : List Expr) (scope : Scope) : M (D × Bool) :=
  let own := ownOf c scope.names
  match !c.hot && (blkC c.N c.sc scope own && (notSet iter && decide (ifs.length ≤ 1))) with
  | true => bnd (evSrc o c (isTup tg) iter) fun s => bnd (walkAt c.tf s (own.map (·.2)) (lcStep o (c.inner scope) (own.map (·.2)) elt tg ifs) []) fun acc => pure (.lst acc, true)
  | false => stk
/-- a turn, its middle K -/
def lcStepK (c : C) (vs : List Nat) (tg : Expr) (ifs : List Expr) (K : List D → M (List D)) (acc : List D) (d : D) : M (List D) :=
  bnd (bindN 3 c (fun j => vs.contains j) tg d) fun _ => bnd (tsts o c ifs) fun b => match b with
    | true => K acc
    | false => pure acc
/-- the names of a target -/
def tgVs (c : C) : Expr → List Nat
  | .Name y _ => (match c.tgt y with
    | some i => [i]
    | none => [])
  | _ => []
/-- [elt for tg in iter if .. for tg1 in iter1 if ..], tg1 a name -/
def evLc2 (c : C) (elt tg iter : Expr) (ifs : List Expr) (tg1 iter1 : Expr) (ifs1 : List Expr) (scope : Scope) : M (D × Bool) :=
  let vs := (ownOf c scope.names).map (·.2)
  let ci := c.inner scope
  match !c.hot && (blkC c.N c.sc scope (ownOf c scope.names) && ((notSet iter && decide (ifs.length ≤ 1)) && ((notSet iter1 && decide (ifs1.length ≤ 1)) && (tgVs ci tg1).all fun i => vs.contains i))) with
  | true => bnd (evSrc o c (isTup tg) iter) fun s => bnd (walkAt c.tf s vs (lcStepK o ci vs tg ifs fun acc => bnd (evSrc o ci (isTup tg1) iter1) fun s1 => walkAt c.tf s1 (tgVs ci tg1) (lcStep o ci (tgVs ci tg1) elt tg1 ifs1) acc) []) fun acc => pure (.lst acc, true)
  | false => stk
/-- a comprehension within an except suite, over a list -/
def evLcH (c : C) (elt tg iter : Expr) (ifs : List Expr) (scope : Scope) : M (D × Bool) :=
  let own := ownOf c scope.names
  match c.hot && (blkC c.N c.sc scope own && (notSet iter && decide (ifs.length ≤ 1))) with
  | true => bnd (srcH o c iter) fun s => bnd (walkAt c.tf s (own.map (·.2)) (lcStep o (c.inner scope) (own.map (·.2)) elt tg ifs) []) fun acc => pure (.lst acc, true)
  | false => stk
end

/-! ### the relation through these -/
section
variable {K : PySem.W.Frag} {mg : Str → Option Value} {B : Hp} {W0 : Zx} {L : List (Nat × Addr)} {T : List (Addr × D)} {F F' : Fz} {H H' : Hp} {ρ ρ2 ρ' : Evm} {σ σ2 : L2.St}
/-- other names' slots -/
theorem Rl.patch {Z : Zt} (R : Rl Z F ρ σ H) {vs : List Nat} (hl : ρ2.length = σ2.length) (out : ∀ j, j ∉ vs → ρ2[j]? = ρ[j]? ∧ σ2[j]? = σ[j]?) (inn : ∀ j ∈ vs, ∀ s w, ρ2[j]? = some s → σ2[j]? = some w → s.own = false ∧ SlOk Z F H s w)
    (np : ∀ j ∈ vs, ∀ s, ρ[j]? = some s → s.pin = false) : Rl Z F ρ2 σ2 H := by
  have own : ∀ (j : Nat) s, ρ2[j]? = some s → s.own = true → ∀ w, σ2[j]? = some w → ρ[j]? = some s ∧ σ[j]? = some w := by
    intro j s h ho w hw
    by_cases hj : j ∈ vs
    · have := (inn j hj s w h hw).1
      rw [this] at ho; cases ho
    · obtain ⟨a, b⟩ := out j hj
      exact ⟨a ▸ h, b ▸ hw⟩
  refine ⟨hl, fun j s w h1 h2 => ?_, fun i j s t a h1 h2 h3 h4 h5 h6 => ?_, fun p hp => ?_, R.old, R.dom, R.live, fun p hp => ?_, R.tab, R.stp0, R.hb, R.nfz, R.wn⟩
  · by_cases hj : j ∈ vs
    · exact (inn j hj s w h1 h2).2
    · obtain ⟨a, b⟩ := out j hj
      exact R.sl j s w (a ▸ h1) (b ▸ h2)
  · obtain ⟨a1, b1⟩ := own i s h1 h3 _ h5
    obtain ⟨a2, b2⟩ := own j t h2 h4 _ h6
    exact R.sep i j s t a a1 a2 h3 h4 b1 b2
  · obtain ⟨⟨s, hs, hpn⟩, hv⟩ := R.pin p hp
    have hj : p.1 ∉ vs := fun z => by have := np _ z s hs; rw [this] at hpn; cases hpn
    obtain ⟨a, b⟩ := out _ hj
    rw [a, b]
    exact ⟨⟨s, hs, hpn⟩, hv⟩
  · obtain ⟨k1, k2, k3, k4⟩ := R.kept p hp
    refine ⟨k1, k2, k3, fun j s h1 h2 h3 => ?_⟩
    obtain ⟨a, b⟩ := own j s h1 h2 _ h3
    exact k4 j s a h2 b
theorem wipeD_len (ρ : Evm) : ∀ vs : List Nat, (wipeD ρ vs).length = ρ.length
  | [] => rfl
  | v :: vs => by unfold wipeD; rw [List.length_set, wipeD_len ρ vs]
theorem wipeD_out {i : Nat} : ∀ {vs : List Nat}, i ∉ vs → (wipeD ρ vs)[i]? = ρ[i]?
  | [], _ => rfl
  | v :: vs, h => by
    have h1 : v ≠ i := fun e => h (by rw [e]; exact List.mem_cons_self)
    have h2 : i ∉ vs := fun m => h (List.mem_cons_of_mem _ m)
    unfold wipeD
    rw [List.getElem?_set_ne h1]
    exact wipeD_out h2
theorem wipeD_in {i : Nat} {s : Sl} : ∀ {vs : List Nat}, i ∈ vs → (wipeD ρ vs)[i]? = some s → s = .e
  | [], h, _ => by simp at h
  | v :: vs, h, e => by
    unfold wipeD at e
    by_cases hv : v = i
    · subst hv
      by_cases hl : v < (wipeD ρ vs).length
      · rw [List.getElem?_set_self hl] at e; cases e; rfl
      · rw [List.getElem?_eq_none (by simpa using hl)] at e; cases e
    · rw [List.getElem?_set_ne hv] at e
      exact wipeD_in (by simpa [Ne.symm hv] using h) e
theorem wipeOk_at {vs : List Nat} (h : wipeOk ρ vs = true) : ∀ i ∈ vs, ∀ s, ρ[i]? = some s → s.own = false ∧ s.pin = false := by
  intro i hi s hs
  have := List.all_eq_true.mp h i hi
  rw [hs] at this
  cases s <;> first | exact ⟨rfl, rfl⟩ | cases this
theorem Rl.wipe {Z : Zt} (R : Rl Z F ρ σ H) {vs : List Nat} (h : wipeOk ρ vs = true) : Rl Z F (wipeD ρ vs) (L2.wipe σ vs) H :=
  R.patch (vs := vs) (by rw [wipeD_len, wipe_length, R.len]) (fun j hj => ⟨wipeD_out hj, wipe_out hj⟩) (fun j hj s w h1 h2 => by
    cases wipeD_in hj h1
    exact ⟨rfl, trivial⟩) fun j hj s hs => (wipeOk_at h j hj s hs).2
theorem rest_len (ρ0 ρ : Evm) : ∀ vs : List Nat, (rest ρ0 ρ vs).length = ρ.length
  | [] => rfl
  | v :: vs => by
    unfold rest
    split
    · rw [List.length_set, rest_len ρ0 ρ vs]
    · exact rest_len ρ0 ρ vs
theorem rest_out {ρ0 : Evm} {i : Nat} : ∀ {vs : List Nat}, i ∉ vs → (rest ρ0 ρ vs)[i]? = ρ[i]?
  | [], _ => rfl
  | v :: vs, h => by
    have h1 : v ≠ i := fun e => h (by rw [e]; exact List.mem_cons_self)
    have h2 : i ∉ vs := fun m => h (List.mem_cons_of_mem _ m)
    unfold rest
    split
    · rw [List.getElem?_set_ne h1]; exact rest_out h2
    · exact rest_out h2
theorem rest_in {ρ0 : Evm} {i : Nat} {t s : Sl} : ∀ {vs : List Nat}, i ∈ vs → ρ0[i]? = some t → (rest ρ0 ρ vs)[i]? = some s → s = t
  | [], h, _, _ => by simp at h
  | v :: vs, h, e0, e => by
    unfold rest at e
    by_cases hv : v = i
    · subst hv
      rw [e0] at e
      dsimp only at e
      by_cases hl : v < (rest ρ0 ρ vs).length
      · rw [List.getElem?_set_self hl] at e; cases e; rfl
      · rw [List.getElem?_eq_none (by simpa using hl)] at e; cases e
    · have hi : i ∈ vs := by simpa [Ne.symm hv] using h
      split at e
      · rw [List.getElem?_set_ne hv] at e; exact rest_in hi e0 e
      · exact rest_in hi e0 e
theorem SlOk.stp {Z : Zt} {s : Sl} {w : Option V} (h : SlOk Z F H s w) (ho : s.own = false) (st : Stp F H F' H') : SlOk Z F' H' s w := h.step st fun a h1 => by rw [ho] at h1; cases h1
/-- the comprehension's own names are forgotten, the old ones are back -/
theorem Rl.unwipe {Z : Zt} {ρ0 : Evm} {F0 : Fz} {H0 : Hp} (hl0 : ρ0.length = σ.length) (sl0 : ∀ (j : Nat) s w, ρ0[j]? = some s → σ[j]? = some w → SlOk Z F0 H0 s w) (st : Stp F0 H0 F H) {vs : List Nat} (h0 : wipeOk ρ0 vs = true) (R : Rl Z F ρ (L2.wipe σ vs) H) (h : wipeOk ρ vs = true) : Rl Z F (rest ρ0 ρ vs) σ H :=
  R.patch (vs := vs) (by rw [rest_len, R.len, wipe_length]) (fun j hj => ⟨rest_out hj, (wipe_out hj).symm⟩) (fun j hj s w h1 h2 => by
    have hl : j < ρ0.length := by rw [hl0]; exact (List.getElem?_eq_some_iff.mp h2).1
    have e0 : ρ0[j]? = some ρ0[j] := List.getElem?_eq_getElem hl
    cases rest_in hj e0 h1
    obtain ⟨a, b⟩ := wipeOk_at h0 j hj _ e0
    exact ⟨a, (sl0 j _ w e0 h2).stp a st⟩) fun j hj s hs => (wipeOk_at h j hj s hs).2
theorem wipeOk_of {vs : List Nat} (e : ∀ i ∈ vs, ρ2[i]? = ρ[i]?) (h : wipeOk ρ vs = true) : wipeOk ρ2 vs = true :=
  List.all_eq_true.mpr fun i hi => by rw [e i hi]; exact List.all_eq_true.mp h i hi
theorem wipeOk_e {vs : List Nat} (hl : ∀ i ∈ vs, ∃ s, ρ[i]? = some s) (e : ∀ i ∈ vs, ∀ s, ρ[i]? = some s → s = .e) : wipeOk ρ vs = true :=
  List.all_eq_true.mpr fun i hi => by
    obtain ⟨s, hs⟩ := hl i hi
    rw [hs, e i hi s hs]
theorem wipe_in {i : Nat} : ∀ {vs : List Nat}, i ∈ vs → i < σ.length → (L2.wipe σ vs)[i]? = some none
  | [], h, _ => by simp at h
  | v :: vs, h, hl => by
    unfold L2.wipe
    by_cases hv : v = i
    · subst hv
      rw [List.getElem?_set_self (by rw [wipe_length]; exact hl)]
    · rw [List.getElem?_set_ne hv]
      exact wipe_in (by simpa [Ne.symm hv] using h) hl
theorem wipe_chg {vs : List Nat} {σ3 : L2.St} (h : Chg (fun j => vs.contains j) (L2.wipe σ vs) σ3) : L2.wipe σ3 vs = L2.wipe σ vs := by
  refine List.ext_getElem? fun j => ?_
  by_cases hj : j ∈ vs
  · by_cases hl : j < σ.length
    · rw [wipe_in hj hl, wipe_in hj (by rw [h.1, wipe_length]; exact hl)]
    · rw [List.getElem?_eq_none (by rw [wipe_length, h.1, wipe_length]; omega), List.getElem?_eq_none (by rw [wipe_length]; omega)]
  · rw [wipe_out hj]
    exact h.2 j (by simpa using hj)
theorem pinAll_out {j : Nat} : ∀ {is : List Nat} {ρ : Evm}, j ∉ is → (pinAll ρ is)[j]? = ρ[j]?
  | [], _, _ => rfl
  | i :: is, ρ, h => by
    unfold pinAll
    rw [pinAll_out fun z => h (List.mem_cons_of_mem _ z)]
    unfold PV.pin1
    split
    · rw [List.getElem?_set_ne fun e => h (by rw [e]; exact List.mem_cons_self)]
    · rfl
/-- a thing of the walk's own: at its start, as it grows -/
theorem Rl.tempNew (R : Rl ⟨K, mg, B, W0, L, T⟩ F ρ σ H) {a : Addr} {ob : HO} {x : D} (hn : H a = none) (hr : HoRep K mg F (upd H a ob) ob x) : Rl ⟨K, mg, B, W0, L, (a, x) :: T⟩ F ρ σ (upd H a ob) := by
  have R1 := R.grow (grow_own (F := F) (o := ob) hn) (live_own (fun ps z => by subst z; cases hr) R.live)
  refine ⟨R1.len, R1.sl, R1.sep, R1.pin, R1.old, R1.dom, R1.live, fun p hp => ?_, R1.tab, R1.stp0, R1.hb, R1.nfz, R1.wn⟩
  rcases List.mem_cons.mp hp with e | hp
  · subst e
    refine ⟨⟨ob, upd_same, hr⟩, not_fz R.live hn, ?_, fun j s h1 h2 h3 => ?_⟩
    · show B a = none
      cases q : B a with
      | none => rfl
      | some ob' =>
        have z := R.dom a (show (B a).isSome = true by rw [q] <;> rfl)
        rw [hn] at z; cases z
    · obtain ⟨v, hv, so⟩ := R.slot h1
      rw [h3] at hv
      cases hv
      obtain ⟨a', x', e', ow', _⟩ := so.own_some h2
      cases e'
      have z := ow'.some
      rw [hn] at z; cases z
  · exact R1.kept p hp
theorem Rl.tempEnd {a : Addr} {x : D} (R : Rl ⟨K, mg, B, W0, L, (a, x) :: T⟩ F ρ σ H) (hT : ∀ p ∈ T, p.1 ≠ a) : Rl ⟨K, mg, B, W0, L, T⟩ F ρ σ H ∧ Uq ⟨K, mg, B, W0, L, T⟩ F H ρ σ (.ref a) x := by
  refine ⟨⟨R.len, R.sl, R.sep, R.pin, R.old, R.dom, R.live, fun p hp => R.kept p (List.mem_cons_of_mem _ hp), R.tab, R.stp0, R.hb, R.nfz, R.wn⟩, ?_⟩
  obtain ⟨k1, k2, k3, k4⟩ := R.kept (a, x) List.mem_cons_self
  exact ⟨a, rfl, k1, k2, k3, k4, hT⟩
theorem Rl.tempSet {a : Addr} {x y : D} {ob : HO} (R : Rl ⟨K, mg, B, W0, L, (a, x) :: T⟩ F ρ σ H) (hT : ∀ p ∈ T, p.1 ≠ a) (hr : HoRep K mg F (upd H a ob) ob y) : Rl ⟨K, mg, B, W0, L, (a, y) :: T⟩ F ρ σ (upd H a ob) := by
  obtain ⟨k1, k2, k3, k4⟩ := R.kept (a, x) List.mem_cons_self
  have st : Stp F H F (upd H a ob) := stp_own k2
  have hon : ∀ ps, ob ≠ .tbl ps := fun ps z => by subst z; cases hr
  refine ⟨R.len, fun j s w h1 h2 => (R.sl j s w h1 h2).step st fun b ho hw nb => ⟨upd_ne fun e => ?_, nb⟩, R.sep, R.pin, fun b o h1 h2 h3 => ?_, fun b h => upd_some (R.dom b h), fun b h => upd_nt hon (R.live b h), fun p hp => ?_, R.tab.of fun b o' hb htc => ?_, R.stp0.trans st, R.hb, R.nfz, fun b h => upd_nt hon (R.wn b h)⟩
  · subst e
    subst hw
    exact k4 j s h1 ho h2
  · rw [upd_ne fun e => by subst e; rw [k3] at h1; cases h1]
    exact R.old b o h1 h2 h3
  · rcases List.mem_cons.mp hp with e | hp
    · subst e
      exact ⟨⟨ob, upd_same, hr⟩, k2, k3, k4⟩
    · obtain ⟨q1, q2, q3, q4⟩ := R.kept p (List.mem_cons_of_mem _ hp)
      exact ⟨q1.step (upd_ne (hT p hp)) st, q2, q3, q4⟩
  · rw [upd_ne fun e => ?_]
    · exact hb
    · subst e
      obtain ⟨o2, e2, hr2⟩ := k1
      dsimp only at e2
      rw [hb] at e2
      cases e2
      exact hr2.notTC _ _ htc
/-! ### pins come and go -/
theorem Rl.pinsOf {L' : List (Nat × Addr)} (R : Rl ⟨K, mg, B, W0, L, T⟩ F ρ σ H) (h : ∀ p ∈ L', p ∈ L) : Rl ⟨K, mg, B, W0, L', T⟩ F ρ σ H :=
  ⟨R.len, R.sl, R.sep, fun p hp => R.pin p (hp.elim (fun z => .inl (h p z)) .inr), R.old, R.dom, R.live, R.kept, R.tab, R.stp0, R.hb, R.nfz, R.wn⟩
theorem pinS_own {s : Sl} (h : s.own = true) : (pinS s).own = true ∧ (pinS s).pin = true := by
  cases s <;> first | exact ⟨rfl, rfl⟩ | cases h
theorem Rl.pin1 (R : Rl ⟨K, mg, B, W0, L, T⟩ F ρ σ H) {i : Nat} {a : Addr} {s : Sl} (hs : ρ[i]? = some s) (ho : s.own = true) (hv : σ[i]? = some (some (.ref a))) : Rl ⟨K, mg, B, W0, (i, a) :: L, T⟩ F (PV.pin1 ρ i) σ H := by
  have hi : i < ρ.length := (List.getElem?_eq_some_iff.mp hs).1
  have e : PV.pin1 ρ i = ρ.set i (pinS s) := by unfold PV.pin1; rw [hs]
  rw [e]
  have own : ∀ (j : Nat) t, (ρ.set i (pinS s))[j]? = some t → t.own = true → ∃ t0, ρ[j]? = some t0 ∧ t0.own = true := by
    intro j t h hto
    by_cases hj : j = i
    · exact ⟨s, by rw [hj]; exact hs, ho⟩
    · rw [List.getElem?_set_ne (Ne.symm hj)] at h; exact ⟨t, h, hto⟩
  refine ⟨by simpa using R.len, fun j t w h1 h2 => ?_, fun j k t t' b h1 h2 h3 h4 h5 h6 => ?_, fun p hp => ?_, R.old, R.dom, R.live, fun p hp => ?_, R.tab, R.stp0, R.hb, R.nfz, R.wn⟩
  · by_cases hj : j = i
    · subst hj
      rw [List.getElem?_set_self hi] at h1
      cases h1
      have so := R.sl j s w hs h2
      cases s with
      | o x => obtain ⟨a, e, r, n, b⟩ := so; exact ⟨a, e, r, n, .inl b⟩
      | l x => exact so
      | _ => cases ho
    · rw [List.getElem?_set_ne (Ne.symm hj)] at h1
      exact R.sl j t w h1 h2
  · obtain ⟨t0, q1, q2⟩ := own j t h1 h3
    obtain ⟨t1, q3, q4⟩ := own k t' h2 h4
    exact R.sep j k t0 t1 b q1 q3 q2 q4 h5 h6
  · have hp2 : p = (i, a) ∨ Zt.Pin ⟨K, mg, B, W0, L, T⟩ p := by
      rcases hp with hp | hp
      · rcases List.mem_cons.mp hp with e | hp
        · exact .inl e
        · exact .inr (.inl hp)
      · exact .inr (.inr hp)
    rcases hp2 with e | hp
    · subst e
      exact ⟨⟨_, List.getElem?_set_self hi, (pinS_own ho).2⟩, hv⟩
    · obtain ⟨⟨t, ht, hpn⟩, hv2⟩ := R.pin p hp
      refine ⟨?_, hv2⟩
      by_cases hj : p.1 = i
      · exact ⟨pinS s, by rw [hj, List.getElem?_set_self hi], (pinS_own ho).2⟩
      · exact ⟨t, by rw [List.getElem?_set_ne (Ne.symm hj)]; exact ht, hpn⟩
  · obtain ⟨k1, k2, k3, k4⟩ := R.kept p hp
    refine ⟨k1, k2, k3, fun j t h1 h2 h3 => ?_⟩
    obtain ⟨t0, q1, q2⟩ := own j t h1 h2
    exact k4 j t0 q1 q2 h3
theorem Rl.unpinAt {i : Nat} {a : Addr} {ρ0 : Evm} {t : Sl} (R : Rl ⟨K, mg, B, W0, (i, a) :: L, T⟩ F ρ σ H) (h0 : ρ0[i]? = some t) (ho : t.own = true) (hb : t.pin = false → B a = none ∧ ∀ p, p ∈ L ∨ p ∈ W0.A → p.1 ≠ i) : Rl ⟨K, mg, B, W0, L, T⟩ F (PV.unpin1 ρ0 ρ i) σ H := by
  obtain ⟨⟨s, hs, hp⟩, hv⟩ := R.pin (i, a) (.inl List.mem_cons_self)
  dsimp only at hs hv
  have hi : i < ρ.length := (List.getElem?_eq_some_iff.mp hs).1
  have e : PV.unpin1 ρ0 ρ i = ρ.set i (bk t s) := by unfold PV.unpin1; rw [h0, hs]
  rw [e]
  have so := R.sl i s _ hs hv
  have new : SlOk ⟨K, mg, B, W0, L, T⟩ F H (bk t s) (some (.ref a)) ∧ ((bk t s).own = true → s.own = true) ∧ (t.pin = true → (bk t s).pin = true) := by
    cases t with
    | o y =>
      obtain ⟨hb, _⟩ := hb rfl
      cases s with
      | l x =>
        obtain ⟨a', e', r, n, b⟩ := so
        cases e'
        exact ⟨⟨a, rfl, r, n, hb⟩, fun _ => rfl, fun h => (by cases h)⟩
      | f x => exact ⟨so, fun h => (by cases h), fun h => (by cases h)⟩
      | x e => exact ⟨trivial, fun h => (by cases h), fun h => (by cases h)⟩
      | _ => cases hp
    | l y =>
      cases s with
      | l x => exact ⟨so, fun _ => rfl, fun _ => rfl⟩
      | f x => exact ⟨so, fun h => h, fun _ => rfl⟩
      | x e => exact ⟨so, fun h => h, fun _ => rfl⟩
      | _ => cases hp
    | _ => cases ho
  obtain ⟨n1, n2, n3⟩ := new
  have own : ∀ (j : Nat) t', (ρ.set i (bk t s))[j]? = some t' → t'.own = true → ∃ t0, ρ[j]? = some t0 ∧ t0.own = true := by
    intro j t' h hto
    by_cases hj : j = i
    · subst hj
      rw [List.getElem?_set_self hi] at h
      cases h
      exact ⟨s, hs, n2 hto⟩
    · rw [List.getElem?_set_ne (Ne.symm hj)] at h; exact ⟨t', h, hto⟩
  refine ⟨by simpa using R.len, fun j t' w h1 h2 => ?_, fun j k t1 t2 b h1 h2 h3 h4 h5 h6 => ?_, fun p hpm => ?_, R.old, R.dom, R.live, fun p hpm => ?_, R.tab, R.stp0, R.hb, R.nfz, R.wn⟩
  · by_cases hj : j = i
    · subst hj
      rw [List.getElem?_set_self hi] at h1
      cases h1
      rw [hv] at h2
      cases h2
      exact n1
    · rw [List.getElem?_set_ne (Ne.symm hj)] at h1
      exact R.sl j t' w h1 h2
  · obtain ⟨u1, q1, q2⟩ := own j t1 h1 h3
    obtain ⟨u2, q3, q4⟩ := own k t2 h2 h4
    exact R.sep j k u1 u2 b q1 q3 q2 q4 h5 h6
  · obtain ⟨⟨u, hu, hpn⟩, hv2⟩ := R.pin p (hpm.elim (fun z => .inl (List.mem_cons_of_mem _ z)) .inr)
    refine ⟨?_, hv2⟩
    by_cases hj : p.1 = i
    · refine ⟨bk t s, by rw [hj, List.getElem?_set_self hi], n3 ?_⟩
      cases ht : t.pin with
      | true => rfl
      | false => exact ((hb ht).2 p hpm hj).elim
    · exact ⟨u, by rw [List.getElem?_set_ne (Ne.symm hj)]; exact hu, hpn⟩
  · obtain ⟨k1, k2, k3, k4⟩ := R.kept p hpm
    refine ⟨k1, k2, k3, fun j t' h1 h2 h3 => ?_⟩
    obtain ⟨t0, q1, q2⟩ := own j t' h1 h2
    exact k4 j t0 q1 q2 h3
theorem pin1_ne {i j : Nat} (h : j ≠ i) : (PV.pin1 ρ i)[j]? = ρ[j]? := by
  unfold PV.pin1
  split
  · rw [List.getElem?_set_ne (Ne.symm h)]
  · rfl
theorem Rl.pins : ∀ (as : List (Nat × Addr)) {L : List (Nat × Addr)} {ρ : Evm}, Rl ⟨K, mg, B, W0, L, T⟩ F ρ σ H → (as.map (·.1)).Nodup → (∀ p ∈ as, σ[p.1]? = some (some (.ref p.2))) → (∀ p ∈ as, ∃ s, ρ[p.1]? = some s ∧ s.own = true) →
    Rl ⟨K, mg, B, W0, as ++ L, T⟩ F (pinAll ρ (as.map (·.1))) σ H
  | [], _, _, R, _, _, _ => R
  | (i, a) :: r, L, ρ, R, nd, hv, ho => by
    obtain ⟨s, hs, hso⟩ := ho (i, a) List.mem_cons_self
    have R1 := R.pin1 hs hso (hv (i, a) List.mem_cons_self)
    have nd' := List.nodup_cons.mp (show (i :: r.map (·.1)).Nodup from nd)
    refine (Rl.pins r R1 nd'.2 (fun p hp => hv p (List.mem_cons_of_mem _ hp)) fun p hp => ?_).pinsOf fun p hp => ?_
    · rw [pin1_ne fun e => nd'.1 (by have e' : p.1 = i := e; rw [← e']; exact List.mem_map_of_mem hp)]
      exact ho p (List.mem_cons_of_mem _ hp)
    · rcases List.mem_append.mp hp with hp | hp
      · rcases List.mem_cons.mp hp with e | hp
        · exact List.mem_append_right _ (by rw [e]; exact List.mem_cons_self)
        · exact List.mem_append_left _ hp
      · exact List.mem_append_right _ (List.mem_cons_of_mem _ hp)
theorem Rl.unpins {ρ0 : Evm} : ∀ (as : List (Nat × Addr)) {ρ : Evm}, Rl ⟨K, mg, B, W0, as ++ L, T⟩ F ρ σ H → (as.map (·.1)).Nodup → (∀ p ∈ as, ∃ t, ρ0[p.1]? = some t ∧ t.own = true ∧ (t.pin = false → B p.2 = none ∧ ∀ q, q ∈ L ∨ q ∈ W0.A → q.1 ≠ p.1)) →
    Rl ⟨K, mg, B, W0, L, T⟩ F (unpin ρ0 ρ (as.map (·.1))) σ H
  | [], _, R, _, _ => R
  | (i, a) :: r, ρ, R, nd, h => by
    obtain ⟨t, h1, h2, h3⟩ := h (i, a) List.mem_cons_self
    have nd' := List.nodup_cons.mp (show (i :: r.map (·.1)).Nodup from nd)
    have R1 : Rl ⟨K, mg, B, W0, r ++ L, T⟩ F (PV.unpin1 ρ0 ρ i) σ H := Rl.unpinAt R h1 h2 fun hp => ⟨(h3 hp).1, fun q hq => by
      rcases hq with hq | hq
      · rcases List.mem_append.mp hq with hq | hq
        · exact fun e => nd'.1 (by have e' : q.1 = i := e; rw [← e']; exact List.mem_map_of_mem hq)
        · exact (h3 hp).2 q (.inl hq)
      · exact (h3 hp).2 q (.inr hq)⟩
    exact Rl.unpins r R1 nd'.2 fun p hp => h p (List.mem_cons_of_mem _ hp)
theorem unpin1_ne {ρ0 : Evm} {i j : Nat} (h : j ≠ i) : (PV.unpin1 ρ0 ρ i)[j]? = ρ[j]? := by
  unfold PV.unpin1
  split
  · rw [List.getElem?_set_ne (Ne.symm h)]
  · rfl
theorem unpin_out {ρ0 : Evm} {j : Nat} : ∀ {is : List Nat} {ρ : Evm}, j ∉ is → (unpin ρ0 ρ is)[j]? = ρ[j]?
  | [], _, _ => rfl
  | i :: is, ρ, h => by
    unfold unpin
    rw [unpin_out fun z => h (List.mem_cons_of_mem _ z), unpin1_ne fun e => h (by rw [e]; exact List.mem_cons_self)]
theorem allOwn_at {pl : List Nat} (h : allOwn ρ pl = true) : pl.Nodup ∧ ∀ i ∈ pl, ∃ s, ρ[i]? = some s ∧ s.own = true := by
  unfold allOwn at h
  rw [Bool.and_eq_true] at h
  refine ⟨of_decide_eq_true h.1, fun i hi => ?_⟩
  have := List.all_eq_true.mp h.2 i hi
  split at this
  · rename_i e; exact ⟨_, e, rfl⟩
  · rename_i e; exact ⟨_, e, rfl⟩
  · cases this
end

section
variable {X : Cx} {c : C} {W : WX} {B : Hp} {W0 : Zx} {L : List (Nat × Addr)} {T : List (Addr × D)} {o : Ops}
abbrev WF : WX := fun _ _ _ _ => False
theorem UD.blk (u : UD X c W W0) (hh : c.hot = false) (s : Shared) (H : Hp) (scope : Scope) (cl : List (Str × Addr)) (Cc : Addr) (fp : List Addr) : UD (X.blk s H scope (compEnvC scope cl Cc X.env) fp) (c.inner scope) WF W0 where
  N := u.N
  nd := u.nd
  sc := by show relS scope X.env.scope = relS scope c.sc; rw [u.sc]
  un := u.un
  tk := fun v s' ⟨a, B, sI, pins, σ, H, cls, d, e, I, nb, up, sky, na, os, ag, w⟩ => w.elim
  gl := u.gl
  calm := fun h => u.calm h
  fn := fun x i h => by
    unfold C.tgt at h
    split at h
    · rename_i e
      right
      show (relS scope X.env.scope).names.lookup x = _
      rw [u.sc]
      exact e
    · split at h
      · rename_i e; exact .inl e
      · cases h
    · cases h
  ht := fun h => by
    have h : c.hot = true := h
    rw [hh] at h; cases h
  cal := fun h => by
    obtain ⟨k, h1, h2⟩ := u.cal h
    exact ⟨k, h1, h2.mono (Nat.le_add_right _ _)⟩
  lam := fun h => by cases h
  act := fun i r h => by cases h
  exn := fun i e h => by cases h
abbrev tEvX (X : Cx) (B : Hp) (W0 : Zx) (m : M (D × Bool)) : TE := fun σ H Q => ∃ L T, tEv (zt X B W0 L T) WF m σ H Q
abbrev tTstX (X : Cx) (B : Hp) (W0 : Zx) (m : M Bool) : TT := fun σ H Q => ∃ L T, tTst (zt X B W0 L T) WF m σ H Q
abbrev tBndX (X : Cx) (B : Hp) (W0 : Zx) (ok : Nat → Bool) (f : D → M Unit) : TG := fun v σ H Q => ∃ L T, tBnd (zt X B W0 L T) ok f v σ H Q
theorem ok_tsts (ho : Ok o) (u : UD X c W W0) (ifs : List Expr) (hl : ifs.length ≤ 1) : PTs X ifs (tTst (zt X B W0 L T) W (tsts o c ifs)) := by
  match ifs, hl with
  | [], _ =>
    refine ⟨fun pins s σ H Q I h => pts_nil.run pins s σ H Q I ?_⟩
    obtain ⟨F, ρ, R, h⟩ := tM_at h
    exact h true F H (.refl _ _) R rfl
  | [e], _ => exact pts_one (ho.tst (B := B) (W0 := W0) (L := L) (T := T) e u)
/-- one turn of a walk -/
theorem walk_turn {Z Z' : Zt} {F1 F : Fz} {H1 H : Hp} {J : It} {s : Src} {as : List (Nat × Addr)} {vs : List Nat} {step : List D → D → M (List D)} {m i : Nat} {acc accf : List D} {ρ ρf : Evm} {σ : L2.St} (so : SrcOk Z F1 H1 J s as) (l : Later Z F1 H1 as Z' F H ρ σ) (e : walk s vs step m i acc ρ = .ok accf ρf) :
    (J.stop i H ∧ accf = acc ∧ ρf = ρ) ∨ ∃ k d acc' ρ', m = k + 1 ∧ J.go i H ∧ (∀ x H2, J.yld i H x H2 → ∃ F2, Stp F H F2 H2 ∧ Rl Z' F2 ρ σ H2 ∧ Rep Z.K Z.mg F2 H2 x d) ∧ step acc d ρ = .ok acc' ρ' ∧ wipeOk ρ' vs = true ∧ walk s vs step k (i + 1) acc' (wipeD ρ' vs) = .ok accf ρf := by
  cases m with
  | zero => cases e
  | succ k =>
    unfold walk at e
    obtain ⟨h1, h2⟩ := so.at_ i l
    cases es : srcAt ρ s i with
    | none => rw [es] at e; cases e
    | some r =>
      cases r with
      | none =>
        rw [es] at e
        cases e
        exact .inl ⟨h1 es, rfl, rfl⟩
      | some d =>
        rw [es] at e
        dsimp only at e
        obtain ⟨g, y⟩ := h2 d es
        cases e2 : step acc d ρ with
        | ok acc' ρ' =>
          rw [e2] at e
          dsimp only at e
          cases e3 : wipeOk ρ' vs with
          | true =>
            rw [e3] at e
            exact .inr ⟨k, d, acc', ρ', rfl, g, y, e2, e3, e⟩
          | false => rw [e3] at e; cases e
        | exc ex ρ' => rw [e2] at e; cases e
        | stk => rw [e2] at e; cases e
theorem addA_at {acc acc' : List D} {y : D} {ρ ρ' : Evm} (h : addA acc y ρ = .ok acc' ρ') : acc.length < sizeLine ∧ acc' = acc ++ [y] ∧ ρ' = ρ := by
  unfold addA at h
  cases e : decide (acc.length < sizeLine) with
  | true => rw [e] at h; cases h; exact ⟨of_decide_eq_true e, rfl, rfl⟩
  | false => rw [e] at h; cases h
/-- what a comprehension's element does, with the list so far at a -/
theorem elt_rd {vs : List Nat} {a : Addr} {acc acc' : List D} {elt : Expr} {F : Fz} {ρ ρ' : Evm} {σ : L2.St} {H : Hp} {Nx : Hp → Prop} (hT : ∀ p ∈ T, p.1 ≠ a) (R : Rl (zt X B W0 L ((a, .lst acc) :: T)) F ρ σ H) (e : bnd (o.ev c elt) (fun r => addA acc r.1) ρ = .ok acc' ρ')
    (k : ∀ F' H', Stp F H F' H' → Rl (zt X B W0 L ((a, .lst acc') :: T)) F' ρ' σ H' → Nx H') :
    tEv (zt X B W0 L ((a, .lst acc) :: T)) WF (o.ev c elt) σ H fun y H4 => ∃ accV, H4 a = some (.lst accV) ∧ accV.length < sizeLine ∧ Nx (upd H4 a (.lst (accV ++ [y]))) := by
  refine tM_of R ?_
  unfold bnd at e
  cases ee : o.ev c elt ρ with
  | exc ex ρ1 => rw [ee] at e; cases e
  | stk => rw [ee] at e; cases e
  | ok r ρ1 =>
    rw [ee] at e
    dsimp only at e
    obtain ⟨hz, rfl, rfl⟩ := addA_at e
    intro y F4 H4 s4 R4 rr
    obtain ⟨F5, s5, R5, rp⟩ := R4.settle rr
    obtain ⟨⟨ob, hob, hr⟩, nf, _⟩ := R5.kept (a, .lst acc) List.mem_cons_self
    cases hr with
    | lst hr =>
      rename_i accV
      refine ⟨accV, hob, by rw [hr.length]; exact hz, k F5 _ ((s4.trans s5).trans (stp_own nf)) (R5.tempSet hT (.lst ((hr.append (.cons rp .nil)).step (stp_own nf))))⟩
theorem lc_rd {kf : Nat} {vs : List Nat} {elt tg : Expr} {ifs : List Expr} {s : Src} {J : It} {accf : List D} {F1 : Fz} {ρ1 ρf : Evm} {σ : L2.St} {H1 : Hp} {Q : VK} (R1 : Rl (zt X B W0 L T) F1 ρ1 σ H1) (sr : SrcR (zt X B W0 L T) F1 H1 ρ1 σ J s)
    (e : walkAt kf s vs (lcStep o c vs elt tg ifs) [] ρ1 = .ok accf ρf) (hq : Pst (zt X B W0 L T) W (RR (zt X B W0 L T)) F1 σ H1 Q (Res.ok (D.lst accf, true) ρf)) :
    ∀ a, H1 a = none → ∃ Wm : Nat → Nat → Hp → Prop, (∃ m, Wm 0 m (upd H1 a (.lst []))) ∧ ∀ i m H, Wm i m H →
      (J.stop i H ∧ Q (.ref a) H) ∨ (J.go i H ∧ ∃ Nx : Hp → Prop, (∀ H', Nx H' → ∃ m', m' < m ∧ Wm (i + 1) m' H') ∧ ∀ x H', J.yld i H x H' → tBndX X B W0 (fun j => vs.contains j) (bindN 3 c (fun j => vs.contains j) tg) x (L2.wipe σ vs) H' fun σ2 H2 => L2.wipe σ2 vs = L2.wipe σ vs ∧
        tTstX X B W0 (tsts o c ifs) σ2 H2 fun b H3 => if b = true then tEvX X B W0 (o.ev c elt) σ2 H3 fun y H4 => ∃ acc, H4 a = some (.lst acc) ∧ acc.length < sizeLine ∧ Nx (upd H4 a (.lst (acc ++ [y]))) else Nx H3) := by
  intro a ha
  obtain ⟨as, hpl, hv, so⟩ := sr
  unfold walkAt at e
  cases hok : (allOwn ρ1 s.pl && wipeOk ρ1 vs) with
  | false => rw [hok] at e; cases e
  | true =>
    rw [hok] at e
    dsimp only at e
    rw [Bool.and_eq_true] at hok
    obtain ⟨nd, own⟩ := allOwn_at hok.1
    generalize srcN ρ1 s + kf = k0 at e
    cases ew : walk s vs (lcStep o c vs elt tg ifs) k0 0 [] (wipeD (pinAll ρ1 s.pl) vs) with
    | exc ex ρ' => rw [ew] at e; cases e
    | stk => rw [ew] at e; cases e
    | ok accf' ρ' =>
      rw [ew] at e
      dsimp only at e
      cases e
      have hvs : ∀ i ∈ vs, i < ρ1.length := fun i hi => by
        have := List.all_eq_true.mp hok.2 i hi
        cases q : ρ1[i]? with
        | none => rw [q] at this; cases this
        | some t => exact (List.getElem?_eq_some_iff.mp q).1
      have dis : ∀ i ∈ vs, i ∉ s.pl := fun i hi hp => by
        obtain ⟨t, ht, ho⟩ := own i hp
        rw [(wipeOk_at hok.2 i hi t ht).1] at ho; cases ho
      have hT : ∀ p ∈ T, p.1 ≠ a := fun p hp ep => by
        have z := (R1.kept p hp).1.some
        rw [ep, ha] at z; cases z
      have hw1 : wipeOk (pinAll ρ1 s.pl) vs = true := wipeOk_of (fun i hi => pinAll_out (dis i hi)) hok.2
      have Rp : Rl (zt X B W0 (as ++ L) T) F1 (pinAll ρ1 s.pl) σ H1 := by
        rw [← hpl]
        exact Rl.pins as R1 (by rw [hpl]; exact nd) hv fun p hp => own p.1 (by rw [← hpl]; exact List.mem_map_of_mem hp)
      have R2 : Rl (zt X B W0 (as ++ L) ((a, .lst []) :: T)) F1 (wipeD (pinAll ρ1 s.pl) vs) (L2.wipe σ vs) (upd H1 a (.lst [])) := (Rp.wipe hw1).tempNew ha (.lst .nil)
      refine ⟨fun i m H => ∃ acc ρ F, Rl (zt X B W0 (as ++ L) ((a, .lst acc) :: T)) F ρ (L2.wipe σ vs) H ∧ Stp F1 H1 F H ∧ (∀ j ∈ vs, ∀ t, ρ[j]? = some t → t = .e) ∧ walk s vs (lcStep o c vs elt tg ifs) m i acc ρ = .ok accf ρ',
        ⟨_, [], _, F1, R2, (grow_own (F := F1) (o := .lst []) ha).step R1.live, fun j hj t ht => wipeD_in hj ht, ew⟩, ?_⟩
      rintro i m H ⟨acc, ρ, F, R, st, ve, hw⟩
      have l : Later (zt X B W0 L T) F1 H1 as (zt X B W0 (as ++ L) ((a, .lst acc) :: T)) F H ρ (L2.wipe σ vs) := ⟨rfl, rfl, st, R, fun p hp => List.mem_append_left _ hp⟩
      rcases walk_turn so l hw with ⟨stop, rfl, rfl⟩ | ⟨k, d, acc', ρ2, rfl, go, yl, hst, hwo, hw2⟩
      · refine .inl ⟨stop, ?_⟩
        have hl : ∀ i ∈ vs, i < ρ'.length := fun i hi => by rw [R.len, wipe_length, ← R1.len]; exact hvs i hi
        have Ru : Rl (zt X B W0 L ((a, .lst accf) :: T)) F (unpin ρ1 ρ' s.pl) (L2.wipe σ vs) H := by
          rw [← hpl]
          refine Rl.unpins as R (by rw [hpl]; exact nd) fun p hp => ?_
          have hpm : p.1 ∈ s.pl := by rw [← hpl]; exact List.mem_map_of_mem hp
          obtain ⟨t, ht, hto⟩ := own p.1 hpm
          refine ⟨t, ht, hto, fun hnp => ⟨?_, fun q hq e => ?_⟩⟩
          · have sl := R1.sl p.1 t _ ht (hv p hp)
            cases t with
            | o x => obtain ⟨a', e', _, _, b⟩ := sl; cases e'; exact b
            | l x => cases hnp
            | _ => cases hto
          · obtain ⟨⟨t', ht', hpn⟩, _⟩ := R1.pin q hq
            rw [e, ht] at ht'
            cases ht'
            rw [hnp] at hpn; cases hpn
        have hwo : wipeOk (unpin ρ1 ρ' s.pl) vs = true := by
          refine wipeOk_of (ρ := ρ') (fun i hi => unpin_out (dis i hi)) (wipeOk_e (fun i hi => ⟨_, List.getElem?_eq_getElem (hl i hi)⟩) ve)
        have Rr : Rl (zt X B W0 L ((a, .lst accf) :: T)) F (rest ρ1 (unpin ρ1 ρ' s.pl) vs) σ H := Rl.unwipe (Z := zt X B W0 L ((a, .lst accf) :: T)) R1.len (fun j t w h1 h2 => R1.sl j t w h1 h2) st hok.2 Ru hwo
        obtain ⟨Rf, uq⟩ := Rr.tempEnd hT
        exact hq (.ref a) F H st Rf (rr_uq uq)
      · refine .inr ⟨go, fun H' => ∃ m', m' < k + 1 ∧ ∃ acc ρ F, Rl (zt X B W0 (as ++ L) ((a, .lst acc) :: T)) F ρ (L2.wipe σ vs) H' ∧ Stp F1 H1 F H' ∧ (∀ j ∈ vs, ∀ t, ρ[j]? = some t → t = .e) ∧ walk s vs (lcStep o c vs elt tg ifs) m' (i + 1) acc ρ = .ok accf ρ', fun H' h => h, fun x H2 y => ?_⟩
        obtain ⟨F2, st2, R3, rp⟩ := yl x H2 y
        refine ⟨as ++ L, (a, .lst acc) :: T, F2, ρ, d, R3, rp, ?_⟩
        have fin : ∀ {acc' : List D} {F' : Fz} {H' : Hp} {σ3 : L2.St}, L2.wipe σ3 vs = L2.wipe σ vs → walk s vs (lcStep o c vs elt tg ifs) k (i + 1) acc' (wipeD ρ2 vs) = .ok accf ρ' → Stp F2 H2 F' H' → Rl (zt X B W0 (as ++ L) ((a, .lst acc') :: T)) F' ρ2 σ3 H' →
            ∃ m', m' < k + 1 ∧ ∃ acc ρ F, Rl (zt X B W0 (as ++ L) ((a, .lst acc) :: T)) F ρ (L2.wipe σ vs) H' ∧ Stp F1 H1 F H' ∧ (∀ j ∈ vs, ∀ t, ρ[j]? = some t → t = .e) ∧ walk s vs (lcStep o c vs elt tg ifs) m' (i + 1) acc ρ = .ok accf ρ' := by
          intro acc' F' H' σ3 ew2 hw3 s3 R4
          have := R4.wipe hwo
          rw [ew2] at this
          exact ⟨k, Nat.lt_succ_self k, acc', _, F', this, (st.trans st2).trans s3, fun j hj t ht => wipeD_in hj ht, hw3⟩
        unfold lcStep at hst
        unfold bnd at hst
        cases eb : bindN 3 c (fun j => vs.contains j) tg d ρ with
        | exc ex ρa => rw [eb] at hst; cases hst
        | stk => rw [eb] at hst; cases hst
        | ok z ρa =>
          rw [eb] at hst
          dsimp only at hst
          intro σ3 Rb ch
          have ew2 := wipe_chg ch
          refine ⟨ew2, as ++ L, (a, .lst acc) :: T, tM_of Rb ?_⟩
          cases et : tsts o c ifs ρa with
          | exc ex ρb => rw [et] at hst; cases hst
          | stk => rw [et] at hst; cases hst
          | ok b ρb =>
            rw [et] at hst
            dsimp only at hst
            intro b' F3 H3 s3 Rc eb'
            subst eb'
            cases b' with
            | false =>
              rw [if_neg (by decide)]
              cases hst
              exact fin ew2 hw2 s3 Rc
            | true =>
              rw [if_pos rfl]
              exact ⟨as ++ L, (a, .lst acc) :: T, elt_rd (vs := vs) hT Rc hst fun F' H' s' R' => fin ew2 hw2 (s3.trans s') R'⟩
theorem walk_rd {kf : Nat} {vs : List Nat} {elt tg : Expr} {ifs : List Expr} {s : Src} {J : It} {a : Addr} {acc0 accf : List D} {F1 : Fz} {ρ1 ρf : Evm} {σ : L2.St} {H1 : Hp} {Nx : Hp → Prop} (hT : ∀ p ∈ T, p.1 ≠ a) (R1 : Rl (zt X B W0 L ((a, .lst acc0) :: T)) F1 ρ1 σ H1) (sr : SrcR (zt X B W0 L ((a, .lst acc0) :: T)) F1 H1 ρ1 σ J s)
    (e : walkAt kf s vs (lcStep o c vs elt tg ifs) acc0 ρ1 = .ok accf ρf) (hq : ∀ F' H', Stp F1 H1 F' H' → Rl (zt X B W0 L ((a, .lst accf) :: T)) F' ρf σ H' → Nx H') :
    ∃ Wm : Nat → Nat → Hp → Prop, (∃ m, Wm 0 m H1) ∧ ∀ i m H, Wm i m H →
      (J.stop i H ∧ Nx H) ∨ (J.go i H ∧ ∃ Nx1 : Hp → Prop, (∀ H', Nx1 H' → ∃ m', m' < m ∧ Wm (i + 1) m' H') ∧ ∀ x H', J.yld i H x H' → tBndX X B W0 (fun j => vs.contains j) (bindN 3 c (fun j => vs.contains j) tg) x (L2.wipe σ vs) H' fun σ2 H2 => L2.wipe σ2 vs = L2.wipe σ vs ∧
        tTstX X B W0 (tsts o c ifs) σ2 H2 fun b H3 => if b = true then tEvX X B W0 (o.ev c elt) σ2 H3 fun y H4 => ∃ acc, H4 a = some (.lst acc) ∧ acc.length < sizeLine ∧ Nx1 (upd H4 a (.lst (acc ++ [y]))) else Nx1 H3) := by
  obtain ⟨as, hpl, hv, so⟩ := sr
  unfold walkAt at e
  cases hok : (allOwn ρ1 s.pl && wipeOk ρ1 vs) with
  | false => rw [hok] at e; cases e
  | true =>
    rw [hok] at e
    dsimp only at e
    rw [Bool.and_eq_true] at hok
    obtain ⟨nd, own⟩ := allOwn_at hok.1
    generalize srcN ρ1 s + kf = k0 at e
    cases ew : walk s vs (lcStep o c vs elt tg ifs) k0 0 acc0 (wipeD (pinAll ρ1 s.pl) vs) with
    | exc ex ρ' => rw [ew] at e; cases e
    | stk => rw [ew] at e; cases e
    | ok accf' ρ' =>
      rw [ew] at e
      dsimp only at e
      cases e
      have hvs : ∀ i ∈ vs, i < ρ1.length := fun i hi => by
        have := List.all_eq_true.mp hok.2 i hi
        cases q : ρ1[i]? with
        | none => rw [q] at this; cases this
        | some t => exact (List.getElem?_eq_some_iff.mp q).1
      have dis : ∀ i ∈ vs, i ∉ s.pl := fun i hi hp => by
        obtain ⟨t, ht, ho⟩ := own i hp
        rw [(wipeOk_at hok.2 i hi t ht).1] at ho; cases ho
      have hw1 : wipeOk (pinAll ρ1 s.pl) vs = true := wipeOk_of (fun i hi => pinAll_out (dis i hi)) hok.2
      have Rp : Rl (zt X B W0 (as ++ L) ((a, .lst acc0) :: T)) F1 (pinAll ρ1 s.pl) σ H1 := by
        rw [← hpl]
        exact Rl.pins as R1 (by rw [hpl]; exact nd) hv fun p hp => own p.1 (by rw [← hpl]; exact List.mem_map_of_mem hp)
      have R2 : Rl (zt X B W0 (as ++ L) ((a, .lst acc0) :: T)) F1 (wipeD (pinAll ρ1 s.pl) vs) (L2.wipe σ vs) H1 := Rp.wipe hw1
      refine ⟨fun i m H => ∃ acc ρ F, Rl (zt X B W0 (as ++ L) ((a, .lst acc) :: T)) F ρ (L2.wipe σ vs) H ∧ Stp F1 H1 F H ∧ (∀ j ∈ vs, ∀ t, ρ[j]? = some t → t = .e) ∧ walk s vs (lcStep o c vs elt tg ifs) m i acc ρ = .ok accf ρ',
        ⟨_, acc0, _, F1, R2, .refl _ _, fun j hj t ht => wipeD_in hj ht, ew⟩, ?_⟩
      rintro i m H ⟨acc, ρ, F, R, st, ve, hw⟩
      have l : Later (zt X B W0 L ((a, .lst acc0) :: T)) F1 H1 as (zt X B W0 (as ++ L) ((a, .lst acc) :: T)) F H ρ (L2.wipe σ vs) := ⟨rfl, rfl, st, R, fun p hp => List.mem_append_left _ hp⟩
      rcases walk_turn so l hw with ⟨stop, rfl, rfl⟩ | ⟨k, d, acc', ρ2, rfl, go, yl, hst, hwo, hw2⟩
      · refine .inl ⟨stop, ?_⟩
        have hl : ∀ i ∈ vs, i < ρ'.length := fun i hi => by rw [R.len, wipe_length, ← R1.len]; exact hvs i hi
        have Ru : Rl (zt X B W0 L ((a, .lst accf) :: T)) F (unpin ρ1 ρ' s.pl) (L2.wipe σ vs) H := by
          rw [← hpl]
          refine Rl.unpins as R (by rw [hpl]; exact nd) fun p hp => ?_
          have hpm : p.1 ∈ s.pl := by rw [← hpl]; exact List.mem_map_of_mem hp
          obtain ⟨t, ht, hto⟩ := own p.1 hpm
          refine ⟨t, ht, hto, fun hnp => ⟨?_, fun q hq e => ?_⟩⟩
          · have sl := R1.sl p.1 t _ ht (hv p hp)
            cases t with
            | o x => obtain ⟨a', e', _, _, b⟩ := sl; cases e'; exact b
            | l x => cases hnp
            | _ => cases hto
          · obtain ⟨⟨t', ht', hpn⟩, _⟩ := R1.pin q hq
            rw [e, ht] at ht'
            cases ht'
            rw [hnp] at hpn; cases hpn
        have hwo : wipeOk (unpin ρ1 ρ' s.pl) vs = true := by
          refine wipeOk_of (ρ := ρ') (fun i hi => unpin_out (dis i hi)) (wipeOk_e (fun i hi => ⟨_, List.getElem?_eq_getElem (hl i hi)⟩) ve)
        have Rr : Rl (zt X B W0 L ((a, .lst accf) :: T)) F (rest ρ1 (unpin ρ1 ρ' s.pl) vs) σ H := Rl.unwipe (Z := zt X B W0 L ((a, .lst accf) :: T)) R1.len (fun j t w h1 h2 => R1.sl j t w h1 h2) st hok.2 Ru hwo
        exact hq F H st Rr
      · refine .inr ⟨go, fun H' => ∃ m', m' < k + 1 ∧ ∃ acc ρ F, Rl (zt X B W0 (as ++ L) ((a, .lst acc) :: T)) F ρ (L2.wipe σ vs) H' ∧ Stp F1 H1 F H' ∧ (∀ j ∈ vs, ∀ t, ρ[j]? = some t → t = .e) ∧ walk s vs (lcStep o c vs elt tg ifs) m' (i + 1) acc ρ = .ok accf ρ', fun H' h => h, fun x H2 y => ?_⟩
        obtain ⟨F2, st2, R3, rp⟩ := yl x H2 y
        refine ⟨as ++ L, (a, .lst acc) :: T, F2, ρ, d, R3, rp, ?_⟩
        have fin : ∀ {acc' : List D} {F' : Fz} {H' : Hp} {σ3 : L2.St}, L2.wipe σ3 vs = L2.wipe σ vs → walk s vs (lcStep o c vs elt tg ifs) k (i + 1) acc' (wipeD ρ2 vs) = .ok accf ρ' → Stp F2 H2 F' H' → Rl (zt X B W0 (as ++ L) ((a, .lst acc') :: T)) F' ρ2 σ3 H' →
            ∃ m', m' < k + 1 ∧ ∃ acc ρ F, Rl (zt X B W0 (as ++ L) ((a, .lst acc) :: T)) F ρ (L2.wipe σ vs) H' ∧ Stp F1 H1 F H' ∧ (∀ j ∈ vs, ∀ t, ρ[j]? = some t → t = .e) ∧ walk s vs (lcStep o c vs elt tg ifs) m' (i + 1) acc ρ = .ok accf ρ' := by
          intro acc' F' H' σ3 ew2 hw3 s3 R4
          have := R4.wipe hwo
          rw [ew2] at this
          exact ⟨k, Nat.lt_succ_self k, acc', _, F', this, (st.trans st2).trans s3, fun j hj t ht => wipeD_in hj ht, hw3⟩
        unfold lcStep at hst
        unfold bnd at hst
        cases eb : bindN 3 c (fun j => vs.contains j) tg d ρ with
        | exc ex ρa => rw [eb] at hst; cases hst
        | stk => rw [eb] at hst; cases hst
        | ok z ρa =>
          rw [eb] at hst
          dsimp only at hst
          intro σ3 Rb ch
          have ew2 := wipe_chg ch
          refine ⟨ew2, as ++ L, (a, .lst acc) :: T, tM_of Rb ?_⟩
          cases et : tsts o c ifs ρa with
          | exc ex ρb => rw [et] at hst; cases hst
          | stk => rw [et] at hst; cases hst
          | ok b ρb =>
            rw [et] at hst
            dsimp only at hst
            intro b' F3 H3 s3 Rc eb'
            subst eb'
            cases b' with
            | false =>
              rw [if_neg (by decide)]
              cases hst
              exact fin ew2 hw2 s3 Rc
            | true =>
              rw [if_pos rfl]
              exact ⟨as ++ L, (a, .lst acc) :: T, elt_rd (vs := vs) hT Rc hst fun F' H' s' R' => fin ew2 hw2 (s3.trans s') R'⟩
theorem lc_rdK {kf : Nat} {vs : List Nat} {tg : Expr} {ifs : List Expr} {s : Src} {J : It} {accf : List D} {F1 : Fz} {ρ1 ρf : Evm} {σ : L2.St} {H1 : Hp} {Q : VK} (R1 : Rl (zt X B W0 L T) F1 ρ1 σ H1) (sr : SrcR (zt X B W0 L T) F1 H1 ρ1 σ J s)
    {K : List D → M (List D)} {G : Addr → L2.St → Hp → (Hp → Prop) → Prop}
    (hG : ∀ L' a acc acc' F ρ ρ' σ H Nx, (∀ p ∈ T, p.1 ≠ a) → Rl (zt X B W0 L' ((a, .lst acc) :: T)) F ρ σ H → K acc ρ = .ok acc' ρ' → (∀ F' H', Stp F H F' H' → Rl (zt X B W0 L' ((a, .lst acc') :: T)) F' ρ' σ H' → Nx H') → G a σ H Nx)
    (e : walkAt kf s vs (lcStepK o c vs tg ifs K) [] ρ1 = .ok accf ρf) (hq : Pst (zt X B W0 L T) W (RR (zt X B W0 L T)) F1 σ H1 Q (Res.ok (D.lst accf, true) ρf)) :
    ∀ a, H1 a = none → ∃ Wm : Nat → Nat → Hp → Prop, (∃ m, Wm 0 m (upd H1 a (.lst []))) ∧ ∀ i m H, Wm i m H →
      (J.stop i H ∧ Q (.ref a) H) ∨ (J.go i H ∧ ∃ Nx : Hp → Prop, (∀ H', Nx H' → ∃ m', m' < m ∧ Wm (i + 1) m' H') ∧ ∀ x H', J.yld i H x H' → tBndX X B W0 (fun j => vs.contains j) (bindN 3 c (fun j => vs.contains j) tg) x (L2.wipe σ vs) H' fun σ2 H2 => L2.wipe σ2 vs = L2.wipe σ vs ∧
        tTstX X B W0 (tsts o c ifs) σ2 H2 fun b H3 => if b = true then G a σ2 H3 Nx else Nx H3) := by
  intro a ha
  obtain ⟨as, hpl, hv, so⟩ := sr
  unfold walkAt at e
  cases hok : (allOwn ρ1 s.pl && wipeOk ρ1 vs) with
  | false => rw [hok] at e; cases e
  | true =>
    rw [hok] at e
    dsimp only at e
    rw [Bool.and_eq_true] at hok
    obtain ⟨nd, own⟩ := allOwn_at hok.1
    generalize srcN ρ1 s + kf = k0 at e
    cases ew : walk s vs (lcStepK o c vs tg ifs K) k0 0 [] (wipeD (pinAll ρ1 s.pl) vs) with
    | exc ex ρ' => rw [ew] at e; cases e
    | stk => rw [ew] at e; cases e
    | ok accf' ρ' =>
      rw [ew] at e
      dsimp only at e
      cases e
      have hvs : ∀ i ∈ vs, i < ρ1.length := fun i hi => by
        have := List.all_eq_true.mp hok.2 i hi
        cases q : ρ1[i]? with
        | none => rw [q] at this; cases this
        | some t => exact (List.getElem?_eq_some_iff.mp q).1
      have dis : ∀ i ∈ vs, i ∉ s.pl := fun i hi hp => by
        obtain ⟨t, ht, ho⟩ := own i hp
        rw [(wipeOk_at hok.2 i hi t ht).1] at ho; cases ho
      have hT : ∀ p ∈ T, p.1 ≠ a := fun p hp ep => by
        have z := (R1.kept p hp).1.some
        rw [ep, ha] at z; cases z
      have hw1 : wipeOk (pinAll ρ1 s.pl) vs = true := wipeOk_of (fun i hi => pinAll_out (dis i hi)) hok.2
      have Rp : Rl (zt X B W0 (as ++ L) T) F1 (pinAll ρ1 s.pl) σ H1 := by
        rw [← hpl]
        exact Rl.pins as R1 (by rw [hpl]; exact nd) hv fun p hp => own p.1 (by rw [← hpl]; exact List.mem_map_of_mem hp)
      have R2 : Rl (zt X B W0 (as ++ L) ((a, .lst []) :: T)) F1 (wipeD (pinAll ρ1 s.pl) vs) (L2.wipe σ vs) (upd H1 a (.lst [])) := (Rp.wipe hw1).tempNew ha (.lst .nil)
      refine ⟨fun i m H => ∃ acc ρ F, Rl (zt X B W0 (as ++ L) ((a, .lst acc) :: T)) F ρ (L2.wipe σ vs) H ∧ Stp F1 H1 F H ∧ (∀ j ∈ vs, ∀ t, ρ[j]? = some t → t = .e) ∧ walk s vs (lcStepK o c vs tg ifs K) m i acc ρ = .ok accf ρ',
        ⟨_, [], _, F1, R2, (grow_own (F := F1) (o := .lst []) ha).step R1.live, fun j hj t ht => wipeD_in hj ht, ew⟩, ?_⟩
      rintro i m H ⟨acc, ρ, F, R, st, ve, hw⟩
      have l : Later (zt X B W0 L T) F1 H1 as (zt X B W0 (as ++ L) ((a, .lst acc) :: T)) F H ρ (L2.wipe σ vs) := ⟨rfl, rfl, st, R, fun p hp => List.mem_append_left _ hp⟩
      rcases walk_turn so l hw with ⟨stop, rfl, rfl⟩ | ⟨k, d, acc', ρ2, rfl, go, yl, hst, hwo, hw2⟩
      · refine .inl ⟨stop, ?_⟩
        have hl : ∀ i ∈ vs, i < ρ'.length := fun i hi => by rw [R.len, wipe_length, ← R1.len]; exact hvs i hi
        have Ru : Rl (zt X B W0 L ((a, .lst accf) :: T)) F (unpin ρ1 ρ' s.pl) (L2.wipe σ vs) H := by
          rw [← hpl]
          refine Rl.unpins as R (by rw [hpl]; exact nd) fun p hp => ?_
          have hpm : p.1 ∈ s.pl := by rw [← hpl]; exact List.mem_map_of_mem hp
          obtain ⟨t, ht, hto⟩ := own p.1 hpm
          refine ⟨t, ht, hto, fun hnp => ⟨?_, fun q hq e => ?_⟩⟩
          · have sl := R1.sl p.1 t _ ht (hv p hp)
            cases t with
            | o x => obtain ⟨a', e', _, _, b⟩ := sl; cases e'; exact b
            | l x => cases hnp
            | _ => cases hto
          · obtain ⟨⟨t', ht', hpn⟩, _⟩ := R1.pin q hq
            rw [e, ht] at ht'
            cases ht'
            rw [hnp] at hpn; cases hpn
        have hwo : wipeOk (unpin ρ1 ρ' s.pl) vs = true := by
          refine wipeOk_of (ρ := ρ') (fun i hi => unpin_out (dis i hi)) (wipeOk_e (fun i hi => ⟨_, List.getElem?_eq_getElem (hl i hi)⟩) ve)
        have Rr : Rl (zt X B W0 L ((a, .lst accf) :: T)) F (rest ρ1 (unpin ρ1 ρ' s.pl) vs) σ H := Rl.unwipe (Z := zt X B W0 L ((a, .lst accf) :: T)) R1.len (fun j t w h1 h2 => R1.sl j t w h1 h2) st hok.2 Ru hwo
        obtain ⟨Rf, uq⟩ := Rr.tempEnd hT
        exact hq (.ref a) F H st Rf (rr_uq uq)
      · refine .inr ⟨go, fun H' => ∃ m', m' < k + 1 ∧ ∃ acc ρ F, Rl (zt X B W0 (as ++ L) ((a, .lst acc) :: T)) F ρ (L2.wipe σ vs) H' ∧ Stp F1 H1 F H' ∧ (∀ j ∈ vs, ∀ t, ρ[j]? = some t → t = .e) ∧ walk s vs (lcStepK o c vs tg ifs K) m' (i + 1) acc ρ = .ok accf ρ', fun H' h => h, fun x H2 y => ?_⟩
        obtain ⟨F2, st2, R3, rp⟩ := yl x H2 y
        refine ⟨as ++ L, (a, .lst acc) :: T, F2, ρ, d, R3, rp, ?_⟩
        have fin : ∀ {acc' : List D} {F' : Fz} {H' : Hp} {σ3 : L2.St}, L2.wipe σ3 vs = L2.wipe σ vs → walk s vs (lcStepK o c vs tg ifs K) k (i + 1) acc' (wipeD ρ2 vs) = .ok accf ρ' → Stp F2 H2 F' H' → Rl (zt X B W0 (as ++ L) ((a, .lst acc') :: T)) F' ρ2 σ3 H' →
            ∃ m', m' < k + 1 ∧ ∃ acc ρ F, Rl (zt X B W0 (as ++ L) ((a, .lst acc) :: T)) F ρ (L2.wipe σ vs) H' ∧ Stp F1 H1 F H' ∧ (∀ j ∈ vs, ∀ t, ρ[j]? = some t → t = .e) ∧ walk s vs (lcStepK o c vs tg ifs K) m' (i + 1) acc ρ = .ok accf ρ' := by
          intro acc' F' H' σ3 ew2 hw3 s3 R4
          have := R4.wipe hwo
          rw [ew2] at this
          exact ⟨k, Nat.lt_succ_self k, acc', _, F', this, (st.trans st2).trans s3, fun j hj t ht => wipeD_in hj ht, hw3⟩
        unfold lcStepK at hst
        unfold bnd at hst
        cases eb : bindN 3 c (fun j => vs.contains j) tg d ρ with
        | exc ex ρa => rw [eb] at hst; cases hst
        | stk => rw [eb] at hst; cases hst
        | ok z ρa =>
          rw [eb] at hst
          dsimp only at hst
          intro σ3 Rb ch
          have ew2 := wipe_chg ch
          refine ⟨ew2, as ++ L, (a, .lst acc) :: T, tM_of Rb ?_⟩
          cases et : tsts o c ifs ρa with
          | exc ex ρb => rw [et] at hst; cases hst
          | stk => rw [et] at hst; cases hst
          | ok b ρb =>
            rw [et] at hst
            dsimp only at hst
            intro b' F3 H3 s3 Rc eb'
            subst eb'
            cases b' with
            | false =>
              rw [if_neg (by decide)]
              cases hst
              exact fin ew2 hw2 s3 Rc
            | true =>
              rw [if_pos rfl]
              exact hG _ a _ _ _ _ _ _ _ _ hT Rc hst fun F' H' s' R' => fin ew2 hw2 (s3.trans s') R'
theorem folded_ok {e : Expr} {env : Env} (h : notSet e = true) (x : Value) : foldedSetIterable e env x = pure x := by
  cases e <;> first | rfl | cases h
theorem lc_imp (ho : Ok o) (u : UD X c W W0) {elt tg iter : Expr} {ifs : List Expr} {scope : Scope} (hk : (!c.hot && (blkC c.N c.sc scope (ownOf c scope.names) && (notSet iter && decide (ifs.length ≤ 1)))) = true) {σ : L2.St} {H : Hp} {Q : VK} (h : tEv (zt X B W0 L T) W (evLc o c elt tg iter ifs scope) σ H Q) :
    tLc (tSrc (zt X B W0 L T) W (evSrc o c (isTup tg) iter)) (tBndX X B W0 (fun j => ((ownOf c scope.names).map (·.2)).contains j) (bindN 3 (c.inner scope) (fun j => ((ownOf c scope.names).map (·.2)).contains j) tg)) (tTstX X B W0 (tsts o (c.inner scope) ifs)) (tEvX X B W0 (o.ev (c.inner scope) elt)) ((ownOf c scope.names).map (·.2)) σ H Q := by
  obtain ⟨F, ρ, R, h⟩ := tM_at h
  unfold evLc at h
  simp only [hk] at h
  unfold tLc
  refine tM_bnd R h fun s ρ1 J F1 H1 s1 R1 sr h1 => ?_
  have e1 : ∃ acc ρ2, walkAt c.tf s ((ownOf c scope.names).map (·.2)) (lcStep o (c.inner scope) ((ownOf c scope.names).map (·.2)) elt tg ifs) [] ρ1 = .ok acc ρ2 := by
    cases ew : walkAt c.tf s ((ownOf c scope.names).map (·.2)) (lcStep o (c.inner scope) ((ownOf c scope.names).map (·.2)) elt tg ifs) [] ρ1 with
    | ok acc ρ2 => exact ⟨acc, ρ2, rfl⟩
    | exc ex ρ2 =>
      unfold walkAt at ew
      split at ew
      · split at ew <;> cases ew
      · cases ew
    | stk => unfold bnd at h1; rw [ew] at h1; exact h1.elim
  obtain ⟨acc, ρ2, ew⟩ := e1
  unfold bnd at h1
  rw [ew] at h1
  exact lc_rd (o := o) (c := c.inner scope) R1 sr ew h1
/-- the parts of a comprehension that the rules ask for -/
structure LcParts (X : Cx) (c : C) (o : Ops) (B : Hp) (W0 : Zx) (elt tg iter : Expr) (ifs : List Expr) (scope : Scope) : Prop where
  calm : X.calm = true
  ok : BlkOk X.N X.env.scope scope (ownOf c scope.names)
  hg : ∀ (s : Shared) (H : Hp) (C : Addr) (cl : List (Str × Addr)) (fp : List Addr), PG (X.blk s H scope (compEnvC scope cl C X.env) fp) tg (tBndX X B W0 (fun j => ((ownOf c scope.names).map (·.2)).contains j) (bindN 3 (c.inner scope) (fun j => ((ownOf c scope.names).map (·.2)).contains j) tg))
  ht : ∀ (s : Shared) (H : Hp) (C : Addr) (cl : List (Str × Addr)) (fp : List Addr), PTs (X.blk s H scope (compEnvC scope cl C X.env) fp) ifs (tTstX X B W0 (tsts o (c.inner scope) ifs))
  he : ∀ (s : Shared) (H : Hp) (C : Addr) (cl : List (Str × Addr)) (fp : List Addr), PE (X.blk s H scope (compEnvC scope cl C X.env) fp) elt (tEvX X B W0 (o.ev (c.inner scope) elt))
  hs : ∀ x, foldedSetIterable iter X.env x = pure x
theorem lc_parts (ho : Ok o) (u : UD X c W W0) {elt tg iter : Expr} {ifs : List Expr} {scope : Scope} (hk : (!c.hot && (blkC c.N c.sc scope (ownOf c scope.names) && (notSet iter && decide (ifs.length ≤ 1)))) = true) : LcParts X c o B W0 elt tg iter ifs scope := by
  rw [Bool.and_eq_true, Bool.and_eq_true, Bool.and_eq_true] at hk
  obtain ⟨h1, h2, h3, h4⟩ := hk
  have hh : c.hot = false := by simpa using h1
  have hc := u.calm hh
  have ub := fun s H cl Cc fp => UD.blk u hh s H scope cl Cc fp
  exact ⟨hc, by rw [u.N, u.sc]; exact blkOk_by h2,
    fun s H Cc cl fp => ⟨fun pins s' σ H' v x Q I r ⟨L, T, h⟩ => (ok_bindN (X := X.blk s H scope (compEnvC scope cl Cc X.env) fp) (B := B) (W0 := W0) (L := L) (T := T) (.inl hc) (ub s H cl Cc fp).toUC _ 3 tg).run pins s' σ H' v x Q I r h⟩,
    fun s H Cc cl fp => ⟨fun pins s' σ H' Q I ⟨L, T, h⟩ => (ok_tsts (B := B) (W0 := W0) (L := L) (T := T) ho (ub s H cl Cc fp) ifs (of_decide_eq_true h4)).run pins s' σ H' Q I h⟩,
    fun s H Cc cl fp => ⟨fun pins s' σ H' Q I ⟨L, T, h⟩ => (ho.ev (B := B) (W0 := W0) (L := L) (T := T) elt (ub s H cl Cc fp)).run pins s' σ H' Q I h⟩,
    folded_ok h3⟩
theorem ok_lc (ho : Ok o) (u : UD X c W W0) {elt tg iter : Expr} {ifs : List Expr} {scope : Scope} {pos : Pos} : PE X (.ListComp elt [⟨tg, iter, ifs, 0⟩] scope pos) (tEv (zt X B W0 L T) W (evLc o c elt tg iter ifs scope)) := by
  cases hk : (!c.hot && (blkC c.N c.sc scope (ownOf c scope.names) && (notSet iter && decide (ifs.length ≤ 1)))) with
  | false => unfold evLc; simp only [hk]; exact pe_stk
  | true =>
    have lp := lc_parts (B := B) (W0 := W0) (elt := elt) (tg := tg) ho u hk
    exact PE.imp (pe_lc lp.calm u.nd (ok_src (B := B) (W0 := W0) (L := L) (T := T) ho u (tg := tg) (tup := isTup tg) (fun h => h) iter) lp.ok lp.hg lp.ht lp.he lp.hs) fun σ H Q h => lc_imp ho u hk h
abbrev tSrcX (X : Cx) (B : Hp) (W0 : Zx) (m : M Src) : TI := fun σ H Q => ∃ L T, tSrc (zt X B W0 L T) WF m σ H Q
theorem ok_lc2 (ho : Ok o) (u : UD X c W W0) {elt tg iter tg1 iter1 : Expr} {ifs ifs1 : List Expr} {scope : Scope} {pos : Pos} : PE X (.ListComp elt [⟨tg, iter, ifs, 0⟩, ⟨tg1, iter1, ifs1, 0⟩] scope pos) (tEv (zt X B W0 L T) W (evLc2 o c elt tg iter ifs tg1 iter1 ifs1 scope)) := by
  cases hk : (!c.hot && (blkC c.N c.sc scope (ownOf c scope.names) && ((notSet iter && decide (ifs.length ≤ 1)) && ((notSet iter1 && decide (ifs1.length ≤ 1)) && (tgVs (c.inner scope) tg1).all fun i => ((ownOf c scope.names).map (·.2)).contains i)))) with
  | false => unfold evLc2; simp only [hk]; exact pe_stk
  | true =>
    have hk' := hk
    simp only [Bool.and_eq_true] at hk'
    obtain ⟨h1, h2, ⟨h3, h4⟩, ⟨h5, h6⟩, h7⟩ := hk'
    have hh : c.hot = false := by simpa using h1
    have hc := u.calm hh
    have ub := fun s H cl Cc fp => UD.blk u hh s H scope cl Cc fp
    refine PE.imp (pe_lc2 (g := tBndX X B W0 (fun j => ((ownOf c scope.names).map (·.2)).contains j) (bindN 3 (c.inner scope) (fun j => ((ownOf c scope.names).map (·.2)).contains j) tg)) (tt := tTstX X B W0 (tsts o (c.inner scope) ifs)) (vs1 := tgVs (c.inner scope) tg1) (wi1 := tSrcX X B W0 (evSrc o (c.inner scope) (isTup tg1) iter1)) (g1 := tBndX X B W0 (fun j => (tgVs (c.inner scope) tg1).contains j) (bindN 3 (c.inner scope) (fun j => (tgVs (c.inner scope) tg1).contains j) tg1)) (tt1 := tTstX X B W0 (tsts o (c.inner scope) ifs1)) (te := tEvX X B W0 (o.ev (c.inner scope) elt)) hc u.nd (ok_src (B := B) (W0 := W0) (L := L) (T := T) ho u (tg := tg) (tup := isTup tg) (fun h => h) iter) (by rw [u.N, u.sc]; exact blkOk_by h2) (fun i hi => by simpa using List.all_eq_true.mp h7 i hi)
      (fun s H Cc cl fp => ⟨fun pins s' σ H' v x Q I r ⟨L, T, h⟩ => (ok_bindN (X := X.blk s H scope (compEnvC scope cl Cc X.env) fp) (B := B) (W0 := W0) (L := L) (T := T) (.inl hc) (ub s H cl Cc fp).toUC _ 3 tg).run pins s' σ H' v x Q I r h⟩)
      (fun s H Cc cl fp => ⟨fun pins s' σ H' Q I ⟨L, T, h⟩ => (ok_tsts (B := B) (W0 := W0) (L := L) (T := T) ho (ub s H cl Cc fp) ifs (of_decide_eq_true h4)).run pins s' σ H' Q I h⟩)
      (fun s H Cc cl fp => ⟨fun pins s' σ H' Q I ⟨L, T, h⟩ => (ok_src (X := X.blk s H scope (compEnvC scope cl Cc X.env) fp) (B := B) (W0 := W0) (L := L) (T := T) ho (ub s H cl Cc fp) (tg := tg1) (tup := isTup tg1) (fun h => h) iter1).run pins s' σ H' Q I h⟩)
      (fun s H Cc cl fp => ⟨fun pins s' σ H' v x Q I r ⟨L, T, h⟩ => (ok_bindN (X := X.blk s H scope (compEnvC scope cl Cc X.env) fp) (B := B) (W0 := W0) (L := L) (T := T) (.inl hc) (ub s H cl Cc fp).toUC _ 3 tg1).run pins s' σ H' v x Q I r h⟩)
      (fun s H Cc cl fp => ⟨fun pins s' σ H' Q I ⟨L, T, h⟩ => (ok_tsts (B := B) (W0 := W0) (L := L) (T := T) ho (ub s H cl Cc fp) ifs1 (of_decide_eq_true h6)).run pins s' σ H' Q I h⟩)
      (fun s H Cc cl fp => ⟨fun pins s' σ H' Q I ⟨L, T, h⟩ => (ho.ev (B := B) (W0 := W0) (L := L) (T := T) elt (ub s H cl Cc fp)).run pins s' σ H' Q I h⟩)
      (folded_ok h3) (fun env x => folded_ok h5 x)) fun σ H Q h => ?_
    obtain ⟨F, ρ, R, h⟩ := tM_at h
    unfold evLc2 at h
    simp only [hk] at h
    unfold tLc2
    refine tM_bnd R h fun s ρ1 J F1 H1 s1 R1 sr h1 => ?_
    generalize hKd : (fun acc => bnd (evSrc o (c.inner scope) (isTup tg1) iter1) fun s1 => walkAt c.tf s1 (tgVs (c.inner scope) tg1) (lcStep o (c.inner scope) (tgVs (c.inner scope) tg1) elt tg1 ifs1) acc) = K at h1
    cases ew : walkAt c.tf s ((ownOf c scope.names).map (·.2)) (lcStepK o (c.inner scope) ((ownOf c scope.names).map (·.2)) tg ifs K) [] ρ1 with
    | stk => unfold bnd at h1; rw [ew] at h1; exact h1.elim
    | exc ex ρ2 =>
      unfold walkAt at ew
      split at ew
      · split at ew <;> cases ew
      · cases ew
    | ok acc ρ2 =>
      unfold bnd at h1
      rw [ew] at h1
      refine lc_rdK (o := o) (c := c.inner scope) R1 sr (G := fun a σ2 H3 Nx => tSrcX X B W0 (evSrc o (c.inner scope) (isTup tg1) iter1) σ2 H3 fun J1 H4 => ∃ W1 : Nat → Nat → Hp → Prop, (∃ m, W1 0 m H4) ∧ ∀ j k H, W1 j k H →
        (J1.stop j H ∧ Nx H) ∨ (J1.go j H ∧ ∃ Nx1 : Hp → Prop, (∀ H', Nx1 H' → ∃ k', k' < k ∧ W1 (j + 1) k' H') ∧ ∀ x H', J1.yld j H x H' → tBndX X B W0 (fun j => (tgVs (c.inner scope) tg1).contains j) (bindN 3 (c.inner scope) (fun j => (tgVs (c.inner scope) tg1).contains j) tg1) x (L2.wipe σ2 (tgVs (c.inner scope) tg1)) H' fun σ3 H5 => L2.wipe σ3 (tgVs (c.inner scope) tg1) = L2.wipe σ2 (tgVs (c.inner scope) tg1) ∧ tTstX X B W0 (tsts o (c.inner scope) ifs1) σ3 H5 fun b H6 =>
          if b = true then tEvX X B W0 (o.ev (c.inner scope) elt) σ3 H6 fun y H7 => ∃ acc, H7 a = some (.lst acc) ∧ acc.length < sizeLine ∧ Nx1 (upd H7 a (.lst (acc ++ [y]))) else Nx1 H6)) (fun L' a acc acc' F ρ ρ' σ H Nx hT Rk hK k => ?_) ew h1
      refine ⟨L', (a, .lst acc) :: T, tM_of Rk ?_⟩
      rw [← hKd] at hK
      dsimp only at hK
      unfold bnd at hK
      cases es : evSrc o (c.inner scope) (isTup tg1) iter1 ρ with
      | exc ex ρa => rw [es] at hK; cases hK
      | stk => rw [es] at hK; cases hK
      | ok s1 ρa =>
        rw [es] at hK
        dsimp only at hK
        intro J1 F1 H1 st1 Ra sr1
        exact walk_rd (o := o) (c := c.inner scope) hT Ra sr1 hK fun F' H' st2 R' => k F' H' (st1.trans st2) R'
theorem UD.blkH (u : UD X c W W0) (hh : c.hot = true) (s : Shared) (H : Hp) (scope : Scope) (cl : List (Str × Addr)) (Cc : Addr) (fp : List Addr) : UD (blkH X s H scope (compEnvC scope cl Cc X.env) fp) (c.inner scope) WF W0 where
  N := u.N
  nd := u.nd
  sc := by show relS scope X.env.scope = relS scope c.sc; rw [u.sc]
  un := u.un
  tk := fun v s' ⟨a, B, sI, pins, σ, H, cls, d, e, I, nb, up, sky, na, os, ag, w⟩ => w.elim
  gl := u.gl
  calm := fun h => u.calm h
  fn := fun x i h => by
    unfold C.tgt at h
    split at h
    · rename_i e
      right
      show (relS scope X.env.scope).names.lookup x = _
      rw [u.sc]
      exact e
    · split at h
      · rename_i e; exact .inl e
      · cases h
    · cases h
  ht := fun _ => u.ht hh
  cal := fun h => by
    have h : c.hot = false := h
    rw [hh] at h; cases h
  lam := fun h => by cases h
  act := fun i r h => by cases h
  exn := fun i e h => by cases h
theorem lc_impH (u : UD X c W W0) {elt tg iter : Expr} {ifs : List Expr} {scope : Scope} (hk : (c.hot && (blkC c.N c.sc scope (ownOf c scope.names) && (notSet iter && decide (ifs.length ≤ 1)))) = true) {σ : L2.St} {H : Hp} {Q : VK} (h : tEv (zt X B W0 L T) W (evLcH o c elt tg iter ifs scope) σ H Q) :
    tLc (tSrc (zt X B W0 L T) W (srcH o c iter)) (tBndX X B W0 (fun j => ((ownOf c scope.names).map (·.2)).contains j) (bindN 3 (c.inner scope) (fun j => ((ownOf c scope.names).map (·.2)).contains j) tg)) (tTstX X B W0 (tsts o (c.inner scope) ifs)) (tEvX X B W0 (o.ev (c.inner scope) elt)) ((ownOf c scope.names).map (·.2)) σ H Q := by
  obtain ⟨F, ρ, R, h⟩ := tM_at h
  unfold evLcH at h
  simp only [hk] at h
  unfold tLc
  refine tM_bnd R h fun s ρ1 J F1 H1 s1 R1 sr h1 => ?_
  cases ew : walkAt c.tf s ((ownOf c scope.names).map (·.2)) (lcStep o (c.inner scope) ((ownOf c scope.names).map (·.2)) elt tg ifs) [] ρ1 with
  | ok acc ρ2 =>
    unfold bnd at h1
    rw [ew] at h1
    exact lc_rd (o := o) (c := c.inner scope) R1 sr ew h1
  | exc ex ρ2 =>
    unfold walkAt at ew
    split at ew
    · split at ew <;> cases ew
    · cases ew
  | stk => unfold bnd at h1; rw [ew] at h1; exact h1.elim
theorem ok_lcH (ho : Ok o) (u : UD X c W W0) {elt tg iter : Expr} {ifs : List Expr} {scope : Scope} {pos : Pos} : PE X (.ListComp elt [⟨tg, iter, ifs, 0⟩] scope pos) (tEv (zt X B W0 L T) W (evLcH o c elt tg iter ifs scope)) := by
  cases hk : (c.hot && (blkC c.N c.sc scope (ownOf c scope.names) && (notSet iter && decide (ifs.length ≤ 1)))) with
  | false => unfold evLcH; simp only [hk]; exact pe_stk
  | true =>
    have hk' := hk
    rw [Bool.and_eq_true, Bool.and_eq_true, Bool.and_eq_true] at hk'
    obtain ⟨hh, h2, h3, h4⟩ := hk'
    have ub := fun s H cl Cc fp => UD.blkH u hh s H scope cl Cc fp
    exact PE.imp (pe_lcH (u.ht hh) u.nd (ok_srcH (B := B) (W0 := W0) (L := L) (T := T) ho u (tg := tg) iter) (by rw [u.N, u.sc]; exact blkOk_by h2)
      (fun s H Cc cl fp => ⟨fun pins s' σ H' v x Q I r ⟨L, T, h⟩ => (ok_bindN (X := blkH X s H scope (compEnvC scope cl Cc X.env) fp) (B := B) (W0 := W0) (L := L) (T := T) (.inr (u.ht hh)) (ub s H cl Cc fp).toUC _ 3 tg).run pins s' σ H' v x Q I r h⟩)
      (fun s H Cc cl fp => ⟨fun pins s' σ H' Q I ⟨L, T, h⟩ => (ok_tsts (B := B) (W0 := W0) (L := L) (T := T) ho (ub s H cl Cc fp) ifs (of_decide_eq_true h4)).run pins s' σ H' Q I h⟩)
      (fun s H Cc cl fp => ⟨fun pins s' σ H' Q I ⟨L, T, h⟩ => (ho.ev (B := B) (W0 := W0) (L := L) (T := T) elt (ub s H cl Cc fp)).run pins s' σ H' Q I h⟩)
      (folded_ok h3)) fun σ H Q h => lc_impH u hk h
end
end PV
end

section
set_option maxHeartbeats 2000000
/-! Statements. -/
namespace PV
open PySem PySem.Spec L2
open PyProof.Rows hiding St

/-! ### the evaluator -/
def augD (op : Operator) (x y : D) : Option D := match op, x, y with
  | .Add, .int i, .int j => some (.int (i + j))
  | .Sub, .int i, .int j => some (.int (i - j))
  | .Mult, .int i, .int j => gd (small64 i || small64 j) (.int (i * j))
  | .FloorDiv, .int i, .int j => gd (divOk j) (.int (i / j))
  | .Mod, .int i, .int j => gd (decide (0 < j)) (.int (i % j))
  | .BitXor, .int i, .int j => some (.int (Builtin.bitXor i j))
  | .Add, .str x, .str y => gd (lineOk (x.length + y.length)) (.str (x ++ y))
  | _, _, _ => none
def isImm : D → Bool
  | .int _ => true
  | .str _ => true
  | _ => false
def setD (x i v : D) : Option D := match x, i with
  | .lst xs, .int k => (match ixN xs.length k with
    | some j => some (.lst (xs.set j v))
    | none => none)
  | _, _ => none
def setIn (i : Nat) (k v : D) : M Unit := fun ρ => match ρ[i]? with
  | some (.o x) => (match setD x k v with
    | some y => .ok () (ρ.set i (.o y))
    | none => .stk)
  | some (.l x) => (match setD x k v with
    | some y => .ok () (ρ.set i (.l y))
    | none => .stk)
  | _ => .stk
/-- for .. in s -/
def forW (s : Src) (bd : D → M Unit) (body : M Flow') : Nat → Nat → M Flow'
  | 0, _ => stk
  | k + 1, i => fun ρ => match srcAt ρ s i with
    | none => .stk
    | some none => .ok .nx ρ
    | some (some d) => (match bd d ρ with
      | .ok _ ρ1 => (match body ρ1 with
        | .ok .nx ρ2 => forW s bd body k (i + 1) ρ2
        | .ok .ct ρ2 => forW s bd body k (i + 1) ρ2
        | .ok .bk ρ2 => .ok .nx ρ2
        | .ok (.rt d u) ρ2 => .ok (.rt d u) ρ2
        | .exc e ρ2 => .exc e ρ2
        | .stk => .stk)
      | _ => .stk)
def forAt (kf : Nat) (s : Src) (bd : D → M Unit) (body : M Flow') : M Flow' := fun ρ => match allOwn ρ s.pl with
  | true => (match forW s bd body (srcN ρ s + kf) 0 (pinAll ρ s.pl) with
    | .ok fl ρ' => .ok fl (unpin ρ ρ' s.pl)
    | .exc e ρ' => .exc e (unpin ρ ρ' s.pl)
    | .stk => .stk)
  | false => .stk
def whileW (t : M Bool) (body : M Flow') : Nat → M Flow'
  | 0 => stk
  | k + 1 => bnd t fun b => match b with
    | false => pure .nx
    | true => bnd body fun fl => match fl with
      | .nx => whileW t body k
      | .ct => whileW t body k
      | .bk => pure .nx
      | .rt d u => pure (.rt d u)
/-- two plain names on one line -/
def parOk (sc : Scope) (x y : Str) (px py : Pos) (a b : Expr) : Bool :=
  decide (x ≠ y) && (decide (sc.names.lookup x = some .local) && (decide (sc.names.lookup y = some .local) && ((px.line == py.line) && (notStar a && (notStar b && (!(foldedForSure 8 a && foldedForSure 8 b) && !(constantsAlone 8 a && constantsAlone 8 b)))))))
def parOk3 (sc : Scope) (x y z : Str) (px py pz : Pos) (a b d : Expr) : Bool :=
  decide (x ≠ y) && (decide (x ≠ z) && (decide (y ≠ z) && (decide (sc.names.lookup x = some .local) && (decide (sc.names.lookup y = some .local) && (decide (sc.names.lookup z = some .local) &&
    ((px.line == py.line) && ((px.line == pz.line) && (notStar a && (notStar b && (notStar d && (!(foldedForSure 8 a && (foldedForSure 8 b && foldedForSure 8 d)) && !(constantsAlone 8 a && (constantsAlone 8 b && constantsAlone 8 d)))))))))))))
def noSwap (ts : List Expr) (e : Expr) : Bool := match e with
  | .Tuple vs _ _ => vs.all (foldedForSure 8) || !(vs.length == 2 || vs.length == 3)
  | _ => true
section
variable (o : Ops)
/-- one of two names is no plain local: no swap of stores -/
def cellAny (sc : Scope) (xs : List Str) : Bool := xs.any fun x => match sc.names.lookup x with
  | some .local => false
  | _ => true
def retS (c : C) (e : Expr) : M Flow' := fun ρ => match e with
  | .Name x _ => (match c.nm x with
    | .slot i => (match ρ[i]? with
      | some (.o d) => .ok (.rt d true) ρ
      | _ => bnd (o.ev c e) (fun r => pure (.rt r.1 r.2)) ρ)
    | _ => bnd (o.ev c e) (fun r => pure (.rt r.1 r.2)) ρ)
  | _ => bnd (o.ev c e) (fun r => pure (.rt r.1 r.2)) ρ
def cold' (c : C) (m : M Flow') : M Flow' := match c.hot with
  | true => stk
  | false => m
def isLc : Expr → Bool
  | .ListComp _ _ _ _ => true
  | _ => false
def asgN (c : C) (x : Str) (m : M (D × Bool)) : M Flow' := match c.tgt x with
  | some i => bnd m fun r => bnd (st i r.1 r.2) fun _ => pure .nx
  | none => stk
def isFun (c : C) : Bool := match c.sc.kind with
  | .function => true
  | _ => false
def asgS (c : C) (tg e : Expr) : M Flow' := match tg with
  | .Name x px => (match e with
    | .ListComp elt [⟨tg', iter, ifs, 0⟩] scope _ => (match isFun c with
      | true => asgN c x (evLc o c elt tg' iter ifs scope)
      | false => stk)
    | _ => (match noComp e with
      | true => asgN c x (o.ev c e)
      | false => stk))
  | .Tuple [.Name x px, .Name y py] _ _ => (match e with
    | .Tuple [a, b] _ _ => cold' c (match (noSwap [tg] e || cellAny c.sc [x, y]) && noComp e with
      | true => bnd (o.ev c e) fun r => bnd (bindN 3 c (fun _ => true) tg r.1) fun _ => pure .nx
      | false => (match isFun c && parOk c.sc x y px py a b, c.slot x, c.slot y with
        | true, some i, some j => bnd (o.ev c a) fun r1 => bnd (o.ev c b) fun r2 => bnd (st i r1.1 r1.2) fun _ => bnd (st j r2.1 r2.2) fun _ => pure .nx
        | _, _, _ => stk))
    | _ => cold' c (match noSwap [tg] e && noComp e with
      | true => bnd (o.ev c e) fun r => bnd (bindN 3 c (fun _ => true) tg r.1) fun _ => pure .nx
      | false => stk))
  | .Tuple [.Name x px, .Name y py, .Name z pz] _ _ => (match e with
    | .Tuple [a, b, d] _ _ => cold' c (match (noSwap [tg] e || cellAny c.sc [x, y, z]) && noComp e with
      | true => bnd (o.ev c e) fun r => bnd (bindN 3 c (fun _ => true) tg r.1) fun _ => pure .nx
      | false => (match isFun c && parOk3 c.sc x y z px py pz a b d, c.slot x, c.slot y, c.slot z with
        | true, some i, some j, some l => bnd (o.args c [a, b, d]) fun xs => (match xs with
          | [u, v, w] => bnd (st i u false) fun _ => bnd (st j v false) fun _ => bnd (st l w false) fun _ => pure .nx
          | _ => stk)
        | _, _, _, _ => stk))
    | _ => cold' c (match noSwap [tg] e && noComp e with
      | true => bnd (o.ev c e) fun r => bnd (bindN 3 c (fun _ => true) tg r.1) fun _ => pure .nx
      | false => stk))
  | .Tuple _ _ _ => cold' c (match noSwap [tg] e && noComp e with
      | true => bnd (o.ev c e) fun r => bnd (bindN 3 c (fun _ => true) tg r.1) fun _ => pure .nx
      | false => stk)
  | .Subscript (.Name x _) ix _ => (match c.nm x, noComp e && notSlice ix with
    | .slot i, true => bnd (o.ev c e) fun r => fun ρ => (match ownL ρ i with
      | true => bnd (o.ev c ix) (fun k => bnd (setIn i k.1 r.1) fun _ => pure .nx) ρ
      | false => .stk)
    | _, _ => stk)
  | _ => stk
def augS (c : C) (x : Str) (op : Operator) (e : Expr) : M Flow' := match c.tgt x with
  | some i => fun ρ => (match look ρ i with
    | some x => (match isImm x with
      | true => bnd (o.ev c e) (fun r => bnd (lft (augD op x r.1)) fun z => bnd (st i z false) fun _ => pure .nx) ρ
      | false => .stk)
    | none => .stk)
  | none => stk
def st1 (c : C) (s : Stmt) : M Flow' := match s with
  | .Expr e _ => (match noComp e with
    | true => bnd (o.ev c e) fun _ => pure .nx
    | false => stk)
  | .Pass _ => pure .nx
  | .Break _ => pure .bk
  | .Continue _ => pure .ct
  | .Return none _ => pure (.rt .non false)
  | .Return (some e) _ => retS o c e
  | .If t a b _ => bnd (o.tst c t) fun k => (match k with
    | true => o.ss c a
    | false => o.ss c b)
  | .Assign [tg] e _ => asgS o c tg e
  | .AugAssign (.Name x _) op e _ => augS o c x op e
  | .For tg iter body [] _ => cold' c (match notSet iter with
    | true => bnd (evSrc o c (isTup tg) iter) fun s => forAt c.tf s (bindN 3 c (fun _ => true) tg) (o.ss c body)
    | false => stk)
  | .While t body [] _ => cold' c (whileW (o.tst c t) (o.ss c body) c.tf)
  | _ => stk
def ssL (f : Stmt → M Flow') : List Stmt → M Flow'
  | [] => pure .nx
  | s :: r => bnd (f s) fun fl => match fl with
    | .nx => ssL f r
    | .bk => pure .bk
    | .ct => pure .ct
    | .rt d u => pure (.rt d u)
end

/-! ### readings -/
def RetS (Z : Zt) (F : Fz) (H : Hp) (v : V) (d : D) (u : Bool) : Prop := match u with
  | true => ∃ a, v = .ref a ∧ OwnAt Z.K Z.mg F H a d ∧ ¬ F a ∧ Z.B a = none
  | false => Rep Z.K Z.mg F H v d
def PstS (Z : Zt) (W : WX) (En : Ends) (F : Fz) (H : Hp) : Res Flow' → Prop
  | .ok .nx ρ' => ∀ σ' F' H', Stp F H F' H' → Rl Z F' ρ' σ' H' → En.nx σ' H'
  | .ok .bk ρ' => ∀ σ' F' H', Stp F H F' H' → Rl Z F' ρ' σ' H' → En.bk σ' H'
  | .ok .ct ρ' => ∀ σ' F' H', Stp F H F' H' → Rl Z F' ρ' σ' H' → En.ct σ' H'
  | .ok (.rt d u) ρ' => ∀ v σ' F' H', Stp F H F' H' → Rl Z F' ρ' σ' H' → RetS Z F' H' v d u → En.rt v H'
  | .exc e ρ' => ∀ cls dd σ' F' H', Stp F H F' H' → Rl Z F' ρ' σ' H' → ExcAt Z.K Z.mg F' H' e cls dd → W cls dd σ' H'
  | .stk => False
def tSs (Z : Zt) (W : WX) (m : M Flow') : TS := fun En σ H => ∃ F ρ, Rl Z F ρ σ H ∧ PstS Z W En F H (m ρ)
theorem PS.imp {X : Cx} {e : Stmt} {t u : TS} (h : PS X e t) (w : ∀ En σ H, u En σ H → t En σ H) : PS X e u := ⟨fun pins s σ H Q I q => h.run pins s σ H Q I (w Q σ H q)⟩
theorem PSs.imp {X : Cx} {e : List Stmt} {t u : TS} (h : PSs X e t) (w : ∀ En σ H, u En σ H → t En σ H) : PSs X e u := ⟨fun pins s σ H Q I q => h.run pins s σ H Q I (w Q σ H q)⟩
section
variable {Z : Zt} {W : WX} {En : Ends} {F F1 : Fz} {H H1 : Hp} {ρ : Evm} {σ : L2.St}
theorem PstS.step {r : Res Flow'} (h : PstS Z W En F H r) (s : Stp F H F1 H1) : PstS Z W En F1 H1 r := by
  cases r with
  | ok fl ρ =>
    cases fl with
    | nx => exact fun σ' F' H' s' => h σ' F' H' (s.trans s')
    | bk => exact fun σ' F' H' s' => h σ' F' H' (s.trans s')
    | ct => exact fun σ' F' H' s' => h σ' F' H' (s.trans s')
    | rt d u => exact fun v σ' F' H' s' => h v σ' F' H' (s.trans s')
  | exc e ρ => exact fun cls dd σ' F' H' s' => h cls dd σ' F' H' (s.trans s')
  | stk => exact h
theorem tS_bnd {α γ : Type} {m : M α} {f : α → M Flow'} {Rel : Fz → Hp → Evm → L2.St → γ → α → Prop} {Q : γ → Hp → Prop} (R : Rl Z F ρ σ H) (h : PstS Z W En F H (bnd m f ρ))
    (k : ∀ a ρ1 v F1 H1, Stp F H F1 H1 → Rl Z F1 ρ1 σ H1 → Rel F1 H1 ρ1 σ v a → PstS Z W En F1 H1 (f a ρ1) → Q v H1) : tM Z W m Rel σ H Q := by
  refine tM_of R ?_
  unfold bnd at h
  cases e : m ρ with
  | ok a ρ1 =>
    rw [e] at h
    exact fun v F1 H1 s R1 r => k a ρ1 v F1 H1 s R1 r (PstS.step h s)
  | exc x ρ1 =>
    rw [e] at h
    exact fun cls dd F' H' s R' ea => h cls dd σ F' H' s R' ea
  | stk => rw [e] at h; exact h
theorem tS_stk {m : M Flow'} (hm : ∀ ρ, m ρ = .stk) {En : Ends} {σ : L2.St} {H : Hp} (h : tSs Z W m En σ H) : False := by
  obtain ⟨F, ρ, R, h⟩ := h
  rw [hm] at h
  exact h
end
structure US (X : Cx) (c : C) (W : WX) (W0 : Zx) : Prop extends UD X c W W0 where
  own : c.hot = false → PassesOwn (model X.prog X.w) X.A X.env X.xe
  stk : c.hot = false → X.stack = X.env :: X.outer ∧ X.env.frame = some X.env.locals
  rm2 : c.hot = false → c.act = none → Room 2 X.A
structure OkS (o : Ops) : Prop extends Ok o where
  ss : ∀ {X : Cx} {c : C} {W : WX} {B : Hp} {W0 : Zx} {L : List (Nat × Addr)} {T : List (Addr × D)} (sts : List Stmt), US X c W W0 → PSs X sts (tSs (zt X B W0 L T) W (o.ss c sts))
section
variable {X : Cx} {c : C} {W : WX} {B : Hp} {W0 : Zx} {L : List (Nat × Addr)} {T : List (Addr × D)} {o : Ops}
theorem ps_stk {s : Stmt} {Z : Zt} : PS X s (tSs Z W stk) := ⟨fun pins s σ H En I h => (tS_stk (fun _ => rfl) h).elim⟩
theorem ok_ssL {f : Stmt → M Flow'} (hf : ∀ s, PS X s (tSs (zt X B W0 L T) W (f s))) : ∀ sts : List Stmt, PSs X sts (tSs (zt X B W0 L T) W (ssL f sts))
  | [] => PSs.imp pss_nil fun En σ H ⟨F, ρ, R, h⟩ => h σ F H (.refl _ _) R
  | s :: r => PSs.imp (pss_cons (hf s) (ok_ssL hf r)) fun En σ H ⟨F, ρ, R, h⟩ => by
    refine ⟨F, ρ, R, ?_⟩
    unfold ssL bnd at h
    cases e : f s ρ with
    | ok fl ρ1 =>
      rw [e] at h
      cases fl with
      | nx => exact fun σ' F' H' s' R' => ⟨F', ρ1, R', PstS.step h s'⟩
      | bk => exact h
      | ct => exact h
      | rt d u => exact h
    | exc x ρ1 => rw [e] at h; exact h
    | stk => rw [e] at h; exact h
theorem retS_rd {e : Expr} (ho : Ok o) (u : UD X c W W0) {p : Pos} : PS X (.Return (some e) p) (tSs (zt X B W0 L T) W (retS o c e)) := by
  have gen : ∀ {En σ H F ρ}, Rl (zt X B W0 L T) F ρ σ H → PstS (zt X B W0 L T) W En F H (bnd (o.ev c e) (fun r => pure (Flow'.rt r.1 r.2)) ρ) → tEv (zt X B W0 L T) W (o.ev c e) σ H En.rt := by
    intro En σ H F ρ R h
    refine tS_bnd R h fun r ρ1 v F1 H1 s1 R1 rr h1 => h1 v σ F1 H1 (.refl _ _) R1 ?_
    obtain ⟨d, un⟩ := r
    cases un with
    | false => exact rr
    | true =>
      obtain ⟨a, e, ow, nf, b, _⟩ : Uq _ _ _ _ _ _ _ := rr
      exact ⟨a, e, ow, nf, b⟩
  refine ⟨fun pins s σ H En I h => ?_⟩
  obtain ⟨F, ρ, R, h⟩ := h
  have hev := ho.ev (B := B) (W0 := W0) (L := L) (T := T) e u
  unfold retS at h
  split at h
  · rename_i x px
    split at h
    · rename_i i hn
      split at h
      · rename_i d es
        obtain ⟨hok, hN, hv⟩ := nm_slot hn
        obtain ⟨h1, h2⟩ := okName_at hok
        obtain ⟨v, hv1, so⟩ := R.slot es
        obtain ⟨a, e, ow, nf, b⟩ := so
        subst e
        exact (ps_ret (pe_var (i := i) (by rw [u.N]; exact hN) (by rw [u.sc]; exact hv) h1 h2)).run pins s σ H En I ⟨_, hv1, h _ σ F H (.refl _ _) R ⟨a, rfl, ow, nf, b⟩⟩
      · exact (ps_ret hev).run pins s σ H En I (gen R h)
    · exact (ps_ret hev).run pins s σ H En I (gen R h)
  · exact (ps_ret hev).run pins s σ H En I (gen R h)
theorem sw_no {e : Expr} {t : Option Expr} {l : Nat} {env : Env} (h : noComp e = true) : swapsWith e t l env = pure false := by
  cases e <;> first | rfl | cases h
theorem asgN_rd {m : M (D × Bool)} (u : UC X c W W0) {x : Str} {e : Expr} {px pos : Pos} {i : Nat} {te : TE} (ht : c.tgt x = some i) (hps : PS X (.Assign [.Name x px] e pos) (tAsg te (gName i)))
    (him : ∀ σ H Q, tEv (zt X B W0 L T) W m σ H Q → te σ H Q) : PS X (.Assign [.Name x px] e pos) (tSs (zt X B W0 L T) W (asgN c x m)) := by
  refine PS.imp hps fun En σ H ⟨F, ρ, R, h⟩ => him σ H _ ?_
  simp only [asgN, ht] at h
  refine tS_bnd R h fun r ρ1 v F1 H1 s1 R1 rr h1 => ?_
  unfold bnd at h1
  cases e1 : st i r.1 r.2 ρ1 with
  | ok a ρ2 =>
    rw [e1] at h1
    obtain ⟨⟨s, hs, hp⟩, rfl⟩ := st_at e1
    exact h1 _ F1 H1 (.refl _ _) (R1.store hs hp rr)
  | exc ex ρ2 => exact (st_no e1).elim
  | stk => rw [e1] at h1; exact h1.elim


theorem kind_at (h : isFun c = true) (u : UC X c W W0) : X.env.scope.kind = .function := by
  unfold isFun at h
  rw [u.sc]
  split at h
  · assumption
  · cases h
theorem sw_lc {elt : Expr} {gs : List Comprehension} {scope : Scope} {pos py : Pos} {y : Str} {l : Nat} {env : Env} (hk : env.scope.kind = .function) :
    swapsWith (.ListComp elt gs scope pos) (some (.Name y py)) l env = pure (env.kindOf y == some .local && py.line == pos.line && !(scope.names.any fun (n, k) => n == y && (k == .local || k == .cell))) := by
  have hb : env.blockKind = .function := by unfold Env.blockKind; rw [hk] <;> rfl
  unfold swapsWith
  simp only [hb, Expr.pos]
  rfl
theorem asg_lc (ho : Ok o) (u : UD X c W W0) {x : Str} {px pos p : Pos} {elt tg iter : Expr} {ifs : List Expr} {scope : Scope} (hf : isFun c = true) : PS X (.Assign [.Name x px] (.ListComp elt [⟨tg, iter, ifs, 0⟩] scope p) pos) (tSs (zt X B W0 L T) W (asgN c x (evLc o c elt tg iter ifs scope))) := by
  cases ht : c.tgt x with
  | none => exact ⟨fun pins s σ H En I h => (tS_stk (fun ρ => by simp only [asgN, ht] <;> rfl) h).elim⟩
  | some i =>
    obtain ⟨hN, hl⟩ := tgt_at ht
    have hN' : X.N[i]? = some x := by rw [u.N]; exact hN
    have hl' : Loc X.env.scope x := by rw [u.sc]; exact hl
    have hk := kind_at hf u.toUC
    have hsw := sw_lc (elt := elt) (gs := [⟨tg, iter, ifs, 0⟩]) (scope := scope) (pos := p) (py := px) (y := x) (l := pos.line) hk
    cases hcond : (X.env.kindOf x == some .local && px.line == p.line && !(scope.names.any fun (n, k) => n == x && (k == .local || k == .cell))) with
    | false =>
      rw [hcond] at hsw
      exact asgN_rd u.toUC ht (ps_set u.nd hN' hl' (ok_lc (B := B) (W0 := W0) (L := L) (T := T) ho u) hsw (u.fn x i ht)) fun σ H Q h => h
    | true =>
      rw [hcond] at hsw
      cases hg : (!c.hot && (blkC c.N c.sc scope (ownOf c scope.names) && (notSet iter && decide (ifs.length ≤ 1)))) with
      | false =>
        refine ⟨fun pins s σ H En I ⟨F, ρ, R, h⟩ => ?_⟩
        have : evLc o c elt tg iter ifs scope = stk := by unfold evLc; simp only [hg]
        simp only [asgN, ht, this] at h
        exact h.elim
      | true =>
        have lp := lc_parts (B := B) (W0 := W0) (elt := elt) (tg := tg) ho u hg
        have hyl : X.env.scope.names.lookup x = some .local := by
          rw [Bool.and_eq_true, Bool.and_eq_true] at hcond
          exact eq_of_beq hcond.1.1
        exact asgN_rd u.toUC ht (ps_setLc lp.calm u.nd hN' hyl hsw (ok_src (B := B) (W0 := W0) (L := L) (T := T) ho u (tg := tg) (tup := isTup tg) (fun h => h) iter) lp.ok lp.hg lp.ht lp.he lp.hs) fun σ H Q h => lc_imp ho u hg h
theorem asg_any (ho : Ok o) (u : UD X c W W0) {x : Str} {px pos : Pos} {e : Expr} (hc : noComp e = true) : PS X (.Assign [.Name x px] e pos) (tSs (zt X B W0 L T) W (asgN c x (o.ev c e))) := by
  cases ht : c.tgt x with
  | none => exact ⟨fun pins s σ H En I h => (tS_stk (fun ρ => by simp only [asgN, ht] <;> rfl) h).elim⟩
  | some i =>
    obtain ⟨hN, hl⟩ := tgt_at ht
    exact asgN_rd u.toUC ht (ps_set u.nd (by rw [u.N]; exact hN) (by rw [u.sc]; exact hl) (ho.ev (B := B) (W0 := W0) (L := L) (T := T) e u) (sw_no hc) (u.fn x i ht)) fun σ H Q h => h
def isNm : Expr → Bool
  | .Name _ _ => true
  | _ => false
theorem cell_no {env : Env} {es : List Expr} {k : Nat} {p : Pos} {xs : List Str} {e : Expr} (hx : es.map (fun e => match e with
    | .Name x _ => x
    | _ => ⟨#[]⟩) = xs) (hn : es.all isNm = true) (h : cellAny env.scope xs = true) : swappedStores [.Tuple es k p] e env = pure none := by
  have short : ∀ line : Nat, (es.filterMap fun
    | .Name id pos => if env.kindOf id == some .local && pos.line == line then some id else none
    | _ => none).length ≠ es.length := by
    intro line hl
    unfold cellAny at h
    rw [List.any_eq_true] at h
    obtain ⟨x, hxm, hk⟩ := h
    rw [← hx] at hxm
    obtain ⟨a, ha, ea⟩ := List.mem_map.mp hxm
    have ina := List.all_eq_true.mp hn a ha
    have key : ∀ (l : List Expr), a ∈ l → (l.filterMap fun
      | .Name id pos => if env.kindOf id == some .local && pos.line == line then some id else none
      | _ => none).length < l.length := by
      intro l
      induction l with
      | nil => intro hm; cases hm
      | cons b l ih =>
        intro hm
        rw [List.filterMap_cons]
        rcases List.mem_cons.mp hm with rfl | hm
        · have no : (match a with
            | .Name id pos => if env.kindOf id == some .local && pos.line == line then some id else none
            | _ => none) = (none : Option Str) := by
            cases a <;> first | rfl | skip
            rename_i y py
            dsimp only at ea
            subst ea
            have : (env.kindOf y == some .local) = false := by
              have e0 : env.kindOf y = env.scope.names.lookup y := rfl
              rw [e0]
              cases hq : env.scope.names.lookup y with
              | none => rfl
              | some kd =>
                rw [hq] at hk
                cases kd <;> first | rfl | cases hk
            dsimp only
            rw [this]
            rfl
          rw [no]
          exact Nat.lt_succ_of_le (List.length_filterMap_le _ _)
        · have := ih hm
          split
          · exact Nat.lt_succ_of_lt this
          · exact Nat.succ_lt_succ this
    exact absurd hl (Nat.ne_of_lt (key es ha))
  unfold swappedStores
  cases e <;> try rfl
  rename_i vs k2 p2
  dsimp only
  split
  · rfl
  · split
    · rfl
    · refine (if_pos ?_)
      have := short ((es.head?.map (·.pos.line)).getD 0)
      rw [Bool.or_eq_true]
      left
      rw [bne_iff_ne]
      exact this
theorem noSwap_at {ts : List Expr} {e : Expr} {env : Env} (h : noSwap ts e = true) : swappedStores ts e env = pure none := by
  unfold noSwap at h
  split at h
  · rename_i vs k p
    unfold swappedStores
    split
    · rename_i us ws heq
      have ew : ws = vs := by
        split at heq
        · rename_i hq; cases heq; cases hq; rfl
        · rename_i hq; cases heq; cases hq; rfl
        · cases heq
      subst ew
      rw [Bool.or_eq_true] at h
      rcases h with h | h
      · split
        · rfl
        · split
          · rfl
          · dsimp only
            split
            · rfl
            · rfl
      · refine if_pos ?_
        rw [Bool.not_eq_true'] at h
        by_cases hl : ws.length = us.length
        · rw [← hl, h] <;> rfl
        · have : (ws.length != us.length) = true := by simpa using hl
          rw [this] <;> simp
    · rfl
  · rename_i hn
    unfold swappedStores
    split
    · rename_i heq
      split at heq
      · exact (hn _ _ _ rfl).elim
      · exact (hn _ _ _ rfl).elim
      · cases heq
    · rfl
theorem bindL_no {f : Expr → D → M Unit} (hf : ∀ e x ρ ex ρ', f e x ρ = .exc ex ρ' → False) : ∀ {es : List Expr} {xs : List D} {ρ ρ' : Evm} {ex : EV}, bindL f es xs ρ = .exc ex ρ' → False
  | [], [], _, _, _, h => by cases h
  | e :: es, x :: xs, ρ, ρ', ex, h => by
    change bnd (f e x) (fun _ => bindL f es xs) ρ = _ at h
    unfold bnd at h
    split at h
    · exact bindL_no hf h
    · rename_i e1; cases h; exact hf _ _ _ _ _ e1
    · cases h
  | [], _ :: _, _, _, _, h => by cases h
  | _ :: _, [], _, _, _, h => by cases h
theorem bindN_no {ok : Nat → Bool} : ∀ (n : Nat) {e : Expr} {x : D} {ρ ρ' : Evm} {ex : EV}, bindN n c ok e x ρ = .exc ex ρ' → False
  | 0, _, _, _, _, _, h => by cases h
  | n + 1, e, x, ρ, ρ', ex, h => by
    cases e with
    | Name y p =>
      cases ht : c.tgt y with
      | none => simp only [bindN, ht] at h; cases h
      | some i =>
        cases hk : ok i with
        | false => simp only [bindN, ht, hk] at h; cases h
        | true => simp only [bindN, ht, hk] at h; exact st_no h
    | Tuple es k p =>
      cases x with
      | tup xs =>
        cases hk : okCall es with
        | false => simp only [bindN, hk, bindX] at h; cases h
        | true =>
          simp only [bindN, hk, bindX] at h
          exact bindL_no (fun e x ρ ex ρ' h => bindN_no n h) h
      | _ => cases hk : okCall es <;> simp only [bindN, hk, bindX] at h <;> cases h
    | _ => cases h
theorem asg_tup (ho : Ok o) (u : UD X c W W0) (hh : c.hot = false) {tg e : Expr} {pos : Pos} {es : List Expr} {k : Nat} {p : Pos} (htg : tg = .Tuple es k p) (hsw : swappedStores [tg] e X.env = pure none) (hn2 : noComp e = true) :
    PS X (.Assign [tg] e pos) (tSs (zt X B W0 L T) W (bnd (o.ev c e) fun r => bnd (bindN 3 c (fun _ => true) tg r.1) fun _ => pure .nx)) := by
  refine PS.imp (ps_asg (ho.ev (B := B) (W0 := W0) (L := L) (T := T) e u) (ok_bindN (B := B) (W0 := W0) (L := L) (T := T) (.inl (u.calm hh)) u.toUC (fun _ => true) 3 tg) (sw_no hn2) hsw (by subst htg; rfl)) fun En σ H ⟨F, ρ, R, h⟩ => ?_
  refine tS_bnd R h fun r ρ1 v F1 H1 s1 R1 rr h1 => ?_
  obtain ⟨F2, s2, R2, rp⟩ := R1.settle rr
  refine ⟨F2, ρ1, r.1, R2, rp, ?_⟩
  have h2 := PstS.step h1 s2
  unfold bnd at h2
  cases e1 : bindN 3 c (fun _ => true) tg r.1 ρ1 with
  | ok a ρ2 => rw [e1] at h2; exact fun σ' R' _ => h2 σ' F2 H1 (.refl _ _) R'
  | exc ex ρ2 => 
    exact (bindN_no 3 e1).elim
  | stk => rw [e1] at h2; exact h2

/-! ### an own list is written -/
theorem Rl.tempAdd {K : PySem.W.Frag} {mg : Str → Option Value} {F : Fz} {H : Hp} {ρ : Evm} {σ : L2.St} {a : Addr} {x : D} (R : Rl ⟨K, mg, B, W0, L, T⟩ F ρ σ H) (h : Uq ⟨K, mg, B, W0, L, T⟩ F H ρ σ (.ref a) x) : Rl ⟨K, mg, B, W0, L, (a, x) :: T⟩ F ρ σ H ∧ ∀ p ∈ T, p.1 ≠ a := by
  obtain ⟨a', e, ow, nf, b, hs, ht⟩ := h
  cases e
  refine ⟨⟨R.len, R.sl, R.sep, R.pin, R.old, R.dom, R.live, fun p hp => ?_, R.tab, R.stp0, R.hb, R.nfz, R.wn⟩, ht⟩
  rcases List.mem_cons.mp hp with e | hp
  · subst e; exact ⟨ow, nf, b, hs⟩
  · exact R.kept p hp
theorem setIn_rd {Z : Zt} {i : Nat} {k d : D} {F : Fz} {ρ ρ' : Evm} {σ : L2.St} {H : Hp} {o' kv v : V} {a : Unit} {Q : Hp → Prop} (R : Rl Z F ρ σ H) (hv : σ[i]? = some (some o')) (rk : Rep Z.K Z.mg F H kv k) (rv : Rep Z.K Z.mg F H v d) (e : setIn i k d ρ = .ok a ρ')
    (hq : ∀ H', Stp F H F H' → Rl Z F ρ' σ H' → Q H') : rSetL o' kv v H Q := by
  have go : ∀ x y s s', ρ[i]? = some s → s.own = true → ((s = .o x ∧ s' = .o y) ∨ (s = .l x ∧ s' = .l y)) → setD x k d = some y → ρ' = ρ.set i s' → rSetL o' kv v H Q := by
    intro x y s s' es ho hk e1 e2
    obtain ⟨v', hv', so⟩ := R.slot es
    rw [hv] at hv'
    cases hv'
    obtain ⟨a, x', ea, ow, nf, _, ek⟩ := so.own_some ho
    cases ea
    have hx : x' = x := by
      rcases hk with ⟨rfl, _⟩ | ⟨rfl, _⟩
      · rcases ek with e | e <;> cases e; rfl
      · rcases ek with e | e <;> cases e; rfl
    subst hx
    unfold setD at e1
    split at e1
    · rename_i xs j
      cases ej : ixN xs.length j with
      | none => rw [ej] at e1; cases e1
      | some n =>
        rw [ej] at e1
        cases e1
        obtain ⟨ob, hob, hr⟩ := id ow
        cases hr with
        | lst hr =>
          rename_i vs
          cases rk
          have st := stp_own (F := F) (H := H) (ob := .lst (vs.set n v)) nf
          refine ⟨a, vs, j, n, rfl, rfl, hob, by rw [hr.length]; exact ej, hq _ st ?_⟩
          rw [e2]
          refine R.write es ho hv nf (.lst ((hr.set rv n).step st)) ?_
          rcases hk with ⟨h1, h2⟩ | ⟨h1, h2⟩
          · exact .inl ⟨_, h1, h2⟩
          · exact .inr ⟨_, h1, h2⟩
    · cases e1
  unfold setIn at e
  split at e
  · rename_i x es
    cases e1 : setD x k d with
    | none => rw [e1] at e; cases e
    | some y => rw [e1] at e; cases e; exact go x y _ _ es rfl (.inl ⟨rfl, rfl⟩) e1 rfl
  · rename_i x es
    cases e1 : setD x k d with
    | none => rw [e1] at e; cases e
    | some y => rw [e1] at e; cases e; exact go x y _ _ es rfl (.inr ⟨rfl, rfl⟩) e1 rfl
  · cases e
theorem setIn_no {i : Nat} {k d : D} {ρ ρ' : Evm} {ex : EV} (e : setIn i k d ρ = .exc ex ρ') : False := by
  unfold setIn at e
  split at e
  · split at e <;> cases e
  · split at e <;> cases e
  · cases e
theorem noSwap_sub {x : Str} {px p : Pos} {ix e : Expr} {env : Env} : swappedStores [.Subscript (.Name x px) ix p] e env = pure none := by
  cases e <;> rfl
theorem asg_sub (ho : Ok o) (u : UD X c W W0) {x : Str} {i : Nat} {e ix : Expr} {px p pos : Pos} (hn : c.nm x = .slot i) (hc : (noComp e && notSlice ix) = true) :
    PS X (.Assign [.Subscript (.Name x px) ix p] e pos) (tSs (zt X B W0 L T) W (bnd (o.ev c e) fun r => fun ρ => (match ownL ρ i with
      | true => bnd (o.ev c ix) (fun k => bnd (setIn i k.1 r.1) fun _ => pure Flow'.nx) ρ
      | false => .stk))) := by
  rw [Bool.and_eq_true] at hc
  obtain ⟨hok, hN, hv⟩ := nm_slot hn
  obtain ⟨h1, h2⟩ := okName_at hok
  have hasg : ∀ v, assign (.Subscript (.Name x px) ix p) X.env v = (do
      let ov ← holding [v] (eval (.Name x px) X.env)
      let iv ← holding [v, ov] (eval ix X.env)
      standAt p
      holding [v, ov, iv] (setItem ov iv v)
      release [v, ov, iv] []) := by
    intro v
    cases ix <;> first | rfl | cases hc.2
  refine PS.imp (ps_asg (ho.ev (B := B) (W0 := W0) (L := L) (T := T) e u) (pg_sub (pe_var (i := i) (pos := px) (by rw [u.N]; exact hN) (by rw [u.sc]; exact hv) h1 h2) (ho.ev (B := B) (W0 := W0) (L := L) (T := T) ix u) set_list hasg) (show swapsWithSole [.Subscript (.Name x px) ix p] e pos.line X.env = pure false from sw_no (t := some (.Subscript (.Name x px) ix p)) (l := pos.line) (env := X.env) hc.1) (noSwap_sub (x := x)) rfl) fun En σ H ⟨F, ρ, R, h⟩ => ?_
  refine tS_bnd R h fun r ρ1 v F1 H1 s1 R1 rr h1 => ?_
  obtain ⟨F2, s2, R2, rp⟩ := R1.settle rr
  have h2 := PstS.step h1 s2
  cases ow : ownL ρ1 i with
  | false => rw [ow] at h2; exact h2.elim
  | true =>
    rw [ow] at h2
    obtain ⟨w, hw, _⟩ := ownL_at R2 ow
    refine ⟨w, hw, tS_bnd R2 h2 fun k ρ2 kv F3 H3 s3 R3 rk h3 => ?_⟩
    obtain ⟨F4, s4, R4, rk'⟩ := R3.settle rk
    have h4 := PstS.step h3 s4
    unfold bnd at h4
    cases e1 : setIn i k.1 r.1 ρ2 with
    | ok a ρ3 =>
      rw [e1] at h4
      exact setIn_rd R4 hw rk' ((rp.step s3).step s4) e1 fun H' st R' => h4 σ F4 H' st R'
    | exc ex ρ3 => exact (setIn_no e1).elim
    | stk => rw [e1] at h4; exact h4.elim

/-! ### name op= e -/
def rAug (Z : Zt) (op : Operator) : TIp := fun v w H Q => ∃ F x y z, live F H ∧ Rep Z.K Z.mg F H v x ∧ Rep Z.K Z.mg F H w y ∧ augD op x y = some z ∧ ∀ u, Rep Z.K Z.mg F H u z → Q u H
theorem aug_ok (op : Operator) : PIp X op (rAug (zt X B W0 L T) op) := by
  intro pins s σ H v w a b Q I ra rb h
  obtain ⟨F, x, y, z, l, rx, ry, e, q⟩ := h
  unfold augD at e
  split at e
  · cases rx; cases ry; cases e
    exact iop_add pins s σ H _ _ a b Q I ra rb ⟨_, _, rfl, rfl, q _ (.int _)⟩
  · cases rx; cases ry; cases e
    exact iop_sub pins s σ H _ _ a b Q I ra rb ⟨_, _, rfl, rfl, q _ (.int _)⟩
  · obtain ⟨hs, e⟩ := gd_at e
    subst e
    cases rx; cases ry
    rw [Bool.or_eq_true] at hs
    rcases hs with hs | hs
    · exact iop_mul pins s σ H _ _ a b Q I ra rb ⟨_, _, rfl, rfl, .inl (small64_at hs), q _ (.int _)⟩
    · exact iop_mul pins s σ H _ _ a b Q I ra rb ⟨_, _, rfl, rfl, .inr (small64_at hs), q _ (.int _)⟩
  · obtain ⟨hs, e⟩ := gd_at e
    subst e
    cases rx; cases ry
    unfold divOk at hs
    rw [Bool.and_eq_true, Bool.or_eq_true] at hs
    rcases hs with ⟨h1, hs | hs⟩
    · exact iop_fdiv pins s σ H _ _ a b Q I ra rb ⟨_, _, rfl, rfl, ⟨of_decide_eq_true h1, of_decide_eq_true hs⟩, q _ (.int _)⟩
    · exact iop_fdivW pins s σ H _ _ a b Q I ra rb ⟨_, _, rfl, rfl, ⟨of_decide_eq_true h1, of_decide_eq_true hs⟩, q _ (.int _)⟩
  · obtain ⟨hs, e⟩ := gd_at e
    subst e
    cases rx; cases ry
    exact iop_mod pins s σ H _ _ a b Q I ra rb ⟨_, _, rfl, rfl, of_decide_eq_true hs, q _ (.int _)⟩
  · cases rx; cases ry; cases e
    exact iop_xor pins s σ H _ _ a b Q I ra rb ⟨_, _, rfl, rfl, q _ (.int _)⟩
  · obtain ⟨hs, e⟩ := gd_at e
    subst e
    cases rx; cases ry
    exact iop_add_str pins s σ H _ _ a b Q I ra rb ⟨_, _, rfl, rfl, lineOk_at hs, q _ (.str _)⟩
  · cases e
theorem aug_rd (ho : Ok o) (u : UD X c W W0) {x : Str} {op : Operator} {e : Expr} {px pos : Pos} : PS X (.AugAssign (.Name x px) op e pos) (tSs (zt X B W0 L T) W (augS o c x op e)) := by
  cases ht : c.tgt x with
  | none => exact ⟨fun pins s σ H En I h => (tS_stk (fun ρ => by simp only [augS, ht] <;> rfl) h).elim⟩
  | some i =>
    obtain ⟨hN, hl⟩ := tgt_at ht
    refine PS.imp (ps_aug u.nd (by rw [u.N]; exact hN) (by rw [u.sc]; exact hl) (ho.ev (B := B) (W0 := W0) (L := L) (T := T) e u) (aug_ok (B := B) (W0 := W0) (L := L) (T := T) op) (u.fn x i ht)) fun En σ H ⟨F, ρ, R, h⟩ => ?_
    simp only [augS, ht] at h
    cases hx : look ρ i with
    | none => rw [hx] at h; exact h.elim
    | some x0 =>
      rw [hx] at h
      dsimp only at h
      cases him : isImm x0 with
      | false => rw [him] at h; exact h.elim
      | true =>
        rw [him] at h
        obtain ⟨v, hv, pk⟩ := R.look hx
        have rp : Rep X.K X.mg F H v x0 := pk.rep fun a ob z => by
          obtain ⟨z1, _⟩ := z
          cases z1 <;> cases him
        refine ⟨v, hv, tS_bnd R h fun r ρ1 w F1 H1 s1 R1 rr h1 => ?_⟩
        obtain ⟨F2, s2, R2, rw'⟩ := R1.settle rr
        have h2 := PstS.step h1 s2
        cases ea : augD op x0 r.1 with
        | none => rw [ea] at h2; exact h2.elim
        | some z =>
          rw [ea] at h2
          refine ⟨F2, x0, r.1, z, R2.live, (rp.step s1).step s2, rw', ea, fun y ry => ?_⟩
          have h3 : PstS (zt X B W0 L T) W En F2 H1 (bnd (st i z false) (fun _ => pure Flow'.nx) ρ1) := h2
          unfold bnd at h3
          cases e1 : st i z false ρ1 with
          | ok a ρ2 =>
            rw [e1] at h3
            obtain ⟨⟨s, hs, hp⟩, rfl⟩ := st_at e1
            exact h3 _ F2 H1 (.refl _ _) (R2.store hs hp (rr_rep ry))
          | exc ex ρ2 => exact (st_no e1).elim
          | stk => rw [e1] at h3; exact h3.elim

/-! ### a, b = .. -/
theorem swap2 {env : Env} {x y : Str} {px py pt pt2 : Pos} {kt k2 : Nat} {a b : Expr} (hk : env.scope.kind = .function) (hx : env.scope.names.lookup x = some .local) (hy : env.scope.names.lookup y = some .local) (hxy : x ≠ y) (hl : (px.line == py.line) = true) (ha : notStar a = true) (hb : notStar b = true)
    (hf : (foldedForSure 8 a && foldedForSure 8 b) = false) (hc : (constantsAlone 8 a && constantsAlone 8 b) = false) : swappedStores [.Tuple [.Name x px, .Name y py] kt pt] (.Tuple [a, b] k2 pt2) env = pure (some [x, y]) := by
  have hbk : env.blockKind = .function := by unfold Env.blockKind; rw [hk] <;> rfl
  have kx : env.kindOf x = some .local := hx
  have ky : env.kindOf y = some .local := hy
  have hl' : py.line = px.line := (eq_of_beq hl).symm
  have hfold : [a, b].all (foldedForSure 8) = false := by simpa using hf
  have hcon : [a, b].all (constantsAlone 8) = false := by simpa using hc
  have hyx : (y == x) = false := by simpa using Ne.symm hxy
  unfold swappedStores
  dsimp only
  rw [hbk]
  refine (if_neg (by simp)).trans ?_
  refine (if_neg fun hh => ?_).trans ?_
  · obtain ⟨e, he, hm⟩ := List.any_eq_true.mp hh
    have hns : notStar e = true := by
      simp only [List.mem_cons, List.not_mem_nil, or_false] at he
      rcases he with rfl | rfl <;> assumption
    cases e <;> first | (cases hns; done) | (cases hm; done)
  refine (if_neg (by simp [Expr.pos, kx, ky, hl', hyx, List.eraseDups_cons, List.filter])).trans ?_
  refine (if_neg (by rw [hfold]; decide)).trans ?_
  refine (if_neg (by rw [hcon]; decide)).trans ?_
  simp [Expr.pos, kx, ky, hl']
theorem tS_bndT {K : PySem.W.Frag} {mg : Str → Option Value} {a0 : Addr} {x0 : D} {En : Ends} {F : Fz} {H : Hp} {ρ : Evm} {σ : L2.St} {α γ : Type} {m : M α} {f : α → M Flow'} {Rel : Fz → Hp → Evm → L2.St → γ → α → Prop} {Q : γ → Hp → Prop} (hT : ∀ p ∈ T, p.1 ≠ a0) (R : Rl ⟨K, mg, B, W0, L, (a0, x0) :: T⟩ F ρ σ H) (h : PstS ⟨K, mg, B, W0, L, T⟩ W En F H (bnd m f ρ))
    (k : ∀ a ρ1 v F1 H1, Stp F H F1 H1 → Rl ⟨K, mg, B, W0, L, (a0, x0) :: T⟩ F1 ρ1 σ H1 → Rel F1 H1 ρ1 σ v a → PstS ⟨K, mg, B, W0, L, T⟩ W En F1 H1 (f a ρ1) → Q v H1) : tM ⟨K, mg, B, W0, L, (a0, x0) :: T⟩ W m Rel σ H Q := by
  refine tM_of R ?_
  unfold bnd at h
  cases e : m ρ with
  | ok a ρ1 =>
    rw [e] at h
    exact fun v F1 H1 s R1 r => k a ρ1 v F1 H1 s R1 r (PstS.step h s)
  | exc x ρ1 =>
    rw [e] at h
    exact fun cls dd F' H' s R' ea => h cls dd σ F' H' s (R'.tempEnd hT).1 ea
  | stk => rw [e] at h; exact h
theorem Uq.stored {Z : Zt} {F : Fz} {H : Hp} {ρ : Evm} {σ : L2.St} {w v : V} {y : D} {i : Nat} {s : Sl} (h : Uq Z F H ρ σ w y) (hne : s.own = true → v ≠ w) : Uq Z F H (ρ.set i s) (σ.set i (some v)) w y := by
  obtain ⟨a, e, ow, nf, b, hs, ht⟩ := h
  refine ⟨a, e, ow, nf, b, fun j t h1 h2 h3 => ?_, ht⟩
  by_cases hj : j = i
  · subst hj
    by_cases hl : j < ρ.length
    · rw [List.getElem?_set_self hl] at h1
      cases h1
      by_cases hl2 : j < σ.length
      · rw [List.getElem?_set_self hl2] at h3
        cases h3
        exact hne h2 e.symm
      · rw [List.getElem?_eq_none (by simpa using hl2)] at h3; cases h3
    · rw [List.getElem?_eq_none (by simpa using hl)] at h1; cases h1
  · rw [List.getElem?_set_ne (Ne.symm hj)] at h1 h3
    exact hs j t h1 h2 h3
/-- the two stores -/
theorem par_fin {En : Ends} {F : Fz} {H : Hp} {ρ : Evm} {σ : L2.St} {v w : V} {r1 r2 : D × Bool} {i j : Nat} (R : Rl (zt X B W0 L T) F ρ σ H) (rr1 : RR (zt X B W0 L T) F H ρ σ v r1) (rr2 : RR (zt X B W0 L T) F H ρ σ w r2) (hne : r1.2 = true → r2.2 = true → v ≠ w)
    (h : PstS (zt X B W0 L T) W En F H (bnd (st i r1.1 r1.2) (fun _ => bnd (st j r2.1 r2.2) fun _ => pure .nx) ρ)) : En.nx ((σ.set i (some v)).set j (some w)) H := by
  unfold bnd at h
  cases e1 : st i r1.1 r1.2 ρ with
  | exc ex ρ1 => exact (st_no e1).elim
  | stk => rw [e1] at h; exact h.elim
  | ok a ρ1 =>
    rw [e1] at h
    dsimp only at h
    obtain ⟨⟨s, hs, hp⟩, rfl⟩ := st_at e1
    have R1 := R.store hs hp rr1
    cases e2 : st j r2.1 r2.2 (ρ.set i (stS r1.1 r1.2)) with
    | exc ex ρ2 => exact (st_no e2).elim
    | stk => rw [e2] at h; exact h.elim
    | ok a2 ρ2 =>
      rw [e2] at h
      obtain ⟨⟨s', hs', hp'⟩, rfl⟩ := st_at e2
      refine h _ F H (.refl _ _) (R1.store hs' hp' ?_)
      obtain ⟨d2, u2⟩ := r2
      cases u2 with
      | false => exact rr2
      | true =>
        have uq : Uq (zt X B W0 L T) F H ρ σ w d2 := rr2
        refine uq.stored fun ho => hne ?_ rfl
        obtain ⟨d1, u1⟩ := r1
        cases u1 with
        | true => rfl
        | false => cases ho
theorem asg_par (ho : Ok o) (u : UD X c W W0) (hh : c.hot = false) {x y : Str} {px py pt pt2 pos : Pos} {kt k2 : Nat} {a b : Expr} {i j : Nat} (hk : (isFun c && parOk c.sc x y px py a b) = true) (hi : c.slot x = some i) (hj : c.slot y = some j) :
    PS X (.Assign [.Tuple [.Name x px, .Name y py] kt pt] (.Tuple [a, b] k2 pt2) pos) (tSs (zt X B W0 L T) W (bnd (o.ev c a) fun r1 => bnd (o.ev c b) fun r2 => bnd (st i r1.1 r1.2) fun _ => bnd (st j r2.1 r2.2) fun _ => pure .nx)) := by
  rw [Bool.and_eq_true] at hk
  obtain ⟨hf, hp⟩ := hk
  unfold parOk at hp
  simp only [Bool.and_eq_true, decide_eq_true_eq] at hp
  obtain ⟨hxy, hx, hy, hl, ha, hb, hfo, hco⟩ := hp
  have hk := kind_at hf u.toUC
  have hN : X.N[i]? = some x := by rw [u.N]; exact slot_at hi
  have hN2 : X.N[j]? = some y := by rw [u.N]; exact slot_at hj
  have hij : i ≠ j := fun e => by subst e; rw [hN] at hN2; cases hN2; exact hxy rfl
  have hx' : X.env.scope.names.lookup x = some .local := by rw [u.sc]; exact hx
  have hy' : X.env.scope.names.lookup y = some .local := by rw [u.sc]; exact hy
  have hpb : PE X b (fun σ H Q => ∃ T, tEv (zt X B W0 L T) W (o.ev c b) σ H Q) := ⟨fun pins s σ H Q I ⟨T, h⟩ => (ho.ev (B := B) (W0 := W0) (L := L) (T := T) b u).run pins s σ H Q I h⟩
  refine PS.imp (ps_par (u.calm hh) u.nd hN hN2 hij hx' hy' (pa_cons (ho.ev (B := B) (W0 := W0) (L := L) (T := T) a u) (pa_cons hpb pa_nil (star_of hb)) (star_of ha)) (swap2 hk hx' hy' hxy hl ha hb (by cases q : (foldedForSure 8 a && foldedForSure 8 b) with
    | false => rfl
    | true => rw [q] at hfo; cases hfo) (by cases q : (constantsAlone 8 a && constantsAlone 8 b) with
    | false => rfl
    | true => rw [q] at hco; cases hco)) rfl) fun En σ H ⟨F, ρ, R, h⟩ => ?_
  refine tS_bnd R h fun r1 ρ1 v F1 H1 s1 R1 rr1 h1 => ?_
  obtain ⟨d1, u1⟩ := r1
  cases u1 with
  | false =>
    refine ⟨T, tS_bnd R1 h1 fun r2 ρ2 w F2 H2 s2 R2 rr2 h2 => ⟨v, w, rfl, ?_⟩⟩
    have rp : Rep X.K X.mg F1 H1 v d1 := rr1
    exact par_fin (r1 := (d1, false)) R2 (rr_rep (rp.step s2)) rr2 (fun e => by cases e) h2
  | true =>
    have uq : Uq (zt X B W0 L T) F1 H1 ρ1 σ v d1 := rr1
    obtain ⟨a1, rfl, _⟩ := id uq
    obtain ⟨R1', hT⟩ := Rl.tempAdd R1 uq
    refine ⟨(a1, d1) :: T, tS_bndT (Rel := RR (zt X B W0 L ((a1, d1) :: T))) hT R1' h1 fun r2 ρ2 w F2 H2 s2 R2 rr2 h2 => ⟨.ref a1, w, rfl, ?_⟩⟩
    obtain ⟨R3, uq3⟩ := Rl.tempEnd R2 hT
    obtain ⟨d2, u2⟩ := r2
    cases u2 with
    | false => exact par_fin (r1 := (d1, true)) (r2 := (d2, false)) R3 (rr_uq uq3) rr2 (fun _ e => by cases e) h2
    | true =>
      have uq2 : Uq (zt X B W0 L ((a1, d1) :: T)) F2 H2 ρ2 σ w d2 := rr2
      obtain ⟨a2, e2, ow2, nf2, b2, hs2, ht2⟩ := uq2
      refine par_fin (r1 := (d1, true)) (r2 := (d2, true)) R3 (rr_uq uq3) (rr_uq ⟨a2, e2, ow2, nf2, b2, hs2, fun p hp => ht2 p (List.mem_cons_of_mem _ hp)⟩) (fun _ _ e => ?_) h2
      rw [e2] at e
      cases e
      exact ht2 (a1, d1) List.mem_cons_self rfl

/-! ### if, for, while -/
theorem ok_ifS (ho : OkS o) (u : US X c W W0) {t : Expr} {a b : List Stmt} {pos : Pos} : PS X (.If t a b pos) (tSs (zt X B W0 L T) W (bnd (o.tst c t) fun k => (match k with
    | true => o.ss c a
    | false => o.ss c b))) := by
  refine PS.imp (ps_if (ho.tst (B := B) (W0 := W0) (L := L) (T := T) t u.toUD) (ho.ss (B := B) (W0 := W0) (L := L) (T := T) a u) (ho.ss (B := B) (W0 := W0) (L := L) (T := T) b u)) fun En σ H ⟨F, ρ, R, h⟩ => ?_
  unfold tIfS
  refine tS_bnd R h fun k ρ1 k' F1 H1 s1 R1 e h1 => ?_
  subst e
  cases k' with
  | true => rw [if_pos rfl]; exact ⟨F1, ρ1, R1, h1⟩
  | false => rw [if_neg (by decide)]; exact ⟨F1, ρ1, R1, h1⟩
abbrev tSsX (X : Cx) (B : Hp) (W0 : Zx) (W : WX) (m : M Flow') : TS := fun En σ H => ∃ L T, tSs (zt X B W0 L T) W m En σ H
theorem ok_for (ho : OkS o) (u : US X c W W0) (hh : c.hot = false) {tg iter : Expr} {body : List Stmt} {pos : Pos} (hn : notSet iter = true) :
    PS X (.For tg iter body [] pos) (tSs (zt X B W0 L T) W (bnd (evSrc o c (isTup tg) iter) fun s => forAt c.tf s (bindN 3 c (fun _ => true) tg) (o.ss c body))) := by
  have hc := u.calm hh
  have hg : PG X tg (tBndX X B W0 (fun _ => true) (bindN 3 c (fun _ => true) tg)) := ⟨fun pins s' σ H' v x Q I r ⟨L, T, h⟩ => (ok_bindN (B := B) (W0 := W0) (L := L) (T := T) (.inl hc) u.toUC _ 3 tg).run pins s' σ H' v x Q I r h⟩
  have hb : PSs X body (tSsX X B W0 W (o.ss c body)) := ⟨fun pins s' σ H' En I ⟨L, T, h⟩ => (ho.ss (B := B) (W0 := W0) (L := L) (T := T) body u).run pins s' σ H' En I h⟩
  refine PS.imp (ps_for (u.own hh) hc (ok_src (B := B) (W0 := W0) (L := L) (T := T) ho.toOk u.toUD (tg := tg) (tup := isTup tg) (fun h => h) iter) hg hb (folded_ok hn)) fun En σ H ⟨F, ρ, R, h⟩ => ?_
  unfold tFor
  refine tS_bnd R h fun s ρ1 J F1 H1 s1 R1 sr h1 => ?_
  obtain ⟨as, hpl, hv, so⟩ := sr
  unfold forAt at h1
  cases hok : allOwn ρ1 s.pl with
  | false => rw [hok] at h1; exact h1.elim
  | true =>
    rw [hok] at h1
    dsimp only at h1
    obtain ⟨nd, own⟩ := allOwn_at hok
    generalize srcN ρ1 s + c.tf = k0 at h1
    have Rp : Rl (zt X B W0 (as ++ L) T) F1 (pinAll ρ1 s.pl) σ H1 := by
      rw [← hpl]
      exact Rl.pins as R1 (by rw [hpl]; exact nd) hv fun p hp => own p.1 (by rw [← hpl]; exact List.mem_map_of_mem hp)
    have post : ∀ {σ' : L2.St} {F' : Fz} {H' : Hp} {ρ' : Evm}, Rl (zt X B W0 (as ++ L) T) F' ρ' σ' H' → Rl (zt X B W0 L T) F' (unpin ρ1 ρ' s.pl) σ' H' := by
      intro σ' F' H' ρ' R'
      rw [← hpl]
      refine Rl.unpins as R' (by rw [hpl]; exact nd) fun p hp => ?_
      have hpm : p.1 ∈ s.pl := by rw [← hpl]; exact List.mem_map_of_mem hp
      obtain ⟨t, ht, hto⟩ := own p.1 hpm
      refine ⟨t, ht, hto, fun hnp => ⟨?_, fun q hq e => ?_⟩⟩
      · have sl := R1.sl p.1 t _ ht (hv p hp)
        cases t with
        | o x => obtain ⟨a', e', _, _, b⟩ := sl; cases e'; exact b
        | l x => cases hnp
        | _ => cases hto
      · obtain ⟨⟨t', ht', hpn⟩, _⟩ := R1.pin q hq
        rw [e, ht] at ht'
        cases ht'
        rw [hnp] at hpn; cases hpn
    have hp' : PstS (zt X B W0 (as ++ L) T) W En F1 H1 (forW s (bindN 3 c (fun _ => true) tg) (o.ss c body) k0 0 (pinAll ρ1 s.pl)) := by
      cases ew : forW s (bindN 3 c (fun _ => true) tg) (o.ss c body) k0 0 (pinAll ρ1 s.pl) with
      | ok fl ρ' =>
        rw [ew] at h1
        cases fl with
        | nx => exact fun σ' F' H' s' R' => h1 σ' F' H' s' (post R')
        | bk => exact fun σ' F' H' s' R' => h1 σ' F' H' s' (post R')
        | ct => exact fun σ' F' H' s' R' => h1 σ' F' H' s' (post R')
        | rt d u => exact fun v σ' F' H' s' R' => h1 v σ' F' H' s' (post R')
      | exc e ρ' => rw [ew] at h1; exact fun cls dd σ' F' H' s' R' => h1 cls dd σ' F' H' s' (post R')
      | stk => rw [ew] at h1; exact h1
    refine ⟨fun i m σ H => ∃ F ρ, Rl (zt X B W0 (as ++ L) T) F ρ σ H ∧ Stp F1 H1 F H ∧ PstS (zt X B W0 (as ++ L) T) W En F H (forW s (bindN 3 c (fun _ => true) tg) (o.ss c body) m i ρ), ⟨k0, F1, _, Rp, .refl _ _, hp'⟩, ?_⟩
    rintro i m σ2 H2 ⟨F2, ρ2, R2, st2, h2⟩
    cases m with
    | zero => exact h2.elim
    | succ k =>
      unfold forW at h2
      have l : Later (zt X B W0 L T) F1 H1 as (zt X B W0 (as ++ L) T) F2 H2 ρ2 σ2 := ⟨rfl, rfl, st2, R2, fun p hp => List.mem_append_left _ hp⟩
      obtain ⟨q1, q2⟩ := so.at_ i l
      cases es : srcAt ρ2 s i with
      | none => rw [es] at h2; exact h2.elim
      | some r =>
        cases r with
        | none =>
          rw [es] at h2
          exact .inl ⟨q1 es, h2 σ2 F2 H2 (.refl _ _) R2⟩
        | some d =>
          rw [es] at h2
          dsimp only at h2
          obtain ⟨go, yl⟩ := q2 d es
          refine .inr ⟨go, fun σ' H' => ∃ m', m' < k + 1 ∧ ∃ F ρ, Rl (zt X B W0 (as ++ L) T) F ρ σ' H' ∧ Stp F1 H1 F H' ∧ PstS (zt X B W0 (as ++ L) T) W En F H' (forW s (bindN 3 c (fun _ => true) tg) (o.ss c body) m' (i + 1) ρ), fun σ' H' h => h, fun x H3 y => ?_⟩
          obtain ⟨F3, st3, R3, rp⟩ := yl x H3 y
          refine ⟨as ++ L, T, F3, ρ2, d, R3, rp, ?_⟩
          cases eb : bindN 3 c (fun _ => true) tg d ρ2 with
          | exc ex ρ3 => exact (bindN_no 3 eb).elim
          | stk => rw [eb] at h2; exact h2.elim
          | ok z ρ3 =>
            rw [eb] at h2
            dsimp only at h2
            intro σ4 R4 _
            refine ⟨as ++ L, T, F3, ρ3, R4, ?_⟩
            cases ey : o.ss c body ρ3 with
            | stk => rw [ey] at h2; exact h2
            | exc ex ρ4 => rw [ey] at h2; exact PstS.step h2 st3
            | ok fl ρ4 =>
              rw [ey] at h2
              cases fl with
              | nx => exact fun σ' F' H' s' R' => ⟨k, Nat.lt_succ_self k, F', ρ4, R', (st2.trans st3).trans s', PstS.step h2 (st3.trans s')⟩
              | ct => exact fun σ' F' H' s' R' => ⟨k, Nat.lt_succ_self k, F', ρ4, R', (st2.trans st3).trans s', PstS.step h2 (st3.trans s')⟩
              | bk => exact PstS.step (r := .ok .nx ρ4) h2 st3
              | rt d' u' => exact PstS.step h2 st3
theorem ok_while (ho : OkS o) (u : US X c W W0) (hh : c.hot = false) {t : Expr} {body : List Stmt} {pos : Pos} : PS X (.While t body [] pos) (tSs (zt X B W0 L T) W (whileW (o.tst c t) (o.ss c body) c.tf)) := by
  refine PS.imp (ps_while (u.own hh) (ho.tst (B := B) (W0 := W0) (L := L) (T := T) t u.toUD) (ho.ss (B := B) (W0 := W0) (L := L) (T := T) body u)) fun En σ H ⟨F, ρ, R, h⟩ => ?_
  generalize c.tf = k0 at h
  refine ⟨fun m σ H => ∃ F ρ, Rl (zt X B W0 L T) F ρ σ H ∧ PstS (zt X B W0 L T) W En F H (whileW (o.tst c t) (o.ss c body) m ρ), ⟨k0, F, ρ, R, h⟩, ?_⟩
  rintro m σ2 H2 ⟨F2, ρ2, R2, h2⟩
  cases m with
  | zero => exact h2.elim
  | succ k =>
    unfold whileW at h2
    refine tS_bnd R2 h2 fun b ρ3 b' F3 H3 s3 R3 e h3 => ?_
    subst e
    cases b' with
    | false => rw [if_neg (by decide)]; exact h3 σ2 F3 H3 (.refl _ _) R3
    | true =>
      rw [if_pos rfl]
      refine ⟨fun σ' H' => ∃ m', m' < k + 1 ∧ ∃ F ρ, Rl (zt X B W0 L T) F ρ σ' H' ∧ PstS (zt X B W0 L T) W En F H' (whileW (o.tst c t) (o.ss c body) m' ρ), fun σ' H' h => h, F3, ρ3, R3, ?_⟩
      have h4 : PstS (zt X B W0 L T) W En F3 H3 (bnd (o.ss c body) (fun fl => match fl with
        | .nx => whileW (o.tst c t) (o.ss c body) k
        | .ct => whileW (o.tst c t) (o.ss c body) k
        | .bk => pure .nx
        | .rt d u => pure (.rt d u)) ρ3) := h3
      unfold bnd at h4
      cases ey : o.ss c body ρ3 with
      | stk => rw [ey] at h4; exact h4
      | exc ex ρ4 => rw [ey] at h4; exact h4
      | ok fl ρ4 =>
        rw [ey] at h4
        cases fl with
        | nx => exact fun σ' F' H' s' R' => ⟨k, Nat.lt_succ_self k, F', ρ4, R', PstS.step h4 s'⟩
        | ct => exact fun σ' F' H' s' R' => ⟨k, Nat.lt_succ_self k, F', ρ4, R', PstS.step h4 s'⟩
        | bk => exact h4
        | rt d' u' => exact h4

theorem swap3 {env : Env} {x y z : Str} {px py pz pt pt2 : Pos} {kt k2 : Nat} {a b d : Expr} (hk : env.scope.kind = .function) (hx : env.scope.names.lookup x = some .local) (hy : env.scope.names.lookup y = some .local) (hz : env.scope.names.lookup z = some .local) (hxy : x ≠ y) (hxz : x ≠ z) (hyz : y ≠ z) (hl : (px.line == py.line) = true) (hl2 : (px.line == pz.line) = true) (ha : notStar a = true) (hb : notStar b = true) (hd : notStar d = true)
    (hf : (foldedForSure 8 a && (foldedForSure 8 b && foldedForSure 8 d)) = false) (hc : (constantsAlone 8 a && (constantsAlone 8 b && constantsAlone 8 d)) = false) : swappedStores [.Tuple [.Name x px, .Name y py, .Name z pz] kt pt] (.Tuple [a, b, d] k2 pt2) env = pure (some [x, y, z]) := by
  have hbk : env.blockKind = .function := by unfold Env.blockKind; rw [hk] <;> rfl
  have kx : env.kindOf x = some .local := hx
  have ky : env.kindOf y = some .local := hy
  have kz : env.kindOf z = some .local := hz
  have hl' : py.line = px.line := (eq_of_beq hl).symm
  have hl2' : pz.line = px.line := (eq_of_beq hl2).symm
  have hfold : [a, b, d].all (foldedForSure 8) = false := by simpa using hf
  have hcon : [a, b, d].all (constantsAlone 8) = false := by simpa using hc
  have hyx : (y == x) = false := by simpa using Ne.symm hxy
  have hzx : (z == x) = false := by simpa using Ne.symm hxz
  have hzy : (z == y) = false := by simpa using Ne.symm hyz
  unfold swappedStores
  dsimp only
  rw [hbk]
  refine (if_neg (by simp)).trans ?_
  refine (if_neg fun hh => ?_).trans ?_
  · obtain ⟨e, he, hm⟩ := List.any_eq_true.mp hh
    have hns : notStar e = true := by
      simp only [List.mem_cons, List.not_mem_nil, or_false] at he
      rcases he with rfl | rfl | rfl <;> assumption
    cases e <;> first | (cases hns; done) | (cases hm; done)
  refine (if_neg (by simp [Expr.pos, kx, ky, kz, hl', hl2', hyx, hzx, hzy, List.eraseDups_cons, List.filter])).trans ?_
  refine (if_neg (by rw [hfold]; decide)).trans ?_
  refine (if_neg (by rw [hcon]; decide)).trans ?_
  simp [Expr.pos, kx, ky, kz, hl', hl2']
theorem reps3 {Z : Zt} {F : Fz} {H : Hp} {vs : List V} {x y z : D} (h : Reps Z.K Z.mg F H vs [x, y, z]) : ∃ u v w, vs = [u, v, w] ∧ Rep Z.K Z.mg F H u x ∧ Rep Z.K Z.mg F H v y ∧ Rep Z.K Z.mg F H w z := by
  cases h with
  | cons h1 h2 =>
    cases h2 with
    | cons h2 h3 =>
      obtain ⟨w, rfl, h4⟩ := reps1 h3
      exact ⟨_, _, w, rfl, h1, h2, h4⟩
theorem asg_par3 (ho : Ok o) (u : UD X c W W0) (hh : c.hot = false) {x y z : Str} {px py pz pt pt2 pos : Pos} {kt k2 : Nat} {a b d : Expr} {i j l : Nat} (hk : (isFun c && parOk3 c.sc x y z px py pz a b d) = true) (hi : c.slot x = some i) (hj : c.slot y = some j) (hl' : c.slot z = some l) :
    PS X (.Assign [.Tuple [.Name x px, .Name y py, .Name z pz] kt pt] (.Tuple [a, b, d] k2 pt2) pos) (tSs (zt X B W0 L T) W (bnd (o.args c [a, b, d]) fun xs => (match xs with
          | [u, v, w] => bnd (st i u false) fun _ => bnd (st j v false) fun _ => bnd (st l w false) fun _ => pure Flow'.nx
          | _ => stk))) := by
  rw [Bool.and_eq_true] at hk
  obtain ⟨hf, hp⟩ := hk
  unfold parOk3 at hp
  simp only [Bool.and_eq_true, decide_eq_true_eq] at hp
  obtain ⟨hxy, hxz, hyz, hx, hy, hz, hl, hl2, ha, hb, hd, hfo, hco⟩ := hp
  have hk := kind_at hf u.toUC
  have hN : X.N[i]? = some x := by rw [u.N]; exact slot_at hi
  have hN2 : X.N[j]? = some y := by rw [u.N]; exact slot_at hj
  have hN3 : X.N[l]? = some z := by rw [u.N]; exact slot_at hl'
  have hij : i ≠ j := fun e => by subst e; rw [hN] at hN2; cases hN2; exact hxy rfl
  have hil : i ≠ l := fun e => by subst e; rw [hN] at hN3; cases hN3; exact hxz rfl
  have hjl : j ≠ l := fun e => by subst e; rw [hN2] at hN3; cases hN3; exact hyz rfl
  have hx' : X.env.scope.names.lookup x = some .local := by rw [u.sc]; exact hx
  have hy' : X.env.scope.names.lookup y = some .local := by rw [u.sc]; exact hy
  have hz' : X.env.scope.names.lookup z = some .local := by rw [u.sc]; exact hz
  have nt : ∀ {b : Bool}, (!b) = true → b = false := by intro b h; cases b <;> first | rfl | cases h
  refine PS.imp (ps_par3 (u.calm hh) u.nd hN hN2 hN3 hij hil hjl hx' hy' hz' (ho.args (B := B) (W0 := W0) (L := L) (T := T) [a, b, d] u) (swap3 hk hx' hy' hz' hxy hxz hyz hl hl2 ha hb hd (nt hfo) (nt hco)) rfl) fun En σ H ⟨F, ρ, R, h⟩ => ?_
  unfold tPar3
  refine tS_bnd R h fun xs ρ1 vs F1 H1 s1 R1 rs h1 => ?_
  split at h1
  · rename_i d1 d2 d3
    obtain ⟨v1, v2, v3, rfl, r1, r2, r3⟩ := reps3 rs
    refine ⟨v1, v2, v3, rfl, ?_⟩
    unfold bnd at h1
    cases e1 : st i d1 false ρ1 with
    | exc ex ρ2 => exact (st_no e1).elim
    | stk => rw [e1] at h1; exact h1.elim
    | ok q ρ2 =>
      rw [e1] at h1
      dsimp only at h1
      obtain ⟨⟨s1', hs1, hp1⟩, rfl⟩ := st_at e1
      have R2 := R1.store hs1 hp1 (rr_rep r1)
      cases e2 : st j d2 false (ρ1.set i (stS d1 false)) with
      | exc ex ρ2 => exact (st_no e2).elim
      | stk => rw [e2] at h1; exact h1.elim
      | ok q2 ρ3 =>
        rw [e2] at h1
        dsimp only at h1
        obtain ⟨⟨s2', hs2, hp2⟩, rfl⟩ := st_at e2
        have R3 := R2.store hs2 hp2 (rr_rep r2)
        cases e3 : st l d3 false ((ρ1.set i (stS d1 false)).set j (stS d2 false)) with
        | exc ex ρ2 => exact (st_no e3).elim
        | stk => rw [e3] at h1; exact h1.elim
        | ok q3 ρ4 =>
          rw [e3] at h1
          obtain ⟨⟨s3', hs3, hp3⟩, rfl⟩ := st_at e3
          exact h1 _ F1 H1 (.refl _ _) (R3.store hs3 hp3 (rr_rep r3))
  · exact h1.elim
end
end PV
end

section
set_option maxHeartbeats 2000000
/-! A lambda handed to a def: the rules over the machine. -/
namespace PV
open PySem PySem.Spec L2
open PyProof.Rows hiding St

section
variable {X : Cx} {pins : List (Addr × Obj)} {σ : L2.St} {H : Hp} {s : Shared}
/-- the lambda's object, as its maker sees it -/
structure LamAt (X : Cx) (H : Hp) (s : Shared) (params : Arguments) (body : Expr) (scope : Scope) (f c' : Addr) (pm ctv : Value) : Prop where
  ob : s.heap.get? f = some (PySem.W.kla_obj "<lambda>" (X.env.qual ++ "<lambda>") params body scope (cloFrom X.env.cells scope.names []) pm c' ctv)
  no : H f = none
  nf : f ∉ frs X.stack
/-- what is wanted of an exception that leaves a def -/
abbrev leaveX (P : Program) (w : World) (A : Around) (en : Env) (outer : List Env) (H : Hp) (s : Shared) (E : XK) (x : Value) (s' : Shared) : Prop :=
  wpAny (model P w) (A.deeper en) (leaving en x) (fun _ z => L2N.CX P w outer H s E x z) (fun y z => L2N.CX P w outer H s E y z) s'
/-- a lambda's context, its exceptions bearing no context of their own -/
abbrev lamCxN (X : Cx) (A : Around) (outer : List Env) (s : Shared) (H : Hp) (E : XK) (scope : Scope) (f c' : Addr) : Cx := { LamX.lamCx X A outer s H E scope f c' with xe := leaveX X.prog X.w A (LamX.lamEnv X scope s.heap.objs.size f c') outer H s E }
theorem inv_xe {X : Cx} {pins : List (Addr × Obj)} {σ : L2.St} {H : Hp} {s : Shared} {xe : Value → Shared → Prop} (I : Inv X pins σ H s) : Inv { X with xe := xe } pins σ H s :=
  ⟨⟨I.ok.mod, I.ok.kind, I.ok.glob, I.ok.blt, I.ok.above, I.ok.inj, I.ok.has, I.ok.cab, I.ok.hd, I.ok.frames, I.ok.stk, I.ok.exf, I.ok.bs, I.ok.bsz, I.ok.noex, I.ok.exfs, I.ok.funs, I.ok.frf⟩, I.os, I.bare, I.base, I.loc, I.cell, I.free, I.freeC, I.pin, I.hok, I.len⟩
/-- x() in the def at g that was handed the lambda; its exceptions go where that def's slots say -/
theorem act_pe {CXg : CXT} {Eg : XK} {Ng : List Str} {qg a : Str} {sg scope : Scope} {g f c' : Addr} {cdg pm ctv : Value} {params : Arguments} {body : Expr} {k i : Nat} {pn : List (Addr × Obj)} {xe : Value → Shared → Prop} {W : WX} {tb : XK → TE} {p1 p2 : Pos}
    (J : Inv X pins σ H s) (S : LamX.LamS X.env.scope scope) (la : LamAt X H s params body scope f c' pm ctv)
    (hb : bindArgs (PySem.W.kla_fn "<lambda>" (X.env.qual ++ "<lambda>") params body scope (cloFrom X.env.cells scope.names []) pm (.ref c') ctv) ⟨[], []⟩ = pure [])
    (tk : L2N.Takes ((cxOf CXg X.prog X.w X.K X.mg X.base Ng qg sg g cdg X.A X.stack s H Eg).tr pn xe) W) (rm : Room (k + 1) (X.A.deeper (envOfC qg sg s.heap.objs.size g cdg)))
    (bd : ∀ (E : XK) (A : Around) (outer : List Env) (s' : Shared) (H' : Hp), Room k (A.deeper (LamX.lamEnv X scope s'.heap.objs.size f c')) → PE (lamCxN X A outer s' H' E scope f c') body (tb E))
    (hN : Ng[i]? = some a) (hv : Vis sg a) (h1 : (a == ("__debug__" : Str)) = false) (h2 : (a == ("__classdict__" : Str)) = false) :
    PE ((cxOf CXg X.prog X.w X.K X.mg X.base Ng qg sg g cdg X.A X.stack s H Eg).tr pn xe) (.Call (.Name a p1) [] [] p2)
      (fun σ2 H2 Q => σ2[i]? = some (some (.ref f)) ∧ H2 c' = some (LamX.CodeO c' (X.env.qual ++ "<lambda>")) ∧ tb (WE W σ2) σ H2 Q) := by
  refine ⟨fun ps2 s2 σ2 H2 Q J2 ⟨q1, q2, q3⟩ => ?_⟩
  have nm := (pe_var (pos := p1) (i := i) hN hv h1 h2).run ps2 s2 σ2 H2 (fun v H' => v = .ref f ∧ H' = H2) J2 ⟨_, q1, rfl, rfl⟩
  refine wpAny_Call_Name_kw (thn nm fun u s3 ⟨v, H3, J3, rv, ev, eH⟩ => ?_)
  subst ev
  subst eH
  obtain rfl : u = Value.ref f := rv
  have keep := J3.base.keep f _ la.ob la.no la.nf (fun z => nomatch (show f ∈ ([] : List Addr) from z))
  refine PySem.W.callWith_F0 ⟨_, _, _, _, keep⟩ ?_
  obtain ⟨⟨oc, vs, t, co1, co2, co3⟩, _, _⟩ := J3.hok c' _ q2
  have run : codeAny (model X.prog X.w) (X.A.deeper (envOfC qg sg s.heap.objs.size g cdg)) (.call (.ref f) ⟨[], []⟩) (CR (L2N.CX X.prog X.w) (envOfC qg sg s.heap.objs.size g cdg :: X.stack) X.prog X.w H3 s3 Q (WE W σ2)) s3 := by
    refine PySem.W.kla_callFunE rm.depth keep rfl S.co S.gen rfl ⟨c', oc, vs, t, rfl, co1, co2, co3⟩ ?_
    rw [hb]
    refine wpAny_pure (wpAny_newFunctionEnv (fun y hy => (S.own y hy).2) (fun y hy => by simp at hy) (fun h₁ ns sb => ⟨J3.nolimit.fresh _ sb, ?_⟩) S.kind)
    have up : ∀ b o, s3.heap.get? b = some o → h₁.get? b = some o := fun b o e => sb.extBut b o (Nat.ne_of_lt (Heap.lt_size e)) (Heap.get?_push_of_some _ e)
    have J4 := inv_xe (xe := leaveX X.prog X.w (X.A.deeper (envOfC qg sg s.heap.objs.size g cdg)) (LamX.lamEnv X scope s3.heap.objs.size f c') (envOfC qg sg s.heap.objs.size g cdg :: X.stack) H3 s3 (WE W σ2)) (LamX.lam_start2 (E := WE W σ2) (f := f) (c' := c') (tk := s3.toks + ([] : List (Str × Value)).length) J S J3.env0 rm.hd J3.base ns up)
    have bw := (bd (WE W σ2) _ _ s3 H3 (rm.deeper _)).run [] _ _ H3 Q J4 q3
    exact PySem.W.kla_codeExpr (wpAny_mono bw (fun v s5 ⟨w, H5, J5, r5, q5⟩ => ⟨w, H5, J5.os, J5.bare, J5.base, J5.hok, r5, q5⟩) fun e s5 z => z)
  refine wpAny_call (codeAny_mono run fun r s6 hq => ?_)
  match r, hq with
  | .error e, hq => exact L2N.passAt tk σ2 ps2 H3 s3 e s6 J3 hq
  | .ok (.ret u), hq => exact J3.after hq
  | .ok .next, hq => exact hq.elim
  | .ok .brk, hq => exact hq.elim
  | .ok .cont, hq => exact hq.elim
/-- x(lambda: body), x a def with one parameter: its body is read here -/
theorem lam_pe {W : WX} {T : List (Addr × Str)} {x a : Str} {g c P : Addr} {k : Nat} {pg params : Arguments} {bg : List Stmt} {sg scope : Scope} {Ng : List Str} {fd : FuncData} {body : Expr} {tb : XK → TE} {p lpos pos : Pos} {TT : Addr → TE}
    (hg : Gl X x) (hm : X.mg x = some (.ref g)) (F : FunD X.K x x pg bg sg [] [] g fd) (bi : L2.Binds X.K fd [a] []) (Sg : FnScope Ng [a] sg) (hNg : Ng[0]? = some a) (hva : Vis sg a) (tk : L2N.Takes X W)
    (TB : LamX.TabB X.base X.mg c P) (hcode : X.env.code = .ref c) (hmT : (P, X.env.qual ++ "<lambda>") ∈ T) (hu : ∀ p ∈ T, p.1 = P → p.2 = X.env.qual ++ "<lambda>") (rm : Room (k + 2) X.A) (S : LamX.LamS X.env.scope scope) (hdef : defaultsOf params X.env = ([], []))
    (hbind : ∀ (q : Str) (cl : List (Str × Addr)) (pm cv ctv : Value), bindArgs (PySem.W.kla_fn "<lambda>" q params body scope cl pm cv ctv) ⟨[], []⟩ = pure [])
    (bd : ∀ (f c' : Addr) (E : XK) (A : Around) (outer : List Env) (s' : Shared) (H' : Hp), Room k (A.deeper (LamX.lamEnv X scope s'.heap.objs.size f c')) → PE (lamCxN X A outer s' H' E scope f c') body (tb E))
    (hG : ∀ (f c' : Addr) (s' : Shared) (H' : Hp) (cdv : Value) (σ : L2.St) (Q : VK), H' c' = some (LamX.CodeO c' (X.env.qual ++ "<lambda>")) → Room (k + 1) (X.A.deeper (envOfC x sg s'.heap.objs.size g cdv)) →
      (∀ (W' : WX) (pn : List (Addr × Obj)) (xe : Value → Shared → Prop) (p1 p2 : Pos), L2N.Takes ((cxOf (L2N.CX X.prog X.w) X.prog X.w X.K X.mg X.base Ng x sg g cdv X.A X.stack s' H' (WE W σ)).tr pn xe) W' →
        PE ((cxOf (L2N.CX X.prog X.w) X.prog X.w X.K X.mg X.base Ng x sg g cdv X.A X.stack s' H' (WE W σ)).tr pn xe) (.Call (.Name a p1) [] [] p2) (fun σ2 H2 Q => σ2[0]? = some (some (.ref f)) ∧ H2 c' = some (LamX.CodeO c' (X.env.qual ++ "<lambda>")) ∧ tb (WE W' σ2) σ H2 Q)) →
      TT c' σ H' Q →
      ∃ t, PSs (cxOf (L2N.CX X.prog X.w) X.prog X.w X.K X.mg X.base Ng x sg g cdv X.A X.stack s' H' (WE W σ)) bg t ∧ t { nx := fun _ H' => Q .non H', rt := Q } (L2.start Ng [.ref f]) H')
    (hdb : (x == ("__debug__" : Str)) = false) (h1 : (a == ("__debug__" : Str)) = false) (h2 : (a == ("__classdict__" : Str)) = false) :
    PE X (.Call (.Name x p) [.Lambda params body scope lpos] [] pos) (fun σ H Q => LamX.Tabs T H ∧ ∀ c' H1, LamX.ExtN H H1 → LamX.Tabs T H1 → (∀ b ps, X.H_0 b = some (.tbl ps) → (H1 b).isSome = true) → TT c' σ H1 Q) := by
  obtain ⟨oc, od, dV, kV, doc, pm0, an, cdv, ct, osl, rfl, lk, hcd, _, _⟩ := F.ex
  refine ⟨fun pins s σ H Q I ⟨hT, h⟩ => ?_⟩
  refine wpAny_Call_Name_kw (ld_glob I hg hm ?_ hdb)
  refine PySem.W.callWith_K (h₀ := X.base) I.ok.mod.kin F.kp ?_ rfl rfl
  refine Calls.spliced_cons (LamX.lam_make2 I TB hcode hmT hu hT hdef (S.has I.ok) fun f c' pm ctv H1 s1 I1 eN T1 o1 o2 o3 o4 => ?_)
  refine Calls.spliced_nil ⟨I1.kIn, ?_⟩
  have run : codeAny (model X.prog X.w) X.A (.call (.ref g) ⟨[.ref f], []⟩) (CR (L2N.CX X.prog X.w) X.stack X.prog X.w H1 s1 Q (WE W σ)) s1 :=
    LamX.run_ofS (N := Ng) (ps := [a]) (us := [.ref f]) (vs := [V.ref f]) lk hcd Sg rm I1.env0 (bi s1 [.ref f] I1.kIn rfl) (.cons rfl .nil) rfl fun rm1 =>
      hG f c' s1 H1 cdv σ Q o4 rm1 (fun W' pn xe p1 p2 tk' => act_pe (i := 0) I1 S ⟨o1, o2, o3⟩ (hbind _ _ _ _ _) tk' rm1 (bd f c') hNg hva h1 h2) (h c' H1 eN T1 fun b ps e => by
        obtain ⟨more, e2⟩ := I1.base.tbls b ps e
        rw [e2] <;> rfl)
  refine wpAny_call (codeAny_mono run fun r s2 hq => ?_)
  match r, hq with
  | .error e, hq => exact L2N.passAt tk σ pins H1 s1 e s2 I1 hq
  | .ok (.ret u), hq => exact I1.after hq
  | .ok .next, hq => exact hq.elim
  | .ok .brk, hq => exact hq.elim
  | .ok .cont, hq => exact hq.elim
end
end PV
end

section
set_option maxHeartbeats 2000000
/-! Lambdas: the evaluator, its soundness. -/
namespace PV
open PySem PySem.Spec L2
open PyProof.Rows hiding St

def actR (r : CRes) : M (D × Bool) := fun ρ => match r with
  | .ok d u _ => .ok (d, u) ρ
  | .exc e _ => .exc e ρ
  | .stk => .stk
def captL (c : C) : List (Str × NameKind) → List Nat
  | [] => []
  | (x, .free) :: r => (match c.slot x with
    | some i => i :: captL c r
    | none => captL c r)
  | _ :: r => captL c r
def frzAll : List Nat → M Unit
  | [] => pure ()
  | i :: r => fun ρ => match ρ[i]? with
    | some .e => frzAll r ρ
    | some (.x _) => frzAll r ρ
    | some (.d _) => frzAll r ρ
    | some (.f _) => frzAll r ρ
    | some (.o _) => bnd (rd i) (fun _ => frzAll r) ρ
    | some (.l _) => bnd (rd i) (fun _ => frzAll r) ρ
    | none => .stk
/-- a captured name, as the lambda has it -/
def lamS (cap : List Nat) (j : Nat) (s : Sl) : Sl := match cap.contains j, s with
  | true, .d x => .d x
  | true, .f x => .d x
  | _, _ => .e
def lamRho (cap : List Nat) (ρ : Evm) : Evm := ρ.mapIdx (lamS cap)
def actRho : List Str → Evm
  | [] => []
  | _ :: r => .x ⟨⟨#[]⟩, none⟩ :: r.map fun _ => .e
def noPar (a : Arguments) : Bool := match a with
  | ⟨[], [], none, [], [], none, []⟩ => true
  | _ => false
def C.lamC (c : C) (scope : Scope) : C := { c with sc := scope, fq := fun _ => false, lm := false, act := none, exn := none, hot := false }
def C.actC (c : C) (f : FI) (r : CRes) : C := { c with N := f.N, sc := f.scope, fq := fun _ => true, lm := false, act := some (0, r), exn := none, hot := false }
section
variable (o : Ops)
def lamRes (c : C) (body : Expr) (scope : Scope) (ρ : Evm) : CRes := match o.ev (c.lamC scope) body (lamRho (captL c scope.names) ρ) with
  | .ok v _ => .ok v.1 v.2 []
  | .exc e _ => .exc e []
  | .stk => .stk
def calleeRes (c : C) (f : FI) (r : CRes) : CRes := match o.ss (c.actC f r) f.body (actRho f.N) with
  | .ok (.rt d u) _ => .ok d u []
  | .ok .nx _ => .ok .non false []
  | .exc e _ => .exc e []
  | _ => .stk
def evLam (c : C) (x : Str) (params : Arguments) (body : Expr) (scope : Scope) : M (D × Bool) := match c.lm && (!c.hot && (noPar params && LamX.lamSB c.sc scope)), c.nm x with
  | true, .glob => (match c.g.fn? x with
    | some f => (match f.ps with
      | [a] => (match okName a with
        | true => bnd (frzAll (captL c scope.names)) fun _ => fun ρ => actR (calleeRes o c f (lamRes o c body scope ρ)) ρ
        | false => stk)
      | _ => stk)
    | none => stk)
  | _, _ => stk
end

section
variable {Z : Zt} {F F' : Fz} {H H' : Hp} {ρ ρ' : Evm} {σ : L2.St}
theorem frzAll_rd : ∀ {is : List Nat} {ρ ρ' : Evm} {F : Fz} {a : Unit}, Rl Z F ρ σ H → frzAll is ρ = .ok a ρ' → ∃ F', Stp F H F' H ∧ Rl Z F' ρ' σ H
  | [], ρ, ρ', F, a, R, h => by cases h; exact ⟨F, .refl _ _, R⟩
  | i :: is, ρ, ρ', F, a, R, h => by
    have own : bnd (rd i) (fun _ => frzAll is) ρ = .ok a ρ' → ∃ F', Stp F H F' H ∧ Rl Z F' ρ' σ H := by
      intro h
      unfold bnd at h
      cases e : rd i ρ with
      | ok x ρ1 =>
        rw [e] at h
        obtain ⟨v, F1, _, s1, R1, _⟩ := R.rd e
        obtain ⟨F2, s2, R2⟩ := frzAll_rd R1 h
        exact ⟨F2, s1.trans s2, R2⟩
      | exc ex ρ1 => rw [e] at h; cases h
      | stk => rw [e] at h; cases h
    unfold frzAll at h
    split at h
    · exact frzAll_rd R h
    · exact frzAll_rd R h
    · exact frzAll_rd R h
    · exact frzAll_rd R h
    · exact own h
    · exact own h
    · cases h
theorem rd_no {i : Nat} {ex : EV} (h : rd i ρ = .exc ex ρ') : False := by
  unfold rd at h
  split at h <;> cases h
theorem frzAll_no {ex : EV} : ∀ {is : List Nat} {ρ ρ' : Evm}, frzAll is ρ = .exc ex ρ' → False
  | [], ρ, ρ', h => by cases h
  | i :: is, ρ, ρ', h => by
    have own : bnd (rd i) (fun _ => frzAll is) ρ = .exc ex ρ' → False := by
      intro h
      unfold bnd at h
      cases e : rd i ρ with
      | ok x ρ1 => rw [e] at h; exact frzAll_no h
      | exc ex ρ1 => exact rd_no e
      | stk => rw [e] at h; cases h
    unfold frzAll at h
    split at h
    · exact frzAll_no h
    · exact frzAll_no h
    · exact frzAll_no h
    · exact frzAll_no h
    · exact own h
    · exact own h
    · cases h
/-- all but the tables stays -/
theorem Rl.extN {H1 : Hp} (R : Rl Z F ρ σ H) (e : LamX.ExtN H H1) (t : LamX.Tabs Z.W0.Tb H1) (tb : ∀ b ps, Z.B b = some (.tbl ps) → (H1 b).isSome = true) : Rl Z F ρ σ H1 ∧ Stp F H F H1 := by
  have st : Stp F H F H1 := ⟨fun _ h => h, fun a o _ h n => e a o h n⟩
  have ow : ∀ {a : Addr} {x : D}, OwnAt Z.K Z.mg F H a x → H1 a = H a := by
    intro a x h
    obtain ⟨o, h1, h2⟩ := h
    rw [h1]
    exact e a o h1 fun ps z => by subst z; cases h2
  refine ⟨⟨R.len, fun i s v h1 h2 => (R.sl i s v h1 h2).step st fun a ho hv nf => ⟨?_, nf⟩, R.sep, R.pin, fun a o h1 h2 h3 => e a o (R.old a o h1 h2 h3) h3, fun a h => ?_, fun a h => ?_, fun p hp => ?_, ⟨t, fun p hp => e _ _ (R.tab.2 p hp) LamX.codeO_ne⟩, R.stp0.trans st, R.hb, R.nfz, fun a h => by
    obtain ⟨o, h1, h2⟩ := R.wn a h
    exact ⟨o, e a o h1 h2, h2⟩⟩, st⟩
  · obtain ⟨a', x, e', ow', _⟩ := (R.sl i s v h1 h2).own_some ho
    rw [hv] at e'
    cases e'
    exact ow ow'
  · cases q : Z.B a with
    | none => rw [q] at h; cases h
    | some o =>
      by_cases ht : ∃ ps, o = .tbl ps
      · obtain ⟨ps, rfl⟩ := ht
        exact tb a ps q
      · have h3 := R.dom a h
        cases q2 : H a with
        | none => rw [q2] at h3; cases h3
        | some o2 =>
          by_cases ht2 : ∃ ps, o2 = .tbl ps
          · obtain ⟨ps, rfl⟩ := ht2
            by_cases hw : Z.W0.W a
            · obtain ⟨o3, e3, n3⟩ := R.wn a hw
              rw [q2] at e3
              cases e3
              exact (n3 ps rfl).elim
            · have := R.old a o q hw (fun ps z => ht ⟨ps, z⟩)
              rw [q2] at this
              cases this
              exact (ht ⟨ps, rfl⟩).elim
          · rw [e a o2 q2 fun ps z => ht2 ⟨ps, z⟩] <;> rfl
  · obtain ⟨o, h1, h2⟩ := R.live a h
    exact ⟨o, e a o h1 h2, h2⟩
  · obtain ⟨k1, k2, k3, k4⟩ := R.kept p hp
    exact ⟨k1.step (ow k1) st, k2, k3, k4⟩

/-- what a call that lends nothing gives-/
theorem ret_rr {Tb : List (Addr × Str)} {v : V} {d : D} {u : Bool} (R : Rl Z F ρ σ H) (ce : CEnd Tb F H [] F' H') (rr : RetR Z.K Z.mg F' H H' v d u) : RR Z F' H' ρ σ v (d, u) := by
  cases u with
  | false => exact rr_rep rr
  | true =>
    obtain ⟨a, e, ow, nf, hn0⟩ := rr
    refine rr_uq ⟨a, e, ow, nf, ?_, fun i s hs hso hv => ?_, fun p hp ep => ?_⟩
    · cases q : Z.B a with
      | none => rfl
      | some o =>
        have z := R.dom a (by rw [q] <;> rfl)
        rw [hn0] at z; cases z
    · obtain ⟨v1, hv1, so1⟩ := R.slot hs
      rw [hv] at hv1
      cases hv1
      obtain ⟨a', x, e', ow', _⟩ := so1.own_some hso
      cases e'
      have z := ow'.some
      rw [hn0] at z; cases z
    · have z := (R.kept p hp).1.some
      rw [ep, hn0] at z; cases z
theorem Lent.nil : Lent ρ σ [] [] := ⟨rfl, fun k i a h => by simp at h⟩
theorem Rl.called0 (R : Rl Z F ρ σ H) (ce : CEnd Z.W0.Tb F H [] F' H') : Rl Z F' ρ σ H' := by
  have := R.called (fin := []) Lent.nil List.nodup_nil ce .nil
  unfold backs at this
  exact this
/-- an answer, taken over-/
theorem act_post {W : WX} {r : CRes} {Q : VK} (R : Rl Z F ρ σ H) (h : Pst Z W (RR Z) F σ H Q (actR r ρ)) : postR Z.K Z.mg Z.W0.Tb r F H Q (WE W σ) := by
  cases r with
  | ok d u l => exact fun v F' H' ce rr => h v F' H' ce.stp (R.called0 ce) (ret_rr R ce rr)
  | exc e l => exact fun cls dd F' H' ce ea => h cls dd F' H' ce.stp (R.called0 ce) ea
  | stk => exact h
/-- a frame's end, nothing lent-/
theorem cend_of {K : PySem.W.Frag} {mg : Str → Option Value} {B : Hp} {W0 : Zx} {L : List (Nat × Addr)} {T : List (Addr × D)} {F0 : Fz} (R : Rl ⟨K, mg, B, W0, L, T⟩ F' ρ σ H') {Tb : List (Addr × Str)} (hTb : W0.Tb = Tb) (hF : W0.F0 = F0) (hW : ∀ a, ¬ W0.W a) : CEnd Tb F0 B [] F' H' where
  stp := by
    have h1 := R.stp0
    have h2 : W0.H0 = B := R.hb
    dsimp only at h1
    rw [h2, hF] at h1
    exact h1
  tab := by rw [← hTb]; exact R.tab.1
  old := fun a o h _ n => R.old a o h (hW a) n
  dom := R.dom
  new := fun a ha => by
    rcases R.nfz a ha with z | z | z
    · exact .inl (hF ▸ z)
    · exact .inr (.inl z)
    · exact (hW a z).elim
  lv := R.live
end
section
variable {X : Cx} {c : C} {W : WX} {B : Hp} {W0 : Zx} {L : List (Nat × Addr)} {T : List (Addr × D)} {o : Ops}
theorem capt_at {cap : List Nat} {ρ : Evm} {j : Nat} {s : Sl} (h : (lamRho cap ρ)[j]? = some s) : s = .e ∨ ∃ x, s = .d x ∧ (ρ[j]? = some (.d x) ∨ ρ[j]? = some (.f x)) := by
  unfold lamRho at h
  rw [List.getElem?_mapIdx, Option.map_eq_some_iff] at h
  obtain ⟨t, ht, rfl⟩ := h
  unfold lamS
  split
  · rename_i x _; exact .inr ⟨x, rfl, .inl ht⟩
  · rename_i x _; exact .inr ⟨x, rfl, .inr ht⟩
  · exact .inl rfl
theorem ud_lam {k : Nat} {A : Around} {outer : List Env} {s' : Shared} {H' : Hp} {E : XK} {scope : Scope} {f c' : Addr} {WL : Zx} (u : UD X c W W0) (ca : CallsOk X W0.Tb c.g c.call k) (hT : WL.Tb = W0.Tb) (rm : Room k (A.deeper (LamX.lamEnv X scope s'.heap.objs.size f c'))) :
    UD (lamCxN X A outer s' H' E scope f c') (c.lamC scope) (fun cls d _ H => E cls d H) WL where
  N := u.N
  nd := u.nd
  sc := rfl
  un := by have := rm.un; show (A.deeper (LamX.lamEnv X scope s'.heap.objs.size f c')).units + 65 < cLine; omega
  tk := L2N.takes_of rfl rfl rfl rfl
  gl := u.gl
  calm := fun _ => rfl
  fn := fun x i h => by
    unfold C.tgt at h
    split at h
    · rename_i e; exact .inr e
    · split at h
      · rename_i e; cases e
      · cases h
    · cases h
  ht := fun h => by cases h
  cal := fun _ => ⟨k, by rw [hT]; exact ca, rm⟩
  lam := fun h => by cases h
  act := fun i r h => by cases h
  exn := fun i e h => by cases h
theorem us_callee {k : Nat} {f : FI} {g f' : Addr} {x : Str} {s' : Shared} {H' : Hp} {cdv : Value} {E : XK} {WY : Zx} {r : CRes} (u : UD X c W W0) (ca : CallsOk X W0.Tb c.g c.call k) (hT : WY.Tb = W0.Tb) (Sg : FnScope f.N f.ps f.scope) (rm : Room (k + 1) (X.A.deeper (envOfC x f.scope s'.heap.objs.size g cdv)))
    (hA : (0, f') ∈ WY.A) (act : ActOk (cxOf (L2N.CX X.prog X.w) X.prog X.w X.K X.mg X.base f.N x f.scope g cdv X.A X.stack s' H' E) WY 0 f' r) :
    US (cxOf (L2N.CX X.prog X.w) X.prog X.w X.K X.mg X.base f.N x f.scope g cdv X.A X.stack s' H' E) (c.actC f r) (fun cls d _ H => E cls d H) WY where
  N := rfl
  nd := Sg.nd
  sc := rfl
  un := by have := rm.un; show (X.A.deeper (envOfC x f.scope s'.heap.objs.size g cdv)).units + 65 < cLine; omega
  tk := L2N.takes_of rfl rfl rfl rfl
  gl := u.gl
  calm := fun _ => rfl
  fn := fun x i h => .inl rfl
  ht := fun h => by cases h
  cal := fun _ => ⟨k, by rw [hT]; exact ca, rm.mono (Nat.le_succ k)⟩
  lam := fun h => by cases h
  act := fun i r' h => by
    cases h
    exact ⟨f', hA, act⟩
  exn := fun i e h => by cases h
  own := fun _ => passes_of rfl
  stk := fun _ => ⟨rfl, rfl⟩
  rm2 := fun _ h => by cases h
theorem start_act {N : List Str} {f' : Addr} (hN : N ≠ []) : (L2.start N [V.ref f']).length = N.length := by
  unfold L2.start
  cases N with
  | nil => exact (hN rfl).elim
  | cons y r => simp
theorem rl_act {f' c' : Addr} {q : Str} {H' : Hp} {F : Fz} {N : List Str} (hN : N ≠ []) (lv : live F H') (tb : LamX.Tabs W0.Tb H') (hco : H' c' = some (LamX.CodeO c' q)) :
    Rl (zt X H' ⟨fun _ => False, [(0, f')], W0.Tb, [(c', q)], none, F, H'⟩ [] []) F (actRho N) (L2.start N [V.ref f']) H' := by
  have es : ∀ (i : Nat) s, (actRho N)[i]? = some s → (i = 0 ∧ s = .x ⟨⟨#[]⟩, none⟩) ∨ s = .e := by
    intro i s h
    cases N with
    | nil => exact (hN rfl).elim
    | cons y r =>
      cases i with
      | zero => cases h; exact .inl ⟨rfl, rfl⟩
      | succ i =>
        have h2 : (r.map fun _ => Sl.e)[i]? = some s := h
        rw [List.getElem?_map, Option.map_eq_some_iff] at h2
        obtain ⟨_, _, h3⟩ := h2
        exact .inr h3.symm
  have no : ∀ (i : Nat) s, (actRho N)[i]? = some s → s.own = true → False := by
    intro i s h ho
    rcases es i s h with ⟨_, rfl⟩ | rfl <;> cases ho
  refine ⟨?_, fun i s v h1 h2 => ?_, fun i j s t a h1 _ h3 _ _ _ => (no i s h1 h3).elim, fun p hp => ?_, fun a o h _ _ => h, fun a h => h, lv, fun p hp => by simp at hp, ⟨tb, fun p hp => ?_⟩, .refl _ _, rfl, fun a h => .inl h, fun a h => h.elim⟩
  · rw [start_act hN]
    cases N with
    | nil => exact (hN rfl).elim
    | cons y r => simp [actRho]
  · rcases es i s h1 with ⟨_, rfl⟩ | rfl
    · exact .inl rfl
    · trivial
  · rcases hp with hp | hp
    · simp at hp
    · have : p = (0, f') := by simpa using hp
      subst this
      cases N with
      | nil => exact (hN rfl).elim
      | cons y r => exact ⟨⟨_, rfl, rfl⟩, rfl⟩
  · have : p = (c', q) := by simpa using hp
    subst this
    exact hco

theorem noPar_at {a : Arguments} (h : noPar a = true) : a = ⟨[], [], none, [], [], none, []⟩ := by
  unfold noPar at h
  split at h
  · rfl
  · cases h
/-- the lambda's body, whenever it is called -/
abbrev tBody (X : Cx) (W0 : Zx) (c : C) (o : Ops) (body : Expr) (scope : Scope) (E : XK) : TE := fun σ H Q => ∃ (WL : Zx) (B : Hp) (L : List (Nat × Addr)) (T : List (Addr × D)), WL.Tb = W0.Tb ∧ tEv (zt X B WL L T) (fun cls d _ H => E cls d H) (o.ev (c.lamC scope) body) σ H Q
theorem lam_body_rd {cap : List Nat} {E : XK} {F1 F2 : Fz} {H1 H2 : Hp} {ρ1 : Evm} {σ : L2.St} {Q : VK} {body : Expr} {scope : Scope} (hcap : captL c scope.names = cap) (hl : ρ1.length = σ.length) (hs : ∀ (j : Nat) x v, (ρ1[j]? = some (.d x) ∨ ρ1[j]? = some (.f x)) → σ[j]? = some v → ∃ v', v = some v' ∧ Rep X.K X.mg F1 H1 v' x) (st : Stp F1 H1 F2 H2) (lv : live F2 H2) (tb : LamX.Tabs W0.Tb H2)
    (h : postR X.K X.mg W0.Tb (lamRes o c body scope ρ1) F2 H2 Q E) : tBody X W0 c o body scope E σ H2 Q := by
  refine ⟨⟨fun _ => False, [], W0.Tb, [], none, F2, H2⟩, H2, [], [], rfl, ?_⟩
  have no : ∀ (i : Nat) s, (lamRho (captL c scope.names) ρ1)[i]? = some s → s.own = true → False := by
    intro i s h ho
    rcases capt_at h with rfl | ⟨x, rfl, _⟩ <;> cases ho
  have R : Rl (zt X H2 ⟨fun _ => False, [], W0.Tb, [], none, F2, H2⟩ [] []) F2 (lamRho (captL c scope.names) ρ1) σ H2 := by
    refine ⟨by unfold lamRho; rw [List.length_mapIdx]; exact hl, fun i s v h1 h2 => ?_, fun i j s t a h1 _ h3 _ _ _ => (no i s h1 h3).elim, fun p hp => ?_, fun a o h _ _ => h, fun a h => h, lv, fun p hp => by simp at hp, ⟨tb, fun p hp => by simp at hp⟩, .refl _ _, rfl, fun a h => .inl h, fun a h => h.elim⟩
    · rcases capt_at h1 with rfl | ⟨x, rfl, hx⟩
      · trivial
      · obtain ⟨v', e, r⟩ := hs i x v hx h2
        exact ⟨v', e, r.step st⟩
    · rcases hp with hp | hp <;> simp at hp
  refine tM_of R ?_
  unfold lamRes at h
  cases e : o.ev (c.lamC scope) body (lamRho (captL c scope.names) ρ1) with
  | stk => rw [e] at h; exact h
  | exc ex ρ' =>
    rw [e] at h
    exact fun cls dd F' H' _ R' ea => h cls dd F' H' (cend_of R' rfl rfl fun _ z => z) ea
  | ok r ρ' =>
    rw [e] at h
    intro v F' H' _ R' rr
    refine h v F' H' (cend_of R' rfl rfl fun _ z => z) ?_
    obtain ⟨d, u⟩ := r
    cases u with
    | false => exact rr
    | true =>
      obtain ⟨a, ea, ow, nf, b, _⟩ : Uq _ _ _ _ _ _ _ := rr
      exact ⟨a, ea, ow, nf, b⟩
theorem ok_lam (ho : OkS o) (u : UD X c W W0) {x : Str} {p lp pos : Pos} {params : Arguments} {body : Expr} {scope : Scope} : PE X (.Call (.Name x p) [.Lambda params body scope lp] [] pos) (tEv (zt X B W0 L T) W (evLam o c x params body scope)) := by
  have no : ∀ {m : M (D × Bool)}, (∀ ρ, m ρ = .stk) → PE X (.Call (.Name x p) [.Lambda params body scope lp] [] pos) (tEv (zt X B W0 L T) W m) := fun hm => ⟨fun pins s σ H Q I h => by
    obtain ⟨F, ρ, R, h⟩ := tM_at h
    rw [hm] at h
    exact h.elim⟩
  cases hk : (c.lm && (!c.hot && (noPar params && LamX.lamSB c.sc scope))) with
  | false => exact no fun ρ => by simp only [evLam, hk] <;> rfl
  | true =>
    cases hn : c.nm x with
    | slot i => exact no fun ρ => by simp only [evLam, hk, hn] <;> rfl
    | bad => exact no fun ρ => by simp only [evLam, hk, hn] <;> rfl
    | glob =>
      cases hf : c.g.fn? x with
      | none => exact no fun ρ => by simp only [evLam, hk, hn, hf] <;> rfl
      | some f =>
        rcases hps : f.ps with _ | ⟨a, _ | ⟨b, r⟩⟩
        · exact no fun ρ => by simp only [evLam, hk, hn, hf, hps] <;> rfl
        · cases hka : okName a with
          | false => exact no fun ρ => by simp only [evLam, hk, hn, hf, hps, hka] <;> rfl
          | true =>
            have hk' := hk
            rw [Bool.and_eq_true, Bool.and_eq_true, Bool.and_eq_true] at hk'
            obtain ⟨k1, k2, k3, k4⟩ := hk'
            have hh : c.hot = false := by simpa using k2
            cases noPar_at k3
            have S : LamX.LamS X.env.scope scope := by rw [u.sc]; exact LamX.lamS_by k4
            obtain ⟨cc, P, TB, hcode, hmT, huT, hH0⟩ := u.lam k1
            obtain ⟨k, ca, rm⟩ := u.cal hh
            rw [k1] at rm
            obtain ⟨g, fd, hm, Fd, Sg, bi⟩ := u.gl.dfs x f hf
            obtain ⟨hok, hgl⟩ := nm_glob hn
            have hg : Gl X x := by show X.env.scope.names.lookup x = _; rw [u.sc]; exact hgl
            have hN0 : f.N[0]? = some a := by
              have := Sg.pre
              rw [hps] at this
              cases hN : f.N with
              | nil => rw [hN] at this; simp at this
              | cons y r => rw [hN] at this; simp at this; rw [this]; rfl
            have hNn : f.N ≠ [] := fun z => by rw [z] at hN0; cases hN0
            have hva : Vis f.scope a := by
              rcases Sg.par a (by rw [hps]; exact List.mem_cons_self) with z | z
              · exact .inl z
              · exact .inr (.inl z)
            obtain ⟨d1, d2⟩ := okName_at hka
            rw [hps] at bi
            refine PE.imp (lam_pe (W := W) (T := W0.Tb) (tb := tBody X W0 c o body scope)
              (TT := fun c' σ H Q => ∃ F ρ, live F H ∧ LamX.Tabs W0.Tb H ∧ ρ.length = σ.length ∧ (∀ (j : Nat) y v, (ρ[j]? = some (.d y) ∨ ρ[j]? = some (.f y)) → σ[j]? = some v → ∃ v', v = some v' ∧ Rep X.K X.mg F H v' y) ∧ postR X.K X.mg W0.Tb (calleeRes o c f (lamRes o c body scope ρ)) F H Q (WE W σ))
              hg hm Fd bi (hps ▸ Sg) hN0 hva u.tk TB hcode hmT huT rm S rfl (fun _ _ _ _ _ => rfl)
              (fun f' c' E A outer s' H' rm' => ⟨fun pins s σ H Q I ⟨WL, B, L, T, hT, h⟩ => (ho.ev (X := lamCxN X A outer s' H' E scope f' c') (B := B) (L := L) (T := T) body (ud_lam u ca hT rm')).run pins s σ H Q I h⟩)
              (fun f' c' s' H' cdv σ Q hco rm' act tt => ?_) (okName_at hok).1 d1 d2) fun σ H Q h => ?_
            · obtain ⟨F, ρ, lv, tb, hl, hs, post⟩ := tt
              have R0 := rl_act (X := X) (W0 := W0) (f' := f') (q := X.env.qual ++ "<lambda>") hNn lv tb hco
              refine ⟨_, ho.ss (X := cxOf (L2N.CX X.prog X.w) X.prog X.w X.K X.mg X.base f.N x f.scope g cdv X.A X.stack s' H' (WE W σ)) (B := H') (L := []) (T := []) f.body (us_callee (r := lamRes o c body scope ρ) (WY := ⟨fun _ => False, [(0, f')], W0.Tb, [(c', X.env.qual ++ "<lambda>")], none, F, H'⟩) u ca rfl Sg rm' List.mem_cons_self
                ⟨c', _, List.mem_cons_self, fun W' pn xe y p1 p2 hy _ _ tk' => ?_⟩), F, _, R0, ?_⟩
              · have ey : y = a := by
                  have hy' : f.N[0]? = some y := hy
                  rw [hN0] at hy'
                  exact (Option.some.inj hy').symm
                subst ey
                refine PE.imp (act W' pn xe p1 p2 tk') fun σ2 H2 Q2 ⟨e1, e2, F2, st2, lv2, tb2, post2⟩ => ⟨e1, e2, lam_body_rd (F1 := F) (H1 := H') rfl hl hs st2 lv2 tb2 post2⟩
              · unfold calleeRes at post
                cases e : o.ss (c.actC f (lamRes o c body scope ρ)) f.body (actRho f.N) with
                | stk => rw [e] at post; exact post.elim
                | exc ex ρ' =>
                  rw [e] at post
                  exact fun cls dd σ' F' H2 _ R' ea => post cls dd F' H2 (cend_of R' rfl rfl fun _ z => z) ea
                | ok fl ρ' =>
                  rw [e] at post
                  cases fl with
                  | nx => exact fun σ' F' H2 _ R' => post .non F' H2 (cend_of R' rfl rfl fun _ z => z) .non
                  | bk => exact post.elim
                  | ct => exact post.elim
                  | rt d un =>
                    intro v σ' F' H2 _ R' rr
                    refine post v F' H2 (cend_of R' rfl rfl fun _ z => z) ?_
                    cases un with
                    | false => exact rr
                    | true =>
                      obtain ⟨a', ea, ow, nf, b⟩ := rr
                      exact ⟨a', ea, ow, nf, b⟩
            · obtain ⟨F, ρ, R, h⟩ := tM_at h
              simp only [evLam, hk, hn, hf, hps, hka] at h
              unfold bnd at h
              cases e : frzAll (captL c scope.names) ρ with
              | stk => rw [e] at h; exact h.elim
              | exc ex ρ1 => exact (frzAll_no e).elim
              | ok z ρ1 =>
                rw [e] at h
                dsimp only at h
                obtain ⟨F1, s1, R1⟩ := frzAll_rd R e
                refine ⟨R.tab.1, fun c' H1 eN T1 tb => ?_⟩
                obtain ⟨R2, s2⟩ := R1.extN eN T1 (fun b ps hb => tb b ps (by
                  have h0 : W0.H0 = B := R1.hb
                  rw [← hH0, h0]
                  exact hb))
                refine ⟨F1, ρ1, R2.live, T1, R2.len, fun j y v hj hv => ?_, act_post R2 ((h.step s1).step s2)⟩
                rcases hj with hj | hj
                · exact R2.sl j _ v hj hv
                · exact R2.sl j _ v hj hv
        · exact no fun ρ => by simp only [evLam, hk, hn, hf, hps] <;> rfl
end
end PV
end

section
set_option maxHeartbeats 2000000
/-! Raise, try; all constructs together. -/
namespace PV
open PySem PySem.Spec L2
open PyProof.Rows hiding St

def C.isAct (c : C) (x : Str) : Option CRes := match c.act, c.nm x with
  | some (i, r), .slot j => (match decide (i = j) with
    | true => some r
    | false => none)
  | _, _ => none
def C.isExn (c : C) (y : Str) : Option (Nat × EV) := match c.exn, c.nm y with
  | some (i, e), .slot j => (match decide (i = j) with
    | true => some (i, e)
    | false => none)
  | _, _ => none
def isiX (c : C) (x y z : Str) : Option Bool := match decide (x = ("isinstance" : Str)) && c.bi x, c.isExn y, c.nm z with
  | true, some (_, e), .glob => c.g.sub e.cls z
  | _, _, _ => none
/-- the slot holds the very exception -/
def holdsX (ρ : Evm) (i : Nat) (e : EV) : Bool := match ρ[i]? with
  | some (.x e') => !decide (e'.cls = ⟨#[]⟩)
  | _ => false
def isiM (c : C) (y : Str) (b : Bool) : M (D × Bool) := fun ρ => match c.isExn y with
  | some (i, e) => (match holdsX ρ i e with
    | true => .ok (.bl b, false) ρ
    | false => .stk)
  | none => .stk
def fldX (c : C) (i : Nat) (e : EV) (f : Str) : M (D × Bool) := fun ρ => match decide (c.g.fld? e.cls = some f), ρ[i]? with
  | true, some (.x e') => (match e'.pay with
    | some (f', d) => (match decide (f' = f) with
      | true => .ok (d, false) ρ
      | false => .stk)
    | none => .stk)
  | _, _ => .stk
def C.hotC (c : C) (ex : Option (Nat × EV)) : C := { c with hot := true, lm := false, act := none, exn := ex }
def noXs (ρ : Evm) : Bool := ρ.all fun s => match s with
  | .x e => decide (e.cls = ⟨#[]⟩) && e.pay.isNone
  | _ => true
def unPin (ρ : Evm) (i : Nat) : Bool := match ρ[i]? with
  | some s => !s.pin
  | none => false
/-- texts -/
def txtsD : List D → Option (List Str)
  | [] => some []
  | .str x :: r => (txtsD r).map (x :: ·)
  | _ => none
def joinD (a : Str) : D → Option (D × Bool)
  | .lst xs => (match txtsD xs with
    | some ys => gd (decide ((ys.map (·.length)).sum + ys.length * a.length ≤ 16777216)) (.str (Txt.join a ys), false)
    | none => none)
  | _ => none
def revD : D → Option (D × Bool)
  | .lst xs => some (.lst xs.reverse, true)
  | .scr xs => some (.lst xs.reverse, true)
  | _ => none
section
variable (o : Ops)
def ev2 (c : C) (e : Expr) : M (D × Bool) := match e with
  | .ListComp elt [⟨tg, iter, ifs, 0⟩] scope _ => (match c.hot with
    | true => evLcH o c elt tg iter ifs scope
    | false => evLc o c elt tg iter ifs scope)
  | .ListComp elt [⟨tg, iter, ifs, 0⟩, ⟨tg1, iter1, ifs1, 0⟩] scope _ => evLc2 o c elt tg iter ifs tg1 iter1 ifs1 scope
  | .Call (.Name x _) [.Lambda params body scope _] [] _ => evLam o c x params body scope
  | .Call (.Name x _) [] [] _ => (match c.isAct x with
    | some r => actR r
    | none => ev1 o c e)
  | .Call (.Name x _) [.Name y _, .Name z _] [] _ => (match isiX c x y z with
    | some b => isiM c y b
    | none => ev1 o c e)
  | .Attribute (.Name y _) f _ => (match c.isExn y with
    | some (i, e) => fldX c i e f
    | none => stk)
  | .Subscript a (.Slice none none (some (.UnaryOp .USub (.Constant (.int 1) _ _) _)) _) _ => one o c a fun x => val (revD x)
  | .Call (.Attribute (.Constant (.str a) _ _) m ap) [e] [] p => (match decide (m = ("join" : Str)) && (notStar e && (ap.endLine == p.line)) with
    | true => one o c e fun x => val (joinD a x)
    | false => stk)
  | e => ev1 o c e
def raiseS (c : C) (x : Str) : M Flow' := match !c.hot, c.nm x, c.g.exc? x with
  | true, .glob, some xi => (match xi.fld with
    | none => fun ρ => .exc ⟨x, none⟩ ρ
    | some _ => stk)
  | _, _, _ => stk
def raiseV (o : Ops) (c : C) (x : Str) (e : Expr) : M Flow' := match !c.hot && (c.act.isNone && notStar e), c.nm x, c.g.exc? x with
  | true, .glob, some xi => (match xi.fld with
    | none => stk
    | some f => bnd (o.ev c e) fun r ρ => .exc ⟨x, some (f, r.1)⟩ ρ)
  | _, _, _ => stk
/-- behind the body -/
def catchW (c : C) (x : Str) (suite : EV → M Flow') (r : Res Flow') : Res Flow' := match r with
  | .ok fl ρ' => .ok fl ρ'
  | .stk => .stk
  | .exc e ρ' => (match c.g.sub e.cls x, c.g.exc? e.cls with
    | some true, some _ => suite e ρ'
    | some false, some _ => .exc e ρ'
    | _, _ => .stk)
def suiteAs (c : C) (i : Nat) (suite : List Stmt) (e : EV) : M Flow' := fun ρ' => match unPin ρ' i && (noXs ρ' && !decide (e.cls = ⟨#[]⟩)) with
  | true => (match o.ss (c.hotC (some (i, e))) suite (ρ'.set i (.x e)) with
    | .ok fl ρ3 => (match noXs (ρ3.set i .e) with
      | true => .ok fl (ρ3.set i .e)
      | false => .stk)
    | _ => .stk)
  | false => .stk
def tryAs (c : C) (body : List Stmt) (x n : Str) (suite : List Stmt) : M Flow' := match !c.hot && c.exn.isNone, c.nm x, c.g.exc? x with
  | true, .glob, some _ => (match decide (c.sc.names.lookup n = some .local), c.slot n with
    | true, some i => fun ρ => catchW c x (suiteAs o c i suite) (o.ss c body ρ)
    | _, _ => stk)
  | _, _, _ => stk
def st2 (c : C) (s : Stmt) : M Flow' := match s with
  | .Raise (some (.Call (.Name x _) [.Constant (.str _) _ _] [] _)) none _ => raiseS c x
  | .Raise (some (.Call (.Name x _) [e] [] _)) none _ => raiseV o c x e
  | .Try body [.ExceptHandler (some (.Name x _)) (some n) (b₀ :: suite) _] [] [] _ => tryAs o c body x n (b₀ :: suite)
  | s => st1 o c s
end

section
variable {X : Cx} {c : C} {W : WX} {B : Hp} {W0 : Zx} {L : List (Nat × Addr)} {T : List (Addr × D)} {o : Ops}
theorem isAct_at {x : Str} {r : CRes} (h : c.isAct x = some r) : ∃ i, c.act = some (i, r) ∧ c.nm x = .slot i := by
  unfold C.isAct at h
  split at h
  · rename_i i r' j e1 e2
    cases hd : decide (i = j) with
    | true =>
      rw [hd] at h
      cases h
      cases of_decide_eq_true hd
      exact ⟨i, e1, e2⟩
    | false => rw [hd] at h; cases h
  · cases h
theorem isExn_at {y : Str} {i : Nat} {e : EV} (h : c.isExn y = some (i, e)) : c.exn = some (i, e) ∧ c.nm y = .slot i := by
  unfold C.isExn at h
  split at h
  · rename_i i' e' j e1 e2
    cases hd : decide (i' = j) with
    | true =>
      rw [hd] at h
      cases h
      cases of_decide_eq_true hd
      exact ⟨e1, e2⟩
    | false => rw [hd] at h; cases h
  · cases h
theorem ok_act (u : UD X c W W0) {x : Str} {p pos : Pos} {r : CRes} (h : c.isAct x = some r) : PE X (.Call (.Name x p) [] [] pos) (tEv (zt X B W0 L T) W (actR r)) := by
  obtain ⟨i, ha, hn⟩ := isAct_at h
  obtain ⟨f, hA, c', q, hC, act⟩ := u.act i r ha
  obtain ⟨hok, hN, hv⟩ := nm_slot hn
  refine PE.imp (act W X.pn X.xe x p pos (by rw [u.N]; exact hN) (by rw [u.sc]; exact hv) hok u.tk) fun σ H Q h => ?_
  obtain ⟨F, ρ, R, h⟩ := tM_at h
  exact ⟨(R.pin (i, f) (.inr hA)).2, R.tab.2 _ hC, F, R.stp0, R.live, R.tab.1, act_post R h⟩
theorem ok_fld (u : UD X c W W0) {y f : Str} {p pos : Pos} {i : Nat} {e : EV} (h : c.isExn y = some (i, e)) : PE X (.Attribute (.Name y p) f pos) (tEv (zt X B W0 L T) W (fldX c i e f)) := by
  obtain ⟨hx, hn⟩ := isExn_at h
  obtain ⟨a, hA, ex⟩ := u.exn i e hx
  obtain ⟨hok, hN, hv⟩ := nm_slot hn
  obtain ⟨h1, h2⟩ := okName_at hok
  cases hf : decide (c.g.fld? e.cls = some f) with
  | false =>
    refine ⟨fun pins s σ H Q I h => ?_⟩
    obtain ⟨F, ρ, R, h⟩ := tM_at h
    unfold fldX at h
    rw [hf] at h
    exact h.elim
  | true =>
    obtain ⟨A, pf⟩ := ex.fld f (of_decide_eq_true hf) _ _ pos rfl (pe_var (i := i) (pos := p) (by rw [u.N]; exact hN) (by rw [u.sc]; exact hv) h1 h2)
    refine PE.imp pf fun σ H Q ht => ?_
    obtain ⟨F, ρ, R, h9⟩ := tM_at ht
    unfold fldX at h9
    rw [hf] at h9
    split at h9
    · rename_i e' _ es
      split at h9
      · rename_i f' d ep
        cases hd : decide (f' = f) with
        | false => rw [hd] at h9; exact h9.elim
        | true =>
          rw [hd] at h9
          have ef := of_decide_eq_true hd
          obtain ⟨v, hv1, so⟩ := R.slot es
          have so' : PayR (zt X B W0 L T) F H e' := so
          unfold PayR at so'
          rw [ep] at so'
          obtain ⟨b, w, q1, q2, q3, q4⟩ := so'
          refine ⟨.ref a, (R.pin (i, a) (.inr hA)).2, rfl, rfl, b, [(f', w)], w, q1, q3, ?_, h9 w F H (.refl _ _) R (rr_rep q4)⟩
          rw [ef]
          simp [List.lookup]
      · exact h9.elim
    · exact h9.elim
theorem ok_isi (u : UD X c W W0) {x y z : Str} {p py pz pos : Pos} {b : Bool} (h : isiX c x y z = some b) : PE X (.Call (.Name x p) [.Name y py, .Name z pz] [] pos) (tEv (zt X B W0 L T) W (isiM c y b)) := by
  unfold isiX at h
  split at h
  · rename_i i e hx ey hz
    rw [Bool.and_eq_true] at hx
    cases of_decide_eq_true hx.1
    obtain ⟨hg, hm⟩ := bi_at u.toUC hx.2
    obtain ⟨hex, hn⟩ := isExn_at ey
    obtain ⟨a, hA, ex⟩ := u.exn i e hex
    obtain ⟨hok, hN, hv⟩ := nm_slot hn
    obtain ⟨h1, h2⟩ := okName_at hok
    obtain ⟨hok2, hk2⟩ := nm_glob hz
    have hgz : Gl X z := by show X.env.scope.names.lookup z = _; rw [u.sc]; exact hk2
    have hzd := (okName_at hok2).1
    obtain ⟨A, mA, hz3⟩ := u.gl.sub _ _ _ h
    obtain ⟨A2, mA2, hc⟩ := ex.isi
    have eA : A2 = A := by rw [mA] at mA2; cases mA2; rfl
    subst eA
    have hy : PE X (.Name y py) (tVar i) := pe_var (by rw [u.N]; exact hN) (by rw [u.sc]; exact hv) h1 h2
    have red : ∀ {σ H Q}, tEv (zt X B W0 L T) W (isiM c y b) σ H Q → (W0.xd = none ∨ ∃ dx fs, W0.xd = some dx ∧ H dx = some (.xd fs)) ∧ Q (.bl b) H := by
      intro σ H Q ht
      obtain ⟨F, ρ, R, h9⟩ := tM_at ht
      unfold isiM at h9
      rw [ey] at h9
      dsimp only at h9
      cases hh : holdsX ρ i e with
      | false => rw [hh] at h9; exact h9.elim
      | true =>
        rw [hh] at h9
        refine ⟨?_, h9 (.bl b) F H (.refl _ _) R (rr_rep (.bl b))⟩
        unfold holdsX at hh
        split at hh
        · rename_i e' es
          obtain ⟨v, hv1, so⟩ := R.slot es
          have so' : PayR (zt X B W0 L T) F H e' := so
          unfold PayR at so'
          split at so'
          · rcases so' with q | q
            · rw [q] at hh
              exact absurd hh (by decide)
            · exact .inl q
          · obtain ⟨b', w, q1, _, q3, _⟩ := so'
            exact .inr ⟨b', _, q1, q3⟩
        · cases hh
    have hv0 : ∀ {σ H Q}, tEv (zt X B W0 L T) W (isiM c y b) σ H Q → σ[i]? = some (some (.ref a)) := by
      intro σ H Q ht
      obtain ⟨F, ρ, R, h9⟩ := tM_at ht
      exact (R.pin (i, a) (.inr hA)).2
    rcases hz3 with ⟨A', mz, kit, _⟩ | ⟨mz, hnn, t, bt, kit⟩
    · have hpz : PE X (.Name z pz) (tC (.ref A')) := pe_glob (v := .ref A') hgz mz rfl hzd
      refine PE.imp (pe_callB hc hg hm (by rfl) (pa_cons hy (pa_cons hpz pa_nil rfl) rfl) (by decide) (by decide) rfl rfl) fun σ H Q ht => ?_
      obtain ⟨e4, e5⟩ := red ht
      exact ⟨.ref a, hv0 ht, .ref A', .ref A', b, rfl, fun u hu => hu, kit, e4, e5⟩
    · have hpz : PE X (.Name z pz) (tC (.ty t)) := pe_bltn (v := .ty t) hgz mz bt rfl hnn hzd
      refine PE.imp (pe_callB hc hg hm (by rfl) (pa_cons hy (pa_cons hpz pa_nil rfl) rfl) (by decide) (by decide) rfl rfl) fun σ H Q ht => ?_
      obtain ⟨e4, e5⟩ := red ht
      exact ⟨.ref a, hv0 ht, .ty t, .type t, b, rfl, fun u hu => hu, kit, e4, e5⟩
  · cases h

/-! ### raise-/
theorem ok_raise (u : UD X c W W0) {x m : Str} {j : Nat} {p p2 pos pos' : Pos} : PS X (.Raise (some (.Call (.Name x p) [.Constant (.str m) j p2] [] pos)) none pos') (tSs (zt X B W0 L T) W (raiseS c x)) := by
  have no : ∀ {mm : M Flow'}, (∀ ρ, mm ρ = .stk) → PS X (.Raise (some (.Call (.Name x p) [.Constant (.str m) j p2] [] pos)) none pos') (tSs (zt X B W0 L T) W mm) := fun hm => ⟨fun pins s σ H En I h => (tS_stk hm h).elim⟩
  cases hh : (!c.hot) with
  | false => exact no fun ρ => by simp only [raiseS, hh] <;> rfl
  | true =>
    cases hn : c.nm x with
    | slot i => exact no fun ρ => by simp only [raiseS, hh, hn] <;> rfl
    | bad => exact no fun ρ => by simp only [raiseS, hh, hn] <;> rfl
    | glob =>
      cases hx : c.g.exc? x with
      | none => exact no fun ρ => by simp only [raiseS, hh, hn, hx] <;> rfl
      | some xi =>
        cases hf : xi.fld with
        | some f => exact no fun ρ => by simp only [raiseS, hh, hn, hx, hf] <;> rfl
        | none =>
          obtain ⟨A, mA, q1, q2, q3, q4⟩ := u.gl.exc x xi hx hf
          obtain ⟨hok, hk⟩ := nm_glob hn
          have hg : Gl X x := by show X.env.scope.names.lookup x = _; rw [u.sc]; exact hk
          refine PS.imp (L2N.ps_raise (u.calm (by simpa using hh)) u.tk (L2N.pmk_own PySem.F.excBase_ValueError q1 mA q2 (raises_own q3 q4) hg (okName_at hok).1)) fun En σ H ⟨F, ρ, R, h⟩ => ?_
          simp only [raiseS, hh, hn, hx, hf] at h
          exact h (.ref A) none σ F H (.refl _ _) R ⟨A, rfl, mA, trivial⟩

theorem mk_endN {X : Cx} {pins : List (Addr × Obj)} {σ : L2.St} {H1 H2 : Hp} {Q : XK} {hp hp2 h2 : Heap} {g1 g2 : Array GenState} {d1 d2 : Drawn} {t1 t2 : Nat} {os1 os2 : OsState} {a C d : Addr} {fs : List (Str × V)} (T : Raises X (.ref C)) (I1 : Inv X pins σ H1 ⟨hp, g1, d1, t1, os1⟩)
    (ha : hp.objs.size ≤ a) (k : ∀ b o, hp.get? b = some o → hp2.get? b = some o) (un : Un (frs X.stack) [] (upd H1 a (exo a C none)) H2 hp2 h2) (hok : HOk X.prog X.w H2 h2) (ho : os2 = os1) (hb : AllBare g2)
    (ea : H2 a = some (exo a C (some d))) (ed : H2 d = some (exd d fs)) (hd1 : H1 d = none) (q : Q (.ref C) (some d) (upd (del H2 a) d (.xd fs))) : L2N.MkP X pins σ Q (.ref a) ⟨h2, g2, d2, t2, os2⟩ := by
  obtain ⟨t0, G, J, kG, ge, hoe, na⟩ := mk_end0 (d2 := d2) (t2 := t2) I1 ha k un hok ho hb ea ed hd1
  exact ⟨a, _, _, ⟨G, g2, d2, t2, os2⟩, _, .ref C, some d, rfl, J, kG, ge, hoe, ⟨rfl, rfl, fun vs e => by cases e; rfl⟩, rfl, rfl, na, rfl, hb, T, q⟩
theorem pmk_oexN {X : Cx} {e : Expr} {es : List Expr} {ta : TA} {p pos : Pos} {CX : CXT} {x : Str} {C fI : Addr} {k : Nat} {fd : FuncData} {ps : List Str} {sp : Sp} {ds : List Value} {dvs : List V} (T : OexC X.K C) (iC : PySem.W.findIn X.K (.ref C) "__init__" = some (some (.ref fI))) (tI : PySem.W.typeIn X.K (.ref fI) = some (.type "function"))
    (F1 : FnOk X.prog X.w X.K X.mg X.base CX k fI fd ps sp) (hr : Room (k + 1) X.A) (hb : L2.Binds X.K fd ps ds) (hd : Vals dvs ds) (hx : Passes CX X (fun _ _ _ => False)) (hg : Gl X x) (hm : X.mg x = some (.ref C)) (ha : PA X (e :: es) ta)
    (hdb : (x == ("__debug__" : Str)) = false := by decide) (he : starEach (e :: es) X.env = (false, eval e X.env) :: starEach es X.env := by rfl) (hpl : (backTo pos (starEach es X.env)).any (·.1) = false := by rfl) :
    L2N.PMk X (.Call (.Name x p) (e :: es) [] pos) (tMkO C sp dvs ta) := by
  intro pins s σ H Q I h
  obtain ⟨nm, q, N, bs, bm, sn, sub, ab, col, dd, k0, k1, k2, k3, k5, hC, hbm⟩ := T.cls
  refine wpAny_Call_Name_kw (ld_glob I hg hm ?_ hdb)
  refine PySem.W.callWith_K (h₀ := X.base) I.ok.mod.kin T.kC (thn (ha.run pos pins s σ H _ I h) fun us s1 ⟨vs, H1, I1, r1, hz, q1⟩ => ⟨I1.kIn, ?_⟩) he hpl
  show wpAny _ _ (call (.ref C) us) _ _ _
  obtain ⟨hp, g, dr, tk, os⟩ := s1
  have hsz : hp.objs.size ≤ hp.objs.size + 1 := Nat.le_succ _
  have hn : H1 (hp.objs.size + 1) = none := I1.hok.fresh hsz
  have hq := q1 (hp.objs.size + 1) hn
  have kk : ∀ b o, hp.get? b = some o → ((hp.push (PySem.W.kdv_tup us)).push (PySem.HandSPX.excO C hp.objs.size)).get? b = some o := fun b o e => Heap.get?_push_of_some _ (Heap.get?_push_of_some _ e)
  have hget : ((hp.push (PySem.W.kdv_tup us)).push (PySem.HandSPX.excO C hp.objs.size)).get? (hp.objs.size + 1) = some (PySem.HandSPX.excO C hp.objs.size) := by heap_get
  have I2 : Inv X pins σ (upd H1 (hp.objs.size + 1) (exo (hp.objs.size + 1) C none)) ⟨(hp.push (PySem.W.kdv_tup us)).push (PySem.HandSPX.excO C hp.objs.size), g, dr, tk, os⟩ :=
    I1.laid (t' := tk) (a := hp.objs.size + 1) (o := exo (hp.objs.size + 1) C none) (h' := (hp.push (PySem.W.kdv_tup us)).push (PySem.HandSPX.excO C hp.objs.size)) kk hsz (exo_ok hget)
  have r2 : Vals (V.ref (hp.objs.size + 1) :: (vs ++ dvs)) (Value.ref (hp.objs.size + 1) :: (us ++ ds)) := .cons rfl (r1.append hd)
  have hl : (Value.ref (hp.objs.size + 1) :: us ++ ds).length = ps.length := by
    have e := r2.length
    rw [F1.len _ _ _ _ hq] at e
    exact e.symm
  have hus : us.length ≤ sizeLine := by
    rw [← Paired.length r1, sizeLine_eq]
    omega
  refine wpAny_call (PySem.HandSPX.call_own F.excBase_ValueError (fun Y => PySem.HandSPX.refsVE_contains Y bm hbm) (I1.kIn _ _ hC) (PySem.W.looks_findIn I1.kIn iC) (fun self => PySem.W.bind_fn I1.kIn self tI) hus
    (codeAny_mono (F1.run _ X.stack _ _ ⟨Value.ref (hp.objs.size + 1) :: us, []⟩ (Value.ref (hp.objs.size + 1) :: (us ++ ds)) _ _ (fun _ _ _ => False) (hr.make C us []) (I2.env0.make C us []) (hb _ (Value.ref (hp.objs.size + 1) :: us) I2.kIn hl) r2 hq) fun r s' hq' => ?_))
  cases r with
  | error er => exact hx pins σ _ _ er s' I2 hq'
  | ok fl =>
    cases fl with
    | ret u =>
      obtain ⟨v, H2, os2, bare2, un2, hok2, rv, ev, d, fs, ea, ed, hd1, q2⟩ := hq'
      subst ev
      obtain ⟨h2, g2, d2, t2, os'⟩ := s'
      exact ⟨rv, mk_endN (raises_own T.exC T.tyC) I1 hsz kk un2 hok2 os2 bare2 ea ed hd1 q2⟩
    | next => exact False.elim hq'
    | brk => exact False.elim hq'
    | cont => exact False.elim hq'
theorem ok_raiseV (ho : OkS o) (u : US X c W W0) {x : Str} {e : Expr} {p pos pos' : Pos} : PS X (.Raise (some (.Call (.Name x p) [e] [] pos)) none pos') (tSs (zt X B W0 L T) W (raiseV o c x e)) := by
  have no : ∀ {mm : M Flow'}, (∀ ρ, mm ρ = .stk) → PS X (.Raise (some (.Call (.Name x p) [e] [] pos)) none pos') (tSs (zt X B W0 L T) W mm) := fun hm => ⟨fun pins s σ H En I h => (tS_stk hm h).elim⟩
  cases hh : (!c.hot && (c.act.isNone && notStar e)) with
  | false => exact no fun ρ => by simp only [raiseV, hh] <;> rfl
  | true =>
    obtain ⟨hh1, hh23⟩ := Bool.and_eq_true_iff.mp hh
    obtain ⟨hh2, hs⟩ := Bool.and_eq_true_iff.mp hh23
    have hot : c.hot = false := by simpa using hh1
    have hact : c.act = none := by simpa using hh2
    cases hn : c.nm x with
    | slot i => exact no fun ρ => by simp only [raiseV, hh, hn] <;> rfl
    | bad => exact no fun ρ => by simp only [raiseV, hh, hn] <;> rfl
    | glob =>
      cases hx : c.g.exc? x with
      | none => exact no fun ρ => by simp only [raiseV, hh, hn, hx] <;> rfl
      | some xi =>
        cases hf : xi.fld with
        | none => exact no fun ρ => by simp only [raiseV, hh, hn, hx, hf] <;> rfl
        | some f =>
          obtain ⟨A, fI, fd, mA, I0, Bd, kp, msup⟩ := u.gl.exi x xi f hx hf
          obtain ⟨hok, hk⟩ := nm_glob hn
          have hg : Gl X x := by show X.env.scope.names.lookup x = _; rw [u.sc]; exact hk
          have F1 : FnOk X.prog X.w X.K X.mg X.base (fun _ _ _ _ _ _ => False) 1 fI fd [("self" : Str), f] (initSp A f) := initFn_ok I0 msup
          have hA : PA X [e] (tCons (tEv (zt X B W0 L T) W (o.ev c e)) tNil) := pa_cons (ho.ev e u.toUD) pa_nil (star1 hs)
          refine PS.imp (L2N.ps_raise (u.calm hot) u.tk (pmk_oexN (ds := []) (dvs := []) I0.T I0.iC I0.tI F1 (u.rm2 hot hact) Bd .nil (fun _ _ _ _ _ _ _ z => z.elim) hg mA hA (okName_at hok).1 (star1 hs) rfl)) fun En σ H ⟨F, ρ, R, h⟩ => ?_
          simp only [raiseV, hh, hn, hx, hf] at h
          refine tS_bnd (Z := zt X B W0 L T) R h fun r ρ1 v F1 H1 s1 R1 rr hp => ?_
          obtain ⟨F2, s2, R2, r2⟩ := R1.settle rr
          refine ⟨by show (1 : Nat) ≤ 1000; omega, fun a na => ⟨a, v, rfl, upd_same, fun dx hd hne => ⟨rfl, dx, [(f, v)], upd_same, ?_, ?_, ?_⟩⟩⟩
          · rw [upd_ne hne, upd_same]
          · rw [upd_ne hne] at hd
            exact hd
          · rw [upd_ne hne] at hd
            have eH : upd (del (upd (upd (upd H1 a (exo a A none)) dx (exd dx [(f, v)])) a (exo a A (some dx))) a) dx (.xd [(f, v)]) = upd H1 dx (.xd [(f, v)]) := by
              funext b
              by_cases hb : b = dx
              · rw [hb, upd_same, upd_same]
              · rw [upd_ne hb, upd_ne hb]
                by_cases ha : b = a
                · rw [ha, del_same, na]
                · rw [del_ne ha, upd_ne ha, upd_ne hb, upd_ne ha]
            rw [eH]
            have g := grow_new (F := F2) (o := .xd [(f, v)]) hd
            have lv := live_new (o := .xd [(f, v)]) (p := dx) (fun ps z => nomatch z) R2.live
            have st := g.step R2.live
            exact hp (.ref A) (some dx) σ _ _ (s2.trans st) (R2.grow g lv) ⟨A, rfl, mA, .inr rfl, v, upd_same, r2.step st⟩

/-! ### try -/
theorem call_isX {a A : Addr} {oe : Obj} {d : Option Addr} {pn : List (Addr × Obj)} (C : ExcC X.K A) (hz : Zc (.ref A) d oe) (hf : ∃ vs, oe.data = .fields vs) :
    CallR (X.suite a ((a, oe) :: pn)) (.builtin "isinstance") (fun xs H Q => ∃ (k : V) (cv : Value) (b : Bool), xs = [.ref a, k] ∧ (∀ u, RelV k u → u = cv) ∧ PySem.W.kitOne X.K (.ref A) cv = some b ∧ (d = none ∨ ∃ dx fs, d = some dx ∧ H dx = some (.xd fs)) ∧ Q (.bl b) H) := by
  intro pins s σ H xs us Q J r ⟨k, cv, b, e1, e2, e3, e4, q⟩
  exact call_isD C hz hf pins s σ H xs us Q J r ⟨e4, k, cv, b, e1, e2, e3, q⟩
theorem us_tr {pn : List (Addr × Obj)} {xe : Value → Shared → Prop} {W' : WX} (u : US X c W W0) (hcold : c.hot = false) (hx : c.exn.isNone = true) (tk : L2N.Takes (X.tr pn xe) W') (own : PassesOwn (model X.prog X.w) X.A X.env xe) : US (X.tr pn xe) c W' W0 where
  N := u.N
  nd := u.nd
  sc := u.sc
  un := u.un
  tk := tk
  gl := u.gl
  calm := u.calm
  fn := u.fn
  ht := fun h => by rw [hcold] at h; cases h
  cal := u.cal
  lam := u.lam
  act := u.act
  exn := fun i e h => by rw [h] at hx; cases hx
  own := fun _ => own
  stk := u.stk
  rm2 := u.rm2
theorem us_suite {a : Addr} {oe : Obj} {cls : Value} {d : Option Addr} {pn : List (Addr × Obj)} {i : Nat} {e : EV} {xi : XI} (u : US X c W W0) (hz : L2N.Zn cls d oe) (hf : ∃ vs, oe.data = .fields vs) (hm : X.mg e.cls = some cls) (hx : c.g.exc? e.cls = some xi) :
    US (X.suite a ((a, oe) :: pn)) (c.hotC (some (i, e))) WF { W0 with A := (i, a) :: W0.A, xd := d } where
  N := u.N
  nd := u.nd
  sc := u.sc
  un := u.un
  tk := fun v s' ⟨a, B, sI, pins, σ, H, cls, d, e, I, nb, up, sky, na, os, ag, w⟩ => w.elim
  gl := u.gl
  calm := fun h => by cases h
  fn := u.fn
  ht := fun _ => by
    obtain ⟨vs, hv⟩ := hf
    exact ⟨(a, oe), ⟨rfl, vs, hv, hz.2.2 vs hv⟩, List.mem_cons_self⟩
  cal := fun h => by cases h
  lam := fun h => by cases h
  act := fun i r h => by cases h
  exn := fun j e' h => by
    cases h
    obtain ⟨A, mA, C, XC, hfl⟩ := u.gl.isx _ _ hx
    have ec : cls = .ref A := by rw [mA] at hm; cases hm; rfl
    subst ec
    refine ⟨a, List.mem_cons_self, ⟨A, mA, call_isX C hz.zc hf⟩, fun f hfe t te pos hb ht => ?_⟩
    have hno : PySem.W.findIn X.K (.ref A) f = some none := by
      refine hfl f ?_
      have hfe' : c.g.fld? e.cls = some f := hfe
      have hx' : c.g.excs.find? (fun f => decide (f.name = e.cls)) = some xi := hx
      unfold Gm.fld? at hfe'
      rw [hx'] at hfe'
      exact hfe'
    exact ⟨A, pe_xf (X := X) XC hno hz.zc hf ht hb⟩
  own := fun h => by cases h
  stk := fun h => by cases h
  rm2 := fun h => by cases h

theorem unPin_at {ρ : Evm} {i : Nat} (h : unPin ρ i = true) : ∃ s, ρ[i]? = some s ∧ s.pin = false := by
  unfold unPin at h
  split at h
  · rename_i s e; exact ⟨s, e, by simpa using h⟩
  · cases h
theorem noXs_at {ρ : Evm} (h : noXs ρ = true) {i : Nat} {e : EV} (hi : ρ[i]? = some (.x e)) : e.cls = ⟨#[]⟩ ∧ e.pay = none := by
  have := List.all_eq_true.mp h _ (List.mem_of_getElem? hi)
  rw [Bool.and_eq_true] at this
  refine ⟨of_decide_eq_true this.1, ?_⟩
  cases e2 : e.pay with
  | none => rfl
  | some z => rw [e2] at this; cases this.2
theorem payR_act {Z : Zt} {F : Fz} {H : Hp} {e : EV} (h1 : e.cls = ⟨#[]⟩) (h2 : e.pay = none) : PayR Z F H e := by
  unfold PayR
  rw [h2]
  exact .inl h1
section
variable {K : PySem.W.Frag} {mg : Str → Option Value} {F : Fz} {H : Hp} {ρ : Evm} {σ : L2.St}
/-- the exception is bound -/
theorem Rl.bindX (R : Rl ⟨K, mg, B, W0, L, T⟩ F ρ σ H) {i : Nat} {a : Addr} {e : EV} {d : Option Addr} {s : Sl} (hs : ρ[i]? = some s) (hp : s.pin = false) (nx : noXs ρ = true) (pay : PayR ⟨K, mg, B, { W0 with A := (i, a) :: W0.A, xd := d }, L, T⟩ F H e) :
    Rl ⟨K, mg, B, { W0 with A := (i, a) :: W0.A, xd := d }, L, T⟩ F (ρ.set i (.x e)) (σ.set i (some (.ref a))) H := by
  have hi : i < ρ.length := (List.getElem?_eq_some_iff.mp hs).1
  have hi' : i < σ.length := by rw [← R.len]; exact hi
  have ne : ∀ (j : Nat) t, (ρ.set i (.x e))[j]? = some t → t.own = true → j ≠ i ∧ ρ[j]? = some t := by
    intro j t h ho
    by_cases hj : j = i
    · subst hj
      rw [List.getElem?_set_self hi] at h
      cases h
      cases ho
    · rw [List.getElem?_set_ne (Ne.symm hj)] at h
      exact ⟨hj, h⟩
  refine ⟨by simpa using R.len, fun j t w h1 h2 => ?_, fun j k t t' b h1 h2 h3 h4 h5 h6 => ?_, fun p hpm => ?_, R.old, R.dom, R.live, fun p hpm => ?_, R.tab, R.stp0, R.hb, R.nfz, R.wn⟩
  · by_cases hj : j = i
    · subst hj
      rw [List.getElem?_set_self hi] at h1
      cases h1
      exact pay
    · rw [List.getElem?_set_ne (Ne.symm hj)] at h1 h2
      have so := R.sl j t w h1 h2
      cases t with
      | x e' => exact payR_act (noXs_at nx h1).1 (noXs_at nx h1).2
      | e => trivial
      | d y => exact so
      | o y => exact so
      | l y => exact so
      | f y => exact so
  · obtain ⟨n1, e1⟩ := ne j t h1 h3
    obtain ⟨n2, e2⟩ := ne k t' h2 h4
    rw [List.getElem?_set_ne (Ne.symm n1)] at h5
    rw [List.getElem?_set_ne (Ne.symm n2)] at h6
    exact R.sep j k t t' b e1 e2 h3 h4 h5 h6
  · have hp2 : p = (i, a) ∨ Zt.Pin ⟨K, mg, B, W0, L, T⟩ p := by
      rcases hpm with z | z
      · exact .inr (.inl z)
      · rcases List.mem_cons.mp z with z | z
        · exact .inl z
        · exact .inr (.inr z)
    rcases hp2 with z | z
    · subst z
      exact ⟨⟨_, List.getElem?_set_self hi, rfl⟩, List.getElem?_set_self hi'⟩
    · obtain ⟨⟨t, ht, hpn⟩, hv⟩ := R.pin p z
      have hj : p.1 ≠ i := fun q => by rw [q, hs] at ht; cases ht; rw [hp] at hpn; cases hpn
      rw [List.getElem?_set_ne (Ne.symm hj), List.getElem?_set_ne (Ne.symm hj)]
      exact ⟨⟨t, ht, hpn⟩, hv⟩
  · obtain ⟨k1, k2, k3, k4⟩ := R.kept p hpm
    refine ⟨k1, k2, k3, fun j t h1 h2 h3 => ?_⟩
    obtain ⟨n1, e1⟩ := ne j t h1 h2
    rw [List.getElem?_set_ne (Ne.symm n1)] at h3
    exact k4 j t e1 h2 h3
/-- .. and goes -/
theorem Rl.dropX {i : Nat} {a : Addr} {d : Option Addr} (R : Rl ⟨K, mg, B, { W0 with A := (i, a) :: W0.A, xd := d }, L, T⟩ F ρ σ H) (nx : ∀ (j : Nat) e, j ≠ i → ρ[j]? = some (.x e) → e.cls = ⟨#[]⟩ ∧ e.pay = none) (hA : ∀ p, Zt.Pin ⟨K, mg, B, W0, L, T⟩ p → p.1 ≠ i) :
    Rl ⟨K, mg, B, W0, L, T⟩ F (ρ.set i .e) (σ.set i none) H := by
  obtain ⟨⟨s, hs, _⟩, _⟩ := R.pin (i, a) (.inr List.mem_cons_self)
  dsimp only at hs
  have hi : i < ρ.length := (List.getElem?_eq_some_iff.mp hs).1
  have hi' : i < σ.length := by rw [← R.len]; exact hi
  have ne : ∀ (j : Nat) t, (ρ.set i .e)[j]? = some t → t.own = true → j ≠ i ∧ ρ[j]? = some t := by
    intro j t h ho
    by_cases hj : j = i
    · subst hj
      rw [List.getElem?_set_self hi] at h
      cases h
      cases ho
    · rw [List.getElem?_set_ne (Ne.symm hj)] at h
      exact ⟨hj, h⟩
  refine ⟨by simpa using R.len, fun j t w h1 h2 => ?_, fun j k t t' b h1 h2 h3 h4 h5 h6 => ?_, fun p hpm => ?_, R.old, R.dom, R.live, fun p hpm => ?_, R.tab, R.stp0, R.hb, R.nfz, R.wn⟩
  · by_cases hj : j = i
    · subst hj
      rw [List.getElem?_set_self hi] at h1
      cases h1
      trivial
    · rw [List.getElem?_set_ne (Ne.symm hj)] at h1 h2
      have so := R.sl j t w h1 h2
      cases t with
      | x e' => exact payR_act (nx j e' hj h1).1 (nx j e' hj h1).2
      | e => trivial
      | d y => exact so
      | o y => exact so
      | l y => exact so
      | f y => exact so
  · obtain ⟨n1, e1⟩ := ne j t h1 h3
    obtain ⟨n2, e2⟩ := ne k t' h2 h4
    rw [List.getElem?_set_ne (Ne.symm n1)] at h5
    rw [List.getElem?_set_ne (Ne.symm n2)] at h6
    exact R.sep j k t t' b e1 e2 h3 h4 h5 h6
  · have hj := hA p hpm
    have hpm' : Zt.Pin ⟨K, mg, B, { W0 with A := (i, a) :: W0.A, xd := d }, L, T⟩ p := hpm.elim .inl fun z => .inr (List.mem_cons_of_mem _ z)
    rw [List.getElem?_set_ne (Ne.symm hj), List.getElem?_set_ne (Ne.symm hj)]
    exact R.pin p hpm'
  · obtain ⟨k1, k2, k3, k4⟩ := R.kept p hpm
    refine ⟨k1, k2, k3, fun j t h1 h2 h3 => ?_⟩
    obtain ⟨n1, e1⟩ := ne j t h1 h2
    rw [List.getElem?_set_ne (Ne.symm n1)] at h3
    exact k4 j t e1 h2 h3
end

theorem ok_tryAs (ho : OkS o) (u : US X c W W0) {body suite : List Stmt} {b₀ : Stmt} {x n : Str} {np pos pos' : Pos} : PS X (.Try body [.ExceptHandler (some (.Name x np)) (some n) (b₀ :: suite) pos'] [] [] pos) (tSs (zt X B W0 L T) W (tryAs o c body x n (b₀ :: suite))) := by
  have no : ∀ {mm : M Flow'}, (∀ ρ, mm ρ = .stk) → PS X (.Try body [.ExceptHandler (some (.Name x np)) (some n) (b₀ :: suite) pos'] [] [] pos) (tSs (zt X B W0 L T) W mm) := fun hm => ⟨fun pins s σ H En I h => (tS_stk hm h).elim⟩
  cases hh : (!c.hot && c.exn.isNone) with
  | false => exact no fun ρ => by simp only [tryAs, hh] <;> rfl
  | true =>
    cases hn : c.nm x with
    | slot i => exact no fun ρ => by simp only [tryAs, hh, hn] <;> rfl
    | bad => exact no fun ρ => by simp only [tryAs, hh, hn] <;> rfl
    | glob =>
      cases hx : c.g.exc? x with
      | none => exact no fun ρ => by simp only [tryAs, hh, hn, hx] <;> rfl
      | some xi =>
        cases hl : decide (c.sc.names.lookup n = some .local) with
        | false => exact no fun ρ => by simp only [tryAs, hh, hn, hx, hl] <;> rfl
        | true =>
          cases hs : c.slot n with
          | none => exact no fun ρ => by simp only [tryAs, hh, hn, hx, hl, hs] <;> rfl
          | some i =>
            rw [Bool.and_eq_true] at hh
            have hcold : c.hot = false := by simpa using hh.1
            obtain ⟨hst, hfr⟩ := u.stk hcold
            obtain ⟨hok, hk⟩ := nm_glob hn
            have hg : Gl X x := by show X.env.scope.names.lookup x = _; rw [u.sc]; exact hk
            obtain ⟨A, mA, _⟩ := u.gl.isx x xi hx
            have hln : X.env.kindOf n = some .local := by show X.env.scope.names.lookup n = _; rw [u.sc]; exact of_decide_eq_true hl
            refine PS.imp (L2N.ps_try_as hst hfr u.nd (by rw [u.N]; exact slot_at hs) hln ⟨hg, (okName_at hok).1, .inl mA⟩ u.tk
              (tb := fun W' => tSs (zt X B W0 L T) W' (o.ss c body))
              (ts := fun a cls d En σ H => ∃ e xi, X.mg e.cls = some cls ∧ c.g.exc? e.cls = some xi ∧ tSs (zt X B { W0 with A := (i, a) :: W0.A, xd := d } L T) WF (o.ss (c.hotC (some (i, e))) (b₀ :: suite)) En σ H)
              (fun W' pn xe tk' own => ho.ss (X := X.tr pn xe) (B := B) (W0 := W0) (L := L) (T := T) body (us_tr u hcold hh.2 tk' own))
              (fun a oe cls d pn hz hf => ⟨fun pins s σ H En I ⟨e, xi, hm, hxe, h⟩ => (ho.ss (X := X.suite a ((a, oe) :: pn)) (B := B) (L := L) (T := T) (b₀ :: suite) (us_suite u hz hf hm hxe)).run pins s σ H En I h⟩)) fun En σ H ⟨F, ρ, R, h⟩ => ⟨F, ρ, R, ?_⟩
            have h' : PstS (zt X B W0 L T) W En F H (catchW c x (suiteAs o c i (b₀ :: suite)) (o.ss c body ρ)) := by
              simp only [tryAs, hn, hx, hl, hs, hh.1, hh.2, Bool.and_self] at h
              exact h
            unfold catchW at h'
            cases eb : o.ss c body ρ with
            | stk => rw [eb] at h'; exact h'
            | ok fl ρ' => rw [eb] at h'; cases fl <;> exact h'
            | exc e ρ' =>
              rw [eb] at h'
              dsimp only at h'
              intro cls dd σ' F' H' s' R' ea
              obtain ⟨A', ec, mA', pay⟩ := ea
              cases hsub : c.g.sub e.cls x with
              | none => rw [hsub] at h'; exact h'.elim
              | some b =>
                cases hxe : c.g.exc? e.cls with
                | none => rw [hsub, hxe] at h'; cases b <;> exact h'.elim
                | some xe =>
                  rw [hsub, hxe] at h'
                  obtain ⟨A2, m2, q⟩ := u.gl.sub _ _ _ hsub
                  have eA : A2 = A' := by
                    have z : X.mg e.cls = some (.ref A') := mA'
                    rw [m2] at z; cases z; rfl
                  subst eA
                  have hexm : PySem.W.exmOne X.K (.ref A2) (.ref A) = some b := by
                    rcases q with ⟨A3, m3, _, hq⟩ | ⟨m3, _⟩
                    · rw [mA] at m3; cases m3; exact hq
                    · rw [mA] at m3; cases m3
                  subst ec
                  refine ⟨b, hexm, fun hb a ha => ?_, fun hb => ?_⟩
                  · subst hb
                    dsimp only at h'
                    unfold suiteAs at h'
                    cases hc : (unPin ρ' i && (noXs ρ' && !decide (e.cls = ⟨#[]⟩))) with
                    | false => rw [hc] at h'; exact h'.elim
                    | true =>
                      rw [hc] at h'
                      dsimp only at h'
                      rw [Bool.and_eq_true, Bool.and_eq_true] at hc
                      obtain ⟨sl, hsl, hpin⟩ := unPin_at hc.1
                      have pay' : PayR ⟨X.K, X.mg, B, { W0 with A := (i, a) :: W0.A, xd := dd }, L, T⟩ F' H' e := by
                        unfold PayR
                        cases ep : e.pay with
                        | none =>
                          rw [ep] at pay
                          cases dd with
                          | none => exact .inr rfl
                          | some b' => exact pay.elim
                        | some fx =>
                          rw [ep] at pay
                          cases dd with
                          | none => exact pay.elim
                          | some b' =>
                            obtain ⟨p1, w, p2, p3⟩ := pay
                            exact ⟨b', w, rfl, p1, p2, p3⟩
                      have R2 := Rl.bindX (a := a) (d := dd) R' hsl hpin hc.2.1 pay'
                      refine ⟨e, xe, m2, hxe, F', _, R2, ?_⟩
                      have hA : ∀ p, Zt.Pin (zt X B W0 L T) p → p.1 ≠ i := fun p hp z => by
                        obtain ⟨⟨t, ht, hpn⟩, _⟩ := R'.pin p hp
                        rw [z, hsl] at ht
                        cases ht
                        rw [hpin] at hpn; cases hpn
                      have back : ∀ {ρ3 : Evm} {σ3 : L2.St} {F3 : Fz} {H3 : Hp}, noXs (ρ3.set i .e) = true → Rl (zt X B { W0 with A := (i, a) :: W0.A, xd := dd } L T) F3 ρ3 σ3 H3 → Rl (zt X B W0 L T) F3 (ρ3.set i .e) (σ3.set i none) H3 := by
                        intro ρ3 σ3 F3 H3 nx R3
                        refine Rl.dropX R3 (fun j e3 hj h3 => noXs_at nx (i := j) ?_) hA
                        rw [List.getElem?_set_ne (Ne.symm hj)]; exact h3
                      cases es : o.ss (c.hotC (some (i, e))) (b₀ :: suite) (ρ'.set i (.x e)) with
                      | stk => rw [es] at h'; exact h'
                      | exc ex ρ3 => rw [es] at h'; exact h'.elim
                      | ok fl ρ3 =>
                        rw [es] at h'
                        dsimp only at h'
                        cases nx : noXs (ρ3.set i .e) with
                        | false => rw [nx] at h'; exact h'.elim
                        | true =>
                          rw [nx] at h'
                          cases fl with
                          | nx => exact fun σ4 F4 H4 s4 R4 => h' _ F4 H4 (s'.trans s4) (back nx R4)
                          | bk => exact fun σ4 F4 H4 s4 R4 => h' _ F4 H4 (s'.trans s4) (back nx R4)
                          | ct => exact fun σ4 F4 H4 s4 R4 => h' _ F4 H4 (s'.trans s4) (back nx R4)
                          | rt d' u' =>
                            intro v σ4 F4 H4 s4 R4 rr
                            exact h' v _ F4 H4 (s'.trans s4) (back nx R4) rr
                  · subst hb
                    exact h' (.ref A2) dd σ' F' H' s' R' ⟨A2, rfl, mA', pay⟩

/-! ### all together -/
theorem ok_rev (ho : Ok o) (u : UD X c W W0) {a : Expr} {k : Nat} {p1 p2 p3 pos : Pos} : PE X (.Subscript a (.Slice none none (some (.UnaryOp .USub (.Constant (.int 1) k p1) p2)) p3) pos) (tEv (zt X B W0 L T) W (one o c a fun x => val (revD x))) :=
  PE.imp (pe_revL (ho.opn (B := B) (W0 := W0) (L := L) (T := T) a u)) fun σ H Q h => by
    unfold tRevL
    exact t_one (r := fun v H Q => ∃ a xs, v = .ref a ∧ SqL X.K H a xs ∧ ∀ p, H p = none → Q (.ref p) (upd H p (.lst xs.reverse))) (fun F ρ σ H Q v x R px hp => by
      have m := mk_of R hp
      cases x with
      | lst xs =>
        obtain ⟨a, vs, rfl, h1, r1⟩ := px.lst
        exact ⟨a, vs, rfl, SqL.of h1, fun p hp => m.lst R.live r1.reverse hp⟩
      | scr xs =>
        obtain ⟨a, vs, rfl, h1, r1⟩ := px.scr
        exact ⟨a, vs, rfl, h1, fun p hp => m.lst R.live r1.reverse hp⟩
      | _ => exact (mk_none m).elim) h
theorem txts_at {K : PySem.W.Frag} {mg : Str → Option Value} {F : Fz} {H : Hp} : ∀ {ds : List D} {ys : List Str} {vs : List V}, txtsD ds = some ys → Reps K mg F H vs ds → vs = ys.map V.str
  | [], ys, vs, e, r => by cases e; cases r; rfl
  | d :: ds, ys, vs, e, r => by
    cases r with
    | cons r1 r2 =>
      cases d with
      | str x =>
        cases r1
        unfold txtsD at e
        cases e2 : txtsD ds with
        | none => rw [e2] at e; cases e
        | some zs =>
          rw [e2] at e
          cases e
          rw [txts_at e2 r2]; rfl
      | _ => cases e
theorem ok_join (ho : OkS o) (u : UD X c W W0) {a : Str} {e : Expr} {k : Nat} {p1 ap p : Pos} (hs : notStar e = true) (hl : (ap.endLine == p.line) = true) :
    PE X (.Call (.Attribute (.Constant (.str a) k p1) "join" ap) [e] [] p) (tEv (zt X B W0 L T) W (one o c e fun x => val (joinD a x))) :=
  PE.imp (pe_join pe_str (ho.opn (B := B) (W0 := W0) (L := L) (T := T) e u) (star1 hs) (by rfl) hl) fun σ H Q h => by
    refine ⟨⟨a, rfl⟩, t_one (r := fun v H Q => ∃ b p, ∃ ys : List Str, V.str a = .str b ∧ [v] = [V.ref p] ∧ (SqL X.K H p (ys.map V.str) ∨ SqT X.K H p (ys.map V.str)) ∧ (ys.map (·.length)).sum + ys.length * b.length ≤ 16777216 ∧ Q (.str (Txt.join b ys)) H) (fun F ρ σ H Q v x R px hp => ?_) h⟩
    have m := mk_of R hp
    cases x with
    | lst xs =>
      obtain ⟨a', vs, rfl, h1, r1⟩ := px.lst
      unfold joinD at m
      dsimp only at m
      cases e1 : txtsD xs with
      | none => rw [e1] at m; exact (mk_none m).elim
      | some ys =>
        rw [e1] at m
        obtain ⟨hz, m2⟩ := mk_gd m
        rw [txts_at e1 r1] at h1
        exact ⟨a, a', ys, rfl, rfl, .inl (SqL.of h1), of_decide_eq_true hz, m2.rep R.live (.str _)⟩
    | _ => exact (mk_none m).elim
theorem ok_ev2 (ho : OkS o) (u : UD X c W W0) (e : Expr) : PE X e (tEv (zt X B W0 L T) W (ev2 o c e)) := by
  unfold ev2
  split
  · split
    · exact ok_lcH ho.toOk u
    · exact ok_lc ho.toOk u
  · exact ok_lc2 ho.toOk u
  · exact ok_lam ho u
  · split
    · rename_i r h; exact ok_act u h
    · exact ok_ev1 ho.toOk u _
  · split
    · rename_i b h; exact ok_isi u h
    · exact ok_ev1 ho.toOk u _
  · split
    · rename_i i e h; exact ok_fld u h
    · exact pe_stk
  · exact ok_rev ho.toOk u
  · split
    · rename_i hk
      rw [Bool.and_eq_true, Bool.and_eq_true] at hk
      obtain ⟨e1, e2, e3⟩ := hk
      cases of_decide_eq_true e1
      exact ok_join ho u e2 e3
    · exact pe_stk
  · exact ok_ev1 ho.toOk u _
theorem ok_st1 (ho : OkS o) (u : US X c W W0) (s : Stmt) : PS X s (tSs (zt X B W0 L T) W (st1 o c s)) := by
  have ud := u.toUD
  have hotc : ∀ {st : Stmt} {m : M Flow'}, (c.hot = false → PS X st (tSs (zt X B W0 L T) W m)) → PS X st (tSs (zt X B W0 L T) W (cold' c m)) := by
    intro st m h
    unfold cold'
    cases hh : c.hot with
    | true => exact ps_stk
    | false => exact h hh
  unfold st1
  split
  · rename_i e p
    split
    · rename_i h
      refine PS.imp (ps_expr (ho.ev (B := B) (W0 := W0) (L := L) (T := T) e ud) (sw_no h)) fun En σ H ⟨F, ρ, R, h⟩ => ?_
      exact tS_bnd R h fun r ρ1 v F1 H1 s1 R1 rr h1 => h1 σ F1 H1 (.refl _ _) R1
    · exact ps_stk
  · exact PS.imp ps_pass fun En σ H ⟨F, ρ, R, h⟩ => h σ F H (.refl _ _) R
  · exact PS.imp ps_break fun En σ H ⟨F, ρ, R, h⟩ => h σ F H (.refl _ _) R
  · exact PS.imp ps_continue fun En σ H ⟨F, ρ, R, h⟩ => h σ F H (.refl _ _) R
  · exact PS.imp ps_retN fun En σ H ⟨F, ρ, R, h⟩ => h .non σ F H (.refl _ _) R .non
  · exact retS_rd ho.toOk ud
  · exact ok_ifS ho u
  · rename_i tg e p
    unfold asgS
    split
    · rename_i x px
      split
      · split
        · rename_i h; exact asg_lc ho.toOk ud h
        · exact ps_stk
      · split
        · rename_i h; exact asg_any ho.toOk ud h
        · exact ps_stk
    · rename_i x px y py k2 pt
      split
      · rename_i a b k3 p3
        refine hotc fun hh => ?_
        split
        · rename_i h
          rw [Bool.and_eq_true, Bool.or_eq_true] at h
          refine asg_tup ho.toOk ud hh rfl ?_ h.2
          rcases h.1 with h1 | h1
          · exact noSwap_at h1
          · exact cell_no (xs := [x, y]) rfl rfl (by rw [ud.sc]; exact h1)
        · split
          · rename_i hk hi hj; exact asg_par ho.toOk ud hh hk hi hj
          · exact ps_stk
      · refine hotc fun hh => ?_
        split
        · rename_i h; rw [Bool.and_eq_true] at h; exact asg_tup ho.toOk ud hh rfl (noSwap_at h.1) h.2
        · exact ps_stk
    · rename_i x px y py z pz k2 pt
      split
      · rename_i a b d k3 p3
        refine hotc fun hh => ?_
        split
        · rename_i h
          rw [Bool.and_eq_true, Bool.or_eq_true] at h
          refine asg_tup ho.toOk ud hh rfl ?_ h.2
          rcases h.1 with h1 | h1
          · exact noSwap_at h1
          · exact cell_no (xs := [x, y, z]) rfl rfl (by rw [ud.sc]; exact h1)
        · split
          · rename_i hk hi hj hl; exact asg_par3 ho.toOk ud hh hk hi hj hl
          · exact ps_stk
      · refine hotc fun hh => ?_
        split
        · rename_i h; rw [Bool.and_eq_true] at h; exact asg_tup ho.toOk ud hh rfl (noSwap_at h.1) h.2
        · exact ps_stk
    · refine hotc fun hh => ?_
      split
      · rename_i h; rw [Bool.and_eq_true] at h; exact asg_tup ho.toOk ud hh rfl (noSwap_at h.1) h.2
      · exact ps_stk
    · rename_i x px ix p4
      split
      · rename_i hn hc; exact asg_sub ho.toOk ud hn hc
      · exact ps_stk
    · exact ps_stk
  · exact aug_rd ho.toOk ud
  · refine hotc fun hh => ?_
    split
    · rename_i h; exact ok_for ho u hh h
    · exact ps_stk
  · exact hotc fun hh => ok_while ho u hh
  · exact ps_stk
theorem ok_st2 (ho : OkS o) (u : US X c W W0) (s : Stmt) : PS X s (tSs (zt X B W0 L T) W (st2 o c s)) := by
  unfold st2
  split
  · exact ok_raise u.toUD
  · exact ok_raiseV ho u
  · exact ok_tryAs ho u
  · exact ok_st1 ho u _
def stuckOps : Ops where
  ev := fun _ _ => stk
  opn := fun _ _ => stk
  tst := fun _ _ => stk
  args := fun _ _ => stk
  opns := fun _ _ => stk
  argc := fun _ _ _ => stk
  ss := fun _ _ => stk
def next (o : Ops) : Ops where
  ev := ev2 o
  opn := opn1 o
  tst := tst1 o
  args := args1 o
  opns := opns1 o
  argc := argc1 o
  ss := fun c sts => ssL (st2 o c) sts
def opsN : Nat → Ops
  | 0 => stuckOps
  | n + 1 => next (opsN n)
theorem pa_stk {es : List Expr} {Z : Zt} {α : Type} {Rel : Fz → Hp → Evm → L2.St → List V → α → Prop} : PA X es (tM Z W (stk : M α) Rel) := ⟨fun pos pins s σ H Q I h => (t_stk h).elim⟩
end
theorem ok_stuck : OkS stuckOps where
  ev := fun e u => pe_stk
  opn := fun e u => ⟨fun pins s σ H Q I h => (t_stk h).elim⟩
  tst := fun e u => pt_stk
  args := fun es u => pa_stk
  opns := fun es u => pa_stk
  argc := fun bs es u => pa_stk
  ss := fun sts u => ⟨fun pins s σ H En I h => (tS_stk (fun _ => rfl) h).elim⟩
theorem ok_next {o : Ops} (ho : OkS o) : OkS (next o) where
  ev := fun e u => ok_ev2 ho u e
  opn := fun e u => ok_opn u.toUC (ho.ev e u)
  tst := fun e u => ok_tst1 ho.toOk u e
  args := fun es u => ok_args ho.toOk u es
  opns := fun es u => ok_opns ho.toOk u es
  argc := fun bs es u => ok_argc ho.toOk u bs es
  ss := fun sts u => ok_ssL (fun s => ok_st2 ho u s) sts
theorem ok_opsN : ∀ n : Nat, OkS (opsN n)
  | 0 => ok_stuck
  | n + 1 => ok_next (ok_opsN n)
end PV
end

section
set_option maxHeartbeats 2000000
/-! Defs by levels; the law. -/
namespace PV
open PySem PySem.Spec L2
open PyProof.Rows hiding St

/-! ### a def's call -/
def bodyC (g : Gm) (tf : Nat) (call : CallO) (f : FI) : C := { g := g, call := call, N := f.N, sc := f.scope, hot := false, fq := fun _ => true, tf := tf, lm := f.lm, act := none, exn := none }
def argS (d : D × Bool) : Sl := match d.2 with
  | true => .l d.1
  | false => .d d.1
def startE (f : FI) (ds : List (D × Bool)) : Evm := ds.map argS ++ List.replicate (f.N.length - ds.length) .e
def finsL : Nat → List (D × Bool) → Evm → Option (List Sl)
  | _, [], _ => some []
  | k, (_, false) :: ds, ρ => finsL (k + 1) ds ρ
  | k, (_, true) :: ds, ρ => (match ρ[k]? with
    | some (.l x) => (finsL (k + 1) ds ρ).map (.l x :: ·)
    | some (.f x) => (finsL (k + 1) ds ρ).map (.f x :: ·)
    | _ => none)
def endC (ds : List (D × Bool)) (r : Res Flow') : CRes := match r with
  | .ok (.rt d u) ρ => (match finsL 0 ds ρ with
    | some l => .ok d u l
    | none => .stk)
  | .ok .nx ρ => (match finsL 0 ds ρ with
    | some l => .ok .non false l
    | none => .stk)
  | .exc e ρ => (match finsL 0 ds ρ with
    | some l => .exc e l
    | none => .stk)
  | _ => .stk
def callN (g : Gm) (tf : Nat) (o : Ops) : Nat → CallO
  | 0 => fun _ _ => .stk
  | n + 1 => fun x ds => (match g.fn? x with
    | none => .stk
    | some f => (match decide (ds.length = f.ps.length) with
      | false => .stk
      | true => endC ds (o.ss (bodyC g tf (callN g tf o n) f) f.body (startE f ds))))

/-! ### the lent ones -/
def pinsL : Nat → List V → List (D × Bool) → List (Nat × Addr)
  | k, .ref a :: vs, (_, true) :: ds => (k, a) :: pinsL (k + 1) vs ds
  | k, _ :: vs, _ :: ds => pinsL (k + 1) vs ds
  | _, _, _ => []
section
variable {K : PySem.W.Frag} {mg : Str → Option Value} {F F' : Fz} {H H' : Hp}
theorem pinsL_snd : ∀ (k : Nat) (vs : List V) (ds : List (D × Bool)), (pinsL k vs ds).map (·.2) = lentA vs ds
  | k, [], ds => by cases ds <;> simp [pinsL, lentA]
  | k, v :: vs, [] => by cases v <;> simp [pinsL, lentA]
  | k, v :: vs, (d, u) :: ds => by
    have ih := pinsL_snd (k + 1) vs ds
    cases v with
    | ref a =>
      cases u with
      | true => simp only [pinsL, lentA, List.map_cons, ih]
      | false => simpa only [pinsL, lentA] using ih
    | _ => simpa only [pinsL, lentA] using ih
/-- a lent one: its place -/
theorem pinsL_at : ∀ (k : Nat) {vs : List V} {ds : List (D × Bool)}, All2 (HandR K mg F H) vs ds → ∀ p ∈ pinsL k vs ds, ∃ j d, p.1 = k + j ∧ vs[j]? = some (.ref p.2) ∧ ds[j]? = some (d, true) ∧ OwnAt K mg F H p.2 d ∧ ¬ F p.2
  | k, [], [], _, p, hp => by simp [pinsL] at hp
  | k, v :: vs, (d, u) :: ds, h, p, hp => by
    cases h with
    | cons h1 h2 =>
      have tail : p ∈ pinsL (k + 1) vs ds → ∃ j d', p.1 = k + j ∧ (v :: vs)[j]? = some (.ref p.2) ∧ ((d, u) :: ds)[j]? = some (d', true) ∧ OwnAt K mg F H p.2 d' ∧ ¬ F p.2 := fun hp => by
        obtain ⟨j, d', e1, e2, e3, e4, e5⟩ := pinsL_at (k + 1) h2 p hp
        exact ⟨j + 1, d', by omega, by simpa using e2, by simpa using e3, e4, e5⟩
      cases u with
      | true =>
        obtain ⟨a, rfl, ow, nf⟩ := h1
        simp only [pinsL, List.mem_cons] at hp
        rcases hp with rfl | hp
        · exact ⟨0, d, rfl, rfl, rfl, ow, nf⟩
        · exact tail hp
      | false =>
        refine tail ?_
        cases v <;> exact hp
theorem pinsL_mem : ∀ (k : Nat) {vs : List V} {ds : List (D × Bool)} {j : Nat} {a : Addr} {d : D}, vs[j]? = some (.ref a) → ds[j]? = some (d, true) → (k + j, a) ∈ pinsL k vs ds
  | k, [], _, j, a, d, h, _ => by simp at h
  | k, _ :: _, [], j, a, d, _, h => by simp at h
  | k, v :: vs, (d', u) :: ds, 0, a, d, h1, h2 => by
    simp at h1 h2
    obtain ⟨rfl, rfl⟩ := h2
    subst h1
    simp [pinsL]
  | k, v :: vs, (d', u) :: ds, j + 1, a, d, h1, h2 => by
    have := pinsL_mem (k + 1) (vs := vs) (ds := ds) (j := j) (a := a) (d := d) (by simpa using h1) (by simpa using h2)
    have e : k + (j + 1) = k + 1 + j := by omega
    rw [e]
    cases v with
    | ref b =>
      cases u with
      | true => exact List.mem_cons_of_mem _ this
      | false => exact this
    | _ => exact this
theorem fins_ok {ρ' : Evm} {σ' : L2.St} {Z : Zt} (R : Rl Z F' ρ' σ' H') (hW : ∀ a, Z.W0.W a → NT H' a) : ∀ (k : Nat) {vs : List V} {ds : List (D × Bool)} {l : List Sl}, All2 (HandR K mg F H) vs ds → (∀ p ∈ pinsL k vs ds, σ'[p.1]? = some (some (.ref p.2)) ∧ Z.W0.W p.2) → finsL k ds ρ' = some l → All2 (FinR Z.K Z.mg F' H') (lentA vs ds) l
  | k, [], [], l, _, _, e => by cases e; exact .nil
  | k, v :: vs, (d, u) :: ds, l, h, hp, e => by
    cases h with
    | cons h1 h2 =>
      cases u with
      | false =>
        have el : lentA (v :: vs) ((d, false) :: ds) = lentA vs ds := by cases v <;> rfl
        have ep : pinsL k (v :: vs) ((d, false) :: ds) = pinsL (k + 1) vs ds := by cases v <;> rfl
        rw [el]
        rw [ep] at hp
        exact fins_ok R hW (k + 1) h2 hp e
      | true =>
        obtain ⟨a, rfl, ow, nf⟩ := h1
        have hp0 := hp (k, a) (by simp [pinsL])
        have hp' : ∀ p ∈ pinsL (k + 1) vs ds, σ'[p.1]? = some (some (.ref p.2)) ∧ Z.W0.W p.2 := fun p h => hp p (by simp only [pinsL]; exact List.mem_cons_of_mem _ h)
        simp only [finsL] at e
        split at e
        · rename_i x es
          rw [Option.map_eq_some_iff] at e
          obtain ⟨l', e1, rfl⟩ := e
          refine .cons ?_ (fins_ok R hW (k + 1) h2 hp' e1)
          obtain ⟨v', hv, so⟩ := R.slot es
          rw [hp0.1] at hv
          cases hv
          obtain ⟨a', ea, q1, q2, _⟩ := so
          cases ea
          exact ⟨q1, q2⟩
        · rename_i x es
          rw [Option.map_eq_some_iff] at e
          obtain ⟨l', e1, rfl⟩ := e
          refine .cons ?_ (fins_ok R hW (k + 1) h2 hp' e1)
          obtain ⟨v', hv, so⟩ := R.slot es
          rw [hp0.1] at hv
          cases hv
          obtain ⟨w, ew, q1⟩ := so
          cases ew
          exact ⟨q1, hW a hp0.2⟩
        · cases e
end

/-! ### each def keeps the evaluator's promise -/
/-- what the makers of lambdas need -/
def LamFact (K : PySem.W.Frag) (mg : Str → Option Value) (base : Heap) (Tb : List (Addr × Str)) (g : Gm) : Prop := ∀ x f a fd, g.fn? x = some f → f.lm = true → mg x = some (.ref a) → FunD K x x f.params f.body f.scope [] [] a fd →
  ∃ cc P, LamX.TabB base mg cc P ∧ fd.code = .ref cc ∧ (P, x ++ ".<locals>." ++ "<lambda>") ∈ Tb ∧ ∀ p ∈ Tb, p.1 = P → p.2 = x ++ ".<locals>." ++ "<lambda>"
section
variable {P : Program} {w : World} {K : PySem.W.Frag} {mg : Str → Option Value} {base : Heap} {Tb : List (Addr × Str)} {g : Gm} {tf : Nat} {o : Ops}
/-- all defs at a level -/
def CallsG (P : Program) (w : World) (K : PySem.W.Frag) (mg : Str → Option Value) (base : Heap) (Tb : List (Addr × Str)) (g : Gm) (call : CallO) (k : Nat) : Prop := ∀ x f, g.fn? x = some f → ∃ a fd, mg x = some (.ref a) ∧ PySem.W.keepIn K (.ref a) = true ∧ L2.Binds K fd f.ps [] ∧
  FnOk P w K mg base (L2N.CX P w) k a fd f.ps (spU K mg Tb call f)
theorem All2.get {α β : Type} {R : α → β → Prop} : ∀ {as : List α} {bs : List β} {j : Nat} {a : α} {b : β}, All2 R as bs → as[j]? = some a → bs[j]? = some b → R a b
  | [], _, _, _, _, _, h, _ => by simp at h
  | _ :: _, _, 0, _, _, .cons h _, h1, h2 => by simp at h1 h2; subst h1 h2; exact h
  | _ :: _, _, j + 1, _, _, .cons _ h, h1, h2 => All2.get (j := j) h (by simpa using h1) (by simpa using h2)
theorem start_len {N : List Str} {vs : List V} (h : vs.length ≤ N.length) : (L2.start N vs).length = N.length := by
  unfold L2.start
  rw [List.length_append, List.length_map, List.length_replicate]
  omega
theorem start_at {N : List Str} {vs : List V} {j : Nat} {v : V} (h : vs[j]? = some v) : (L2.start N vs)[j]? = some (some v) := by
  have hj : j < vs.length := (List.getElem?_eq_some_iff.mp h).1
  unfold L2.start
  rw [List.getElem?_append_left (by simpa using hj), List.getElem?_map, h] <;> rfl
theorem rl_start {f : FI} {vs : List V} {ds : List (D × Bool)} {F : Fz} {H : Hp} (hN : f.ps.length ≤ f.N.length) (hl : vs.length = f.ps.length) (lv : live F H) (tb : LamX.Tabs Tb H) (hand : All2 (HandR K mg F H) vs ds) (nd : (lentA vs ds).Nodup) :
    Rl ⟨K, mg, H, ⟨fun a => a ∈ lentA vs ds, pinsL 0 vs ds, Tb, [], none, F, H⟩, [], []⟩ F (startE f ds) (L2.start f.N vs) H := by
  have hds : ds.length = vs.length := hand.length.symm
  have es : ∀ (j : Nat) s, (startE f ds)[j]? = some s → s = .e ∨ ∃ d v, s = argS d ∧ ds[j]? = some d ∧ vs[j]? = some v ∧ HandR K mg F H v d := by
    intro j s h
    unfold startE at h
    by_cases hj : j < ds.length
    · rw [List.getElem?_append_left (by simpa using hj), List.getElem?_map] at h
      have e : ds[j]? = some ds[j] := List.getElem?_eq_getElem hj
      rw [e] at h
      cases h
      have hv : vs[j]? = some (vs[j]'(by omega)) := List.getElem?_eq_getElem (by omega)
      exact .inr ⟨ds[j], _, rfl, e, hv, hand.get hv e⟩
    · rw [List.getElem?_append_right (by simpa using hj), List.getElem?_replicate] at h
      split at h
      · cases h; exact .inl rfl
      · cases h
  have own : ∀ (j : Nat) s, (startE f ds)[j]? = some s → s.own = true → ∃ d a, s = .l d ∧ ds[j]? = some (d, true) ∧ vs[j]? = some (.ref a) ∧ OwnAt K mg F H a d ∧ ¬ F a := by
    intro j s h ho
    rcases es j s h with rfl | ⟨⟨d, u⟩, v, rfl, e1, e2, hr⟩
    · cases ho
    · cases u with
      | false => cases ho
      | true =>
        obtain ⟨a, rfl, ow, nf⟩ := hr
        exact ⟨d, a, rfl, e1, e2, ow, nf⟩
  have inW : ∀ {j : Nat} {d : D} {a : Addr}, ds[j]? = some (d, true) → vs[j]? = some (.ref a) → (j, a) ∈ pinsL 0 vs ds ∧ a ∈ lentA vs ds := by
    intro j d a h1 h2
    have := pinsL_mem 0 h2 h1
    rw [Nat.zero_add] at this
    exact ⟨this, by rw [← pinsL_snd 0]; exact List.mem_map_of_mem this⟩
  refine ⟨?_, fun j s v h1 h2 => ?_, fun i j s t a h1 h2 h3 h4 h5 h6 => ?_, fun p hp => ?_, fun a o h _ _ => h, fun a h => h, lv, fun p hp => by simp at hp, ⟨tb, fun p hp => by simp at hp⟩, .refl _ _, rfl, fun a h => .inl h, fun a ha => ?_⟩
  · rw [start_len (by omega)]
    unfold startE
    rw [List.length_append, List.length_map, List.length_replicate]
    omega
  · rcases es j s h1 with rfl | ⟨⟨d, u⟩, v', rfl, e1, e2, hr⟩
    · trivial
    · rw [start_at e2] at h2
      cases h2
      cases u with
      | false => exact ⟨v', rfl, hr⟩
      | true =>
        obtain ⟨a, rfl, ow, nf⟩ := hr
        exact ⟨a, rfl, ow, nf, .inr (inW e1 e2).2⟩
  · obtain ⟨d1, a1, _, e1, e2, _⟩ := own i s h1 h3
    obtain ⟨d2, a2, _, e3, e4, _⟩ := own j t h2 h4
    rw [start_at e2] at h5
    rw [start_at e4] at h6
    cases h5; cases h6
    have m1 := (inW e1 e2).1
    have m2 := (inW e3 e4).1
    rw [← pinsL_snd 0] at nd
    obtain ⟨k1, hk1⟩ := List.getElem?_of_mem m1
    obtain ⟨k2, hk2⟩ := List.getElem?_of_mem m2
    have l1 : k1 < ((pinsL 0 vs ds).map (·.2)).length := by rw [List.length_map]; exact (List.getElem?_eq_some_iff.mp hk1).1
    have l2 : k2 < ((pinsL 0 vs ds).map (·.2)).length := by rw [List.length_map]; exact (List.getElem?_eq_some_iff.mp hk2).1
    have q1 : ((pinsL 0 vs ds).map (·.2))[k1] = a := by
      have : ((pinsL 0 vs ds).map (·.2))[k1]? = some a := by rw [List.getElem?_map, hk1] <;> rfl
      rw [List.getElem?_eq_getElem l1] at this
      exact Option.some.inj this
    have q2 : ((pinsL 0 vs ds).map (·.2))[k2] = a := by
      have : ((pinsL 0 vs ds).map (·.2))[k2]? = some a := by rw [List.getElem?_map, hk2] <;> rfl
      rw [List.getElem?_eq_getElem l2] at this
      exact Option.some.inj this
    have := (List.getElem_inj nd).mp (q1.trans q2.symm)
    subst this
    rw [hk1] at hk2
    cases hk2
    rfl
  · rcases hp with hp | hp
    · simp at hp
    · obtain ⟨j, d, e1, e2, e3, _⟩ := pinsL_at (K := K) (mg := mg) (F := F) (H := H) 0 hand p hp
      rw [Nat.zero_add] at e1
      rw [e1]
      refine ⟨⟨.l d, ?_, rfl⟩, start_at e2⟩
      unfold startE
      rw [List.getElem?_append_left (by rw [List.length_map]; exact (List.getElem?_eq_some_iff.mp e3).1), List.getElem?_map, e3] <;> rfl
  · have ha' : a ∈ lentA vs ds := ha
    rw [← pinsL_snd 0] at ha'
    obtain ⟨p, hp, rfl⟩ := List.mem_map.mp ha'
    obtain ⟨j, d, e1, e2, e3, ow, nf⟩ := pinsL_at (K := K) (mg := mg) (F := F) (H := H) 0 hand p hp
    exact OwnAt.nt (Z := ⟨K, mg, H, ⟨fun _ => False, [], [], [], none, F, H⟩, [], []⟩) ow
theorem fn_level (ho : OkS o) (gl : GOk P K mg g) (lf : LamFact K mg base Tb g) : ∀ (n : Nat) (x : Str) (f : FI) (a : Addr) (fd : FuncData), g.fn? x = some f → mg x = some (.ref a) → FunD K x x f.params f.body f.scope [] [] a fd → FnScope f.N f.ps f.scope →
    FnOk P w K mg base (L2N.CX P w) (3 * n) a fd f.ps (spU K mg Tb (callN g tf o n) f)
  | 0, x, f, a, fd, hf, hm, Fd, S => ⟨fun vs H Q E h => h.1, fun A outer s H args us vs Q E hr e0 hb hv h => by
      obtain ⟨_, F, ds, _, _, _, _, h⟩ := h
      exact h.elim⟩
  | n + 1, x, f, a, fd, hf, hm, Fd, S => by
    obtain ⟨oc, od, dV, kV, doc, pm, an, cdv, ct, osl, efd, lk, hcd, _, _⟩ := Fd.ex
    have calls : CallsG P w K mg base Tb g (callN g tf o n) (3 * n) := fun y fy hy => by
      obtain ⟨ay, fdy, my, Fy, Sy, by_⟩ := gl.dfs y fy hy
      exact ⟨ay, fdy, my, Fy.kp, by_, fn_level ho gl lf n y fy ay fdy hy my Fy Sy⟩
    have hpl : f.ps.length ≤ f.N.length := by have := congrArg List.length S.pre; rw [List.length_take] at this; omega
    have lmf := fun h => lf x f a fd hf h hm Fd
    subst efd
    refine fn_of (k := 3 * n + 2) lk hcd S (fun vs H Q E h => h.1) fun A outer s H vs Q E hr hsp => ?_
    obtain ⟨hl, F, ds, lv, tb, hand, nd, hm'⟩ := hsp
    have R0 := rl_start (f := f) hpl hl lv tb hand nd
    have us : US (cxOf (L2N.CX P w) P w K mg base f.N x f.scope a cdv A outer s H E) (bodyC g tf (callN g tf o n) f) (fun cls d _ H => E cls d H) ⟨fun a => a ∈ lentA vs ds, pinsL 0 vs ds, Tb, [], none, F, H⟩ := by
      refine ⟨⟨⟨rfl, S.nd, rfl, ?_, L2N.takes_of rfl rfl rfl rfl, gl, fun _ => rfl, fun x i h => .inl rfl, fun h => by cases h⟩, fun _ => ⟨3 * n, calls, hr.mono ?_⟩, fun h => ?_, fun i r h => (by cases h), fun i e h => (by cases h)⟩, fun _ => passes_of rfl, fun _ => ⟨rfl, rfl⟩, fun _ _ => hr.mono (by omega)⟩
      · have := hr.un
        show (A.deeper (envOfC x f.scope s.heap.objs.size a cdv)).units + 65 < cLine
        omega
      · show 3 * n + lmN f.lm ≤ 3 * n + 2
        cases f.lm <;> simp [lmN]
      · obtain ⟨cc, P', q1, q2, q3, q4⟩ := lmf h
        exact ⟨cc, P', q1, q2, q3, q4, rfl⟩
    refine ⟨_, ho.ss (X := cxOf (L2N.CX P w) P w K mg base f.N x f.scope a cdv A outer s H E) (B := H) (L := []) (T := []) f.body us, F, _, R0, ?_⟩
    have en : f.name = x := fn_name hf
    have hdl : ds.length = f.ps.length := by rw [← hand.length]; exact hl
    have ec : callN g tf o (n + 1) f.name ds = endC ds (o.ss (bodyC g tf (callN g tf o n) f) f.body (startE f ds)) := by
      show (match g.fn? f.name with
        | none => CRes.stk
        | some f => (match decide (ds.length = f.ps.length) with
          | false => .stk
          | true => endC ds (o.ss (bodyC g tf (callN g tf o n) f) f.body (startE f ds)))) = _
      rw [en, hf]
      dsimp only
      rw [decide_eq_true hdl]
    rw [ec] at hm'
    have fin : ∀ {ρ' : Evm} {σ' : L2.St} {F' : Fz} {H' : Hp} {l : List Sl}, Rl ⟨K, mg, H, ⟨fun a => a ∈ lentA vs ds, pinsL 0 vs ds, Tb, [], none, F, H⟩, [], []⟩ F' ρ' σ' H' → finsL 0 ds ρ' = some l → CEnd Tb F H (lentA vs ds) F' H' ∧ All2 (FinR K mg F' H') (lentA vs ds) l := by
      intro ρ' σ' F' H' l R' e
      refine ⟨⟨R'.stp0, R'.tab.1, fun b ob h hn hnt => R'.old b ob h hn hnt, R'.dom, fun b hb => ?_, R'.live⟩, fins_ok R' R'.wn 0 hand (fun p hp => ⟨(R'.pin p (.inr hp)).2, ?_⟩) e⟩
      · rcases R'.nfz b hb with z | z | z
        · exact .inl z
        · exact .inr (.inl z)
        · exact .inr (.inr z)
      · show p.2 ∈ lentA vs ds
        rw [← pinsL_snd 0]
        exact List.mem_map_of_mem hp
    cases eb : o.ss (bodyC g tf (callN g tf o n) f) f.body (startE f ds) with
    | stk => rw [eb] at hm'; exact hm'.elim
    | exc ex ρ' =>
      rw [eb] at hm'
      cases ef : finsL 0 ds ρ' with
      | none => simp only [endC, ef] at hm'
      | some l =>
        simp only [endC, ef] at hm'
        intro cls dd σ' F' H' _ R' ea
        obtain ⟨ce, fr⟩ := fin R' ef
        exact hm' cls dd F' H' ce fr ea
    | ok fl ρ' =>
      rw [eb] at hm'
      cases fl with
      | bk => exact hm'.elim
      | ct => exact hm'.elim
      | nx =>
        cases ef : finsL 0 ds ρ' with
        | none => simp only [endC, ef] at hm'
        | some l =>
          simp only [endC, ef] at hm'
          intro σ' F' H' _ R'
          obtain ⟨ce, fr⟩ := fin R' ef
          exact hm' .non F' H' ce fr .non
      | rt d u =>
        cases ef : finsL 0 ds ρ' with
        | none => simp only [endC, ef] at hm'
        | some l =>
          simp only [endC, ef] at hm'
          intro v σ' F' H' _ R' rr
          obtain ⟨ce, fr⟩ := fin R' ef
          refine hm' v F' H' ce fr ?_
          cases u with
          | false => exact rr
          | true => exact rr
end
end PV
end

section
set_option maxHeartbeats 2000000
/-! From the head's facts to the law. -/
namespace PV
open PySem PySem.Spec L2
open PyProof.Rows hiding St

/-! ### what is asked of the head -/
def Gm.fn (g : Gm) : List He.DefD := g.funs.map fun f => ⟨(f.name, none), f.name, f.name, f.params, f.body, f.scope, [], []⟩
def conFa : Str × D → He.Fa
  | (x, .int i) => .int x i
  | (x, .str z) => .str x z
  | (x, _) => .glo x
def Gm.fa (g : Gm) : List He.Fa := g.funs.map (fun f => .glo f.name) ++ (g.excs.map (fun e => .glo e.name) ++ ((g.excs.filter (·.fld.isNone)).map (fun e => .exc e.name) ++ (g.cons.map conFa ++ g.free.map .free)))
def Gm.tf (g : Gm) : List He.Defn := (g.funs.filter (·.lm)).map fun f => (f.name, none)
def excB (K : PySem.W.Frag) (e : XI) : Bool :=
  He.eqO (PySem.W.findIn K (.ref (He.ga K e.name)) "__getattribute__") (some (some (.builtin "BaseException.__getattribute__"))) && (He.eqO (PySem.W.findIn K (.ref (He.ga K e.name)) "__getattr__") (some none) &&
    (decide (PySem.W.subIn K (.ref (He.ga K e.name)) (.type "BaseException") = some true) && (PySem.W.hasDictIn K (He.ga K e.name) && (He.eqO (PySem.W.findIn K (.ref (He.ga K e.name)) "__class__") (some (some (.builtin "object.__class__"))) &&
      (He.eqO (PySem.W.specialIn K (.builtin "object.__class__") "__get__") (some (some (.builtin "getset_descriptor.__get__"))) && (decide (PySem.W.takesIn K (.builtin "object.__class__") = some true) && (decide (PySem.W.mroIn K (He.ga K e.name) (.type "object") = some true) &&
        (L2.xfB K (He.ga K e.name) && (match e.fld with
          | none => true
          | some f => He.eqO (PySem.W.findIn K (.ref (He.ga K e.name)) f) (some none))))))))))
def subB (K : PySem.W.Frag) (p : (Str × Str) × Bool) : Bool := match PySem.W.nsIn K mainGlobals p.1.2 with
  | some (some (.ref A)) => decide (PySem.W.kitOne K (.ref (He.ga K p.1.1)) (.ref A) = some p.2) && decide (PySem.W.exmOne K (.ref (He.ga K p.1.1)) (.ref A) = some p.2)
  | some none => (match bootBuiltins p.1.2 with
    | some (.type t) => decide (p.1.2 ≠ "__name__") && decide (PySem.W.kitOne K (.ref (He.ga K p.1.1)) (.type t) = some p.2)
    | _ => false)
  | _ => false
def exiB (P : Program) (g : Gm) (K : PySem.W.Frag) (e : XI) : Bool := match e.fld with
  | some f => initB P K (He.ga K e.name) f && (decide (PySem.W.keepIn K (.ref (He.ga K e.name)) = true) && g.free.contains ("super" : Str))
  | none => true
def exB (P : Program) (g : Gm) (K : PySem.W.Frag) : Bool := (g.excs.all (excB K) && g.excs.all (exiB P g K)) && (g.subs.all (subB K) && decide ((g.tf.map fun p => (He.cT K p).2).Nodup))
/-- how a def binds its parameters -/
def BindP (f : FI) : Prop := ∀ (kV doc pm : Value) (an : Option Addr) (cdv ct : Value) (us : List Value), us.length = f.ps.length → bindArgs (PySem.W.fnOf f.name f.name f.params f.body f.scope .none kV doc pm an cdv ct) ⟨us, []⟩ = pure (f.ps.zip us)
def AllF (P : FI → Prop) : List FI → Prop
  | [] => True
  | f :: r => P f ∧ AllF P r
theorem AllF.at_ {P : FI → Prop} : ∀ {l : List FI} {f : FI}, AllF P l → f ∈ l → P f
  | f :: r, f', h, hm => by
    rcases List.mem_cons.mp hm with e | hm
    · rw [e]; exact h.1
    · exact AllF.at_ h.2 hm
def scopeB (f : FI) : Bool := decide (f.scope.kind = .function) && (!f.scope.isCoroutine && (!f.scope.isGenerator && (decide f.N.Nodup && (decide (f.N.take f.ps.length = f.ps) &&
  ((f.ps.all fun x => decide (f.scope.names.lookup x = some .local) || decide (f.scope.names.lookup x = some .cell)) && (f.scope.names.all fun y => !decide (y.2 = .free)))))))
def staticB (g : Gm) : Bool := (g.funs.all scopeB) && ((g.cons.all fun p => match p.2 with
  | .int _ => true
  | .str _ => true
  | _ => false) && (g.subs.all fun p => (g.excs.any fun e => decide (e.name = p.1.1))))
theorem nodup_map_inj {α β : Type} {f : α → β} : ∀ {l : List α} {a b : α}, (l.map f).Nodup → a ∈ l → b ∈ l → f a = f b → a = b
  | x :: l, a, b, nd, ha, hb, e => by
    have nd' := List.nodup_cons.mp (show (f x :: l.map f).Nodup from nd)
    rcases List.mem_cons.mp ha with ha | ha
    · rcases List.mem_cons.mp hb with hb | hb
      · rw [ha, hb]
      · exact (nd'.1 (by rw [← ha, e]; exact List.mem_map_of_mem hb)).elim
    · rcases List.mem_cons.mp hb with hb | hb
      · exact (nd'.1 (by rw [← hb, ← e]; exact List.mem_map_of_mem ha)).elim
      · exact nodup_map_inj nd'.2 ha hb e
theorem scope_ok {f : FI} (h : scopeB f = true) : FnScope f.N f.ps f.scope := by
  unfold scopeB at h
  simp only [Bool.and_eq_true, Bool.not_eq_true', decide_eq_true_eq, List.all_eq_true, Bool.or_eq_true, decide_eq_false_iff_not] at h
  obtain ⟨h1, h2, h3, h4, h5, h6, h7⟩ := h
  exact ⟨h1, h2, h3, h4, h5, h6, h7⟩
section
variable {w : World} {K : PySem.W.Frag} {h : Heap} {mg : Str → Option Value} {g : Gm}
theorem funs_mem {x : Str} {f : FI} (hf : g.fn? x = some f) : f ∈ g.funs ∧ f.name = x := ⟨List.mem_of_find?_eq_some hf, fn_name hf⟩
theorem excs_mem {x : Str} {e : XI} (hf : g.exc? x = some e) : e ∈ g.excs ∧ e.name = x := by
  unfold Gm.exc? at hf
  exact ⟨List.mem_of_find?_eq_some hf, of_decide_eq_true (List.find?_some (p := fun (f : XI) => decide (f.name = x)) hf)⟩
theorem gok_of {P : Program} (X : K.In h) (G : h.Ns mainGlobals mg) (c : He.SaysX g.fa g.fn [] g.tf (exB P g) w h K) (st : staticB g = true) (bp : AllF BindP g.funs) : GOk P K mg g := by
  have cd := c.t.d
  have fact : ∀ f ∈ g.fa, f.ok K = true := fun f hf => He.SaysD.facts cd hf
  unfold staticB at st
  rw [Bool.and_eq_true, Bool.and_eq_true] at st
  obtain ⟨s1, s2, s3⟩ := st
  have more := c.more
  unfold exB at more
  rw [Bool.and_eq_true, Bool.and_eq_true, Bool.and_eq_true] at more
  obtain ⟨⟨m1, mi⟩, m2, m3⟩ := more
  have gloF : ∀ f ∈ g.funs, mg f.name = some (.ref (He.ga K f.name)) := fun f hf => He.glo_ok X G (fact _ (by unfold Gm.fa; exact List.mem_append_left _ (List.mem_map_of_mem hf)))
  have gloE : ∀ e ∈ g.excs, mg e.name = some (.ref (He.ga K e.name)) := fun e he => He.glo_ok X G (fact _ (by unfold Gm.fa; exact List.mem_append_right _ (List.mem_append_left _ (List.mem_map_of_mem he))))
  have dfs : ∀ x f, g.fn? x = some f → ∃ a fd, mg x = some (.ref a) ∧ FunD K x x f.params f.body f.scope [] [] a fd ∧ FnScope f.N f.ps f.scope ∧ L2.Binds K fd f.ps [] := by
    intro x f hf
    obtain ⟨hm, rfl⟩ := funs_mem hf
    obtain ⟨fd, F⟩ := He.SaysD.defs cd (d := ⟨(f.name, none), f.name, f.name, f.params, f.body, f.scope, [], []⟩) (by unfold Gm.fn; exact List.mem_map_of_mem (f := fun f : FI => (⟨(f.name, none), f.name, f.name, f.params, f.body, f.scope, [], []⟩ : He.DefD)) hm)
    have F' : FunD K f.name f.name f.params f.body f.scope [] [] (He.ga K f.name) fd := F
    have hs := List.all_eq_true.mp s1 f hm
    exact ⟨_, fd, gloF f hm, F', scope_ok hs, F'.bindsN (bp.at_ hm)⟩
  refine ⟨fun x d hd => ?_, fun x f hf => ?_, fun x hx => ?_, dfs, fun x xi hx hf => ?_, fun x z b hb => ?_, fun x xi hx => ?_, fun x xi f hx hf => ?_⟩
  · have hm := lookup_mem hd
    have fk := fact (conFa (x, d)) (by unfold Gm.fa; exact List.mem_append_right _ (List.mem_append_right _ (List.mem_append_right _ (List.mem_append_left _ (List.mem_map_of_mem hm)))))
    have hk := List.all_eq_true.mp s2 _ hm
    cases d with
    | int i =>
      obtain ⟨t, e⟩ := He.int_ok X G fk
      exact ⟨.int i, _, e, ⟨t, rfl⟩, fun _ _ => .int i⟩
    | str y =>
      obtain ⟨t, e⟩ := He.str_ok X G fk
      exact ⟨.str y, _, e, ⟨t, rfl⟩, fun _ _ => .str y⟩
    | _ => cases hk
  · obtain ⟨a, fd, q1, q2, _⟩ := dfs x f hf
    exact ⟨a, q1, q2.kp⟩
  · have hx' : x ∈ g.free := by simpa using hx
    exact He.free_ok X G (fact (.free x) (by unfold Gm.fa; exact List.mem_append_right _ (List.mem_append_right _ (List.mem_append_right _ (List.mem_append_right _ (List.mem_map_of_mem hx'))))))
  · obtain ⟨hm, rfl⟩ := excs_mem hx
    have fk := fact (.exc xi.name) (by
      unfold Gm.fa
      refine List.mem_append_right _ (List.mem_append_right _ (List.mem_append_left _ ?_))
      exact List.mem_map_of_mem (f := fun e : XI => He.Fa.exc e.name) (List.mem_filter.mpr ⟨hm, by rw [hf] <;> rfl⟩))
    obtain ⟨q1, q2, q3, q4⟩ := He.exc_ok fk
    exact ⟨_, gloE xi hm, q1, q2, q3, q4⟩
  · unfold Gm.sub at hb
    cases hp : g.subs.find? (fun p => decide (p.1.1 = x) && decide (p.1.2 = z)) with
    | none => rw [hp] at hb; cases hb
    | some p =>
      rw [hp] at hb
      cases hb
      have hm := List.mem_of_find?_eq_some hp
      have hq := List.find?_some hp
      rw [Bool.and_eq_true] at hq
      have e1 := of_decide_eq_true hq.1
      have e2 := of_decide_eq_true hq.2
      have hb := List.all_eq_true.mp m2 p hm
      have he := List.all_eq_true.mp s3 p hm
      obtain ⟨e, hem, hee⟩ := List.any_eq_true.mp he
      have mx : mg x = some (.ref (He.ga K x)) := by
        rw [← e1, ← of_decide_eq_true hee]
        exact gloE e hem
      unfold subB at hb
      rw [e1, e2] at hb
      refine ⟨_, mx, ?_⟩
      split at hb
      · rename_i A hA
        rw [Bool.and_eq_true] at hb
        exact .inl ⟨A, PySem.W.mg_of X G hA, of_decide_eq_true hb.1, of_decide_eq_true hb.2⟩
      · rename_i hA
        split at hb
        · rename_i t ht
          rw [Bool.and_eq_true] at hb
          exact .inr ⟨PySem.W.mg_none_of X G hA, of_decide_eq_true hb.1, t, ht, of_decide_eq_true hb.2⟩
        · cases hb
      · cases hb
  · obtain ⟨hm, rfl⟩ := excs_mem hx
    have hb := List.all_eq_true.mp m1 xi hm
    unfold excB at hb
    simp only [Bool.and_eq_true] at hb
    obtain ⟨h1, h2, h3, h4, h5, h6, h7, h8, h9, h10⟩ := hb
    refine ⟨_, gloE xi hm, ⟨He.eqO_ok h1, He.eqO_ok h2, of_decide_eq_true h3, h4, He.eqO_ok h5, He.eqO_ok h6, of_decide_eq_true h7, of_decide_eq_true h8⟩, L2.xfB_ok h9, fun f hf => ?_⟩
    rw [hf] at h10
    exact He.eqO_ok h10
  · obtain ⟨hm, rfl⟩ := excs_mem hx
    have hb := List.all_eq_true.mp mi xi hm
    unfold exiB at hb
    rw [hf] at hb
    dsimp only at hb
    rw [Bool.and_eq_true, Bool.and_eq_true] at hb
    obtain ⟨b1, b2, b3⟩ := hb
    obtain ⟨fI, fd, I, B⟩ := initB_ok b1
    have hx' : ("super" : Str) ∈ g.free := by simpa using b3
    exact ⟨_, fI, fd, gloE xi hm, I, B, of_decide_eq_true b2, He.free_ok X G (fact (.free "super") (by unfold Gm.fa; exact List.mem_append_right _ (List.mem_append_right _ (List.mem_append_right _ (List.mem_append_right _ (List.mem_map_of_mem hx'))))))⟩

/-- the tables of the makers of lambdas -/
def Gm.tb (g : Gm) (K : PySem.W.Frag) : List (Addr × Str) := (g.funs.filter (·.lm)).map fun f => ((He.cT K (f.name, none)).2, f.name ++ ".<locals>." ++ "<lambda>")
theorem lam_of {base : Heap} (hB : ∀ p ∈ g.tf.map (He.cT K), LamX.TabB base mg p.1 p.2) {P : Program} (gl : GOk P K mg g) (nd : ((g.tf.map fun p => (He.cT K p).2).Nodup)) (hga : ∀ f ∈ g.funs, mg f.name = some (.ref (He.ga K f.name))) : LamFact K mg base (g.tb K) g := by
  intro x f a fd hf hlm hm F
  obtain ⟨hmem, rfl⟩ := funs_mem hf
  obtain ⟨oc, od, dV, kV, doc, pm, an, cdv, ct, osl, efd, lk, hcd, _, _⟩ := F.ex
  obtain ⟨cc, rfl⟩ := He.codeIn_ref hcd
  have hflt : f ∈ g.funs.filter (·.lm) := List.mem_filter.mpr ⟨hmem, hlm⟩
  have htf : ((f.name, none) : He.Defn) ∈ g.tf := by unfold Gm.tf; exact List.mem_map_of_mem (f := fun f : FI => ((f.name, none) : He.Defn)) hflt
  have ea : a = He.ga K f.name := by
    have := hga f hmem
    rw [hm] at this
    cases this; rfl
  have ec : He.codeOf K (f.name, none) = cc := He.codeOf_eq (p := (f.name, none)) (by
    show K.lookup (He.ga K f.name) = _
    rw [← ea]; exact lk) (by rw [efd] <;> rfl)
  refine ⟨cc, (He.cT K (f.name, none)).2, ?_, by rw [efd] <;> rfl, ?_, fun p hp e => ?_⟩
  · have := hB (He.cT K (f.name, none)) (List.mem_map_of_mem htf)
    have e1 : (He.cT K (f.name, none)).1 = cc := ec
    rw [e1] at this
    exact this
  · unfold Gm.tb
    exact List.mem_map_of_mem (f := fun f : FI => ((He.cT K (f.name, none)).2, f.name ++ ".<locals>." ++ "<lambda>")) hflt
  · unfold Gm.tb at hp
    obtain ⟨f2, hf2, rfl⟩ := List.mem_map.mp hp
    have htf2 : ((f2.name, none) : He.Defn) ∈ g.tf := by unfold Gm.tf; exact List.mem_map_of_mem (f := fun f : FI => ((f.name, none) : He.Defn)) hf2
    have e2 : (He.cT K (f2.name, none)).2 = (He.cT K (f.name, none)).2 := e
    have := nodup_map_inj nd htf2 htf e2
    have hn : f2.name = f.name := congrArg Prod.fst this
    dsimp only
    rw [hn]
/-- THE END: the law's promise from the evaluator's answers -/
theorem law_at {l : PySem.W.OpenLaw} {o : Ops} {tf N n0 : Nat} {x law : Str} {f : FI} (X : K.In h) (G : h.Ns mainGlobals mg) (c : He.SaysX g.fa g.fn [] g.tf (exB l.prog g) w h K) (st : staticB g = true) (bp : AllF BindP g.funs) (ho : OkS o) (hf : g.fn? law = some f) (hps : f.ps = [x]) {fa : Addr} (hfa : mg law = some (.ref fa))
    (heq : ∀ ns : List Int, ns.length ≤ n0 → (∀ z ∈ ns, Builtin.Int.intBits z ≤ 1048576) → callN g tf o N law [(.scr (ns.map .int), false)] = .ok (.bl true) false []) :
    LamX.LawAtS l w K (L2N.CX l.prog w) (3 * N) n0 x mg fa h := by
  have gl := gok_of X G c st bp
  have hga : ∀ f ∈ g.funs, mg f.name = some (.ref (He.ga K f.name)) := fun f hf => He.glo_ok X G (He.SaysD.facts c.t.d (by unfold Gm.fa; exact List.mem_append_left _ (List.mem_map_of_mem hf)))
  have more := c.more
  unfold exB at more
  have more := (Bool.and_eq_true_iff.mp more).2
  rw [Bool.and_eq_true] at more
  have nd := of_decide_eq_true more.2
  obtain ⟨a, fd, hm, F, S, B⟩ := gl.dfs law f hf
  have ea : a = fa := by rw [hm] at hfa; cases hfa; rfl
  subst ea
  have mem : f ∈ g.funs := (funs_mem hf).1
  have en : f.name = law := fn_name hf
  have tabs : ∀ p ∈ g.tf.map (He.cT K), ∃ d ∈ g.tf, p = He.cT K d := fun p hp => by
    obtain ⟨d, hd, e⟩ := List.mem_map.mp hp
    exact ⟨d, hd, e.symm⟩
  refine ⟨fd, g.tf.map (He.cT K), spU K mg (g.tb K) (callN g tf o N) f, fun p hp => ?_, fun p hp => ?_, fun p hp => ?_, fun s u => ?_, fun H a ns hl hb hT hS => ?_, fun base KB GB hB => ?_⟩
  · obtain ⟨d, hd, rfl⟩ := tabs p hp; exact c.empty d hd
  · obtain ⟨d, hd, rfl⟩ := tabs p hp; exact c.out d hd
  · obtain ⟨d, hd, rfl⟩ := tabs p hp; exact PySem.W.codeHd_of_K X (c.hd d hd)
  · have F' : FunD K f.name f.name f.params f.body f.scope [] [] a fd := by rw [en]; exact F
    have := F'.bindsA (bp.at_ mem) s [u] (by rw [hps] <;> rfl)
    rw [hps] at this
    exact this
  · have e0 := heq ns hl hb
    have nt : ∀ xs : List V, ∃ F : Fz, live F H ∧ (SqL K H a xs → ScrF K F H a xs) := by
      intro xs
      by_cases hn : NT H a
      · exact ⟨fun b => b = a, fun b e => by rw [e]; exact hn, fun q => ⟨q, .inl rfl⟩⟩
      · refine ⟨fun _ => False, fun b e => e.elim, fun q => ⟨q, .inr fun H' => ?_⟩⟩
        rcases q with (q | ⟨o, q⟩) | q
        · exact (hn ⟨_, q, fun ps z => nomatch z⟩).elim
        · exact (hn ⟨_, q, fun ps z => nomatch z⟩).elim
        · exact .inr q
    obtain ⟨F0, lv, hsc⟩ := nt (ns.map V.int)
    have rp : Reps K mg F0 H (ns.map V.int) (ns.map D.int) := by
      clear hl hb hS e0 hsc
      induction ns with
      | nil => exact .nil
      | cons i r ih => exact .cons (.int i) ih
    refine ⟨by rw [hps] <;> rfl, F0, [(.scr (ns.map .int), false)], lv, fun p hp => ?_, .cons (Rep.scr (hsc hS) rp) .nil, List.nodup_nil, ?_⟩
    · unfold Gm.tb at hp
      obtain ⟨f2, hf2, rfl⟩ := List.mem_map.mp hp
      refine LamX.TabS.nil (hT (He.cT K (f2.name, none)) ?_)
      refine List.mem_map_of_mem ?_
      unfold Gm.tf
      exact List.mem_map_of_mem (f := fun f : FI => ((f.name, none) : He.Defn)) hf2
    · rw [en, e0]
      intro v F' H' _ _ rr
      cases (show Rep K mg F' H' v (.bl true) from rr)
      rfl
  · have := fn_level (P := l.prog) (w := w) (base := base) (tf := tf) ho gl (lam_of hB gl nd hga) N law f a fd hf hm F S
    rw [← hps]
    exact this
end

/-! ### the hook: what the names reach, and the table of the interpreter's own statics -/
def asY (g : Addr → Option Obj) (n : Nat) : List Addr := He.asD g n ++ [cStatics]
theorem saysY_of {fa : List He.Fa} {fn : List He.DefD} {ts : List He.Tab} {tf : List He.Defn} {ex : PySem.W.Frag → Bool} {w : World} {h : Heap} {as : List Addr}
    (e : ((He.obsT fa fn ts (He.frT h.get? as), ex (He.frT h.get? as) && He.tabsB h.get? tf (He.frT h.get? as)) : He.AlX) = He.valX fn ts w) : He.SaysX fa fn ts tf ex w h (He.frT h.get? as) := by
  have e1 : He.obsT fa fn ts (He.frT h.get? as) = He.valT fn ts w := congrArg (fun z : He.AlX => z.1) e
  have e2 : (ex (He.frT h.get? as) && He.tabsB h.get? tf (He.frT h.get? as)) = true := congrArg (fun z : He.AlX => z.2) e
  obtain ⟨h1, h2⟩ := Bool.and_eq_true_iff.mp e2
  have key : ∀ p ∈ tf, PySem.W.codeHdIn (He.frT h.get? as) (He.cT (He.frT h.get? as) p).1 (He.cT (He.frT h.get? as) p).2 = true ∧ ∃ o, h.get? (He.cT (He.frT h.get? as) p).2 = some o ∧ He.emptyTab o = true := fun p hp => by
    obtain ⟨h3, h4⟩ := Bool.and_eq_true_iff.mp (List.all_eq_true.mp h2 p hp)
    refine ⟨h3, ?_⟩
    cases q : h.get? (He.cT (He.frT h.get? as) p).2 with
    | none =>
      rw [q] at h4
      cases h4
    | some o =>
      rw [q] at h4
      exact ⟨o, rfl, h4⟩
  exact ⟨e1, h1, fun p hp => (key p hp).1, fun p hp => by
    obtain ⟨_, o, q, z⟩ := key p hp
    exact He.frT_none q z, fun p hp => by
    obtain ⟨_, o, q, z⟩ := key p hp
    rw [q, He.emptyTab_eq z]⟩
def obsY (n : Nat) (fa : List He.Fa) (fn : List He.DefD) (ts : List He.Tab) (tf : List He.Defn) (ex : PySem.W.Frag → Bool) (g : Addr → Option Obj) : He.AlX :=
  (He.obsT fa fn ts (He.frT g (asY g n)), ex (He.frT g (asY g n)) && He.tabsB g tf (He.frT g (asY g n)))
def hookY (n : Nat) (fa : List He.Fa) (fn : List He.DefD) (ts : List He.Tab) (tf : List He.Defn) (ex : PySem.W.Frag → Bool) : PySem.W.Hook where
  α := He.AlX
  obs := fun s => obsY n fa fn ts tf ex s.heap.get?
  val := fun w => He.valX fn ts w
  says := fun w h => ∃ K : PySem.W.Frag, K.In h ∧ He.SaysX fa fn ts tf ex w h K
  of := fun _ _ e => ⟨_, He.frT_in, saysY_of e⟩
  keeps := fun _ _ _ ⟨K, hK, c⟩ k => ⟨K, PySem.W.Frag.In.keeps hK k, ⟨c.t, c.more, c.hd, c.out, fun p hp => k _ _ (c.empty p hp)⟩⟩
theorem obsY_eq {n : Nat} {fa : List He.Fa} {fn : List He.DefD} {ts : List He.Tab} {tf : List He.Defn} {ex : PySem.W.Frag → Bool} {g : Addr → Option Obj} {s : Shared} (h : ∀ a, g a = s.heap.get? a) : obsY n fa fn ts tf ex g = (hookY n fa fn ts tf ex).obs s := by
  have e : g = s.heap.get? := funext h
  rw [e] <;> rfl
end PV
end

section
set_option maxHeartbeats 2000000
/-! Mirrors: the evaluator's code over numeric slots, no syntax. -/
namespace PV
open PySem PySem.Spec L2
open PyProof.Rows hiding St

/-! ### expressions -/
def kVar (i : Nat) : M (D × Bool) := bnd (rd i) fun d => pure (d, false)
def kC (d : D) : M (D × Bool) := pure (d, false)
def oVar (i : Nat) : M Op := fun ρ => match (match ρ[i]? with
    | some (.o _) => some i
    | some (.l _) => some i
    | _ => none) with
  | some i => .ok (.pl i) ρ
  | none => bnd (kVar i) (fun r => pure (.vl r.1)) ρ
def oE (m : M (D × Bool)) : M Op := bnd m fun r => pure (.vl r.1)
def kTwo {β : Type} (a b : M Op) (f : D → D → M β) : M β := bnd a fun p => bnd b fun q => fin2 p q f
def kOne {β : Type} (a : M Op) (f : D → M β) : M β := bnd a fun p => fin1 p f
def kBin (op : Operator) (a b : M Op) : M (D × Bool) := kTwo a b fun x y => val (binD op x y)
def kCmp (op : CmpOp) (a b : M Op) : M (D × Bool) := kTwo a b fun x y => val ((cmpD op x y).map fun k => (.bl k, false))
def kCmpT (op : CmpOp) (a b : M Op) : M Bool := kTwo a b fun x y => lft (cmpD op x y)
def kIx (a b : M Op) : M (D × Bool) := kTwo a b fun x y => val ((indexD x y).map fun z => (z, false))
def kNeg (a : M Op) : M (D × Bool) := kOne a fun x => val ((negD x).map fun y => (y, false))
def kNotV (a : M Op) : M (D × Bool) := kOne a fun x => val ((truD x).map fun k => (.bl (!k), false))
def kTru (a : M Op) : M Bool := kOne a fun x => lft (truD x)
def kRev (a : M Op) : M (D × Bool) := kOne a fun x => val (revD x)
def kAnd (a b : M (D × Bool)) : M (D × Bool) := bnd a fun x => bnd (lft (truD x.1)) fun k => match k with
  | true => b
  | false => pure (x.1, false)
def kOr (a b : M (D × Bool)) : M (D × Bool) := bnd a fun x => bnd (lft (truD x.1)) fun k => match k with
  | true => pure (x.1, false)
  | false => b
def kAndT (a b : M Bool) : M Bool := bnd a fun k => match k with
  | true => b
  | false => pure false
def kOrT (a b : M Bool) : M Bool := bnd a fun k => match k with
  | true => pure true
  | false => b
def kNotT (a : M Bool) : M Bool := bnd a fun k => pure (!k)
def kIf (t : M Bool) (a b : M (D × Bool)) : M (D × Bool) := bnd t fun k => match k with
  | true => a
  | false => b
def aNil : M (List D) := pure []
def aCons (e : M (D × Bool)) (r : M (List D)) : M (List D) := bnd e fun x => bnd r fun xs => pure (x.1 :: xs)
def oNil : M (List Op) := pure []
def oCons (p : M Op) (r : M (List Op)) : M (List Op) := bnd p fun p => bnd r fun ps => pure (p :: ps)
def kTup (a : M (List D)) : M (D × Bool) := bnd a fun xs => val (gd (lineOk xs.length) (.tup xs, false))
def kLst (a : M (List D)) : M (D × Bool) := bnd a fun xs => val (gd (lineOk xs.length) (.lst xs, true))
def kCallD (call : CallO) (x : Str) (n : Nat) (ps : List Op) : M (D × Bool) := fun ρ => match decide ((lns ps).Nodup) && decide (ps.length = n), gath ρ ps with
  | true, some as => (match call x as with
    | .ok d u fin => .ok (d, u) (backs ρ (lns ps) fin)
    | .exc e fin => .exc e (backs ρ (lns ps) fin)
    | .stk => .stk)
  | _, _ => .stk
def kCall (call : CallO) (x : Str) (n : Nat) (a : M (List Op)) : M (D × Bool) := bnd a fun ps => kCallD call x n ps
def kBi (b : Bi) (a : M (List Op)) : M (D × Bool) := bnd a fun ps => finL ps fun xs => val (biCall b xs)
def kPush (i : Nat) (e : M (D × Bool)) : M (D × Bool) := fun ρ => match ownL ρ i with
  | false => .stk
  | true => bnd (aCons e aNil) (fun xs => mutIn i "append" xs) ρ
def kPop (i : Nat) : M (D × Bool) := fun ρ => match ownL ρ i with
  | false => .stk
  | true => mutIn i "pop" [] ρ
def sNo : M (Option Int) := pure none
def sE (m : M (D × Bool)) : M (Option Int) := bnd m fun r => (match r.1 with
  | .int i => pure (some i)
  | _ => stk)
def kSlice (a : M Op) (lo hi : M (Option Int)) : M (D × Bool) := bnd a fun p => bnd lo fun l => bnd hi fun h => fin1 p fun x => val (sliceD x l h)
def kChain (op op' : CmpOp) (a b d : M Op) : M Bool := bnd a fun p => bnd b fun q => bnd (fin2 p q fun x y => lft (cmpD op x y)) fun k => (match k with
  | true => bnd d fun r => fin2 q r fun y z => lft (cmpD op' y z)
  | false => pure false)
def kChainV (op op' : CmpOp) (a b d : M Op) : M (D × Bool) := bnd (kChain op op' a b d) fun k => pure (.bl k, false)

/-! ### what is walked -/
def wLi (a : M Op) : M Src := bnd a srcLi
def wRg1 (a : M (List D)) : M Src := bnd a fun xs => (match xs with
  | [.int j] => (match okRg j with
    | true => pure (.rg 0 1 j.toNat)
    | false => stk)
  | _ => stk)
def wRg2 (a : M (List D)) : M Src := bnd a fun xs => (match xs with
  | [.int i, .int j] => (match okRg i && okRg j with
    | true => pure (.rg i 1 (j - i).toNat)
    | false => stk)
  | _ => stk)
def wRg3 (a : M (List D)) : M Src := bnd a fun xs => (match xs with
  | [.int i, .int j, .int k] => (match decide (k ≠ 0) && (decide (k.natAbs < 1073741824) && Builtin.Range.small i j k) with
    | true => pure (.rg i k (Builtin.Range.rangeSize i j k).toNat)
    | false => stk)
  | _ => stk)
def wZp (a : M (List Op)) : M Src := bnd a fun ps => (match ps with
  | [p, q] => srcZp p q
  | _ => stk)
def wEn (a : M (List Op)) : M Src := bnd a fun ps => (match ps with
  | [p] => srcEn p
  | _ => stk)
def wRv (a : M Op) : M Src := bnd a srcRv
def wRR1 (a : M (D × Bool)) : M Src := bnd (bnd a fun r => match r.1 with
      | .int j => (match okRg j with
        | true => (pure ((0 : Int), j) : M (Int × Int))
        | false => stk)
      | _ => stk) fun r => (match okRg r.1 && okRg r.2 with
            | true => pure (.rg (r.1 + (((r.2 - r.1).toNat : Nat) : Int) - 1) (-1) (r.2 - r.1).toNat)
            | false => stk)
def bN (i : Nat) : D → M Unit := fun d => st i d false
def bL : List (D → M Unit) → List D → M Unit
  | [] => bindZ
  | f :: fs => bindC f (bL fs)
def bT (fs : List (D → M Unit)) : D → M Unit := bindX (bL fs)
def tYes' : M Bool := pure true
def kStep (b : D → M Unit) (t : M Bool) (e : M (D × Bool)) (acc : List D) (d : D) : M (List D) := bnd (b d) fun _ => bnd t fun k => match k with
  | true => bnd e fun r => addA acc r.1
  | false => pure acc
/-- a turn of a comprehension with a second clause -/
def kStep2 (tf : Nat) (b : D → M Unit) (t : M Bool) (s1 : M Src) (vs1 : List Nat) (st1 : List D → D → M (List D)) (acc : List D) (d : D) : M (List D) := bnd (b d) fun _ => bnd t fun k => match k with
  | true => bnd s1 fun s => walkAt tf s vs1 st1 acc
  | false => pure acc
def kLc (tf : Nat) (s : M Src) (vs : List Nat) (step : List D → D → M (List D)) : M (D × Bool) := bnd s fun s => bnd (walkAt tf s vs step []) fun acc => pure (.lst acc, true)

/-! ### statements -/
def sq (m k : M Flow') : M Flow' := bnd m fun fl => match fl with
  | .nx => k
  | .bk => pure .bk
  | .ct => pure .ct
  | .rt d u => pure (.rt d u)
def sNil : M Flow' := pure .nx
def kBk : M Flow' := pure .bk
def kCt : M Flow' := pure .ct
def kEx (e : M (D × Bool)) : M Flow' := bnd e fun _ => pure .nx
def kRet (e : M (D × Bool)) : M Flow' := bnd e fun r => pure (.rt r.1 r.2)
def kRetV (i : Nat) : M Flow' := fun ρ => match ρ[i]? with
  | some (.o d) => .ok (.rt d true) ρ
  | _ => bnd (kVar i) (fun r => pure (.rt r.1 r.2)) ρ
def kRetN : M Flow' := pure (.rt .non false)
def kIfS (t : M Bool) (a b : M Flow') : M Flow' := bnd t fun k => match k with
  | true => a
  | false => b
def kSet (i : Nat) (m : M (D × Bool)) : M Flow' := bnd m fun r => bnd (st i r.1 r.2) fun _ => pure .nx
def kPar (i j : Nat) (a b : M (D × Bool)) : M Flow' := bnd a fun r1 => bnd b fun r2 => bnd (st i r1.1 r1.2) fun _ => bnd (st j r2.1 r2.2) fun _ => pure .nx
def kPar3 (i j l : Nat) (a : M (List D)) : M Flow' := bnd a fun xs => (match xs with
  | [u, v, w] => bnd (st i u false) fun _ => bnd (st j v false) fun _ => bnd (st l w false) fun _ => pure .nx
  | _ => stk)
def kTupS (b : D → M Unit) (m : M (D × Bool)) : M Flow' := bnd m fun r => bnd (b r.1) fun _ => pure .nx
def kSub (i : Nat) (ix m : M (D × Bool)) : M Flow' := bnd m fun r => fun ρ => (match ownL ρ i with
  | true => bnd ix (fun k => bnd (setIn i k.1 r.1) fun _ => pure Flow'.nx) ρ
  | false => .stk)
def kAug (i : Nat) (op : Operator) (m : M (D × Bool)) : M Flow' := fun ρ => (match look ρ i with
  | some x => (match isImm x with
    | true => bnd m (fun r => bnd (lft (augD op x r.1)) fun z => bnd (st i z false) fun _ => pure .nx) ρ
    | false => .stk)
  | none => .stk)
def kFor (tf : Nat) (s : M Src) (b : D → M Unit) (body : M Flow') : M Flow' := bnd s fun s => forAt tf s b body
def kWhile (tf : Nat) (t : M Bool) (body : M Flow') : M Flow' := whileW t body tf
def kRaise (x : Str) : M Flow' := fun ρ => .exc ⟨x, none⟩ ρ
def kRaiseV (x f : Str) (m : M (D × Bool)) : M Flow' := bnd m fun r ρ => .exc ⟨x, some (f, r.1)⟩ ρ
def kTry (c : C) (x : Str) (suite : EV → M Flow') (body : M Flow') : M Flow' := fun ρ => catchW c x suite (body ρ)
/-- a lambda handed to a def -/
def kLam (caps : List Nat) (callee : CRes → CRes) (body : M (D × Bool)) : M (D × Bool) := bnd (frzAll caps) fun _ => fun ρ =>
  actR (callee (match body (lamRho caps ρ) with
    | .ok v _ => .ok v.1 v.2 []
    | .exc e _ => .exc e []
    | .stk => .stk)) ρ
end PV
end

section
set_option maxHeartbeats 2000000
/-! Running mirrors by simp; loops over a fixed list. -/
namespace PV
open PySem PySem.Spec L2
open PyProof.Rows hiding St

/-! ### data -/
@[simp] theorem d_add (i j : Int) : binD .Add (.int i) (.int j) = some (.int (i + j), false) := rfl
@[simp] theorem d_sub (i j : Int) : binD .Sub (.int i) (.int j) = some (.int (i - j), false) := rfl
@[simp] theorem d_mul (i j : Int) : binD .Mult (.int i) (.int j) = gd (mulOk i j) (.int (i * j), false) := rfl
@[simp] theorem d_fdiv (i j : Int) : binD .FloorDiv (.int i) (.int j) = gd (divOk j) (.int (i / j), false) := rfl
@[simp] theorem d_mod (i j : Int) : binD .Mod (.int i) (.int j) = gd (decide (0 < j)) (.int (i % j), false) := rfl
@[simp] theorem d_addl (xs ys : List D) : binD .Add (.lst xs) (.lst ys) = gd (lineOk (xs.length + ys.length)) (.lst (xs ++ ys), true) := rfl
@[simp] theorem d_addt (xs ys : List D) : binD .Add (.tup xs) (.tup ys) = gd (lineOk (xs.length + ys.length)) (.tup (xs ++ ys), false) := rfl
@[simp] theorem d_lt (i j : Int) : cmpD .Lt (.int i) (.int j) = some (decide (i < j)) := rfl
@[simp] theorem d_le (i j : Int) : cmpD .LtE (.int i) (.int j) = some (decide (i ≤ j)) := rfl
@[simp] theorem d_gt (i j : Int) : cmpD .Gt (.int i) (.int j) = some (decide (j < i)) := rfl
@[simp] theorem d_ge (i j : Int) : cmpD .GtE (.int i) (.int j) = some (decide (j ≤ i)) := rfl
@[simp] theorem d_eq (x y : D) : cmpD .Eq x y = eqD x y := rfl
@[simp] theorem d_ne (x y : D) : cmpD .NotEq x y = (eqD x y).map (!·) := rfl
@[simp] theorem d_trb (b : Bool) : truD (.bl b) = some b := rfl
@[simp] theorem d_tri (i : Int) : truD (.int i) = some (i != 0) := rfl
@[simp] theorem d_trn : truD .non = some false := rfl
@[simp] theorem d_trt (xs : List D) : truD (.tup xs) = some (!xs.isEmpty) := rfl
@[simp] theorem d_trl (xs : List D) : truD (.lst xs) = some (!xs.isEmpty) := rfl
@[simp] theorem d_neg (i : Int) : negD (.int i) = some (.int (-i)) := rfl
@[simp] theorem d_ixt (xs : List D) (i : Int) : indexD (.tup xs) (.int i) = atI xs i := rfl
@[simp] theorem d_ixl (xs : List D) (i : Int) : indexD (.lst xs) (.int i) = atI xs i := rfl
@[simp] theorem d_isi (i : Int) : biCall (.fn "isinstance") [.int i, .ty "int"] = some (.bl true, false) := by kernel_rfl
@[simp] theorem d_isib (i : Int) : biCall (.fn "isinstance") [.int i, .ty "bool"] = some (.bl false, false) := by kernel_rfl
@[simp] theorem d_isit (i : Int) : biCall (.fn "isinstance") [.int i, .ty "tuple"] = some (.bl false, false) := by kernel_rfl
@[simp] theorem d_isil (i : Int) : biCall (.fn "isinstance") [.int i, .ty "list"] = some (.bl false, false) := by kernel_rfl
@[simp] theorem d_istb (xs : List D) : biCall (.fn "isinstance") [.tup xs, .ty "bool"] = some (.bl false, false) := by kernel_rfl
@[simp] theorem d_istt (xs : List D) : biCall (.fn "isinstance") [.tup xs, .ty "tuple"] = some (.bl true, false) := by kernel_rfl
@[simp] theorem d_islb (xs : List D) : biCall (.fn "isinstance") [.lst xs, .ty "bool"] = some (.bl false, false) := by kernel_rfl
@[simp] theorem d_islt (xs : List D) : biCall (.fn "isinstance") [.lst xs, .ty "tuple"] = some (.bl false, false) := by kernel_rfl
@[simp] theorem d_isll (xs : List D) : biCall (.fn "isinstance") [.lst xs, .ty "list"] = some (.bl true, false) := by kernel_rfl
@[simp] theorem d_lent (xs : List D) : biCall (.fn "len") [.tup xs] = some (.int xs.length, false) := by kernel_rfl
@[simp] theorem d_lenl (xs : List D) : biCall (.fn "len") [.lst xs] = some (.int xs.length, false) := by kernel_rfl
@[simp] theorem d_abs (i : Int) : biCall (.fn "abs") [.int i] = some (.int (if i < 0 then -i else i), false) := by kernel_rfl
@[simp] theorem d_all (xs : List D) : biCall (.fn "all") [.lst xs] = (blsD xs).map fun bs => (.bl (bs.all id), false) := by kernel_rfl
@[simp] theorem d_any (xs : List D) : biCall (.fn "any") [.lst xs] = (blsD xs).map fun bs => (.bl (bs.any id), false) := by kernel_rfl
@[simp] theorem d_int (i : Int) : biCall (.ty "int") [.int i] = some (.int i, false) := by kernel_rfl
@[simp] theorem d_tuplel (xs : List D) : biCall (.ty "tuple") [.lst xs] = some (.tup xs, false) := by kernel_rfl
@[simp] theorem d_tuplet (xs : List D) : biCall (.ty "tuple") [.tup xs] = some (.tup xs, false) := by kernel_rfl
@[simp] theorem d_listt (xs : List D) : biCall (.ty "list") [.tup xs] = some (.lst xs, true) := by kernel_rfl
@[simp] theorem d_listl (xs : List D) : biCall (.ty "list") [.lst xs] = some (.lst xs, true) := by kernel_rfl
@[simp] theorem d_lists (xs : List D) : biCall (.ty "list") [.scr xs] = some (.lst xs, true) := by kernel_rfl

end PV
end

section
set_option maxHeartbeats 2000000
/-! Loops over a fixed list. -/
namespace PV
open PySem PySem.Spec L2
open PyProof.Rows hiding St

def forL (bd : D → M Unit) (body : M Flow') : List D → M Flow'
  | [] => fun ρ => .ok .nx ρ
  | x :: xs => fun ρ => match bd x ρ with
    | .ok _ ρ1 => (match body ρ1 with
      | .ok .nx ρ2 => forL bd body xs ρ2
      | .ok .ct ρ2 => forL bd body xs ρ2
      | .ok .bk ρ2 => .ok .nx ρ2
      | .ok (.rt d u) ρ2 => .ok (.rt d u) ρ2
      | .exc e ρ2 => .exc e ρ2
      | .stk => .stk)
    | _ => .stk
/-- what it walks does not hang on the names -/
structure Fixed (s : Src) (xs : List D) : Prop where
  at' : ∀ (ρ : Evm) (i : Nat), srcAt ρ s i = some xs[i]?
  pl : s.pl = []
  n : ∀ ρ, xs.length ≤ srcN ρ s
theorem forW_L {s : Src} {xs : List D} (h : Fixed s xs) {bd : D → M Unit} {body : M Flow'} : ∀ (k i : Nat) (ρ : Evm), i ≤ xs.length → xs.length < k + i → forW s bd body k i ρ = forL bd body (xs.drop i) ρ
  | 0, i, ρ, hi, hk => by omega
  | k + 1, i, ρ, hi, hk => by
    unfold forW
    rw [h.at']
    cases hx : xs[i]? with
    | none =>
      rw [List.drop_eq_nil_of_le (List.getElem?_eq_none_iff.mp hx)]
      rfl
    | some d =>
      obtain ⟨hi, rfl⟩ := List.getElem?_eq_some_iff.mp hx
      rw [List.drop_eq_getElem_cons hi]
      have ih := fun ρ => forW_L h (bd := bd) (body := body) k (i + 1) ρ (by omega) (by omega)
      unfold forL
      simp only [ih] <;> rfl
theorem forAt_L {s : Src} {xs : List D} (h : Fixed s xs) {bd : D → M Unit} {body : M Flow'} {tf : Nat} (ht : 0 < tf) (ρ : Evm) : forAt tf s bd body ρ = forL bd body xs ρ := by
  unfold forAt
  rw [h.pl, show allOwn ρ [] = true from rfl]
  dsimp only [pinAll, unpin]
  rw [forW_L h (srcN ρ s + tf) 0 ρ (Nat.zero_le _) (by have := h.n ρ; omega), List.drop_zero]
  cases forL bd body xs ρ <;> rfl

def walkL (vs : List Nat) (step : List D → D → M (List D)) : List D → List D → M (List D)
  | [], acc => fun ρ => .ok acc ρ
  | x :: xs, acc => fun ρ => match step acc x ρ with
    | .ok acc' ρ' => (match wipeOk ρ' vs with
      | true => walkL vs step xs acc' (wipeD ρ' vs)
      | false => .stk)
    | _ => .stk
theorem walk_L {s : Src} {xs : List D} (h : Fixed s xs) {vs : List Nat} {step : List D → D → M (List D)} : ∀ (k i : Nat) (acc : List D) (ρ : Evm), i ≤ xs.length → xs.length < k + i → walk s vs step k i acc ρ = walkL vs step (xs.drop i) acc ρ
  | 0, i, acc, ρ, hi, hk => by omega
  | k + 1, i, acc, ρ, hi, hk => by
    unfold walk
    rw [h.at']
    cases hx : xs[i]? with
    | none =>
      rw [List.drop_eq_nil_of_le (List.getElem?_eq_none_iff.mp hx)]
      rfl
    | some d =>
      obtain ⟨hi, rfl⟩ := List.getElem?_eq_some_iff.mp hx
      rw [List.drop_eq_getElem_cons hi]
      have ih := fun acc ρ => walk_L h (vs := vs) (step := step) k (i + 1) acc ρ (by omega) (by omega)
      unfold walkL
      simp only [ih] <;> rfl
theorem walkAt_LA {s : Src} {xs : List D} (h : Fixed s xs) {vs : List Nat} {step : List D → D → M (List D)} {tf : Nat} (ht : 0 < tf) (acc : List D) (ρ : Evm) (hw : wipeOk ρ vs = true) : walkAt tf s vs step acc ρ = (match walkL vs step xs acc (wipeD ρ vs) with
    | .ok acc' ρ' => .ok acc' (rest ρ ρ' vs)
    | _ => .stk) := by
  unfold walkAt
  rw [h.pl, show allOwn ρ [] = true from rfl, hw]
  dsimp only [pinAll, unpin, Bool.true_and]
  rw [walk_L h (srcN ρ s + tf) 0 acc _ (Nat.zero_le _) (by have := h.n ρ; omega), List.drop_zero]
  rfl
theorem walkAt_L {s : Src} {xs : List D} (h : Fixed s xs) {vs : List Nat} {step : List D → D → M (List D)} {tf : Nat} (ht : 0 < tf) (ρ : Evm) (hw : wipeOk ρ vs = true) : walkAt tf s vs step [] ρ = (match walkL vs step xs [] (wipeD ρ vs) with
    | .ok acc' ρ' => .ok acc' (rest ρ ρ' vs)
    | _ => .stk) := walkAt_LA h ht [] ρ hw

/-! ### the sources -/
theorem fx_tup (xs : List D) : Fixed (.li (.vl (.tup xs))) xs := ⟨fun _ _ => rfl, rfl, fun _ => Nat.le_refl _⟩
theorem fx_lst (xs : List D) : Fixed (.li (.vl (.lst xs))) xs := ⟨fun _ _ => rfl, rfl, fun _ => Nat.le_refl _⟩
theorem fx_scr (xs : List D) : Fixed (.li (.vl (.scr xs))) xs := ⟨fun _ _ => rfl, rfl, fun _ => Nat.le_refl _⟩
def rgL (lo step : Int) : Nat → List D
  | 0 => []
  | n + 1 => .int lo :: rgL (lo + step) step n
theorem rgL_len (lo step : Int) (n : Nat) : (rgL lo step n).length = n := by
  induction n generalizing lo with
  | zero => rfl
  | succ n ih => simp [rgL, ih]
theorem rgL_get (step : Int) : ∀ (n i : Nat) (lo : Int), (rgL lo step n)[i]? = (match decide (i < n) with
    | true => some (.int (lo + (i : Int) * step))
    | false => none)
  | 0, i, lo => by simp [rgL]
  | n + 1, 0, lo => by simp [rgL]
  | n + 1, i + 1, lo => by
    have := rgL_get step n i (lo + step)
    simp only [rgL, List.getElem?_cons_succ, this, Nat.add_lt_add_iff_right]
    cases decide (i < n) with
    | false => rfl
    | true => 
      dsimp only
      rw [show lo + step + (i : Int) * step = lo + ((i + 1 : Nat) : Int) * step by
        rw [Int.natCast_succ, Int.add_mul, Int.one_mul, Int.add_assoc, Int.add_comm step]]
theorem fx_rg (lo step : Int) (n : Nat) : Fixed (.rg lo step n) (rgL lo step n) := ⟨fun ρ i => by
  rw [rgL_get]
  show (match decide (i < n) with
    | true => some (some (D.int (lo + (i : Int) * step)))
    | false => some none) = _
  cases decide (i < n) <;> rfl, rfl, fun _ => Nat.le_of_eq (rgL_len _ _ _)⟩
def zpL : List D → List D → List D
  | x :: xs, y :: ys => .tup [x, y] :: zpL xs ys
  | _, _ => []
theorem zpL_get : ∀ (xs ys : List D) (i : Nat), (zpL xs ys)[i]? = pairAt xs ys i
  | [], ys, i => by cases ys <;> simp [zpL, pairAt]
  | x :: xs, [], i => by
    simp only [zpL, pairAt, List.getElem?_nil]
    split <;> simp_all
  | x :: xs, y :: ys, 0 => rfl
  | x :: xs, y :: ys, i + 1 => by
    have := zpL_get xs ys i
    simp only [zpL, List.getElem?_cons_succ, this, pairAt]
theorem zpL_len : ∀ (xs ys : List D), xs.length = ys.length → (zpL xs ys).length = xs.length
  | [], [], _ => rfl
  | x :: xs, y :: ys, h => by
    simp only [zpL, List.length_cons, zpL_len xs ys (by simpa using h)]
  | [], _ :: _, h => by cases h
  | _ :: _, [], h => by cases h
theorem zpL_le : ∀ (xs ys : List D), (zpL xs ys).length ≤ xs.length
  | [], ys => by cases ys <;> simp [zpL]
  | x :: xs, [] => by simp [zpL]
  | x :: xs, y :: ys => by
    have := zpL_le xs ys
    simp only [zpL, List.length_cons]; omega
theorem fx_zpTU (xs ys : List D) : Fixed (.zp (.vl (.tup xs)) (.vl (.tup ys))) (zpL xs ys) := ⟨fun ρ i => by rw [zpL_get]; rfl, rfl, fun _ => zpL_le _ _⟩
theorem fx_zpT (xs ys : List D) (h : xs.length = ys.length) : Fixed (.zp (.vl (.tup xs)) (.vl (.tup ys))) (zpL xs ys) := ⟨fun ρ i => by rw [zpL_get]; rfl, rfl, fun _ => Nat.le_of_eq (zpL_len _ _ h)⟩
theorem fx_zpL (xs ys : List D) (h : xs.length = ys.length) : Fixed (.zp (.vl (.lst xs)) (.vl (.lst ys))) (zpL xs ys) := ⟨fun ρ i => by rw [zpL_get]; rfl, rfl, fun _ => Nat.le_of_eq (zpL_len _ _ h)⟩
theorem fx_enL (xs : List D) : Fixed (.en (.vl (.lst xs))) (xs.mapIdx fun i x => .tup [.int (i : Int), x]) := ⟨fun ρ i => by
  show some (xs[i]?.map fun x => D.tup [.int (i : Int), x]) = _
  rw [List.getElem?_mapIdx], rfl, fun _ => Nat.le_of_eq (by rw [List.length_mapIdx]; rfl)⟩
theorem fx_enT (xs : List D) : Fixed (.en (.vl (.tup xs))) (xs.mapIdx fun i x => .tup [.int (i : Int), x]) := ⟨fun ρ i => by
  show some (xs[i]?.map fun x => D.tup [.int (i : Int), x]) = _
  rw [List.getElem?_mapIdx], rfl, fun _ => Nat.le_of_eq (by rw [List.length_mapIdx]; rfl)⟩
theorem revAt_get (xs : List D) (i : Nat) : revAt xs xs.length i = some xs.reverse[i]? := by
  unfold revAt
  by_cases h : i < xs.length
  · rw [decide_eq_true h]
    dsimp only
    rw [List.getElem?_reverse h]
    obtain ⟨x, hx⟩ : ∃ x, xs[xs.length - 1 - i]? = some x := ⟨_, List.getElem?_eq_getElem (by omega)⟩
    rw [hx]
  · rw [decide_eq_false h, show xs.reverse[i]? = none from List.getElem?_eq_none (by rw [List.length_reverse]; omega)]
theorem fx_rvT (xs : List D) : Fixed (.rv (.vl (.tup xs)) xs.length) xs.reverse := ⟨fun _ i => revAt_get xs i, rfl, fun _ => Nat.le_of_eq (by rw [List.length_reverse]; rfl)⟩
theorem fx_rvL (xs : List D) : Fixed (.rv (.vl (.lst xs)) xs.length) xs.reverse := ⟨fun _ i => revAt_get xs i, rfl, fun _ => Nat.le_of_eq (by rw [List.length_reverse]; rfl)⟩
end PV
end

section
set_option maxHeartbeats 2000000
/-! Running mirrors by simp: each step's head is a plain function, no match stands open. -/
namespace PV
open PySem PySem.Spec L2
open PyProof.Rows hiding St

/-- how many turns a while may take: not told, but many -/
theorem tf_ex : ∃ t : Nat, 1000000000 ≤ t := ⟨1000000000, Nat.le_refl _⟩
noncomputable def T0 : Nat := Classical.choose tf_ex
noncomputable def TF : Nat := T0 + 200
theorem TF_le : 1000000000 ≤ TF := Nat.le_trans (Classical.choose_spec tf_ex) (Nat.le_add_right _ _)
theorem TF_pos : 0 < TF := Nat.lt_of_lt_of_le (by decide) TF_le
abbrev CF := List (D × Bool) → CRes
def kCallDF (f : CF) (n : Nat) (ps : List Op) : M (D × Bool) := fun ρ => match decide ((lns ps).Nodup) && decide (ps.length = n), gath ρ ps with
  | true, some as => (match f as with
    | .ok d u fin => .ok (d, u) (backs ρ (lns ps) fin)
    | .exc e fin => .exc e (backs ρ (lns ps) fin)
    | .stk => .stk)
  | _, _ => .stk
def kCallF (f : CF) (n : Nat) (a : M (List Op)) : M (D × Bool) := bnd a fun ps => kCallDF f n ps
def fn1 (k m : Nat) (b : M Flow') : CF := fun ds => match decide (ds.length = k) with
  | false => .stk
  | true => endC ds (b (ds.map argS ++ List.replicate (m - ds.length) .e))
theorem fn_eq {g : Gm} {tf : Nat} {o : Ops} {n : Nat} {x : Str} {f : FI} {b : M Flow'} {k m : Nat} (h : g.fn? x = some f) (hb : o.ss (bodyC g tf (callN g tf o n) f) f.body = b) (hk : f.ps.length = k) (hm : f.N.length = m) :
    callN g tf o (n + 1) x = fn1 k m b := by
  subst hb hk hm
  funext ds
  show (match g.fn? x with
    | none => CRes.stk
    | some f => (match decide (ds.length = f.ps.length) with
      | false => .stk
      | true => endC ds (o.ss (bodyC g tf (callN g tf o n) f) f.body (startE f ds)))) = _
  rw [h]
  rfl

/-! ### slots -/
def rdS (s : Option Sl) (i : Nat) (ρ : Evm) : Res D := match s with
  | some (.d x) => .ok x ρ
  | some (.f x) => .ok x ρ
  | some (.o x) => .ok x (ρ.set i (.d x))
  | some (.l x) => .ok x (ρ.set i (.f x))
  | _ => .stk
def loS (s : Option Sl) : Option D := match s with
  | some (.d x) => some x
  | some (.f x) => some x
  | some (.o x) => some x
  | some (.l x) => some x
  | _ => none
def stS' (s : Option Sl) (i : Nat) (x : D) (u : Bool) (ρ : Evm) : Res Unit := match s with
  | some .e => .ok () (ρ.set i (if u then .o x else .d x))
  | some (.d _) => .ok () (ρ.set i (if u then .o x else .d x))
  | some (.o _) => .ok () (ρ.set i (if u then .o x else .d x))
  | _ => .stk
section
variable (i : Nat) (x y : D) (u : Bool) (ρ : Evm)
@[simp] theorem j_rdd : rdS (some (.d x)) i ρ = .ok x ρ := rfl
@[simp] theorem j_rdf : rdS (some (.f x)) i ρ = .ok x ρ := rfl
@[simp] theorem j_rdo : rdS (some (.o x)) i ρ = .ok x (ρ.set i (.d x)) := rfl
@[simp] theorem j_rdl : rdS (some (.l x)) i ρ = .ok x (ρ.set i (.f x)) := rfl
@[simp] theorem j_rd : rd i ρ = rdS ρ[i]? i ρ := rfl
@[simp] theorem j_lod : loS (some (.d x)) = some x := rfl
@[simp] theorem j_lof : loS (some (.f x)) = some x := rfl
@[simp] theorem j_loo : loS (some (.o x)) = some x := rfl
@[simp] theorem j_lol : loS (some (.l x)) = some x := rfl
@[simp] theorem j_look : look ρ i = loS ρ[i]? := rfl
@[simp] theorem j_se : stS' (some .e) i x true ρ = .ok () (ρ.set i (.o x)) := rfl
@[simp] theorem j_sd : stS' (some (.d y)) i x true ρ = .ok () (ρ.set i (.o x)) := rfl
@[simp] theorem j_so : stS' (some (.o y)) i x true ρ = .ok () (ρ.set i (.o x)) := rfl
@[simp] theorem j_se' : stS' (some .e) i x false ρ = .ok () (ρ.set i (.d x)) := rfl
@[simp] theorem j_sd' : stS' (some (.d y)) i x false ρ = .ok () (ρ.set i (.d x)) := rfl
@[simp] theorem j_so' : stS' (some (.o y)) i x false ρ = .ok () (ρ.set i (.d x)) := rfl
@[simp] theorem j_st : st i x u ρ = stS' ρ[i]? i x u ρ := rfl
end

/-! ### expressions -/
section
variable {α β : Type}
@[simp] theorem j_pure (a : α) (ρ : Evm) : (pure a : M α) ρ = .ok a ρ := rfl
@[simp] theorem j_lft (a : α) (ρ : Evm) : lft (some a) ρ = .ok a ρ := rfl
@[simp] theorem j_val (a : D × Bool) (ρ : Evm) : val (some a) ρ = .ok a ρ := rfl
@[simp] theorem j_gd (x : α) : gd true x = some x := rfl
def rV (r : Res D) : Res (D × Bool) := match r with
  | .ok d ρ => .ok (d, false) ρ
  | .exc e ρ => .exc e ρ
  | .stk => .stk
@[simp] theorem j_rV (d : D) (ρ : Evm) : rV (.ok d ρ) = .ok (d, false) ρ := rfl
@[simp] theorem j_kVar (i : Nat) (ρ : Evm) : kVar i ρ = rV (rd i ρ) := by
  show bnd (rd i) _ ρ = _
  unfold bnd rV
  cases rd i ρ <;> rfl
@[simp] theorem j_kC (d : D) (ρ : Evm) : kC d ρ = .ok (d, false) ρ := rfl
def rOp (r : Res (D × Bool)) : Res Op := match r with
  | .ok d ρ => .ok (.vl d.1) ρ
  | .exc e ρ => .exc e ρ
  | .stk => .stk
@[simp] theorem j_rOp (d : D × Bool) (ρ : Evm) : rOp (.ok d ρ) = .ok (.vl d.1) ρ := rfl
@[simp] theorem j_rOpx (e : EV) (ρ : Evm) : rOp (.exc e ρ) = .exc e ρ := rfl
@[simp] theorem j_oE (m : M (D × Bool)) (ρ : Evm) : oE m ρ = rOp (m ρ) := by
  show bnd m _ ρ = _
  unfold bnd rOp
  cases m ρ <;> rfl
def oVS (s : Option Sl) (i : Nat) (ρ : Evm) : Res Op := match s with
  | some (.o _) => .ok (.pl i) ρ
  | some (.l _) => .ok (.pl i) ρ
  | some (.d x) => .ok (.vl x) ρ
  | some (.f x) => .ok (.vl x) ρ
  | _ => .stk
@[simp] theorem j_oVo (x : D) (i : Nat) (ρ : Evm) : oVS (some (.o x)) i ρ = .ok (.pl i) ρ := rfl
@[simp] theorem j_oVl (x : D) (i : Nat) (ρ : Evm) : oVS (some (.l x)) i ρ = .ok (.pl i) ρ := rfl
@[simp] theorem j_oVd (x : D) (i : Nat) (ρ : Evm) : oVS (some (.d x)) i ρ = .ok (.vl x) ρ := rfl
@[simp] theorem j_oVf (x : D) (i : Nat) (ρ : Evm) : oVS (some (.f x)) i ρ = .ok (.vl x) ρ := rfl
@[simp] theorem j_oVar (i : Nat) (ρ : Evm) : oVar i ρ = oVS ρ[i]? i ρ := by
  show (match (match ρ[i]? with
    | some (.o _) => some i
    | some (.l _) => some i
    | _ => none) with
  | some i => Res.ok (Op.pl i) ρ
  | none => bnd (kVar i) (fun r => (pure (Op.vl r.1) : M Op)) ρ) = _
  unfold oVS
  cases h : ρ[i]? with
  | none => simp [bnd, kVar, rd, h]
  | some s => cases s <;> simp [bnd, kVar, rd, h]
def f2 (x y : Option D) (f : D → D → M β) (ρ : Evm) : Res β := match x, y with
  | some x, some y => f x y ρ
  | _, _ => .stk
@[simp] theorem j_f2 (x y : D) (f : D → D → M β) (ρ : Evm) : f2 (some x) (some y) f ρ = f x y ρ := rfl
@[simp] theorem j_vl (x : D) (ρ : Evm) : res1 ρ (.vl x) = some x := rfl
@[simp] theorem j_pl (i : Nat) (ρ : Evm) : res1 ρ (.pl i) = loS ρ[i]? := rfl
@[simp] theorem j_fin2 (p q : Op) (f : D → D → M β) (ρ : Evm) : fin2 p q f ρ = f2 (res1 ρ p) (res1 ρ q) f ρ := by
  unfold fin2 f2
  cases res1 ρ p <;> cases res1 ρ q <;> rfl
def f1 (x : Option D) (f : D → M β) (ρ : Evm) : Res β := match x with
  | some x => f x ρ
  | _ => .stk
@[simp] theorem j_f1 (x : D) (f : D → M β) (ρ : Evm) : f1 (some x) f ρ = f x ρ := rfl
@[simp] theorem j_fin1 (p : Op) (f : D → M β) (ρ : Evm) : fin1 p f ρ = f1 (res1 ρ p) f ρ := by
  unfold fin1 f1
  cases res1 ρ p <;> rfl
def fL (x : Option (List D)) (f : List D → M β) (ρ : Evm) : Res β := match x with
  | some x => f x ρ
  | _ => .stk
@[simp] theorem j_fL (x : List D) (f : List D → M β) (ρ : Evm) : fL (some x) f ρ = f x ρ := rfl
def oc (x : Option D) (y : Option (List D)) : Option (List D) := match x, y with
  | some x, some xs => some (x :: xs)
  | _, _ => none
@[simp] theorem j_oc (x : D) (y : List D) : oc (some x) (some y) = some (x :: y) := rfl
@[simp] theorem j_ress0 (ρ : Evm) : ress ρ [] = some [] := rfl
@[simp] theorem j_ress1 (o : Op) (os : List Op) (ρ : Evm) : ress ρ (o :: os) = oc (res1 ρ o) (ress ρ os) := rfl
def r2b (p : Op) (r : Res Op) (f : D → D → M β) : Res β := match r with
  | .ok q ρ => fin2 p q f ρ
  | .exc e ρ => .exc e ρ
  | .stk => .stk
def r2a (r : Res Op) (b : M Op) (f : D → D → M β) : Res β := match r with
  | .ok p ρ => r2b p (b ρ) f
  | .exc e ρ => .exc e ρ
  | .stk => .stk
@[simp] theorem j_r2b (p q : Op) (ρ : Evm) (f : D → D → M β) : r2b p (.ok q ρ) f = fin2 p q f ρ := rfl
@[simp] theorem j_r2bx (p : Op) (e : EV) (ρ : Evm) (f : D → D → M β) : r2b p (.exc e ρ) f = .exc e ρ := rfl
@[simp] theorem j_r2a (p : Op) (ρ : Evm) (b : M Op) (f : D → D → M β) : r2a (.ok p ρ) b f = r2b p (b ρ) f := rfl
@[simp] theorem j_r2ax (e : EV) (ρ : Evm) (b : M Op) (f : D → D → M β) : r2a (.exc e ρ) b f = .exc e ρ := rfl
theorem kTwo_eq (a b : M Op) (f : D → D → M β) (ρ : Evm) : kTwo a b f ρ = r2a (a ρ) b f := by
  show bnd a _ ρ = _
  unfold bnd r2a
  cases a ρ with
  | ok p ρ' =>
    show bnd b _ ρ' = r2b p (b ρ') f
    unfold bnd r2b
    cases b ρ' <;> rfl
  | exc e ρ' => rfl
  | stk => rfl
def r1a (r : Res Op) (f : D → M β) : Res β := match r with
  | .ok p ρ => fin1 p f ρ
  | .exc e ρ => .exc e ρ
  | .stk => .stk
@[simp] theorem j_r1a (p : Op) (ρ : Evm) (f : D → M β) : r1a (.ok p ρ) f = fin1 p f ρ := rfl
@[simp] theorem j_r1ax (e : EV) (ρ : Evm) (f : D → M β) : r1a (.exc e ρ) f = .exc e ρ := rfl
theorem kOne_eq (a : M Op) (f : D → M β) (ρ : Evm) : kOne a f ρ = r1a (a ρ) f := by
  show bnd a _ ρ = _
  unfold bnd r1a
  cases a ρ <;> rfl
end
def fBin (op : Operator) (x y : D) : M (D × Bool) := val (binD op x y)
@[simp] theorem j_fBin (op : Operator) (x y : D) (ρ : Evm) : fBin op x y ρ = val (binD op x y) ρ := rfl
@[simp] theorem j_kBin (op : Operator) (a b : M Op) (ρ : Evm) : kBin op a b ρ = r2a (a ρ) b (fBin op) := kTwo_eq _ _ _ _
def bv (k : Bool) : D × Bool := (.bl k, false)
@[simp] theorem j_bv (k : Bool) : bv k = (.bl k, false) := rfl
def fCmp (op : CmpOp) (x y : D) : M (D × Bool) := val ((cmpD op x y).map bv)
@[simp] theorem j_fCmp (op : CmpOp) (x y : D) (ρ : Evm) : fCmp op x y ρ = val ((cmpD op x y).map bv) ρ := rfl
@[simp] theorem j_kCmp (op : CmpOp) (a b : M Op) (ρ : Evm) : kCmp op a b ρ = r2a (a ρ) b (fCmp op) := kTwo_eq _ _ _ _
def fCmpT (op : CmpOp) (x y : D) : M Bool := lft (cmpD op x y)
@[simp] theorem j_fCmpT (op : CmpOp) (x y : D) (ρ : Evm) : fCmpT op x y ρ = lft (cmpD op x y) ρ := rfl
@[simp] theorem j_kCmpT (op : CmpOp) (a b : M Op) (ρ : Evm) : kCmpT op a b ρ = r2a (a ρ) b (fCmpT op) := kTwo_eq _ _ _ _
def dv (d : D) : D × Bool := (d, false)
@[simp] theorem j_dv (d : D) : dv d = (d, false) := rfl
def fIx (x y : D) : M (D × Bool) := val ((indexD x y).map dv)
@[simp] theorem j_fIx (x y : D) (ρ : Evm) : fIx x y ρ = val ((indexD x y).map dv) ρ := rfl
@[simp] theorem j_kIx (a b : M Op) (ρ : Evm) : kIx a b ρ = r2a (a ρ) b fIx := kTwo_eq _ _ _ _
def fNeg (x : D) : M (D × Bool) := val ((negD x).map dv)
@[simp] theorem j_fNeg (x : D) (ρ : Evm) : fNeg x ρ = val ((negD x).map dv) ρ := rfl
@[simp] theorem j_kNeg (a : M Op) (ρ : Evm) : kNeg a ρ = r1a (a ρ) fNeg := kOne_eq _ _ _
def nbv (k : Bool) : D × Bool := (.bl (!k), false)
@[simp] theorem j_nbv (k : Bool) : nbv k = (.bl (!k), false) := rfl
def fNot (x : D) : M (D × Bool) := val ((truD x).map nbv)
@[simp] theorem j_fNot (x : D) (ρ : Evm) : fNot x ρ = val ((truD x).map nbv) ρ := rfl
@[simp] theorem j_kNotV (a : M Op) (ρ : Evm) : kNotV a ρ = r1a (a ρ) fNot := kOne_eq _ _ _
def fTru (x : D) : M Bool := lft (truD x)
@[simp] theorem j_fTru (x : D) (ρ : Evm) : fTru x ρ = lft (truD x) ρ := rfl
@[simp] theorem j_kTru (a : M Op) (ρ : Evm) : kTru a ρ = r1a (a ρ) fTru := kOne_eq _ _ _
def fRev (x : D) : M (D × Bool) := val (revD x)
@[simp] theorem j_fRev (x : D) (ρ : Evm) : fRev x ρ = val (revD x) ρ := rfl
@[simp] theorem j_kRev (a : M Op) (ρ : Evm) : kRev a ρ = r1a (a ρ) fRev := kOne_eq _ _ _
/-- and, or: values -/
def raB (k : Option Bool) (x : D) (b : M (D × Bool)) (ρ : Evm) : Res (D × Bool) := match k with
  | some k => if k then b ρ else .ok (x, false) ρ
  | none => .stk
@[simp] theorem j_raB (k : Bool) (x : D) (b : M (D × Bool)) (ρ : Evm) : raB (some k) x b ρ = if k then b ρ else .ok (x, false) ρ := rfl
def roB (k : Option Bool) (x : D) (b : M (D × Bool)) (ρ : Evm) : Res (D × Bool) := match k with
  | some k => if k then .ok (x, false) ρ else b ρ
  | none => .stk
@[simp] theorem j_roB (k : Bool) (x : D) (b : M (D × Bool)) (ρ : Evm) : roB (some k) x b ρ = if k then .ok (x, false) ρ else b ρ := rfl
def raA (r : Res (D × Bool)) (b : M (D × Bool)) : Res (D × Bool) := match r with
  | .ok x ρ => raB (truD x.1) x.1 b ρ
  | .exc e ρ => .exc e ρ
  | .stk => .stk
@[simp] theorem j_raA (x : D × Bool) (ρ : Evm) (b : M (D × Bool)) : raA (.ok x ρ) b = raB (truD x.1) x.1 b ρ := rfl
@[simp] theorem j_raAx (e : EV) (ρ : Evm) (b : M (D × Bool)) : raA (.exc e ρ) b = .exc e ρ := rfl
@[simp] theorem j_kAnd (a b : M (D × Bool)) (ρ : Evm) : kAnd a b ρ = raA (a ρ) b := by
  show bnd a _ ρ = _
  unfold bnd raA
  cases a ρ with
  | ok x ρ' =>
    show bnd (lft (truD x.1)) _ ρ' = raB (truD x.1) x.1 b ρ'
    cases truD x.1 with
    | none => rfl
    | some k => cases k <;> rfl
  | exc e ρ' => rfl
  | stk => rfl
def roA (r : Res (D × Bool)) (b : M (D × Bool)) : Res (D × Bool) := match r with
  | .ok x ρ => roB (truD x.1) x.1 b ρ
  | .exc e ρ => .exc e ρ
  | .stk => .stk
@[simp] theorem j_roA (x : D × Bool) (ρ : Evm) (b : M (D × Bool)) : roA (.ok x ρ) b = roB (truD x.1) x.1 b ρ := rfl
@[simp] theorem j_roAx (e : EV) (ρ : Evm) (b : M (D × Bool)) : roA (.exc e ρ) b = .exc e ρ := rfl
@[simp] theorem j_kOr (a b : M (D × Bool)) (ρ : Evm) : kOr a b ρ = roA (a ρ) b := by
  show bnd a _ ρ = _
  unfold bnd roA
  cases a ρ with
  | ok x ρ' =>
    show bnd (lft (truD x.1)) _ ρ' = roB (truD x.1) x.1 b ρ'
    cases truD x.1 with
    | none => rfl
    | some k => cases k <;> rfl
  | exc e ρ' => rfl
  | stk => rfl
def rIf {β : Type} (r : Res Bool) (a b : M β) : Res β := match r with
  | .ok k ρ => if k then a ρ else b ρ
  | .exc e ρ => .exc e ρ
  | .stk => .stk
@[simp] theorem j_rIf {β : Type} (k : Bool) (ρ : Evm) (a b : M β) : rIf (.ok k ρ) a b = if k then a ρ else b ρ := rfl
@[simp] theorem j_rIfx {β : Type} (e : EV) (ρ : Evm) (a b : M β) : rIf (.exc e ρ) a b = .exc e ρ := rfl
theorem rIf_eq {β : Type} (t : M Bool) (a b : M β) (ρ : Evm) : (bnd t fun k => match k with
  | true => a
  | false => b) ρ = rIf (t ρ) a b := by
  unfold bnd rIf
  cases t ρ with
  | ok k ρ' => cases k <;> rfl
  | exc e ρ' => rfl
  | stk => rfl
def kBl (b : Bool) : M Bool := fun ρ => .ok b ρ
@[simp] theorem j_kBl (b : Bool) (ρ : Evm) : kBl b ρ = .ok b ρ := rfl
@[simp] theorem j_kAndT (a b : M Bool) (ρ : Evm) : kAndT a b ρ = rIf (a ρ) b (kBl false) := rIf_eq _ _ _ _
@[simp] theorem j_kOrT (a b : M Bool) (ρ : Evm) : kOrT a b ρ = rIf (a ρ) (kBl true) b := rIf_eq _ _ _ _
def rNo (r : Res Bool) : Res Bool := match r with
  | .ok k ρ => .ok (!k) ρ
  | .exc e ρ => .exc e ρ
  | .stk => .stk
@[simp] theorem j_rNo (k : Bool) (ρ : Evm) : rNo (.ok k ρ) = .ok (!k) ρ := rfl
@[simp] theorem j_rNox (e : EV) (ρ : Evm) : rNo (.exc e ρ) = .exc e ρ := rfl
@[simp] theorem j_kNotT (a : M Bool) (ρ : Evm) : kNotT a ρ = rNo (a ρ) := by
  show bnd a _ ρ = _
  unfold bnd rNo
  cases a ρ <;> rfl
@[simp] theorem j_kIf (t : M Bool) (a b : M (D × Bool)) (ρ : Evm) : kIf t a b ρ = rIf (t ρ) a b := rIf_eq _ _ _ _
@[simp] theorem j_kIfS (t : M Bool) (a b : M Flow') (ρ : Evm) : kIfS t a b ρ = rIf (t ρ) a b := rIf_eq _ _ _ _

/-! ### lists of things -/
@[simp] theorem j_aNil (ρ : Evm) : aNil ρ = .ok [] ρ := rfl
def rA2 (x : D) (r : Res (List D)) : Res (List D) := match r with
  | .ok xs ρ => .ok (x :: xs) ρ
  | .exc e ρ => .exc e ρ
  | .stk => .stk
def rA1 (r : Res (D × Bool)) (k : M (List D)) : Res (List D) := match r with
  | .ok x ρ => rA2 x.1 (k ρ)
  | .exc e ρ => .exc e ρ
  | .stk => .stk
@[simp] theorem j_rA2 (x : D) (xs : List D) (ρ : Evm) : rA2 x (.ok xs ρ) = .ok (x :: xs) ρ := rfl
@[simp] theorem j_rA2x (x : D) (e : EV) (ρ : Evm) : rA2 x (.exc e ρ) = .exc e ρ := rfl
@[simp] theorem j_rA1 (x : D × Bool) (ρ : Evm) (k : M (List D)) : rA1 (.ok x ρ) k = rA2 x.1 (k ρ) := rfl
@[simp] theorem j_rA1x (e : EV) (ρ : Evm) (k : M (List D)) : rA1 (.exc e ρ) k = .exc e ρ := rfl
@[simp] theorem j_aCons (e : M (D × Bool)) (r : M (List D)) (ρ : Evm) : aCons e r ρ = rA1 (e ρ) r := by
  show bnd e _ ρ = _
  unfold bnd rA1
  cases e ρ with
  | ok x ρ' =>
    show bnd r _ ρ' = rA2 x.1 (r ρ')
    unfold bnd rA2
    cases r ρ' <;> rfl
  | exc e ρ' => rfl
  | stk => rfl
@[simp] theorem j_oNil (ρ : Evm) : oNil ρ = .ok [] ρ := rfl
def rO2 (x : Op) (r : Res (List Op)) : Res (List Op) := match r with
  | .ok xs ρ => .ok (x :: xs) ρ
  | .exc e ρ => .exc e ρ
  | .stk => .stk
def rO1 (r : Res Op) (k : M (List Op)) : Res (List Op) := match r with
  | .ok x ρ => rO2 x (k ρ)
  | .exc e ρ => .exc e ρ
  | .stk => .stk
@[simp] theorem j_rO2 (x : Op) (xs : List Op) (ρ : Evm) : rO2 x (.ok xs ρ) = .ok (x :: xs) ρ := rfl
@[simp] theorem j_rO2x (x : Op) (e : EV) (ρ : Evm) : rO2 x (.exc e ρ) = .exc e ρ := rfl
@[simp] theorem j_rO1 (x : Op) (ρ : Evm) (k : M (List Op)) : rO1 (.ok x ρ) k = rO2 x (k ρ) := rfl
@[simp] theorem j_rO1x (e : EV) (ρ : Evm) (k : M (List Op)) : rO1 (.exc e ρ) k = .exc e ρ := rfl
@[simp] theorem j_oCons (e : M Op) (r : M (List Op)) (ρ : Evm) : oCons e r ρ = rO1 (e ρ) r := by
  show bnd e _ ρ = _
  unfold bnd rO1
  cases e ρ with
  | ok x ρ' =>
    show bnd r _ ρ' = rO2 x (r ρ')
    unfold bnd rO2
    cases r ρ' <;> rfl
  | exc e ρ' => rfl
  | stk => rfl
/-- what is made of a result, the names as they are -/
def rM {α β : Type} (r : Res α) (f : α → M β) : Res β := match r with
  | .ok x ρ => f x ρ
  | .exc e ρ => .exc e ρ
  | .stk => .stk
@[simp] theorem j_rM {α β : Type} (x : α) (ρ : Evm) (f : α → M β) : rM (.ok x ρ) f = f x ρ := rfl
@[simp] theorem j_rMx {α β : Type} (e : EV) (ρ : Evm) (f : α → M β) : rM (.exc e ρ) f = .exc e ρ := rfl
theorem rM_eq {α β : Type} (m : M α) (f : α → M β) (ρ : Evm) : bnd m f ρ = rM (m ρ) f := by
  unfold bnd rM
  cases m ρ <;> rfl
def mkT (xs : List D) : M (D × Bool) := val (gd (lineOk xs.length) (.tup xs, false))
@[simp] theorem j_mkT (xs : List D) (ρ : Evm) : mkT xs ρ = val (gd (lineOk xs.length) (.tup xs, false)) ρ := rfl
def mkL (xs : List D) : M (D × Bool) := val (gd (lineOk xs.length) (.lst xs, true))
@[simp] theorem j_mkL (xs : List D) (ρ : Evm) : mkL xs ρ = val (gd (lineOk xs.length) (.lst xs, true)) ρ := rfl
@[simp] theorem j_kTup (a : M (List D)) (ρ : Evm) : kTup a ρ = rM (a ρ) mkT := rM_eq _ _ _
@[simp] theorem j_kLst (a : M (List D)) (ρ : Evm) : kLst a ρ = rM (a ρ) mkL := rM_eq _ _ _
def biV (b : Bi) (xs : List D) : M (D × Bool) := val (biCall b xs)
@[simp] theorem j_biV (b : Bi) (xs : List D) (ρ : Evm) : biV b xs ρ = val (biCall b xs) ρ := rfl
def biO (b : Bi) (ps : List Op) : M (D × Bool) := fun ρ => fL (ress ρ ps) (biV b) ρ
@[simp] theorem j_biO (b : Bi) (ps : List Op) (ρ : Evm) : biO b ps ρ = fL (ress ρ ps) (biV b) ρ := rfl
@[simp] theorem j_kBi (b : Bi) (a : M (List Op)) (ρ : Evm) : kBi b a ρ = rM (a ρ) (biO b) := by
  refine (rM_eq _ _ _).trans ?_
  congr 1
  funext ps ρ
  show finL ps (biV b) ρ = fL (ress ρ ps) (biV b) ρ
  unfold finL fL
  cases ress ρ ps <;> rfl

/-! ### calls -/
def rC3 (r : CRes) (ls : List Nat) (ρ : Evm) : Res (D × Bool) := match r with
  | .ok d u fin => .ok (d, u) (backs ρ ls fin)
  | .exc e fin => .exc e (backs ρ ls fin)
  | .stk => .stk
@[simp] theorem j_rC3 (d : D) (u : Bool) (fin : List Sl) (ls : List Nat) (ρ : Evm) : rC3 (.ok d u fin) ls ρ = .ok (d, u) (backs ρ ls fin) := rfl
@[simp] theorem j_rC3x (e : EV) (fin : List Sl) (ls : List Nat) (ρ : Evm) : rC3 (.exc e fin) ls ρ = .exc e (backs ρ ls fin) := rfl
def rC2 (b : Bool) (g : Option (List (D × Bool))) (f : CF) (ls : List Nat) (ρ : Evm) : Res (D × Bool) := match b, g with
  | true, some as => rC3 (f as) ls ρ
  | _, _ => .stk
@[simp] theorem j_rC2 (as : List (D × Bool)) (f : CF) (ls : List Nat) (ρ : Evm) : rC2 true (some as) f ls ρ = rC3 (f as) ls ρ := rfl
@[simp] theorem j_kCallDF (f : CF) (n : Nat) (ps : List Op) (ρ : Evm) : kCallDF f n ps ρ = rC2 (decide ((lns ps).Nodup) && decide (ps.length = n)) (gath ρ ps) f (lns ps) ρ := by
  unfold kCallDF rC2
  cases (decide ((lns ps).Nodup) && decide (ps.length = n)) with
  | false => rfl
  | true =>
    cases gath ρ ps with
    | none => rfl
    | some as => rfl
@[simp] theorem j_kCallF (f : CF) (n : Nat) (a : M (List Op)) (ρ : Evm) : kCallF f n a ρ = rM (a ρ) (kCallDF f n) := rM_eq _ _ _
def gaS (s : Option Sl) (r : Option (List (D × Bool))) : Option (List (D × Bool)) := match s with
  | some (.o x) => r.map ((x, true) :: ·)
  | some (.l x) => r.map ((x, true) :: ·)
  | _ => none
@[simp] theorem j_gao (x : D) (r : List (D × Bool)) : gaS (some (.o x)) (some r) = some ((x, true) :: r) := rfl
@[simp] theorem j_gal (x : D) (r : List (D × Bool)) : gaS (some (.l x)) (some r) = some ((x, true) :: r) := rfl
def gaV (x : D) (r : Option (List (D × Bool))) : Option (List (D × Bool)) := r.map ((x, false) :: ·)
@[simp] theorem j_gaV (x : D) (r : List (D × Bool)) : gaV x (some r) = some ((x, false) :: r) := rfl
@[simp] theorem j_gath0 (ρ : Evm) : gath ρ [] = some [] := rfl
@[simp] theorem j_gath1 (ρ : Evm) (x : D) (r : List Op) : gath ρ (.vl x :: r) = gaV x (gath ρ r) := rfl
@[simp] theorem j_gath2 (ρ : Evm) (i : Nat) (r : List Op) : gath ρ (.pl i :: r) = gaS ρ[i]? (gath ρ r) := rfl
@[simp] theorem j_lns0 : lns [] = [] := rfl
@[simp] theorem j_lns1 (x : D) (r : List Op) : lns (.vl x :: r) = lns r := rfl
@[simp] theorem j_lns2 (i : Nat) (r : List Op) : lns (.pl i :: r) = i :: lns r := rfl
@[simp] theorem j_backs0 (ρ : Evm) (l : List Sl) : backs ρ [] l = ρ := by cases l <;> rfl
@[simp] theorem j_backs1 (ρ : Evm) (i : Nat) (is : List Nat) (s : Sl) (l : List Sl) : backs ρ (i :: is) (s :: l) = backs (back1 ρ i s) is l := rfl
def bkS (t : Option Sl) (i : Nat) (s : Sl) (ρ : Evm) : Evm := match t with
  | some t => ρ.set i (bk t s)
  | none => ρ
@[simp] theorem j_bkS (t : Sl) (i : Nat) (s : Sl) (ρ : Evm) : bkS (some t) i s ρ = ρ.set i (bk t s) := rfl
@[simp] theorem j_back1 (ρ : Evm) (i : Nat) (s : Sl) : back1 ρ i s = bkS ρ[i]? i s ρ := rfl
@[simp] theorem j_bkol (x y : D) : bk (.o x) (.l y) = .o y := rfl
@[simp] theorem j_bkll (x y : D) : bk (.l x) (.l y) = .l y := rfl
@[simp] theorem j_argS_d (d : D) : argS (d, false) = .d d := rfl
@[simp] theorem j_argS_l (d : D) : argS (d, true) = .l d := rfl
def fnS (b : Bool) (ds : List (D × Bool)) (r : Res Flow') : CRes := match b with
  | true => endC ds r
  | false => .stk
@[simp] theorem j_fnS (ds : List (D × Bool)) (r : Res Flow') : fnS true ds r = endC ds r := rfl
@[simp] theorem j_fn1 (k m : Nat) (b : M Flow') (ds : List (D × Bool)) : fn1 k m b ds = fnS (decide (ds.length = k)) ds (b (ds.map argS ++ List.replicate (m - ds.length) .e)) := by
  unfold fn1 fnS
  cases decide (ds.length = k) <;> rfl
def cEnd (l : Option (List Sl)) (d : D) (u : Bool) : CRes := match l with
  | some l => .ok d u l
  | none => .stk
@[simp] theorem j_cEnd (l : List Sl) (d : D) (u : Bool) : cEnd (some l) d u = .ok d u l := rfl
def cEnx (l : Option (List Sl)) (e : EV) : CRes := match l with
  | some l => .exc e l
  | none => .stk
@[simp] theorem j_cEnx (l : List Sl) (e : EV) : cEnx (some l) e = .exc e l := rfl
@[simp] theorem j_ert (ds : List (D × Bool)) (d : D) (u : Bool) (ρ : Evm) : endC ds (.ok (.rt d u) ρ) = cEnd (finsL 0 ds ρ) d u := rfl
@[simp] theorem j_enx (ds : List (D × Bool)) (ρ : Evm) : endC ds (.ok .nx ρ) = cEnd (finsL 0 ds ρ) .non false := rfl
@[simp] theorem j_eexc (ds : List (D × Bool)) (e : EV) (ρ : Evm) : endC ds (.exc e ρ) = cEnx (finsL 0 ds ρ) e := rfl
def fiS (s : Option Sl) (r : Option (List Sl)) : Option (List Sl) := match s with
  | some (.l x) => r.map (.l x :: ·)
  | some (.f x) => r.map (.f x :: ·)
  | _ => none
@[simp] theorem j_fil (x : D) (r : List Sl) : fiS (some (.l x)) (some r) = some (.l x :: r) := rfl
@[simp] theorem j_fif (x : D) (r : List Sl) : fiS (some (.f x)) (some r) = some (.f x :: r) := rfl
@[simp] theorem j_fins0 (k : Nat) (ρ : Evm) : finsL k [] ρ = some [] := rfl
@[simp] theorem j_fins1 (k : Nat) (d : D) (ds : List (D × Bool)) (ρ : Evm) : finsL k ((d, false) :: ds) ρ = finsL (k + 1) ds ρ := rfl
@[simp] theorem j_fins2 (k : Nat) (d : D) (ds : List (D × Bool)) (ρ : Evm) : finsL k ((d, true) :: ds) ρ = fiS ρ[k]? (finsL (k + 1) ds ρ) := rfl

/-! ### methods -/
def olS (s : Option Sl) : Bool := match s with
  | some (.o (.lst _)) => true
  | some (.l (.lst _)) => true
  | _ => false
@[simp] theorem j_olo (xs : List D) : olS (some (.o (.lst xs))) = true := rfl
@[simp] theorem j_oll (xs : List D) : olS (some (.l (.lst xs))) = true := rfl
def rPush2 (s : Option Sl) (i : Nat) (x : D) (ρ : Evm) : Res (D × Bool) := match s with
  | some (.o (.lst xs)) => if xs.length < sizeLine then .ok (.non, false) (ρ.set i (.o (.lst (xs ++ [x])))) else .stk
  | some (.l (.lst xs)) => if xs.length < sizeLine then .ok (.non, false) (ρ.set i (.l (.lst (xs ++ [x])))) else .stk
  | _ => .stk
@[simp] theorem j_pusho (xs : List D) (i : Nat) (x : D) (ρ : Evm) : rPush2 (some (.o (.lst xs))) i x ρ = if xs.length < sizeLine then .ok (.non, false) (ρ.set i (.o (.lst (xs ++ [x])))) else .stk := rfl
@[simp] theorem j_pushl (xs : List D) (i : Nat) (x : D) (ρ : Evm) : rPush2 (some (.l (.lst xs))) i x ρ = if xs.length < sizeLine then .ok (.non, false) (ρ.set i (.l (.lst (xs ++ [x])))) else .stk := rfl
def rPush (r : Res (D × Bool)) (i : Nat) : Res (D × Bool) := match r with
  | .ok x ρ => rPush2 ρ[i]? i x.1 ρ
  | .exc e ρ => .exc e ρ
  | .stk => .stk
@[simp] theorem j_rPush (x : D × Bool) (ρ : Evm) (i : Nat) : rPush (.ok x ρ) i = rPush2 ρ[i]? i x.1 ρ := rfl
@[simp] theorem j_rPushx (e : EV) (ρ : Evm) (i : Nat) : rPush (.exc e ρ) i = .exc e ρ := rfl
def rPush0 (b : Bool) (r : Res (D × Bool)) (i : Nat) : Res (D × Bool) := if b then rPush r i else .stk
@[simp] theorem j_rPush0 (r : Res (D × Bool)) (i : Nat) : rPush0 true r i = rPush r i := rfl
theorem mutIn_push (i : Nat) (x : D) (ρ : Evm) : mutIn i "append" [x] ρ = rPush2 ρ[i]? i x ρ := by
  unfold mutIn rPush2
  cases h : ρ[i]? with
  | none => rfl
  | some s => cases s with
    | o d => cases d <;> first | rfl | (rename_i xs; dsimp only [mutD]; by_cases hl : xs.length < sizeLine <;> simp [hl, gd])
    | l d => cases d <;> first | rfl | (rename_i xs; dsimp only [mutD]; by_cases hl : xs.length < sizeLine <;> simp [hl, gd])
    | _ => rfl
@[simp] theorem j_kPush (i : Nat) (e : M (D × Bool)) (ρ : Evm) : kPush i e ρ = rPush0 (olS ρ[i]?) (e ρ) i := by
  show (match ownL ρ i with
  | false => Res.stk
  | true => bnd (aCons e aNil) (fun xs => mutIn i "append" xs) ρ) = _
  have hh : ownL ρ i = olS ρ[i]? := rfl
  rw [hh]
  cases olS ρ[i]? with
  | false => rfl
  | true =>
    dsimp only [rPush0]
    rw [rM_eq, j_aCons]
    cases e ρ with
    | ok x ρ' => exact mutIn_push i x.1 ρ'
    | exc e ρ' => rfl
    | stk => rfl
def rPop (s : Option Sl) (i : Nat) (ρ : Evm) : Res (D × Bool) := match s with
  | some (.o (.lst xs)) => (match xs[xs.length - 1]? with
    | some y => .ok (y, false) (ρ.set i (.o (.lst xs.dropLast)))
    | none => .stk)
  | some (.l (.lst xs)) => (match xs[xs.length - 1]? with
    | some y => .ok (y, false) (ρ.set i (.l (.lst xs.dropLast)))
    | none => .stk)
  | _ => .stk
@[simp] theorem j_popo (xs : List D) (x : D) (i : Nat) (ρ : Evm) : rPop (some (.o (.lst (xs ++ [x])))) i ρ = .ok (x, false) (ρ.set i (.o (.lst xs))) := by
  unfold rPop
  simp
@[simp] theorem j_popl (xs : List D) (x : D) (i : Nat) (ρ : Evm) : rPop (some (.l (.lst (xs ++ [x])))) i ρ = .ok (x, false) (ρ.set i (.l (.lst xs))) := by
  unfold rPop
  simp
theorem mutD_pop (xs : List D) : mutD "pop" (.lst xs) [] = (match xs[xs.length - 1]? with
    | some y => some (.lst xs.dropLast, y)
    | none => none) := by
  unfold mutD
  simp only [decide_true]
  cases xs[xs.length - 1]? <;> rfl
@[simp] theorem j_kPop (i : Nat) (ρ : Evm) : kPop i ρ = rPop ρ[i]? i ρ := by
  show (match ownL ρ i with
  | false => Res.stk
  | true => mutIn i "pop" [] ρ) = _
  have hh : ownL ρ i = olS ρ[i]? := rfl
  rw [hh]
  unfold rPop mutIn
  cases h : ρ[i]? with
  | none => rfl
  | some s => cases s with
    | o d => cases d <;> first | rfl | (rename_i xs; simp only [j_olo, mutD_pop]; cases xs[xs.length - 1]? <;> rfl)
    | l d => cases d <;> first | rfl | (rename_i xs; simp only [j_oll, mutD_pop]; cases xs[xs.length - 1]? <;> rfl)
    | _ => rfl

/-! ### slices, chains -/
@[simp] theorem j_sNo (ρ : Evm) : sNo ρ = .ok none ρ := rfl
def rI (r : Res (D × Bool)) : Res (Option Int) := match r with
  | .ok (.int i, _) ρ => .ok (some i) ρ
  | .exc e ρ => .exc e ρ
  | _ => .stk
@[simp] theorem j_rI (i : Int) (u : Bool) (ρ : Evm) : rI (.ok (.int i, u) ρ) = .ok (some i) ρ := rfl
@[simp] theorem j_rIx (e : EV) (ρ : Evm) : rI (.exc e ρ) = .exc e ρ := rfl
@[simp] theorem j_sE (m : M (D × Bool)) (ρ : Evm) : sE m ρ = rI (m ρ) := by
  show bnd m _ ρ = _
  unfold bnd rI
  cases m ρ with
  | ok x ρ' => obtain ⟨d, u⟩ := x; cases d <;> rfl
  | exc e ρ' => rfl
  | stk => rfl
def fSl (l h : Option Int) (x : D) : M (D × Bool) := val (sliceD x l h)
@[simp] theorem j_fSl (l h : Option Int) (x : D) (ρ : Evm) : fSl l h x ρ = val (sliceD x l h) ρ := rfl
def rS3 (p : Op) (l : Option Int) (r : Res (Option Int)) : Res (D × Bool) := match r with
  | .ok h ρ => fin1 p (fSl l h) ρ
  | .exc e ρ => .exc e ρ
  | .stk => .stk
def rS2 (p : Op) (r : Res (Option Int)) (h : M (Option Int)) : Res (D × Bool) := match r with
  | .ok l ρ => rS3 p l (h ρ)
  | .exc e ρ => .exc e ρ
  | .stk => .stk
def rS1 (r : Res Op) (l h : M (Option Int)) : Res (D × Bool) := match r with
  | .ok p ρ => rS2 p (l ρ) h
  | .exc e ρ => .exc e ρ
  | .stk => .stk
@[simp] theorem j_rS3 (p : Op) (l h : Option Int) (ρ : Evm) : rS3 p l (.ok h ρ) = fin1 p (fSl l h) ρ := rfl
@[simp] theorem j_rS2 (p : Op) (l : Option Int) (ρ : Evm) (h : M (Option Int)) : rS2 p (.ok l ρ) h = rS3 p l (h ρ) := rfl
@[simp] theorem j_rS1 (p : Op) (ρ : Evm) (l h : M (Option Int)) : rS1 (.ok p ρ) l h = rS2 p (l ρ) h := rfl
@[simp] theorem j_kSlice (a : M Op) (lo hi : M (Option Int)) (ρ : Evm) : kSlice a lo hi ρ = rS1 (a ρ) lo hi := by
  show bnd a _ ρ = _
  unfold bnd rS1
  cases a ρ with
  | ok p ρ1 =>
    show bnd lo _ ρ1 = rS2 p (lo ρ1) hi
    unfold bnd rS2
    cases lo ρ1 with
    | ok l ρ2 =>
      show bnd hi _ ρ2 = rS3 p l (hi ρ2)
      unfold bnd rS3
      cases hi ρ2 <;> rfl
    | exc e ρ' => rfl
    | stk => rfl
  | exc e ρ' => rfl
  | stk => rfl
def kEnd2 (op' : CmpOp) (q : Op) (d : M Op) : M Bool := fun ρ => r2b q (d ρ) (fCmpT op')
@[simp] theorem j_kEnd2 (op' : CmpOp) (q : Op) (d : M Op) (ρ : Evm) : kEnd2 op' q d ρ = r2b q (d ρ) (fCmpT op') := rfl
def rCh2 (op op' : CmpOp) (p : Op) (r : Res Op) (d : M Op) : Res Bool := match r with
  | .ok q ρ => rIf (fin2 p q (fCmpT op) ρ) (kEnd2 op' q d) (kBl false)
  | .exc e ρ => .exc e ρ
  | .stk => .stk
def rCh1 (op op' : CmpOp) (r : Res Op) (b d : M Op) : Res Bool := match r with
  | .ok p ρ => rCh2 op op' p (b ρ) d
  | .exc e ρ => .exc e ρ
  | .stk => .stk
@[simp] theorem j_rCh2 (op op' : CmpOp) (p q : Op) (ρ : Evm) (d : M Op) : rCh2 op op' p (.ok q ρ) d = rIf (fin2 p q (fCmpT op) ρ) (kEnd2 op' q d) (kBl false) := rfl
@[simp] theorem j_rCh1 (op op' : CmpOp) (p : Op) (ρ : Evm) (b d : M Op) : rCh1 op op' (.ok p ρ) b d = rCh2 op op' p (b ρ) d := rfl
@[simp] theorem j_rCh2x (op op' : CmpOp) (p : Op) (e : EV) (ρ : Evm) (d : M Op) : rCh2 op op' p (.exc e ρ) d = .exc e ρ := rfl
@[simp] theorem j_rCh1x (op op' : CmpOp) (e : EV) (ρ : Evm) (b d : M Op) : rCh1 op op' (.exc e ρ) b d = .exc e ρ := rfl
@[simp] theorem j_kChain (op op' : CmpOp) (a b d : M Op) (ρ : Evm) : kChain op op' a b d ρ = rCh1 op op' (a ρ) b d := by
  show bnd a _ ρ = _
  unfold bnd rCh1
  cases a ρ with
  | ok p ρ1 =>
    show bnd b _ ρ1 = rCh2 op op' p (b ρ1) d
    unfold bnd rCh2
    cases b ρ1 with
    | ok q ρ2 =>
      refine (rIf_eq (fin2 p q (fCmpT op)) (bnd d fun r => fin2 q r fun y z => lft (cmpD op' y z)) (pure false) ρ2).trans ?_
      have e : (bnd d fun r => fin2 q r fun y z => lft (cmpD op' y z)) = kEnd2 op' q d := by
        funext ρ3
        unfold bnd kEnd2 r2b
        cases d ρ3 <;> rfl
      rw [e] <;> rfl
    | exc e ρ' => rfl
    | stk => rfl
  | exc e ρ' => rfl
  | stk => rfl
def rBv (r : Res Bool) : Res (D × Bool) := match r with
  | .ok k ρ => .ok (.bl k, false) ρ
  | .exc e ρ => .exc e ρ
  | .stk => .stk
@[simp] theorem j_rBv (k : Bool) (ρ : Evm) : rBv (.ok k ρ) = .ok (.bl k, false) ρ := rfl
@[simp] theorem j_rBvx (e : EV) (ρ : Evm) : rBv (.exc e ρ) = .exc e ρ := rfl
@[simp] theorem j_kChainV (op op' : CmpOp) (a b d : M Op) (ρ : Evm) : kChainV op op' a b d ρ = rBv (kChain op op' a b d ρ) := by
  show bnd _ _ ρ = _
  unfold bnd rBv
  cases kChain op op' a b d ρ <;> rfl

/-! ### what is walked -/
@[simp] theorem j_wLi (a : M Op) (ρ : Evm) : wLi a ρ = rM (a ρ) srcLi := rM_eq _ _ _
@[simp] theorem j_srcT (xs : List D) (ρ : Evm) : srcLi (.vl (.tup xs)) ρ = .ok (.li (.vl (.tup xs))) ρ := rfl
@[simp] theorem j_srcL (xs : List D) (ρ : Evm) : srcLi (.vl (.lst xs)) ρ = .ok (.li (.vl (.lst xs))) ρ := rfl
@[simp] theorem j_srcR (xs : List D) (ρ : Evm) : srcLi (.vl (.scr xs)) ρ = .ok (.li (.vl (.scr xs))) ρ := rfl
@[simp] theorem j_srcS (x : Str) (ρ : Evm) : srcLi (.vl (.str x)) ρ = .ok (.sr x) ρ := rfl
def plL (s : Option Sl) (i : Nat) (r : Src) (ρ : Evm) : Res Src := match s with
  | some (.o (.lst _)) => .ok r ρ
  | some (.l (.lst _)) => .ok r ρ
  | some (.d (.lst _)) => .ok r ρ
  | some (.f (.lst _)) => .ok r ρ
  | _ => .stk
@[simp] theorem j_plLo (xs : List D) (i : Nat) (r : Src) (ρ : Evm) : plL (some (.o (.lst xs))) i r ρ = .ok r ρ := rfl
@[simp] theorem j_plLl (xs : List D) (i : Nat) (r : Src) (ρ : Evm) : plL (some (.l (.lst xs))) i r ρ = .ok r ρ := rfl
@[simp] theorem j_srcP (i : Nat) (ρ : Evm) : srcLi (.pl i) ρ = plL ρ[i]? i (.li (.pl i)) ρ := by
  unfold srcLi plL
  simp only [opT, opL, look]
  cases h : ρ[i]? with
  | none => rfl
  | some s => cases s with
    | e => rfl
    | x e => rfl
    | d x => cases x <;> rfl
    | o x => cases x <;> rfl
    | l x => cases x <;> rfl
    | f x => cases x <;> rfl
def rgM1 (xs : List D) : M Src := fun ρ => match xs with
  | [.int j] => if okRg j then .ok (.rg 0 1 j.toNat) ρ else .stk
  | _ => .stk
@[simp] theorem j_rgM1 (j : Int) (ρ : Evm) : rgM1 [.int j] ρ = if okRg j then .ok (.rg 0 1 j.toNat) ρ else .stk := rfl
@[simp] theorem j_wRg1 (a : M (List D)) (ρ : Evm) : wRg1 a ρ = rM (a ρ) rgM1 := by
  refine (rM_eq _ _ _).trans ?_
  congr 1
  funext xs ρ
  rcases xs with _ | ⟨x, _ | ⟨y, r⟩⟩
  · rfl
  · cases x <;> try rfl
    rename_i j
    simp only [j_rgM1]
    cases okRg j <;> rfl
  · cases x <;> rfl
def rrM1 (r : D × Bool) : M Src := fun ρ => match r.1 with
  | .int j => if okRg j then .ok (.rg ((j.toNat : Int) - 1) (-1) j.toNat) ρ else .stk
  | _ => .stk
@[simp] theorem j_rrM1 (j : Int) (b : Bool) (ρ : Evm) : rrM1 (.int j, b) ρ = if okRg j then .ok (.rg ((j.toNat : Int) - 1) (-1) j.toNat) ρ else .stk := rfl
@[simp] theorem j_wRR1 (a : M (D × Bool)) (ρ : Evm) : wRR1 a ρ = rM (a ρ) rrM1 := by
  have z : okRg 0 = true := by decide
  unfold wRR1 bnd rM
  cases a ρ with
  | ok r ρ1 =>
    obtain ⟨x, b⟩ := r
    cases x <;> try rfl
    rename_i j
    simp only [j_rrM1]
    cases h : okRg j with
    | false => rfl
    | true =>
      show (match okRg 0 && okRg j with
        | true => (pure (.rg (0 + (((j - 0).toNat : Nat) : Int) - 1) (-1) (j - 0).toNat) : M Src)
        | false => stk) ρ1 = _
      rw [z, h]
      simp
  | exc e ρ1 => rfl
  | stk => rfl
def rgM2 (xs : List D) : M Src := fun ρ => match xs with
  | [.int i, .int j] => if okRg i && okRg j then .ok (.rg i 1 (j - i).toNat) ρ else .stk
  | _ => .stk
@[simp] theorem j_rgM2 (i j : Int) (ρ : Evm) : rgM2 [.int i, .int j] ρ = if okRg i && okRg j then .ok (.rg i 1 (j - i).toNat) ρ else .stk := rfl
@[simp] theorem j_wRg2 (a : M (List D)) (ρ : Evm) : wRg2 a ρ = rM (a ρ) rgM2 := by
  refine (rM_eq _ _ _).trans ?_
  congr 1
  funext xs ρ
  rcases xs with _ | ⟨x, _ | ⟨y, _ | ⟨z, r⟩⟩⟩
  · rfl
  · cases x <;> rfl
  · cases x <;> cases y <;> try rfl
    rename_i i j
    simp only [j_rgM2]
    cases (okRg i && okRg j) <;> rfl
  · cases x <;> cases y <;> rfl
def rgM3 (xs : List D) : M Src := fun ρ => match xs with
  | [.int i, .int j, .int k] => if decide (k ≠ 0) && (decide (k.natAbs < 1073741824) && Builtin.Range.small i j k) then .ok (.rg i k (Builtin.Range.rangeSize i j k).toNat) ρ else .stk
  | _ => .stk
@[simp] theorem j_rgM3 (i j k : Int) (ρ : Evm) : rgM3 [.int i, .int j, .int k] ρ = if decide (k ≠ 0) && (decide (k.natAbs < 1073741824) && Builtin.Range.small i j k) then .ok (.rg i k (Builtin.Range.rangeSize i j k).toNat) ρ else .stk := rfl
@[simp] theorem j_wRg3 (a : M (List D)) (ρ : Evm) : wRg3 a ρ = rM (a ρ) rgM3 := by
  refine (rM_eq _ _ _).trans ?_
  congr 1
  funext xs ρ
  rcases xs with _ | ⟨x, _ | ⟨y, _ | ⟨z, _ | ⟨u, r⟩⟩⟩⟩
  · rfl
  · cases x <;> rfl
  · cases x <;> cases y <;> rfl
  · cases x <;> cases y <;> cases z <;> try rfl
    rename_i i j k
    simp only [j_rgM3]
    cases (decide (k ≠ 0) && (decide (k.natAbs < 1073741824) && Builtin.Range.small i j k)) <;> rfl
  · cases x <;> cases y <;> cases z <;> rfl
def zpM (ps : List Op) : M Src := match ps with
  | [p, q] => srcZp p q
  | _ => stk
@[simp] theorem j_zpM (p q : Op) (ρ : Evm) : zpM [p, q] ρ = srcZp p q ρ := rfl
@[simp] theorem j_wZp (a : M (List Op)) (ρ : Evm) : wZp a ρ = rM (a ρ) zpM := by
  refine (rM_eq _ _ _).trans ?_
  rfl
@[simp] theorem j_zpT (xs ys : List D) (ρ : Evm) : srcZp (.vl (.tup xs)) (.vl (.tup ys)) ρ = .ok (.zp (.vl (.tup xs)) (.vl (.tup ys))) ρ := rfl
@[simp] theorem j_zpL (xs ys : List D) (ρ : Evm) : srcZp (.vl (.lst xs)) (.vl (.lst ys)) ρ = .ok (.zp (.vl (.lst xs)) (.vl (.lst ys))) ρ := rfl
def enM (ps : List Op) : M Src := match ps with
  | [p] => srcEn p
  | _ => stk
@[simp] theorem j_enM (p : Op) (ρ : Evm) : enM [p] ρ = srcEn p ρ := rfl
@[simp] theorem j_wEn (a : M (List Op)) (ρ : Evm) : wEn a ρ = rM (a ρ) enM := by
  refine (rM_eq _ _ _).trans ?_
  rfl
@[simp] theorem j_enL (xs : List D) (ρ : Evm) : srcEn (.vl (.lst xs)) ρ = .ok (.en (.vl (.lst xs))) ρ := rfl
@[simp] theorem j_enT (xs : List D) (ρ : Evm) : srcEn (.vl (.tup xs)) ρ = .ok (.en (.vl (.tup xs))) ρ := rfl
@[simp] theorem j_wRv (a : M Op) (ρ : Evm) : wRv a ρ = rM (a ρ) srcRv := rM_eq _ _ _
@[simp] theorem j_rvT (xs : List D) (ρ : Evm) : srcRv (.vl (.tup xs)) ρ = .ok (.rv (.vl (.tup xs)) xs.length) ρ := rfl
@[simp] theorem j_rvL (xs : List D) (ρ : Evm) : srcRv (.vl (.lst xs)) ρ = .ok (.rv (.vl (.lst xs)) xs.length) ρ := rfl
@[simp] theorem j_bN (i : Nat) (d : D) (ρ : Evm) : bN i d ρ = stS' ρ[i]? i d false ρ := rfl
@[simp] theorem j_bT (fs : List (D → M Unit)) (xs : List D) (ρ : Evm) : bT fs (.tup xs) ρ = bL fs xs ρ := rfl
@[simp] theorem j_bL0 (ρ : Evm) : bL [] [] ρ = .ok () ρ := rfl
def rB (r : Res Unit) (fs : List (D → M Unit)) (xs : List D) : Res Unit := match r with
  | .ok _ ρ => bL fs xs ρ
  | .exc e ρ => .exc e ρ
  | .stk => .stk
@[simp] theorem j_rB (x : Unit) (ρ : Evm) (fs : List (D → M Unit)) (xs : List D) : rB (.ok x ρ) fs xs = bL fs xs ρ := rfl
@[simp] theorem j_bL1 (f : D → M Unit) (fs : List (D → M Unit)) (x : D) (xs : List D) (ρ : Evm) : bL (f :: fs) (x :: xs) ρ = rB (f x ρ) fs xs := by
  show bnd (f x) (fun _ => bL fs xs) ρ = _
  unfold bnd rB
  cases f x ρ <;> rfl
@[simp] theorem j_tYes (ρ : Evm) : tYes' ρ = .ok true ρ := rfl
def adD (acc : List D) (r : D × Bool) : M (List D) := fun ρ => if acc.length < sizeLine then .ok (acc ++ [r.1]) ρ else .stk
@[simp] theorem j_adD (acc : List D) (r : D × Bool) (ρ : Evm) : adD acc r ρ = if acc.length < sizeLine then .ok (acc ++ [r.1]) ρ else .stk := rfl
def kAd (e : M (D × Bool)) (acc : List D) : M (List D) := fun ρ => rM (e ρ) (adD acc)
@[simp] theorem j_kAd (e : M (D × Bool)) (acc : List D) (ρ : Evm) : kAd e acc ρ = rM (e ρ) (adD acc) := rfl
def kAcc (acc : List D) : M (List D) := fun ρ => .ok acc ρ
@[simp] theorem j_kAcc (acc : List D) (ρ : Evm) : kAcc acc ρ = .ok acc ρ := rfl
def rSt (r : Res Unit) (t : M Bool) (e : M (D × Bool)) (acc : List D) : Res (List D) := match r with
  | .ok _ ρ => rIf (t ρ) (kAd e acc) (kAcc acc)
  | .exc e ρ => .exc e ρ
  | .stk => .stk
@[simp] theorem j_rSt (x : Unit) (ρ : Evm) (t : M Bool) (e : M (D × Bool)) (acc : List D) : rSt (.ok x ρ) t e acc = rIf (t ρ) (kAd e acc) (kAcc acc) := rfl
@[simp] theorem j_kStep (b : D → M Unit) (t : M Bool) (e : M (D × Bool)) (acc : List D) (d : D) (ρ : Evm) : kStep b t e acc d ρ = rSt (b d ρ) t e acc := by
  show bnd (b d) _ ρ = _
  unfold bnd rSt
  cases b d ρ with
  | ok x ρ' =>
    refine (rIf_eq t (bnd e fun r => addA acc r.1) (pure acc) ρ').trans ?_
    have h : (bnd e fun r => addA acc r.1) = kAd e acc := by
      funext ρ2
      rw [rM_eq]
      show _ = rM (e ρ2) (adD acc)
      congr 1
      funext r ρ3
      show addA acc r.1 ρ3 = if acc.length < sizeLine then .ok (acc ++ [r.1]) ρ3 else .stk
      unfold addA
      by_cases h : acc.length < sizeLine
      · rw [decide_eq_true h, if_pos h] <;> rfl
      · rw [decide_eq_false h, if_neg h] <;> rfl
    rw [h] <;> rfl
  | exc e ρ' => rfl
  | stk => rfl
def mkLc (acc : List D) : M (D × Bool) := fun ρ => .ok (.lst acc, true) ρ
@[simp] theorem j_mkLc (acc : List D) (ρ : Evm) : mkLc acc ρ = .ok (.lst acc, true) ρ := rfl
def rLc (r : Res Src) (tf : Nat) (vs : List Nat) (step : List D → D → M (List D)) : Res (D × Bool) := match r with
  | .ok s ρ => rM (walkAt tf s vs step [] ρ) mkLc
  | .exc e ρ => .exc e ρ
  | .stk => .stk
@[simp] theorem j_rLc (s : Src) (ρ : Evm) (tf : Nat) (vs : List Nat) (step : List D → D → M (List D)) : rLc (.ok s ρ) tf vs step = rM (walkAt tf s vs step [] ρ) mkLc := rfl
@[simp] theorem j_rLcx (e : EV) (ρ : Evm) (tf : Nat) (vs : List Nat) (step : List D → D → M (List D)) : rLc (.exc e ρ) tf vs step = .exc e ρ := rfl
@[simp] theorem j_kLc (tf : Nat) (s : M Src) (vs : List Nat) (step : List D → D → M (List D)) (ρ : Evm) : kLc tf s vs step ρ = rLc (s ρ) tf vs step := by
  show bnd s _ ρ = _
  unfold bnd rLc
  cases s ρ with
  | ok s ρ' => exact rM_eq _ _ _
  | exc e ρ' => rfl
  | stk => rfl

/-! ### statements -/
def rSq (r : Res Flow') (k : M Flow') : Res Flow' := match r with
  | .ok .nx ρ => k ρ
  | r => r
@[simp] theorem j_rSq (ρ : Evm) (k : M Flow') : rSq (.ok .nx ρ) k = k ρ := rfl
@[simp] theorem j_rSqb (ρ : Evm) (k : M Flow') : rSq (.ok .bk ρ) k = .ok .bk ρ := rfl
@[simp] theorem j_rSqc (ρ : Evm) (k : M Flow') : rSq (.ok .ct ρ) k = .ok .ct ρ := rfl
@[simp] theorem j_rSqr (d : D) (u : Bool) (ρ : Evm) (k : M Flow') : rSq (.ok (.rt d u) ρ) k = .ok (.rt d u) ρ := rfl
@[simp] theorem j_rSqx (e : EV) (ρ : Evm) (k : M Flow') : rSq (.exc e ρ) k = .exc e ρ := rfl
@[simp] theorem j_sq (m k : M Flow') (ρ : Evm) : sq m k ρ = rSq (m ρ) k := by
  show bnd m _ ρ = _
  unfold bnd rSq
  cases m ρ with
  | ok f ρ' => cases f <;> rfl
  | exc e ρ' => rfl
  | stk => rfl
@[simp] theorem j_sNil (ρ : Evm) : sNil ρ = .ok .nx ρ := rfl
@[simp] theorem j_kBk (ρ : Evm) : kBk ρ = .ok .bk ρ := rfl
@[simp] theorem j_kCt (ρ : Evm) : kCt ρ = .ok .ct ρ := rfl
def exN (r : D × Bool) : M Flow' := fun ρ => .ok .nx ρ
@[simp] theorem j_exN (r : D × Bool) (ρ : Evm) : exN r ρ = .ok .nx ρ := rfl
@[simp] theorem j_kEx (e : M (D × Bool)) (ρ : Evm) : kEx e ρ = rM (e ρ) exN := rM_eq _ _ _
def rtN (r : D × Bool) : M Flow' := fun ρ => .ok (.rt r.1 r.2) ρ
@[simp] theorem j_rtN (r : D × Bool) (ρ : Evm) : rtN r ρ = .ok (.rt r.1 r.2) ρ := rfl
@[simp] theorem j_kRet (e : M (D × Bool)) (ρ : Evm) : kRet e ρ = rM (e ρ) rtN := rM_eq _ _ _
def rtS (s : Option Sl) (i : Nat) (ρ : Evm) : Res Flow' := match s with
  | some (.o d) => .ok (.rt d true) ρ
  | some (.d d) => .ok (.rt d false) ρ
  | some (.f d) => .ok (.rt d false) ρ
  | some (.l d) => .ok (.rt d false) (ρ.set i (.f d))
  | _ => .stk
@[simp] theorem j_rtSo (d : D) (i : Nat) (ρ : Evm) : rtS (some (.o d)) i ρ = .ok (.rt d true) ρ := rfl
@[simp] theorem j_rtSd (d : D) (i : Nat) (ρ : Evm) : rtS (some (.d d)) i ρ = .ok (.rt d false) ρ := rfl
@[simp] theorem j_rtSf (d : D) (i : Nat) (ρ : Evm) : rtS (some (.f d)) i ρ = .ok (.rt d false) ρ := rfl
@[simp] theorem j_rtSl (d : D) (i : Nat) (ρ : Evm) : rtS (some (.l d)) i ρ = .ok (.rt d false) (ρ.set i (.f d)) := rfl
@[simp] theorem j_kRetV (i : Nat) (ρ : Evm) : kRetV i ρ = rtS ρ[i]? i ρ := by
  unfold kRetV rtS
  cases h : ρ[i]? with
  | none => simp [bnd, kVar, rd, h]
  | some s => cases s <;> simp [bnd, kVar, rd, h]
@[simp] theorem j_kRetN (ρ : Evm) : kRetN ρ = .ok (.rt .non false) ρ := rfl
def rN (r : Res Unit) : Res Flow' := match r with
  | .ok _ ρ => .ok .nx ρ
  | .exc e ρ => .exc e ρ
  | .stk => .stk
@[simp] theorem j_rN (x : Unit) (ρ : Evm) : rN (.ok x ρ) = .ok .nx ρ := rfl
theorem rN_eq (m : M Unit) (ρ : Evm) : (bnd m fun _ => (pure .nx : M Flow')) ρ = rN (m ρ) := by
  unfold bnd rN
  cases m ρ <;> rfl
def seN (i : Nat) (r : D × Bool) : M Flow' := fun ρ => rN (stS' ρ[i]? i r.1 r.2 ρ)
@[simp] theorem j_seN (i : Nat) (r : D × Bool) (ρ : Evm) : seN i r ρ = rN (stS' ρ[i]? i r.1 r.2 ρ) := rfl
@[simp] theorem j_kSet (i : Nat) (m : M (D × Bool)) (ρ : Evm) : kSet i m ρ = rM (m ρ) (seN i) := by
  refine (rM_eq _ _ _).trans ?_
  congr 1
  funext r ρ
  exact rN_eq _ _
def paN2 (i j : Nat) (r1 : D × Bool) (r2 : D × Bool) : M Flow' := fun ρ => rSq (rN (stS' ρ[i]? i r1.1 r1.2 ρ)) (seN j r2)
@[simp] theorem j_paN2 (i j : Nat) (r1 r2 : D × Bool) (ρ : Evm) : paN2 i j r1 r2 ρ = rSq (rN (stS' ρ[i]? i r1.1 r1.2 ρ)) (seN j r2) := rfl
def paN (i j : Nat) (b : M (D × Bool)) (r1 : D × Bool) : M Flow' := fun ρ => rM (b ρ) (paN2 i j r1)
@[simp] theorem j_paN (i j : Nat) (b : M (D × Bool)) (r1 : D × Bool) (ρ : Evm) : paN i j b r1 ρ = rM (b ρ) (paN2 i j r1) := rfl
@[simp] theorem j_kPar (i j : Nat) (a b : M (D × Bool)) (ρ : Evm) : kPar i j a b ρ = rM (a ρ) (paN i j b) := by
  refine (rM_eq _ _ _).trans ?_
  congr 1
  funext r1 ρ
  refine (rM_eq _ _ _).trans ?_
  show _ = rM (b ρ) (paN2 i j r1)
  congr 1
  funext r2 ρ
  show bnd (st i r1.1 r1.2) _ ρ = rSq (rN (st i r1.1 r1.2 ρ)) (seN j r2)
  unfold bnd
  cases st i r1.1 r1.2 ρ with
  | ok x ρ' => exact rN_eq _ _
  | exc e ρ' => rfl
  | stk => rfl
def p3N (i j l : Nat) (xs : List D) : M Flow' := fun ρ => match xs with
  | [u, v, w] => rSq (rN (stS' ρ[i]? i u false ρ)) (paN2 j l (v, false) (w, false))
  | _ => .stk
@[simp] theorem j_p3N (i j l : Nat) (u v w : D) (ρ : Evm) : p3N i j l [u, v, w] ρ = rSq (rN (stS' ρ[i]? i u false ρ)) (paN2 j l (v, false) (w, false)) := rfl
@[simp] theorem j_kPar3 (i j l : Nat) (a : M (List D)) (ρ : Evm) : kPar3 i j l a ρ = rM (a ρ) (p3N i j l) := by
  refine (rM_eq _ _ _).trans ?_
  congr 1
  funext xs ρ
  rcases xs with _ | ⟨u, _ | ⟨v, _ | ⟨w, _ | ⟨z, r⟩⟩⟩⟩ <;> try rfl
  show bnd (st i u false) _ ρ = rSq (rN (st i u false ρ)) (paN2 j l (v, false) (w, false))
  unfold bnd
  cases st i u false ρ with
  | ok x ρ' =>
    show bnd (st j v false) _ ρ' = rSq (rN (st j v false ρ')) (seN l (w, false))
    unfold bnd
    cases st j v false ρ' with
    | ok x ρ' => exact rN_eq _ _
    | exc e ρ' => rfl
    | stk => rfl
  | exc e ρ' => rfl
  | stk => rfl
def tuN (b : D → M Unit) (r : D × Bool) : M Flow' := fun ρ => rN (b r.1 ρ)
@[simp] theorem j_tuN (b : D → M Unit) (r : D × Bool) (ρ : Evm) : tuN b r ρ = rN (b r.1 ρ) := rfl
@[simp] theorem j_kTupS (b : D → M Unit) (m : M (D × Bool)) (ρ : Evm) : kTupS b m ρ = rM (m ρ) (tuN b) := by
  refine (rM_eq _ _ _).trans ?_
  congr 1
  funext r ρ
  exact rN_eq _ _
def siS (s : Option Sl) (i : Nat) (k v : D) (ρ : Evm) : Res Unit := match s with
  | some (.o x) => (match setD x k v with
    | some y => .ok () (ρ.set i (.o y))
    | none => .stk)
  | some (.l x) => (match setD x k v with
    | some y => .ok () (ρ.set i (.l y))
    | none => .stk)
  | _ => .stk
def siO (y : Option D) (i : Nat) (ρ : Evm) : Res Unit := match y with
  | some y => .ok () (ρ.set i (.o y))
  | none => .stk
def siL (y : Option D) (i : Nat) (ρ : Evm) : Res Unit := match y with
  | some y => .ok () (ρ.set i (.l y))
  | none => .stk
@[simp] theorem j_siO (y : D) (i : Nat) (ρ : Evm) : siO (some y) i ρ = .ok () (ρ.set i (.o y)) := rfl
@[simp] theorem j_siL (y : D) (i : Nat) (ρ : Evm) : siL (some y) i ρ = .ok () (ρ.set i (.l y)) := rfl
@[simp] theorem j_siSo (x : D) (i : Nat) (k v : D) (ρ : Evm) : siS (some (.o x)) i k v ρ = siO (setD x k v) i ρ := rfl
@[simp] theorem j_siSl (x : D) (i : Nat) (k v : D) (ρ : Evm) : siS (some (.l x)) i k v ρ = siL (setD x k v) i ρ := rfl
def suN2 (i : Nat) (v : D) (k : D × Bool) : M Flow' := fun ρ => rN (siS ρ[i]? i k.1 v ρ)
@[simp] theorem j_suN2 (i : Nat) (v : D) (k : D × Bool) (ρ : Evm) : suN2 i v k ρ = rN (siS ρ[i]? i k.1 v ρ) := rfl
def suN1 (b : Bool) (i : Nat) (ix : M (D × Bool)) (v : D) (ρ : Evm) : Res Flow' := match b with
  | true => rM (ix ρ) (suN2 i v)
  | false => .stk
@[simp] theorem j_suN1 (i : Nat) (ix : M (D × Bool)) (v : D) (ρ : Evm) : suN1 true i ix v ρ = rM (ix ρ) (suN2 i v) := rfl
def suN (i : Nat) (ix : M (D × Bool)) (r : D × Bool) : M Flow' := fun ρ => suN1 (olS ρ[i]?) i ix r.1 ρ
@[simp] theorem j_suN (i : Nat) (ix : M (D × Bool)) (r : D × Bool) (ρ : Evm) : suN i ix r ρ = suN1 (olS ρ[i]?) i ix r.1 ρ := rfl
@[simp] theorem j_kSub (i : Nat) (ix m : M (D × Bool)) (ρ : Evm) : kSub i ix m ρ = rM (m ρ) (suN i ix) := by
  refine (rM_eq _ _ _).trans ?_
  congr 1
  funext r ρ
  show (match ownL ρ i with
    | true => bnd ix (fun k => bnd (setIn i k.1 r.1) fun _ => pure Flow'.nx) ρ
    | false => .stk) = suN1 (ownL ρ i) i ix r.1 ρ
  cases ownL ρ i with
  | false => rfl
  | true =>
    refine (rM_eq _ _ _).trans ?_
    show _ = rM (ix ρ) (suN2 i r.1)
    congr 1
    funext k ρ
    exact rN_eq _ _
def auN2 (i : Nat) (z : Option D) (ρ : Evm) : Res Flow' := match z with
  | some z => rN (stS' ρ[i]? i z false ρ)
  | none => .stk
@[simp] theorem j_auN2 (i : Nat) (z : D) (ρ : Evm) : auN2 i (some z) ρ = rN (stS' ρ[i]? i z false ρ) := rfl
def auN (i : Nat) (op : Operator) (x : D) (r : D × Bool) : M Flow' := fun ρ => auN2 i (augD op x r.1) ρ
@[simp] theorem j_auN (i : Nat) (op : Operator) (x : D) (r : D × Bool) (ρ : Evm) : auN i op x r ρ = auN2 i (augD op x r.1) ρ := rfl
def rAu (s : Option D) (i : Nat) (op : Operator) (m : M (D × Bool)) (ρ : Evm) : Res Flow' := match s with
  | some (.int k) => rM (m ρ) (auN i op (.int k))
  | some (.str k) => rM (m ρ) (auN i op (.str k))
  | _ => .stk
@[simp] theorem j_rAui (k : Int) (i : Nat) (op : Operator) (m : M (D × Bool)) (ρ : Evm) : rAu (some (.int k)) i op m ρ = rM (m ρ) (auN i op (.int k)) := rfl
@[simp] theorem j_rAus (k : Str) (i : Nat) (op : Operator) (m : M (D × Bool)) (ρ : Evm) : rAu (some (.str k)) i op m ρ = rM (m ρ) (auN i op (.str k)) := rfl
theorem au_eq (i : Nat) (op : Operator) (m : M (D × Bool)) (x : D) (ρ : Evm) : bnd m (fun r => bnd (lft (augD op x r.1)) fun z => bnd (st i z false) fun _ => (pure .nx : M Flow')) ρ = rM (m ρ) (auN i op x) := by
  refine (rM_eq _ _ _).trans ?_
  congr 1
  funext r ρ
  show bnd (lft (augD op x r.1)) _ ρ = auN2 i (augD op x r.1) ρ
  cases augD op x r.1 with
  | none => rfl
  | some z => exact rN_eq _ _
@[simp] theorem j_kAug (i : Nat) (op : Operator) (m : M (D × Bool)) (ρ : Evm) : kAug i op m ρ = rAu (loS ρ[i]?) i op m ρ := by
  show (match look ρ i with
  | some x => (match isImm x with
    | true => bnd m (fun r => bnd (lft (augD op x r.1)) fun z => bnd (st i z false) fun _ => (pure Flow'.nx : M Flow')) ρ
    | false => Res.stk)
  | none => Res.stk) = _
  rw [j_look]
  cases loS ρ[i]? with
  | none => rfl
  | some x => cases x <;> first | rfl | exact au_eq _ _ _ _ _
def rFor (r : Res Src) (tf : Nat) (b : D → M Unit) (body : M Flow') : Res Flow' := match r with
  | .ok s ρ => forAt tf s b body ρ
  | .exc e ρ => .exc e ρ
  | .stk => .stk
@[simp] theorem j_rFor (s : Src) (ρ : Evm) (tf : Nat) (b : D → M Unit) (body : M Flow') : rFor (.ok s ρ) tf b body = forAt tf s b body ρ := rfl
@[simp] theorem j_rForx (e : EV) (ρ : Evm) (tf : Nat) (b : D → M Unit) (body : M Flow') : rFor (.exc e ρ) tf b body = .exc e ρ := rfl
@[simp] theorem j_kFor (tf : Nat) (s : M Src) (b : D → M Unit) (body : M Flow') (ρ : Evm) : kFor tf s b body ρ = rFor (s ρ) tf b body := by
  show bnd s _ ρ = _
  unfold bnd rFor
  cases s ρ <;> rfl
@[simp] theorem j_kWhile (tf : Nat) (t : M Bool) (body : M Flow') (ρ : Evm) : kWhile tf t body ρ = whileW t body tf ρ := rfl
def rvN (x f : Str) (r : D × Bool) : M Flow' := fun ρ => .exc ⟨x, some (f, r.1)⟩ ρ
@[simp] theorem j_rvN (x f : Str) (r : D × Bool) (ρ : Evm) : rvN x f r ρ = .exc ⟨x, some (f, r.1)⟩ ρ := rfl
@[simp] theorem j_kRaiseV (x f : Str) (e : M (D × Bool)) (ρ : Evm) : kRaiseV x f e ρ = rM (e ρ) (rvN x f) := rM_eq _ _ _
@[simp] theorem j_kRaise (x : Str) (ρ : Evm) : kRaise x ρ = .exc ⟨x, none⟩ ρ := rfl

/-! ### loops -/
def rLo2 (r : Res Flow') (k : M Flow') : Res Flow' := match r with
  | .ok .nx ρ => k ρ
  | .ok .ct ρ => k ρ
  | .ok .bk ρ => .ok .nx ρ
  | r => r
@[simp] theorem j_lo2n (ρ : Evm) (k : M Flow') : rLo2 (.ok .nx ρ) k = k ρ := rfl
@[simp] theorem j_lo2c (ρ : Evm) (k : M Flow') : rLo2 (.ok .ct ρ) k = k ρ := rfl
@[simp] theorem j_lo2b (ρ : Evm) (k : M Flow') : rLo2 (.ok .bk ρ) k = .ok .nx ρ := rfl
@[simp] theorem j_lo2r (d : D) (u : Bool) (ρ : Evm) (k : M Flow') : rLo2 (.ok (.rt d u) ρ) k = .ok (.rt d u) ρ := rfl
@[simp] theorem j_lo2x (e : EV) (ρ : Evm) (k : M Flow') : rLo2 (.exc e ρ) k = .exc e ρ := rfl
def rLo1 (r : Res Unit) (body : M Flow') (k : M Flow') : Res Flow' := match r with
  | .ok _ ρ => rLo2 (body ρ) k
  | _ => .stk
@[simp] theorem j_lo1 (x : Unit) (ρ : Evm) (body k : M Flow') : rLo1 (.ok x ρ) body k = rLo2 (body ρ) k := rfl
@[simp] theorem j_forL0 (bd : D → M Unit) (body : M Flow') (ρ : Evm) : forL bd body [] ρ = .ok .nx ρ := rfl
@[simp] theorem j_forL1 (bd : D → M Unit) (body : M Flow') (x : D) (xs : List D) (ρ : Evm) : forL bd body (x :: xs) ρ = rLo1 (bd x ρ) body (forL bd body xs) := by
  conv => lhs; unfold forL
  unfold rLo1
  cases bd x ρ with
  | ok a ρ1 =>
    dsimp only
    unfold rLo2
    cases body ρ1 with
    | ok f ρ2 => cases f <;> rfl
    | exc e ρ2 => rfl
    | stk => rfl
  | exc e ρ' => rfl
  | stk => rfl
section
variable (bd : D → M Unit) (body : M Flow') (ρ : Evm) (xs ys : List D)
@[simp] theorem j_forT : forAt TF (.li (.vl (.tup xs))) bd body ρ = forL bd body xs ρ := forAt_L (fx_tup xs) TF_pos ρ
@[simp] theorem j_forLi : forAt TF (.li (.vl (.lst xs))) bd body ρ = forL bd body xs ρ := forAt_L (fx_lst xs) TF_pos ρ
@[simp] theorem j_forS : forAt TF (.li (.vl (.scr xs))) bd body ρ = forL bd body xs ρ := forAt_L (fx_scr xs) TF_pos ρ
@[simp] theorem j_forR (lo step : Int) (n : Nat) : forAt TF (.rg lo step n) bd body ρ = forL bd body (rgL lo step n) ρ := forAt_L (fx_rg lo step n) TF_pos ρ
theorem j_forZT (h : xs.length = ys.length) : forAt TF (.zp (.vl (.tup xs)) (.vl (.tup ys))) bd body ρ = forL bd body (zpL xs ys) ρ := forAt_L (fx_zpT xs ys h) TF_pos ρ
theorem j_forZL (h : xs.length = ys.length) : forAt TF (.zp (.vl (.lst xs)) (.vl (.lst ys))) bd body ρ = forL bd body (zpL xs ys) ρ := forAt_L (fx_zpL xs ys h) TF_pos ρ
@[simp] theorem j_forEn : forAt TF (.en (.vl (.lst xs))) bd body ρ = forL bd body (xs.mapIdx fun i x => .tup [.int (i : Int), x]) ρ := forAt_L (fx_enL xs) TF_pos ρ
@[simp] theorem j_forEnT : forAt TF (.en (.vl (.tup xs))) bd body ρ = forL bd body (xs.mapIdx fun i x => .tup [.int (i : Int), x]) ρ := forAt_L (fx_enT xs) TF_pos ρ
@[simp] theorem j_forRvT {n : Nat} (h : n = xs.length) : forAt TF (.rv (.vl (.tup xs)) n) bd body ρ = forL bd body xs.reverse ρ := by rw [h]; exact forAt_L (fx_rvT xs) TF_pos ρ
@[simp] theorem j_forRvL {n : Nat} (h : n = xs.length) : forAt TF (.rv (.vl (.lst xs)) n) bd body ρ = forL bd body xs.reverse ρ := by rw [h]; exact forAt_L (fx_rvL xs) TF_pos ρ
end
def rWk (r : Res (List D)) (ρ : Evm) (vs : List Nat) : Res (List D) := match r with
  | .ok acc ρ' => .ok acc (rest ρ ρ' vs)
  | _ => .stk
@[simp] theorem j_rWk (acc : List D) (ρ' ρ : Evm) (vs : List Nat) : rWk (.ok acc ρ') ρ vs = .ok acc (rest ρ ρ' vs) := rfl
def rW2 (b : Bool) (acc : List D) (ρ : Evm) (vs : List Nat) (k : List D → M (List D)) : Res (List D) := match b with
  | true => k acc (wipeD ρ vs)
  | false => .stk
@[simp] theorem j_rW2 (acc : List D) (ρ : Evm) (vs : List Nat) (k : List D → M (List D)) : rW2 true acc ρ vs k = k acc (wipeD ρ vs) := rfl
def rW1 (r : Res (List D)) (vs : List Nat) (k : List D → M (List D)) : Res (List D) := match r with
  | .ok acc ρ => rW2 (wipeOk ρ vs) acc ρ vs k
  | _ => .stk
@[simp] theorem j_rW1 (acc : List D) (ρ : Evm) (vs : List Nat) (k : List D → M (List D)) : rW1 (.ok acc ρ) vs k = rW2 (wipeOk ρ vs) acc ρ vs k := rfl
@[simp] theorem j_walkL0 (vs : List Nat) (step : List D → D → M (List D)) (acc : List D) (ρ : Evm) : walkL vs step [] acc ρ = .ok acc ρ := rfl
@[simp] theorem j_walkL1 (vs : List Nat) (step : List D → D → M (List D)) (x : D) (xs acc : List D) (ρ : Evm) : walkL vs step (x :: xs) acc ρ = rW1 (step acc x ρ) vs (walkL vs step xs) := by
  conv => lhs; unfold walkL
  unfold rW1
  cases step acc x ρ with
  | ok acc' ρ' =>
    dsimp only
    unfold rW2
    cases wipeOk ρ' vs <;> rfl
  | exc e ρ' => rfl
  | stk => rfl
def wO (s : Option Sl) : Bool := match s with
  | some .e => true
  | some (.d _) => true
  | _ => false
@[simp] theorem j_wOe : wO (some .e) = true := rfl
@[simp] theorem j_wOd (x : D) : wO (some (.d x)) = true := rfl
@[simp] theorem j_wipeOk0 (ρ : Evm) : wipeOk ρ [] = true := rfl
@[simp] theorem j_wipeOk1 (ρ : Evm) (i : Nat) (vs : List Nat) : wipeOk ρ (i :: vs) = (wO ρ[i]? && wipeOk ρ vs) := rfl
@[simp] theorem j_wipeD0 (ρ : Evm) : wipeD ρ [] = ρ := rfl
@[simp] theorem j_wipeD1 (ρ : Evm) (i : Nat) (vs : List Nat) : wipeD ρ (i :: vs) = (wipeD ρ vs).set i .e := rfl
def rsS (s : Option Sl) (v : Nat) (ρ : Evm) : Evm := match s with
  | some t => ρ.set v t
  | none => ρ
@[simp] theorem j_rsS (t : Sl) (v : Nat) (ρ : Evm) : rsS (some t) v ρ = ρ.set v t := rfl
@[simp] theorem j_rest0 (ρ0 ρ : Evm) : rest ρ0 ρ [] = ρ := rfl
@[simp] theorem j_rest1 (ρ0 ρ : Evm) (v : Nat) (vs : List Nat) : rest ρ0 ρ (v :: vs) = rsS ρ0[v]? v (rest ρ0 ρ vs) := by
  conv => lhs; unfold rest
  unfold rsS
  cases ρ0[v]? <;> rfl
theorem wk_eq {s : Src} {xs : List D} (h : Fixed s xs) (vs : List Nat) (step : List D → D → M (List D)) (ρ : Evm) : walkAt TF s vs step [] ρ = if wipeOk ρ vs then rWk (walkL vs step xs [] (wipeD ρ vs)) ρ vs else .stk := by
  by_cases hw : wipeOk ρ vs = true
  · rw [if_pos hw, walkAt_L h TF_pos ρ hw]
    unfold rWk
    cases walkL vs step xs [] (wipeD ρ vs) <;> rfl
  · rw [if_neg hw]
    unfold walkAt
    rw [Bool.not_eq_true] at hw
    rw [hw, Bool.and_false]
section
variable (vs : List Nat) (step : List D → D → M (List D)) (ρ : Evm) (xs ys : List D)
@[simp] theorem j_wkT : walkAt TF (.li (.vl (.tup xs))) vs step [] ρ = if wipeOk ρ vs then rWk (walkL vs step xs [] (wipeD ρ vs)) ρ vs else .stk := wk_eq (fx_tup xs) vs step ρ
@[simp] theorem j_wkL : walkAt TF (.li (.vl (.lst xs))) vs step [] ρ = if wipeOk ρ vs then rWk (walkL vs step xs [] (wipeD ρ vs)) ρ vs else .stk := wk_eq (fx_lst xs) vs step ρ
@[simp] theorem j_wkS : walkAt TF (.li (.vl (.scr xs))) vs step [] ρ = if wipeOk ρ vs then rWk (walkL vs step xs [] (wipeD ρ vs)) ρ vs else .stk := wk_eq (fx_scr xs) vs step ρ
@[simp] theorem j_wkR (lo st : Int) (n : Nat) : walkAt TF (.rg lo st n) vs step [] ρ = if wipeOk ρ vs then rWk (walkL vs step (rgL lo st n) [] (wipeD ρ vs)) ρ vs else .stk := wk_eq (fx_rg lo st n) vs step ρ
theorem j_wkZT (h : xs.length = ys.length) : walkAt TF (.zp (.vl (.tup xs)) (.vl (.tup ys))) vs step [] ρ = if wipeOk ρ vs then rWk (walkL vs step (zpL xs ys) [] (wipeD ρ vs)) ρ vs else .stk := wk_eq (fx_zpT xs ys h) vs step ρ
theorem j_wkZL (h : xs.length = ys.length) : walkAt TF (.zp (.vl (.lst xs)) (.vl (.lst ys))) vs step [] ρ = if wipeOk ρ vs then rWk (walkL vs step (zpL xs ys) [] (wipeD ρ vs)) ρ vs else .stk := wk_eq (fx_zpL xs ys h) vs step ρ
@[simp] theorem j_wkEn : walkAt TF (.en (.vl (.lst xs))) vs step [] ρ = if wipeOk ρ vs then rWk (walkL vs step (xs.mapIdx fun i x => .tup [.int (i : Int), x]) [] (wipeD ρ vs)) ρ vs else .stk := wk_eq (fx_enL xs) vs step ρ
@[simp] theorem j_wkEnT : walkAt TF (.en (.vl (.tup xs))) vs step [] ρ = if wipeOk ρ vs then rWk (walkL vs step (xs.mapIdx fun i x => .tup [.int (i : Int), x]) [] (wipeD ρ vs)) ρ vs else .stk := wk_eq (fx_enT xs) vs step ρ
@[simp] theorem j_wkRv {n : Nat} (h : n = xs.length) : walkAt TF (.rv (.vl (.tup xs)) n) vs step [] ρ = if wipeOk ρ vs then rWk (walkL vs step xs.reverse [] (wipeD ρ vs)) ρ vs else .stk := by rw [h]; exact wk_eq (fx_rvT xs) vs step ρ
@[simp] theorem j_wkRvL {n : Nat} (h : n = xs.length) : walkAt TF (.rv (.vl (.lst xs)) n) vs step [] ρ = if wipeOk ρ vs then rWk (walkL vs step xs.reverse [] (wipeD ρ vs)) ρ vs else .stk := by rw [h]; exact wk_eq (fx_rvL xs) vs step ρ
end
end PV
end

section
set_option maxHeartbeats 2000000
/-! Direct calls; loops by invariants. -/
namespace PV
open PySem PySem.Spec L2
open PyProof.Rows hiding St

/-! ### loops by invariants -/
/-- a loop over things: each turn ends as usual -/
theorem forL_inv {α : Type} {emb : α → D} {xs : List α} {bd : D → M Unit} {body : M Flow'} (I : List α → Evm → Prop)
    (h : ∀ pre x post ρ, xs = pre ++ x :: post → I pre ρ → ∃ ρ1 ρ2, bd (emb x) ρ = .ok () ρ1 ∧ (body ρ1 = .ok .nx ρ2 ∨ body ρ1 = .ok .ct ρ2) ∧ I (pre ++ [x]) ρ2) {ρ : Evm} (h0 : I [] ρ) :
    ∃ ρ', forL bd body (xs.map emb) ρ = .ok .nx ρ' ∧ I xs ρ' := by
  have key : ∀ (post pre : List α) (ρ : Evm), xs = pre ++ post → I pre ρ → ∃ ρ', forL bd body (post.map emb) ρ = .ok .nx ρ' ∧ I xs ρ' := by
    intro post
    induction post with
    | nil => intro pre ρ e hi; rw [List.append_nil] at e; subst e; exact ⟨ρ, rfl, hi⟩
    | cons x post ih =>
      intro pre ρ e hi
      obtain ⟨ρ1, ρ2, h1, h2, h3⟩ := h pre x post ρ e hi
      obtain ⟨ρ', h4, h5⟩ := ih (pre ++ [x]) ρ2 (by rw [e]; simp) h3
      refine ⟨ρ', ?_, h5⟩
      rw [List.map_cons]
      unfold forL
      rcases h2 with h2 | h2
      · simp only [h1, h2, h4]
      · simp only [h1, h2, h4]
  exact key xs [] ρ rfl h0
/-- a comprehension -/
theorem walkL_inv {α : Type} {emb : α → D} {xs : List α} {vs : List Nat} {step : List D → D → M (List D)} (I : List α → List D → Evm → Prop)
    (h : ∀ pre x post acc ρ, xs = pre ++ x :: post → I pre acc ρ → ∃ acc' ρ', step acc (emb x) ρ = .ok acc' ρ' ∧ wipeOk ρ' vs = true ∧ I (pre ++ [x]) acc' (wipeD ρ' vs)) {ρ : Evm} (h0 : I [] [] ρ) :
    ∃ acc ρ', walkL vs step (xs.map emb) [] ρ = .ok acc ρ' ∧ I xs acc ρ' := by
  have key : ∀ (post pre : List α) (acc : List D) (ρ : Evm), xs = pre ++ post → I pre acc ρ → ∃ acc' ρ', walkL vs step (post.map emb) acc ρ = .ok acc' ρ' ∧ I xs acc' ρ' := by
    intro post
    induction post with
    | nil => intro pre acc ρ e hi; rw [List.append_nil] at e; subst e; exact ⟨acc, ρ, rfl, hi⟩
    | cons x post ih =>
      intro pre acc ρ e hi
      obtain ⟨acc1, ρ1, h1, h2, h3⟩ := h pre x post acc ρ e hi
      obtain ⟨acc', ρ', h4, h5⟩ := ih (pre ++ [x]) acc1 _ (by rw [e]; simp) h3
      refine ⟨acc', ρ', ?_, h5⟩
      rw [List.map_cons]
      unfold walkL
      simp only [h1, h2, h4]
  exact key xs [] [] ρ rfl h0
/-- a comprehension that leaves the names as they are -/
theorem walkL_map {α : Type} {emb : α → D} {g : α → D} {xs : List α} {vs : List Nat} {step : List D → D → M (List D)} {ρ : Evm}
    (h : ∀ x ∈ xs, ∀ acc : List D, acc.length < xs.length → ∃ ρ', step acc (emb x) ρ = .ok (acc ++ [g x]) ρ' ∧ wipeOk ρ' vs = true ∧ wipeD ρ' vs = ρ) :
    walkL vs step (xs.map emb) [] ρ = .ok (xs.map g) ρ := by
  obtain ⟨acc, ρ', h1, h2, h3⟩ := walkL_inv (emb := emb) (xs := xs) (vs := vs) (step := step) (fun pre acc ρ1 => acc = pre.map g ∧ ρ1 = ρ) (fun pre x post acc ρ1 e hi => by
    obtain ⟨rfl, rfl⟩ := hi
    obtain ⟨ρ', h1, h2, h3⟩ := h x (by rw [e]; simp) (pre.map g) (by rw [e]; simp)
    exact ⟨_, ρ', h1, h2, by simp, h3⟩) (ρ := ρ) ⟨rfl, rfl⟩
  rw [h1, h2, h3]
/-- with a test -/
theorem walkL_flt {α : Type} {emb : α → D} {g : α → List D} {xs : List α} {vs : List Nat} {step : List D → D → M (List D)} {ρ : Evm}
    (h : ∀ pre x post, xs = pre ++ x :: post → ∃ ρ', step (pre.flatMap g) (emb x) ρ = .ok (pre.flatMap g ++ g x) ρ' ∧ wipeOk ρ' vs = true ∧ wipeD ρ' vs = ρ) :
    walkL vs step (xs.map emb) [] ρ = .ok (xs.flatMap g) ρ := by
  obtain ⟨acc, ρ', h1, h2, h3⟩ := walkL_inv (emb := emb) (xs := xs) (vs := vs) (step := step) (fun pre acc ρ1 => acc = pre.flatMap g ∧ ρ1 = ρ) (fun pre x post acc ρ1 e hi => by
    obtain ⟨rfl, rfl⟩ := hi
    obtain ⟨ρ', h1, h2, h3⟩ := h pre x post e
    exact ⟨_, ρ', h1, h2, by simp, h3⟩) (ρ := ρ) ⟨rfl, rfl⟩
  rw [h1, h2, h3]
/-- a while -/
theorem whileW_inv {σ : Type} {t : M Bool} {body : M Flow'} (I : σ → Evm → Prop) (mu : σ → Nat) (Q : Evm → Prop)
    (h : ∀ s ρ, I s ρ → (∃ ρ', t ρ = .ok false ρ' ∧ Q ρ') ∨ (∃ ρ1 ρ2 s', t ρ = .ok true ρ1 ∧ (body ρ1 = .ok .nx ρ2 ∨ body ρ1 = .ok .ct ρ2) ∧ I s' ρ2 ∧ mu s' < mu s)) :
    ∀ (k : Nat) (s : σ) (ρ : Evm), I s ρ → mu s < k → ∃ ρ', whileW t body k ρ = .ok .nx ρ' ∧ Q ρ'
  | 0, _, _, _, hk => by omega
  | k + 1, s, ρ, hi, hk => by
    rcases h s ρ hi with ⟨ρ', h1, h2⟩ | ⟨ρ1, ρ2, s', h1, h2, h3, h4⟩
    · exact ⟨ρ', by simp [whileW, bnd, h1], h2⟩
    · obtain ⟨ρ', h5, h6⟩ := whileW_inv I mu Q h k s' ρ2 h3 (by omega)
      refine ⟨ρ', ?_, h6⟩
      rcases h2 with h2 | h2
      · simp [whileW, bnd, h1, h2, h5]
      · simp [whileW, bnd, h1, h2, h5]
@[simp] theorem rg_nat (n : Nat) : rgL 0 1 n = (List.range n).map fun (i : Nat) => D.int (i : Int) := by
  apply List.ext_getElem?
  intro i
  rw [rgL_get, List.getElem?_map]
  by_cases h : i < n
  · simp [h, List.getElem?_range h]
  · rw [decide_eq_false h, List.getElem?_eq_none (by simpa using h)]
    rfl

/-! ### loops as folds -/
/-- a slot that may be stored -/
def fr (v : Sl) : Prop := v = .e ∨ ∃ d, v = .d d
theorem fr_e : fr .e := .inl rfl
theorem fr_d (d : D) : fr (.d d) := .inr ⟨d, rfl⟩
theorem st_fr {v : Sl} (h : fr v) (i : Nat) (x : D) (u : Bool) (ρ : Evm) : stS' (some v) i x u ρ = .ok () (ρ.set i (if u then .o x else .d x)) := by
  rcases h with rfl | ⟨d, rfl⟩ <;> rfl
theorem wO_fr {v : Sl} (h : fr v) : wO (some v) = true := by
  rcases h with rfl | ⟨d, rfl⟩ <;> rfl
/-- what a turn of a loop does: a state, one slot, two, three of no account -/
def Lt1 {σ : Type} (fl : Flow') (lay : σ → Sl → Evm) (s : σ) (r : Res Flow') : Prop := ∃ v, fr v ∧ r = .ok fl (lay s v)
def Lt2 {σ : Type} (fl : Flow') (lay : σ → Sl → Sl → Evm) (s : σ) (r : Res Flow') : Prop := ∃ v w, fr v ∧ fr w ∧ r = .ok fl (lay s v w)
def Lt3 {σ : Type} (fl : Flow') (lay : σ → Sl → Sl → Sl → Evm) (s : σ) (r : Res Flow') : Prop := ∃ v w u, fr v ∧ fr w ∧ fr u ∧ r = .ok fl (lay s v w u)
/-- on to the next turn -/
def kGo : M Flow' := fun ρ => .ok .ct ρ
@[simp] theorem j_kGo (ρ : Evm) : kGo ρ = .ok .ct ρ := rfl
theorem forL_R {bd : D → M Unit} {body : M Flow'} {α σ : Type} {emb : α → D} {xs : List α} (f : σ → α → σ) (R : σ → Evm → Prop)
    {s0 : σ} {ρ0 : Evm} (h0 : R s0 ρ0)
    (h : ∀ pre x post ρ, xs = pre ++ x :: post → R (pre.foldl f s0) ρ → ∃ ρ1, rLo1 (bd (emb x) ρ) body kGo = .ok .ct ρ1 ∧ R (f (pre.foldl f s0) x) ρ1) :
    ∃ ρ1, forL bd body (xs.map emb) ρ0 = .ok .nx ρ1 ∧ R (xs.foldl f s0) ρ1 := by
  have key : ∀ (post pre : List α) (ρ : Evm), xs = pre ++ post → R (pre.foldl f s0) ρ → ∃ ρ1, forL bd body (post.map emb) ρ = .ok .nx ρ1 ∧ R (xs.foldl f s0) ρ1 := by
    intro post
    induction post with
    | nil => intro pre ρ e hi; rw [List.append_nil] at e; subst e; exact ⟨ρ, rfl, hi⟩
    | cons x post ih =>
      intro pre ρ e hi
      obtain ⟨ρ1, e1, h1⟩ := h pre x post ρ e hi
      obtain ⟨ρ2, e2, h2⟩ := ih (pre ++ [x]) ρ1 (by rw [e]; simp) (by rw [List.foldl_append]; exact h1)
      refine ⟨ρ2, ?_, h2⟩
      rw [List.map_cons, j_forL1, ← e2]
      revert e1
      unfold rLo1
      cases bd (emb x) ρ with
      | ok a ρ2 =>
        dsimp only
        unfold rLo2
        cases body ρ2 with
        | ok fl ρ3 => cases fl <;> intro e1 <;> cases e1 <;> rfl
        | exc e ρ3 => intro e1; cases e1
        | stk => intro e1; cases e1
      | exc e ρ2 => intro e1; cases e1
      | stk => intro e1; cases e1
  exact key xs [] ρ0 rfl h0
section
variable {bd : D → M Unit} {body : M Flow'} {α σ : Type} {emb : α → D} {xs : List α} {r : Res Flow'}
theorem forL_1 (lay : σ → Sl → Evm) (f : σ → α → σ) (s0 : σ) {v0 : Sl} (e : forL bd body (xs.map emb) (lay s0 v0) = r) (h0 : fr v0)
    (h : ∀ pre x post v, xs = pre ++ x :: post → fr v → Lt1 .ct lay (f (pre.foldl f s0) x) (rLo1 (bd (emb x) (lay (pre.foldl f s0) v)) body kGo)) : Lt1 .nx lay (xs.foldl f s0) r := by
  rw [← e]
  obtain ⟨ρ1, h1, v, hv, rfl⟩ := forL_R (bd := bd) (body := body) (emb := emb) (xs := xs) f (fun s ρ => ∃ v, fr v ∧ ρ = lay s v) (s0 := s0) ⟨v0, h0, rfl⟩ fun pre x post ρ e' ⟨v, hv, e2⟩ => by
    cases e2
    obtain ⟨v', h1, h2⟩ := h pre x post v e' hv
    exact ⟨_, h2, v', h1, rfl⟩
  exact ⟨v, hv, h1⟩
theorem forL_2 (lay : σ → Sl → Sl → Evm) (f : σ → α → σ) (s0 : σ) {v0 w0 : Sl} (e : forL bd body (xs.map emb) (lay s0 v0 w0) = r) (h0 : fr v0) (h1 : fr w0)
    (h : ∀ pre x post v w, xs = pre ++ x :: post → fr v → fr w → Lt2 .ct lay (f (pre.foldl f s0) x) (rLo1 (bd (emb x) (lay (pre.foldl f s0) v w)) body kGo)) : Lt2 .nx lay (xs.foldl f s0) r := by
  rw [← e]
  obtain ⟨ρ1, h1, v, w, hv, hw, rfl⟩ := forL_R (bd := bd) (body := body) (emb := emb) (xs := xs) f (fun s ρ => ∃ v w, fr v ∧ fr w ∧ ρ = lay s v w) (s0 := s0) ⟨v0, w0, h0, h1, rfl⟩ fun pre x post ρ e' ⟨v, w, hv, hw, e2⟩ => by
    cases e2
    obtain ⟨v', w', h1, h2, h3⟩ := h pre x post v w e' hv hw
    exact ⟨_, h3, v', w', h1, h2, rfl⟩
  exact ⟨v, w, hv, hw, h1⟩
theorem forL_3 (lay : σ → Sl → Sl → Sl → Evm) (f : σ → α → σ) (s0 : σ) {v0 w0 u0 : Sl} (e : forL bd body (xs.map emb) (lay s0 v0 w0 u0) = r) (h0 : fr v0) (h1 : fr w0) (h2 : fr u0)
    (h : ∀ pre x post v w u, xs = pre ++ x :: post → fr v → fr w → fr u → Lt3 .ct lay (f (pre.foldl f s0) x) (rLo1 (bd (emb x) (lay (pre.foldl f s0) v w u)) body kGo)) : Lt3 .nx lay (xs.foldl f s0) r := by
  rw [← e]
  obtain ⟨ρ1, h1, v, w, u, hv, hw, hu, rfl⟩ := forL_R (bd := bd) (body := body) (emb := emb) (xs := xs) f (fun s ρ => ∃ v w u, fr v ∧ fr w ∧ fr u ∧ ρ = lay s v w u) (s0 := s0) ⟨v0, w0, u0, h0, h1, h2, rfl⟩ fun pre x post ρ e' ⟨v, w, u, hv, hw, hu, e2⟩ => by
    cases e2
    obtain ⟨v', w', u', h1, h2, h3, h4⟩ := h pre x post v w u e' hv hw hu
    exact ⟨_, h4, v', w', u', h1, h2, h3, rfl⟩
  exact ⟨v, w, u, hv, hw, hu, h1⟩
end
/-- one turn of a comprehension that leaves the names as they are -/
def Ws (vs : List Nat) (ρ : Evm) (acc : List D) (r : Res (List D)) : Prop := ∃ ρ', r = .ok acc ρ' ∧ wipeOk ρ' vs = true ∧ wipeD ρ' vs = ρ
theorem walkL_m {α : Type} {emb : α → D} {xs : List α} {vs : List Nat} {step : List D → D → M (List D)} {ρ : Evm} {r : Res (List D)} (g : α → D)
    (e : walkL vs step (xs.map emb) [] ρ = r)
    (h : ∀ pre x post, xs = pre ++ x :: post → ∀ acc : List D, acc.length = pre.length → Ws vs ρ (acc ++ [g x]) (step acc (emb x) ρ)) : r = .ok (xs.map g) ρ := by
  rw [← e]
  have key : ∀ (post pre : List α) (acc : List D), xs = pre ++ post → acc.length = pre.length → walkL vs step (post.map emb) acc ρ = .ok (acc ++ post.map g) ρ := by
    intro post
    induction post with
    | nil => intro pre acc _ _; simp
    | cons x post ih =>
      intro pre acc e hl
      obtain ⟨ρ', e1, e2, e3⟩ := h pre x post e acc hl
      rw [List.map_cons, j_walkL1, e1, j_rW1, e2, j_rW2, e3, ih (pre ++ [x]) _ (by rw [e]; simp) (by simp [hl])]
      simp
  have := key xs [] [] rfl rfl
  simpa using this
/-- the same with a test -/
theorem walkL_f {α : Type} {emb : α → D} {xs : List α} {vs : List Nat} {step : List D → D → M (List D)} {ρ : Evm} {r : Res (List D)} (g : α → List D) (hg : ∀ x, (g x).length ≤ 1)
    (e : walkL vs step (xs.map emb) [] ρ = r)
    (h : ∀ pre x post, xs = pre ++ x :: post → ∀ acc : List D, acc.length ≤ pre.length → Ws vs ρ (acc ++ g x) (step acc (emb x) ρ)) : r = .ok (xs.flatMap g) ρ := by
  rw [← e]
  have key : ∀ (post pre : List α) (acc : List D), xs = pre ++ post → acc.length ≤ pre.length → walkL vs step (post.map emb) acc ρ = .ok (acc ++ post.flatMap g) ρ := by
    intro post
    induction post with
    | nil => intro pre acc _ _; simp
    | cons x post ih =>
      intro pre acc e hl
      obtain ⟨ρ', e1, e2, e3⟩ := h pre x post e acc hl
      have := hg x
      rw [List.map_cons, j_walkL1, e1, j_rW1, e2, j_rW2, e3, ih (pre ++ [x]) _ (by rw [e]; simp) (by simp; omega)]
      simp
  have := key xs [] [] rfl (Nat.le_refl _)
  simpa using this
/-- a comprehension that changes a state -/
theorem walkL_s {α σ : Type} {emb : α → D} {xs : List α} {vs : List Nat} {step : List D → D → M (List D)} {r : Res (List D)} (lay : σ → Evm) (f : σ → α → σ) (g : σ → α → D) (s0 : σ)
    (e : walkL vs step (xs.map emb) [] (lay s0) = r)
    (h : ∀ pre x post, xs = pre ++ x :: post → ∀ (acc : List D) s, acc.length = pre.length → Ws vs (lay (f s x)) (acc ++ [g s x]) (step acc (emb x) (lay s))) :
    ∃ acc, r = .ok acc (lay (xs.foldl f s0)) ∧ acc = (xs.foldl (fun (p : List D × σ) x => (p.1 ++ [g p.2 x], f p.2 x)) ([], s0)).1 ∧ acc.length = xs.length := by
  rw [← e]
  have key : ∀ (post pre : List α) (acc : List D) (s : σ), xs = pre ++ post → acc.length = pre.length → ∃ acc', walkL vs step (post.map emb) acc (lay s) = .ok acc' (lay (post.foldl f s)) ∧ acc' = (post.foldl (fun (p : List D × σ) x => (p.1 ++ [g p.2 x], f p.2 x)) (acc, s)).1 ∧ acc'.length = xs.length := by
    intro post
    induction post with
    | nil => intro pre acc s e hl; exact ⟨acc, rfl, rfl, by rw [e, hl]; simp⟩
    | cons x post ih =>
      intro pre acc s e hl
      obtain ⟨ρ', e1, e2, e3⟩ := h pre x post e acc s hl
      obtain ⟨acc', h1, h2, h3⟩ := ih (pre ++ [x]) (acc ++ [g s x]) (f s x) (by rw [e]; simp) (by simp [hl])
      refine ⟨acc', ?_, h2, h3⟩
      rw [List.map_cons, j_walkL1, e1, j_rW1, e2, j_rW2, e3, h1]
      rfl
  exact key xs [] [] s0 rfl rfl
theorem okRg_nat {n : Nat} (h : n < 2 ^ 62) : okRg (n : Int) = true := by
  unfold okRg
  have : (n : Int) < 2 ^ 62 := by exact_mod_cast h
  simp
  omega
@[simp] theorem lineOk_eq (n : Nat) : lineOk n = decide (n ≤ 16777216) := rfl
theorem divOk_eq (j : Int) : divOk j = (decide (0 < j) && (decide (j < 1073741824) || decide (j.natAbs.log2 < 9000))) := rfl
@[simp] theorem divOk_small {j : Int} (h : 0 < j) (h2 : j < 1073741824) : divOk j = true := by simp [divOk_eq, h, h2]
@[simp] theorem small64_of {i : Int} (h1 : -18446744073709551616 < i) (h2 : i < 18446744073709551616) : PV.small64 i = true := by
  unfold PV.small64
  rw [decide_eq_true (show -(2 ^ 64) < i by omega), decide_eq_true (show i < 2 ^ 64 by omega)] <;> rfl
@[simp] theorem mulOk_sr {i j : Int} (h : PV.small64 j = true) : mulOk i j = true := by
  unfold mulOk
  rw [h]
  simp
@[simp] theorem mulOk_sl {i j : Int} (h : PV.small64 i = true) : mulOk i j = true := by
  unfold mulOk
  rw [h] <;> rfl
@[simp] theorem d_revl (xs : List D) : revD (.lst xs) = some (.lst xs.reverse, true) := rfl
@[simp] theorem d_revs (xs : List D) : revD (.scr xs) = some (.lst xs.reverse, true) := rfl
@[simp] theorem d_slt (xs : List D) (l h : Option Int) : sliceD (.tup xs) l h = some (.tup (cutD xs l h), false) := rfl
@[simp] theorem d_sll (xs : List D) (l h : Option Int) : sliceD (.lst xs) l h = some (.lst (cutD xs l h), true) := rfl
@[simp] theorem d_xor (i j : Int) : binD .BitXor (.int i) (.int j) = some (.int (Builtin.bitXor i j), false) := rfl
@[simp] theorem d_pow (i j : Int) : binD .Pow (.int i) (.int j) = gd (powOk i j) (.int (i ^ j.toNat), false) := rfl
@[simp] theorem d_mull (xs : List D) (k : Int) : binD .Mult (.lst xs) (.int k) = gd (decide (-(2 ^ 63) ≤ k) && (decide (k < 2 ^ 63) && lineOk (xs.length * k.toNat))) (.lst (repD xs k), true) := rfl
@[simp] theorem d_mult (xs : List D) (k : Int) : binD .Mult (.tup xs) (.int k) = gd (decide (-(2 ^ 63) ≤ k) && (decide (k < 2 ^ 63) && lineOk (xs.length * k.toNat))) (.tup (repD xs k), false) := rfl
@[simp] theorem d_sumt (xs : List D) : biCall (.fn "sum") [.tup xs] = (intsD xs).map fun ns => (.int ns.sum, false) := by kernel_rfl
@[simp] theorem d_adds (x y : Str) : binD .Add (.str x) (.str y) = gd (lineOk (x.length + y.length)) (.str (x ++ y), false) := rfl
@[simp] theorem d_aadd (i j : Int) : augD .Add (.int i) (.int j) = some (.int (i + j)) := rfl
@[simp] theorem d_asub (i j : Int) : augD .Sub (.int i) (.int j) = some (.int (i - j)) := rfl
@[simp] theorem d_amul (i j : Int) : augD .Mult (.int i) (.int j) = gd (small64 i || small64 j) (.int (i * j)) := rfl
@[simp] theorem d_afdiv (i j : Int) : augD .FloorDiv (.int i) (.int j) = gd (divOk j) (.int (i / j)) := rfl
@[simp] theorem d_amod (i j : Int) : augD .Mod (.int i) (.int j) = gd (decide (0 < j)) (.int (i % j)) := rfl
@[simp] theorem d_max (i j : Int) : biCall (.fn "max") [.int i, .int j] = some (.int (if j > i then j else i), false) := by kernel_rfl
@[simp] theorem d_min (i j : Int) : biCall (.fn "min") [.int i, .int j] = some (.int (if j < i then j else i), false) := by kernel_rfl
@[simp] theorem d_sum (xs : List D) : biCall (.fn "sum") [.lst xs] = (intsD xs).map fun ns => (.int ns.sum, false) := by kernel_rfl
@[simp] theorem d_isnon (x : D) : cmpD .Is x .non = some (isNon x) := by cases x <;> rfl
@[simp] theorem d_isnot (x : D) : cmpD .IsNot x .non = some (!isNon x) := by cases x <;> rfl
@[simp] theorem d_inl (x : D) (ys : List D) : cmpD .In x (.lst ys) = inL x ys .list := by cases x <;> rfl
@[simp] theorem d_int_ (x : D) (ys : List D) : cmpD .In x (.tup ys) = inL x ys .tuple := by cases x <;> rfl
@[simp] theorem d_isbb (b : Bool) : biCall (.fn "isinstance") [.bl b, .ty "bool"] = some (.bl true, false) := by kernel_rfl
@[simp] theorem d_isbi (b : Bool) : biCall (.fn "isinstance") [.bl b, .ty "int"] = some (.bl true, false) := by kernel_rfl
@[simp] theorem d_isbt (b : Bool) : biCall (.fn "isinstance") [.bl b, .ty "tuple"] = some (.bl false, false) := by kernel_rfl
@[simp] theorem d_isbl (b : Bool) : biCall (.fn "isinstance") [.bl b, .ty "list"] = some (.bl false, false) := by kernel_rfl
@[simp] theorem d_isnb : biCall (.fn "isinstance") [.non, .ty "bool"] = some (.bl false, false) := by kernel_rfl
@[simp] theorem d_isni : biCall (.fn "isinstance") [.non, .ty "int"] = some (.bl false, false) := by kernel_rfl
@[simp] theorem d_isnt : biCall (.fn "isinstance") [.non, .ty "tuple"] = some (.bl false, false) := by kernel_rfl
@[simp] theorem d_isnl : biCall (.fn "isinstance") [.non, .ty "list"] = some (.bl false, false) := by kernel_rfl
@[simp] theorem d_issb (x : Str) : biCall (.fn "isinstance") [.str x, .ty "bool"] = some (.bl false, false) := by kernel_rfl
@[simp] theorem d_issi (x : Str) : biCall (.fn "isinstance") [.str x, .ty "int"] = some (.bl false, false) := by kernel_rfl
@[simp] theorem d_isst (x : Str) : biCall (.fn "isinstance") [.str x, .ty "tuple"] = some (.bl false, false) := by kernel_rfl
@[simp] theorem d_issl (x : Str) : biCall (.fn "isinstance") [.str x, .ty "list"] = some (.bl false, false) := by kernel_rfl
@[simp] theorem d_isti (xs : List D) : biCall (.fn "isinstance") [.tup xs, .ty "int"] = some (.bl false, false) := by kernel_rfl
@[simp] theorem d_istl (xs : List D) : biCall (.fn "isinstance") [.tup xs, .ty "list"] = some (.bl false, false) := by kernel_rfl
@[simp] theorem d_isli (xs : List D) : biCall (.fn "isinstance") [.lst xs, .ty "int"] = some (.bl false, false) := by kernel_rfl
theorem atI_nt {α : Type} (xs : List α) (k : Nat) : atI xs (k : Int) = xs[k]? := by
  unfold atI ixN
  by_cases h : k < xs.length
  · rw [if_pos (by omega), if_pos (by omega)]
    rfl
  · rw [if_pos (by omega), if_neg (by omega), List.getElem?_eq_none (by omega)]
    rfl
@[simp] theorem atI_cons0 {α : Type} (x : α) (xs : List α) : atI (x :: xs) 0 = some x := (atI_nt (x :: xs) 0).trans rfl
@[simp] theorem atI_cons1 {α : Type} (x y : α) (xs : List α) : atI (x :: y :: xs) 1 = some y := (atI_nt (x :: y :: xs) 1).trans rfl
@[simp] theorem atI_cons2 {α : Type} (x y z : α) (xs : List α) : atI (x :: y :: z :: xs) 2 = some z := (atI_nt (x :: y :: z :: xs) 2).trans rfl
theorem atI_last {α : Type} (xs : List α) (x : α) : atI (xs ++ [x]) (-1) = some x := by
  unfold atI ixN
  rw [if_neg (by decide), if_pos (by simp; omega)]
  have : (-1 + (((xs ++ [x]).length : Nat) : Int)).toNat = xs.length := by simp; omega
  show (xs ++ [x])[(-1 + (((xs ++ [x]).length : Nat) : Int)).toNat]? = some x
  rw [this]
  simp

/-! ### whiles -/
def kNx : M Flow' := fun ρ => .ok .nx ρ
@[simp] theorem j_kNx (ρ : Evm) : kNx ρ = .ok .nx ρ := rfl
def kBo (body : M Flow') : M Flow' := fun ρ => rLo2 (body ρ) kGo
@[simp] theorem j_kBo (body : M Flow') (ρ : Evm) : kBo body ρ = rLo2 (body ρ) kGo := rfl
/-- what one look of a while does: ended, or (ct) one turn more -/
def Wh {σ : Type} (I : σ → Evm → Prop) (mu : σ → Nat) (Q : Evm → Prop) (s : σ) (r : Res Flow') : Prop := (∃ ρ, r = .ok .nx ρ ∧ Q ρ) ∨ ∃ s' ρ, r = .ok .ct ρ ∧ I s' ρ ∧ mu s' < mu s
def whR (r : Res Flow') (k : M Flow') : Res Flow' := match r with
  | .ok .ct ρ => k ρ
  | r => r
theorem whileW_s (t : M Bool) (body : M Flow') (k : Nat) (ρ : Evm) : whileW t body (k + 1) ρ = whR (rIf (t ρ) (kBo body) kNx) (whileW t body k) := by
  show bnd t (fun b => match b with
    | false => (pure .nx : M Flow')
    | true => bnd body fun fl => match fl with
      | .nx => whileW t body k
      | .ct => whileW t body k
      | .bk => pure .nx
      | .rt d u => pure (.rt d u)) ρ = _
  generalize whileW t body k = W
  unfold bnd rIf
  cases t ρ with
  | ok b ρ1 =>
    cases b with
    | false => rfl
    | true =>
      simp only [if_true, j_kBo]
      cases body ρ1 with
      | ok fl ρ2 => cases fl <;> rfl
      | exc e ρ2 => rfl
      | stk => rfl
  | exc e ρ1 => rfl
  | stk => rfl
theorem while_R {σ : Type} {t : M Bool} {body : M Flow'} {r : Res Flow'} {ρ0 : Evm} (e : whileW t body TF ρ0 = r) (I : σ → Evm → Prop) (mu : σ → Nat) (Q : Evm → Prop) (s0 : σ) (hm : mu s0 < 1000000000) (h0 : I s0 ρ0)
    (h : ∀ s ρ, I s ρ → Wh I mu Q s (rIf (t ρ) (kBo body) kNx)) : ∃ ρ, r = .ok .nx ρ ∧ Q ρ := by
  have key : ∀ (k : Nat) (s : σ) (ρ : Evm), I s ρ → mu s < k → ∃ ρ', whileW t body k ρ = .ok .nx ρ' ∧ Q ρ' := by
    intro k
    induction k with
    | zero => intro s ρ _ hk; omega
    | succ k ih =>
      intro s ρ hi hk
      rw [whileW_s]
      rcases h s ρ hi with ⟨ρ1, h2, h3⟩ | ⟨s', ρ1, h2, h3, h4⟩
      · rw [h2]; exact ⟨ρ1, rfl, h3⟩
      · rw [h2]
        obtain ⟨ρ2, h5, h6⟩ := ih s' ρ1 h3 (by omega)
        exact ⟨ρ2, h5, h6⟩
  rw [← e]
  exact key TF s0 ρ0 h0 (by have := TF_le; omega)

/-- a turn keeps what holds of the names -/
def Tn (R : Evm → Prop) (r : Res Flow') : Prop := ∃ ρ, r = .ok .ct ρ ∧ R ρ
theorem forL_u {bd : D → M Unit} {body : M Flow'} {α : Type} {emb : α → D} {xs : List α} {r : Res Flow'} {ρ0 : Evm} (e : forL bd body (xs.map emb) ρ0 = r) (R : Evm → Prop) (h0 : R ρ0)
    (h : ∀ pre x post ρ, xs = pre ++ x :: post → R ρ → Tn R (rLo1 (bd (emb x) ρ) body kGo)) : ∃ ρ, r = .ok .nx ρ ∧ R ρ := by
  rw [← e]
  exact forL_R (σ := Unit) (fun _ _ => ()) (fun _ ρ => R ρ) (s0 := ()) h0 fun pre x post ρ e' hr => h pre x post ρ e' hr
def gO (r : Res Flow') : Evm := match r with
  | .ok _ ρ => ρ
  | _ => []
def gS (i : Nat) (r : Res Flow') : Sl := match (gO r)[i]? with
  | some s => s
  | none => .e
@[simp] theorem d_isis (i : Int) : biCall (.fn "isinstance") [.int i, .ty "str"] = some (.bl false, false) := by kernel_rfl
@[simp] theorem d_isbs (b : Bool) : biCall (.fn "isinstance") [.bl b, .ty "str"] = some (.bl false, false) := by kernel_rfl
@[simp] theorem d_isns  : biCall (.fn "isinstance") [.non, .ty "str"] = some (.bl false, false) := by kernel_rfl
@[simp] theorem d_ists (xs : List D) : biCall (.fn "isinstance") [.tup xs, .ty "str"] = some (.bl false, false) := by kernel_rfl
@[simp] theorem d_isls (xs : List D) : biCall (.fn "isinstance") [.lst xs, .ty "str"] = some (.bl false, false) := by kernel_rfl
@[simp] theorem d_isss (x : Str) : biCall (.fn "isinstance") [.str x, .ty "str"] = some (.bl true, false) := by kernel_rfl
@[simp] theorem non_n : isNon .non = true := rfl
@[simp] theorem non_i (i : Int) : isNon (.int i) = false := rfl
@[simp] theorem non_b (b : Bool) : isNon (.bl b) = false := rfl
@[simp] theorem non_s (x : Str) : isNon (.str x) = false := rfl
@[simp] theorem non_t (xs : List D) : isNon (.tup xs) = false := rfl
@[simp] theorem non_l (xs : List D) : isNon (.lst xs) = false := rfl

/-! ### sources that are places -/
theorem walk_at {s : Src} {vs : List Nat} {step : List D → D → M (List D)} {ρw : Evm} {α : Type} {emb : α → D} {xs : List α} (g : α → D) (hs : ∀ j, srcAt ρw s j = some (xs.map emb)[j]?)
    (h : ∀ pre x post, xs = pre ++ x :: post → ∀ acc : List D, acc.length = pre.length → Ws vs ρw (acc ++ [g x]) (step acc (emb x) ρw)) :
    ∀ (post pre : List α) (k : Nat) (acc : List D), xs = pre ++ post → acc.length = pre.length → post.length < k → walk s vs step k pre.length acc ρw = .ok (acc ++ post.map g) ρw := by
  intro post
  induction post with
  | nil =>
    intro pre k acc e ha hk
    obtain ⟨k, rfl⟩ : ∃ m, k = m + 1 := ⟨k - 1, by simp at hk; omega⟩
    unfold walk
    rw [hs, e]
    simp
  | cons x post ih =>
    intro pre k acc e ha hk
    obtain ⟨k, rfl⟩ : ∃ m, k = m + 1 := ⟨k - 1, by simp at hk; omega⟩
    obtain ⟨ρ', e1, e2, e3⟩ := h pre x post e acc ha
    have hx : (xs.map emb)[pre.length]? = some (emb x) := by rw [e]; simp
    have hn := ih (pre ++ [x]) k (acc ++ [g x]) (by rw [e]; simp) (by simp [ha]) (by simp at hk; omega)
    rw [List.length_append, List.length_singleton] at hn
    unfold walk
    rw [hs, hx]
    dsimp only
    rw [e1]
    dsimp only
    rw [e2]
    dsimp only
    rw [e3, hn]
    simp
theorem walkAt_m {s : Src} {vs : List Nat} {step : List D → D → M (List D)} {ρ ρw : Evm} {r : Res (List D)} {α : Type} {emb : α → D} {xs : List α} (g : α → D) (e : walkAt TF s vs step [] ρ = r)
    (ho : allOwn ρ s.pl = true) (hw : wipeOk ρ vs = true) (hρ : wipeD (pinAll ρ s.pl) vs = ρw) (hs : ∀ j, srcAt ρw s j = some (xs.map emb)[j]?) (hn : xs.length < 1000000000)
    (h : ∀ pre x post, xs = pre ++ x :: post → ∀ acc : List D, acc.length = pre.length → Ws vs ρw (acc ++ [g x]) (step acc (emb x) ρw)) : r = .ok (xs.map g) (rest ρ (unpin ρ ρw s.pl) vs) := by
  rw [← e]
  unfold walkAt
  rw [ho, hw, hρ]
  have := walk_at g hs h xs [] (srcN ρ s + TF) [] rfl rfl (by have := TF_le; omega)
  rw [show ([] : List α).length = 0 from rfl] at this
  show (match walk s vs step (srcN ρ s + TF) 0 [] ρw with
    | .ok acc' ρ' => Res.ok acc' (rest ρ (unpin ρ ρ' s.pl) vs)
    | _ => .stk) = _
  rw [this]
  rfl
@[simp] theorem j_zpVP (xs : List D) (i : Nat) (ρ : Evm) : srcZp (.vl (.lst xs)) (.pl i) ρ = plL ρ[i]? i (.zp (.vl (.lst xs)) (.pl i)) ρ := by
  unfold srcZp plL
  simp only [opT, opL, look]
  cases h : ρ[i]? with
  | none => rfl
  | some s => cases s with
    | e => rfl
    | x e => rfl
    | d x => cases x <;> rfl
    | o x => cases x <;> rfl
    | l x => cases x <;> rfl
    | f x => cases x <;> rfl
def unS (t s : Option Sl) (i : Nat) (ρ : Evm) : Evm := match t, s with
  | some t, some s => ρ.set i (bk t s)
  | _, _ => ρ
@[simp] theorem j_unS (t s : Sl) (i : Nat) (ρ : Evm) : unS (some t) (some s) i ρ = ρ.set i (bk t s) := rfl
@[simp] theorem j_unpin0 (ρ0 ρ : Evm) : unpin ρ0 ρ [] = ρ := rfl
@[simp] theorem j_unpin1 (ρ0 ρ : Evm) (i : Nat) (r : List Nat) : unpin ρ0 ρ (i :: r) = unpin ρ0 (unS ρ0[i]? ρ[i]? i ρ) r := by
  show unpin ρ0 (unpin1 ρ0 ρ i) r = _
  unfold unpin1 unS
  cases ρ0[i]? <;> cases ρ[i]? <;> rfl
@[simp] theorem pl_zpVP (x : D) (i : Nat) : (Src.zp (.vl x) (.pl i)).pl = [i] := rfl
@[simp] theorem pl_liP (i : Nat) : (Src.li (.pl i)).pl = [i] := rfl
theorem zpL_ints : ∀ (xs ys : List Int), zpL (xs.map .int) (ys.map .int) = (xs.zip ys).map fun p => D.tup [.int p.1, .int p.2]
  | [], ys => by cases ys <;> simp [zpL]
  | _ :: _, [] => by simp [zpL]
  | x :: xs, y :: ys => by simp [zpL, zpL_ints xs ys]
theorem pair_ints (xs ys : List Int) (j : Nat) : pairAt (xs.map .int) (ys.map .int) j = ((xs.zip ys).map fun p => D.tup [.int p.1, .int p.2])[j]? := by
  rw [← zpL_ints, zpL_get]
end PV
end

section
set_option maxHeartbeats 0
namespace FL
open PySem PySem.Spec L2 PV
open PyProof.Rows hiding St
noncomputable section
def b_is_whole (tf : Nat) : M Flow' :=
  (sq (kRet (kAnd (kBi (.fn "isinstance") (oCons (oVar 0) (oCons (oE (kC (.ty "int"))) oNil))) (kAnd (kNotV (oE (kBi (.fn "isinstance") (oCons (oVar 0) (oCons (oE (kC (.ty "bool"))) oNil))))) (kChainV .LtE .LtE (oVar 1) (oVar 0) (oVar 2)))))
  sNil)
def F_is_whole : CF := fn1 3 3 (b_is_whole TF)
def b_need_whole (tf : Nat) (g_is_whole : CF) : M Flow' :=
  (sq (kIfS (kNotT (kTru (oE (kCallF g_is_whole 3 (oCons (oE (kVar 0)) (oCons (oE (kVar 1)) (oCons (oE (kVar 2)) oNil))))))) (sq (kRaise "InvalidNumber")
  sNil) sNil)
  sNil)
def F_need_whole : CF := fn1 3 3 (b_need_whole TF F_is_whole)
def b_is_tuple_of (tf : Nat) : M Flow' :=
  (sq (kRet (kAnd (kBi (.fn "isinstance") (oCons (oVar 0) (oCons (oE (kC (.ty "tuple"))) oNil))) (kChainV .LtE .LtE (oVar 1) (oE (kBi (.fn "len") (oCons (oVar 0) oNil))) (oVar 2))))
  sNil)
def F_is_tuple_of : CF := fn1 3 3 (b_is_tuple_of TF)
def b_raised (tf : Nat) (g_need_whole : CF) : M Flow' :=
  (sq (kEx (kCallF g_need_whole 3 (oCons (oE (kVar 1)) (oCons (oE (kC (.int 0))) (oCons (oE (kC (.int 400))) oNil)))))
  (sq (kSet 2 (kC (.int 1)))
  (sq (kFor tf (wRg1 (aCons (kVar 1) aNil)) (bN 3) (sq (kSet 2 (kBin .Mult (oVar 2) (oVar 0)))
  sNil))
  (sq (kRetV 2)
  sNil))))
def F_raised : CF := fn1 2 4 (b_raised TF F_need_whole)
def b_is_bits (tf : Nat) (g_is_tuple_of : CF) (g_is_whole : CF) : M Flow' :=
  (sq (kRet (kAnd (kCallF g_is_tuple_of 3 (oCons (oE (kVar 0)) (oCons (oE (kC (.int 0))) (oCons (oE (kC (.int 200000))) oNil)))) (kBi (.fn "all") (oCons (oE (kLc tf (wLi (oVar 0)) [1] (kStep (bN 1) tYes' (kCallF g_is_whole 3 (oCons (oE (kVar 1)) (oCons (oE (kC (.int 0))) (oCons (oE (kC (.int 1))) oNil))))))) oNil))))
  sNil)
def F_is_bits : CF := fn1 1 2 (b_is_bits TF F_is_tuple_of F_is_whole)
def b_need_bits (tf : Nat) (g_is_bits : CF) : M Flow' :=
  (sq (kIfS (kOrT (kNotT (kTru (oE (kCallF g_is_bits 1 (oCons (oE (kVar 0)) oNil))))) (kNotT (kChain .LtE .LtE (oVar 1) (oE (kBi (.fn "len") (oCons (oVar 0) oNil))) (oVar 2)))) (sq (kRaise "InvalidBits")
  sNil) sNil)
  sNil)
def F_need_bits : CF := fn1 3 3 (b_need_bits TF F_is_bits)
def b_bits_of (tf : Nat) (g_is_whole : CF) (g_raised : CF) : M Flow' :=
  (sq (kIfS (kOrT (kNotT (kTru (oE (kCallF g_is_whole 3 (oCons (oE (kVar 1)) (oCons (oE (kC (.int 0))) (oCons (oE (kC (.int 64))) oNil))))))) (kNotT (kTru (oE (kCallF g_is_whole 3 (oCons (oE (kVar 0)) (oCons (oE (kC (.int 0))) (oCons (oE (kBin .Sub (oE (kCallF g_raised 2 (oCons (oE (kC (.int 2))) (oCons (oE (kVar 1)) oNil)))) (oE (kC (.int 1))))) oNil)))))))) (sq (kRaise "InvalidNumber")
  sNil) sNil)
  (sq (kPar 3 4 (kLst aNil) (kVar 0))
  (sq (kFor tf (wRg1 (aCons (kVar 1) aNil)) (bN 2) (sq (kEx (kPush 3 (kBin .Mod (oVar 4) (oE (kC (.int 2))))))
  (sq (kSet 4 (kBin .FloorDiv (oVar 4) (oE (kC (.int 2)))))
  sNil)))
  (sq (kRet (kBi (.ty "tuple") (oCons (oE (kRev (oVar 3))) oNil)))
  sNil))))
def F_bits_of : CF := fn1 2 5 (b_bits_of TF F_is_whole F_raised)
def b_number_of (tf : Nat) (g_need_bits : CF) : M Flow' :=
  (sq (kEx (kCallF g_need_bits 3 (oCons (oE (kVar 0)) (oCons (oE (kC (.int 0))) (oCons (oE (kC (.int 64))) oNil)))))
  (sq (kSet 1 (kC (.int 0)))
  (sq (kFor tf (wLi (oVar 0)) (bN 2) (sq (kSet 1 (kBin .Add (oE (kBin .Mult (oE (kC (.int 2))) (oVar 1))) (oVar 2)))
  sNil))
  (sq (kRetV 1)
  sNil))))
def F_number_of : CF := fn1 1 3 (b_number_of TF F_need_bits)
def b_signed_bits (tf : Nat) (g_raised : CF) (g_bits_of : CF) (g_is_whole : CF) : M Flow' :=
  (sq (kIfS (kNotT (kTru (oE (kCallF g_is_whole 3 (oCons (oE (kVar 1)) (oCons (oE (kC (.int 1))) (oCons (oE (kC (.int 64))) oNil))))))) (sq (kRaise "InvalidNumber")
  sNil) sNil)
  (sq (kSet 2 (kCallF g_raised 2 (oCons (oE (kC (.int 2))) (oCons (oE (kBin .Sub (oVar 1) (oE (kC (.int 1))))) oNil))))
  (sq (kIfS (kNotT (kTru (oE (kCallF g_is_whole 3 (oCons (oE (kVar 0)) (oCons (oE (kNeg (oVar 2))) (oCons (oE (kBin .Sub (oVar 2) (oE (kC (.int 1))))) oNil))))))) (sq (kRaise "InvalidNumber")
  sNil) sNil)
  (sq (kRet (kCallF g_bits_of 2 (oCons (oE (kIf (kCmpT .GtE (oVar 0) (oE (kC (.int 0)))) (kVar 0) (kBin .Add (oE (kBin .Mult (oE (kC (.int 2))) (oVar 2))) (oVar 0)))) (oCons (oE (kVar 1)) oNil))))
  sNil))))
def F_signed_bits : CF := fn1 2 3 (b_signed_bits TF F_raised F_bits_of F_is_whole)
def b_signed_of (tf : Nat) (g_need_bits : CF) (g_number_of : CF) (g_raised : CF) : M Flow' :=
  (sq (kEx (kCallF g_need_bits 3 (oCons (oE (kVar 0)) (oCons (oE (kC (.int 1))) (oCons (oE (kC (.int 64))) oNil)))))
  (sq (kRet (kBin .Sub (oE (kCallF g_number_of 1 (oCons (oE (kVar 0)) oNil))) (oE (kBin .Mult (oE (kIx (oVar 0) (oE (kC (.int 0))))) (oE (kCallF g_raised 2 (oCons (oE (kC (.int 2))) (oCons (oE (kBi (.fn "len") (oCons (oVar 0) oNil))) oNil))))))))
  sNil))
def F_signed_of : CF := fn1 1 1 (b_signed_of TF F_need_bits F_number_of F_raised)
def b_fewest_for (tf : Nat) (g_need_whole : CF) (g_raised : CF) : M Flow' :=
  (sq (kEx (kCallF g_need_whole 3 (oCons (oE (kVar 0)) (oCons (oE (kC (.int 1))) (oCons (oE (kCallF g_raised 2 (oCons (oE (kC (.int 2))) (oCons (oE (kC (.int 64))) oNil)))) oNil)))))
  (sq (kTupS (bT [(bN 1), (bN 2)]) (kTup (aCons (kC (.int 0)) (aCons (kC (.int 1)) aNil))))
  (sq (kWhile tf (kCmpT .Lt (oVar 2) (oVar 0)) (sq (kPar 1 2 (kBin .Add (oVar 1) (oE (kC (.int 1)))) (kBin .Mult (oE (kC (.int 2))) (oVar 2)))
  sNil))
  (sq (kRetV 1)
  sNil))))
def F_fewest_for : CF := fn1 1 3 (b_fewest_for TF F_need_whole F_raised)
end
end FL
end

section
set_option maxHeartbeats 2000000
namespace FL
open PySem PySem.Spec L2 PV
open PyProof.Rows hiding St
/-- an argument that is handed over -/
abbrev ar (d : D) : D × Bool := (d, false)
theorem s_is_whole (i a b : Int) : F_is_whole [ar (.int i), ar (.int a), ar (.int b)] = .ok (.bl (decide (a ≤ i) && decide (i ≤ b))) false [] := by
  by_cases h : a ≤ i <;> simp -implicitDefEqProofs [F_is_whole, b_is_whole, h]
theorem s_need_whole {i a b : Int} (h1 : a ≤ i) (h2 : i ≤ b) : F_need_whole [ar (.int i), ar (.int a), ar (.int b)] = .ok .non false [] := by
  simp -implicitDefEqProofs [F_need_whole, b_need_whole, s_is_whole, h1, h2]
theorem pow_foldl (x : Int) (xs : List Nat) (s : Int) : xs.foldl (fun s _ => s * x) s = s * x ^ xs.length := by
  induction xs generalizing s with
  | nil => simp
  | cons y ys ih => rw [List.foldl_cons, ih, List.length_cons, Int.pow_succ, Int.mul_assoc, Int.mul_comm x]
theorem mulOk_small {i j : Int} (h : PV.small64 j = true) : mulOk i j = true := by
  unfold mulOk
  rw [h]
  simp
theorem s_raised (x : Int) (n : Nat) (h : n ≤ 400) (hx : PV.small64 x = true) : F_raised [ar (.int x), ar (.int n)] = .ok (.int (x ^ n)) false [] := by
  simp -implicitDefEqProofs [F_raised, b_raised, s_need_whole (show (0 : Int) ≤ n by omega) (show (n : Int) ≤ 400 by omega), okRg_nat (show n < 2 ^ 62 by omega)]
  generalize hL : forL _ _ _ _ = r
  obtain ⟨v, hv, rfl⟩ := forL_1 (fun (s : Int) v => [.d (.int x), .d (.int n), .d (.int s), v]) (fun s _ => s * x) 1 hL fr_e (fun pre i post v e hv => by
    simp -implicitDefEqProofs [st_fr hv, mulOk_small hx]
    exact ⟨_, fr_d _, rfl⟩)
  simp -implicitDefEqProofs [pow_foldl]

/-- a tuple of integers -/
abbrev tI (xs : List Int) : D := .tup (xs.map .int)
def IsB (xs : List Int) : Prop := ∀ b ∈ xs, 0 ≤ b ∧ b ≤ 1
theorem s_is_tuple_of (xs : List D) (a b : Int) : F_is_tuple_of [ar (.tup xs), ar (.int a), ar (.int b)] = .ok (.bl (decide (a ≤ xs.length) && decide ((xs.length : Int) ≤ b))) false [] := by
  by_cases h : a ≤ xs.length <;> simp -implicitDefEqProofs [F_is_tuple_of, b_is_tuple_of, h]
theorem blsD_map {α : Type} (f : α → Bool) (xs : List α) : blsD (xs.map fun x => D.bl (f x)) = some (xs.map f) := by
  induction xs with
  | nil => rfl
  | cons x xs ih => simp [blsD, ih]
theorem s_is_bits {xs : List Int} (hb : IsB xs) (hl : xs.length ≤ 200000) : F_is_bits [ar (tI xs)] = .ok (.bl true) false [] := by
  simp -implicitDefEqProofs [F_is_bits, b_is_bits, s_is_tuple_of, show (xs.length : Int) ≤ 200000 by omega]
  generalize hL : walkL _ _ _ _ _ = r
  obtain rfl := walkL_m (fun i => .bl (decide (0 ≤ i) && decide (i ≤ 1))) hL (fun pre x post e acc ha => by
    have hx := hb x (by rw [e]; simp)
    have : acc.length < sizeLine := by rw [ha]; have := congrArg List.length e; simp at this; unfold sizeLine; omega
    simp -implicitDefEqProofs [s_is_whole, this]
    exact ⟨_, rfl, rfl, rfl⟩)
  simp -implicitDefEqProofs [blsD_map]
  exact hb
theorem s_need_bits {xs : List Int} {a b : Int} (hb : IsB xs) (h0 : xs.length ≤ 200000) (h1 : a ≤ xs.length) (h2 : (xs.length : Int) ≤ b) : F_need_bits [ar (tI xs), ar (.int a), ar (.int b)] = .ok .non false [] := by
  simp -implicitDefEqProofs [F_need_bits, b_need_bits, s_is_bits hb h0, h1, h2]
/-- the integer of bits -/
def numB (xs : List Int) : Int := xs.foldl (fun s b => 2 * s + b) 0
theorem numB_snoc (xs : List Int) (b : Int) : numB (xs ++ [b]) = 2 * numB xs + b := by simp [numB]
theorem IsB.app {xs ys : List Int} : IsB (xs ++ ys) ↔ IsB xs ∧ IsB ys := by
  unfold IsB
  simp only [List.mem_append]
  exact ⟨fun h => ⟨fun b hb => h b (.inl hb), fun b hb => h b (.inr hb)⟩, fun ⟨h1, h2⟩ b hb => hb.elim (h1 b) (h2 b)⟩
theorem IsB.one {b : Int} : IsB [b] ↔ 0 ≤ b ∧ b ≤ 1 := by simp [IsB]
theorem snoc_ind {α : Type} {P : List α → Prop} (h0 : P []) (h : ∀ xs x, P xs → P (xs ++ [x])) : ∀ xs, P xs := by
  intro xs
  rw [← List.reverse_reverse xs]
  induction xs.reverse with
  | nil => exact h0
  | cons x ys ih => rw [List.reverse_cons]; exact h _ x ih
theorem numB_lt' : ∀ (xs : List Int), IsB xs → 0 ≤ numB xs ∧ numB xs < 2 ^ xs.length := by
  refine snoc_ind ?_ ?_
  · intro _; decide
  · intro xs b ih hb
    rw [IsB.app, IsB.one] at hb
    have := ih hb.1
    rw [numB_snoc, List.length_append, List.length_singleton, Int.pow_succ]
    omega
theorem numB_lt {xs : List Int} (h : IsB xs) : 0 ≤ numB xs ∧ numB xs < 2 ^ xs.length := numB_lt' xs h
theorem small64_lt {i : Int} (h1 : -(2 ^ 64) < i) (h2 : i < 2 ^ 64) : PV.small64 i = true := by
  unfold PV.small64
  rw [decide_eq_true h1, decide_eq_true h2] <;> rfl
theorem mulOk_l {i j : Int} (h : PV.small64 i = true) : mulOk i j = true := by
  unfold mulOk
  rw [h] <;> rfl
theorem mulOk_2 (j : Int) : mulOk 2 j = true := mulOk_l (by decide)
theorem mulOk_2' (j : Int) : mulOk j 2 = true := mulOk_small (by decide)
theorem s_number_of {xs : List Int} (hb : IsB xs) (hl : xs.length ≤ 64) : F_number_of [ar (tI xs)] = .ok (.int (numB xs)) false [] := by
  simp -implicitDefEqProofs [F_number_of, b_number_of, s_need_bits hb (show xs.length ≤ 200000 by omega) (show (0 : Int) ≤ xs.length by omega) (show (xs.length : Int) ≤ 64 by omega)]
  generalize hL : forL _ _ _ _ = r
  obtain ⟨v, hv, rfl⟩ := forL_1 (fun (s : Int) v => [.d (tI xs), .d (.int s), v]) (fun s b => 2 * s + b) 0 hL fr_e (fun pre i post v e hv => by
    simp -implicitDefEqProofs [st_fr hv]
    exact ⟨_, fr_d _, rfl⟩)
  simp -implicitDefEqProofs
  rfl

/-- the bits of an integer, so many, the lowest first -/
def loB : Nat → Int → List Int
  | 0, _ => []
  | n + 1, i => i % 2 :: loB n (i / 2)
def bitsB (i : Int) (n : Nat) : List Int := (loB n i).reverse
theorem loB_len : ∀ (n : Nat) (i : Int), (loB n i).length = n
  | 0, _ => rfl
  | n + 1, i => by simp [loB, loB_len n]
theorem bitsB_len (n : Nat) (i : Int) : (bitsB i n).length = n := by simp [bitsB, loB_len]
theorem loB_is : ∀ (n : Nat) (i : Int), IsB (loB n i)
  | 0, _ => by intro b hb; cases hb
  | n + 1, i => by
    intro b hb
    rcases List.mem_cons.mp hb with rfl | hb
    · omega
    · exact loB_is n _ b hb
theorem bitsB_is (n : Nat) (i : Int) : IsB (bitsB i n) := fun b hb => loB_is n i b (List.mem_reverse.mp hb)
theorem loB_foldl : ∀ (xs : List Nat) (fs : List Int) (i : Int), xs.foldl (fun (p : List Int × Int) _ => (p.1 ++ [p.2 % 2], p.2 / 2)) (fs, i) = (fs ++ loB xs.length i, i / 2 ^ xs.length)
  | [], fs, i => by simp [loB]
  | x :: xs, fs, i => by
    rw [List.foldl_cons, loB_foldl xs]
    simp only [List.length_cons, loB, List.append_assoc, List.singleton_append]
    rw [Int.pow_succ', Int.ediv_ediv_of_nonneg (by decide)]
theorem two_pow_pos (n : Nat) : (0 : Int) < 2 ^ n := by
  induction n with
  | zero => decide
  | succ n ih => rw [Int.pow_succ]; omega
theorem numB_bitsB : ∀ (n : Nat) (i : Int), numB (bitsB i n) = i % 2 ^ n
  | 0, i => by simp [bitsB, loB, numB, Int.emod_one]
  | n + 1, i => by
    have h := numB_bitsB n (i / 2)
    unfold bitsB at h ⊢
    rw [loB, List.reverse_cons, numB_snoc, h, Int.pow_succ']
    have h1 := Int.mul_emod_mul_of_pos (a := 2) (i / 2) (2 ^ n) (by decide)
    have h2 : i = 2 * (i / 2) + i % 2 := by omega
    have h3 := Int.emod_nonneg (i / 2) (show (2 : Int) ^ n ≠ 0 from by have := two_pow_pos n; omega)
    have h4 := Int.emod_lt_of_pos (i / 2) (two_pow_pos n)
    rw [← h1]
    conv => rhs; rw [h2]
    have h5 : (2 * (i / 2) + i % 2) % (2 * 2 ^ n) = 2 * (i / 2 % 2 ^ n) + i % 2 := by
      have e := Int.mul_ediv_add_emod (i / 2) (2 ^ n)
      have e2 : 2 * (i / 2) + i % 2 = (2 * (i / 2 % 2 ^ n) + i % 2) + (2 * 2 ^ n) * (i / 2 / 2 ^ n) := by
        rw [Int.mul_assoc]
        omega
      rw [e2, Int.add_mul_emod_self_left]
      exact Int.emod_eq_of_lt (by omega) (by omega)
    rw [h5, h1]
theorem numB_inj : ∀ (xs ys : List Int), IsB xs → IsB ys → xs.length = ys.length → numB xs = numB ys → xs = ys := by
  refine snoc_ind ?_ ?_
  · intro ys _ _ h _
    exact (List.eq_nil_of_length_eq_zero (by simpa using h.symm)).symm
  · intro xs b ih ys h1 h2 hl hn
    rcases List.eq_nil_or_concat ys with rfl | ⟨zs, c, rfl⟩
    · simp at hl
    · rw [List.concat_eq_append] at *
      rw [IsB.app, IsB.one] at h1 h2
      rw [numB_snoc, numB_snoc] at hn
      have : b = c := by omega
      subst this
      rw [ih zs h1.1 h2.1 (by simpa using hl) (by omega)]
theorem bitsB_numB {xs : List Int} (h : IsB xs) : bitsB (numB xs) xs.length = xs := by
  refine numB_inj _ _ (bitsB_is _ _) h (bitsB_len _ _) ?_
  rw [numB_bitsB]
  exact Int.emod_eq_of_lt (numB_lt h).1 (numB_lt h).2
theorem s_bits_of {i : Int} {n : Nat} (hn : n ≤ 64) (h0 : 0 ≤ i) (h1 : i < 2 ^ n) : F_bits_of [ar (.int i), ar (.int n)] = .ok (tI (bitsB i n)) false [] := by
  simp -implicitDefEqProofs [F_bits_of, b_bits_of, s_is_whole, show (n : Int) ≤ 64 by omega, s_raised 2 n (by omega) (by decide), h0, show i ≤ 2 ^ n - 1 by omega, okRg_nat (show n < 2 ^ 62 by omega)]
  generalize hL : forL _ _ _ _ = r
  obtain ⟨v, hv, rfl⟩ := forL_1 (fun (s : List Int × Int) v => [.d (.int i), .d (.int n), v, .o (.lst (s.1.map .int)), .d (.int s.2)]) (fun p _ => (p.1 ++ [p.2 % 2], p.2 / 2)) ([], i) hL fr_e (fun pre t post v e hv => by
    rw [loB_foldl]
    have : (loB pre.length i).length < sizeLine := by
      have := congrArg List.length e; simp at this; simp [loB_len, sizeLine]; omega
    simp -implicitDefEqProofs [st_fr hv, this]
    exact ⟨.d (.int t), fr_d _, by simp⟩)
  rw [loB_foldl]
  simp -implicitDefEqProofs [bitsB]

theorem s_signed_bits {i : Int} {n : Nat} (h1 : 1 ≤ n) (hn : n ≤ 64) (h2 : -(2 ^ (n - 1)) ≤ i) (h3 : i < 2 ^ (n - 1)) : F_signed_bits [ar (.int i), ar (.int n)] = .ok (tI (bitsB (if i ≥ 0 then i else 2 * 2 ^ (n - 1) + i) n)) false [] := by
  have e : ((n : Int) - 1) = ((n - 1 : Nat) : Int) := by omega
  have e2 : (2 : Int) ^ n = 2 * 2 ^ (n - 1) := by rw [← Int.pow_succ', Nat.sub_add_cancel h1]
  have := two_pow_pos (n - 1)
  simp -implicitDefEqProofs [F_signed_bits, b_signed_bits, s_is_whole, show (1 : Int) ≤ n by omega, show (n : Int) ≤ 64 by omega, e, s_raised 2 (n - 1) (by omega) (by decide), h2, show i ≤ 2 ^ (n - 1) - 1 by omega]
  by_cases h : 0 ≤ i
  · simp -implicitDefEqProofs [h, s_bits_of hn h (show i < 2 ^ n by omega)]
  · simp -implicitDefEqProofs [h, s_bits_of hn (show 0 ≤ 2 * 2 ^ (n - 1) + i by omega) (show 2 * 2 ^ (n - 1) + i < 2 ^ n by omega)]
theorem s_signed_of {b : Int} {xs : List Int} (hb : IsB (b :: xs)) (hl : xs.length < 64) : F_signed_of [ar (tI (b :: xs))] = .ok (.int (numB (b :: xs) - b * 2 ^ (xs.length + 1))) false [] := by
  have e : (xs.length : Int) + 1 = ((xs.length + 1 : Nat) : Int) := rfl
  have hp : PV.mulOk b (2 ^ (xs.length + 1)) = true := mulOk_l (small64_lt (by have := (hb b (by simp)); omega) (by have := (hb b (by simp)); omega))
  simp -implicitDefEqProofs [F_signed_of, b_signed_of, s_need_bits hb (show (b :: xs).length ≤ 200000 by simp; omega) (show (1 : Int) ≤ (b :: xs).length by simp; omega) (show ((b :: xs).length : Int) ≤ 64 by simp; omega),
    s_number_of hb (show (b :: xs).length ≤ 64 by simp; omega)]
  rw [e, s_raised 2 _ (by omega) (by decide)]
  simp -implicitDefEqProofs [hp]
/-- the least number of bits -/
def IsFew (m : Int) (k : Nat) : Prop := m ≤ 2 ^ k ∧ ∀ j, j < k → (2 : Int) ^ j < m
theorem IsFew.uniq {m : Int} {k l : Nat} (h1 : IsFew m k) (h2 : IsFew m l) : k = l := by
  rcases Nat.lt_trichotomy k l with h | h | h
  · have := h2.2 k h; have := h1.1; omega
  · exact h
  · have := h1.2 l h; have := h2.1; omega
theorem pow_le {a b : Nat} (h : a ≤ b) : (2 : Int) ^ a ≤ 2 ^ b := by
  obtain ⟨c, rfl⟩ := Nat.exists_eq_add_of_le h
  rw [Int.pow_add]
  have h1 := two_pow_pos a
  have h2 := two_pow_pos c
  have := Int.mul_le_mul_of_nonneg_left (show (1 : Int) ≤ 2 ^ c by omega) (show (0 : Int) ≤ 2 ^ a by omega)
  omega
theorem s_fewest_for {m : Int} (h1 : 1 ≤ m) (h2 : m ≤ 2 ^ 64) : ∃ k : Nat, IsFew m k ∧ F_fewest_for [ar (.int m)] = .ok (.int k) false [] := by
  simp -implicitDefEqProofs only [F_fewest_for, b_fewest_for]
  simp -implicitDefEqProofs [s_raised 2 64 (by omega) (by decide)]
  rw [show (64 : Int) = ((64 : Nat) : Int) from rfl, s_raised 2 64 (by omega) (by decide)]
  simp -implicitDefEqProofs [s_need_whole h1 (show m ≤ 18446744073709551616 by omega)]
  generalize hL : whileW _ _ _ _ = r
  obtain ⟨ρ', rfl, k, rfl, h5⟩ := while_R hL (fun (k : Nat) ρ => ρ = [Sl.d (.int m), .d (.int (k : Int)), .d (.int (2 ^ k))] ∧ k ≤ 64 ∧ ∀ j, j < k → (2 : Int) ^ j < m) (fun k => 64 - k)
    (fun ρ => ∃ k : Nat, ρ = [Sl.d (.int m), .d (.int (k : Int)), .d (.int (2 ^ k))] ∧ IsFew m k) 0 (by omega) ⟨rfl, by omega, fun j hj => by omega⟩ (fun k ρ h => by
      obtain ⟨rfl, hk, hj⟩ := h
      by_cases hlt : (2 : Int) ^ k < m
      · have hk2 : k < 64 := by
          rcases Nat.lt_or_ge k 64 with h | h
          · exact h
          · have := pow_le h; omega
        simp -implicitDefEqProofs [hlt]
        refine .inr ⟨k + 1, _, rfl, ⟨by simp [Int.pow_succ', Int.natCast_succ], by omega, fun j hj' => ?_⟩, by dsimp only; omega⟩
        rcases Nat.lt_or_ge j k with h | h
        · exact hj j h
        · have : j = k := by omega
          subst this; exact hlt
      · simp -implicitDefEqProofs [hlt]
        exact .inl ⟨_, rfl, k, rfl, by omega, hj⟩)
  exact ⟨k, h5, by simp -implicitDefEqProofs⟩
end FL
end

section
set_option maxHeartbeats 0
namespace FL
open PySem PySem.Spec L2 PV
open PyProof.Rows hiding St
noncomputable section
def b__law_roll (tf : Nat) : M Flow' :=
  (sq (kIfS (kCmpT .Gt (oE (kIx (oVar 0) (oE (kC (.int 0))))) (oE (kC (.int 0)))) (sq (kSet 3 (kBin .Mod (oE (kBi (.ty "int") (oCons (oE (kIx (oVar 0) (oE (kC (.int 0))))) oNil))) (oVar 1)))
  (sq (kSub 0 (kC (.int 0)) (kBin .FloorDiv (oE (kIx (oVar 0) (oE (kC (.int 0))))) (oVar 1)))
  (sq (kRetV 3)
  sNil))) sNil)
  (sq (kSub 0 (kC (.int 1)) (kBin .Mod (oE (kBi (.ty "int") (oCons (oE (kBin .Add (oE (kBin .Mult (oE (kIx (oVar 0) (oE (kC (.int 1))))) (oE (kC (.int 30671))))) (oE (kC (.int 8821))))) oNil))) (oE (kC (.int 2147483579)))))
  (sq (kSet 2 (kBin .Mod (oE (kBi (.ty "int") (oCons (oE (kBin .Mult (oE (kIx (oVar 0) (oE (kC (.int 1))))) (oE (kBin .Add (oE (kIx (oVar 0) (oE (kC (.int 1))))) (oE (kC (.int 631))))))) oNil))) (oE (kC (.int 2147483563)))))
  (sq (kRet (kBin .Mod (oE (kBi (.ty "int") (oCons (oE (kBin .FloorDiv (oVar 2) (oE (kC (.int 1193))))) oNil))) (oVar 1)))
  sNil))))
def F__law_roll : CF := fn1 2 4 (b__law_roll TF)
end
end FL
end

section
set_option maxHeartbeats 2000000
/-! Equality of data. -/
namespace PV
open PySem PySem.Spec L2
open PyProof.Rows hiding St
mutual
def D.eqb : D → D → Bool
  | .non, .non => true
  | .bl a, .bl b => a == b
  | .bl a, .int j => (if a then 1 else 0) == j
  | .int i, .bl b => i == (if b then 1 else 0)
  | .int i, .int j => i == j
  | .str x, .str y => x == y
  | .lst xs, .lst ys => D.eqbs xs ys
  | .tup xs, .tup ys => D.eqbs xs ys
  | _, _ => false
def D.eqbs : List D → List D → Bool
  | [], [] => true
  | x :: xs, y :: ys => D.eqb x y && D.eqbs xs ys
  | _, _ => false
end
/-- plain, at most so deep -/
inductive Pl : Nat → D → Prop
  | non {n : Nat} : Pl n .non
  | bl {n : Nat} (b : Bool) : Pl n (.bl b)
  | int {n : Nat} (i : Int) : Pl n (.int i)
  | str {n : Nat} {x : Str} : PyData.canLay0 (.str x) = true → Pl n (.str x)
  | tup {n : Nat} {xs : List D} : (∀ x ∈ xs, Pl n x) → Pl (n + 1) (.tup xs)
  | lst {n : Nat} {xs : List D} : (∀ x ∈ xs, Pl n x) → Pl (n + 1) (.lst xs)
theorem Pl.pys {n : Nat} : ∀ {xs : List D}, (∀ x ∈ xs, ∃ p, D.py x = some p ∧ p.canLay0 = true ∧ p.depth ≤ n) → ∃ ps, D.pys xs = some ps ∧ PyData.canLayAll0 ps = true ∧ PyData.depthAll ps ≤ n
  | [], _ => ⟨[], by simp [D.pys], by simp [PyData.canLayAll0], by simp [PyData.depthAll]⟩
  | x :: xs, h => by
    obtain ⟨p, h1, h2, h3⟩ := h x (by simp)
    obtain ⟨ps, h4, h5, h6⟩ := Pl.pys (xs := xs) fun y hy => h y (by simp [hy])
    exact ⟨p :: ps, by simp [D.pys, h1, h4], by simp [PyData.canLayAll0, h2, h5], by simp [PyData.depthAll]; omega⟩
theorem Pl.py {n : Nat} {d : D} (h : Pl n d) : ∃ p, D.py d = some p ∧ p.canLay0 = true ∧ p.depth ≤ n := by
  induction h with
  | non => exact ⟨.none, by simp [D.py], by simp [PyData.canLay0], by simp [PyData.depth]⟩
  | bl b => exact ⟨.bool b, by simp [D.py], by simp [PyData.canLay0], by simp [PyData.depth]⟩
  | int i => exact ⟨.int i, by simp [D.py], by simp [PyData.canLay0], by simp [PyData.depth]⟩
  | str h => exact ⟨.str _, by simp [D.py], h, by simp [PyData.depth]⟩
  | tup _ ih =>
    obtain ⟨ps, h1, h2, h3⟩ := Pl.pys ih
    exact ⟨.tuple ps, by simp [D.py, h1], by simpa [PyData.canLay0] using h2, by simp [PyData.depth]; omega⟩
  | lst _ ih =>
    obtain ⟨ps, h1, h2, h3⟩ := Pl.pys ih
    exact ⟨.list ps, by simp [D.py, h1], by simpa [PyData.canLay0] using h2, by simp [PyData.depth]; omega⟩
mutual
theorem eqb_py : ∀ (x y : D) (p q : PyData), D.py x = some p → D.py y = some q → PyData.eqv p q = D.eqb x y
  | .tup xs, y, p, q, h1, h2 => by
    simp only [D.py, Option.map_eq_some_iff] at h1
    obtain ⟨ps, h3, rfl⟩ := h1
    cases y <;> simp only [D.py, Option.map_eq_some_iff, Option.some.injEq, reduceCtorEq] at h2
    case tup ys => obtain ⟨qs, h4, rfl⟩ := h2; simpa only [PyData.eqv, D.eqb] using eqbs_py xs ys ps qs h3 h4
    case lst ys => obtain ⟨qs, h4, rfl⟩ := h2; simp only [PyData.eqv, D.eqb]
    all_goals subst h2; simp only [PyData.eqv, D.eqb]
  | .lst xs, y, p, q, h1, h2 => by
    simp only [D.py, Option.map_eq_some_iff] at h1
    obtain ⟨ps, h3, rfl⟩ := h1
    cases y <;> simp only [D.py, Option.map_eq_some_iff, Option.some.injEq, reduceCtorEq] at h2
    case lst ys => obtain ⟨qs, h4, rfl⟩ := h2; simpa only [PyData.eqv, D.eqb] using eqbs_py xs ys ps qs h3 h4
    case tup ys => obtain ⟨qs, h4, rfl⟩ := h2; simp only [PyData.eqv, D.eqb]
    all_goals subst h2; simp only [PyData.eqv, D.eqb]
  | .non, y, p, q, h1, h2 => by
    simp only [D.py, Option.some.injEq] at h1; subst h1
    cases y <;> simp only [D.py, Option.map_eq_some_iff, Option.some.injEq, reduceCtorEq] at h2
    case tup ys => obtain ⟨qs, h4, rfl⟩ := h2; simp only [PyData.eqv, D.eqb]
    case lst ys => obtain ⟨qs, h4, rfl⟩ := h2; simp only [PyData.eqv, D.eqb]
    all_goals subst h2; simp only [PyData.eqv, D.eqb]
  | .bl b, y, p, q, h1, h2 => by
    simp only [D.py, Option.some.injEq] at h1; subst h1
    cases y <;> simp only [D.py, Option.map_eq_some_iff, Option.some.injEq, reduceCtorEq] at h2
    case tup ys => obtain ⟨qs, h4, rfl⟩ := h2; simp only [PyData.eqv, D.eqb]
    case lst ys => obtain ⟨qs, h4, rfl⟩ := h2; simp only [PyData.eqv, D.eqb]
    all_goals subst h2; simp only [PyData.eqv, D.eqb]
  | .int i, y, p, q, h1, h2 => by
    simp only [D.py, Option.some.injEq] at h1; subst h1
    cases y <;> simp only [D.py, Option.map_eq_some_iff, Option.some.injEq, reduceCtorEq] at h2
    case tup ys => obtain ⟨qs, h4, rfl⟩ := h2; simp only [PyData.eqv, D.eqb]
    case lst ys => obtain ⟨qs, h4, rfl⟩ := h2; simp only [PyData.eqv, D.eqb]
    all_goals subst h2; simp only [PyData.eqv, D.eqb]
  | .str x, y, p, q, h1, h2 => by
    simp only [D.py, Option.some.injEq] at h1; subst h1
    cases y <;> simp only [D.py, Option.map_eq_some_iff, Option.some.injEq, reduceCtorEq] at h2
    case tup ys => obtain ⟨qs, h4, rfl⟩ := h2; simp only [PyData.eqv, D.eqb]
    case lst ys => obtain ⟨qs, h4, rfl⟩ := h2; simp only [PyData.eqv, D.eqb]
    all_goals subst h2; simp only [PyData.eqv, D.eqb]
  | .scr _, _, _, _, h1, _ => by simp [D.py] at h1
  | .dK _ _, _, _, _, h1, _ => by simp [D.py] at h1
  | .dT _ _, _, _, _, h1, _ => by simp [D.py] at h1
  | .fn _, _, _, _, h1, _ => by simp [D.py] at h1
  | .ty _, _, _, _, h1, _ => by simp [D.py] at h1
  | .exc _ _ _, _, _, _, h1, _ => by simp [D.py] at h1
theorem eqbs_py : ∀ (xs ys : List D) (ps qs : List PyData), D.pys xs = some ps → D.pys ys = some qs → PyData.eqvAll ps qs = D.eqbs xs ys
  | [], [], ps, qs, h1, h2 => by
    simp only [D.pys, Option.some.injEq] at h1 h2; subst h1 h2
    simp only [PyData.eqvAll, D.eqbs]
  | [], y :: ys, ps, qs, h1, h2 => by
    simp only [D.pys, Option.some.injEq] at h1; subst h1
    unfold D.pys at h2
    split at h2
    · cases h2; simp only [PyData.eqvAll, D.eqbs]
    · cases h2
  | x :: xs, [], ps, qs, h1, h2 => by
    simp only [D.pys, Option.some.injEq] at h2; subst h2
    unfold D.pys at h1
    split at h1
    · cases h1; simp only [PyData.eqvAll, D.eqbs]
    · cases h1
  | x :: xs, y :: ys, ps, qs, h1, h2 => by
    unfold D.pys at h1 h2
    split at h1
    · rename_i p ps' e1 e2
      cases h1
      split at h2
      · rename_i q qs' e3 e4
        cases h2
        simp only [PyData.eqvAll, D.eqbs, eqb_py x y p q e1 e3, eqbs_py xs ys ps' qs' e2 e4]
      · cases h2
    · cases h1
end
theorem Pl.dpt {d : D} (h : Pl 64 d) : ∃ p, D.py d = some p ∧ D.dpt d = some p := by
  obtain ⟨p, h1, h2, h3⟩ := h.py
  refine ⟨p, h1, ?_⟩
  unfold D.dpt
  rw [h1]
  dsimp only
  rw [show SeqAt.shaped p = true by unfold SeqAt.shaped; rw [h2, decide_eq_true h3] <;> rfl]
  rfl
theorem eqD_pl {x y : D} (hx : Pl 64 x) (hy : Pl 64 y) : eqD x y = some (D.eqb x y) := by
  obtain ⟨p, h1, h2⟩ := hx.dpt
  obtain ⟨q, h3, h4⟩ := hy.dpt
  unfold eqD
  rw [h2, h4]
  dsimp only
  rw [eqb_py x y p q h1 h3]
theorem Pl.ints {n : Nat} (xs : List Int) : ∀ x ∈ xs.map D.int, Pl n x := by
  intro x hx
  obtain ⟨i, _, rfl⟩ := List.mem_map.mp hx
  exact .int i
theorem Pl.tI {n : Nat} (xs : List Int) : Pl (n + 1) (.tup (xs.map .int)) := .tup (.ints xs)
theorem Pl.lI {n : Nat} (xs : List Int) : Pl (n + 1) (.lst (xs.map .int)) := .lst (.ints xs)
theorem Pl.mono {n m : Nat} {d : D} (h : Pl n d) (hm : n ≤ m) : Pl m d := by
  induction h generalizing m with
  | non => exact .non
  | bl b => exact .bl b
  | int i => exact .int i
  | str h => exact .str h
  | tup _ ih =>
    obtain ⟨k, rfl⟩ : ∃ k, m = k + 1 := ⟨m - 1, by omega⟩
    exact .tup fun x hx => ih x hx (by omega)
  | lst _ ih =>
    obtain ⟨k, rfl⟩ : ∃ k, m = k + 1 := ⟨m - 1, by omega⟩
    exact .lst fun x hx => ih x hx (by omega)
theorem eqbs_ints : ∀ (xs ys : List Int), D.eqbs (xs.map .int) (ys.map .int) = decide (xs = ys)
  | [], [] => by simp [D.eqbs]
  | [], _ :: _ => by simp [D.eqbs]
  | _ :: _, [] => by simp [D.eqbs]
  | x :: xs, y :: ys => by
    simp only [List.map_cons, D.eqbs, D.eqb, eqbs_ints xs ys, List.cons.injEq]
    by_cases h : x = y <;> simp [h]
@[simp] theorem eqD_int (i j : Int) : eqD (.int i) (.int j) = some (decide (i = j)) := (eqD_pl (.int i) (.int j)).trans (by simp only [D.eqb]; by_cases h : i = j <;> simp [h])
@[simp] theorem eqD_bl (a b : Bool) : eqD (.bl a) (.bl b) = some (a == b) := (eqD_pl (.bl a) (.bl b)).trans (by simp only [D.eqb])
@[simp] theorem eqD_tI (xs ys : List Int) : eqD (.tup (xs.map .int)) (.tup (ys.map .int)) = some (decide (xs = ys)) := (eqD_pl (.tI xs) (.tI ys)).trans (by simp only [D.eqb, eqbs_ints])
@[simp] theorem eqD_lI (xs ys : List Int) : eqD (.lst (xs.map .int)) (.lst (ys.map .int)) = some (decide (xs = ys)) := (eqD_pl (.lI xs) (.lI ys)).trans (by simp only [D.eqb, eqbs_ints])
theorem eqbs_len : ∀ {xs ys : List D}, D.eqbs xs ys = true → xs.length = ys.length
  | [], [], _ => rfl
  | [], _ :: _, h => by simp [D.eqbs] at h
  | _ :: _, [], h => by simp [D.eqbs] at h
  | x :: xs, y :: ys, h => by
    simp only [D.eqbs, Bool.and_eq_true] at h
    simp [eqbs_len h.2]
end PV
end

section
set_option maxHeartbeats 2000000
namespace FL
open PySem PySem.Spec L2 PV
open PyProof.Rows hiding St

/-! ### draws -/
/-- the cup -/
def cupD (c : Int × Int) : D := .lst [.int c.1, .int c.2]
def mixA (c : Int × Int) : Int := (c.2 * 30671 + 8821) % 2147483579
def rv (c : Int × Int) (m : Int) : Int := if 0 < c.1 then c.1 % m else ((mixA c * (mixA c + 631)) % 2147483563 / 1193) % m
def rc (c : Int × Int) (m : Int) : Int × Int := if 0 < c.1 then (c.1 / m, c.2) else (c.1, mixA c)
theorem rv_nn (c : Int × Int) {m : Int} (h : 0 < m) : 0 ≤ rv c m := by
  unfold rv
  split <;> exact Int.emod_nonneg _ (by omega)
theorem rv_lt (c : Int × Int) {m : Int} (h : 0 < m) : rv c m < m := by
  unfold rv
  split <;> exact Int.emod_lt_of_pos _ h
/-- a number that may be drawn up to -/
def dOk (m : Int) : Prop := 0 < m ∧ divOk m = true
theorem dOk_lt {m : Int} (h : 0 < m) (h2 : m < 1073741824) : dOk m := ⟨h, by simp [h, h2]⟩
theorem mixA_b (c : Int × Int) : 0 ≤ mixA c ∧ mixA c < 2147483579 := ⟨Int.emod_nonneg _ (by decide), Int.emod_lt_of_pos _ (by decide)⟩
theorem s_roll (c : Int × Int) {m : Int} (h : dOk m) : F__law_roll [(cupD c, true), ar (.int m)] = .ok (.int (rv c m)) false [.l (cupD (rc c m))] := by
  have hd := h.2
  have hp := h.1
  have h1 := mixA_b c
  by_cases hc : 0 < c.1
  · simp -implicitDefEqProofs [F__law_roll, b__law_roll, cupD, rv, rc, hc, hd, hp, setD, ixN]
  · have e : (c.2 * 30671 + 8821) % 2147483579 = mixA c := rfl
    have e2 : PV.small64 (mixA c) = true := small64_of (by omega) (by omega)
    simp -implicitDefEqProofs [F__law_roll, b__law_roll, cupD, rv, rc, hc, hd, hp, setD, ixN, e, e2]

/-- so many draws -/
def rvs : Nat → Int × Int → Int → List Int
  | 0, _, _ => []
  | n + 1, c, m => rv c m :: rvs n (rc c m) m
def rcs : Nat → Int × Int → Int → Int × Int
  | 0, c, _ => c
  | n + 1, c, m => rcs n (rc c m) m
theorem rvs_len : ∀ (n : Nat) (c : Int × Int) (m : Int), (rvs n c m).length = n
  | 0, _, _ => rfl
  | n + 1, c, m => by simp [rvs, rvs_len n]
theorem rvs_mem : ∀ (n : Nat) (c : Int × Int) {m : Int}, 0 < m → ∀ x ∈ rvs n c m, 0 ≤ x ∧ x < m
  | 0, _, _, _ => by intro x hx; cases hx
  | n + 1, c, m, hm => by
    intro x hx
    rcases List.mem_cons.mp hx with rfl | hx
    · exact ⟨rv_nn c hm, rv_lt c hm⟩
    · exact rvs_mem n _ hm x hx
theorem rvs_bits (n : Nat) (c : Int × Int) : IsB (rvs n c 2) := fun x hx => by have := rvs_mem n c (show (0 : Int) < 2 by decide) x hx; omega
theorem rcs_foldl {α : Type} (m : Int) : ∀ (xs : List α) (c : Int × Int), xs.foldl (fun c _ => rc c m) c = rcs xs.length c m
  | [], _ => rfl
  | _ :: xs, c => by rw [List.foldl_cons, rcs_foldl m xs]; rfl
theorem rvs_foldl {α : Type} (m : Int) : ∀ (xs : List α) (acc : List D) (c : Int × Int), (xs.foldl (fun (p : List D × (Int × Int)) _ => (p.1 ++ [D.int (rv p.2 m)], rc p.2 m)) (acc, c)).1 = acc ++ (rvs xs.length c m).map .int
  | [], acc, c => by simp [rvs]
  | _ :: xs, acc, c => by rw [List.foldl_cons, rvs_foldl m xs]; simp [rvs]
/-- a comprehension of draws -/
theorem walk_rolls {α : Type} {emb : α → D} {xs : List α} {vs : List Nat} {step : List D → D → M (List D)} {r : Res (List D)} (lay : Int × Int → Evm) (m : Int) (c : Int × Int)
    (e : walkL vs step (xs.map emb) [] (lay c) = r)
    (h : ∀ pre x post, xs = pre ++ x :: post → ∀ (acc : List D) s, acc.length = pre.length → Ws vs (lay (rc s m)) (acc ++ [.int (rv s m)]) (step acc (emb x) (lay s))) :
    r = .ok ((rvs xs.length c m).map .int) (lay (rcs xs.length c m)) := by
  obtain ⟨acc, h1, h2, h3⟩ := walkL_s lay (fun s _ => rc s m) (fun s _ => .int (rv s m)) c e h
  rw [rvs_foldl] at h2
  rw [rcs_foldl] at h1
  rw [h1, h2]
  simp

/-! ### likeness -/
mutual
def likeD : D → D → Bool
  | .tup xs, .tup ys => likeDs xs ys
  | .lst xs, .lst ys => likeDs xs ys
  | .bl a, .bl b => a == b
  | .int i, .int j => i == j
  | .str x, .str y => x == y
  | .non, .non => true
  | _, _ => false
def likeDs : List D → List D → Bool
  | [], [] => true
  | x :: xs, y :: ys => likeD x y && likeDs xs ys
  | _, _ => false
end
theorem likeDs_zip : ∀ (xs ys : List D), xs.length = ys.length → likeDs xs ys = (xs.zip ys).all fun p => likeD p.1 p.2
  | [], [], _ => by simp [likeDs]
  | x :: xs, y :: ys, h => by simp [likeDs, likeDs_zip xs ys (by simpa using h)]
  | [], _ :: _, h => by simp at h
  | _ :: _, [], h => by simp at h
theorem likeDs_len : ∀ (xs ys : List D), xs.length ≠ ys.length → likeDs xs ys = false
  | [], [], h => by simp at h
  | x :: xs, y :: ys, h => by simp [likeDs, likeDs_len xs ys (by simpa using h)]
  | [], _ :: _, h => by simp [likeDs]
  | _ :: _, [], h => by simp [likeDs]
theorem zpL_zip : ∀ (xs ys : List D), zpL xs ys = (xs.zip ys).map fun p => .tup [p.1, p.2]
  | [], ys => by cases ys <;> simp [zpL]
  | _ :: _, [] => by simp [zpL]
  | x :: xs, y :: ys => by simp [zpL, zpL_zip xs ys]
theorem flat_ones {α : Type} (p : α → Bool) (xs : List α) : (xs.flatMap fun x => if p x then [] else [D.int 1]) = ((xs.filter fun x => !p x).map fun _ => (1 : Int)).map D.int := by
  induction xs with
  | nil => rfl
  | cons x xs ih => simp only [List.flatMap_cons, ih, List.filter_cons]; cases p x <;> simp
theorem flat_nil {α : Type} (p : α → Bool) (xs : List α) : decide (((xs.filter fun x => !p x).map fun _ => (1 : Int)) = []) = xs.all p := by
  induction xs with
  | nil => rfl
  | cons x xs ih => simp only [List.filter_cons, List.all_cons]; cases p x <;> simp_all
/-- plain, at most so deep, no list too long -/
inductive Ps : Nat → D → Prop
  | non {n : Nat} : Ps n .non
  | bl {n : Nat} (b : Bool) : Ps n (.bl b)
  | int {n : Nat} (i : Int) : Ps n (.int i)
  | str {n : Nat} {x : Str} : PyData.canLay0 (.str x) = true → Ps n (.str x)
  | tup {n : Nat} {xs : List D} : xs.length < sizeLine → (∀ x ∈ xs, Ps n x) → Ps (n + 1) (.tup xs)
  | lst {n : Nat} {xs : List D} : xs.length < sizeLine → (∀ x ∈ xs, Ps n x) → Ps (n + 1) (.lst xs)
theorem Ps.pl {n : Nat} {d : D} (h : Ps n d) : Pl n d := by
  induction h with
  | non => exact .non
  | bl b => exact .bl b
  | int i => exact .int i
  | str h => exact .str h
  | tup _ _ ih => exact .tup ih
  | lst _ _ ih => exact .lst ih
theorem Ps.tI {n : Nat} {xs : List Int} (h : xs.length < sizeLine) : Ps (n + 1) (tI xs) := .tup (by simpa using h) fun x hx => by
  obtain ⟨i, _, rfl⟩ := List.mem_map.mp hx
  exact .int i
def notLike (xs ys : List D) : List Int := ((xs.zip ys).filter fun p => !likeD p.1 p.2).map fun _ => 1
theorem eqD_l0 (xs : List Int) : eqD (.lst (xs.map .int)) (.lst []) = some (decide (xs = [])) := eqD_lI xs []
theorem likeDs_ints : ∀ (xs ys : List Int), likeDs (xs.map .int) (ys.map .int) = decide (xs = ys)
  | [], [] => by simp [likeDs]
  | [], _ :: _ => by simp [likeDs]
  | _ :: _, [] => by simp [likeDs]
  | x :: xs, y :: ys => by
    simp only [List.map_cons, likeDs, likeD, likeDs_ints xs ys, List.cons.injEq]
    by_cases h : x = y <;> simp [h]
mutual
theorem likeD_refl : ∀ {n : Nat} {d : D}, Ps n d → likeD d d = true
  | _, _, .non => by simp [likeD]
  | _, _, .bl b => by simp [likeD]
  | _, _, .int i => by simp [likeD]
  | _, _, .str h => by simp [likeD]
  | _, _, .tup hl h => by simp only [likeD]; exact likeDs_refl _ h
  | _, _, .lst hl h => by simp only [likeD]; exact likeDs_refl _ h
theorem likeDs_refl : ∀ {n : Nat} (xs : List D), (∀ x ∈ xs, Ps n x) → likeDs xs xs = true
  | _, [], _ => by simp [likeDs]
  | _, x :: xs, h => by
    simp only [likeDs, Bool.and_eq_true]
    exact ⟨likeD_refl (h x (by simp)), likeDs_refl xs fun y hy => h y (by simp [hy])⟩
end
theorem numB_acc : ∀ (xs : List Int) (s : Int), xs.foldl (fun s b => 2 * s + b) s = s * 2 ^ xs.length + numB xs
  | [], s => by simp [numB]
  | x :: xs, s => by
    have h1 := numB_acc xs (2 * s + x)
    have h2 := numB_acc xs (2 * 0 + x)
    unfold numB at *
    rw [List.foldl_cons, List.foldl_cons, h1, h2, List.length_cons, Int.pow_succ, Int.add_mul, Int.mul_comm 2 s, Int.mul_assoc s 2, Int.mul_comm 2 (2 ^ xs.length)]
    simp [Int.add_assoc]
theorem numB_cons (x : Int) (xs : List Int) : numB (x :: xs) = x * 2 ^ xs.length + numB xs := by
  have := numB_acc xs (2 * 0 + x)
  unfold numB at *
  rw [List.foldl_cons, this]
  simp
theorem IsB.cons {x : Int} {xs : List Int} : IsB (x :: xs) ↔ (0 ≤ x ∧ x ≤ 1) ∧ IsB xs := by simp [IsB]
theorem lex_numB : ∀ (xs ys : List Int), IsB xs → IsB ys → xs.length = ys.length → HT.lexLt xs ys = decide (numB xs < numB ys)
  | [], [], _, _, _ => rfl
  | [], _ :: _, _, _, h => by simp at h
  | _ :: _, [], _, _, h => by simp at h
  | x :: xs, y :: ys, h1, h2, hl => by
    rw [IsB.cons] at h1 h2
    have hl' : xs.length = ys.length := by simpa using hl
    have ih := lex_numB xs ys h1.2 h2.2 hl'
    have b1 := numB_lt h1.2
    have b2 := numB_lt h2.2
    rw [← hl'] at b2
    rw [HT.lexLt_cons, numB_cons, numB_cons, ← hl', ih]
    by_cases e : x = y
    · subst e
      rw [if_pos rfl]
      congr 1
      apply propext
      omega
    · rw [if_neg e]
      have hx : x = 0 ∨ x = 1 := by omega
      have hy : y = 0 ∨ y = 1 := by omega
      congr 1
      apply propext
      rcases hx with rfl | rfl <;> rcases hy with rfl | rfl <;> simp at e ⊢ <;> omega
theorem intsD_map (xs : List Int) : intsD (xs.map .int) = some xs := by
  induction xs with
  | nil => rfl
  | cons x xs ih => simp [intsD, ih]
theorem cmp_ltT (xs ys : List Int) : cmpD .Lt (.tup (xs.map .int)) (.tup (ys.map .int)) = some (HT.lexLt xs ys) := by
  show (match intsD _, intsD _ with | some a, some b => some (HT.lexLt a b) | _, _ => none) = _
  rw [intsD_map, intsD_map]
/-- a cup comes back -/
def CupR (r : CRes) : Prop := ∃ c, r = .ok (cupD c) true []
theorem Ps.lst2 {n : Nat} {x y : D} (hx : Ps n x) (hy : Ps n y) : Ps (n + 1) (.lst [x, y]) := .lst (by show 2 < sizeLine; decide) fun z hz => by
  simp at hz
  rcases hz with rfl | rfl
  · exact hx
  · exact hy
theorem Ps.lst3 {n : Nat} {x y u : D} (hx : Ps n x) (hy : Ps n y) (hu : Ps n u) : Ps (n + 1) (.lst [x, y, u]) := .lst (by show 3 < sizeLine; decide) fun z hz => by
  simp at hz
  rcases hz with rfl | rfl | rfl
  · exact hx
  · exact hy
  · exact hu
end FL
end

section
set_option maxHeartbeats 0
namespace FL
open PySem PySem.Spec L2 PV
open PyProof.Rows hiding St
noncomputable section
def b__law_kind (tf : Nat) : M Flow' :=
  (sq (kIfS (kTru (oE (kBi (.fn "isinstance") (oCons (oVar 0) (oCons (oE (kC (.ty "bool"))) oNil))))) (sq (kRet (kC (.int 0)))
  sNil) sNil)
  (sq (kIfS (kTru (oE (kBi (.fn "isinstance") (oCons (oVar 0) (oCons (oE (kC (.ty "tuple"))) oNil))))) (sq (kRet (kC (.int 1)))
  sNil) sNil)
  (sq (kRet (kIf (kTru (oE (kBi (.fn "isinstance") (oCons (oVar 0) (oCons (oE (kC (.ty "list"))) oNil))))) (kC (.int 2)) (kC (.int 3))))
  sNil)))
def F__law_kind : CF := fn1 1 1 (b__law_kind TF)
def b__law_like (tf : Nat) (g__law_kind : CF) (g__law_like : CF) : M Flow' :=
  (sq (kIfS (kCmpT .NotEq (oE (kCallF g__law_kind 1 (oCons (oE (kVar 0)) oNil))) (oE (kCallF g__law_kind 1 (oCons (oE (kVar 1)) oNil)))) (sq (kRet (kC (.bl false)))
  sNil) sNil)
  (sq (kIfS (kCmpT .In (oE (kCallF g__law_kind 1 (oCons (oE (kVar 0)) oNil))) (oE (kTup (aCons (kC (.int 1)) (aCons (kC (.int 2)) aNil))))) (sq (kRet (kAnd (kCmp .Eq (oE (kBi (.fn "len") (oCons (oVar 0) oNil))) (oE (kBi (.fn "len") (oCons (oVar 1) oNil)))) (kCmp .Eq (oE (kLc tf (wZp (oCons (oVar 0) (oCons (oVar 1) oNil))) [2, 3] (kStep (bT [(bN 2), (bN 3)]) (kNotT (kTru (oE (kCallF g__law_like 2 (oCons (oE (kVar 2)) (oCons (oE (kVar 3)) oNil)))))) (kC (.int 1))))) (oE (kLst aNil)))))
  sNil) sNil)
  (sq (kRet (kCmp .Eq (oVar 0) (oVar 1)))
  sNil)))
def F__law_like (z : Nat → CallO) : Nat → CF
  | 0 => z 0 "_law_like"
  | n + 1 => fn1 2 4 (b__law_like TF F__law_kind (F__law_like z n))
theorem F__law_like_s (z : Nat → CallO) (n : Nat) : F__law_like z (n + 1) = fn1 2 4 (b__law_like TF F__law_kind (F__law_like z n)) := rfl
end
end FL
end

section
set_option maxHeartbeats 2000000
namespace FL
open PySem PySem.Spec L2 PV
open PyProof.Rows hiding St

def kindD : D → Int
  | .bl _ => 0
  | .tup _ => 1
  | .lst _ => 2
  | _ => 3
theorem s_kind {n : Nat} {d : D} (h : Pl n d) : F__law_kind [ar d] = .ok (.int (kindD d)) false [] := by
  cases h <;> simp -implicitDefEqProofs [F__law_kind, b__law_kind, kindD]
theorem inL_12 (k : Int) : inL (.int k) [.int 1, .int 2] .tuple = some (decide (k = 1) || decide (k = 2)) := by
  have h : SeqAt.shaped (.tuple [.int 1, .int 2]) = true := by decide
  have h2 : D.dpt (.int k) = some (.int k) := by
    obtain ⟨p, h1, h2⟩ := (Pl.int k : Pl 64 (.int k)).dpt
    simp only [D.py, Option.some.injEq] at h1
    rw [h2, h1]
  have h3 : D.pys [.int 1, .int 2] = some [.int 1, .int 2] := by simp [D.pys, D.py]
  unfold inL
  rw [h2, h3]
  simp only [h, gd, List.any_cons, List.any_nil, PyData.eqv, Bool.or_false, Option.some.injEq]
  by_cases h1 : k = 1
  · subst h1; rfl
  · by_cases h2 : k = 2
    · subst h2; rfl
    · have e1 : ((1 : Int) == k) = false := beq_false_of_ne fun h => h1 h.symm
      have e2 : ((2 : Int) == k) = false := beq_false_of_ne fun h => h2 h.symm
      simp [e1, e2, h1, h2]
theorem like_rec (z : Nat → CallO) {k n : Nat} (ih : ∀ (x y : D), Ps k x → Ps k y → F__law_like z n [ar x, ar y] = .ok (.bl (likeD x y)) false [])
    {xs ys : List D} (hx : ∀ x ∈ xs, Ps k x) (hy : ∀ y ∈ ys, Ps k y) (hl : xs.length < sizeLine) (e : xs.length = ys.length) {ρ : Evm} {a b : D} (hρ : ρ = [.d a, .d b, .e, .e]) :
    walkL [2, 3] (kStep (bT [bN 2, bN 3]) (kNotT (kTru (oE (kCallF (F__law_like z n) 2 (oCons (oE (kVar 2)) (oCons (oE (kVar 3)) oNil)))))) (kC (.int 1))) (zpL xs ys) [] ρ = .ok ((notLike xs ys).map .int) ρ := by
  subst hρ
  rw [zpL_zip]
  generalize hL : walkL _ _ _ _ _ = r
  have := walkL_f (fun p : D × D => if likeD p.1 p.2 then [] else [D.int 1]) (fun p => by split <;> simp) hL (fun pre p post e' acc ha => by
    have hm : p ∈ xs.zip ys := by rw [e']; simp
    have h1 := ih p.1 p.2 (hx _ (List.of_mem_zip hm).1) (hy _ (List.of_mem_zip hm).2)
    have hz := congrArg List.length e'
    have h2 : acc.length < sizeLine := by simp at hz; omega
    simp -implicitDefEqProofs [h1]
    cases likeD p.1 p.2 with
    | true => simp -implicitDefEqProofs; exact ⟨_, rfl, rfl, rfl⟩
    | false => simp -implicitDefEqProofs [h2]; exact ⟨_, rfl, rfl, rfl⟩)
  rw [this, flat_ones]
  rfl
theorem like_leaf {x y : D} (h : kindD x = kindD y) (h1 : kindD x ≠ 1) (h2 : kindD x ≠ 2) : D.eqb x y = likeD x y := by
  cases x <;> cases y <;> simp_all [kindD, D.eqb, likeD]
theorem like_kind {x y : D} (h : kindD x ≠ kindD y) : likeD x y = false := by
  cases x <;> cases y <;> simp_all [kindD, likeD]
theorem kind_tup {x : D} (h : kindD x = 1) : ∃ xs, x = .tup xs := by
  cases x <;> simp [kindD] at h
  exact ⟨_, rfl⟩
theorem kind_lst {x : D} (h : kindD x = 2) : ∃ xs, x = .lst xs := by
  cases x <;> simp [kindD] at h
  exact ⟨_, rfl⟩
theorem s_like (z : Nat → CallO) : ∀ (k n : Nat) (x y : D), k < n → k ≤ 64 → Ps k x → Ps k y → F__law_like z n [ar x, ar y] = .ok (.bl (likeD x y)) false [] := by
  intro k
  induction k with
  | zero =>
    intro n x y hn hk hx hy
    obtain ⟨n, rfl⟩ : ∃ m, n = m + 1 := ⟨n - 1, by omega⟩
    have e : eqD x y = some (D.eqb x y) := eqD_pl (hx.pl.mono (by omega)) (hy.pl.mono (by omega))
    have h1 : kindD x ≠ 1 := by cases hx <;> simp [kindD]
    have h2 : kindD x ≠ 2 := by cases hx <;> simp [kindD]
    by_cases hk : kindD x = kindD y
    · rw [F__law_like_s]
      simp -implicitDefEqProofs [b__law_like, s_kind hx.pl, s_kind hy.pl, hk ▸ h1, hk ▸ h2, hk, inL_12, e, like_leaf hk h1 h2]
    · rw [F__law_like_s]
      simp -implicitDefEqProofs [b__law_like, s_kind hx.pl, s_kind hy.pl, hk, like_kind hk]
  | succ k ih =>
    intro n x y hn hk64 hx hy
    obtain ⟨n, rfl⟩ : ∃ m, n = m + 1 := ⟨n - 1, by omega⟩
    have e : eqD x y = some (D.eqb x y) := eqD_pl (hx.pl.mono (by omega)) (hy.pl.mono (by omega))
    have kx := s_kind hx.pl
    have ky := s_kind hy.pl
    rw [F__law_like_s]
    by_cases hk : kindD x = kindD y
    · by_cases h1 : kindD x = 1
      · obtain ⟨xs, rfl⟩ := kind_tup h1
        obtain ⟨ys, rfl⟩ := kind_tup (hk ▸ h1)
        cases hx with
        | tup hxl hx => cases hy with
          | tup hyl hy =>
            by_cases hl : xs.length = ys.length
            · have w := fun ρ (h : ρ = _) => like_rec z (k := k) (n := n) (fun x y h1 h2 => ih n x y (by omega) (by omega) h1 h2) hx hy hxl hl (ρ := ρ) (a := .tup xs) (b := .tup ys) h
              clear ih
              simp -implicitDefEqProofs [b__law_like, kx, ky, kindD, inL_12, hl, j_wkZT _ _ _ _ _ hl]
              rw [w _ rfl]
              simp -implicitDefEqProofs [likeD, likeDs_zip xs ys hl]
              rw [eqD_l0, notLike, flat_nil]
              simp -implicitDefEqProofs
            · clear ih
              simp -implicitDefEqProofs [b__law_like, kx, ky, kindD, inL_12, hl, likeD, likeDs_len xs ys hl, show ¬((xs.length : Int) = ys.length) by omega]
      · by_cases h2 : kindD x = 2
        · obtain ⟨xs, rfl⟩ := kind_lst h2
          obtain ⟨ys, rfl⟩ := kind_lst (hk ▸ h2)
          cases hx with
          | lst hxl hx => cases hy with
            | lst hyl hy =>
              by_cases hl : xs.length = ys.length
              · have w := fun ρ (h : ρ = _) => like_rec z (k := k) (n := n) (fun x y h1 h2 => ih n x y (by omega) (by omega) h1 h2) hx hy hxl hl (ρ := ρ) (a := .lst xs) (b := .lst ys) h
                clear ih
                simp -implicitDefEqProofs [b__law_like, kx, ky, kindD, inL_12, hl, j_wkZL _ _ _ _ _ hl]
                rw [w _ rfl]
                simp -implicitDefEqProofs [likeD, likeDs_zip xs ys hl]
                rw [eqD_l0, notLike, flat_nil]
                simp -implicitDefEqProofs
              · clear ih
                simp -implicitDefEqProofs [b__law_like, kx, ky, kindD, inL_12, hl, likeD, likeDs_len xs ys hl, show ¬((xs.length : Int) = ys.length) by omega]
        · clear ih
          simp -implicitDefEqProofs [b__law_like, kx, ky, hk ▸ h1, hk ▸ h2, hk, inL_12, e, like_leaf hk h1 h2]
    · clear ih
      simp -implicitDefEqProofs [b__law_like, kx, ky, hk, like_kind hk]

theorem s_like_refl (z : Nat → CallO) {k n : Nat} {d : D} (P : Ps k d) (h1 : k < n) (h2 : k ≤ 64) : F__law_like z n [ar d, ar d] = .ok (.bl true) false [] := by
  rw [s_like z k n _ _ h1 h2 P P, likeD_refl P]
end FL
end

section
set_option maxHeartbeats 0
namespace G0
open PySem PySem.Spec L2 PV
open PyProof.Rows hiding St
def top (i : Nat) : Stmt := PySem.Challenge.pw_formsheld_k01_whole_octets_and_beginning.main.body.getD i (.Pass ⟨0, 0, 0, 0⟩)
def fi (i : Nat) (x : Str) (ps N : List Str) (io : List Bool) (lm : Bool) : FI := ⟨x, ps, N, io, defBody (top i), defScope (top i), lm, defArgs (top i)⟩
def f_is_whole : FI := fi 7 "is_whole" ["value", "low", "high"] ["value", "low", "high"] [false, false, false] false
def f_need_whole : FI := fi 8 "need_whole" ["value", "low", "high"] ["value", "low", "high"] [false, false, false] false
def f_is_tuple_of : FI := fi 9 "is_tuple_of" ["value", "low", "high"] ["value", "low", "high"] [false, false, false] false
def f_raised : FI := fi 10 "raised" ["number", "many"] ["number", "many", "found", "_"] [false, false] false
def f_is_bits : FI := fi 14 "is_bits" ["value"] ["value", "one"] [false] false
def f_need_bits : FI := fi 15 "need_bits" ["value", "low", "high"] ["value", "low", "high"] [false, false, false] false
def f_bits_of : FI := fi 16 "bits_of" ["number", "many"] ["number", "many", "_", "found", "left"] [false, false] false
def f_number_of : FI := fi 17 "number_of" ["bits"] ["bits", "found", "bit"] [false] false
def f_octets_of : FI := fi 18 "octets_of" ["bits"] ["bits", "full", "at"] [false] false
def f_bits_in : FI := fi 19 "bits_in" ["octets", "many"] ["octets", "many", "found", "one", "bit"] [false, false] false
def f_is_beginning : FI := fi 20 "is_beginning" ["one", "other"] ["one", "other"] [false, false] false
def f_shared_beginning : FI := fi 21 "shared_beginning" ["one", "other"] ["one", "other", "at"] [false, false] false
def f_ones : FI := fi 22 "ones" ["bits"] ["bits"] [false] false
def f__law_cup : FI := fi 24 "_law_cup" ["script"] ["script", "cell"] [false] false
def f__law_roll : FI := fi 25 "_law_roll" ["cup", "many"] ["cup", "many", "deep", "found"] [true, false] false
def f__law_some : FI := fi 26 "_law_some" ["cup", "things"] ["cup", "things"] [true, false] false
def f__law_kind : FI := fi 27 "_law_kind" ["value"] ["value"] [false] false
def f__law_like : FI := fi 28 "_law_like" ["one", "other"] ["one", "other", "left", "right"] [false, false] false
def f__law_error : FI := fi 29 "_law_error" ["call"] ["call", "e", "words", "word", "is_so"] [false] false
def f__law_octets : FI := fi 30 "_law_octets" ["bits"] ["bits", "found", "at", "many", "to"] [false] false
def f__law_shared : FI := fi 31 "_law_shared" ["one", "other"] ["one", "other", "found", "left", "right"] [false, false] false
def f__law_bits : FI := fi 32 "_law_bits" ["cup", "most"] ["cup", "most", "at"] [true, false] false
def f_law : FI := fi 33 "law" ["script"] ["script", "cup", "told", "due", "words", "bad", "turn", "octets", "many", "bits", "other", "shared", "one", "bit"] [false] true
def funs0 : List FI := [f_is_whole, f_need_whole, f_is_tuple_of, f_raised, f_is_bits, f_need_bits, f_bits_of, f_number_of, f_octets_of, f_bits_in, f_is_beginning, f_shared_beginning, f_ones, f__law_cup, f__law_roll, f__law_some, f__law_kind, f__law_like, f__law_error, f__law_octets, f__law_shared, f__law_bits, f_law]
def subs0 : List ((Str × Str) × Bool) := [(("FormError", "FormError"), true), (("FormError", "InvalidNumber"), false), (("FormError", "InvalidBits"), false), (("FormError", "InvalidOctets"), false), (("FormError", "ValueError"), true), (("InvalidNumber", "FormError"), true), (("InvalidNumber", "InvalidNumber"), true), (("InvalidNumber", "InvalidBits"), false), (("InvalidNumber", "InvalidOctets"), false), (("InvalidNumber", "ValueError"), true), (("InvalidBits", "FormError"), true), (("InvalidBits", "InvalidNumber"), false), (("InvalidBits", "InvalidBits"), true), (("InvalidBits", "InvalidOctets"), false), (("InvalidBits", "ValueError"), true), (("InvalidOctets", "FormError"), true), (("InvalidOctets", "InvalidNumber"), false), (("InvalidOctets", "InvalidBits"), false), (("InvalidOctets", "InvalidOctets"), true), (("InvalidOctets", "ValueError"), true)]
def gm : Gm := ⟨funs0, [("HIGH", .int 400), ("LONG", .int 200000), ("WIDE", .int 64)], [⟨"FormError", none⟩, ⟨"InvalidNumber", none⟩, ⟨"InvalidBits", none⟩, ⟨"InvalidOctets", none⟩], subs0, ["ValueError", "abs", "all", "bool", "int", "isinstance", "len", "list", "max", "min", "range", "sum", "tuple", "zip"]⟩
def loose0 : List Str := ["is_whole", "need_whole", "is_tuple_of", "raised", "is_bits", "need_bits", "bits_of", "number_of", "octets_of", "bits_in", "is_beginning", "shared_beginning", "ones", "_law_cup", "_law_roll", "_law_some", "_law_kind", "_law_like", "_law_error", "_law_octets", "_law_shared", "_law_bits", "FormError", "InvalidNumber", "InvalidBits", "InvalidOctets", "HIGH", "LONG", "WIDE"]
def loose : List Str := loose0
abbrev R : PySem.W.OpenRow := PySem.W.OpenLaw.row PySem.Challenge.rw_formsheld_k01_whole_octets_and_beginning
abbrev hk : PySem.W.Hook := hookY 4 gm.fa gm.fn [] gm.tf (exB R.prog gm)
def ob (s : PySem.W.SharedT) : He.AlX := obsY 4 gm.fa gm.fn [] gm.tf (exB R.prog gm) (HandSHeadRun.getT s)
theorem ob_eq (s : PySem.W.SharedT) : ob s = hk.obs s.abs := obsY_eq (HandSHeadRun.getT_eq s)
abbrev PR (w : World) : Prop := HandSHeadRun.RunEq R (PySem.W.view R.prog [33]) hk ob 20000 loose w
theorem runF (w : World) : PR (w.withFollow "special-get-raises" false) := by
  intro os
  kernel_rfl
theorem runT (w : World) : PR (w.withFollow "special-get-raises" true) := by
  intro os
  kernel_rfl
theorem run (w : World) : PR w := PySem.W.byRow2 "special-get-raises" runF runT w
theorem stat : staticB gm = true := by kernel_rfl
theorem bp_is_whole : BindP f_is_whole := fun _ _ _ _ _ _ us hl => match us, hl with | [_, _, _], _ => rfl
theorem bp_need_whole : BindP f_need_whole := fun _ _ _ _ _ _ us hl => match us, hl with | [_, _, _], _ => rfl
theorem bp_is_tuple_of : BindP f_is_tuple_of := fun _ _ _ _ _ _ us hl => match us, hl with | [_, _, _], _ => rfl
theorem bp_raised : BindP f_raised := fun _ _ _ _ _ _ us hl => match us, hl with | [_, _], _ => rfl
theorem bp_is_bits : BindP f_is_bits := fun _ _ _ _ _ _ us hl => match us, hl with | [_], _ => rfl
theorem bp_need_bits : BindP f_need_bits := fun _ _ _ _ _ _ us hl => match us, hl with | [_, _, _], _ => rfl
theorem bp_bits_of : BindP f_bits_of := fun _ _ _ _ _ _ us hl => match us, hl with | [_, _], _ => rfl
theorem bp_number_of : BindP f_number_of := fun _ _ _ _ _ _ us hl => match us, hl with | [_], _ => rfl
theorem bp_octets_of : BindP f_octets_of := fun _ _ _ _ _ _ us hl => match us, hl with | [_], _ => rfl
theorem bp_bits_in : BindP f_bits_in := fun _ _ _ _ _ _ us hl => match us, hl with | [_, _], _ => rfl
theorem bp_is_beginning : BindP f_is_beginning := fun _ _ _ _ _ _ us hl => match us, hl with | [_, _], _ => rfl
theorem bp_shared_beginning : BindP f_shared_beginning := fun _ _ _ _ _ _ us hl => match us, hl with | [_, _], _ => rfl
theorem bp_ones : BindP f_ones := fun _ _ _ _ _ _ us hl => match us, hl with | [_], _ => rfl
theorem bp__law_cup : BindP f__law_cup := fun _ _ _ _ _ _ us hl => match us, hl with | [_], _ => rfl
theorem bp__law_roll : BindP f__law_roll := fun _ _ _ _ _ _ us hl => match us, hl with | [_, _], _ => rfl
theorem bp__law_some : BindP f__law_some := fun _ _ _ _ _ _ us hl => match us, hl with | [_, _], _ => rfl
theorem bp__law_kind : BindP f__law_kind := fun _ _ _ _ _ _ us hl => match us, hl with | [_], _ => rfl
theorem bp__law_like : BindP f__law_like := fun _ _ _ _ _ _ us hl => match us, hl with | [_, _], _ => rfl
theorem bp__law_error : BindP f__law_error := fun _ _ _ _ _ _ us hl => match us, hl with | [_], _ => rfl
theorem bp__law_octets : BindP f__law_octets := fun _ _ _ _ _ _ us hl => match us, hl with | [_], _ => rfl
theorem bp__law_shared : BindP f__law_shared := fun _ _ _ _ _ _ us hl => match us, hl with | [_, _], _ => rfl
theorem bp__law_bits : BindP f__law_bits := fun _ _ _ _ _ _ us hl => match us, hl with | [_, _], _ => rfl
theorem bp_law : BindP f_law := fun _ _ _ _ _ _ us hl => match us, hl with | [_], _ => rfl
theorem bp : AllF BindP gm.funs := ⟨bp_is_whole, bp_need_whole, bp_is_tuple_of, bp_raised, bp_is_bits, bp_need_bits, bp_bits_of, bp_number_of, bp_octets_of, bp_bits_in, bp_is_beginning, bp_shared_beginning, bp_ones, bp__law_cup, bp__law_roll, bp__law_some, bp__law_kind, bp__law_like, bp__law_error, bp__law_octets, bp__law_shared, bp__law_bits, bp_law, trivial⟩
end G0
end

section
set_option maxHeartbeats 0
namespace G0
open PySem PySem.Spec L2 PV FL
open PyProof.Rows hiding St
noncomputable section
abbrev cl (n : Nat) : CallO := callN gm TF (opsN 60) n
abbrev ZZ (n : Nat) : CallO := cl (n + 5)
theorem b_is_whole_eq (tf : Nat) (call : CallO) : (opsN 60).ss (bodyC gm tf call f_is_whole) f_is_whole.body = b_is_whole tf := by kernel_rfl
theorem F_is_whole_eq (n : Nat) : cl (n + 1) "is_whole" = F_is_whole := (fn_eq (f := f_is_whole) (by kernel_rfl) (b_is_whole_eq TF _) rfl rfl).trans (by
  simp only [F_is_whole] <;> rfl)
theorem b_need_whole_eq (tf : Nat) (call : CallO) : (opsN 60).ss (bodyC gm tf call f_need_whole) f_need_whole.body = b_need_whole tf (call "is_whole") := by kernel_rfl
theorem F_need_whole_eq (n : Nat) : cl (n + 2) "need_whole" = F_need_whole := (fn_eq (f := f_need_whole) (by kernel_rfl) (b_need_whole_eq TF _) rfl rfl).trans (by
  simp only [F_need_whole, show cl (n + 1) "is_whole" = F_is_whole from F_is_whole_eq (n + 0)] <;> rfl)
theorem b_is_tuple_of_eq (tf : Nat) (call : CallO) : (opsN 60).ss (bodyC gm tf call f_is_tuple_of) f_is_tuple_of.body = b_is_tuple_of tf := by kernel_rfl
theorem F_is_tuple_of_eq (n : Nat) : cl (n + 1) "is_tuple_of" = F_is_tuple_of := (fn_eq (f := f_is_tuple_of) (by kernel_rfl) (b_is_tuple_of_eq TF _) rfl rfl).trans (by
  simp only [F_is_tuple_of] <;> rfl)
theorem b_raised_eq (tf : Nat) (call : CallO) : (opsN 60).ss (bodyC gm tf call f_raised) f_raised.body = b_raised tf (call "need_whole") := by kernel_rfl
theorem F_raised_eq (n : Nat) : cl (n + 3) "raised" = F_raised := (fn_eq (f := f_raised) (by kernel_rfl) (b_raised_eq TF _) rfl rfl).trans (by
  simp only [F_raised, show cl (n + 2) "need_whole" = F_need_whole from F_need_whole_eq (n + 0)] <;> rfl)
theorem b_is_bits_eq (tf : Nat) (call : CallO) : (opsN 60).ss (bodyC gm tf call f_is_bits) f_is_bits.body = b_is_bits tf (call "is_tuple_of") (call "is_whole") := by kernel_rfl
theorem F_is_bits_eq (n : Nat) : cl (n + 2) "is_bits" = F_is_bits := (fn_eq (f := f_is_bits) (by kernel_rfl) (b_is_bits_eq TF _) rfl rfl).trans (by
  simp only [F_is_bits, show cl (n + 1) "is_tuple_of" = F_is_tuple_of from F_is_tuple_of_eq (n + 0), show cl (n + 1) "is_whole" = F_is_whole from F_is_whole_eq (n + 0)] <;> rfl)
theorem b_need_bits_eq (tf : Nat) (call : CallO) : (opsN 60).ss (bodyC gm tf call f_need_bits) f_need_bits.body = b_need_bits tf (call "is_bits") := by kernel_rfl
theorem F_need_bits_eq (n : Nat) : cl (n + 3) "need_bits" = F_need_bits := (fn_eq (f := f_need_bits) (by kernel_rfl) (b_need_bits_eq TF _) rfl rfl).trans (by
  simp only [F_need_bits, show cl (n + 2) "is_bits" = F_is_bits from F_is_bits_eq (n + 0)] <;> rfl)
theorem b_bits_of_eq (tf : Nat) (call : CallO) : (opsN 60).ss (bodyC gm tf call f_bits_of) f_bits_of.body = b_bits_of tf (call "is_whole") (call "raised") := by kernel_rfl
theorem F_bits_of_eq (n : Nat) : cl (n + 4) "bits_of" = F_bits_of := (fn_eq (f := f_bits_of) (by kernel_rfl) (b_bits_of_eq TF _) rfl rfl).trans (by
  simp only [F_bits_of, show cl (n + 3) "is_whole" = F_is_whole from F_is_whole_eq (n + 2), show cl (n + 3) "raised" = F_raised from F_raised_eq (n + 0)] <;> rfl)
theorem b_number_of_eq (tf : Nat) (call : CallO) : (opsN 60).ss (bodyC gm tf call f_number_of) f_number_of.body = b_number_of tf (call "need_bits") := by kernel_rfl
theorem F_number_of_eq (n : Nat) : cl (n + 4) "number_of" = F_number_of := (fn_eq (f := f_number_of) (by kernel_rfl) (b_number_of_eq TF _) rfl rfl).trans (by
  simp only [F_number_of, show cl (n + 3) "need_bits" = F_need_bits from F_need_bits_eq (n + 0)] <;> rfl)
def b_octets_of (tf : Nat) (g_need_bits : CF) (g_number_of : CF) : M Flow' :=
  (sq (kEx (kCallF g_need_bits 3 (oCons (oE (kVar 0)) (oCons (oE (kC (.int 0))) (oCons (oE (kC (.int 200000))) oNil)))))
  (sq (kSet 1 (kBin .Add (oVar 0) (oE (kBin .Mult (oE (kTup (aCons (kC (.int 0)) aNil))) (oE (kBin .Mod (oE (kNeg (oE (kBi (.fn "len") (oCons (oVar 0) oNil))))) (oE (kC (.int 8)))))))))
  (sq (kRet (kBi (.ty "tuple") (oCons (oE (kLc tf (wRg3 (aCons (kC (.int 0)) (aCons (kBi (.fn "len") (oCons (oVar 1) oNil)) (aCons (kC (.int 8)) aNil)))) [2] (kStep (bN 2) tYes' (kCallF g_number_of 1 (oCons (oE (kSlice (oVar 1) (sE (kVar 2)) (sE (kBin .Add (oVar 2) (oE (kC (.int 8))))))) oNil))))) oNil)))
  sNil)))
def F_octets_of : CF := fn1 1 3 (b_octets_of TF F_need_bits F_number_of)
theorem b_octets_of_eq (tf : Nat) (call : CallO) : (opsN 60).ss (bodyC gm tf call f_octets_of) f_octets_of.body = b_octets_of tf (call "need_bits") (call "number_of") := by kernel_rfl
theorem F_octets_of_eq (n : Nat) : cl (n + 5) "octets_of" = F_octets_of := (fn_eq (f := f_octets_of) (by kernel_rfl) (b_octets_of_eq TF _) rfl rfl).trans (by
  simp only [F_octets_of, show cl (n + 4) "need_bits" = F_need_bits from F_need_bits_eq (n + 1), show cl (n + 4) "number_of" = F_number_of from F_number_of_eq (n + 0)] <;> rfl)
def b_bits_in (tf : Nat) (g_need_whole : CF) (g_is_tuple_of : CF) (g_bits_of : CF) (g_is_whole : CF) : M Flow' :=
  (sq (kIfS (kOrT (kNotT (kTru (oE (kCallF g_is_tuple_of 3 (oCons (oE (kVar 0)) (oCons (oE (kC (.int 0))) (oCons (oE (kBin .FloorDiv (oE (kC (.int 200000))) (oE (kC (.int 8))))) oNil))))))) (kNotT (kTru (oE (kBi (.fn "all") (oCons (oE (kLc tf (wLi (oVar 0)) [3] (kStep (bN 3) tYes' (kCallF g_is_whole 3 (oCons (oE (kVar 3)) (oCons (oE (kC (.int 0))) (oCons (oE (kC (.int 255))) oNil))))))) oNil)))))) (sq (kRaise "InvalidOctets")
  sNil) sNil)
  (sq (kEx (kCallF g_need_whole 3 (oCons (oE (kVar 1)) (oCons (oE (kBi (.fn "max") (oCons (oE (kC (.int 0))) (oCons (oE (kBin .Sub (oE (kBin .Mult (oE (kC (.int 8))) (oE (kBi (.fn "len") (oCons (oVar 0) oNil))))) (oE (kC (.int 7))))) oNil)))) (oCons (oE (kBin .Mult (oE (kC (.int 8))) (oE (kBi (.fn "len") (oCons (oVar 0) oNil))))) oNil)))))
  (sq (kSet 2 (kBi (.ty "tuple") (oCons (oE (kLc tf (wLi (oVar 0)) [3, 4] (kStep2 tf (bN 3) tYes' (wLi (oE (kCallF g_bits_of 2 (oCons (oE (kVar 3)) (oCons (oE (kC (.int 8))) oNil))))) [4] (kStep (bN 4) tYes' (kVar 4))))) oNil)))
  (sq (kIfS (kCmpT .In (oE (kC (.int 1))) (oE (kSlice (oVar 2) (sE (kVar 1)) sNo))) (sq (kRaise "InvalidOctets")
  sNil) sNil)
  (sq (kRet (kSlice (oVar 2) sNo (sE (kVar 1))))
  sNil)))))
def F_bits_in : CF := fn1 2 5 (b_bits_in TF F_need_whole F_is_tuple_of F_bits_of F_is_whole)
theorem b_bits_in_eq (tf : Nat) (call : CallO) : (opsN 60).ss (bodyC gm tf call f_bits_in) f_bits_in.body = b_bits_in tf (call "need_whole") (call "is_tuple_of") (call "bits_of") (call "is_whole") := by kernel_rfl
theorem F_bits_in_eq (n : Nat) : cl (n + 5) "bits_in" = F_bits_in := (fn_eq (f := f_bits_in) (by kernel_rfl) (b_bits_in_eq TF _) rfl rfl).trans (by
  simp only [F_bits_in, show cl (n + 4) "need_whole" = F_need_whole from F_need_whole_eq (n + 2), show cl (n + 4) "is_tuple_of" = F_is_tuple_of from F_is_tuple_of_eq (n + 3), show cl (n + 4) "bits_of" = F_bits_of from F_bits_of_eq (n + 0), show cl (n + 4) "is_whole" = F_is_whole from F_is_whole_eq (n + 3)] <;> rfl)
def b_is_beginning (tf : Nat) (g_need_bits : CF) : M Flow' :=
  (sq (kEx (kCallF g_need_bits 3 (oCons (oE (kVar 0)) (oCons (oE (kC (.int 0))) (oCons (oE (kC (.int 200000))) oNil)))))
  (sq (kEx (kCallF g_need_bits 3 (oCons (oE (kVar 1)) (oCons (oE (kC (.int 0))) (oCons (oE (kC (.int 200000))) oNil)))))
  (sq (kRet (kCmp .Eq (oE (kSlice (oVar 1) sNo (sE (kBi (.fn "len") (oCons (oVar 0) oNil))))) (oVar 0)))
  sNil)))
def F_is_beginning : CF := fn1 2 2 (b_is_beginning TF F_need_bits)
theorem b_is_beginning_eq (tf : Nat) (call : CallO) : (opsN 60).ss (bodyC gm tf call f_is_beginning) f_is_beginning.body = b_is_beginning tf (call "need_bits") := by kernel_rfl
theorem F_is_beginning_eq (n : Nat) : cl (n + 4) "is_beginning" = F_is_beginning := (fn_eq (f := f_is_beginning) (by kernel_rfl) (b_is_beginning_eq TF _) rfl rfl).trans (by
  simp only [F_is_beginning, show cl (n + 3) "need_bits" = F_need_bits from F_need_bits_eq (n + 0)] <;> rfl)
def b_shared_beginning (tf : Nat) (g_need_bits : CF) : M Flow' :=
  (sq (kEx (kCallF g_need_bits 3 (oCons (oE (kVar 0)) (oCons (oE (kC (.int 0))) (oCons (oE (kC (.int 200000))) oNil)))))
  (sq (kEx (kCallF g_need_bits 3 (oCons (oE (kVar 1)) (oCons (oE (kC (.int 0))) (oCons (oE (kC (.int 200000))) oNil)))))
  (sq (kSet 2 (kC (.int 0)))
  (sq (kWhile tf (kAndT (kCmpT .Lt (oVar 2) (oE (kBi (.fn "min") (oCons (oE (kBi (.fn "len") (oCons (oVar 0) oNil))) (oCons (oE (kBi (.fn "len") (oCons (oVar 1) oNil))) oNil))))) (kCmpT .Eq (oE (kIx (oVar 0) (oVar 2))) (oE (kIx (oVar 1) (oVar 2))))) (sq (kAug 2 .Add (kC (.int 1)))
  sNil))
  (sq (kRet (kSlice (oVar 0) sNo (sE (kVar 2))))
  sNil)))))
def F_shared_beginning : CF := fn1 2 3 (b_shared_beginning TF F_need_bits)
theorem b_shared_beginning_eq (tf : Nat) (call : CallO) : (opsN 60).ss (bodyC gm tf call f_shared_beginning) f_shared_beginning.body = b_shared_beginning tf (call "need_bits") := by kernel_rfl
theorem F_shared_beginning_eq (n : Nat) : cl (n + 4) "shared_beginning" = F_shared_beginning := (fn_eq (f := f_shared_beginning) (by kernel_rfl) (b_shared_beginning_eq TF _) rfl rfl).trans (by
  simp only [F_shared_beginning, show cl (n + 3) "need_bits" = F_need_bits from F_need_bits_eq (n + 0)] <;> rfl)
def b_ones (tf : Nat) (g_need_bits : CF) : M Flow' :=
  (sq (kEx (kCallF g_need_bits 3 (oCons (oE (kVar 0)) (oCons (oE (kC (.int 0))) (oCons (oE (kC (.int 200000))) oNil)))))
  (sq (kRet (kBi (.fn "sum") (oCons (oVar 0) oNil)))
  sNil))
def F_ones : CF := fn1 1 1 (b_ones TF F_need_bits)
theorem b_ones_eq (tf : Nat) (call : CallO) : (opsN 60).ss (bodyC gm tf call f_ones) f_ones.body = b_ones tf (call "need_bits") := by kernel_rfl
theorem F_ones_eq (n : Nat) : cl (n + 4) "ones" = F_ones := (fn_eq (f := f_ones) (by kernel_rfl) (b_ones_eq TF _) rfl rfl).trans (by
  simp only [F_ones, show cl (n + 3) "need_bits" = F_need_bits from F_need_bits_eq (n + 0)] <;> rfl)
def b__law_cup (tf : Nat) : M Flow' :=
  (sq (kSet 1 (kBi (.fn "abs") (oCons (oE (kIx (oE (kBin .Add (oE (kBi (.ty "list") (oCons (oVar 0) oNil))) (oE (kLst (aCons (kC (.int 0)) aNil))))) (oE (kC (.int 0))))) oNil)))
  (sq (kRet (kLst (aCons (kIf (kCmpT .GtE (oVar 1) (oE (kBin .Pow (oE (kC (.int 10))) (oE (kC (.int 18)))))) (kBin .FloorDiv (oVar 1) (oE (kC (.int 131)))) (kC (.int 0))) (aCons (kBin .Add (oE (kBin .Mod (oE (kBi (.ty "int") (oCons (oE (kBin .Add (oE (kBin .Mult (oVar 1) (oE (kC (.int 404))))) (oE (kC (.int 5663))))) oNil))) (oE (kC (.int 1994132857))))) (oE (kC (.int 283)))) aNil))))
  sNil))
def F__law_cup : CF := fn1 1 2 (b__law_cup TF)
theorem b__law_cup_eq (tf : Nat) (call : CallO) : (opsN 60).ss (bodyC gm tf call f__law_cup) f__law_cup.body = b__law_cup tf := by kernel_rfl
theorem F__law_cup_eq (n : Nat) : cl (n + 1) "_law_cup" = F__law_cup := (fn_eq (f := f__law_cup) (by kernel_rfl) (b__law_cup_eq TF _) rfl rfl).trans (by
  simp only [F__law_cup] <;> rfl)
theorem b__law_roll_eq (tf : Nat) (call : CallO) : (opsN 60).ss (bodyC gm tf call f__law_roll) f__law_roll.body = b__law_roll tf := by kernel_rfl
theorem F__law_roll_eq (n : Nat) : cl (n + 1) "_law_roll" = F__law_roll := (fn_eq (f := f__law_roll) (by kernel_rfl) (b__law_roll_eq TF _) rfl rfl).trans (by
  simp only [F__law_roll] <;> rfl)
def b__law_some (tf : Nat) (g__law_roll : CF) : M Flow' :=
  (sq (kRet (kIx (oVar 1) (oE (kCallF g__law_roll 2 (oCons (oVar 0) (oCons (oE (kBi (.fn "len") (oCons (oVar 1) oNil))) oNil))))))
  sNil)
def F__law_some : CF := fn1 2 2 (b__law_some TF F__law_roll)
theorem b__law_some_eq (tf : Nat) (call : CallO) : (opsN 60).ss (bodyC gm tf call f__law_some) f__law_some.body = b__law_some tf (call "_law_roll") := by kernel_rfl
theorem F__law_some_eq (n : Nat) : cl (n + 2) "_law_some" = F__law_some := (fn_eq (f := f__law_some) (by kernel_rfl) (b__law_some_eq TF _) rfl rfl).trans (by
  simp only [F__law_some, show cl (n + 1) "_law_roll" = F__law_roll from F__law_roll_eq (n + 0)] <;> rfl)
theorem b__law_kind_eq (tf : Nat) (call : CallO) : (opsN 60).ss (bodyC gm tf call f__law_kind) f__law_kind.body = b__law_kind tf := by kernel_rfl
theorem F__law_kind_eq (n : Nat) : cl (n + 1) "_law_kind" = F__law_kind := (fn_eq (f := f__law_kind) (by kernel_rfl) (b__law_kind_eq TF _) rfl rfl).trans (by
  simp only [F__law_kind] <;> rfl)
theorem b__law_like_eq (tf : Nat) (call : CallO) : (opsN 60).ss (bodyC gm tf call f__law_like) f__law_like.body = b__law_like tf (call "_law_kind") (call "_law_like") := by kernel_rfl
theorem F__law_like_eq : ∀ n : Nat, cl (n + 5) "_law_like" = F__law_like ZZ n
  | 0 => by simp only [Nat.zero_add, F__law_like] <;> rfl
  | n + 1 => (show cl (n + 1 + 5) "_law_like" = cl (n + 5 + 1) "_law_like" by rw [Nat.add_right_comm]).trans ((fn_eq (f := f__law_like) (by kernel_rfl) (b__law_like_eq TF _) rfl rfl).trans (by
  simp only [F__law_like, show cl (n + 5) "_law_kind" = F__law_kind from F__law_kind_eq (n + 4), show cl (n + 5) "_law_like" = F__law_like ZZ n from F__law_like_eq n] <;> rfl))
def b__law_octets (tf : Nat) : M Flow' :=
  (sq (kSet 1 (kLst aNil))
  (sq (kFor tf (wRg3 (aCons (kC (.int 0)) (aCons (kBi (.fn "len") (oCons (oVar 0) oNil)) (aCons (kC (.int 8)) aNil)))) (bN 2) (sq (kSet 3 (kC (.int 0)))
  (sq (kFor tf (wRg1 (aCons (kC (.int 8)) aNil)) (bN 4) (sq (kSet 3 (kBin .Add (oE (kBin .Mult (oVar 3) (oE (kC (.int 2))))) (oE (kIf (kCmpT .Lt (oE (kBin .Add (oVar 2) (oVar 4))) (oE (kBi (.fn "len") (oCons (oVar 0) oNil)))) (kIx (oVar 0) (oE (kBin .Add (oVar 2) (oVar 4)))) (kC (.int 0))))))
  sNil))
  (sq (kSet 1 (kBin .Add (oVar 1) (oE (kLst (aCons (kVar 3) aNil)))))
  sNil))))
  (sq (kRet (kBi (.ty "tuple") (oCons (oVar 1) oNil)))
  sNil)))
def F__law_octets : CF := fn1 1 5 (b__law_octets TF)
theorem b__law_octets_eq (tf : Nat) (call : CallO) : (opsN 60).ss (bodyC gm tf call f__law_octets) f__law_octets.body = b__law_octets tf := by kernel_rfl
theorem F__law_octets_eq (n : Nat) : cl (n + 1) "_law_octets" = F__law_octets := (fn_eq (f := f__law_octets) (by kernel_rfl) (b__law_octets_eq TF _) rfl rfl).trans (by
  simp only [F__law_octets] <;> rfl)
def b__law_shared (tf : Nat) : M Flow' :=
  (sq (kSet 2 (kLst aNil))
  (sq (kFor tf (wZp (oCons (oVar 0) (oCons (oVar 1) oNil))) (bT [(bN 3), (bN 4)]) (sq (kIfS (kCmpT .NotEq (oVar 3) (oVar 4)) (sq kBk
  sNil) sNil)
  (sq (kSet 2 (kBin .Add (oVar 2) (oE (kLst (aCons (kVar 3) aNil)))))
  sNil)))
  (sq (kRet (kBi (.ty "tuple") (oCons (oVar 2) oNil)))
  sNil)))
def F__law_shared : CF := fn1 2 5 (b__law_shared TF)
theorem b__law_shared_eq (tf : Nat) (call : CallO) : (opsN 60).ss (bodyC gm tf call f__law_shared) f__law_shared.body = b__law_shared tf := by kernel_rfl
theorem F__law_shared_eq (n : Nat) : cl (n + 1) "_law_shared" = F__law_shared := (fn_eq (f := f__law_shared) (by kernel_rfl) (b__law_shared_eq TF _) rfl rfl).trans (by
  simp only [F__law_shared] <;> rfl)
def b__law_bits (tf : Nat) (g__law_roll : CF) : M Flow' :=
  (sq (kRet (kBi (.ty "tuple") (oCons (oE (kLc tf (wRg1 (aCons (kCallF g__law_roll 2 (oCons (oVar 0) (oCons (oE (kBin .Add (oVar 1) (oE (kC (.int 1))))) oNil))) aNil)) [2] (kStep (bN 2) tYes' (kCallF g__law_roll 2 (oCons (oVar 0) (oCons (oE (kC (.int 2))) oNil)))))) oNil)))
  sNil)
def F__law_bits : CF := fn1 2 3 (b__law_bits TF F__law_roll)
theorem b__law_bits_eq (tf : Nat) (call : CallO) : (opsN 60).ss (bodyC gm tf call f__law_bits) f__law_bits.body = b__law_bits tf (call "_law_roll") := by kernel_rfl
theorem F__law_bits_eq (n : Nat) : cl (n + 2) "_law_bits" = F__law_bits := (fn_eq (f := f__law_bits) (by kernel_rfl) (b__law_bits_eq TF _) rfl rfl).trans (by
  simp only [F__law_bits, show cl (n + 1) "_law_roll" = F__law_roll from F__law_roll_eq (n + 0)] <;> rfl)
def b_law_0 (tf : Nat) (g__law_cup : CF) : M Flow' :=
  (kSet 1 (kCallF g__law_cup 1 (oCons (oE (kVar 0)) oNil)))
def b_law_1 (tf : Nat) (g_octets_of : CF) (g_bits_in : CF) (g_is_beginning : CF) : M Flow' :=
  (kSet 2 (kLst (aCons (kCallF g_octets_of 1 (oCons (oE (kTup (aCons (kC (.int 1)) (aCons (kC (.int 0)) (aCons (kC (.int 1)) aNil))))) oNil)) (aCons (kCallF g_bits_in 2 (oCons (oE (kTup (aCons (kC (.int 160)) aNil))) (oCons (oE (kC (.int 3))) oNil))) (aCons (kCallF g_octets_of 1 (oCons (oE (kTup aNil)) oNil)) (aCons (kCallF g_bits_in 2 (oCons (oE (kTup aNil)) (oCons (oE (kC (.int 0))) oNil))) (aCons (kCallF g_is_beginning 2 (oCons (oE (kTup (aCons (kC (.int 0)) (aCons (kC (.int 1)) aNil)))) (oCons (oE (kTup (aCons (kC (.int 0)) (aCons (kC (.int 1)) aNil)))) oNil))) (aCons (kCallF g_is_beginning 2 (oCons (oE (kTup (aCons (kC (.int 0)) (aCons (kC (.int 1)) aNil)))) (oCons (oE (kTup (aCons (kC (.int 0)) aNil))) oNil))) aNil))))))))
def b_law_2 (tf : Nat) (g_is_beginning : CF) (g_shared_beginning : CF) (g_ones : CF) : M Flow' :=
  (kSet 2 (kBin .Add (oVar 2) (oE (kLst (aCons (kCallF g_is_beginning 2 (oCons (oE (kTup aNil)) (oCons (oE (kTup (aCons (kC (.int 1)) aNil))) oNil))) (aCons (kCallF g_is_beginning 2 (oCons (oE (kTup (aCons (kC (.int 1)) aNil))) (oCons (oE (kTup (aCons (kC (.int 0)) (aCons (kC (.int 1)) aNil)))) oNil))) (aCons (kCallF g_shared_beginning 2 (oCons (oE (kTup (aCons (kC (.int 0)) (aCons (kC (.int 1)) (aCons (kC (.int 1)) aNil))))) (oCons (oE (kTup (aCons (kC (.int 0)) (aCons (kC (.int 1)) (aCons (kC (.int 0)) aNil))))) oNil))) (aCons (kCallF g_ones 1 (oCons (oE (kTup (aCons (kC (.int 1)) (aCons (kC (.int 0)) (aCons (kC (.int 1)) aNil))))) oNil)) aNil))))))))
def b_law_3 (tf : Nat) (g_octets_of : CF) (g_is_bits : CF) : M Flow' :=
  (kSet 2 (kBin .Add (oVar 2) (oE (kLst (aCons (kCallF g_octets_of 1 (oCons (oE (kBin .Add (oE (kBin .Mult (oE (kTup (aCons (kC (.int 0)) aNil))) (oE (kC (.int 8))))) (oE (kTup (aCons (kC (.int 1)) aNil))))) oNil)) (aCons (kLc tf (wLi (oE (kTup (aCons (kTup aNil) (aCons (kTup (aCons (kC (.int 0)) (aCons (kC (.int 1)) aNil))) (aCons (kLst (aCons (kC (.int 0)) aNil)) (aCons (kTup (aCons (kC (.int 2)) aNil)) (aCons (kTup (aCons (kC (.bl true)) aNil)) (aCons (kC .non) aNil))))))))) [12] (kStep (bN 12) tYes' (kCallF g_is_bits 1 (oCons (oE (kVar 12)) oNil)))) aNil))))))
def b_law_4 (tf : Nat) : M Flow' :=
  (kSet 3 (kLst (aCons (kTup (aCons (kC (.int 160)) aNil)) (aCons (kTup (aCons (kC (.int 1)) (aCons (kC (.int 0)) (aCons (kC (.int 1)) aNil)))) (aCons (kTup aNil) (aCons (kTup aNil) (aCons (kC (.bl true)) (aCons (kC (.bl false)) (aCons (kC (.bl true)) (aCons (kC (.bl false)) (aCons (kTup (aCons (kC (.int 0)) (aCons (kC (.int 1)) aNil))) (aCons (kC (.int 2)) (aCons (kTup (aCons (kC (.int 0)) (aCons (kC (.int 128)) aNil))) (aCons (kLst (aCons (kC (.bl true)) (aCons (kC (.bl true)) (aCons (kC (.bl false)) (aCons (kC (.bl false)) (aCons (kC (.bl false)) (aCons (kC (.bl false)) aNil))))))) aNil))))))))))))))
def b_law_5 (tf : Nat) (g__law_like : CF) : M Flow' :=
  (kIfS (kNotT (kTru (oE (kCallF g__law_like 2 (oCons (oE (kVar 2)) (oCons (oE (kVar 3)) oNil)))))) (sq (kRet (kC (.bl false)))
  sNil) sNil)
def b_law_6 (tf : Nat) (call : CallO) (g_bits_in : CF) : M Flow' :=
  (kSet 4 (kLst (aCons (kLam [] (calleeRes (opsN 56) (bodyC gm tf call f_law) f__law_error) (kCallF g_bits_in 2 (oCons (oE (kTup (aCons (kC (.int 160)) aNil))) (oCons (oE (kC (.int 9))) oNil)))) aNil)))
def b_law_7 (tf : Nat) (call : CallO) (g_bits_in : CF) : M Flow' :=
  (kFor tf (wLi (oE (kTup (aCons (kTup (aCons (kTup (aCons (kC (.int 256)) aNil)) (aCons (kC (.int 8)) aNil))) (aCons (kTup (aCons (kTup (aCons (kNeg (oE (kC (.int 1)))) aNil)) (aCons (kC (.int 8)) aNil))) (aCons (kTup (aCons (kLst (aCons (kC (.int 0)) aNil)) (aCons (kC (.int 8)) aNil))) (aCons (kTup (aCons (kTup (aCons (kC (.bl true)) aNil)) (aCons (kC (.int 8)) aNil))) (aCons (kTup (aCons (kTup (aCons (kC (.int 160)) aNil)) (aCons (kC (.int 2)) aNil))) aNil)))))))) (bT [(bN 7), (bN 8)]) (sq (kSet 4 (kBin .Add (oVar 4) (oE (kLst (aCons (kLam [8, 7] (calleeRes (opsN 53) (bodyC gm tf call f_law) f__law_error) (kCallF g_bits_in 2 (oCons (oE (kVar 7)) (oCons (oE (kVar 8)) oNil)))) aNil)))))
  sNil))
def b_law_8 (tf : Nat) (call : CallO) (g_bits_in : CF) : M Flow' :=
  (kFor tf (wLi (oE (kTup (aCons (kTup (aCons (kTup (aCons (kC (.int 160)) aNil)) (aCons (kC (.int 0)) aNil))) (aCons (kTup (aCons (kTup aNil) (aCons (kC (.int 1)) aNil))) (aCons (kTup (aCons (kTup (aCons (kC (.int 0)) (aCons (kC (.int 0)) aNil))) (aCons (kC (.int 8)) aNil))) (aCons (kTup (aCons (kTup (aCons (kC (.int 0)) aNil)) (aCons (kC .non) aNil))) aNil))))))) (bT [(bN 7), (bN 8)]) (sq (kSet 4 (kBin .Add (oVar 4) (oE (kLst (aCons (kLam [8, 7] (calleeRes (opsN 53) (bodyC gm tf call f_law) f__law_error) (kCallF g_bits_in 2 (oCons (oE (kVar 7)) (oCons (oE (kVar 8)) oNil)))) aNil)))))
  sNil))
def b_law_9 (tf : Nat) (call : CallO) (g_octets_of : CF) (g_is_beginning : CF) (g_shared_beginning : CF) (g_ones : CF) : M Flow' :=
  (kFor tf (wLi (oE (kTup (aCons (kLst (aCons (kC (.int 0)) aNil)) (aCons (kTup (aCons (kC (.int 2)) aNil)) (aCons (kC .non) aNil)))))) (bN 5) (sq (kSet 4 (kBin .Add (oVar 4) (oE (kLst (aCons (kLam [5] (calleeRes (opsN 53) (bodyC gm tf call f_law) f__law_error) (kCallF g_octets_of 1 (oCons (oE (kVar 5)) oNil))) aNil)))))
  (sq (kSet 4 (kBin .Add (oVar 4) (oE (kLst (aCons (kLam [5] (calleeRes (opsN 53) (bodyC gm tf call f_law) f__law_error) (kCallF g_is_beginning 2 (oCons (oE (kVar 5)) (oCons (oE (kVar 5)) oNil)))) aNil)))))
  (sq (kSet 4 (kBin .Add (oVar 4) (oE (kLst (aCons (kLam [5] (calleeRes (opsN 53) (bodyC gm tf call f_law) f__law_error) (kCallF g_shared_beginning 2 (oCons (oE (kTup (aCons (kC (.int 0)) aNil))) (oCons (oE (kVar 5)) oNil)))) aNil)))))
  (sq (kSet 4 (kBin .Add (oVar 4) (oE (kLst (aCons (kLam [5] (calleeRes (opsN 53) (bodyC gm tf call f_law) f__law_error) (kCallF g_ones 1 (oCons (oE (kVar 5)) oNil))) aNil)))))
  sNil)))))
def b_law_10 (tf : Nat) : M Flow' :=
  (kIfS (kCmpT .NotEq (oVar 4) (oE (kBin .Add (oE (kBin .Add (oE (kBin .Add (oE (kLst (aCons (kC (.str "number")) aNil))) (oE (kBin .Mult (oE (kLst (aCons (kC (.str "octets")) aNil))) (oE (kC (.int 5))))))) (oE (kBin .Mult (oE (kLst (aCons (kC (.str "number")) aNil))) (oE (kC (.int 4))))))) (oE (kBin .Mult (oE (kLst (aCons (kC (.str "bits")) aNil))) (oE (kC (.int 12)))))))) (sq (kRet (kC (.bl false)))
  sNil) sNil)
def b_law_11 (tf : Nat) (g_octets_of : CF) (g_bits_in : CF) (g_is_beginning : CF) (g__law_like : CF) (g__law_bits : CF) (g__law_octets : CF) (g__law_shared : CF) (g_shared_beginning : CF) (g_ones : CF) (g__law_some : CF) (g__law_roll : CF) : M Flow' :=
  (kFor tf (wRg1 (aCons (kC (.int 16)) aNil)) (bN 6) (sq (kSet 9 (kCallF g__law_bits 2 (oCons (oVar 1) (oCons (oE (kCallF g__law_some 2 (oCons (oVar 1) (oCons (oE (kLst (aCons (kC (.int 0)) (aCons (kC (.int 9)) (aCons (kC (.int 40)) aNil))))) oNil)))) oNil))))
  (sq (kSet 7 (kCallF g__law_octets 1 (oCons (oE (kVar 9)) oNil)))
  (sq (kIfS (kNotT (kTru (oE (kCallF g__law_like 2 (oCons (oE (kLst (aCons (kCallF g_octets_of 1 (oCons (oE (kVar 9)) oNil)) (aCons (kCallF g_bits_in 2 (oCons (oE (kVar 7)) (oCons (oE (kBi (.fn "len") (oCons (oVar 9) oNil))) oNil))) (aCons (kCallF g_ones 1 (oCons (oE (kVar 9)) oNil)) aNil))))) (oCons (oE (kLst (aCons (kVar 7) (aCons (kVar 9) (aCons (kBi (.fn "len") (oCons (oE (kLc tf (wLi (oVar 9)) [13] (kStep (bN 13) (kCmpT .Eq (oVar 13) (oE (kC (.int 1)))) (kC (.int 1))))) oNil)) aNil))))) oNil)))))) (sq (kRet (kC (.bl false)))
  sNil) sNil)
  (sq (kSet 10 (kBin .Add (oE (kSlice (oVar 9) sNo (sE (kCallF g__law_roll 2 (oCons (oVar 1) (oCons (oE (kBin .Add (oE (kBi (.fn "len") (oCons (oVar 9) oNil))) (oE (kC (.int 1))))) oNil)))))) (oE (kCallF g__law_bits 2 (oCons (oVar 1) (oCons (oE (kC (.int 5))) oNil))))))
  (sq (kSet 11 (kCallF g__law_shared 2 (oCons (oE (kVar 9)) (oCons (oE (kVar 10)) oNil))))
  (sq (kIfS (kNotT (kTru (oE (kCallF g__law_like 2 (oCons (oE (kLst (aCons (kCallF g_shared_beginning 2 (oCons (oE (kVar 9)) (oCons (oE (kVar 10)) oNil))) (aCons (kCallF g_is_beginning 2 (oCons (oE (kVar 9)) (oCons (oE (kVar 10)) oNil))) aNil)))) (oCons (oE (kLst (aCons (kVar 11) (aCons (kCmp .Eq (oVar 11) (oVar 9)) aNil)))) oNil)))))) (sq (kRet (kC (.bl false)))
  sNil) sNil)
  (sq (kIfS (kNotT (kTru (oE (kCallF g__law_like 2 (oCons (oE (kLst (aCons (kCallF g_is_beginning 2 (oCons (oE (kVar 11)) (oCons (oE (kVar 9)) oNil))) (aCons (kCallF g_is_beginning 2 (oCons (oE (kVar 11)) (oCons (oE (kVar 10)) oNil))) aNil)))) (oCons (oE (kLst (aCons (kC (.bl true)) (aCons (kC (.bl true)) aNil)))) oNil)))))) (sq (kRet (kC (.bl false)))
  sNil) sNil)
  sNil))))))))
def b_law_12 (tf : Nat) : M Flow' :=
  (kRet (kC (.bl true)))
def b_law (tf : Nat) (call : CallO) (g__law_cup : CF) (g_octets_of : CF) (g_bits_in : CF) (g_is_beginning : CF) (g__law_like : CF) (g__law_bits : CF) (g__law_octets : CF) (g__law_shared : CF) (g_shared_beginning : CF) (g_ones : CF) (g__law_some : CF) (g_is_bits : CF) (g__law_roll : CF) : M Flow' :=
  (sq (b_law_0 tf g__law_cup)
  (sq (b_law_1 tf g_octets_of g_bits_in g_is_beginning)
  (sq (b_law_2 tf g_is_beginning g_shared_beginning g_ones)
  (sq (b_law_3 tf g_octets_of g_is_bits)
  (sq (b_law_4 tf)
  (sq (b_law_5 tf g__law_like)
  (sq (b_law_6 tf call g_bits_in)
  (sq (b_law_7 tf call g_bits_in)
  (sq (b_law_8 tf call g_bits_in)
  (sq (b_law_9 tf call g_octets_of g_is_beginning g_shared_beginning g_ones)
  (sq (b_law_10 tf)
  (sq (b_law_11 tf g_octets_of g_bits_in g_is_beginning g__law_like g__law_bits g__law_octets g__law_shared g_shared_beginning g_ones g__law_some g__law_roll)
  (sq (b_law_12 tf)
  sNil)))))))))))))
def F_law (z : Nat → CallO) : Nat → CF
  | 0 => z 0 "law"
  | n + 1 => fn1 1 14 (b_law TF (z n) F__law_cup F_octets_of F_bits_in F_is_beginning (F__law_like z n) F__law_bits F__law_octets F__law_shared F_shared_beginning F_ones F__law_some F_is_bits F__law_roll)
theorem F_law_s (z : Nat → CallO) (n : Nat) : F_law z (n + 1) = fn1 1 14 (b_law TF (z n) F__law_cup F_octets_of F_bits_in F_is_beginning (F__law_like z n) F__law_bits F__law_octets F__law_shared F_shared_beginning F_ones F__law_some F_is_bits F__law_roll) := rfl
theorem b_law_eq (tf : Nat) (call : CallO) : (opsN 60).ss (bodyC gm tf call f_law) f_law.body = b_law tf call (call "_law_cup") (call "octets_of") (call "bits_in") (call "is_beginning") (call "_law_like") (call "_law_bits") (call "_law_octets") (call "_law_shared") (call "shared_beginning") (call "ones") (call "_law_some") (call "is_bits") (call "_law_roll") := by kernel_rfl
theorem F_law_eq : ∀ n : Nat, cl (n + 5) "law" = F_law ZZ n
  | 0 => by simp only [Nat.zero_add, F_law] <;> rfl
  | n + 1 => (show cl (n + 1 + 5) "law" = cl (n + 5 + 1) "law" by rw [Nat.add_right_comm]).trans ((fn_eq (f := f_law) (by kernel_rfl) (b_law_eq TF _) rfl rfl).trans (by
  simp only [F_law, show cl (n + 5) "_law_cup" = F__law_cup from F__law_cup_eq (n + 4), show cl (n + 5) "octets_of" = F_octets_of from F_octets_of_eq (n + 0), show cl (n + 5) "bits_in" = F_bits_in from F_bits_in_eq (n + 0), show cl (n + 5) "is_beginning" = F_is_beginning from F_is_beginning_eq (n + 1), show cl (n + 5) "_law_like" = F__law_like ZZ n from F__law_like_eq n, show cl (n + 5) "_law_bits" = F__law_bits from F__law_bits_eq (n + 3), show cl (n + 5) "_law_octets" = F__law_octets from F__law_octets_eq (n + 4), show cl (n + 5) "_law_shared" = F__law_shared from F__law_shared_eq (n + 4), show cl (n + 5) "shared_beginning" = F_shared_beginning from F_shared_beginning_eq (n + 1), show cl (n + 5) "ones" = F_ones from F_ones_eq (n + 1), show cl (n + 5) "_law_some" = F__law_some from F__law_some_eq (n + 3), show cl (n + 5) "is_bits" = F_is_bits from F_is_bits_eq (n + 3), show cl (n + 5) "_law_roll" = F__law_roll from F__law_roll_eq (n + 4)] <;> rfl))
end
end G0
end

section
set_option maxHeartbeats 2000000
namespace FL
open PySem PySem.Spec L2 PV
open PyProof.Rows hiding St
/-- a loop over n things, told by how many are done -/
theorem forL_N {bd : D → M Unit} {body : M Flow'} {r : Res Flow'} {ρ0 : Evm} {n : Nat} {el : Nat → D} {L : List D} (e : forL bd body L ρ0 = r) (R : Nat → Evm → Prop) (hL : L = (List.range n).map el) (h0 : R 0 ρ0)
    (h : ∀ i ρ, i < n → R i ρ → Tn (R (i + 1)) (rLo1 (bd (el i) ρ) body kGo)) : ∃ ρ, r = .ok .nx ρ ∧ R n ρ := by
  rw [← e, hL]
  obtain ⟨ρ1, h1, h2⟩ := forL_R (bd := bd) (body := body) (emb := el) (xs := List.range n) (fun (s : Nat) (_ : Nat) => s + 1) R (s0 := 0) h0 fun pre x post ρ e' hi => by
    have hp : ∀ (xs : List Nat) (s : Nat), xs.foldl (fun (s : Nat) (_ : Nat) => s + 1) s = s + xs.length := by
      intro xs
      induction xs with
      | nil => intro s; rfl
      | cons y ys ih => intro s; rw [List.foldl_cons, ih, List.length_cons]; omega
    rw [hp, Nat.zero_add] at hi ⊢
    have hl := congrArg List.length e'
    simp at hl
    have hx : x = pre.length := by
      have h2 : (List.range n)[pre.length]? = some x := by rw [e']; simp
      rw [List.getElem?_range (by omega)] at h2
      exact (Option.some.inj h2).symm
    rw [hx]
    exact h _ _ (by omega) hi
  have hp : ∀ (xs : List Nat) (s : Nat), xs.foldl (fun (s : Nat) (_ : Nat) => s + 1) s = s + xs.length := by
    intro xs
    induction xs with
    | nil => intro s; rfl
    | cons y ys ih => intro s; rw [List.foldl_cons, ih, List.length_cons]; omega
  rw [hp, Nat.zero_add, List.length_range] at h2
  exact ⟨ρ1, h1, h2⟩
/-- the number at a place, 0 behind the end -/
def co (xs : List Int) (k : Nat) : Int := xs.getD k 0
/-- the things of enumerate of integers -/
theorem enum_N (xs : List Int) : List.mapIdx (fun i x => D.tup [D.int (i : Int), x]) (xs.map .int) = (List.range xs.length).map fun i : Nat => D.tup [.int (i : Int), .int (co xs i)] := by
  refine List.ext_getElem (by simp) fun k h1 h2 => ?_
  have hk : k < xs.length := by simpa using h2
  simp [hk, co]
theorem atI_co {xs : List Int} {k : Nat} (h : k < xs.length) : atI (xs.map D.int) (k : Int) = some (.int (co xs k)) := by
  simp [atI_nt, h, co]
theorem setD_I {xs : List Int} {k : Nat} (h : k < xs.length) (v : Int) : setD (.lst (xs.map .int)) (.int (k : Int)) (.int v) = some (.lst ((xs.set k v).map .int)) := by
  have e : ixN (xs.map D.int).length (k : Int) = some k := by
    have h1 : ¬ (k : Int) < 0 := by omega
    have h2 : (k : Int) < xs.length := by omega
    simp [ixN, h1, h, h2]
  simp only [setD, e, List.map_set]
theorem j_zpPP (i j : Nat) (xs ys : List D) (ρ : Evm) (h1 : look ρ i = some (.lst xs)) (h2 : look ρ j = some (.lst ys)) : srcZp (.pl i) (.pl j) ρ = .ok (.zp (.pl i) (.pl j)) ρ := by
  unfold srcZp
  simp only [opT, opL, h1, h2]
@[simp] theorem pl_zpPP (i j : Nat) : (Src.zp (.pl i) (.pl j)).pl = [i, j] := rfl
end FL
end

section
set_option maxHeartbeats 2000000
namespace FL
open PySem PySem.Spec L2 PV
open PyProof.Rows hiding St
/-! octets of bits, and rows that share a beginning -/
theorem co_geq {xs : List Int} {k : Nat} (h : xs.length ≤ k) : co xs k = 0 := by simp [co, h]
theorem co_ltq {xs : List Int} {k : Nat} (h : k < xs.length) : co xs k = xs[k] := by simp [co, h]
theorem co_bq {xs : List Int} (h : IsB xs) (k : Nat) : 0 ≤ co xs k ∧ co xs k ≤ 1 := by
  by_cases hk : k < xs.length
  · rw [co_ltq hk]; exact h _ (List.getElem_mem hk)
  · rw [co_geq (by omega)]; omega
def chk (xs : List Int) (k : Nat) : List Int := (List.range 8).map fun t => co xs (8 * k + t)
def nOc (xs : List Int) : Nat := (xs.length + 7) / 8
def ocL (xs : List Int) : List Int := (List.range (nOc xs)).map fun k => numB (chk xs k)
theorem chk_len (xs : List Int) (k : Nat) : (chk xs k).length = 8 := by simp [chk]
theorem chk_b {xs : List Int} (h : IsB xs) (k : Nat) : IsB (chk xs k) := by
  intro b hb
  simp only [chk, List.mem_map] at hb
  obtain ⟨t, _, rfl⟩ := hb
  exact co_bq h _
theorem chk_num {xs : List Int} (h : IsB xs) (k : Nat) : 0 ≤ numB (chk xs k) ∧ numB (chk xs k) ≤ 255 := by
  have := numB_lt (chk_b h k)
  rw [chk_len] at this
  omega
theorem chk_bits {xs : List Int} (h : IsB xs) (k : Nat) : bitsB (numB (chk xs k)) 8 = chk xs k := by
  have := bitsB_numB (chk_b h k)
  rwa [chk_len] at this
theorem ocL_len (xs : List Int) : (ocL xs).length = nOc xs := by simp [ocL]
theorem flat_chk (xs : List Int) (n : Nat) : (List.range n).flatMap (chk xs) = (List.range (8 * n)).map (co xs) := by
  induction n with
  | zero => rfl
  | succ n ih =>
    rw [List.range_succ, List.flatMap_append, ih, Nat.mul_succ, List.range_add, List.map_append]
    simp [chk]
theorem take_all (xs : List Int) {n : Nat} (h : xs.length ≤ n) : ((List.range n).map (co xs)).take xs.length = xs := by
  refine List.ext_getElem (by simp; omega) fun k h1 h2 => ?_
  simp only [List.getElem_take, List.getElem_map, List.getElem_range]
  exact co_ltq h2
theorem drop_zero (xs : List Int) (n : Nat) : ∀ x ∈ ((List.range n).map (co xs)).drop xs.length, x = 0 := by
  intro x hx
  obtain ⟨k, hk, rfl⟩ := List.getElem_of_mem hx
  simp only [List.getElem_drop, List.getElem_map, List.getElem_range]
  exact co_geq (by omega)
/-- the longest row with which both begin -/
def cpL : List Int → List Int → List Int
  | x :: xs, y :: ys => if x = y then x :: cpL xs ys else []
  | _, _ => []
theorem cpL_le : ∀ (xs ys : List Int), (cpL xs ys).length ≤ xs.length ∧ (cpL xs ys).length ≤ ys.length
  | [], ys => by simp [cpL]
  | x :: xs, [] => by simp [cpL]
  | x :: xs, y :: ys => by
    have := cpL_le xs ys
    simp only [cpL]
    split <;> simp <;> omega
theorem cpL_take1 : ∀ (xs ys : List Int), xs.take (cpL xs ys).length = cpL xs ys
  | [], ys => by simp [cpL]
  | x :: xs, [] => by simp [cpL]
  | x :: xs, y :: ys => by
    simp only [cpL]
    split
    · simp [cpL_take1 xs ys]
    · simp
theorem cpL_take2 : ∀ (xs ys : List Int), ys.take (cpL xs ys).length = cpL xs ys
  | [], ys => by simp [cpL]
  | x :: xs, [] => by simp [cpL]
  | x :: xs, y :: ys => by
    simp only [cpL]
    split
    · rename_i h; simp [cpL_take2 xs ys, h]
    · simp
theorem cpL_b {xs : List Int} (ys : List Int) (h : IsB xs) : IsB (cpL xs ys) := by
  intro b hb
  rw [← cpL_take1] at hb
  exact h b (List.mem_of_mem_take hb)
theorem cpL_all : ∀ (xs ys : List Int), cpL xs ys = xs ↔ ys.take xs.length = xs
  | [], ys => by simp [cpL]
  | x :: xs, [] => by simp [cpL]
  | x :: xs, y :: ys => by
    have := cpL_all xs ys
    simp only [cpL, List.length_cons, List.take_succ_cons]
    by_cases h : x = y
    · subst h; simp [this]
    · simp [h, Ne.symm h]
/-- a step on -/
theorem cpL_step : ∀ (xs ys : List Int) (k : Nat), k < xs.length → k < ys.length → xs.take k = ys.take k → co xs k = co ys k → xs.take (k + 1) = ys.take (k + 1)
  | xs, ys, k, h1, h2, e, e2 => by
    rw [List.take_succ_eq_append_getElem h1, List.take_succ_eq_append_getElem h2, e, ← co_ltq h1, ← co_ltq h2, e2]
theorem cpL_at : ∀ (xs ys : List Int) (k : Nat), k ≤ xs.length → k ≤ ys.length → xs.take k = ys.take k → (k = xs.length ∨ k = ys.length ∨ co xs k ≠ co ys k) → xs.take k = cpL xs ys
  | [], ys, k, h1, h2, e, h => by simp [cpL]
  | x :: xs, [], k, h1, h2, e, h => by simp at h2; subst h2; simp [cpL]
  | x :: xs, y :: ys, 0, h1, h2, e, h => by
    have hne : x ≠ y := by
      rcases h with h | h | h
      · simp at h
      · simp at h
      · simpa [co] using h
    simp [cpL, hne]
  | x :: xs, y :: ys, k + 1, h1, h2, e, h => by
    simp only [List.take_succ_cons, List.cons.injEq] at e
    obtain ⟨rfl, e⟩ := e
    have := cpL_at xs ys k (by simpa using h1) (by simpa using h2) e (by
      rcases h with h | h | h
      · exact .inl (by simpa using h)
      · exact .inr (.inl (by simpa using h))
      · exact .inr (.inr (by simpa [co] using h)))
    simp [cpL, this]
theorem sum_ones : ∀ {xs : List Int}, IsB xs → xs.sum = ((xs.filter fun x => decide (x = 1)).length : Int)
  | [], _ => rfl
  | x :: xs, h => by
    have hx := h x (by simp)
    have ih := sum_ones (xs := xs) fun b hb => h b (List.mem_cons_of_mem _ hb)
    rw [List.sum_cons, ih, List.filter_cons]
    by_cases e : x = 1
    · simp [e]; omega
    · have : x = 0 := by omega
      simp [this]
end FL
end

section
set_option maxHeartbeats 0
namespace FL
open PySem PySem.Spec L2 PV
open PyProof.Rows hiding St
noncomputable section
def b_octets_of (tf : Nat) (g_need_bits : CF) (g_number_of : CF) : M Flow' :=
  (sq (kEx (kCallF g_need_bits 3 (oCons (oE (kVar 0)) (oCons (oE (kC (.int 0))) (oCons (oE (kC (.int 200000))) oNil)))))
  (sq (kSet 1 (kBin .Add (oVar 0) (oE (kBin .Mult (oE (kTup (aCons (kC (.int 0)) aNil))) (oE (kBin .Mod (oE (kNeg (oE (kBi (.fn "len") (oCons (oVar 0) oNil))))) (oE (kC (.int 8)))))))))
  (sq (kRet (kBi (.ty "tuple") (oCons (oE (kLc tf (wRg3 (aCons (kC (.int 0)) (aCons (kBi (.fn "len") (oCons (oVar 1) oNil)) (aCons (kC (.int 8)) aNil)))) [2] (kStep (bN 2) tYes' (kCallF g_number_of 1 (oCons (oE (kSlice (oVar 1) (sE (kVar 2)) (sE (kBin .Add (oVar 2) (oE (kC (.int 8))))))) oNil))))) oNil)))
  sNil)))
def F_octets_of : CF := fn1 1 3 (b_octets_of TF F_need_bits F_number_of)
def b_is_poly (tf : Nat) (g_is_tuple_of : CF) (g_is_whole : CF) : M Flow' :=
  (sq (kIfS (kOrT (kNotT (kTru (oE (kCallF g_is_tuple_of 3 (oCons (oE (kVar 0)) (oCons (oE (kC (.int 0))) (oCons (oE (kBin .Add (oE (kC (.int 4000))) (oE (kC (.int 1))))) oNil))))))) (kNotT (kTru (oE (kBi (.fn "all") (oCons (oE (kLc tf (wLi (oVar 0)) [1] (kStep (bN 1) tYes' (kCallF g_is_whole 3 (oCons (oE (kVar 1)) (oCons (oE (kC (.int 0))) (oCons (oE (kC (.int 1))) oNil))))))) oNil)))))) (sq (kRet (kC (.bl false)))
  sNil) sNil)
  (sq (kRet (kOr (kCmp .Eq (oVar 0) (oE (kTup aNil))) (kCmp .Eq (oE (kIx (oVar 0) (oE (kNeg (oE (kC (.int 1))))))) (oE (kC (.int 1))))))
  sNil))
def F_is_poly : CF := fn1 1 2 (b_is_poly TF F_is_tuple_of F_is_whole)
def b_check_bits (tf : Nat) (g_need_bits : CF) (g_raised : CF) (g_bits_of : CF) (g_is_poly : CF) : M Flow' :=
  (sq (kIfS (kOrT (kNotT (kTru (oE (kCallF g_is_poly 1 (oCons (oE (kVar 0)) oNil))))) (kNotT (kChain .LtE .LtE (oE (kC (.int 1))) (oE (kBin .Sub (oE (kBi (.fn "len") (oCons (oVar 0) oNil))) (oE (kC (.int 1))))) (oE (kC (.int 32)))))) (sq (kRaise "InvalidPoly")
  sNil) sNil)
  (sq (kEx (kCallF g_need_bits 3 (oCons (oE (kVar 1)) (oCons (oE (kC (.int 0))) (oCons (oE (kC (.int 200000))) oNil)))))
  (sq (kPar3 4 5 6 (aCons (kBin .Sub (oE (kBi (.fn "len") (oCons (oVar 0) oNil))) (oE (kC (.int 1)))) (aCons (kC (.int 0)) (aCons (kC (.int 0)) aNil))))
  (sq (kFor tf (wRv (oVar 0)) (bN 2) (sq (kSet 6 (kBin .Add (oE (kBin .Mult (oE (kC (.int 2))) (oVar 6))) (oVar 2)))
  sNil))
  (sq (kSet 3 (kCallF g_raised 2 (oCons (oE (kC (.int 2))) (oCons (oE (kVar 4)) oNil))))
  (sq (kFor tf (wLi (oE (kBin .Add (oVar 1) (oE (kBin .Mult (oE (kTup (aCons (kC (.int 0)) aNil))) (oVar 4)))))) (bN 2) (sq (kSet 5 (kBin .Add (oE (kBin .Mult (oE (kC (.int 2))) (oVar 5))) (oVar 2)))
  (sq (kIfS (kCmpT .GtE (oVar 5) (oVar 3)) (sq (kSet 5 (kBin .BitXor (oVar 5) (oVar 6)))
  sNil) sNil)
  sNil)))
  (sq (kRet (kCallF g_bits_of 2 (oCons (oE (kVar 5)) (oCons (oE (kVar 4)) oNil))))
  sNil)))))))
def F_check_bits : CF := fn1 2 7 (b_check_bits TF F_need_bits F_raised F_bits_of F_is_poly)
end
end FL
end

section
set_option maxHeartbeats 2000000
namespace FL
open PySem PySem.Spec L2 PV
open PyProof.Rows hiding St

/-! ### exclusive or of rows -/
def x1 (a b : Int) : Int := Builtin.bitXor a b
theorem x1_bit {a b : Int} (ha : 0 ≤ a ∧ a ≤ 1) (hb : 0 ≤ b ∧ b ≤ 1) : 0 ≤ x1 a b ∧ x1 a b ≤ 1 := by
  have h1 : a = 0 ∨ a = 1 := by omega
  have h2 : b = 0 ∨ b = 1 := by omega
  rcases h1 with rfl | rfl <;> rcases h2 with rfl | rfl <;> decide
theorem nat_and_step (x y a b : Nat) (ha : a ≤ 1) (hb : b ≤ 1) : (2 * x + a) &&& (2 * y + b) = 2 * (x &&& y) + a * b := by
  have h1 : ((2 * x + a) &&& (2 * y + b)) / 2 = x &&& y := by
    rw [Nat.and_div_two, show (2 * x + a) / 2 = x by omega, show (2 * y + b) / 2 = y by omega]
  have h2 : ((2 * x + a) &&& (2 * y + b)) % 2 = a * b := by
    have := @Nat.and_mod_two_pow (2 * x + a) (2 * y + b) 1
    simp only [Nat.pow_one] at this
    rw [this, show (2 * x + a) % 2 = a by omega, show (2 * y + b) % 2 = b by omega]
    have e1 : a = 0 ∨ a = 1 := by omega
    have e2 : b = 0 ∨ b = 1 := by omega
    rcases e1 with rfl | rfl <;> rcases e2 with rfl | rfl <;> rfl
  omega
theorem and_nn {x y : Int} (hx : 0 ≤ x) (hy : 0 ≤ y) : Builtin.bitAnd x y = ((x.toNat &&& y.toNat : Nat) : Int) := by
  unfold Builtin.bitAnd
  rw [decide_eq_true hx, decide_eq_true hy]
theorem xor_step {x y a b : Int} (hx : 0 ≤ x) (hy : 0 ≤ y) (ha : 0 ≤ a ∧ a ≤ 1) (hb : 0 ≤ b ∧ b ≤ 1) : Builtin.bitXor (2 * x + a) (2 * y + b) = 2 * Builtin.bitXor x y + x1 a b := by
  have h := nat_and_step x.toNat y.toNat a.toNat b.toNat (by omega) (by omega)
  unfold x1
  rw [bitXor_and, bitXor_and, bitXor_and, and_nn (by omega) (by omega), and_nn hx hy, and_nn ha.1 hb.1]
  rw [show (2 * x + a).toNat = 2 * x.toNat + a.toNat by omega, show (2 * y + b).toNat = 2 * y.toNat + b.toNat by omega, h]
  have e1 : a = 0 ∨ a = 1 := by omega
  have e2 : b = 0 ∨ b = 1 := by omega
  rcases e1 with rfl | rfl <;> rcases e2 with rfl | rfl <;> simp <;> omega
def xorL (xs ys : List Int) : List Int := List.zipWith x1 xs ys
theorem xorL_is : ∀ {xs ys : List Int}, IsB xs → IsB ys → IsB (xorL xs ys)
  | [], _, _, _ => by simp [xorL, IsB]
  | _ :: _, [], _, _ => by simp [xorL, IsB]
  | x :: xs, y :: ys, h1, h2 => by
    rw [IsB.cons] at h1 h2
    show IsB (x1 x y :: xorL xs ys)
    rw [IsB.cons]
    exact ⟨x1_bit h1.1 h2.1, xorL_is h1.2 h2.2⟩
theorem numB_xor : ∀ (xs ys : List Int), IsB xs → IsB ys → xs.length = ys.length → Builtin.bitXor (numB xs) (numB ys) = numB (xorL xs ys) := by
  refine snoc_ind ?_ ?_
  · intro ys _ _ h
    obtain rfl : ys = [] := List.eq_nil_of_length_eq_zero (by simpa using h.symm)
    decide
  · intro xs b ih ys h1 h2 hl
    rcases List.eq_nil_or_concat ys with rfl | ⟨zs, c, rfl⟩
    · simp at hl
    · rw [List.concat_eq_append] at *
      rw [IsB.app, IsB.one] at h1 h2
      have hl' : xs.length = zs.length := by simpa using hl
      have e : xorL (xs ++ [b]) (zs ++ [c]) = xorL xs zs ++ [x1 b c] := by unfold xorL; rw [List.zipWith_append hl'] <;> rfl
      rw [e, numB_snoc, numB_snoc, numB_snoc, xor_step (numB_lt h1.1).1 (numB_lt h2.1).1 h1.2 h2.2, ih zs h1.1 h2.1 hl']

/-! ### the register -/
/-- one bit more -/
def stepL (high R : List Int) (b : Int) : List Int := match R ++ [b] with
  | [] => []
  | h :: t => if h = 1 then xorL t high.tail else t
theorem stepL_ok {high R : List Int} {b : Int} {r : Nat} (hR : IsB R) (hb : 0 ≤ b ∧ b ≤ 1) (hh : IsB high) (l1 : R.length = r) (l2 : high.length = r + 1) (h1 : high.head? = some 1) :
    IsB (stepL high R b) ∧ (stepL high R b).length = r ∧ (if 2 ^ r ≤ 2 * numB R + b then Builtin.bitXor (2 * numB R + b) (numB high) else 2 * numB R + b) = numB (stepL high R b) := by
  have hL : IsB (R ++ [b]) := IsB.app.mpr ⟨hR, IsB.one.mpr hb⟩
  have nL : 2 * numB R + b = numB (R ++ [b]) := (numB_snoc R b).symm
  have ll : (R ++ [b]).length = r + 1 := by simp [l1]
  rw [nL]
  unfold stepL
  generalize R ++ [b] = L at *
  cases L with
  | nil => simp at ll
  | cons h t =>
    obtain ⟨k, ks, rfl⟩ : ∃ k ks, high = k :: ks := by cases high with | nil => simp at l2 | cons k ks => exact ⟨_, _, rfl⟩
    obtain rfl : k = 1 := by simpa using h1
    rw [IsB.cons] at hL hh
    have lt : t.length = r := by simpa using ll
    have lk : ks.length = r := by simpa using l2
    have nb := numB_lt hL.2
    rw [lt] at nb
    have e1 := numB_cons h t
    rw [lt] at e1
    have h01 : h = 0 ∨ h = 1 := by omega
    rcases h01 with rfl | rfl
    · rw [if_neg (show ¬ (2 : Int) ^ r ≤ numB (0 :: t) by omega)]
      simp only [show ¬ (0 : Int) = 1 by decide, if_false]
      exact ⟨hL.2, lt, by omega⟩
    · rw [if_pos (show (2 : Int) ^ r ≤ numB (1 :: t) by omega)]
      simp only [if_true, List.tail_cons]
      refine ⟨xorL_is hL.2 hh.2, by unfold xorL; rw [List.length_zipWith]; omega, ?_⟩
      rw [numB_xor _ _ (IsB.cons.mpr hL) (IsB.cons.mpr hh) (by simp; omega)]
      show numB (x1 1 1 :: xorL t ks) = _
      rw [numB_cons, show x1 1 1 = 0 by decide]
      omega
/-- what is left in the register behind bits -/
def regL (high R : List Int) (bs : List Int) : List Int := bs.foldl (stepL high) R
theorem regL_ok {high : List Int} {r : Nat} (hh : IsB high) (l2 : high.length = r + 1) (h1 : high.head? = some 1) : ∀ (bs R : List Int), IsB R → R.length = r → IsB bs →
    IsB (regL high R bs) ∧ (regL high R bs).length = r ∧ bs.foldl (fun s b => if 2 ^ r ≤ 2 * s + b then Builtin.bitXor (2 * s + b) (numB high) else 2 * s + b) (numB R) = numB (regL high R bs)
  | [], R, hR, l1, _ => ⟨hR, l1, rfl⟩
  | b :: bs, R, hR, l1, hb => by
    rw [IsB.cons] at hb
    obtain ⟨a1, a2, a3⟩ := stepL_ok (high := high) hR hb.1 hh l1 l2 h1
    obtain ⟨b1, b2, b3⟩ := regL_ok hh l2 h1 bs _ a1 a2 hb.2
    refine ⟨b1, b2, ?_⟩
    rw [List.foldl_cons, a3, b3]
    rfl
/-- the check bits -/
def crcL (poly bits : List Int) : List Int := regL poly.reverse (List.replicate (poly.length - 1) 0) (bits ++ List.replicate (poly.length - 1) 0)

/-! ### the program's defs -/
theorem atI_neg1 {α : Type} (xs : List α) : atI xs (-1) = xs.getLast? := by
  rcases List.eq_nil_or_concat xs with rfl | ⟨ys, y, rfl⟩
  · rfl
  · rw [List.concat_eq_append, PV.atI_last]
    simp
theorem eqD_tnil (xs : List Int) : eqD (.tup (xs.map .int)) (.tup []) = some (decide (xs = [])) := eqD_tI xs []
/-- all of a tuple are bits -/
theorem s_all_bits {p : List Int} (hb : IsB p) (hl : p.length ≤ 200000) (ρ : Evm) (hρ : ρ = [.d (tI p), .e]) : walkL [1] (kStep (bN 1) tYes' (kCallF F_is_whole 3 (oCons (oE (kVar 1)) (oCons (oE (kC (.int 0))) (oCons (oE (kC (.int 1))) oNil))))) (p.map .int) [] ρ = .ok (p.map fun i => .bl (decide (0 ≤ i) && decide (i ≤ 1))) ρ := by
  subst hρ
  generalize hL : walkL _ _ _ _ _ = r
  exact walkL_m (fun i => .bl (decide (0 ≤ i) && decide (i ≤ 1))) hL (fun pre x post e acc ha => by
    have : acc.length < sizeLine := by rw [ha]; have := congrArg List.length e; simp at this; unfold sizeLine; omega
    simp -implicitDefEqProofs [s_is_whole, this]
    exact ⟨_, rfl, rfl, rfl⟩)
theorem all_bits {p : List Int} (hb : IsB p) : (p.map fun i => (decide (0 ≤ i) && decide (i ≤ 1))).all id = true := by
  simp
  exact hb
theorem s_is_poly {p : List Int} (hb : IsB p) (hl : p.length ≤ 4001) (h1 : p.getLast? = some 1) : F_is_poly [ar (tI p)] = .ok (.bl true) false [] := by
  have h0 : p ≠ [] := by rintro rfl; simp at h1
  have hn : ¬ ∃ x, x ∈ p ∧ (0 ≤ x → 1 < x) := by rintro ⟨x, hx, h⟩; have := hb x hx; omega
  simp -implicitDefEqProofs [F_is_poly, b_is_poly, s_is_tuple_of, show (p.length : Int) ≤ 4001 by omega, s_all_bits hb (show p.length ≤ 200000 by omega) _ rfl, blsD_map, eqD_tnil, h0, atI_neg1, h1, hn]
theorem rev_bits {p : List Int} (h : IsB p) : IsB p.reverse := fun b hb => h b (List.mem_reverse.mp hb)
theorem rep_bits (n : Nat) : IsB (List.replicate n 0) := fun b hb => by
  rw [List.mem_replicate] at hb
  omega
theorem numB_rep (n : Nat) : numB (List.replicate n 0) = 0 := by
  induction n with
  | zero => rfl
  | succ n ih => rw [List.replicate_succ, numB_cons, ih]; simp
theorem repD_rep (x : D) (n : Nat) : repD [x] (n : Int) = List.replicate n x := by
  unfold repD
  rw [Int.toNat_natCast]
  induction n with
  | zero => rfl
  | succ n ih => rw [List.replicate_succ, List.flatten_cons, ih, List.replicate_succ]; rfl
def crcS (r : Nat) (number s b : Int) : Int := if 2 ^ r ≤ 2 * s + b then Builtin.bitXor (2 * s + b) number else 2 * s + b
theorem s_check_bits {p bits : List Int} (hp : IsB p) (l1 : 2 ≤ p.length) (l2 : p.length ≤ 33) (h1 : p.getLast? = some 1) (hb : IsB bits) (lb : bits.length ≤ 200000) : F_check_bits [ar (tI p), ar (tI bits)] = .ok (tI (crcL p bits)) false [] := by
  obtain ⟨r, hr⟩ : ∃ r, p.length = r + 1 := ⟨p.length - 1, by omega⟩
  have er : (p.length : Int) - 1 = (r : Int) := by omega
  simp -implicitDefEqProofs [F_check_bits, b_check_bits, s_is_poly hp (by omega) h1, er, show (1 : Int) ≤ r by omega, show (r : Int) ≤ 32 by omega, s_need_bits hb lb (show (0 : Int) ≤ bits.length by omega) (show (bits.length : Int) ≤ 200000 by omega)]
  rw [← List.map_reverse]
  have hrev := rev_bits hp
  generalize hL : forL _ _ _ _ = res
  obtain ⟨v, hv, rfl⟩ := forL_1 (fun (s : Int) v => [.d (tI p), .d (tI bits), v, .e, .d (.int r), .d (.int 0), .d (.int s)]) (fun s b => 2 * s + b) 0 hL fr_e (fun pre i post v e hv => by
    simp -implicitDefEqProofs [st_fr hv]
    exact ⟨_, fr_d _, rfl⟩)
  clear hL
  rw [show p.reverse.foldl (fun s b => 2 * s + b) 0 = numB p.reverse from rfl]
  simp -implicitDefEqProofs [s_raised 2 r (by omega) (by decide), repD_rep, show bits.length + r ≤ 16777216 by omega, show (r : Int) < 9223372036854775808 by omega, show -9223372036854775808 ≤ (r : Int) by omega, show r ≤ 16777216 by omega]
  rw [← List.map_replicate, ← List.map_append]
  generalize hL : forL _ _ _ _ = res
  obtain ⟨v, hv, rfl⟩ := forL_1 (fun (s : Int) v => [.d (tI p), .d (tI bits), v, .d (.int (2 ^ r)), .d (.int r), .d (.int s), .d (.int (numB p.reverse))]) (crcS r (numB p.reverse)) 0 hL hv (fun pre b post v e hv => by
    generalize List.foldl (crcS r (numB p.reverse)) 0 pre = s
    by_cases h : 2 ^ r ≤ 2 * s + b
    · simp -implicitDefEqProofs [st_fr hv, h, crcS]
      exact ⟨_, fr_d _, rfl⟩
    · simp -implicitDefEqProofs [st_fr hv, h, crcS]
      exact ⟨_, fr_d _, rfl⟩)
  clear hL
  have hh : p.reverse.head? = some 1 := by rw [List.head?_reverse]; exact h1
  have reg := regL_ok (high := p.reverse) (r := r) hrev (by rw [List.length_reverse, hr]) hh (bits ++ List.replicate r 0) (List.replicate r 0) (rep_bits r) (by simp) (IsB.app.mpr ⟨hb, rep_bits r⟩)
  rw [numB_rep] at reg
  have r3 : (bits ++ List.replicate r 0).foldl (crcS r (numB p.reverse)) 0 = numB (regL p.reverse (List.replicate r 0) (bits ++ List.replicate r 0)) := reg.2.2
  rw [r3]
  have ec : regL p.reverse (List.replicate r 0) (bits ++ List.replicate r 0) = crcL p bits := by
    unfold crcL
    rw [hr]
    rfl
  rw [ec] at reg ⊢
  have nb := numB_lt reg.1
  rw [reg.2.1] at nb
  have bb := bitsB_numB reg.1
  rw [reg.2.1] at bb
  simp -implicitDefEqProofs [s_bits_of (show r ≤ 64 by omega) nb.1 nb.2, bb]
theorem crcL_ok {p bits : List Int} (hp : IsB p) (l1 : 2 ≤ p.length) (h1 : p.getLast? = some 1) (hb : IsB bits) : IsB (crcL p bits) ∧ (crcL p bits).length = p.length - 1 := by
  have hh : p.reverse.head? = some 1 := by rw [List.head?_reverse]; exact h1
  have reg := regL_ok (high := p.reverse) (r := p.length - 1) (rev_bits hp) (by rw [List.length_reverse]; omega) hh (bits ++ List.replicate (p.length - 1) 0) (List.replicate (p.length - 1) 0) (rep_bits _) (by simp) (IsB.app.mpr ⟨hb, rep_bits _⟩)
  exact ⟨reg.1, reg.2.1⟩
end FL
end

section
set_option maxHeartbeats 4000000
namespace G0
open PySem PySem.Spec L2 PV FL
open PyProof.Rows hiding St
theorem rgL_mul (s : Int) (n : Nat) : rgL 0 s n = (List.range n).map fun i : Nat => D.int ((i : Int) * s) := by
  have key : ∀ (m : Nat) (a : Int), rgL a s m = (List.range m).map fun i : Nat => D.int (a + (i : Int) * s) := by
    intro m
    induction m with
    | zero => intro a; rfl
    | succ m ih =>
      intro a
      rw [rgL, ih, List.range_succ_eq_map]
      simp only [List.map_cons, List.map_map]
      congr 1
      · simp
      · refine List.map_congr_left fun i _ => ?_
        show D.int (a + s + (i : Int) * s) = D.int (a + ((i + 1 : Nat) : Int) * s)
        rw [Int.natCast_succ, Int.add_mul, Int.one_mul]; congr 1; omega
  rw [key]
  refine List.map_congr_left fun i hi => ?_
  congr 1; omega
theorem cut_mid (ys : List Int) (a b : Nat) (h : b ≤ ys.length) (hab : a ≤ b) : PV.cutD (ys.map D.int) (some (a : Int)) (some (b : Int)) = ((ys.drop a).take (b - a)).map .int := by
  unfold PV.cutD
  rw [HT.sIx_nat, HT.sIx_nat, List.length_map, Nat.min_eq_left h, Nat.min_eq_left (by omega), List.map_take, List.map_drop]
theorem sizes8 : ∀ L : Nat, L < 400 → (Builtin.Range.rangeSize 0 (L : Int) 8).toNat = (L + 7) / 8 ∧ Builtin.Range.small 0 (L : Int) 8 = true := by decide +kernel
/-- bits with what lacks at the end -/
def fullB (xs : List Int) : List Int := xs ++ List.replicate (8 * nOc xs - xs.length) 0
theorem nOc_ge (xs : List Int) : xs.length ≤ 8 * nOc xs := by unfold nOc; omega
theorem fullB_len (xs : List Int) : (fullB xs).length = 8 * nOc xs := by have := nOc_ge xs; simp [fullB]; omega
theorem fullB_cut (xs : List Int) (i : Nat) (hi : i < nOc xs) : ((fullB xs).drop (8 * i)).take 8 = chk xs i := by
  have hl := fullB_len xs
  refine List.ext_getElem (by simp [hl, chk]; omega) fun k h1 h2 => ?_
  have hk : k < 8 := by simpa [chk] using h2
  simp only [List.getElem_take, List.getElem_drop, chk, List.getElem_map, List.getElem_range]
  unfold fullB
  rw [List.getElem_append]
  split
  · rename_i h; rw [co_ltq h]
  · rename_i h; rw [List.getElem_replicate, co_geq (by omega)]
theorem s_octets_of {xs : List Int} (hb : IsB xs) (hl : xs.length ≤ 60) : F_octets_of [ar (tI xs)] = .ok (tI (ocL xs)) false [] := by
  have hn := nOc_ge xs
  have hn2 : 8 * nOc xs ≤ xs.length + 7 := by unfold nOc; omega
  obtain ⟨m, hm⟩ : ∃ m : Nat, m = 8 * nOc xs - xs.length := ⟨_, rfl⟩
  have e1 : (-(xs.length : Int)) % 8 = (m : Int) := by omega
  have g1 : (m : Int) < 9223372036854775808 := by omega
  have g2 : (-9223372036854775808 : Int) ≤ (m : Int) := by omega
  have g3 : m ≤ 16777216 := by omega
  have g4 : xs.length + m ≤ 16777216 := by omega
  have e2 : List.map D.int xs ++ List.replicate m (D.int 0) = (fullB xs).map D.int := by simp [fullB, hm]
  have hf := fullB_len xs
  obtain ⟨sz1, sz2⟩ := sizes8 (fullB xs).length (by omega)
  rw [show ((fullB xs).length + 7) / 8 = nOc xs by omega] at sz1
  simp -implicitDefEqProofs [F_octets_of, b_octets_of, s_need_bits hb (show xs.length ≤ 200000 by omega) (show (0 : Int) ≤ xs.length by omega) (show (xs.length : Int) ≤ 200000 by omega), e1, g1, g2, g3, g4, repD_rep, e2, sz1, sz2, rgL_mul, -List.map_append, -List.map_replicate]
  generalize hL : walkL _ _ _ _ _ = r
  obtain rfl := walkL_m (fun i : Nat => D.int (numB (chk xs i))) hL (fun pre x post e acc ha => by
    have hx : x < nOc xs := by
      have : x ∈ List.range (nOc xs) := by rw [e]; simp
      simpa using this
    have : acc.length < sizeLine := by rw [ha]; have := congrArg List.length e; simp at this; unfold sizeLine; omega
    have e1 : (x : Int) * 8 = ((8 * x : Nat) : Int) := by omega
    have e2 : (x : Int) * 8 + 8 = ((8 * x + 8 : Nat) : Int) := by omega
    have hc : PV.cutD ((fullB xs).map D.int) (some ((x : Int) * 8)) (some ((x : Int) * 8 + 8)) = (chk xs x).map .int := by
      rw [e2, e1, cut_mid _ _ _ (by omega) (by omega), Nat.add_sub_cancel_left, fullB_cut xs x hx]
    simp -implicitDefEqProofs [this, hc, s_number_of (chk_b hb x) (by rw [chk_len]; omega)]
    exact ⟨_, rfl, rfl, rfl⟩)
  have e3 : (List.range (nOc xs)).map (fun i => D.int (numB (chk xs i))) = (ocL xs).map D.int := by simp [ocL]
  rw [e3]
  simp -implicitDefEqProofs
theorem s_ones {xs : List Int} (hb : IsB xs) (hl : xs.length ≤ 200) : F_ones [ar (tI xs)] = .ok (.int xs.sum) false [] := by
  simp -implicitDefEqProofs [F_ones, b_ones, s_need_bits hb (show xs.length ≤ 200000 by omega) (show (0 : Int) ≤ xs.length by omega) (show (xs.length : Int) ≤ 200000 by omega), intsD_map]
theorem cut_to (ys : List Int) (b : Nat) : PV.cutD (ys.map D.int) none (some (b : Int)) = (ys.take b).map .int := by
  unfold PV.cutD
  rw [HT.sIx_nat, HT.sIx_none, List.length_map, List.drop_zero, Nat.sub_zero, ← List.map_take]
  congr 1
  by_cases h : b ≤ ys.length
  · rw [Nat.min_eq_left h]
  · rw [Nat.min_eq_right (by omega), List.take_length, List.take_of_length_le (by omega)]
theorem cut_from (ys : List Int) (a : Nat) : PV.cutD (ys.map D.int) (some (a : Int)) none = (ys.drop a).map .int := by
  unfold PV.cutD
  rw [HT.sIx_nat, HT.sIx_none, List.length_map, ← List.map_drop, ← List.map_take]
  congr 1
  by_cases h : a ≤ ys.length
  · rw [Nat.min_eq_left h, List.take_of_length_le (by simp)]
  · rw [Nat.min_eq_right (by omega), List.drop_length, List.drop_eq_nil_of_le (by omega)]; simp
theorem s_is_beginning {a b : List Int} (ha : IsB a) (hb : IsB b) (la : a.length ≤ 200) (lb : b.length ≤ 200) : F_is_beginning [ar (tI a), ar (tI b)] = .ok (.bl (decide (b.take a.length = a))) false [] := by
  simp -implicitDefEqProofs [F_is_beginning, b_is_beginning, s_need_bits ha (show a.length ≤ 200000 by omega) (show (0 : Int) ≤ a.length by omega) (show (a.length : Int) ≤ 200000 by omega), s_need_bits hb (show b.length ≤ 200000 by omega) (show (0 : Int) ≤ b.length by omega) (show (b.length : Int) ≤ 200000 by omega), cut_to, eqD_tI, -List.map_take]
theorem s_shared_beginning {a b : List Int} (ha : IsB a) (hb : IsB b) (la : a.length ≤ 200) (lb : b.length ≤ 200) : F_shared_beginning [ar (tI a), ar (tI b)] = .ok (tI (cpL a b)) false [] := by
  simp -implicitDefEqProofs [F_shared_beginning, b_shared_beginning, s_need_bits ha (show a.length ≤ 200000 by omega) (show (0 : Int) ≤ a.length by omega) (show (a.length : Int) ≤ 200000 by omega), s_need_bits hb (show b.length ≤ 200000 by omega) (show (0 : Int) ≤ b.length by omega) (show (b.length : Int) ≤ 200000 by omega)]
  generalize hL : whileW _ _ _ _ = r
  obtain ⟨ρ', rfl, k, rfl, h1, h2, h3, h4⟩ := while_R hL (fun (k : Nat) ρ => ρ = [Sl.d (tI a), .d (tI b), .d (.int (k : Int))] ∧ k ≤ a.length ∧ k ≤ b.length ∧ a.take k = b.take k) (fun k => a.length - k)
    (fun ρ => ∃ k : Nat, ρ = [Sl.d (tI a), .d (tI b), .d (.int (k : Int))] ∧ k ≤ a.length ∧ k ≤ b.length ∧ a.take k = b.take k ∧ (k = a.length ∨ k = b.length ∨ co a k ≠ co b k)) 0 (by omega) ⟨by simp, by omega, by omega, by simp⟩ (fun k ρ h => by
      obtain ⟨rfl, h1, h2, h3⟩ := h
      by_cases hk : k < a.length ∧ k < b.length
      · have hif : ((k : Int) < if b.length < a.length then (b.length : Int) else (a.length : Int)) = True := eq_true (by split <;> omega)
        by_cases he : co a k = co b k
        · simp -implicitDefEqProofs [atI_co hk.1, atI_co hk.2, he, hif]
          exact .inr ⟨k + 1, _, rfl, ⟨by simp, hk.1, hk.2, cpL_step a b k hk.1 hk.2 h3 he⟩, by dsimp only; omega⟩
        · simp -implicitDefEqProofs [atI_co hk.1, atI_co hk.2, he, hif]
          exact .inl ⟨_, rfl, k, rfl, h1, h2, h3, .inr (.inr he)⟩
      · have hif : ((k : Int) < if b.length < a.length then (b.length : Int) else (a.length : Int)) = False := eq_false (by split <;> omega)
        simp -implicitDefEqProofs [hif]
        exact .inl ⟨_, rfl, k, rfl, h1, h2, h3, by omega⟩)
  simp -implicitDefEqProofs [cut_to, -List.map_take]
  rw [cpL_at a b k h1 h2 h3 h4]
theorem s_law_bits (c : Int × Int) {m : Int} (h0 : 0 ≤ m) (h1 : m ≤ 1000) : ∃ xs c', IsB xs ∧ (xs.length : Int) ≤ m ∧ F__law_bits [(cupD c, true), ar (.int m)] = .ok (tI xs) false [.l (cupD c')] := by
  have hd : dOk (m + 1) := dOk_lt (by omega) (by omega)
  obtain ⟨n, hn⟩ : ∃ n : Nat, rv c (m + 1) = (n : Int) := ⟨(rv c (m + 1)).toNat, by have := rv_nn c (show 0 < m + 1 by omega); omega⟩
  have hlt := rv_lt c (show 0 < m + 1 by omega)
  refine ⟨rvs n (rc c (m + 1)) 2, rcs n (rc c (m + 1)) 2, rvs_bits _ _, by rw [rvs_len]; omega, ?_⟩
  simp -implicitDefEqProofs [F__law_bits, b__law_bits, s_roll c hd, hn, okRg_nat (show n < 2 ^ 62 by omega)]
  generalize hL : walkL _ _ _ _ _ = r
  obtain rfl := walk_rolls (fun c => [.l (cupD c), .d (.int m), .e]) 2 (rc c (m + 1)) hL (fun pre x post e acc s ha => by
    have : acc.length < sizeLine := by rw [ha]; have := congrArg List.length e; simp at this; unfold sizeLine; omega
    simp -implicitDefEqProofs [s_roll s (show dOk 2 from dOk_lt (by omega) (by omega)), this]
    exact ⟨_, rfl, rfl, rfl⟩)
  rw [List.length_range]
  simp -implicitDefEqProofs
theorem j_rS2a (tf : Nat) (b : D → M Unit) (s1 : M Src) (vs1 : List Nat) (st1 : List D → D → M (List D)) (acc : List D) (d : D) {ρ ρ1 ρ2 : Evm} {x : Unit} {sr : Src} (h1 : b d ρ = .ok x ρ1) (h2 : s1 ρ1 = .ok sr ρ2) : kStep2 tf b tYes' s1 vs1 st1 acc d ρ = walkAt tf sr vs1 st1 acc ρ2 := by
  have e : kStep2 tf b tYes' s1 vs1 st1 acc d ρ = bnd s1 (fun s => walkAt tf s vs1 st1 acc) ρ1 := by
    unfold kStep2
    conv => lhs; unfold bnd
    rw [h1]
    rfl
  rw [e]
  unfold bnd
  rw [h2]
theorem walkL_acc {vs : List Nat} {step : List D → D → M (List D)} {ρ : Evm} (h : ∀ (acc : List D) (x : D), ∃ ρ', acc.length < sizeLine → step acc x ρ = .ok (acc ++ [x]) ρ' ∧ wipeOk ρ' vs = true ∧ wipeD ρ' vs = ρ) : ∀ (xs acc : List D), acc.length + xs.length ≤ 1000 → walkL vs step xs acc ρ = .ok (acc ++ xs) ρ
  | [], acc, _ => by simp [walkL]
  | x :: xs, acc, hl => by
    obtain ⟨ρ', h1⟩ := h acc x
    obtain ⟨h1, h2, h3⟩ := h1 (by simp at hl; unfold sizeLine; omega)
    unfold walkL
    rw [h1]
    dsimp only
    rw [h2]
    dsimp only
    rw [h3, walkL_acc h xs (acc ++ [x]) (by simp at *; omega)]; simp
theorem pys_ints (xs : List Int) : D.pys (xs.map .int) = some (xs.map PyData.int) := by
  induction xs with
  | nil => simp [D.pys]
  | cons x xs ih => simp [D.pys, D.py, ih]
theorem inL_ints (i : Int) (xs : List Int) : inL (.int i) (xs.map .int) .tuple = some (decide (i ∈ xs)) := by
  have py : D.py (tI xs) = some (.tuple (xs.map PyData.int)) := by
    show D.py (.tup (xs.map .int)) = _
    simp [D.py, pys_ints]
  obtain ⟨p, h1, h2⟩ := (Pl.tI (n := 63) xs).dpt
  obtain ⟨q, h3, h4⟩ := (Pl.int (n := 64) i).dpt
  have e1 : p = .tuple (xs.map PyData.int) := by
    have h1' : D.py (tI xs) = some p := h1
    rw [py] at h1'; exact (Option.some.inj h1').symm
  have e2 : q = .int i := by
    simp [D.py] at h3; exact h3.symm
  subst e1 e2
  have hs : SeqAt.shaped (.tuple (xs.map PyData.int)) = true := by
    unfold D.dpt at h2
    rw [h1] at h2
    dsimp only at h2
    unfold gd at h2
    split at h2
    · assumption
    · cases h2
  unfold inL
  rw [h4, pys_ints]
  dsimp only
  rw [hs]
  have ha : (xs.map PyData.int).any (fun z => PyData.eqv z (.int i)) = decide (i ∈ xs) := by
    clear h1 h2 hs py
    induction xs with
    | nil => simp
    | cons x xs ih =>
      simp only [List.map_cons, List.any_cons, ih, PyData.eqv, List.mem_cons]
      by_cases h : i = x
      · subst h; simp
      · have h2 : ¬ x = i := fun q => h q.symm
        simp [h, h2]
  rw [ha]; rfl
theorem s_bits_in {xs : List Int} (hb : IsB xs) (hl : xs.length ≤ 60) : F_bits_in [ar (tI (ocL xs)), ar (.int xs.length)] = .ok (tI xs) false [] := by
  have hn := nOc_ge xs
  have hn2 : 8 * nOc xs ≤ xs.length + 7 := by unfold nOc; omega
  have hol := ocL_len xs
  have hg : ∀ i ∈ ocL xs, 0 ≤ i ∧ i ≤ 255 := fun i hi => by
    simp only [ocL, List.mem_map] at hi
    obtain ⟨k, _, rfl⟩ := hi
    exact chk_num hb k
  simp -implicitDefEqProofs [F_bits_in, b_bits_in, s_is_tuple_of, show ((ocL xs).length : Int) ≤ 25000 by omega]
  generalize hL : walkL _ _ _ _ _ = r
  obtain rfl := walkL_m (fun i => D.bl true) hL (fun pre x post e acc ha => by
    have hx := hg x (by rw [e]; simp)
    have : acc.length < sizeLine := by rw [ha]; have := congrArg List.length e; simp at this; unfold sizeLine; omega
    simp -implicitDefEqProofs [this, s_is_whole, hx.1, hx.2]
    exact ⟨_, rfl, rfl, rfl⟩)
  clear hL
  have ball : blsD ((ocL xs).map fun _ => D.bl true) = some ((ocL xs).map fun _ => true) := blsD_map (fun _ => true) (ocL xs)
  have nw : F_need_whole [(D.int xs.length, false), (D.int (if 7 < 8 * ((ocL xs).length : Int) then 8 * ((ocL xs).length : Int) - 7 else 0), false), (D.int (8 * ((ocL xs).length : Int)), false)] = .ok .non false [] :=
    s_need_whole (by split <;> omega) (by omega)
  simp -implicitDefEqProofs [ball, nw]
  generalize hL : walkL _ _ _ _ _ = r
  obtain ⟨acc, ρ', h1, h2, rfl⟩ := walkL_inv (vs := [3, 4]) (emb := D.int) (xs := ocL xs) (step := kStep2 TF (bN 3) tYes' (wLi (oE (kCallF F_bits_of 2 (oCons (oE (kVar 3)) (oCons (oE (kC (D.int 8))) oNil))))) [4] (kStep (bN 4) tYes' (kVar 4)))
    (fun pre acc ρ => acc = pre.flatMap (fun o => (bitsB o 8).map D.int) ∧ ρ = [Sl.d (tI (ocL xs)), Sl.d (D.int xs.length), Sl.e, Sl.e, Sl.e]) (fun pre x post acc ρ e hI => by
      obtain ⟨rfl, rfl⟩ := hI
      have hx := hg x (by rw [e]; simp)
      have sb := s_bits_of (i := x) (n := 8) (by omega) hx.1 (by omega)
      have sb' : F_bits_of [(D.int x, false), (D.int 8, false)] = .ok (tI (bitsB x 8)) false [] := sb
      have hacc : (pre.flatMap fun o => (bitsB o 8).map D.int).length ≤ 8 * (ocL xs).length := by
        have hp := congrArg List.length e
        have : ∀ l : List Int, (l.flatMap fun o => (bitsB o 8).map D.int).length = 8 * l.length := fun l => by
          induction l with
          | nil => rfl
          | cons y ys ih => simp only [List.flatMap_cons, List.length_append, ih, List.length_map, bitsB_len, List.length_cons]; omega
        rw [this]
        simp at hp; omega
      have k1 : bN 3 (D.int x) [Sl.d (tI (ocL xs)), Sl.d (D.int xs.length), Sl.e, Sl.e, Sl.e] = .ok () [Sl.d (tI (ocL xs)), Sl.d (D.int xs.length), Sl.e, Sl.d (D.int x), Sl.e] := by rfl
      have k2 : wLi (oE (kCallF F_bits_of 2 (oCons (oE (kVar 3)) (oCons (oE (kC (D.int 8))) oNil)))) [Sl.d (tI (ocL xs)), Sl.d (D.int xs.length), Sl.e, Sl.d (D.int x), Sl.e] = .ok (.li (.vl (tI (bitsB x 8)))) [Sl.d (tI (ocL xs)), Sl.d (D.int xs.length), Sl.e, Sl.d (D.int x), Sl.e] := by
        simp -implicitDefEqProofs [sb']
      rw [j_rS2a TF _ _ _ _ _ _ k1 k2, walkAt_LA (fx_tup _) TF_pos _ _ rfl, walkL_acc (fun acc y => by
        refine ⟨[Sl.d (tI (ocL xs)), Sl.d (D.int xs.length), Sl.e, Sl.d (D.int x), Sl.d y], fun hz => ⟨?_, rfl, rfl⟩⟩
        show kStep (bN 4) tYes' (kVar 4) acc y [Sl.d (tI (ocL xs)), Sl.d (D.int xs.length), Sl.e, Sl.d (D.int x), Sl.e] = _
        simp -implicitDefEqProofs [hz]) _ _ (by rw [List.length_map, bitsB_len]; omega)]
      exact ⟨_, _, rfl, rfl, by simp, rfl⟩) (ρ := [Sl.d (tI (ocL xs)), Sl.d (D.int xs.length), Sl.e, Sl.e, Sl.e]) ⟨rfl, rfl⟩
  rw [h1] at hL
  subst hL
  have ef : (ocL xs).flatMap (fun o => (bitsB o 8).map D.int) = ((List.range (8 * nOc xs)).map (co xs)).map D.int := by
    rw [← flat_chk, List.map_flatMap, ocL, List.flatMap_map]
    congr 1
    funext k
    rw [chk_bits hb k]
  rw [ef] at h2
  subst h2
  have c1 := cut_from ((List.range (8 * nOc xs)).map (co xs)) xs.length
  have c2 := cut_to ((List.range (8 * nOc xs)).map (co xs)) xs.length
  rw [take_all xs hn] at c2
  have hz := drop_zero xs (8 * nOc xs)
  have hz1 : ¬ (1 : Int) ∈ ((List.range (8 * nOc xs)).map (co xs)).drop xs.length := fun h => by have := hz 1 h; omega
  generalize (List.range (8 * nOc xs)).map (co xs) = padded at *
  simp -implicitDefEqProofs [c1, c2, inL_ints, hz1, -List.map_drop]
def Ro (xs : List Int) (k : Nat) (ρ : Evm) : Prop := ∃ v w y, fr v ∧ fr w ∧ fr y ∧ ρ = [Sl.d (tI xs), .o (.lst (((List.range k).map fun i => numB (chk xs i)).map .int)), v, w, y]
def Ri (xs : List Int) (k : Nat) (fd : D) (t : Nat) (ρ : Evm) : Prop := ∃ y, fr y ∧ ρ = [Sl.d (tI xs), .o fd, .d (.int ((k : Int) * 8)), .d (.int (numB ((List.range t).map fun u => co xs (8 * k + u)))), y]
theorem s_law_octets {xs : List Int} (hb : IsB xs) (hl : xs.length ≤ 60) : F__law_octets [ar (tI xs)] = .ok (tI (ocL xs)) false [] := by
  obtain ⟨sz1, sz2⟩ := sizes8 xs.length (by omega)
  rw [show (xs.length + 7) / 8 = nOc xs from rfl] at sz1
  have ok8 : okRg 8 = true := by decide
  simp -implicitDefEqProofs [F__law_octets, b__law_octets, sz1, sz2, rgL_mul]
  generalize hL : forL _ _ _ _ = r
  obtain ⟨ρ, rfl, v, w, y, hv, hw, hy, rfl⟩ := forL_N hL (Ro xs) (n := nOc xs) (el := fun i => D.int ((i : Int) * 8)) rfl ⟨.e, .e, .e, fr_e, fr_e, fr_e, rfl⟩ (fun k ρ hk => by
    rintro ⟨v, w, y, hv, hw, hy, rfl⟩
    simp -implicitDefEqProofs [st_fr hv, st_fr hw, ok8]
    generalize hL : forL _ _ _ _ = r
    obtain ⟨ρ, rfl, y, hy, rfl⟩ := forL_N hL (Ri xs k (.lst (((List.range k).map fun i => numB (chk xs i)).map .int))) (n := 8) (el := fun i => D.int (i : Int)) rfl ⟨y, hy, by simp; rfl⟩ (fun t ρ ht => by
      rintro ⟨y, hy, rfl⟩
      have hs : numB ((List.range (t + 1)).map fun u => co xs (8 * k + u)) = numB ((List.range t).map fun u => co xs (8 * k + u)) * 2 + co xs (8 * k + t) := by
        rw [List.range_succ, List.map_append, List.map_singleton, numB_snoc]; omega
      by_cases hlt : 8 * k + t < xs.length
      · have hif : ((k : Int) * 8 + (t : Int) < (xs.length : Int)) = True := eq_true (by omega)
        have hat : atI (xs.map D.int) ((k : Int) * 8 + (t : Int)) = some (.int (co xs (8 * k + t))) := by
          rw [show (k : Int) * 8 + (t : Int) = ((8 * k + t : Nat) : Int) by omega]; exact atI_co hlt
        simp -implicitDefEqProofs [st_fr hy, hif, hat]
        exact ⟨_, rfl, .d (.int (t : Int)), fr_d _, by rw [hs]⟩
      · have hif : ((k : Int) * 8 + (t : Int) < (xs.length : Int)) = False := eq_false (by omega)
        have hz : co xs (8 * k + t) = 0 := co_geq (by omega)
        simp -implicitDefEqProofs [st_fr hy, hif]
        exact ⟨_, rfl, .d (.int (t : Int)), fr_d _, by rw [hs, hz]; simp⟩)
    have hn2 : 8 * nOc xs ≤ xs.length + 7 := by unfold nOc; omega
    have g1 : k + 1 ≤ 16777216 := by omega
    simp -implicitDefEqProofs [g1]
    refine ⟨_, rfl, .d (.int ((k : Int) * 8)), .d (.int (numB ((List.range 8).map fun u => co xs (8 * k + u)))), y, fr_d _, fr_d _, hy, ?_⟩
    rw [List.range_succ (n := k)]
    simp [chk])
  simp -implicitDefEqProofs [ocL]
/-- a turn of a loop that may end -/
def TnB (R Q : Evm → Prop) (r : Res Flow') : Prop := (∃ ρ, r = .ok .ct ρ ∧ R ρ) ∨ ∃ ρ, r = .ok .nx ρ ∧ Q ρ
theorem forL_NB {bd : D → M Unit} {body : M Flow'} {r : Res Flow'} {ρ0 : Evm} {n : Nat} {el : Nat → D} {L : List D} (e : forL bd body L ρ0 = r) (R : Nat → Evm → Prop) (Q : Evm → Prop) (hL : L = (List.range n).map el) (h0 : R 0 ρ0)
    (h : ∀ i ρ, i < n → R i ρ → TnB (R (i + 1)) Q (rLo1 (bd (el i) ρ) body kGo)) : ∃ ρ, r = .ok .nx ρ ∧ (R n ρ ∨ Q ρ) := by
  have key : ∀ (m i : Nat) (ρ : Evm), i + m = n → R i ρ → ∃ ρ', forL bd body ((List.range' i m).map el) ρ = .ok .nx ρ' ∧ (R n ρ' ∨ Q ρ') := by
    intro m
    induction m with
    | zero => intro i ρ e hi; rw [Nat.add_zero] at e; subst e; exact ⟨ρ, rfl, .inl hi⟩
    | succ m ih =>
      intro i ρ e hi
      have ht := h i ρ (by omega) hi
      rw [List.range'_succ, List.map_cons, j_forL1]
      revert ht
      unfold rLo1
      cases bd (el i) ρ with
      | ok a ρ2 =>
        dsimp only
        unfold rLo2
        cases body ρ2 with
        | ok fl ρ3 =>
          cases fl with
          | nx =>
            rintro (⟨ρ4, e4, h4⟩ | ⟨ρ4, e4, h4⟩)
            · cases e4; exact ih (i + 1) _ (by omega) h4
            · cases e4
          | ct =>
            rintro (⟨ρ4, e4, h4⟩ | ⟨ρ4, e4, h4⟩)
            · cases e4; exact ih (i + 1) _ (by omega) h4
            · cases e4
          | bk =>
            rintro (⟨ρ4, e4, h4⟩ | ⟨ρ4, e4, h4⟩)
            · cases e4
            · cases e4; exact ⟨_, rfl, .inr h4⟩
          | rt d u =>
            rintro (⟨ρ4, e4, h4⟩ | ⟨ρ4, e4, h4⟩) <;> cases e4
        | exc e ρ3 => rintro (⟨ρ4, e4, h4⟩ | ⟨ρ4, e4, h4⟩) <;> cases e4
        | stk => rintro (⟨ρ4, e4, h4⟩ | ⟨ρ4, e4, h4⟩) <;> cases e4
      | exc e ρ2 => rintro (⟨ρ4, e4, h4⟩ | ⟨ρ4, e4, h4⟩) <;> cases e4
      | stk => rintro (⟨ρ4, e4, h4⟩ | ⟨ρ4, e4, h4⟩) <;> cases e4
  rw [← e, hL, List.range_eq_range']
  exact key n 0 ρ0 (by omega) h0
theorem zip_N (a b : List Int) : zpL (a.map .int) (b.map .int) = (List.range (min a.length b.length)).map fun i : Nat => D.tup [.int (co a i), .int (co b i)] := by
  rw [zpL_ints]
  refine List.ext_getElem (by simp) fun k h1 h2 => ?_
  have hk : k < min a.length b.length := by simpa using h2
  simp only [List.getElem_map, List.getElem_zip, List.getElem_range]
  rw [co_ltq (by omega), co_ltq (by omega)]
theorem j_forZU (xs ys : List D) (bd : D → M Unit) (body : M Flow') (ρ : Evm) : forAt TF (.zp (.vl (.tup xs)) (.vl (.tup ys))) bd body ρ = forL bd body (zpL xs ys) ρ := forAt_L (fx_zpTU xs ys) TF_pos ρ
def Rs (a b : List Int) (i : Nat) (ρ : Evm) : Prop := ∃ v w, fr v ∧ fr w ∧ ρ = [Sl.d (tI a), .d (tI b), .o (.lst ((a.take i).map .int)), v, w] ∧ a.take i = b.take i
def Qs (a b : List Int) (ρ : Evm) : Prop := ∃ v w, fr v ∧ fr w ∧ ρ = [Sl.d (tI a), .d (tI b), .o (.lst ((cpL a b).map .int)), v, w]
theorem s_law_shared {a b : List Int} (la : a.length ≤ 200) (lb : b.length ≤ 200) : F__law_shared [ar (tI a), ar (tI b)] = .ok (tI (cpL a b)) false [] := by
  simp -implicitDefEqProofs [F__law_shared, b__law_shared, j_forZU, zip_N]
  generalize hL : forL _ _ _ _ = r
  obtain ⟨ρ, rfl, h⟩ := forL_NB hL (Rs a b) (Qs a b) (n := min a.length b.length) (el := fun i => D.tup [.int (co a i), .int (co b i)]) rfl ⟨.e, .e, fr_e, fr_e, by simp, by simp⟩ (fun i ρ hi => by
    rintro ⟨v, w, hv, hw, rfl, ht⟩
    by_cases he : co a i = co b i
    · have g1 : min i a.length ≤ 16777215 := by omega
      have hta : (a.take i).map D.int ++ [.int (co b i)] = (a.take (i + 1)).map .int := by
        rw [List.take_succ_eq_append_getElem (show i < a.length by omega), List.map_append, ← he, co_ltq (show i < a.length by omega)]; rfl
      simp -implicitDefEqProofs [st_fr hv, st_fr hw, he, g1, hta, -List.map_take]
      exact .inl ⟨_, rfl, _, _, fr_d _, fr_d _, rfl, cpL_step a b i (by omega) (by omega) ht he⟩
    · simp -implicitDefEqProofs [st_fr hv, st_fr hw, he, -List.map_take]
      exact .inr ⟨_, rfl, _, _, fr_d _, fr_d _, by rw [← cpL_at a b i (by omega) (by omega) ht (.inr (.inr he))]⟩)
  have hf : ∃ v w, ρ = [Sl.d (tI a), .d (tI b), .o (.lst ((cpL a b).map .int)), v, w] := by
    rcases h with ⟨v, w, _, _, rfl, ht⟩ | ⟨v, w, _, _, rfl⟩
    · exact ⟨v, w, by rw [cpL_at a b _ (by omega) (by omega) ht (by omega)]⟩
    · exact ⟨v, w, rfl⟩
  obtain ⟨v, w, rfl⟩ := hf
  simp -implicitDefEqProofs
theorem s_cup (ns : List Int) (hl : ns.length ≤ 63) : CupR (F__law_cup [ar (.scr (ns.map .int))]) := by
  have h1 : (10 : Int) ^ 18 = 1000000000000000000 := by decide
  cases ns with
  | nil => exact ⟨(0, 5946), by kernel_rfl⟩
  | cons x ns =>
    simp -implicitDefEqProofs [F__law_cup, b__law_cup, show ns.length + 1 + 1 ≤ 16777216 by simp at hl; omega, powOk, h1]
    generalize (if x < 0 then -x else x) = v
    by_cases h : (1000000000000000000 : Int) ≤ v
    · simp -implicitDefEqProofs [h]
      exact ⟨(_, _), rfl⟩
    · simp -implicitDefEqProofs [h]
      exact ⟨(_, _), rfl⟩
def gD (s : Sl) : D := match s with
  | .d x => x
  | _ => .non
theorem s_some3 (c : Int × Int) : ∃ m : Int, 0 ≤ m ∧ m ≤ 40 ∧ F__law_some [(cupD c, true), ar (.lst [.int 0, .int 9, .int 40])] = .ok (.int m) false [.l (cupD (rc c 3))] := by
  have h0 := rv_nn c (show (0 : Int) < 3 by omega)
  have h1 := rv_lt c (show (0 : Int) < 3 by omega)
  have hr : rv c 3 = 0 ∨ rv c 3 = 1 ∨ rv c 3 = 2 := by omega
  have s := s_roll c (m := 3) (dOk_lt (by omega) (by omega))
  rcases hr with h | h | h
  · exact ⟨0, by omega, by omega, by simp -implicitDefEqProofs [F__law_some, b__law_some, s, h]⟩
  · exact ⟨9, by omega, by omega, by simp -implicitDefEqProofs [F__law_some, b__law_some, s, h]⟩
  · exact ⟨40, by omega, by omega, by simp -implicitDefEqProofs [F__law_some, b__law_some, s, h]⟩
def r1 (s c a b w bd o m : Sl) : Evm := [s, c, a, b, w, bd, .e, o, m, .e, .e, .e, .e, .e]
noncomputable def pre1 (z : Nat → CallO) (n : Nat) (k : M Flow') : M Flow' :=
  (sq (b_law_1 TF F_octets_of F_bits_in F_is_beginning)
  (sq (b_law_2 TF F_is_beginning F_shared_beginning F_ones)
  (sq (b_law_3 TF F_octets_of F_is_bits)
  (sq (b_law_4 TF)
  (sq (b_law_5 TF (F__law_like z n)) k)))))
theorem pre1_ok (z : Nat → CallO) (n : Nat) (x y : Sl) : ∃ a b, ∀ k, pre1 z (n + 5) k (r1 x y .e .e .e .e .e .e) = k (r1 x y (.d a) b .e .e .e .e) :=
  ⟨gD (gS 2 (pre1 z (n + 5) kNx (r1 x y .e .e .e .e .e .e))), gS 3 (pre1 z (n + 5) kNx (r1 x y .e .e .e .e .e .e)), fun k => by kernel_rfl⟩
noncomputable def pre2 (z : Nat → CallO) (n : Nat) (k : M Flow') : M Flow' :=
  (sq (b_law_6 TF (z n) F_bits_in)
  (sq (b_law_7 TF (z n) F_bits_in)
  (sq (b_law_8 TF (z n) F_bits_in)
  (sq (b_law_9 TF (z n) F_octets_of F_is_beginning F_shared_beginning F_ones)
  (sq (b_law_10 TF) k)))))
theorem pre2_ok (z : Nat → CallO) (n : Nat) (x y a b : Sl) : ∀ k, pre2 z (n + 5) k (r1 x y a b .e .e .e .e) = k (r1 x y a b (.o (.lst ([.str "number"] ++ List.replicate 5 (.str "octets") ++ List.replicate 4 (.str "number") ++ List.replicate 12 (.str "bits")))) (.d .non) (.d (.tup [.int 0])) (.d .non)) := fun k => by kernel_rfl
/-- the names between turns -/
def Rt (x a b w bd : Sl) (i : Nat) (ρ : Evm) : Prop := ∃ (c : Int × Int) (t o m bs ot sh : Sl), fr t ∧ fr o ∧ fr m ∧ fr bs ∧ fr ot ∧ fr sh ∧ ρ = [x, .o (cupD c), a, b, w, bd, t, o, m, bs, ot, sh, .e, .e]
theorem s11 (z : Nat → CallO) (n : Nat) (x a b w bd : Sl) {ρ : Evm} (h : Rt x a b w bd 0 ρ) : ∃ ρ1, b_law_11 TF F_octets_of F_bits_in F_is_beginning (F__law_like z (n + 5)) F__law_bits F__law_octets F__law_shared F_shared_beginning F_ones F__law_some F__law_roll ρ = .ok .nx ρ1 := by
  have ok16 : okRg 16 = true := by decide
  obtain ⟨c, t, o, m, bs, ot, sh, ht, ho, hm, hbs, hot, hsh, rfl⟩ := id h
  simp -implicitDefEqProofs [b_law_11, ok16]
  generalize hL : forL _ _ _ _ = r
  obtain ⟨ρ1, rfl, h1⟩ := forL_N hL (Rt x a b w bd) (n := 16) (el := fun i => D.int (i : Int)) rfl h (fun i ρ hi => by
    clear hL
    rintro ⟨c, t, o, m, bs, ot, sh, ht, ho, hm, hbs, hot, hsh, rfl⟩
    obtain ⟨k, k0, k1, hs⟩ := s_some3 c
    obtain ⟨xs, c1, xb, xl, hx⟩ := s_law_bits (rc c 3) k0 (by omega)
    have f1 := s_law_octets xb (by omega)
    have f2 := s_octets_of xb (by omega)
    have f3 := s_bits_in xb (by omega)
    have f4 := s_ones xb (by omega)
    have on : (xs.flatMap fun x => if x = 1 then [D.int 1] else []).length = (xs.filter fun x => decide (x = 1)).length := by
      clear f1 f2 f3 f4 hx xl xb
      induction xs with
      | nil => rfl
      | cons y ys ih => simp only [List.flatMap_cons, List.length_append, ih, List.filter_cons]; split <;> simp_all <;> omega
    have so := sum_ones xb
    have no : nOc xs ≤ 10 := by unfold nOc; omega
    have lk := s_like_refl z (k := 2) (n := n + 5) (d := .lst [tI (ocL xs), tI xs, .int xs.sum]) (.lst (by rw [sizeLine_eq]; simp) fun y hy => by
      simp at hy
      rcases hy with rfl | rfl | rfl
      · exact Ps.tI (by rw [ocL_len, sizeLine_eq]; omega)
      · exact Ps.tI (by rw [sizeLine_eq]; omega)
      · exact .int _) (by omega) (by omega)
    obtain ⟨q, hq⟩ : ∃ q : Nat, rv c1 ((xs.length : Int) + 1) = (q : Int) := ⟨(rv c1 ((xs.length : Int) + 1)).toNat, by have := rv_nn c1 (show 0 < (xs.length : Int) + 1 by omega); omega⟩
    have ro := s_roll c1 (m := (xs.length : Int) + 1) (dOk_lt (by omega) (by omega))
    rw [hq] at ro
    obtain ⟨ys, c2, yb, yl, hy⟩ := s_law_bits (rc c1 ((xs.length : Int) + 1)) (m := 5) (by omega) (by omega)
    simp -implicitDefEqProofs [st_fr ht, st_fr ho, st_fr hbs, st_fr hot, st_fr hsh, hs, hx, f1, f2, f3, f4]
    generalize hL : walkL _ _ _ _ _ = r
    obtain rfl := walkL_f (fun x : Int => if x = 1 then [D.int 1] else []) (fun x => by split <;> simp) hL (fun pre y post e acc ha => by
      have : acc.length < sizeLine := by have := congrArg List.length e; simp at this; unfold sizeLine; omega
      by_cases h1 : y = 1
      · simp -implicitDefEqProofs [this, h1]
        exact ⟨_, rfl, rfl, rfl⟩
      · simp -implicitDefEqProofs [this, h1]
        exact ⟨_, rfl, rfl, rfl⟩)
    clear hL
    rw [so] at lk
    have g1 : min q xs.length + ys.length ≤ 16777216 := by omega
    obtain ⟨other, hother⟩ : ∃ other, other = xs.take q ++ ys := ⟨_, rfl⟩
    have hcat : List.map D.int (List.take q xs) ++ List.map D.int ys = other.map D.int := by rw [hother, List.map_append]
    have ob : IsB other := by
      rw [hother]
      exact IsB.app.mpr ⟨fun b hb => xb b (List.mem_of_mem_take hb), yb⟩
    have ol : other.length ≤ 50 := by rw [hother]; simp; omega
    simp -implicitDefEqProofs [on, so, lk, ro, hy, cut_to, g1, hcat, st_fr hot, -List.map_take]
    clear hother hcat hy ro lk f1 f2 f3 f4
    have e1 := s_law_shared (a := xs) (b := other) (by omega) (by omega)
    have e2 := s_shared_beginning xb ob (by omega) (by omega)
    have e3 := s_is_beginning xb ob (by omega) (by omega)
    have cb := cpL_b other xb
    have cl := cpL_le xs other
    have e4 := s_is_beginning cb xb (by omega) (by omega)
    have e5 := s_is_beginning cb ob (by omega) (by omega)
    rw [cpL_take1, decide_eq_true rfl] at e4
    rw [cpL_take2, decide_eq_true rfl] at e5
    have hd : decide (cpL xs other = xs) = decide (other.take xs.length = xs) := by
      have := cpL_all xs other
      by_cases h : cpL xs other = xs
      · rw [decide_eq_true h, decide_eq_true (this.mp h)]
      · rw [decide_eq_false h, decide_eq_false fun q => h (this.mpr q)]
    have lk1 := s_like_refl z (k := 2) (n := n + 5) (Ps.lst2 (n := 1) (Ps.tI (xs := cpL xs other) (by rw [sizeLine_eq]; omega)) (.bl (decide (cpL xs other = xs)))) (by omega) (by omega)
    have lk2 := s_like_refl z (k := 2) (n := n + 5) (Ps.lst2 (n := 1) (.bl true) (.bl true)) (by omega) (by omega)
    rw [← hd] at e3
    simp -implicitDefEqProofs [e1, e2, e3, e4, e5, st_fr hsh, eqD_tI, lk1, lk2]
    exact ⟨_, rfl, c2, _, _, _, _, _, _, fr_d _, fr_d _, hm, fr_d _, fr_d _, fr_d _, rfl⟩)
  exact ⟨_, rfl⟩
theorem s_law (n : Nat) (ns : List Int) (hl : ns.length ≤ 63) : F_law ZZ (n + 6) [ar (.scr (ns.map .int))] = .ok (.bl true) false [] := by
  obtain ⟨c, hc⟩ := s_cup ns hl
  obtain ⟨a, b, h1⟩ := pre1_ok ZZ n (.d (.scr (ns.map .int))) (.o (cupD c))
  obtain ⟨ρ1, h14⟩ := s11 ZZ n (.d (.scr (ns.map .int))) (.d a) b (.o (.lst ([.str "number"] ++ List.replicate 5 (.str "octets") ++ List.replicate 4 (.str "number") ++ List.replicate 12 (.str "bits")))) (.d .non)
    (ρ := r1 (.d (.scr (ns.map .int))) (.o (cupD c)) (.d a) b (.o (.lst ([.str "number"] ++ List.replicate 5 (.str "octets") ++ List.replicate 4 (.str "number") ++ List.replicate 12 (.str "bits")))) (.d .non) (.d (.tup [.int 0])) (.d .non))
    ⟨c, .e, .d (.tup [.int 0]), .d .non, .e, .e, .e, fr_e, fr_d _, fr_d _, fr_e, fr_e, fr_e, rfl⟩
  have e : F_law ZZ (n + 6) [ar (.scr (ns.map .int))] = endC [ar (.scr (ns.map .int))] (sq (b_law_0 TF F__law_cup) (pre1 ZZ (n + 5) (pre2 ZZ (n + 5)
    (sq (b_law_11 TF F_octets_of F_bits_in F_is_beginning (F__law_like ZZ (n + 5)) F__law_bits F__law_octets F__law_shared F_shared_beginning F_ones F__law_some F__law_roll) (sq (b_law_12 TF) sNil)))) (r1 (.d (.scr (ns.map .int))) .e .e .e .e .e .e .e)) := by
    rw [F_law_s]
    rfl
  rw [e]
  have e0 : ∀ k, sq (b_law_0 TF F__law_cup) k (r1 (.d (.scr (ns.map .int))) .e .e .e .e .e .e .e) = k (r1 (.d (.scr (ns.map .int))) (.o (cupD c)) .e .e .e .e .e .e) := fun k => by
    simp -implicitDefEqProofs [b_law_0, hc, r1]
  have p2 := pre2_ok ZZ n (.d (.scr (ns.map .int))) (.o (cupD c)) (.d a) b
  rw [e0, h1 _, p2 _]
  clear p2 e0 h1 hc e
  simp -implicitDefEqProofs only [j_sq, j_rSq, h14]
  simp -implicitDefEqProofs [b_law_12]
end G0
end

section
set_option maxHeartbeats 0
namespace G0
open PySem PySem.Spec L2 PV FL
open PyProof.Rows hiding St
theorem law_eq (ns : List Int) (hl : ns.length ≤ 63) : callN gm TF (opsN 60) 11 "law" [(.scr (ns.map .int), false)] = .ok (.bl true) false [] := by
  have e : cl 11 "law" = _ := F_law_eq 6
  show cl 11 "law" _ = _
  rw [e]
  exact s_law _ ns hl
end G0
open PySem PySem.W PySem.Calls PyProof.Rows
theorem PySem.Challenge.cw_formsheld_k01_whole_octets_and_beginning_holds : PySem.Challenge.rw_formsheld_k01_whole_octets_and_beginning.Holds := by
  w_on; o_law
  refine HandSHeadRun.head_any (r := OpenLaw.row PySem.Challenge.rw_formsheld_k01_whole_octets_and_beginning) (q := view (OpenLaw.row PySem.Challenge.rw_formsheld_k01_whole_octets_and_beginning).prog [33]) (H := G0.hk) (ob := G0.ob) (M := 20000) (loose := G0.loose) (d := HandSHeadRun.topDef (OpenLaw.row PySem.Challenge.rw_formsheld_k01_whole_octets_and_beginning).prog 33) (kwd := []) G0.ob_eq
    (by kernel_rfl) (fun s => by kernel_rfl) G0.run (by kernel_rfl) (by kernel_rfl) (by kernel_rfl) (by rfl) (by first | assumption | decide +kernel) (by decide +kernel) ⟨rfl, rfl, rfl, rfl, rfl, by decide +kernel⟩ ?hw ?hc
  case hw => w_witness2
  case hc =>
    refine LamX.walk_ofTsE (l := PySem.Challenge.rw_formsheld_k01_whole_octets_and_beginning) (n := 63) (k := 3 * 11) (x := "script") (CX := fun w => L2N.CX (PySem.Challenge.rw_formsheld_k01_whole_octets_and_beginning).prog w) rfl (by decide) (by kernel_rfl) ⟨rfl, by decide, by decide⟩ ?F ?E
    case F =>
      intro w mg fa h Y G hmg0
      obtain ⟨K, KX, c⟩ := Y
      have hmg : mg ("law" : PySem.Str) = some (.ref fa) := by
        have e : (HandSHeadRun.topDef (OpenLaw.row PySem.Challenge.rw_formsheld_k01_whole_octets_and_beginning).prog 33).name = ("law" : PySem.Str) := by kernel_rfl
        rw [← e]
        exact hmg0
      exact ⟨K, KX, PV.law_at (f := G0.f_law) (law := "law") KX G c G0.stat G0.bp (PV.ok_opsN 60) (by kernel_rfl) rfl hmg (fun ns hl _ => G0.law_eq ns hl)⟩
    case E =>
      rintro w H s e s' ⟨_, _, _, _, _, _, _, _, _, _, _, _, z⟩
      exact z
end
